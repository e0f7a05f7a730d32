import PyProof.Rows.All
import Wide.All
import OpenK.AllK
import Wide.FinOn
import HandS.ForMost
import HandS.Exc
import HandS.CallSlots
import HandS.WordsExc
import HandS.Defaults
import HandS.IsInst
import HandS.Flow
import HandS.TupAny
import HandS.Style
import HandS.Conv
import HandS.Deep
import HandS.DeepEq
import HandS.Zip
import HandS.Rev
import HandS.Walk
import KE.KEqNest
import PyProof.NeKinds
import PyProof.ReprRoads
import HandS.ExcInit
import HandS.Ends
import HandS.HeadEnd
import HandS.Lambda
import HandS.More
import HandS.ExcIs
import HandS.ExcField
import HandS.ExcOwn
import KE.KExcIs
import HandS.HeadHook1
import HandS.Small
import KE.KStateDown
import HandS.Words
import HandS.Head0
import HandS.Head1
import HandS.Head2
import HandS.HeadHook2
import HandS.HeadHook3
import PyProof.ReprLen
import PyProof.FitsInt
import PySem.Challenge.RW_triesagain_k48_chances
section
set_option Elab.async false
set_option linter.all false
set_option maxRecDepth 100000
/-! Ev, part 1: pure data, stores, how the heap bears them. -/
namespace Ev
open PySem PySem.Spec PyProof.Rows L2

/-- pure data -/
inductive D where
  | non | bl (b : Bool) | int (i : Int) | str (x : List Nat)
  | tup (l : List D) | lst (l : List D) | dct (l : List (D × D))
  | ins (c : Nat) (fs : List (Nat × D))
/-- what a slot holds: data, or a cell that may be changed in place -/
inductive Val where
  | d (x : D) | ref (n : Nat)
inductive Cell where
  | lst (l : List D) | dct (l : List (D × D)) | fz (x : D)
abbrev Store := List Cell
abbrev Sig := List (Option Val)

/-- what the heap's description needs of the program: the written part, the classes' addresses, the fields' names -/
structure RC where
  K : PySem.W.Frag
  cl : Nat → Option Addr
  fn : Nat → Str
  ex : Nat → Bool

def kD : D → Option Key
  | .int i => some (.inl i)
  | .str x => some (.inr ⟨x.toArray⟩)
  | _ => none

/-- every object that F tells stands in G -/
def Sub (F G : Hp) : Prop := ∀ a o, F a = some o → G a = some o
/-- a caught exception's object: it stays as it is -/
def exHO (oe : Obj) : HO := .frz oe (.ext fun _ => True)
def ExAt (F : Hp) (a C : Addr) (d : Option Addr) : Prop := ∃ oe, F a = some (exHO oe) ∧ L2.Zc (.ref C) d oe ∧ ∃ vs, oe.data = .fields vs
theorem ExAt.mono {F G : Hp} {a C : Addr} {d : Option Addr} (s : Sub F G) (h : ExAt F a C d) : ExAt G a C d := let ⟨oe, h1, h2⟩ := h; ⟨oe, s _ _ h1, h2⟩
mutual
def Rep (R : RC) (F : Hp) : D → V → Prop
  | .non, v => v = .non
  | .bl b, v => v = .bl b
  | .int i, v => v = .int i
  | .str x, v => v = .str ⟨x.toArray⟩
  | .tup l, v => ∃ a xs, v = .ref a ∧ SqT R.K F a xs ∧ Reps R F l xs
  | .lst l, v => ∃ a xs, v = .ref a ∧ Rd F a (.lst xs) ∧ Reps R F l xs
  | .dct l, v => ∃ a kvs, v = .ref a ∧ F a = some (.dK kvs) ∧ RepK R F l kvs
  | .ins c fs, v => ∃ a C, v = .ref a ∧ R.cl c = some C ∧ ((R.ex c = false ∧ ∃ dx xs, F a = some (.ins C dx xs) ∧ F dx = some (.own a) ∧ RepF R F fs xs) ∨
      R.ex c = true ∧ ∃ d, ExAt F a C d ∧ ((fs = [] ∧ d = none) ∨ ∃ dx xs, d = some dx ∧ F dx = some (.xd xs) ∧ RepF R F fs xs))
termination_by structural x => x
def Reps (R : RC) (F : Hp) : List D → List V → Prop
  | [], vs => vs = []
  | x :: l, vs => ∃ v r, vs = v :: r ∧ Rep R F x v ∧ Reps R F l r
termination_by structural x => x
def RepK (R : RC) (F : Hp) : List (D × D) → List (Key × V) → Prop
  | [], vs => vs = []
  | (k, x) :: l, vs => ∃ q v r, vs = (q, v) :: r ∧ kD k = some q ∧ Rep R F x v ∧ RepK R F l r
termination_by structural x => x
def RepF (R : RC) (F : Hp) : List (Nat × D) → List (Str × V) → Prop
  | [], vs => vs = []
  | (k, x) :: l, vs => ∃ v r, vs = (R.fn k, v) :: r ∧ Rep R F x v ∧ RepF R F l r
termination_by structural x => x
end

theorem Sub.refl (F : Hp) : Sub F F := fun _ _ h => h
theorem Sub.trans {F G H : Hp} (a : Sub F G) (b : Sub G H) : Sub F H := fun x o h => b x o (a x o h)
theorem Sub.rd {F G : Hp} (s : Sub F G) {a : Addr} {u : HO} (h : Rd F a u) : Rd G a u := by
  rcases h with h | ⟨o, h⟩
  · exact .inl (s _ _ h)
  · exact .inr ⟨o, s _ _ h⟩
theorem Sub.sqT {K : PySem.W.Frag} {F G : Hp} (s : Sub F G) {a : Addr} {xs : List V} (h : SqT K F a xs) : SqT K G a xs := by
  rcases h with h | h
  · exact .inl (s.rd h)
  · exact .inr h
theorem Sub.sqL {K : PySem.W.Frag} {F G : Hp} (s : Sub F G) {a : Addr} {xs : List V} (h : SqL K F a xs) : SqL K G a xs := by
  rcases h with h | h
  · exact .inl (s.rd h)
  · exact .inr h
mutual
theorem Rep.mono {R : RC} {F G : Hp} (s : Sub F G) : ∀ {x : D} {v : V}, Rep R F x v → Rep R G x v
  | .non, _, h => h
  | .bl _, _, h => h
  | .int _, _, h => h
  | .str _, _, h => h
  | .tup l, _, ⟨a, xs, e, h, r⟩ => ⟨a, xs, e, s.sqT h, Reps.mono s r⟩
  | .lst l, _, ⟨a, xs, e, h, r⟩ => ⟨a, xs, e, s.rd h, Reps.mono s r⟩
  | .dct l, _, ⟨a, xs, e, h, r⟩ => ⟨a, xs, e, s _ _ h, RepK.mono s r⟩
  | .ins c fs, _, ⟨a, C, e, h, .inl ⟨h0, dx, xs, h1, h2, r⟩⟩ => ⟨a, C, e, h, .inl ⟨h0, dx, xs, s _ _ h1, s _ _ h2, RepF.mono s r⟩⟩
  | .ins c fs, _, ⟨a, C, e, h, .inr ⟨h0, d, h1, .inl h2⟩⟩ => ⟨a, C, e, h, .inr ⟨h0, d, ExAt.mono s h1, .inl h2⟩⟩
  | .ins c fs, _, ⟨a, C, e, h, .inr ⟨h0, d, h1, .inr ⟨dx, xs, h2, h3, r⟩⟩⟩ => ⟨a, C, e, h, .inr ⟨h0, d, ExAt.mono s h1, .inr ⟨dx, xs, h2, s _ _ h3, RepF.mono s r⟩⟩⟩
theorem Reps.mono {R : RC} {F G : Hp} (s : Sub F G) : ∀ {x : List D} {v : List V}, Reps R F x v → Reps R G x v
  | [], _, h => h
  | x :: l, _, ⟨v, r, e, h, t⟩ => ⟨v, r, e, Rep.mono s h, Reps.mono s t⟩
theorem RepK.mono {R : RC} {F G : Hp} (s : Sub F G) : ∀ {x : List (D × D)} {v : List (Key × V)}, RepK R F x v → RepK R G x v
  | [], _, h => h
  | (k, x) :: l, _, ⟨q, v, r, e, hk, h, t⟩ => ⟨q, v, r, e, hk, Rep.mono s h, RepK.mono s t⟩
theorem RepF.mono {R : RC} {F G : Hp} (s : Sub F G) : ∀ {x : List (Nat × D)} {v : List (Str × V)}, RepF R F x v → RepF R G x v
  | [], _, h => h
  | (k, x) :: l, _, ⟨v, r, e, h, t⟩ => ⟨v, r, e, Rep.mono s h, RepF.mono s t⟩
end
theorem Reps.length {R : RC} {F : Hp} : ∀ {l : List D} {vs : List V}, Reps R F l vs → l.length = vs.length
  | [], _, h => by subst h; rfl
  | x :: l, _, ⟨v, r, e, _, t⟩ => by subst e; simp [Reps.length t]
theorem Reps.get {R : RC} {F : Hp} : ∀ {l : List D} {vs : List V} {i : Nat} {x : D}, Reps R F l vs → l[i]? = some x → ∃ v, vs[i]? = some v ∧ Rep R F x v
  | [], _, i, x, _, e => by simp at e
  | x :: l, _, 0, y, ⟨v, r, e, h, t⟩, q => by subst e; simp at q; subst q; exact ⟨v, rfl, h⟩
  | x :: l, _, i + 1, y, ⟨v, r, e, h, t⟩, q => by
    subst e
    obtain ⟨w, h1, h2⟩ := Reps.get (i := i) t (by simpa using q)
    exact ⟨w, by simpa using h1, h2⟩
theorem Reps.get' {R : RC} {F : Hp} {l : List D} {vs : List V} {i : Nat} {v : V} (h : Reps R F l vs) (e : vs[i]? = some v) : ∃ x, l[i]? = some x ∧ Rep R F x v := by
  have hl := h.length
  have : i < vs.length := by
    rcases Nat.lt_or_ge i vs.length with h | h
    · exact h
    · rw [List.getElem?_eq_none h] at e; cases e
  have hx : l[i]? = some (l[i]'(by omega)) := List.getElem?_eq_getElem (by omega)
  obtain ⟨w, h1, h2⟩ := h.get hx
  rw [e] at h1; cases h1
  exact ⟨_, hx, h2⟩
theorem Reps.append {R : RC} {F : Hp} : ∀ {l m : List D} {vs ws : List V}, Reps R F l vs → Reps R F m ws → Reps R F (l ++ m) (vs ++ ws)
  | [], _, _, _, h, t => by subst h; exact t
  | x :: l, _, _, _, ⟨v, r, e, h, q⟩, t => by subst e; exact ⟨v, r ++ _, rfl, h, Reps.append q t⟩
theorem Reps.set {R : RC} {F : Hp} {y : D} {w : V} (hy : Rep R F y w) : ∀ {l : List D} {vs : List V} (i : Nat), Reps R F l vs → Reps R F (l.set i y) (vs.set i w)
  | [], _, _, h => by subst h; rfl
  | x :: l, _, 0, ⟨v, r, e, h, t⟩ => by subst e; exact ⟨w, r, rfl, hy, t⟩
  | x :: l, _, i + 1, ⟨v, r, e, h, t⟩ => by subst e; exact ⟨v, r.set i w, rfl, h, Reps.set hy i t⟩
theorem Reps.take {R : RC} {F : Hp} : ∀ {l : List D} {vs : List V} (n : Nat), Reps R F l vs → Reps R F (l.take n) (vs.take n)
  | _, _, 0, _ => by simp [Reps]
  | [], _, n + 1, h => by subst h; rfl
  | x :: l, _, n + 1, ⟨v, r, e, h, t⟩ => by subst e; exact ⟨v, r.take n, rfl, h, Reps.take n t⟩
theorem Reps.drop {R : RC} {F : Hp} : ∀ {l : List D} {vs : List V} (n : Nat), Reps R F l vs → Reps R F (l.drop n) (vs.drop n)
  | _, _, 0, h => h
  | [], _, n + 1, h => by subst h; rfl
  | x :: l, _, n + 1, ⟨v, r, e, h, t⟩ => by subst e; exact Reps.drop n t
theorem Reps.reverse {R : RC} {F : Hp} : ∀ {l : List D} {vs : List V}, Reps R F l vs → Reps R F l.reverse vs.reverse
  | [], _, h => by subst h; rfl
  | x :: l, _, ⟨v, r, e, h, t⟩ => by
    subst e
    rw [List.reverse_cons, List.reverse_cons]
    exact Reps.append (Reps.reverse t) ⟨v, [], rfl, h, rfl⟩
theorem Reps.nil {R : RC} {F : Hp} : Reps R F [] [] := rfl
theorem Reps.cons {R : RC} {F : Hp} {x : D} {v : V} {l : List D} {vs : List V} (h : Rep R F x v) (t : Reps R F l vs) : Reps R F (x :: l) (v :: vs) := ⟨v, vs, rfl, h, t⟩

/-- a slot's value -/
def RepV (R : RC) (F : Hp) (m : List Addr) : Val → V → Prop
  | .d x, v => Rep R F x v
  | .ref n, v => ∃ a, m[n]? = some a ∧ v = .ref a
def CellRep (R : RC) (H F : Hp) : Cell → Addr → Prop
  | .lst l, a => F a = none ∧ ∃ xs, H a = some (.lst xs) ∧ Reps R F l xs
  | .dct l, a => F a = none ∧ ∃ kvs, H a = some (.dK kvs) ∧ RepK R F l kvs
  | .fz x, a => Rep R F x (.ref a)
/-- the abstract heap H bears the store S: F is what is frozen, m where the cells stand -/
structure Sim (R : RC) (H F : Hp) (m : List Addr) (S : Store) : Prop where
  sub : Sub F H
  nd : m.Nodup
  len : m.length = S.length
  trk : ∀ a, a ∈ m → ∃ o, H a = some o
  cell : ∀ (n : Nat) (c : Cell) (a : Addr), S[n]? = some c → m[n]? = some a → CellRep R H F c a
/-- from one state to a later one -/
structure Step (H F : Hp) (m : List Addr) (H' F' : Hp) (m' : List Addr) : Prop where
  sub : Sub F F'
  keep : ∀ a o, H a = some o → a ∉ m → H' a = some o
  new : ∀ a, F' a ≠ none → F a ≠ none ∨ H a = none ∨ a ∈ m
  pre : ∃ t, m' = m ++ t
  fresh : ∀ a, a ∈ m' → a ∈ m ∨ H a = none
theorem Step.refl (H F : Hp) (m : List Addr) : Step H F m H F m := ⟨Sub.refl _, fun _ _ h _ => h, fun _ h => .inl h, ⟨[], by simp⟩, fun _ h => .inl h⟩
theorem Step.trans {H F H1 F1 H2 F2 : Hp} {m m1 m2 : List Addr} (a : Step H F m H1 F1 m1) (b : Step H1 F1 m1 H2 F2 m2) : Step H F m H2 F2 m2 where
  sub := a.sub.trans b.sub
  keep := fun x o h n => b.keep x o (a.keep x o h n) fun h1 => (a.fresh x h1).elim n fun z => by rw [h] at z; cases z
  new := fun x h => by
    have back : H1 x = none → F x ≠ none ∨ H x = none ∨ x ∈ m := fun z => by
      by_cases hm : x ∈ m
      · exact .inr (.inr hm)
      · cases e : H x with
        | none => exact .inr (.inl rfl)
        | some o => rw [a.keep x o e hm] at z; cases z
    rcases b.new x h with h | h | h
    · exact a.new x h
    · exact back h
    · rcases a.fresh x h with h | h
      · exact .inr (.inr h)
      · exact .inr (.inl h)
  pre := by
    obtain ⟨t, e⟩ := a.pre
    obtain ⟨u, e'⟩ := b.pre
    exact ⟨t ++ u, by rw [e', e, List.append_assoc]⟩
  fresh := fun x h => by
    rcases b.fresh x h with h | h
    · exact a.fresh x h
    · by_cases hm : x ∈ m
      · exact .inl hm
      · cases e : H x with
        | none => exact .inr rfl
        | some o => rw [a.keep x o e hm] at h; cases h
theorem RepV.mono {R : RC} {H F H' F' : Hp} {m m' : List Addr} (st : Step H F m H' F' m') : ∀ {x : Val} {v : V}, RepV R F m x v → RepV R F' m' x v
  | .d x, v, h => Rep.mono st.sub h
  | .ref n, v, ⟨a, e, h⟩ => by
    obtain ⟨t, e'⟩ := st.pre
    refine ⟨a, ?_, h⟩
    rw [e', List.getElem?_append_left]
    · exact e
    · rcases Nat.lt_or_ge n m.length with q | q
      · exact q
      · rw [List.getElem?_eq_none q] at e; cases e
/-- the slots -/
def RepS (R : RC) (F : Hp) (m : List Addr) (σ : Sig) (τ : L2.St) : Prop := σ.length = τ.length ∧ ∀ (i : Nat) (x : Val), σ[i]? = some (some x) → ∃ v, τ[i]? = some (some v) ∧ RepV R F m x v
theorem RepS.mono {R : RC} {H F H' F' : Hp} {m m' : List Addr} (st : Step H F m H' F' m') {σ : Sig} {τ : L2.St} (h : RepS R F m σ τ) : RepS R F' m' σ τ :=
  ⟨h.1, fun i x e => let ⟨v, e1, e2⟩ := h.2 i x e; ⟨v, e1, RepV.mono st e2⟩⟩
theorem RepS.set {R : RC} {F : Hp} {m : List Addr} {σ : Sig} {τ : L2.St} (h : RepS R F m σ τ) {x : Val} {v : V} (hx : RepV R F m x v) (i : Nat) : RepS R F m (σ.set i (some x)) (τ.set i (some v)) := by
  refine ⟨by simp [h.1], fun j y e => ?_⟩
  by_cases hj : j = i
  · subst hj
    by_cases hl : j < σ.length
    · rw [List.getElem?_set_self hl] at e; cases e
      exact ⟨v, List.getElem?_set_self (by rw [← h.1]; exact hl), hx⟩
    · rw [List.getElem?_eq_none (by simpa using hl)] at e; cases e
  · rw [List.getElem?_set_ne (Ne.symm hj)] at e
    obtain ⟨w, e1, e2⟩ := h.2 j y e
    exact ⟨w, by rw [List.getElem?_set_ne (Ne.symm hj)]; exact e1, e2⟩
theorem RepS.setN {R : RC} {F : Hp} {m : List Addr} {σ : Sig} {τ : L2.St} (h : RepS R F m σ τ) (i : Nat) (o : Option V) : RepS R F m (σ.set i none) (τ.set i o) := by
  refine ⟨by simp [h.1], fun j y e => ?_⟩
  by_cases hj : j = i
  · subst hj
    by_cases hl : j < σ.length
    · rw [List.getElem?_set_self hl] at e; cases e
    · rw [List.getElem?_eq_none (by simpa using hl)] at e; cases e
  · rw [List.getElem?_set_ne (Ne.symm hj)] at e
    obtain ⟨w, e1, e2⟩ := h.2 j y e
    exact ⟨w, by rw [List.getElem?_set_ne (Ne.symm hj)]; exact e1, e2⟩
end Ev

end

section
set_option Elab.async false
set_option linter.all false
set_option maxRecDepth 100000
/-! Ev, part 2: the small language and its evaluator. -/
namespace Ev
open PySem (Str)

/-- the longest list, text, dict that is served -/
def big : Nat := 16777216
/-- what is raised: a class and its fields -/
structure Exn where
  c : Nat
  fs : List (Nat × D)
inductive R (α : Type) where
  | ok (a : α) (S : Store) | exc (x : Exn) (S : Store) | no
def R.bind {α β : Type} : R α → (α → Store → R β) → R β
  | .ok a S, f => f a S
  | .exc x S, _ => .exc x S
  | .no, _ => .no
/-- where nothing may be raised -/
def R.nox {α : Type} : R α → R α
  | .exc _ _ => .no
  | r => r
@[simp] theorem R.nox_ok {α : Type} (a : α) (S : Store) : (R.ok a S).nox = .ok a S := rfl
@[simp] theorem R.nox_no {α : Type} : (R.no : R α).nox = .no := rfl
@[simp] theorem R.nox_exc {α : Type} (x : Exn) (S : Store) : (R.exc x S : R α).nox = .no := rfl
/-- an answer that may lack -/
def R.of {α : Type} (o : Option α) (S : Store) : R α := match o with
  | some a => .ok a S
  | none => .no
@[simp] theorem R.bind_ok {α β : Type} (a : α) (S : Store) (f : α → Store → R β) : (R.ok a S).bind f = f a S := rfl
@[simp] theorem R.bind_exc {α β : Type} (x : Exn) (S : Store) (f : α → Store → R β) : (R.exc x S : R α).bind f = .exc x S := rfl
@[simp] theorem R.bind_no {α β : Type} (f : α → Store → R β) : (R.no : R α).bind f = .no := rfl
@[simp] theorem R.of_some {α : Type} (a : α) (S : Store) : R.of (some a) S = .ok a S := rfl
@[simp] theorem R.of_none {α : Type} (S : Store) : R.of (none : Option α) S = .no := rfl

inductive Bop where
  | add | sub | mul | fdiv | mod | pow | shl | shr | band
deriving DecidableEq
inductive Cop where
  | eq | ne | lt | le | gt | ge | is | isnot | isin | notin
deriving DecidableEq
inductive Ty where
  | str | int | bool | list | tuple | dict | cls (c : Nat)
deriving DecidableEq
inductive Blt where
  | len | tuple | list | all | any | sum | max | min | max2 | min2 | int | str | repr | ord | sorted | sortedset | lenset | dict
deriving DecidableEq
/-- methods of built-in types -/
inductive Mth where
  | append | pop | popAt | reverse | extend | insert | remove | index | count | get1 | get2 | dpop1 | dpop2 | join | split | replace | items
deriving DecidableEq
inductive Tgt where
  | name (i : Nat) | tup (l : List Tgt)
mutual
inductive Exp where
  | lit (x : D)
  | var (i : Nat)
  | glo (g : Nat)
  | bin (o : Bop) (a b : Exp)
  | neg (a : Exp)
  | cmp (o : Cop) (a b : Exp)
  | cmp2 (o p : Cop) (a b c : Exp)
  | and (l : List Exp)
  | or (l : List Exp)
  | not (a : Exp)
  | ife (c : Tst) (a b : Exp)
  | tup (es : List Exp)
  | lst (es : List Exp)
  | dct (ks : List D) (es : List Exp)
  | dcv (k v : Exp)
  | gix (g : Nat) (i : Exp)
  | sub (a i : Exp)
  | slc (a : Exp) (lo hi : Option Exp)
  | call (f : Nat) (es : List Exp)
  | blt (b : Blt) (es : List Exp)
  | meth (m : Mth) (o : Exp) (es : List Exp)
  | isi (e : Exp) (ts : List Ty)
  | isx (e : Exp) (ts cs : List Nat)
  | att (e : Exp) (f : Nat)
  | lc (e : Exp) (t : Tgt) (own : List Nat) (it : Ite) (ifs : List Tst)
inductive Tst where
  | of (e : Exp)
  | gin (neg : Bool) (g : Nat) (e : Exp)
  | cmp (o : Cop) (a b : Exp)
  | cmp2 (o p : Cop) (a b c : Exp)
  | and (l : List Tst)
  | or (l : List Tst)
  | not (t : Tst)
inductive Ite where
  | of (e : Exp)
  | range1 (e : Exp)
  | range2 (a b : Exp)
  | enum (e : Exp)
  | zip (a b : Exp)
  | rev (e : Exp)
end
mutual
inductive Stm where
  | asg (t : Tgt) (e : Exp)
  | new (i : Nat) (e : Exp)
  | aug (i : Nat) (o : Bop) (e : Exp)
  | setSub (o i e : Exp)
  | expr (e : Exp)
  | ret (e : Exp)
  | retNew (e : Exp)
  | retN
  | ite (c : Tst) (a b : List Stm)
  | for_ (t : Tgt) (it : Ite) (b : List Stm)
  | while_ (c : Tst) (b : List Stm)
  | brk | cnt | pass
  | rse
  | rai (c : Nat) (fs : List Nat) (es : List Exp)
  | tr (b : List Stm) (hs : List Hd)
/-- an except clause: the class, the classes that are below it, the name's slot, the suite -/
inductive Hd where
  | mk (k : Nat) (cs : List Nat) (i : Option Nat) (sb : List Stm)
end
structure Fn where
  np : Nat
  ns : Nat
  byref : List Bool
  own : Bool
  body : List Stm

mutual
/-- the slots that a target sets -/
def slots : Tgt → List Nat
  | .name i => [i]
  | .tup l => slotsL l
termination_by structural t => t
def slotsL : List Tgt → List Nat
  | [] => []
  | t :: l => slots t ++ slotsL l
termination_by structural t => t
end
mutual
/-- the slots that a statement may set -/
def asgS : Stm → List Nat
  | .asg t _ => slots t
  | .new i _ => [i]
  | .aug i _ _ => [i]
  | .ite _ a b => asgSs a ++ asgSs b
  | .for_ t _ b => slots t ++ asgSs b
  | .while_ _ b => asgSs b
  | .tr b hs => asgSs b ++ asgHs hs
  | _ => []
termination_by structural s => s
def asgSs : List Stm → List Nat
  | [] => []
  | s :: l => asgS s ++ asgSs l
termination_by structural s => s
def asgH : Hd → List Nat
  | .mk _ _ i sb => i.toList ++ asgSs sb
termination_by structural s => s
def asgHs : List Hd → List Nat
  | [] => []
  | s :: l => asgH s ++ asgHs l
termination_by structural s => s
end

/-! ### data -/
mutual
def D.depth : D → Nat
  | .tup l => D.depths l + 1
  | .lst l => D.depths l + 1
  | .dct l => D.depthk l + 1
  | _ => 0
termination_by structural x => x
def D.depths : List D → Nat
  | [] => 0
  | x :: l => Nat.max x.depth (D.depths l)
termination_by structural x => x
def D.depthk : List (D × D) → Nat
  | [] => 0
  | (_, x) :: l => Nat.max x.depth (D.depthk l)
termination_by structural x => x
end
/-- keys of dicts -/
def kEq : D → D → Bool
  | .int i, .int j => i == j
  | .str x, .str y => x == y
  | _, _ => false
def isK : D → Bool
  | .int _ => true
  | .str _ => true
  | _ => false
def kGet (k : D) : List (D × D) → Option D
  | [] => none
  | (q, x) :: l => if kEq q k then some x else kGet k l
def kSet (k v : D) (l : List (D × D)) : List (D × D) := if (l.any fun p => kEq p.1 k) = true then l.map (fun p => if kEq p.1 k = true then (p.1, v) else p) else l ++ [(k, v)]
def kDel (k : D) : List (D × D) → List (D × D)
  | [] => []
  | (q, x) :: l => if kEq q k then kDel k l else (q, x) :: kDel k l
mutual
def eqD : D → D → Bool
  | .non, y => match y with | .non => true | _ => false
  | .bl a, y => match y with | .bl b => a == b | .int j => (cond a (1 : Int) 0) == j | _ => false
  | .int i, y => match y with | .int j => i == j | .bl b => i == (cond b (1 : Int) 0) | _ => false
  | .str a, y => match y with | .str b => a == b | _ => false
  | .tup l, y => match y with | .tup m => eqDs l m | _ => false
  | .lst l, y => match y with | .lst m => eqDs l m | _ => false
  | .dct l, y => match y with | .dct m => l.length == m.length && eqDk l m | _ => false
  | .ins _ _, _ => false
termination_by structural x => x
def eqDs : List D → List D → Bool
  | [], m => match m with | [] => true | _ => false
  | x :: l, m => match m with | y :: m => eqD x y && eqDs l m | [] => false
termination_by structural x => x
def eqDk : List (D × D) → List (D × D) → Bool
  | [], _ => true
  | (k, x) :: l, m => (match kGet k m with | some y => eqD x y | none => false) && eqDk l m
termination_by structural x => x
end
mutual
def D.plain : D → Bool
  | .tup l => D.plains l
  | .lst l => D.plains l
  | .dct l => D.plaink l
  | .ins _ _ => false
  | _ => true
termination_by structural x => x
def D.plains : List D → Bool
  | [] => true
  | x :: l => x.plain && D.plains l
termination_by structural x => x
def D.plaink : List (D × D) → Bool
  | [] => true
  | (_, x) :: l => x.plain && D.plaink l
termination_by structural x => x
end
mutual
def D.nodct : D → Bool
  | .tup l => D.nodcts l
  | .lst l => D.nodcts l
  | .dct _ => false
  | _ => true
termination_by structural x => x
def D.nodcts : List D → Bool
  | [] => true
  | x :: l => x.nodct && D.nodcts l
termination_by structural x => x
end
/-- two things that are not of one kind of rows -/
def unlike : D → D → Bool
  | .tup _, .tup _ => false
  | .lst _, .lst _ => false
  | .dct _, .dct _ => false
  | _, _ => true
/-- == asked: plain data, not too deep -/
def eqOk (x : D) : Bool := x.plain && decide (x.depth ≤ 60)
def eqA (x y : D) : Option Bool := if eqOk x && eqOk y then some (eqD x y) else none
mutual
/-- one and the same -/
def D.beq : D → D → Bool
  | .non, .non => true
  | .bl a, .bl b => a == b
  | .int a, .int b => a == b
  | .str a, .str b => a == b
  | .tup l, .tup m => D.beqs l m
  | .lst l, .lst m => D.beqs l m
  | .dct l, .dct m => D.beqk l m
  | _, _ => false
termination_by structural x => x
def D.beqs : List D → List D → Bool
  | [], [] => true
  | x :: l, y :: m => D.beq x y && D.beqs l m
  | _, _ => false
termination_by structural x => x
def D.beqk : List (D × D) → List (D × D) → Bool
  | [], [] => true
  | (k, x) :: l, (k', y) :: m => D.beq k k' && D.beq x y && D.beqk l m
  | _, _ => false
termination_by structural x => x
end
def neA (x y : D) : Option Bool := if eqOk x && eqOk y then (if x.nodct && y.nodct then some (!eqD x y) else if D.beq x y then some false else some (!eqD x y)) else none
mutual
theorem beq_eq : ∀ {x y : D}, D.beq x y = true → x = y
  | .non, y, h => by cases y <;> first | rfl | cases h
  | .bl a, y, h => by cases y <;> first | cases h | (simp only [D.beq, beq_iff_eq] at h; rw [h])
  | .int a, y, h => by cases y <;> first | cases h | (simp only [D.beq, beq_iff_eq] at h; rw [h])
  | .str a, y, h => by cases y <;> first | cases h | (simp only [D.beq, beq_iff_eq] at h; rw [h])
  | .tup l, y, h => by cases y <;> first | cases h | (rw [beqs_eq (l := l) h])
  | .lst l, y, h => by cases y <;> first | cases h | (rw [beqs_eq (l := l) h])
  | .dct l, y, h => by cases y <;> first | cases h | (rw [beqk_eq (l := l) h])
  | .ins c fs, y, h => by cases h
termination_by structural x => x
theorem beqs_eq : ∀ {l m : List D}, D.beqs l m = true → l = m
  | [], m, h => by cases m with
    | nil => rfl
    | cons _ _ => cases h
  | x :: l, m, h => by cases m with
    | nil => cases h
    | cons y m =>
      simp only [D.beqs, Bool.and_eq_true] at h
      rw [beq_eq h.1, beqs_eq h.2]
termination_by structural x => x
theorem beqk_eq : ∀ {l m : List (D × D)}, D.beqk l m = true → l = m
  | [], m, h => by cases m with
    | nil => rfl
    | cons _ _ => cases h
  | (k, x) :: l, m, h => by cases m with
    | nil => cases h
    | cons y m =>
      obtain ⟨k', y⟩ := y
      simp only [D.beqk, Bool.and_eq_true] at h
      rw [beq_eq h.1.1, beq_eq h.1.2, beqk_eq h.2]
termination_by structural x => x
end
/-- may the item y be asked for x -/
def inOk (x y : D) : Bool := eqOk y && (unlike y x || (x.nodct && y.nodct))
def truth : D → Option Bool
  | .non => some false
  | .bl b => some b
  | .int i => some (i != 0)
  | .str x => if x.length ≤ big then some (!x.isEmpty) else none
  | .tup l => some (!l.isEmpty)
  | .lst l => some (!l.isEmpty)
  | .dct l => some (!l.isEmpty)
  | .ins _ _ => none
def lim : Int := 18446744073709551616
def binD : Bop → D → D → Option D
  | .add, .int i, .int j => some (.int (i + j))
  | .add, .str x, .str y => if x.length + y.length ≤ big then some (.str (x ++ y)) else none
  | .add, .tup l, .tup m => if l.length + m.length ≤ big then some (.tup (l ++ m)) else none
  | .add, .lst l, .lst m => if l.length + m.length ≤ big then some (.lst (l ++ m)) else none
  | .sub, .int i, .int j => some (.int (i - j))
  | .mul, .int i, .int j => if (-lim < i ∧ i < lim) ∨ (-lim < j ∧ j < lim) then some (.int (i * j)) else none
  | .mul, .str l, .int j => if 2 ≤ j ∧ j ≤ 1000 ∧ 1 ≤ l.length ∧ l.length ≤ 1000 then some (.str (List.replicate j.toNat l).flatten) else none
  | .mul, .lst l, .int j => if 0 ≤ j ∧ j ≤ 1000 ∧ l.length ≤ 1000 then some (.lst (List.replicate j.toNat l).flatten) else none
  | .fdiv, .int i, .int j => if 0 < j ∧ j < 1073741824 then some (.int (i / j)) else none
  | .mod, .int i, .int j => if 0 < j then some (.int (i % j)) else none
  | .pow, .int i, .int j => if 0 ≤ j ∧ j ≤ 1000000 ∧ i.natAbs < 18446744073709551616 then some (.int (i ^ j.toNat)) else none
  | .shl, .int i, .int j => if 0 ≤ j ∧ j ≤ 1000000 ∧ i.natAbs < 18446744073709551616 then some (.int (i * 2 ^ j.toNat)) else none
  | .shr, .int i, .int j => if 0 ≤ j then some (.int (i / 2 ^ j.toNat)) else none
  | _, _, _ => none
def negD : D → Option D
  | .int i => some (.int (-i))
  | _ => none
/-- a member -/
def inD (x : D) : D → Option Bool
  | .str s => match x with
    | .str [c] => some (decide (c ∈ s))
    | _ => none
  | .lst l => if eqOk x && l.all (inOk x) then some (l.any fun y => eqD y x) else none
  | .tup l => if eqOk x && l.all (inOk x) then some (l.any fun y => eqD y x) else none
  | .dct l => if isK x then some (kGet x l).isSome else none
  | _ => none
def D.isNon : D → Bool
  | .non => true
  | _ => false
def cmpD : Cop → D → D → Option Bool
  | .eq, x, y => eqA x y
  | .ne, x, y => neA x y
  | .lt, .int i, .int j => some (decide (i < j))
  | .le, .int i, .int j => some (decide (i ≤ j))
  | .gt, .int i, .int j => some (decide (j < i))
  | .ge, .int i, .int j => some (decide (j ≤ i))
  | .lt, .str x, .str y => some (decide (x < y))
  | .le, .str x, .str y => some (!decide (y < x))
  | .is, x, .non => some x.isNon
  | .isnot, x, .non => some (!x.isNon)
  | .is, .bl c, .bl b => some (decide (c = b))
  | .isnot, .bl c, .bl b => some (!decide (c = b))
  | .isin, x, y => inD x y
  | .notin, x, y => (inD x y).map (!·)
  | _, _, _ => none
def ixD {α : Type} (l : List α) (i : Int) : Option α := if 0 ≤ i then (if i < l.length then l[i.toNat]? else none) else if -(l.length : Int) ≤ i then l[(i + l.length).toNat]? else none
def subD : D → D → Option D
  | .lst l, .int i => ixD l i
  | .tup l, .int i => ixD l i
  | .str s, .int i => if s.length ≤ big then (ixD s i).map fun c => .str [c] else none
  | .dct l, k => if isK k then kGet k l else none
  | _, _ => none
/-- a slice's end within 0 .. n -/
def slIx (n d : Nat) : Option Int → Nat
  | none => d
  | some v => (if v < 0 then max (v + n) 0 else min v n).toNat
def cut {α : Type} (l : List α) (lo hi : Option Int) : List α := (l.drop (slIx l.length 0 lo)).take (slIx l.length l.length hi - slIx l.length 0 lo)
def slcD (x : D) (lo hi : Option Int) : Option D := match x with
  | .lst l => some (.lst (cut l lo hi))
  | .tup l => some (.tup (cut l lo hi))
  | .str s => if s.length ≤ big then some (.str (cut s lo hi)) else none
  | _ => none
def isTy (x : D) : Ty → Bool
  | .str => match x with | .str _ => true | _ => false
  | .int => match x with | .int _ => true | .bl _ => true | _ => false
  | .bool => match x with | .bl _ => true | _ => false
  | .list => match x with | .lst _ => true | _ => false
  | .tuple => match x with | .tup _ => true | _ => false
  | .dict => match x with | .dct _ => true | _ => false
  | .cls c => match x with | .ins d _ => c == d | _ => false

def isiD (ts : List Ty) : D → Option D
  | .ins _ _ => none
  | x => some (.bl (ts.any (isTy x)))
/-- a dict of the module, its keys texts -/
def gLook (z : List Nat) : List (List Nat × D) → Option D
  | [] => none
  | (k, x) :: l => if k = z then some x else gLook z l
def gixD (o : Option (List (List Nat × D))) : D → Option D
  | .str z => match o with
    | some l => gLook z l
    | none => none
  | _ => none
def ginD (neg : Bool) (o : Option (List (List Nat × D))) : D → Option Bool
  | .str z => match o with
    | some l => some (xor neg (gLook z l).isSome)
    | none => none
  | _ => none
/-- name op= e: whole numbers alone -/
def augD : Bop → D → D → Option D
  | .add, .int i, .int j => some (.int (i + j))
  | .sub, .int i, .int j => some (.int (i - j))
  | _, _, _ => none

/-! ### stores -/
def rdv (S : Store) : Val → Option D
  | .d x => some x
  | .ref n => match S[n]? with
    | some (.lst l) => some (.lst l)
    | some (.dct l) => some (.dct l)
    | some (.fz x) => some x
    | none => none
def fzv (S : Store) : Val → Option (D × Store)
  | .d x => some (x, S)
  | .ref n => match S[n]? with
    | some (.lst l) => some (.lst l, S.set n (.fz (.lst l)))
    | some (.dct l) => some (.dct l, S.set n (.fz (.dct l)))
    | some (.fz x) => some (x, S)
    | none => none
def fzs (S : Store) : List Val → Option (List D × Store)
  | [] => some ([], S)
  | v :: l => match fzv S v with
    | some (x, S1) => (match fzs S1 l with | some (r, S2) => some (x :: r, S2) | none => none)
    | none => none
def R.fz (r : R Val) : R D := r.bind fun v S => match fzv S v with
  | some (x, S1) => .ok x S1
  | none => .no
def R.rd (r : R Val) : R D := r.bind fun v S => R.of (rdv S v) S

/-! ### targets -/
mutual
def asgT (σ : Sig) : Tgt → D → Option Sig
  | .name i, x => some (σ.set i (some (.d x)))
  | .tup l, x => match x with
    | .tup xs => asgTs σ l xs
    | _ => none
termination_by structural t => t
def asgTs (σ : Sig) : List Tgt → List D → Option Sig
  | [], xs => match xs with | [] => some σ | _ => none
  | t :: l, xs => match xs with
    | x :: r => (match asgT σ t x with | some σ1 => asgTs σ1 l r | none => none)
    | [] => none
termination_by structural t => t
end
def wipes (σ : Sig) : List Nat → Sig
  | [] => σ
  | i :: l => (wipes σ l).set i none

/-! ### the machine -/
inductive Flow where
  | nx (σ : Sig) | rt (v : Val) | bk (σ : Sig) | ct (σ : Sig)
/-- the calls of own defs, the module's constants, how long a while may go -/
structure Cx where
  call : Nat → List Val → Store → R Val
  glo : Nat → Option D
  gdc : Nat → Option (List (List Nat × D))
  wf : Nat

/-- a thing that is walked: its items (as they stand at the start) and the cell that they lie in -/
def itemsOf (S : Store) (v : Val) : Option (List D × Option Nat) := match v with
  | .d (.lst l) => some (l, none)
  | .d (.tup l) => some (l, none)
  | .d (.str s) => if s.length ≤ big then some (s.map fun c => .str [c], none) else none
  | .d (.dct l) => some (l.map (·.1), none)
  | .d _ => none
  | .ref n => match S[n]? with
    | some (.lst l) => some (l, some n)
    | some (.fz (.lst l)) => some (l, none)
    | _ => none
/-- the cell is as it was -/
def same (c : Option Nat) (l : List D) (S : Store) : Prop := match c with
  | none => True
  | some n => S[n]? = some (.lst l)
def bd : Int := 4611686018427387904
def rangeL (i j : Int) : Option (List D) := if -bd ≤ i ∧ i < bd ∧ -bd ≤ j ∧ j < bd then some ((List.range (j - i).toNat).map fun (k : Nat) => .int (i + k)) else none
open Classical in
/-- a loop over items -/
noncomputable def forL (ck : Store → Prop) (turn : D → Sig → Store → R Flow) : List D → Sig → Store → R Flow
  | [], σ, S => if ck S then .ok (.nx σ) S else .no
  | x :: l, σ, S => if ck S then (turn x σ S).bind fun f S1 => match f with
    | .nx σ1 => forL ck turn l σ1 S1
    | .ct σ1 => forL ck turn l σ1 S1
    | .bk σ1 => .ok (.nx σ1) S1
    | .rt v => .ok (.rt v) S1 else .no
open Classical in
/-- a comprehension over items: what each turn gives, or nothing -/
noncomputable def lcL (ck : Store → Prop) (turn : D → Store → R (Option D)) : List D → List D → Store → R (List D)
  | [], acc, S => if ck S then .ok acc S else .no
  | x :: l, acc, S => if ck S then (turn x S).bind fun o S1 => match o with
    | some y => if acc.length < big then lcL ck turn l (acc ++ [y]) S1 else .no
    | none => lcL ck turn l acc S1 else .no
def whileL (c : Sig → Store → R Bool) (b : Sig → Store → R Flow) : Nat → Sig → Store → R Flow
  | 0, _, _ => .no
  | n + 1, σ, S => (c σ S).bind fun t S1 => match t with
    | false => .ok (.nx σ) S1
    | true => (b σ S1).bind fun f S2 => match f with
      | .nx σ1 => whileL c b n σ1 S2
      | .ct σ1 => whileL c b n σ1 S2
      | .bk σ1 => .ok (.nx σ1) S2
      | .rt v => .ok (.rt v) S2

def intsOf : List D → Option (List Int)
  | [] => some []
  | .int i :: l => (intsOf l).map (i :: ·)
  | _ :: _ => none
def blsOf : List D → Option (List Bool)
  | [] => some []
  | .bl b :: l => (blsOf l).map (b :: ·)
  | _ :: _ => none
def strsOf : List D → Option (List (List Nat))
  | [] => some []
  | .str b :: l => (strsOf l).map (b :: ·)
  | _ :: _ => none
def joinS (sep : List Nat) : List (List Nat) → List Nat
  | [] => []
  | [x] => x
  | x :: r => x ++ sep ++ joinS sep r
def maxL : List Int → Option Int
  | [] => none
  | i :: l => some (l.foldl max i)
def minL : List Int → Option Int
  | [] => none
  | i :: l => some (l.foldl min i)
def keyPy : D → PySem.PyData
  | .int i => .int i
  | .str x => .str ⟨x.toArray⟩
  | _ => .none
mutual
/-- the library's own form of data -/
def toPy : D → PySem.PyData
  | .non => .none
  | .bl b => .bool b
  | .int i => .int i
  | .str x => .str ⟨x.toArray⟩
  | .tup l => .tuple (toPys l)
  | .lst l => .list (toPys l)
  | .dct l => .dict (toPyk l)
  | .ins _ _ => .none
termination_by structural x => x
def toPys : List D → List PySem.PyData
  | [] => []
  | x :: l => toPy x :: toPys l
termination_by structural x => x
def toPyk : List (D × D) → List (PySem.PyData × PySem.PyData)
  | [] => []
  | (k, x) :: l => (keyPy k, toPy x) :: toPyk l
termination_by structural x => x
end
/-- what repr tells -/
def shD (x : D) : List Nat := (toPy x).shown.cps.toList
def reprOk (x : D) : Bool := x.plain && decide ((toPy x).depth ≤ 60) && (toPy x).showable && decide ((toPy x).shown.length ≤ big)
/-- pairs of keys and things -/
def prsOf : List D → Option (List (D × D))
  | [] => some []
  | .tup [k, x] :: l => if isK k then (prsOf l).map ((k, x) :: ·) else none
  | _ :: _ => none
/-- a number's figures -/
def intS (i : Int) : List Nat := (PySem.Str.ofString (toString i)).cps.toList
/-- built-in functions of data -/
def bltD : Blt → List D → Option D
  | .len, [.str s] => if s.length ≤ big then some (.int s.length) else none
  | .len, [.lst l] => some (.int l.length)
  | .len, [.tup l] => some (.int l.length)
  | .len, [.dct l] => some (.int l.length)
  | .tuple, [.lst l] => some (.tup l)
  | .tuple, [.tup l] => some (.tup l)
  | .list, [.lst l] => some (.lst l)
  | .list, [.tup l] => some (.lst l)
  | .all, [.lst l] => (blsOf l).map fun bs => .bl (bs.all id)
  | .any, [.lst l] => (blsOf l).map fun bs => .bl (bs.any id)
  | .sum, [.lst l] => (intsOf l).map fun ns => .int ns.sum
  | .max, [.lst l] => (intsOf l).bind fun ns => (maxL ns).map .int
  | .min, [.lst l] => (intsOf l).bind fun ns => (minL ns).map .int
  | .max2, [.int i, .int j] => some (.int (if j > i then j else i))
  | .min2, [.int i, .int j] => some (.int (if j < i then j else i))
  | .int, [.int i] => some (.int i)
  | .int, [.bl b] => some (.int (cond b 1 0))
  | .repr, [x] => if reprOk x then some (.str (shD x)) else none
  | .str, [.int i] => if i.natAbs.log2 < 1920 then some (.str (intS i)) else none
  | .str, [.str s] => some (.str s)
  | .ord, [.str [c]] => some (.int c)
  | .dict, [.lst l] => (prsOf l).map fun ps => .dct (ps.foldl (fun l p => kSet p.1 p.2 l) [])
  | _, _ => none
/-- methods that change nothing -/
def mthD : Mth → D → List D → Option D
  | .join, .str s, [.lst l] => (strsOf l).bind fun xs => if (xs.map List.length).sum + xs.length * s.length ≤ big then some (.str (joinS s xs)) else none
  | .join, .str s, [.tup l] => (strsOf l).bind fun xs => if (xs.map List.length).sum + xs.length * s.length ≤ big then some (.str (joinS s xs)) else none
  | .get1, .dct l, [k] => if isK k then some ((kGet k l).getD .non) else none
  | .get2, .dct l, [k, x] => if isK k then some ((kGet k l).getD x) else none
  | _, _, _ => none
/-- methods that change a cell: what comes back, the cell behind -/
def mthC : Mth → Cell → List D → Option (D × Cell)
  | .append, .lst l, [x] => if l.length < big then some (.non, .lst (l ++ [x])) else none
  | .pop, .lst l, [] => match l[l.length - 1]? with
    | some x => some (x, .lst l.dropLast)
    | none => none
  | .reverse, .lst l, [] => some (.non, .lst l.reverse)
  | .extend, .lst l, [.lst m] => if l.length + m.length ≤ big then some (.non, .lst (l ++ m)) else none
  | _, _, _ => none
def setC : Cell → D → D → Option Cell
  | .lst l, .int i, x => if 0 ≤ i ∧ i < l.length then some (.lst (l.set i.toNat x)) else if -(l.length : Int) ≤ i ∧ i < 0 then some (.lst (l.set (i + l.length).toNat x)) else none
  | .dct l, k, x => if isK k ∧ l.length < big then some (.dct (kSet k x l)) else none
  | _, _, _ => none
/-- whose method it is -/
def recvD : Mth → D → Bool
  | .append, .lst _ | .pop, .lst _ | .popAt, .lst _ | .reverse, .lst _ | .extend, .lst _ | .insert, .lst _ | .remove, .lst _ | .index, .lst _ | .count, .lst _ => true
  | .get1, .dct _ | .get2, .dct _ | .dpop1, .dct _ | .dpop2, .dct _ | .items, .dct _ => true
  | .join, .str _ | .split, .str _ | .replace, .str _ => true
  | _, _ => false
/-- does it change its object -/
def Mth.mut : Mth → Bool
  | .append | .pop | .popAt | .reverse | .extend | .insert | .remove | .dpop1 | .dpop2 => true
  | _ => false

/-- a function of data, asked of values -/
def on1 (S : Store) (x : Val) (f : D → Option D) : R Val := match rdv S x with
  | some x => (match f x with
    | some z => .ok (.d z) S
    | none => .no)
  | none => .no
def on2 (S : Store) (x y : Val) (f : D → D → Option D) : R Val := match rdv S x with
  | some x => (match rdv S y with
    | some y => (match f x y with
      | some z => .ok (.d z) S
      | none => .no)
    | none => .no)
  | none => .no
def on2b (S : Store) (x y : Val) (f : D → D → Option Bool) : R Bool := match rdv S x with
  | some x => (match rdv S y with
    | some y => (match f x y with
      | some z => .ok z S
      | none => .no)
    | none => .no)
  | none => .no
def on1b (S : Store) (x : Val) (f : D → Option Bool) : R Bool := match rdv S x with
  | some x => (match f x with
    | some z => .ok z S
    | none => .no)
  | none => .no
def rdvs (S : Store) : List Val → Option (List D)
  | [] => some []
  | v :: l => match rdv S v with
    | some x => (match rdvs S l with
      | some r => some (x :: r)
      | none => none)
    | none => none
def onL (S : Store) (vs : List Val) (f : List D → Option D) : R Val := match rdvs S vs with
  | some xs => (match f xs with
    | some z => .ok (.d z) S
    | none => .no)
  | none => .no
def truthV (S : Store) (v : Val) : R Bool := match rdv S v with
  | some x => (match truth x with
    | some b => .ok b S
    | none => .no)
  | none => .no
/-- a display -/
def disp (f : List D → D) (vs : List Val) (S : Store) : R Val := match fzs S vs with
  | some (xs, S1) => if xs.length ≤ big then .ok (.d (f xs)) S1 else .no
  | none => .no
def dispK (ks : List D) (vs : List Val) (S : Store) : R Val := match fzs S vs with
  | some (xs, S1) => if ks.length = xs.length ∧ ks.length ≤ 15 ∧ ks.all isK then .ok (.d (.dct ((ks.zip xs).foldl (fun l p => kSet p.1 p.2 l) []))) S1 else .no
  | none => .no
/-- a dict of one pair -/
def dispV (x y : Val) (S : Store) : R Val := match fzs S [x, y] with
  | some ([a, b], S1) => if isK a = true then .ok (.d (.dct [(a, b)])) S1 else .no
  | _ => .no
/-- does it hand on one of its arguments -/
def Mth.keeps : Mth → Bool
  | .get1 | .get2 => true
  | _ => false
/-- o.m(..) -/
def doMut (m : Mth) (v : Val) (vs : List Val) (S : Store) : R Val := match v with
  | .ref n => (match fzs S vs with
    | some (xs, S1) => (match S1[n]? with
      | some c => (match mthC m c xs with
        | some (z, c1) => .ok (.d z) (S1.set n c1)
        | none => .no)
      | none => .no)
    | none => .no)
  | .d _ => .no
def doKeep (m : Mth) (v : Val) (vs : List Val) (S : Store) : R Val := match fzs S vs with
  | some (xs, S1) => (match rdv S1 v with
    | some x => (match mthD m x xs with
      | some z => .ok (.d z) S1
      | none => .no)
    | none => .no)
  | none => .no
def doRead (m : Mth) (v : Val) (vs : List Val) (S : Store) : R Val := match rdv S v with
  | some x => onL S vs (mthD m x)
  | none => .no
def doMeth (m : Mth) (v : Val) (vs : List Val) (S : Store) : R Val := match m.mut with
  | true => doMut m v vs S
  | false => match m.keeps with
    | true => doKeep m v vs S
    | false => doRead m v vs S
def enumD (i : Nat) : List D → List D
  | [] => []
  | x :: l => .tup [.int i, x] :: enumD (i + 1) l
def zipD : List D → List D → List D
  | x :: l, y :: m => .tup [x, y] :: zipD l m
  | _, _ => []
/-- what a for walks -/
structure Src where
  l : List D
  ck : Store → Prop
def srcOf (S : Store) (v : Val) : Option Src := match v with
  | .d (.lst l) => some ⟨l, fun _ => True⟩
  | .d (.tup l) => some ⟨l, fun _ => True⟩
  | .d (.str s) => if s.length ≤ big then some ⟨s.map fun c => .str [c], fun _ => True⟩ else none
  | .d _ => none
  | .ref n => match S[n]? with
    | some (.lst l) => some ⟨l, fun S => S[n]? = some (.lst l)⟩
    | some (.fz (.lst l)) => some ⟨l, fun _ => True⟩
    | _ => none
/-- .. lists and tuples alone -/
def seqOf (S : Store) (v : Val) : Option Src := match v with
  | .d (.lst l) => some ⟨l, fun _ => True⟩
  | .d (.tup l) => some ⟨l, fun _ => True⟩
  | .d _ => none
  | .ref n => match S[n]? with
    | some (.lst l) => some ⟨l, fun S => S[n]? = some (.lst l)⟩
    | some (.fz (.lst l)) => some ⟨l, fun _ => True⟩
    | _ => none
def onInt (S : Store) (v : Val) (f : Int → R α) : R α := match rdv S v with
  | some (.int i) => f i
  | _ => .no

def fzO (v : Val) (S : Store) : R (Option D) := match fzv S v with
  | some (y, S1) => .ok (some y) S1
  | none => .no

/-! ### exceptions -/
/-- an exception as a value -/
def Exn.d (x : Exn) : D := .ins x.c x.fs
/-- behind a suite the exception's name is gone -/
def unset (i : Option Nat) : Flow → Flow
  | .nx σ => .nx (match i with | some i => σ.set i none | none => σ)
  | .bk σ => .bk (match i with | some i => σ.set i none | none => σ)
  | .ct σ => .ct (match i with | some i => σ.set i none | none => σ)
  | .rt v => .rt v
def unsetR (i : Option Nat) : R Flow → R Flow
  | .ok f S => .ok (unset i f) S
  | _ => .no
/-- the slots as a suite finds them -/
def setX (i : Option Nat) (x : Exn) (σ : Sig) : Sig := match i with
  | some i => σ.set i (some (.d x.d))
  | none => σ
def attD (f : Nat) : D → Option D
  | .ins _ fs => fs.lookup f
  | _ => none
/-- isinstance, asked of an own thing: is its class one of these -/
def isxD (cs : List Nat) : D → Option D
  | .ins c _ => some (.bl (cs.contains c))
  | _ => none
def raiR (c : Nat) (fs : List Nat) (vs : List Val) (S : Store) : R Flow := match fzs S vs with
  | some (xs, S1) => if fs.length = xs.length then .exc ⟨c, fs.zip xs⟩ S1 else .no
  | none => .no

/-- does the clause take the class -/
def hdC : Hd → Nat → Bool
  | .mk _ cs _ _, c => cs.contains c
section
variable (C : Cx)
mutual
noncomputable def ev : Exp → Sig → Store → R Val
  | .lit x, _, S => .ok (.d x) S
  | .var i, σ, S => match σ[i]? with
    | some (some v) => .ok v S
    | _ => .no
  | .glo g, _, S => match C.glo g with
    | some x => .ok (.d x) S
    | none => .no
  | .bin o a b, σ, S => (ev a σ S).bind fun x S1 => (ev b σ S1).bind fun y S2 => on2 S2 x y (binD o)
  | .neg a, σ, S => (ev a σ S).bind fun x S1 => on1 S1 x negD
  | .cmp o a b, σ, S => (ev a σ S).bind fun x S1 => (ev b σ S1).bind fun y S2 => (on2b S2 x y (cmpD o)).bind fun t S3 => .ok (.d (.bl t)) S3
  | .cmp2 o p a b c, σ, S => (ev a σ S).bind fun x S1 => (ev b σ S1).bind fun y S2 => (on2b S2 x y (cmpD o)).bind fun t S3 => match t with
    | false => .ok (.d (.bl false)) S3
    | true => (ev c σ S3).bind fun z S4 => (on2b S4 y z (cmpD p)).bind fun t S5 => .ok (.d (.bl t)) S5
  | .and l, σ, S => evAnd l σ S
  | .or l, σ, S => evOr l σ S
  | .not a, σ, S => (ev a σ S).bind fun x S1 => (truthV S1 x).bind fun t S2 => .ok (.d (.bl (!t))) S2
  | .ife c a b, σ, S => (evT c σ S).bind fun t S1 => match t with
    | true => ev a σ S1
    | false => ev b σ S1
  | .tup es, σ, S => (evs es σ S).bind fun vs S1 => disp .tup vs S1
  | .lst es, σ, S => (evs es σ S).bind fun vs S1 => disp .lst vs S1
  | .dct ks es, σ, S => (evs es σ S).bind fun vs S1 => dispK ks vs S1
  | .dcv k v, σ, S => (ev k σ S).bind fun x S1 => (ev v σ S1).bind fun y S2 => dispV x y S2
  | .gix g i, σ, S => (ev i σ S).bind fun x S1 => on1 S1 x (gixD (C.gdc g))
  | .sub a i, σ, S => (ev a σ S).bind fun x S1 => (ev i σ S1).bind fun y S2 => on2 S2 x y subD
  | .slc a lo hi, σ, S => (ev a σ S).bind fun x S1 => (evO lo σ S1).bind fun l S2 => (evO hi σ S2).bind fun h S3 => on1 S3 x fun x => slcD x l h
  | .call f es, σ, S => (evs es σ S).bind fun vs S1 => C.call f vs S1
  | .blt b es, σ, S => (evs es σ S).bind fun vs S1 => onL S1 vs (bltD b)
  | .meth m o es, σ, S => (ev o σ S).bind fun v S1 => match rdv S1 v with
    | some x => if recvD m x then (evs es σ S1).bind fun vs S2 => doMeth m v vs S2 else .no
    | none => .no
  | .isi e ts, σ, S => (ev e σ S).bind fun x S1 => on1 S1 x (isiD ts)
  | .isx e _ cs, σ, S => (ev e σ S).bind fun x S1 => on1 S1 x (isxD cs)
  | .att e f, σ, S => (ev e σ S).bind fun x S1 => on1 S1 x (attD f)
  | .lc e t own it ifs, σ, S => (evI it σ S).bind fun p S1 => (lcL p.ck (fun x S => match asgT (wipes σ own) t x with
      | some σ1 => ((evTs ifs σ1 S).bind fun b S2 => match b with
        | true => (ev e σ1 S2).bind fun v S3 => fzO v S3
        | false => .ok none S2).nox
      | none => .no) p.l [] S1).bind fun l S2 => .ok (.d (.lst l)) S2
termination_by structural e => e
noncomputable def evAnd : List Exp → Sig → Store → R Val
  | [], _, _ => .no
  | e :: l, σ, S => match l with
    | [] => ev e σ S
    | _ :: _ => (ev e σ S).bind fun x S1 => (truthV S1 x).bind fun t S2 => match t with
      | true => evAnd l σ S2
      | false => .ok x S2
termination_by structural l => l
noncomputable def evOr : List Exp → Sig → Store → R Val
  | [], _, _ => .no
  | e :: l, σ, S => match l with
    | [] => ev e σ S
    | _ :: _ => (ev e σ S).bind fun x S1 => (truthV S1 x).bind fun t S2 => match t with
      | true => .ok x S2
      | false => evOr l σ S2
termination_by structural l => l
/-- a test -/
noncomputable def evT : Tst → Sig → Store → R Bool
  | .of e, σ, S => (ev e σ S).bind fun x S1 => truthV S1 x
  | .gin n g e, σ, S => (ev e σ S).bind fun x S1 => on1b S1 x (ginD n (C.gdc g))
  | .cmp o a b, σ, S => (ev a σ S).bind fun x S1 => (ev b σ S1).bind fun y S2 => on2b S2 x y (cmpD o)
  | .cmp2 o p a b c, σ, S => (ev a σ S).bind fun x S1 => (ev b σ S1).bind fun y S2 => (on2b S2 x y (cmpD o)).bind fun t S3 => match t with
    | false => .ok false S3
    | true => (ev c σ S3).bind fun z S4 => on2b S4 y z (cmpD p)
  | .and l, σ, S => evTs l σ S
  | .or l, σ, S => evTo l σ S
  | .not t, σ, S => (evT t σ S).bind fun t S1 => .ok (!t) S1
termination_by structural e => e
/-- all of them -/
noncomputable def evTs : List Tst → Sig → Store → R Bool
  | [], _, S => .ok true S
  | e :: l, σ, S => (evT e σ S).bind fun t S1 => match t with
    | true => evTs l σ S1
    | false => .ok false S1
termination_by structural l => l
noncomputable def evTo : List Tst → Sig → Store → R Bool
  | [], _, S => .ok false S
  | e :: l, σ, S => (evT e σ S).bind fun t S1 => match t with
    | true => .ok true S1
    | false => evTo l σ S1
termination_by structural l => l
noncomputable def evs : List Exp → Sig → Store → R (List Val)
  | [], _, S => .ok [] S
  | e :: l, σ, S => (ev e σ S).bind fun v S1 => (evs l σ S1).bind fun r S2 => .ok (v :: r) S2
termination_by structural l => l
/-- a slice's end -/
noncomputable def evO : Option Exp → Sig → Store → R (Option Int)
  | none, _, S => .ok none S
  | some e, σ, S => (ev e σ S).bind fun v S1 => onInt S1 v fun i => .ok (some i) S1
termination_by structural o => o
noncomputable def evI : Ite → Sig → Store → R Src
  | .of e, σ, S => (ev e σ S).bind fun v S1 => R.of (srcOf S1 v) S1
  | .range1 e, σ, S => (ev e σ S).bind fun v S1 => onInt S1 v fun j => R.of ((rangeL 0 j).map fun l => ⟨l, fun _ => True⟩) S1
  | .range2 a b, σ, S => (ev a σ S).bind fun v S1 => (ev b σ S1).bind fun w S2 => onInt S2 v fun i => onInt S2 w fun j => R.of ((rangeL i j).map fun l => ⟨l, fun _ => True⟩) S2
  | .enum e, σ, S => (ev e σ S).bind fun v S1 => R.of ((seqOf S1 v).map fun p => ⟨enumD 0 p.l, p.ck⟩) S1
  | .zip a b, σ, S => (ev a σ S).bind fun v S1 => (ev b σ S1).bind fun w S2 => R.of ((seqOf S2 v).bind fun p => (seqOf S2 w).map fun q => ⟨zipD p.l q.l, fun S => p.ck S ∧ q.ck S⟩) S2
  | .rev e, σ, S => (ev e σ S).bind fun v S1 => R.of ((seqOf S1 v).map fun p => ⟨p.l.reverse, p.ck⟩) S1
termination_by structural i => i
end

mutual
noncomputable def ex : Stm → Sig → Store → R Flow
  | .asg t e, σ, S => (ev C e σ S).bind fun v S1 => match t with
    | .name i => .ok (.nx (σ.set i (some v))) S1
    | .tup l => (match rdv S1 v with
      | some (.tup xs) => (match asgTs σ l xs with
        | some σ1 => .ok (.nx σ1) S1
        | none => .no)
      | _ => .no)
  | .new i e, σ, S => (ev C e σ S).bind fun v S1 => match v with
    | .d (.lst l) => .ok (.nx (σ.set i (some (.ref S1.length)))) (S1 ++ [.lst l])
    | .d (.dct l) => .ok (.nx (σ.set i (some (.ref S1.length)))) (S1 ++ [.dct l])
    | _ => .no
  | .aug i o e, σ, S => match σ[i]? with
    | some (some x) => (ev C e σ S).bind fun y S1 => (on2 S1 x y (augD o)).bind fun z S2 => .ok (.nx (σ.set i (some z))) S2
    | _ => .no
  | .setSub o i e, σ, S => (ev C e σ S).bind fun v S1 => (ev C o σ S1).bind fun a S2 => (ev C i σ S2).bind fun k S3 => match a with
    | .ref n => (match fzv S3 v with
      | some (x, S4) => (match rdv S4 k with
        | some k => (match S4[n]? with
          | some c => (match setC c k x with
            | some c1 => .ok (.nx σ) (S4.set n c1)
            | none => .no)
          | none => .no)
        | none => .no)
      | none => .no)
    | .d _ => .no
  | .expr e, σ, S => (ev C e σ S).bind fun _ S1 => .ok (.nx σ) S1
  | .ret e, σ, S => (ev C e σ S).bind fun v S1 => .ok (.rt v) S1
  | .retNew e, σ, S => (ev C e σ S).bind fun v S1 => match v with
    | .d (.lst l) => .ok (.rt (.ref S1.length)) (S1 ++ [.lst l])
    | .d (.dct l) => .ok (.rt (.ref S1.length)) (S1 ++ [.dct l])
    | _ => .no
  | .retN, _, S => .ok (.rt (.d .non)) S
  | .ite c a b, σ, S => (evT C c σ S).bind fun t S1 => match t with
    | true => exs a σ S1
    | false => exs b σ S1
  | .for_ t it b, σ, S => (evI C it σ S).bind fun p S1 => forL p.ck (fun x σ S => match asgT σ t x with
      | some σ1 => exs b σ1 S
      | none => .no) p.l σ S1
  | .while_ c b, σ, S => whileL (evT C c) (exs b) C.wf σ S
  | .brk, σ, S => .ok (.bk σ) S
  | .cnt, σ, S => .ok (.ct σ) S
  | .pass, σ, S => .ok (.nx σ) S
  | .rse, _, _ => .no
  | .rai c fs es, σ, S => (evs C es σ S).bind fun vs S1 => raiR c fs vs S1
  | .tr b hs, σ, S => match exs b σ S with
    | .exc x S1 => exHs hs x (wipes σ (asgSs b)) S1
    | r => r
termination_by structural s => s
noncomputable def exs : List Stm → Sig → Store → R Flow
  | [], σ, S => .ok (.nx σ) S
  | s :: l, σ, S => (ex s σ S).bind fun f S1 => match f with
    | .nx σ1 => exs l σ1 S1
    | f => .ok f S1
termination_by structural l => l
noncomputable def exH : Hd → Exn → Sig → Store → R Flow
  | .mk _ _ i sb, x, σ, S => unsetR i (exs sb (setX i x σ) S)
termination_by structural l => l
/-- the first clause that takes it -/
noncomputable def exHs : List Hd → Exn → Sig → Store → R Flow
  | [], x, _, S => .exc x S
  | h :: l, x, σ, S => match hdC h x.c with
    | true => exH h x σ S
    | false => exHs l x σ S
termination_by structural l => l
end
end

/-! ### calls of own defs -/
/-- the arguments as the callee sees them: cells that it may change are handed in by their places (refs), other cells by what stands in them (snaps) -/
def prep (S : Store) : List Bool → List Val → List Nat → List Nat → Option (List Val × List Nat × List Nat)
  | _, [], refs, snaps => some ([], refs, snaps)
  | bs, .d x :: l, refs, snaps => match prep S bs.tail l refs snaps with
    | some (r, p) => some (.d x :: r, p)
    | none => none
  | bs, .ref n :: l, refs, snaps => match bs.headD false with
    | true => (match refs.idxOf? n with
      | some j => (match prep S bs.tail l refs snaps with
        | some (r, p) => some (.ref j :: r, p)
        | none => none)
      | none => (match prep S bs.tail l (refs ++ [n]) snaps with
        | some (r, p) => some (.ref refs.length :: r, p)
        | none => none))
    | false => (match rdv S (.ref n) with
      | some x => (match prep S bs.tail l refs (n :: snaps) with
        | some (r, p) => some (.d x :: r, p)
        | none => none)
      | none => none)
mutual
/-- no lists, dicts, objects within -/
def D.flat : D → Bool
  | .tup l => D.flats l
  | .lst _ => false
  | .dct _ => false
  | .ins _ _ => false
  | _ => true
termination_by structural x => x
def D.flats : List D → Bool
  | [] => true
  | x :: l => x.flat && D.flats l
termination_by structural x => x
end
def cellsAt (S : Store) : List Nat → Option Store
  | [] => some []
  | n :: l => match S[n]? with
    | some c => (match cellsAt S l with
      | some r => some (c :: r)
      | none => none)
    | none => none
def putBack (S : Store) : List Nat → Store → Store
  | n :: l, c :: T => putBack (S.set n c) l T
  | _, _ => S
def Cell.flat : Cell → Bool
  | .lst l => D.flats l
  | _ => false
def freezeAll (S : Store) : List Nat → Store
  | [] => S
  | n :: l => match S[n]? with
    | some (.lst m) => freezeAll (S.set n (.fz (.lst m))) l
    | some (.dct m) => freezeAll (S.set n (.fz (.dct m))) l
    | _ => freezeAll S l
/-- behind the callee: T its store -/
def outV (own : Bool) (refs snaps : List Nat) (S T : Store) (v : Val) : R Val :=
  let S1 := putBack S refs T
  match v with
  | .d x => if snaps.isEmpty || (x.flat && (T.take refs.length).all Cell.flat) then .ok (.d x) S1 else .ok (.d x) (freezeAll S1 snaps)
  | .ref j => if j < refs.length then (match refs[j]? with
      | some n => if snaps.isEmpty || (T.take refs.length).all Cell.flat then .ok (.ref n) S1 else .ok (.ref n) (freezeAll S1 snaps)
      | none => .no)
    else (match T[j]? with
      | some c => if own then (if snaps.isEmpty || (c.flat && (T.take refs.length).all Cell.flat) then .ok (.ref S1.length) (S1 ++ [c]) else .ok (.ref S1.length) (freezeAll S1 snaps ++ [c]))
        else (match rdv T (.ref j) with
          | some x => if snaps.isEmpty || (x.flat && (T.take refs.length).all Cell.flat) then .ok (.d x) S1 else .ok (.d x) (freezeAll S1 snaps)
          | none => .no)
      | none => .no)
def outX (refs snaps : List Nat) (S T : Store) (x : Exn) : R Val :=
  if snaps.isEmpty || ((x.fs.all fun p => p.2.flat) && (T.take refs.length).all Cell.flat) then .exc x (putBack S refs T) else .exc x (freezeAll (putBack S refs T) snaps)
/-- a program: its defs, its constants -/
structure Prg where
  fn : Nat → Option Fn
  glo : Nat → Option D
  gdc : Nat → Option (List (List Nat × D))
  wf : Nat
noncomputable def callN (P : Prg) : Nat → Nat → List Val → Store → R Val
  | 0, _, _, _ => .no
  | n + 1, f, vs, S => match P.fn f with
    | none => .no
    | some F => if vs.length = F.np then (match prep S F.byref vs [] [] with
      | some (us, refs, snaps) => (match cellsAt S refs with
        | some T0 => (match exs ⟨callN P n, P.glo, P.gdc, P.wf⟩ F.body (us.map some ++ List.replicate (F.ns - F.np) none) T0 with
          | .ok (.rt v) T => outV F.own refs snaps S T v
          | .ok (.nx _) T => outV F.own refs snaps S T (.d .non)
          | .ok _ _ => .no
          | .exc x T => outX refs snaps S T x
          | .no => .no)
        | none => .no)
      | none => .no) else .no
noncomputable def Prg.cx (P : Prg) (n : Nat) : Cx := ⟨callN P n, P.glo, P.gdc, P.wf⟩
end Ev

end

section
set_option Elab.async false
set_option linter.all false
set_option maxRecDepth 100000
/-! Ev, part 3: what the evaluator says is what the heap's judgements ask. -/
namespace Ev
open PySem PySem.Spec PyProof.Rows
open L2 (V Hp HO PE PT PS PSs PA PG PGs PI TE TT TA TS TG TGs VK SqL SqT Rd Key upd upd_same upd_ne OpR CallR IxR SlR MtR MtM R2 tOp RelV Vals WX Takes Room FnOk Sp XK Ends)

abbrev HCx := L2.Cx
abbrev HSt := L2.St

/-- an exception as the heap has it -/
def ExnRep (R : RC) (F : Hp) (x : Exn) (cls : Value) (d : Option Addr) (H : Hp) : Prop :=
  ∃ C, R.cl x.c = some C ∧ cls = .ref C ∧ ((x.fs = [] ∧ d = none) ∨ ∃ dx xs, d = some dx ∧ F dx = some (.xd xs) ∧ RepF R F x.fs xs)

/-- from (H, F, m) the answer r is had: what follows it is Q, or what is raised is wished for -/
def Post {α β : Type} (R : RC) (W : WX) (rel : Hp → List Addr → α → β → Prop) (τ : HSt) (H F : Hp) (m : List Addr) (r : Ev.R α) (Q : β → Hp → Prop) : Prop :=
  match r with
  | .ok a S' => ∀ b H' F' m', Step H F m H' F' m' → Sim R H' F' m' S' → rel F' m' a b → Q b H'
  | .exc x S' => ∀ cls d H' F' m', Step H F m H' F' m' → Sim R H' F' m' S' → ExnRep R F' x cls d H' → W cls d τ H'
  | .no => False
section
variable {α β γ δ : Type} {R : RC} {W : WX} {rel : Hp → List Addr → α → β → Prop} {rel2 : Hp → List Addr → γ → δ → Prop} {τ : HSt} {H F H1 F1 : Hp} {m m1 : List Addr} {r : Ev.R α} {Q Q' : β → Hp → Prop}
theorem Post.imp (h : Post R W rel τ H F m r Q) (q : ∀ b H', Q b H' → Q' b H') : Post R W rel τ H F m r Q' := by
  cases r with
  | ok a S => exact fun b H' F' m' st sim re => q _ _ (h b H' F' m' st sim re)
  | exc x S => exact h
  | no => exact h
theorem Post.step (st : Step H F m H1 F1 m1) (h : Post R W rel τ H F m r Q) : Post R W rel τ H1 F1 m1 r Q := by
  cases r with
  | ok a S => exact fun b H' F' m' st' sim re => h b H' F' m' (st.trans st') sim re
  | exc x S => exact fun cls d H' F' m' st' sim re => h cls d H' F' m' (st.trans st') sim re
  | no => exact h
theorem Post.bind {f : α → Store → Ev.R γ} {Q2 : δ → Hp → Prop} (h : Post R W rel2 τ H F m (r.bind f) Q2) :
    Post R W rel τ H F m r (fun b H1 => ∃ a S1 F1 m1, Step H F m H1 F1 m1 ∧ Sim R H1 F1 m1 S1 ∧ rel F1 m1 a b ∧ Post R W rel2 τ H1 F1 m1 (f a S1) Q2) := by
  cases r with
  | ok a S => exact fun b H' F' m' st sim re => ⟨a, S, F', m', st, sim, re, Post.step st h⟩
  | exc x S => exact h
  | no => exact h
theorem Post.get {a : α} {S : Store} {b : β} (h : Post R W rel τ H F m (.ok a S) Q) (sim : Sim R H F m S) (re : rel F m a b) : Q b H := h b H F m (Step.refl ..) sim re
end
abbrev relB : Hp → List Addr → Bool → Bool → Prop := fun _ _ a b => a = b
def RepVs (R : RC) (F : Hp) (m : List Addr) : List Val → List V → Prop
  | [], vs => vs = []
  | x :: l, vs => ∃ v r, vs = v :: r ∧ RepV R F m x v ∧ RepVs R F m l r
theorem RepVs.mono {R : RC} {H F H' F' : Hp} {m m' : List Addr} (st : Step H F m H' F' m') : ∀ {l : List Val} {vs : List V}, RepVs R F m l vs → RepVs R F' m' l vs
  | [], _, h => h
  | x :: l, _, ⟨v, r, e, h, t⟩ => ⟨v, r, e, RepV.mono st h, RepVs.mono st t⟩

/-! ### readings by the evaluator -/
section
variable (R : RC) (C : Ev.Cx) (W : WX)
def tE (e : Exp) : TE := fun τ H Q => ∃ σ S F m, Sim R H F m S ∧ RepS R F m σ τ ∧ Post R W (RepV R) τ H F m (ev C e σ S) Q
def tT (e : Tst) : TT := fun τ H Q => ∃ σ S F m, Sim R H F m S ∧ RepS R F m σ τ ∧ Post R W relB τ H F m (evT C e σ S) Q
def tEs (l : List Exp) : TA := fun τ H Q => ∃ σ S F m, Sim R H F m S ∧ RepS R F m σ τ ∧ Post R W (RepVs R) τ H F m (evs C l σ S) Q
end
theorem pe_weak {X : HCx} {e : Expr} {t t' : TE} (h : PE X e t) (w : ∀ σ H Q, t' σ H Q → t σ H Q) : PE X e t' := ⟨fun pins s σ H Q I q => h.run pins s σ H Q I (w σ H Q q)⟩
theorem pt_weak {X : HCx} {e : Expr} {t t' : TT} (h : PT X e t) (w : ∀ σ H Q, t' σ H Q → t σ H Q) : PT X e t' := ⟨fun pins s σ H Q I q => h.run pins s σ H Q I (w σ H Q q)⟩
theorem pw_weak {X : HCx} {e : Expr} {t t' : TT} (h : L2.PW X e t) (w : ∀ σ H Q, t' σ H Q → t σ H Q) : L2.PW X e t' := ⟨fun wh pins s σ H Q I q => h.run wh pins s σ H Q I (w σ H Q q)⟩
theorem pa_weak {X : HCx} {e : List Expr} {t t' : TA} (h : PA X e t) (w : ∀ σ H Q, t' σ H Q → t σ H Q) : PA X e t' := ⟨fun pos pins s σ H Q I q => h.run pos pins s σ H Q I (w σ H Q q)⟩
theorem ps_weak {X : HCx} {e : Stmt} {t t' : TS} (h : PS X e t) (w : ∀ D σ H, t' D σ H → t D σ H) : PS X e t' := ⟨fun pins s σ H D I q => h.run pins s σ H D I (w D σ H q)⟩
theorem pss_weak {X : HCx} {e : List Stmt} {t t' : TS} (h : PSs X e t) (w : ∀ D σ H, t' D σ H → t D σ H) : PSs X e t' := ⟨fun pins s σ H D I q => h.run pins s σ H D I (w D σ H q)⟩

/-! ### values as the heap reads them -/
section
variable {R : RC} {H F : Hp} {m : List Addr} {S : Store}
/-- what a value reads as now -/
theorem rdv_rep (sim : Sim R H F m S) {v : Val} {v' : V} {x : D} (h : RepV R F m v v') (e : rdv S v = some x) : Rep R H x v' := by
  cases v with
  | d y =>
    have e' : y = x := Option.some.inj e
    subst e'
    exact Rep.mono sim.sub h
  | ref n =>
    obtain ⟨a, hm, rfl⟩ := h
    simp only [rdv] at e
    cases hs : S[n]? with
    | none => simp only [hs] at e; cases e
    | some c =>
      simp only [hs] at e
      have hc := sim.cell n c a hs hm
      cases c with
      | lst l =>
        have e' : D.lst l = x := Option.some.inj e
        subst e'
        obtain ⟨_, xs, h1, h2⟩ := hc
        exact ⟨a, xs, rfl, .inl h1, Reps.mono sim.sub h2⟩
      | dct l =>
        have e' : D.dct l = x := Option.some.inj e
        subst e'
        obtain ⟨_, xs, h1, h2⟩ := hc
        exact ⟨a, xs, rfl, h1, RepK.mono sim.sub h2⟩
      | fz y =>
        have e' : y = x := Option.some.inj e
        subst e'
        exact Rep.mono sim.sub hc
/-- .. its parts are frozen -/
theorem rdv_lst (sim : Sim R H F m S) {v : Val} {v' : V} {l : List D} (h : RepV R F m v v') (e : rdv S v = some (.lst l)) : ∃ a xs, v' = .ref a ∧ Rd H a (.lst xs) ∧ Reps R F l xs := by
  cases v with
  | d y =>
    have e' : y = .lst l := Option.some.inj e
    subst e'
    obtain ⟨a, xs, e1, h1, h2⟩ := h
    exact ⟨a, xs, e1, sim.sub.rd h1, h2⟩
  | ref n =>
    obtain ⟨a, hm, rfl⟩ := h
    simp only [rdv] at e
    cases hs : S[n]? with
    | none => simp only [hs] at e; cases e
    | some c =>
      simp only [hs] at e
      have hc := sim.cell n c a hs hm
      cases c with
      | lst k =>
        cases e
        obtain ⟨_, xs, h1, h2⟩ := hc
        exact ⟨a, xs, rfl, .inl h1, h2⟩
      | dct k => cases e
      | fz y =>
        cases e
        obtain ⟨b, xs, e1, h1, h2⟩ := hc
        cases e1
        exact ⟨a, xs, rfl, sim.sub.rd h1, h2⟩
theorem rdv_tup (sim : Sim R H F m S) {v : Val} {v' : V} {l : List D} (h : RepV R F m v v') (e : rdv S v = some (.tup l)) : ∃ a xs, v' = .ref a ∧ SqT R.K F a xs ∧ Reps R F l xs := by
  cases v with
  | d y =>
    have e' : y = .tup l := Option.some.inj e
    subst e'
    exact h
  | ref n =>
    obtain ⟨a, hm, rfl⟩ := h
    simp only [rdv] at e
    cases hs : S[n]? with
    | none => simp only [hs] at e; cases e
    | some c =>
      simp only [hs] at e
      have hc := sim.cell n c a hs hm
      cases c with
      | lst k => cases e
      | dct k => cases e
      | fz y =>
        cases e
        exact hc
theorem rdv_ins (sim : Sim R H F m S) {v : Val} {v' : V} {c : Nat} {fs : List (Nat × D)} (h : RepV R F m v v') (e : rdv S v = some (.ins c fs)) : Rep R F (.ins c fs) v' := by
  cases v with
  | d y =>
    have e' : y = .ins c fs := Option.some.inj e
    subst e'
    exact h
  | ref n =>
    obtain ⟨a, hm, rfl⟩ := h
    simp only [rdv] at e
    cases hs : S[n]? with
    | none => simp only [hs] at e; cases e
    | some c =>
      simp only [hs] at e
      have hc := sim.cell n c a hs hm
      cases c with
      | lst k => cases e
      | dct k => cases e
      | fz y =>
        cases e
        exact hc
theorem rdv_dct (sim : Sim R H F m S) {v : Val} {v' : V} {l : List (D × D)} (h : RepV R F m v v') (e : rdv S v = some (.dct l)) : ∃ a kvs, v' = .ref a ∧ H a = some (.dK kvs) ∧ RepK R F l kvs := by
  cases v with
  | d y =>
    have e' : y = .dct l := Option.some.inj e
    subst e'
    obtain ⟨a, xs, e1, h1, h2⟩ := h
    exact ⟨a, xs, e1, sim.sub _ _ h1, h2⟩
  | ref n =>
    obtain ⟨a, hm, rfl⟩ := h
    simp only [rdv] at e
    cases hs : S[n]? with
    | none => simp only [hs] at e; cases e
    | some c =>
      simp only [hs] at e
      have hc := sim.cell n c a hs hm
      cases c with
      | dct k =>
        cases e
        obtain ⟨_, xs, h1, h2⟩ := hc
        exact ⟨a, xs, rfl, h1, h2⟩
      | lst k => cases e
      | fz y =>
        cases e
        obtain ⟨b, xs, e1, h1, h2⟩ := hc
        cases e1
        exact ⟨a, xs, rfl, sim.sub _ _ h1, h2⟩
/-- a new frozen object -/
theorem Sim.fresh (sim : Sim R H F m S) {p : Addr} (hp : H p = none) : F p = none ∧ p ∉ m := by
  refine ⟨?_, fun h => ?_⟩
  · cases e : F p with
    | none => rfl
    | some u => rw [sim.sub _ _ e] at hp; cases hp
  · obtain ⟨o, e⟩ := sim.trk p h
    rw [hp] at e; cases e
theorem CellRep.mono {H' F' : Hp} {c : Cell} {a : Addr} (h : CellRep R H F c a) (sF : Sub F F') (hF : F a = none → F' a = none) (hH : ∀ o, H a = some o → H' a = some o) : CellRep R H' F' c a := by
  cases c with
  | lst l => obtain ⟨h0, xs, h1, h2⟩ := h; exact ⟨hF h0, xs, hH _ h1, Reps.mono sF h2⟩
  | dct l => obtain ⟨h0, xs, h1, h2⟩ := h; exact ⟨hF h0, xs, hH _ h1, RepK.mono sF h2⟩
  | fz y => exact Rep.mono sF h
theorem Sim.froz (sim : Sim R H F m S) {p : Addr} (o : HO) (hp : H p = none) : Sim R (upd H p o) (upd F p o) m S ∧ Step H F m (upd H p o) (upd F p o) m := by
  obtain ⟨hF, hm⟩ := sim.fresh hp
  have hs : Sub F (upd F p o) := fun a u h => by rw [upd_ne (L2.ne_of_none h hF)]; exact h
  have hne : ∀ a, a ∈ m → a ≠ p := fun a h e => hm (e ▸ h)
  refine ⟨⟨fun a u h => ?_, sim.nd, sim.len, fun a h => ?_, fun n c a h1 h2 => ?_⟩, ⟨hs, fun a u h _ => ?_, fun a h => ?_, ⟨[], by simp⟩, fun a h => .inl h⟩⟩
  · by_cases e : a = p
    · subst e; rw [upd_same] at h ⊢; exact h
    · rw [upd_ne e] at h ⊢; exact sim.sub _ _ h
  · obtain ⟨u, e⟩ := sim.trk a h
    exact ⟨u, by rw [upd_ne (hne a h)]; exact e⟩
  · have ha := hne a (List.mem_of_getElem? h2)
    exact (sim.cell n c a h1 h2).mono hs (fun z => by rw [upd_ne ha]; exact z) fun u z => by rw [upd_ne ha]; exact z
  · rw [upd_ne (L2.ne_of_none h hp)]; exact h
  · by_cases e : a = p
    · subst e; exact .inr (.inl hp)
    · rw [upd_ne e] at h; exact .inl h
/-- a cell is written -/
theorem Sim.put (sim : Sim R H F m S) {n : Nat} {a : Addr} {c : Cell} (o : HO) (hm : m[n]? = some a) (hF : F a = none) (hc : CellRep R (upd H a o) F c a) : Sim R (upd H a o) F m (S.set n c) ∧ Step H F m (upd H a o) F m := by
  have hmem : a ∈ m := List.mem_of_getElem? hm
  refine ⟨⟨fun b u h => ?_, sim.nd, by simp [sim.len], fun b h => ?_, fun k d b h1 h2 => ?_⟩, ⟨Sub.refl _, fun b u h hb => ?_, fun b h => .inl h, ⟨[], by simp⟩, fun b h => .inl h⟩⟩
  · rw [upd_ne (L2.ne_of_none h hF)]; exact sim.sub _ _ h
  · by_cases e : b = a
    · subst e; exact ⟨o, upd_same⟩
    · obtain ⟨u, q⟩ := sim.trk b h
      exact ⟨u, by rw [upd_ne e]; exact q⟩
  · by_cases hk : k = n
    · subst hk
      rw [hm] at h2; cases h2
      have hl : k < S.length := by
        rw [← sim.len]
        rcases Nat.lt_or_ge k m.length with q | q
        · exact q
        · rw [List.getElem?_eq_none q] at hm; cases hm
      rw [List.getElem?_set_self hl] at h1; cases h1
      exact hc
    · rw [List.getElem?_set_ne (Ne.symm hk)] at h1
      have hb : b ≠ a := fun e => by
        subst e
        exact hk ((List.getElem?_inj (by
          rcases Nat.lt_or_ge k m.length with q | q
          · exact q
          · rw [List.getElem?_eq_none q] at h2; cases h2) sim.nd).mp (h2.trans hm.symm))
      exact (sim.cell k d b h1 h2).mono (Sub.refl _) (fun z => z) fun u z => by rw [upd_ne hb]; exact z
  · rw [upd_ne (fun e => hb (by rw [e]; exact hmem))]; exact h
/-- a new cell -/
theorem Sim.push (sim : Sim R H F m S) {p : Addr} {c : Cell} (o : HO) (hp : H p = none) (hc : CellRep R (upd H p o) F c p) : Sim R (upd H p o) F (m ++ [p]) (S ++ [c]) ∧ Step H F m (upd H p o) F (m ++ [p]) := by
  obtain ⟨hF, hm⟩ := sim.fresh hp
  have hne : ∀ a, a ∈ m → a ≠ p := fun a h e => hm (e ▸ h)
  refine ⟨⟨fun b u h => ?_, ?_, by simp [sim.len], fun b h => ?_, fun k d b h1 h2 => ?_⟩, ⟨Sub.refl _, fun b u h hb => ?_, fun b h => .inl h, ⟨[p], rfl⟩, fun b h => ?_⟩⟩
  · rw [upd_ne (L2.ne_of_none h hF)]; exact sim.sub _ _ h
  · rw [List.nodup_append]
    exact ⟨sim.nd, by simp, fun a h b hb => by simp at hb; subst hb; exact hne a h⟩
  · rcases List.mem_append.mp h with h | h
    · obtain ⟨u, q⟩ := sim.trk b h
      exact ⟨u, by rw [upd_ne (hne b h)]; exact q⟩
    · simp at h; subst h; exact ⟨o, upd_same⟩
  · by_cases hk : k < m.length
    · rw [List.getElem?_append_left (by rw [← sim.len]; exact hk)] at h1
      rw [List.getElem?_append_left hk] at h2
      have hb := hne b (List.mem_of_getElem? h2)
      exact (sim.cell k d b h1 h2).mono (Sub.refl _) (fun z => z) fun u z => by rw [upd_ne hb]; exact z
    · have hk' : m.length ≤ k := Nat.le_of_not_lt hk
      rw [List.getElem?_append_right (by rw [← sim.len]; exact hk')] at h1
      rw [List.getElem?_append_right hk'] at h2
      rw [← sim.len] at h1
      generalize k - m.length = j at h1 h2
      cases j with
      | zero => simp at h1 h2; subst h1 h2; exact hc
      | succ j => simp at h1
  · rw [upd_ne (L2.ne_of_none h hp)]; exact h
  · rcases List.mem_append.mp h with h | h
    · exact .inl h
    · simp at h; subst h; exact .inr hp
/-- a cell is frozen -/
theorem Sim.freeze (sim : Sim R H F m S) {n : Nat} {a : Addr} {o : HO} {x : D} (hm : m[n]? = some a) (hH : H a = some o) (hx : Rep R (upd F a o) x (.ref a)) (hF : F a = none) :
    Sim R H (upd F a o) m (S.set n (.fz x)) ∧ Step H F m H (upd F a o) m := by
  have hs : Sub F (upd F a o) := fun b u h => by rw [upd_ne (L2.ne_of_none h hF)]; exact h
  refine ⟨⟨fun b u h => ?_, sim.nd, by simp [sim.len], sim.trk, fun k d b h1 h2 => ?_⟩, ⟨hs, fun b u h hb => h, fun b h => ?_, ⟨[], by simp⟩, fun b h => .inl h⟩⟩
  · by_cases e : b = a
    · subst e; rw [upd_same] at h; cases h; exact hH
    · rw [upd_ne e] at h; exact sim.sub _ _ h
  · by_cases hk : k = n
    · subst hk
      rw [hm] at h2; cases h2
      have hl : k < S.length := by
        rw [← sim.len]
        rcases Nat.lt_or_ge k m.length with q | q
        · exact q
        · rw [List.getElem?_eq_none q] at hm; cases hm
      rw [List.getElem?_set_self hl] at h1; cases h1
      exact hx
    · rw [List.getElem?_set_ne (Ne.symm hk)] at h1
      have hb : b ≠ a := fun e => by
        subst e
        exact hk ((List.getElem?_inj (by
          rcases Nat.lt_or_ge k m.length with q | q
          · exact q
          · rw [List.getElem?_eq_none q] at h2; cases h2) sim.nd).mp (h2.trans hm.symm))
      exact (sim.cell k d b h1 h2).mono hs (fun z => by rw [upd_ne hb]; exact z) fun u z => z
  · by_cases e : b = a
    · subst e; exact .inr (.inr (List.mem_of_getElem? hm))
    · rw [upd_ne e] at h; exact .inl h
/-- a value is frozen -/
theorem fzv_ok (sim : Sim R H F m S) {v : Val} {v' : V} {x : D} {S1 : Store} (h : RepV R F m v v') (e : fzv S v = some (x, S1)) : ∃ F1, Sim R H F1 m S1 ∧ Step H F m H F1 m ∧ Rep R F1 x v' := by
  cases v with
  | d y =>
    simp only [fzv, Option.some.injEq, Prod.mk.injEq] at e
    obtain ⟨rfl, rfl⟩ := e
    exact ⟨F, sim, Step.refl .., h⟩
  | ref n =>
    obtain ⟨a, hm, rfl⟩ := h
    simp only [fzv] at e
    cases hs : S[n]? with
    | none => simp only [hs] at e; cases e
    | some c =>
      simp only [hs] at e
      have hc := sim.cell n c a hs hm
      cases c with
      | lst l =>
        simp only [Option.some.injEq, Prod.mk.injEq] at e
        obtain ⟨rfl, rfl⟩ := e
        obtain ⟨h0, xs, h1, h2⟩ := hc
        have hs : Sub F (upd F a (.lst xs)) := fun b u h => by rw [upd_ne (L2.ne_of_none h h0)]; exact h
        have hx : Rep R (upd F a (.lst xs)) (.lst l) (.ref a) := ⟨a, xs, rfl, .inl upd_same, Reps.mono hs h2⟩
        obtain ⟨s1, s2⟩ := sim.freeze hm h1 hx h0
        exact ⟨_, s1, s2, hx⟩
      | dct l =>
        simp only [Option.some.injEq, Prod.mk.injEq] at e
        obtain ⟨rfl, rfl⟩ := e
        obtain ⟨h0, xs, h1, h2⟩ := hc
        have hs : Sub F (upd F a (.dK xs)) := fun b u h => by rw [upd_ne (L2.ne_of_none h h0)]; exact h
        have hx : Rep R (upd F a (.dK xs)) (.dct l) (.ref a) := ⟨a, xs, rfl, upd_same, RepK.mono hs h2⟩
        obtain ⟨s1, s2⟩ := sim.freeze hm h1 hx h0
        exact ⟨_, s1, s2, hx⟩
      | fz y =>
        simp only [Option.some.injEq, Prod.mk.injEq] at e
        obtain ⟨rfl, rfl⟩ := e
        exact ⟨F, sim, Step.refl .., hc⟩
theorem fzs_ok : ∀ {vs : List Val} {vs' : List V} {F : Hp} {S : Store} {xs : List D} {S1 : Store}, Sim R H F m S → RepVs R F m vs vs' → fzs S vs = some (xs, S1) → ∃ F1, Sim R H F1 m S1 ∧ Step H F m H F1 m ∧ Reps R F1 xs vs'
  | [], _, F, S, xs, S1, sim, h, e => by
    simp only [fzs, Option.some.injEq, Prod.mk.injEq] at e
    obtain ⟨rfl, rfl⟩ := e
    exact ⟨F, sim, Step.refl .., h⟩
  | v :: l, _, F, S, xs, S1, sim, ⟨v', r, e0, h, t⟩, e => by
    subst e0
    simp only [fzs] at e
    cases q : fzv S v with
    | none => simp only [q] at e; cases e
    | some p =>
      obtain ⟨x, S2⟩ := p
      simp only [q] at e
      obtain ⟨F2, sim2, st2, hx⟩ := fzv_ok sim h q
      cases q2 : fzs S2 l with
      | none => simp only [q2] at e; cases e
      | some p =>
        obtain ⟨xs2, S3⟩ := p
        simp only [q2, Option.some.injEq, Prod.mk.injEq] at e
        obtain ⟨rfl, rfl⟩ := e
        obtain ⟨F3, sim3, st3, hxs⟩ := fzs_ok sim2 (RepVs.mono st2 t) q2
        exact ⟨F3, sim3, st2.trans st3, ⟨v', r, rfl, Rep.mono st3.sub hx, hxs⟩⟩
end
end Ev

end

section
set_option Elab.async false
set_option linter.all false
set_option maxRecDepth 100000
/-! Ev, part 4: operations on values. -/
namespace Ev
open PySem PySem.Spec PyProof.Rows
open L2 (V Hp HO PE PT PS PSs PA PG PGs PI TE TT TA TS TG TGs VK SqL SqT Rd Key upd upd_same upd_ne OpR CallR IxR SlR MtR MtM R2 tOp RelV Vals WX Takes Room FnOk Sp XK Ends rI rI0 CMul CDiv CPow)

theorem big_eq : big = sizeLine := by rw [sizeLine_eq]; rfl
theorem OpR.or {X : HCx} {f : Value → Value → Sem Value} {r r' : R2} (h : OpR X f r) (h' : OpR X f r') : OpR X f (fun x y H Q => r x y H Q ∨ r' x y H Q) := by
  intro pins s σ H x y v u Q I rx ry q
  rcases q with q | q
  · exact h pins s σ H x y v u Q I rx ry q
  · exact h' pins s σ H x y v u Q I rx ry q
theorem OpR.none {X : HCx} {f : Value → Value → Sem Value} : OpR X f (fun _ _ _ _ => False) := fun _ _ _ _ _ _ _ _ _ _ _ _ q => q.elim

/-! ### lists: + and *, as they may be read -/
def rCatR : R2 := fun x y H Q => ∃ l b xs zs, x = .ref l ∧ y = .ref b ∧ Rd H l (.lst xs) ∧ Rd H b (.lst zs) ∧ xs.length + zs.length ≤ sizeLine ∧ ∀ p, H p = none → Q (.ref p) (upd H p (.lst (xs ++ zs)))
theorem Rd.lstM {X : HCx} {pins : List (Addr × Obj)} {σ : HSt} {H : Hp} {s : Shared} {l : Addr} {xs : List V} (I : L2.Inv X pins σ H s) (h : Rd H l (.lst xs)) :
    xs.length ≤ sizeLine ∧ ∃ (its : List Value) (n : Nat), Vals xs its ∧ xs.length = its.length ∧ s.heap.get? l = some { cls := .type "list", data := .seq its.toArray n } := by
  obtain ⟨z, its, n, r, e⟩ := (h.ok I.hok : L2.ObjOk X.prog X.w H s.heap l (.lst xs))
  exact ⟨z, its, n, r, r.length, e⟩
theorem op_catR {X : HCx} : OpR X (binaryOp .Add) rCatR := by
  intro pins s σ H x y v u Q I rx ry h
  obtain ⟨l, b, xs, zs, rfl, rfl, hH, hB, hz, q⟩ := h
  cases rx
  cases ry
  obtain ⟨z, its, n, r, hl, e⟩ := Rd.lstM I hH
  obtain ⟨z2, its2, n2, r2, hl2, e2⟩ := Rd.lstM I hB
  refine PySem.P.add_list e e2 ?_ (by simp only [List.size_toArray]; omega)
  rw [show its.toArray ++ its2.toArray = (its ++ its2).toArray by simp]
  exact ⟨.ref _, _, I.lnew (t' := s.toks) (r.append r2) (by rw [List.length_append]; omega), rfl, q _ I.fresh⟩

def rRepR : R2 := fun x y H Q => ∃ l k xs, x = .ref l ∧ y = .int k ∧ Rd H l (.lst xs) ∧ 0 ≤ k ∧ k ≤ 1000 ∧ xs.length ≤ 1000 ∧
  ∀ p, H p = none → Q (.ref p) (upd H p (.lst (List.replicate k.toNat xs).flatten))
theorem op_repR {X : HCx} : OpR X (binaryOp .Mult) rRepR := by
  intro pins s σ H x y v u Q I rx ry h
  obtain ⟨l, k, xs, rfl, rfl, hH, h1, h2, hz, q⟩ := h
  cases rx
  obtain ⟨t, rfl⟩ := ry
  obtain ⟨z, its, n, r, hl, e⟩ := Rd.lstM I hH
  have hb : its.length * k.toNat ≤ 1000000 := Nat.le_trans (Nat.mul_le_mul (show its.length ≤ 1000 by omega) (show k.toNat ≤ 1000 by omega)) (by decide)
  have hlen : its.toArray.size * k.toNat ≤ sizeLine := by
    rw [List.size_toArray]
    exact Nat.le_trans hb (by decide)
  have hcap : ¬ its.toArray.size * k.toNat > (2 ^ 63 - 1) / 8 := by
    have : (sizeLine : Nat) ≤ (2 ^ 63 - 1) / 8 := by decide
    omega
  have hfit : ¬ (!Builtin.List.listFitsIndex k) = true := by
    rw [fitsIndex_both (by omega) (by omega)]
    exact Bool.false_ne_true
  have hlong : ¬ Builtin.List.listTooLong (its.toArray.size * k.toNat) = true := by
    rw [L2.notLongL hlen]
    exact Bool.false_ne_true
  have hnew : List.foldl (fun x1 x2 => x1 ++ x2) #[] (List.replicate (if its.toArray.isEmpty = true then 0 else k.toNat) its.toArray) = (List.replicate k.toNat its).flatten.toArray := by
    have f0 : ∀ m : Nat, List.foldl (fun x1 x2 => x1 ++ x2) #[] (List.replicate m its.toArray) = (List.replicate m its).flatten.toArray := fun m => by
      have := L2.foldl_rep its m []
      rw [List.nil_append] at this
      exact this
    rw [f0]
    cases its with
    | nil => simp
    | cons a r' => rw [if_neg (by simp)]
  refine wpAny_binaryOp_repeat_ref (T := "list") (U := "int") (by decide) ⟨_, e, rfl⟩ (fun s' => typeIs_int s' k t) noFill_list_mul F.fills_int_mul F.slot_int_rmul repeat_list F.slot_int_index.lookup
    (call_meets F.slot_int_rmul (typeIs_int s k t) F.entry_int_rmul (F.args_int_rmul_2 _ _) (int___rmul___int_list k t l its.toArray n)
      ⟨e, rfl, ⟨_, e, rfl⟩, call_meets F.slot_list_mul ⟨_, e, rfl⟩ F.entry_list_mul (F.args_list_mul_2 _ _) (AutoListH.list___mul___list_int_3 l its.toArray n k t hfit hcap hlong) ⟨e, ?_⟩⟩)
  rw [hnew]
  exact ⟨.ref _, _, I.lnew (t' := s.toks) (r.rep k.toNat) (by rw [PyProof.Rows.lm_len_rep_flat, Nat.mul_comm]; rw [hl]; exact Nat.le_trans hb (by decide)), rfl, q _ I.fresh⟩

/-- a text times a number -/
def rRepS : R2 := fun x y H Q => ∃ z k, x = .str z ∧ y = .int k ∧ 2 ≤ k ∧ k ≤ 1000 ∧ 1 ≤ z.length ∧ z.length ≤ 1000 ∧ Q (.str ⟨((List.replicate k.toNat z.cps.toList).flatten).toArray⟩) H
theorem rep_fold (a : Array Nat) : ∀ (m : Nat) (acc : Array Nat), (List.replicate m a).foldl (· ++ ·) acc = acc ++ ((List.replicate m a.toList).flatten).toArray
  | 0, acc => by simp
  | m + 1, acc => by
    rw [List.replicate_succ, List.foldl_cons, rep_fold a m, List.replicate_succ, List.flatten_cons, Array.append_assoc]
    congr 1
    apply Array.ext'
    simp
theorem op_repS {X : HCx} : OpR X (binaryOp .Mult) rRepS := by
  intro pins s σ H x y v u Q I rx ry h
  obtain ⟨z, k, rfl, rfl, h1, h2, h3, h4, q⟩ := h
  obtain ⟨t, rfl⟩ := rx
  obtain ⟨t2, rfl⟩ := ry
  have e0 : ¬ k < 1 := by omega
  have e1 : (k == 1 || z.length == 0) = false := by
    simp only [Bool.or_eq_false_iff, beq_eq_false_iff_ne, ne_eq]
    exact ⟨by omega, by omega⟩
  have hm : z.length * k.toNat ≤ 1000000 := Nat.le_trans (Nat.mul_le_mul h4 (show k.toNat ≤ 1000 by omega)) (by decide)
  refine PySem.SB.mul ⟨?_, fun _ _ => ?_, fun _ _ => ?_⟩ fun t' kk => ⟨.str _, H, I.tok _, ⟨_, rfl⟩, ?_⟩
  · simp only [Bool.or_eq_false_iff, decide_eq_false_iff_not]
    exact ⟨by omega, by omega⟩
  · have : (1000 : Int) ≤ (2 ^ 63 - 1) / k := Int.le_ediv_of_mul_le (by omega) (by omega)
    omega
  · exact decide_eq_false (Nat.not_lt.mpr (Nat.le_trans hm (by decide)))
  · have e2 : PySem.Txt.mul z k = ⟨((List.replicate k.toNat z.cps.toList).flatten).toArray⟩ := by
      unfold PySem.Txt.mul
      rw [if_neg e0, e1, if_neg (by decide), rep_fold]
      simp
    rw [e2]
    exact q

/-- the operators of the small language -/
def bop : Bop → Operator
  | .add => .Add | .sub => .Sub | .mul => .Mult | .fdiv => .FloorDiv | .mod => .Mod | .pow => .Pow | .shl => .LShift | .shr => .RShift | .band => .BitAnd
def rBin (K : PySem.W.Frag) : Bop → R2
  | .add => fun x y H Q => (((rI0 fun i j => .int (i + j)) x y H Q ∨ (∃ i j, x = .str i ∧ y = .str j ∧ i.length + j.length ≤ sizeLine ∧ Q (.str (i ++ j)) H)) ∨ L2.rCatA K x y H Q) ∨ rCatR x y H Q
  | .sub => rI0 fun i j => .int (i - j)
  | .mul => fun x y H Q => ((rI CMul fun i j => .int (i * j)) x y H Q ∨ rRepR x y H Q) ∨ rRepS x y H Q
  | .fdiv => rI CDiv fun i j => .int (i / j)
  | .mod => rI (fun _ j => 0 < j) fun i j => .int (i % j)
  | .pow => rI CPow fun i j => .int (i ^ j.toNat)
  | .shl => rI CPow fun i j => .int (i * 2 ^ j.toNat)
  | .shr => rI (fun _ j => 0 ≤ j) fun i j => .int (i / 2 ^ j.toNat)
  | .band => fun _ _ _ _ => False
theorem op_bin {X : HCx} : ∀ o : Bop, OpR X (binaryOp (bop o)) (rBin X.K o)
  | .add => ((L2.op_add.or L2.op_add_str).or L2.op_catA).or op_catR
  | .sub => L2.op_sub
  | .mul => (L2.op_mul.or op_repR).or op_repS
  | .fdiv => L2.op_fdiv
  | .mod => L2.op_mod
  | .pow => L2.op_pow
  | .shl => L2.op_shl
  | .shr => L2.op_shr
  | .band => OpR.none

section
variable {R : RC} {W : WX} {τ : HSt} {H F : Hp} {m : List Addr} {S : Store} {Q : VK}
theorem on2_inv {x y : Val} {f : D → D → Option D} (h : Post R W (RepV R) τ H F m (on2 S x y f) Q) : ∃ a b z, rdv S x = some a ∧ rdv S y = some b ∧ f a b = some z ∧ Post R W (RepV R) τ H F m (.ok (.d z) S) Q := by
  unfold on2 at h
  cases ha : rdv S x with
  | none => rw [ha] at h; exact h.elim
  | some a =>
    cases hb : rdv S y with
    | none => rw [ha, hb] at h; exact h.elim
    | some b =>
      rw [ha, hb] at h
      cases hz : f a b with
      | none => simp only [hz] at h; exact h.elim
      | some z => simp only [hz] at h; exact ⟨a, b, z, rfl, rfl, hz, h⟩
theorem on1_inv {x : Val} {f : D → Option D} (h : Post R W (RepV R) τ H F m (on1 S x f) Q) : ∃ a z, rdv S x = some a ∧ f a = some z ∧ Post R W (RepV R) τ H F m (.ok (.d z) S) Q := by
  unfold on1 at h
  cases ha : rdv S x with
  | none => rw [ha] at h; exact h.elim
  | some a =>
    rw [ha] at h
    cases hz : f a with
    | none => simp only [hz] at h; exact h.elim
    | some z => simp only [hz] at h; exact ⟨a, z, rfl, hz, h⟩
theorem on2b_inv {x y : Val} {f : D → D → Option Bool} {Q : Bool → Hp → Prop} (h : Post R W relB τ H F m (on2b S x y f) Q) : ∃ a b z, rdv S x = some a ∧ rdv S y = some b ∧ f a b = some z ∧ Post R W relB τ H F m (.ok z S) Q := by
  unfold on2b at h
  cases ha : rdv S x with
  | none => rw [ha] at h; exact h.elim
  | some a =>
    cases hb : rdv S y with
    | none => rw [ha, hb] at h; exact h.elim
    | some b =>
      rw [ha, hb] at h
      cases hz : f a b with
      | none => simp only [hz] at h; exact h.elim
      | some z => simp only [hz] at h; exact ⟨a, b, z, rfl, rfl, hz, h⟩
/-- a frozen new object is handed on -/
theorem Post.new {o : HO} {z : D} (sim : Sim R H F m S) (h : Post R W (RepV R) τ H F m (.ok (.d z) S) Q) (hz : ∀ p, H p = none → Rep R (upd F p o) z (.ref p)) : ∀ p, H p = none → Q (.ref p) (upd H p o) := fun p hp => by
  obtain ⟨s1, s2⟩ := sim.froz o hp
  exact h _ _ _ _ s2 s1 (hz p hp)
theorem sub_upd (sim : Sim R H F m S) {p : Addr} {o : HO} (hp : H p = none) : Sub F (upd F p o) := fun a u h => by rw [upd_ne (L2.ne_of_none h (sim.fresh hp).1)]; exact h
theorem Post.newL {l : List D} {xs : List V} (sim : Sim R H F m S) (hl : Reps R F l xs) (h : Post R W (RepV R) τ H F m (.ok (.d (.lst l)) S) Q) : ∀ p, H p = none → Q (.ref p) (upd H p (.lst xs)) :=
  Post.new sim h fun p hp => ⟨p, xs, rfl, .inl upd_same, Reps.mono (sub_upd sim hp) hl⟩
theorem Post.newT {l : List D} {xs : List V} (sim : Sim R H F m S) (hl : Reps R F l xs) (h : Post R W (RepV R) τ H F m (.ok (.d (.tup l)) S) Q) : ∀ p, H p = none → Q (.ref p) (upd H p (.tup xs)) :=
  Post.new sim h fun p hp => ⟨p, xs, rfl, .inl (.inl upd_same), Reps.mono (sub_upd sim hp) hl⟩

theorem Reps.nil_iff {l : List D} {xs : List V} (h : Reps R F l xs) : xs = [] ↔ l = [] := by
  have := h.length
  constructor
  · intro e; subst e; exact List.eq_nil_of_length_eq_zero (by simpa using this)
  · intro e; subst e; exact List.eq_nil_of_length_eq_zero (by simpa using this.symm)
theorem Reps.flatten {l : List D} {xs : List V} (h : Reps R F l xs) : ∀ k : Nat, Reps R F (List.replicate k l).flatten (List.replicate k xs).flatten
  | 0 => rfl
  | k + 1 => by
    rw [List.replicate_succ, List.replicate_succ, List.flatten_cons, List.flatten_cons]
    exact h.append (Reps.flatten h k)
theorem bin_val (o : Bop) {x y : Val} {x' y' : V} (sim : Sim R H F m S) (rx : RepV R F m x x') (ry : RepV R F m y y') (h : Post R W (RepV R) τ H F m (on2 S x y (binD o)) Q) : rBin R.K o x' y' H Q := by
  obtain ⟨a, b, z, ha, hb, hz, h⟩ := on2_inv h
  have ra := rdv_rep sim rx ha
  have rb := rdv_rep sim ry hb
  unfold binD at hz
  split at hz
  · cases hz; cases ra; cases rb
    exact .inl (.inl (.inl ⟨_, _, rfl, rfl, h.get sim rfl⟩))
  · split at hz
    · rename_i i j hle
      cases hz; cases ra; cases rb
      refine .inl (.inl (.inr ⟨_, _, rfl, rfl, by rw [← big_eq]; simpa [Str.length] using hle, ?_⟩))
      refine h.get sim ?_
      show V.str _ = V.str _
      congr 1
      show Str.append _ _ = _
      simp [Str.append]
    · cases hz
  · split at hz
    · rename_i hle
      cases hz
      obtain ⟨p, xs, rfl, h1, h2⟩ := rdv_tup sim rx ha
      obtain ⟨q, ys, rfl, h3, h4⟩ := rdv_tup sim ry hb
      refine .inl (.inr ⟨p, q, xs, ys, rfl, rfl, sim.sub.sqT h1, sim.sub.sqT h3, by rw [← big_eq, ← h2.length, ← h4.length]; exact hle, fun e => ?_, fun _ e => ?_, fun _ _ => Post.newT sim (h2.append h4) h⟩)
      · have e' := h2.nil_iff.mp e
        subst e'
        rw [List.nil_append] at h
        exact h.get sim ⟨q, ys, rfl, h3, h4⟩
      have e' := h4.nil_iff.mp e
      subst e'
      rw [List.append_nil] at h
      exact h.get sim ⟨p, xs, rfl, h1, h2⟩
    · cases hz
  · split at hz
    · rename_i hle
      cases hz
      obtain ⟨p, xs, rfl, h1, h2⟩ := rdv_lst sim rx ha
      obtain ⟨q, ys, rfl, h3, h4⟩ := rdv_lst sim ry hb
      exact .inr ⟨p, q, xs, ys, rfl, rfl, h1, h3, by rw [← big_eq, ← h2.length, ← h4.length]; exact hle, Post.newL sim (h2.append h4) h⟩
    · cases hz
  · cases hz; cases ra; cases rb
    exact ⟨_, _, rfl, rfl, h.get sim rfl⟩
  · split at hz
    · rename_i hle
      cases hz; cases ra; cases rb
      exact .inl (.inl ⟨_, _, rfl, rfl, hle, h.get sim rfl⟩)
    · cases hz
  · split at hz
    · rename_i hle
      cases hz; cases ra; cases rb
      refine .inr ⟨_, _, rfl, rfl, hle.1, hle.2.1, by simpa [Str.length] using hle.2.2.1, by simpa [Str.length] using hle.2.2.2, h.get sim ?_⟩
      show V.str _ = V.str _
      simp
    · cases hz
  · split at hz
    · rename_i hle
      cases hz
      obtain ⟨p, xs, rfl, h1, h2⟩ := rdv_lst sim rx ha
      cases rb
      exact .inl (.inr ⟨p, _, xs, rfl, rfl, h1, hle.1, hle.2.1, by rw [← h2.length]; exact hle.2.2, Post.newL sim (h2.flatten _) h⟩)
    · cases hz
  · split at hz
    · rename_i hle
      cases hz; cases ra; cases rb
      exact ⟨_, _, rfl, rfl, hle, h.get sim rfl⟩
    · cases hz
  · split at hz
    · rename_i hle
      cases hz; cases ra; cases rb
      exact ⟨_, _, rfl, rfl, hle, h.get sim rfl⟩
    · cases hz
  · split at hz
    · rename_i hle
      cases hz; cases ra; cases rb
      exact ⟨_, _, rfl, rfl, hle, h.get sim rfl⟩
    · cases hz
  · split at hz
    · rename_i hle
      cases hz; cases ra; cases rb
      exact ⟨_, _, rfl, rfl, hle, h.get sim rfl⟩
    · cases hz
  · split at hz
    · rename_i hle
      cases hz; cases ra; cases rb
      exact ⟨_, _, rfl, rfl, hle, h.get sim rfl⟩
    · cases hz
  · cases hz
end
end Ev

end

section
set_option Elab.async false
set_option linter.all false
set_option maxRecDepth 100000
/-! Ev: == between a dict and what is none. -/
namespace Ev.DEq
open PySem PySem.SeqAt PySem.MeetsSeq PySem.MeetsSeq2 PySem.MeetsSeq3 PySem.SeqRoads2
open AutoSeq1 (wpAny_loadPart')
/-- a dict object, however it is filled -/
structure IsD (h : Heap) (a : Addr) : Prop where
  ex : ∃ (dd : Option Addr) (es : Array DictEntry) (n : Nat) (sl : Array (Option Value)), h.get? a = some ⟨.type "dict", dd, .dict es n, sl⟩
abbrev dO (dd : Option Addr) (es : Array DictEntry) (n : Nat) (sl : Array (Option Value)) : Obj := ⟨.type "dict", dd, .dict es n, sl⟩
abbrev sO (c : String) (dd : Option Addr) (its : Array Value) (n : Nat) (sl : Array (Option Value)) : Obj := ⟨.type c, dd, .seq its n, sl⟩

theorem dec_d_none (a : Addr) (dd : Option Addr) (es : Array DictEntry) (n : Nat) (sl : Array (Option Value))  :
    Meets (Builtin.«dict.__eq__» ⟨[.ref a, .none], []⟩) (fun _ R s => s.heap.get? a = some (dO dd es n sl) ∧ R (.ok (.ret .notImplemented)) s) :=
  .of_wp fun prog w A R s h => by
    obtain ⟨hp, g, d, tk, os⟩ := s
    obtain ⟨hl, h⟩ := h
    have f1 := F.sub_NoneType_dict
    wp_walk using wpAny_loadPart' hl
    exact ⟨_, rfl, h⟩
theorem dec_d_bool (a : Addr) (dd : Option Addr) (es : Array DictEntry) (n : Nat) (sl : Array (Option Value)) (k : Bool) :
    Meets (Builtin.«dict.__eq__» ⟨[.ref a, .bool k], []⟩) (fun _ R s => s.heap.get? a = some (dO dd es n sl) ∧ R (.ok (.ret .notImplemented)) s) :=
  .of_wp fun prog w A R s h => by
    obtain ⟨hp, g, d, tk, os⟩ := s
    obtain ⟨hl, h⟩ := h
    have f1 := F.sub_bool_dict
    wp_walk using wpAny_loadPart' hl
    exact ⟨_, rfl, h⟩
theorem dec_d_int (a : Addr) (dd : Option Addr) (es : Array DictEntry) (n : Nat) (sl : Array (Option Value)) (k : Int) (u : Tok) :
    Meets (Builtin.«dict.__eq__» ⟨[.ref a, .int k u], []⟩) (fun _ R s => s.heap.get? a = some (dO dd es n sl) ∧ R (.ok (.ret .notImplemented)) s) :=
  .of_wp fun prog w A R s h => by
    obtain ⟨hp, g, d, tk, os⟩ := s
    obtain ⟨hl, h⟩ := h
    have f1 := F.sub_int_dict
    wp_walk using wpAny_loadPart' hl
    exact ⟨_, rfl, h⟩
theorem dec_d_str (a : Addr) (dd : Option Addr) (es : Array DictEntry) (n : Nat) (sl : Array (Option Value)) (k : Str) (u : Tok) :
    Meets (Builtin.«dict.__eq__» ⟨[.ref a, .str k u], []⟩) (fun _ R s => s.heap.get? a = some (dO dd es n sl) ∧ R (.ok (.ret .notImplemented)) s) :=
  .of_wp fun prog w A R s h => by
    obtain ⟨hp, g, d, tk, os⟩ := s
    obtain ⟨hl, h⟩ := h
    have f1 := F.sub_str_dict
    wp_walk using wpAny_loadPart' hl
    exact ⟨_, rfl, h⟩
theorem dec_bool_d (a : Addr) (dd : Option Addr) (es : Array DictEntry) (n : Nat) (sl : Array (Option Value)) (k : Bool) :
    Meets (Builtin.«int.__eq__» ⟨[.bool k, .ref a], []⟩) (fun _ R s => s.heap.get? a = some (dO dd es n sl) ∧ R (.ok (.ret .notImplemented)) s) :=
  .of_wp fun prog w A R s h => by
    obtain ⟨hp, g, d, tk, os⟩ := s
    obtain ⟨hl, h⟩ := h
    have f1 := F.sub_dict_int
    wp_walk using wpAny_loadPart' hl
    exact ⟨_, rfl, h⟩
theorem dec_int_d (a : Addr) (dd : Option Addr) (es : Array DictEntry) (n : Nat) (sl : Array (Option Value)) (k : Int) (u : Tok) :
    Meets (Builtin.«int.__eq__» ⟨[.int k u, .ref a], []⟩) (fun _ R s => s.heap.get? a = some (dO dd es n sl) ∧ R (.ok (.ret .notImplemented)) s) :=
  .of_wp fun prog w A R s h => by
    obtain ⟨hp, g, d, tk, os⟩ := s
    obtain ⟨hl, h⟩ := h
    have f1 := F.sub_dict_int
    wp_walk using wpAny_loadPart' hl
    exact ⟨_, rfl, h⟩
theorem dec_str_d (a : Addr) (dd : Option Addr) (es : Array DictEntry) (n : Nat) (sl : Array (Option Value)) (k : Str) (u : Tok) :
    Meets (Builtin.«str.__eq__» ⟨[.str k u, .ref a], []⟩) (fun _ R s => s.heap.get? a = some (dO dd es n sl) ∧ R (.ok (.ret .notImplemented)) s) :=
  .of_wp fun prog w A R s h => by
    obtain ⟨hp, g, d, tk, os⟩ := s
    obtain ⟨hl, h⟩ := h
    have f1 := F.sub_dict_str
    wp_walk using wpAny_loadPart' hl
    exact ⟨_, rfl, h⟩
theorem dec_d_list (a b : Addr) (dd dd2 : Option Addr) (es : Array DictEntry) (its : Array Value) (n n2 : Nat) (sl sl2 : Array (Option Value)) :
    Meets (Builtin.«dict.__eq__» ⟨[.ref a, .ref b], []⟩) (fun _ R s => s.heap.get? a = some (dO dd es n sl) ∧ s.heap.get? b = some (sO "list" dd2 its n2 sl2) ∧ R (.ok (.ret .notImplemented)) s) :=
  .of_wp fun prog w A R s h => by
    obtain ⟨hp, g, d, tk, os⟩ := s
    obtain ⟨hl, hb, h⟩ := h
    have f1 := F.sub_list_dict
    wp_walk using wpAny_loadPart' hl, wpAny_loadPart' hb
    exact ⟨_, rfl, h⟩
theorem dec_list_d (a b : Addr) (dd dd2 : Option Addr) (es : Array DictEntry) (its : Array Value) (n n2 : Nat) (sl sl2 : Array (Option Value)) :
    Meets (Builtin.«list.__eq__» ⟨[.ref b, .ref a], []⟩) (fun _ R s => s.heap.get? a = some (dO dd es n sl) ∧ s.heap.get? b = some (sO "list" dd2 its n2 sl2) ∧ R (.ok (.ret .notImplemented)) s) :=
  .of_wp fun prog w A R s h => by
    obtain ⟨hp, g, d, tk, os⟩ := s
    obtain ⟨hl, hb, h⟩ := h
    have f1 := F.sub_dict_list
    wp_walk using wpAny_loadPart' hl, wpAny_loadPart' hb
    exact ⟨_, rfl, h⟩
theorem dec_d_tuple (a b : Addr) (dd dd2 : Option Addr) (es : Array DictEntry) (its : Array Value) (n n2 : Nat) (sl sl2 : Array (Option Value)) :
    Meets (Builtin.«dict.__eq__» ⟨[.ref a, .ref b], []⟩) (fun _ R s => s.heap.get? a = some (dO dd es n sl) ∧ s.heap.get? b = some (sO "tuple" dd2 its n2 sl2) ∧ R (.ok (.ret .notImplemented)) s) :=
  .of_wp fun prog w A R s h => by
    obtain ⟨hp, g, d, tk, os⟩ := s
    obtain ⟨hl, hb, h⟩ := h
    have f1 := F.sub_tuple_dict
    wp_walk using wpAny_loadPart' hl, wpAny_loadPart' hb
    exact ⟨_, rfl, h⟩
theorem dec_tuple_d (a b : Addr) (dd dd2 : Option Addr) (es : Array DictEntry) (its : Array Value) (n n2 : Nat) (sl sl2 : Array (Option Value)) :
    Meets (Builtin.«tuple.__eq__» ⟨[.ref b, .ref a], []⟩) (fun _ R s => s.heap.get? a = some (dO dd es n sl) ∧ s.heap.get? b = some (sO "tuple" dd2 its n2 sl2) ∧ R (.ok (.ret .notImplemented)) s) :=
  .of_wp fun prog w A R s h => by
    obtain ⟨hp, g, d, tk, os⟩ := s
    obtain ⟨hl, hb, h⟩ := h
    have f1 := F.sub_dict_tuple
    wp_walk using wpAny_loadPart' hl, wpAny_loadPart' hb
    exact ⟨_, rfl, h⟩
section
variable {A : Around} {s : Shared} {a b : Addr}
theorem rc_d_none  (hl : IsD s.heap a) (hu : A.units < cLine) : RcAt A s (.ref a) .none false := fun prog w E Q h => by
  obtain ⟨dd, es, n, sl, ho⟩ := hl.ex
  refine rc_eq_decline_or (k := false) ⟨_, ho, rfl⟩ rfl (by decide) F.sub_NoneType_dict F.slot_dict_eq F.slot_NoneType_eq_refl
    (fun _ hq => call_meets F.slot_dict_eq ⟨_, ho, rfl⟩ F.entry_dict_eq (F.args_dict_eq_2 _ _) (dec_d_none a dd es n sl) ⟨ho, hq⟩)
    (fun _ hq => call_gives F.slot_NoneType_eq_refl rfl F.entry_NoneType_eq (F.args_NoneType_eq_2 _ _) (NoneType___eq___none_ref_0 a) hq) ?_ (.inr hu) h
  exact fun _ hq => wpAny_of_eq (rfl : isSame (.ref a) .none = pure false) hq
theorem rc_none_d  (hl : IsD s.heap a) (hu : A.units < cLine) : RcAt A s .none (.ref a) false := fun prog w E Q h => by
  obtain ⟨dd, es, n, sl, ho⟩ := hl.ex
  refine rc_eq_decline_or (k := false) rfl ⟨_, ho, rfl⟩ (by decide) F.sub_dict_NoneType F.slot_NoneType_eq F.slot_dict_eq_refl
    (fun _ hq => call_gives F.slot_NoneType_eq rfl F.entry_NoneType_eq (F.args_NoneType_eq_2 _ _) (NoneType___eq___none_ref_0 a) hq)
    (fun _ hq => call_meets F.slot_dict_eq_refl ⟨_, ho, rfl⟩ F.entry_dict_eq (F.args_dict_eq_2 _ _) (dec_d_none a dd es n sl) ⟨ho, hq⟩) ?_ (.inr hu) h
  exact fun _ hq => wpAny_of_eq (rfl : isSame .none (.ref a) = pure false) hq
theorem eq_d_none  (hl : IsD s.heap a) (hu : A.units < cLine) : EqAt A s (.ref a) .none false := fun prog w E Q h => by
  unfold eqBool
  refine wpAny_holding (wpAny_ite_split (fun hab => absurd (eq_of_beq hab) nofun) fun _ => ?_)
  exact wpAny_bind (rc_d_none hl hu prog w E _ (wpAny_truthy_bool h))
theorem eq_none_d  (hl : IsD s.heap a) (hu : A.units < cLine) : EqAt A s .none (.ref a) false := fun prog w E Q h => by
  unfold eqBool
  refine wpAny_holding (wpAny_ite_split (fun hab => absurd (eq_of_beq hab) nofun) fun _ => ?_)
  exact wpAny_bind (rc_none_d hl hu prog w E _ (wpAny_truthy_bool h))
theorem rc_d_bool (k : Bool) (hl : IsD s.heap a) (hu : A.units < cLine) : RcAt A s (.ref a) (.bool k) false := fun prog w E Q h => by
  obtain ⟨dd, es, n, sl, ho⟩ := hl.ex
  refine rc_eq_decline_or (k := false) ⟨_, ho, rfl⟩ rfl (by decide) F.sub_bool_dict F.slot_dict_eq F.slot_bool_eq_refl
    (fun _ hq => call_meets F.slot_dict_eq ⟨_, ho, rfl⟩ F.entry_dict_eq (F.args_dict_eq_2 _ _) (dec_d_bool a dd es n sl k) ⟨ho, hq⟩)
    (fun _ hq => call_meets F.slot_bool_eq_refl rfl F.entry_int_eq (F.args_int_eq_2 _ _) (dec_bool_d a dd es n sl k) ⟨ho, hq⟩) ?_ (.inr hu) h
  exact fun _ hq => wpAny_of_eq (rfl : isSame (.ref a) (.bool k) = pure false) hq
theorem rc_bool_d (k : Bool) (hl : IsD s.heap a) (hu : A.units < cLine) : RcAt A s (.bool k) (.ref a) false := fun prog w E Q h => by
  obtain ⟨dd, es, n, sl, ho⟩ := hl.ex
  refine rc_eq_decline_or (k := false) rfl ⟨_, ho, rfl⟩ (by decide) F.sub_dict_bool F.slot_bool_eq F.slot_dict_eq_refl
    (fun _ hq => call_meets F.slot_bool_eq rfl F.entry_int_eq (F.args_int_eq_2 _ _) (dec_bool_d a dd es n sl k) ⟨ho, hq⟩)
    (fun _ hq => call_meets F.slot_dict_eq_refl ⟨_, ho, rfl⟩ F.entry_dict_eq (F.args_dict_eq_2 _ _) (dec_d_bool a dd es n sl k) ⟨ho, hq⟩) ?_ (.inr hu) h
  exact fun _ hq => wpAny_of_eq (rfl : isSame (.bool k) (.ref a) = pure false) hq
theorem eq_d_bool (k : Bool) (hl : IsD s.heap a) (hu : A.units < cLine) : EqAt A s (.ref a) (.bool k) false := fun prog w E Q h => by
  unfold eqBool
  refine wpAny_holding (wpAny_ite_split (fun hab => absurd (eq_of_beq hab) nofun) fun _ => ?_)
  exact wpAny_bind (rc_d_bool k hl hu prog w E _ (wpAny_truthy_bool h))
theorem eq_bool_d (k : Bool) (hl : IsD s.heap a) (hu : A.units < cLine) : EqAt A s (.bool k) (.ref a) false := fun prog w E Q h => by
  unfold eqBool
  refine wpAny_holding (wpAny_ite_split (fun hab => absurd (eq_of_beq hab) nofun) fun _ => ?_)
  exact wpAny_bind (rc_bool_d k hl hu prog w E _ (wpAny_truthy_bool h))
theorem rc_d_int (k : Int) (u : Tok) (hl : IsD s.heap a) (hu : A.units < cLine) : RcAt A s (.ref a) (.int k u) false := fun prog w E Q h => by
  obtain ⟨dd, es, n, sl, ho⟩ := hl.ex
  refine rc_eq_decline_or (k := false) ⟨_, ho, rfl⟩ rfl (by decide) F.sub_int_dict F.slot_dict_eq F.slot_int_eq_refl
    (fun _ hq => call_meets F.slot_dict_eq ⟨_, ho, rfl⟩ F.entry_dict_eq (F.args_dict_eq_2 _ _) (dec_d_int a dd es n sl k u) ⟨ho, hq⟩)
    (fun _ hq => call_meets F.slot_int_eq_refl rfl F.entry_int_eq (F.args_int_eq_2 _ _) (dec_int_d a dd es n sl k u) ⟨ho, hq⟩) ?_ (.inr hu) h
  exact fun _ hq => wpAny_of_eq (rfl : isSame (.ref a) (.int k u) = pure false) hq
theorem rc_int_d (k : Int) (u : Tok) (hl : IsD s.heap a) (hu : A.units < cLine) : RcAt A s (.int k u) (.ref a) false := fun prog w E Q h => by
  obtain ⟨dd, es, n, sl, ho⟩ := hl.ex
  refine rc_eq_decline_or (k := false) rfl ⟨_, ho, rfl⟩ (by decide) F.sub_dict_int F.slot_int_eq F.slot_dict_eq_refl
    (fun _ hq => call_meets F.slot_int_eq rfl F.entry_int_eq (F.args_int_eq_2 _ _) (dec_int_d a dd es n sl k u) ⟨ho, hq⟩)
    (fun _ hq => call_meets F.slot_dict_eq_refl ⟨_, ho, rfl⟩ F.entry_dict_eq (F.args_dict_eq_2 _ _) (dec_d_int a dd es n sl k u) ⟨ho, hq⟩) ?_ (.inr hu) h
  exact fun _ hq => wpAny_of_eq (rfl : isSame (.int k u) (.ref a) = pure false) hq
theorem eq_d_int (k : Int) (u : Tok) (hl : IsD s.heap a) (hu : A.units < cLine) : EqAt A s (.ref a) (.int k u) false := fun prog w E Q h => by
  unfold eqBool
  refine wpAny_holding (wpAny_ite_split (fun hab => absurd (eq_of_beq hab) nofun) fun _ => ?_)
  exact wpAny_bind (rc_d_int k u hl hu prog w E _ (wpAny_truthy_bool h))
theorem eq_int_d (k : Int) (u : Tok) (hl : IsD s.heap a) (hu : A.units < cLine) : EqAt A s (.int k u) (.ref a) false := fun prog w E Q h => by
  unfold eqBool
  refine wpAny_holding (wpAny_ite_split (fun hab => absurd (eq_of_beq hab) nofun) fun _ => ?_)
  exact wpAny_bind (rc_int_d k u hl hu prog w E _ (wpAny_truthy_bool h))
theorem rc_d_str (k : Str) (u : Tok) (hl : IsD s.heap a) (hu : A.units < cLine) : RcAt A s (.ref a) (.str k u) false := fun prog w E Q h => by
  obtain ⟨dd, es, n, sl, ho⟩ := hl.ex
  refine rc_eq_decline_or (k := false) ⟨_, ho, rfl⟩ rfl (by decide) F.sub_str_dict F.slot_dict_eq F.slot_str_eq_refl
    (fun _ hq => call_meets F.slot_dict_eq ⟨_, ho, rfl⟩ F.entry_dict_eq (F.args_dict_eq_2 _ _) (dec_d_str a dd es n sl k u) ⟨ho, hq⟩)
    (fun _ hq => call_meets F.slot_str_eq_refl rfl F.entry_str_eq (F.args_str_eq_2 _ _) (dec_str_d a dd es n sl k u) ⟨ho, hq⟩) ?_ (.inr hu) h
  exact fun _ hq => wpAny_of_eq (rfl : isSame (.ref a) (.str k u) = pure false) hq
theorem rc_str_d (k : Str) (u : Tok) (hl : IsD s.heap a) (hu : A.units < cLine) : RcAt A s (.str k u) (.ref a) false := fun prog w E Q h => by
  obtain ⟨dd, es, n, sl, ho⟩ := hl.ex
  refine rc_eq_decline_or (k := false) rfl ⟨_, ho, rfl⟩ (by decide) F.sub_dict_str F.slot_str_eq F.slot_dict_eq_refl
    (fun _ hq => call_meets F.slot_str_eq rfl F.entry_str_eq (F.args_str_eq_2 _ _) (dec_str_d a dd es n sl k u) ⟨ho, hq⟩)
    (fun _ hq => call_meets F.slot_dict_eq_refl ⟨_, ho, rfl⟩ F.entry_dict_eq (F.args_dict_eq_2 _ _) (dec_d_str a dd es n sl k u) ⟨ho, hq⟩) ?_ (.inr hu) h
  exact fun _ hq => wpAny_of_eq (rfl : isSame (.str k u) (.ref a) = pure false) hq
theorem eq_d_str (k : Str) (u : Tok) (hl : IsD s.heap a) (hu : A.units < cLine) : EqAt A s (.ref a) (.str k u) false := fun prog w E Q h => by
  unfold eqBool
  refine wpAny_holding (wpAny_ite_split (fun hab => absurd (eq_of_beq hab) nofun) fun _ => ?_)
  exact wpAny_bind (rc_d_str k u hl hu prog w E _ (wpAny_truthy_bool h))
theorem eq_str_d (k : Str) (u : Tok) (hl : IsD s.heap a) (hu : A.units < cLine) : EqAt A s (.str k u) (.ref a) false := fun prog w E Q h => by
  unfold eqBool
  refine wpAny_holding (wpAny_ite_split (fun hab => absurd (eq_of_beq hab) nofun) fun _ => ?_)
  exact wpAny_bind (rc_str_d k u hl hu prog w E _ (wpAny_truthy_bool h))
theorem ne_d_list {its : Array Value} (hl : IsD s.heap a) (hb : s.heap.IsList b its) : a ≠ b := fun e => by
  subst e
  obtain ⟨dd, es, n, sl, ho⟩ := hl.ex
  obtain ⟨o2, ho2, hc2, _⟩ := hb
  rw [ho] at ho2
  cases ho2
  exact absurd hc2 (by simp)
theorem rc_d_list {its : Array Value} (hl : IsD s.heap a) (hb : s.heap.IsList b its) (hu : A.units < cLine) : RcAt A s (.ref a) (.ref b) false := fun prog w E Q h => by
  have hne := ne_d_list hl hb
  obtain ⟨dd, es, n, sl, ho⟩ := hl.ex
  obtain ⟨⟨cls2, dd2, data2, sl2⟩, ho2, hc2, n2, hd2⟩ := id hb
  simp only at hc2 hd2
  subst hc2 hd2
  refine rc_eq_decline_or (k := false) ⟨_, ho, rfl⟩ ⟨_, ho2, rfl⟩ (by decide) F.sub_list_dict F.slot_dict_eq F.slot_list_eq_refl
    (fun _ hq => call_meets F.slot_dict_eq ⟨_, ho, rfl⟩ F.entry_dict_eq (F.args_dict_eq_2 _ _) (dec_d_list a b dd dd2 es its n n2 sl sl2) ⟨ho, ho2, hq⟩)
    (fun _ hq => call_meets F.slot_list_eq_refl ⟨_, ho2, rfl⟩ F.entry_list_eq (F.args_list_eq_2 _ _) (dec_list_d a b dd dd2 es its n n2 sl sl2) ⟨ho, ho2, hq⟩) ?_ (.inr hu) h
  exact fun _ hq => wpAny_isSame_ref_other hne ho ho2 (by simp) hq
theorem rc_list_d {its : Array Value} (hl : IsD s.heap a) (hb : s.heap.IsList b its) (hu : A.units < cLine) : RcAt A s (.ref b) (.ref a) false := fun prog w E Q h => by
  have hne := (ne_d_list hl hb).symm
  obtain ⟨dd, es, n, sl, ho⟩ := hl.ex
  obtain ⟨⟨cls2, dd2, data2, sl2⟩, ho2, hc2, n2, hd2⟩ := id hb
  simp only at hc2 hd2
  subst hc2 hd2
  refine rc_eq_decline_or (k := false) ⟨_, ho2, rfl⟩ ⟨_, ho, rfl⟩ (by decide) F.sub_dict_list F.slot_list_eq F.slot_dict_eq_refl
    (fun _ hq => call_meets F.slot_list_eq ⟨_, ho2, rfl⟩ F.entry_list_eq (F.args_list_eq_2 _ _) (dec_list_d a b dd dd2 es its n n2 sl sl2) ⟨ho, ho2, hq⟩)
    (fun _ hq => call_meets F.slot_dict_eq_refl ⟨_, ho, rfl⟩ F.entry_dict_eq (F.args_dict_eq_2 _ _) (dec_d_list a b dd dd2 es its n n2 sl sl2) ⟨ho, ho2, hq⟩) ?_ (.inr hu) h
  exact fun _ hq => wpAny_isSame_ref_other' hne ho2 ho (by simp) hq
theorem eq_d_list {its : Array Value} (hl : IsD s.heap a) (hb : s.heap.IsList b its) (hu : A.units < cLine) : EqAt A s (.ref a) (.ref b) false := .of_refs (ne_d_list hl hb) (rc_d_list hl hb hu)
theorem eq_list_d {its : Array Value} (hl : IsD s.heap a) (hb : s.heap.IsList b its) (hu : A.units < cLine) : EqAt A s (.ref b) (.ref a) false := .of_refs (ne_d_list hl hb).symm (rc_list_d hl hb hu)
theorem ne_d_tuple {its : Array Value} (hl : IsD s.heap a) (hb : s.heap.IsTuple b its) : a ≠ b := fun e => by
  subst e
  obtain ⟨dd, es, n, sl, ho⟩ := hl.ex
  obtain ⟨o2, ho2, hc2, _⟩ := hb
  rw [ho] at ho2
  cases ho2
  exact absurd hc2 (by simp)
theorem rc_d_tuple {its : Array Value} (hl : IsD s.heap a) (hb : s.heap.IsTuple b its) (hu : A.units < cLine) : RcAt A s (.ref a) (.ref b) false := fun prog w E Q h => by
  have hne := ne_d_tuple hl hb
  obtain ⟨dd, es, n, sl, ho⟩ := hl.ex
  obtain ⟨⟨cls2, dd2, data2, sl2⟩, ho2, hc2, n2, hd2⟩ := id hb
  simp only at hc2 hd2
  subst hc2 hd2
  refine rc_eq_decline_or (k := false) ⟨_, ho, rfl⟩ ⟨_, ho2, rfl⟩ (by decide) F.sub_tuple_dict F.slot_dict_eq F.slot_tuple_eq_refl
    (fun _ hq => call_meets F.slot_dict_eq ⟨_, ho, rfl⟩ F.entry_dict_eq (F.args_dict_eq_2 _ _) (dec_d_tuple a b dd dd2 es its n n2 sl sl2) ⟨ho, ho2, hq⟩)
    (fun _ hq => call_meets F.slot_tuple_eq_refl ⟨_, ho2, rfl⟩ F.entry_tuple_eq (F.args_tuple_eq_2 _ _) (dec_tuple_d a b dd dd2 es its n n2 sl sl2) ⟨ho, ho2, hq⟩) ?_ (.inr hu) h
  exact fun _ hq => wpAny_isSame_ref_other hne ho ho2 (by simp) hq
theorem rc_tuple_d {its : Array Value} (hl : IsD s.heap a) (hb : s.heap.IsTuple b its) (hu : A.units < cLine) : RcAt A s (.ref b) (.ref a) false := fun prog w E Q h => by
  have hne := (ne_d_tuple hl hb).symm
  obtain ⟨dd, es, n, sl, ho⟩ := hl.ex
  obtain ⟨⟨cls2, dd2, data2, sl2⟩, ho2, hc2, n2, hd2⟩ := id hb
  simp only at hc2 hd2
  subst hc2 hd2
  refine rc_eq_decline_or (k := false) ⟨_, ho2, rfl⟩ ⟨_, ho, rfl⟩ (by decide) F.sub_dict_tuple F.slot_tuple_eq F.slot_dict_eq_refl
    (fun _ hq => call_meets F.slot_tuple_eq ⟨_, ho2, rfl⟩ F.entry_tuple_eq (F.args_tuple_eq_2 _ _) (dec_tuple_d a b dd dd2 es its n n2 sl sl2) ⟨ho, ho2, hq⟩)
    (fun _ hq => call_meets F.slot_dict_eq_refl ⟨_, ho, rfl⟩ F.entry_dict_eq (F.args_dict_eq_2 _ _) (dec_d_tuple a b dd dd2 es its n n2 sl sl2) ⟨ho, ho2, hq⟩) ?_ (.inr hu) h
  exact fun _ hq => wpAny_isSame_ref_other' hne ho2 ho (by simp) hq
theorem eq_d_tuple {its : Array Value} (hl : IsD s.heap a) (hb : s.heap.IsTuple b its) (hu : A.units < cLine) : EqAt A s (.ref a) (.ref b) false := .of_refs (ne_d_tuple hl hb) (rc_d_tuple hl hb hu)
theorem eq_tuple_d {its : Array Value} (hl : IsD s.heap a) (hb : s.heap.IsTuple b its) (hu : A.units < cLine) : EqAt A s (.ref b) (.ref a) false := .of_refs (ne_d_tuple hl hb).symm (rc_tuple_d hl hb hu)
end
end Ev.DEq

end

section
set_option Elab.async false
set_option linter.all false
set_option maxRecDepth 100000
/-! Ev: == of data. -/
namespace Ev
open PySem PySem.Spec PyProof.Rows
open L2 (V Hp HO PE PT PS PSs PA PG PGs PI TE TT TA TS TG TGs VK SqL SqT Rd Key upd upd_same upd_ne OpR CallR IxR SlR MtR MtM R2 tOp RelV Vals WX Takes Room FnOk Sp XK Ends rI rI0 CMul CDiv CPow KV)
open SeqAt (EqAt)

theorem kEq_iff {a b : D} {q r : Key} (ha : kD a = some q) (hb : kD b = some r) : kEq a b = decide (q = r) := by
  cases a with
  | int i =>
    cases ha
    cases b with
    | int j => cases hb; rw [Bool.eq_iff_iff]; simp [kEq]
    | str y => cases hb; simp [kEq]
    | _ => cases hb
  | str x =>
    cases ha
    cases b with
    | int j => cases hb; simp [kEq]
    | str y => cases hb; rw [Bool.eq_iff_iff]; simp [kEq]
    | _ => cases hb
  | _ => cases ha
section
variable {R : RC} {F : Hp}
theorem RepK.length : ∀ {l : List (D × D)} {kvs : List (Key × V)}, RepK R F l kvs → l.length = kvs.length
  | [], _, h => by subst h; rfl
  | (k, x) :: l, _, ⟨q, v, r, e, _, _, t⟩ => by subst e; simp [RepK.length t]
theorem RepK.get {k : D} {q : Key} (hk : kD k = some q) : ∀ {l : List (D × D)} {kvs : List (Key × V)}, RepK R F l kvs → match kGet k l with
    | some x => ∃ v, L2.valV kvs q = some v ∧ Rep R F x v
    | none => L2.valV kvs q = none
  | [], _, h => by subst h; rfl
  | (a, x) :: l, _, ⟨q', v, r, e, ha, hx, t⟩ => by
    subst e
    have ih := RepK.get hk t
    unfold kGet
    rw [kEq_iff ha hk]
    by_cases h : q' = q
    · simp only [h, decide_true, if_true]
      exact ⟨v, L2.valV_pos rfl, hx⟩
    · simp only [h, decide_false, Bool.false_eq_true, if_false]
      rw [L2.valV_neg h]
      exact ih
theorem RepK.mem : ∀ {l : List (D × D)} {kvs : List (Key × V)} {q : Key} {v : V}, RepK R F l kvs → (q, v) ∈ kvs → ∃ k x, (k, x) ∈ l ∧ kD k = some q ∧ Rep R F x v
  | [], _, q, v, h, hm => by subst h; cases hm
  | (a, x) :: l, _, q, v, ⟨q', v', r, e, ha, hx, t⟩, hm => by
    subst e
    rcases List.mem_cons.mp hm with e | hm
    · cases e; exact ⟨a, x, List.mem_cons_self, ha, hx⟩
    · obtain ⟨k, y, h1, h2, h3⟩ := RepK.mem t hm
      exact ⟨k, y, List.mem_cons_of_mem _ h1, h2, h3⟩
end
section
variable {X : HCx} {pins : List (Addr × Obj)} {σ : HSt} {H : Hp} {s : Shared} {R : RC}
theorem cls_of_tup (I : L2.Inv X pins σ H s) {a : Addr} {xs : List V} (h : SqT X.K H a xs) : ∃ o, s.heap.get? a = some o ∧ o.cls = .type "tuple" := by
  obtain ⟨its, _, ⟨o, h1, h2, _⟩, _⟩ := I.tuple h
  exact ⟨o, h1, h2⟩
theorem cls_of_lst (I : L2.Inv X pins σ H s) {a : Addr} {xs : List V} (h : Rd H a (.lst xs)) : ∃ o, s.heap.get? a = some o ∧ o.cls = .type "list" := by
  obtain ⟨its, _, ⟨o, n, h1, h2, _⟩, _⟩ := I.list (.inl h)
  exact ⟨o, h1, h2⟩
theorem isD_of (I : L2.Inv X pins σ H s) {a : Addr} {kvs : List (Key × V)} (h : H a = some (.dK kvs)) : DEq.IsD s.heap a := by
  obtain ⟨_, _, vs, _, o, es, ep, h1, h2, h3, _⟩ := L2.dk_of I.hok h
  obtain ⟨c, dd, dt, sl⟩ := o
  obtain ⟨h2a, h2b⟩ := h2
  cases h2a
  cases h3
  exact ⟨⟨_, _, _, _, h1⟩⟩
theorem cls_of_dct (I : L2.Inv X pins σ H s) {a : Addr} {kvs : List (Key × V)} (h : H a = some (.dK kvs)) : ∃ o, s.heap.get? a = some o ∧ o.cls = .type "dict" := by
  obtain ⟨dd, es, n, sl, e⟩ := (isD_of I h).ex
  exact ⟨_, e, rfl⟩
theorem dK_nodup (I : L2.Inv X pins σ H s) {a : Addr} {kvs : List (Key × V)} (h : H a = some (.dK kvs)) : (kvs.map (·.1)).Nodup := by
  obtain ⟨_, _, vs, kv, o, es, ep, h1, h2, h3, _, _, h4⟩ := L2.dk_of I.hok h
  rw [kv.keys]
  exact h4
theorem cls_of_ins (I : L2.Inv X pins σ H s) {c : Nat} {fs : List (Nat × D)} {a : Addr} (h : Rep R H (.ins c fs) (.ref a)) : ∃ o C, s.heap.get? a = some o ∧ o.cls = .ref C := by
  obtain ⟨b, C, e, _, ⟨_, dx, xs, h3, _⟩ | ⟨_, d, ⟨oe, h3, hz, _⟩, _⟩⟩ := h
  · cases e
    obtain ⟨_, _, _, eo, _⟩ := (I.hok _ _ h3 : L2.ObjOk X.prog X.w H s.heap a (.ins C dx xs))
    exact ⟨_, C, eo, rfl⟩
  · cases e
    obtain ⟨eo, _⟩ := (I.hok _ _ h3 : L2.ObjOk X.prog X.w H s.heap a (exHO oe))
    exact ⟨_, C, eo, hz.1⟩
mutual
/-- what stands at one value is one thing -/
theorem Rep.inj (I : L2.Inv X pins σ H s) (hK : R.K = X.K) : ∀ {x y : D} {v : V}, x.plain = true → Rep R H x v → Rep R H y v → x = y
  | .non, y, v, _, h, h' => by
    cases h
    cases y with
    | non => cases h'; rfl
    | bl _ => cases h'
    | int _ => cases h'
    | str _ => cases h'
    | tup _ => obtain ⟨_, _, e, _⟩ := h'; cases e
    | lst _ => obtain ⟨_, _, e, _⟩ := h'; cases e
    | dct _ => obtain ⟨_, _, e, _⟩ := h'; cases e
    | ins _ _ => obtain ⟨_, _, e, _⟩ := h'; cases e
  | .bl b, y, v, _, h, h' => by
    cases h
    cases y with
    | non => cases h'
    | bl _ => cases h'; rfl
    | int _ => cases h'
    | str _ => cases h'
    | tup _ => obtain ⟨_, _, e, _⟩ := h'; cases e
    | lst _ => obtain ⟨_, _, e, _⟩ := h'; cases e
    | dct _ => obtain ⟨_, _, e, _⟩ := h'; cases e
    | ins _ _ => obtain ⟨_, _, e, _⟩ := h'; cases e
  | .int b, y, v, _, h, h' => by
    cases h
    cases y with
    | non => cases h'
    | bl _ => cases h'
    | int _ => cases h'; rfl
    | str _ => cases h'
    | tup _ => obtain ⟨_, _, e, _⟩ := h'; cases e
    | lst _ => obtain ⟨_, _, e, _⟩ := h'; cases e
    | dct _ => obtain ⟨_, _, e, _⟩ := h'; cases e
    | ins _ _ => obtain ⟨_, _, e, _⟩ := h'; cases e
  | .str b, y, v, _, h, h' => by
    cases h
    cases y with
    | str c =>
      have e : (V.str ⟨b.toArray⟩) = V.str ⟨c.toArray⟩ := h'
      injection e with e
      injection e with e
      rw [show b = c by simpa using congrArg Array.toList e]
    | non => cases h'
    | bl _ => cases h'
    | int _ => cases h'
    | tup _ => obtain ⟨_, _, e, _⟩ := h'; cases e
    | lst _ => obtain ⟨_, _, e, _⟩ := h'; cases e
    | dct _ => obtain ⟨_, _, e, _⟩ := h'; cases e
    | ins _ _ => obtain ⟨_, _, e, _⟩ := h'; cases e
  | .tup l, y, v, p, ⟨a, xs, e, h1, h2⟩, h' => by
    subst e
    rw [hK] at h1
    obtain ⟨o, eo, co⟩ := cls_of_tup I h1
    cases y with
    | tup m =>
      obtain ⟨b, ys, e, h3, h4⟩ := h'
      cases e
      rw [hK] at h3
      have e := I.tuple_inj h1 h3
      subst e
      rw [Reps.inj I hK (by simpa [D.plain] using p) h2 h4]
    | lst m =>
      obtain ⟨b, ys, e, h3, _⟩ := h'
      cases e
      obtain ⟨o', eo', co'⟩ := cls_of_lst I h3
      rw [eo] at eo'; cases eo'; rw [co] at co'; exact absurd co' (by simp)
    | dct m =>
      obtain ⟨b, ys, e, h3, _⟩ := h'
      cases e
      obtain ⟨o', eo', co'⟩ := cls_of_dct I h3
      rw [eo] at eo'; cases eo'; rw [co] at co'; exact absurd co' (by simp)
    | ins c fs =>
      obtain ⟨o', C', eo', co'⟩ := cls_of_ins I h'
      rw [eo] at eo'; cases eo'; rw [co] at co'; cases co'
    | non => cases h'
    | bl _ => cases h'
    | int _ => cases h'
    | str _ => cases h'
  | .lst l, y, v, p, ⟨a, xs, e, h1, h2⟩, h' => by
    subst e
    obtain ⟨o, eo, co⟩ := cls_of_lst I h1
    cases y with
    | lst m =>
      obtain ⟨b, ys, e, h3, h4⟩ := h'
      cases e
      have e := I.list_inj (.inl h1) (.inl h3)
      subst e
      rw [Reps.inj I hK (by simpa [D.plain] using p) h2 h4]
    | tup m =>
      obtain ⟨b, ys, e, h3, _⟩ := h'
      cases e
      rw [hK] at h3
      obtain ⟨o', eo', co'⟩ := cls_of_tup I h3
      rw [eo] at eo'; cases eo'; rw [co] at co'; exact absurd co' (by simp)
    | dct m =>
      obtain ⟨b, ys, e, h3, _⟩ := h'
      cases e
      obtain ⟨o', eo', co'⟩ := cls_of_dct I h3
      rw [eo] at eo'; cases eo'; rw [co] at co'; exact absurd co' (by simp)
    | ins c fs =>
      obtain ⟨o', C', eo', co'⟩ := cls_of_ins I h'
      rw [eo] at eo'; cases eo'; rw [co] at co'; cases co'
    | non => cases h'
    | bl _ => cases h'
    | int _ => cases h'
    | str _ => cases h'
  | .dct l, y, v, p, ⟨a, xs, e, h1, h2⟩, h' => by
    subst e
    obtain ⟨o, eo, co⟩ := cls_of_dct I h1
    cases y with
    | dct m =>
      obtain ⟨b, ys, e, h3, h4⟩ := h'
      cases e
      rw [h1] at h3
      cases h3
      rw [RepK.inj I hK (by simpa [D.plain] using p) h2 h4]
    | tup m =>
      obtain ⟨b, ys, e, h3, _⟩ := h'
      cases e
      rw [hK] at h3
      obtain ⟨o', eo', co'⟩ := cls_of_tup I h3
      rw [eo] at eo'; cases eo'; rw [co] at co'; exact absurd co' (by simp)
    | lst m =>
      obtain ⟨b, ys, e, h3, _⟩ := h'
      cases e
      obtain ⟨o', eo', co'⟩ := cls_of_lst I h3
      rw [eo] at eo'; cases eo'; rw [co] at co'; exact absurd co' (by simp)
    | ins c fs =>
      obtain ⟨o', C', eo', co'⟩ := cls_of_ins I h'
      rw [eo] at eo'; cases eo'; rw [co] at co'; cases co'
    | non => cases h'
    | bl _ => cases h'
    | int _ => cases h'
    | str _ => cases h'
  | .ins c fs, y, v, p, _, _ => by simp [D.plain] at p
theorem Reps.inj (I : L2.Inv X pins σ H s) (hK : R.K = X.K) : ∀ {x y : List D} {v : List V}, D.plains x = true → Reps R H x v → Reps R H y v → x = y
  | [], y, v, _, h, h' => by
    subst h
    cases y with
    | nil => rfl
    | cons _ _ => obtain ⟨_, _, e, _⟩ := h'; cases e
  | x :: l, y, v, p, ⟨w, r, e, h1, h2⟩, h' => by
    subst e
    cases y with
    | nil => cases h'
    | cons y m =>
      obtain ⟨_, _, e, h3, h4⟩ := h'
      cases e
      simp only [D.plains, Bool.and_eq_true] at p
      rw [Rep.inj I hK p.1 h1 h3, Reps.inj I hK p.2 h2 h4]
theorem RepK.inj (I : L2.Inv X pins σ H s) (hK : R.K = X.K) : ∀ {x y : List (D × D)} {v : List (Key × V)}, D.plaink x = true → RepK R H x v → RepK R H y v → x = y
  | [], y, v, _, h, h' => by
    subst h
    cases y with
    | nil => rfl
    | cons _ _ => obtain ⟨_, _, _, e, _⟩ := h'; cases e
  | (a, x) :: l, y, v, p, ⟨q, w, r, e, h0, h1, h2⟩, h' => by
    subst e
    cases y with
    | nil => cases h'
    | cons y m =>
      obtain ⟨b, y⟩ := y
      obtain ⟨_, _, _, e, h5, h3, h4⟩ := h'
      cases e
      simp only [D.plaink, Bool.and_eq_true] at p
      have hab : a = b := by
        cases a <;> cases b <;> simp_all [kD]
        · subst h0; simpa using h5.symm
        · subst h0; simp at h5
        · subst h0; simp at h5
        · subst h0
          simpa using h5.symm
      rw [Rep.inj I hK p.1 h1 h3, RepK.inj I hK p.2 h2 h4, hab]
end
theorem kGet_self : ∀ {l : List (D × D)} {kvs : List (Key × V)}, RepK R H l kvs → (kvs.map (·.1)).Nodup → ∀ k x, (k, x) ∈ l → kGet k l = some x
  | [], _, _, _, k, x, hm => by cases hm
  | (a, y) :: l, _, ⟨q, v, r, e, ha, hy, t⟩, nd, k, x, hm => by
    subst e
    simp only [List.map_cons, List.nodup_cons] at nd
    unfold kGet
    rcases List.mem_cons.mp hm with e | hm
    · cases e
      rw [kEq_iff ha ha]
      simp
    · have hk : ∃ q', kD k = some q' ∧ ∃ v', (q', v') ∈ r := by
        have gen : ∀ {l : List (D × D)} {kvs : List (Key × V)}, RepK R H l kvs → (k, x) ∈ l → ∃ q', kD k = some q' ∧ ∃ v', (q', v') ∈ kvs := by
          intro l
          induction l with
          | nil => intro _ _ hm; cases hm
          | cons p l ih =>
            obtain ⟨b, z⟩ := p
            intro kvs h hm
            obtain ⟨q2, v2, r2, e2, hb, hz, t2⟩ := h
            subst e2
            rcases List.mem_cons.mp hm with e | hm
            · cases e; exact ⟨q2, hb, v2, List.mem_cons_self⟩
            · obtain ⟨q3, h1, v3, h2⟩ := ih t2 hm
              exact ⟨q3, h1, v3, List.mem_cons_of_mem _ h2⟩
        exact gen t hm
      obtain ⟨q', hq', v', hm'⟩ := hk
      rw [kEq_iff ha hq']
      have ne : q ≠ q' := fun e => nd.1 (by rw [e]; exact List.mem_map.mpr ⟨_, hm', rfl⟩)
      simp only [ne, decide_false, Bool.false_eq_true, if_false]
      exact kGet_self t nd.2 k x hm
mutual
/-- a thing that stands is equal to itself -/
theorem eqD_self (I : L2.Inv X pins σ H s) : ∀ {x : D} {v : V}, x.plain = true → Rep R H x v → eqD x x = true
  | .non, _, _, _ => rfl
  | .bl b, _, _, _ => by simp [eqD]
  | .int i, _, _, _ => by simp [eqD]
  | .str y, _, _, _ => by simp [eqD]
  | .tup l, _, p, ⟨a, xs, _, _, h⟩ => by
    unfold eqD
    exact eqDs_self I (by simpa [D.plain] using p) h
  | .lst l, _, p, ⟨a, xs, _, _, h⟩ => by
    unfold eqD
    exact eqDs_self I (by simpa [D.plain] using p) h
  | .dct l, _, p, ⟨a, xs, _, h1, h⟩ => by
    unfold eqD
    simp only [beq_self_eq_true, Bool.true_and]
    exact eqDk_self I (by simpa [D.plain] using p) h (kGet_self h (dK_nodup I h1))
  | .ins c fs, _, p, _ => by simp [D.plain] at p
theorem eqDs_self (I : L2.Inv X pins σ H s) : ∀ {x : List D} {v : List V}, D.plains x = true → Reps R H x v → eqDs x x = true
  | [], _, _, _ => rfl
  | x :: l, _, p, ⟨v, r, _, h, t⟩ => by
    simp only [D.plains, Bool.and_eq_true] at p
    unfold eqDs
    simp only [eqD_self I p.1 h, eqDs_self I p.2 t, Bool.and_self]
theorem eqDk_self (I : L2.Inv X pins σ H s) {m : List (D × D)} : ∀ {x : List (D × D)} {v : List (Key × V)}, D.plaink x = true → RepK R H x v → (∀ k y, (k, y) ∈ x → kGet k m = some y) → eqDk x m = true
  | [], _, _, _, _ => rfl
  | (k, x) :: l, _, p, ⟨q, v, r, _, _, h, t⟩, g => by
    simp only [D.plaink, Bool.and_eq_true] at p
    unfold eqDk
    simp only [g k x List.mem_cons_self, eqD_self I p.1 h, eqDk_self I p.2 t fun k y hm => g k y (List.mem_cons_of_mem _ hm), Bool.and_self]
end
theorem eqDs_all : ∀ (l m : List D), eqDs l m = ((List.range (min l.length m.length)).all (fun i => eqD (l.getD i .non) (m.getD i .non)) && l.length == m.length)
  | [], [] => rfl
  | [], _ :: _ => by simp [eqDs]
  | _ :: _, [] => by simp [eqDs]
  | x :: l, y :: m => by
    show (eqD x y && eqDs l m) = _
    rw [eqDs_all l m]
    simp only [List.length_cons, Nat.succ_min_succ, List.range_succ_eq_map, List.all_cons, List.all_map]
    simp only [List.getD_cons_zero, Bool.and_assoc]
    congr 1
    congr 1
    simp
/-- what is kept under a key -/
def kLook (q : Key) : List (D × D) → D
  | [] => .non
  | (k, x) :: l => if kD k = some q then x else kLook q l
theorem kLook_mem : ∀ {l : List (D × D)} {kvs : List (Key × V)} {q : Key} {v : V}, RepK R H l kvs → (kvs.map (·.1)).Nodup → (q, v) ∈ kvs → Rep R H (kLook q l) v ∧ ∃ k, (k, kLook q l) ∈ l ∧ kD k = some q
  | [], _, q, v, h, _, hm => by subst h; cases hm
  | (a, x) :: l, _, q, v, ⟨q', v', r, e, ha, hx, t⟩, nd, hm => by
    subst e
    simp only [List.map_cons, List.nodup_cons] at nd
    unfold kLook
    rcases List.mem_cons.mp hm with e | hm2
    · cases e
      rw [if_pos ha]
      exact ⟨hx, a, List.mem_cons_self, ha⟩
    · have ne : ¬ kD a = some q := fun e => by
        rw [ha] at e
        cases e
        exact nd.1 (List.mem_map.mpr ⟨(q, v), hm2, rfl⟩)
      rw [if_neg ne]
      obtain ⟨h1, k, h2, h3⟩ := kLook_mem t nd.2 hm2
      exact ⟨h1, k, List.mem_cons_of_mem _ h2, h3⟩
theorem kLook_get {k : D} {q : Key} (hk : kD k = some q) : ∀ {l : List (D × D)} {kvs : List (Key × V)}, RepK R H l kvs → kGet k l = if (L2.valV kvs q).isSome then some (kLook q l) else none
  | [], _, h => by subst h; rfl
  | (a, x) :: l, _, ⟨q', v', r, e, ha, hx, t⟩ => by
    subst e
    unfold kGet kLook
    rw [kEq_iff ha hk]
    by_cases h : q' = q
    · subst h
      rw [if_pos (by simp), L2.valV_pos rfl, if_pos ha]
      rfl
    · have e1 : ¬ kD a = some q := by rw [ha]; simpa using h
      have e2 : ¬ decide (q' = q) = true := by simpa using h
      rw [if_neg e2, L2.valV_neg (p := (q', v')) h]
      simp only [e1, if_false]
      exact kLook_get hk t
theorem all_ext {α : Type} {f g : α → Bool} : ∀ {l : List α}, (∀ p ∈ l, f p = g p) → l.all f = l.all g
  | [], _ => rfl
  | x :: l, h => by rw [List.all_cons, List.all_cons, h x List.mem_cons_self, all_ext fun p hp => h p (List.mem_cons_of_mem _ hp)]
theorem eqDk_all {m : List (D × D)} {kvm : List (Key × V)} (hm : RepK R H m kvm) : ∀ {l : List (D × D)} {kvs : List (Key × V)}, RepK R H l kvs → (kvs.map (·.1)).Nodup →
    eqDk l m = kvs.all fun p => (L2.valV kvm p.1).isSome && eqD (kLook p.1 l) (kLook p.1 m)
  | [], _, h, _ => by subst h; rfl
  | (a, x) :: l, _, ⟨q, v, r, e, ha, hx, t⟩, nd => by
    subst e
    simp only [List.map_cons, List.nodup_cons] at nd
    have ih := eqDk_all hm t nd.2
    unfold eqDk
    rw [ih, List.all_cons, kLook_get ha hm]
    have e1 : kLook q ((a, x) :: l) = x := by unfold kLook; rw [if_pos ha]
    have e2 : (r.all fun p => (L2.valV kvm p.1).isSome && eqD (kLook p.1 ((a, x) :: l)) (kLook p.1 m)) = r.all fun p => (L2.valV kvm p.1).isSome && eqD (kLook p.1 l) (kLook p.1 m) := by
      refine all_ext fun p hp => ?_
      have ne : ¬ kD a = some p.1 := fun e => by
        rw [ha] at e
        cases e
        exact nd.1 (List.mem_map.mpr ⟨p, hp, rfl⟩)
      rw [show kLook p.1 ((a, x) :: l) = kLook p.1 l by rw [kLook, if_neg ne]]
    show _ = ((L2.valV kvm q).isSome && eqD (kLook q ((a, x) :: l)) (kLook q m) && r.all fun p => (L2.valV kvm p.1).isSome && eqD (kLook p.1 ((a, x) :: l)) (kLook p.1 m))
    rw [e1, e2]
    cases L2.valV kvm q with
    | none => simp
    | some _ => simp
theorem Vals.at' {xs : List V} {its : List Value} (r : Vals xs its) {j : Nat} (h : j < its.length) : ∃ x, xs[j]? = some x ∧ RelV x its[j] := by
  have hl := r.length
  obtain ⟨u, h1, h2⟩ := r.get (List.getElem?_eq_getElem (show j < xs.length by omega))
  rw [List.getElem?_eq_getElem h] at h1
  cases h1
  exact ⟨_, List.getElem?_eq_getElem (by omega), h2⟩
theorem KV.mem : ∀ {kvs : List (Key × V)} {vs : List (Key × Value)} {q : Key} {u : Value}, KV kvs vs → (q, u) ∈ vs → ∃ v, (q, v) ∈ kvs ∧ RelV v u := by
  intro kvs vs q u h
  unfold L2.KV at h
  induction h with
  | nil => intro hm; cases hm
  | @cons a b l₁ l₂ r t ih =>
    intro hm
    rcases List.mem_cons.mp hm with e | hm
    · cases e
      obtain ⟨q', v'⟩ := a
      obtain ⟨e1, r2⟩ := r
      cases e1
      exact ⟨v', List.mem_cons_self, r2⟩
    · obtain ⟨v, h1, h2⟩ := ih hm
      exact ⟨v, List.mem_cons_of_mem _ h1, h2⟩
theorem KV.all {kvs : List (Key × V)} {vs : List (Key × Value)} (h : KV kvs vs) (f : Key → Bool) : (kvs.all fun p => f p.1) = vs.all fun p => f p.1 := by
  unfold L2.KV at h
  induction h with
  | nil => rfl
  | cons r t ih => rw [List.all_cons, List.all_cons, ih, r.1]
theorem valV_mem {kvs : List (Key × V)} {q : Key} {v : V} (h : L2.valV kvs q = some v) : (q, v) ∈ kvs := by
  induction kvs with
  | nil => cases h
  | cons p l ih =>
    by_cases e : p.1 = q
    · rw [L2.valV_pos e] at h
      cases h
      cases p
      cases e
      exact List.mem_cons_self
    · rw [L2.valV_neg e] at h
      exact List.mem_cons_of_mem _ (ih h)
theorem plains_mem : ∀ {l : List D}, D.plains l = true → ∀ x ∈ l, x.plain = true
  | [], _, x, h => by cases h
  | y :: l, p, x, h => by
    simp only [D.plains, Bool.and_eq_true] at p
    rcases List.mem_cons.mp h with e | h
    · subst e; exact p.1
    · exact plains_mem p.2 x h
theorem plaink_mem : ∀ {l : List (D × D)}, D.plaink l = true → ∀ k x, (k, x) ∈ l → x.plain = true
  | [], _, k, x, h => by cases h
  | (a, y) :: l, p, k, x, h => by
    simp only [D.plaink, Bool.and_eq_true] at p
    rcases List.mem_cons.mp h with e | h
    · cases e; exact p.1
    · exact plaink_mem p.2 k x h
theorem depths_mem : ∀ {l : List D} {n : Nat}, D.depths l ≤ n → ∀ x ∈ l, x.depth ≤ n
  | [], _, _, x, h => by cases h
  | y :: l, n, p, x, h => by
    simp only [D.depths] at p
    have := Nat.max_le.mp p
    rcases List.mem_cons.mp h with e | h
    · subst e; exact this.1
    · exact depths_mem this.2 x h
theorem depthk_mem : ∀ {l : List (D × D)} {n : Nat}, D.depthk l ≤ n → ∀ k x, (k, x) ∈ l → x.depth ≤ n
  | [], _, _, k, x, h => by cases h
  | (a, y) :: l, n, p, k, x, h => by
    simp only [D.depthk] at p
    have := Nat.max_le.mp p
    rcases List.mem_cons.mp h with e | h
    · cases e; exact this.1
    · exact depthk_mem this.2 k x h
/-- two sequences, item by item -/
theorem eqSeq (I : L2.Inv X pins σ H s) {n : Nat} {l m : List D} {xs ys : List V} {its its2 : List Value} (h2 : Reps R H l xs) (h4 : Reps R H m ys) (r : Vals xs its) (r2 : Vals ys its2)
    (ih : ∀ x ∈ l, ∀ y ∈ m, ∀ (v w : V) (v' w' : Value), Rep R H x v → Rep R H y w → RelV v v' → RelV w w' → PySem.W.EqTree X.prog X.w s n v' w' (eqD x y)) :
    ∀ j (h1 : j < its.toArray.size) (h2 : j < its2.toArray.size), PySem.W.EqTree X.prog X.w s n its.toArray[j] its2.toArray[j] (eqD (l.getD j .non) (m.getD j .non)) := by
  intro j hj1 hj2
  have hj1' : j < its.length := by simpa using hj1
  have hj2' : j < its2.length := by simpa using hj2
  obtain ⟨x, ex, rx⟩ := Vals.at' r hj1'
  obtain ⟨y, ey, ry⟩ := Vals.at' r2 hj2'
  obtain ⟨dx, edx, hx⟩ := h2.get' ex
  obtain ⟨dy, edy, hy⟩ := h4.get' ey
  rw [List.getD_eq_getElem?_getD, List.getD_eq_getElem?_getD, edx, edy]
  exact ih dx (List.mem_of_getElem? edx) dy (List.mem_of_getElem? edy) x y _ _ hx hy (by simpa using rx) (by simpa using ry)
theorem nref {v : V} {v' : Value} (r : RelV v v') {a : Addr} (e : v = .ref a) : v' = .ref a := by subst e; exact r
theorem at_leafA (I : L2.Inv X pins σ H s) (hK : R.K = X.K) {A : Around} {x y : D} {v w : V} {v' w' : Value} (px : x.plain = true) (py : y.plain = true) (hx : Rep R H x v) (hy : Rep R H y w) (rv : RelV v v') (rw' : RelV w w') (u : unlike x y = true) (hu' : A.units < cLine) :
    EqAt A s v' w' (eqD x y) := by
  cases x with
  | non =>
    cases hx; cases rv
    cases y with
    | non =>
      cases hy; cases rw'
      exact EqAt.same _
    | bl c =>
      cases hy; cases rw'
      exact EqAt.none_bool _
    | int j =>
      cases hy; obtain ⟨ty, rfl⟩ := rw'
      exact EqAt.none_int _ _
    | str z2 =>
      cases hy; obtain ⟨ty, rfl⟩ := rw'
      exact EqAt.none_str _ _
    | tup m =>
      obtain ⟨a, ys, rfl, h1, _⟩ := hy
      cases rw'
      rw [hK] at h1
      obtain ⟨its, r, ht, hz⟩ := I.tuple h1
      exact EqAt.none_tuple (show s.heap.IsTuple a its.toArray from ht) hu'
    | lst m =>
      obtain ⟨a, ys, rfl, h1, _⟩ := hy
      cases rw'
      obtain ⟨its, r, ht, hz⟩ := I.list (.inl h1)
      exact EqAt.none_list ht.isList hu'
    | dct m =>
      obtain ⟨a, ys, rfl, h1, _⟩ := hy
      cases rw'
      exact DEq.eq_none_d (isD_of I h1) hu'
    | ins c fs => simp [D.plain] at py
  | bl b =>
    cases hx; cases rv
    cases y with
    | non =>
      cases hy; cases rw'
      exact EqAt.bool_none _
    | bl c =>
      cases hy; cases rw'
      exact EqAt.bool_bool _ _
    | int j =>
      cases hy; obtain ⟨ty, rfl⟩ := rw'
      have q := EqAt.bool_int (A := A) (s := s) b j ty
      simp only [eqD]
      cases b <;> exact q
    | str z2 =>
      cases hy; obtain ⟨ty, rfl⟩ := rw'
      exact EqAt.bool_str _ _ _
    | tup m =>
      obtain ⟨a, ys, rfl, h1, _⟩ := hy
      cases rw'
      rw [hK] at h1
      obtain ⟨its, r, ht, hz⟩ := I.tuple h1
      exact EqAt.bool_tuple _ (show s.heap.IsTuple a its.toArray from ht) hu'
    | lst m =>
      obtain ⟨a, ys, rfl, h1, _⟩ := hy
      cases rw'
      obtain ⟨its, r, ht, hz⟩ := I.list (.inl h1)
      exact EqAt.bool_list _ ht.isList hu'
    | dct m =>
      obtain ⟨a, ys, rfl, h1, _⟩ := hy
      cases rw'
      exact DEq.eq_bool_d _ (isD_of I h1) hu'
    | ins c fs => simp [D.plain] at py
  | int i =>
    cases hx; obtain ⟨tx, rfl⟩ := rv
    cases y with
    | non =>
      cases hy; cases rw'
      exact EqAt.int_none _ _
    | bl c =>
      cases hy; cases rw'
      have q := EqAt.int_bool (A := A) (s := s) i tx c
      simp only [eqD]
      cases c <;> exact q
    | int j =>
      cases hy; obtain ⟨ty, rfl⟩ := rw'
      exact EqAt.int_int _ _ _ _
    | str z2 =>
      cases hy; obtain ⟨ty, rfl⟩ := rw'
      exact EqAt.int_str _ _ _ _
    | tup m =>
      obtain ⟨a, ys, rfl, h1, _⟩ := hy
      cases rw'
      rw [hK] at h1
      obtain ⟨its, r, ht, hz⟩ := I.tuple h1
      exact EqAt.int_tuple _ _ (show s.heap.IsTuple a its.toArray from ht) hu'
    | lst m =>
      obtain ⟨a, ys, rfl, h1, _⟩ := hy
      cases rw'
      obtain ⟨its, r, ht, hz⟩ := I.list (.inl h1)
      exact EqAt.int_list _ _ ht.isList hu'
    | dct m =>
      obtain ⟨a, ys, rfl, h1, _⟩ := hy
      cases rw'
      exact DEq.eq_int_d _ _ (isD_of I h1) hu'
    | ins c fs => simp [D.plain] at py
  | str z =>
    cases hx; obtain ⟨tx, rfl⟩ := rv
    cases y with
    | non =>
      cases hy; cases rw'
      exact EqAt.str_none _ _
    | bl c =>
      cases hy; cases rw'
      exact EqAt.str_bool _ _ _
    | int j =>
      cases hy; obtain ⟨ty, rfl⟩ := rw'
      exact EqAt.str_int _ _ _ _
    | str z2 =>
      cases hy; obtain ⟨ty, rfl⟩ := rw'
      have q := EqAt.str_str (A := A) (s := s) ⟨z.toArray⟩ tx ⟨z2.toArray⟩ ty
      have e : ((⟨z.toArray⟩ : Str) == ⟨z2.toArray⟩) = (z == z2) := by
        rw [Bool.eq_iff_iff]
        simp
      rw [e] at q
      exact q
    | tup m =>
      obtain ⟨a, ys, rfl, h1, _⟩ := hy
      cases rw'
      rw [hK] at h1
      obtain ⟨its, r, ht, hz⟩ := I.tuple h1
      exact EqAt.str_tuple _ _ (show s.heap.IsTuple a its.toArray from ht) hu'
    | lst m =>
      obtain ⟨a, ys, rfl, h1, _⟩ := hy
      cases rw'
      obtain ⟨its, r, ht, hz⟩ := I.list (.inl h1)
      exact EqAt.str_list _ _ ht.isList hu'
    | dct m =>
      obtain ⟨a, ys, rfl, h1, _⟩ := hy
      cases rw'
      exact DEq.eq_str_d _ _ (isD_of I h1) hu'
    | ins c fs => simp [D.plain] at py
  | tup l =>
    obtain ⟨a, xs, rfl, h1, _⟩ := hx
    cases rv
    rw [hK] at h1
    obtain ⟨its, r, ht0, hz⟩ := I.tuple h1
    have ht : s.heap.IsTuple a its.toArray := ht0
    cases y with
    | non =>
      cases hy; cases rw'
      exact EqAt.tuple_none ht hu'
    | bl c =>
      cases hy; cases rw'
      exact EqAt.tuple_bool _ ht hu'
    | int j =>
      cases hy; obtain ⟨ty, rfl⟩ := rw'
      exact EqAt.tuple_int _ _ ht hu'
    | str z2 =>
      cases hy; obtain ⟨ty, rfl⟩ := rw'
      exact EqAt.tuple_str _ _ ht hu'
    | tup m =>
      simp [unlike] at u
    | lst m =>
      obtain ⟨b, ys, rfl, h3, _⟩ := hy
      cases rw'
      obtain ⟨its2, r2, ht2, hz2⟩ := I.list (.inl h3)
      have ht2 : s.heap.IsList b its2.toArray := ht2.isList
      exact EqAt.tuple_list ht ht2 hu'
    | dct m =>
      obtain ⟨b, ys, rfl, h3, _⟩ := hy
      cases rw'
      have ht2 := isD_of I h3
      exact DEq.eq_tuple_d ht2 ht hu'
    | ins c fs => simp [D.plain] at py
  | lst l =>
    obtain ⟨a, xs, rfl, h1, _⟩ := hx
    cases rv
    obtain ⟨its, r, ht0, hz⟩ := I.list (.inl h1)
    have ht : s.heap.IsList a its.toArray := ht0.isList
    cases y with
    | non =>
      cases hy; cases rw'
      exact EqAt.list_none ht hu'
    | bl c =>
      cases hy; cases rw'
      exact EqAt.list_bool _ ht hu'
    | int j =>
      cases hy; obtain ⟨ty, rfl⟩ := rw'
      exact EqAt.list_int _ _ ht hu'
    | str z2 =>
      cases hy; obtain ⟨ty, rfl⟩ := rw'
      exact EqAt.list_str _ _ ht hu'
    | tup m =>
      obtain ⟨b, ys, rfl, h3, _⟩ := hy
      cases rw'
      rw [hK] at h3
      obtain ⟨its2, r2, ht2, hz2⟩ := I.tuple h3
      have ht2 : s.heap.IsTuple b its2.toArray := ht2
      exact EqAt.list_tuple ht ht2 hu'
    | lst m =>
      simp [unlike] at u
    | dct m =>
      obtain ⟨b, ys, rfl, h3, _⟩ := hy
      cases rw'
      have ht2 := isD_of I h3
      exact DEq.eq_list_d ht2 ht hu'
    | ins c fs => simp [D.plain] at py
  | dct l =>
    obtain ⟨a, xs, rfl, h1, _⟩ := hx
    cases rv
    have ht := isD_of I h1
    cases y with
    | non =>
      cases hy; cases rw'
      exact DEq.eq_d_none ht hu'
    | bl c =>
      cases hy; cases rw'
      exact DEq.eq_d_bool _ ht hu'
    | int j =>
      cases hy; obtain ⟨ty, rfl⟩ := rw'
      exact DEq.eq_d_int _ _ ht hu'
    | str z2 =>
      cases hy; obtain ⟨ty, rfl⟩ := rw'
      exact DEq.eq_d_str _ _ ht hu'
    | tup m =>
      obtain ⟨b, ys, rfl, h3, _⟩ := hy
      cases rw'
      rw [hK] at h3
      obtain ⟨its2, r2, ht2, hz2⟩ := I.tuple h3
      have ht2 : s.heap.IsTuple b its2.toArray := ht2
      exact DEq.eq_d_tuple ht ht2 hu'
    | lst m =>
      obtain ⟨b, ys, rfl, h3, _⟩ := hy
      cases rw'
      obtain ⟨its2, r2, ht2, hz2⟩ := I.list (.inl h3)
      have ht2 : s.heap.IsList b its2.toArray := ht2.isList
      exact DEq.eq_d_list ht ht2 hu'
    | dct m =>
      simp [unlike] at u
    | ins c fs => simp [D.plain] at py
  | ins c fs => simp [D.plain] at px
theorem at_leaf (I : L2.Inv X pins σ H s) (hK : R.K = X.K) {n : Nat} {x y : D} {v w : V} {v' w' : Value} (px : x.plain = true) (py : y.plain = true) (hx : Rep R H x v) (hy : Rep R H y w) (rv : RelV v v') (rw' : RelV w w') (u : unlike x y = true) :
    PySem.W.EqTree X.prog X.w s n v' w' (eqD x y) := .leaf fun A hu => at_leafA I hK px py hx hy rv rw' u (by omega)
theorem eqTree (I : L2.Inv X pins σ H s) (hK : R.K = X.K) : ∀ (n : Nat) (x y : D) (v w : V) (v' w' : Value), x.plain = true → y.plain = true → x.depth ≤ n → Rep R H x v → Rep R H y w → RelV v v' → RelV w w' → PySem.W.EqTree X.prog X.w s n v' w' (eqD x y) := by
  intro n
  induction n with
  | zero =>
    intro x y v w v' w' px py dx hx hy rv rw'
    refine at_leaf I hK px py hx hy rv rw' ?_
    cases x <;> first | rfl | (simp [D.depth] at dx)
  | succ n ih =>
    intro x y v w v' w' px py dx hx hy rv rw'
    by_cases u : unlike x y = true
    · exact at_leaf I hK px py hx hy rv rw' u
    · by_cases hvw : v = w
      · subst hvw
        have e := Rep.inj I hK px hx hy
        subst e
        rw [eqD_self I px hx]
        cases x with
        | tup l => obtain ⟨a, xs, rfl, _⟩ := hx; cases rv; cases rw'; exact .same
        | lst l => obtain ⟨a, xs, rfl, _⟩ := hx; cases rv; cases rw'; exact .same
        | dct l => obtain ⟨a, xs, rfl, _⟩ := hx; cases rv; cases rw'; exact .same
        | _ => exact absurd rfl u
      · cases x with
        | tup l =>
          cases y with
          | tup m =>
            obtain ⟨a, xs, rfl, h1, h2⟩ := hx
            obtain ⟨b, ys, rfl, h3, h4⟩ := hy
            cases rv
            cases rw'
            rw [hK] at h1 h3
            obtain ⟨its, r, ht, hz⟩ := I.tuple h1
            obtain ⟨its2, r2, ht2, hz2⟩ := I.tuple h3
            simp only [D.plain] at px py
            simp only [D.depth] at dx
            have q := PySem.W.EqTree.tuples (prog := X.prog) (w := X.w) (n := n) (fun e => hvw (by rw [e])) ht ht2 (eqSeq I h2 h4 r r2 fun x hx y hy v w v' w' a b c d => ih x y v w v' w' (plains_mem px x hx) (plains_mem py y hy) (depths_mem (by omega) x hx) a b c d)
            simp only [List.size_toArray, ← r.length, ← r2.length, ← h2.length, ← h4.length] at q
            show PySem.W.EqTree _ _ _ _ _ _ (eqDs l m)
            rw [eqDs_all]
            exact q
          | _ => exact absurd rfl u
        | lst l =>
          cases y with
          | lst m =>
            obtain ⟨a, xs, rfl, h1, h2⟩ := hx
            obtain ⟨b, ys, rfl, h3, h4⟩ := hy
            cases rv
            cases rw'
            obtain ⟨its, r, ht, hz⟩ := I.list (.inl h1)
            obtain ⟨its2, r2, ht2, hz2⟩ := I.list (.inl h3)
            simp only [D.plain] at px py
            simp only [D.depth] at dx
            have hne : a ≠ b := fun e => hvw (by rw [e])
            have l1 := r.length
            have l2 := r2.length
            have l3 := h2.length
            have l4 := h4.length
            show PySem.W.EqTree _ _ _ _ _ _ (eqDs l m)
            rw [eqDs_all]
            by_cases hsz : l.length = m.length
            · have q := PySem.W.EqTree.lists (prog := X.prog) (w := X.w) (n := n) hne ht.isList ht2.isList (by simp; omega) (eqSeq I h2 h4 r r2 fun x hx y hy v w v' w' a b c d => ih x y v w v' w' (plains_mem px x hx) (plains_mem py y hy) (depths_mem (by omega) x hx) a b c d)
              simp only [List.size_toArray, ← l1, ← l3] at q
              rw [← hsz, Nat.min_self, beq_self_eq_true, Bool.and_true]
              exact q
            · rw [show (l.length == m.length) = false by simpa using hsz, Bool.and_false]
              exact .listsLen hne ht.isList ht2.isList (by simp only [List.size_toArray, bne_iff_ne, ne_eq]; omega)
          | _ => exact absurd rfl u
        | dct l =>
          cases y with
          | dct m =>
            obtain ⟨a, xs, rfl, h1, h2⟩ := hx
            obtain ⟨b, ys, rfl, h3, h4⟩ := hy
            cases rv
            cases rw'
            have nd1 := dK_nodup I h1
            have nd2 := dK_nodup I h3
            obtain ⟨_, s1, vs, kv, dd⟩ := L2.dk_of I.hok h1
            obtain ⟨_, s2, vs2, kv2, dd2⟩ := L2.dk_of I.hok h3
            simp only [D.plain] at px py
            simp only [D.depth] at dx
            have q := PySem.W.EqTree.dicts (prog := X.prog) (w := X.w) (s := s) (n := n) (e := fun k => eqD (kLook k l) (kLook k m)) (fun e => hvw (by rw [e])) s1 s2 dd dd2 fun k u y hm hy => by
              obtain ⟨v, hv, rv⟩ := KV.mem kv hm
              obtain ⟨r1, k1, m1, _⟩ := kLook_mem h2 nd1 hv
              have ry := kv2.val k
              rw [hy] at ry
              cases e : L2.valV ys k with
              | none => rw [e] at ry; exact (show False from ry).elim
              | some w =>
                rw [e] at ry
                obtain ⟨r2, k2, m2, _⟩ := kLook_mem h4 nd2 (valV_mem e)
                exact ih _ _ v w u y (plaink_mem px _ _ m1) (plaink_mem py _ _ m2) (depthk_mem (by omega) _ _ m1) r1 r2 rv ry
            have e1 : ∀ k, (PySem.valueAt vs2 k).isSome = (L2.valV ys k).isSome := fun k => (kv2.val k).isSome_eq.symm
            simp only [e1] at q
            rw [← KV.all kv (fun k => (L2.valV ys k).isSome && eqD (kLook k l) (kLook k m)), ← kv.length, ← kv2.length, ← h2.length, ← h4.length, ← eqDk_all h4 h2 nd1] at q
            exact q
          | _ => exact absurd rfl u
        | _ => exact absurd rfl u
end
end Ev

end

section
set_option Elab.async false
set_option linter.all false
set_option maxRecDepth 100000
set_option maxHeartbeats 1000000
/-! Ev: != between rows and between dicts, of one program and one world. -/
namespace Ev.NEq
open PySem PySem.SeqAt PySem.MeetsSeq PySem.MeetsSeq2 PySem.MeetsSeq3 PySem.SeqRoads2
open AutoSeq1 (wpAny_loadPart')
section
variable {prog : Program} {w : World}
theorem loopIn (l b : Addr) (its its2 : Array Value) (n n2 : Nat) (dd dd2 : Option Addr) (sl sl2 : Array (Option Value)) (hsz : its.size = its2.size) (e : Nat → Bool) (k : Nat) :
    ∀ i : Nat, its.size - i = k → MeetsIn prog w (Builtin.«list.__eq__.loop» ⟨[.ref l, .ref b, rawInt i, rawInt 3], []⟩)
      (fun A R s => s.heap.get? l = some { cls := .type "list", dict := dd, data := .seq its n, slots := sl } ∧ s.heap.get? b = some { cls := .type "list", dict := dd2, data := .seq its2 n2, slots := sl2 } ∧
        (∀ j (h1 : j < its.size) (h2 : j < its2.size), EqIn prog w A.in1 s its[j] its2[j] (e j)) ∧
        R (.ok (.ret (.bool (!((List.range its.size).drop i).all e)))) s) := by
  induction k with
  | zero =>
    intro i hk A R s h
    obtain ⟨hp, g, d, tk, os⟩ := s
    obtain ⟨hl, hb, he, h⟩ := h
    wp_walk using wpAny_loadPart' hl, wpAny_loadPart' hb
    have q1 : its[((i : Nat) : Int).toNat]? = none := by simp; omega
    have q2 : its2[((i : Nat) : Int).toNat]? = none := by simp; omega
    have q3 : (List.range its.size).drop i = [] := by simp; omega
    rw [q3] at h
    rw [q1, q2]
    wp_walk using wpAny_loadPart' hl, wpAny_loadPart' hb
    show R (.ok (.ret (.bool (its.size != its2.size)))) _
    rw [hsz]
    simpa using h
  | succ k ih =>
    intro i hk A R s h
    obtain ⟨hp, g, d, tk, os⟩ := s
    obtain ⟨hl, hb, he, h⟩ := h
    wp_walk using wpAny_loadPart' hl, wpAny_loadPart' hb
    have p1 : i < its.size := by omega
    have p2 : i < its2.size := by omega
    have q1 : its[((i : Nat) : Int).toNat]? = some its[i] := by simp [p1]
    have q2 : its2[((i : Nat) : Int).toNat]? = some its2[i] := by simp [p2]
    have q3 : (List.range its.size).drop i = i :: (List.range its.size).drop (i + 1) := by simp [List.drop_eq_getElem_cons, p1]
    have q4 : ((i : Int) + 1) = ((i + 1 : Nat) : Int) := by push_cast; rfl
    rw [q3, List.all_cons] at h
    rw [q1, q2]
    refine wpAny_bind (he i p1 p2 _ _ ?_)
    cases ei : e i with
    | true =>
      rw [ei] at h
      wp_walk
      rw [q4]
      exact ⟨plainId_quiet plain_eq_loop _, codeAny_builtin entry_eq_loop (by
        rw [Around.under_plainId plain_eq_loop _]
        exact ih (i + 1) (by omega) A R _ ⟨hl, hb, he, by simpa using h⟩)⟩
    | false =>
      rw [ei] at h
      wp_walk using wpAny_loadPart' hl, wpAny_loadPart' hb
      rw [q1, q2]
      wp_walk
      simpa using h
theorem listIn (l b : Addr) (its its2 : Array Value) (n n2 : Nat) (dd dd2 : Option Addr) (sl sl2 : Array (Option Value)) (hsz : its.size = its2.size) (e : Nat → Bool) :
    MeetsIn prog w (Builtin.«list.__ne__» ⟨[.ref l, .ref b], []⟩)
      (fun A R s => s.heap.get? l = some { cls := .type "list", dict := dd, data := .seq its n, slots := sl } ∧ s.heap.get? b = some { cls := .type "list", dict := dd2, data := .seq its2 n2, slots := sl2 } ∧
        (∀ j (h1 : j < its.size) (h2 : j < its2.size), EqIn prog w A.in1 s its[j] its2[j] (e j)) ∧
        R (.ok (.ret (.bool (!(List.range its.size).all e)))) s) := by
  intro A R s h
  obtain ⟨hp, g, d, tk, os⟩ := s
  obtain ⟨hl, hb, he, h⟩ := h
  have f3 := AutoSeq1.sub_list_list
  have hne : ¬ (its.size != its2.size) = true := by simp [hsz]
  wp_walk using wpAny_loadPart' hl, wpAny_loadPart' hb
  exact ⟨plainId_quiet plain_eq_loop _, codeAny_builtin entry_eq_loop (by
    rw [Around.under_plainId plain_eq_loop _]
    exact loopIn l b its its2 n n2 dd dd2 sl sl2 hsz e _ 0 rfl A R _ ⟨hl, hb, he, by simpa using h⟩)⟩
theorem tupleIn (l b : Addr) (its its2 : Array Value) (n n2 : Nat) (dd dd2 : Option Addr) (sl sl2 : Array (Option Value)) (e : Nat → Bool) :
    MeetsIn prog w (Builtin.«tuple.__ne__» ⟨[.ref l, .ref b], []⟩)
      (fun A R s => s.heap.get? l = some { cls := .type "tuple", dict := dd, data := .seq its n, slots := sl } ∧ s.heap.get? b = some { cls := .type "tuple", dict := dd2, data := .seq its2 n2, slots := sl2 } ∧
        (∀ j (h1 : j < its.size) (h2 : j < its2.size), EqIn prog w A.in1 s its[j] its2[j] (e j)) ∧
        R (.ok (.ret (.bool (!((List.range (min its.size its2.size)).all e && its.size == its2.size))))) s) :=
  .of_wp fun A R s h => by
    obtain ⟨hp, g, d, tk, os⟩ := s
    obtain ⟨hl, hb, he, h⟩ := h
    have f2 := AutoSeq1.sub_tuple_tuple
    have hZ : (its.toList.zip its2.toList).length = min its.size its2.size := by simp
    wp_walk using wpAny_loadPart' hl, wpAny_loadPart' hb, wpAny_forIn_list _ (fun rest b s' => b.1 = none ∧ s' = ⟨hp, g, d, tk, os⟩ ∧ ∃ i, rest = (its.toList.zip its2.toList).drop i ∧
      R (.ok (.ret (.bool (!(((List.range (min its.size its2.size)).drop i).all e && its.size == its2.size))))) ⟨hp, g, d, tk, os⟩) _
    case turn =>
      rintro ⟨y, x⟩ rest b s' ⟨hb', rfl, i, hz, hR⟩
      have hlt : i < (its.toList.zip its2.toList).length := by
        rcases Nat.lt_or_ge i (its.toList.zip its2.toList).length with q | q
        · exact q
        · rw [List.drop_of_length_le q] at hz; cases hz
      have hm : i < min its.size its2.size := hZ ▸ hlt
      have h1 : i < its.size := Nat.lt_of_lt_of_le hm (Nat.min_le_left _ _)
      have h2 : i < its2.size := Nat.lt_of_lt_of_le hm (Nat.min_le_right _ _)
      rw [List.drop_eq_getElem_cons hlt] at hz
      injection hz with hyx hrest
      have ey : y = its[i] := by have := congrArg Prod.fst hyx; simpa using this
      have ex : x = its2[i] := by have := congrArg Prod.snd hyx; simpa using this
      subst ey ex
      have q3 : (List.range (min its.size its2.size)).drop i = i :: (List.range (min its.size its2.size)).drop (i + 1) := by simp [List.drop_eq_getElem_cons, hm]
      rw [q3, List.all_cons] at hR
      refine wpAny_bind (he i h1 h2 _ _ ?_)
      cases ei : e i with
      | true =>
        rw [ei] at hR
        wp_walk
        exact ⟨rfl, rfl, i + 1, hrest, by simpa using hR⟩
      | false =>
        rw [ei] at hR
        wp_walk
        exact ⟨_, rfl, by simpa using hR⟩
    case fin =>
      rintro ⟨b1, b2⟩ s' ⟨hb', rfl, i, hz, hR⟩
      simp only at hb'
      subst hb'
      have hge : min its.size its2.size ≤ i := by
        rcases Nat.lt_or_ge i (its.toList.zip its2.toList).length with q | q
        · rw [List.drop_eq_getElem_cons q] at hz; cases hz
        · exact hZ ▸ q
      rw [List.drop_of_length_le (by simpa using hge)] at hR
      wp_walk
      exact ⟨_, rfl, by simpa [Builtin.Tuple.tupleCompareSizes, bne] using hR⟩
    case h =>
      exact ⟨rfl, rfl, 0, rfl, by simpa using h⟩
end
section
variable {prog : Program} {w : World} {A : Around} {s : Shared}
theorem lists {E : Value → Shared → Prop} {n : Nat} {l b : Addr} {its its2 : Array Value} {e : Nat → Bool} {Q : Value → Shared → Prop} (hl : s.heap.IsList l its) (hb : s.heap.IsList b its2) (hsz : its.size = its2.size)
    (t : ∀ j (h1 : j < its.size) (h2 : j < its2.size), PySem.W.EqTree prog w s n its[j] its2[j] (e j)) (hu : A.units + (n + 1) < cLine) (h : Q (.bool (!(List.range its.size).all e)) s) : wpAny (model prog w) A (richCompare .NotEq (.ref l) (.ref b)) Q E s := by
  obtain ⟨⟨cls, dd, data, sl⟩, ho, hc, n1, hd⟩ := id hl
  obtain ⟨⟨cls2, dd2, data2, sl2⟩, ho2, hc2, n2, hd2⟩ := id hb
  simp only at hc hd hc2 hd2
  subst hc hd hc2 hd2
  exact wpAny_richCompare_same_room (T := "list") (op := .NotEq) ⟨_, ho, rfl⟩ ⟨_, ho2, rfl⟩ F.slot_list_ne (call_meetsIn F.slot_list_ne ⟨_, ho, rfl⟩ F.entry_list_ne (F.args_list_ne_2 _ _) (listIn l b its its2 n1 n2 dd dd2 sl sl2 hsz e)
    ⟨ho, ho2, fun j h1 h2 => (t j h1 h2).at A.in1 (by show A.units + 1 + _ < cLine; omega), show Value.bool (!(List.range its.size).all e) ≠ Value.notImplemented ∧ Q (.bool (!(List.range its.size).all e)) s from ⟨(fun x => nomatch x), h⟩⟩) (by omega)
theorem tuples {E : Value → Shared → Prop} {n : Nat} {l b : Addr} {its its2 : Array Value} {e : Nat → Bool} {Q : Value → Shared → Prop} (hl : s.heap.IsTuple l its) (hb : s.heap.IsTuple b its2)
    (t : ∀ j (h1 : j < its.size) (h2 : j < its2.size), PySem.W.EqTree prog w s n its[j] its2[j] (e j)) (hu : A.units + (n + 1) < cLine) (h : Q (.bool (!((List.range (min its.size its2.size)).all e && its.size == its2.size))) s) :
    wpAny (model prog w) A (richCompare .NotEq (.ref l) (.ref b)) Q E s := by
  obtain ⟨⟨cls, dd, data, sl⟩, ho, hc, n1, hd⟩ := id hl
  obtain ⟨⟨cls2, dd2, data2, sl2⟩, ho2, hc2, n2, hd2⟩ := id hb
  simp only at hc hd hc2 hd2
  subst hc hd hc2 hd2
  exact wpAny_richCompare_same_room (T := "tuple") (op := .NotEq) ⟨_, ho, rfl⟩ ⟨_, ho2, rfl⟩ F.slot_tuple_ne (call_meetsIn F.slot_tuple_ne ⟨_, ho, rfl⟩ F.entry_tuple_ne (F.args_tuple_ne_2 _ _) (tupleIn l b its its2 n1 n2 dd dd2 sl sl2 e)
    ⟨ho, ho2, fun j h1 h2 => (t j h1 h2).at A.in1 (by show A.units + 1 + _ < cLine; omega), show Value.bool (!((List.range (min its.size its2.size)).all e && its.size == its2.size)) ≠ Value.notImplemented ∧ Q (.bool (!((List.range (min its.size its2.size)).all e && its.size == its2.size))) s from ⟨(fun x => nomatch x), h⟩⟩) (by omega)
end
end Ev.NEq
namespace Ev.NEq
open Lean Elab Tactic Meta PySem PySem.Calls PyProof.Rows PyProof.V PySem.Spec PySem.W
section
variable {prog : Program} {w : World} {A : Around} {E : Value → Shared → Prop} {s : Shared}
theorem dicts {K : Type} [DecidableEq K] {knd : KeyKind prog w K} {n : Nat} {a b : Addr} {ka kb : List (K × Value)} {e : K → Bool} {Q : Value → Shared → Prop} (ha : (a == sysModules) = false) (hb : (b == sysModules) = false)
    (da : s.heap.DictOf knd a ka) (db : s.heap.DictOf knd b kb) (t : ∀ k v y, (k, v) ∈ ka → valueAt kb k = some y → EqTree prog w s n v y (e k)) (hu : A.units + (n + 1) < cLine)
    (h : Q (.bool (!(ka.length == kb.length && ka.all fun p => (valueAt kb p.1).isSome && e p.1))) s) : wpAny (model prog w) A (compareOp .NotEq (.ref a) (.ref b)) Q E s := by
  refine wpAny_richCompare_same_room (op := .NotEq) da.typeIs db.typeIs PySem.F.slot_dict_ne (wpAny_call_entry PySem.F.slot_dict_ne da.typeIs PySem.F.entry_dict_ne ?_ (PySem.F.args_dict_ne_2 _ _)) (by omega)
  show wpAny _ _ (Builtin.Dict.dictSlotArgs "__ne__" ⟨[.ref a, .ref b], []⟩ >>= _) _ _ s
  refine wpAny_bind ?_
  unfold Builtin.Dict.dictSlotArgs
  refine wpAny_bind (wpAny_notOrdered_dict da.typeIs ?_)
  show wpAny _ _ (pure (Value.ref a, Value.ref b)) _ _ s
  refine wpAny_pure ?_
  refine wpAny_bind (wpAny_isInstance (T := "dict") db.typeIs PySem.F.sub_dict_dict ?_)
  simp only [Bool.not_true, Bool.false_eq_true, if_false]
  refine wpAny_bind (wpAny_pure (wpAny_bind (wpAny_pure ?_)))
  refine wpAny_bind (keq_samePairsIn ha hb da db (fun _ => KeqHitsIn.of _ fun k v y hm hv => (t k v y hm hv).at A.in1 (by show A.units + 1 + _ < cLine; omega)) ?_)
  refine wpAny_pure ⟨_, rfl, ?_, ?_⟩
  · exact fun x => nomatch x
  · simpa using h
end
end Ev.NEq

end

section
set_option Elab.async false
set_option linter.all false
set_option maxRecDepth 100000
/-! Ev: != between a dict and what is none. -/
namespace Ev.DNe
open PySem PySem.SeqAt PySem.MeetsSeq PySem.MeetsSeq2 PySem.MeetsSeq3 PySem.SeqRoads2
open AutoSeq1 (wpAny_loadPart')
open Ev.DEq (IsD dO sO)
theorem dec_d_none (a : Addr) (dd : Option Addr) (es : Array DictEntry) (n : Nat) (sl : Array (Option Value))  :
    Meets (Builtin.«dict.__ne__» ⟨[.ref a, .none], []⟩) (fun _ R s => s.heap.get? a = some (dO dd es n sl) ∧ R (.ok (.ret .notImplemented)) s) :=
  .of_wp fun prog w A R s h => by
    obtain ⟨hp, g, d, tk, os⟩ := s
    obtain ⟨hl, h⟩ := h
    have f1 := F.sub_NoneType_dict
    wp_walk using wpAny_loadPart' hl
    exact ⟨_, rfl, h⟩
theorem dec_d_bool (a : Addr) (dd : Option Addr) (es : Array DictEntry) (n : Nat) (sl : Array (Option Value)) (k : Bool) :
    Meets (Builtin.«dict.__ne__» ⟨[.ref a, .bool k], []⟩) (fun _ R s => s.heap.get? a = some (dO dd es n sl) ∧ R (.ok (.ret .notImplemented)) s) :=
  .of_wp fun prog w A R s h => by
    obtain ⟨hp, g, d, tk, os⟩ := s
    obtain ⟨hl, h⟩ := h
    have f1 := F.sub_bool_dict
    wp_walk using wpAny_loadPart' hl
    exact ⟨_, rfl, h⟩
theorem dec_d_int (a : Addr) (dd : Option Addr) (es : Array DictEntry) (n : Nat) (sl : Array (Option Value)) (k : Int) (u : Tok) :
    Meets (Builtin.«dict.__ne__» ⟨[.ref a, .int k u], []⟩) (fun _ R s => s.heap.get? a = some (dO dd es n sl) ∧ R (.ok (.ret .notImplemented)) s) :=
  .of_wp fun prog w A R s h => by
    obtain ⟨hp, g, d, tk, os⟩ := s
    obtain ⟨hl, h⟩ := h
    have f1 := F.sub_int_dict
    wp_walk using wpAny_loadPart' hl
    exact ⟨_, rfl, h⟩
theorem dec_d_str (a : Addr) (dd : Option Addr) (es : Array DictEntry) (n : Nat) (sl : Array (Option Value)) (k : Str) (u : Tok) :
    Meets (Builtin.«dict.__ne__» ⟨[.ref a, .str k u], []⟩) (fun _ R s => s.heap.get? a = some (dO dd es n sl) ∧ R (.ok (.ret .notImplemented)) s) :=
  .of_wp fun prog w A R s h => by
    obtain ⟨hp, g, d, tk, os⟩ := s
    obtain ⟨hl, h⟩ := h
    have f1 := F.sub_str_dict
    wp_walk using wpAny_loadPart' hl
    exact ⟨_, rfl, h⟩
theorem dec_bool_d (a : Addr) (dd : Option Addr) (es : Array DictEntry) (n : Nat) (sl : Array (Option Value)) (k : Bool) :
    Meets (Builtin.«int.__ne__» ⟨[.bool k, .ref a], []⟩) (fun _ R s => s.heap.get? a = some (dO dd es n sl) ∧ R (.ok (.ret .notImplemented)) s) :=
  .of_wp fun prog w A R s h => by
    obtain ⟨hp, g, d, tk, os⟩ := s
    obtain ⟨hl, h⟩ := h
    have f1 := F.sub_dict_int
    wp_walk using wpAny_loadPart' hl
    exact ⟨_, rfl, h⟩
theorem dec_int_d (a : Addr) (dd : Option Addr) (es : Array DictEntry) (n : Nat) (sl : Array (Option Value)) (k : Int) (u : Tok) :
    Meets (Builtin.«int.__ne__» ⟨[.int k u, .ref a], []⟩) (fun _ R s => s.heap.get? a = some (dO dd es n sl) ∧ R (.ok (.ret .notImplemented)) s) :=
  .of_wp fun prog w A R s h => by
    obtain ⟨hp, g, d, tk, os⟩ := s
    obtain ⟨hl, h⟩ := h
    have f1 := F.sub_dict_int
    wp_walk using wpAny_loadPart' hl
    exact ⟨_, rfl, h⟩
theorem dec_str_d (a : Addr) (dd : Option Addr) (es : Array DictEntry) (n : Nat) (sl : Array (Option Value)) (k : Str) (u : Tok) :
    Meets (Builtin.«str.__ne__» ⟨[.str k u, .ref a], []⟩) (fun _ R s => s.heap.get? a = some (dO dd es n sl) ∧ R (.ok (.ret .notImplemented)) s) :=
  .of_wp fun prog w A R s h => by
    obtain ⟨hp, g, d, tk, os⟩ := s
    obtain ⟨hl, h⟩ := h
    have f1 := F.sub_dict_str
    wp_walk using wpAny_loadPart' hl
    exact ⟨_, rfl, h⟩
theorem dec_d_list (a b : Addr) (dd dd2 : Option Addr) (es : Array DictEntry) (its : Array Value) (n n2 : Nat) (sl sl2 : Array (Option Value)) :
    Meets (Builtin.«dict.__ne__» ⟨[.ref a, .ref b], []⟩) (fun _ R s => s.heap.get? a = some (dO dd es n sl) ∧ s.heap.get? b = some (sO "list" dd2 its n2 sl2) ∧ R (.ok (.ret .notImplemented)) s) :=
  .of_wp fun prog w A R s h => by
    obtain ⟨hp, g, d, tk, os⟩ := s
    obtain ⟨hl, hb, h⟩ := h
    have f1 := F.sub_list_dict
    wp_walk using wpAny_loadPart' hl, wpAny_loadPart' hb
    exact ⟨_, rfl, h⟩
theorem dec_list_d (a b : Addr) (dd dd2 : Option Addr) (es : Array DictEntry) (its : Array Value) (n n2 : Nat) (sl sl2 : Array (Option Value)) :
    Meets (Builtin.«list.__ne__» ⟨[.ref b, .ref a], []⟩) (fun _ R s => s.heap.get? a = some (dO dd es n sl) ∧ s.heap.get? b = some (sO "list" dd2 its n2 sl2) ∧ R (.ok (.ret .notImplemented)) s) :=
  .of_wp fun prog w A R s h => by
    obtain ⟨hp, g, d, tk, os⟩ := s
    obtain ⟨hl, hb, h⟩ := h
    have f1 := F.sub_dict_list
    wp_walk using wpAny_loadPart' hl, wpAny_loadPart' hb
    exact ⟨_, rfl, h⟩
theorem dec_d_tuple (a b : Addr) (dd dd2 : Option Addr) (es : Array DictEntry) (its : Array Value) (n n2 : Nat) (sl sl2 : Array (Option Value)) :
    Meets (Builtin.«dict.__ne__» ⟨[.ref a, .ref b], []⟩) (fun _ R s => s.heap.get? a = some (dO dd es n sl) ∧ s.heap.get? b = some (sO "tuple" dd2 its n2 sl2) ∧ R (.ok (.ret .notImplemented)) s) :=
  .of_wp fun prog w A R s h => by
    obtain ⟨hp, g, d, tk, os⟩ := s
    obtain ⟨hl, hb, h⟩ := h
    have f1 := F.sub_tuple_dict
    wp_walk using wpAny_loadPart' hl, wpAny_loadPart' hb
    exact ⟨_, rfl, h⟩
theorem dec_tuple_d (a b : Addr) (dd dd2 : Option Addr) (es : Array DictEntry) (its : Array Value) (n n2 : Nat) (sl sl2 : Array (Option Value)) :
    Meets (Builtin.«tuple.__ne__» ⟨[.ref b, .ref a], []⟩) (fun _ R s => s.heap.get? a = some (dO dd es n sl) ∧ s.heap.get? b = some (sO "tuple" dd2 its n2 sl2) ∧ R (.ok (.ret .notImplemented)) s) :=
  .of_wp fun prog w A R s h => by
    obtain ⟨hp, g, d, tk, os⟩ := s
    obtain ⟨hl, hb, h⟩ := h
    have f1 := F.sub_dict_tuple
    wp_walk using wpAny_loadPart' hl, wpAny_loadPart' hb
    exact ⟨_, rfl, h⟩
section
variable {A : Around} {s : Shared} {a b : Addr}
theorem rc_d_none  (hl : IsD s.heap a) (hu : A.units < cLine) : RcNeAt A s (.ref a) .none true := fun prog w E Q h => by
  obtain ⟨dd, es, n, sl, ho⟩ := hl.ex
  refine rc_ne_decline_or (k := false) ⟨_, ho, rfl⟩ rfl (by decide) F.sub_NoneType_dict F.slot_dict_ne F.slot_NoneType_ne_refl
    (fun _ hq => call_meets F.slot_dict_ne ⟨_, ho, rfl⟩ F.entry_dict_ne (F.args_dict_ne_2 _ _) (dec_d_none a dd es n sl) ⟨ho, hq⟩)
    (fun _ hq => call_gives F.slot_NoneType_ne_refl rfl F.entry_NoneType_ne (F.args_NoneType_ne_2 _ _) (NoneType___ne___none_ref_0 a) hq) ?_ (.inr hu) h
  exact fun _ hq => wpAny_of_eq (rfl : isSame (.ref a) .none = pure false) hq
theorem rc_none_d  (hl : IsD s.heap a) (hu : A.units < cLine) : RcNeAt A s .none (.ref a) true := fun prog w E Q h => by
  obtain ⟨dd, es, n, sl, ho⟩ := hl.ex
  refine rc_ne_decline_or (k := false) rfl ⟨_, ho, rfl⟩ (by decide) F.sub_dict_NoneType F.slot_NoneType_ne F.slot_dict_ne_refl
    (fun _ hq => call_gives F.slot_NoneType_ne rfl F.entry_NoneType_ne (F.args_NoneType_ne_2 _ _) (NoneType___ne___none_ref_0 a) hq)
    (fun _ hq => call_meets F.slot_dict_ne_refl ⟨_, ho, rfl⟩ F.entry_dict_ne (F.args_dict_ne_2 _ _) (dec_d_none a dd es n sl) ⟨ho, hq⟩) ?_ (.inr hu) h
  exact fun _ hq => wpAny_of_eq (rfl : isSame .none (.ref a) = pure false) hq
theorem rc_d_bool (k : Bool) (hl : IsD s.heap a) (hu : A.units < cLine) : RcNeAt A s (.ref a) (.bool k) true := fun prog w E Q h => by
  obtain ⟨dd, es, n, sl, ho⟩ := hl.ex
  refine rc_ne_decline_or (k := false) ⟨_, ho, rfl⟩ rfl (by decide) F.sub_bool_dict F.slot_dict_ne F.slot_bool_ne_refl
    (fun _ hq => call_meets F.slot_dict_ne ⟨_, ho, rfl⟩ F.entry_dict_ne (F.args_dict_ne_2 _ _) (dec_d_bool a dd es n sl k) ⟨ho, hq⟩)
    (fun _ hq => call_meets F.slot_bool_ne_refl rfl F.entry_int_ne (F.args_int_ne_2 _ _) (dec_bool_d a dd es n sl k) ⟨ho, hq⟩) ?_ (.inr hu) h
  exact fun _ hq => wpAny_of_eq (rfl : isSame (.ref a) (.bool k) = pure false) hq
theorem rc_bool_d (k : Bool) (hl : IsD s.heap a) (hu : A.units < cLine) : RcNeAt A s (.bool k) (.ref a) true := fun prog w E Q h => by
  obtain ⟨dd, es, n, sl, ho⟩ := hl.ex
  refine rc_ne_decline_or (k := false) rfl ⟨_, ho, rfl⟩ (by decide) F.sub_dict_bool F.slot_bool_ne F.slot_dict_ne_refl
    (fun _ hq => call_meets F.slot_bool_ne rfl F.entry_int_ne (F.args_int_ne_2 _ _) (dec_bool_d a dd es n sl k) ⟨ho, hq⟩)
    (fun _ hq => call_meets F.slot_dict_ne_refl ⟨_, ho, rfl⟩ F.entry_dict_ne (F.args_dict_ne_2 _ _) (dec_d_bool a dd es n sl k) ⟨ho, hq⟩) ?_ (.inr hu) h
  exact fun _ hq => wpAny_of_eq (rfl : isSame (.bool k) (.ref a) = pure false) hq
theorem rc_d_int (k : Int) (u : Tok) (hl : IsD s.heap a) (hu : A.units < cLine) : RcNeAt A s (.ref a) (.int k u) true := fun prog w E Q h => by
  obtain ⟨dd, es, n, sl, ho⟩ := hl.ex
  refine rc_ne_decline_or (k := false) ⟨_, ho, rfl⟩ rfl (by decide) F.sub_int_dict F.slot_dict_ne F.slot_int_ne_refl
    (fun _ hq => call_meets F.slot_dict_ne ⟨_, ho, rfl⟩ F.entry_dict_ne (F.args_dict_ne_2 _ _) (dec_d_int a dd es n sl k u) ⟨ho, hq⟩)
    (fun _ hq => call_meets F.slot_int_ne_refl rfl F.entry_int_ne (F.args_int_ne_2 _ _) (dec_int_d a dd es n sl k u) ⟨ho, hq⟩) ?_ (.inr hu) h
  exact fun _ hq => wpAny_of_eq (rfl : isSame (.ref a) (.int k u) = pure false) hq
theorem rc_int_d (k : Int) (u : Tok) (hl : IsD s.heap a) (hu : A.units < cLine) : RcNeAt A s (.int k u) (.ref a) true := fun prog w E Q h => by
  obtain ⟨dd, es, n, sl, ho⟩ := hl.ex
  refine rc_ne_decline_or (k := false) rfl ⟨_, ho, rfl⟩ (by decide) F.sub_dict_int F.slot_int_ne F.slot_dict_ne_refl
    (fun _ hq => call_meets F.slot_int_ne rfl F.entry_int_ne (F.args_int_ne_2 _ _) (dec_int_d a dd es n sl k u) ⟨ho, hq⟩)
    (fun _ hq => call_meets F.slot_dict_ne_refl ⟨_, ho, rfl⟩ F.entry_dict_ne (F.args_dict_ne_2 _ _) (dec_d_int a dd es n sl k u) ⟨ho, hq⟩) ?_ (.inr hu) h
  exact fun _ hq => wpAny_of_eq (rfl : isSame (.int k u) (.ref a) = pure false) hq
theorem rc_d_str (k : Str) (u : Tok) (hl : IsD s.heap a) (hu : A.units < cLine) : RcNeAt A s (.ref a) (.str k u) true := fun prog w E Q h => by
  obtain ⟨dd, es, n, sl, ho⟩ := hl.ex
  refine rc_ne_decline_or (k := false) ⟨_, ho, rfl⟩ rfl (by decide) F.sub_str_dict F.slot_dict_ne F.slot_str_ne_refl
    (fun _ hq => call_meets F.slot_dict_ne ⟨_, ho, rfl⟩ F.entry_dict_ne (F.args_dict_ne_2 _ _) (dec_d_str a dd es n sl k u) ⟨ho, hq⟩)
    (fun _ hq => call_meets F.slot_str_ne_refl rfl F.entry_str_ne (F.args_str_ne_2 _ _) (dec_str_d a dd es n sl k u) ⟨ho, hq⟩) ?_ (.inr hu) h
  exact fun _ hq => wpAny_of_eq (rfl : isSame (.ref a) (.str k u) = pure false) hq
theorem rc_str_d (k : Str) (u : Tok) (hl : IsD s.heap a) (hu : A.units < cLine) : RcNeAt A s (.str k u) (.ref a) true := fun prog w E Q h => by
  obtain ⟨dd, es, n, sl, ho⟩ := hl.ex
  refine rc_ne_decline_or (k := false) rfl ⟨_, ho, rfl⟩ (by decide) F.sub_dict_str F.slot_str_ne F.slot_dict_ne_refl
    (fun _ hq => call_meets F.slot_str_ne rfl F.entry_str_ne (F.args_str_ne_2 _ _) (dec_str_d a dd es n sl k u) ⟨ho, hq⟩)
    (fun _ hq => call_meets F.slot_dict_ne_refl ⟨_, ho, rfl⟩ F.entry_dict_ne (F.args_dict_ne_2 _ _) (dec_d_str a dd es n sl k u) ⟨ho, hq⟩) ?_ (.inr hu) h
  exact fun _ hq => wpAny_of_eq (rfl : isSame (.str k u) (.ref a) = pure false) hq
theorem rc_d_list {its : Array Value} (hl : IsD s.heap a) (hb : s.heap.IsList b its) (hu : A.units < cLine) : RcNeAt A s (.ref a) (.ref b) true := fun prog w E Q h => by
  have hne := DEq.ne_d_list hl hb
  obtain ⟨dd, es, n, sl, ho⟩ := hl.ex
  obtain ⟨⟨cls2, dd2, data2, sl2⟩, ho2, hc2, n2, hd2⟩ := id hb
  simp only at hc2 hd2
  subst hc2 hd2
  refine rc_ne_decline_or (k := false) ⟨_, ho, rfl⟩ ⟨_, ho2, rfl⟩ (by decide) F.sub_list_dict F.slot_dict_ne F.slot_list_ne_refl
    (fun _ hq => call_meets F.slot_dict_ne ⟨_, ho, rfl⟩ F.entry_dict_ne (F.args_dict_ne_2 _ _) (dec_d_list a b dd dd2 es its n n2 sl sl2) ⟨ho, ho2, hq⟩)
    (fun _ hq => call_meets F.slot_list_ne_refl ⟨_, ho2, rfl⟩ F.entry_list_ne (F.args_list_ne_2 _ _) (dec_list_d a b dd dd2 es its n n2 sl sl2) ⟨ho, ho2, hq⟩) ?_ (.inr hu) h
  exact fun _ hq => wpAny_isSame_ref_other hne ho ho2 (by simp) hq
theorem rc_list_d {its : Array Value} (hl : IsD s.heap a) (hb : s.heap.IsList b its) (hu : A.units < cLine) : RcNeAt A s (.ref b) (.ref a) true := fun prog w E Q h => by
  have hne := (DEq.ne_d_list hl hb).symm
  obtain ⟨dd, es, n, sl, ho⟩ := hl.ex
  obtain ⟨⟨cls2, dd2, data2, sl2⟩, ho2, hc2, n2, hd2⟩ := id hb
  simp only at hc2 hd2
  subst hc2 hd2
  refine rc_ne_decline_or (k := false) ⟨_, ho2, rfl⟩ ⟨_, ho, rfl⟩ (by decide) F.sub_dict_list F.slot_list_ne F.slot_dict_ne_refl
    (fun _ hq => call_meets F.slot_list_ne ⟨_, ho2, rfl⟩ F.entry_list_ne (F.args_list_ne_2 _ _) (dec_list_d a b dd dd2 es its n n2 sl sl2) ⟨ho, ho2, hq⟩)
    (fun _ hq => call_meets F.slot_dict_ne_refl ⟨_, ho, rfl⟩ F.entry_dict_ne (F.args_dict_ne_2 _ _) (dec_d_list a b dd dd2 es its n n2 sl sl2) ⟨ho, ho2, hq⟩) ?_ (.inr hu) h
  exact fun _ hq => wpAny_isSame_ref_other' hne ho2 ho (by simp) hq
theorem rc_d_tuple {its : Array Value} (hl : IsD s.heap a) (hb : s.heap.IsTuple b its) (hu : A.units < cLine) : RcNeAt A s (.ref a) (.ref b) true := fun prog w E Q h => by
  have hne := DEq.ne_d_tuple hl hb
  obtain ⟨dd, es, n, sl, ho⟩ := hl.ex
  obtain ⟨⟨cls2, dd2, data2, sl2⟩, ho2, hc2, n2, hd2⟩ := id hb
  simp only at hc2 hd2
  subst hc2 hd2
  refine rc_ne_decline_or (k := false) ⟨_, ho, rfl⟩ ⟨_, ho2, rfl⟩ (by decide) F.sub_tuple_dict F.slot_dict_ne F.slot_tuple_ne_refl
    (fun _ hq => call_meets F.slot_dict_ne ⟨_, ho, rfl⟩ F.entry_dict_ne (F.args_dict_ne_2 _ _) (dec_d_tuple a b dd dd2 es its n n2 sl sl2) ⟨ho, ho2, hq⟩)
    (fun _ hq => call_meets F.slot_tuple_ne_refl ⟨_, ho2, rfl⟩ F.entry_tuple_ne (F.args_tuple_ne_2 _ _) (dec_tuple_d a b dd dd2 es its n n2 sl sl2) ⟨ho, ho2, hq⟩) ?_ (.inr hu) h
  exact fun _ hq => wpAny_isSame_ref_other hne ho ho2 (by simp) hq
theorem rc_tuple_d {its : Array Value} (hl : IsD s.heap a) (hb : s.heap.IsTuple b its) (hu : A.units < cLine) : RcNeAt A s (.ref b) (.ref a) true := fun prog w E Q h => by
  have hne := (DEq.ne_d_tuple hl hb).symm
  obtain ⟨dd, es, n, sl, ho⟩ := hl.ex
  obtain ⟨⟨cls2, dd2, data2, sl2⟩, ho2, hc2, n2, hd2⟩ := id hb
  simp only at hc2 hd2
  subst hc2 hd2
  refine rc_ne_decline_or (k := false) ⟨_, ho2, rfl⟩ ⟨_, ho, rfl⟩ (by decide) F.sub_dict_tuple F.slot_tuple_ne F.slot_dict_ne_refl
    (fun _ hq => call_meets F.slot_tuple_ne ⟨_, ho2, rfl⟩ F.entry_tuple_ne (F.args_tuple_ne_2 _ _) (dec_tuple_d a b dd dd2 es its n n2 sl sl2) ⟨ho, ho2, hq⟩)
    (fun _ hq => call_meets F.slot_dict_ne_refl ⟨_, ho, rfl⟩ F.entry_dict_ne (F.args_dict_ne_2 _ _) (dec_d_tuple a b dd dd2 es its n n2 sl sl2) ⟨ho, ho2, hq⟩) ?_ (.inr hu) h
  exact fun _ hq => wpAny_isSame_ref_other' hne ho2 ho (by simp) hq
end
end Ev.DNe

end

section
set_option Elab.async false
set_option linter.all false
set_option maxRecDepth 100000
/-! Ev: == and != asked. -/
namespace Ev
open PySem PySem.Spec PyProof.Rows
open L2 (V Hp HO PE PT PS PSs PA PG PGs PI TE TT TA TS TG TGs VK SqL SqT Rd Key upd upd_same upd_ne OpR CallR IxR SlR MtR MtM R2 tOp RelV Vals WX Takes Room FnOk Sp XK Ends rI rI0 CMul CDiv CPow KV)
open SeqAt (EqAt RcAt RcNeAt)
theorem nodcts_mem : ∀ {l : List D}, D.nodcts l = true → ∀ x ∈ l, x.nodct = true
  | [], _, x, h => by cases h
  | y :: l, p, x, h => by
    simp only [D.nodcts, Bool.and_eq_true] at p
    rcases List.mem_cons.mp h with e | h
    · subst e; exact p.1
    · exact nodcts_mem p.2 x h
section
variable {X : HCx} {pins : List (Addr × Obj)} {σ : HSt} {H : Hp} {s : Shared} {R : RC}
theorem at_rc (I : L2.Inv X pins σ H s) (hK : R.K = X.K) {A : Around} {x y : D} {v w : V} {v' w' : Value} (px : x.plain = true) (py : y.plain = true) (hx : Rep R H x v) (hy : Rep R H y w) (rv : RelV v v') (rw' : RelV w w') (u : unlike x y = true) (hu' : A.units < cLine) :
    RcAt A s v' w' (eqD x y) := by
  cases x with
  | non =>
    cases hx; cases rv
    cases y with
    | non =>
      cases hy; cases rw'
      exact RcAt.none_none
    | bl c =>
      cases hy; cases rw'
      exact RcAt.none_bool _
    | int j =>
      cases hy; obtain ⟨ty, rfl⟩ := rw'
      exact RcAt.none_int _ _
    | str z2 =>
      cases hy; obtain ⟨ty, rfl⟩ := rw'
      exact RcAt.none_str _ _
    | tup m =>
      obtain ⟨a, ys, rfl, h1, _⟩ := hy
      cases rw'
      rw [hK] at h1
      obtain ⟨its, r, ht, hz⟩ := I.tuple h1
      exact RcAt.none_tuple (show s.heap.IsTuple a its.toArray from ht) hu'
    | lst m =>
      obtain ⟨a, ys, rfl, h1, _⟩ := hy
      cases rw'
      obtain ⟨its, r, ht, hz⟩ := I.list (.inl h1)
      exact RcAt.none_list ht.isList hu'
    | dct m =>
      obtain ⟨a, ys, rfl, h1, _⟩ := hy
      cases rw'
      exact DEq.rc_none_d (isD_of I h1) hu'
    | ins c fs => simp [D.plain] at py
  | bl b =>
    cases hx; cases rv
    cases y with
    | non =>
      cases hy; cases rw'
      exact RcAt.bool_none _
    | bl c =>
      cases hy; cases rw'
      exact RcAt.bool_bool _ _
    | int j =>
      cases hy; obtain ⟨ty, rfl⟩ := rw'
      have q := RcAt.bool_int (A := A) (s := s) b j ty
      simp only [eqD]
      cases b <;> exact q
    | str z2 =>
      cases hy; obtain ⟨ty, rfl⟩ := rw'
      exact RcAt.bool_str _ _ _
    | tup m =>
      obtain ⟨a, ys, rfl, h1, _⟩ := hy
      cases rw'
      rw [hK] at h1
      obtain ⟨its, r, ht, hz⟩ := I.tuple h1
      exact RcAt.bool_tuple _ (show s.heap.IsTuple a its.toArray from ht) hu'
    | lst m =>
      obtain ⟨a, ys, rfl, h1, _⟩ := hy
      cases rw'
      obtain ⟨its, r, ht, hz⟩ := I.list (.inl h1)
      exact RcAt.bool_list _ ht.isList hu'
    | dct m =>
      obtain ⟨a, ys, rfl, h1, _⟩ := hy
      cases rw'
      exact DEq.rc_bool_d _ (isD_of I h1) hu'
    | ins c fs => simp [D.plain] at py
  | int i =>
    cases hx; obtain ⟨tx, rfl⟩ := rv
    cases y with
    | non =>
      cases hy; cases rw'
      exact RcAt.int_none _ _
    | bl c =>
      cases hy; cases rw'
      have q := RcAt.int_bool (A := A) (s := s) i tx c
      simp only [eqD]
      cases c <;> exact q
    | int j =>
      cases hy; obtain ⟨ty, rfl⟩ := rw'
      exact RcAt.int_int _ _ _ _
    | str z2 =>
      cases hy; obtain ⟨ty, rfl⟩ := rw'
      exact RcAt.int_str _ _ _ _
    | tup m =>
      obtain ⟨a, ys, rfl, h1, _⟩ := hy
      cases rw'
      rw [hK] at h1
      obtain ⟨its, r, ht, hz⟩ := I.tuple h1
      exact RcAt.int_tuple _ _ (show s.heap.IsTuple a its.toArray from ht) hu'
    | lst m =>
      obtain ⟨a, ys, rfl, h1, _⟩ := hy
      cases rw'
      obtain ⟨its, r, ht, hz⟩ := I.list (.inl h1)
      exact RcAt.int_list _ _ ht.isList hu'
    | dct m =>
      obtain ⟨a, ys, rfl, h1, _⟩ := hy
      cases rw'
      exact DEq.rc_int_d _ _ (isD_of I h1) hu'
    | ins c fs => simp [D.plain] at py
  | str z =>
    cases hx; obtain ⟨tx, rfl⟩ := rv
    cases y with
    | non =>
      cases hy; cases rw'
      exact RcAt.str_none _ _
    | bl c =>
      cases hy; cases rw'
      exact RcAt.str_bool _ _ _
    | int j =>
      cases hy; obtain ⟨ty, rfl⟩ := rw'
      exact RcAt.str_int _ _ _ _
    | str z2 =>
      cases hy; obtain ⟨ty, rfl⟩ := rw'
      have q := RcAt.str_str (A := A) (s := s) ⟨z.toArray⟩ tx ⟨z2.toArray⟩ ty
      have e : ((⟨z.toArray⟩ : Str) == ⟨z2.toArray⟩) = (z == z2) := by
        rw [Bool.eq_iff_iff]
        simp
      rw [e] at q
      exact q
    | tup m =>
      obtain ⟨a, ys, rfl, h1, _⟩ := hy
      cases rw'
      rw [hK] at h1
      obtain ⟨its, r, ht, hz⟩ := I.tuple h1
      exact RcAt.str_tuple _ _ (show s.heap.IsTuple a its.toArray from ht) hu'
    | lst m =>
      obtain ⟨a, ys, rfl, h1, _⟩ := hy
      cases rw'
      obtain ⟨its, r, ht, hz⟩ := I.list (.inl h1)
      exact RcAt.str_list _ _ ht.isList hu'
    | dct m =>
      obtain ⟨a, ys, rfl, h1, _⟩ := hy
      cases rw'
      exact DEq.rc_str_d _ _ (isD_of I h1) hu'
    | ins c fs => simp [D.plain] at py
  | tup l =>
    obtain ⟨a, xs, rfl, h1, _⟩ := hx
    cases rv
    rw [hK] at h1
    obtain ⟨its, r, ht0, hz⟩ := I.tuple h1
    have ht : s.heap.IsTuple a its.toArray := ht0
    cases y with
    | non =>
      cases hy; cases rw'
      exact RcAt.tuple_none ht hu'
    | bl c =>
      cases hy; cases rw'
      exact RcAt.tuple_bool _ ht hu'
    | int j =>
      cases hy; obtain ⟨ty, rfl⟩ := rw'
      exact RcAt.tuple_int _ _ ht hu'
    | str z2 =>
      cases hy; obtain ⟨ty, rfl⟩ := rw'
      exact RcAt.tuple_str _ _ ht hu'
    | tup m =>
      simp [unlike] at u
    | lst m =>
      obtain ⟨b, ys, rfl, h3, _⟩ := hy
      cases rw'
      obtain ⟨its2, r2, ht2, hz2⟩ := I.list (.inl h3)
      have ht2 : s.heap.IsList b its2.toArray := ht2.isList
      exact RcAt.tuple_list ht ht2 hu'
    | dct m =>
      obtain ⟨b, ys, rfl, h3, _⟩ := hy
      cases rw'
      have ht2 := isD_of I h3
      exact DEq.rc_tuple_d ht2 ht hu'
    | ins c fs => simp [D.plain] at py
  | lst l =>
    obtain ⟨a, xs, rfl, h1, _⟩ := hx
    cases rv
    obtain ⟨its, r, ht0, hz⟩ := I.list (.inl h1)
    have ht : s.heap.IsList a its.toArray := ht0.isList
    cases y with
    | non =>
      cases hy; cases rw'
      exact RcAt.list_none ht hu'
    | bl c =>
      cases hy; cases rw'
      exact RcAt.list_bool _ ht hu'
    | int j =>
      cases hy; obtain ⟨ty, rfl⟩ := rw'
      exact RcAt.list_int _ _ ht hu'
    | str z2 =>
      cases hy; obtain ⟨ty, rfl⟩ := rw'
      exact RcAt.list_str _ _ ht hu'
    | tup m =>
      obtain ⟨b, ys, rfl, h3, _⟩ := hy
      cases rw'
      rw [hK] at h3
      obtain ⟨its2, r2, ht2, hz2⟩ := I.tuple h3
      have ht2 : s.heap.IsTuple b its2.toArray := ht2
      exact RcAt.list_tuple ht ht2 hu'
    | lst m =>
      simp [unlike] at u
    | dct m =>
      obtain ⟨b, ys, rfl, h3, _⟩ := hy
      cases rw'
      have ht2 := isD_of I h3
      exact DEq.rc_list_d ht2 ht hu'
    | ins c fs => simp [D.plain] at py
  | dct l =>
    obtain ⟨a, xs, rfl, h1, _⟩ := hx
    cases rv
    have ht := isD_of I h1
    cases y with
    | non =>
      cases hy; cases rw'
      exact DEq.rc_d_none ht hu'
    | bl c =>
      cases hy; cases rw'
      exact DEq.rc_d_bool _ ht hu'
    | int j =>
      cases hy; obtain ⟨ty, rfl⟩ := rw'
      exact DEq.rc_d_int _ _ ht hu'
    | str z2 =>
      cases hy; obtain ⟨ty, rfl⟩ := rw'
      exact DEq.rc_d_str _ _ ht hu'
    | tup m =>
      obtain ⟨b, ys, rfl, h3, _⟩ := hy
      cases rw'
      rw [hK] at h3
      obtain ⟨its2, r2, ht2, hz2⟩ := I.tuple h3
      have ht2 : s.heap.IsTuple b its2.toArray := ht2
      exact DEq.rc_d_tuple ht ht2 hu'
    | lst m =>
      obtain ⟨b, ys, rfl, h3, _⟩ := hy
      cases rw'
      obtain ⟨its2, r2, ht2, hz2⟩ := I.list (.inl h3)
      have ht2 : s.heap.IsList b its2.toArray := ht2.isList
      exact DEq.rc_d_list ht ht2 hu'
    | dct m =>
      simp [unlike] at u
    | ins c fs => simp [D.plain] at py
  | ins c fs => simp [D.plain] at px
theorem at_ne (I : L2.Inv X pins σ H s) (hK : R.K = X.K) {A : Around} {x y : D} {v w : V} {v' w' : Value} (px : x.plain = true) (py : y.plain = true) (hx : Rep R H x v) (hy : Rep R H y w) (rv : RelV v v') (rw' : RelV w w') (u : unlike x y = true) (hu' : A.units < cLine) :
    RcNeAt A s v' w' (!eqD x y) := by
  cases x with
  | non =>
    cases hx; cases rv
    cases y with
    | non =>
      cases hy; cases rw'
      exact RcNeAt.none_none
    | bl c =>
      cases hy; cases rw'
      exact RcNeAt.none_bool _
    | int j =>
      cases hy; obtain ⟨ty, rfl⟩ := rw'
      exact RcNeAt.none_int _ _
    | str z2 =>
      cases hy; obtain ⟨ty, rfl⟩ := rw'
      exact RcNeAt.none_str _ _
    | tup m =>
      obtain ⟨a, ys, rfl, h1, _⟩ := hy
      cases rw'
      rw [hK] at h1
      obtain ⟨its, r, ht, hz⟩ := I.tuple h1
      exact RcNeAt.none_tuple (show s.heap.IsTuple a its.toArray from ht) hu'
    | lst m =>
      obtain ⟨a, ys, rfl, h1, _⟩ := hy
      cases rw'
      obtain ⟨its, r, ht, hz⟩ := I.list (.inl h1)
      exact RcNeAt.none_list ht.isList hu'
    | dct m =>
      obtain ⟨a, ys, rfl, h1, _⟩ := hy
      cases rw'
      exact DNe.rc_none_d (isD_of I h1) hu'
    | ins c fs => simp [D.plain] at py
  | bl b =>
    cases hx; cases rv
    cases y with
    | non =>
      cases hy; cases rw'
      exact RcNeAt.bool_none _
    | bl c =>
      cases hy; cases rw'
      exact RcNeAt.bool_bool _ _
    | int j =>
      cases hy; obtain ⟨ty, rfl⟩ := rw'
      have q := RcNeAt.bool_int (A := A) (s := s) b j ty
      simp only [eqD]
      cases b <;> exact q
    | str z2 =>
      cases hy; obtain ⟨ty, rfl⟩ := rw'
      exact RcNeAt.bool_str _ _ _
    | tup m =>
      obtain ⟨a, ys, rfl, h1, _⟩ := hy
      cases rw'
      rw [hK] at h1
      obtain ⟨its, r, ht, hz⟩ := I.tuple h1
      exact RcNeAt.bool_tuple _ (show s.heap.IsTuple a its.toArray from ht) hu'
    | lst m =>
      obtain ⟨a, ys, rfl, h1, _⟩ := hy
      cases rw'
      obtain ⟨its, r, ht, hz⟩ := I.list (.inl h1)
      exact RcNeAt.bool_list _ ht.isList hu'
    | dct m =>
      obtain ⟨a, ys, rfl, h1, _⟩ := hy
      cases rw'
      exact DNe.rc_bool_d _ (isD_of I h1) hu'
    | ins c fs => simp [D.plain] at py
  | int i =>
    cases hx; obtain ⟨tx, rfl⟩ := rv
    cases y with
    | non =>
      cases hy; cases rw'
      exact RcNeAt.int_none _ _
    | bl c =>
      cases hy; cases rw'
      have q := RcNeAt.int_bool (A := A) (s := s) i tx c
      simp only [eqD]
      cases c <;> exact q
    | int j =>
      cases hy; obtain ⟨ty, rfl⟩ := rw'
      exact RcNeAt.int_int _ _ _ _
    | str z2 =>
      cases hy; obtain ⟨ty, rfl⟩ := rw'
      exact RcNeAt.int_str _ _ _ _
    | tup m =>
      obtain ⟨a, ys, rfl, h1, _⟩ := hy
      cases rw'
      rw [hK] at h1
      obtain ⟨its, r, ht, hz⟩ := I.tuple h1
      exact RcNeAt.int_tuple _ _ (show s.heap.IsTuple a its.toArray from ht) hu'
    | lst m =>
      obtain ⟨a, ys, rfl, h1, _⟩ := hy
      cases rw'
      obtain ⟨its, r, ht, hz⟩ := I.list (.inl h1)
      exact RcNeAt.int_list _ _ ht.isList hu'
    | dct m =>
      obtain ⟨a, ys, rfl, h1, _⟩ := hy
      cases rw'
      exact DNe.rc_int_d _ _ (isD_of I h1) hu'
    | ins c fs => simp [D.plain] at py
  | str z =>
    cases hx; obtain ⟨tx, rfl⟩ := rv
    cases y with
    | non =>
      cases hy; cases rw'
      exact RcNeAt.str_none _ _
    | bl c =>
      cases hy; cases rw'
      exact RcNeAt.str_bool _ _ _
    | int j =>
      cases hy; obtain ⟨ty, rfl⟩ := rw'
      exact RcNeAt.str_int _ _ _ _
    | str z2 =>
      cases hy; obtain ⟨ty, rfl⟩ := rw'
      have q := RcNeAt.str_str (A := A) (s := s) ⟨z.toArray⟩ tx ⟨z2.toArray⟩ ty
      have e : ((⟨z.toArray⟩ : Str) == ⟨z2.toArray⟩) = (z == z2) := by
        rw [Bool.eq_iff_iff]
        simp
      rw [e] at q
      exact q
    | tup m =>
      obtain ⟨a, ys, rfl, h1, _⟩ := hy
      cases rw'
      rw [hK] at h1
      obtain ⟨its, r, ht, hz⟩ := I.tuple h1
      exact RcNeAt.str_tuple _ _ (show s.heap.IsTuple a its.toArray from ht) hu'
    | lst m =>
      obtain ⟨a, ys, rfl, h1, _⟩ := hy
      cases rw'
      obtain ⟨its, r, ht, hz⟩ := I.list (.inl h1)
      exact RcNeAt.str_list _ _ ht.isList hu'
    | dct m =>
      obtain ⟨a, ys, rfl, h1, _⟩ := hy
      cases rw'
      exact DNe.rc_str_d _ _ (isD_of I h1) hu'
    | ins c fs => simp [D.plain] at py
  | tup l =>
    obtain ⟨a, xs, rfl, h1, _⟩ := hx
    cases rv
    rw [hK] at h1
    obtain ⟨its, r, ht0, hz⟩ := I.tuple h1
    have ht : s.heap.IsTuple a its.toArray := ht0
    cases y with
    | non =>
      cases hy; cases rw'
      exact RcNeAt.tuple_none ht hu'
    | bl c =>
      cases hy; cases rw'
      exact RcNeAt.tuple_bool _ ht hu'
    | int j =>
      cases hy; obtain ⟨ty, rfl⟩ := rw'
      exact RcNeAt.tuple_int _ _ ht hu'
    | str z2 =>
      cases hy; obtain ⟨ty, rfl⟩ := rw'
      exact RcNeAt.tuple_str _ _ ht hu'
    | tup m =>
      simp [unlike] at u
    | lst m =>
      obtain ⟨b, ys, rfl, h3, _⟩ := hy
      cases rw'
      obtain ⟨its2, r2, ht2, hz2⟩ := I.list (.inl h3)
      have ht2 : s.heap.IsList b its2.toArray := ht2.isList
      exact RcNeAt.tuple_list ht ht2 hu'
    | dct m =>
      obtain ⟨b, ys, rfl, h3, _⟩ := hy
      cases rw'
      have ht2 := isD_of I h3
      exact DNe.rc_tuple_d ht2 ht hu'
    | ins c fs => simp [D.plain] at py
  | lst l =>
    obtain ⟨a, xs, rfl, h1, _⟩ := hx
    cases rv
    obtain ⟨its, r, ht0, hz⟩ := I.list (.inl h1)
    have ht : s.heap.IsList a its.toArray := ht0.isList
    cases y with
    | non =>
      cases hy; cases rw'
      exact RcNeAt.list_none ht hu'
    | bl c =>
      cases hy; cases rw'
      exact RcNeAt.list_bool _ ht hu'
    | int j =>
      cases hy; obtain ⟨ty, rfl⟩ := rw'
      exact RcNeAt.list_int _ _ ht hu'
    | str z2 =>
      cases hy; obtain ⟨ty, rfl⟩ := rw'
      exact RcNeAt.list_str _ _ ht hu'
    | tup m =>
      obtain ⟨b, ys, rfl, h3, _⟩ := hy
      cases rw'
      rw [hK] at h3
      obtain ⟨its2, r2, ht2, hz2⟩ := I.tuple h3
      have ht2 : s.heap.IsTuple b its2.toArray := ht2
      exact RcNeAt.list_tuple ht ht2 hu'
    | lst m =>
      simp [unlike] at u
    | dct m =>
      obtain ⟨b, ys, rfl, h3, _⟩ := hy
      cases rw'
      have ht2 := isD_of I h3
      exact DNe.rc_list_d ht2 ht hu'
    | ins c fs => simp [D.plain] at py
  | dct l =>
    obtain ⟨a, xs, rfl, h1, _⟩ := hx
    cases rv
    have ht := isD_of I h1
    cases y with
    | non =>
      cases hy; cases rw'
      exact DNe.rc_d_none ht hu'
    | bl c =>
      cases hy; cases rw'
      exact DNe.rc_d_bool _ ht hu'
    | int j =>
      cases hy; obtain ⟨ty, rfl⟩ := rw'
      exact DNe.rc_d_int _ _ ht hu'
    | str z2 =>
      cases hy; obtain ⟨ty, rfl⟩ := rw'
      exact DNe.rc_d_str _ _ ht hu'
    | tup m =>
      obtain ⟨b, ys, rfl, h3, _⟩ := hy
      cases rw'
      rw [hK] at h3
      obtain ⟨its2, r2, ht2, hz2⟩ := I.tuple h3
      have ht2 : s.heap.IsTuple b its2.toArray := ht2
      exact DNe.rc_d_tuple ht ht2 hu'
    | lst m =>
      obtain ⟨b, ys, rfl, h3, _⟩ := hy
      cases rw'
      obtain ⟨its2, r2, ht2, hz2⟩ := I.list (.inl h3)
      have ht2 : s.heap.IsList b its2.toArray := ht2.isList
      exact DNe.rc_d_list ht ht2 hu'
    | dct m =>
      simp [unlike] at u
    | ins c fs => simp [D.plain] at py
  | ins c fs => simp [D.plain] at px
theorem eq_of_leaf (I : L2.Inv X pins σ H s) (hK : R.K = X.K) {A : Around} {x y : D} {v w : V} {v' w' : Value} (px : x.plain = true) (py : y.plain = true) (hx : Rep R H x v) (hy : Rep R H y w) (rv : RelV v v') (rw' : RelV w w') (u : unlike x y = true) (hu' : A.units < cLine) :
    EqAt A s v' w' (eqD x y) := at_leafA I hK px py hx hy rv rw' u hu'

theorem eqSeqA {l m : List D} {xs ys : List V} {its its2 : List Value} {A : Around} (h2 : Reps R H l xs) (h4 : Reps R H m ys) (r : Vals xs its) (r2 : Vals ys its2)
    (ih : ∀ x ∈ l, ∀ y ∈ m, ∀ (v w : V) (v' w' : Value), Rep R H x v → Rep R H y w → RelV v v' → RelV w w' → EqAt A s v' w' (eqD x y)) :
    ∀ j (h1 : j < its.toArray.size) (h2 : j < its2.toArray.size), EqAt A s its.toArray[j] its2.toArray[j] (eqD (l.getD j .non) (m.getD j .non)) := by
  intro j hj1 hj2
  obtain ⟨x, ex, rx⟩ := Vals.at' r (show j < its.length by simpa using hj1)
  obtain ⟨y, ey, ry⟩ := Vals.at' r2 (show j < its2.length by simpa using hj2)
  obtain ⟨dx, edx, hx⟩ := h2.get' ex
  obtain ⟨dy, edy, hy⟩ := h4.get' ey
  rw [List.getD_eq_getElem?_getD, List.getD_eq_getElem?_getD, edx, edy]
  exact ih dx (List.mem_of_getElem? edx) dy (List.mem_of_getElem? edy) x y _ _ hx hy (by simpa using rx) (by simpa using ry)
/-- == of an item, no dicts within -/
theorem eqAtT (I : L2.Inv X pins σ H s) (hK : R.K = X.K) : ∀ (n : Nat) (A : Around) (x y : D) (v w : V) (v' w' : Value), A.units + n < cLine → x.plain = true → y.plain = true → x.nodct = true → y.nodct = true → x.depth ≤ n →
    Rep R H x v → Rep R H y w → RelV v v' → RelV w w' → EqAt A s v' w' (eqD x y) := by
  intro n
  induction n with
  | zero =>
    intro A x y v w v' w' hA px py nx ny dx hx hy rv rw'
    have u : unlike x y = true := by cases x <;> first | rfl | (simp [D.depth] at dx)
    exact eq_of_leaf I hK px py hx hy rv rw' u (by omega)
  | succ n ih =>
    intro A x y v w v' w' hA px py nx ny dx hx hy rv rw'
    by_cases u : unlike x y = true
    · exact eq_of_leaf I hK px py hx hy rv rw' u (by omega)
    · by_cases hvw : v = w
      · subst hvw
        have e := Rep.inj I hK px hx hy
        subst e
        rw [eqD_self I px hx]
        cases x with
        | tup l => obtain ⟨a, xs, rfl, _⟩ := hx; cases rv; cases rw'; exact EqAt.same _
        | lst l => obtain ⟨a, xs, rfl, _⟩ := hx; cases rv; cases rw'; exact EqAt.same _
        | dct l => simp [D.nodct] at nx
        | _ => exact absurd rfl u
      · cases x with
        | tup l =>
          cases y with
          | tup m =>
            obtain ⟨a, xs, rfl, h1, h2⟩ := hx
            obtain ⟨b, ys, rfl, h3, h4⟩ := hy
            cases rv
            cases rw'
            rw [hK] at h1 h3
            obtain ⟨its, r, ht, hz⟩ := I.tuple h1
            obtain ⟨its2, r2, ht2, hz2⟩ := I.tuple h3
            simp only [D.plain] at px py
            simp only [D.nodct] at nx ny
            simp only [D.depth] at dx
            have q := RcAt.tuples (A := A) ht ht2 (by omega) (eqSeqA h2 h4 r r2 fun x hx y hy v w v' w' a b c d => ih A.in1 x y v w v' w' (by show A.units + 1 + n < cLine; omega) (plains_mem px x hx) (plains_mem py y hy) (nodcts_mem nx x hx) (nodcts_mem ny y hy) (depths_mem (by omega) x hx) a b c d)
            simp only [List.size_toArray, ← r.length, ← r2.length, ← h2.length, ← h4.length] at q
            show EqAt _ _ _ _ (eqDs l m)
            rw [eqDs_all]
            exact EqAt.of_refs (fun e => hvw (by rw [e])) q
          | _ => exact absurd rfl u
        | lst l =>
          cases y with
          | lst m =>
            obtain ⟨a, xs, rfl, h1, h2⟩ := hx
            obtain ⟨b, ys, rfl, h3, h4⟩ := hy
            cases rv
            cases rw'
            obtain ⟨its, r, ht, hz⟩ := I.list (.inl h1)
            obtain ⟨its2, r2, ht2, hz2⟩ := I.list (.inl h3)
            simp only [D.plain] at px py
            simp only [D.nodct] at nx ny
            simp only [D.depth] at dx
            have hne : a ≠ b := fun e => hvw (by rw [e])
            have l1 := r.length
            have l2 := r2.length
            have l3 := h2.length
            have l4 := h4.length
            show EqAt _ _ _ _ (eqDs l m)
            rw [eqDs_all]
            by_cases hsz : l.length = m.length
            · have q := RcAt.lists (A := A) ht.isList ht2.isList (by simp; omega) (by omega) (eqSeqA h2 h4 r r2 fun x hx y hy v w v' w' a b c d => ih A.in1 x y v w v' w' (by show A.units + 1 + n < cLine; omega) (plains_mem px x hx) (plains_mem py y hy) (nodcts_mem nx x hx) (nodcts_mem ny y hy) (depths_mem (by omega) x hx) a b c d)
              simp only [List.size_toArray, ← l1, ← l3] at q
              rw [← hsz, Nat.min_self, beq_self_eq_true, Bool.and_true]
              exact EqAt.of_refs hne q
            · rw [show (l.length == m.length) = false by simpa using hsz, Bool.and_false]
              exact EqAt.of_refs hne (RcAt.lists_lengths ht.isList ht2.isList (by simp only [List.size_toArray, bne_iff_ne, ne_eq]; omega) (by omega))
          | _ => exact absurd rfl u
        | dct l => simp [D.nodct] at nx
        | _ => exact absurd rfl u

/-- x == y -/
def rEqQ (R : RC) : R2 := fun v w H Q => ∃ x y, Rep R H x v ∧ Rep R H y w ∧ eqOk x = true ∧ eqOk y = true ∧ Q (.bl (eqD x y)) H
theorem eqOk_iff {x : D} (h : eqOk x = true) : x.plain = true ∧ x.depth ≤ 60 := by
  simpa [eqOk] using h
theorem op_eqQ (hK : R.K = X.K) (hu : X.A.units + 64 < cLine) : OpR X (compareOp .Eq) (rEqQ R) := by
  intro pins s σ H v w v' w' Q I rv rw' h
  obtain ⟨x, y, hx, hy, ox, oy, q⟩ := h
  obtain ⟨px, dx⟩ := eqOk_iff ox
  obtain ⟨py, dy⟩ := eqOk_iff oy
  have fin : L2.EP X pins σ Q (.bool (eqD x y)) s := ⟨.bl _, H, I, rfl, q⟩
  show wpAny (model X.prog X.w) X.A (richCompare .Eq v' w') _ _ _
  by_cases u : unlike x y = true
  · exact at_rc I hK px py hx hy rv rw' u (by omega) _ _ _ _ fin
  · cases x with
    | tup l =>
      cases y with
      | tup m =>
        obtain ⟨a, xs, rfl, h1, h2⟩ := hx
        obtain ⟨b, ys, rfl, h3, h4⟩ := hy
        cases rv
        cases rw'
        rw [hK] at h1 h3
        obtain ⟨its, r, ht, hz⟩ := I.tuple h1
        obtain ⟨its2, r2, ht2, hz2⟩ := I.tuple h3
        simp only [D.plain] at px py
        simp only [D.depth] at dx
        refine PySem.W.eq_tuplesT (n := 59) ht ht2 (eqSeq I h2 h4 r r2 fun x hx y hy v w v' w' a b c d => eqTree I hK 59 x y v w v' w' (plains_mem px x hx) (plains_mem py y hy) (depths_mem (by omega) x hx) a b c d) (by omega) ?_
        simp only [List.size_toArray, ← r.length, ← r2.length, ← h2.length, ← h4.length]
        rw [← eqDs_all]
        exact fin
      | _ => exact absurd rfl u
    | lst l =>
      cases y with
      | lst m =>
        obtain ⟨a, xs, rfl, h1, h2⟩ := hx
        obtain ⟨b, ys, rfl, h3, h4⟩ := hy
        cases rv
        cases rw'
        obtain ⟨its, r, ht, hz⟩ := I.list (.inl h1)
        obtain ⟨its2, r2, ht2, hz2⟩ := I.list (.inl h3)
        simp only [D.plain] at px py
        simp only [D.depth] at dx
        have l1 := r.length
        have l2 := r2.length
        have l3 := h2.length
        have l4 := h4.length
        have e : eqD (.lst l) (.lst m) = eqDs l m := rfl
        rw [e, eqDs_all] at fin
        by_cases hsz : l.length = m.length
        · refine PySem.W.eq_listsT (n := 59) ht.isList ht2.isList (by simp; omega) (eqSeq I h2 h4 r r2 fun x hx y hy v w v' w' a b c d => eqTree I hK 59 x y v w v' w' (plains_mem px x hx) (plains_mem py y hy) (depths_mem (by omega) x hx) a b c d) (by omega) ?_
          simp only [List.size_toArray, ← l1, ← l3]
          rw [← hsz, Nat.min_self, beq_self_eq_true, Bool.and_true] at fin
          exact fin
        · rw [show (l.length == m.length) = false by simpa using hsz, Bool.and_false] at fin
          exact RcAt.lists_lengths ht.isList ht2.isList (by simp only [List.size_toArray, bne_iff_ne, ne_eq]; omega) (by omega) _ _ _ _ fin
      | _ => exact absurd rfl u
    | dct l =>
      cases y with
      | dct m =>
        obtain ⟨a, xs, rfl, h1, h2⟩ := hx
        obtain ⟨b, ys, rfl, h3, h4⟩ := hy
        cases rv
        cases rw'
        have nd1 := dK_nodup I h1
        have nd2 := dK_nodup I h3
        obtain ⟨_, s1, vs, kv, dd⟩ := L2.dk_of I.hok h1
        obtain ⟨_, s2, vs2, kv2, dd2⟩ := L2.dk_of I.hok h3
        simp only [D.plain] at px py
        simp only [D.depth] at dx
        refine PySem.W.eq_dictsT (n := 59) (e := fun k => eqD (kLook k l) (kLook k m)) s1 s2 dd dd2 (fun k u y hm hy => ?_) (by omega) ?_
        · obtain ⟨v, hv, rv⟩ := KV.mem kv hm
          obtain ⟨r1, k1, m1, _⟩ := kLook_mem h2 nd1 hv
          have ry := kv2.val k
          rw [hy] at ry
          cases e : L2.valV ys k with
          | none => rw [e] at ry; exact (show False from ry).elim
          | some w =>
            rw [e] at ry
            obtain ⟨r2, k2, m2, _⟩ := kLook_mem h4 nd2 (valV_mem e)
            exact eqTree I hK 59 _ _ v w u y (plaink_mem px _ _ m1) (plaink_mem py _ _ m2) (depthk_mem (by omega) _ _ m1) r1 r2 rv ry
        · have e1 : ∀ k, (PySem.valueAt vs2 k).isSome = (L2.valV ys k).isSome := fun k => (kv2.val k).isSome_eq.symm
          simp only [e1]
          rw [← KV.all kv (fun k => (L2.valV ys k).isSome && eqD (kLook k l) (kLook k m)), ← kv.length, ← kv2.length, ← h2.length, ← h4.length, ← eqDk_all h4 h2 nd1]
          exact fin
      | _ => exact absurd rfl u
    | _ => exact absurd rfl u
def rNeQ (R : RC) : R2 := fun v w H Q => ∃ x y b, Rep R H x v ∧ Rep R H y w ∧ eqOk x = true ∧ eqOk y = true ∧ (b = (!eqD x y) ∨ x = y ∧ b = false) ∧ Q (.bl b) H
theorem op_neQ (hK : R.K = X.K) (hu : X.A.units + 64 < cLine) : OpR X (compareOp .NotEq) (rNeQ R) := by
  intro pins s σ H v w v' w' Q I rv rw' h
  obtain ⟨x, y, b, hx, hy, ox, oy, hb, q⟩ := h
  obtain ⟨px, dx⟩ := eqOk_iff ox
  obtain ⟨py, dy⟩ := eqOk_iff oy
  have hb : b = !eqD x y := by
    rcases hb with hb | ⟨rfl, rfl⟩
    · exact hb
    · rw [eqD_self I px hx]; rfl
  subst hb
  have fin : L2.EP X pins σ Q (.bool (!eqD x y)) s := ⟨.bl _, H, I, rfl, q⟩
  show wpAny (model X.prog X.w) X.A (richCompare .NotEq v' w') _ _ _
  by_cases u : unlike x y = true
  · exact at_ne I hK px py hx hy rv rw' u (by omega) _ _ _ _ fin
  · cases x with
    | tup l =>
      cases y with
      | tup m =>
        obtain ⟨a, xs, rfl, h1, h2⟩ := hx
        obtain ⟨b, ys, rfl, h3, h4⟩ := hy
        cases rv
        cases rw'
        rw [hK] at h1 h3
        obtain ⟨its, r, ht, hz⟩ := I.tuple h1
        obtain ⟨its2, r2, ht2, hz2⟩ := I.tuple h3
        simp only [D.plain] at px py
        simp only [D.depth] at dx
        refine NEq.tuples (n := 59) ht ht2 (eqSeq I h2 h4 r r2 fun x hx y hy v w v' w' a b c d => eqTree I hK 59 x y v w v' w' (plains_mem px x hx) (plains_mem py y hy) (depths_mem (by omega) x hx) a b c d) (by omega) ?_
        simp only [List.size_toArray, ← r.length, ← r2.length, ← h2.length, ← h4.length]
        rw [← eqDs_all]
        exact fin
      | _ => exact absurd rfl u
    | lst l =>
      cases y with
      | lst m =>
        obtain ⟨a, xs, rfl, h1, h2⟩ := hx
        obtain ⟨b, ys, rfl, h3, h4⟩ := hy
        cases rv
        cases rw'
        obtain ⟨its, r, ht, hz⟩ := I.list (.inl h1)
        obtain ⟨its2, r2, ht2, hz2⟩ := I.list (.inl h3)
        simp only [D.plain] at px py
        simp only [D.depth] at dx
        have l1 := r.length
        have l2 := r2.length
        have l3 := h2.length
        have l4 := h4.length
        have e : eqD (.lst l) (.lst m) = eqDs l m := rfl
        rw [e, eqDs_all] at fin
        by_cases hsz : l.length = m.length
        · refine NEq.lists (n := 59) ht.isList ht2.isList (by simp; omega) (eqSeq I h2 h4 r r2 fun x hx y hy v w v' w' a b c d => eqTree I hK 59 x y v w v' w' (plains_mem px x hx) (plains_mem py y hy) (depths_mem (by omega) x hx) a b c d) (by omega) ?_
          simp only [List.size_toArray, ← l1, ← l3]
          rw [← hsz, Nat.min_self, beq_self_eq_true, Bool.and_true] at fin
          exact fin
        · rw [show (l.length == m.length) = false by simpa using hsz, Bool.and_false] at fin
          exact RcNeAt.lists_lengths ht.isList ht2.isList (by simp only [List.size_toArray, bne_iff_ne, ne_eq]; omega) (by omega) _ _ _ _ fin
      | _ => exact absurd rfl u
    | dct l =>
      cases y with
      | dct m =>
        obtain ⟨a, xs, rfl, h1, h2⟩ := hx
        obtain ⟨b, ys, rfl, h3, h4⟩ := hy
        cases rv
        cases rw'
        have nd1 := dK_nodup I h1
        have nd2 := dK_nodup I h3
        obtain ⟨_, s1, vs, kv, dd⟩ := L2.dk_of I.hok h1
        obtain ⟨_, s2, vs2, kv2, dd2⟩ := L2.dk_of I.hok h3
        simp only [D.plain] at px py
        simp only [D.depth] at dx
        refine NEq.dicts (n := 59) (e := fun k => eqD (kLook k l) (kLook k m)) s1 s2 dd dd2 (fun k u y hm hy => ?_) (by omega) ?_
        · obtain ⟨v, hv, rv⟩ := KV.mem kv hm
          obtain ⟨r1, k1, m1, _⟩ := kLook_mem h2 nd1 hv
          have ry := kv2.val k
          rw [hy] at ry
          cases e : L2.valV ys k with
          | none => rw [e] at ry; exact (show False from ry).elim
          | some w =>
            rw [e] at ry
            obtain ⟨r2, k2, m2, _⟩ := kLook_mem h4 nd2 (valV_mem e)
            exact eqTree I hK 59 _ _ v w u y (plaink_mem px _ _ m1) (plaink_mem py _ _ m2) (depthk_mem (by omega) _ _ m1) r1 r2 rv ry
        · have e1 : ∀ k, (PySem.valueAt vs2 k).isSome = (L2.valV ys k).isSome := fun k => (kv2.val k).isSome_eq.symm
          simp only [e1]
          rw [← KV.all kv (fun k => (L2.valV ys k).isSome && eqD (kLook k l) (kLook k m)), ← kv.length, ← kv2.length, ← h2.length, ← h4.length, ← eqDk_all h4 h2 nd1]
          exact fin
      | _ => exact absurd rfl u
    | _ => exact absurd rfl u
end
end Ev

end

section
set_option Elab.async false
set_option linter.all false
set_option maxRecDepth 100000
/-! Ev, part 5: comparisons. -/
namespace Ev
open PySem PySem.Spec PyProof.Rows
open L2 (V Hp HO PE PT PS PSs PA PG PGs PI TE TT TA TS TG TGs VK SqL SqT Rd Key upd upd_same upd_ne OpR CallR IxR SlR MtR MtM R2 tOp RelV Vals WX Takes Room FnOk Sp XK Ends rI rI0 CMul CDiv CPow KV)
open SeqAt (EqAt RcAt RcNeAt)

section
variable {X : HCx} {pins : List (Addr × Obj)} {σ : HSt} {H : Hp} {s : Shared} {R : RC}
/-- == of an item with what is sought -/
theorem eqAtG (I : L2.Inv X pins σ H s) (hK : R.K = X.K) {A : Around} {x y : D} {v w : V} {v' w' : Value} (hA : A.units + 60 < cLine) (ox : eqOk x = true) (oy : inOk x y = true) (hx : Rep R H x v) (hy : Rep R H y w) (rv : RelV v v') (rw' : RelV w w') :
    EqAt A s w' v' (eqD y x) := by
  simp only [inOk, Bool.and_eq_true, Bool.or_eq_true] at oy
  obtain ⟨px, dx⟩ := eqOk_iff ox
  obtain ⟨py, dy⟩ := eqOk_iff oy.1
  rcases oy.2 with u | ⟨nx, ny⟩
  · exact at_leafA I hK py px hy hx rw' rv u (by omega)
  · exact eqAtT I hK 60 A y x w v w' v' hA py px ny nx dy hy hx rw' rv
open Classical in
/-- the items' answers by their values -/
theorem pick_ans (I : L2.Inv X pins σ H s) (hK : R.K = X.K) {x : D} : ∀ {l : List D} {xs : List V} {its : List Value}, (∀ y ∈ l, y.plain = true) → Reps R H l xs → Vals xs its →
    ∃ e : Value → Bool, (∀ (j : Nat) (y : D) (u : Value), l[j]? = some y → its[j]? = some u → e u = eqD y x) ∧ its.any e = l.any fun y => eqD y x
  | [], _, _, _, h, r => by
    subst h
    cases r
    exact ⟨fun _ => false, fun j y u h => by simp at h, rfl⟩
  | y :: l, _, _, p, ⟨v, r0, e0, h, t⟩, r => by
    subst e0
    cases r with
    | @cons _ u _ us r1 r2 =>
      obtain ⟨e, he, ha⟩ := pick_ans I hK (fun z hz => p z (List.mem_cons_of_mem _ hz)) t r2
      have spec : ∀ (j : Nat) (y' : D) (u' : Value), (y :: l)[j]? = some y' → (u :: us)[j]? = some u' → (if u' = u then eqD y x else e u') = eqD y' x := fun j y' u' h1 h2 => by
        cases j with
        | zero =>
          simp at h1 h2
          subst h1 h2
          simp
        | succ j =>
          simp at h1 h2
          by_cases hu : u' = u
          · rw [if_pos hu]
            subst hu
            have hj : j < us.length := by
              rcases Nat.lt_or_ge j us.length with q | q
              · exact q
              · rw [List.getElem?_eq_none q] at h2; cases h2
            obtain ⟨w, ew, rw'⟩ := Vals.at' r2 hj
            rw [List.getElem?_eq_getElem hj] at h2
            cases h2
            have evw := r1.inj rw'
            subst evw
            obtain ⟨z, ez, hz⟩ := t.get' ew
            rw [h1] at ez
            cases ez
            rw [Rep.inj I hK (p y List.mem_cons_self) h hz]
          · rw [if_neg hu]
            exact he j y' u' h1 h2
      refine ⟨fun u' => if u' = u then eqD y x else e u', spec, ?_⟩
      have gen : ∀ {l' : List D} {us' : List Value} {f : Value → Bool}, l'.length = us'.length → (∀ (j : Nat) (y' : D) (u' : Value), l'[j]? = some y' → us'[j]? = some u' → f u' = eqD y' x) → us'.any f = l'.any fun y => eqD y x := by
        intro l'
        induction l' with
        | nil =>
          intro us' f hl _
          cases us' with
          | nil => rfl
          | cons _ _ => simp at hl
        | cons a l' ih =>
          intro us' f hl hf
          cases us' with
          | nil => simp at hl
          | cons b us' =>
            rw [List.any_cons, List.any_cons, hf 0 a b rfl rfl, ih (by simpa using hl) fun j y' u' h1 h2 => hf (j + 1) y' u' (by simpa using h1) (by simpa using h2)]
      exact gen (by simp [t.length, r2.length]) spec
end
def rInQ (R : RC) (neg : Bool) : R2 := fun v w H Q => ∃ x l p xs, Rep R H x v ∧ w = .ref p ∧ (Rd H p (.lst xs) ∨ SqT R.K H p xs) ∧ Reps R H l xs ∧ eqOk x = true ∧ l.all (inOk x) = true ∧ Q (.bl (if neg then !(l.any fun y => eqD y x) else l.any fun y => eqD y x)) H
section
variable {X : HCx} {R : RC}
theorem in_mem {pins : List (Addr × Obj)} {σ : HSt} {H : Hp} {s : Shared} (I : L2.Inv X pins σ H s) (hK : R.K = X.K) (hu : X.A.units + 64 < cLine) {x : D} {v : V} {v' : Value} {l : List D} {xs : List V} {its : List Value} (hx : Rep R H x v) (rv : RelV v v') (hl : Reps R H l xs) (r : Vals xs its)
    (ox : eqOk x = true) (ol : l.all (inOk x) = true) {e : Value → Bool} (he : ∀ (j : Nat) (y : D) (u : Value), l[j]? = some y → its[j]? = some u → e u = eqD y x) : ∀ u, u ∈ its.toArray → EqAt X.A.in1 s u v' (e u) := fun u hm => by
  have hm' : u ∈ its := by simpa using hm
  obtain ⟨j, hj⟩ := List.getElem?_of_mem hm'
  have hjl : j < its.length := by
    rcases Nat.lt_or_ge j its.length with q | q
    · exact q
    · rw [List.getElem?_eq_none q] at hj; cases hj
  obtain ⟨w, ew, rw'⟩ := Vals.at' r hjl
  rw [List.getElem?_eq_getElem hjl] at hj
  cases hj
  obtain ⟨y, ey, hy⟩ := hl.get' ew
  rw [he j y _ ey (List.getElem?_eq_getElem hjl)]
  exact eqAtG I hK (by show X.A.units + 1 + 60 < cLine; omega) ox (List.all_eq_true.mp ol y (List.mem_of_getElem? ey)) hx hy rv rw'
theorem plain_of_inOk {x : D} {l : List D} (ol : l.all (inOk x) = true) : ∀ y ∈ l, y.plain = true := fun y hy => by
  have := List.all_eq_true.mp ol y hy
  simp only [inOk, Bool.and_eq_true] at this
  exact (eqOk_iff this.1).1
theorem op_inQ (hK : R.K = X.K) (hu : X.A.units + 64 < cLine) : OpR X (compareOp .In) (rInQ R false) := by
  intro pins s σ H v w v' w' Q I rv rw' h
  obtain ⟨x, l, p, xs, hx, rfl, hq, hl, ox, ol, q⟩ := h
  cases rw'
  rcases hq with hq | hq
  · obtain ⟨its, r, pl, hz⟩ := I.list (.inl hq)
    obtain ⟨e, he, ha⟩ := pick_ans I hK (x := x) (plain_of_inOk ol) hl r
    refine SeqAt.in_listAt e pl.isList (in_mem I hK hu hx rv hl r ox ol he) ⟨.bl _, H, I, rfl, ?_⟩
    rw [show its.toArray.any e = its.any e by simp, ha]
    exact q
  · rw [hK] at hq
    obtain ⟨its, r, pl, hz⟩ := I.tuple hq
    obtain ⟨e, he, ha⟩ := pick_ans I hK (x := x) (plain_of_inOk ol) hl r
    refine SeqAt.in_tupleAt e pl (in_mem I hK hu hx rv hl r ox ol he) ⟨.bl _, H, I, rfl, ?_⟩
    rw [show its.toArray.any e = its.any e by simp, ha]
    exact q
theorem op_notInQ (hK : R.K = X.K) (hu : X.A.units + 64 < cLine) : OpR X (compareOp .NotIn) (rInQ R true) := by
  intro pins s σ H v w v' w' Q I rv rw' h
  obtain ⟨x, l, p, xs, hx, rfl, hq, hl, ox, ol, q⟩ := h
  cases rw'
  rcases hq with hq | hq
  · obtain ⟨its, r, pl, hz⟩ := I.list (.inl hq)
    obtain ⟨e, he, ha⟩ := pick_ans I hK (x := x) (plain_of_inOk ol) hl r
    refine SeqAt.notIn_listAt e pl.isList (in_mem I hK hu hx rv hl r ox ol he) ⟨.bl _, H, I, rfl, ?_⟩
    rw [show its.toArray.any e = its.any e by simp, ha]
    exact q
  · rw [hK] at hq
    obtain ⟨its, r, pl, hz⟩ := I.tuple hq
    obtain ⟨e, he, ha⟩ := pick_ans I hK (x := x) (plain_of_inOk ol) hl r
    refine SeqAt.notIn_tupleAt e pl (in_mem I hK hu hx rv hl r ox ol he) ⟨.bl _, H, I, rfl, ?_⟩
    rw [show its.toArray.any e = its.any e by simp, ha]
    exact q
/-- a key in a dict -/
def rDIn (neg : Bool) : R2 := fun v w H Q => ∃ a o, w = .ref a ∧ L2.DGet H a v o ∧ Q (.bl (if neg then !o.isSome else o.isSome)) H
theorem op_dIn (hu : X.A.units + 64 < cLine) : OpR X (compareOp .In) (rDIn false) := by
  intro pins s σ H v w v' w' Q I rv rw' h
  obtain ⟨a, o, rfl, g, q⟩ := h
  cases rw'
  exact L2.d_in (by omega) I g rv fun s' I' => ⟨.bl _, H, I', rfl, q⟩
theorem op_dNotIn (hu : X.A.units + 64 < cLine) : OpR X (compareOp .NotIn) (rDIn true) := by
  intro pins s σ H v w v' w' Q I rv rw' h
  obtain ⟨a, o, rfl, g, q⟩ := h
  cases rw'
  exact L2.d_notIn (by omega) I g rv fun s' I' => ⟨.bl _, H, I', rfl, q⟩
end

def cop : Cop → CmpOp
  | .eq => .Eq | .ne => .NotEq | .lt => .Lt | .le => .LtE | .gt => .Gt | .ge => .GtE | .is => .Is | .isnot => .IsNot | .isin => .In | .notin => .NotIn
def rCmp (R : RC) : Cop → R2
  | .eq => rEqQ R
  | .ne => rNeQ R
  | .lt => fun x y H Q => (rI0 fun i j => .bl (decide (i < j))) x y H Q ∨ ∃ i j, x = .str i ∧ y = .str j ∧ Q (.bl (decide (i.cps.toList < j.cps.toList))) H
  | .le => fun x y H Q => (rI0 fun i j => .bl (decide (i ≤ j))) x y H Q ∨ ∃ i j, x = .str i ∧ y = .str j ∧ Q (.bl (!decide (j.cps.toList < i.cps.toList))) H
  | .gt => rI0 fun i j => .bl (decide (j < i))
  | .ge => rI0 fun i j => .bl (decide (j ≤ i))
  | .is => fun x y H Q => (y = .non ∧ Q (.bl (decide (x = .non))) H) ∨ ∃ a b, x = .bl a ∧ y = .bl b ∧ Q (.bl (decide (a = b))) H
  | .isnot => fun x y H Q => (y = .non ∧ Q (.bl (!decide (x = .non))) H) ∨ ∃ a b, x = .bl a ∧ y = .bl b ∧ Q (.bl (!decide (a = b))) H
  | .isin => fun x y H Q => ((∃ (c : Nat) (z : Str), x = .str ⟨#[c]⟩ ∧ y = .str z ∧ Q (.bl (decide (c ∈ z.cps.toList))) H) ∨ rInQ R false x y H Q) ∨ rDIn false x y H Q
  | .notin => fun x y H Q => ((∃ (c : Nat) (z : Str), x = .str ⟨#[c]⟩ ∧ y = .str z ∧ Q (.bl (!decide (c ∈ z.cps.toList))) H) ∨ rInQ R true x y H Q) ∨ rDIn true x y H Q
theorem op_cmp {X : HCx} {R : RC} (hK : R.K = X.K) (hu : X.A.units + 64 < cLine) : ∀ o : Cop, OpR X (compareOp (cop o)) (rCmp R o)
  | .eq => op_eqQ hK hu
  | .ne => op_neQ hK hu
  | .lt => L2.op_lt.or L2.op_lt_str
  | .le => L2.op_le.or L2.op_le_str
  | .gt => L2.op_gt
  | .ge => L2.op_ge
  | .is => L2.op_isN.or L2.op_isBl
  | .isnot => L2.op_notN.or L2.op_notBl
  | .isin => (L2.op_in_sign.or (op_inQ hK hu)).or (op_dIn hu)
  | .notin => (L2.op_notIn_sign.or (op_notInQ hK hu)).or (op_dNotIn hu)
section
variable {R : RC} {W : WX} {τ : HSt} {H F : Hp} {m : List Addr} {S : Store}
theorem Rep.isNon {x : D} {v : V} (h : Rep R F x v) : decide (v = .non) = x.isNon := by
  cases x with
  | non => cases h; rfl
  | bl b => cases h; rfl
  | int b => cases h; rfl
  | str b => cases h; rfl
  | tup l => obtain ⟨a, xs, rfl, _⟩ := h; rfl
  | lst l => obtain ⟨a, xs, rfl, _⟩ := h; rfl
  | dct l => obtain ⟨a, xs, rfl, _⟩ := h; rfl
  | ins c fs => obtain ⟨a, _, rfl, _⟩ := h; rfl
theorem kD_rep {k : D} {v : V} (hk : isK k = true) (h : Rep R F k v) : ∃ q, kD k = some q ∧ v = L2.kV q := by
  cases k with
  | int i => cases h; exact ⟨_, rfl, rfl⟩
  | str x => cases h; exact ⟨_, rfl, rfl⟩
  | _ => cases hk
/-- what a dict has at a key -/
theorem dget {l : List (D × D)} {k : D} {a : Addr} {kvs : List (Key × V)} {v : V} (h : H a = some (.dK kvs)) (r : RepK R F l kvs) (hk : isK k = true) (hv : Rep R H k v) :
    ∃ o, L2.DGet H a v o ∧ o.isSome = (kGet k l).isSome ∧ ∀ x, kGet k l = some x → ∃ w, o = some w ∧ Rep R F x w := by
  obtain ⟨q, hq, rfl⟩ := kD_rep hk hv
  refine ⟨L2.valV kvs q, L2.DGet.k h, ?_, fun x e => ?_⟩
  · have := RepK.get hq r
    cases e : kGet k l with
    | none => rw [e] at this; rw [this]; rfl
    | some x => rw [e] at this; obtain ⟨w, hw, _⟩ := this; rw [hw]; rfl
  · have := RepK.get hq r
    rw [e] at this
    exact this
theorem inD_val {neg : Bool} {x y : Val} {x' y' : V} {a b : D} {z : Bool} (sim : Sim R H F m S) (rx : RepV R F m x x') (ry : RepV R F m y y') (ha : rdv S x = some a) (hb : rdv S y = some b) (hz : inD a b = some z) {Q : VK} (q : Q (.bl (if neg then !z else z)) H) :
    ((∃ (c : Nat) (z : Str), x' = .str ⟨#[c]⟩ ∧ y' = .str z ∧ Q (.bl (if neg then !decide (c ∈ z.cps.toList) else decide (c ∈ z.cps.toList))) H) ∨ rInQ R neg x' y' H Q) ∨ rDIn neg x' y' H Q := by
  have ra := rdv_rep sim rx ha
  cases b with
  | str t =>
    have rb := rdv_rep sim ry hb
    cases rb
    simp only [inD] at hz
    split at hz
    · cases hz; cases ra
      exact .inl (.inl ⟨_, _, rfl, rfl, by simpa using q⟩)
    · cases hz
  | lst l =>
    obtain ⟨p, xs, rfl, h1, h2⟩ := rdv_lst sim ry hb
    simp only [inD] at hz
    split at hz
    · rename_i hc
      cases hz
      simp only [Bool.and_eq_true] at hc
      exact .inl (.inr ⟨a, l, p, xs, ra, rfl, .inl h1, Reps.mono sim.sub h2, hc.1, hc.2, q⟩)
    · cases hz
  | tup l =>
    obtain ⟨p, xs, rfl, h1, h2⟩ := rdv_tup sim ry hb
    simp only [inD] at hz
    split at hz
    · rename_i hc
      cases hz
      simp only [Bool.and_eq_true] at hc
      exact .inl (.inr ⟨a, l, p, xs, ra, rfl, .inr (sim.sub.sqT h1), Reps.mono sim.sub h2, hc.1, hc.2, q⟩)
    · cases hz
  | dct l =>
    obtain ⟨p, kvs, rfl, h1, h2⟩ := rdv_dct sim ry hb
    simp only [inD] at hz
    split at hz
    · rename_i hc
      cases hz
      obtain ⟨o, g, e, _⟩ := dget h1 h2 hc ra
      refine .inr ⟨p, o, rfl, g, ?_⟩
      rw [e]
      exact q
    · cases hz
  | non => cases hz
  | bl _ => cases hz
  | int _ => cases hz
  | ins _ _ => cases hz
theorem cmp_val (o : Cop) {x y : Val} {x' y' : V} {Q : Bool → Hp → Prop} (sim : Sim R H F m S) (rx : RepV R F m x x') (ry : RepV R F m y y') (h : Post R W relB τ H F m (on2b S x y (cmpD o)) Q) : rCmp R o x' y' H (fun v H' => ∃ k, v = .bl k ∧ Q k H') := by
  obtain ⟨a, b, z, ha, hb, hz, h⟩ := on2b_inv h
  have q : Q z H := h.get sim rfl
  have ra := rdv_rep sim rx ha
  have rb := rdv_rep sim ry hb
  unfold cmpD at hz
  split at hz
  · unfold eqA at hz
    split at hz
    · rename_i hc
      cases hz
      simp only [Bool.and_eq_true] at hc
      exact ⟨_, _, ra, rb, hc.1, hc.2, _, rfl, q⟩
    · cases hz
  · unfold neA at hz
    split at hz
    · rename_i hc
      simp only [Bool.and_eq_true] at hc
      split at hz
      · cases hz
        exact ⟨_, _, _, ra, rb, hc.1, hc.2, .inl rfl, _, rfl, q⟩
      · split at hz
        · rename_i hbq
          cases hz
          have e := beq_eq hbq
          subst e
          exact ⟨_, _, _, ra, rb, hc.1, hc.2, .inr ⟨rfl, rfl⟩, _, rfl, q⟩
        · cases hz
          exact ⟨_, _, _, ra, rb, hc.1, hc.2, .inl rfl, _, rfl, q⟩
    · cases hz
  · cases hz; cases ra; cases rb
    exact .inl ⟨_, _, rfl, rfl, _, rfl, q⟩
  · cases hz; cases ra; cases rb
    exact .inl ⟨_, _, rfl, rfl, _, rfl, q⟩
  · cases hz; cases ra; cases rb
    exact ⟨_, _, rfl, rfl, _, rfl, q⟩
  · cases hz; cases ra; cases rb
    exact ⟨_, _, rfl, rfl, _, rfl, q⟩
  · cases hz; cases ra; cases rb
    exact .inr ⟨_, _, rfl, rfl, _, rfl, q⟩
  · cases hz; cases ra; cases rb
    exact .inr ⟨_, _, rfl, rfl, _, rfl, q⟩
  · cases hz; cases rb
    exact .inl ⟨rfl, _, rfl, by rw [ra.isNon]; exact q⟩
  · cases hz; cases rb
    exact .inl ⟨rfl, _, rfl, by rw [ra.isNon]; exact q⟩
  · cases hz; cases ra; cases rb
    exact .inr ⟨_, _, rfl, rfl, _, rfl, q⟩
  · cases hz; cases ra; cases rb
    exact .inr ⟨_, _, rfl, rfl, _, rfl, q⟩
  · exact inD_val (neg := false) (Q := fun v H' => ∃ k, v = .bl k ∧ Q k H') sim rx ry ha hb hz ⟨_, rfl, q⟩
  · cases e : inD a b with
    | none => rw [e] at hz; cases hz
    | some t =>
      rw [e] at hz
      cases hz
      exact inD_val (neg := true) (Q := fun v H' => ∃ k, v = .bl k ∧ Q k H') sim rx ry ha hb e ⟨_, rfl, q⟩
  · cases hz
end
end Ev

end

section
set_option Elab.async false
set_option linter.all false
set_option maxRecDepth 100000
/-! Ev: dicts' rows, put one behind another. -/
namespace Ev
open PySem PySem.Spec PyProof.Rows
open L2 (V Hp HO PE PT PS PSs PA PG PGs PI TE TT TA TS TG TGs VK SqL SqT Rd Key upd upd_same upd_ne OpR CallR IxR SlR MtR MtM R2 tOp RelV Vals WX Takes Room FnOk Sp XK Ends rI rI0 CMul CDiv CPow)
section
variable {R : RC}
theorem RepK.append {F : Hp} : ∀ {l l' : List (D × D)} {k k' : List (Key × V)}, RepK R F l k → RepK R F l' k' → RepK R F (l ++ l') (k ++ k')
  | [], _, _, _, h, h' => by cases h; exact h'
  | (a, x) :: l, _, _, _, ⟨q, v, r, e, h1, h2, h3⟩, h' => by subst e; exact ⟨q, v, r ++ _, rfl, h1, h2, RepK.append h3 h'⟩
theorem RepK.put {F : Hp} {k : D} {q : Key} {x : D} {v : V} (hk : kD k = some q) (hv : Rep R F x v) {l : List (D × D)} {kvs : List (Key × V)} (h : RepK R F l kvs) : RepK R F (kSet k x l) (L2.putK kvs q v) := by
  have hany : ∀ {l : List (D × D)} {kvs : List (Key × V)}, RepK R F l kvs → (l.any fun p => kEq p.1 k) = (kvs.any fun kv => decide (kv.1 = q)) := by
    intro l
    induction l with
    | nil => intro kvs h; cases h; rfl
    | cons p l ih =>
      obtain ⟨a, y⟩ := p
      rintro kvs ⟨q', v', r, rfl, h1, h2, h3⟩
      simp only [List.any_cons]
      rw [kEq_iff h1 hk, ih h3]
  have hmap : ∀ {l : List (D × D)} {kvs : List (Key × V)}, RepK R F l kvs → RepK R F (l.map (fun p => if kEq p.1 k = true then (p.1, x) else p)) (kvs.map (fun kv => if kv.1 = q then (kv.1, v) else kv)) := by
    intro l
    induction l with
    | nil => intro kvs h; cases h; rfl
    | cons p l ih =>
      obtain ⟨a, y⟩ := p
      rintro kvs ⟨q', v', r, rfl, h1, h2, h3⟩
      simp only [List.map_cons]
      rw [kEq_iff h1 hk]
      by_cases e : q' = q
      · simp only [e, decide_true, if_true]
        exact ⟨q, v, _, rfl, by rw [h1, e], hv, ih h3⟩
      · simp only [e, decide_false, Bool.false_eq_true, if_false]
        exact ⟨q', v', _, rfl, h1, h2, ih h3⟩
  unfold kSet L2.putK
  rw [hany h]
  split
  · exact hmap h
  · exact RepK.append h ⟨q, v, [], rfl, hk, hv, rfl⟩
theorem RepK.merge {F : Hp} : ∀ {ps : List (D × D)} {kvs : List (Key × V)} {l : List (D × D)} {acc : List (Key × V)}, RepK R F ps kvs → RepK R F l acc → RepK R F (ps.foldl (fun l p => kSet p.1 p.2 l) l) (L2.mergeK acc kvs)
  | [], _, _, _, h, h' => by cases h; exact h'
  | (a, x) :: ps, _, _, _, ⟨q, v, r, e, h1, h2, h3⟩, h' => by
    subst e
    exact RepK.merge (l := kSet a x _) (acc := L2.putK _ q v) h3 (RepK.put h1 h2 h')
theorem prs_rep {H F : Hp} (hs : Sub F H) : ∀ {l : List D} {ps : List (D × D)} {xs : List V}, prsOf l = some ps → Reps R F l xs →
    ∃ (as : List Addr) (kvs : List (Key × V)), xs = as.map V.ref ∧ Paired (fun p kv => SqT R.K H p [L2.kV kv.1, kv.2]) as kvs ∧ RepK R F ps kvs
  | [], ps, xs, h, hr => by
    cases h
    cases hr
    exact ⟨[], [], rfl, .nil, rfl⟩
  | x :: l, ps, xs, h, hr => by
    obtain ⟨v, r, rfl, h1, h2⟩ := hr
    unfold prsOf at h
    split at h
    · rename_i e; cases e
    · rename_i k y l' e
      cases e
      split at h
      · rename_i hk
        simp only [Option.map_eq_some_iff] at h
        obtain ⟨qs, hq, rfl⟩ := h
        obtain ⟨as, kvs, rfl, hp, hk2⟩ := prs_rep hs hq h2
        obtain ⟨a, ys, rfl, h3, h4⟩ := h1
        obtain ⟨vk, _, rfl, h5, v2, _, rfl, h6, h7⟩ := h4
        cases h7
        obtain ⟨q, e1, rfl⟩ := kD_rep hk h5
        exact ⟨a :: as, (q, v2) :: kvs, rfl, .cons (hs.sqT h3) hp, q, v2, kvs, rfl, e1, h6, hk2⟩
      · cases h
    · cases h
end
end Ev

end

section
set_option Elab.async false
set_option linter.all false
set_option maxRecDepth 100000
set_option maxHeartbeats 1000000
/-! Ev, part R: repr. -/
namespace Ev
open PySem PySem.Spec PyProof.Rows
open L2 (V Hp HO VK SqL SqT Rd Key CallR RelV Vals KV)
/-- sys.modules is known to be a dict -/
def SysK (K : PySem.W.Frag) : Prop := ∃ o es n, K.lookup sysModules = some o ∧ o.data = .dict es n
section
variable {X : HCx} {pins : List (Addr × Obj)} {σ : HSt} {H : Hp} {s : Shared} {R : RC}
theorem notSys (I : L2.Inv X pins σ H s) (sys : SysK X.K) {a : Addr} {o : Obj} {vs : Array Value} {n : Nat} (h : s.heap.get? a = some o) (d : o.data = .seq vs n) : sysModules ≠ a := by
  rintro rfl
  obtain ⟨o2, es, m, h1, h2⟩ := sys
  have := I.kIn _ _ h1
  rw [h] at this
  cases this
  rw [d] at h2
  cases h2
mutual
theorem reads_of (I : L2.Inv X pins σ H s) (hK : R.K = X.K) (sys : SysK X.K) : ∀ {x : D} {v : V} {u : Value}, x.plain = true → Rep R H x v → RelV v u → ∃ as, Reads s.heap u (toPy x) as ∧ sysModules ∉ as
  | .non, v, u, _, h, r => by cases h; cases r; exact ⟨[], .none, by simp⟩
  | .bl b, v, u, _, h, r => by cases h; cases r; exact ⟨[], .bool b, by simp⟩
  | .int i, v, u, _, h, r => by cases h; obtain ⟨t, rfl⟩ := r; exact ⟨[], .int i t, by simp⟩
  | .str x, v, u, _, h, r => by cases h; obtain ⟨t, rfl⟩ := r; exact ⟨[], .str _ t, by simp⟩
  | .tup l, v, u, p, h, r => by
    obtain ⟨a, xs, rfl, h1, h2⟩ := h
    cases r
    rw [hK] at h1
    obtain ⟨its, r, ⟨o, e, hc, n, hd⟩, _⟩ := I.tuple h1
    obtain ⟨as, k1, k2⟩ := reads_all I hK sys (l := l) (by simpa [D.plain] using p) h2 r
    exact ⟨as, .tuple e hc hd (by simpa using k1), k2⟩
  | .lst l, v, u, p, h, r => by
    obtain ⟨a, xs, rfl, h1, h2⟩ := h
    cases r
    obtain ⟨its, r, ⟨o, n, e, hc, _, hd⟩, _⟩ := I.list (.inl h1)
    obtain ⟨as, k1, k2⟩ := reads_all I hK sys (l := l) (by simpa [D.plain] using p) h2 r
    refine ⟨a :: as, .list e (by first | exact hc | assumption) (by first | exact hd | assumption) (by simpa using k1), ?_⟩
    intro z
    rcases List.mem_cons.mp z with q | q
    · exact notSys I sys e hd q
    · exact k2 q
  | .dct l, v, u, p, h, r => by
    obtain ⟨a, kvs, rfl, h1, h2⟩ := h
    cases r
    obtain ⟨_, s1, vs, kv, o, es, ep, e, ed, hd, _, ps, _⟩ := L2.dk_of I.hok h1
    obtain ⟨as, bs, k1, k2, k3, k4⟩ := reads_kv I hK sys (l := l) (by simpa [D.plain] using p) h2 kv ps
    refine ⟨a :: as ++ bs, .dict e ed.1 hd k1 k2, ?_⟩
    intro z
    simp only [List.cons_append, List.mem_cons, List.mem_append] at z
    rcases z with q | q | q
    · rw [← q] at s1; simp at s1
    · exact k3 q
    · exact k4 q
  | .ins _ _, v, u, p, h, r => by simp [D.plain] at p
termination_by structural x => x
theorem reads_all (I : L2.Inv X pins σ H s) (hK : R.K = X.K) (sys : SysK X.K) : ∀ {l : List D} {xs : List V} {its : List Value}, D.plains l = true → Reps R H l xs → Vals xs its → ∃ as, ReadsAll s.heap its (toPys l) as ∧ sysModules ∉ as
  | [], xs, its, _, h, r => by cases h; cases r; exact ⟨[], .nil, by simp⟩
  | x :: l, xs, its, p, h, r => by
    obtain ⟨v, t, rfl, h1, h2⟩ := h
    cases r with
    | cons r1 r2 =>
      simp only [D.plains, Bool.and_eq_true] at p
      obtain ⟨as, k1, k2⟩ := reads_of I hK sys p.1 h1 r1
      obtain ⟨bs, k3, k4⟩ := reads_all I hK sys p.2 h2 r2
      exact ⟨as ++ bs, .cons k1 k3, by simp [k2, k4]⟩
termination_by structural l => l
theorem reads_kv (I : L2.Inv X pins σ H s) (hK : R.K = X.K) (sys : SysK X.K) : ∀ {l : List (D × D)} {kvs : List (Key × V)} {vs : List (Key × Value)} {es : List DictEntry}, D.plaink l = true → RepK R H l kvs → KV kvs vs → Pairs (L2.mixKind X.prog X.w) es vs →
    ∃ as bs, ReadsAll s.heap (es.map (·.key)) ((toPyk l).map (·.1)) as ∧ ReadsAll s.heap (es.map (·.val)) ((toPyk l).map (·.2)) bs ∧ sysModules ∉ as ∧ sysModules ∉ bs
  | [], kvs, vs, es, _, h, r, ps => by cases h; cases r; cases ps; exact ⟨[], [], .nil, .nil, by simp, by simp⟩
  | (k, x) :: l, kvs, vs, es, p, h, r, ps => by
    obtain ⟨q, v, t, rfl, hq, h1, h2⟩ := h
    cases r with
    | cons r1 r2 =>
      cases ps with
      | cons p1 p2 p3 =>
        obtain ⟨e1, e2⟩ := r1
        simp only [D.plaink, Bool.and_eq_true] at p
        obtain ⟨as, bs, k1, k2, k3, k4⟩ := reads_kv I hK sys p.2 h2 r2 p3
        obtain ⟨cs, k5, k6⟩ := reads_of I hK sys p.1 h1 e2
        have hkey : ∀ {u : Value}, L2.keyIs q u = true → Reads s.heap u (keyPy k) [] := by
          intro u hu
          rcases L2.keyIs_shape hu with ⟨i, t, rfl, rfl⟩ | ⟨z, t, rfl, rfl⟩
          · cases k with
            | int j => cases hq; exact .int _ _
            | str j => cases hq
            | _ => cases hq
          · cases k with
            | int j => cases hq
            | str j => cases hq; exact .str _ _
            | _ => cases hq
        have e1 : q = _ := e1
        have kd := hkey (by rw [e1]; exact p1)
        refine ⟨[] ++ as, cs ++ bs, .cons kd k1, ?_, by simpa using k3, by simp [k4, k6]⟩
        refine .cons ?_ k2
        show Reads s.heap _ (toPy x) cs
        simp only [p2]
        exact k5
termination_by structural l => l
end
end
def rRepr (K : PySem.W.Frag) : List V → Hp → VK → Prop := fun xs H Q => ∃ (R : RC) (x : D) (v : V), R.K = K ∧ xs = [v] ∧ Rep R H x v ∧ reprOk x = true ∧ Q (.str (toPy x).shown) H
theorem call_repr {X : HCx} (hu : X.A.units + 64 < cLine) (gd : X.A.guards = some []) (sys : SysK X.K) : CallR X (.builtin "repr") (rRepr X.K) := by
  intro pins s σ H xs us Q I r h
  obtain ⟨R, x, v, hK, rfl, hx, ok, q⟩ := h
  simp only [reprOk, Bool.and_eq_true, decide_eq_true_eq] at ok
  obtain ⟨⟨⟨pl, dp⟩, sh⟩, sz⟩ := ok
  obtain ⟨u, rfl, rv⟩ := L2.vals1 r
  have sz' : (toPy x).shown.length ≤ sizeLine := by rw [sizeLine_eq]; exact sz
  have fin : ∀ t, Q (.str (toPy x).shown) H → L2.EP X pins σ Q (.str (toPy x).shown s.toks) { s with toks := t } := fun t q => ⟨.str _, H, I.tok _, ⟨_, rfl⟩, q⟩
  have byref : ∀ a, u = .ref a → wpAny (model X.prog X.w) X.A (call (.builtin "repr") [u]) (L2.EP X pins σ Q) X.xe s := by
    rintro a rfl
    obtain ⟨as, rd, ns⟩ := reads_of I hK sys pl hx rv
    exact repr_of_reads' rd sh (fun _ => ns) gd (by omega) (fun _ _ e => e) (fun h' u tk hk => ⟨.str _, H, I.kept hk, ⟨_, rfl⟩, q⟩) sz'
  cases x with
  | non => cases hx; cases rv; exact PySem.P.repr_of_none (fin _ q)
  | bl b => cases hx; cases rv; exact PySem.P.repr_of_bool (fin _ q)
  | int i =>
    cases hx
    obtain ⟨t, rfl⟩ := rv
    exact PySem.P.repr_of_int (by simpa [toPy, PyData.showable] using sh) (fin _ q)
  | str z =>
    cases hx
    obtain ⟨t, rfl⟩ := rv
    exact PySem.P.repr_of_str (fin _ q) sz'
  | tup l => obtain ⟨a, xs, rfl, _⟩ := hx; cases rv; exact byref _ rfl
  | lst l => obtain ⟨a, xs, rfl, _⟩ := hx; cases rv; exact byref _ rfl
  | dct l => obtain ⟨a, xs, rfl, _⟩ := hx; cases rv; exact byref _ rfl
  | ins => simp [D.plain] at pl
end Ev

end

section
set_option Elab.async false
set_option linter.all false
set_option maxRecDepth 100000
/-! Ev, part 6: truth, items, slices, built-in functions and methods. -/
namespace Ev
open PySem PySem.Spec PyProof.Rows
open L2 (V Hp HO PE PT PS PSs PA PG PGs PI TE TT TA TS TG TGs VK SqL SqT Rd Key upd upd_same upd_ne OpR CallR IxR SlR MtR MtM R2 tOp RelV Vals WX Takes Room FnOk Sp XK Ends rI rI0 CMul CDiv CPow KV)

section
variable {R : RC} {W : WX} {τ : HSt} {H F : Hp} {m : List Addr} {S : Store}
theorem Reps.empty {l : List D} {xs : List V} (h : Reps R F l xs) : xs.isEmpty = l.isEmpty := by
  have := h.length
  cases l <;> cases xs <;> simp_all
theorem RepK.empty {l : List (D × D)} {xs : List (Key × V)} (h : RepK R F l xs) : xs.isEmpty = l.isEmpty := by
  have := h.length
  cases l <;> cases xs <;> simp_all
theorem truth_val {x : Val} {x' : V} {Q : Bool → Hp → Prop} (sim : Sim R H F m S) (rx : RepV R F m x x') (h : Post R W relB τ H F m (truthV S x) Q) : ∃ k, L2.TruV R.K x' H k ∧ Q k H := by
  unfold truthV at h
  cases ha : rdv S x with
  | none => rw [ha] at h; exact h.elim
  | some a =>
    rw [ha] at h
    cases hz : truth a with
    | none => simp only [hz] at h; exact h.elim
    | some z =>
      simp only [hz] at h
      have q : Q z H := h.get sim rfl
      refine ⟨z, ?_, q⟩
      have ra := rdv_rep sim rx ha
      cases a with
      | non => cases hz; cases ra; rfl
      | bl b => cases hz; cases ra; rfl
      | int i => cases hz; cases ra; rfl
      | str t =>
        cases ra
        simp only [truth] at hz
        split at hz
        · rename_i hle
          cases hz
          refine ⟨by rw [← big_eq]; simpa [Str.length] using hle, ?_⟩
          cases t with
          | nil => rfl
          | cons c t => simp [Str.length]; omega
        · cases hz
      | tup l =>
        cases hz
        obtain ⟨p, xs, rfl, h1, h2⟩ := rdv_tup sim rx ha
        exact .inr (.inl ⟨xs, sim.sub.sqT h1, by rw [h2.empty]⟩)
      | lst l =>
        cases hz
        obtain ⟨p, xs, rfl, h1, h2⟩ := rdv_lst sim rx ha
        exact .inl ⟨xs, .inl h1, by rw [h2.empty]⟩
      | dct l =>
        cases hz
        obtain ⟨p, xs, rfl, h1, h2⟩ := rdv_dct sim rx ha
        exact .inr (.inr ⟨xs, h1, by rw [h2.empty]⟩)
      | ins c fs => cases hz

/-! ### items -/
theorem Reps.ix {l : List D} {xs : List V} {i : Int} {z : D} (h : Reps R F l xs) (e : ixD l i = some z) : ∃ v, L2.atI xs i = some v ∧ Rep R F z v := by
  unfold ixD at e
  unfold L2.atI L2.ixN
  rw [← h.length]
  split at e
  · rename_i h0
    rw [if_pos h0]
    split at e
    · rename_i h1
      rw [if_pos h1]
      obtain ⟨v, hv, r⟩ := h.get e
      exact ⟨v, hv, r⟩
    · cases e
  · rename_i h0
    rw [if_neg h0]
    split at e
    · rename_i h1
      rw [if_pos h1]
      obtain ⟨v, hv, r⟩ := h.get e
      exact ⟨v, hv, r⟩
    · cases e
theorem atI_ix {s : List Nat} {i : Int} {c : Nat} (e : ixD s i = some c) : L2.atI s i = some c := by
  unfold ixD at e
  unfold L2.atI L2.ixN
  split at e
  · rename_i h0
    rw [if_pos h0]
    split at e
    · rename_i h1
      rw [if_pos h1]
      exact e
    · cases e
  · rename_i h0
    rw [if_neg h0]
    split at e
    · rename_i h1
      rw [if_pos h1]
      exact e
    · cases e
def rIxDK : R2 := fun x y H Q => ∃ a v, x = .ref a ∧ L2.DGet H a y (some v) ∧ Q v H
theorem ix_dK {X : HCx} (hu : X.A.units + 64 < cLine) : IxR X rIxDK := by
  intro value slice pins s σ H x y v u Q I rx ry h hs
  obtain ⟨a, z, rfl, g, q⟩ := h
  cases rx
  exact tail_any (L2.dict_typeIs I g) PySem.F.slot_dict_getitem.lookup (L2.d_getItem (by omega) I g ry fun w' s' I' rw' => ⟨z, H, I', rw', q⟩) hs
def rSub (K : PySem.W.Frag) : R2 := fun x y H Q => L2.rIx K x y H Q ∨ rIxDK x y H Q
theorem ix_all {X : HCx} (hu : X.A.units + 64 < cLine) : IxR X (rSub X.K) := L2.ix_seq.or (ix_dK hu)
theorem sub_val {x y : Val} {x' y' : V} {Q : VK} (sim : Sim R H F m S) (rx : RepV R F m x x') (ry : RepV R F m y y') (h : Post R W (RepV R) τ H F m (on2 S x y subD) Q) : rSub R.K x' y' H Q := by
  obtain ⟨a, b, z, ha, hb, hz, h⟩ := on2_inv h
  have rb := rdv_rep sim ry hb
  unfold subD at hz
  split at hz
  · cases rb
    obtain ⟨p, xs, rfl, h1, h2⟩ := rdv_lst sim rx ha
    obtain ⟨v, hv, r⟩ := h2.ix hz
    exact .inl (.inl ⟨p, xs, _, v, rfl, rfl, .inl h1, hv, h.get sim r⟩)
  · cases rb
    obtain ⟨p, xs, rfl, h1, h2⟩ := rdv_tup sim rx ha
    obtain ⟨v, hv, r⟩ := h2.ix hz
    exact .inl (.inr (.inl ⟨p, xs, _, v, rfl, rfl, sim.sub.sqT h1, hv, h.get sim r⟩))
  · have ra := rdv_rep sim rx ha
    cases ra; cases rb
    split at hz
    · rename_i hle
      cases e : ixD _ _ with
      | none => rw [e] at hz; cases hz
      | some c =>
        rw [e] at hz
        cases hz
        refine .inl (.inr (.inr ⟨_, _, c, rfl, rfl, by rw [← big_eq]; simpa [Str.length] using hle, by simpa using atI_ix e, h.get sim ?_⟩))
        rfl
    · cases hz
  · split at hz
    · rename_i hk
      obtain ⟨p, kvs, rfl, h1, h2⟩ := rdv_dct sim rx ha
      obtain ⟨o, g, _, ho⟩ := dget h1 h2 hk rb
      obtain ⟨w, rfl, rw'⟩ := ho z hz
      exact .inr ⟨p, w, rfl, g, h.get sim rw'⟩
    · cases hz
  · cases hz
/-! ### slices -/
theorem slIx_eq (n d : Nat) (o : Option Int) : slIx n d o = HT.sIx n d o := by
  cases o with
  | none => rfl
  | some v =>
    show (if v < 0 then max (v + n) 0 else min v n).toNat = if v < 0 then (v + (n : Int)).toNat else min v.toNat n
    split <;> omega
theorem Reps.cut {l : List D} {xs : List V} (h : Reps R F l xs) (lo hi : Option Int) : Reps R F (cut l lo hi) (L2.cutV xs lo hi) := by
  unfold Ev.cut L2.cutV
  rw [slIx_eq, slIx_eq, ← h.length]
  exact (h.drop _).take _
def rSlc (K : PySem.W.Frag) : V → Option Int → Option Int → Hp → VK → Prop := fun x lo hi H Q => (L2.rSlL K x lo hi H Q ∨ L2.rSlA K x lo hi H Q) ∨ L2.rSlS x lo hi H Q
theorem sl_all {X : HCx} : SlR X (rSlc X.K) := (L2.sl_list.or L2.sl_tupA).or L2.sl_str
theorem slc_val {x : Val} {x' : V} {lo hi : Option Int} {Q : VK} (sim : Sim R H F m S) (rx : RepV R F m x x') (h : Post R W (RepV R) τ H F m (on1 S x fun x => slcD x lo hi) Q) : rSlc R.K x' lo hi H Q := by
  obtain ⟨a, z, ha, hz, h⟩ := on1_inv h
  cases a with
  | lst l =>
    cases hz
    obtain ⟨p, xs, rfl, h1, h2⟩ := rdv_lst sim rx ha
    exact .inl (.inl ⟨p, xs, rfl, .inl h1, Post.newL sim (h2.cut lo hi) h⟩)
  | tup l =>
    cases hz
    obtain ⟨p, xs, rfl, h1, h2⟩ := rdv_tup sim rx ha
    refine .inl (.inr ⟨p, xs, rfl, sim.sub.sqT h1, fun e => ?_, fun _ => Post.newT sim (h2.cut lo hi) h⟩)
    have e' : cut l lo hi = l := by
      unfold cut
      rw [slIx_eq, slIx_eq, h2.length, e.1, e.2, ← h2.length]
      simp
    rw [e'] at h
    exact h.get sim ⟨p, xs, rfl, h1, h2⟩
  | str t =>
    simp only [slcD] at hz
    split at hz
    · rename_i hle
      cases hz
      have ra := rdv_rep sim rx ha
      cases ra
      refine .inr ⟨_, rfl, by rw [← big_eq]; simpa [Str.length] using hle, h.get sim ?_⟩
      show V.str _ = V.str _
      congr 1
      unfold L2.cutS cut
      simp [slIx_eq, Str.length]
    · cases hz
  | non => cases hz
  | bl _ => cases hz
  | int _ => cases hz
  | dct _ => cases hz
  | ins _ _ => cases hz
/-! ### built-in functions -/
theorem rdvs_val (sim : Sim R H F m S) : ∀ {vs : List Val} {vs' : List V} {xs : List D}, RepVs R F m vs vs' → rdvs S vs = some xs → Reps R H xs vs'
  | [], _, xs, h, e => by
    cases e
    exact h
  | v :: l, _, xs, ⟨v', r, e0, h, t⟩, e => by
    subst e0
    simp only [rdvs] at e
    cases q : rdv S v with
    | none => simp only [q] at e; cases e
    | some x =>
      simp only [q] at e
      cases q2 : rdvs S l with
      | none => simp only [q2] at e; cases e
      | some r2 =>
        simp only [q2] at e
        cases e
        exact ⟨v', r, rfl, rdv_rep sim h q, rdvs_val sim t q2⟩
theorem rdvs_get : ∀ {vs : List Val} {xs : List D} {x : D}, rdvs S vs = some xs → xs = [x] → ∃ v, vs = [v] ∧ rdv S v = some x
  | [], _, _, e, h => by subst h; cases e
  | [v], xs, x, e, h => by
    subst h
    simp only [rdvs] at e
    cases q : rdv S v with
    | none => simp only [q] at e; cases e
    | some y => simp only [q] at e; cases e; exact ⟨v, rfl, q⟩
  | v :: w :: l, xs, x, e, h => by
    subst h
    simp only [rdvs] at e
    cases q : rdv S v with
    | none => simp only [q] at e; cases e
    | some y =>
      simp only [q] at e
      cases q2 : rdv S w with
      | none => simp only [q2] at e; cases e
      | some z =>
        simp only [q2] at e
        cases q3 : rdvs S l with
        | none => simp only [q3] at e; cases e
        | some r => simp only [q3] at e; cases e
theorem onL_inv {vs : List Val} {f : List D → Option D} {Q : VK} (h : Post R W (RepV R) τ H F m (onL S vs f) Q) : ∃ xs z, rdvs S vs = some xs ∧ f xs = some z ∧ Post R W (RepV R) τ H F m (.ok (.d z) S) Q := by
  unfold onL at h
  cases ha : rdvs S vs with
  | none => rw [ha] at h; exact h.elim
  | some a =>
    rw [ha] at h
    cases hz : f a with
    | none => simp only [hz] at h; exact h.elim
    | some z => simp only [hz] at h; exact ⟨a, z, rfl, hz, h⟩
theorem RepVs.one {v : Val} {vs' : List V} (h : RepVs R F m [v] vs') : ∃ v', vs' = [v'] ∧ RepV R F m v v' := by
  obtain ⟨v', r, rfl, h, t⟩ := h
  cases t
  exact ⟨v', rfl, h⟩
theorem Reps.ints : ∀ {l : List D} {xs : List V} {ns : List Int}, Reps R F l xs → intsOf l = some ns → xs = ns.map V.int
  | [], _, ns, h, e => by cases e; exact h
  | x :: l, _, ns, ⟨v, r, e0, h, t⟩, e => by
    subst e0
    cases x with
    | int i =>
      simp only [intsOf] at e
      cases q : intsOf l with
      | none => rw [q] at e; cases e
      | some ms =>
        rw [q] at e
        cases e
        cases h
        rw [Reps.ints t q]
        rfl
    | _ => cases e
theorem Reps.bls : ∀ {l : List D} {xs : List V} {ns : List Bool}, Reps R F l xs → blsOf l = some ns → xs = ns.map V.bl
  | [], _, ns, h, e => by cases e; exact h
  | x :: l, _, ns, ⟨v, r, e0, h, t⟩, e => by
    subst e0
    cases x with
    | bl i =>
      simp only [blsOf] at e
      cases q : blsOf l with
      | none => rw [q] at e; cases e
      | some ms =>
        rw [q] at e
        cases e
        cases h
        rw [Reps.bls t q]
        rfl
    | _ => cases e
theorem Reps.strs : ∀ {l : List D} {xs : List V} {ns : List (List Nat)}, Reps R F l xs → strsOf l = some ns → xs = (ns.map fun x => (⟨x.toArray⟩ : Str)).map V.str
  | [], _, ns, h, e => by cases e; exact h
  | x :: l, _, ns, ⟨v, r, e0, h, t⟩, e => by
    subst e0
    cases x with
    | str i =>
      simp only [strsOf] at e
      cases q : strsOf l with
      | none => rw [q] at e; cases e
      | some ms =>
        rw [q] at e
        cases e
        cases h
        rw [Reps.strs t q]
        rfl
    | _ => cases e
theorem maxL_spec {ns : List Int} {m : Int} (h : maxL ns = some m) : ∀ k, k ∈ ns → (∀ y, y ∈ ns → y ≤ k) → k = m := by
  cases ns with
  | nil => cases h
  | cons a l =>
    cases h
    have key : ∀ (l : List Int) (a : Int), (l.foldl max a ∈ a :: l) ∧ (∀ y, y ∈ a :: l → y ≤ l.foldl max a) := by
      intro l
      induction l with
      | nil => intro a; exact ⟨by simp, fun y hy => by simp at hy; subst hy; exact Int.le_refl _⟩
      | cons b l ih =>
        intro a
        obtain ⟨h1, h2⟩ := ih (max a b)
        rw [List.foldl_cons]
        refine ⟨?_, fun y hy => ?_⟩
        · rcases List.mem_cons.mp h1 with e | e
          · rw [e]
            rcases Int.le_total a b with q | q
            · rw [Int.max_eq_right q]; simp
            · rw [Int.max_eq_left q]; simp
          · exact List.mem_cons_of_mem _ (List.mem_cons_of_mem _ e)
        · have hm := h2 (max a b) List.mem_cons_self
          rcases List.mem_cons.mp hy with e | e
          · subst e; exact Int.le_trans (Int.le_max_left _ _) hm
          · rcases List.mem_cons.mp e with e | e
            · subst e; exact Int.le_trans (Int.le_max_right _ _) hm
            · exact h2 y (List.mem_cons_of_mem _ e)
    intro k hk hle
    obtain ⟨h1, h2⟩ := key l a
    exact Int.le_antisymm (h2 k hk) (hle _ h1)
theorem minL_spec {ns : List Int} {m : Int} (h : minL ns = some m) : ∀ k, k ∈ ns → (∀ y, y ∈ ns → k ≤ y) → k = m := by
  cases ns with
  | nil => cases h
  | cons a l =>
    cases h
    have key : ∀ (l : List Int) (a : Int), (l.foldl min a ∈ a :: l) ∧ (∀ y, y ∈ a :: l → l.foldl min a ≤ y) := by
      intro l
      induction l with
      | nil => intro a; exact ⟨by simp, fun y hy => by simp at hy; subst hy; exact Int.le_refl _⟩
      | cons b l ih =>
        intro a
        obtain ⟨h1, h2⟩ := ih (min a b)
        rw [List.foldl_cons]
        refine ⟨?_, fun y hy => ?_⟩
        · rcases List.mem_cons.mp h1 with e | e
          · rw [e]
            rcases Int.le_total a b with q | q
            · rw [Int.min_eq_left q]; simp
            · rw [Int.min_eq_right q]; simp
          · exact List.mem_cons_of_mem _ (List.mem_cons_of_mem _ e)
        · have hm := h2 (min a b) List.mem_cons_self
          rcases List.mem_cons.mp hy with e | e
          · subst e; exact Int.le_trans hm (Int.min_le_left _ _)
          · rcases List.mem_cons.mp e with e | e
            · subst e; exact Int.le_trans hm (Int.min_le_right _ _)
            · exact h2 y (List.mem_cons_of_mem _ e)
    intro k hk hle
    obtain ⟨h1, h2⟩ := key l a
    exact Int.le_antisymm (hle _ h1) (h2 k hk)
end
/-- the name of a built-in in the text -/
def bltName : Blt → Option Str
  | .len => some "len" | .tuple => some "tuple" | .list => some "list" | .all => some "all" | .any => some "any" | .sum => some "sum" | .max => some "max" | .min => some "min" | .max2 => some "max" | .min2 => some "min" | .int => some "int" | .repr => some "repr" | .str => some "str" | .ord => some "ord" | .dict => some "dict"
  | _ => none
def bltTy : Blt → Option String
  | .tuple => some "tuple" | .list => some "list" | .int => some "int" | .str => some "str" | .dict => some "dict"
  | _ => none
def bltId : Blt → String
  | .len => "len" | .all => "all" | .any => "any" | .sum => "sum" | .max => "max" | .min => "min" | .max2 => "max" | .min2 => "min" | .repr => "repr" | .ord => "ord"
  | _ => ""
def bltV (b : Blt) : Value := match bltTy b with
  | some t => .type t
  | none => .builtin (bltId b)
def rBlt (K : PySem.W.Frag) : Blt → List V → Hp → VK → Prop
  | .len => fun xs H Q => ((∃ p ys, xs = [.ref p] ∧ (SqL K H p ys ∨ SqT K H p ys) ∧ Q (.int ys.length) H) ∨ ∃ z, xs = [.str z] ∧ z.length ≤ sizeLine ∧ Q (.int z.length) H) ∨ ∃ a kvs, xs = [V.ref a] ∧ H a = some (.dK kvs) ∧ Q (.int kvs.length) H
  | .tuple => fun xs H Q => ∃ p ys, xs = [.ref p] ∧ ((SqL K H p ys ∧ ∀ l, H l = none → Q (.ref l) (upd H l (.tup ys))) ∨ (SqT K H p ys ∧ Q (.ref p) H))
  | .list => fun xs H Q => ∃ p ys, xs = [.ref p] ∧ (SqL K H p ys ∨ SqT K H p ys) ∧ ∀ l, H l = none → Q (.ref l) (upd H l (.lst ys))
  | .all => L2.rAll K
  | .any => L2.rAny K
  | .sum => L2.rSum K
  | .max => L2.rMax K
  | .min => L2.rMin K
  | .max2 => fun xs H Q => ∃ i j, xs = [.int i, .int j] ∧ Q (.int (if j > i then j else i)) H
  | .min2 => fun xs H Q => ∃ i j, xs = [.int i, .int j] ∧ Q (.int (if j < i then j else i)) H
  | .int => fun xs H Q => (∃ i, xs = [.int i] ∧ Q (.int i) H) ∨ ∃ k, xs = [.bl k] ∧ Q (.int (if k then 1 else 0)) H
  | .repr => rRepr K
  | .str => fun xs H Q => (∃ i, xs = [.int i] ∧ i.natAbs.log2 < 1920 ∧ Q (.str (PySem.Str.ofString (toString i))) H) ∨ ∃ a, xs = [.str a] ∧ Q (.str a) H
  | .dict => fun xs H Q => ∃ (a : Addr) (ps : List Addr) (kvs : List (Key × V)), xs = [.ref a] ∧ SqL K H a (ps.map V.ref) ∧ Paired (fun p kv => SqT K H p [L2.kV kv.1, kv.2]) ps kvs ∧ ∀ p, H p = none → Q (.ref p) (upd H p (.dK (L2.mergeK [] kvs)))
  | .ord => fun xs H Q => ∃ x, xs = [.str x] ∧ x.length = 1 ∧ Q (.int (x.cps.getD 0 0 : Nat)) H
  | _ => fun _ _ _ => False
theorem CallR.none {X : HCx} {f : Value} : CallR X f (fun _ _ _ => False) := fun _ _ _ _ _ _ _ _ _ q => q.elim
theorem call_strS {X : HCx} : CallR X (.type "str") (fun xs H Q => ∃ a, xs = [.str a] ∧ Q (.str a) H) := by
  intro pins s σ H xs us Q I r h
  obtain ⟨a, rfl, q⟩ := h
  obtain ⟨u, rfl, t, rfl⟩ := L2.vals1 r
  exact PySem.P.str_of_str ⟨.str a, H, I, ⟨t, rfl⟩, q⟩
/-- which built-in functions are not asked in an except suite -/
def needC : Blt → Bool
  | .all | .any | .sum | .max | .min | .max2 | .min2 | .dict => true
  | _ => false
theorem call_blt {X : HCx} (b : Blt) (hc : needC b = true → X.calm = true) (hu : X.A.units + 64 < cLine) (gd : X.A.guards = some []) (sys : SysK X.K) : CallR X (bltV b) (rBlt X.K b) := match b, hc with
  | .len, _ => (L2.call_len_seq.or L2.call_len_str).or L2.call_lenD
  | .tuple, _ => L2.call_tuple_of
  | .list, _ => L2.call_list_of
  | .all, hc => L2.cr_all (hc rfl)
  | .any, hc => L2.cr_any (hc rfl)
  | .sum, hc => L2.cr_sum (hc rfl)
  | .max, hc => L2.cr_max (hc rfl)
  | .min, hc => L2.cr_min (hc rfl)
  | .max2, hc => L2.call_max2 (hc rfl)
  | .min2, hc => L2.call_min2 (hc rfl)
  | .int, _ => L2.call_int1
  | .str, _ => L2.call_str_int.or call_strS
  | .repr, _ => call_repr hu gd sys
  | .ord, _ => L2.call_ord
  | .sorted, _ => CallR.none
  | .sortedset, _ => CallR.none
  | .lenset, _ => CallR.none
  | .dict, hc => L2.call_dictP (hc rfl)
section
variable {R : RC} {W : WX} {τ : HSt} {H F : Hp} {m : List Addr} {S : Store}
theorem blt_val (b : Blt) {vs : List Val} {vs' : List V} {Q : VK} (sim : Sim R H F m S) (rv : RepVs R F m vs vs') (h : Post R W (RepV R) τ H F m (onL S vs (bltD b)) Q) : rBlt R.K b vs' H Q := by
  obtain ⟨xs, z, hxs, hz, hp⟩ := onL_inv h
  clear h
  have rr := rdvs_val sim rv hxs
  unfold bltD at hz
  split at hz
  · split at hz
    · rename_i hle
      cases hz
      obtain ⟨_, _, rfl, e, t⟩ := rr
      cases e; cases t
      exact .inl (.inr ⟨_, rfl, by rw [← big_eq]; simpa [Str.length] using hle, hp.get sim (by show V.int _ = V.int _; simp [Str.length])⟩)
    · cases hz
  · cases hz
    obtain ⟨v, rfl, hv⟩ := rdvs_get hxs rfl
    obtain ⟨v', rfl, r1⟩ := rv.one
    obtain ⟨p, xs, rfl, h1, h2⟩ := rdv_lst sim r1 hv
    exact .inl (.inl ⟨p, xs, rfl, .inl (.inl h1), hp.get sim (by show V.int _ = V.int _; rw [h2.length])⟩)
  · cases hz
    obtain ⟨v, rfl, hv⟩ := rdvs_get hxs rfl
    obtain ⟨v', rfl, r1⟩ := rv.one
    obtain ⟨p, xs, rfl, h1, h2⟩ := rdv_tup sim r1 hv
    exact .inl (.inl ⟨p, xs, rfl, .inr (sim.sub.sqT h1), hp.get sim (by show V.int _ = V.int _; rw [h2.length])⟩)
  · cases hz
    obtain ⟨v, rfl, hv⟩ := rdvs_get hxs rfl
    obtain ⟨v', rfl, r1⟩ := rv.one
    obtain ⟨p, xs, rfl, h1, h2⟩ := rdv_dct sim r1 hv
    exact .inr ⟨p, xs, rfl, h1, hp.get sim (by show V.int _ = V.int _; rw [h2.length])⟩
  · cases hz
    obtain ⟨v, rfl, hv⟩ := rdvs_get hxs rfl
    obtain ⟨v', rfl, r1⟩ := rv.one
    obtain ⟨p, xs, rfl, h1, h2⟩ := rdv_lst sim r1 hv
    exact ⟨p, xs, rfl, .inl ⟨.inl h1, Post.newT sim h2 hp⟩⟩
  · cases hz
    obtain ⟨v, rfl, hv⟩ := rdvs_get hxs rfl
    obtain ⟨v', rfl, r1⟩ := rv.one
    obtain ⟨p, xs, rfl, h1, h2⟩ := rdv_tup sim r1 hv
    exact ⟨p, xs, rfl, .inr ⟨sim.sub.sqT h1, hp.get sim ⟨p, xs, rfl, h1, h2⟩⟩⟩
  · cases hz
    obtain ⟨v, rfl, hv⟩ := rdvs_get hxs rfl
    obtain ⟨v', rfl, r1⟩ := rv.one
    obtain ⟨p, xs, rfl, h1, h2⟩ := rdv_lst sim r1 hv
    exact ⟨p, xs, rfl, .inl (.inl h1), Post.newL sim h2 hp⟩
  · cases hz
    obtain ⟨v, rfl, hv⟩ := rdvs_get hxs rfl
    obtain ⟨v', rfl, r1⟩ := rv.one
    obtain ⟨p, xs, rfl, h1, h2⟩ := rdv_tup sim r1 hv
    exact ⟨p, xs, rfl, .inr (sim.sub.sqT h1), Post.newL sim h2 hp⟩
  · rename_i l
    cases e : blsOf l with
    | none => rw [e] at hz; cases hz
    | some bs =>
      rw [e] at hz
      cases hz
      obtain ⟨v, rfl, hv⟩ := rdvs_get hxs rfl
      obtain ⟨v', rfl, r1⟩ := rv.one
      obtain ⟨p, xs, rfl, h1, h2⟩ := rdv_lst sim r1 hv
      exact ⟨p, bs, rfl, .inl (by rw [← h2.bls e]; exact h1), hp.get sim rfl⟩
  · rename_i l
    cases e : blsOf l with
    | none => rw [e] at hz; cases hz
    | some bs =>
      rw [e] at hz
      cases hz
      obtain ⟨v, rfl, hv⟩ := rdvs_get hxs rfl
      obtain ⟨v', rfl, r1⟩ := rv.one
      obtain ⟨p, xs, rfl, h1, h2⟩ := rdv_lst sim r1 hv
      exact ⟨p, bs, rfl, .inl (by rw [← h2.bls e]; exact h1), hp.get sim rfl⟩
  · rename_i l
    cases e : intsOf l with
    | none => rw [e] at hz; cases hz
    | some bs =>
      rw [e] at hz
      cases hz
      obtain ⟨v, rfl, hv⟩ := rdvs_get hxs rfl
      obtain ⟨v', rfl, r1⟩ := rv.one
      obtain ⟨p, xs, rfl, h1, h2⟩ := rdv_lst sim r1 hv
      exact ⟨p, bs, rfl, .inl (by rw [← h2.ints e]; exact h1), hp.get sim rfl⟩
  · rename_i l
    cases e : intsOf l with
    | none => rw [e] at hz; cases hz
    | some bs =>
      rw [e] at hz
      cases e2 : maxL bs with
      | none => simp only [Option.bind_some, e2] at hz; cases hz
      | some k =>
        simp only [Option.bind_some, e2] at hz
        cases hz
        obtain ⟨v, rfl, hv⟩ := rdvs_get hxs rfl
        obtain ⟨v', rfl, r1⟩ := rv.one
        obtain ⟨p, xs, rfl, h1, h2⟩ := rdv_lst sim r1 hv
        refine ⟨p, bs, rfl, .inl (by rw [← h2.ints e]; exact h1), ?_, fun k' h3 h4 => ?_⟩
        · cases bs with
          | nil => cases e2
          | cons _ _ => simp
        · rw [maxL_spec e2 k' h3 h4]
          exact hp.get sim rfl
  · rename_i l
    cases e : intsOf l with
    | none => rw [e] at hz; cases hz
    | some bs =>
      rw [e] at hz
      cases e2 : minL bs with
      | none => simp only [Option.bind_some, e2] at hz; cases hz
      | some k =>
        simp only [Option.bind_some, e2] at hz
        cases hz
        obtain ⟨v, rfl, hv⟩ := rdvs_get hxs rfl
        obtain ⟨v', rfl, r1⟩ := rv.one
        obtain ⟨p, xs, rfl, h1, h2⟩ := rdv_lst sim r1 hv
        refine ⟨p, bs, rfl, .inl (by rw [← h2.ints e]; exact h1), ?_, fun k' h3 h4 => ?_⟩
        · cases bs with
          | nil => cases e2
          | cons _ _ => simp
        · rw [minL_spec e2 k' h3 h4]
          exact hp.get sim rfl
  · cases hz
    obtain ⟨_, _, rfl, e, _, _, rfl, e2, t⟩ := rr
    cases e; cases e2; cases t
    exact ⟨_, _, rfl, hp.get sim rfl⟩
  · cases hz
    obtain ⟨_, _, rfl, e, _, _, rfl, e2, t⟩ := rr
    cases e; cases e2; cases t
    exact ⟨_, _, rfl, hp.get sim rfl⟩
  · cases hz
    obtain ⟨_, _, rfl, e, t⟩ := rr
    cases e; cases t
    exact .inl ⟨_, rfl, hp.get sim rfl⟩
  · cases hz
    obtain ⟨_, _, rfl, e, t⟩ := rr
    cases e; cases t
    refine .inr ⟨_, rfl, hp.get sim ?_⟩
    rename_i k
    cases k <;> rfl
  · split at hz
    · rename_i hok
      cases hz
      obtain ⟨v, t, e0, h1, h2⟩ := rr
      cases h2
      subst e0
      exact ⟨R, _, v, rfl, rfl, h1, hok, hp.get sim (by show V.str _ = V.str _; simp [shD])⟩
    · cases hz
  · split at hz
    · rename_i hlt
      cases hz
      obtain ⟨_, _, rfl, e, t⟩ := rr
      cases e; cases t
      exact .inl ⟨_, rfl, hlt, hp.get sim (by show V.str _ = V.str _; simp [intS])⟩
    · cases hz
  · cases hz
    obtain ⟨_, _, rfl, e, t⟩ := rr
    cases e; cases t
    exact .inr ⟨_, rfl, hp.get sim rfl⟩
  · cases hz
    obtain ⟨_, _, rfl, e, t⟩ := rr
    cases e; cases t
    exact ⟨_, rfl, rfl, hp.get sim rfl⟩
  · rename_i l
    simp only [Option.map_eq_some_iff] at hz
    obtain ⟨ps, e, rfl⟩ := hz
    obtain ⟨v, rfl, hv⟩ := rdvs_get hxs rfl
    obtain ⟨v', rfl, r1⟩ := rv.one
    obtain ⟨p, xs, rfl, h1, h2⟩ := rdv_lst sim r1 hv
    obtain ⟨as, kvs, rfl, h3, h4⟩ := prs_rep sim.sub e h2
    exact ⟨p, as, kvs, rfl, .inl h1, h3, Post.new sim hp fun q hq => ⟨q, _, rfl, upd_same, RepK.mono (sub_upd sim hq) (RepK.merge h4 rfl)⟩⟩
  · cases hz
end
end Ev

end

section
set_option Elab.async false
set_option linter.all false
set_option maxRecDepth 100000
/-! Ev, part 7: methods, isinstance, displays. -/
namespace Ev
open PySem PySem.Spec PyProof.Rows
open L2 (V Hp HO PE PT PS PSs PA PG PGs PI TE TT TA TS TG TGs VK SqL SqT Rd Key upd upd_same upd_ne OpR CallR IxR SlR MtR MtM R2 tOp RelV Vals WX Takes Room FnOk Sp XK Ends rI rI0 CMul CDiv CPow KV)
/-- extend by any list that may be read -/
def rExtR : V → List V → Hp → VK → Prop := fun x vs H Q => ∃ l b xs zs, x = .ref l ∧ vs = [.ref b] ∧ H l = some (.lst xs) ∧ Rd H b (.lst zs) ∧ xs.length + zs.length ≤ sizeLine ∧ Q .non (upd H l (.lst (xs ++ zs)))
theorem mt_extR {X : HCx} : MtR X "list.extend" rExtR := by
  intro pins s σ H x vs v us Q I rx rv h
  obtain ⟨l, b, xs, zs, rfl, rfl, h1, h2, hz, q⟩ := h
  cases rx
  obtain ⟨u, rfl, ru⟩ := L2.Vals.one rv
  cases ru
  obtain ⟨z, its, n, r, hl, e⟩ := I.lstM h1
  obtain ⟨z2, its2, n2, r2, hl2, e2⟩ := Rd.lstM I h2
  have hs : its.toArray.size + its2.toArray.size ≤ sizeLine := by simp only [List.size_toArray]; omega
  have hb : ¬ (!its.toArray.isEmpty && Builtin.List.listTooLong (its.toArray.size + its2.toArray.size)) = true := by rw [L2.notLongL hs, Bool.and_false]; decide
  have M := AutoSeq1.list_extend_list_list_0 l its.toArray n b its2.toArray n2 hb (by simp only [List.size_toArray]; omega) (by omega)
  refine call_meets PySem.F.slot_list_extend ⟨_, e, rfl⟩ PySem.F.entry_list_extend (PySem.F.args_list_extend_2 _ _) M ⟨e, e2, ?_⟩
  exact ⟨.non, _, I.lset (its' := its ++ its2) h1 e (by simp) (r.append r2) (by simp only [List.length_append]; omega), rfl, q⟩
def rGet1 : V → List V → Hp → VK → Prop := fun x vs H Q => ∃ a k o, x = .ref a ∧ vs = [k] ∧ L2.DGet H a k o ∧ Q (o.getD .non) H
def rGet2 : V → List V → Hp → VK → Prop := fun x vs H Q => ∃ a k d o, x = .ref a ∧ vs = [k, d] ∧ L2.DGet H a k o ∧ Q (o.getD d) H
theorem mt_get1 {X : HCx} (hu : X.A.units + 64 < cLine) : MtR X "dict.get" rGet1 := by
  intro pins s σ H x vs v us Q I rx rv h
  obtain ⟨a, k, o, rfl, rfl, g, q⟩ := h
  cases rx
  obtain ⟨u, rfl, ru⟩ := L2.Vals.one rv
  exact L2.d_get1 (by omega) I g ru fun w' s' I' rw' => ⟨_, H, I', rw', q⟩
theorem mt_get2 {X : HCx} (hu : X.A.units + 64 < cLine) : MtR X "dict.get" rGet2 := by
  intro pins s σ H x vs v us Q I rx rv h
  obtain ⟨a, k, d, o, rfl, rfl, g, q⟩ := h
  cases rx
  obtain ⟨u, u2, rfl, ru, ru2⟩ := L2.Vals.two rv
  exact L2.d_get2 (by omega) I g ru ru2 fun w' s' I' rw' => ⟨_, H, I', rw', q⟩
/-- a method's type, name, id -/
def mthT : Mth → String
  | .append | .pop | .popAt | .reverse | .extend | .insert | .remove | .index | .count => "list"
  | .get1 | .get2 | .dpop1 | .dpop2 | .items => "dict"
  | .join | .split | .replace => "str"
def mthN : Mth → Option Str
  | .append => some "append" | .pop => some "pop" | .reverse => some "reverse" | .extend => some "extend" | .get1 => some "get" | .get2 => some "get" | .join => some "join"
  | _ => none
def mthI : Mth → String
  | .append => "list.append" | .pop => "list.pop" | .reverse => "list.reverse" | .extend => "list.extend" | .get1 => "dict.get" | .get2 => "dict.get" | .join => "str.join"
  | _ => ""
def rMth (K : PySem.W.Frag) : Mth → V → List V → Hp → VK → Prop
  | .append => L2.rAppend
  | .pop => L2.rPop
  | .reverse => L2.rReverse
  | .extend => rExtR
  | .get1 => rGet1
  | .get2 => rGet2
  | .join => fun x xs H Q => ∃ a p, ∃ ys : List Str, x = .str a ∧ xs = [.ref p] ∧ (SqL K H p (ys.map V.str) ∨ SqT K H p (ys.map V.str)) ∧ (ys.map (·.length)).sum + ys.length * a.length ≤ 16777216 ∧ Q (.str (Txt.join a ys)) H
  | _ => fun _ _ _ _ => False
theorem MtR.none {X : HCx} {id : String} : MtR X id (fun _ _ _ _ => False) := fun _ _ _ _ _ _ _ _ _ _ _ _ q => q.elim
theorem mt_all {X : HCx} (hu : X.A.units + 64 < cLine) : ∀ m : Mth, MtR X (mthI m) (rMth X.K m)
  | .append => L2.mt_append
  | .pop => L2.mt_pop
  | .popAt => MtR.none
  | .reverse => L2.mt_reverse
  | .extend => mt_extR
  | .insert => MtR.none
  | .remove => MtR.none
  | .index => MtR.none
  | .count => MtR.none
  | .get1 => mt_get1 hu
  | .get2 => mt_get2 hu
  | .dpop1 => MtR.none
  | .dpop2 => MtR.none
  | .join => L2.mt_join
  | .split => MtR.none
  | .replace => MtR.none
  | .items => MtR.none
theorem mthT_attrs : ∀ m : Mth, PlainAttrs (mthT m)
  | .append | .pop | .popAt | .reverse | .extend | .insert | .remove | .index | .count => PySem.F.plainAttrs_list
  | .get1 | .get2 | .dpop1 | .dpop2 | .items => PySem.F.plainAttrs_dict
  | .join | .split | .replace => PySem.F.plainAttrs_str
theorem mth_slot {m : Mth} {n : Str} (h : mthN m = some n) : Slot (mthT m) n (mthI m) := by
  cases m <;> cases h
  · exact PySem.F.slot_list_append
  · exact PySem.F.slot_list_pop
  · exact PySem.F.slot_list_reverse
  · exact PySem.F.slot_list_extend
  · exact PySem.F.slot_dict_get
  · exact PySem.F.slot_dict_get
  · exact PySem.F.slot_str_join
theorem mth_type {m : Mth} {n : Str} (h : mthN m = some n) : typeOf (.builtin (mthI m)) = pure (.type "method_descriptor") := by
  cases m <;> cases h
  · exact PySem.F.type_list_append
  · exact PySem.F.type_list_pop
  · exact PySem.F.type_list_reverse
  · exact PySem.F.type_list_extend
  · exact PySem.F.type_dict_get
  · exact PySem.F.type_dict_get
  · exact PySem.F.type_str_join
section
variable {R : RC} {W : WX} {τ : HSt} {H F : Hp} {m : List Addr} {S : Store}
theorem recv_val {k : Mth} {x : Val} {x' : V} {a : D} (sim : Sim R H F m S) (rx : RepV R F m x x') (ha : rdv S x = some a) (hr : recvD k a = true) : L2.tyV R.K (mthT k) x' H := by
  cases a with
  | lst l =>
    obtain ⟨p, xs, rfl, h1, h2⟩ := rdv_lst sim rx ha
    have e : mthT k = "list" := by cases k <;> first | rfl | (simp [recvD] at hr)
    exact .inl ⟨e, xs, .inl h1⟩
  | dct l =>
    obtain ⟨p, xs, rfl, h1, h2⟩ := rdv_dct sim rx ha
    have e : mthT k = "dict" := by cases k <;> first | rfl | (simp [recvD] at hr)
    exact .inr (.inr (.inl ⟨e, .inl ⟨xs, h1⟩⟩))
  | str t =>
    have ra := rdv_rep sim rx ha
    cases ra
    show mthT k = "str"
    cases k <;> first | rfl | (simp [recvD] at hr)
  | non => cases k <;> simp [recvD] at hr
  | bl _ => cases k <;> simp [recvD] at hr
  | int _ => cases k <;> simp [recvD] at hr
  | tup _ => cases k <;> simp [recvD] at hr
  | ins _ _ => cases k <;> simp [recvD] at hr
theorem RepVs.nil {vs' : List V} (h : RepVs R F m [] vs') : vs' = [] := h
theorem Reps.one {x : D} {vs' : List V} (h : Reps R F [x] vs') : ∃ v, vs' = [v] ∧ Rep R F x v := by
  obtain ⟨v, r, rfl, h, t⟩ := h
  cases t
  exact ⟨v, rfl, h⟩
theorem Reps.dropLast {l : List D} {vs : List V} (h : Reps R F l vs) : Reps R F l.dropLast vs.dropLast := by
  rw [List.dropLast_eq_take, List.dropLast_eq_take, h.length]
  exact h.take _
theorem mut_val {k : Mth} {x : Val} {vs : List Val} {x' : V} {vs' : List V} {Q : VK} (sim : Sim R H F m S) (rx : RepV R F m x x') (rv : RepVs R F m vs vs') (h : Post R W (RepV R) τ H F m (doMut k x vs S) Q) : rMth R.K k x' vs' H Q := by
  cases x with
  | d y => exact h.elim
  | ref n =>
    simp only [doMut] at h
    cases hf : fzs S vs with
    | none => simp only [hf] at h; exact h.elim
    | some p =>
      obtain ⟨xs, S1⟩ := p
      simp only [hf] at h
      obtain ⟨F1, sim1, st1, rxs⟩ := fzs_ok sim rv hf
      cases hc : S1[n]? with
      | none => simp only [hc] at h; exact h.elim
      | some c =>
        simp only [hc] at h
        cases hm : mthC k c xs with
        | none => simp only [hm] at h; exact h.elim
        | some q =>
          obtain ⟨z, c1⟩ := q
          simp only [hm] at h
          obtain ⟨a, ha, rfl⟩ := rx
          have cr := sim1.cell n c a hc ha
          have fin : ∀ {l2 : List D} {ys : List V} {w : V}, c1 = .lst l2 → F1 a = none → Reps R F1 l2 ys → Rep R F1 z w → Q w (upd H a (.lst ys)) := fun {l2 ys w} e hF r1 r2 => by
            subst e
            obtain ⟨s1, s2⟩ := sim1.put (c := .lst l2) (.lst ys) ha hF ⟨hF, ys, upd_same, r1⟩
            exact h _ _ _ _ (st1.trans s2) s1 r2
          unfold mthC at hm
          split at hm
          · split at hm
            · rename_i hle
              cases hm
              obtain ⟨hF, ys, h1, h2⟩ := cr
              obtain ⟨w, rfl, rw'⟩ := rxs.one
              exact ⟨a, ys, w, rfl, rfl, h1, by rw [← big_eq, ← h2.length]; exact hle, fin rfl hF (h2.append (.cons rw' .nil)) rfl⟩
            · cases hm
          · split at hm
            · rename_i y hy
              cases hm
              cases rxs
              obtain ⟨hF, ys, h1, h2⟩ := cr
              obtain ⟨w, hw, rw'⟩ := h2.get hy
              exact ⟨a, ys, w, rfl, rfl, h1, by rw [← h2.length]; exact hw, fin rfl hF h2.dropLast rw'⟩
            · cases hm
          · cases hm
            cases rxs
            obtain ⟨hF, ys, h1, h2⟩ := cr
            exact ⟨a, ys, rfl, rfl, h1, fin rfl hF h2.reverse rfl⟩
          · split at hm
            · rename_i hle
              cases hm
              obtain ⟨hF, ys, h1, h2⟩ := cr
              obtain ⟨w, rfl, b, zs, rfl, hb, rz⟩ := rxs.one
              refine ⟨a, b, ys, zs, rfl, rfl, h1, sim1.sub.rd hb, by rw [← big_eq, ← h2.length, ← rz.length]; exact hle, fin rfl hF (h2.append rz) rfl⟩
            · cases hm
          · cases hm
theorem keep_val {k : Mth} {x : Val} {vs : List Val} {x' : V} {vs' : List V} {Q : VK} (hk : k.keeps = true) (sim : Sim R H F m S) (rx : RepV R F m x x') (rv : RepVs R F m vs vs') (h : Post R W (RepV R) τ H F m (doKeep k x vs S) Q) : rMth R.K k x' vs' H Q := by
  unfold doKeep at h
  cases hf : fzs S vs with
  | none => simp only [hf] at h; exact h.elim
  | some p =>
    obtain ⟨xs, S1⟩ := p
    simp only [hf] at h
    obtain ⟨F1, sim1, st1, rxs⟩ := fzs_ok sim rv hf
    have rx1 := RepV.mono st1 rx
    cases ha : rdv S1 x with
    | none => simp only [ha] at h; exact h.elim
    | some a =>
      simp only [ha] at h
      cases hz : mthD k a xs with
      | none => simp only [hz] at h; exact h.elim
      | some z =>
        simp only [hz] at h
        have fin : ∀ {w : V}, Rep R F1 z w → Q w H := fun {w} r => h _ _ _ _ st1 sim1 r
        unfold mthD at hz
        split at hz
        · cases hk
        · cases hk
        · split at hz
          · rename_i hkk
            cases hz
            obtain ⟨p, kvs, rfl, h1, h2⟩ := rdv_dct sim1 rx1 ha
            obtain ⟨w, rfl, rw'⟩ := rxs.one
            obtain ⟨o, g, e, ho⟩ := dget h1 h2 hkk (Rep.mono sim1.sub rw')
            refine ⟨p, w, o, rfl, rfl, g, fin ?_⟩
            cases eg : kGet _ _ with
            | none => rw [eg] at e; cases o with
              | none => rfl
              | some _ => cases e
            | some y => obtain ⟨w2, rfl, r2⟩ := ho y eg; exact r2
          · cases hz
        · split at hz
          · rename_i hkk
            cases hz
            obtain ⟨p, kvs, rfl, h1, h2⟩ := rdv_dct sim1 rx1 ha
            obtain ⟨w, _, rfl, rw', w2, _, rfl, rw2, t⟩ := rxs
            cases t
            obtain ⟨o, g, e, ho⟩ := dget h1 h2 hkk (Rep.mono sim1.sub rw')
            refine ⟨p, w, w2, o, rfl, rfl, g, fin ?_⟩
            cases eg : kGet _ _ with
            | none => rw [eg] at e; cases o with
              | none => exact rw2
              | some _ => cases e
            | some y => obtain ⟨w2, rfl, r2⟩ := ho y eg; exact r2
          · cases hz
        · cases hz
theorem joinS_eq (s : List Nat) : ∀ xs : List (List Nat), Str.join ⟨s.toArray⟩ (xs.map fun x => (⟨x.toArray⟩ : Str)) = ⟨(joinS s xs).toArray⟩
  | [] => rfl
  | [x] => rfl
  | x :: y :: r => by
    have ih := joinS_eq s (y :: r)
    show Str.append (Str.append (⟨x.toArray⟩ : Str) ⟨s.toArray⟩) (Str.join ⟨s.toArray⟩ ((y :: r).map fun x => (⟨x.toArray⟩ : Str))) = ⟨(x ++ s ++ joinS s (y :: r)).toArray⟩
    rw [ih]
    simp [Str.append]
theorem read_val {k : Mth} {x : Val} {vs : List Val} {x' : V} {vs' : List V} {Q : VK} (hk : k.keeps = false) (sim : Sim R H F m S) (rx : RepV R F m x x') (rv : RepVs R F m vs vs') (h : Post R W (RepV R) τ H F m (doRead k x vs S) Q) : rMth R.K k x' vs' H Q := by
  unfold doRead at h
  cases ha : rdv S x with
  | none => rw [ha] at h; exact h.elim
  | some a =>
    rw [ha] at h
    obtain ⟨xs, z, hxs, hz, hp⟩ := onL_inv h
    clear h
    have ra := rdv_rep sim rx ha
    unfold mthD at hz
    split at hz
    · rename_i s l
      cases e : strsOf l with
      | none => rw [e] at hz; cases hz
      | some ys =>
        simp only [e, Option.bind_some] at hz
        split at hz
        · rename_i hle
          cases hz
          cases ra
          obtain ⟨v, rfl, hv⟩ := rdvs_get hxs rfl
          obtain ⟨v', rfl, r1⟩ := rv.one
          obtain ⟨p, xs, rfl, h1, h2⟩ := rdv_lst sim r1 hv
          refine ⟨_, p, ys.map fun x => (⟨x.toArray⟩ : Str), rfl, rfl, .inl (.inl (by rw [← h2.strs e]; exact h1)), ?_, hp.get sim ?_⟩
          · have e1 : ((ys.map fun x => (⟨x.toArray⟩ : Str)).map (·.length)) = ys.map List.length := by
              rw [List.map_map]
              exact List.map_congr_left fun x _ => by simp [Str.length]
            rw [e1, List.length_map]
            simpa [Str.length, big] using hle
          · show V.str _ = V.str _
            rw [show Txt.join _ _ = Str.join _ _ from PySem.StrLaws.glued_eq_join _ _, joinS_eq]
        · cases hz
    · rename_i s l
      cases e : strsOf l with
      | none => rw [e] at hz; cases hz
      | some ys =>
        simp only [e, Option.bind_some] at hz
        split at hz
        · rename_i hle
          cases hz
          cases ra
          obtain ⟨v, rfl, hv⟩ := rdvs_get hxs rfl
          obtain ⟨v', rfl, r1⟩ := rv.one
          obtain ⟨p, xs, rfl, h1, h2⟩ := rdv_tup sim r1 hv
          refine ⟨_, p, ys.map fun x => (⟨x.toArray⟩ : Str), rfl, rfl, .inr (sim.sub.sqT (by rw [← h2.strs e]; exact h1)), ?_, hp.get sim ?_⟩
          · have e1 : ((ys.map fun x => (⟨x.toArray⟩ : Str)).map (·.length)) = ys.map List.length := by
              rw [List.map_map]
              exact List.map_congr_left fun x _ => by simp [Str.length]
            rw [e1, List.length_map]
            simpa [Str.length, big] using hle
          · show V.str _ = V.str _
            rw [show Txt.join _ _ = Str.join _ _ from PySem.StrLaws.glued_eq_join _ _, joinS_eq]
        · cases hz
    · cases hk
    · cases hk
    · cases hz
theorem meth_val {k : Mth} {x : Val} {vs : List Val} {x' : V} {vs' : List V} {Q : VK} (sim : Sim R H F m S) (rx : RepV R F m x x') (rv : RepVs R F m vs vs') (h : Post R W (RepV R) τ H F m (doMeth k x vs S) Q) : rMth R.K k x' vs' H Q := by
  unfold doMeth at h
  cases hm : k.mut with
  | true => rw [hm] at h; exact mut_val sim rx rv h
  | false =>
    rw [hm] at h
    cases hk : k.keeps with
    | true => rw [hk] at h; exact keep_val hk sim rx rv h
    | false => rw [hk] at h; exact read_val hk sim rx rv h
end
end Ev

end

section
set_option Elab.async false
set_option linter.all false
set_option maxRecDepth 100000
/-! Ev, part 8: what is walked; the texts that the small language stands for. -/
namespace Ev
open PySem PySem.Spec PyProof.Rows
open L2 (V Hp HO PE PT PS PSs PA PG PGs PI TE TT TA TS TG TGs TI It VK SqL SqT Rd Key upd upd_same upd_ne OpR CallR IxR SlR MtR MtM R2 tOp RelV Vals WX Takes Room FnOk Sp XK Ends rI rI0 CMul CDiv CPow KV Itl Itt Itr Its Vis Loc Gl)

/-! ### walks -/
/-- J walks the items of p while what stands stands -/
structure DWalk (R : RC) (F0 : Hp) (m0 : List Addr) (p : Src) (J : It) : Prop where
  goes : ∀ i H F m S, Sim R H F m S → Sub F0 F → (∃ t, m = m0 ++ t) → p.ck S → i < p.l.length → J.go i H
  stops : ∀ H F m S, Sim R H F m S → Sub F0 F → (∃ t, m = m0 ++ t) → p.ck S → J.stop p.l.length H
  yields : ∀ i H F m S x H', Sim R H F m S → Sub F0 F → (∃ t, m = m0 ++ t) → p.ck S → i < p.l.length → J.yld i H x H' → ∃ F' y, Step H F m H' F' m ∧ Sim R H' F' m S ∧ p.l[i]? = some y ∧ Rep R F' y x
abbrev relI (R : RC) : Hp → List Addr → Src → It → Prop := fun F m p J => DWalk R F m p J
section
variable (R : RC) (C : Ev.Cx) (W : WX)
def tI (e : Ite) : TI := fun τ H Q => ∃ σ S F m, Sim R H F m S ∧ RepS R F m σ τ ∧ Post R W (relI R) τ H F m (evI C e σ S) Q
end
theorem pi_weak {X : HCx} {tg e : Expr} {t t' : TI} (h : PI X tg e t) (w : ∀ σ H Q, t' σ H Q → t σ H Q) : PI X tg e t' := ⟨fun pins s σ H Q I q => h.run pins s σ H Q I (w σ H Q q)⟩
/-- a list, a tuple or a text -/
def iAny (K : PySem.W.Frag) (tl : TE) : TI := fun σ H Q => tl σ H fun x H1 => (∃ a xs, x = .ref a ∧ SqL K H1 a xs ∧ Q (Itl K a) H1) ∨ (∃ a xs, x = .ref a ∧ SqT K H1 a xs ∧ Q (Itt K a) H1) ∨ ∃ z, x = .str z ∧ Q (Its z) H1
theorem pi_any {X : HCx} {tg e : Expr} {te : TE} (he : PE X e te) : PI X tg e (iAny X.K te) := by
  refine ⟨fun pins s σ H Q I h => L2.thn (he.run pins s σ H _ I h) fun v s1 hv => ?_⟩
  obtain ⟨x, H1, I1, r1, q | q | q⟩ := hv
  · obtain ⟨a, xs, rfl, hq, q⟩ := q
    cases r1
    obtain ⟨its, rv, p, hz⟩ := I1.list hq
    exact wpAny_pyIter_list p.isList (L2.pi_one (tk := s1.toks) I1 _ (L2.turn_list a _) ⟨_, Heap.get?_push_size _ rfl, rfl, rfl⟩ q)
  · obtain ⟨a, xs, rfl, hq, q⟩ := q
    cases r1
    obtain ⟨its, rv, p, hz⟩ := I1.tuple hq
    exact wpAny_pyIter_tuple (show s1.heap.IsTuple a its.toArray from p) (L2.pi_one (tk := s1.toks) I1 _ (L2.turn_tuple a _) ⟨_, Heap.get?_push_size _ rfl, rfl, rfl⟩ q)
  · obtain ⟨z, rfl, q⟩ := q
    obtain ⟨t, rfl⟩ := r1
    cases ha : z.cps.all (· < 128)
    · exact wpAny_pyIter_wide ha (L2.pi_one (tk := s1.toks) I1 _ (L2.turn_str _ z t "str_iterator" (.inr rfl)) ⟨_, Heap.get?_push_size _ rfl, rfl, rfl⟩ q)
    · exact wpAny_pyIter_ascii ha (L2.pi_one (tk := s1.toks) I1 _ (L2.turn_str _ z t "str_ascii_iterator" (.inl rfl)) ⟨_, Heap.get?_push_size _ rfl, rfl, rfl⟩ q)
section
variable {R : RC} {F0 : Hp} {m0 : List Addr}
theorem walk_lst {l : List D} {a : Addr} {xs : List V} (h : Rd F0 a (.lst xs)) (r : Reps R F0 l xs) : DWalk R F0 m0 ⟨l, fun _ => True⟩ (Itl R.K a) where
  goes := fun i H F m S sim sF _ _ hi => by
    have hi' : i < l.length := hi
    have h' : SqL R.K H a xs := .inl (sim.sub.rd (sF.rd h))
    exact ⟨xs, xs[i]'(by rw [← r.length]; exact hi'), h', List.getElem?_eq_getElem _⟩
  stops := fun H F m S sim sF _ _ => ⟨xs, .inl (sim.sub.rd (sF.rd h)), by show xs.length ≤ l.length; rw [r.length]; exact Nat.le_refl _⟩
  yields := fun i H F m S x H' sim sF _ _ hi y => by
    have hi' : i < l.length := hi
    obtain ⟨rfl, y⟩ := y
    have e := y xs (.inl (sim.sub.rd (sF.rd h)))
    obtain ⟨d, ed, rd⟩ := r.get' e
    exact ⟨F, d, Step.refl .., sim, ed, Rep.mono sF rd⟩
theorem walk_cell {l : List D} {a : Addr} {n : Nat} (hm : m0[n]? = some a) : DWalk R F0 m0 ⟨l, fun S => S[n]? = some (.lst l)⟩ (Itl R.K a) where
  goes := fun i H F m S sim sF hp ck hi => by
    have hi' : i < l.length := hi
    obtain ⟨t, rfl⟩ := hp
    have hm' : (m0 ++ t)[n]? = some a := by
      rw [List.getElem?_append_left (by
        rcases Nat.lt_or_ge n m0.length with q | q
        · exact q
        · rw [List.getElem?_eq_none q] at hm; cases hm)]
      exact hm
    obtain ⟨_, xs, h1, h2⟩ := sim.cell n _ a ck hm'
    exact ⟨xs, xs[i]'(by rw [← h2.length]; exact hi'), .inl (.inl h1), List.getElem?_eq_getElem _⟩
  stops := fun H F m S sim sF hp ck => by
    obtain ⟨t, rfl⟩ := hp
    have hm' : (m0 ++ t)[n]? = some a := by
      rw [List.getElem?_append_left (by
        rcases Nat.lt_or_ge n m0.length with q | q
        · exact q
        · rw [List.getElem?_eq_none q] at hm; cases hm)]
      exact hm
    obtain ⟨_, xs, h1, h2⟩ := sim.cell n _ a ck hm'
    exact ⟨xs, .inl (.inl h1), by show xs.length ≤ l.length; rw [h2.length]; exact Nat.le_refl _⟩
  yields := fun i H F m S x H' sim sF hp ck hi y => by
    have hi' : i < l.length := hi
    obtain ⟨t, rfl⟩ := hp
    have hm' : (m0 ++ t)[n]? = some a := by
      rw [List.getElem?_append_left (by
        rcases Nat.lt_or_ge n m0.length with q | q
        · exact q
        · rw [List.getElem?_eq_none q] at hm; cases hm)]
      exact hm
    obtain ⟨_, xs, h1, h2⟩ := sim.cell n _ a ck hm'
    obtain ⟨rfl, y⟩ := y
    have e := y xs (.inl (.inl h1))
    obtain ⟨d, ed, rd⟩ := h2.get' e
    exact ⟨F, d, Step.refl .., sim, ed, rd⟩
theorem walk_tup {l : List D} {a : Addr} {xs : List V} (h : SqT R.K F0 a xs) (r : Reps R F0 l xs) : DWalk R F0 m0 ⟨l, fun _ => True⟩ (Itt R.K a) where
  goes := fun i H F m S sim sF _ _ hi => by
    have hi' : i < l.length := hi
    exact ⟨xs, xs[i]'(by rw [← r.length]; exact hi'), sim.sub.sqT (sF.sqT h), List.getElem?_eq_getElem _⟩
  stops := fun H F m S sim sF _ _ => ⟨xs, sim.sub.sqT (sF.sqT h), by show xs.length ≤ l.length; rw [r.length]; exact Nat.le_refl _⟩
  yields := fun i H F m S x H' sim sF _ _ hi y => by
    obtain ⟨rfl, y⟩ := y
    obtain ⟨d, ed, rd⟩ := r.get' (y xs (sim.sub.sqT (sF.sqT h)))
    exact ⟨F, d, Step.refl .., sim, ed, Rep.mono sF rd⟩
theorem walk_str {t : List Nat} : DWalk R F0 m0 ⟨t.map fun c => .str [c], fun _ => True⟩ (Its ⟨t.toArray⟩) where
  goes := fun i H F m S sim sF _ _ hi => by
    have hi' : i < (t.map fun c => D.str [c]).length := hi
    show i < t.toArray.size
    simpa using hi'
  stops := fun H F m S sim sF _ _ => by show t.toArray.size ≤ (t.map fun c => D.str [c]).length; simp
  yields := fun i H F m S x H' sim sF _ _ hi y => by
    obtain ⟨rfl, c, e, rfl⟩ := y
    refine ⟨F, .str [c], Step.refl .., sim, ?_, rfl⟩
    show (t.map fun c => D.str [c])[i]? = some (.str [c])
    rw [List.getElem?_map, show t[i]? = some c by simpa using e]
    rfl
theorem walk_range {i j : Int} {l : List D} (e : rangeL i j = some l) : (-(2 ^ 62) ≤ i ∧ i < 2 ^ 62 ∧ -(2 ^ 62) ≤ j ∧ j < 2 ^ 62) ∧ DWalk R F0 m0 ⟨l, fun _ => True⟩ (Itr i (j - i).toNat) := by
  unfold rangeL at e
  split at e
  · rename_i h
    cases e
    refine ⟨h, fun k H F m S sim sF _ _ hk => ?_, fun H F m S sim sF _ _ => ?_, fun k H F m S x H' sim sF _ _ hk y => ?_⟩
    · have hk' : k < ((List.range (j - i).toNat).map fun (k : Nat) => D.int (i + k)).length := hk
      show k < (j - i).toNat
      simpa using hk'
    · show (j - i).toNat ≤ ((List.range (j - i).toNat).map fun (k : Nat) => D.int (i + k)).length
      simp
    · have hk' : k < ((List.range (j - i).toNat).map fun (k : Nat) => D.int (i + k)).length := hk
      obtain ⟨rfl, rfl⟩ := y
      refine ⟨F, .int (i + k), Step.refl .., sim, ?_, rfl⟩
      show ((List.range (j - i).toNat).map fun (k : Nat) => D.int (i + k))[k]? = _
      rw [List.getElem?_map, List.getElem?_range (by simpa using hk')]
      rfl
  · cases e
end
end Ev

end

section
set_option Elab.async false
set_option linter.all false
set_option maxRecDepth 100000
/-! Ev, part 9: which text an expression of the small language stands for. -/
namespace Ev
open PySem PySem.Spec PyProof.Rows
open L2 (V Hp HO PE PT PS PSs PA PG PGs PI TE TT TA TS TG TGs TI It VK SqL SqT Rd Key upd upd_same upd_ne OpR CallR IxR SlR MtR MtM R2 tOp RelV Vals WX Takes Room FnOk Sp XK Ends rI rI0 CMul CDiv CPow KV Itl Itt Itr Its Vis Loc Gl)

/-- the fields' names -/
def fldL : List Str := ["at", "most", "outcome", "contents", "rows", "world", "known", "told", "asker", "most_steps", "most_open", "cells", "steps", "opened", "kept", "many", "tries", "outcomes", "books", "traces", "keep", "earlier", "has", "best"]
def fldN (k : Nat) : Str := match fldL[k]? with
  | some x => x
  | none => ⟨#[k + 1000]⟩
/-- how many fields have names -/
def nFld : Nat := 24
theorem fldL_ok : fldL.Nodup ∧ (∀ x ∈ fldL, 2 ≤ x.length) := by decide +kernel
theorem fldN_inj {a b : Nat} (h : fldN a = fldN b) : a = b := by
  unfold fldN at h
  cases ha : fldL[a]? with
  | some x =>
    rw [ha] at h
    cases hb : fldL[b]? with
    | some y =>
      rw [hb] at h
      have h : x = y := h
      subst h
      exact L2.nodup_ix fldL_ok.1 ha hb
    | none =>
      rw [hb] at h
      have h : x = ⟨#[b + 1000]⟩ := h
      have := fldL_ok.2 x (List.mem_of_getElem? ha)
      rw [h] at this
      exact absurd this (by show ¬ 2 ≤ 1; decide)
  | none =>
    rw [ha] at h
    cases hb : fldL[b]? with
    | some y =>
      rw [hb] at h
      have h : ⟨#[a + 1000]⟩ = y := h
      have := fldL_ok.2 y (List.mem_of_getElem? hb)
      rw [← h] at this
      exact absurd this (by show ¬ 2 ≤ 1; decide)
    | none =>
      rw [hb] at h
      have h : (⟨#[a + 1000]⟩ : Str) = ⟨#[b + 1000]⟩ := h
      simp at h
      omega
/-- an own error's class: its name, what it is below (itself too), its field -/
structure EC where
  x : Str
  up : List Nat
  fld : Option Nat
/-- the names of a def's slots, of the module's defs (with the number of their parameters) and constants, the built-in names that the module leaves alone -/
structure Nm where
  N : List Str
  fns : Nat → Option (Str × Nat)
  glos : Nat → Option Str
  gdcs : Nat → Option Str
  blts : List Str
  ecs : List EC
  hot : Bool := false
/-- the same, in an except suite: no own defs are called there -/
def Nm.heat (nm : Nm) : Nm := { nm with fns := fun _ => none, hot := true }

/-! ### views of texts -/
def asName : Expr → Option Str
  | .Name x _ => some x
  | _ => none
theorem asName_inv {e : Expr} {x : Str} (h : asName e = some x) : ∃ p, e = .Name x p := by
  cases e <;> simp [asName] at h
  subst h; exact ⟨_, rfl⟩
def asBin : Expr → Option (Expr × Operator × Expr)
  | .BinOp a o b _ => some (a, o, b)
  | _ => none
theorem asBin_inv {e a b : Expr} {o : Operator} (h : asBin e = some (a, o, b)) : ∃ p, e = .BinOp a o b p := by
  cases e <;> simp [asBin] at h
  obtain ⟨rfl, rfl, rfl⟩ := h; exact ⟨_, rfl⟩
def asUn : Expr → Option (UnaryOp × Expr)
  | .UnaryOp o a _ => some (o, a)
  | _ => none
theorem asUn_inv {e a : Expr} {o : UnaryOp} (h : asUn e = some (o, a)) : ∃ p, e = .UnaryOp o a p := by
  cases e <;> simp [asUn] at h
  obtain ⟨rfl, rfl⟩ := h; exact ⟨_, rfl⟩
def asCmp1 : Expr → Option (Expr × CmpOp × Expr)
  | .Compare a [o] [b] _ => some (a, o, b)
  | _ => none
theorem asCmp1_inv {e a b : Expr} {o : CmpOp} (h : asCmp1 e = some (a, o, b)) : ∃ p, e = .Compare a [o] [b] p := by
  unfold asCmp1 at h
  split at h
  · cases h; exact ⟨_, rfl⟩
  · cases h
def asCmp2 : Expr → Option (Expr × CmpOp × CmpOp × Expr × Expr)
  | .Compare a [o, q] [b, c] _ => some (a, o, q, b, c)
  | _ => none
theorem asCmp2_inv {e a b c : Expr} {o q : CmpOp} (h : asCmp2 e = some (a, o, q, b, c)) : ∃ p, e = .Compare a [o, q] [b, c] p := by
  unfold asCmp2 at h
  split at h
  · cases h; exact ⟨_, rfl⟩
  · cases h
def asBool : Expr → Option (BoolOp × List Expr)
  | .BoolOp o l _ => some (o, l)
  | _ => none
theorem asBool_inv {e : Expr} {o : BoolOp} {l : List Expr} (h : asBool e = some (o, l)) : ∃ p, e = .BoolOp o l p := by
  cases e <;> simp [asBool] at h
  obtain ⟨rfl, rfl⟩ := h; exact ⟨_, rfl⟩
def asIf : Expr → Option (Expr × Expr × Expr)
  | .IfExp c a b _ => some (c, a, b)
  | _ => none
theorem asIf_inv {e c a b : Expr} (h : asIf e = some (c, a, b)) : ∃ p, e = .IfExp c a b p := by
  cases e <;> simp [asIf] at h
  obtain ⟨rfl, rfl, rfl⟩ := h; exact ⟨_, rfl⟩
def asTup : Expr → Option (List Expr)
  | .Tuple l _ _ => some l
  | _ => none
theorem asTup_inv {e : Expr} {l : List Expr} (h : asTup e = some l) : ∃ k p, e = .Tuple l k p := by
  cases e <;> simp [asTup] at h
  subst h; exact ⟨_, _, rfl⟩
def asLst : Expr → Option (List Expr)
  | .List l _ => some l
  | _ => none
theorem asLst_inv {e : Expr} {l : List Expr} (h : asLst e = some l) : ∃ p, e = .List l p := by
  cases e <;> simp [asLst] at h
  subst h; exact ⟨_, rfl⟩
def asSub : Expr → Option (Expr × Expr)
  | .Subscript a b _ => some (a, b)
  | _ => none
theorem asSub_inv {e a b : Expr} (h : asSub e = some (a, b)) : ∃ p, e = .Subscript a b p := by
  cases e <;> simp [asSub] at h
  obtain ⟨rfl, rfl⟩ := h; exact ⟨_, rfl⟩
def asSlc : Expr → Option (Expr × Option Expr × Option Expr)
  | .Subscript a (.Slice lo hi none _) _ => some (a, lo, hi)
  | _ => none
theorem asSlc_inv {e a : Expr} {lo hi : Option Expr} (h : asSlc e = some (a, lo, hi)) : ∃ p q, e = .Subscript a (.Slice lo hi none q) p := by
  unfold asSlc at h
  split at h
  · cases h; exact ⟨_, _, rfl⟩
  · cases h
/-- f(..), f a name -/
def asCall : Expr → Option (Str × List Expr)
  | .Call (.Name x _) l [] _ => some (x, l)
  | _ => none
theorem asCall_inv {e : Expr} {x : Str} {l : List Expr} (h : asCall e = some (x, l)) : ∃ p q, e = .Call (.Name x q) l [] p := by
  unfold asCall at h
  split at h
  · cases h; exact ⟨_, _, rfl⟩
  · cases h
/-- o.n(..), on one line -/
def asMeth : Expr → Option (Expr × Str × List Expr)
  | .Call (.Attribute o n q) l [] p => if q.endLine == p.line then some (o, n, l) else none
  | _ => none
theorem asMeth_inv {e o : Expr} {n : Str} {l : List Expr} (h : asMeth e = some (o, n, l)) : ∃ p q, e = .Call (.Attribute o n q) l [] p ∧ (q.endLine == p.line) = true := by
  unfold asMeth at h
  split at h
  · split at h
    · cases h; exact ⟨_, _, rfl, by assumption⟩
    · cases h
  · cases h
def asLc : Expr → Option (Expr × Expr × Expr × List Expr × Scope)
  | .ListComp e [⟨t, i, c, 0⟩] s _ => some (e, t, i, c, s)
  | _ => none
theorem asLc_inv {a e t i : Expr} {c : List Expr} {s : Scope} (h : asLc a = some (e, t, i, c, s)) : ∃ p, a = .ListComp e [⟨t, i, c, 0⟩] s p := by
  unfold asLc at h
  split at h
  · cases h; exact ⟨_, rfl⟩
  · cases h
def asDct : Expr → Option (List (Option Expr) × List Expr)
  | .Dict k v _ => some (k, v)
  | _ => none
theorem asDct_inv {e : Expr} {k : List (Option Expr)} {v : List Expr} (h : asDct e = some (k, v)) : ∃ p, e = .Dict k v p := by
  cases e <;> simp [asDct] at h
  obtain ⟨rfl, rfl⟩ := h; exact ⟨_, rfl⟩
def veI : Nat := 1000
def asAttr : Expr → Option (Expr × Str)
  | .Attribute o n _ => some (o, n)
  | _ => none
theorem asAttr_inv {e o : Expr} {n : Str} (h : asAttr e = some (o, n)) : ∃ p, e = .Attribute o n p := by
  unfold asAttr at h
  split at h
  · cases h; exact ⟨_, rfl⟩
  · cases h
def noSlice : Expr → Bool
  | .Slice _ _ _ _ => false
  | _ => true
def noSet : Expr → Bool
  | .Set _ _ _ => false
  | _ => true
def noCall0 : Expr → Bool
  | .Call _ [] _ _ => false
  | _ => true
def noStar : List Expr → Bool
  | [] => true
  | .Starred _ _ :: _ => false
  | _ :: l => noStar l
/-- a test that is its value's truth -/
def plainT : Expr → Bool
  | .UnaryOp .Not _ _ => false
  | .BoolOp _ _ _ => false
  | .IfExp _ _ _ _ => false
  | .Compare _ _ _ _ => false
  | _ => true
theorem plainIx {b : Expr} (h : noSlice b = true) : L2.PlainIx b := by
  intro o i
  cases b <;> first | rfl | cases h
theorem noSet_marks {op : CmpOp} {b : Expr} (h : noSet b = true) : behindInMarks op b = false := by
  cases b <;> first | rfl | cases h
theorem noSet_fold {e : Expr} (h : noSet e = true) (env : Env) : ∀ x, foldedSetIterable e env x = pure x := by
  intro x
  cases e <;> first | rfl | cases h
theorem noCall_base {o : Expr} {n : Str} {env : Env} (h : noCall0 o = true) : attributeBase o n env (eval o env) = eval o env := by
  cases o with
  | Call f l k p =>
    cases l with
    | nil => cases h
    | cons a l => cases f <;> rfl
  | _ => rfl
theorem noStar_tl {e : Expr} {es : List Expr} (h : noStar (e :: es) = true) : noStar es = true := by
  cases e <;> first | exact h | cases h
theorem noStar_each {e : Expr} {es : List Expr} (env : Env) (h : noStar (e :: es) = true) : starEach (e :: es) env = (false, eval e env) :: starEach es env := by
  cases e <;> first | rfl | cases h
theorem noStar_any (env : Env) (pos : Pos) : ∀ {es : List Expr}, noStar es = true → (backTo pos (starEach es env)).any (·.1) = false
  | [], _ => rfl
  | e :: es, h => by
    rw [noStar_each env h]
    show (false || (backTo pos (starEach es env)).any (·.1)) = false
    rw [noStar_any env pos (noStar_tl h)]
    rfl
theorem noStar_all (env : Env) (pos : Pos) : ∀ {es : List Expr}, noStar es = true → (backTo pos (starEach es env)).all (fun x => !x.1) = true
  | [], _ => rfl
  | e :: es, h => by
    rw [noStar_each env h]
    show (true && (backTo pos (starEach es env)).all (fun x => !x.1)) = true
    rw [noStar_all env pos (noStar_tl h)]
    rfl
theorem plainT_ok {a : Expr} (h : plainT a = true) (env : Env) : ∀ whole, isTrue a env whole = (do let v ← whole; standAt a.pos; holding [v] (truthy v)) := by
  intro whole
  cases a with
  | UnaryOp o x p => cases o <;> first | rfl | cases h
  | BoolOp o l p => cases h
  | IfExp c x y p => cases h
  | Compare x o l p => cases h
  | _ => rfl

/-! ### matching -/
def visB (sc : Scope) (x : Str) : Bool := match sc.names.lookup x with
  | some .local => true
  | some .cell => true
  | some .free => true
  | _ => false
def locB (sc : Scope) (x : Str) : Bool := match sc.names.lookup x with
  | some .local => true
  | some .cell => true
  | _ => false
def lclB (sc : Scope) (x : Str) : Bool := match sc.names.lookup x with
  | some .local => true
  | _ => false
def glB (sc : Scope) (x : Str) : Bool := match sc.names.lookup x with
  | some .globalImplicit => true
  | _ => false
def mLit : D → Expr → Bool
  | .int i, .Constant (.int j) _ _ => decide (i = j)
  | .str s, .Constant (.str x) _ _ => decide (x = ⟨s.toArray⟩)
  | .bl b, .Constant (.bool c) _ _ => decide (b = c)
  | .non, .Constant .none _ _ => true
  | _, _ => false
def dbg : Str := "__debug__"
def cdt : Str := "__classdict__"
def nam : Str := "__name__"
def isn : Str := "isinstance"
def rng : Str := "range"
/-- the keys of a display -/
def mKs : List D → List (Option Expr) → Bool
  | [], l => match l with | [] => true | _ => false
  | k :: r, l => match l with
    | some e :: l => mLit k e && isK k && mKs r l
    | _ => false
def tyName : Ty → Option Str
  | .str => some "str" | .int => some "int" | .bool => some "bool" | .list => some "list" | .tuple => some "tuple" | .dict => some "dict" | .cls _ => none
section
variable (nm : Nm)
def mTy (sc : Scope) (t : Ty) (q : Expr) : Bool := match asName q with
  | some y => decide (tyName t = some y) && nm.blts.contains y && glB sc y
  | none => false
def mTys (sc : Scope) : List Ty → List Expr → Bool
  | [], l => match l with | [] => true | _ => false
  | t :: r, l => match l with
    | e :: l => mTy nm sc t e && mTys sc r l
    | [] => false
/-- what isinstance is asked for -/
def mTyE (sc : Scope) (ts : List Ty) (q : Expr) : Bool := match asTup q with
  | some l => mTys nm sc ts l && noStar l && decide (l.length ≤ 100)
  | none => (match ts with
    | [t] => mTy nm sc t q
    | _ => false)
/-- is the class below another one; veI: ValueError -/
def belowB (c t : Nat) : Bool := (t == veI) || (match nm.ecs[c]? with
  | some e => e.up.contains t
  | none => false)
def csOk (ts cs : List Nat) : Bool := (List.range nm.ecs.length).all fun c => cs.contains c == ts.any (belowB nm c)
/-- a class, by its name -/
def mCl (sc : Scope) (t : Nat) (q : Expr) : Bool := match asName q with
  | some y => glB sc y && !(y == dbg) && (if t == veI then decide (y = "ValueError") && nm.blts.contains y else match nm.ecs[t]? with
    | some e => decide (e.x = y)
    | none => false)
  | none => false
def mCls (sc : Scope) : List Nat → List Expr → Bool
  | [], l => match l with | [] => true | _ => false
  | t :: r, l => match l with
    | e :: l => mCl nm sc t e && mCls sc r l
    | [] => false
def mClE (sc : Scope) (ts : List Nat) (q : Expr) : Bool := match asTup q with
  | some l => mCls nm sc ts l && noStar l && decide (l.length ≤ 100)
  | none => (match ts with
    | [t] => mCl nm sc t q
    | _ => false)
def ownP (own : List Nat) : List (Str × Nat) := own.filterMap fun i => (nm.N[i]?).map fun x => (x, i)
mutual
def mG (sc : Scope) (fb : Str → Bool) : Tgt → Expr → Bool
  | .name i, a => match asName a with
    | some x => decide (nm.N[i]? = some x) && locB sc x && (fb x || lclB sc x)
    | none => false
  | .tup l, a => match asTup a with
    | some es => mGs sc fb l es && noStar es
    | none => false
termination_by structural t => t
def mGs (sc : Scope) (fb : Str → Bool) : List Tgt → List Expr → Bool
  | [], es => match es with | [] => true | _ => false
  | t :: l, es => match es with
    | e :: r => mG sc fb t e && mGs sc fb l r
    | [] => false
termination_by structural t => t
end
mutual
def mE : Exp → Scope → (Str → Bool) → Expr → Bool
  | .lit x, _, _, a => mLit x a
  | .var i, sc, _, a => match asName a with
    | some x => decide (nm.N[i]? = some x) && visB sc x && !(x == dbg) && !(x == cdt)
    | none => false
  | .glo g, sc, _, a => match asName a with
    | some x => decide (nm.glos g = some x) && glB sc x && !(x == dbg)
    | none => false
  | .bin o p q, sc, fb, a => match asBin a with
    | some (l, op, r) => decide (op = bop o) && mE p sc fb l && mE q sc fb r
    | none => false
  | .neg p, sc, fb, a => match asUn a with
    | some (o, l) => decide (o = .USub) && mE p sc fb l
    | none => false
  | .cmp o p q, sc, fb, a => match asCmp1 a with
    | some (l, op, r) => decide (op = cop o) && mE p sc fb l && mE q sc fb r && noSet r
    | none => false
  | .cmp2 o o2 p q s, sc, fb, a => match asCmp2 a with
    | some (l, op, op2, r, t) => decide (op = cop o) && decide (op2 = cop o2) && mE p sc fb l && mE q sc fb r && mE s sc fb t && noSet t
    | none => false
  | .and l, sc, fb, a => match asBool a with
    | some (o, es) => decide (o = .And) && mEs l sc fb es && !l.isEmpty
    | none => false
  | .or l, sc, fb, a => match asBool a with
    | some (o, es) => decide (o = .Or) && mEs l sc fb es && !l.isEmpty
    | none => false
  | .not p, sc, fb, a => match asUn a with
    | some (o, l) => decide (o = .Not) && mE p sc fb l
    | none => false
  | .ife c p q, sc, fb, a => match asIf a with
    | some (t, x, y) => mT c sc fb t && mE p sc fb x && mE q sc fb y
    | none => false
  | .tup es, sc, fb, a => match asTup a with
    | some l => mEs es sc fb l && noStar l
    | none => false
  | .lst es, sc, fb, a => match asLst a with
    | some l => mEs es sc fb l && noStar l
    | none => false
  | .dct ks es, sc, fb, a => match asDct a with
    | some (k, v) => mKs ks k && mEs es sc fb v && decide (k.length = v.length) && decide (k.length ≤ 15)
    | none => false
  | .dcv k v, sc, fb, a => match asDct a with
    | some ([some x], [y]) => mE k sc fb x && mE v sc fb y
    | _ => false
  | .gix g i, sc, fb, a => match asSub a with
    | some (x, y) => (match asName x with
      | some z => decide (nm.gdcs g = some z) && glB sc z && !(z == dbg) && mE i sc fb y && noSlice y
      | none => false)
    | none => false
  | .sub p i, sc, fb, a => match asSub a with
    | some (x, y) => mE p sc fb x && mE i sc fb y && noSlice y
    | none => false
  | .slc p lo hi, sc, fb, a => match asSlc a with
    | some (x, y, z) => mE p sc fb x && mO lo sc fb y && mO hi sc fb z
    | none => false
  | .call f es, sc, fb, a => match asCall a with
    | some (x, l) => decide (nm.fns f = some (x, es.length)) && glB sc x && !(x == dbg) && mEs es sc fb l && noStar l
    | none => false
  | .blt b es, sc, fb, a => match asCall a with
    | some (x, l) => decide (bltName b = some x) && nm.blts.contains x && glB sc x && mEs es sc fb l && noStar l && !l.isEmpty && (!nm.hot || !needC b)
    | none => false
  | .meth m o es, sc, fb, a => match asMeth a with
    | some (x, n, l) => decide (mthN m = some n) && mE o sc fb x && mEs es sc fb l && noStar l && noCall0 x && decide (l.length < 30)
    | none => false
  | .isi e ts, sc, fb, a => match asCall a with
    | some (x, [p, q]) => decide (x = isn) && nm.blts.contains x && glB sc x && mE e sc fb p && noStar [p, q] && mTyE nm sc ts q
    | _ => false
  | .isx e ts cs, sc, fb, a => match asCall a with
    | some (x, [p, q]) => decide (x = isn) && nm.blts.contains x && glB sc x && mE e sc fb p && noStar [p, q] && mClE nm sc ts q && csOk nm ts cs
    | _ => false
  | .att e f, sc, fb, a => match asAttr a with
    | some (o, y) => mE e sc fb o && decide (y = fldN f) && decide (f < nFld) && noCall0 o
    | none => false
  | .lc e t own it ifs, sc, fb, a => match asLc a with
    | some (x, tg, i, c, s) => mI it sc fb i && noSet i && L2.blkC nm.N sc s (ownP nm own) && decide ((ownP nm own).map (·.2) = own) && (slots t).all own.contains &&
        mG nm (L2.relS s sc) (fun x => s.names.lookup x == some .cell) t tg && mTs ifs (L2.relS s sc) (fun x => s.names.lookup x == some .cell) c && decide (c.length ≤ 1) && mE e (L2.relS s sc) (fun x => s.names.lookup x == some .cell) x && !nm.hot
    | none => false
termination_by structural e => e
def mT : Tst → Scope → (Str → Bool) → Expr → Bool
  | .of e, sc, fb, a => mE e sc fb a && plainT a
  | .gin n g i, sc, fb, a => match asCmp1 a with
    | some (y, op, x) => (match asName x with
      | some z => decide (op = if n then .NotIn else .In) && decide (nm.gdcs g = some z) && glB sc z && !(z == dbg) && mE i sc fb y
      | none => false)
    | none => false
  | .cmp o p q, sc, fb, a => match asCmp1 a with
    | some (l, op, r) => decide (op = cop o) && mE p sc fb l && mE q sc fb r && noSet r
    | none => false
  | .cmp2 o o2 p q s, sc, fb, a => match asCmp2 a with
    | some (l, op, op2, r, t) => decide (op = cop o) && decide (op2 = cop o2) && mE p sc fb l && mE q sc fb r && mE s sc fb t && noSet t
    | none => false
  | .and l, sc, fb, a => match asBool a with
    | some (o, es) => decide (o = .And) && mTs l sc fb es && !l.isEmpty
    | none => false
  | .or l, sc, fb, a => match asBool a with
    | some (o, es) => decide (o = .Or) && mTs l sc fb es && !l.isEmpty
    | none => false
  | .not p, sc, fb, a => match asUn a with
    | some (o, l) => decide (o = .Not) && mT p sc fb l
    | none => false
termination_by structural e => e
def mTs : List Tst → Scope → (Str → Bool) → List Expr → Bool
  | [], _, _, es => match es with | [] => true | _ => false
  | t :: l, sc, fb, es => match es with
    | e :: r => mT t sc fb e && mTs l sc fb r
    | [] => false
termination_by structural e => e
def mEs : List Exp → Scope → (Str → Bool) → List Expr → Bool
  | [], _, _, es => match es with | [] => true | _ => false
  | t :: l, sc, fb, es => match es with
    | e :: r => mE t sc fb e && mEs l sc fb r
    | [] => false
termination_by structural e => e
def mO : Option Exp → Scope → (Str → Bool) → Option Expr → Bool
  | none, _, _, o => match o with | none => true | some _ => false
  | some t, sc, fb, o => match o with
    | some e => mE t sc fb e
    | none => false
termination_by structural e => e
def mI : Ite → Scope → (Str → Bool) → Expr → Bool
  | .of e, sc, fb, a => mE e sc fb a
  | .range1 e, sc, fb, a => match asCall a with
    | some (x, [p]) => decide (x = rng) && nm.blts.contains x && glB sc x && mE e sc fb p && noStar [p]
    | _ => false
  | .range2 e f, sc, fb, a => match asCall a with
    | some (x, [p, q]) => decide (x = rng) && nm.blts.contains x && glB sc x && mE e sc fb p && mE f sc fb q && noStar [p, q]
    | _ => false
  | .enum _, _, _, _ => false
  | .zip _ _, _, _, _ => false
  | .rev _, _, _, _ => false
termination_by structural e => e
end
end
end Ev

end

section
set_option Elab.async false
set_option linter.all false
set_option maxRecDepth 100000
set_option maxHeartbeats 2000000
/-! Ev, part Low: errors with one field, made. -/
namespace Ev
open PySem PySem.Spec PyProof.Rows PySem.W PySem.Calls PySem.HandSPX
theorem one_size (v : Value) : [v].length ≤ sizeLine := by
  rw [sizeLine_eq]
  exact (by decide : 1 ≤ 16777216)
theorem ldC {M : Model} {s : Shared} {name : Str} {scope : Scope} {L a : Addr} {cd : Value} {m : Str → Option Value} {x : Str} {pos : Pos} {v : Value} {Q : Value → Shared → Prop} {A : Around} {E : Value → Shared → Prop} (hn : s.heap.Ns L m) (hv : m x = some v) (h : Q v s)
    (hk : scope.kind = .function := by rfl) (hl : (envOfC name scope L a cd).kindOf x = some .local := by rfl) (hd : (x == ("__debug__" : Str)) = false := by decide) :
    wpAny M A (eval (.Name x pos) (envOfC name scope L a cd)) Q E s := wpAny_Name (wpAny_loadName_local hk hl hn hv h) hd
/-- what the written part says of an error's class, but for its __init__ -/
structure LowC (K : Frag) (C : Addr) : Prop where
  cls : ∃ nm q N bs bm sn sub ab col dd k0 k1 k2 k3 k5, K.lookup C = some (excClassObj nm q C N bs bm true sn sub ab col dd k0 k1 k2 k3 k5 "ValueError.__new__") ∧ refsVE bm = true
  sa : findIn K (.ref C) "__setattr__" = some (some (.builtin "object.__setattr__"))
  kC : keepIn K (.ref C) = true
  exC : subIn K (.ref C) (.type "BaseException") = some true
  tyC : typeIn K (.ref C) = some (.type "type")
/-- what __init__ leaves of a fresh exception at x -/
structure InitEnd (h h' : Heap) (x C dx t1 : Addr) (f : Str) (v : Value) : Prop where
  keep : ∀ b o, b ≠ x → h.get? b = some o → h'.get? b = some o
  obj : h'.get? x = some { cls := .ref C, dict := some dx, data := .fields #[.ref t1, .none, .none, .none, .bool false, .none] }
  dbig : h.objs.size ≤ dx
  dne : dx ≠ x
  ns : h'.Ns1 dx (fun y => if y = f then some v else none)
/-- a made one -/
structure OwnMade (h h' : Heap) (e C d : Addr) (f : Str) (v : Value) : Prop where
  keep : ∀ b o, h.get? b = some o → h'.get? b = some o
  new : h.objs.size ≤ e
  obj : ∃ oe vs, h'.get? e = some oe ∧ oe.cls = .ref C ∧ oe.dict = some d ∧ oe.data = .fields vs ∧ vs[1]? = some .none
  dbig : h.objs.size ≤ d
  dne : d ≠ e
  ns : h'.Ns1 d (fun y => if y = f then some v else none)
theorem relO_low {f0 : Str} {v : L2.V} {v' : Value} (r : L2.RelV v v') (f : Str) : L2.RelO (List.lookup f [(f0, v)]) (if f = f0 then some v' else none) := by
  by_cases hw : f = f0
  · subst hw
    rw [if_pos rfl]
    have q : List.lookup f [(f, v)] = some v := by simp [List.lookup]
    rw [q]
    exact r
  · rw [if_neg hw]
    have qw : (f == f0) = false := by simpa using hw
    have q2 : List.lookup f [(f0, v)] = none := by simp [List.lookup, qw]
    rw [q2]
    trivial

namespace Low_at
def iA (p1 p2 : Pos) : Arguments := { posonlyargs := [], args := [{ arg := "self", annotation := none, pos := p1 }, { arg := "at", annotation := none, pos := p2 }], vararg := none, kwonlyargs := [], kw_defaults := [], kwarg := none, defaults := [] }
def iB (q1 q2 q3 q4 : Pos) : List Stmt := [.Assign [.Attribute (.Name "self" q1) "at" q2] (.Name "at" q3) q4]
def iS : Scope := { kind := .function, names := [(PySem.Str.ofString "self", .local), (PySem.Str.ofString "at", .local)], isGenerator := false, isCoroutine := false, more := [] }
structure Txt (K : Frag) (C fI : Addr) : Prop extends LowC K C where
  noN : findIn K (.ref C) "at" = some none
  iC : findIn K (.ref C) "__init__" = some (some (.ref fI))
  tC : typeIn K (.ref fI) = some (.type "function")
  fn : ∃ (oc : Value) (od : Option Addr) (qual : Str) (kV doc pm : Value) (an : Option Addr) (cdv ct : Value) (osl : Array (Option Value)) (p1 p2 q1 q2 q3 q4 : Pos),
    K.lookup fI = some ⟨oc, od, .func (fnOf "__init__" qual (iA p1 p2) (iB q1 q2 q3 q4) iS .none kV doc pm an cdv ct), osl⟩ ∧ codeIn K cdv qual = true
section
variable {prog : Program} {w : World} {A : Around} {E : Value → Shared → Prop} {R : Result → Shared → Prop} {s : Shared} {K : Frag} {mg : Str → Option Value} {C fI : Addr}
theorem init (T : Txt K C fI) {x t0 : Addr} {v : Value} (X : K.In s.heap) (hlim : s.heap.NoLimit) (hx : s.heap.get? x = some (excO C t0)) (hnx : K.lookup x = none) (hroom : A.depth < recursionLimit)
    (hq : ∀ h' tk dx, InitEnd s.heap h' x C dx t0 "at" v → R (.ok (.ret .none)) { s with heap := h', toks := tk }) :
    codeAny (model prog w) A (.call (.ref fI) ⟨[.ref x, v], []⟩) R s := by
  obtain ⟨oc, od, qual, kV, doc, pm, an, cdv, ct, osl, p1, p2, q1, q2, q3, q4, ho, hcd⟩ := T.fn
  obtain ⟨nm, q, N, bs, bm, sn, sub, ab, col, dd, k0, k1, k2, k3, k5, hC, hbm⟩ := T.cls
  have hcl : clsIn K C = some { name := nm, bases := bs, mro := .ref C :: bm, ns := N, qualname := q, hasDict := true, slotNames := sn, subclasses := sub, abstract := ab, collection := col, hasDel := false } := by unfold clsIn; rw [hC] <;> rfl
  refine Att.call_fn (binds := [("self", .ref x), ("at", v)]) X hlim ho hcd hroom (BindsTo.of_eq (by first | rfl | with_unfolding_all rfl)) (by first | rfl | decide | with_unfolding_all rfl) (fun s₁ IC => ?_) rfl rfl rfl
  obtain ⟨h₁, tk₁, rfl⟩ := IC.toInCall.same
  have k : ∀ b o, s.heap.get? b = some o → h₁.get? b = some o := IC.toInCall.keep
  have hn := IC.toInCall.ns
  have X₁ : K.In h₁ := X.keeps k
  have hx₁ := k _ _ hx
  show wpAny _ _ (execs _ _) _ _ _
  refine wpAny_execs_cons (plainObj_wpAny_Assign_Attribute ?_)
  refine ldC (v := v) hn (by first | rfl | with_unfolding_all rfl | kernel_rfl) (ldC (v := .ref x) hn (by first | rfl | with_unfolding_all rfl | kernel_rfl) ?_)
  refine set_plain X₁ (ox := excO C t0) (od := none) ⟨hx₁, rfl, rfl, trivial⟩ T.sa ?_
  refine exc_osa X₁ hx₁ hcl (show refsVE (.ref C :: bm) = true from hbm) rfl T.noN (fun h₃ tk₃ dx k₃ dn dne hx₃ hn₃ => ?_)
  show wpAny _ _ (execs _ _) _ _ _
  have z : s.heap.objs.size < h₁.objs.size := hn.lt
  exact wpAny_execs_nil (hq h₃ tk₃ dx ⟨fun b o hb e => k₃ b o hb (k b o e), hx₃, Nat.le_of_lt (Nat.lt_of_lt_of_le z dn), dne, hn₃⟩)
theorem made (T : Txt K C fI) {v : Value} (X : K.In s.heap) (hlim : s.heap.NoLimit) (hroom : A.depth + 1 < recursionLimit)
    (hq : ∀ h' tk e d, OwnMade s.heap h' e C d "at" v → R (.ok (.ret (.ref e))) { s with heap := h', toks := tk }) :
    codeAny (model prog w) A (.call (.ref C) ⟨[v], []⟩) R s := by
  obtain ⟨nm, q, N, bs, bm, sn, sub, ab, col, dd, k0, k1, k2, k3, k5, hC, hbm⟩ := T.cls
  obtain ⟨hp, g, dr, tk, os⟩ := s
  have k : ∀ b o, hp.get? b = some o → ((hp.push (kdv_tup [v])).push (excO C hp.objs.size)).get? b = some o := fun b o e => Heap.get?_push_of_some _ (Heap.get?_push_of_some _ e)
  have hget : ((hp.push (kdv_tup [v])).push (excO C hp.objs.size)).get? (hp.objs.size + 1) = some (excO C hp.objs.size) := by heap_get
  have hnx : K.lookup (hp.objs.size + 1) = none := by
    cases e : K.lookup (hp.objs.size + 1) with
    | none => rfl
    | some o =>
      have z : hp.get? (hp.objs.size + 1) = some o := X _ _ e
      exact absurd (Nat.lt_of_succ_lt (Heap.lt_size z)) (Nat.lt_irrefl _)
  refine call_own F.excBase_ValueError (fun X => refsVE_contains X bm hbm) (X _ _ hC) (looks_findIn X T.iC) (fun self => bind_fn X self T.tC) (one_size v) ?_
  refine init (s := ⟨(hp.push (kdv_tup [v])).push (excO C hp.objs.size), g, dr, tk, os⟩) T (X.keeps k) (hlim.keeps k) hget hnx ?_ fun h' tk' dx ⟨k', hx, dn, dne, hns⟩ => ?_
  · show A.depth + 1 < recursionLimit
    exact hroom
  · have old : ∀ b o, hp.get? b = some o → h'.get? b = some o := fun b o e => k' b o (Nat.ne_of_lt (Nat.lt_succ_of_lt (Heap.lt_size e))) (k b o e)
    have z : hp.objs.size + 1 + 1 ≤ dx := by
      first
        | (simpa only [Heap.size_push] using dn)
        | exact dn
        | (have q := dn; rw [Heap.size_push, Heap.size_push] at q; exact q)
    exact ⟨rfl, hq h' tk' (hp.objs.size + 1) dx ⟨old, Nat.le_succ _, ⟨_, _, hx, rfl, rfl, rfl, rfl⟩, Nat.le_trans (Nat.le_trans (Nat.le_succ _) (Nat.le_succ _)) z, dne, hns⟩⟩
end
end Low_at

namespace Low_most
def iA (p1 p2 : Pos) : Arguments := { posonlyargs := [], args := [{ arg := "self", annotation := none, pos := p1 }, { arg := "most", annotation := none, pos := p2 }], vararg := none, kwonlyargs := [], kw_defaults := [], kwarg := none, defaults := [] }
def iB (q1 q2 q3 q4 : Pos) : List Stmt := [.Assign [.Attribute (.Name "self" q1) "most" q2] (.Name "most" q3) q4]
def iS : Scope := { kind := .function, names := [(PySem.Str.ofString "self", .local), (PySem.Str.ofString "most", .local)], isGenerator := false, isCoroutine := false, more := [] }
structure Txt (K : Frag) (C fI : Addr) : Prop extends LowC K C where
  noN : findIn K (.ref C) "most" = some none
  iC : findIn K (.ref C) "__init__" = some (some (.ref fI))
  tC : typeIn K (.ref fI) = some (.type "function")
  fn : ∃ (oc : Value) (od : Option Addr) (qual : Str) (kV doc pm : Value) (an : Option Addr) (cdv ct : Value) (osl : Array (Option Value)) (p1 p2 q1 q2 q3 q4 : Pos),
    K.lookup fI = some ⟨oc, od, .func (fnOf "__init__" qual (iA p1 p2) (iB q1 q2 q3 q4) iS .none kV doc pm an cdv ct), osl⟩ ∧ codeIn K cdv qual = true
section
variable {prog : Program} {w : World} {A : Around} {E : Value → Shared → Prop} {R : Result → Shared → Prop} {s : Shared} {K : Frag} {mg : Str → Option Value} {C fI : Addr}
theorem init (T : Txt K C fI) {x t0 : Addr} {v : Value} (X : K.In s.heap) (hlim : s.heap.NoLimit) (hx : s.heap.get? x = some (excO C t0)) (hnx : K.lookup x = none) (hroom : A.depth < recursionLimit)
    (hq : ∀ h' tk dx, InitEnd s.heap h' x C dx t0 "most" v → R (.ok (.ret .none)) { s with heap := h', toks := tk }) :
    codeAny (model prog w) A (.call (.ref fI) ⟨[.ref x, v], []⟩) R s := by
  obtain ⟨oc, od, qual, kV, doc, pm, an, cdv, ct, osl, p1, p2, q1, q2, q3, q4, ho, hcd⟩ := T.fn
  obtain ⟨nm, q, N, bs, bm, sn, sub, ab, col, dd, k0, k1, k2, k3, k5, hC, hbm⟩ := T.cls
  have hcl : clsIn K C = some { name := nm, bases := bs, mro := .ref C :: bm, ns := N, qualname := q, hasDict := true, slotNames := sn, subclasses := sub, abstract := ab, collection := col, hasDel := false } := by unfold clsIn; rw [hC] <;> rfl
  refine Att.call_fn (binds := [("self", .ref x), ("most", v)]) X hlim ho hcd hroom (BindsTo.of_eq (by first | rfl | with_unfolding_all rfl)) (by first | rfl | decide | with_unfolding_all rfl) (fun s₁ IC => ?_) rfl rfl rfl
  obtain ⟨h₁, tk₁, rfl⟩ := IC.toInCall.same
  have k : ∀ b o, s.heap.get? b = some o → h₁.get? b = some o := IC.toInCall.keep
  have hn := IC.toInCall.ns
  have X₁ : K.In h₁ := X.keeps k
  have hx₁ := k _ _ hx
  show wpAny _ _ (execs _ _) _ _ _
  refine wpAny_execs_cons (plainObj_wpAny_Assign_Attribute ?_)
  refine ldC (v := v) hn (by first | rfl | with_unfolding_all rfl | kernel_rfl) (ldC (v := .ref x) hn (by first | rfl | with_unfolding_all rfl | kernel_rfl) ?_)
  refine set_plain X₁ (ox := excO C t0) (od := none) ⟨hx₁, rfl, rfl, trivial⟩ T.sa ?_
  refine exc_osa X₁ hx₁ hcl (show refsVE (.ref C :: bm) = true from hbm) rfl T.noN (fun h₃ tk₃ dx k₃ dn dne hx₃ hn₃ => ?_)
  show wpAny _ _ (execs _ _) _ _ _
  have z : s.heap.objs.size < h₁.objs.size := hn.lt
  exact wpAny_execs_nil (hq h₃ tk₃ dx ⟨fun b o hb e => k₃ b o hb (k b o e), hx₃, Nat.le_of_lt (Nat.lt_of_lt_of_le z dn), dne, hn₃⟩)
theorem made (T : Txt K C fI) {v : Value} (X : K.In s.heap) (hlim : s.heap.NoLimit) (hroom : A.depth + 1 < recursionLimit)
    (hq : ∀ h' tk e d, OwnMade s.heap h' e C d "most" v → R (.ok (.ret (.ref e))) { s with heap := h', toks := tk }) :
    codeAny (model prog w) A (.call (.ref C) ⟨[v], []⟩) R s := by
  obtain ⟨nm, q, N, bs, bm, sn, sub, ab, col, dd, k0, k1, k2, k3, k5, hC, hbm⟩ := T.cls
  obtain ⟨hp, g, dr, tk, os⟩ := s
  have k : ∀ b o, hp.get? b = some o → ((hp.push (kdv_tup [v])).push (excO C hp.objs.size)).get? b = some o := fun b o e => Heap.get?_push_of_some _ (Heap.get?_push_of_some _ e)
  have hget : ((hp.push (kdv_tup [v])).push (excO C hp.objs.size)).get? (hp.objs.size + 1) = some (excO C hp.objs.size) := by heap_get
  have hnx : K.lookup (hp.objs.size + 1) = none := by
    cases e : K.lookup (hp.objs.size + 1) with
    | none => rfl
    | some o =>
      have z : hp.get? (hp.objs.size + 1) = some o := X _ _ e
      exact absurd (Nat.lt_of_succ_lt (Heap.lt_size z)) (Nat.lt_irrefl _)
  refine call_own F.excBase_ValueError (fun X => refsVE_contains X bm hbm) (X _ _ hC) (looks_findIn X T.iC) (fun self => bind_fn X self T.tC) (one_size v) ?_
  refine init (s := ⟨(hp.push (kdv_tup [v])).push (excO C hp.objs.size), g, dr, tk, os⟩) T (X.keeps k) (hlim.keeps k) hget hnx ?_ fun h' tk' dx ⟨k', hx, dn, dne, hns⟩ => ?_
  · show A.depth + 1 < recursionLimit
    exact hroom
  · have old : ∀ b o, hp.get? b = some o → h'.get? b = some o := fun b o e => k' b o (Nat.ne_of_lt (Nat.lt_succ_of_lt (Heap.lt_size e))) (k b o e)
    have z : hp.objs.size + 1 + 1 ≤ dx := by
      first
        | (simpa only [Heap.size_push] using dn)
        | exact dn
        | (have q := dn; rw [Heap.size_push, Heap.size_push] at q; exact q)
    exact ⟨rfl, hq h' tk' (hp.objs.size + 1) dx ⟨old, Nat.le_succ _, ⟨_, _, hx, rfl, rfl, rfl, rfl⟩, Nat.le_trans (Nat.le_trans (Nat.le_succ _) (Nat.le_succ _)) z, dne, hns⟩⟩
end
end Low_most

namespace Low_outcome
def iA (p1 p2 : Pos) : Arguments := { posonlyargs := [], args := [{ arg := "self", annotation := none, pos := p1 }, { arg := "outcome", annotation := none, pos := p2 }], vararg := none, kwonlyargs := [], kw_defaults := [], kwarg := none, defaults := [] }
def iB (q1 q2 q3 q4 : Pos) : List Stmt := [.Assign [.Attribute (.Name "self" q1) "outcome" q2] (.Name "outcome" q3) q4]
def iS : Scope := { kind := .function, names := [(PySem.Str.ofString "self", .local), (PySem.Str.ofString "outcome", .local)], isGenerator := false, isCoroutine := false, more := [] }
structure Txt (K : Frag) (C fI : Addr) : Prop extends LowC K C where
  noN : findIn K (.ref C) "outcome" = some none
  iC : findIn K (.ref C) "__init__" = some (some (.ref fI))
  tC : typeIn K (.ref fI) = some (.type "function")
  fn : ∃ (oc : Value) (od : Option Addr) (qual : Str) (kV doc pm : Value) (an : Option Addr) (cdv ct : Value) (osl : Array (Option Value)) (p1 p2 q1 q2 q3 q4 : Pos),
    K.lookup fI = some ⟨oc, od, .func (fnOf "__init__" qual (iA p1 p2) (iB q1 q2 q3 q4) iS .none kV doc pm an cdv ct), osl⟩ ∧ codeIn K cdv qual = true
section
variable {prog : Program} {w : World} {A : Around} {E : Value → Shared → Prop} {R : Result → Shared → Prop} {s : Shared} {K : Frag} {mg : Str → Option Value} {C fI : Addr}
theorem init (T : Txt K C fI) {x t0 : Addr} {v : Value} (X : K.In s.heap) (hlim : s.heap.NoLimit) (hx : s.heap.get? x = some (excO C t0)) (hnx : K.lookup x = none) (hroom : A.depth < recursionLimit)
    (hq : ∀ h' tk dx, InitEnd s.heap h' x C dx t0 "outcome" v → R (.ok (.ret .none)) { s with heap := h', toks := tk }) :
    codeAny (model prog w) A (.call (.ref fI) ⟨[.ref x, v], []⟩) R s := by
  obtain ⟨oc, od, qual, kV, doc, pm, an, cdv, ct, osl, p1, p2, q1, q2, q3, q4, ho, hcd⟩ := T.fn
  obtain ⟨nm, q, N, bs, bm, sn, sub, ab, col, dd, k0, k1, k2, k3, k5, hC, hbm⟩ := T.cls
  have hcl : clsIn K C = some { name := nm, bases := bs, mro := .ref C :: bm, ns := N, qualname := q, hasDict := true, slotNames := sn, subclasses := sub, abstract := ab, collection := col, hasDel := false } := by unfold clsIn; rw [hC] <;> rfl
  refine Att.call_fn (binds := [("self", .ref x), ("outcome", v)]) X hlim ho hcd hroom (BindsTo.of_eq (by first | rfl | with_unfolding_all rfl)) (by first | rfl | decide | with_unfolding_all rfl) (fun s₁ IC => ?_) rfl rfl rfl
  obtain ⟨h₁, tk₁, rfl⟩ := IC.toInCall.same
  have k : ∀ b o, s.heap.get? b = some o → h₁.get? b = some o := IC.toInCall.keep
  have hn := IC.toInCall.ns
  have X₁ : K.In h₁ := X.keeps k
  have hx₁ := k _ _ hx
  show wpAny _ _ (execs _ _) _ _ _
  refine wpAny_execs_cons (plainObj_wpAny_Assign_Attribute ?_)
  refine ldC (v := v) hn (by first | rfl | with_unfolding_all rfl | kernel_rfl) (ldC (v := .ref x) hn (by first | rfl | with_unfolding_all rfl | kernel_rfl) ?_)
  refine set_plain X₁ (ox := excO C t0) (od := none) ⟨hx₁, rfl, rfl, trivial⟩ T.sa ?_
  refine exc_osa X₁ hx₁ hcl (show refsVE (.ref C :: bm) = true from hbm) rfl T.noN (fun h₃ tk₃ dx k₃ dn dne hx₃ hn₃ => ?_)
  show wpAny _ _ (execs _ _) _ _ _
  have z : s.heap.objs.size < h₁.objs.size := hn.lt
  exact wpAny_execs_nil (hq h₃ tk₃ dx ⟨fun b o hb e => k₃ b o hb (k b o e), hx₃, Nat.le_of_lt (Nat.lt_of_lt_of_le z dn), dne, hn₃⟩)
theorem made (T : Txt K C fI) {v : Value} (X : K.In s.heap) (hlim : s.heap.NoLimit) (hroom : A.depth + 1 < recursionLimit)
    (hq : ∀ h' tk e d, OwnMade s.heap h' e C d "outcome" v → R (.ok (.ret (.ref e))) { s with heap := h', toks := tk }) :
    codeAny (model prog w) A (.call (.ref C) ⟨[v], []⟩) R s := by
  obtain ⟨nm, q, N, bs, bm, sn, sub, ab, col, dd, k0, k1, k2, k3, k5, hC, hbm⟩ := T.cls
  obtain ⟨hp, g, dr, tk, os⟩ := s
  have k : ∀ b o, hp.get? b = some o → ((hp.push (kdv_tup [v])).push (excO C hp.objs.size)).get? b = some o := fun b o e => Heap.get?_push_of_some _ (Heap.get?_push_of_some _ e)
  have hget : ((hp.push (kdv_tup [v])).push (excO C hp.objs.size)).get? (hp.objs.size + 1) = some (excO C hp.objs.size) := by heap_get
  have hnx : K.lookup (hp.objs.size + 1) = none := by
    cases e : K.lookup (hp.objs.size + 1) with
    | none => rfl
    | some o =>
      have z : hp.get? (hp.objs.size + 1) = some o := X _ _ e
      exact absurd (Nat.lt_of_succ_lt (Heap.lt_size z)) (Nat.lt_irrefl _)
  refine call_own F.excBase_ValueError (fun X => refsVE_contains X bm hbm) (X _ _ hC) (looks_findIn X T.iC) (fun self => bind_fn X self T.tC) (one_size v) ?_
  refine init (s := ⟨(hp.push (kdv_tup [v])).push (excO C hp.objs.size), g, dr, tk, os⟩) T (X.keeps k) (hlim.keeps k) hget hnx ?_ fun h' tk' dx ⟨k', hx, dn, dne, hns⟩ => ?_
  · show A.depth + 1 < recursionLimit
    exact hroom
  · have old : ∀ b o, hp.get? b = some o → h'.get? b = some o := fun b o e => k' b o (Nat.ne_of_lt (Nat.lt_succ_of_lt (Heap.lt_size e))) (k b o e)
    have z : hp.objs.size + 1 + 1 ≤ dx := by
      first
        | (simpa only [Heap.size_push] using dn)
        | exact dn
        | (have q := dn; rw [Heap.size_push, Heap.size_push] at q; exact q)
    exact ⟨rfl, hq h' tk' (hp.objs.size + 1) dx ⟨old, Nat.le_succ _, ⟨_, _, hx, rfl, rfl, rfl, rfl⟩, Nat.le_trans (Nat.le_trans (Nat.le_succ _) (Nat.le_succ _)) z, dne, hns⟩⟩
end
end Low_outcome

/-- the __init__ of an error that has a field -/
inductive XTxt (K : Frag) (C fI : Addr) : Nat → Prop
  | at_ (h : Low_at.Txt K C fI) : XTxt K C fI 0
  | most (h : Low_most.Txt K C fI) : XTxt K C fI 1
  | outcome (h : Low_outcome.Txt K C fI) : XTxt K C fI 2
theorem XTxt.low {K : Frag} {C fI : Addr} {f : Nat} (h : XTxt K C fI f) : LowC K C := by
  cases h with
  | at_ h => exact h.toLowC
  | most h => exact h.toLowC
  | outcome h => exact h.toLowC
theorem XTxt.made {prog : Program} {w : World} {A : Around} {R : Result → Shared → Prop} {s : Shared} {K : Frag} {C fI : Addr} {f : Nat} (T : XTxt K C fI f) {v : Value} (X : K.In s.heap) (hlim : s.heap.NoLimit) (hroom : A.depth + 1 < recursionLimit)
    (hq : ∀ h' tk e d, OwnMade s.heap h' e C d (fldN f) v → R (.ok (.ret (.ref e))) { s with heap := h', toks := tk }) :
    codeAny (model prog w) A (.call (.ref C) ⟨[v], []⟩) R s := by
  cases T with
  | at_ T => exact Low_at.made T X hlim hroom hq
  | most T => exact Low_most.made T X hlim hroom hq
  | outcome T => exact Low_outcome.made T X hlim hroom hq
open L2 (V Hp HO PE PA PS TA TE WX XK St)
section
variable {X : L2.Cx} {C fI : Addr}
/-- C(e), an error with a field -/
def tMkLow (C : Addr) (f : Str) (ta : TA) : L2.St → Hp → XK → Prop := fun σ H Q => ta σ H fun vs H1 => ∃ v, vs = [v] ∧ ∀ d, H1 d = none → Q (.ref C) (some d) (L2.upd H1 d (.xd [(f, v)]))
theorem pmk_low {f : Nat} {x : Str} {a : Expr} {ta : TA} {p pos : Pos} {k : Nat} (T : XTxt X.K C fI f) (gC : X.mg x = some (.ref C)) (hr : L2.Room k X.A) (ha : PA X [a] ta) (hg : L2.Gl X x) (hdb : (x == ("__debug__" : Str)) = false)
    (he : starEach (a :: []) X.env = (false, eval a X.env) :: starEach [] X.env) :
    L2.PMk X (.Call (.Name x p) [a] [] pos) (tMkLow C (fldN f) ta) := by
  intro pins s σ H Q I h
  refine wpAny_Call_Name_kw (L2.ld_glob I hg gC ?_ hdb)
  refine PySem.W.callWith_K (h₀ := X.base) I.ok.mod.kin T.low.kC (L2.thn (ha.run pos pins s σ H _ I h) fun us s1 hh => ?_) he rfl
  obtain ⟨vs, H1, I1, r1, v, ev, q1⟩ := hh
  subst ev
  refine ⟨I1.kIn, ?_⟩
  cases r1 with
  | cons rv rn =>
    rename_i v' us'
    cases rn
    show wpAny _ _ (call (.ref C) [v']) _ _ _
    have hlim := I1.nolimit
    obtain ⟨hp, g, dr, tk, os⟩ := s1
    refine wpAny_call (XTxt.made T I1.kIn hlim (by have := hr.dp; omega) fun h' tk' e d M => ?_)
    show L2.MkP X pins σ Q (.ref e) ⟨h', g, dr, tk', os⟩
    obtain ⟨oe, fv, hoe, hc, hd, hdat, h1⟩ := M.obj
    have hns := M.ns
    obtain ⟨G', g1, g2⟩ := L2.restrict h' fun b => decide (b ≠ e)
    have gk : ∀ b, b ≠ e → G'.get? b = h'.get? b := fun b hb => g1 b (decide_eq_true hb)
    have ge : G'.get? e = none := g2 e (by simp)
    have old : ∀ b o, hp.get? b = some o → G'.get? b = some o := fun b o q => (gk b (Nat.ne_of_lt (Nat.lt_of_lt_of_le (Heap.lt_size q) M.new))).trans (M.keep b o q)
    have ob : L2.ObjOk X.prog X.w (L2.upd H1 d (.xd [(fldN f, v)])) G' d (.xd [(fldN f, v)]) :=
      ⟨_, hns.at (fun o q => (gk d M.dne).trans q), fun y => relO_low rv y⟩
    have J : L2.Inv X pins σ (L2.upd H1 d (.xd [(fldN f, v)])) ⟨G', g, dr, tk', os⟩ := I1.laid (t' := tk') old M.dbig ob
    refine ⟨e, oe, fv, ⟨G', g, dr, tk', os⟩, _, .ref C, some d, rfl, J, fun b o q => ?_, ge, hoe, ⟨hc, hd⟩, hdat, h1, ?_, rfl, I1.bare, L2.raises_own T.low.exC T.low.tyC, q1 d (I1.hok.fresh M.dbig)⟩
    · by_cases hb : b = e
      · have q' : G'.get? b = some o := q
        rw [hb, ge] at q'; cases q'
      · exact (gk b hb).symm.trans q
    · rw [L2.upd_ne (Ne.symm M.dne)]
      exact I1.hok.fresh M.new
/-- C(), an error without a field -/
theorem pmk_low0 {bmB : List Value} {B newId initId : String} {x : Str} {p pos : Pos} (F : ExcBaseFacts B newId initId bmB) (q : PySem.W.excIn X.K C bmB newId = true) (gC : X.mg x = some (.ref C)) (kC : PySem.W.keepIn X.K (.ref C) = true) (r : L2.Raises X (.ref C)) (hg : L2.Gl X x)
    (hdb : (x == ("__debug__" : Str)) = false) : L2.PMk X (.Call (.Name x p) [] [] pos) (fun _ H Q => Q (.ref C) none H) := by
  intro pins s σ H Q I h
  refine wpAny_Call_Name_kw (L2.ld_glob I hg gC ?_ hdb)
  refine PySem.W.callWith_K0 I.kIn kC ?_
  show wpAny _ _ (call (.ref C) []) _ _ _
  obtain ⟨bm, N, nm, qn, bs, hdct, sn, sub, ab, col, dd, k0, k1, k2, k3, k5, mN, hC, hN, hni, T⟩ := L2.exc_obj I.kIn q
  refine wpAny_call_exc_subT F T hC hN hni (fun h' e hm => ?_) (by show 0 ≤ sizeLine; omega)
  exact L2.mk_of I hm r h (I.hok.gone hm.new)
end
end Ev

end

section
set_option Elab.async false
set_option linter.all false
set_option maxRecDepth 100000
set_option maxHeartbeats 1000000
/-! Ev, part G: a def's promise where nothing is being shown (the guards are known to be none): repr asks for that. -/
namespace Ev
open PySem PySem.Spec PyProof.Rows
open L2 (V Hp HO PE PT PS PSs PA VK SqL SqT Rd Key RelV Vals Room Sp XK FunD FnScope Env0 CR CE CXT Gl)

structure FnG (P : Program) (w : World) (K : PySem.W.Frag) (mg : Str → Option Value) (base : Heap) (CX : CXT) (k : Nat) (f : Addr) (fd : FuncData) (ps : List Str) (sp : Sp) : Prop where
  len : ∀ vs H Q E, sp vs H Q E → vs.length = ps.length
  go : ∀ {A : Around} {outer : List Env} {s : Shared} {H : Hp} {args : Args} {us : List Value} {vs : List V} {Q : VK} {E : XK}, A.guards = some [] → Room k A → Env0 P w K mg base A outer s H →
    BindsTo s fd args (ps.zip us) → Vals vs us → sp vs H Q E → codeAny (model P w) A (.call (.ref f) args) (CR CX outer P w H s Q E) s

/-- a def of the text, by its body -/
theorem fnG_of {CX : CXT} {P : Program} {w : World} {K : PySem.W.Frag} {mg : Str → Option Value} {base : Heap} {x qual : Str} {params : Arguments} {body : List Stmt} {scope : Scope} {dvs : List V} {kws : List (Str × V)} {f : Addr} {fd : FuncData} {N ps : List Str} {k : Nat} {sp : Sp}
    (FD : FunD K x qual params body scope dvs kws f fd) (S : FnScope N ps scope) (ln : ∀ vs H Q E, sp vs H Q E → vs.length = ps.length)
    (bd : ∀ (cdv : Value) (A : Around) (outer : List Env) (s : Shared) (H : Hp) (vs : List V) (Q : VK) (E : XK), A.guards = some [] → Room k (A.deeper (envOfC qual scope s.heap.objs.size f cdv)) → sp vs H Q E →
      ∃ t, PSs (L2.cxOf CX P w K mg base N qual scope f cdv A outer s H E) body t ∧ t { nx := fun _ H' => Q .non H', rt := Q } (L2.start N vs) H) : FnG P w K mg base CX (k + 1) f fd ps sp := by
  obtain ⟨oc, od, dV, kV, doc, pm, an, cdv, ct, osl, e0, look, code, _, _⟩ := FD.ex
  subst e0
  refine ⟨ln, ?_⟩
  intro A outer s H args us vs Q E gd room env bind vals hsp
  have inK : K.In s.heap := env.mod.kin.keeps fun b o h => (env.bs b o h).1
  have nl : s.heap.NoLimit := env.mod.nolimit.keeps fun b o h => (env.bs b o h).1
  have kinds : ∀ y ∈ ps.zip us, scope.names.lookup y.1 = some .local ∨ (scope.names.lookup y.1 = some .cell ∧ ((cellsFrom (s.heap.objs.size + 1) scope.names []).lookup y.1).isSome = true) := by
    intro y hy
    obtain ⟨n, v⟩ := y
    cases S.par n (List.of_mem_zip hy).1 with
    | inl h => exact .inl h
    | inr h => exact .inr ⟨h, PySem.W.cellsFrom_some _ _ _ (.inl h)⟩
  refine codeAny_call_function room.depth (inK _ _ look) rfl S.co S.gen rfl (PySem.W.codeRec_of inK code) (bind _ _ _ _ ?_)
  refine wpAny_newFunctionEnv_cells S.kind kinds ?_
  intro env1 he s1 ic
  subst he
  refine ⟨nl.keeps ic.toInCall.keep, codeAny_func ?_⟩
  obtain ⟨t, pt, ht⟩ := bd cdv A outer s H vs Q E gd (room.deeper _) hsp
  have inv := L2.inv_start (CX := CX) (E := E) (qual := qual) (f := f) (cd := cdv) S room.hd env (ln _ _ _ _ hsp) vals ic
  refine wpAny_mono (pt.run [] s1 (L2.start N vs) H _ inv ht) ?_ (fun e s' h => h)
  intro fl s' h
  cases fl with
  | ret u =>
    obtain ⟨v, σ', H', J, rv, q⟩ := h
    exact ⟨v, H', J.os, J.bare, J.base, J.hok, rv, q⟩
  | next =>
    obtain ⟨σ', H', J, q⟩ := h
    exact ⟨V.non, H', J.os, J.bare, J.base, J.hok, rfl, q⟩
  | brk => obtain ⟨_, _, _, z⟩ := h; exact z.elim
  | cont => obtain ⟨_, _, _, z⟩ := h; exact z.elim

section
variable {X : HCx} {CX : CXT} {k : Nat} {f : Addr} {fd : FuncData} {ps : List Str} {sp : Sp} {E : HSt → XK} {x : Str} {p pos : Pos} {e : Expr} {es : List Expr} {t : L2.TA}
/-- the callee runs -/
theorem runG {pins : List (Addr × Obj)} {σ : HSt} {H : Hp} {s : Shared} {Q : VK} {us : List Value} {vs : List V} (F : FnG X.prog X.w X.K X.mg X.base CX k f fd ps sp) (gd : X.A.guards = some []) (room : Room k X.A) (bnd : L2.Binds X.K fd ps []) (hx : L2.PassesAt CX X σ (E σ))
    (I : L2.Inv X pins σ H s) (r : Vals vs us) (h : sp vs H Q (E σ)) : wpAny (model X.prog X.w) X.A (call (.ref f) us) (L2.EP X pins σ Q) X.xe s := by
  have e1 : us ++ [] = us := List.append_nil us
  have hl : (us ++ []).length = ps.length := by rw [e1, ← r.length]; exact F.len _ _ _ _ h
  have b := bnd s us I.kIn hl
  rw [e1] at b
  refine wpAny_call (codeAny_mono (F.go gd room I.env0 b r h) ?_)
  intro res s' hq
  cases res with
  | error er => exact hx pins H s er s' I hq
  | ok fl =>
    cases fl with
    | ret u => exact I.after hq
    | next => cases hq
    | brk => cases hq
    | cont => cases hq
/-- f() -/
theorem pe_callG0 (F : FnG X.prog X.w X.K X.mg X.base CX k f fd ps sp) (gd : X.A.guards = some []) (room : Room k X.A) (hg : Gl X x) (hm : X.mg x = some (.ref f)) (hk : PySem.W.keepIn X.K (.ref f) = true) (bnd : L2.Binds X.K fd ps []) (hx : ∀ σ, L2.PassesAt CX X σ (E σ)) (hdb : (x == ("__debug__" : Str)) = false) :
    PE X (.Call (.Name x p) [] [] pos) (L2.tCallSD sp [] E L2.tNil) := by
  refine ⟨fun pins s σ H Q I h => ?_⟩
  have h' : sp [] H Q (E σ) := h
  exact wpAny_Call_Name_kw (L2.ld_glob I hg hm (PySem.W.callWith_K0 I.kIn hk (runG (us := []) F gd room bnd (hx σ) I .nil h')) hdb)
/-- f(e, ..) -/
theorem pe_callG (F : FnG X.prog X.w X.K X.mg X.base CX k f fd ps sp) (gd : X.A.guards = some []) (room : Room k X.A) (hg : Gl X x) (hm : X.mg x = some (.ref f)) (hk : PySem.W.keepIn X.K (.ref f) = true) (bnd : L2.Binds X.K fd ps []) (hx : ∀ σ, L2.PassesAt CX X σ (E σ)) (ha : PA X (e :: es) t)
    (hdb : (x == ("__debug__" : Str)) = false) (he : starEach (e :: es) X.env = (false, eval e X.env) :: starEach es X.env) (hpl : (backTo pos (starEach es X.env)).any (·.1) = false) :
    PE X (.Call (.Name x p) (e :: es) [] pos) (L2.tCallSD sp [] E t) := by
  refine ⟨fun pins s σ H Q I h => ?_⟩
  refine wpAny_Call_Name_kw (L2.ld_glob I hg hm ?_ hdb)
  refine PySem.W.callWith_K (h₀ := X.base) I.ok.mod.kin hk (L2.thn (ha.run pos pins s σ H _ I h) ?_) he hpl
  rintro us s1 ⟨vs, H1, I1, r, q⟩
  refine ⟨I1.kIn, ?_⟩
  have q' : sp (vs ++ []) H1 Q (E σ) := q
  rw [List.append_nil] at q'
  exact runG F gd room bnd (hx σ) I1 r q'
end

/-- the law's def, called behind the top -/
theorem lawG {P : Program} {w : World} {K : PySem.W.Frag} {mg mb : Str → Option Value} {CX : CXT} {k : Nat} {fa a : Addr} {fd : FuncData} {x : Str} {sp : Sp} {s₁ : Shared} {vs : List Value} {ns : List Int}
    (inK : K.In s₁.heap) (gns : s₁.heap.Ns mainGlobals mg) (bns : s₁.heap.Ns builtinsNs mb) (boot : ∀ x : Str, x ≠ "__name__" → mb x = bootBuiltins x) (nl : s₁.heap.NoLimit) (noGen : s₁.gens = #[])
    (obj : s₁.heap.get? a = some { cls := .type "list", data := .seq vs.toArray }) (ints_ : IntsAre vs ns) (short : ns.length ≤ sizeLine) (room : Room k callerA)
    (F : ∀ base : Heap, FnG P w K mg base CX k fa fd [x] sp) (bnd : ∀ (s : Shared) (u : Value), BindsTo s fd ⟨[u], []⟩ [(x, u)])
    (says : ∀ H : Hp, L2.Only H → SqL K H a (ns.map V.int) → sp [.ref a] H (fun v _ => v = .bl true) fun _ _ _ => False)
    (noX : ∀ H e s', CX [] H s₁ (fun _ _ _ => False) e s' → False) :
    codeAny (model P w) callerA (.call (.ref fa) ⟨[.ref a], []⟩) (fun r s' => r = .ok (.ret (.bool true)) ∧ OldK s₁.heap s'.heap ∧ s'.os = s₁.os ∧ AllBare s'.gens) s₁ := by
  have rel := L2.vals_ints ints_
  have lens := ints_.length
  -- H knows of nothing but the script
  have one : ∀ H : Hp, L2.Only H → SqL K H a (ns.map V.int) → L2.HOk P w H s₁.heap → (∀ b, H b ≠ none → b = a) → (H a ≠ none → K.lookup a = none) →
      codeAny (model P w) callerA (.call (.ref fa) ⟨[.ref a], []⟩) (fun r s' => r = .ok (.ret (.bool true)) ∧ OldK s₁.heap s'.heap ∧ s'.os = s₁.os ∧ AllBare s'.gens) s₁ := by
    intro H only sq hok just notK
    have dictOut : ∀ {b : Addr} {o : Obj} {es : Array DictEntry} {ep : Nat}, s₁.heap.get? b = some o → o.data = .dict es ep → H b = none := by
      intro b o es ep hb hd
      apply Classical.byContradiction
      intro hne
      have hba := just b hne
      subst hba
      rw [obj] at hb
      cases hb
      cases hd
    have ns' : ∀ {b : Addr} {m : Str → Option Value}, s₁.heap.Ns b m → (L2.hidT s₁.heap H).Ns b m := by
      rintro b m ⟨o, es, ep, h1, h2, h3⟩
      exact ⟨o, es, ep, L2.hidT_get h1 (dictOut h1 h2), h2, h3⟩
    have inB : K.In (L2.hidT s₁.heap H) := by
      intro b o hb
      refine L2.hidT_get (inK b o hb) (Classical.byContradiction fun hne => ?_)
      have hba := just b hne
      subst hba
      rw [notK hne] at hb
      cases hb
    obtain ⟨mc, nl1, nl2⟩ := nl
    have md : L2.Mod K mg (L2.hidT s₁.heap H) := ⟨inB, ns' gns, ⟨mb, ns' bns, boot⟩, ⟨mc, ns' nl1, nl2⟩⟩
    have env : Env0 P w K mg (L2.hidT s₁.heap H) callerA [] s₁ H := by
      refine ⟨rfl, md, fun b o h => L2.of_hidT h, Nat.le_of_eq (L2.hidT_size _ _), trivial, ?_, hok, .of_eq noGen⟩
      intro b hb
      exact absurd (show b ∈ ([] : List Addr) from hb) (by simp)
    have vr : Vals [V.ref a] [Value.ref a] := .cons rfl .nil
    have bz : BindsTo s₁ fd ⟨[.ref a], []⟩ ([x].zip [Value.ref a]) := bnd s₁ (.ref a)
    refine codeAny_mono ((F _).go (outer := []) rfl room env bz vr (says H only sq)) ?_
    intro res s' h
    cases res with
    | error er => exact (noX H er s' h).elim
    | ok fl =>
      cases fl with
      | next => cases h
      | brk => cases h
      | cont => cases h
      | ret u =>
        obtain ⟨v, H', os, bare, un, hok', rv, q⟩ := h
        have q : v = .bl true := q
        subst q
        have ru : u = Value.bool true := rv
        subst ru
        refine ⟨rfl, OldK.of_keep ?_, os, bare⟩
        intro b o hb
        rcases only b with hn | ⟨ob, xs, hz⟩
        · exact un.keep b o hb hn (fun z => absurd (show b ∈ ([] : List Addr) from z) (by simp)) (by simp)
        · obtain ⟨g1, _⟩ := hok b _ hz
          obtain ⟨g2, _⟩ := hok' b _ (un.frzs b ob _ hz)
          rw [hb] at g1
          cases g1
          exact g2
  cases hk : K.lookup a with
  | some o =>
    have same := inK a o hk
    rw [obj] at same
    cases same
    exact one (fun _ => none) (fun _ => .inl rfl) (.inr ⟨_, vs.toArray, _, hk, rfl, rfl, rfl, by rw [List.size_toArray, lens]; exact short, by simpa using rel⟩) (fun b u z => nomatch z) (fun b z => absurd rfl z) fun z => absurd rfl z
  | none =>
    let fz : HO := .frz { cls := .type "list", data := .seq vs.toArray } (.lst (ns.map V.int))
    refine one (fun b => if b = a then some fz else none) ?_ (.inl (.inr ⟨{ cls := .type "list", data := .seq vs.toArray }, if_pos rfl⟩)) ?_ ?_ fun _ => hk
    · intro b
      by_cases h : b = a
      · exact .inr ⟨_, _, if_pos h⟩
      · exact .inl (if_neg h)
    · intro b u z
      by_cases h : b = a
      · have z2 := (if_pos h).symm.trans z
        cases z2
        subst h
        exact ⟨obj, by rw [List.length_map]; exact short, vs, _, rel, obj⟩
      · have z2 := (if_neg h).symm.trans z
        cases z2
    · intro b z
      apply Classical.byContradiction
      intro h
      exact z (if_neg h)
theorem walkG {l : PySem.W.OpenLaw} {n k : Nat} {q : Program} {loose : List Str} {XP : (Str → Option Value) → Heap → Prop} {YP : World → Heap → Prop} {d : DefRec} {CX : CXT} {x : Str}
    (hn : l.most = some n) (hn2 : n ≤ sizeLine) (hdf : d.params.defaults = []) (room : Room k callerA)
    (F : ∀ (w : World) (mg : Str → Option Value) (fa : Addr) (h : Heap), YP w h → h.Ns mainGlobals mg → mg d.name = some (.ref fa) → ∃ (K : PySem.W.Frag) (fd : FuncData) (sp : Sp), K.In h ∧ (∀ (s : Shared) (u : Value), BindsTo s fd ⟨[u], []⟩ [(x, u)]) ∧
        (∀ (H : Hp) (a : Addr) (ns : List Int), ns.length ≤ n → L2.Only H → SqL K H a (ns.map V.int) → sp [.ref a] H (fun v _ => v = .bl true) fun _ _ _ => False) ∧ ∀ base : Heap, FnG l.prog w K mg base CX k fa fd [x] sp)
    (noX : ∀ (H : Hp) (s : Shared) (e : Value) (s' : Shared), CX [] H s (fun _ _ _ => False) e s' → False) :
    PySem.W.WalkO q loose XP YP l.row.toRowW d [] (fun f vs => PySem.call f vs) := by
  refine Att.attach_call hn hdf ?_
  intro w s₀ s₁ mg mb fa o pm cd doc a vs ns G Y _ _ _ hmg obj ints_ hlen noGen
  obtain ⟨K, fd, sp, inK, bnd, says, hF⟩ := F w mg fa _ Y G.T.g hmg
  exact lawG inK G.T.g G.T.b G.T.builtins G.T.nolimit noGen obj ints_ (Nat.le_trans hlen hn2) room hF bnd (fun H o sq => says H a ns hlen o sq) fun H e s' => noX H s₁ e s'
end Ev

end

section
set_option Elab.async false
set_option linter.all false
set_option maxRecDepth 100000
/-! Ev, part 10: expressions: what the evaluator says is what the text does. -/
namespace Ev
open PySem PySem.Spec PyProof.Rows
open L2 (V Hp HO PE PT PS PSs PA PG PGs PI TE TT TA TS TG TGs TI It VK SqL SqT Rd Key upd upd_same upd_ne OpR CallR IxR SlR MtR MtM R2 tOp RelV Vals WX Takes Room FnOk Sp XK Ends rI rI0 CMul CDiv CPow KV Itl Itt Itr Its Vis Loc Gl)

/-! ### lists of values, wipes -/
theorem RepVs.length {R : RC} {F : Hp} {m : List Addr} : ∀ {l : List Val} {vs : List V}, RepVs R F m l vs → l.length = vs.length
  | [], _, h => by cases h; rfl
  | x :: l, _, ⟨v, r, e, _, t⟩ => by subst e; simp [RepVs.length t]
theorem wipes_length (σ : Sig) : ∀ l : List Nat, (wipes σ l).length = σ.length
  | [] => rfl
  | v :: l => by unfold wipes; rw [List.length_set, wipes_length σ l]
theorem wipes_some {σ : Sig} {i : Nat} {x : Val} : ∀ {l : List Nat}, (wipes σ l)[i]? = some (some x) → σ[i]? = some (some x) ∧ i ∉ l
  | [], h => ⟨h, by simp⟩
  | v :: l, h => by
    unfold wipes at h
    by_cases hi : v = i
    · subst hi
      by_cases hv : v < (wipes σ l).length
      · rw [List.getElem?_set_self hv] at h; cases h
      · rw [List.getElem?_eq_none (by rw [List.length_set]; omega)] at h; cases h
    · rw [List.getElem?_set_ne hi] at h
      obtain ⟨a, b⟩ := wipes_some h
      exact ⟨a, by simp [b, Ne.symm hi]⟩
theorem wipe_get {τ : HSt} {i : Nat} {v : V} (h : τ[i]? = some (some v)) : ∀ {l : List Nat}, i ∉ l → (L2.wipe τ l)[i]? = some (some v)
  | [], _ => h
  | k :: l, hl => by
    unfold L2.wipe
    rw [List.getElem?_set_ne (by intro e; exact hl (by simp [e]))]
    exact wipe_get h (by intro z; exact hl (by simp [z]))
theorem RepS.wipe {R : RC} {F : Hp} {m : List Addr} {σ : Sig} {τ : HSt} (h : RepS R F m σ τ) (l : List Nat) : RepS R F m (wipes σ l) (L2.wipe τ l) := by
  refine ⟨by rw [wipes_length, L2.wipe_length]; exact h.1, fun i x e => ?_⟩
  obtain ⟨e, n⟩ := wipes_some e
  obtain ⟨v, e1, r⟩ := h.2 i x e
  exact ⟨v, wipe_get e1 n, r⟩
theorem wipe_ext {τ τ' : HSt} {l : List Nat} (hl : τ.length = τ'.length) (h : ∀ i, i ∉ l → τ[i]? = τ'[i]?) : L2.wipe τ l = L2.wipe τ' l := by
  have key : ∀ (ρ : HSt) (l : List Nat) (i : Nat), (L2.wipe ρ l)[i]? = if i ∈ l then (if i < ρ.length then some none else none) else ρ[i]? := by
    intro ρ l
    induction l with
    | nil => intro i; simp [L2.wipe]
    | cons v l ih =>
      intro i
      unfold L2.wipe
      by_cases e : v = i
      · subst e
        rw [List.getElem?_set]
        simp [L2.wipe_length]
      · rw [List.getElem?_set_ne e, ih i]
        simp [Ne.symm e]
  refine List.ext_getElem? fun i => ?_
  rw [key, key, hl]
  by_cases hi : i ∈ l
  · simp [hi]
  · simp [hi, h i hi]
theorem wipe_same (τ : HSt) (l : List Nat) : L2.wipe (L2.wipe τ l) l = L2.wipe τ l := wipe_ext (L2.wipe_length τ l) fun i hi => by
  have key : ∀ (l : List Nat), i ∉ l → (L2.wipe τ l)[i]? = τ[i]? := by
    intro l
    induction l with
    | nil => intro _; rfl
    | cons v l ih =>
      intro hi
      unfold L2.wipe
      rw [List.getElem?_set_ne (by intro e; exact hi (by simp [e]))]
      exact ih (by intro z; exact hi (by simp [z]))
  exact key l hi

/-! ### targets -/
/-- off the slots nothing changed -/
def Off (l : List Nat) (τ τ1 : HSt) : Prop := τ1.length = τ.length ∧ ∀ i, i ∉ l → τ1[i]? = τ[i]?
def tG (R : RC) (t : Tgt) : TG := fun v τ H Q => ∃ σ σ1 x F m, Sub F H ∧ Rep R F x v ∧ RepS R F m σ τ ∧ asgT σ t x = some σ1 ∧ ∀ τ1, RepS R F m σ1 τ1 → Off (slots t) τ τ1 → Q τ1 H
def tGs (R : RC) (t : List Tgt) : TGs := fun vs τ H Q => ∃ σ σ1 xs F m, Sub F H ∧ Reps R F xs vs ∧ RepS R F m σ τ ∧ asgTs σ t xs = some σ1 ∧ ∀ τ1, RepS R F m σ1 τ1 → Off (slotsL t) τ τ1 → Q τ1 H
theorem pg_weak {X : HCx} {e : Expr} {t t' : TG} (h : PG X e t) (w : ∀ v σ H Q, t' v σ H Q → t v σ H Q) : PG X e t' := ⟨fun pins s σ H v u Q I r q => h.run pins s σ H v u Q I r (w v σ H Q q)⟩
theorem pgs_weak {X : HCx} {e : List Expr} {t t' : TGs} (h : PGs X e t) (w : ∀ v σ H Q, t' v σ H Q → t v σ H Q) : PGs X e t' := ⟨fun pins s σ H v u Q I r q => h.run pins s σ H v u Q I r (w v σ H Q q)⟩
theorem locB_ok {X : HCx} {sc : Scope} {x : Str} (hs : X.env.scope = sc) (h : locB sc x = true) : Loc X.env.scope x := by
  unfold locB at h
  rw [hs]
  split at h <;> first | exact .inl (by assumption) | exact .inr (by assumption) | cases h
theorem lclB_ok {sc : Scope} {x : Str} (h : lclB sc x = true) : sc.names.lookup x = some .local := by
  unfold lclB at h
  split at h <;> first | assumption | cases h
theorem visB_ok {X : HCx} {sc : Scope} {x : Str} (hs : X.env.scope = sc) (h : visB sc x = true) : Vis X.env.scope x := by
  unfold visB at h
  rw [hs]
  split at h <;> first | exact .inl (by assumption) | exact .inr (.inl (by assumption)) | exact .inr (.inr (by assumption)) | cases h
theorem glB_ok {X : HCx} {sc : Scope} {x : Str} (hs : X.env.scope = sc) (h : glB sc x = true) : Gl X x := by
  unfold glB at h
  show X.env.scope.names.lookup x = _
  rw [hs]
  split at h <;> first | assumption | cases h
theorem each_len (env : Env) : ∀ (es : List Expr), (assignEach es env).length = es.length
  | [] => rfl
  | e :: es => by
    cases e <;> (show (assignEach es env).length + 1 = es.length + 1; rw [each_len env es])
theorem each_find (env : Env) : ∀ {es : List Expr}, noStar es = true → (assignEach es env).findIdx? (·.1) = none
  | [], _ => rfl
  | e :: es, h => by
    have ih := each_find env (noStar_tl h)
    have e1 : assignEach (e :: es) env = (false, assign e env) :: assignEach es env := by cases e <;> first | rfl | cases h
    rw [e1, List.findIdx?_cons]
    simp [ih]
theorem each_map (env : Env) {e : Expr} {es : List Expr} (h : noStar (e :: es) = true) : (assignEach (e :: es) env).map (·.2) = assign e env :: (assignEach es env).map (·.2) := by
  cases e <;> first | rfl | cases h
mutual
theorem mG_ok {R : RC} {nm : Nm} {X : HCx} {sc : Scope} {fb : Str → Bool} (hs : X.env.scope = sc) (hf : X.fn = fb) (hN : X.N = nm.N) (nd : nm.N.Nodup) (hK : R.K = X.K) (hc : X.calm = true) : ∀ (t : Tgt) (a : Expr), mG nm sc fb t a = true → PG X a (tG R t)
  | .name i, a, h => by
    simp only [mG] at h
    split at h
    · rename_i x hx
      obtain ⟨p, rfl⟩ := asName_inv hx
      simp only [Bool.and_eq_true, Bool.or_eq_true, decide_eq_true_eq] at h
      obtain ⟨⟨h1, h2⟩, h3⟩ := h
      have hf' : X.fn x = true ∨ X.env.scope.names.lookup x = some .local := by
        rcases h3 with h3 | h3
        · exact .inl (by rw [hf]; exact h3)
        · exact .inr (by rw [hs]; exact lclB_ok h3)
      refine pg_weak (L2.pg_name (i := i) (by rw [hN]; exact nd) (by rw [hN]; exact h1) (locB_ok hs h2) hf') fun v τ H Q q => ?_
      obtain ⟨σ, σ1, y, F, m, sb, rx, rs, e, q⟩ := q
      simp only [asgT, Option.some.injEq] at e
      subst e
      refine q _ (rs.set (show RepV R F m (.d y) v from rx) i) ⟨by simp, fun j hj => ?_⟩
      rw [List.getElem?_set_ne (by intro e; exact hj (by simp [slots, e]))]
    · cases h
  | .tup l, a, h => by
    simp only [mG] at h
    split at h
    · rename_i es hx
      obtain ⟨k, p, rfl⟩ := asTup_inv hx
      simp only [Bool.and_eq_true] at h
      refine pg_weak (L2.pg_tup hc (mGs_ok hs hf hN nd hK hc l es h.1 h.2) (each_len _ _) (each_find _ h.2)) fun v τ H Q q => ?_
      obtain ⟨σ, σ1, y, F, m, sb, rx, rs, e, q⟩ := q
      cases y with
      | tup xs =>
        obtain ⟨b, vs, rfl, hq, hr⟩ := rx
        have e : asgTs σ l xs = some σ1 := by simpa only [asgT] using e
        refine ⟨b, vs, rfl, by rw [← hK]; exact sb.sqT hq, ?_, ⟨σ, σ1, xs, F, m, sb, hr, rs, e, fun τ1 r o => q τ1 r ?_⟩⟩
        · have l1 : ∀ {l : List Tgt} {es : List Expr}, mGs nm sc fb l es = true → l.length = es.length := by
            intro l
            induction l with
            | nil => intro es h; cases es <;> simp [mGs] at h ⊢
            | cons t l ih =>
              intro es h
              cases es with
              | nil => simp [mGs] at h
              | cons e es => simp only [mGs, Bool.and_eq_true] at h; simp [ih h.2]
          have l2 : ∀ {l : List Tgt} {xs : List D} {σ σ1 : Sig}, asgTs σ l xs = some σ1 → l.length = xs.length := by
            intro l
            induction l with
            | nil => intro xs σ σ1 h; cases xs <;> simp [asgTs] at h ⊢
            | cons t l ih =>
              intro xs σ σ1 h
              cases xs with
              | nil => simp [asgTs] at h
              | cons x xs =>
                simp only [asgTs] at h
                split at h
                · simp [ih h]
                · cases h
          rw [← hr.length, ← l2 e, l1 h.1]
        · simpa only [slots] using o
      | _ => simp only [asgT] at e; cases e
    · cases h
termination_by structural t => t
theorem mGs_ok {R : RC} {nm : Nm} {X : HCx} {sc : Scope} {fb : Str → Bool} (hs : X.env.scope = sc) (hf : X.fn = fb) (hN : X.N = nm.N) (nd : nm.N.Nodup) (hK : R.K = X.K) (hc : X.calm = true) : ∀ (l : List Tgt) (es : List Expr), mGs nm sc fb l es = true → noStar es = true → PGs X es (tGs R l)
  | [], es, h, _ => by
    cases es with
    | nil =>
      refine pgs_weak L2.pgs_nil fun v τ H Q q => ?_
      obtain ⟨σ, σ1, y, F, m, sb, rx, rs, e, q⟩ := q
      simp only [asgTs] at e
      split at e
      · cases e
        cases rx
        exact ⟨rfl, q _ rs ⟨rfl, fun _ _ => rfl⟩⟩
      · cases e
    | cons e es => simp [mGs] at h
  | t :: l, es, h, hst => by
    cases es with
    | nil => simp [mGs] at h
    | cons a es =>
      simp only [mGs, Bool.and_eq_true] at h
      refine pgs_weak (L2.pgs_cons (mG_ok hs hf hN nd hK hc t a h.1) (mGs_ok hs hf hN nd hK hc l es h.2 (noStar_tl hst)) (each_map _ hst)) fun v τ H Q q => ?_
      obtain ⟨σ, σ1, y, F, m, sb, rx, rs, e, q⟩ := q
      simp only [asgTs] at e
      split at e
      · rename_i x r
        obtain ⟨v0, vr, rfl, r0, rr⟩ := rx
        split at e
        · rename_i σ2 e2
          refine ⟨v0, vr, rfl, σ, σ2, x, F, m, sb, r0, rs, e2, fun τ1 r1 o1 => ⟨σ2, σ1, r, F, m, sb, rr, r1, e, fun τ2 r2 o2 => q τ2 r2 ⟨o2.1.trans o1.1, fun i hi => ?_⟩⟩⟩
          simp only [slotsL, List.mem_append, not_or] at hi
          rw [o2.2 i hi.2, o1.2 i hi.1]
        · cases e
      · cases e
termination_by structural t => t
end

/-! ### the context -/
/-- what a def promises: the evaluator's call -/
def spC (R : RC) (call : Nat → List Val → Store → Ev.R Val) (f np : Nat) : Sp := fun vs H Q E => vs.length = np ∧ ∃ args S F m, Sim R H F m S ∧ RepVs R F m args vs ∧ Post R (fun cls d _ H => E cls d H) (RepV R) [] H F m (call f args S) Q
structure FnAt (R : RC) (X : HCx) (call : Nat → List Val → Store → Ev.R Val) (f np : Nat) (x : Str) : Prop where
  ex : ∃ k fa fd ps, FnG X.prog X.w X.K X.mg X.base (L2.CX X.prog X.w) k fa fd ps (spC R call f np) ∧ Room k X.A ∧ X.mg x = some (.ref fa) ∧ PySem.W.keepIn X.K (.ref fa) = true ∧ L2.Binds X.K fd ps []
/-- what the written part says of an own error's class -/
structure ClsF (K : PySem.W.Frag) (C : Addr) : Prop where
  hcl : (PySem.W.clsIn K C).isSome = true
  hga : PySem.W.findIn K (.ref C) "__getattribute__" = some (some (.builtin "BaseException.__getattribute__"))
  hgt : PySem.W.findIn K (.ref C) "__getattr__" = some none
  hsub : PySem.W.subIn K (.ref C) (.type "BaseException") = some true
  hdct : PySem.W.hasDictIn K C = true
  ha : PySem.W.findIn K (.ref C) "__class__" = some (some (.builtin "object.__class__"))
  hn : PySem.W.specialIn K (.builtin "object.__class__") "__get__" = some (some (.builtin "getset_descriptor.__get__"))
  htk : PySem.W.takesIn K (.builtin "object.__class__") = some true
  hm : PySem.W.mroIn K C (.type "object") = some true
  ty : PySem.W.typeIn K (.ref C) = some (.type "type")
  kp : PySem.W.keepIn K (.ref C) = true
structure EcsAt (R : RC) (ecs : List EC) (K : PySem.W.Frag) (mg : Str → Option Value) : Prop where
  at_ : ∀ c C, R.cl c = some C → ∃ e, ecs[c]? = some e ∧ mg e.x = some (.ref C) ∧ ClsF K C ∧ PySem.W.kitOne K (.ref C) (.type "ValueError") = some true ∧
    (∀ c' C', R.cl c' = some C' → PySem.W.exmOne K (.ref C) (.ref C') = some (e.up.contains c') ∧ PySem.W.kitOne K (.ref C) (.ref C') = some (e.up.contains c')) ∧
    match e.fld with
      | some f => ∃ fI, XTxt K C fI f
      | none => PySem.W.excIn K C He.veBase "ValueError.__new__" = true
  all : ∀ c e, ecs[c]? = some e → ∃ C, R.cl c = some C
  ex : ∀ c C, R.cl c = some C → R.ex c = true
  nof : ∀ c C, R.cl c = some C → ∀ f, f < nFld → PySem.W.findIn K (.ref C) (fldN f) = some none
  fn : ∀ k, R.fn k = fldN k
structure GX (R : RC) (C : Ev.Cx) (nm : Nm) (X : HCx) (sc : Scope) (fb : Str → Bool) (W : WX) : Prop where
  hs : X.env.scope = sc
  hf : X.fn = fb
  hN : X.N = nm.N
  nd : nm.N.Nodup
  hK : R.K = X.K
  hc : nm.hot = false → X.calm = true
  tk : Takes X W
  hu : X.A.units + 64 < cLine
  gd : X.A.guards = some []
  sys : SysK X.K
  glo : ∀ g x d, nm.glos g = some x → C.glo g = some d → ∃ v u, X.mg x = some u ∧ RelV v u ∧ ∀ F, Rep R F d v
  gdc : ∀ g x, nm.gdcs g = some x → ∃ l d es n, C.gdc g = some l ∧ X.mg x = some (.ref d) ∧ L2.KDict X.K X.w d es n ∧ ∀ z : List Nat, match gLook z l with
    | some dv => ∃ u v, PySem.W.nsIn X.K d ⟨z.toArray⟩ = some (some u) ∧ RelV v u ∧ ∀ F, Rep R F dv v
    | none => PySem.W.nsIn X.K d ⟨z.toArray⟩ = some none
  fns : ∀ f x np, nm.fns f = some (x, np) → FnAt R X C.call f np x
  blt : ∀ x, nm.blts.contains x = true → X.mg x = none ∧ x ≠ nam ∧ (x == dbg) = false
  ecs : EcsAt R nm.ecs X.K X.mg
  rm : nm.hot = false → Room 0 X.A
theorem GX.blk {R : RC} {C : Ev.Cx} {nm : Nm} {X : HCx} {sc : Scope} {fb : Str → Bool} {W : WX} (g : GX R C nm X sc fb W) (s : Shared) (H : Hp) (scope : Scope) (cl : List (Str × Addr)) (c : Addr) (fp : List Addr) :
    GX R C nm (X.blk s H scope (compEnvC scope cl c X.env) fp) (L2.relS scope sc) (fun x => scope.names.lookup x == some .cell) (fun _ _ _ _ => False) where
  hs := by rw [← g.hs]; rfl
  hf := rfl
  hN := g.hN
  nd := g.nd
  hK := g.hK
  hc := g.hc
  tk := L2.takes0
  hu := g.hu
  gd := g.gd
  sys := g.sys
  glo := g.glo
  gdc := g.gdc
  fns := fun f x np h => ⟨(g.fns f x np h).ex⟩
  blt := g.blt
  ecs := g.ecs
  rm := g.rm

theorem Post.wx {α β : Type} {R : RC} {W : WX} {rel : Hp → List Addr → α → β → Prop} {τ τ' : HSt} {H F : Hp} {m : List Addr} {r : Ev.R α} {Q : β → Hp → Prop} (h : Post R W rel τ H F m r Q) : Post R (fun cls d _ H => W cls d τ H) rel τ' H F m r Q := by
  cases r with
  | ok a S => exact h
  | exc x S => exact h
  | no => exact h

/-! ### comprehensions -/
theorem Step.over {H F H' F' : Hp} {m m' : List Addr} {a : Addr} (o : HO) (st : Step H F m H' F' m') (ha : H a = none) : Step H F m (upd H' a o) F' m' where
  sub := st.sub
  keep := fun b u h n => by rw [upd_ne (L2.ne_of_none h ha)]; exact st.keep b u h n
  new := st.new
  pre := st.pre
  fresh := st.fresh
theorem Sim.over {R : RC} {H F : Hp} {m : List Addr} {S : Store} {a : Addr} (o : HO) (sim : Sim R H F m S) (hm : a ∉ m) (hF : F a = none) : Sim R (upd H a o) F m S where
  sub := fun b u h => by rw [upd_ne (L2.ne_of_none h hF)]; exact sim.sub b u h
  nd := sim.nd
  len := sim.len
  trk := fun b h => by
    obtain ⟨u, e⟩ := sim.trk b h
    exact ⟨u, by rw [upd_ne (fun z => hm (by rw [← z]; exact h))]; exact e⟩
  cell := fun n c b h1 h2 => by
    have hb : b ≠ a := fun z => hm (by rw [← z]; exact List.mem_of_getElem? h2)
    exact (sim.cell n c b h1 h2).mono (Sub.refl _) (fun z => z) fun u z => by rw [upd_ne hb]; exact z
/-- a place of ours that is not of the store goes through a step -/
theorem Step.mine {H F H' F' : Hp} {m m' : List Addr} {a : Addr} {o : HO} (st : Step H F m H' F' m') (h : H a = some o) (hm : a ∉ m) (hF : F a = none) : H' a = some o ∧ a ∉ m' ∧ F' a = none := by
  refine ⟨st.keep a o h hm, fun z => ?_, ?_⟩
  · rcases st.fresh a z with z | z
    · exact hm z
    · rw [h] at z; cases z
  · cases e : F' a with
    | none => rfl
    | some u =>
      rcases st.new a (by rw [e]; exact fun z => nomatch z) with z | z | z
      · exact absurd hF z
      · rw [h] at z; cases z
      · exact absurd z hm
theorem Sim.frozen {R : RC} {H F : Hp} {m : List Addr} {S : Store} {a : Addr} {o : HO} (sim : Sim R H F m S) (h : H a = some o) (hm : a ∉ m) (hF : F a = none) : Sim R H (upd F a o) m S where
  sub := fun b u e => by
    by_cases z : b = a
    · subst z; rw [upd_same] at e; cases e; exact h
    · rw [upd_ne z] at e; exact sim.sub b u e
  nd := sim.nd
  len := sim.len
  trk := sim.trk
  cell := fun n c b h1 h2 => by
    have hb : b ≠ a := fun z => hm (by rw [← z]; exact List.mem_of_getElem? h2)
    exact (sim.cell n c b h1 h2).mono (fun d u e => by rw [upd_ne (L2.ne_of_none e hF)]; exact e) (fun z => by rw [upd_ne hb]; exact z) fun u z => z
theorem Step.frozen {H F H' F' : Hp} {m m' : List Addr} {a : Addr} {o : HO} (st : Step H F m H' F' m') (ha : H a = none) (hF : F' a = none) : Step H F m H' (upd F' a o) m' where
  sub := fun b u e => by rw [upd_ne (L2.ne_of_none (st.sub b u e) hF)]; exact st.sub b u e
  keep := st.keep
  new := fun b e => by
    by_cases z : b = a
    · subst z; exact .inr (.inl ha)
    · rw [upd_ne z] at e; exact st.new b e
  pre := st.pre
  fresh := st.fresh
theorem nox_bind {α β γ : Type} (x : Ev.R α) (g : α → Store → Ev.R β) (f : β → Store → Ev.R γ) : (x.bind g).nox.bind f = x.nox.bind fun a S => (g a S).nox.bind f := by
  cases x <;> rfl
section
variable {α β γ δ : Type} {R : RC} {W : WX} {rel : Hp → List Addr → α → β → Prop} {rel2 : Hp → List Addr → γ → δ → Prop} {τ τ' : HSt} {H F H1 F1 : Hp} {m m1 : List Addr} {r : Ev.R α}
theorem Post.bindN {W' : WX} {f : α → Store → Ev.R γ} {Q2 : δ → Hp → Prop} (h : Post R W rel2 τ H1 F1 m1 (r.nox.bind f) Q2) :
    Post R W' rel τ' H F m r (fun b H' => ∃ a S' F' m', Step H F m H' F' m' ∧ Sim R H' F' m' S' ∧ rel F' m' a b ∧ Post R W rel2 τ H1 F1 m1 (f a S') Q2) := by
  cases r with
  | ok a S => exact fun b H' F' m' st sim re => ⟨a, S, F', m', st, sim, re, h⟩
  | exc x S => exact h.elim
  | no => exact h.elim
end
theorem evTs_one {C : Ev.Cx} {c : Tst} {σ : Sig} {S : Store} : evTs C [c] σ S = evT C c σ S := by
  simp only [evTs]
  cases evT C c σ S with
  | ok t S1 => cases t <;> rfl
  | exc x S1 => rfl
  | no => rfl
def tTs (R : RC) (C : Ev.Cx) (W : WX) (l : List Tst) : TT := fun τ H Q => ∃ σ S F m, Sim R H F m S ∧ RepS R F m σ τ ∧ Post R W relB τ H F m (evTs C l σ S) Q
theorem pts_weak {X : HCx} {e : List Expr} {t t' : TT} (h : L2.PTs X e t) (w : ∀ σ H Q, t' σ H Q → t σ H Q) : L2.PTs X e t' := ⟨fun pins s σ H Q I q => h.run pins s σ H Q I (w σ H Q q)⟩
theorem lc_red {R : RC} {C : Ev.Cx} {W : WX} {e : Exp} {t : Tgt} {own : List Nat} {it : Ite} {ifs : List Tst} {τ : HSt} {H : Hp} {Q : VK} (hsl : (slots t).all own.contains = true) (h : tE R C W (.lc e t own it ifs) τ H Q) :
    L2.tLc (tI R C W it) (tG R t) (tTs R C (fun _ _ _ _ => False) ifs) (tE R C (fun _ _ _ _ => False) e) own τ H Q := by
  obtain ⟨σ, S, F, m, sim, rs, h⟩ := h
  simp only [ev] at h
  refine ⟨σ, S, F, m, sim, rs, (Post.bind h).imp fun J H1 h1 => ?_⟩
  obtain ⟨p, S1, F1, m1, st1, sim1, dw, h1⟩ := h1
  intro L0 hD
  obtain ⟨hDF, hDm⟩ := sim1.fresh hD
  generalize hturn : (fun (x : D) (S : Store) => (match asgT (wipes σ own) t x with
      | some σ1 => ((evTs C ifs σ1 S).bind fun b S2 => match b with
        | true => (ev C e σ1 S2).bind fun v S3 => fzO v S3
        | false => .ok none S2).nox
      | none => .no : Ev.R (Option D))) = turn at h1
  refine ⟨fun i k H' => k = p.l.length - i ∧ i ≤ p.l.length ∧ ∃ acc acc' S' F' m', Step H1 F1 m1 H' F' m' ∧ Sim R H' F' m' S' ∧ H' L0 = some (.lst acc') ∧ L0 ∉ m' ∧ F' L0 = none ∧ Reps R F' acc acc' ∧
    Post R W (RepV R) τ H1 F1 m1 ((lcL p.ck turn (p.l.drop i) acc S').bind fun l S2 => .ok (.d (.lst l)) S2) Q, ?_, ?_⟩
  · refine ⟨p.l.length, by simp, Nat.zero_le _, [], [], S1, F1, m1, (Step.refl ..).over _ hD, sim1.over _ hDm hDF, upd_same, hDm, hDF, rfl, ?_⟩
    rw [List.drop_zero]
    exact h1
  · rintro i k H2 ⟨rfl, hi, acc, acc', S2, F2, m2, st2, sim2, hD2, hm2, hF2, ra, h2⟩
    have hck : p.ck S2 := by
      cases hd : p.l.drop i with
      | nil =>
        rw [hd] at h2
        simp only [lcL] at h2
        split at h2
        · assumption
        · exact h2.elim
      | cons x l =>
        rw [hd] at h2
        simp only [lcL] at h2
        split at h2
        · assumption
        · exact h2.elim
    by_cases hlt : i < p.l.length
    · refine .inr ⟨dw.goes i H2 F2 m2 S2 sim2 st2.sub st2.pre hck hlt, fun H' => ∃ acc acc' S' F' m', Step H1 F1 m1 H' F' m' ∧ Sim R H' F' m' S' ∧ H' L0 = some (.lst acc') ∧ L0 ∉ m' ∧ F' L0 = none ∧ Reps R F' acc acc' ∧
        Post R W (RepV R) τ H1 F1 m1 ((lcL p.ck turn (p.l.drop (i + 1)) acc S').bind fun l S2 => .ok (.d (.lst l)) S2) Q, fun H' nx => ⟨p.l.length - (i + 1), by omega, rfl, hlt, nx⟩, fun x H3 y => ?_⟩
      obtain ⟨F3, d, st3, sim3, hd, rd⟩ := dw.yields i H2 F2 m2 S2 x H3 sim2 st2.sub st2.pre hck hlt y
      obtain ⟨hD3, hm3, hF3⟩ := st3.mine hD2 hm2 hF2
      have hdrop : p.l.drop i = d :: p.l.drop (i + 1) := by
        obtain ⟨h1, h2⟩ := List.getElem?_eq_some_iff.mp hd
        rw [List.drop_eq_getElem_cons hlt, h2]
      rw [hdrop] at h2
      simp only [lcL, hck, if_true] at h2
      have h2' : Post R W (RepV R) τ H1 F1 m1 (((turn d S2).bind fun o S1 => match o with
        | some y => if acc.length < big then lcL p.ck turn (p.l.drop (i + 1)) (acc ++ [y]) S1 else .no
        | none => lcL p.ck turn (p.l.drop (i + 1)) acc S1).bind fun l S2 => .ok (.d (.lst l)) S2) Q := h2
      have hT : turn d S2 = (match asgT (wipes σ own) t d with
      | some σ1 => ((evTs C ifs σ1 S2).bind fun b S2 => match b with
        | true => (ev C e σ1 S2).bind fun v S3 => fzO v S3
        | false => .ok none S2).nox
      | none => .no : Ev.R (Option D)) := by rw [← hturn]
      rw [hT] at h2'
      clear hT h2 hturn
      cases ha : asgT (wipes σ own) t d with
      | none => rw [ha] at h2'; exact h2'.elim
      | some σ1 =>
        rw [ha] at h2'
        have rs3 : RepS R F3 m2 σ τ := RepS.mono st3 (RepS.mono st2 (RepS.mono st1 rs))
        refine ⟨wipes σ own, σ1, d, F3, m2, sim3.sub, rd, rs3.wipe own, ha, fun τ1 r1 o1 => ⟨?_, ?_⟩⟩
        · rw [← wipe_same τ own]
          refine wipe_ext o1.1 fun j hj => o1.2 j fun z => hj ?_
          have := List.all_eq_true.mp hsl j z
          simpa using this
        · have assoc : ∀ {α β γ : Type} (r : Ev.R α) (f : α → Store → Ev.R β) (g : β → Store → Ev.R γ), (r.bind f).bind g = r.bind fun a S => (f a S).bind g := by
            intro α β γ r f g
            cases r <;> rfl
          rw [assoc] at h2'
          simp only [nox_bind] at h2'
          refine ⟨σ1, S2, F3, m2, sim3, r1, (Post.bindN h2').imp fun b H4 h4 => ?_⟩
          obtain ⟨b', S4, F4, m4, st4, sim4, rfl, h4⟩ := h4
          obtain ⟨hD4, hm4, hF4⟩ := st4.mine hD3 hm3 hF3
          have S24 := st2.trans (st3.trans st4)
          cases b' with
          | false =>
            simp only [Bool.false_eq_true, if_false]
            exact ⟨acc, acc', S4, F4, m4, S24, sim4, hD4, hm4, hF4, Reps.mono (st3.trans st4).sub ra, h4⟩
          | true =>
            simp only [if_true]
            simp only [nox_bind] at h4
            refine ⟨σ1, S4, F4, m4, sim4, RepS.mono st4 r1, (Post.bindN h4).imp fun y H5 h5 => ?_⟩
            obtain ⟨v, S5, F5, m5, st5, sim5, rv, h5⟩ := h5
            obtain ⟨hD5, hm5, hF5⟩ := st5.mine hD4 hm4 hF4
            simp only [fzO] at h5
            cases hz : fzv S5 v with
            | none => rw [hz] at h5; exact h5.elim
            | some q =>
              obtain ⟨z, S6⟩ := q
              rw [hz] at h5
              obtain ⟨F6, sim6, st6, rz⟩ := fzv_ok sim5 rv hz
              obtain ⟨hD6, hm6, hF6⟩ := st6.mine hD5 hm5 hF5
              simp only [Ev.R.nox_ok, Ev.R.bind_ok] at h5
              split at h5
              · rename_i hlen
                have ra6 : Reps R F6 acc acc' := Reps.mono ((st3.trans st4).trans (st5.trans st6)).sub ra
                refine ⟨acc', hD5, by rw [← ra.length, ← big_eq]; exact hlen, acc ++ [z], acc' ++ [y], S6, F6, m5, (S24.trans (st5.trans st6)).over _ hD, sim6.over _ hm6 hF6, upd_same, hm6, hF6, ?_, h5⟩
                exact ra6.append ⟨y, [], rfl, rz, rfl⟩
              · exact h5.elim
    · have e : i = p.l.length := by omega
      subst e
      refine .inl ⟨dw.stops H2 F2 m2 S2 sim2 st2.sub st2.pre hck, ?_⟩
      rw [List.drop_length] at h2
      simp only [lcL, hck, if_true, Ev.R.bind_ok] at h2
      refine h2 (.ref L0) H2 (upd F2 L0 (.lst acc')) m2 (st2.frozen hD hF2) (sim2.frozen hD2 hm2 hF2) ⟨L0, acc', rfl, .inl upd_same, Reps.mono (fun b u e => by rw [upd_ne (L2.ne_of_none e hF2)]; exact e) ra⟩
end Ev

end

section
set_option Elab.async false
set_option linter.all false
set_option maxRecDepth 100000
/-! Ev, part 10b: isinstance, displays of dicts. -/
namespace Ev
open PySem PySem.Spec PyProof.Rows
open L2 (V Hp HO PE PT PS PSs PA PG PGs PI TE TT TA TS TG TGs TI It VK SqL SqT Rd Key upd upd_same upd_ne OpR CallR IxR SlR MtR MtM R2 tOp RelV Vals WX Takes Room FnOk Sp XK Ends rI rI0 CMul CDiv CPow KV Itl Itt Itr Its Vis Loc Gl)

def tyD : D → String
  | .non => "NoneType" | .bl _ => "bool" | .int _ => "int" | .str _ => "str" | .tup _ => "tuple" | .lst _ => "list" | .dct _ => "dict" | .ins _ _ => ""
def tyS : Ty → String
  | .str => "str" | .int => "int" | .bool => "bool" | .list => "list" | .tuple => "tuple" | .dict => "dict" | .cls _ => ""
theorem tyX_of {R : RC} {H : Hp} {x : D} {v : V} (h : Rep R H x v) (hi : ∀ c fs, x ≠ .ins c fs) : L2.TyX R.K H v (.type (tyD x)) := by
  cases x with
  | non => cases h; exact .base .non
  | bl b => cases h; exact .base (.bl _)
  | int i => cases h; exact .base (.int _)
  | str s => cases h; exact .base (.str _)
  | tup l =>
    obtain ⟨a, xs, rfl, hq, _⟩ := h
    rcases hq with (hq | ⟨o, hq⟩) | ⟨o, its, n, hk, hc, _⟩
    · exact .base (.tup hq)
    · exact .fTuple hq
    · exact .kTuple hk hc
  | lst l =>
    obtain ⟨a, xs, rfl, hq, _⟩ := h
    rcases hq with hq | ⟨o, hq⟩
    · exact .base (.lst hq)
    · exact .base (.frz hq)
  | dct l =>
    obtain ⟨a, xs, rfl, hq, _⟩ := h
    exact .base (.dK hq)
  | ins c fs => exact absurd rfl (hi c fs)
theorem kit_tab {x : D} {t : Ty} (hi : ∀ c fs, x ≠ .ins c fs) (ht : ∀ c, t ≠ .cls c) : L2.kitB (tyD x) (tyS t) = some (isTy x t) := by
  cases x with
  | ins c fs => exact absurd rfl (hi c fs)
  | non => cases t with
    | cls c => exact absurd rfl (ht c)
    | str => exact (by decide +kernel : L2.kitB "NoneType" "str" = some false)
    | int => exact (by decide +kernel : L2.kitB "NoneType" "int" = some false)
    | bool => exact (by decide +kernel : L2.kitB "NoneType" "bool" = some false)
    | list => exact (by decide +kernel : L2.kitB "NoneType" "list" = some false)
    | tuple => exact (by decide +kernel : L2.kitB "NoneType" "tuple" = some false)
    | dict => exact (by decide +kernel : L2.kitB "NoneType" "dict" = some false)
  | bl b => cases t with
    | cls c => exact absurd rfl (ht c)
    | str => exact (by decide +kernel : L2.kitB "bool" "str" = some false)
    | int => exact (by decide +kernel : L2.kitB "bool" "int" = some true)
    | bool => exact (by decide +kernel : L2.kitB "bool" "bool" = some true)
    | list => exact (by decide +kernel : L2.kitB "bool" "list" = some false)
    | tuple => exact (by decide +kernel : L2.kitB "bool" "tuple" = some false)
    | dict => exact (by decide +kernel : L2.kitB "bool" "dict" = some false)
  | int b => cases t with
    | cls c => exact absurd rfl (ht c)
    | str => exact (by decide +kernel : L2.kitB "int" "str" = some false)
    | int => exact (by decide +kernel : L2.kitB "int" "int" = some true)
    | bool => exact (by decide +kernel : L2.kitB "int" "bool" = some false)
    | list => exact (by decide +kernel : L2.kitB "int" "list" = some false)
    | tuple => exact (by decide +kernel : L2.kitB "int" "tuple" = some false)
    | dict => exact (by decide +kernel : L2.kitB "int" "dict" = some false)
  | str b => cases t with
    | cls c => exact absurd rfl (ht c)
    | str => exact (by decide +kernel : L2.kitB "str" "str" = some true)
    | int => exact (by decide +kernel : L2.kitB "str" "int" = some false)
    | bool => exact (by decide +kernel : L2.kitB "str" "bool" = some false)
    | list => exact (by decide +kernel : L2.kitB "str" "list" = some false)
    | tuple => exact (by decide +kernel : L2.kitB "str" "tuple" = some false)
    | dict => exact (by decide +kernel : L2.kitB "str" "dict" = some false)
  | tup b => cases t with
    | cls c => exact absurd rfl (ht c)
    | str => exact (by decide +kernel : L2.kitB "tuple" "str" = some false)
    | int => exact (by decide +kernel : L2.kitB "tuple" "int" = some false)
    | bool => exact (by decide +kernel : L2.kitB "tuple" "bool" = some false)
    | list => exact (by decide +kernel : L2.kitB "tuple" "list" = some false)
    | tuple => exact (by decide +kernel : L2.kitB "tuple" "tuple" = some true)
    | dict => exact (by decide +kernel : L2.kitB "tuple" "dict" = some false)
  | lst b => cases t with
    | cls c => exact absurd rfl (ht c)
    | str => exact (by decide +kernel : L2.kitB "list" "str" = some false)
    | int => exact (by decide +kernel : L2.kitB "list" "int" = some false)
    | bool => exact (by decide +kernel : L2.kitB "list" "bool" = some false)
    | list => exact (by decide +kernel : L2.kitB "list" "list" = some true)
    | tuple => exact (by decide +kernel : L2.kitB "list" "tuple" = some false)
    | dict => exact (by decide +kernel : L2.kitB "list" "dict" = some false)
  | dct b => cases t with
    | cls c => exact absurd rfl (ht c)
    | str => exact (by decide +kernel : L2.kitB "dict" "str" = some false)
    | int => exact (by decide +kernel : L2.kitB "dict" "int" = some false)
    | bool => exact (by decide +kernel : L2.kitB "dict" "bool" = some false)
    | list => exact (by decide +kernel : L2.kitB "dict" "list" = some false)
    | tuple => exact (by decide +kernel : L2.kitB "dict" "tuple" = some false)
    | dict => exact (by decide +kernel : L2.kitB "dict" "dict" = some true)
theorem kit_any {K : PySem.W.Frag} {x : D} (hi : ∀ c fs, x ≠ .ins c fs) : ∀ {ts : List Ty}, (∀ t ∈ ts, ∀ c, t ≠ .cls c) → PySem.W.kitAny K (.type (tyD x)) (ts.map fun t => .type (tyS t)) = some (ts.any (isTy x))
  | [], _ => L2.kitAny_nil
  | t :: ts, h => by
    have ih := kit_any (K := K) hi (ts := ts) fun t ht => h t (List.mem_cons_of_mem _ ht)
    refine L2.kitAny_cons (L2.kit_ty (kit_tab hi (h t (List.mem_cons_self ..)))) (fun hb => ?_) fun hb => ?_
    · rw [ih]; simp [List.any_cons, hb]
    · simp [List.any_cons, hb]
theorem tyName_no {t : Ty} {y : Str} (h : tyName t = some y) : ∀ c, t ≠ .cls c := by
  intro c e; subst e; cases h
theorem ty_boot {t : Ty} {y : Str} (h : tyName t = some y) : bootBuiltins y = some (.type (tyS t)) := by
  cases t <;> simp only [tyName, Option.some.injEq] at h <;> first | (subst h; with_unfolding_all rfl) | cases h
section
variable {R : RC} {C : Ev.Cx} {nm : Nm} {X : HCx} {sc : Scope} {fb : Str → Bool} {W : WX}
theorem mTy_ok (g : GX R C nm X sc fb W) {t : Ty} {q : Expr} (h : mTy nm sc t q = true) : PE X q (L2.tC (.ty (tyS t))) ∧ ∀ c, t ≠ .cls c := by
  unfold mTy at h
  split at h
  · rename_i y hy
    obtain ⟨p, rfl⟩ := asName_inv hy
    simp only [Bool.and_eq_true, decide_eq_true_eq] at h
    obtain ⟨⟨h1, h2⟩, h3⟩ := h
    obtain ⟨hm, hn, hd⟩ := g.blt y h2
    exact ⟨L2.pe_bltn (glB_ok g.hs h3) hm (ty_boot h1) rfl hn hd, tyName_no h1⟩
  · cases h
theorem mTys_ok (g : GX R C nm X sc fb W) : ∀ {ts : List Ty} {l : List Expr}, mTys nm sc ts l = true → noStar l = true → PA X l (fun _ H Q => Q (ts.map fun t => .ty (tyS t)) H) ∧ ∀ t ∈ ts, ∀ c, t ≠ .cls c
  | [], l, h, hs => by
    cases l with
    | nil => exact ⟨L2.pa_nil, fun t ht => by cases ht⟩
    | cons => simp [mTys] at h
  | t :: ts, l, h, hs => by
    cases l with
    | nil => simp [mTys] at h
    | cons q l =>
      simp only [mTys, Bool.and_eq_true] at h
      obtain ⟨p1, n1⟩ := mTy_ok g h.1
      obtain ⟨p2, n2⟩ := mTys_ok g h.2 (noStar_tl hs)
      exact ⟨pa_weak (L2.pa_cons p1 p2 (noStar_each _ hs)) fun σ H Q q => q, fun t ht => by
        rcases List.mem_cons.mp ht with rfl | ht
        · exact n1
        · exact n2 t ht⟩
theorem paired_ty : ∀ ts : List Ty, Paired L2.ClsV (ts.map fun t => V.ty (tyS t)) (ts.map fun t => Value.type (tyS t))
  | [] => .nil
  | t :: ts => .cons (.ty _) (paired_ty ts)
theorem isi_ins {S : Store} {x : Val} {ts : List Ty} {τ : HSt} {H F : Hp} {m : List Addr} {Q : VK} (h : Post R W (RepV R) τ H F m (on1 S x (isiD ts)) Q) : ∃ d, rdv S x = some d ∧ (∀ c fs, d ≠ .ins c fs) ∧ Post R W (RepV R) τ H F m (.ok (.d (.bl (ts.any (isTy d)))) S) Q := by
  obtain ⟨a, z, e1, e2, q⟩ := on1_inv h
  refine ⟨a, e1, fun c fs e => ?_, ?_⟩
  · subst e; simp [isiD] at e2
  · cases a with
    | ins c fs => simp [isiD] at e2
    | _ => simp only [isiD, Option.some.injEq] at e2; subst e2; exact q
/-- isinstance(e, ..) -/
theorem pe_isi (g : GX R C nm X sc fb W) {e : Exp} {ts : List Ty} {p q : Expr} {pq pos : Pos} (hp : PE X p (tE R C W e)) (h1 : nm.blts.contains isn = true) (h2 : glB sc isn = true) (hs : noStar [p, q] = true) (h : mTyE nm sc ts q = true) :
    PE X (.Call (.Name isn pq) [p, q] [] pos) (tE R C W (.isi e ts)) := by
  obtain ⟨hm, hn, hd⟩ := g.blt isn h1
  have hs2 := noStar_tl hs
  have hv : bootBuiltins isn = some (.builtin "isinstance") := by with_unfolding_all rfl
  unfold mTyE at h
  split at h
  · rename_i l hl
    obtain ⟨k, pp, rfl⟩ := asTup_inv hl
    simp only [Bool.and_eq_true, decide_eq_true_eq] at h
    obtain ⟨pt, nt⟩ := mTys_ok g h.1.1 h.1.2
    refine pe_weak (L2.pe_callB L2.call_isiT (glB_ok g.hs h2) hm hv (L2.pa_cons hp (L2.pa_cons (L2.pe_tup pt) L2.pa_nil (noStar_each _ hs2)) (noStar_each _ hs)) hn hd (noStar_each _ hs) (noStar_any _ _ hs2)) fun τ H Q ⟨σ, S, F, m, sim, rs, q⟩ => ?_
    simp only [ev] at q
    refine ⟨σ, S, F, m, sim, rs, (Post.bind q).imp fun x' H2 ⟨x, S2, F2, m2, st, sim2, rx, q2⟩ => ?_⟩
    obtain ⟨d, e1, nd, q3⟩ := isi_ins q2
    refine ⟨?_, fun tp htp => ?_⟩
    · rw [List.length_map]
      have hl2 : ts.length = l.length := by
        have : ∀ {ts : List Ty} {l : List Expr}, mTys nm sc ts l = true → ts.length = l.length := by
          intro ts
          induction ts with
          | nil => intro l h; cases l <;> simp [mTys] at h ⊢
          | cons t ts ih =>
            intro l h
            cases l with
            | nil => simp [mTys] at h
            | cons e l => simp only [mTys, Bool.and_eq_true] at h; simp [ih h.2]
        exact this h.1.1
      rw [hl2]
      exact Nat.le_trans h.2 (by rw [sizeLine_eq]; decide)
    · obtain ⟨hF, hM⟩ := sim2.fresh htp
      have sim3 := sim2.over (.tup (ts.map fun t => V.ty (tyS t))) hM hF
      have st3 := (Step.refl H2 F2 m2).over (.tup (ts.map fun t => V.ty (tyS t))) htp
      have r3 := rdv_rep sim3 rx e1
      refine ⟨x', tp, ts.map fun t => V.ty (tyS t), _, _, _, rfl, upd_same, paired_ty ts, by rw [← g.hK]; exact tyX_of r3 nd, kit_any nd nt, ?_⟩
      exact q3 _ _ F2 m2 st3 sim3 rfl
  · split at h
    · rename_i t
      obtain ⟨pt, nt⟩ := mTy_ok g h
      refine pe_weak (L2.pe_callB L2.call_isi (glB_ok g.hs h2) hm hv (L2.pa_cons hp (L2.pa_cons pt L2.pa_nil (noStar_each _ hs2)) (noStar_each _ hs)) hn hd (noStar_each _ hs) (noStar_any _ _ hs2)) fun τ H Q ⟨σ, S, F, m, sim, rs, q⟩ => ?_
      simp only [ev] at q
      refine ⟨σ, S, F, m, sim, rs, (Post.bind q).imp fun x' H2 ⟨x, S2, F2, m2, st, sim2, rx, q2⟩ => ?_⟩
      obtain ⟨d, e1, nd, q3⟩ := isi_ins q2
      have r3 := rdv_rep sim2 rx e1
      refine ⟨x', .ty (tyS t), _, _, _, rfl, .ty _, by rw [← g.hK]; exact tyX_of r3 nd, L2.kit_ty (kit_tab nd nt), ?_⟩
      have := Post.get q3 sim2 (b := V.bl (isTy d t)) (by simp [RepV, Rep])
      exact this
    · cases h

/-! ### displays of dicts -/
theorem mLit_ok {x : D} {a : Expr} (h : mLit x a = true) : ∃ v, PE X a (L2.tC v) ∧ ∀ F, Rep R F x v := by
  unfold mLit at h
  split at h
  · cases of_decide_eq_true h; exact ⟨_, L2.pe_int, fun _ => rfl⟩
  · cases of_decide_eq_true h; exact ⟨_, L2.pe_str, fun _ => rfl⟩
  · cases of_decide_eq_true h; exact ⟨_, L2.pe_bl, fun _ => rfl⟩
  · exact ⟨_, L2.pe_non, fun _ => rfl⟩
  · cases h
theorem RepK.zip {F : Hp} : ∀ {ks : List D} {xs : List D} {qs : List Key} {vs : List V}, ks.map kD = qs.map some → Reps R F xs vs → ks.length = xs.length → RepK R F (ks.zip xs) (qs.zip vs)
  | [], _, qs, _, e, h, hl => by
    cases qs with
    | nil => rfl
    | cons => cases e
  | k :: ks, [], qs, _, e, h, hl => by cases hl
  | k :: ks, x :: xs, qs, _, e, ⟨v, r, e2, h1, h2⟩, hl => by
    subst e2
    cases qs with
    | nil => cases e
    | cons q qs =>
      simp only [List.map_cons, List.cons.injEq] at e
      exact ⟨q, v, qs.zip r, rfl, e.1, h1, RepK.zip e.2 h2 (by simpa using hl)⟩
/-- the readings of a display's pairs -/
def prs (R : RC) (C : Ev.Cx) (W : WX) (qs : List Key) (es : List Exp) : List (TE × TE) := (qs.zip es).map fun p => (L2.tC (L2.kV p.1), tE R C W p.2)
theorem prs_red {W : WX} {τ : HSt} {σ : Sig} : ∀ {qs : List Key} {es : List Exp} {H F : Hp} {m : List Addr} {S : Store} {Q : List (V × V) → Hp → Prop}, qs.length = es.length → Sim R H F m S → RepS R F m σ τ →
    Post R W (RepVs R) τ H F m (evs C es σ S) (fun vs H1 => Q ((qs.map L2.kV).zip vs) H1) → L2.tPairs (prs R C W qs es) τ H Q
  | [], [], H, F, m, S, Q, _, sim, rs, q => by
    simp only [evs] at q
    exact q [] H F m (Step.refl ..) sim rfl
  | [], _ :: _, _, _, _, _, _, e, _, _, _ => by cases e
  | _ :: _, [], _, _, _, _, _, e, _, _, _ => by cases e
  | k :: qs, e :: es, H, F, m, S, Q, hl, sim, rs, q => by
    rw [evs] at q
    show tE R C W e τ H fun y H2 => L2.tPairs (prs R C W qs es) τ H2 fun ps H3 => Q ((L2.kV k, y) :: ps) H3
    refine ⟨σ, S, F, m, sim, rs, (Post.bind q).imp fun y H2 ⟨x, S2, F2, m2, st, sim2, rx, q2⟩ => ?_⟩
    refine prs_red (by simpa using hl) sim2 (RepS.mono st rs) ((Post.bind q2).imp fun vs H3 ⟨xs, S3, F3, m3, st3, sim3, rxs, q3⟩ => ?_)
    exact q3 (y :: vs) H3 F3 m3 (Step.refl ..) sim3 ⟨y, vs, rfl, RepV.mono st3 rx, rxs⟩
theorem mKs_keys : ∀ {ks : List D} {l : List (Option Expr)}, mKs ks l = true → (∃ qs : List Key, ks.map kD = qs.map some) ∧ l.all (·.isSome) = true ∧ l.length = ks.length ∧ ks.all isK = true
  | [], l, h => by
    cases l with
    | nil => exact ⟨⟨[], rfl⟩, rfl, rfl, rfl⟩
    | cons => simp [mKs] at h
  | k :: ks, l, h => by
    cases l with
    | nil => simp [mKs] at h
    | cons o l =>
      cases o with
      | none => simp [mKs] at h
      | some e =>
        simp only [mKs, Bool.and_eq_true] at h
        obtain ⟨⟨qs, e1⟩, e2, e3, e4⟩ := mKs_keys h.2
        have : ∃ q, kD k = some q := by
          cases k <;> first | exact ⟨_, rfl⟩ | (simp [isK] at h)
        obtain ⟨q, hq⟩ := this
        exact ⟨⟨q :: qs, by simp [hq, e1]⟩, by simpa using e2, by simp [e3], by simp [h.1.2, e4]⟩
theorem pps_ok {pos : Pos} : ∀ {ks : List D} {l : List (Option Expr)} {es : List Exp} {vs : List Expr} {qs : List Key}, mKs ks l = true → ks.map kD = qs.map some → (∀ (i : Nat) (e : Exp) (v : Expr), es[i]? = some e → vs[i]? = some v → PE X v (tE R C W e)) → es.length = vs.length → l.length = vs.length → L2.PPs X pos l vs (prs R C W qs es)
  | [], l, es, vs, qs, h, hq, hp, hl, hl2 => by
    cases l with
    | cons => simp [mKs] at h
    | nil =>
      cases vs with
      | cons => cases hl2
      | nil =>
        cases es with
        | cons => cases hl
        | nil => cases qs with
          | nil => exact L2.pps_nil
          | cons => cases hq
  | k :: ks, l, es, vs, qs, h, hq, hp, hl, hl2 => by
    cases l with
    | nil => simp [mKs] at h
    | cons o l =>
      cases o with
      | none => simp [mKs] at h
      | some e =>
        simp only [mKs, Bool.and_eq_true] at h
        cases vs with
        | nil => cases hl2
        | cons v vs =>
          cases es with
          | nil => cases hl
          | cons x es =>
            cases qs with
            | nil => cases hq
            | cons q qs =>
              simp only [List.map_cons, List.cons.injEq] at hq
              obtain ⟨kv, pk, rk⟩ := mLit_ok (R := R) (X := X) h.1.1
              have ek : kv = L2.kV q := by
                have r0 := rk (fun _ => none)
                cases k with
                | int i => cases hq.1; exact r0
                | str s => cases hq.1; exact r0
                | _ => simp [isK] at h
              subst ek
              exact L2.pps_cons pk (hp 0 x v rfl rfl) (pps_ok h.2 hq.2 (fun i e v h1 h2 => hp (i + 1) e v h1 h2) (by simpa using hl) (by simpa using hl2))
/-- a display's dict, whatever is wanted behind it -/
theorem dct_red {τ : HSt} {H F : Hp} {m : List Addr} {S : Store} {σ : Sig} {ks : List D} {es : List Exp} {qs : List Key} {PN : Ev.R Val → Prop} {Q : VK} (hq : ks.map kD = qs.map some) (hl : qs.length = es.length) (sim : Sim R H F m S) (rs : RepS R F m σ τ) (hno : ¬ PN .no)
    (hexc : ∀ x S, PN (.exc x S) → ∀ cls d H' F' m', Step H F m H' F' m' → Sim R H' F' m' S → ExnRep R F' x cls d H' → W cls d τ H')
    (hend : ∀ l kvs S2 F2 m2 H2 p, Step H F m H2 F2 m2 → Sim R H2 F2 m2 S2 → H2 p = some (.dK kvs) → p ∉ m2 → F2 p = none → H p = none → RepK R F2 l kvs → PN (.ok (.d (.dct l)) S2) → Q (.ref p) H2)
    (h : PN ((evs C es σ S).bind fun vs S1 => dispK ks vs S1)) : L2.tDisp (prs R C W qs es) τ H Q := by
  intro p hp
  obtain ⟨hF, hM⟩ := sim.fresh hp
  have st0 : Step H F m (upd H p (.dK [])) F m := (Step.refl ..).over _ hp
  refine prs_red hl (sim.over _ hM hF) rs ?_
  generalize evs C es σ S = r at h
  cases r with
  | no => exact (hno h).elim
  | exc x S1 => exact fun cls d H' F' m' st sim' re => hexc x S1 h cls d H' F' m' (st0.trans st) sim' re
  | ok vs S1 =>
    intro vs' H1 F1 m1 st1 sim1 rv
    have h : PN (dispK ks vs S1) := h
    obtain ⟨hp1, hm1, hF1⟩ := st1.mine (o := .dK []) upd_same hM hF
    refine ⟨hp1, qs.zip vs', ?_, ?_⟩
    · rw [List.zip_map_left]
      exact List.map_congr_left fun a _ => rfl
    · simp only [dispK] at h
      cases hz : fzs S1 vs with
      | none => rw [hz] at h; exact (hno h).elim
      | some z =>
        obtain ⟨xs, S2⟩ := z
        rw [hz] at h
        obtain ⟨F2, sim2, st2, r2⟩ := fzs_ok sim1 rv hz
        obtain ⟨hp2, hm2, hF2⟩ := st2.mine hp1 hm1 hF1
        simp only at h
        split at h
        · rename_i hc
          have e1 : ks.length = qs.length := by simpa using congrArg List.length hq
          refine ⟨by rw [List.length_zip]; omega, ?_⟩
          refine hend _ _ S2 F2 m1 _ p (((st0.trans st1).trans st2).over _ hp) (sim2.over _ hm2 hF2) upd_same hm2 hF2 hp ?_ h
          exact RepK.merge (RepK.zip hq r2 hc.1) rfl
        · exact (hno h).elim
end
end Ev

end

section
set_option Elab.async false
set_option linter.all false
set_option maxRecDepth 100000
set_option maxHeartbeats 1000000
/-! Ev, part 11a: helpers for the soundness of expressions. -/
namespace Ev
open PySem PySem.Spec PyProof.Rows
open L2 (V Hp HO PE PT PS PSs PA PG PGs PI TE TT TA TS TG TGs TI It VK SqL SqT Rd Key upd upd_same upd_ne OpR CallR IxR SlR MtR MtM R2 tOp RelV Vals WX Takes Room FnOk Sp XK Ends rI rI0 CMul CDiv CPow KV Itl Itt Itr Its Vis Loc Gl)

theorem on1_rd {R : RC} {W : WX} {τ : HSt} {H F : Hp} {m : List Addr} {S : Store} {Q : VK} {x : Val} {x' : V} (sim : Sim R H F m S) (rx : RepV R F m x x') (h : Post R W (RepV R) τ H F m (on1 S x negD) Q) : L2.rU (fun i => .int (-i)) x' H Q := by
  obtain ⟨a, z, e1, e2, h⟩ := on1_inv h
  have r := rdv_rep sim rx e1
  cases a <;> simp only [negD] at e2 <;> cases e2
  cases r
  exact ⟨_, rfl, Post.get h sim rfl⟩
def rTwo (e f : Exp) (R : RC) (C : Ev.Cx) (W : WX) : TA := tEs R C W [e, f]
section
variable {R : RC} {C : Ev.Cx} {W : WX} {τ : HSt} {H : Hp}
/-- two in a row -/
theorem two {a b : Exp} {σ : Sig} {S : Store} {F : Hp} {m : List Addr} {γ δ : Type} {rel2 : Hp → List Addr → γ → δ → Prop} {f : Val → Val → Store → Ev.R γ} {Q : δ → Hp → Prop} {P : V → V → Hp → Prop} (sim : Sim R H F m S) (rs : RepS R F m σ τ)
    (h : Post R W rel2 τ H F m ((ev C a σ S).bind fun x S1 => (ev C b σ S1).bind fun y S2 => f x y S2) Q)
    (k : ∀ x y x' y' H2 S2 F2 m2, Step H F m H2 F2 m2 → Sim R H2 F2 m2 S2 → RepS R F2 m2 σ τ → RepV R F2 m2 x x' → RepV R F2 m2 y y' → Post R W rel2 τ H2 F2 m2 (f x y S2) Q → P x' y' H2) :
    tE R C W a τ H fun x H1 => tE R C W b τ H1 fun y H2 => P x y H2 :=
  ⟨σ, S, F, m, sim, rs, (Post.bind h).imp fun x' H1 ⟨x, S1, F1, m1, st1, sim1, rx, h1⟩ =>
    ⟨σ, S1, F1, m1, sim1, RepS.mono st1 rs, (Post.bind h1).imp fun y' H2 ⟨y, S2, F2, m2, st2, sim2, ry, h2⟩ => k x y x' y' H2 S2 F2 m2 (st1.trans st2) sim2 (RepS.mono (st1.trans st2) rs) (RepV.mono st2 rx) ry h2⟩⟩
/-- one -/
theorem one {a : Exp} {σ : Sig} {S : Store} {F : Hp} {m : List Addr} {γ δ : Type} {rel2 : Hp → List Addr → γ → δ → Prop} {f : Val → Store → Ev.R γ} {Q : δ → Hp → Prop} {P : V → Hp → Prop} (sim : Sim R H F m S) (rs : RepS R F m σ τ)
    (h : Post R W rel2 τ H F m ((ev C a σ S).bind fun x S1 => f x S1) Q)
    (k : ∀ x x' H1 S1 F1 m1, Step H F m H1 F1 m1 → Sim R H1 F1 m1 S1 → RepS R F1 m1 σ τ → RepV R F1 m1 x x' → Post R W rel2 τ H1 F1 m1 (f x S1) Q → P x' H1) :
    tE R C W a τ H fun x H1 => P x H1 :=
  ⟨σ, S, F, m, sim, rs, (Post.bind h).imp fun x' H1 ⟨x, S1, F1, m1, st1, sim1, rx, h1⟩ => k x x' H1 S1 F1 m1 st1 sim1 (RepS.mono st1 rs) rx h1⟩
theorem oneT {a : Tst} {σ : Sig} {S : Store} {F : Hp} {m : List Addr} {γ δ : Type} {rel2 : Hp → List Addr → γ → δ → Prop} {f : Bool → Store → Ev.R γ} {Q : δ → Hp → Prop} {P : Bool → Hp → Prop} (sim : Sim R H F m S) (rs : RepS R F m σ τ)
    (h : Post R W rel2 τ H F m ((evT C a σ S).bind fun x S1 => f x S1) Q)
    (k : ∀ x H1 S1 F1 m1, Step H F m H1 F1 m1 → Sim R H1 F1 m1 S1 → RepS R F1 m1 σ τ → Post R W rel2 τ H1 F1 m1 (f x S1) Q → P x H1) :
    tT R C W a τ H fun x H1 => P x H1 :=
  ⟨σ, S, F, m, sim, rs, (Post.bind h).imp fun x' H1 ⟨x, S1, F1, m1, st1, sim1, rx, h1⟩ => by cases rx; exact k _ H1 S1 F1 m1 st1 sim1 (RepS.mono st1 rs) h1⟩
theorem Post.bindE {α β γ δ : Type} {rel : Hp → List Addr → α → β → Prop} {rel2 : Hp → List Addr → γ → δ → Prop} {F : Hp} {m : List Addr} {r : Ev.R α} {f : α → Store → Ev.R γ} {Q2 : δ → Hp → Prop} (h : Post R W rel2 τ H F m (r.bind f) Q2) :
    Post R W rel τ H F m r (fun b H1 => ∃ a S1 F1 m1, r = .ok a S1 ∧ Step H F m H1 F1 m1 ∧ Sim R H1 F1 m1 S1 ∧ rel F1 m1 a b ∧ Post R W rel2 τ H1 F1 m1 (f a S1) Q2) := by
  cases r with
  | ok a S => exact fun b H' F' m' st sim re => ⟨a, S, F', m', rfl, st, sim, re, Post.step st h⟩
  | exc x S => exact h
  | no => exact h
theorem oneL {l : List Exp} {σ : Sig} {S : Store} {F : Hp} {m : List Addr} {γ δ : Type} {rel2 : Hp → List Addr → γ → δ → Prop} {f : List Val → Store → Ev.R γ} {Q : δ → Hp → Prop} {P : List V → Hp → Prop} (sim : Sim R H F m S) (rs : RepS R F m σ τ)
    (h : Post R W rel2 τ H F m ((evs C l σ S).bind fun x S1 => f x S1) Q)
    (k : ∀ x x' H1 S1 F1 m1, evs C l σ S = .ok x S1 → Step H F m H1 F1 m1 → Sim R H1 F1 m1 S1 → RepS R F1 m1 σ τ → RepVs R F1 m1 x x' → Post R W rel2 τ H1 F1 m1 (f x S1) Q → P x' H1) :
    tEs R C W l τ H fun x H1 => P x H1 :=
  ⟨σ, S, F, m, sim, rs, (Post.bindE h).imp fun x' H1 ⟨x, S1, F1, m1, e, st1, sim1, rx, h1⟩ => k x x' H1 S1 F1 m1 e st1 sim1 (RepS.mono st1 rs) rx h1⟩
theorem evs_len {es : List Exp} : ∀ {σ : Sig} {S S2 : Store} {vs : List Val}, evs C es σ S = .ok vs S2 → vs.length = es.length := by
  induction es with
  | nil => intro σ S S2 vs e; simp only [evs] at e; cases e; rfl
  | cons e0 es ih =>
    intro σ S S2 vs e
    simp only [evs] at e
    cases q1 : ev C e0 σ S with
    | ok v S1 =>
      rw [q1] at e
      simp only [Ev.R.bind_ok] at e
      cases q2 : evs C es σ S1 with
      | ok r S3 =>
        rw [q2] at e
        cases e
        simp [ih q2]
      | exc _ _ => rw [q2] at e; cases e
      | no => rw [q2] at e; cases e
    | exc _ _ => rw [q1] at e; cases e
    | no => rw [q1] at e; cases e
/-- a comparison's answer, as a value -/
theorem cmpQ {o : Cop} {x y : Val} {x' y' : V} {S : Store} {F : Hp} {m : List Addr} {Q : VK} (sim : Sim R H F m S) (rx : RepV R F m x x') (ry : RepV R F m y y')
    {f : Bool → Store → Ev.R Val} (h : Post R W (RepV R) τ H F m ((on2b S x y (cmpD o)).bind f) Q) {P : Bool → Hp → Prop} (k : ∀ t H1 S1 F1 m1, Step H F m H1 F1 m1 → Sim R H1 F1 m1 S1 → Post R W (RepV R) τ H1 F1 m1 (f t S1) Q → P t H1) :
    rCmp R o x' y' H (fun v H' => ∃ c, v = .bl c ∧ P c H') :=
  cmp_val o sim rx ry ((Post.bind h).imp fun t H1 ⟨t', S1, F1, m1, st1, sim1, e, h1⟩ => by cases e; exact k _ H1 S1 F1 m1 st1 sim1 h1)
theorem cmpQB {o : Cop} {x y : Val} {x' y' : V} {S : Store} {F : Hp} {m : List Addr} {Q : Bool → Hp → Prop} (sim : Sim R H F m S) (rx : RepV R F m x x') (ry : RepV R F m y y')
    {f : Bool → Store → Ev.R Bool} (h : Post R W relB τ H F m ((on2b S x y (cmpD o)).bind f) Q) {P : Bool → Hp → Prop} (k : ∀ t H1 S1 F1 m1, Step H F m H1 F1 m1 → Sim R H1 F1 m1 S1 → Post R W relB τ H1 F1 m1 (f t S1) Q → P t H1) :
    rCmp R o x' y' H (fun v H' => ∃ c, v = .bl c ∧ P c H') :=
  cmp_val o sim rx ry ((Post.bind h).imp fun t H1 ⟨t', S1, F1, m1, st1, sim1, e, h1⟩ => by cases e; exact k _ H1 S1 F1 m1 st1 sim1 h1)
end

theorem OpR.bl {X : HCx} {f : Value → Value → Sem Value} {r : R2} (h : OpR X f r) : OpR X f (fun x y H Q => r x y H fun v H' => ∃ c, v = .bl c ∧ Q (.bl c) H') := by
  intro pins s σ H x y v u Q I rx ry q
  exact L2.thn (h pins s σ H x y v u _ I rx ry q) fun z s1 ⟨w, H1, I1, r1, c, e, q1⟩ => ⟨w, H1, I1, r1, by rw [e]; exact q1⟩
/-- a comparison whose answer is a bool -/
def rCB (R : RC) (o : Cop) : R2 := fun x y H Q => rCmp R o x y H fun v H' => ∃ c, v = .bl c ∧ Q (.bl c) H'
theorem op_cb {X : HCx} {R : RC} (hK : R.K = X.K) (hu : X.A.units + 64 < cLine) (o : Cop) : OpR X (compareOp (cop o)) (rCB R o) := OpR.bl (op_cmp hK hu o)
theorem noSet_last {o p : CmpOp} {b c : Expr} (h : noSet c = true) : lastMarks [o, p] [b, c] = false := noSet_marks h
theorem str_of {x : Str} (t : List Nat) (h : x = ⟨t.toArray⟩) : x = ⟨t.toArray⟩ := h

theorem pe_blt {X : HCx} {x : Str} {p pos : Pos} {e : Expr} {es : List Expr} {t : TA} (b : Blt) (h1 : bltName b = some x) (hc : needC b = true → X.calm = true) (hu : X.A.units + 64 < cLine) (gd : X.A.guards = some []) (sys : SysK X.K) (hg : Gl X x) (hm : X.mg x = none) (hn : x ≠ nam) (hdb : (x == dbg) = false) (ha : PA X (e :: es) t)
    (he : starEach (e :: es) X.env = (false, eval e X.env) :: starEach es X.env) (hpl : (backTo pos (starEach es X.env)).any (·.1) = false) : PE X (.Call (.Name x p) (e :: es) [] pos) (L2.tCB (rBlt X.K b) t) := by
  cases b <;> simp only [bltName, Option.some.injEq] at h1 <;> first | (cases h1; done) | skip
  all_goals subst h1
  all_goals first
    | exact L2.pe_callB (call_blt .len hc hu gd sys) hg hm (by with_unfolding_all rfl) ha hn hdb he hpl
    | exact L2.pe_callTy (call_blt .tuple hc hu gd sys) hg hm (by with_unfolding_all rfl) ha hn hdb he hpl
    | exact L2.pe_callTy (call_blt .list hc hu gd sys) hg hm (by with_unfolding_all rfl) ha hn hdb he hpl
    | exact L2.pe_callB (call_blt .all hc hu gd sys) hg hm (by with_unfolding_all rfl) ha hn hdb he hpl
    | exact L2.pe_callB (call_blt .any hc hu gd sys) hg hm (by with_unfolding_all rfl) ha hn hdb he hpl
    | exact L2.pe_callB (call_blt .sum hc hu gd sys) hg hm (by with_unfolding_all rfl) ha hn hdb he hpl
    | exact L2.pe_callB (call_blt .max hc hu gd sys) hg hm (by with_unfolding_all rfl) ha hn hdb he hpl
    | exact L2.pe_callB (call_blt .min hc hu gd sys) hg hm (by with_unfolding_all rfl) ha hn hdb he hpl
    | exact L2.pe_callB (call_blt .max2 hc hu gd sys) hg hm (by with_unfolding_all rfl) ha hn hdb he hpl
    | exact L2.pe_callB (call_blt .min2 hc hu gd sys) hg hm (by with_unfolding_all rfl) ha hn hdb he hpl
    | exact L2.pe_callTy (call_blt .int hc hu gd sys) hg hm (by with_unfolding_all rfl) ha hn hdb he hpl
    | exact L2.pe_callB (call_blt .repr hc hu gd sys) hg hm (by with_unfolding_all rfl) ha hn hdb he hpl
    | exact L2.pe_callB (call_blt .ord hc hu gd sys) hg hm (by with_unfolding_all rfl) ha hn hdb he hpl
    | exact L2.pe_callTy (call_blt .str hc hu gd sys) hg hm (by with_unfolding_all rfl) ha hn hdb he hpl
    | exact L2.pe_callTy (call_blt .dict hc hu gd sys) hg hm (by with_unfolding_all rfl) ha hn hdb he hpl
theorem walk_src {R : RC} {H F : Hp} {m : List Addr} {S : Store} (sim : Sim R H F m S) {v : Val} {x : V} {p : Src} (rv : RepV R F m v x) (e : srcOf S v = some p) :
    (∃ a xs, x = .ref a ∧ SqL R.K H a xs ∧ DWalk R F m p (Itl R.K a)) ∨ (∃ a xs, x = .ref a ∧ SqT R.K H a xs ∧ DWalk R F m p (Itt R.K a)) ∨ ∃ z, x = .str z ∧ DWalk R F m p (Its z) := by
  cases v with
  | d y =>
    cases y with
    | lst l =>
      simp only [srcOf, Option.some.injEq] at e
      subst e
      obtain ⟨a, xs, rfl, h, r⟩ := rv
      exact .inl ⟨a, xs, rfl, .inl (sim.sub.rd h), walk_lst h r⟩
    | tup l =>
      simp only [srcOf, Option.some.injEq] at e
      subst e
      obtain ⟨a, xs, rfl, h, r⟩ := rv
      exact .inr (.inl ⟨a, xs, rfl, sim.sub.sqT h, walk_tup h r⟩)
    | str t =>
      simp only [srcOf] at e
      split at e
      · cases e
        cases rv
        exact .inr (.inr ⟨_, rfl, walk_str⟩)
      · cases e
    | _ => simp only [srcOf] at e; cases e
  | ref n =>
    obtain ⟨a, hm, rfl⟩ := rv
    simp only [srcOf] at e
    cases hS : S[n]? with
    | none => rw [hS] at e; cases e
    | some c =>
      rw [hS] at e
      have hc := sim.cell n c a hS hm
      cases c with
      | lst l =>
        cases e
        obtain ⟨_, xs, h1, h2⟩ := hc
        exact .inl ⟨a, xs, rfl, .inl (.inl h1), walk_cell hm⟩
      | dct l => cases e
      | fz y =>
        cases y with
        | lst l =>
          cases e
          obtain ⟨b, xs, e1, h, r⟩ := hc
          cases e1
          exact .inl ⟨a, xs, rfl, .inl (sim.sub.rd h), walk_lst h r⟩
        | _ => cases e
theorem onInt_inv {α β : Type} {R : RC} {W : WX} {rel : Hp → List Addr → α → β → Prop} {τ : HSt} {H F : Hp} {m : List Addr} {S : Store} {Q : β → Hp → Prop} {v : Val} {x : V} {f : Int → Ev.R α} (sim : Sim R H F m S) (rv : RepV R F m v x) (h : Post R W rel τ H F m (onInt S v f) Q) : ∃ i, x = .int i ∧ rdv S v = some (.int i) ∧ Post R W rel τ H F m (f i) Q := by
  unfold onInt at h
  cases e : rdv S v with
  | none => rw [e] at h; exact h.elim
  | some y =>
    rw [e] at h
    cases y with
    | int i =>
      have r := rdv_rep sim rv e
      exact ⟨i, r, rfl, h⟩
    | _ => exact h.elim
theorem ofSome_inv {α β : Type} {R : RC} {W : WX} {rel : Hp → List Addr → α → β → Prop} {τ : HSt} {H F : Hp} {m : List Addr} {S : Store} {Q : β → Hp → Prop} {o : Option α} (h : Post R W rel τ H F m (Ev.R.of o S) Q) : ∃ a, o = some a ∧ Post R W rel τ H F m (.ok a S) Q := by
  cases o with
  | none => exact h.elim
  | some a => exact ⟨a, rfl, h⟩
theorem po_weak {X : HCx} {e : Option Expr} {t t' : L2.TO} (h : L2.PO X e t) (w : ∀ σ H Q, t' σ H Q → t σ H Q) : L2.PO X e t' := ⟨fun pins s σ H Q I q => h.run pins s σ H Q I (w σ H Q q)⟩
theorem mEs_len {nm : Nm} {sc : Scope} {fb : Str → Bool} : ∀ {l : List Exp} {es : List Expr}, mEs nm l sc fb es = true → l.length = es.length
  | [], es, h => by cases es <;> simp [mEs] at h ⊢
  | e :: l, es, h => by
    cases es with
    | nil => simp [mEs] at h
    | cons a es => simp only [mEs, Bool.and_eq_true] at h; simp [mEs_len h.2]
end Ev

end

section
set_option Elab.async false
set_option linter.all false
set_option maxRecDepth 100000
/-! Ev, part Xa: own errors as values: their fields, isinstance. -/
namespace Ev
open PySem PySem.Spec PyProof.Rows
open L2 (V Hp HO PE PT PS PSs PA PG PGs PI TE TT TA TS TG TGs VK SqL SqT Rd Key upd upd_same upd_ne OpR CallR RelV Vals WX Takes Room FnOk Sp XK Ends Zc ClsV Gl)
theorem RepF.look {R : RC} {F : Hp} (hf : ∀ k, R.fn k = fldN k) {f : Nat} {y : D} : ∀ {l : List (Nat × D)} {xs : List (Str × V)}, RepF R F l xs → l.lookup f = some y → ∃ v, xs.lookup (fldN f) = some v ∧ Rep R F y v
  | [], _, _, e => by cases e
  | (k, x) :: l, _, ⟨v, r, e, h, t⟩, e2 => by
    subst e
    by_cases hk : f = k
    · subst hk
      simp at e2
      subst e2
      refine ⟨v, ?_, h⟩
      rw [hf]
      simp
    · have h1 : (f == k) = false := by simpa using hk
      rw [List.lookup_cons, h1] at e2
      obtain ⟨w, w1, w2⟩ := RepF.look hf t e2
      refine ⟨w, ?_, w2⟩
      have h2 : (fldN f == R.fn k) = false := by
        rw [hf]
        simp only [beq_eq_false_iff_ne, ne_eq]
        exact fun e => hk (fldN_inj e)
      rw [List.lookup_cons, h2]
      exact w1
theorem ExAt.inst {X : HCx} {pins : List (Addr × Obj)} {τ : HSt} {H : Hp} {s : Shared} {a C : Addr} {d : Option Addr} (I : L2.Inv X pins τ H s) (h : ExAt H a C d) (hd : d = none ∨ ∃ dd fs, d = some dd ∧ H dd = some (.xd fs)) : ∃ oe od, PySem.W.InstAt s.heap a oe C od := by
  obtain ⟨oe, h1, hz, vs, hv⟩ := h
  obtain ⟨ha, _⟩ := (I.hok a _ h1 : L2.ObjOk X.prog X.w H s.heap a (exHO oe))
  rcases hd with rfl | ⟨dd, fs, rfl, e⟩
  · exact ⟨oe, none, ha, hz.1, by unfold PySem.W.notCls; rw [hv] <;> rfl, by rw [hz.2]; trivial⟩
  · have hx : L2.ObjOk X.prog X.w H s.heap dd (.xd fs) := I.hok dd _ e
    obtain ⟨mA, hns, hr⟩ := hx
    obtain ⟨od, ho, hl⟩ := L2.lookIn_ns hns
    exact ⟨oe, some od, ha, hz.1, by unfold PySem.W.notCls; rw [hv] <;> rfl, by rw [hz.2]; exact ho⟩
/-- isinstance of a caught exception -/
def rIsX (K : PySem.W.Frag) : List V → Hp → VK → Prop := fun xs H Q => ∃ a C d b, ClsF K C ∧ ExAt H a C d ∧ (d = none ∨ ∃ dd fs, d = some dd ∧ H dd = some (.xd fs)) ∧ Q (.bl b) H ∧
  ((∃ c u, xs = [.ref a, c] ∧ ClsV c u ∧ PySem.W.kitOne K (.ref C) u = some b) ∨ ∃ tp cs us, xs = [.ref a, .ref tp] ∧ H tp = some (.tup cs) ∧ Paired ClsV cs us ∧ PySem.W.kitAny K (.ref C) us = some b)
theorem call_isX {X : HCx} : CallR X (.builtin "isinstance") (rIsX X.K) := by
  intro pins s σ H xs us Q I r h
  obtain ⟨a, C, d, b, T, hx, hd, q, h⟩ := h
  obtain ⟨oe, od, J⟩ := hx.inst I hd
  have Z := PySem.W.kitx_exc (K := X.K) (x := a) (C := C) (ox := oe) (od := od) T.hcl T.hga T.hgt T.hsub T.ha T.hn T.htk T.hm
  rcases h with ⟨c, u, rfl, k, e⟩ | ⟨tp, cs, ws, rfl, hT, k, e⟩
  · obtain ⟨u1, u2, rfl, r1, r2⟩ := L2.vals2 r
    cases (show u1 = Value.ref a from r1)
    have e2 := k.eq r2
    subst e2
    exact PySem.W.kia_one Z I.kIn J e (fun z => nomatch z) fun tk => ⟨.bl b, H, I.tok tk, rfl, q⟩
  · obtain ⟨u1, u2, rfl, r1, r2⟩ := L2.vals2 r
    cases (show u1 = Value.ref a from r1)
    cases (show u2 = Value.ref tp from r2)
    obtain ⟨_, its, rv, o, h1, h2, n, h3⟩ := (show L2.ObjOk X.prog X.w H s.heap tp (.tup cs) from I.hok tp _ hT)
    have e3 := ClsV.all k rv
    subst e3
    obtain ⟨oc, od, dt, sl⟩ := o
    simp only at h2 h3
    subst h2 h3
    exact PySem.W.kia_tup Z I.kIn J h1 e (fun z => nomatch z) fun tk => ⟨.bl b, H, I.tok tk, rfl, q⟩
/-- o.f, o a caught exception -/
def rFldX (K : PySem.W.Frag) (n : Str) : V → Hp → VK → Prop := fun x H1 Q => ∃ a C dd fs v, x = .ref a ∧ ClsF K C ∧ PySem.W.findIn K (.ref C) n = some none ∧ ExAt H1 a C (some dd) ∧ H1 dd = some (.xd fs) ∧ fs.lookup n = some v ∧ Q v H1
theorem pe_fldX {X : HCx} {e : Expr} {te : TE} {pos : Pos} {n : Str} (he : PE X e te) (hb : attributeBase e n X.env (eval e X.env) = eval e X.env) : PE X (.Attribute e n pos) (fun σ H Q => te σ H fun x H1 => rFldX X.K n x H1 Q) := by
  refine ⟨fun pins s σ H Q I h => ?_⟩
  refine L2.attr_of hb (L2.thn (he.run pins s σ H _ I h) fun u s1 hh => ?_)
  obtain ⟨x, H1, I1, rx, a, C, dd, fs, v, ex, T, hno, ⟨oe, hx, hz, vs, hd⟩, ea, l, q⟩ := hh
  subst ex
  obtain rfl : u = Value.ref a := rx
  obtain ⟨ha, _⟩ := (I1.hok a _ hx : L2.ObjOk X.prog X.w H1 s1.heap a (exHO oe))
  have hx : L2.ObjOk X.prog X.w H1 s1.heap dd (.xd fs) := I1.hok dd _ ea
  obtain ⟨mA, hns, hr⟩ := hx
  obtain ⟨od, ho, hl⟩ := L2.lookIn_ns hns
  obtain ⟨u, hu, ru⟩ := L2.RelO.some_of (v := v) (o := mA n) (by rw [← l]; exact hr n)
  have J : PySem.W.InstAt s1.heap a oe C (some od) := ⟨ha, hz.1, by unfold PySem.W.notCls; rw [hd] <;> rfl, by rw [hz.2]; exact ho⟩
  exact HandSPX.exc_get I1.kIn J T.hga T.hgt T.hsub (PySem.W.findObj_own T.hdct hno rfl (by rw [hl, hu])) (L2.handed_of ru) ⟨v, H1, I1.tok _, ru, q⟩
section
variable {R : RC} {C : Ev.Cx} {nm : Nm} {X : HCx} {sc : Scope} {fb : Str → Bool} {W : WX} {x : Exn} {Ca : Addr}
/-- a class's value -/
noncomputable def clV (R : RC) (t : Nat) : Value := if t = veI then .type "ValueError" else match R.cl t with
  | some C => .ref C
  | none => .none
noncomputable def clW (R : RC) (t : Nat) : V := if t = veI then .ty "ValueError" else match R.cl t with
  | some C => .ref C
  | none => .non
theorem mCl_ok (g : GX R C nm X sc fb W) {t : Nat} {q : Expr} (h : mCl nm sc t q = true) : PE X q (L2.tC (clW R t)) ∧ ClsV (clW R t) (clV R t) ∧ (t ≠ veI → ∃ C, R.cl t = some C) := by
  unfold mCl at h
  split at h
  · rename_i y hy
    obtain ⟨p, rfl⟩ := asName_inv hy
    simp only [Bool.and_eq_true, Bool.not_eq_true'] at h
    obtain ⟨⟨h1, h2⟩, h3⟩ := h
    by_cases ht : t = veI
    · subst ht
      simp only [beq_self_eq_true, if_true, Bool.and_eq_true, decide_eq_true_eq] at h3
      obtain ⟨rfl, h3⟩ := h3
      obtain ⟨hm, hn, hd⟩ := g.blt _ h3
      have hv : bootBuiltins ("ValueError" : Str) = some (.type "ValueError") := by with_unfolding_all rfl
      refine ⟨?_, ?_, fun z => absurd rfl z⟩
      · have := L2.pe_bltn (X := X) (pos := p) (v := V.ty "ValueError") (glB_ok g.hs h1) hm hv rfl hn hd
        simpa [clW] using this
      · simp only [clW, clV, if_true]; exact .ty _
    · have hb : (t == veI) = false := by simpa using ht
      rw [hb] at h3
      simp only [Bool.false_eq_true, if_false] at h3
      split at h3
      · rename_i e he
        have := of_decide_eq_true h3
        subst this
        obtain ⟨C1, hC⟩ := g.ecs.all t e he
        obtain ⟨e', he', hmg, _⟩ := g.ecs.at_ t C1 hC
        rw [he] at he'
        cases he'
        refine ⟨?_, ?_, fun _ => ⟨C1, hC⟩⟩
        · have := L2.pe_glob (X := X) (pos := p) (v := V.ref C1) (glB_ok g.hs h1) hmg rfl h2
          simpa [clW, ht, hC] using this
        · simp only [clW, clV, ht, if_false, hC]; exact .own _
      · cases h3
  · cases h
theorem mCls_ok (g : GX R C nm X sc fb W) : ∀ {ts : List Nat} {l : List Expr}, mCls nm sc ts l = true → noStar l = true → PA X l (fun _ H Q => Q (ts.map (clW R)) H) ∧ Paired ClsV (ts.map (clW R)) (ts.map (clV R)) ∧ (∀ t ∈ ts, t ≠ veI → ∃ C, R.cl t = some C) ∧ ts.length = l.length
  | [], l, h, hs => by
    cases l with
    | nil => exact ⟨L2.pa_nil, .nil, (fun t ht => by cases ht), rfl⟩
    | cons => simp [mCls] at h
  | t :: ts, l, h, hs => by
    cases l with
    | nil => simp [mCls] at h
    | cons q l =>
      simp only [mCls, Bool.and_eq_true] at h
      obtain ⟨p1, n1, c1⟩ := mCl_ok g h.1
      obtain ⟨p2, n2, c2, e2⟩ := mCls_ok g h.2 (noStar_tl hs)
      refine ⟨pa_weak (L2.pa_cons p1 p2 (noStar_each _ hs)) fun σ H Q q => q, .cons n1 n2, fun t' ht => ?_, by simp [e2]⟩
      rcases List.mem_cons.mp ht with rfl | ht
      · exact c1
      · exact c2 t' ht
theorem kit_cl (g : GX R C nm X sc fb W) {c : Nat} (hC : R.cl c = some Ca) {t : Nat} (ht : t ≠ veI → ∃ C, R.cl t = some C) : PySem.W.kitOne X.K (.ref Ca) (clV R t) = some (belowB nm c t) := by
  obtain ⟨e, he, _, _, hve, hall, _⟩ := g.ecs.at_ c Ca hC
  by_cases h : t = veI
  · simp only [clV, h, if_true, belowB, beq_self_eq_true, Bool.true_or]
    exact hve
  · obtain ⟨C1, h1⟩ := ht h
    simp only [clV, h, if_false, h1, belowB, he]
    have hb : (t == veI) = false := by simpa using h
    rw [hb, Bool.false_or]
    exact (hall t C1 h1).2
theorem kit_cls' (g : GX R C nm X sc fb W) {c : Nat} (hC : R.cl c = some Ca) : ∀ {ts : List Nat}, (∀ t ∈ ts, t ≠ veI → ∃ C, R.cl t = some C) → PySem.W.kitAny X.K (.ref Ca) (ts.map (clV R)) = some (ts.any (belowB nm c))
  | [], _ => L2.kitAny_nil
  | t :: ts, h => by
    have ih := kit_cls' g hC (ts := ts) fun t ht => h t (List.mem_cons_of_mem _ ht)
    refine L2.kitAny_cons (kit_cl g hC (h t (List.mem_cons_self ..))) (fun hb => ?_) fun hb => ?_
    · rw [ih]; simp [List.any_cons, hb]
    · simp [List.any_cons, hb]
theorem cs_ok (g : GX R C nm X sc fb W) {c : Nat} (hC : R.cl c = some Ca) {ts cs : List Nat} (h : csOk nm ts cs = true) : cs.contains c = ts.any (belowB nm c) := by
  obtain ⟨e, he, _⟩ := g.ecs.at_ c Ca hC
  have hl : c < nm.ecs.length := by
    rcases Nat.lt_or_ge c nm.ecs.length with q | q
    · exact q
    · rw [List.getElem?_eq_none q] at he; cases he
  have := List.all_eq_true.mp h c (List.mem_range.mpr hl)
  simpa using this
theorem Rep.exc {F : Hp} (g : GX R C nm X sc fb W) {c : Nat} {fs : List (Nat × D)} {v : V} (h : Rep R F (.ins c fs) v) : ∃ a Ca, v = .ref a ∧ R.cl c = some Ca ∧ ∃ d, ExAt F a Ca d ∧ ((fs = [] ∧ d = none) ∨ ∃ dx xs, d = some dx ∧ F dx = some (.xd xs) ∧ RepF R F fs xs) := by
  obtain ⟨a, Ca, e, h1, ⟨h2, _⟩ | ⟨_, h2⟩⟩ := h
  · rw [g.ecs.ex c Ca h1] at h2; cases h2
  · exact ⟨a, Ca, e, h1, h2⟩
theorem pe_att (g : GX R C nm X sc fb W) {e : Exp} {f : Nat} {o : Expr} {p : Pos} (he : PE X o (tE R C W e)) (hf : f < nFld) (hb : noCall0 o = true) : PE X (.Attribute o (fldN f) p) (tE R C W (.att e f)) := by
  refine pe_weak (pe_fldX he (noCall_base hb)) fun τ H Q ⟨σ, S, F, m, sim, rs, q⟩ => ?_
  simp only [ev] at q
  refine one sim rs q fun x x' H2 S2 F2 m2 st sim2 rs2 rx q2 => ?_
  obtain ⟨z, y, e1, e2, q3⟩ := on1_inv q2
  cases z with
  | ins c fs =>
    have rz : Rep R F2 (.ins c fs) x' := rdv_ins sim2 rx e1
    obtain ⟨a, Ca, rfl, hC, d, hx, h3⟩ := rz.exc g
    have e2 : fs.lookup f = some y := e2
    rcases h3 with ⟨rfl, _⟩ | ⟨dx, xs, rfl, h4, h5⟩
    · cases e2
    · obtain ⟨v, e3, e4⟩ := h5.look g.ecs.fn e2
      obtain ⟨_, _, _, T, _⟩ := g.ecs.at_ c Ca hC
      exact ⟨a, Ca, dx, xs, v, rfl, T, g.ecs.nof c Ca hC f hf, hx.mono sim2.sub, sim2.sub _ _ h4, e3, Post.get q3 sim2 e4⟩
  | _ => simp [attD] at e2
theorem pe_isx (g : GX R C nm X sc fb W) {e : Exp} {ts cs : List Nat} {o q : Expr} {p pp : Pos} (he : PE X o (tE R C W e)) (h1 : nm.blts.contains isn = true) (h2 : glB sc isn = true) (h3 : noStar [o, q] = true) (h4 : mClE nm sc ts q = true) (h5 : csOk nm ts cs = true) :
    PE X (.Call (.Name isn p) [o, q] [] pp) (tE R C W (.isx e ts cs)) := by
  obtain ⟨hm, hn, hd⟩ := g.blt isn h1
  have hs2 := noStar_tl h3
  have hv : bootBuiltins isn = some (.builtin "isinstance") := by with_unfolding_all rfl
  have red : ∀ τ H Q, tE R C W (.isx e ts cs) τ H Q → tE R C W e τ H fun x' H2 => ∃ c a Ca d, x' = .ref a ∧ R.cl c = some Ca ∧ ExAt H2 a Ca d ∧ (d = none ∨ ∃ dd fs, d = some dd ∧ H2 dd = some (.xd fs)) ∧
      ∃ S2 F2 m2, Sim R H2 F2 m2 S2 ∧ Post R W (RepV R) τ H2 F2 m2 (.ok (.d (.bl (cs.contains c))) S2) Q := fun τ H Q ⟨σ, S, F, m, sim, rs, q⟩ => by
    simp only [ev] at q
    refine one sim rs q fun x x' H2 S2 F2 m2 st sim2 rs2 rx q2 => ?_
    obtain ⟨z, y, e1, e2, q3⟩ := on1_inv q2
    cases z with
    | ins c fs =>
      have rz : Rep R F2 (.ins c fs) x' := rdv_ins sim2 rx e1
      obtain ⟨a, Ca, rfl, hC, d, hx, h3⟩ := rz.exc g
      simp only [isxD, Option.some.injEq] at e2
      subst e2
      refine ⟨c, a, Ca, d, rfl, hC, hx.mono sim2.sub, ?_, S2, F2, m2, sim2, q3⟩
      rcases h3 with ⟨_, h3⟩ | ⟨dx, xs, h3, h4, _⟩
      · exact .inl h3
      · exact .inr ⟨dx, xs, h3, sim2.sub _ _ h4⟩
    | _ => simp [isxD] at e2
  unfold mClE at h4
  split at h4
  · rename_i l hl
    obtain ⟨k, pt, rfl⟩ := asTup_inv hl
    simp only [Bool.and_eq_true, decide_eq_true_eq] at h4
    obtain ⟨p1, p2, p3, p4⟩ := mCls_ok g h4.1.1 h4.1.2
    refine pe_weak (L2.pe_callB call_isX (glB_ok g.hs h2) hm hv (L2.pa_cons he (L2.pa_cons (L2.pe_tup p1) L2.pa_nil (noStar_each _ hs2)) (noStar_each _ h3)) hn hd (noStar_each _ h3) (noStar_any _ _ hs2)) fun τ H Q q => ?_
    obtain ⟨σ, S, F, m, sim, rs, q⟩ := red τ H Q q
    refine ⟨σ, S, F, m, sim, rs, q.imp fun x' H2 ⟨c, a, Ca, d, e1, hC, hx, hd, S2, F2, m2, sim2, q2⟩ => ⟨?_, fun tp htp => ?_⟩⟩
    · rw [List.length_map, p4]
      exact Nat.le_trans h4.2 (by rw [sizeLine_eq]; decide)
    · subst e1
      obtain ⟨hF, hM⟩ := sim2.fresh htp
      have sim3 := sim2.over (.tup (ts.map (clW R))) hM hF
      have st3 := (Step.refl H2 F2 m2).over (.tup (ts.map (clW R))) htp
      obtain ⟨_, _, _, T, _⟩ := g.ecs.at_ c Ca hC
      have hsub : Sub H2 (upd H2 tp (.tup (ts.map (clW R)))) := fun b u e => by rw [upd_ne (L2.ne_of_none e htp)]; exact e
      refine ⟨a, Ca, d, cs.contains c, T, hx.mono hsub, ?_, Post.get (Post.step st3 q2) sim3 rfl, .inr ⟨tp, _, _, rfl, upd_same, p2, ?_⟩⟩
      · rcases hd with hd | ⟨dd, fs, hd, e⟩
        · exact .inl hd
        · exact .inr ⟨dd, fs, hd, hsub _ _ e⟩
      · rw [cs_ok g hC h5]
        exact kit_cls' g hC p3
  · split at h4
    · rename_i t
      obtain ⟨p1, p2, p3⟩ := mCl_ok g h4
      refine pe_weak (L2.pe_callB call_isX (glB_ok g.hs h2) hm hv (L2.pa_cons he (L2.pa_cons p1 L2.pa_nil (noStar_each _ hs2)) (noStar_each _ h3)) hn hd (noStar_each _ h3) (noStar_any _ _ hs2)) fun τ H Q q => ?_
      obtain ⟨σ, S, F, m, sim, rs, q⟩ := red τ H Q q
      refine ⟨σ, S, F, m, sim, rs, q.imp fun x' H2 ⟨c, a, Ca, d, e1, hC, hx, hd, S2, F2, m2, sim2, q2⟩ => ?_⟩
      subst e1
      obtain ⟨_, _, _, T, _⟩ := g.ecs.at_ c Ca hC
      refine ⟨a, Ca, d, cs.contains c, T, hx, hd, Post.get q2 sim2 rfl, .inl ⟨_, _, rfl, p2, ?_⟩⟩
      rw [cs_ok g hC h5]
      simp only [List.any_cons, List.any_nil, Bool.or_false]
      exact kit_cl g hC p3
    · cases h4
end
end Ev

end

section
set_option Elab.async false
set_option linter.all false
set_option maxRecDepth 100000
set_option maxHeartbeats 1000000
/-! Ev, part 11: the soundness of expressions. -/
namespace Ev
open PySem PySem.Spec PyProof.Rows
open L2 (V Hp HO PE PT PS PSs PA PG PGs PI TE TT TA TS TG TGs TI It VK SqL SqT Rd Key upd upd_same upd_ne OpR CallR IxR SlR MtR MtM R2 tOp RelV Vals WX Takes Room FnOk Sp XK Ends rI rI0 CMul CDiv CPow KV Itl Itt Itr Its Vis Loc Gl)

mutual
theorem mE_ok {R : RC} {C : Ev.Cx} {nm : Nm} : ∀ (e : Exp) {X : HCx} {sc : Scope} {fb : Str → Bool} {W : WX} (g : GX R C nm X sc fb W) (a : Expr), mE nm e sc fb a = true → PE X a (tE R C W e)
  | .lit x, X, sc, fb, W, g, a, h => by
    simp only [mE] at h
    unfold mLit at h
    split at h
    · cases of_decide_eq_true h
      exact pe_weak L2.pe_int fun τ H Q ⟨σ, S, F, m, sim, rs, q⟩ => Post.get q sim rfl
    · cases of_decide_eq_true h
      exact pe_weak L2.pe_str fun τ H Q ⟨σ, S, F, m, sim, rs, q⟩ => Post.get q sim rfl
    · cases of_decide_eq_true h
      exact pe_weak L2.pe_bl fun τ H Q ⟨σ, S, F, m, sim, rs, q⟩ => Post.get q sim rfl
    · exact pe_weak L2.pe_non fun τ H Q ⟨σ, S, F, m, sim, rs, q⟩ => Post.get q sim rfl
    · cases h
  | .var i, X, sc, fb, W, g, a, h => by
    simp only [mE] at h
    split at h
    · rename_i x hx
      obtain ⟨p, rfl⟩ := asName_inv hx
      simp only [Bool.and_eq_true, decide_eq_true_eq, Bool.not_eq_true'] at h
      obtain ⟨⟨⟨h1, h2⟩, h3⟩, h4⟩ := h
      refine pe_weak (L2.pe_var (i := i) (by rw [g.hN]; exact h1) (visB_ok g.hs h2) h3 h4) fun τ H Q ⟨σ, S, F, m, sim, rs, q⟩ => ?_
      simp only [ev] at q
      split at q
      · rename_i v hv
        obtain ⟨v', e1, r⟩ := rs.2 i v hv
        exact ⟨v', e1, Post.get q sim r⟩
      · exact q.elim
    · cases h
  | .glo i, X, sc, fb, W, g, a, h => by
    simp only [mE] at h
    split at h
    · rename_i x hx
      obtain ⟨p, rfl⟩ := asName_inv hx
      simp only [Bool.and_eq_true, decide_eq_true_eq, Bool.not_eq_true'] at h
      obtain ⟨⟨h1, h2⟩, h3⟩ := h
      cases hd : C.glo i with
      | none => exact ⟨fun pins s τ H Q I ⟨σ, S, F, m, sim, rs, q⟩ => by simp only [ev, hd] at q; exact q.elim⟩
      | some d =>
        obtain ⟨v, u, hm, hr, rep⟩ := g.glo i x d h1 hd
        refine pe_weak (L2.pe_glob (glB_ok g.hs h2) hm hr h3) fun τ H Q ⟨σ, S, F, m, sim, rs, q⟩ => ?_
        simp only [ev, hd] at q
        exact Post.get q sim (rep F)
    · cases h
  | .bin o p q, X, sc, fb, W, g, a, h => by
    simp only [mE] at h
    split at h
    · rename_i l op r hx
      obtain ⟨pp, rfl⟩ := asBin_inv hx
      simp only [Bool.and_eq_true, decide_eq_true_eq] at h
      obtain ⟨⟨rfl, h2⟩, h3⟩ := h
      refine pe_weak (L2.pe_op (op_bin o) (mE_ok p g l h2) (mE_ok q g r h3)) fun τ H Q ⟨σ, S, F, m, sim, rs, q⟩ => ?_
      simp only [ev] at q
      exact two sim rs q fun x y x' y' H2 S2 F2 m2 st sim2 rs2 rx ry q2 => by rw [← g.hK]; exact bin_val o sim2 rx ry q2
    · cases h
  | .neg p, X, sc, fb, W, g, a, h => by
    simp only [mE] at h
    split at h
    · rename_i o l hx
      obtain ⟨pp, rfl⟩ := asUn_inv hx
      simp only [Bool.and_eq_true, decide_eq_true_eq] at h
      obtain ⟨rfl, h2⟩ := h
      refine pe_weak (L2.pe_un L2.un_neg (mE_ok p g l h2)) fun τ H Q ⟨σ, S, F, m, sim, rs, q⟩ => ?_
      simp only [ev] at q
      exact one sim rs q fun x x' H2 S2 F2 m2 st sim2 rs2 rx q2 => on1_rd sim2 rx q2
    · cases h
  | .cmp o p q, X, sc, fb, W, g, a, h => by
    simp only [mE] at h
    split at h
    · rename_i l op r hx
      obtain ⟨pp, rfl⟩ := asCmp1_inv hx
      simp only [Bool.and_eq_true, decide_eq_true_eq] at h
      obtain ⟨⟨⟨rfl, h2⟩, h3⟩, h4⟩ := h
      refine pe_weak (L2.pe_cmpR (op_cb g.hK g.hu o) (mE_ok p g l h2) (mE_ok q g r h3) (noSet_marks h4)) fun τ H Q ⟨σ, S, F, m, sim, rs, q⟩ => ?_
      simp only [ev] at q
      exact two sim rs q fun x y x' y' H2 S2 F2 m2 st sim2 rs2 rx ry q2 => cmpQ sim2 rx ry q2 fun t H3 S3 F3 m3 st3 sim3 q3 => Post.get q3 sim3 rfl
    · cases h
  | .cmp2 o o2 p q s, X, sc, fb, W, g, a, h => by
    simp only [mE] at h
    split at h
    · rename_i l op op2 r t hx
      obtain ⟨pp, rfl⟩ := asCmp2_inv hx
      simp only [Bool.and_eq_true, decide_eq_true_eq] at h
      obtain ⟨⟨⟨⟨⟨rfl, rfl⟩, h2⟩, h3⟩, h5⟩, h4⟩ := h
      refine pe_weak (L2.pe_chain (op_cb g.hK g.hu o) (op_cb g.hK g.hu o2) (mE_ok p g l h2) (mE_ok q g r h3) (mE_ok s g t h5) (noSet_last h4)) fun τ H Q ⟨σ, S, F, m, sim, rs, q⟩ => ?_
      simp only [ev] at q
      refine two sim rs q fun x y x' y' H2 S2 F2 m2 st sim2 rs2 rx ry q2 => cmpQ sim2 rx ry q2 fun t H3 S3 F3 m3 st3 sim3 q3 => ⟨t, rfl, ?_⟩
      cases t with
      | false => simp only [Bool.false_eq_true, if_false]; exact Post.get q3 sim3 rfl
      | true =>
        simp only [if_true]
        exact one sim3 (RepS.mono st3 rs2) q3 fun z z' H4 S4 F4 m4 st4 sim4 rs4 rz q4 => cmpQ sim4 (RepV.mono (st3.trans st4) ry) rz q4 fun t H5 S5 F5 m5 st5 sim5 q5 => Post.get q5 sim5 rfl
    · cases h
  | .and l, X, sc, fb, W, g, a, h => by
    simp only [mE] at h
    split at h
    · rename_i o es hx
      obtain ⟨pp, rfl⟩ := asBool_inv hx
      simp only [Bool.and_eq_true, decide_eq_true_eq, Bool.not_eq_true'] at h
      obtain ⟨⟨rfl, h2⟩, h3⟩ := h
      exact pe_weak (mAnd_ok l g es pp h2 h3) fun τ H Q ⟨σ, S, F, m, sim, rs, q⟩ => ⟨σ, S, F, m, sim, rs, by simpa only [ev] using q⟩
    · cases h
  | .or l, X, sc, fb, W, g, a, h => by
    simp only [mE] at h
    split at h
    · rename_i o es hx
      obtain ⟨pp, rfl⟩ := asBool_inv hx
      simp only [Bool.and_eq_true, decide_eq_true_eq, Bool.not_eq_true'] at h
      obtain ⟨⟨rfl, h2⟩, h3⟩ := h
      exact pe_weak (mOr_ok l g es pp h2 h3) fun τ H Q ⟨σ, S, F, m, sim, rs, q⟩ => ⟨σ, S, F, m, sim, rs, by simpa only [ev] using q⟩
    · cases h
  | .not p, X, sc, fb, W, g, a, h => by
    simp only [mE] at h
    split at h
    · rename_i o l hx
      obtain ⟨pp, rfl⟩ := asUn_inv hx
      simp only [Bool.and_eq_true, decide_eq_true_eq] at h
      obtain ⟨rfl, h2⟩ := h
      refine pe_weak (L2.pe_notT (mE_ok p g l h2)) fun τ H Q ⟨σ, S, F, m, sim, rs, q⟩ => ?_
      simp only [ev] at q
      refine one sim rs q fun x x' H2 S2 F2 m2 st sim2 rs2 rx q2 => ?_
      obtain ⟨k, tk, q3⟩ := truth_val (τ := τ) (W := W) sim2 rx ((Post.bind (rel := relB) q2).imp fun b H3 z => z)
      obtain ⟨t, S3, F3, m3, st3, sim3, e, q3⟩ := q3
      cases e
      exact ⟨_, by rw [← g.hK]; exact tk, Post.get q3 sim3 rfl⟩
    · cases h
  | .ife c p q, X, sc, fb, W, g, a, h => by
    simp only [mE] at h
    split at h
    · rename_i t x y hx
      obtain ⟨pp, rfl⟩ := asIf_inv hx
      simp only [Bool.and_eq_true] at h
      obtain ⟨⟨h1, h2⟩, h3⟩ := h
      refine pe_weak (L2.pe_ifExp (mT_ok c g t h1) (mE_ok p g x h2) (mE_ok q g y h3)) fun τ H Q ⟨σ, S, F, m, sim, rs, q⟩ => ?_
      simp only [ev] at q
      refine oneT sim rs q fun b H2 S2 F2 m2 st sim2 rs2 q2 => ?_
      cases b with
      | true => simp only [if_true]; exact ⟨σ, S2, F2, m2, sim2, rs2, q2⟩
      | false => simp only [Bool.false_eq_true, if_false]; exact ⟨σ, S2, F2, m2, sim2, rs2, q2⟩
    · cases h
  | .tup es, X, sc, fb, W, g, a, h => by
    simp only [mE] at h
    split at h
    · rename_i l hx
      obtain ⟨k, pp, rfl⟩ := asTup_inv hx
      simp only [Bool.and_eq_true] at h
      refine pe_weak (L2.pe_tup (mEs_ok es g l h.1 h.2)) fun τ H Q ⟨σ, S, F, m, sim, rs, q⟩ => ?_
      simp only [ev] at q
      refine oneL sim rs q fun x x' H2 S2 F2 m2 he st sim2 rs2 rx q2 => ?_
      simp only [disp] at q2
      cases hz : fzs S2 x with
      | none => rw [hz] at q2; exact q2.elim
      | some z =>
        obtain ⟨xs, S3⟩ := z
        rw [hz] at q2
        obtain ⟨F3, sim3, st3, r3⟩ := fzs_ok sim2 rx hz
        simp only at q2
        split at q2
        · rename_i hl
          exact ⟨by rw [← r3.length, ← big_eq]; exact hl, Post.newT sim3 r3 (Post.step st3 q2)⟩
        · exact q2.elim
    · cases h
  | .lst es, X, sc, fb, W, g, a, h => by
    simp only [mE] at h
    split at h
    · rename_i l hx
      obtain ⟨pp, rfl⟩ := asLst_inv hx
      simp only [Bool.and_eq_true] at h
      refine pe_weak (L2.pe_lst (mEs_ok es g l h.1 h.2)) fun τ H Q ⟨σ, S, F, m, sim, rs, q⟩ => ?_
      simp only [ev] at q
      refine oneL sim rs q fun x x' H2 S2 F2 m2 he st sim2 rs2 rx q2 => ?_
      simp only [disp] at q2
      cases hz : fzs S2 x with
      | none => rw [hz] at q2; exact q2.elim
      | some z =>
        obtain ⟨xs, S3⟩ := z
        rw [hz] at q2
        obtain ⟨F3, sim3, st3, r3⟩ := fzs_ok sim2 rx hz
        simp only at q2
        split at q2
        · rename_i hl
          exact ⟨by rw [← r3.length, ← big_eq]; exact hl, Post.newL sim3 r3 (Post.step st3 q2)⟩
        · exact q2.elim
    · cases h
  | .dct ks es, X, sc, fb, W, g, a, h => by
    simp only [mE] at h
    split at h
    · rename_i l v hx
      obtain ⟨pp, rfl⟩ := asDct_inv hx
      simp only [Bool.and_eq_true, decide_eq_true_eq] at h
      obtain ⟨⟨⟨h1, h2⟩, h3⟩, h4⟩ := h
      obtain ⟨⟨qs, hq⟩, hall, hlk, _⟩ := mKs_keys h1
      have hle := mEs_len h2
      have e1 : ks.length = qs.length := by simpa using congrArg List.length hq
      have red : ∀ τ H Q, tE R C W (.dct ks es) τ H Q → L2.tDisp (prs R C W qs es) τ H Q := fun τ H Q ⟨σ, S, F, m, sim, rs, q⟩ => by
        simp only [ev] at q
        refine dct_red (PN := fun r => Post R W (RepV R) τ H F m r Q) hq (by omega) sim rs (fun z => z) (fun x S z => z) (fun l kvs S2 F2 m2 H2 p st2 sim2 a1 a2 a3 a4 a5 z => ?_) q
        exact z (.ref p) H2 (upd F2 p (.dK kvs)) m2 (st2.frozen a4 a3) (sim2.frozen a1 a2 a3) ⟨p, kvs, rfl, upd_same, RepK.mono (fun b u e => by rw [upd_ne (L2.ne_of_none e a3)]; exact e) a5⟩
      cases l with
      | nil =>
        cases v with
        | cons => cases h3
        | nil =>
          refine pe_weak L2.pe_dnewK fun τ H Q q p hp => ?_
          have := red τ H Q q p hp
          cases qs with
          | cons => simp at hlk e1; omega
          | nil =>
            obtain ⟨_, kvs, e2, _, q2⟩ := this
            have e3 : kvs = [] := by cases kvs with
              | nil => rfl
              | cons => simp [prs] at e2
            subst e3
            rw [show upd (upd H p (HO.dK [])) p (HO.dK (L2.mergeK [] [])) = upd H p (HO.dK []) from by funext b; unfold upd; split <;> rfl] at q2
            exact q2
      | cons k l => exact pe_weak (L2.pe_disp (pps_ok h1 hq (mEi_ok es g v h2) (by omega) (by omega)) hall h3 (by simp) h4) red
    · cases h
  | .dcv k v, X, sc, fb, W, g, a, h => by
    simp only [mE] at h
    split at h
    · rename_i x y hx
      obtain ⟨pp, rfl⟩ := asDct_inv hx
      simp only [Bool.and_eq_true] at h
      refine pe_weak (L2.pe_disp (L2.pps_cons (mE_ok k g x h.1) (mE_ok v g y h.2) L2.pps_nil) rfl rfl (by simp) (by simp)) fun τ H Q ⟨σ, S, F, m, sim, rs, q⟩ => ?_
      intro p hp
      obtain ⟨hF, hM⟩ := sim.fresh hp
      have st0 : Step H F m (upd H p (.dK [])) F m := (Step.refl ..).over _ hp
      simp only [ev] at q
      refine ⟨σ, S, F, m, sim.over _ hM hF, rs, ?_⟩
      cases e1 : ev C k σ S with
      | no => rw [e1] at q; exact q.elim
      | exc z S1 => rw [e1] at q; exact fun cls d H' F' m' st sim' re => q cls d H' F' m' (st0.trans st) sim' re
      | ok x1 S1 =>
        rw [e1] at q
        intro x' H1 F1 m1 st1 sim1 rx
        refine ⟨σ, S1, F1, m1, sim1, RepS.mono st1 rs, ?_⟩
        have q : Post R W (RepV R) τ H F m ((ev C v σ S1).bind fun y S2 => dispV x1 y S2) Q := q
        cases e2 : ev C v σ S1 with
        | no => rw [e2] at q; exact q.elim
        | exc z S2 => rw [e2] at q; exact fun cls d H' F' m' st sim' re => q cls d H' F' m' ((st0.trans st1).trans st) sim' re
        | ok y1 S2 =>
          rw [e2] at q
          have q : Post R W (RepV R) τ H F m (dispV x1 y1 S2) Q := q
          intro y' H2 F2 m2 st2 sim2 ry
          obtain ⟨hp1, hm1, hF1⟩ := st1.mine (o := .dK []) upd_same hM hF
          obtain ⟨hp2, hm2, hF2⟩ := st2.mine hp1 hm1 hF1
          unfold dispV at q
          split at q
          · rename_i a b S3 hz
            obtain ⟨F3, sim3, st3, r3⟩ := fzs_ok sim2 (show RepVs R F2 m2 [x1, y1] [x', y'] from ⟨x', [y'], rfl, RepV.mono st2 rx, y', [], rfl, ry, rfl⟩) hz
            obtain ⟨hp3, hm3, hF3⟩ := st3.mine hp2 hm2 hF2
            split at q
            · rename_i hk
              obtain ⟨_, _, e3, ra, _, _, e4, rb, e5⟩ := r3
              cases e3
              cases e4
              obtain ⟨kq, ek, rfl⟩ := kD_rep hk ra
              refine ⟨hp2, [(kq, y')], rfl, by simp, ?_⟩
              have stA : Step H F m (upd H2 p (.dK (L2.mergeK [] [(kq, y')]))) F3 m2 := (((st0.trans st1).trans st2).trans st3).over _ hp
              refine q (.ref p) _ (upd F3 p (.dK (L2.mergeK [] [(kq, y')]))) m2 (stA.frozen hp hF3) ((sim3.over _ hm3 hF3).frozen upd_same hm3 hF3) ⟨p, _, rfl, upd_same, ?_⟩
              refine RepK.mono (fun b u e => by rw [upd_ne (L2.ne_of_none e hF3)]; exact e) ?_
              exact RepK.merge (ps := [(a, b)]) (kvs := [(kq, y')]) (l := []) (acc := []) ⟨kq, y', [], rfl, ek, rb, rfl⟩ rfl
            · exact q.elim
          · exact q.elim
    · cases h
  | .gix i e, X, sc, fb, W, g, a, h => by
    simp only [mE] at h
    split at h
    · rename_i x y hx
      obtain ⟨pp, rfl⟩ := asSub_inv hx
      split at h
      · rename_i z hz
        obtain ⟨pz, rfl⟩ := asName_inv hz
        simp only [Bool.and_eq_true, decide_eq_true_eq, Bool.not_eq_true'] at h
        obtain ⟨⟨⟨⟨h1, h2⟩, h3⟩, h4⟩, h5⟩ := h
        obtain ⟨l, d, en, n, hl, hm, kd, look⟩ := g.gdc i z h1
        refine pe_weak (L2.pe_ix L2.ix_kdict (L2.pe_glob (v := .ref d) (glB_ok g.hs h2) hm rfl h3) (mE_ok e g y h4) (plainIx h5)) fun τ H Q ⟨σ, S, F, m, sim, rs, q⟩ => ?_
        simp only [ev, hl] at q
        refine one sim rs q fun x x' H2 S2 F2 m2 st sim2 rs2 rx q2 => ?_
        obtain ⟨a, zz, e1, e2, q3⟩ := on1_inv q2
        have r := rdv_rep sim2 rx e1
        cases a with
        | str t =>
          simp only [gixD] at e2
          have lk := look t
          rw [e2] at lk
          obtain ⟨u, v, n1, n2, n3⟩ := lk
          cases r
          exact ⟨d, ⟨t.toArray⟩, v, rfl, rfl, ⟨en, n, u, kd.at_, kd.lit, n1, n2⟩, Post.get q3 sim2 (n3 F2)⟩
        | _ => simp [gixD] at e2
      · cases h
    · cases h
  | .sub p i, X, sc, fb, W, g, a, h => by
    simp only [mE] at h
    split at h
    · rename_i x y hx
      obtain ⟨pp, rfl⟩ := asSub_inv hx
      simp only [Bool.and_eq_true] at h
      obtain ⟨⟨h1, h2⟩, h3⟩ := h
      refine pe_weak (L2.pe_ix (ix_all g.hu) (mE_ok p g x h1) (mE_ok i g y h2) (plainIx h3)) fun τ H Q ⟨σ, S, F, m, sim, rs, q⟩ => ?_
      simp only [ev] at q
      exact two sim rs q fun x y x' y' H2 S2 F2 m2 st sim2 rs2 rx ry q2 => by rw [← g.hK]; exact sub_val sim2 rx ry q2
    · cases h
  | .slc p lo hi, X, sc, fb, W, g, a, h => by
    simp only [mE] at h
    split at h
    · rename_i x y z hx
      obtain ⟨pp, pq, rfl⟩ := asSlc_inv hx
      simp only [Bool.and_eq_true] at h
      obtain ⟨⟨h1, h2⟩, h3⟩ := h
      refine pe_weak (L2.pe_slice sl_all (mE_ok p g x h1) (mO_ok lo g y h2) (mO_ok hi g z h3)) fun τ H Q ⟨σ, S, F, m, sim, rs, q⟩ => ?_
      simp only [ev] at q
      refine one sim rs q fun x x' H2 S2 F2 m2 st sim2 rs2 rx q2 => ?_
      refine ⟨σ, S2, F2, m2, sim2, rs2, (Post.bind q2).imp fun l H3 ⟨l', S3, F3, m3, st3, sim3, e3, q3⟩ => ?_⟩
      cases e3
      refine ⟨σ, S3, F3, m3, sim3, RepS.mono st3 rs2, (Post.bind q3).imp fun u H4 ⟨u', S4, F4, m4, st4, sim4, e4, q4⟩ => ?_⟩
      cases e4
      rw [← g.hK]
      exact slc_val sim4 (RepV.mono (st3.trans st4) rx) q4
    · cases h
  | .call f es, X, sc, fb, W, g, a, h => by
    simp only [mE] at h
    split at h
    · rename_i x l hx
      obtain ⟨pp, pq, rfl⟩ := asCall_inv hx
      simp only [Bool.and_eq_true, decide_eq_true_eq, Bool.not_eq_true'] at h
      obtain ⟨⟨⟨⟨h1, h2⟩, h3⟩, h4⟩, h5⟩ := h
      obtain ⟨k, fa, fd, ps, ok, room, hm, hk, hb⟩ := (g.fns f x es.length h1).ex
      have red : ∀ τ H Q, tE R C W (.call f es) τ H Q → L2.tCallSD (spC R C.call f es.length) [] (L2.WE W) (tEs R C W es) τ H Q := fun τ H Q ⟨σ, S, F, m, sim, rs, q⟩ => by
        simp only [ev] at q
        refine oneL sim rs q fun x x' H2 S2 F2 m2 he st sim2 rs2 rx q2 => ?_
        rw [List.append_nil]
        exact ⟨by rw [← rx.length]; exact evs_len he, x, S2, F2, m2, sim2, rx, q2.wx⟩
      cases l with
      | nil =>
        have e0 : es = [] := by cases es with
          | nil => rfl
          | cons => simp [mEs] at h4
        subst e0
        refine pe_weak (pe_callG0 ok g.gd room (glB_ok g.hs h2) hm hk hb (fun σ => L2.passAt g.tk σ) h3) fun τ H Q q => ?_
        obtain ⟨σ, S, F, m, sim, rs, q⟩ := red τ H Q q
        exact Post.get q sim rfl
      | cons e0 l =>
        exact pe_weak (pe_callG ok g.gd room (glB_ok g.hs h2) hm hk hb (fun σ => L2.passAt g.tk σ) (mEs_ok es g (e0 :: l) h4 h5) h3 (noStar_each _ h5) (noStar_any _ _ (noStar_tl h5))) red
    · cases h
  | .blt b es, X, sc, fb, W, g, a, h => by
    simp only [mE] at h
    split at h
    · rename_i x l hx
      obtain ⟨pp, pq, rfl⟩ := asCall_inv hx
      simp only [Bool.and_eq_true, decide_eq_true_eq, Bool.not_eq_true'] at h
      obtain ⟨⟨⟨⟨⟨⟨h1, h2⟩, h3⟩, h4⟩, h5⟩, h6⟩, h7⟩ := h
      have hcB : needC b = true → X.calm = true := fun hb => g.hc (by simpa [hb] using h7)
      obtain ⟨hm, hn, hd⟩ := g.blt x h2
      have red : ∀ τ H Q, tE R C W (.blt b es) τ H Q → L2.tCB (rBlt X.K b) (tEs R C W es) τ H Q := fun τ H Q ⟨σ, S, F, m, sim, rs, q⟩ => by
        simp only [ev] at q
        refine oneL sim rs q fun x x' H2 S2 F2 m2 he st sim2 rs2 rx q2 => ?_
        rw [← g.hK]
        exact blt_val b sim2 rx q2
      cases l with
      | nil => cases h6
      | cons e0 l =>
        exact pe_weak (pe_blt b h1 hcB g.hu g.gd g.sys (glB_ok g.hs h3) hm hn hd (mEs_ok es g (e0 :: l) h4 h5) (noStar_each _ h5) (noStar_any _ _ (noStar_tl h5))) red
    · cases h
  | .meth k o es, X, sc, fb, W, g, a, h => by
    simp only [mE] at h
    split at h
    · rename_i x n l hx
      obtain ⟨pp, pq, rfl, hline⟩ := asMeth_inv hx
      simp only [Bool.and_eq_true, decide_eq_true_eq] at h
      obtain ⟨⟨⟨⟨⟨h1, h2⟩, h3⟩, h4⟩, h5⟩, h6⟩ := h
      have red : ∀ τ H Q, tE R C W (.meth k o es) τ H Q → tE R C W o τ H fun x H1 => L2.tyV X.K (mthT k) x H1 ∧ tEs R C W es τ H1 fun xs H2 => rMth X.K k x xs H2 Q := fun τ H Q ⟨σ, S, F, m, sim, rs, q⟩ => by
        simp only [ev] at q
        refine one sim rs q fun x x' H2 S2 F2 m2 st sim2 rs2 rx q2 => ?_
        cases hv : rdv S2 x with
        | none => rw [hv] at q2; exact q2.elim
        | some d =>
          rw [hv] at q2
          simp only at q2
          split at q2
          · rename_i hr
            refine ⟨by rw [← g.hK]; exact recv_val sim2 rx hv hr, oneL sim2 rs2 q2 fun y y' H3 S3 F3 m3 he st3 sim3 rs3 ry q3 => ?_⟩
            rw [← g.hK]
            exact meth_val sim3 (RepV.mono st3 rx) ry q3
          · exact q2.elim
      cases l with
      | nil =>
        have e0 : es = [] := by cases es with
          | nil => rfl
          | cons => simp [mEs] at h3
        subst e0
        refine pe_weak (L2.pe_bm0 (mthT_attrs k) (mth_slot h1) (mth_type h1) (mt_all g.hu k) (mE_ok o g x h2) (noCall_base h5) hline) fun τ H Q q => ?_
        obtain ⟨σ, S, F, m, sim, rs, q⟩ := red τ H Q q
        refine ⟨σ, S, F, m, sim, rs, q.imp fun x H1 ⟨q1, σ1, S1, F1, m1, sim1, rs1, q2⟩ => ⟨q1, Post.get q2 sim1 rfl⟩⟩
      | cons e0 l =>
        refine pe_weak (L2.pe_bm (mthT_attrs k) (mth_slot h1) (mth_type h1) (mt_all g.hu k) (mE_ok o g x h2) (mEs_ok es g (e0 :: l) h3 h4) (noCall_base h5) ?_ hline (noStar_each _ h4) (noStar_any _ _ (noStar_tl h4))) red
        have e2 : (backToKw pp (keywordEach [] X.env)).all (fun x => x.1.isSome) = true := rfl
        rw [noStar_all _ _ h4, e2]
        simpa using h6
    · cases h
  | .isi e ts, X, sc, fb, W, g, a, h => by
    simp only [mE] at h
    split at h
    · rename_i x p q hx
      obtain ⟨pp, pq, rfl⟩ := asCall_inv hx
      simp only [Bool.and_eq_true, decide_eq_true_eq] at h
      obtain ⟨⟨⟨⟨⟨rfl, h2⟩, h3⟩, h4⟩, h5⟩, h6⟩ := h
      exact pe_isi g (mE_ok e g p h4) h2 h3 h5 h6
    · cases h
  | .isx e ts cs, X, sc, fb, W, g, a, h => by
    simp only [mE] at h
    split at h
    · rename_i x p q hx
      obtain ⟨pp, pq, rfl⟩ := asCall_inv hx
      simp only [Bool.and_eq_true, decide_eq_true_eq] at h
      obtain ⟨⟨⟨⟨⟨⟨rfl, h2⟩, h3⟩, h4⟩, h5⟩, h6⟩, h7⟩ := h
      exact pe_isx g (mE_ok e g p h4) h2 h3 h5 h6 h7
    · cases h
  | .att e f, X, sc, fb, W, g, a, h => by
    simp only [mE] at h
    split at h
    · rename_i o y hx
      obtain ⟨p, rfl⟩ := asAttr_inv hx
      simp only [Bool.and_eq_true, decide_eq_true_eq] at h
      obtain ⟨⟨⟨h1, rfl⟩, h3⟩, h4⟩ := h
      exact pe_att g (mE_ok e g o h1) h3 h4
    · cases h
  | .lc e t own it ifs, X, sc, fb, W, g, a, h => by
    simp only [mE] at h
    split at h
    · rename_i x tg i c s hx
      obtain ⟨p, rfl⟩ := asLc_inv hx
      simp only [Bool.and_eq_true, decide_eq_true_eq] at h
      obtain ⟨⟨⟨⟨⟨⟨⟨⟨⟨h1, h2⟩, h3⟩, h4⟩, h5⟩, h6⟩, h7⟩, h8⟩, h9⟩, h10⟩ := h
      have hc := g.hc (by simpa using h10)
      refine pe_weak (L2.pe_lc (own := ownP nm own) hc (by rw [g.hN]; exact g.nd) (mI_ok it g tg i h1) (by rw [g.hN, g.hs]; exact L2.blkOk_by h3) (fun s0 H0 c0 cl fp => mG_ok (g.blk s0 H0 s cl c0 fp).hs rfl g.hN g.nd g.hK hc t tg h6)
        (fun s0 H0 c0 cl fp => mTs1_ok ifs (g.blk s0 H0 s cl c0 fp) c h7 h8) (fun s0 H0 c0 cl fp => mE_ok e (g.blk s0 H0 s cl c0 fp) x h9) (noSet_fold h2 _)) fun τ H Q q => ?_
      have := lc_red h5 q
      rw [h4]
      exact this
    · cases h
termination_by structural e => e
theorem mAnd_ok {R : RC} {C : Ev.Cx} {nm : Nm} : ∀ (l : List Exp) {X : HCx} {sc : Scope} {fb : Str → Bool} {W : WX} (g : GX R C nm X sc fb W) (es : List Expr) (pos : Pos), mEs nm l sc fb es = true → l.isEmpty = false → PE X (.BoolOp .And es pos) (fun τ H Q => ∃ σ S F m, Sim R H F m S ∧ RepS R F m σ τ ∧ Post R W (RepV R) τ H F m (evAnd C l σ S) Q)
  | [], X, sc, fb, W, g, es, pos, h, h0 => by cases h0
  | e :: l, X, sc, fb, W, g, es, pos, h, h0 => by
    cases es with
    | nil => simp [mEs] at h
    | cons a es =>
      simp only [mEs, Bool.and_eq_true] at h
      have pa := mE_ok e g a h.1
      have pl := fun hh => mAnd_ok l g es pos h.2 hh
      cases l with
      | nil =>
        cases es with
        | nil => exact pe_weak (L2.pe_one pa) fun τ H Q ⟨σ, S, F, m, sim, rs, q⟩ => ⟨σ, S, F, m, sim, rs, by simpa only [evAnd] using q⟩
        | cons => simp [mEs] at h
      | cons e1 l =>
        cases es with
        | nil => simp [mEs] at h
        | cons a1 es =>
          refine pe_weak (L2.pe_andT pa (pl rfl)) fun τ H Q ⟨σ, S, F, m, sim, rs, q⟩ => ?_
          rw [evAnd] at q
          refine one sim rs q fun x x' H2 S2 F2 m2 st sim2 rs2 rx q2 => ?_
          obtain ⟨k, tk, q3⟩ := truth_val (τ := τ) (W := W) sim2 rx ((Post.bind (rel := relB) q2).imp fun b H3 z => z)
          obtain ⟨t, S3, F3, m3, st3, sim3, e3, q3⟩ := q3
          cases e3
          refine ⟨_, by rw [← g.hK]; exact tk, ?_⟩
          cases k with
          | true => simp only [if_true]; exact ⟨σ, S3, F3, m3, sim3, RepS.mono st3 rs2, q3⟩
          | false => simp only [Bool.false_eq_true, if_false]; exact Post.get q3 sim3 (RepV.mono st3 rx)
termination_by structural e => e
theorem mOr_ok {R : RC} {C : Ev.Cx} {nm : Nm} : ∀ (l : List Exp) {X : HCx} {sc : Scope} {fb : Str → Bool} {W : WX} (g : GX R C nm X sc fb W) (es : List Expr) (pos : Pos), mEs nm l sc fb es = true → l.isEmpty = false → PE X (.BoolOp .Or es pos) (fun τ H Q => ∃ σ S F m, Sim R H F m S ∧ RepS R F m σ τ ∧ Post R W (RepV R) τ H F m (evOr C l σ S) Q)
  | [], X, sc, fb, W, g, es, pos, h, h0 => by cases h0
  | e :: l, X, sc, fb, W, g, es, pos, h, h0 => by
    cases es with
    | nil => simp [mEs] at h
    | cons a es =>
      simp only [mEs, Bool.and_eq_true] at h
      have pa := mE_ok e g a h.1
      have pl := fun hh => mOr_ok l g es pos h.2 hh
      cases l with
      | nil =>
        cases es with
        | nil => exact pe_weak (L2.pe_one pa) fun τ H Q ⟨σ, S, F, m, sim, rs, q⟩ => ⟨σ, S, F, m, sim, rs, by simpa only [evOr] using q⟩
        | cons => simp [mEs] at h
      | cons e1 l =>
        cases es with
        | nil => simp [mEs] at h
        | cons a1 es =>
          refine pe_weak (L2.pe_orT pa (pl rfl)) fun τ H Q ⟨σ, S, F, m, sim, rs, q⟩ => ?_
          rw [evOr] at q
          refine one sim rs q fun x x' H2 S2 F2 m2 st sim2 rs2 rx q2 => ?_
          obtain ⟨k, tk, q3⟩ := truth_val (τ := τ) (W := W) sim2 rx ((Post.bind (rel := relB) q2).imp fun b H3 z => z)
          obtain ⟨t, S3, F3, m3, st3, sim3, e3, q3⟩ := q3
          cases e3
          refine ⟨_, by rw [← g.hK]; exact tk, ?_⟩
          cases k with
          | false => simp only [Bool.false_eq_true, if_false]; exact ⟨σ, S3, F3, m3, sim3, RepS.mono st3 rs2, q3⟩
          | true => simp only [if_true]; exact Post.get q3 sim3 (RepV.mono st3 rx)
termination_by structural e => e
theorem mT_ok {R : RC} {C : Ev.Cx} {nm : Nm} : ∀ (e : Tst) {X : HCx} {sc : Scope} {fb : Str → Bool} {W : WX} (g : GX R C nm X sc fb W) (a : Expr), mT nm e sc fb a = true → PT X a (tT R C W e)
  | .of e, X, sc, fb, W, g, a, h => by
    simp only [mT, Bool.and_eq_true] at h
    refine pt_weak (L2.pt_truth (mE_ok e g a h.1) (plainT_ok h.2 _)) fun τ H Q ⟨σ, S, F, m, sim, rs, q⟩ => ?_
    simp only [evT] at q
    exact one sim rs q fun x x' H2 S2 F2 m2 st sim2 rs2 rx q2 => by rw [← g.hK]; exact truth_val sim2 rx q2
  | .gin n i e, X, sc, fb, W, g, a, h => by
    simp only [mT] at h
    split at h
    · rename_i y op x hx
      obtain ⟨pp, rfl⟩ := asCmp1_inv hx
      split at h
      · rename_i z hz
        obtain ⟨pz, rfl⟩ := asName_inv hz
        simp only [Bool.and_eq_true, decide_eq_true_eq, Bool.not_eq_true'] at h
        obtain ⟨⟨⟨⟨h0, h1⟩, h2⟩, h3⟩, h4⟩ := h
        obtain ⟨l, d, en, nn, hl, hm, kd, look⟩ := g.gdc i z h1
        have key : ∀ τ H Q, tT R C W (.gin n i e) τ H Q → tE R C W e τ H fun x H1 => ∃ (t : List Nat) (r : Option Value), x = .str ⟨t.toArray⟩ ∧ PySem.W.nsIn X.K d ⟨t.toArray⟩ = some r ∧ Q (xor n r.isSome) H1 := fun τ H Q ⟨σ, S, F, m, sim, rs, q⟩ => by
          simp only [evT, hl] at q
          refine one sim rs q fun x x' H2 S2 F2 m2 st sim2 rs2 rx q2 => ?_
          unfold on1b at q2
          cases e1 : rdv S2 x with
          | none => rw [e1] at q2; exact q2.elim
          | some a =>
            rw [e1] at q2
            have r := rdv_rep sim2 rx e1
            cases a with
            | str t =>
              simp only [ginD] at q2
              have lk := look t
              cases e2 : gLook t l with
              | none =>
                rw [e2] at lk q2
                exact ⟨t, none, r, lk, Post.get q2 sim2 rfl⟩
              | some dv =>
                rw [e2] at lk q2
                obtain ⟨u, v, n1, n2, n3⟩ := lk
                exact ⟨t, some u, r, n1, Post.get q2 sim2 rfl⟩
            | _ => exact q2.elim
        cases n with
        | false =>
          cases h0
          refine pt_weak (L2.pt_cmpR (L2.op_in_kd kd) (mE_ok e g y h4) (L2.pe_glob (v := .ref d) (glB_ok g.hs h2) hm rfl h3) rfl) fun τ H Q q => ?_
          obtain ⟨σ, S, F, m, sim, rs, q⟩ := key τ H Q q
          refine ⟨σ, S, F, m, sim, rs, q.imp fun x H1 ⟨t, r, e1, e2, q2⟩ => ⟨_, r, e1, rfl, e2, _, rfl, ?_⟩⟩
          simpa using q2
        | true =>
          cases h0
          refine pt_weak (L2.pt_cmpR (L2.op_notIn_kd kd) (mE_ok e g y h4) (L2.pe_glob (v := .ref d) (glB_ok g.hs h2) hm rfl h3) rfl) fun τ H Q q => ?_
          obtain ⟨σ, S, F, m, sim, rs, q⟩ := key τ H Q q
          refine ⟨σ, S, F, m, sim, rs, q.imp fun x H1 ⟨t, r, e1, e2, q2⟩ => ⟨_, r, e1, rfl, e2, _, rfl, ?_⟩⟩
          simpa using q2
      · cases h
    · cases h
  | .cmp o p q, X, sc, fb, W, g, a, h => by
    simp only [mT] at h
    split at h
    · rename_i l op r hx
      obtain ⟨pp, rfl⟩ := asCmp1_inv hx
      simp only [Bool.and_eq_true, decide_eq_true_eq] at h
      obtain ⟨⟨⟨rfl, h2⟩, h3⟩, h4⟩ := h
      refine pt_weak (L2.pt_cmpR (op_cmp g.hK g.hu o) (mE_ok p g l h2) (mE_ok q g r h3) (noSet_marks h4)) fun τ H Q ⟨σ, S, F, m, sim, rs, q⟩ => ?_
      simp only [evT] at q
      exact two sim rs q fun x y x' y' H2 S2 F2 m2 st sim2 rs2 rx ry q2 => cmp_val o sim2 rx ry q2
    · cases h
  | .cmp2 o o2 p q s, X, sc, fb, W, g, a, h => by
    simp only [mT] at h
    split at h
    · rename_i l op op2 r t hx
      obtain ⟨pp, rfl⟩ := asCmp2_inv hx
      simp only [Bool.and_eq_true, decide_eq_true_eq] at h
      obtain ⟨⟨⟨⟨⟨rfl, rfl⟩, h2⟩, h3⟩, h5⟩, h4⟩ := h
      refine pt_weak (L2.pt_chain (op_cb g.hK g.hu o) (op_cmp g.hK g.hu o2) (mE_ok p g l h2) (mE_ok q g r h3) (mE_ok s g t h5) (noSet_last h4)) fun τ H Q ⟨σ, S, F, m, sim, rs, q⟩ => ?_
      simp only [evT] at q
      refine two sim rs q fun x y x' y' H2 S2 F2 m2 st sim2 rs2 rx ry q2 => cmpQB sim2 rx ry q2 fun t H3 S3 F3 m3 st3 sim3 q3 => ⟨t, rfl, ?_⟩
      cases t with
      | false => simp only [Bool.false_eq_true, if_false]; exact ⟨false, rfl, Post.get q3 sim3 rfl⟩
      | true =>
        simp only [if_true]
        exact one sim3 (RepS.mono st3 rs2) q3 fun z z' H4 S4 F4 m4 st4 sim4 rs4 rz q4 => cmp_val o2 sim4 (RepV.mono (st3.trans st4) ry) rz q4
    · cases h
  | .and l, X, sc, fb, W, g, a, h => by
    simp only [mT] at h
    split at h
    · rename_i o es hx
      obtain ⟨pp, rfl⟩ := asBool_inv hx
      simp only [Bool.and_eq_true, decide_eq_true_eq, Bool.not_eq_true'] at h
      obtain ⟨⟨rfl, h2⟩, h3⟩ := h
      exact pt_weak (mTa_ok l g es pp h2 h3).pt fun τ H Q ⟨σ, S, F, m, sim, rs, q⟩ => ⟨σ, S, F, m, sim, rs, by simpa only [evT] using q⟩
    · cases h
  | .or l, X, sc, fb, W, g, a, h => by
    simp only [mT] at h
    split at h
    · rename_i o es hx
      obtain ⟨pp, rfl⟩ := asBool_inv hx
      simp only [Bool.and_eq_true, decide_eq_true_eq, Bool.not_eq_true'] at h
      obtain ⟨⟨rfl, h2⟩, h3⟩ := h
      exact pt_weak (mTo_ok l g es pp h2 h3).pt fun τ H Q ⟨σ, S, F, m, sim, rs, q⟩ => ⟨σ, S, F, m, sim, rs, by simpa only [evT] using q⟩
    · cases h
  | .not p, X, sc, fb, W, g, a, h => by
    simp only [mT] at h
    split at h
    · rename_i o l hx
      obtain ⟨pp, rfl⟩ := asUn_inv hx
      simp only [Bool.and_eq_true, decide_eq_true_eq] at h
      obtain ⟨rfl, h2⟩ := h
      refine pt_weak (L2.pt_not (mT_ok p g l h2)) fun τ H Q ⟨σ, S, F, m, sim, rs, q⟩ => ?_
      simp only [evT] at q
      exact oneT sim rs q fun b H2 S2 F2 m2 st sim2 rs2 q2 => Post.get q2 sim2 rfl
    · cases h
termination_by structural e => e
theorem mTa_ok {R : RC} {C : Ev.Cx} {nm : Nm} : ∀ (l : List Tst) {X : HCx} {sc : Scope} {fb : Str → Bool} {W : WX} (g : GX R C nm X sc fb W) (es : List Expr) (pos : Pos), mTs nm l sc fb es = true → l.isEmpty = false → L2.PW X (.BoolOp .And es pos) (tTs R C W l)
  | [], X, sc, fb, W, g, es, pos, h, h0 => by cases h0
  | e :: l, X, sc, fb, W, g, es, pos, h, h0 => by
    cases es with
    | nil => simp [mTs] at h
    | cons a es =>
      simp only [mTs, Bool.and_eq_true] at h
      have pa := mT_ok e g a h.1
      have pl := fun hh => mTa_ok l g es pos h.2 hh
      cases l with
      | nil =>
        cases es with
        | nil => exact pw_weak (L2.pw_and1 pa) fun τ H Q ⟨σ, S, F, m, sim, rs, q⟩ => ⟨σ, S, F, m, sim, rs, by rw [evTs_one] at q; exact q⟩
        | cons => simp [mTs] at h
      | cons e1 l =>
        cases es with
        | nil => simp [mTs] at h
        | cons a1 es =>
          refine pw_weak (L2.pw_and pa (pl rfl)) fun τ H Q ⟨σ, S, F, m, sim, rs, q⟩ => ?_
          rw [evTs] at q
          refine oneT sim rs q fun b H2 S2 F2 m2 st sim2 rs2 q2 => ?_
          cases b with
          | true => simp only [if_true]; exact ⟨σ, S2, F2, m2, sim2, rs2, q2⟩
          | false => simp only [Bool.false_eq_true, if_false]; exact Post.get q2 sim2 rfl
termination_by structural e => e
theorem mTo_ok {R : RC} {C : Ev.Cx} {nm : Nm} : ∀ (l : List Tst) {X : HCx} {sc : Scope} {fb : Str → Bool} {W : WX} (g : GX R C nm X sc fb W) (es : List Expr) (pos : Pos), mTs nm l sc fb es = true → l.isEmpty = false → L2.PW X (.BoolOp .Or es pos) (fun τ H Q => ∃ σ S F m, Sim R H F m S ∧ RepS R F m σ τ ∧ Post R W relB τ H F m (evTo C l σ S) Q)
  | [], X, sc, fb, W, g, es, pos, h, h0 => by cases h0
  | e :: l, X, sc, fb, W, g, es, pos, h, h0 => by
    cases es with
    | nil => simp [mTs] at h
    | cons a es =>
      simp only [mTs, Bool.and_eq_true] at h
      have pa := mT_ok e g a h.1
      have pl := fun hh => mTo_ok l g es pos h.2 hh
      cases l with
      | nil =>
        cases es with
        | nil =>
          refine pw_weak (L2.pw_or1 pa) fun τ H Q ⟨σ, S, F, m, sim, rs, q⟩ => ?_
          rw [evTo] at q
          refine oneT sim rs q fun b H2 S2 F2 m2 st sim2 rs2 q2 => ?_
          cases b with
          | true => exact Post.get q2 sim2 rfl
          | false => simp only [evTo] at q2; exact Post.get q2 sim2 rfl
        | cons => simp [mTs] at h
      | cons e1 l =>
        cases es with
        | nil => simp [mTs] at h
        | cons a1 es =>
          refine pw_weak (L2.pw_or pa (pl rfl)) fun τ H Q ⟨σ, S, F, m, sim, rs, q⟩ => ?_
          rw [evTo] at q
          refine oneT sim rs q fun b H2 S2 F2 m2 st sim2 rs2 q2 => ?_
          cases b with
          | false => simp only [Bool.false_eq_true, if_false]; exact ⟨σ, S2, F2, m2, sim2, rs2, q2⟩
          | true => simp only [if_true]; exact Post.get q2 sim2 rfl
termination_by structural e => e
theorem mTs1_ok {R : RC} {C : Ev.Cx} {nm : Nm} : ∀ (l : List Tst) {X : HCx} {sc : Scope} {fb : Str → Bool} {W : WX} (g : GX R C nm X sc fb W) (es : List Expr), mTs nm l sc fb es = true → es.length ≤ 1 → L2.PTs X es (tTs R C W l)
  | [], X, sc, fb, W, g, es, h, h0 => by
    cases es with
    | nil => exact pts_weak L2.pts_nil fun τ H Q ⟨σ, S, F, m, sim, rs, q⟩ => by simp only [evTs] at q; exact Post.get q sim rfl
    | cons => simp [mTs] at h
  | e :: l, X, sc, fb, W, g, es, h, h0 => by
    cases es with
    | nil => simp [mTs] at h
    | cons a es =>
      simp only [mTs, Bool.and_eq_true] at h
      have pa := mT_ok e g a h.1
      cases es with
      | cons => simp at h0
      | nil =>
        cases l with
        | cons => simp [mTs] at h
        | nil => exact pts_weak (L2.pts_one pa) fun τ H Q ⟨σ, S, F, m, sim, rs, q⟩ => ⟨σ, S, F, m, sim, rs, by rw [evTs_one] at q; exact q⟩
termination_by structural e => e
theorem mEs_ok {R : RC} {C : Ev.Cx} {nm : Nm} : ∀ (l : List Exp) {X : HCx} {sc : Scope} {fb : Str → Bool} {W : WX} (g : GX R C nm X sc fb W) (es : List Expr), mEs nm l sc fb es = true → noStar es = true → PA X es (tEs R C W l)
  | [], X, sc, fb, W, g, es, h, hs => by
    cases es with
    | nil => exact pa_weak L2.pa_nil fun τ H Q ⟨σ, S, F, m, sim, rs, q⟩ => by simp only [evs] at q; exact Post.get q sim rfl
    | cons => simp [mEs] at h
  | e :: l, X, sc, fb, W, g, es, h, hs => by
    cases es with
    | nil => simp [mEs] at h
    | cons a es =>
      simp only [mEs, Bool.and_eq_true] at h
      refine pa_weak (L2.pa_cons (mE_ok e g a h.1) (mEs_ok l g es h.2 (noStar_tl hs)) (noStar_each _ hs)) fun τ H Q ⟨σ, S, F, m, sim, rs, q⟩ => ?_
      rw [evs] at q
      exact one sim rs q fun x x' H2 S2 F2 m2 st sim2 rs2 rx q2 => oneL sim2 rs2 q2 fun y y' H3 S3 F3 m3 he st3 sim3 rs3 ry q3 => Post.get q3 sim3 ⟨x', y', rfl, RepV.mono st3 rx, ry⟩
termination_by structural e => e
theorem mEi_ok {R : RC} {C : Ev.Cx} {nm : Nm} : ∀ (l : List Exp) {X : HCx} {sc : Scope} {fb : Str → Bool} {W : WX} (g : GX R C nm X sc fb W) (es : List Expr), mEs nm l sc fb es = true → ∀ (i : Nat) (e : Exp) (v : Expr), l[i]? = some e → es[i]? = some v → PE X v (tE R C W e)
  | [], X, sc, fb, W, g, es, h => fun i e v h1 _ => by cases h1
  | e :: l, X, sc, fb, W, g, es, h => by
    cases es with
    | nil => simp [mEs] at h
    | cons a es =>
      simp only [mEs, Bool.and_eq_true] at h
      have p1 := mE_ok e g a h.1
      have p2 := mEi_ok l g es h.2
      intro i e' v h1 h2
      cases i with
      | zero => cases h1; cases h2; exact p1
      | succ i => exact p2 i e' v h1 h2
termination_by structural e => e
theorem mO_ok {R : RC} {C : Ev.Cx} {nm : Nm} : ∀ (o : Option Exp) {X : HCx} {sc : Scope} {fb : Str → Bool} {W : WX} (g : GX R C nm X sc fb W) (a : Option Expr), mO nm o sc fb a = true → L2.PO X a (fun τ H Q => ∃ σ S F m, Sim R H F m S ∧ RepS R F m σ τ ∧ Post R W (fun _ _ x y => x = y) τ H F m (evO C o σ S) Q)
  | none, X, sc, fb, W, g, a, h => by
    cases a with
    | none => exact po_weak L2.po_none fun τ H Q ⟨σ, S, F, m, sim, rs, q⟩ => by simp only [evO] at q; exact Post.get q sim rfl
    | some => simp [mO] at h
  | some e, X, sc, fb, W, g, a, h => by
    cases a with
    | none => simp [mO] at h
    | some a =>
      simp only [mO] at h
      refine po_weak (L2.po_some (mE_ok e g a h)) fun τ H Q ⟨σ, S, F, m, sim, rs, q⟩ => ?_
      simp only [evO] at q
      refine one sim rs q fun x x' H2 S2 F2 m2 st sim2 rs2 rx q2 => ?_
      obtain ⟨i, e1, e2, q3⟩ := onInt_inv sim2 rx q2
      exact ⟨i, e1, Post.get q3 sim2 rfl⟩
termination_by structural e => e
theorem mI_ok {R : RC} {C : Ev.Cx} {nm : Nm} : ∀ (e : Ite) {X : HCx} {sc : Scope} {fb : Str → Bool} {W : WX} (g : GX R C nm X sc fb W) (tg a : Expr), mI nm e sc fb a = true → PI X tg a (tI R C W e)
  | .of e, X, sc, fb, W, g, tg, a, h => by
    simp only [mI] at h
    refine pi_weak (pi_any (mE_ok e g a h)) fun τ H Q ⟨σ, S, F, m, sim, rs, q⟩ => ?_
    simp only [evI] at q
    refine one sim rs q fun x x' H2 S2 F2 m2 st sim2 rs2 rx q2 => ?_
    obtain ⟨p, ep, q3⟩ := ofSome_inv q2
    rw [← g.hK]
    rcases walk_src sim2 rx ep with ⟨a, xs, e1, h1, dw⟩ | ⟨a, xs, e1, h1, dw⟩ | ⟨z, e1, dw⟩
    · exact .inl ⟨a, xs, e1, h1, Post.get q3 sim2 dw⟩
    · exact .inr (.inl ⟨a, xs, e1, h1, Post.get q3 sim2 dw⟩)
    · exact .inr (.inr ⟨z, e1, Post.get q3 sim2 dw⟩)
  | .range1 e, X, sc, fb, W, g, tg, a, h => by
    simp only [mI] at h
    split at h
    · rename_i x p hx
      obtain ⟨pp, pq, rfl⟩ := asCall_inv hx
      simp only [Bool.and_eq_true, decide_eq_true_eq] at h
      obtain ⟨⟨⟨⟨rfl, h2⟩, h3⟩, h4⟩, h5⟩ := h
      refine pi_weak (L2.pi_range1 (glB_ok g.hs h3) (g.blt _ h2).1 (L2.pa_cons (mE_ok e g p h4) L2.pa_nil (noStar_each _ h5)) (noStar_each _ h5)) fun τ H Q ⟨σ, S, F, m, sim, rs, q⟩ => ?_
      simp only [evI] at q
      refine one sim rs q fun x x' H2 S2 F2 m2 st sim2 rs2 rx q2 => ?_
      obtain ⟨j, e1, e2, q3⟩ := onInt_inv sim2 rx q2
      obtain ⟨pr, ep, q4⟩ := ofSome_inv q3
      cases er : rangeL 0 j with
      | none => rw [er] at ep; cases ep
      | some l =>
        rw [er] at ep
        cases ep
        obtain ⟨⟨_, _, b1, b2⟩, dw⟩ := walk_range (R := R) (F0 := F2) (m0 := m2) er
        rw [Int.sub_zero] at dw
        exact ⟨j, by rw [e1], b1, b2, Post.get q4 sim2 dw⟩
    · cases h
  | .range2 e f, X, sc, fb, W, g, tg, a, h => by
    simp only [mI] at h
    split at h
    · rename_i x p r hx
      obtain ⟨pp, pq, rfl⟩ := asCall_inv hx
      simp only [Bool.and_eq_true, decide_eq_true_eq] at h
      obtain ⟨⟨⟨⟨⟨rfl, h2⟩, h3⟩, h4⟩, h6⟩, h5⟩ := h
      refine pi_weak (L2.pi_range2 (glB_ok g.hs h3) (g.blt _ h2).1 (L2.pa_cons (mE_ok e g p h4) (L2.pa_cons (mE_ok f g r h6) L2.pa_nil (noStar_each _ (noStar_tl h5))) (noStar_each _ h5))
        (by rw [noStar_each _ h5, noStar_each _ (noStar_tl h5)]; rfl) (noStar_each _ (noStar_tl h5))) fun τ H Q ⟨σ, S, F, m, sim, rs, q⟩ => ?_
      simp only [evI] at q
      refine two sim rs q fun x y x' y' H2 S2 F2 m2 st sim2 rs2 rx ry q2 => ?_
      obtain ⟨i, e1, e2, q3⟩ := onInt_inv sim2 rx q2
      obtain ⟨j, e3, e4, q4⟩ := onInt_inv sim2 ry q3
      obtain ⟨pr, ep, q5⟩ := ofSome_inv q4
      cases er : rangeL i j with
      | none => rw [er] at ep; cases ep
      | some l =>
        rw [er] at ep
        cases ep
        obtain ⟨b, dw⟩ := walk_range (R := R) (F0 := F2) (m0 := m2) er
        exact ⟨i, j, by rw [e1, e3], b, Post.get q5 sim2 dw⟩
    · cases h
  | .enum _, X, sc, fb, W, g, tg, a, h => by simp [mI] at h
  | .zip _ _, X, sc, fb, W, g, tg, a, h => by simp [mI] at h
  | .rev _, X, sc, fb, W, g, tg, a, h => by simp [mI] at h
termination_by structural e => e
end
end Ev

end

section
set_option Elab.async false
set_option linter.all false
set_option maxRecDepth 100000
set_option maxHeartbeats 1000000
/-! Ev, part 12: a new list or dict that no one else holds. -/
namespace Ev
open PySem PySem.Spec PyProof.Rows
open L2 (V Hp HO PE PT PS PSs PA PG PGs PI TE TT TA TS TG TGs TI It VK SqL SqT Rd Key upd upd_same upd_ne OpR CallR IxR SlR MtR MtM R2 tOp RelV Vals WX Takes Room FnOk Sp XK Ends rI rI0 CMul CDiv CPow KV Itl Itt Itr Its Vis Loc Gl)

/-- as Post, and what comes is an object that is not frozen and of no cell -/
def PostN (R : RC) (W : WX) (τ : HSt) (H F : Hp) (m : List Addr) (r : Ev.R Val) (Q : VK) : Prop :=
  match r with
  | .ok v S' => match v with
    | .d (.lst l) => ∀ p xs H' F' m', Step H F m H' F' m' → Sim R H' F' m' S' → H' p = some (.lst xs) → p ∉ m' → F' p = none → H p = none → Reps R F' l xs → Q (.ref p) H'
    | .d (.dct l) => ∀ p xs H' F' m', Step H F m H' F' m' → Sim R H' F' m' S' → H' p = some (.dK xs) → p ∉ m' → F' p = none → H p = none → RepK R F' l xs → Q (.ref p) H'
    | _ => False
  | .exc x S' => ∀ cls d H' F' m', Step H F m H' F' m' → Sim R H' F' m' S' → ExnRep R F' x cls d H' → W cls d τ H'
  | .no => False
theorem PostN.bind {α β : Type} {R : RC} {W : WX} {rel : Hp → List Addr → α → β → Prop} {τ : HSt} {H F : Hp} {m : List Addr} {r : Ev.R α} {f : α → Store → Ev.R Val} {Q2 : VK} (h : PostN R W τ H F m (r.bind f) Q2) :
    Post R W rel τ H F m r (fun b H1 => ∃ a S1 F1 m1, Step H F m H1 F1 m1 ∧ Sim R H1 F1 m1 S1 ∧ rel F1 m1 a b ∧ PostN R W τ H1 F1 m1 (f a S1) Q2) := by
  cases r with
  | ok a S =>
    intro b H' F' m' st sim re
    refine ⟨a, S, F', m', st, sim, re, ?_⟩
    have h : PostN R W τ H F m (f a S) Q2 := h
    generalize f a S = r2 at h
    have back : ∀ {p : Addr}, H' p = none → H p = none := fun {p} hp => by
      cases e : H p with
      | none => rfl
      | some o =>
        have hm : p ∉ m := fun z => by
          obtain ⟨t, e⟩ := st.pre
          obtain ⟨u, q⟩ := sim.trk p (by rw [e]; exact List.mem_append_left _ z)
          rw [hp] at q; cases q
        have := st.keep p o e hm
        rw [hp] at this; cases this
    cases r2 with
    | ok v S' =>
      cases v with
      | ref n => exact h
      | d x =>
        cases x with
        | lst l => exact fun p xs H2 F2 m2 st2 sim2 h1 h2 h3 h4 h5 => h p xs H2 F2 m2 (st.trans st2) sim2 h1 h2 h3 (back h4) h5
        | dct l => exact fun p xs H2 F2 m2 st2 sim2 h1 h2 h3 h4 h5 => h p xs H2 F2 m2 (st.trans st2) sim2 h1 h2 h3 (back h4) h5
        | _ => exact h
    | exc x S' => exact fun cls d H2 F2 m2 st2 sim2 e => h cls d H2 F2 m2 (st.trans st2) sim2 e
    | no => exact h
  | exc x S => exact h
  | no => exact h
theorem bindP {α β : Type} {R : RC} {W' : WX} {rel : Hp → List Addr → α → β → Prop} {τ' : HSt} {H F : Hp} {m : List Addr} {r : Ev.R α} {PN : Ev.R Val → Prop} {f : α → Store → Ev.R Val} (hno : ¬ PN .no) (h : PN (r.nox.bind f)) :
    Post R W' rel τ' H F m r (fun b H' => ∃ a S' F' m', Step H F m H' F' m' ∧ Sim R H' F' m' S' ∧ rel F' m' a b ∧ PN (f a S')) := by
  cases r with
  | ok a S => exact fun b H' F' m' st sim re => ⟨a, S, F', m', st, sim, re, h⟩
  | exc x S => exact (hno h).elim
  | no => exact (hno h).elim
/-- the loop of a comprehension, whatever is wanted behind it -/
theorem lc_loop {R : RC} {C : Ev.Cx} {e : Exp} {t : Tgt} {own : List Nat} {ifs : List Tst} {τ : HSt} {Q : VK} {PN : Ev.R Val → Prop} (hno : ¬ PN .no) (hsl : (slots t).all own.contains = true) {σ : Sig} {S1 : Store} {H1 F1 : Hp} {m1 : List Addr} {p : Src} {J : It}
    (sim1 : Sim R H1 F1 m1 S1) (rs1 : RepS R F1 m1 σ τ) (dw : DWalk R F1 m1 p J)
    (hend : ∀ acc acc' S2 F2 m2 H2 L0, Step H1 F1 m1 H2 F2 m2 → Sim R H2 F2 m2 S2 → H2 L0 = some (.lst acc') → L0 ∉ m2 → F2 L0 = none → H1 L0 = none → Reps R F2 acc acc' → PN (.ok (.d (.lst acc)) S2) → Q (.ref L0) H2)
    (h1 : PN ((lcL p.ck (fun x S => match asgT (wipes σ own) t x with
      | some σ1 => ((evTs C ifs σ1 S).bind fun b S2 => match b with
        | true => (ev C e σ1 S2).bind fun v S3 => fzO v S3
        | false => .ok none S2).nox
      | none => .no) p.l [] S1).bind fun l S2 => .ok (.d (.lst l)) S2)) :
    ∀ D, H1 D = none → ∃ W : Nat → Nat → Hp → Prop, (∃ m, W 0 m (upd H1 D (.lst []))) ∧ ∀ i m H, W i m H →
  (J.stop i H ∧ Q (.ref D) H) ∨ (J.go i H ∧ ∃ Nx : Hp → Prop, (∀ H', Nx H' → ∃ m', m' < m ∧ W (i + 1) m' H') ∧ ∀ x H', J.yld i H x H' → tG R t x (L2.wipe τ own) H' fun σ2 H2 => L2.wipe σ2 own = L2.wipe τ own ∧ tTs R C (fun _ _ _ _ => False) ifs σ2 H2 fun b H3 =>
    if b = true then tE R C (fun _ _ _ _ => False) e σ2 H3 fun y H4 => ∃ acc, H4 D = some (.lst acc) ∧ acc.length < sizeLine ∧ Nx (upd H4 D (.lst (acc ++ [y]))) else Nx H3) := by
  intro L0 hD
  obtain ⟨hDF, hDm⟩ := sim1.fresh hD
  generalize hturn : (fun (x : D) (S : Store) => (match asgT (wipes σ own) t x with
      | some σ1 => ((evTs C ifs σ1 S).bind fun b S2 => match b with
        | true => (ev C e σ1 S2).bind fun v S3 => fzO v S3
        | false => .ok none S2).nox
      | none => .no : Ev.R (Option D))) = turn at h1
  refine ⟨fun i k H' => k = p.l.length - i ∧ i ≤ p.l.length ∧ ∃ acc acc' S' F' m', Step H1 F1 m1 H' F' m' ∧ Sim R H' F' m' S' ∧ H' L0 = some (.lst acc') ∧ L0 ∉ m' ∧ F' L0 = none ∧ Reps R F' acc acc' ∧
    PN ((lcL p.ck turn (p.l.drop i) acc S').bind fun l S2 => .ok (.d (.lst l)) S2), ?_, ?_⟩
  · refine ⟨p.l.length, by simp, Nat.zero_le _, [], [], S1, F1, m1, (Step.refl ..).over _ hD, sim1.over _ hDm hDF, upd_same, hDm, hDF, rfl, ?_⟩
    rw [List.drop_zero]
    exact h1
  · rintro i k H2 ⟨rfl, hi, acc, acc', S2, F2, m2, st2, sim2, hD2, hm2, hF2, ra, h2⟩
    have hck : p.ck S2 := by
      cases hd : p.l.drop i with
      | nil =>
        rw [hd] at h2
        simp only [lcL] at h2
        split at h2
        · assumption
        · exact (hno h2).elim
      | cons x l =>
        rw [hd] at h2
        simp only [lcL] at h2
        split at h2
        · assumption
        · exact (hno h2).elim
    by_cases hlt : i < p.l.length
    · refine .inr ⟨dw.goes i H2 F2 m2 S2 sim2 st2.sub st2.pre hck hlt, fun H' => ∃ acc acc' S' F' m', Step H1 F1 m1 H' F' m' ∧ Sim R H' F' m' S' ∧ H' L0 = some (.lst acc') ∧ L0 ∉ m' ∧ F' L0 = none ∧ Reps R F' acc acc' ∧
        PN ((lcL p.ck turn (p.l.drop (i + 1)) acc S').bind fun l S2 => .ok (.d (.lst l)) S2), fun H' nx => ⟨p.l.length - (i + 1), by omega, rfl, hlt, nx⟩, fun x H3 y => ?_⟩
      obtain ⟨F3, d, st3, sim3, hd, rd⟩ := dw.yields i H2 F2 m2 S2 x H3 sim2 st2.sub st2.pre hck hlt y
      obtain ⟨hD3, hm3, hF3⟩ := st3.mine hD2 hm2 hF2
      have hdrop : p.l.drop i = d :: p.l.drop (i + 1) := by
        obtain ⟨h1, h2⟩ := List.getElem?_eq_some_iff.mp hd
        rw [List.drop_eq_getElem_cons hlt, h2]
      rw [hdrop] at h2
      simp only [lcL, hck, if_true] at h2
      have h2' : PN (((turn d S2).bind fun o S1 => match o with
        | some y => if acc.length < big then lcL p.ck turn (p.l.drop (i + 1)) (acc ++ [y]) S1 else .no
        | none => lcL p.ck turn (p.l.drop (i + 1)) acc S1).bind fun l S2 => .ok (.d (.lst l)) S2) := h2
      have hT : turn d S2 = (match asgT (wipes σ own) t d with
      | some σ1 => ((evTs C ifs σ1 S2).bind fun b S2 => match b with
        | true => (ev C e σ1 S2).bind fun v S3 => fzO v S3
        | false => .ok none S2).nox
      | none => .no : Ev.R (Option D)) := by rw [← hturn]
      rw [hT] at h2'
      clear hT h2 hturn
      cases ha : asgT (wipes σ own) t d with
      | none => rw [ha] at h2'; exact (hno h2').elim
      | some σ1 =>
        rw [ha] at h2'
        have rs3 : RepS R F3 m2 σ τ := RepS.mono st3 (RepS.mono st2 rs1)
        refine ⟨wipes σ own, σ1, d, F3, m2, sim3.sub, rd, rs3.wipe own, ha, fun τ1 r1 o1 => ⟨?_, ?_⟩⟩
        · rw [← wipe_same τ own]
          refine wipe_ext o1.1 fun j hj => o1.2 j fun z => hj ?_
          have := List.all_eq_true.mp hsl j z
          simpa using this
        · have assoc : ∀ {α β γ : Type} (r : Ev.R α) (f : α → Store → Ev.R β) (g : β → Store → Ev.R γ), (r.bind f).bind g = r.bind fun a S => (f a S).bind g := by
            intro α β γ r f g
            cases r <;> rfl
          rw [assoc] at h2'
          simp only [nox_bind] at h2'
          refine ⟨σ1, S2, F3, m2, sim3, r1, (bindP hno h2').imp fun b H4 h4 => ?_⟩
          obtain ⟨b', S4, F4, m4, st4, sim4, rfl, h4⟩ := h4
          obtain ⟨hD4, hm4, hF4⟩ := st4.mine hD3 hm3 hF3
          have S24 := st2.trans (st3.trans st4)
          cases b' with
          | false =>
            simp only [Bool.false_eq_true, if_false]
            exact ⟨acc, acc', S4, F4, m4, S24, sim4, hD4, hm4, hF4, Reps.mono (st3.trans st4).sub ra, h4⟩
          | true =>
            simp only [if_true]
            simp only [nox_bind] at h4
            refine ⟨σ1, S4, F4, m4, sim4, RepS.mono st4 r1, (bindP hno h4).imp fun y H5 h5 => ?_⟩
            obtain ⟨v, S5, F5, m5, st5, sim5, rv, h5⟩ := h5
            obtain ⟨hD5, hm5, hF5⟩ := st5.mine hD4 hm4 hF4
            simp only [fzO] at h5
            cases hz : fzv S5 v with
            | none => rw [hz] at h5; exact (hno h5).elim
            | some q =>
              obtain ⟨z, S6⟩ := q
              rw [hz] at h5
              obtain ⟨F6, sim6, st6, rz⟩ := fzv_ok sim5 rv hz
              obtain ⟨hD6, hm6, hF6⟩ := st6.mine hD5 hm5 hF5
              simp only [Ev.R.nox_ok, Ev.R.bind_ok] at h5
              split at h5
              · rename_i hlen
                have ra6 : Reps R F6 acc acc' := Reps.mono ((st3.trans st4).trans (st5.trans st6)).sub ra
                refine ⟨acc', hD5, by rw [← ra.length, ← big_eq]; exact hlen, acc ++ [z], acc' ++ [y], S6, F6, m5, (S24.trans (st5.trans st6)).over _ hD, sim6.over _ hm6 hF6, upd_same, hm6, hF6, ?_, h5⟩
                exact ra6.append ⟨y, [], rfl, rz, rfl⟩
              · exact (hno h5).elim
    · have e : i = p.l.length := by omega
      subst e
      refine .inl ⟨dw.stops H2 F2 m2 S2 sim2 st2.sub st2.pre hck, ?_⟩
      rw [List.drop_length] at h2
      simp only [lcL, hck, if_true, Ev.R.bind_ok] at h2
      exact hend acc acc' S2 F2 m2 H2 L0 st2 sim2 hD2 hm2 hF2 hD ra h2

def tN (R : RC) (C : Ev.Cx) (W : WX) (e : Exp) : TE := fun τ H Q => ∃ σ S F m, Sim R H F m S ∧ RepS R F m σ τ ∧ PostN R W τ H F m (ev C e σ S) Q
theorem lc_redN {R : RC} {C : Ev.Cx} {W : WX} {e : Exp} {t : Tgt} {own : List Nat} {it : Ite} {ifs : List Tst} {τ : HSt} {H : Hp} {Q : VK} (hsl : (slots t).all own.contains = true) (h : tN R C W (.lc e t own it ifs) τ H Q) :
    L2.tLc (tI R C W it) (tG R t) (tTs R C (fun _ _ _ _ => False) ifs) (tE R C (fun _ _ _ _ => False) e) own τ H Q := by
  obtain ⟨σ, S, F, m, sim, rs, h⟩ := h
  simp only [ev] at h
  refine ⟨σ, S, F, m, sim, rs, (PostN.bind h).imp fun J H1 h1 => ?_⟩
  obtain ⟨p, S1, F1, m1, st1, sim1, dw, h1⟩ := h1
  exact lc_loop (PN := fun r => PostN R W τ H1 F1 m1 r Q) (fun z => z) hsl sim1 (RepS.mono st1 rs) dw (fun acc acc' S2 F2 m2 H2 L0 st2 sim2 a1 a2 a3 a4 a5 z => z L0 acc' H2 F2 m2 st2 sim2 a1 a2 a3 a4 a5) h1
/-- the parts of a comprehension's text -/
theorem lcP_ok {R : RC} {C : Ev.Cx} {nm : Nm} {e : Exp} {t : Tgt} {own : List Nat} {it : Ite} {ifs : List Tst} {X : HCx} {sc : Scope} {fb : Str → Bool} {W : WX} (g : GX R C nm X sc fb W) {a : Expr} (h : mE nm (.lc e t own it ifs) sc fb a = true) :
    ∃ x tg i c s p, a = .ListComp x [⟨tg, i, c, 0⟩] s p ∧ PI X tg i (tI R C W it) ∧ L2.BlkOk X.N X.env.scope s (ownP nm own) ∧
      (∀ s0 H0 c0 cl fp, PG (X.blk s0 H0 s (compEnvC s cl c0 X.env) fp) tg (tG R t)) ∧ (∀ s0 H0 c0 cl fp, L2.PTs (X.blk s0 H0 s (compEnvC s cl c0 X.env) fp) c (tTs R C (fun _ _ _ _ => False) ifs)) ∧
      (∀ s0 H0 c0 cl fp, PE (X.blk s0 H0 s (compEnvC s cl c0 X.env) fp) x (tE R C (fun _ _ _ _ => False) e)) ∧ (∀ x, foldedSetIterable i X.env x = pure x) ∧ (slots t).all own.contains = true ∧ (ownP nm own).map (·.2) = own ∧ X.calm = true := by
  simp only [mE] at h
  split at h
  · rename_i x tg i c s hx
    obtain ⟨p, rfl⟩ := asLc_inv hx
    simp only [Bool.and_eq_true, decide_eq_true_eq] at h
    obtain ⟨⟨⟨⟨⟨⟨⟨⟨⟨h1, h2⟩, h3⟩, h4⟩, h5⟩, h6⟩, h7⟩, h8⟩, h9⟩, h10⟩ := h
    have hc := g.hc (by simpa using h10)
    exact ⟨x, tg, i, c, s, p, rfl, mI_ok it g tg i h1, by rw [g.hN, g.hs]; exact L2.blkOk_by h3, fun s0 H0 c0 cl fp => mG_ok (g.blk s0 H0 s cl c0 fp).hs rfl g.hN g.nd g.hK hc t tg h6,
      fun s0 H0 c0 cl fp => mTs1_ok ifs (g.blk s0 H0 s cl c0 fp) c h7 h8, fun s0 H0 c0 cl fp => mE_ok e (g.blk s0 H0 s cl c0 fp) x h9, noSet_fold h2 _, h5, h4, hc⟩
  · cases h
/-- is it an expression whose value is new -/
def newK : Exp → Bool
  | .lst _ => true
  | .dct _ _ => true
  | .lc _ _ _ _ _ => true
  | .blt .list _ => true
  | .slc _ _ _ => true
  | .bin .add _ _ => true
  | _ => false
theorem PostN.newL {R : RC} {W : WX} {τ : HSt} {H F : Hp} {m : List Addr} {S : Store} {Q : VK} {l : List D} {xs : List V} (sim : Sim R H F m S) (hl : Reps R F l xs) (h : PostN R W τ H F m (.ok (.d (.lst l)) S) Q) : ∀ p, H p = none → Q (.ref p) (upd H p (.lst xs)) := fun p hp => by
  obtain ⟨hF, hm⟩ := sim.fresh hp
  exact h p xs (upd H p (.lst xs)) F m ((Step.refl ..).over _ hp) (sim.over _ hm hF) upd_same hm hF hp hl
section
variable {R : RC} {C : Ev.Cx} {W : WX} {τ : HSt} {H : Hp}
theorem oneN {a : Exp} {σ : Sig} {S : Store} {F : Hp} {m : List Addr} {f : Val → Store → Ev.R Val} {Q : VK} {P : V → Hp → Prop} (sim : Sim R H F m S) (rs : RepS R F m σ τ)
    (h : PostN R W τ H F m ((ev C a σ S).bind fun x S1 => f x S1) Q)
    (k : ∀ x x' H1 S1 F1 m1, Step H F m H1 F1 m1 → Sim R H1 F1 m1 S1 → RepS R F1 m1 σ τ → RepV R F1 m1 x x' → PostN R W τ H1 F1 m1 (f x S1) Q → P x' H1) :
    tE R C W a τ H fun x H1 => P x H1 :=
  ⟨σ, S, F, m, sim, rs, (PostN.bind h).imp fun x' H1 ⟨x, S1, F1, m1, st1, sim1, rx, h1⟩ => k x x' H1 S1 F1 m1 st1 sim1 (RepS.mono st1 rs) rx h1⟩
theorem oneLN {l : List Exp} {σ : Sig} {S : Store} {F : Hp} {m : List Addr} {f : List Val → Store → Ev.R Val} {Q : VK} {P : List V → Hp → Prop} (sim : Sim R H F m S) (rs : RepS R F m σ τ)
    (h : PostN R W τ H F m ((evs C l σ S).bind fun x S1 => f x S1) Q)
    (k : ∀ x x' H1 S1 F1 m1, Step H F m H1 F1 m1 → Sim R H1 F1 m1 S1 → RepS R F1 m1 σ τ → RepVs R F1 m1 x x' → PostN R W τ H1 F1 m1 (f x S1) Q → P x' H1) :
    tEs R C W l τ H fun x H1 => P x H1 :=
  ⟨σ, S, F, m, sim, rs, (PostN.bind h).imp fun x' H1 ⟨x, S1, F1, m1, st1, sim1, rx, h1⟩ => k x x' H1 S1 F1 m1 st1 sim1 (RepS.mono st1 rs) rx h1⟩
end
theorem mN_ok {R : RC} {C : Ev.Cx} {nm : Nm} (e : Exp) {X : HCx} {sc : Scope} {fb : Str → Bool} {W : WX} (g : GX R C nm X sc fb W) (a : Expr) (h : mE nm e sc fb a = true) (hk : newK e = true) : PE X a (tN R C W e) := by
  cases e with
  | lst es =>
    simp only [mE] at h
    split at h
    · rename_i l hx
      obtain ⟨pp, rfl⟩ := asLst_inv hx
      simp only [Bool.and_eq_true] at h
      refine pe_weak (L2.pe_lst (mEs_ok es g l h.1 h.2)) fun τ H Q ⟨σ, S, F, m, sim, rs, q⟩ => ?_
      simp only [ev] at q
      refine oneLN sim rs q fun x x' H2 S2 F2 m2 st sim2 rs2 rx q2 => ?_
      simp only [disp] at q2
      cases hz : fzs S2 x with
      | none => rw [hz] at q2; exact q2.elim
      | some z =>
        obtain ⟨xs, S3⟩ := z
        rw [hz] at q2
        obtain ⟨F3, sim3, st3, r3⟩ := fzs_ok sim2 rx hz
        simp only at q2
        split at q2
        · rename_i hl
          refine ⟨by rw [← r3.length, ← big_eq]; exact hl, PostN.newL (W := W) (τ := τ) sim3 r3 fun p xs H' F' m' st' sim' b1 b2 b3 b4 b5 => q2 p xs H' F' m' (st3.trans st') sim' b1 b2 b3 b4 b5⟩
        · exact q2.elim
    · cases h
  | bin o p q =>
    cases o with
    | add =>
      simp only [mE] at h
      split at h
      · rename_i l op r hx
        obtain ⟨pp, rfl⟩ := asBin_inv hx
        simp only [Bool.and_eq_true, decide_eq_true_eq] at h
        obtain ⟨⟨rfl, h2⟩, h3⟩ := h
        refine pe_weak (L2.pe_op (op_bin .add) (mE_ok p g l h2) (mE_ok q g r h3)) fun τ H Q ⟨σ, S, F, m, sim, rs, qq⟩ => ?_
        simp only [ev] at qq
        refine oneN sim rs qq fun x x' H1 S1 F1 m1 st1 sim1 rs1 rx q1 => ?_
        refine oneN sim1 rs1 q1 fun y y' H2 S2 F2 m2 st2 sim2 rs2 ry q2 => ?_
        have rx2 := RepV.mono st2 rx
        unfold on2 at q2
        cases ha : rdv S2 x with
        | none => rw [ha] at q2; exact q2.elim
        | some a =>
          cases hb : rdv S2 y with
          | none => rw [ha, hb] at q2; exact q2.elim
          | some b =>
            rw [ha, hb] at q2
            cases hz : binD .add a b with
            | none => simp only [hz] at q2; exact q2.elim
            | some z =>
              simp only [hz] at q2
              unfold binD at hz
              split at hz <;> first | (cases hz; exact q2.elim) | (split at hz <;> first | (cases hz; done) | skip) | cases hz
              all_goals first
                | (cases hz; exact q2.elim)
                | (exact absurd ‹Bop.add = Bop.mul› (by intro h; cases h))
                | (rename_i hle
                   cases hz
                   obtain ⟨p1, xs, rfl, k1, k2⟩ := rdv_lst sim2 rx2 ha
                   obtain ⟨p2, ys, rfl, k3, k4⟩ := rdv_lst sim2 ry hb
                   exact .inr ⟨p1, p2, xs, ys, rfl, rfl, k1, k3, by rw [← big_eq, ← k2.length, ← k4.length]; exact hle, PostN.newL sim2 (k2.append k4) q2⟩)
      · cases h
    | _ => cases hk
  | lc e t own it ifs =>
    obtain ⟨x, tg, i, c, s, p, rfl, hi, ok, hg, ht, he, hs, h5, h4, hc⟩ := lcP_ok g h
    refine pe_weak (L2.pe_lc (own := ownP nm own) hc (by rw [g.hN]; exact g.nd) hi ok hg ht he hs) fun τ H Q q => ?_
    have := lc_redN h5 q
    rw [h4]
    exact this
  | dct ks es =>
    simp only [mE] at h
    split at h
    · rename_i l v hx
      obtain ⟨pp, rfl⟩ := asDct_inv hx
      simp only [Bool.and_eq_true, decide_eq_true_eq] at h
      obtain ⟨⟨⟨h1, h2⟩, h3⟩, h4⟩ := h
      obtain ⟨⟨qs, hq⟩, hall, hlk, _⟩ := mKs_keys h1
      have hle := mEs_len h2
      have e1 : ks.length = qs.length := by simpa using congrArg List.length hq
      have red : ∀ τ H Q, tN R C W (.dct ks es) τ H Q → L2.tDisp (prs R C W qs es) τ H Q := fun τ H Q ⟨σ, S, F, m, sim, rs, q⟩ => by
        simp only [ev] at q
        refine dct_red (PN := fun r => PostN R W τ H F m r Q) hq (by omega) sim rs (fun z => z) (fun x S z => z) (fun l kvs S2 F2 m2 H2 p st2 sim2 a1 a2 a3 a4 a5 z => ?_) q
        exact z p kvs H2 F2 m2 st2 sim2 a1 a2 a3 a4 a5
      cases l with
      | nil =>
        cases v with
        | cons => cases h3
        | nil =>
          refine pe_weak L2.pe_dnewK fun τ H Q q p hp => ?_
          have := red τ H Q q p hp
          cases qs with
          | cons => simp at hlk e1; omega
          | nil =>
            obtain ⟨_, kvs, e2, _, q2⟩ := this
            have e3 : kvs = [] := by cases kvs with
              | nil => rfl
              | cons => simp [prs] at e2
            subst e3
            rw [show upd (upd H p (HO.dK [])) p (HO.dK (L2.mergeK [] [])) = upd H p (HO.dK []) from by funext b; unfold upd; split <;> rfl] at q2
            exact q2
      | cons k l => exact pe_weak (L2.pe_disp (pps_ok h1 hq (mEi_ok es g v h2) (by omega) (by omega)) hall h3 (by simp) h4) red
    · cases h
  | blt b es =>
    have hb : b = .list := by cases b <;> first | rfl | cases hk
    subst hb
    simp only [mE] at h
    split at h
    · rename_i x l hx
      obtain ⟨pp, pq, rfl⟩ := asCall_inv hx
      simp only [Bool.and_eq_true, decide_eq_true_eq, Bool.not_eq_true'] at h
      obtain ⟨⟨⟨⟨⟨⟨h1, h2⟩, h3⟩, h4⟩, h5⟩, h6⟩, _⟩ := h
      obtain ⟨hm, hn, hd⟩ := g.blt x h2
      have red : ∀ τ H Q, tN R C W (.blt .list es) τ H Q → L2.tCB (rBlt X.K .list) (tEs R C W es) τ H Q := fun τ H Q ⟨σ, S, F, m, sim, rs, q⟩ => by
        simp only [ev] at q
        refine oneLN sim rs q fun x x' H2 S2 F2 m2 st sim2 rs2 rx q2 => ?_
        rw [← g.hK]
        unfold onL at q2
        cases hv : rdvs S2 x with
        | none => rw [hv] at q2; exact q2.elim
        | some xs =>
          rw [hv] at q2
          simp only at q2
          match xs, hv, q2 with
          | [.lst l], hv, q2 =>
            obtain ⟨v, rfl, e1⟩ := rdvs_get hv rfl
            obtain ⟨v', rfl, rv⟩ := RepVs.one rx
            obtain ⟨a, ys, rfl, h1, h2⟩ := rdv_lst sim2 rv e1
            exact ⟨a, ys, rfl, .inl (.inl h1), PostN.newL sim2 h2 q2⟩
          | [.tup l], hv, q2 =>
            obtain ⟨v, rfl, e1⟩ := rdvs_get hv rfl
            obtain ⟨v', rfl, rv⟩ := RepVs.one rx
            obtain ⟨a, ys, rfl, h1, h2⟩ := rdv_tup sim2 rv e1
            exact ⟨a, ys, rfl, .inr (sim2.sub.sqT h1), PostN.newL sim2 h2 q2⟩
          | [], hv, q2 => exact q2.elim
          | [.non], hv, q2 => exact q2.elim
          | [.bl _], hv, q2 => exact q2.elim
          | [.int _], hv, q2 => exact q2.elim
          | [.str _], hv, q2 => exact q2.elim
          | [.dct _], hv, q2 => exact q2.elim
          | [.ins _ _], hv, q2 => exact q2.elim
          | x :: y :: l, hv, q2 => cases x <;> exact q2.elim
      cases l with
      | nil => cases h6
      | cons e0 l =>
        exact pe_weak (pe_blt .list h1 (fun z => by cases z) g.hu g.gd g.sys (glB_ok g.hs h3) hm hn hd (mEs_ok es g (e0 :: l) h4 h5) (noStar_each _ h5) (noStar_any _ _ (noStar_tl h5))) red
    · cases h
  | slc p lo hi =>
    simp only [mE] at h
    split at h
    · rename_i x y z hx
      obtain ⟨pp, pq, rfl⟩ := asSlc_inv hx
      simp only [Bool.and_eq_true] at h
      obtain ⟨⟨h1, h2⟩, h3⟩ := h
      refine pe_weak (L2.pe_slice sl_all (mE_ok p g x h1) (mO_ok lo g y h2) (mO_ok hi g z h3)) fun τ H Q ⟨σ, S, F, m, sim, rs, q⟩ => ?_
      simp only [ev] at q
      refine oneN sim rs q fun x x' H2 S2 F2 m2 st sim2 rs2 rx q2 => ?_
      refine ⟨σ, S2, F2, m2, sim2, rs2, (PostN.bind q2).imp fun l H3 ⟨l', S3, F3, m3, st3, sim3, e3, q3⟩ => ?_⟩
      cases e3
      refine ⟨σ, S3, F3, m3, sim3, RepS.mono st3 rs2, (PostN.bind q3).imp fun u H4 ⟨u', S4, F4, m4, st4, sim4, e4, q4⟩ => ?_⟩
      cases e4
      rw [← g.hK]
      unfold on1 at q4
      cases hv : rdv S4 x with
      | none => rw [hv] at q4; exact q4.elim
      | some d =>
        rw [hv] at q4
        cases d with
        | lst l0 =>
          obtain ⟨a, ys, rfl, h1, h2⟩ := rdv_lst sim4 (RepV.mono (st3.trans st4) rx) hv
          exact .inl (.inl ⟨a, ys, rfl, .inl h1, PostN.newL sim4 (h2.cut _ _) q4⟩)
        | tup l0 => exact q4.elim
        | str l0 =>
          simp only [slcD] at q4
          by_cases hb : l0.length ≤ big
          · rw [if_pos hb] at q4; exact q4.elim
          · rw [if_neg hb] at q4; exact q4.elim
        | _ => exact q4.elim
    · cases h
  | _ => cases hk
end Ev

end

section
set_option Elab.async false
set_option linter.all false
set_option maxRecDepth 100000
/-! Ev, part X: try. -/
namespace Ev
open PySem PySem.Spec PyProof.Rows
open L2 (V Hp HO PE PT PS PSs PA PG PGs PI TE TT TA TS TG TGs VK SqL SqT Rd Key upd upd_same upd_ne OpR CallR RelV Vals WX Takes Room FnOk Sp XK Ends Zc ClsV Gl)
/-- an object that stands is tracked from now on -/
theorem Inv.track {X : HCx} {pins : List (Addr × Obj)} {σ : HSt} {H : Hp} {s : Shared} {a : Addr} {oe : Obj} {vs : Array Value} (I : L2.Inv X pins σ H s) (ha : s.heap.get? a = some oe) (hd : oe.data = .fields vs) (na : H a = none) (n0 : X.s_0.heap.get? a = none)
    (nL : a ≠ X.env.locals) (np : ∀ p ∈ X.pn ++ pins, p.1 ≠ a) : L2.Inv X pins σ (upd H a (exHO oe)) s where
  ok := I.ok
  os := I.os
  bare := I.bare
  base := ⟨I.base.keep, I.base.slot, fun b o q n hx => by
      rw [upd_ne (fun z => by subst z; rw [n0] at q; cases q)]; exact I.base.free b o q n hx, I.base.there,
    fun b xs q => by have := I.base.tups b xs q; rw [upd_ne (L2.ne_of_none this na)]; exact this,
    fun b o u q => by have := I.base.frzs b o u q; rw [upd_ne (L2.ne_of_none this na)]; exact this,
    fun b ps q => by obtain ⟨mo, e⟩ := I.base.tbls b ps q; exact ⟨mo, by rw [upd_ne (L2.ne_of_none e na)]; exact e⟩⟩
  loc := I.loc
  cell := I.cell
  free := by rw [upd_ne nL.symm]; exact I.free
  freeC := fun x c e => by
    rw [upd_ne (fun z => by
      subst z
      obtain ⟨v, o, ho, hdc⟩ := I.cell x c e
      rw [ha] at ho; cases ho; rw [hd] at hdc; cases hdc)]
    exact I.freeC x c e
  pin := fun p hp => by
    obtain ⟨h1, h2, h3, h4, h5⟩ := I.pin p hp
    exact ⟨h1, by rw [upd_ne (np p hp)]; exact h2, h3, h4, h5⟩
  hok := fun b u e => by
    by_cases hb : b = a
    · subst hb; rw [upd_same] at e; cases e
      exact ⟨ha, trivial, ⟨oe, ha⟩, fun _ _ _ _ => trivial⟩
    · rw [upd_ne hb] at e
      exact (I.hok b u e).stay (fun _ _ _ q => q) (fun c q => by rw [upd_ne (L2.ne_of_none q na)]; exact q) (fun c xs q => by rw [upd_ne (L2.ne_of_none q na)]; exact q)
  len := I.len
theorem Inv.toSuite {X : HCx} {pins : List (Addr × Obj)} {σ : HSt} {H : Hp} {s : Shared} (I : L2.Inv X pins σ H s) (a : Addr) : L2.Inv (X.suite a (X.pn ++ pins)) [] σ H s :=
  ⟨I.ok.suite _ _, I.os, I.bare, I.base, I.loc, I.cell, I.free, I.freeC, fun p hp => by rw [List.append_nil] at hp; exact I.pin p hp, I.hok, I.len⟩
theorem Inv.ofSuite {X : HCx} {pins : List (Addr × Obj)} {σ : HSt} {H : Hp} {s : Shared} {a : Addr} {pn' : List (Addr × Obj)} (I : L2.Inv (X.suite a (X.pn ++ pins)) pn' σ H s) (ok : X.Ok) : L2.Inv X pins σ H s :=
  ⟨ok, I.os, I.bare, I.base, I.loc, I.cell, I.free, I.freeC, fun p hp => I.pin p (List.mem_append_left _ hp), I.hok, I.len⟩
/-- a suite's ends: the name goes -/
def endsX (i : Option Nat) (D : Ends) : Ends := match i with
  | some i => { nx := fun σ' H' => D.nx (σ'.set i none) H', rt := D.rt, bk := fun σ' H' => D.bk (σ'.set i none) H', ct := fun σ' H' => D.ct (σ'.set i none) H' }
  | none => D
def sigX (i : Option Nat) (a : Addr) (σ : HSt) : HSt := match i with
  | some i => σ.set i (some (.ref a))
  | none => σ
/-- a clause, as the rule reads it -/
structure Cl where
  c : Value
  i : Option Nat
  ts : TS
def wX (K : PySem.W.Frag) (Wout : WX) (D : Ends) : List Cl → WX
  | [] => Wout
  | q :: r => fun cls d σ H => ∃ b, PySem.W.exmOne K cls q.c = some b ∧ (b = true → ∀ a oe, H a = none → Zc cls d oe → (∃ vs, oe.data = .fields vs) → q.ts (endsX q.i D) (sigX q.i a σ) (upd H a (exHO oe))) ∧ (b = false → wX K Wout D r cls d σ H)
def nmX (X : HCx) : Option Str → Option Nat → Prop
  | some n, some i => X.N[i]? = some n ∧ X.env.kindOf n = some .local
  | none, none => True
  | _, _ => False
inductive HdsX (X : HCx) : List ExceptHandler → List Cl → Prop
  | nil : HdsX X [] []
  | cons {x : Str} {n : Option Str} {q : Cl} {b₀ : Stmt} {suite : List Stmt} {np pos' : Pos} {hds : List ExceptHandler} {l : List Cl} (hc : L2.Names X x q.c) (hn : nmX X n q.i)
      (hsu : ∀ (a : Addr) (pn : List (Addr × Obj)), PSs (X.suite a pn) (b₀ :: suite) q.ts) (r : HdsX X hds l) :
      HdsX X (.ExceptHandler (some (.Name x np)) n (b₀ :: suite) pos' :: hds) (q :: l)
section
variable {X : HCx} {body : List Stmt} {h₀ : ExceptHandler} {hds : List ExceptHandler} {l : List Cl} {pos : Pos} {tb : WX → TS} {Wout : WX}
theorem ps_try (hs : X.stack = X.env :: X.outer) (hf : X.env.frame = some X.env.locals) (hex : X.ex = []) (hN : X.N.Nodup) (tk : Takes X Wout)
    (hb : ∀ (W : WX) (pn : List (Addr × Obj)) (xe : Value → Shared → Prop), Takes (X.tr pn xe) W → PassesOwn (model X.prog X.w) X.A X.env xe → PSs (X.tr pn xe) body (tb W))
    (hh : HdsX X (h₀ :: hds) l) : PS X (.Try body (h₀ :: hds) [] [] pos) (fun D σ H => tb (wX X.K Wout D l) D σ H) := by
  refine ⟨fun pins s σ H D I h => ?_⟩
  have ok := I.ok
  have hfr : X.A.frames = some (X.env :: X.outer) := by rw [ok.frames, hs]
  refine wpAny_Try_except ?_
  refine wpAny_mono ((hb (wX X.K Wout D l) (X.pn ++ pins) (fun e s₁ => wpAny (model X.prog X.w) X.A (noteFrame e X.env) (fun _ s₂ => wpAny (model X.prog X.w) X.A (setFlight e none) (fun _ s₃ =>
    wpAny (model X.prog X.w) X.A (handleBy e X.env (h₀ :: hds)) (L2.SP X pins D) X.xe s₃) X.xe s₂) X.xe s₁) (fun u s' xx => ?_) PassesOwn.looking).run [] s σ H D (I.toTry _) h) (fun f s1 hsp => ?_) (fun e s1 he => he)
  · obtain ⟨a, B, sI, pins', σ', H', cls, d, rfl, J', nb, up, sky, na, os, ag, w⟩ := xx
    have J : L2.Inv X pins σ' H' sI := J'.ofTry ok
    have sky' : L2.Sky B (X.env :: X.outer) a (Zc cls d) X.env.locals s'.heap := by rw [← hs]; exact sky
    show wpAny (model X.prog X.w) X.A (noteFrame (.ref a) X.env) _ _ _
    refine L2.Sky.land L2.Zc.steady hfr hf sky' fun h3 fl3 up3 => ?_
    have J3 : L2.Inv X pins σ' H' { s' with heap := h3 } := J.landed nb fl3.1 (up.trans up3) os ag
    obtain ⟨oe3, vs3, he3, hz3, hd3⟩ := fl3.there
    have notFr : ∀ {h : Heap} {o : Obj} {vs : Array Value}, h.FunFrames B (X.env :: X.outer) → h.get? a = some o → o.data = .fields vs → a ∉ L2.frs (X.env :: X.outer) := fun {h o vs} ff e dd hm => by
      obtain ⟨_, o', e', hnf⟩ := ff.mem hm
      rw [e] at e'; cases e'
      exact hnf _ dd
    have nfr := notFr fl3.2.2.1 he3 hd3
    have nfr' : a ∉ L2.frs X.stack := by rw [hs]; exact nfr
    have nL : a ≠ X.env.locals := fun z => nfr (List.mem_filterMap.mpr ⟨X.env, List.mem_cons_self, by rw [hf, z]⟩)
    have nF : a ∉ X.fs := fun hm => by
      obtain ⟨e, he, q⟩ := List.mem_filterMap.mp hm
      exact nfr (List.mem_filterMap.mpr ⟨e, List.mem_cons_of_mem _ he, q⟩)
    have nB : B.get? a = none := fl3.2.1
    have n0 : X.s_0.heap.get? a = none := by
      cases q : X.s_0.heap.get? a with
      | none => rfl
      | some o =>
        obtain ⟨o', e'⟩ := J.base.there a o q (by rw [hex]; simp)
        have := nb a o' e' nfr'
        rw [nB] at this; cases this
    have np : ∀ p ∈ X.pn ++ pins, p.1 ≠ a := fun p hp z => by
      obtain ⟨h1, h2, h3, h4, h5⟩ := J.pin p hp
      have := nb p.1 p.2 h1 (by rw [z]; exact nfr')
      rw [z, nB] at this; cases this
    have S3 := J3.suite he3 hd3 na nL nF
    have go : ∀ {hds' : List ExceptHandler} {l' : List Cl}, HdsX X hds' l' → wX X.K Wout D l' cls d σ' H' →
        wpAny (model X.prog X.w) X.A (handleBy (.ref a) X.env hds') (L2.SP X pins D) X.xe { s' with heap := h3 } := by
      intro hds' l' hk
      induction hk with
      | nil =>
        intro w
        refine wpAny_handleBy_nil ?_
        obtain ⟨k1, k2, k3, oe, vs, T, oT, ts', he, hz, hd, h1, hr⟩ := id fl3
        unfold PySem.passOn
        refine wpAny_bind (wpAny_field he hd h1 ?_)
        rw [if_neg (show ¬ ((Value.ref T == Value.none) = true) from by simp)]
        have fin : wpAny (model X.prog X.w) X.A (setFlight (.ref a) X.env.frame) (fun _ s4 => wpAny (model X.prog X.w) X.A (throw (.ref a) : Sem PySem.Flow) (L2.SP X pins D) X.xe s4) X.xe { s' with heap := h3 } := by
          rw [hf]
          refine HandSPX.setFlight_upZ fl3 fun h4 hh4 up4 => wpAny_throw (tk _ _ ?_)
          exact ⟨a, B, sI, pins, σ', H', cls, d, rfl, J, nb, (up.trans up3).trans up4, .inr (.inr (by rw [hs]; exact hh4)), na, os, ag, w⟩
        first
          | exact wpAny_bind (wpAny_pure (wpAny_bind fin))
          | exact wpAny_bind fin
      | @cons x n q b₀ suite np' pos' hds2 l2 hc hn hsu r ih =>
        intro w
        obtain ⟨b, hb1, hyes, hno⟩ := w
        refine wpAny_handleBy_cons (codeAny_handlers_test ?_) (by intro q; cases q)
        have LT : PySem.W.Looks (model X.prog X.w) h3 (typeOf (.ref a)) cls := fun A Q E s k q => wpAny_typeOf_ref (k _ _ he3) (by rw [hz3.1]; exact q)
        have LM := PySem.W.exm_one (M := model X.prog X.w) (J3.kIn) LT hb1
        have test : ∀ {Q : Value → Shared → Prop} {E : Value → Shared → Prop}, Q q.c { s' with heap := h3 } → wpAny (model X.prog X.w) (X.A.mark (some (.ref a))) (eval (.Name x np') X.env) Q E { s' with heap := h3 } := fun {Q E} q => by
          obtain ⟨hg, hdbg, hm | ⟨hm, hv, hnn⟩⟩ := hc
          · exact L2.ld_glob (X := X.suite a ((a, oe3) :: (X.pn ++ pins))) S3 hg hm q hdbg
          · exact L2.ld_blt (X := X.suite a ((a, oe3) :: (X.pn ++ pins))) S3 hg hm hv q hnn hdbg
        refine test (LM.here ?_)
        cases b with
        | true =>
          have yes := hyes rfl
          obtain ⟨qc, qi, qt⟩ := q
          cases n with
          | none =>
            cases qi with
            | some i => exact hn.elim
            | none =>
              refine codeAny_handlers_suite ?_
              refine HandSPX.lands_againZ fl3 fun h4 fl4 up4 => ?_
              have J4 : L2.Inv X pins σ' H' { s' with heap := h4 } := J.landed nb fl4.1 ((up.trans up3).trans up4) os ag
              obtain ⟨oe4, vs4, he4, hz4, hd4⟩ := fl4.there
              have S4 := Inv.toSuite (Inv.track J4 he4 hd4 na n0 nL np) a
              refine wpAny_mono ((hsu a (X.pn ++ pins)).run [] _ _ _ _ S4 (yes a oe4 na hz4 ⟨_, hd4⟩)) (fun f s6 hsp => ?_) (fun _ _ z => False.elim z)
              cases f with
              | next =>
                obtain ⟨σ6, H6, S6, q6⟩ := hsp
                exact ⟨_, _, Inv.ofSuite S6 ok, q6⟩
              | brk =>
                obtain ⟨σ6, H6, S6, q6⟩ := hsp
                exact ⟨_, _, Inv.ofSuite S6 ok, q6⟩
              | cont =>
                obtain ⟨σ6, H6, S6, q6⟩ := hsp
                exact ⟨_, _, Inv.ofSuite S6 ok, q6⟩
              | ret u =>
                obtain ⟨v6, σ6, H6, S6, r6, q6⟩ := hsp
                exact ⟨_, _, _, Inv.ofSuite S6 ok, r6, q6⟩
          | some n =>
            cases qi with
            | none => exact hn.elim
            | some i =>
              obtain ⟨hi, hln⟩ := hn
              have hloc : L2.Loc X.env.scope n := .inl hln
              refine codeAny_handlers_suite_as ?_
              refine HandSPX.lands_againZ fl3 fun h4 fl4 up4 => ?_
              have J4 : L2.Inv X pins σ' H' { s' with heap := h4 } := J.landed nb fl4.1 ((up.trans up3).trans up4) os ag
              obtain ⟨oe4, vs4, he4, hz4, hd4⟩ := fl4.there
              have S4 := Inv.toSuite (Inv.track J4 he4 hd4 na n0 nL np) a
              refine L2.store_ok (X := X.suite a (X.pn ++ pins)) (v := .ref a) S4 hN hi hloc rfl (fun s5 S5 => ?_) (.inr hln)
              refine wpAny_mono ((hsu a (X.pn ++ pins)).run [] s5 _ _ _ S5 (yes a oe4 na hz4 ⟨_, hd4⟩)) (fun f s6 hsp => ?_) (fun _ _ z => False.elim z)
              have end_ : ∀ {σ6 : HSt} {H6 : Hp} {Q : Shared → Prop}, L2.Inv (X.suite a (X.pn ++ pins)) [] σ6 H6 s6 → (∀ s7, L2.Inv X pins (σ6.set i none) H6 s7 → Q s7) →
                  wpAny (model X.prog X.w) X.A (do bindName X.env n .none; unbindBehindTheSuite X.env n pos') (fun _ s7 => Q s7) X.xe s6 := fun {σ6 H6 Q} S6 hq => L2.gone_ok (Inv.ofSuite S6 ok) hN hi hln hq
              cases f with
              | next =>
                obtain ⟨σ6, H6, S6, q6⟩ := hsp
                exact end_ S6 fun s7 J7 => ⟨_, _, J7, q6⟩
              | brk =>
                obtain ⟨σ6, H6, S6, q6⟩ := hsp
                exact end_ S6 fun s7 J7 => ⟨_, _, J7, q6⟩
              | cont =>
                obtain ⟨σ6, H6, S6, q6⟩ := hsp
                exact end_ S6 fun s7 J7 => ⟨_, _, J7, q6⟩
              | ret u =>
                obtain ⟨v6, σ6, H6, S6, r6, q6⟩ := hsp
                exact end_ S6 fun s7 J7 => ⟨_, _, _, J7, r6, q6⟩
        | false =>
          show wpAny _ X.A (handleBy (.ref a) X.env hds2) _ _ _
          exact ih (hno rfl)
    exact go hh w
  · cases f with
    | next =>
      obtain ⟨σ', H', J', q⟩ := hsp
      exact wpAny_execs_nil ⟨σ', H', J'.ofTry ok, q⟩
    | brk =>
      obtain ⟨σ', H', J', q⟩ := hsp
      exact ⟨σ', H', J'.ofTry ok, q⟩
    | cont =>
      obtain ⟨σ', H', J', q⟩ := hsp
      exact ⟨σ', H', J'.ofTry ok, q⟩
    | ret u =>
      obtain ⟨v, σ', H', J', r, q⟩ := hsp
      exact ⟨v, σ', H', J'.ofTry ok, r, q⟩
end
end Ev

end

section
set_option Elab.async false
set_option linter.all false
set_option maxRecDepth 100000
set_option maxHeartbeats 1000000
/-! Ev, part 13: statements. -/
namespace Ev
open PySem PySem.Spec PyProof.Rows
open L2 (V Hp HO PE PT PS PSs PA PG PGs PI TE TT TA TS TG TGs TI It VK SqL SqT Rd Key upd upd_same upd_ne OpR CallR IxR SlR MtR MtM R2 tOp RelV Vals WX Takes Room FnOk Sp XK Ends rI rI0 CMul CDiv CPow KV Itl Itt Itr Its Vis Loc Gl)

/-! ### views and matching -/
def noTupE : Expr → Bool
  | .Tuple _ _ _ => false
  | _ => true
def noComp : Expr → Bool
  | .ListComp _ _ _ _ => false
  | .SetComp _ _ _ _ => false
  | .DictComp _ _ _ _ _ => false
  | _ => true
def asSet : Stmt → Option (Str × Pos × Expr)
  | .Assign [.Name x q] v _ => some (x, q, v)
  | _ => none
theorem asSet_inv {s : Stmt} {x : Str} {q : Pos} {v : Expr} (h : asSet s = some (x, q, v)) : ∃ p, s = .Assign [.Name x q] v p := by
  unfold asSet at h
  split at h
  · cases h; exact ⟨_, rfl⟩
  · cases h
def asAsg : Stmt → Option (Expr × Expr)
  | .Assign [t] v _ => some (t, v)
  | _ => none
theorem asAsg_inv {s : Stmt} {t v : Expr} (h : asAsg s = some (t, v)) : ∃ p, s = .Assign [t] v p := by
  unfold asAsg at h
  split at h
  · cases h; exact ⟨_, rfl⟩
  · cases h
def asExpr : Stmt → Option Expr
  | .Expr v _ => some v
  | _ => none
theorem asExpr_inv {s : Stmt} {v : Expr} (h : asExpr s = some v) : ∃ p, s = .Expr v p := by
  unfold asExpr at h
  split at h
  · cases h; exact ⟨_, rfl⟩
  · cases h
def asRet : Stmt → Option (Option Expr)
  | .Return v _ => some v
  | _ => none
theorem asRet_inv {s : Stmt} {v : Option Expr} (h : asRet s = some v) : ∃ p, s = .Return v p := by
  unfold asRet at h
  split at h
  · cases h; exact ⟨_, rfl⟩
  · cases h
def asIte : Stmt → Option (Expr × List Stmt × List Stmt)
  | .If c a b _ => some (c, a, b)
  | _ => none
theorem asIte_inv {s : Stmt} {c : Expr} {a b : List Stmt} (h : asIte s = some (c, a, b)) : ∃ p, s = .If c a b p := by
  unfold asIte at h
  split at h
  · cases h; exact ⟨_, rfl⟩
  · cases h
def asFor : Stmt → Option (Expr × Expr × List Stmt)
  | .For t i b [] _ => some (t, i, b)
  | _ => none
theorem asFor_inv {s : Stmt} {t i : Expr} {b : List Stmt} (h : asFor s = some (t, i, b)) : ∃ p, s = .For t i b [] p := by
  unfold asFor at h
  split at h
  · cases h; exact ⟨_, rfl⟩
  · cases h
def asWhile : Stmt → Option (Expr × List Stmt)
  | .While c b [] _ => some (c, b)
  | _ => none
theorem asWhile_inv {s : Stmt} {c : Expr} {b : List Stmt} (h : asWhile s = some (c, b)) : ∃ p, s = .While c b [] p := by
  unfold asWhile at h
  split at h
  · cases h; exact ⟨_, rfl⟩
  · cases h
def asAug : Stmt → Option (Str × Operator × Expr)
  | .AugAssign (.Name x _) o v _ => some (x, o, v)
  | _ => none
theorem asAug_inv {s : Stmt} {x : Str} {o : Operator} {v : Expr} (h : asAug s = some (x, o, v)) : ∃ p q, s = .AugAssign (.Name x q) o v p := by
  unfold asAug at h
  split at h
  · cases h; exact ⟨_, _, rfl⟩
  · cases h
def isPass : Stmt → Bool
  | .Pass _ => true
  | .Expr (.Constant (.str _) _ _) _ => true
  | _ => false
theorem isPass_inv {s : Stmt} (h : isPass s = true) : (∃ p, s = .Pass p) ∨ ∃ x k p q, s = .Expr (.Constant (.str x) k p) q := by
  unfold isPass at h
  split at h
  · exact .inl ⟨_, rfl⟩
  · exact .inr ⟨_, _, _, _, rfl⟩
  · cases h
def isBrk : Stmt → Bool
  | .Break _ => true
  | _ => false
theorem isBrk_inv {s : Stmt} (h : isBrk s = true) : ∃ p, s = .Break p := by
  unfold isBrk at h
  split at h
  · exact ⟨_, rfl⟩
  · cases h
def isCnt : Stmt → Bool
  | .Continue _ => true
  | _ => false
theorem isCnt_inv {s : Stmt} (h : isCnt s = true) : ∃ p, s = .Continue p := by
  unfold isCnt at h
  split at h
  · exact ⟨_, rfl⟩
  · cases h
def asRaise : Stmt → Option (Str × List Expr)
  | .Raise (some (.Call (.Name x _) es [] _)) none _ => some (x, es)
  | _ => none
theorem asRaise_inv {s : Stmt} {x : Str} {es : List Expr} (h : asRaise s = some (x, es)) : ∃ p q r, s = .Raise (some (.Call (.Name x p) es [] q)) none r := by
  unfold asRaise at h
  split at h
  · cases h; exact ⟨_, _, _, rfl⟩
  · cases h
def asTry : Stmt → Option (List Stmt × ExceptHandler × List ExceptHandler)
  | .Try b (h :: hs) [] [] _ => some (b, h, hs)
  | _ => none
theorem asTry_inv {s : Stmt} {b : List Stmt} {h0 : ExceptHandler} {hs : List ExceptHandler} (h : asTry s = some (b, h0, hs)) : ∃ r, s = .Try b (h0 :: hs) [] [] r := by
  unfold asTry at h
  split at h
  · cases h; exact ⟨_, rfl⟩
  · cases h
def asHd : ExceptHandler → Option (Str × Option Str × Stmt × List Stmt)
  | .ExceptHandler (some (.Name x _)) n (b0 :: su) _ => some (x, n, b0, su)
  | _ => none
theorem asHd_inv {s : ExceptHandler} {x : Str} {n : Option Str} {b0 : Stmt} {su : List Stmt} (h : asHd s = some (x, n, b0, su)) : ∃ p q, s = .ExceptHandler (some (.Name x p)) n (b0 :: su) q := by
  unfold asHd at h
  split at h
  · cases h; exact ⟨_, _, rfl⟩
  · cases h
def mHn (nm : Nm) (sc : Scope) : Option Str → Option Nat → Bool
  | some n, some i => decide (nm.N[i]? = some n) && lclB sc n
  | none, none => true
  | _, _ => false
mutual
def mS : Stm → Nm → Scope → (Str → Bool) → Stmt → Bool
  | .asg t e, nm, sc, fb, a => match t with
    | .name i => (match asSet a with
      | some (x, _, v) => decide (sc.kind = .function) && decide (nm.N[i]? = some x) && locB sc x && (fb x || lclB sc x) && mE nm e sc fb v
      | none => false)
    | .tup l => (match asAsg a with
      | some (t, v) => mG nm sc fb (.tup l) t && mE nm e sc fb v && noTupE v && !nm.hot
      | none => false)
  | .new i e, nm, sc, fb, a => match asSet a with
    | some (x, _, v) => decide (sc.kind = .function) && decide (nm.N[i]? = some x) && locB sc x && (fb x || lclB sc x) && mE nm e sc fb v && newK e
    | none => false
  | .aug i o e, nm, sc, fb, a => match asAug a with
    | some (x, op, v) => decide (nm.N[i]? = some x) && locB sc x && (fb x || lclB sc x) && decide (op = bop o) && mE nm e sc fb v
    | none => false
  | .setSub o i e, nm, sc, fb, a => match asAsg a with
    | some (t, v) => (match asSub t with
      | some (x, y) => mE nm o sc fb x && mE nm i sc fb y && noSlice y && mE nm e sc fb v
      | none => false)
    | none => false
  | .expr e, nm, sc, fb, a => match asExpr a with
    | some v => mE nm e sc fb v && noComp v
    | none => false
  | .ret e, nm, sc, fb, a => match asRet a with
    | some (some v) => mE nm e sc fb v
    | _ => false
  | .retNew e, nm, sc, fb, a => match asRet a with
    | some (some v) => mE nm e sc fb v && newK e
    | _ => false
  | .retN, nm, _, _, a => match asRet a with
    | some none => true
    | _ => false
  | .ite c p q, nm, sc, fb, a => match asIte a with
    | some (t, x, y) => mT nm c sc fb t && mSs p nm sc fb x && mSs q nm sc fb y
    | none => false
  | .for_ t it b, nm, sc, fb, a => match asFor a with
    | some (tg, i, l) => mG nm sc fb t tg && mI nm it sc fb i && noSet i && mSs b nm sc fb l && !nm.hot
    | none => false
  | .while_ c b, nm, sc, fb, a => match asWhile a with
    | some (t, l) => mT nm c sc fb t && mSs b nm sc fb l
    | none => false
  | .brk, nm, _, _, a => isBrk a
  | .cnt, nm, _, _, a => isCnt a
  | .pass, nm, _, _, a => isPass a
  | .rse, nm, _, _, _ => true
  | .rai c fs es, nm, sc, fb, a => match asRaise a with
    | some (x, l) => !nm.hot && (match nm.ecs[c]? with
      | some e => decide (e.x = x) && decide (e.fld.toList = fs) && glB sc x && !(x == dbg) && mEs nm es sc fb l && noStar l && decide (l.length = fs.length)
      | none => false)
    | none => false
  | .tr b hs, nm, sc, fb, a => match asTry a with
    | some (l, h0, hds) => !nm.hot && mSs b nm sc fb l && mHs hs nm sc fb (h0 :: hds)
    | none => false
termination_by structural s => s
def mSs : List Stm → Nm → Scope → (Str → Bool) → List Stmt → Bool
  | [], nm, _, _, l => match l with | [] => true | _ => false
  | s :: r, nm, sc, fb, l => match l with
    | a :: l => mS s nm sc fb a && mSs r nm sc fb l
    | [] => false
termination_by structural s => s
/-- an except clause -/
def mH : Hd → Nm → Scope → (Str → Bool) → ExceptHandler → Bool
  | .mk k cs i sb, nm, sc, fb, a => match asHd a with
    | some (x, n, b0, su) => (match nm.ecs[k]? with
      | some e => decide (e.x = x) && decide (k ≠ veI) && glB sc x && !(x == dbg) && csOk nm [k] cs && mHn nm sc n i && mSs sb nm.heat sc fb (b0 :: su)
      | none => false)
    | none => false
termination_by structural s => s
def mHs : List Hd → Nm → Scope → (Str → Bool) → List ExceptHandler → Bool
  | [], nm, _, _, l => match l with | [] => true | _ => false
  | s :: r, nm, sc, fb, l => match l with
    | a :: l => mH s nm sc fb a && mHs r nm sc fb l
    | [] => false
termination_by structural s => s
end

/-! ### comprehensions that are stored at once -/
def swB (sc : Scope) (x : Str) (l l' : Nat) (s : Scope) : Bool := lclB sc x && (l == l') && !(s.names.any fun (n, k) => n == x && (k == .local || k == .cell))
theorem sw_eq {X : HCx} {sc : Scope} {e : Expr} {gs : List Comprehension} {s : Scope} {p q : Pos} {x : Str} {line : Nat} (hk : sc.kind = .function) (hs : X.env.scope = sc) :
    swapsWith (.ListComp e gs s p) (some (.Name x q)) line X.env = pure (swB sc x q.line p.line s) := by
  have h1 : swapsWith (.ListComp e gs s p) (some (.Name x q)) line X.env = pure (X.env.blockKind == .function && X.env.kindOf x == some .local && q.line == p.line && !(s.names.any fun (n, k) => n == x && (k == .local || k == .cell))) := rfl
  rw [h1]
  congr 1
  have h2 : X.env.blockKind = .function := by unfold Env.blockKind; rw [hs, hk]; rfl
  have h3 : (X.env.kindOf x == some NameKind.local) = lclB sc x := by
    unfold Env.kindOf lclB
    rw [hs]
    cases sc.names.lookup x with
    | none => rfl
    | some k => cases k <;> rfl
  rw [h2, h3]
  rfl
theorem sw_no {v : Expr} {t : Option Expr} {line : Nat} {env : Env} (h : noComp v = true) : swapsWith v t line env = pure false := by
  cases v <;> first | rfl | cases h
theorem sw_tup {v : Expr} {l : List Expr} {k : Nat} {p : Pos} {line : Nat} {env : Env} : swapsWithSole [.Tuple l k p] v line env = pure false := by
  cases v <;> rfl
theorem sw_sub {v o i : Expr} {p : Pos} {line : Nat} {env : Env} : swapsWithSole [.Subscript o i p] v line env = pure false := by
  cases v <;> rfl
theorem st_tup {v : Expr} {l : List Expr} {k : Nat} {p : Pos} {env : Env} (h : noTupE v = true) : swappedStores [.Tuple l k p] v env = pure none := by
  cases v <;> first | rfl | cases h
theorem st_sub {v o i : Expr} {p : Pos} {env : Env} : swappedStores [.Subscript o i p] v env = pure none := by
  cases v <;> rfl

/-! ### what is wanted behind a statement -/
/-- what is known of the slots all the while -/
def RepG (R : RC) (F : Hp) (m : List Addr) (Γ : List Sig) (τ : HSt) : Prop := ∀ γ ∈ Γ, RepS R F m γ τ
theorem RepG.mono {R : RC} {H F H' F' : Hp} {m m' : List Addr} (st : Step H F m H' F' m') {Γ : List Sig} {τ : HSt} (h : RepG R F m Γ τ) : RepG R F' m' Γ τ := fun γ hγ => RepS.mono st (h γ hγ)
def PostS (R : RC) (W : WX) (Γ : List Sig) (H F : Hp) (m : List Addr) (r : Ev.R Flow) (D : Ends) : Prop := match r with
  | .ok (.nx σ') S' => ∀ τ' H' F' m', Step H F m H' F' m' → Sim R H' F' m' S' → RepS R F' m' σ' τ' → RepG R F' m' Γ τ' → D.nx τ' H'
  | .ok (.bk σ') S' => ∀ τ' H' F' m', Step H F m H' F' m' → Sim R H' F' m' S' → RepS R F' m' σ' τ' → RepG R F' m' Γ τ' → D.bk τ' H'
  | .ok (.ct σ') S' => ∀ τ' H' F' m', Step H F m H' F' m' → Sim R H' F' m' S' → RepS R F' m' σ' τ' → RepG R F' m' Γ τ' → D.ct τ' H'
  | .ok (.rt v) S' => ∀ v' H' F' m', Step H F m H' F' m' → Sim R H' F' m' S' → RepV R F' m' v v' → D.rt v' H'
  | .exc x S' => ∀ cls d τ' H' F' m', Step H F m H' F' m' → Sim R H' F' m' S' → ExnRep R F' x cls d H' → RepG R F' m' Γ τ' → W cls d τ' H'
  | .no => False
section
variable {α β : Type} {R : RC} {W : WX} {Γ : List Sig} {rel : Hp → List Addr → α → β → Prop} {τ : HSt} {H F H1 F1 : Hp} {m m1 : List Addr} {D D' : Ends}
theorem PostS.step {r : Ev.R Flow} (st : Step H F m H1 F1 m1) (h : PostS R W Γ H F m r D) : PostS R W Γ H1 F1 m1 r D := by
  cases r with
  | ok a S =>
    cases a with
    | rt v => exact fun v' H' F' m' st' sim re => h v' H' F' m' (st.trans st') sim re
    | _ => exact fun τ' H' F' m' st' sim re rg => h τ' H' F' m' (st.trans st') sim re rg
  | exc x S => exact fun cls d τ' H' F' m' st' sim re rg => h cls d τ' H' F' m' (st.trans st') sim re rg
  | no => exact h
theorem PostS.bind {r : Ev.R α} {f : α → Store → Ev.R Flow} (rg : RepG R F m Γ τ) (h : PostS R W Γ H F m (r.bind f) D) :
    Post R W rel τ H F m r (fun b H1 => ∃ a S1 F1 m1, Step H F m H1 F1 m1 ∧ Sim R H1 F1 m1 S1 ∧ rel F1 m1 a b ∧ PostS R W Γ H1 F1 m1 (f a S1) D) := by
  cases r with
  | ok a S => exact fun b H' F' m' st sim re => ⟨a, S, F', m', st, sim, re, PostS.step st h⟩
  | exc x S => exact fun cls d H' F' m' st sim re => h cls d τ H' F' m' st sim re (RepG.mono st rg)
  | no => exact h
end
theorem RepS.off {R : RC} {F : Hp} {m : List Addr} {γ : Sig} {τ τ1 : HSt} {l : List Nat} (h : RepS R F m γ τ) (o : Off l τ τ1) (hl : ∀ i ∈ l, ∀ v, γ[i]? ≠ some (some v)) : RepS R F m γ τ1 := by
  refine ⟨by rw [o.1]; exact h.1, fun i x e => ?_⟩
  have hi : i ∉ l := fun z => hl i z x e
  rw [o.2 i hi]
  exact h.2 i x e
theorem RepG.off {R : RC} {F : Hp} {m : List Addr} {Γ : List Sig} {τ τ1 : HSt} {l : List Nat} (h : RepG R F m Γ τ) (o : Off l τ τ1) (hl : ∀ i ∈ l, ∀ γ ∈ Γ, ∀ v, γ[i]? ≠ some (some v)) : RepG R F m Γ τ1 := fun γ hγ => (h γ hγ).off o fun i hi => hl i hi γ hγ
theorem Off.set {τ : HSt} (i : Nat) (v : Option V) : Off [i] τ (τ.set i v) := ⟨by simp, fun j hj => by rw [List.getElem?_set_ne (by intro e; exact hj (by simp [e]))]⟩
theorem Sim.adopt {R : RC} {H F : Hp} {m : List Addr} {S : Store} (sim : Sim R H F m S) {p : Addr} {c : Cell} (hm : p ∉ m) (hp : ∃ o, H p = some o) (hc : CellRep R H F c p) : Sim R H F (m ++ [p]) (S ++ [c]) := by
  refine ⟨sim.sub, ?_, by simp [sim.len], fun b h => ?_, fun k d b h1 h2 => ?_⟩
  · rw [List.nodup_append]
    exact ⟨sim.nd, by simp, fun a h b hb => by simp at hb; subst hb; exact fun e => hm (e ▸ h)⟩
  · rcases List.mem_append.mp h with h | h
    · exact sim.trk b h
    · simp at h; subst h; exact hp
  · by_cases hk : k < m.length
    · rw [List.getElem?_append_left (by rw [← sim.len]; exact hk)] at h1
      rw [List.getElem?_append_left hk] at h2
      exact sim.cell k d b h1 h2
    · have hk' : m.length ≤ k := Nat.le_of_not_lt hk
      rw [List.getElem?_append_right (by rw [← sim.len]; exact hk')] at h1
      rw [List.getElem?_append_right hk'] at h2
      rw [← sim.len] at h1
      generalize k - m.length = j at h1 h2
      cases j with
      | zero => simp at h1 h2; subst h1 h2; exact hc
      | succ j => simp at h1
theorem Step.adopt {H F H' F' : Hp} {m m' : List Addr} {p : Addr} (st : Step H F m H' F' m') (hp : H p = none) : Step H F m H' F' (m' ++ [p]) := by
  refine ⟨st.sub, st.keep, st.new, ?_, fun a h => ?_⟩
  · obtain ⟨t, e⟩ := st.pre
    exact ⟨t ++ [p], by rw [e, List.append_assoc]⟩
  · rcases List.mem_append.mp h with h | h
    · exact st.fresh a h
    · simp at h; subst h; exact .inr hp
section
variable (R : RC) (C : Ev.Cx) (W : WX) (Γ : List Sig)
def tS (s : Stm) : TS := fun D τ H => ∃ σ S F m, Sim R H F m S ∧ RepS R F m σ τ ∧ RepG R F m Γ τ ∧ PostS R W Γ H F m (ex C s σ S) D
def tSs (s : List Stm) : TS := fun D τ H => ∃ σ S F m, Sim R H F m S ∧ RepS R F m σ τ ∧ RepG R F m Γ τ ∧ PostS R W Γ H F m (exs C s σ S) D
end
section
variable {R : RC} {C : Ev.Cx} {W : WX} {Γ : List Sig} {τ : HSt} {H : Hp} {D : Ends}
theorem oneS {a : Exp} {σ : Sig} {S : Store} {F : Hp} {m : List Addr} {f : Val → Store → Ev.R Flow} {P : V → Hp → Prop} (sim : Sim R H F m S) (rs : RepS R F m σ τ) (rg : RepG R F m Γ τ)
    (h : PostS R W Γ H F m ((ev C a σ S).bind fun x S1 => f x S1) D)
    (k : ∀ x x' H1 S1 F1 m1, Step H F m H1 F1 m1 → Sim R H1 F1 m1 S1 → RepS R F1 m1 σ τ → RepG R F1 m1 Γ τ → RepV R F1 m1 x x' → PostS R W Γ H1 F1 m1 (f x S1) D → P x' H1) :
    tE R C W a τ H fun x H1 => P x H1 :=
  ⟨σ, S, F, m, sim, rs, (PostS.bind rg h).imp fun x' H1 ⟨x, S1, F1, m1, st1, sim1, rx, h1⟩ => k x x' H1 S1 F1 m1 st1 sim1 (RepS.mono st1 rs) (RepG.mono st1 rg) rx h1⟩
/-- a new object becomes a cell: stored -/
theorem new_set {r : Ev.R Val} {σ : Sig} {F : Hp} {m : List Addr} {i : Nat} (rs : RepS R F m σ τ) (rg : RepG R F m Γ τ) (hi : ∀ γ ∈ Γ, ∀ v, γ[i]? ≠ some (some v))
    (h : PostS R W Γ H F m (r.bind fun v S1 => match v with
      | .d (.lst l) => .ok (.nx (σ.set i (some (.ref S1.length)))) (S1 ++ [.lst l])
      | .d (.dct l) => .ok (.nx (σ.set i (some (.ref S1.length)))) (S1 ++ [.dct l])
      | _ => .no) D) : PostN R W τ H F m r (fun v H1 => D.nx (τ.set i (some v)) H1) := by
  have fin : ∀ {p : Addr} {H' F' : Hp} {m' : List Addr} {S' : Store} {c : Cell}, Step H F m H' F' m' → Sim R H' F' m' S' → p ∉ m' → H p = none → (∃ o, H' p = some o) → CellRep R H' F' c p →
      (∀ τ' H' F' m', Step H F m H' F' m' → Sim R H' F' m' (S' ++ [c]) → RepS R F' m' (σ.set i (some (.ref S'.length))) τ' → RepG R F' m' Γ τ' → D.nx τ' H') → D.nx (τ.set i (some (.ref p))) H' := fun {p H' F' m' S' c} st sim h1 h2 h3 h4 q => by
    have st' := st.adopt h2
    refine q _ H' F' (m' ++ [p]) st' (sim.adopt h1 h3 h4) ((RepS.mono st' rs).set (show RepV R F' (m' ++ [p]) (.ref S'.length) (.ref p) from ⟨p, ?_, rfl⟩) i) ((RepG.mono st' rg).off (Off.set i _) fun j hj => by simp at hj; subst hj; exact hi)
    rw [← sim.len, List.getElem?_append_right (Nat.le_refl _), Nat.sub_self]
    rfl
  cases r with
  | ok v S' =>
    cases v with
    | ref n => exact h
    | d x =>
      cases x with
      | lst l => exact fun p xs H' F' m' st sim a1 a2 a3 a4 a5 => fin (c := .lst l) st sim a2 a4 ⟨_, a1⟩ ⟨a3, xs, a1, a5⟩ h
      | dct l => exact fun p xs H' F' m' st sim a1 a2 a3 a4 a5 => fin (c := .dct l) st sim a2 a4 ⟨_, a1⟩ ⟨a3, xs, a1, a5⟩ h
      | _ => exact h
  | exc x S' => exact fun cls d H' F' m' st sim re => h cls d τ H' F' m' st sim re (RepG.mono st rg)
  | no => exact h
theorem new_ret {r : Ev.R Val} {F : Hp} {m : List Addr} (rg : RepG R F m Γ τ)
    (h : PostS R W Γ H F m (r.bind fun v S1 => match v with
      | .d (.lst l) => .ok (.rt (.ref S1.length)) (S1 ++ [.lst l])
      | .d (.dct l) => .ok (.rt (.ref S1.length)) (S1 ++ [.dct l])
      | _ => .no) D) : PostN R W τ H F m r D.rt := by
  have fin : ∀ {p : Addr} {H' F' : Hp} {m' : List Addr} {S' : Store} {c : Cell}, Step H F m H' F' m' → Sim R H' F' m' S' → p ∉ m' → H p = none → (∃ o, H' p = some o) → CellRep R H' F' c p →
      (∀ v' H' F' m', Step H F m H' F' m' → Sim R H' F' m' (S' ++ [c]) → RepV R F' m' (.ref S'.length) v' → D.rt v' H') → D.rt (.ref p) H' := fun {p H' F' m' S' c} st sim h1 h2 h3 h4 q => by
    refine q _ H' F' (m' ++ [p]) (st.adopt h2) (sim.adopt h1 h3 h4) ⟨p, ?_, rfl⟩
    rw [← sim.len, List.getElem?_append_right (Nat.le_refl _), Nat.sub_self]
    rfl
  cases r with
  | ok v S' =>
    cases v with
    | ref n => exact h
    | d x =>
      cases x with
      | lst l => exact fun p xs H' F' m' st sim a1 a2 a3 a4 a5 => fin (c := .lst l) st sim a2 a4 ⟨_, a1⟩ ⟨a3, xs, a1, a5⟩ h
      | dct l => exact fun p xs H' F' m' st sim a1 a2 a3 a4 a5 => fin (c := .dct l) st sim a2 a4 ⟨_, a1⟩ ⟨a3, xs, a1, a5⟩ h
      | _ => exact h
  | exc x S' => exact fun cls d H' F' m' st sim re => h cls d τ H' F' m' st sim re (RepG.mono st rg)
  | no => exact h
end

/-! ### o[i] = e -/
theorem PSet.or {X : HCx} {t t' : L2.TSet} (h : L2.PSet X t) (h' : L2.PSet X t') : L2.PSet X (fun o i v H Q => t o i v H Q ∨ t' o i v H Q) := by
  intro pins s σ H o i v ov iv u Q I r1 r2 r3 q
  rcases q with q | q
  · exact h pins s σ H o i v ov iv u Q I r1 r2 r3 q
  · exact h' pins s σ H o i v ov iv u Q I r1 r2 r3 q
def rSet : L2.TSet := fun o i v H Q => L2.rSetL o i v H Q ∨ L2.rSetD o i v H Q
theorem set_val {R : RC} {W : WX} {Γ : List Sig} {H F : Hp} {m : List Addr} {S : Store} {D : Ends} {a k v : Val} {a' k' v' : V} {τ : HSt} {σ : Sig} (sim : Sim R H F m S) (rs : RepS R F m σ τ) (rg : RepG R F m Γ τ) (ra : RepV R F m a a') (rk : RepV R F m k k') (rv : RepV R F m v v')
    (h : PostS R W Γ H F m (match (generalizing := false) a with
    | .ref n => (match fzv S v with
      | some (x, S4) => (match rdv S4 k with
        | some k => (match S4[n]? with
          | some c => (match setC c k x with
            | some c1 => .ok (.nx σ) (S4.set n c1)
            | none => .no)
          | none => .no)
        | none => .no)
      | none => .no)
    | .d _ => .no) D) : rSet a' k' v' H (fun H1 => D.nx τ H1) := by
  cases a with
  | d x => exact h.elim
  | ref n =>
    simp only at h
    cases hz : fzv S v with
    | none => rw [hz] at h; exact h.elim
    | some z =>
      obtain ⟨x, S4⟩ := z
      rw [hz] at h
      obtain ⟨F4, sim4, st4, rx⟩ := fzv_ok sim rv hz
      simp only at h
      cases hk : rdv S4 k with
      | none => rw [hk] at h; exact h.elim
      | some kd =>
        rw [hk] at h
        simp only at h
        have rkd := rdv_rep sim4 (RepV.mono st4 rk) hk
        cases hc : S4[n]? with
        | none => rw [hc] at h; exact h.elim
        | some c =>
          rw [hc] at h
          simp only at h
          obtain ⟨p, hm, rfl⟩ := RepV.mono st4 ra
          have cr := sim4.cell n c p hc hm
          cases hs : setC c kd x with
          | none => rw [hs] at h; exact h.elim
          | some c1 =>
            rw [hs] at h
            simp only at h
            have fin : ∀ {o : HO}, F4 p = none → CellRep R (upd H p o) F4 c1 p → D.nx τ (upd H p o) := fun {o} hF hcr => by
              obtain ⟨sim5, st5⟩ := sim4.put o hm hF hcr
              have st := st4.trans st5
              exact h τ _ F4 m st sim5 (RepS.mono st rs) (RepG.mono st rg)
            cases c with
            | fz y => simp [setC] at hs
            | lst l =>
              obtain ⟨hF, xs, h1, h2⟩ := cr
              cases kd with
              | int i =>
                cases rkd
                have hl := h2.length
                simp only [setC] at hs
                split at hs
                · rename_i hb
                  cases hs
                  refine .inl ⟨p, xs, i, i.toNat, rfl, rfl, h1, ?_, fin hF ⟨hF, _, upd_same, h2.set rx _⟩⟩
                  unfold L2.ixN
                  rw [if_pos hb.1, if_pos (by omega)]
                · split at hs
                  · rename_i hb
                    cases hs
                    refine .inl ⟨p, xs, i, (i + l.length).toNat, rfl, rfl, h1, ?_, fin hF ⟨hF, _, upd_same, h2.set rx _⟩⟩
                    unfold L2.ixN
                    rw [if_neg (by omega), if_pos (by omega), hl]
                  · cases hs
              | _ => simp [setC] at hs
            | dct l =>
              obtain ⟨hF, kvs, h1, h2⟩ := cr
              simp only [setC] at hs
              split at hs
              · rename_i hb
                cases hs
                obtain ⟨q, hq, rfl⟩ := kD_rep hb.1 rkd
                have hl : l.length = kvs.length := by
                  have : ∀ {l : List (Ev.D × Ev.D)} {kvs : List (Key × V)}, RepK R F4 l kvs → l.length = kvs.length := by
                    intro l
                    induction l with
                    | nil => intro kvs h; cases h; rfl
                    | cons y l ih =>
                      obtain ⟨a, b⟩ := y
                      rintro kvs ⟨q', v', r, rfl, _, _, h3⟩
                      simp [ih h3]
                  exact this h2
                refine .inr ⟨p, _, rfl, L2.DPut.k h1 (by rw [← hl, ← big_eq]; exact hb.2), fin hF ⟨hF, _, upd_same, RepK.put hq rx h2⟩⟩
              · cases hs

/-! ### op= -/
theorem PIp.or {X : HCx} {op : Operator} {t t' : L2.TIp} (h : L2.PIp X op t) (h' : L2.PIp X op t') : L2.PIp X op (fun x y H Q => t x y H Q ∨ t' x y H Q) := by
  intro pins s σ H x y v u Q I r1 r2 q
  rcases q with q | q
  · exact h pins s σ H x y v u Q I r1 r2 q
  · exact h' pins s σ H x y v u Q I r1 r2 q
def rAug : Bop → L2.TIp
  | .add => L2.ipI fun i j => i + j
  | .sub => L2.ipI fun i j => i - j
  | _ => fun _ _ _ _ => False
theorem ip_aug {X : HCx} : ∀ o : Bop, L2.PIp X (bop o) (rAug o)
  | .add => L2.ip_add
  | .sub => L2.ip_sub
  | .mul => fun _ _ _ _ _ _ _ _ _ _ _ _ q => q.elim
  | .fdiv => fun _ _ _ _ _ _ _ _ _ _ _ _ q => q.elim
  | .mod => fun _ _ _ _ _ _ _ _ _ _ _ _ q => q.elim
  | .pow => fun _ _ _ _ _ _ _ _ _ _ _ _ q => q.elim
  | .shl => fun _ _ _ _ _ _ _ _ _ _ _ _ q => q.elim
  | .shr => fun _ _ _ _ _ _ _ _ _ _ _ _ q => q.elim
  | .band => fun _ _ _ _ _ _ _ _ _ _ _ _ q => q.elim
theorem aug_val {R : RC} {W : WX} {Γ : List Sig} {H F : Hp} {m : List Addr} {S : Store} {D : Ends} {o : Bop} {x y : Val} {x' y' : V} {τ : HSt} {σ : Sig} {i : Nat} (sim : Sim R H F m S) (rs : RepS R F m σ τ) (rg : RepG R F m Γ τ) (hi : ∀ γ ∈ Γ, ∀ v, γ[i]? ≠ some (some v)) (rx : RepV R F m x x') (ry : RepV R F m y y')
    (h : PostS R W Γ H F m ((on2 S x y (augD o)).bind fun z S2 => .ok (.nx (σ.set i (some z))) S2) D) : rAug o x' y' H (fun z H2 => D.nx (τ.set i (some z)) H2) := by
  unfold on2 at h
  cases e1 : rdv S x with
  | none => rw [e1] at h; exact h.elim
  | some a =>
    rw [e1] at h
    cases e2 : rdv S y with
    | none => rw [e2] at h; exact h.elim
    | some b =>
      rw [e2] at h
      have r1 := rdv_rep sim rx e1
      have r2 := rdv_rep sim ry e2
      simp only at h
      cases e3 : augD o a b with
      | none => rw [e3] at h; exact h.elim
      | some z =>
        rw [e3] at h
        simp only [Ev.R.bind_ok] at h
        have fin : ∀ {v : V}, Rep R F z v → D.nx (τ.set i (some v)) H := fun {v} rz => h _ H F m (Step.refl ..) sim (rs.set (show RepV R F m (.d z) v from rz) i) (rg.off (Off.set i _) fun j hj => by simp at hj; subst hj; exact hi)
        unfold augD at e3
        split at e3
        · cases e3; cases r1; cases r2; exact ⟨_, _, rfl, rfl, fin rfl⟩
        · cases e3; cases r1; cases r2; exact ⟨_, _, rfl, rfl, fin rfl⟩
        · cases e3

/-! ### loops -/
theorem for_red {R : RC} {C : Ev.Cx} {W : WX} {Γ : List Sig} {t : Tgt} {it : Ite} {b : List Stm} {D : Ends} {τ : HSt} {H : Hp} (hg : ∀ i ∈ slots t, ∀ γ ∈ Γ, ∀ v, γ[i]? ≠ some (some v)) (h : tS R C W Γ (.for_ t it b) D τ H) : L2.tFor (tI R C W it) (tG R t) (tSs R C W Γ b) D τ H := by
  obtain ⟨σ, S, F, m, sim, rs, rg, h⟩ := h
  simp only [ex] at h
  refine ⟨σ, S, F, m, sim, rs, (PostS.bind rg h).imp fun J H1 h1 => ?_⟩
  obtain ⟨p, S1, F1, m1, st1, sim1, dw, h1⟩ := h1
  refine ⟨fun i k τ' H' => k = p.l.length - i ∧ i ≤ p.l.length ∧ ∃ σ' S' F' m', Step H1 F1 m1 H' F' m' ∧ Sim R H' F' m' S' ∧ RepS R F' m' σ' τ' ∧ RepG R F' m' Γ τ' ∧
    PostS R W Γ H' F' m' (forL p.ck (fun x σ S => match asgT σ t x with
      | some σ1 => exs C b σ1 S
      | none => .no) (p.l.drop i) σ' S') D, ⟨p.l.length, by simp, Nat.zero_le _, σ, S1, F1, m1, Step.refl .., sim1, RepS.mono st1 rs, RepG.mono st1 rg, by rw [List.drop_zero]; exact h1⟩, ?_⟩
  rintro i k τ2 H2 ⟨rfl, hi, σ2, S2, F2, m2, st2, sim2, rs2, rg2, h2⟩
  have hck : p.ck S2 := by
    cases hd : p.l.drop i with
    | nil =>
      rw [hd] at h2
      simp only [forL] at h2
      split at h2
      · assumption
      · exact h2.elim
    | cons x l =>
      rw [hd] at h2
      simp only [forL] at h2
      split at h2
      · assumption
      · exact h2.elim
  by_cases hlt : i < p.l.length
  · refine .inr ⟨dw.goes i H2 F2 m2 S2 sim2 st2.sub st2.pre hck hlt, fun τ' H' => ∃ σ' S' F' m', Step H1 F1 m1 H' F' m' ∧ Sim R H' F' m' S' ∧ RepS R F' m' σ' τ' ∧ RepG R F' m' Γ τ' ∧
      PostS R W Γ H' F' m' (forL p.ck (fun x σ S => match asgT σ t x with
      | some σ1 => exs C b σ1 S
      | none => .no) (p.l.drop (i + 1)) σ' S') D, fun τ' H' nx => ⟨p.l.length - (i + 1), by omega, rfl, hlt, nx⟩, fun x H3 y => ?_⟩
    obtain ⟨F3, d, st3, sim3, hd, rd⟩ := dw.yields i H2 F2 m2 S2 x H3 sim2 st2.sub st2.pre hck hlt y
    have hdrop : p.l.drop i = d :: p.l.drop (i + 1) := by
      obtain ⟨h1, h2⟩ := List.getElem?_eq_some_iff.mp hd
      rw [List.drop_eq_getElem_cons hlt, h2]
    rw [hdrop] at h2
    simp only [forL, hck, if_true] at h2
    cases ha : asgT σ2 t d with
    | none => rw [ha] at h2; exact h2.elim
    | some σ3 =>
      rw [ha] at h2
      simp only at h2
      refine ⟨σ2, σ3, d, F3, m2, sim3.sub, rd, RepS.mono st3 rs2, ha, fun τ3 r3 o3 => ⟨σ3, S2, F3, m2, sim3, r3, (RepG.mono st3 rg2).off o3 hg, ?_⟩⟩
      have h3 := PostS.step st3 h2
      have st23 := st2.trans st3
      generalize exs C b σ3 S2 = r at h3
      cases r with
      | no => exact h3
      | exc x S4 => exact h3
      | ok f S4 =>
        cases f with
        | nx σ4 => exact fun τ4 H4 F4 m4 st4 sim4 r4 g4 => ⟨σ4, S4, F4, m4, st23.trans st4, sim4, r4, g4, PostS.step st4 h3⟩
        | ct σ4 => exact fun τ4 H4 F4 m4 st4 sim4 r4 g4 => ⟨σ4, S4, F4, m4, st23.trans st4, sim4, r4, g4, PostS.step st4 h3⟩
        | bk σ4 => exact h3
        | rt v => exact h3
  · have e : i = p.l.length := by omega
    subst e
    refine .inl ⟨dw.stops H2 F2 m2 S2 sim2 st2.sub st2.pre hck, ?_⟩
    rw [List.drop_length] at h2
    simp only [forL, hck, if_true] at h2
    exact h2 τ2 H2 F2 m2 (Step.refl ..) sim2 rs2 rg2
theorem while_red {R : RC} {C : Ev.Cx} {W : WX} {Γ : List Sig} {c : Tst} {b : List Stm} {D : Ends} {τ : HSt} {H : Hp} (h : tS R C W Γ (.while_ c b) D τ H) : L2.tWhile (tT R C W c) (tSs R C W Γ b) D τ H := by
  obtain ⟨σ, S, F, m, sim, rs, rg, h⟩ := h
  simp only [ex] at h
  refine ⟨fun k τ' H' => ∃ σ' S' F' m', Sim R H' F' m' S' ∧ RepS R F' m' σ' τ' ∧ RepG R F' m' Γ τ' ∧ PostS R W Γ H' F' m' (whileL (evT C c) (exs C b) k σ' S') D, ⟨C.wf, σ, S, F, m, sim, rs, rg, h⟩, ?_⟩
  rintro k τ2 H2 ⟨σ2, S2, F2, m2, sim2, rs2, rg2, h2⟩
  cases k with
  | zero => exact h2.elim
  | succ k =>
    simp only [whileL] at h2
    refine ⟨σ2, S2, F2, m2, sim2, rs2, (PostS.bind rg2 h2).imp fun t H3 ⟨t', S3, F3, m3, st3, sim3, e3, h3⟩ => ?_⟩
    cases e3
    have rs3 := RepS.mono st3 rs2
    have rg3 := RepG.mono st3 rg2
    cases t with
    | false =>
      simp only [Bool.false_eq_true, if_false]
      exact h3 τ2 H3 F3 m3 (Step.refl ..) sim3 rs3 rg3
    | true =>
      simp only [if_true]
      refine ⟨fun τ' H' => ∃ σ' S' F' m', Sim R H' F' m' S' ∧ RepS R F' m' σ' τ' ∧ RepG R F' m' Γ τ' ∧ PostS R W Γ H' F' m' (whileL (evT C c) (exs C b) k σ' S') D, fun τ' H' n => ⟨k, Nat.lt_succ_self k, n⟩, σ2, S3, F3, m3, sim3, rs3, rg3, ?_⟩
      simp only at h3
      generalize exs C b σ2 S3 = r at h3
      cases r with
      | no => exact h3
      | exc x S4 => exact h3
      | ok f S4 =>
        cases f with
        | nx σ4 => exact fun τ4 H4 F4 m4 st4 sim4 r4 g4 => ⟨σ4, S4, F4, m4, sim4, r4, g4, PostS.step st4 h3⟩
        | ct σ4 => exact fun τ4 H4 F4 m4 st4 sim4 r4 g4 => ⟨σ4, S4, F4, m4, sim4, r4, g4, PostS.step st4 h3⟩
        | bk σ4 => exact h3
        | rt v => exact h3
end Ev

end

section
set_option Elab.async false
set_option linter.all false
set_option maxRecDepth 100000
set_option maxHeartbeats 1000000
/-! Ev, part 14: the soundness of statements. -/
namespace Ev
open PySem PySem.Spec PyProof.Rows
open L2 (V Hp HO PE PT PS PSs PA PG PGs PI TE TT TA TS TG TGs TI It VK SqL SqT Rd Key upd upd_same upd_ne OpR CallR IxR SlR MtR MtM R2 tOp RelV Vals WX Takes Room FnOk Sp XK Ends rI rI0 CMul CDiv CPow KV Itl Itt Itr Its Vis Loc Gl)

theorem or_ok {X : HCx} {sc : Scope} {fb : Str → Bool} {x : Str} (hs : X.env.scope = sc) (hf : X.fn = fb) (h : fb x = true ∨ lclB sc x = true) : X.fn x = true ∨ X.env.scope.names.lookup x = some .local := by
  rcases h with h | h
  · exact .inl (by rw [hf]; exact h)
  · exact .inr (by rw [hs]; exact lclB_ok h)
theorem isLc_of {nm : Nm} {e : Exp} {sc : Scope} {fb : Str → Bool} {a : Expr} (h : mE nm e sc fb a = true) (hc : noComp a = false) : ∃ x t own it ifs, e = .lc x t own it ifs := by
  cases e with
  | lc x t own it ifs => exact ⟨_, _, _, _, _, rfl⟩
  | lit x =>
    simp only [mE] at h
    unfold mLit at h
    split at h <;> first | (cases hc; done) | cases h
  | var i =>
    simp only [mE] at h
    split at h
    · rename_i hx; obtain ⟨p, rfl⟩ := asName_inv hx; cases hc
    · cases h
  | glo i =>
    simp only [mE] at h
    split at h
    · rename_i hx; obtain ⟨p, rfl⟩ := asName_inv hx; cases hc
    · cases h
  | bin o p q =>
    simp only [mE] at h
    split at h
    · rename_i hx; obtain ⟨p, rfl⟩ := asBin_inv hx; cases hc
    · cases h
  | neg p =>
    simp only [mE] at h
    split at h
    · rename_i hx; obtain ⟨p, rfl⟩ := asUn_inv hx; cases hc
    · cases h
  | dcv k v =>
    simp only [mE] at h
    split at h
    · rename_i hx; obtain ⟨p, rfl⟩ := asDct_inv hx; cases hc
    · cases h
  | cmp o p q =>
    simp only [mE] at h
    split at h
    · rename_i hx; obtain ⟨p, rfl⟩ := asCmp1_inv hx; cases hc
    · cases h
  | cmp2 o o2 p q s =>
    simp only [mE] at h
    split at h
    · rename_i hx; obtain ⟨p, rfl⟩ := asCmp2_inv hx; cases hc
    · cases h
  | and l =>
    simp only [mE] at h
    split at h
    · rename_i hx; obtain ⟨p, rfl⟩ := asBool_inv hx; cases hc
    · cases h
  | or l =>
    simp only [mE] at h
    split at h
    · rename_i hx; obtain ⟨p, rfl⟩ := asBool_inv hx; cases hc
    · cases h
  | not p =>
    simp only [mE] at h
    split at h
    · rename_i hx; obtain ⟨p, rfl⟩ := asUn_inv hx; cases hc
    · cases h
  | ife c p q =>
    simp only [mE] at h
    split at h
    · rename_i hx; obtain ⟨p, rfl⟩ := asIf_inv hx; cases hc
    · cases h
  | tup es =>
    simp only [mE] at h
    split at h
    · rename_i hx; obtain ⟨k, p, rfl⟩ := asTup_inv hx; cases hc
    · cases h
  | lst es =>
    simp only [mE] at h
    split at h
    · rename_i hx; obtain ⟨p, rfl⟩ := asLst_inv hx; cases hc
    · cases h
  | dct ks es =>
    simp only [mE] at h
    split at h
    · rename_i hx; obtain ⟨p, rfl⟩ := asDct_inv hx; cases hc
    · cases h
  | gix g i =>
    simp only [mE] at h
    split at h
    · rename_i hx; obtain ⟨p, rfl⟩ := asSub_inv hx; cases hc
    · cases h
  | sub p i =>
    simp only [mE] at h
    split at h
    · rename_i hx; obtain ⟨p, rfl⟩ := asSub_inv hx; cases hc
    · cases h
  | slc p lo hi =>
    simp only [mE] at h
    split at h
    · rename_i hx; obtain ⟨p, q, rfl⟩ := asSlc_inv hx; cases hc
    · cases h
  | call f es =>
    simp only [mE] at h
    split at h
    · rename_i hx; obtain ⟨p, q, rfl⟩ := asCall_inv hx; cases hc
    · cases h
  | blt b es =>
    simp only [mE] at h
    split at h
    · rename_i hx; obtain ⟨p, q, rfl⟩ := asCall_inv hx; cases hc
    · cases h
  | meth k o es =>
    simp only [mE] at h
    split at h
    · rename_i hx; obtain ⟨p, q, rfl, _⟩ := asMeth_inv hx; cases hc
    · cases h
  | isi e ts =>
    simp only [mE] at h
    split at h
    · rename_i hx; obtain ⟨p, q, rfl⟩ := asCall_inv hx; cases hc
    · cases h
  | isx e ts cs =>
    simp only [mE] at h
    split at h
    · rename_i hx; obtain ⟨p, q, rfl⟩ := asCall_inv hx; cases hc
    · cases h
  | att e f =>
    simp only [mE] at h
    split at h
    · rename_i hx; obtain ⟨p, rfl⟩ := asAttr_inv hx; cases hc
    · cases h
/-- name = e, whatever reading -/
theorem set_ok {R : RC} {C : Ev.Cx} {nm : Nm} {X : HCx} {sc : Scope} {fb : Str → Bool} {W : WX} (g : GX R C nm X sc fb W) {e : Exp} {v : Expr} {x : Str} {q p : Pos} {i : Nat} {te : TE} (hk : sc.kind = .function) (hN : nm.N[i]? = some x) (hx : locB sc x = true) (hf : fb x = true ∨ lclB sc x = true) (h : mE nm e sc fb v = true)
    (he : PE X v te) (hlc : ∀ y t own it ifs, e = .lc y t own it ifs → (slots t).all own.contains = true → ∀ τ H Q, te τ H Q → L2.tLc (tI R C W it) (tG R t) (tTs R C (fun _ _ _ _ => False) ifs) (tE R C (fun _ _ _ _ => False) y) own τ H Q) :
    PS X (.Assign [.Name x q] v p) (L2.tAsg te (L2.gName i)) := by
  have nd : X.N.Nodup := by rw [g.hN]; exact g.nd
  have hi : X.N[i]? = some x := by rw [g.hN]; exact hN
  cases hc : noComp v with
  | true => exact L2.ps_set nd hi (locB_ok g.hs hx) he (sw_no hc) (or_ok g.hs g.hf hf)
  | false =>
    obtain ⟨y, t, own, it, ifs, rfl⟩ := isLc_of h hc
    obtain ⟨x0, tg, i0, c, s, p0, rfl, pi, ok, hg, ht, hE, hs, h5, h4, hcm⟩ := lcP_ok g h
    have sw := sw_eq (X := X) (e := x0) (gs := [⟨tg, i0, c, 0⟩]) (s := s) (p := p0) (q := q) (x := x) (line := p.line) hk g.hs
    cases hw : swB sc x q.line p0.line s with
    | false =>
      rw [hw] at sw
      exact L2.ps_set nd hi (locB_ok g.hs hx) he sw (or_ok g.hs g.hf hf)
    | true =>
      rw [hw] at sw
      have hl : lclB sc x = true := by
        unfold swB at hw
        simp only [Bool.and_eq_true] at hw
        exact hw.1.1
      refine ps_weak (L2.ps_setLc (own := ownP nm own) hcm nd hi (by rw [g.hs]; exact lclB_ok hl) sw pi ok hg ht hE hs) fun D τ H q => ?_
      have := hlc y t own it ifs rfl h5 τ H _ q
      rw [h4]
      exact this
/-- what a statement's context is: a def's own body -/
structure SX (X : HCx) : Prop where
  hs : X.stack = X.env :: X.outer
  hf : X.env.frame = some X.env.locals
  hex : X.ex = []
theorem GX.tr {R : RC} {C : Ev.Cx} {nm : Nm} {X : HCx} {sc : Scope} {fb : Str → Bool} {W W' : WX} (g : GX R C nm X sc fb W) {pn : List (Addr × Obj)} {xe : Value → Shared → Prop} (tk : Takes (X.tr pn xe) W') : GX R C nm (X.tr pn xe) sc fb W' where
  hs := g.hs
  hf := g.hf
  hN := g.hN
  nd := g.nd
  hK := g.hK
  hc := g.hc
  tk := tk
  hu := g.hu
  gd := g.gd
  sys := g.sys
  glo := g.glo
  gdc := g.gdc
  fns := fun f x np h => ⟨(g.fns f x np h).ex⟩
  blt := g.blt
  ecs := g.ecs
  rm := g.rm
theorem GX.suite {R : RC} {C : Ev.Cx} {nm : Nm} {X : HCx} {sc : Scope} {fb : Str → Bool} {W : WX} (g : GX R C nm X sc fb W) (a : Addr) (pn : List (Addr × Obj)) : GX R C nm.heat (X.suite a pn) sc fb (fun _ _ _ _ => False) where
  hs := g.hs
  hf := g.hf
  hN := g.hN
  nd := g.nd
  hK := g.hK
  hc := fun z => by cases z
  tk := L2.takes0
  hu := g.hu
  gd := g.gd
  sys := g.sys
  glo := g.glo
  gdc := g.gdc
  fns := fun f x np h => by cases h
  blt := g.blt
  ecs := g.ecs
  rm := fun z => by cases z
theorem rai_ok {R : RC} {C : Ev.Cx} {nm : Nm} {X : HCx} {sc : Scope} {fb : Str → Bool} {W : WX} {Γ : List Sig} (g : GX R C nm X sc fb W) {c : Nat} {fs : List Nat} {es : List Exp} {a : Stmt} (h : mS (.rai c fs es) nm sc fb a = true) : PS X a (tS R C W Γ (.rai c fs es)) := by
  simp only [mS] at h
  split at h
  · rename_i x l hx
    obtain ⟨p, q, r, rfl⟩ := asRaise_inv hx
    simp only [Bool.and_eq_true, Bool.not_eq_true'] at h
    obtain ⟨h0, h⟩ := h
    split at h
    · rename_i e he
      simp only [Bool.and_eq_true, decide_eq_true_eq, Bool.not_eq_true'] at h
      obtain ⟨⟨⟨⟨⟨⟨rfl, h2⟩, h3⟩, h4⟩, h5⟩, h6⟩, h7⟩ := h
      obtain ⟨Ca, hC⟩ := g.ecs.all c e he
      obtain ⟨e', he', hmg, T, _, _, hf⟩ := g.ecs.at_ c Ca hC
      rw [he] at he'
      cases he'
      have red : ∀ D τ H, tS R C W Γ (.rai c fs es) D τ H → tEs R C W es τ H fun vs' H1 => ∃ xs S2 F2 m2, Sim R H1 F2 m2 S2 ∧ Reps R F2 xs vs' ∧ RepG R F2 m2 Γ τ ∧ fs.length = xs.length ∧ PostS R W Γ H1 F2 m2 (.exc ⟨c, fs.zip xs⟩ S2) D := fun D τ H ⟨σ, S, F, m, sim, rs, rg, q⟩ => by
        simp only [ex] at q
        refine ⟨σ, S, F, m, sim, rs, (PostS.bind rg q).imp fun vs' H1 ⟨vs, S1, F1, m1, st1, sim1, rv, q1⟩ => ?_⟩
        unfold raiR at q1
        split at q1
        · rename_i xs S2 hz
          obtain ⟨F2, sim2, st2, r2⟩ := fzs_ok sim1 rv hz
          split at q1
          · rename_i hl
            exact ⟨xs, S2, F2, m1, sim2, r2, RepG.mono (st1.trans st2) rg, hl, PostS.step st2 q1⟩
          · exact q1.elim
        · exact q1.elim
      cases hfl : e.fld with
      | none =>
        rw [hfl] at hf h2
        have hfs : fs = [] := by simpa using h2.symm
        subst hfs
        have hl : l = [] := List.length_eq_zero_iff.mp h7
        subst hl
        have hes : es = [] := by cases es with
          | nil => rfl
          | cons => simp [mEs] at h5
        subst hes
        refine ps_weak (L2.ps_raise (g.hc h0) g.tk (pmk_low0 PySem.F.excBase_ValueError hf hmg T.kp (L2.raises_own T.hsub T.ty) (glB_ok g.hs h3) h4)) fun D τ H q => ?_
        obtain ⟨σ, S, F, m, sim, rs, q⟩ := red D τ H q
        obtain ⟨xs, S2, F2, m2, sim2, r2, rg2, hl, q2⟩ := Post.get q sim rfl
        refine q2 _ _ τ H F2 m2 (Step.refl ..) sim2 ⟨Ca, hC, rfl, .inl ⟨rfl, rfl⟩⟩ rg2
      | some f =>
        rw [hfl] at hf h2
        have hfs : fs = [f] := by simpa using h2.symm
        subst hfs
        obtain ⟨v, rfl⟩ := List.length_eq_one_iff.mp h7
        obtain ⟨fI, XT⟩ := hf
        refine ps_weak (L2.ps_raise (g.hc h0) g.tk (pmk_low XT hmg (g.rm h0) (mEs_ok es g [v] h5 h6) (glB_ok g.hs h3) h4 (noStar_each _ h6))) fun D τ H q => ?_
        obtain ⟨σ, S, F, m, sim, rs, q⟩ := red D τ H q
        refine ⟨σ, S, F, m, sim, rs, q.imp fun vs' H1 ⟨xs, S2, F2, m2, sim2, r2, rg2, hl, q2⟩ => ?_⟩
        obtain ⟨y, rfl⟩ := List.length_eq_one_iff.mp hl.symm
        obtain ⟨v', r', rfl, ry, rn⟩ := r2
        cases rn
        refine ⟨v', rfl, fun d hd => ?_⟩
        obtain ⟨hF, hM⟩ := sim2.fresh hd
        have st3 : Step H1 F2 m2 (upd H1 d (.xd [(fldN f, v')])) (upd F2 d (.xd [(fldN f, v')])) m2 := ((Step.refl H1 F2 m2).over _ hd).frozen hd hF
        have sim3 : Sim R (upd H1 d (.xd [(fldN f, v')])) (upd F2 d (.xd [(fldN f, v')])) m2 S2 := (sim2.over _ hM hF).frozen upd_same hM hF
        refine q2 _ _ τ _ _ m2 st3 sim3 ⟨Ca, hC, rfl, .inr ⟨d, _, rfl, upd_same, v', [], ?_, Rep.mono st3.sub ry, rfl⟩⟩ (RepG.mono st3 rg2)
        rw [g.ecs.fn]
    · cases h
  · cases h
theorem wipes_off {σ : Sig} : ∀ {l : List Nat} {i : Nat}, i ∈ l → ∀ v, (wipes σ l)[i]? ≠ some (some v)
  | j :: l, i, h, v, e => by
    simp only [wipes] at e
    by_cases hj : i = j
    · subst hj
      by_cases hl : i < (wipes σ l).length
      · rw [List.getElem?_set_self hl] at e; cases e
      · rw [List.getElem?_eq_none (by simpa using hl)] at e; cases e
    · rw [List.getElem?_set_ne (Ne.symm hj)] at e
      exact wipes_off ((List.mem_cons.mp h).resolve_left hj) v e
theorem RepS.wipes {R : RC} {F : Hp} {m : List Addr} {σ : Sig} {τ : HSt} (h : RepS R F m σ τ) : ∀ l : List Nat, RepS R F m (wipes σ l) τ
  | [] => h
  | j :: l => by
    have ih := RepS.wipes h l
    refine ⟨by simp [Ev.wipes, ih.1], fun i x e => ?_⟩
    simp only [Ev.wipes] at e
    by_cases hj : i = j
    · subst hj
      by_cases hl : i < (Ev.wipes σ l).length
      · rw [List.getElem?_set_self hl] at e; cases e
      · rw [List.getElem?_eq_none (by simpa using hl)] at e; cases e
    · rw [List.getElem?_set_ne (Ne.symm hj)] at e
      exact ih.2 i x e
/-- an exception's object, tracked: as a value -/
theorem exn_rep {R : RC} {F H : Hp} {x : Exn} {cls : Value} {d : Option Addr} {a : Addr} {oe : Obj} (hx : ∀ c C, R.cl c = some C → R.ex c = true) (h : ExnRep R F x cls d H) (hF : F a = none) (hz : L2.Zc cls d oe) (hf : ∃ vs, oe.data = .fields vs) : Rep R (upd F a (exHO oe)) x.d (.ref a) := by
  obtain ⟨C, hC, rfl, h⟩ := h
  have hs : Sub F (upd F a (exHO oe)) := fun b u e => by rw [upd_ne (L2.ne_of_none e hF)]; exact e
  refine ⟨a, C, rfl, hC, .inr ⟨hx _ _ hC, d, ⟨oe, upd_same, hz, hf⟩, ?_⟩⟩
  rcases h with h | ⟨dx, xs, h1, h2, h3⟩
  · exact .inl h
  · exact .inr ⟨dx, xs, h1, hs _ _ h2, RepF.mono hs h3⟩
/-- whatever is known of the slots -/
def tSe (R : RC) (C : Ev.Cx) (W : WX) (s : List Stm) : TS := fun D τ H => ∃ Γ : List Sig, (∀ i ∈ asgSs s, ∀ γ ∈ Γ, ∀ v, γ[i]? ≠ some (some v)) ∧ tSs R C W Γ s D τ H
theorem pss_e {R : RC} {C : Ev.Cx} {W : WX} {X : HCx} {s : List Stm} {l : List Stmt} (h : ∀ Γ : List Sig, (∀ i ∈ asgSs s, ∀ γ ∈ Γ, ∀ v, γ[i]? ≠ some (some v)) → PSs X l (tSs R C W Γ s)) : PSs X l (tSe R C W s) :=
  ⟨fun pins s σ H D I ⟨Γ, hΓ, q⟩ => (h Γ hΓ).run pins s σ H D I q⟩
/-- the clauses, as the rule reads them -/
noncomputable def clOf (R : RC) (C : Ev.Cx) : Hd → Cl
  | .mk k _ i sb => ⟨clV R k, i, tSe R C (fun _ _ _ _ => False) sb⟩
theorem RepS.setX {R : RC} {F : Hp} {m : List Addr} {σ : Sig} {τ : HSt} {x : Exn} {a : Addr} (h : RepS R F m σ τ) (hx : Rep R F x.d (.ref a)) : ∀ i : Option Nat, RepS R F m (setX i x σ) (sigX i a τ)
  | none => h
  | some i => h.set (show RepV R F m (.d x.d) (.ref a) from hx) i
theorem getN {α : Type} {l : List (Option α)} {i j : Nat} {v : α} (e : (l.set i none)[j]? = some (some v)) : j ≠ i ∧ l[j]? = some (some v) := by
  by_cases hj : j = i
  · subst hj
    by_cases hl : j < l.length
    · rw [List.getElem?_set_self hl] at e; cases e
    · rw [List.getElem?_eq_none (by simpa using hl)] at e; cases e
  · rw [List.getElem?_set_ne (Ne.symm hj)] at e
    exact ⟨hj, e⟩
theorem RepS.unset {R : RC} {F : Hp} {m : List Addr} {σ : Sig} {τ : HSt} {i : Nat} (h : RepS R F m σ τ) : RepS R F m (σ.set i none) (τ.set i none) := by
  refine ⟨by simp [h.1], fun j x e => ?_⟩
  obtain ⟨h1, h2⟩ := getN e
  obtain ⟨v, h3, h4⟩ := h.2 j x h2
  exact ⟨v, by rw [List.getElem?_set_ne (Ne.symm h1)]; exact h3, h4⟩
theorem RepG.setO {R : RC} {F : Hp} {m : List Addr} {Γ : List Sig} {τ : HSt} {i : Nat} {v : Option V} (h : RepG R F m Γ τ) (hi : ∀ γ ∈ Γ, ∀ v, γ[i]? ≠ some (some v)) : RepG R F m Γ (τ.set i v) := h.off (Off.set i _) fun j hj => by simp at hj; subst hj; exact hi
/-- behind a suite -/
theorem suite_ends {R : RC} {W : WX} {Γ : List Sig} {H F : Hp} {m : List Addr} {r : Ev.R Flow} {D : Ends} {i : Option Nat} (hi : ∀ j ∈ i.toList, ∀ γ ∈ Γ, ∀ v, γ[j]? ≠ some (some v)) (h : PostS R W Γ H F m (unsetR i r) D) : PostS R (fun _ _ _ _ => False) Γ H F m r (endsX i D) := by
  cases r with
  | no => exact h
  | exc x S => exact h.elim
  | ok f S =>
    cases i with
    | none =>
      have : unset none f = f := by cases f <;> rfl
      simp only [unsetR, this] at h
      cases f <;> exact h
    | some i =>
      have hi := hi i (by simp)
      cases f with
      | rt v => exact h
      | nx σ => exact fun τ' H' F' m' st sim rs rg => h _ H' F' m' st sim rs.unset (rg.setO hi)
      | bk σ => exact fun τ' H' F' m' st sim rs rg => h _ H' F' m' st sim rs.unset (rg.setO hi)
      | ct σ => exact fun τ' H' F' m' st sim rs rg => h _ H' F' m' st sim rs.unset (rg.setO hi)
/-- an exception meets the clauses -/
theorem hds_red {R : RC} {C : Ev.Cx} {nm : Nm} {X : HCx} {sc : Scope} {fb : Str → Bool} {W : WX} {Γ : List Sig} (g : GX R C nm X sc fb W) {D : Ends} {x : Exn} {cls : Value} {d : Option Addr} {τ : HSt} {H F : Hp} {m : List Addr} {S : Store} {σ : Sig} (sim : Sim R H F m S) (er : ExnRep R F x cls d H) (rs : RepS R F m σ τ) (rg : RepG R F m Γ τ) :
    ∀ {hs : List Hd} {l : List ExceptHandler}, mHs hs nm sc fb l = true → (∀ i ∈ asgHs hs, ∀ γ ∈ Γ, ∀ v, γ[i]? ≠ some (some v)) → PostS R W Γ H F m (exHs C hs x σ S) D → wX X.K W D (hs.map (clOf R C)) cls d τ H
  | [], l, h, hg, q => by
    simp only [exHs] at q
    exact q cls d τ H F m (Step.refl ..) sim er rg
  | .mk k cs i sb :: hs, l, h, hg, q => by
    cases l with
    | nil => simp [mHs] at h
    | cons a l =>
      simp only [mHs, Bool.and_eq_true] at h
      obtain ⟨h1, h2⟩ := h
      simp only [asgHs, asgH, List.mem_append] at hg
      simp only [mH] at h1
      split at h1
      · rename_i y n b0 su hy
        split at h1
        · rename_i e he
          simp only [Bool.and_eq_true, decide_eq_true_eq, Bool.not_eq_true'] at h1
          obtain ⟨⟨⟨⟨⟨⟨h3, h4⟩, h5⟩, h6⟩, h7⟩, h8⟩, h9⟩ := h1
          obtain ⟨Cx, hCx, ecl, hfs⟩ := id er
          obtain ⟨C1, hC1⟩ := g.ecs.all k e he
          obtain ⟨e2, he2, _, _, _, hall, _⟩ := g.ecs.at_ x.c Cx hCx
          have hex : PySem.W.exmOne X.K cls (clV R k) = some (cs.contains x.c) := by
            rw [ecl, cs_ok g hCx h7]
            have hb : (k == veI) = false := by simpa using h4
            simp only [List.any_cons, List.any_nil, Bool.or_false, belowB, hb, Bool.false_or, he2, clV, h4, if_false, hC1]
            exact (hall k C1 hC1).1
          rw [exHs] at q
          refine ⟨cs.contains x.c, hex, fun hb a oe na hz hf => ?_, fun hb => ?_⟩
          · have hb' : hdC (.mk k cs i sb) x.c = true := hb
            rw [hb'] at q
            simp only [exH] at q
            obtain ⟨hF, hM⟩ := sim.fresh na
            have st3 : Step H F m (upd H a (exHO oe)) (upd F a (exHO oe)) m := ((Step.refl H F m).over _ na).frozen na hF
            have sim3 : Sim R (upd H a (exHO oe)) (upd F a (exHO oe)) m S := (sim.over _ hM hF).frozen upd_same hM hF
            have rx : Rep R (upd F a (exHO oe)) x.d (.ref a) := exn_rep g.ecs.ex er hF hz hf
            have hgi : ∀ j ∈ i.toList, ∀ γ ∈ Γ, ∀ v, γ[j]? ≠ some (some v) := fun j hj => hg j (.inl (.inl hj))
            refine ⟨Γ, fun j hj => hg j (.inl (.inr hj)), setX i x σ, S, _, m, sim3, (RepS.mono st3 rs).setX rx i, ?_, suite_ends hgi (PostS.step st3 q)⟩
            cases i with
            | none => exact RepG.mono st3 rg
            | some i => exact (RepG.mono st3 rg).setO (hgi i (by simp))
          · have hb' : hdC (.mk k cs i sb) x.c = false := hb
            rw [hb'] at q
            exact hds_red g sim er rs rg h2 (fun j hj => hg j (.inr hj)) q
        · cases h1
      · cases h1
mutual
theorem mS_ok {R : RC} {C : Ev.Cx} : ∀ (s : Stm) {nm : Nm} {X : HCx} {sc : Scope} {fb : Str → Bool} {W : WX} {Γ : List Sig} (g : GX R C nm X sc fb W) (sx : SX X) (hp : PassesOwn (model X.prog X.w) X.A X.env X.xe) (a : Stmt), mS s nm sc fb a = true → (∀ i ∈ asgS s, ∀ γ ∈ Γ, ∀ v, γ[i]? ≠ some (some v)) → PS X a (tS R C W Γ s)
  | .asg t e, nm, X, sc, fb, W, Γ, g, sx, hp, a, h, hg => by
    cases t with
    | name i =>
      simp only [mS] at h
      split at h
      · rename_i x q v hx
        obtain ⟨p, rfl⟩ := asSet_inv hx
        simp only [Bool.and_eq_true, Bool.or_eq_true, decide_eq_true_eq] at h
        obtain ⟨⟨⟨⟨h1, h2⟩, h3⟩, h4⟩, h5⟩ := h
        refine ps_weak (set_ok g h1 h2 h3 h4 h5 (mE_ok e g v h5) fun y t own it ifs e1 hsl τ H Q q => by subst e1; exact lc_red hsl q) fun D τ H ⟨σ, S, F, m, sim, rs, rg, q⟩ => ?_
        simp only [ex] at q
        exact oneS sim rs rg q fun x x' H1 S1 F1 m1 st sim1 rs1 rg1 rx q1 => q1 _ H1 F1 m1 (Step.refl ..) sim1 (rs1.set rx i) (rg1.off (Off.set i _) (by simpa [asgS, slots] using hg))
      · cases h
    | tup l =>
      simp only [mS] at h
      split at h
      · rename_i t v hx
        obtain ⟨p, rfl⟩ := asAsg_inv hx
        simp only [Bool.and_eq_true] at h
        obtain ⟨⟨⟨h1, h2⟩, h3⟩, h0⟩ := h
        have hcm := g.hc (by simpa using h0)
        have ht : ∃ es k pp, t = .Tuple es k pp := by
          simp only [mG] at h1
          split at h1
          · rename_i es hes; obtain ⟨k, pp, rfl⟩ := asTup_inv hes; exact ⟨_, _, _, rfl⟩
          · cases h1
        obtain ⟨es, k, pp, rfl⟩ := ht
        refine ps_weak (L2.ps_asg (mE_ok e g v h2) (mG_ok g.hs g.hf g.hN g.nd g.hK hcm (.tup l) _ h1) sw_tup (st_tup h3) rfl) fun D τ H ⟨σ, S, F, m, sim, rs, rg, q⟩ => ?_
        simp only [ex] at q
        refine oneS sim rs rg q fun x x' H1 S1 F1 m1 st sim1 rs1 rg1 rx q1 => ?_
        cases hv : rdv S1 x with
        | none => rw [hv] at q1; exact q1.elim
        | some d =>
          rw [hv] at q1
          cases d with
          | tup xs =>
            obtain ⟨a, ys, rfl, hq, hr⟩ := rdv_tup sim1 rx hv
            simp only at q1
            cases ha : asgTs σ l xs with
            | none => rw [ha] at q1; exact q1.elim
            | some σ1 =>
              rw [ha] at q1
              refine ⟨σ, σ1, .tup xs, F1, m1, sim1.sub, ⟨a, ys, rfl, hq, hr⟩, rs1, by simp only [asgT]; exact ha, fun τ1 r1 o1 => ?_⟩
              exact q1 τ1 H1 F1 m1 (Step.refl ..) sim1 r1 (rg1.off o1 (by simpa [asgS] using hg))
          | _ => exact q1.elim
      · cases h
  | .new i e, nm, X, sc, fb, W, Γ, g, sx, hp, a, h, hg => by
    simp only [mS] at h
    split at h
    · rename_i x q v hx
      obtain ⟨p, rfl⟩ := asSet_inv hx
      simp only [Bool.and_eq_true, Bool.or_eq_true, decide_eq_true_eq] at h
      obtain ⟨⟨⟨⟨⟨h1, h2⟩, h3⟩, h4⟩, h5⟩, h6⟩ := h
      refine ps_weak (set_ok g h1 h2 h3 h4 h5 (mN_ok e g v h5 h6) fun y t own it ifs e1 hsl τ H Q q => by subst e1; exact lc_redN hsl q) fun D τ H ⟨σ, S, F, m, sim, rs, rg, q⟩ => ?_
      simp only [ex] at q
      exact ⟨σ, S, F, m, sim, rs, new_set rs rg (by simpa [asgS] using hg) q⟩
    · cases h
  | .aug i o e, nm, X, sc, fb, W, Γ, g, sx, hp, a, h, hg => by
    simp only [mS] at h
    split at h
    · rename_i x op v hx
      obtain ⟨p, q, rfl⟩ := asAug_inv hx
      simp only [Bool.and_eq_true, Bool.or_eq_true, decide_eq_true_eq] at h
      obtain ⟨⟨⟨⟨h2, h3⟩, h4⟩, rfl⟩, h5⟩ := h
      refine ps_weak (L2.ps_aug (i := i) (by rw [g.hN]; exact g.nd) (by rw [g.hN]; exact h2) (locB_ok g.hs h3) (mE_ok e g v h5) (ip_aug o) (or_ok g.hs g.hf h4)) fun D τ H ⟨σ, S, F, m, sim, rs, rg, q⟩ => ?_
      simp only [ex] at q
      split at q
      · rename_i x hx
        obtain ⟨x', e1, rx⟩ := rs.2 i x hx
        exact ⟨x', e1, oneS sim rs rg q fun y y' H1 S1 F1 m1 st sim1 rs1 rg1 ry q1 => aug_val sim1 rs1 rg1 (by simpa [asgS] using hg) (RepV.mono st rx) ry q1⟩
      · exact q.elim
    · cases h
  | .setSub o i e, nm, X, sc, fb, W, Γ, g, sx, hp, a, h, hg => by
    simp only [mS] at h
    split at h
    · rename_i t v hx
      obtain ⟨p, rfl⟩ := asAsg_inv hx
      split at h
      · rename_i x y hy
        obtain ⟨pp, rfl⟩ := asSub_inv hy
        simp only [Bool.and_eq_true] at h
        obtain ⟨⟨⟨h1, h2⟩, h3⟩, h4⟩ := h
        refine ps_weak (L2.ps_asg (mE_ok e g v h4) (L2.pg_sub (mE_ok o g x h1) (mE_ok i g y h2) (PSet.or L2.set_list (L2.set_dict (by have := g.hu; omega))) (fun v => by cases y <;> first | rfl | cases h3)) sw_sub st_sub rfl) fun D τ H ⟨σ, S, F, m, sim, rs, rg, q⟩ => ?_
        simp only [ex] at q
        refine oneS sim rs rg q fun x x' H1 S1 F1 m1 st sim1 rs1 rg1 rx q1 => ?_
        refine oneS sim1 rs1 rg1 q1 fun y y' H2 S2 F2 m2 st2 sim2 rs2 rg2 ry q2 => ?_
        refine oneS sim2 rs2 rg2 q2 fun z z' H3 S3 F3 m3 st3 sim3 rs3 rg3 rz q3 => ?_
        exact set_val sim3 rs3 rg3 (RepV.mono st3 ry) rz (RepV.mono (st2.trans st3) rx) q3
      · cases h
    · cases h
  | .expr e, nm, X, sc, fb, W, Γ, g, sx, hp, a, h, hg => by
    simp only [mS] at h
    split at h
    · rename_i v hx
      obtain ⟨p, rfl⟩ := asExpr_inv hx
      simp only [Bool.and_eq_true] at h
      refine ps_weak (L2.ps_expr (mE_ok e g v h.1) (sw_no h.2)) fun D τ H ⟨σ, S, F, m, sim, rs, rg, q⟩ => ?_
      simp only [ex] at q
      exact oneS sim rs rg q fun x x' H1 S1 F1 m1 st sim1 rs1 rg1 rx q1 => q1 τ H1 F1 m1 (Step.refl ..) sim1 rs1 rg1
    · cases h
  | .ret e, nm, X, sc, fb, W, Γ, g, sx, hp, a, h, hg => by
    simp only [mS] at h
    split at h
    · rename_i v hx
      obtain ⟨p, rfl⟩ := asRet_inv hx
      refine ps_weak (L2.ps_ret (mE_ok e g v h)) fun D τ H ⟨σ, S, F, m, sim, rs, rg, q⟩ => ?_
      simp only [ex] at q
      exact oneS sim rs rg q fun x x' H1 S1 F1 m1 st sim1 rs1 rg1 rx q1 => q1 x' H1 F1 m1 (Step.refl ..) sim1 rx
    · cases h
  | .retNew e, nm, X, sc, fb, W, Γ, g, sx, hp, a, h, hg => by
    simp only [mS] at h
    split at h
    · rename_i v hx
      obtain ⟨p, rfl⟩ := asRet_inv hx
      simp only [Bool.and_eq_true] at h
      refine ps_weak (L2.ps_ret (mN_ok e g v h.1 h.2)) fun D τ H ⟨σ, S, F, m, sim, rs, rg, q⟩ => ?_
      simp only [ex] at q
      exact ⟨σ, S, F, m, sim, rs, new_ret rg q⟩
    · cases h
  | .retN, nm, X, sc, fb, W, Γ, g, sx, hp, a, h, hg => by
    simp only [mS] at h
    split at h
    · rename_i hx
      obtain ⟨p, rfl⟩ := asRet_inv hx
      refine ps_weak L2.ps_retN fun D τ H ⟨σ, S, F, m, sim, rs, rg, q⟩ => ?_
      simp only [ex] at q
      exact q .non H F m (Step.refl ..) sim rfl
    · cases h
  | .ite c p q, nm, X, sc, fb, W, Γ, g, sx, hp, a, h, hg => by
    simp only [mS] at h
    split at h
    · rename_i t x y hx
      obtain ⟨pp, rfl⟩ := asIte_inv hx
      simp only [Bool.and_eq_true] at h
      obtain ⟨⟨h1, h2⟩, h3⟩ := h
      simp only [asgS, List.mem_append] at hg
      refine ps_weak (L2.ps_if (mT_ok c g t h1) (mSs_ok p g sx hp x h2 fun i hi => hg i (.inl hi)) (mSs_ok q g sx hp y h3 fun i hi => hg i (.inr hi))) fun D τ H ⟨σ, S, F, m, sim, rs, rg, q⟩ => ?_
      simp only [ex] at q
      refine ⟨σ, S, F, m, sim, rs, (PostS.bind rg q).imp fun b H1 ⟨b', S1, F1, m1, st1, sim1, e1, q1⟩ => ?_⟩
      cases e1
      cases b with
      | true => simp only [if_true]; exact ⟨σ, S1, F1, m1, sim1, RepS.mono st1 rs, RepG.mono st1 rg, q1⟩
      | false => simp only [Bool.false_eq_true, if_false]; exact ⟨σ, S1, F1, m1, sim1, RepS.mono st1 rs, RepG.mono st1 rg, q1⟩
    · cases h
  | .for_ t it b, nm, X, sc, fb, W, Γ, g, sx, hp, a, h, hg => by
    simp only [mS] at h
    split at h
    · rename_i tg i l hx
      obtain ⟨p, rfl⟩ := asFor_inv hx
      simp only [Bool.and_eq_true] at h
      obtain ⟨⟨⟨⟨h1, h2⟩, h3⟩, h4⟩, h0⟩ := h
      have hcm := g.hc (by simpa using h0)
      simp only [asgS, List.mem_append] at hg
      exact ps_weak (L2.ps_for hp hcm (mI_ok it g tg i h2) (mG_ok g.hs g.hf g.hN g.nd g.hK hcm t tg h1) (mSs_ok b g sx hp l h4 fun i hi => hg i (.inr hi)) (noSet_fold h3 _)) fun D τ H q => for_red (fun i hi => hg i (.inl hi)) q
    · cases h
  | .while_ c b, nm, X, sc, fb, W, Γ, g, sx, hp, a, h, hg => by
    simp only [mS] at h
    split at h
    · rename_i t l hx
      obtain ⟨p, rfl⟩ := asWhile_inv hx
      simp only [Bool.and_eq_true] at h
      simp only [asgS] at hg
      exact ps_weak (L2.ps_while hp (mT_ok c g t h.1) (mSs_ok b g sx hp l h.2 hg)) fun D τ H q => while_red q
    · cases h
  | .brk, nm, X, sc, fb, W, Γ, g, sx, hp, a, h, hg => by
    simp only [mS] at h
    obtain ⟨p, rfl⟩ := isBrk_inv h
    refine ps_weak L2.ps_break fun D τ H ⟨σ, S, F, m, sim, rs, rg, q⟩ => ?_
    simp only [ex] at q
    exact q τ H F m (Step.refl ..) sim rs rg
  | .cnt, nm, X, sc, fb, W, Γ, g, sx, hp, a, h, hg => by
    simp only [mS] at h
    obtain ⟨p, rfl⟩ := isCnt_inv h
    refine ps_weak L2.ps_continue fun D τ H ⟨σ, S, F, m, sim, rs, rg, q⟩ => ?_
    simp only [ex] at q
    exact q τ H F m (Step.refl ..) sim rs rg
  | .pass, nm, X, sc, fb, W, Γ, g, sx, hp, a, h, hg => by
    simp only [mS] at h
    rcases isPass_inv h with ⟨p, rfl⟩ | ⟨x, k, p, q, rfl⟩
    · refine ps_weak L2.ps_pass fun D τ H ⟨σ, S, F, m, sim, rs, rg, q⟩ => ?_
      simp only [ex] at q
      exact q τ H F m (Step.refl ..) sim rs rg
    · refine ps_weak L2.ps_doc fun D τ H ⟨σ, S, F, m, sim, rs, rg, q⟩ => ?_
      simp only [ex] at q
      exact q τ H F m (Step.refl ..) sim rs rg
  | .rse, nm, X, sc, fb, W, Γ, g, sx, hp, a, h, hg => ⟨fun pins s σ' H D I ⟨σ, S, F, m, sim, rs, rg, q⟩ => by
      simp only [ex] at q
      exact q.elim⟩
  | .rai c fs es, nm, X, sc, fb, W, Γ, g, sx, hp, a, h, hg => rai_ok g h
  | .tr b hs, nm, X, sc, fb, W, Γ, g, sx, hp, a, h, hg => by
    simp only [mS] at h
    split at h
    · rename_i l h0 hds hx
      obtain ⟨r, rfl⟩ := asTry_inv hx
      simp only [Bool.and_eq_true, Bool.not_eq_true'] at h
      obtain ⟨⟨h1, h2⟩, h3⟩ := h
      simp only [asgS, List.mem_append] at hg
      refine ps_weak (ps_try (tb := fun W' => tSe R C W' b) (Wout := W) sx.hs sx.hf sx.hex (by rw [g.hN]; exact g.nd) g.tk (fun W' pn xe tk po => pss_e fun Γ' hΓ => mSs_ok b (g.tr tk) ⟨sx.hs, sx.hf, sx.hex⟩ po l h2 hΓ) (mHs_ok hs g sx (h0 :: hds) h3)) fun D τ H ⟨σ, S, F, m, sim, rs, rg, q⟩ => ?_
      simp only [ex] at q
      refine ⟨wipes σ (asgSs b) :: Γ, fun i hi γ hγ v => ?_, σ, S, F, m, sim, rs, fun γ hγ => ?_, ?_⟩
      · rcases List.mem_cons.mp hγ with rfl | hγ
        · exact wipes_off hi v
        · exact hg i (.inl hi) γ hγ v
      · rcases List.mem_cons.mp hγ with rfl | hγ
        · exact RepS.wipes rs _
        · exact rg γ hγ
      · generalize exs C b σ S = rr at q
        cases rr with
        | no => exact q
        | exc x S1 =>
          intro cls d τ' H' F' m' st' sim' er rg'
          have rgΓ : RepG R F' m' Γ τ' := fun γ hγ => rg' γ (List.mem_cons_of_mem _ hγ)
          exact hds_red g sim' er (rg' _ (List.mem_cons_self ..)) rgΓ h3 (fun i hi => hg i (.inr hi)) (PostS.step st' q)
        | ok f S1 =>
          cases f with
          | rt v => exact q
          | nx σ1 => exact fun τ' H' F' m' st' sim' rs' rg' => q τ' H' F' m' st' sim' rs' fun γ hγ => rg' γ (List.mem_cons_of_mem _ hγ)
          | bk σ1 => exact fun τ' H' F' m' st' sim' rs' rg' => q τ' H' F' m' st' sim' rs' fun γ hγ => rg' γ (List.mem_cons_of_mem _ hγ)
          | ct σ1 => exact fun τ' H' F' m' st' sim' rs' rg' => q τ' H' F' m' st' sim' rs' fun γ hγ => rg' γ (List.mem_cons_of_mem _ hγ)
    · cases h
termination_by structural s => s
theorem mSs_ok {R : RC} {C : Ev.Cx} : ∀ (s : List Stm) {nm : Nm} {X : HCx} {sc : Scope} {fb : Str → Bool} {W : WX} {Γ : List Sig} (g : GX R C nm X sc fb W) (sx : SX X) (hp : PassesOwn (model X.prog X.w) X.A X.env X.xe) (a : List Stmt), mSs s nm sc fb a = true → (∀ i ∈ asgSs s, ∀ γ ∈ Γ, ∀ v, γ[i]? ≠ some (some v)) → PSs X a (tSs R C W Γ s)
  | [], nm, X, sc, fb, W, Γ, g, sx, hp, a, h, hg => by
    cases a with
    | cons => simp [mSs] at h
    | nil =>
      refine pss_weak L2.pss_nil fun D τ H ⟨σ, S, F, m, sim, rs, rg, q⟩ => ?_
      simp only [exs] at q
      exact q τ H F m (Step.refl ..) sim rs rg
  | s :: r, nm, X, sc, fb, W, Γ, g, sx, hp, a, h, hg => by
    cases a with
    | nil => simp [mSs] at h
    | cons a l =>
      simp only [mSs, Bool.and_eq_true] at h
      simp only [asgSs, List.mem_append] at hg
      refine pss_weak (L2.pss_cons (mS_ok s g sx hp a h.1 fun i hi => hg i (.inl hi)) (mSs_ok r g sx hp l h.2 fun i hi => hg i (.inr hi))) fun D τ H ⟨σ, S, F, m, sim, rs, rg, q⟩ => ?_
      rw [exs] at q
      refine ⟨σ, S, F, m, sim, rs, rg, ?_⟩
      generalize ex C s σ S = rr at q
      cases rr with
      | no => exact q
      | exc x S1 => exact q
      | ok f S1 =>
        cases f with
        | nx σ1 => exact fun τ' H' F' m' st sim' rs' rg' => ⟨σ1, S1, F', m', sim', rs', rg', PostS.step st q⟩
        | _ => exact q
termination_by structural s => s
theorem mH_ok {R : RC} {C : Ev.Cx} : ∀ (hd : Hd) {nm : Nm} {X : HCx} {sc : Scope} {fb : Str → Bool} {W : WX} (g : GX R C nm X sc fb W) (sx : SX X) (a : ExceptHandler) {l : List ExceptHandler} {cl : List Cl}, mH hd nm sc fb a = true → HdsX X l cl → HdsX X (a :: l) (clOf R C hd :: cl)
  | .mk k cs i sb, nm, X, sc, fb, W, g, sx, a, l, cl, h, hr => by
    simp only [mH] at h
    split at h
    · rename_i y n b0 su hy
      obtain ⟨p, q, rfl⟩ := asHd_inv hy
      split at h
      · rename_i e he
        simp only [Bool.and_eq_true, decide_eq_true_eq, Bool.not_eq_true'] at h
        obtain ⟨⟨⟨⟨⟨⟨h3, h4⟩, h5⟩, h6⟩, h7⟩, h8⟩, h9⟩ := h
        subst h3
        obtain ⟨C1, hC1⟩ := g.ecs.all k e he
        obtain ⟨e2, he2, hmg, _⟩ := g.ecs.at_ k C1 hC1
        rw [he] at he2
        cases he2
        refine .cons ⟨glB_ok g.hs h5, h6, .inl ?_⟩ ?_ (fun a pn => pss_e fun Γ hΓ => mSs_ok sb (g.suite a pn) ⟨sx.hs, sx.hf, sx.hex⟩ PassesOwn.never (b0 :: su) h9 hΓ) hr
        · show X.mg e.x = some (clV R k)
          simp only [clV, h4, if_false, hC1]
          exact hmg
        · show nmX X n i
          cases n with
          | none =>
            cases i with
            | none => trivial
            | some i => simp [mHn] at h8
          | some n =>
            cases i with
            | none => simp [mHn] at h8
            | some i =>
              simp only [mHn, Bool.and_eq_true, decide_eq_true_eq] at h8
              refine ⟨by rw [g.hN]; exact h8.1, ?_⟩
              show X.env.scope.names.lookup n = some .local
              rw [g.hs]
              exact lclB_ok h8.2
      · cases h
    · cases h
termination_by structural s => s
theorem mHs_ok {R : RC} {C : Ev.Cx} : ∀ (hs : List Hd) {nm : Nm} {X : HCx} {sc : Scope} {fb : Str → Bool} {W : WX} (g : GX R C nm X sc fb W) (sx : SX X) (l : List ExceptHandler), mHs hs nm sc fb l = true → HdsX X l (hs.map (clOf R C))
  | [], nm, X, sc, fb, W, g, sx, l, h => by
    cases l with
    | nil => exact .nil
    | cons => simp [mHs] at h
  | hd :: hs, nm, X, sc, fb, W, g, sx, l, h => by
    cases l with
    | nil => simp [mHs] at h
    | cons a l =>
      simp only [mHs, Bool.and_eq_true] at h
      exact mH_ok hd g sx a h.1 (mHs_ok hs g sx l h.2)
termination_by structural s => s
end
end Ev

end

section
set_option Elab.async false
set_option linter.all false
set_option maxRecDepth 100000
set_option maxHeartbeats 1000000
/-! Ev, part 15: calls of own defs. -/
namespace Ev
open PySem PySem.Spec PyProof.Rows
open L2 (V Hp HO PE PT PS PSs PA PG PGs PI TE TT TA TS TG TGs TI It VK SqL SqT Rd Key upd upd_same upd_ne OpR CallR IxR SlR MtR MtM R2 tOp RelV Vals WX Takes Room FnOk Sp XK Ends rI rI0 CMul CDiv CPow KV Itl Itt Itr Its Vis Loc Gl)

/-- some cells frozen -/
def frzC : Cell → Cell
  | .lst l => .fz (.lst l)
  | .dct l => .fz (.dct l)
  | c => c
def frzS (S : Store) : List Nat → Store
  | [] => S
  | n :: l => match S[n]? with
    | some c => frzS (S.set n (frzC c)) l
    | none => frzS S l
def flatT (k : Nat) (T : Store) : Bool := (T.take k).all Cell.flat
/-- behind the callee: T its store -/
def outC (own : Bool) (refs snaps : List Nat) (S T : Store) (v : Val) : R Val := match v with
  | .d x => if x.flat && flatT refs.length T then .ok (.d x) (putBack S refs T) else .ok (.d x) (putBack (frzS S snaps) refs T)
  | .ref j => match refs[j]? with
    | some n => if flatT refs.length T then .ok (.ref n) (putBack S refs T) else .ok (.ref n) (putBack (frzS S snaps) refs T)
    | none => (match T[j]? with
      | some c => (match own with
        | true => if c.flat && flatT refs.length T then .ok (.ref S.length) (putBack S refs T ++ [c]) else .ok (.ref S.length) (putBack (frzS S snaps) refs T ++ [c])
        | false => (match rdv T (.ref j) with
          | some x => if x.flat && flatT refs.length T then .ok (.d x) (putBack S refs T) else .ok (.d x) (putBack (frzS S snaps) refs T)
          | none => .no))
      | none => .no)
/-- a program: its defs, its constants, its dicts, how long a while may go -/
structure Pg where
  fn : Nat → Option Fn
  glo : Nat → Option D
  gdc : Nat → Option (List (List Nat × D))
  wf : Nat
/-- a def's body, run -/
noncomputable def bodyC (C : Cx) (F : Fn) (vs : List Val) (S : Store) : R Val := match prep S F.byref vs [] [] with
  | some (us, refs, snaps) => if refs.all fun n => !snaps.contains n then (match cellsAt S refs with
    | some T0 => (match exs C F.body (us.map some ++ List.replicate (F.ns - F.np) none) T0 with
      | .ok (.rt v) T => outC F.own refs snaps S T v
      | .ok (.nx _) T => outC F.own refs snaps S T (.d .non)
      | .ok _ _ => .no
      | .exc x T => .exc x (putBack (frzS S snaps) refs T)
      | .no => .no)
    | none => .no) else .no
  | none => .no
noncomputable def callP (P : Pg) : Nat → Nat → List Val → Store → R Val
  | 0, _, _, _ => .no
  | n + 1, f, vs, S => match P.fn f with
    | none => .no
    | some F => if vs.length = F.np then bodyC ⟨callP P n, P.glo, P.gdc, P.wf⟩ F vs S else .no
noncomputable def Pg.cx (P : Pg) (n : Nat) : Cx := ⟨callP P n, P.glo, P.gdc, P.wf⟩

section
variable {R : RC} {H F : Hp} {m : List Addr} {S : Store}
/-! ### freezing -/
theorem frzS_len (l : List Nat) : ∀ S : Store, (frzS S l).length = S.length := by
  induction l with
  | nil => intro S; rfl
  | cons n l ih =>
    intro S
    unfold frzS
    split
    · rw [ih]; simp
    · exact ih S
theorem frzC_twice (c : Cell) : frzC (frzC c) = frzC c := by cases c <;> rfl
theorem frzS_get (l : List Nat) : ∀ (S : Store) (n : Nat), (frzS S l)[n]? = if n ∈ l then (S[n]?).map frzC else S[n]? := by
  induction l with
  | nil => intro S n; simp [frzS]
  | cons k l ih =>
    intro S n
    unfold frzS
    split
    · rename_i c hc
      rw [ih]
      by_cases e : n = k
      · subst e
        have hl : n < S.length := by
          rcases Nat.lt_or_ge n S.length with q | q
          · exact q
          · rw [List.getElem?_eq_none q] at hc; cases hc
        rw [List.getElem?_set_self hl, hc]
        simp [frzC_twice]
      · rw [List.getElem?_set_ne (Ne.symm e)]
        simp [e]
    · rename_i hc
      rw [ih]
      by_cases e : n = k
      · subst e; rw [hc]; simp
      · simp [e]
/-- the frozen places are those of the cells that are frozen now -/
def As (m : List Addr) (S : Store) (l : List Nat) (a : Addr) : Prop := ∃ n ∈ l, m[n]? = some a ∧ ((∃ x, S[n]? = some (.lst x)) ∨ ∃ x, S[n]? = some (.dct x))
theorem frzS_ok (l : List Nat) : ∀ {S : Store} {F : Hp}, Sim R H F m S → ∃ F1, Sim R H F1 m (frzS S l) ∧ Step H F m H F1 m ∧ ∀ a, F1 a ≠ F a → As m S l a := by
  induction l with
  | nil => intro S F sim; exact ⟨F, sim, Step.refl .., fun a h => absurd rfl h⟩
  | cons n l ih =>
    intro S F sim
    unfold frzS
    cases hS : S[n]? with
    | none =>
      obtain ⟨F1, s1, s2, s3⟩ := ih sim
      exact ⟨F1, s1, s2, fun a h => let ⟨k, hk, r⟩ := s3 a h; ⟨k, List.mem_cons_of_mem _ hk, r⟩⟩
    | some c =>
      have hl : n < S.length := by
        rcases Nat.lt_or_ge n S.length with q | q
        · exact q
        · rw [List.getElem?_eq_none q] at hS; cases hS
      have hml : n < m.length := by rw [sim.len]; exact hl
      have hm : m[n]? = some m[n] := List.getElem?_eq_getElem hml
      have step : ∃ F0, Sim R H F0 m (S.set n (frzC c)) ∧ Step H F m H F0 m ∧ ∀ a, F0 a ≠ F a → As m S (n :: l) a := by
        cases c with
        | fz x =>
          refine ⟨F, ?_, Step.refl .., fun a h => absurd rfl h⟩
          have e : S.set n (frzC (.fz x)) = S := by
            refine List.ext_getElem? fun k => ?_
            by_cases e : k = n
            · subst e; rw [List.getElem?_set_self hl, hS]; rfl
            · rw [List.getElem?_set_ne (Ne.symm e)]
          rw [e]; exact sim
        | lst x =>
          obtain ⟨h0, xs, h1, h2⟩ := sim.cell n _ _ hS hm
          have hs : Sub F (upd F m[n] (.lst xs)) := fun b u h => by rw [upd_ne (L2.ne_of_none h h0)]; exact h
          obtain ⟨s1, s2⟩ := sim.freeze (x := .lst x) hm h1 ⟨_, xs, rfl, .inl upd_same, Reps.mono hs h2⟩ h0
          refine ⟨_, s1, s2, fun a h => ?_⟩
          by_cases e : a = m[n]
          · exact ⟨n, List.mem_cons_self .., by rw [e]; exact hm, .inl ⟨x, hS⟩⟩
          · rw [upd_ne e] at h; exact absurd rfl h
        | dct x =>
          obtain ⟨h0, xs, h1, h2⟩ := sim.cell n _ _ hS hm
          have hs : Sub F (upd F m[n] (.dK xs)) := fun b u h => by rw [upd_ne (L2.ne_of_none h h0)]; exact h
          obtain ⟨s1, s2⟩ := sim.freeze (x := .dct x) hm h1 ⟨_, xs, rfl, upd_same, RepK.mono hs h2⟩ h0
          refine ⟨_, s1, s2, fun a h => ?_⟩
          by_cases e : a = m[n]
          · exact ⟨n, List.mem_cons_self .., by rw [e]; exact hm, .inr ⟨x, hS⟩⟩
          · rw [upd_ne e] at h; exact absurd rfl h
      obtain ⟨F0, t1, t2, t3⟩ := step
      obtain ⟨F1, s1, s2, s3⟩ := ih t1
      refine ⟨F1, s1, t2.trans s2, fun a h => ?_⟩
      by_cases e : F0 a = F a
      · obtain ⟨k, hk, r1, r2⟩ := s3 a (by rw [e]; exact h)
        by_cases ek : k = n
        · subst ek
          rw [List.getElem?_set_self hl] at r2
          refine ⟨k, List.mem_cons_self .., r1, ?_⟩
          cases c with
          | fz x => simp [frzC] at r2
          | lst x => exact .inl ⟨x, hS⟩
          | dct x => exact .inr ⟨x, hS⟩
        · rw [List.getElem?_set_ne (Ne.symm ek)] at r2
          exact ⟨k, List.mem_cons_of_mem _ hk, r1, r2⟩
      · exact t3 a e

/-! ### arguments -/
/-- the addresses of some cells -/
def adsOf (m : List Addr) (l : List Nat) : List Addr := l.filterMap fun n => m[n]?
theorem cellsAt_ok (sim : Sim R H F m S) : ∀ {l : List Nat} {T : Store}, cellsAt S l = some T → (∀ n ∈ l, n < m.length) ∧ T.length = l.length ∧ ∀ (j n : Nat), l[j]? = some n → T[j]? = S[n]?
  | [], T, h => by
    cases h
    exact ⟨(fun n hn => nomatch hn), rfl, fun j n h => by cases h⟩
  | k :: l, T, h => by
    simp only [cellsAt] at h
    split at h
    · rename_i c hc
      split at h
      · rename_i r hr
        cases h
        obtain ⟨h1, h2, h3⟩ := cellsAt_ok sim hr
        have hl : k < S.length := by
          rcases Nat.lt_or_ge k S.length with q | q
          · exact q
          · rw [List.getElem?_eq_none q] at hc; cases hc
        refine ⟨fun n hn => ?_, by simp [h2], fun j n hj => ?_⟩
        · rcases List.mem_cons.mp hn with rfl | hn
          · rw [sim.len]; exact hl
          · exact h1 n hn
        · cases j with
          | zero => simp at hj; subst hj; simp [hc]
          | succ j => simp at hj; simpa using h3 j n hj
      · cases h
    · cases h
theorem adsOf_get : ∀ {l : List Nat}, (∀ n ∈ l, n < m.length) → (adsOf m l).length = l.length ∧ ∀ (j n : Nat), l[j]? = some n → (adsOf m l)[j]? = m[n]?
  | [], _ => ⟨rfl, fun j n h => by cases h⟩
  | k :: l, h => by
    obtain ⟨h1, h2⟩ := adsOf_get (l := l) fun n hn => h n (List.mem_cons_of_mem _ hn)
    have hlt : k < m.length := h k (List.mem_cons_self ..)
    have hk : m[k]? = some m[k] := List.getElem?_eq_getElem hlt
    have e : adsOf m (k :: l) = m[k] :: adsOf m l := by
      unfold adsOf
      rw [List.filterMap_cons, hk]
    rw [e]
    refine ⟨by simp [h1], fun j n hj => ?_⟩
    cases j with
    | zero => simp at hj; subst hj; simp [hk]
    | succ j => simp at hj; simpa using h2 j n hj
theorem adsOf_mem {l : List Nat} {a : Addr} (h : a ∈ adsOf m l) : ∃ n ∈ l, m[n]? = some a := by
  unfold adsOf at h
  obtain ⟨n, hn, e⟩ := List.mem_filterMap.mp h
  exact ⟨n, hn, e⟩
theorem adsOf_nodup (nd : m.Nodup) : ∀ {l : List Nat}, l.Nodup → (∀ n ∈ l, n < m.length) → (adsOf m l).Nodup
  | [], _, _ => List.nodup_nil
  | k :: l, hn, h => by
    have hlt : k < m.length := h k (List.mem_cons_self ..)
    have hk : m[k]? = some m[k] := List.getElem?_eq_getElem hlt
    have e : adsOf m (k :: l) = m[k] :: adsOf m l := by
      unfold adsOf
      rw [List.filterMap_cons, hk]
    rw [e, List.nodup_cons]
    rw [List.nodup_cons] at hn
    refine ⟨fun hm => ?_, adsOf_nodup nd hn.2 fun n hn => h n (List.mem_cons_of_mem _ hn)⟩
    obtain ⟨j, hj, ej⟩ := adsOf_mem hm
    have : j = k := (List.getElem?_inj (h j (List.mem_cons_of_mem _ hj)) nd).mp (ej.trans hk.symm)
    exact hn.1 (this ▸ hj)
theorem idxOf_get {l : List Nat} {n j : Nat} (h : l.idxOf? n = some j) : l[j]? = some n := by
  obtain ⟨hj, e, _⟩ := List.findIdx?_eq_some_iff_getElem.mp (show l.findIdx? (· == n) = some j from h)
  rw [List.getElem?_eq_getElem hj]
  simpa using e
theorem idxOf_none {l : List Nat} {n : Nat} (h : l.idxOf? n = none) : n ∉ l := by
  have := List.findIdx?_eq_none_iff.mp (show l.findIdx? (· == n) = none from h)
  intro hn
  simpa using this n hn
/-- what the arguments are in the callee -/
theorem prep_ok {args : List Val} : ∀ {bs : List Bool} {refs0 snaps0 : List Nat} {us : List Val} {refs snaps : List Nat}, prep S bs args refs0 snaps0 = some (us, refs, snaps) → refs0.Nodup →
    refs.Nodup ∧ (∃ t, refs = refs0 ++ t) ∧ (∀ n ∈ snaps0, n ∈ snaps) ∧ us.length = args.length ∧ ∀ (i : Nat) (v u : Val), args[i]? = some v → us[i]? = some u → match v with
      | .d x => u = .d x
      | .ref n => (∃ j, u = .ref j ∧ refs[j]? = some n) ∨ ∃ x, u = .d x ∧ rdv S (.ref n) = some x ∧ n ∈ snaps := by
  induction args with
  | nil =>
    intro bs refs0 snaps0 us refs snaps h hn
    cases bs <;> (simp only [prep] at h; cases h; exact ⟨hn, ⟨[], by simp⟩, fun n h => h, rfl, fun i v u h => by cases h⟩)
  | cons v l ih =>
    intro bs refs0 snaps0 us refs snaps h hn
    cases v with
    | d x =>
      simp only [prep] at h
      split at h
      · rename_i r p hr
        cases h
        obtain ⟨h1, h2, h3, h4, h5⟩ := ih hr hn
        refine ⟨h1, h2, h3, by simp [h4], fun i v u e1 e2 => ?_⟩
        cases i with
        | zero => simp at e1 e2; subst e1 e2; rfl
        | succ i => exact h5 i v u (by simpa using e1) (by simpa using e2)
      · cases h
    | ref n =>
      simp only [prep] at h
      split at h
      · split at h
        · rename_i j hj
          split at h
          · rename_i r p hr
            cases h
            obtain ⟨h1, ⟨t, h2⟩, h3, h4, h5⟩ := ih hr hn
            refine ⟨h1, ⟨t, h2⟩, h3, by simp [h4], fun i v u e1 e2 => ?_⟩
            cases i with
            | zero =>
              simp at e1 e2
              subst e1 e2
              refine .inl ⟨j, rfl, ?_⟩
              have hg := idxOf_get hj
              have hlt : j < refs0.length := (List.getElem?_eq_some_iff.mp hg).1
              rw [h2, List.getElem?_append_left hlt]
              exact hg
            | succ i => exact h5 i v u (by simpa using e1) (by simpa using e2)
          · cases h
        · rename_i hj
          split at h
          · rename_i r p hr
            cases h
            have hn' : (refs0 ++ [n]).Nodup := by
              rw [List.nodup_append]
              exact ⟨hn, by simp, fun a ha b hb => by simp at hb; subst hb; exact fun e => idxOf_none hj (e ▸ ha)⟩
            obtain ⟨h1, ⟨t, h2⟩, h3, h4, h5⟩ := ih hr hn'
            refine ⟨h1, ⟨[n] ++ t, by rw [h2, List.append_assoc]⟩, h3, by simp [h4], fun i v u e1 e2 => ?_⟩
            cases i with
            | zero =>
              simp at e1 e2
              subst e1 e2
              refine .inl ⟨refs0.length, rfl, ?_⟩
              rw [h2, List.append_assoc, List.getElem?_append_right (Nat.le_refl _), Nat.sub_self]
              rfl
            | succ i => exact h5 i v u (by simpa using e1) (by simpa using e2)
          · cases h
      · split at h
        · rename_i x hx
          split at h
          · rename_i r p hr
            cases h
            obtain ⟨h1, h2, h3, h4, h5⟩ := ih hr hn
            refine ⟨h1, h2, fun k hk => h3 k (List.mem_cons_of_mem _ hk), by simp [h4], fun i v u e1 e2 => ?_⟩
            cases i with
            | zero =>
              simp at e1 e2
              subst e1 e2
              exact .inr ⟨x, rfl, hx, h3 n (List.mem_cons_self ..)⟩
            | succ i => exact h5 i v u (by simpa using e1) (by simpa using e2)
          · cases h
        · cases h
theorem RepVs.get {l : List Val} : ∀ {vs : List V} {F : Hp} {m : List Addr}, RepVs R F m l vs ↔ l.length = vs.length ∧ ∀ (i : Nat) (x : Val) (v : V), l[i]? = some x → vs[i]? = some v → RepV R F m x v := by
  induction l with
  | nil =>
    intro vs F m
    constructor
    · intro h; cases h; exact ⟨rfl, fun i x v h => by cases h⟩
    · rintro ⟨h, _⟩
      cases vs with
      | nil => rfl
      | cons => cases h
  | cons x l ih =>
    intro vs F m
    constructor
    · rintro ⟨v, r, rfl, h1, h2⟩
      obtain ⟨h3, h4⟩ := ih.mp h2
      refine ⟨by simp [h3], fun i y w e1 e2 => ?_⟩
      cases i with
      | zero => simp at e1 e2; subst e1 e2; exact h1
      | succ i => exact h4 i y w (by simpa using e1) (by simpa using e2)
    · rintro ⟨h1, h2⟩
      cases vs with
      | nil => cases h1
      | cons v r => exact ⟨v, r, rfl, h2 0 x v rfl rfl, ih.mpr ⟨by simpa using h1, fun i y w e1 e2 => h2 (i + 1) y w (by simpa using e1) (by simpa using e2)⟩⟩
end
end Ev

end

section
set_option Elab.async false
set_option linter.all false
set_option maxRecDepth 100000
set_option maxHeartbeats 1000000
/-! Ev, part 16: behind a call. -/
namespace Ev
open PySem PySem.Spec PyProof.Rows
open L2 (V Hp HO PE PT PS PSs PA PG PGs PI TE TT TA TS TG TGs TI It VK SqL SqT Rd Key upd upd_same upd_ne OpR CallR IxR SlR MtR MtM R2 tOp RelV Vals WX Takes Room FnOk Sp XK Ends rI rI0 CMul CDiv CPow KV Itl Itt Itr Its Vis Loc Gl)
section
variable {R : RC} {H F : Hp} {m : List Addr} {S : Store}
/-- the callee's state -/
theorem sub_sim (sim : Sim R H F m S) {l : List Nat} {T : Store} (hn : l.Nodup) (h : cellsAt S l = some T) : Sim R H F (adsOf m l) T := by
  obtain ⟨h1, h2, h3⟩ := cellsAt_ok sim h
  obtain ⟨h4, h5⟩ := adsOf_get (m := m) h1
  refine ⟨sim.sub, adsOf_nodup sim.nd hn h1, by rw [h4, h2], fun a ha => ?_, fun j c a e1 e2 => ?_⟩
  · obtain ⟨n, _, e⟩ := adsOf_mem ha
    exact sim.trk a (List.mem_of_getElem? e)
  · have hj : j < l.length := by
      rw [← h2]
      rcases Nat.lt_or_ge j T.length with q | q
      · exact q
      · rw [List.getElem?_eq_none q] at e1; cases e1
    have hl : l[j]? = some l[j] := List.getElem?_eq_getElem hj
    rw [h3 j _ hl] at e1
    rw [h5 j _ hl] at e2
    exact sim.cell _ c a e1 e2
theorem putBack_len : ∀ (l : List Nat) (S T : Store), (putBack S l T).length = S.length
  | [], S, T => by cases T <;> rfl
  | n :: l, S, [] => rfl
  | n :: l, S, c :: T => by
    show (putBack (S.set n c) l T).length = _
    rw [putBack_len l]; simp
theorem putBack_get : ∀ (l : List Nat) (S T : Store), l.Nodup → l.length ≤ T.length → ∀ n, (putBack S l T)[n]? = if n ∈ l then (if n < S.length then T[l.idxOf n]? else none) else S[n]?
  | [], S, T, _, _, n => by cases T <;> simp [putBack]
  | k :: l, S, [], _, hl, n => by simp at hl
  | k :: l, S, c :: T, hn, hl, n => by
    rw [List.nodup_cons] at hn
    show (putBack (S.set k c) l T)[n]? = _
    rw [putBack_get l (S.set k c) T hn.2 (by simpa using hl) n]
    by_cases e : n = k
    · subst e
      simp only [hn.1, if_false, List.mem_cons, true_or, if_true, List.idxOf_cons_self]
      by_cases h : n < S.length
      · rw [if_pos h, List.getElem?_set_self h]; rfl
      · rw [if_neg h, List.getElem?_eq_none (by simp; omega)]
    · simp only [List.length_set, List.mem_cons, e, false_or]
      rw [List.getElem?_set_ne (Ne.symm e)]
      by_cases hm : n ∈ l
      · simp only [hm, if_true]
        rw [List.idxOf_cons, show (k == n) = false from by simp [Ne.symm e]]
        simp
      · simp only [hm, if_false]
variable {F1 H' F' : Hp} {mc' : List Addr} {T : Store} {refs snaps : List Nat}
theorem mem_idx {l : List Nat} {n : Nat} (h : n ∈ l) : l[l.idxOf n]? = some n := by
  have hlt : l.idxOf n < l.length := List.idxOf_lt_length_of_mem h
  rw [List.getElem?_eq_getElem hlt]
  simp
/-- the caller's state behind the callee: what was handed frozen stays so -/
theorem back_sim (sim1 : Sim R H F1 m S) (hn : refs.Nodup) (hlt : ∀ n ∈ refs, n < m.length) (st : Step H F1 (adsOf m refs) H' F' mc') (simc : Sim R H' F' mc' T) :
    Sim R H' F' m (putBack S refs T) ∧ Step H F1 m H' F' m := by
  obtain ⟨h4, h5⟩ := adsOf_get (m := m) hlt
  obtain ⟨t, hpre⟩ := st.pre
  have hTl : refs.length ≤ T.length := by
    rw [← simc.len, hpre, List.length_append, h4]; omega
  have hmc : ∀ (j n : Nat), refs[j]? = some n → mc'[j]? = m[n]? := fun j n e => by
    have hj : j < refs.length := (List.getElem?_eq_some_iff.mp e).1
    rw [hpre, List.getElem?_append_left (by rw [h4]; exact hj)]
    exact h5 j n e
  have nmc : ∀ {n a}, m[n]? = some a → n ∉ refs → a ∉ adsOf m refs := fun {n a} e hr ha => by
    obtain ⟨k, hk, e2⟩ := adsOf_mem ha
    have : k = n := (List.getElem?_inj (hlt k hk) sim1.nd).mp (e2.trans e.symm)
    exact hr (this ▸ hk)
  refine ⟨⟨simc.sub, sim1.nd, by rw [putBack_len]; exact sim1.len, fun a ha => ?_, fun n c a e1 e2 => ?_⟩, ⟨st.sub, fun a o e h => st.keep a o e fun z => ?_, fun a e => ?_, ⟨[], by simp⟩, fun a h => .inl h⟩⟩
  · obtain ⟨n, hnl, e⟩ := List.getElem_of_mem ha
    have e : m[n]? = some a := by rw [List.getElem?_eq_getElem hnl, e]
    by_cases hr : n ∈ refs
    · have h1 := hmc _ n (mem_idx hr)
      rw [e] at h1
      exact simc.trk a (List.mem_of_getElem? h1)
    · obtain ⟨o, ho⟩ := sim1.trk a ha
      exact ⟨o, st.keep a o ho (nmc e hr)⟩
  · rw [putBack_get refs S T hn hTl n] at e1
    by_cases hr : n ∈ refs
    · simp only [hr, if_true] at e1
      split at e1
      · have h1 := hmc _ n (mem_idx hr)
        rw [e2] at h1
        exact simc.cell _ c a e1 h1
      · cases e1
    · simp only [hr, if_false] at e1
      have hc := sim1.cell n c a e1 e2
      obtain ⟨o, ho⟩ := sim1.trk a (List.mem_of_getElem? e2)
      have na := nmc e2 hr
      refine hc.mono st.sub (fun z => ?_) fun u hu => st.keep a u hu na
      cases q : F' a with
      | none => rfl
      | some u =>
        rcases st.new a (by rw [q]; exact fun z => nomatch z) with w | w | w
        · exact absurd z w
        · rw [ho] at w; cases w
        · exact absurd w na
  · obtain ⟨n, _, e3⟩ := adsOf_mem z
    exact h (List.mem_of_getElem? e3)
  · rcases st.new a e with w | w | w
    · exact .inl w
    · exact .inr (.inl w)
    · obtain ⟨n, _, e3⟩ := adsOf_mem w
      exact .inr (.inr (List.mem_of_getElem? e3))

/-! ### thawing -/
mutual
theorem flat_thaw {F' F'' : Hp} (h : ∀ a xs, Rd F' a (.tup xs) → Rd F'' a (.tup xs)) : ∀ {x : D} {v : V}, x.flat = true → Rep R F' x v → Rep R F'' x v
  | .non, _, _, r => r
  | .bl _, _, _, r => r
  | .int _, _, _, r => r
  | .str _, _, _, r => r
  | .tup l, v, hf, r => by
    obtain ⟨a, xs, e, hq, hr⟩ := r
    simp only [D.flat] at hf
    refine ⟨a, xs, e, ?_, flats_thaw h hf hr⟩
    rcases hq with hq | hq
    · exact .inl (h a xs hq)
    · exact .inr hq
  | .lst _, _, hf, _ => by simp [D.flat] at hf
  | .dct _, _, hf, _ => by simp [D.flat] at hf
  | .ins _ _, _, hf, _ => by simp [D.flat] at hf
theorem flats_thaw {F' F'' : Hp} (h : ∀ a xs, Rd F' a (.tup xs) → Rd F'' a (.tup xs)) : ∀ {l : List D} {vs : List V}, D.flats l = true → Reps R F' l vs → Reps R F'' l vs
  | [], _, _, r => r
  | x :: l, _, hf, ⟨v, r, e, h1, h2⟩ => by
    simp only [D.flats, Bool.and_eq_true] at hf
    exact ⟨v, r, e, flat_thaw h hf.1 h1, flats_thaw h hf.2 h2⟩
end
open Classical in
/-- what was handed frozen is as it was -/
theorem thaw (sim : Sim R H F m S) (hF1 : ∀ a, F1 a ≠ F a → As m S snaps a) (sF : Sub F F1) (hd : ∀ n ∈ refs, n ∉ snaps) (hn : refs.Nodup) (hlt : ∀ n ∈ refs, n < m.length) (st : Step H F1 (adsOf m refs) H' F' mc') (simc : Sim R H' F' mc' T) (hT : flatT refs.length T = true) :
    ∃ F'', Sim R H' F'' m (putBack S refs T) ∧ Step H F m H' F'' m ∧ (∀ a xs, Rd F' a (.tup xs) → Rd F'' a (.tup xs)) ∧ (∀ a, F' a = none → F'' a = none) := by
  obtain ⟨h4, h5⟩ := adsOf_get (m := m) hlt
  obtain ⟨t, hpre⟩ := st.pre
  have hTl : refs.length ≤ T.length := by
    rw [← simc.len, hpre, List.length_append, h4]; omega
  have hmc : ∀ (j n : Nat), refs[j]? = some n → mc'[j]? = m[n]? := fun j n e => by
    have hj : j < refs.length := (List.getElem?_eq_some_iff.mp e).1
    rw [hpre, List.getElem?_append_left (by rw [h4]; exact hj)]
    exact h5 j n e
  have nmc : ∀ {n a}, m[n]? = some a → n ∉ refs → a ∉ adsOf m refs := fun {n a} e hr ha => by
    obtain ⟨k, hk, e2⟩ := adsOf_mem ha
    have : k = n := (List.getElem?_inj (hlt k hk) sim.nd).mp (e2.trans e.symm)
    exact hr (this ▸ hk)
  -- the thawed places
  have asF : ∀ a, As m S snaps a → F a = none ∧ a ∉ adsOf m refs ∧ ∃ o, H a = some o ∧ H' a = some o ∧ ((∃ xs, o = .lst xs) ∨ ∃ xs, o = .dK xs) := by
    rintro a ⟨n, hns, e, z⟩
    have hr : n ∉ refs := fun q => hd n q hns
    have na := nmc e hr
    rcases z with ⟨x, hx⟩ | ⟨x, hx⟩
    · obtain ⟨h0, xs, h1, _⟩ := sim.cell n _ a hx e
      exact ⟨h0, na, _, h1, st.keep a _ h1 na, .inl ⟨xs, rfl⟩⟩
    · obtain ⟨h0, xs, h1, _⟩ := sim.cell n _ a hx e
      exact ⟨h0, na, _, h1, st.keep a _ h1 na, .inr ⟨xs, rfl⟩⟩
  have tup : ∀ a xs, Rd F' a (.tup xs) → Rd (fun b => if As m S snaps b then none else F' b) a (.tup xs) := by
    intro a xs hq
    have na : ¬ As m S snaps a := fun z => by
      obtain ⟨_, _, o, _, h2, h3⟩ := asF a z
      rcases hq with hq | ⟨ob, hq⟩
      · have := simc.sub _ _ hq
        rw [h2] at this
        rcases h3 with ⟨_, rfl⟩ | ⟨_, rfl⟩ <;> cases this
      · have := simc.sub _ _ hq
        rw [h2] at this
        rcases h3 with ⟨_, rfl⟩ | ⟨_, rfl⟩ <;> cases this
    unfold Rd
    simp only [na, if_false]
    exact hq
  have sFF : Sub F (fun b => if As m S snaps b then none else F' b) := fun a u e => by
    have na : ¬ As m S snaps a := fun z => by rw [(asF a z).1] at e; cases e
    simp only [na, if_false]
    exact st.sub a u (sF a u e)
  refine ⟨fun b => if As m S snaps b then none else F' b, ⟨fun a u e => ?_, sim.nd, by rw [putBack_len]; exact sim.len, fun a ha => ?_, fun n c a e1 e2 => ?_⟩, ⟨sFF, fun a o e h => st.keep a o e fun z => ?_, fun a e => ?_, ⟨[], by simp⟩, fun a h => .inl h⟩, tup, fun a e => ?_⟩
  · by_cases z : As m S snaps a
    · simp [z] at e
    · simp only [z, if_false] at e; exact simc.sub a u e
  · obtain ⟨n, hnl, e⟩ := List.getElem_of_mem ha
    have e : m[n]? = some a := by rw [List.getElem?_eq_getElem hnl, e]
    by_cases hr : n ∈ refs
    · have h1 := hmc _ n (mem_idx hr)
      rw [e] at h1
      exact simc.trk a (List.mem_of_getElem? h1)
    · obtain ⟨o, ho⟩ := sim.trk a ha
      exact ⟨o, st.keep a o ho (nmc e hr)⟩
  · rw [putBack_get refs S T hn hTl n] at e1
    by_cases hr : n ∈ refs
    · simp only [hr, if_true] at e1
      split at e1
      · have h1 := hmc _ n (mem_idx hr)
        rw [e2] at h1
        have hc := simc.cell _ c a e1 h1
        have hfl : Cell.flat c = true := by
          refine List.all_eq_true.mp hT c ?_
          have hj : refs.idxOf n < refs.length := List.idxOf_lt_length_of_mem hr
          refine List.mem_of_getElem? (i := refs.idxOf n) ?_
          rw [List.getElem?_take_of_lt hj]
          exact e1
        cases c with
        | lst l =>
          obtain ⟨h0, xs, h1, h2⟩ := hc
          refine ⟨?_, xs, h1, flats_thaw tup hfl h2⟩
          by_cases q : As m S snaps a
          · simp [q]
          · simp [q, h0]
        | dct l => cases hfl
        | fz y => cases hfl
      · cases e1
    · simp only [hr, if_false] at e1
      have hc := sim.cell n c a e1 e2
      obtain ⟨o, ho⟩ := sim.trk a (List.mem_of_getElem? e2)
      have na := nmc e2 hr
      refine hc.mono sFF (fun z => ?_) fun u hu => st.keep a u hu na
      by_cases q : As m S snaps a
      · simp [q]
      · simp only [q, if_false]
        have z1 : F1 a = none := by
          by_cases w : F1 a = F a
          · rw [w]; exact z
          · exact absurd (hF1 a w) q
        cases q2 : F' a with
        | none => rfl
        | some u =>
          rcases st.new a (by rw [q2]; exact fun z => nomatch z) with w | w | w
          · exact absurd z1 w
          · rw [ho] at w; cases w
          · exact absurd w na
  · obtain ⟨n, _, e3⟩ := adsOf_mem z
    exact h (List.mem_of_getElem? e3)
  · by_cases z : As m S snaps a
    · simp [z] at e
    · simp only [z, if_false] at e
      rcases st.new a e with w | w | w
      · by_cases q : F1 a = F a
        · rw [q] at w; exact .inl w
        · exact absurd (hF1 a q) z
      · exact .inr (.inl w)
      · obtain ⟨n, _, e3⟩ := adsOf_mem w
        exact .inr (.inr (List.mem_of_getElem? e3))
  · by_cases q : As m S snaps a
    · simp [q]
    · simp [q, e]
end
end Ev

end

section
set_option Elab.async false
set_option linter.all false
set_option maxRecDepth 100000
set_option maxHeartbeats 1000000
/-! Ev, part 17: a def keeps its promise. -/
namespace Ev
open PySem PySem.Spec PyProof.Rows
open L2 (V Hp HO PE PT PS PSs PA PG PGs PI TE TT TA TS TG TGs TI It VK SqL SqT Rd Key upd upd_same upd_ne OpR CallR IxR SlR MtR MtM R2 tOp RelV Vals WX Takes Room FnOk Sp XK Ends rI rI0 CMul CDiv CPow KV Itl Itt Itr Its Vis Loc Gl)
section
variable {R : RC} {H F : Hp} {m : List Addr} {S : Store} {F1 H' F' : Hp} {mc' : List Addr} {T : Store} {refs snaps : List Nat}
theorem cellsAt_congr {S S' : Store} : ∀ {l : List Nat}, (∀ n ∈ l, S[n]? = S'[n]?) → cellsAt S l = cellsAt S' l
  | [], _ => rfl
  | n :: l, h => by
    unfold cellsAt
    rw [h n (List.mem_cons_self ..), cellsAt_congr (l := l) fun k hk => h k (List.mem_cons_of_mem _ hk)]
theorem putBack_congr : ∀ (l : List Nat) (S T T' : Store), (∀ i, i < l.length → T[i]? = T'[i]?) → T.length = T'.length → putBack S l T = putBack S l T'
  | [], S, T, T', _, _ => by cases T <;> cases T' <;> rfl
  | n :: l, S, [], [], _, _ => rfl
  | n :: l, S, [], _ :: _, _, e => by cases e
  | n :: l, S, _ :: _, [], _, e => by cases e
  | n :: l, S, c :: T, c' :: T', h, e => by
    have e0 : c = c' := by simpa using h 0 (by simp)
    subst e0
    exact putBack_congr l (S.set n c) T T' (fun i hi => by simpa using h (i + 1) (by simpa using hi)) (by simpa using e)
theorem flatT_congr {k : Nat} {T T' : Store} (h : ∀ i, i < k → T[i]? = T'[i]?) : flatT k T = flatT k T' := by
  unfold flatT
  have : T.take k = T'.take k := List.ext_getElem? fun i => by
    by_cases hi : i < k
    · rw [List.getElem?_take_of_lt hi, List.getElem?_take_of_lt hi, h i hi]
    · rw [List.getElem?_eq_none (by simp; omega), List.getElem?_eq_none (by simp; omega)]
  rw [this]
theorem fz_of_rdv {j : Nat} {x : D} (h : rdv T (.ref j) = some x) : ∃ T', fzv T (.ref j) = some (x, T') ∧ T'.length = T.length ∧ ∀ i, i ≠ j → T'[i]? = T[i]? := by
  simp only [rdv] at h
  simp only [fzv]
  cases e : T[j]? with
  | none => rw [e] at h; cases h
  | some c =>
    rw [e] at h
    cases c with
    | lst l => cases h; exact ⟨_, rfl, by simp, fun i hi => by rw [List.getElem?_set_ne (Ne.symm hi)]⟩
    | dct l => cases h; exact ⟨_, rfl, by simp, fun i hi => by rw [List.getElem?_set_ne (Ne.symm hi)]⟩
    | fz y => cases h; exact ⟨_, rfl, rfl, fun i hi => rfl⟩
structure Bk (R : RC) (H F F1 : Hp) (m : List Addr) (S : Store) (refs snaps : List Nat) : Prop where
  sim : Sim R H F m S
  sim1 : Sim R H F1 m (frzS S snaps)
  st1 : Step H F m H F1 m
  hF1 : ∀ a, F1 a ≠ F a → As m S snaps a
  hd : ∀ n ∈ refs, n ∉ snaps
  hn : refs.Nodup
  hlt : ∀ n ∈ refs, n < m.length
theorem out_d {W : WX} {Q : VK} {x : D} {v' : V} (b : Bk R H F F1 m S refs snaps) (st : Step H F1 (adsOf m refs) H' F' mc') (simc : Sim R H' F' mc' T) (rx : Rep R F' x v')
    (h : Post R W (RepV R) [] H F m (if x.flat && flatT refs.length T then .ok (.d x) (putBack S refs T) else .ok (.d x) (putBack (frzS S snaps) refs T)) Q) : Q v' H' := by
  split at h
  · rename_i hf
    simp only [Bool.and_eq_true] at hf
    obtain ⟨F2, s1, s2, s3, s4⟩ := thaw b.sim b.hF1 b.st1.sub b.hd b.hn b.hlt st simc hf.2
    exact h v' H' F2 m s2 s1 (flat_thaw s3 hf.1 rx)
  · obtain ⟨s1, s2⟩ := back_sim b.sim1 b.hn b.hlt st simc
    exact h v' H' F' m (b.st1.trans s2) s1 rx
theorem out_ok {W : WX} {Q : VK} {own : Bool} {v : Val} {v' : V} (b : Bk R H F F1 m S refs snaps) (st : Step H F1 (adsOf m refs) H' F' mc') (simc : Sim R H' F' mc' T) (rv : RepV R F' mc' v v')
    (h : Post R W (RepV R) [] H F m (outC own refs snaps S T v) Q) : Q v' H' := by
  cases v with
  | d x => exact out_d b st simc rv h
  | ref j =>
    obtain ⟨a, ha, rfl⟩ := rv
    obtain ⟨h4, h5⟩ := adsOf_get (m := m) b.hlt
    obtain ⟨t, hpre⟩ := st.pre
    simp only [outC] at h
    cases hj : refs[j]? with
    | some n =>
      rw [hj] at h
      have hjl : j < refs.length := (List.getElem?_eq_some_iff.mp hj).1
      have hm : m[n]? = some a := by
        rw [hpre, List.getElem?_append_left (by rw [h4]; exact hjl), h5 j n hj] at ha
        exact ha
      simp only at h
      split at h
      · rename_i hf
        obtain ⟨F2, s1, s2, s3, s4⟩ := thaw b.sim b.hF1 b.st1.sub b.hd b.hn b.hlt st simc hf
        exact h (.ref a) H' F2 m s2 s1 ⟨a, hm, rfl⟩
      · obtain ⟨s1, s2⟩ := back_sim b.sim1 b.hn b.hlt st simc
        exact h (.ref a) H' F' m (b.st1.trans s2) s1 ⟨a, hm, rfl⟩
    | none =>
      rw [hj] at h
      have hjl : refs.length ≤ j := List.getElem?_eq_none_iff.mp hj
      simp only at h
      cases hT : T[j]? with
      | none => rw [hT] at h; exact h.elim
      | some c =>
        rw [hT] at h
        have hna : a ∉ adsOf m refs := fun z => by
          obtain ⟨i, hi, e⟩ := List.getElem_of_mem z
          have e1 : mc'[i]? = some a := by rw [hpre, List.getElem?_append_left hi, List.getElem?_eq_getElem hi, e]
          have hil : i < mc'.length := (List.getElem?_eq_some_iff.mp e1).1
          have : i = j := (List.getElem?_inj hil simc.nd).mp (e1.trans ha.symm)
          omega
        have hHa : H a = none := by
          rcases st.fresh a (List.mem_of_getElem? ha) with z | z
          · exact absurd z hna
          · exact z
        have hma : a ∉ m := fun z => by
          obtain ⟨o, e⟩ := b.sim.trk a z
          rw [hHa] at e; cases e
        have hcr := simc.cell j c a hT ha
        have hex := simc.trk a (List.mem_of_getElem? ha)
        have hget : (m ++ [a])[S.length]? = some a := by
          rw [← b.sim.len, List.getElem?_append_right (Nat.le_refl _), Nat.sub_self]; rfl
        cases own with
        | true =>
          simp only at h
          split at h
          · rename_i hf
            simp only [Bool.and_eq_true] at hf
            obtain ⟨F2, s1, s2, s3, s4⟩ := thaw b.sim b.hF1 b.st1.sub b.hd b.hn b.hlt st simc hf.2
            refine h (.ref a) H' F2 (m ++ [a]) (s2.adopt hHa) (s1.adopt hma hex ?_) ⟨a, hget, rfl⟩
            cases c with
            | lst l =>
              obtain ⟨h0, xs, h1, h2⟩ := hcr
              exact ⟨s4 a h0, xs, h1, flats_thaw s3 hf.1 h2⟩
            | dct l => cases hf.1
            | fz y => cases hf.1
          · obtain ⟨s1, s2⟩ := back_sim b.sim1 b.hn b.hlt st simc
            exact h (.ref a) H' F' (m ++ [a]) ((b.st1.trans s2).adopt hHa) (s1.adopt hma hex hcr) ⟨a, hget, rfl⟩
        | false =>
          simp only at h
          cases hr : rdv T (.ref j) with
          | none => rw [hr] at h; exact h.elim
          | some x =>
            rw [hr] at h
            obtain ⟨T', e1, e2, e3⟩ := fz_of_rdv hr
            obtain ⟨F2, sim2, st2, rx⟩ := fzv_ok simc (show RepV R F' mc' (.ref j) (.ref a) from ⟨a, ha, rfl⟩) e1
            have ct : ∀ i, i < refs.length → T[i]? = T'[i]? := fun i hi => (e3 i (by omega)).symm
            simp only at h
            rw [putBack_congr refs S T T' ct e2.symm, putBack_congr refs (frzS S snaps) T T' ct e2.symm, flatT_congr ct] at h
            exact out_d b (st.trans st2) sim2 rx h
/-- the state in which a def's body starts -/
theorem body_ok {C : Cx} {Fn : Fn} {args : List Val} {vs : List V} {N : List Str} {Q : VK} {E : XK} (sim : Sim R H F m S) (ra : RepVs R F m args vs) (hl : args.length = Fn.np) (hN : N.length = Fn.ns) (hnp : Fn.np ≤ Fn.ns)
    (h : Post R (fun cls d _ H => E cls d H) (RepV R) [] H F m (bodyC C Fn args S) Q) :
    tSs R C (fun cls d _ H => E cls d H) [] Fn.body { nx := fun _ H' => Q .non H', rt := Q } (L2.start N vs) H := by
  unfold bodyC at h
  cases hp : prep S Fn.byref args [] [] with
  | none => rw [hp] at h; exact h.elim
  | some z =>
    obtain ⟨us, refs, snaps⟩ := z
    rw [hp] at h
    simp only at h
    split at h
    · rename_i hdj
      have hd : ∀ n ∈ refs, n ∉ snaps := fun n hn hs => by
        have := List.all_eq_true.mp hdj n hn
        simp [hs] at this
      cases hc : cellsAt S refs with
      | none => rw [hc] at h; exact h.elim
      | some T0 =>
        rw [hc] at h
        simp only at h
        obtain ⟨p1, _, _, p4, p5⟩ := prep_ok hp List.nodup_nil
        obtain ⟨F1, sim1, st1, hF1⟩ := frzS_ok snaps sim
        obtain ⟨c1, c2, c3⟩ := cellsAt_ok sim hc
        have b : Bk R H F F1 m S refs snaps := ⟨sim, sim1, st1, hF1, hd, p1, c1⟩
        have hc1 : cellsAt (frzS S snaps) refs = some T0 := by
          rw [← hc]
          refine cellsAt_congr fun n hn => ?_
          rw [frzS_get]
          simp [hd n hn]
        have simc := sub_sim sim1 p1 hc1
        have hlv : args.length = vs.length := ra.length
        obtain ⟨r1, r2⟩ := RepVs.get.mp ra
        have len : (us.map some ++ List.replicate (Fn.ns - Fn.np) none : Sig).length = (L2.start N vs).length := by
          unfold L2.start
          simp only [List.length_append, List.length_map, List.length_replicate]
          omega
        have rsc : RepS R F1 (adsOf m refs) (us.map some ++ List.replicate (Fn.ns - Fn.np) none) (L2.start N vs) := by
          refine ⟨len, fun i u e => ?_⟩
          have hi : i < us.length := by
            rcases Nat.lt_or_ge i us.length with q | q
            · exact q
            · rw [List.getElem?_append_right (by simpa using q)] at e
              have hm := List.mem_of_getElem? e
              have := List.eq_of_mem_replicate hm
              cases this
          rw [List.getElem?_append_left (by simpa using hi)] at e
          have hu : us[i]? = some u := by
            rw [List.getElem?_map] at e
            cases q : us[i]? with
            | none => rw [q] at e; cases e
            | some w => rw [q] at e; cases e; rfl
          have hia : i < args.length := by omega
          have hiv : i < vs.length := by omega
          have ea : args[i]? = some args[i] := List.getElem?_eq_getElem hia
          have ev' : vs[i]? = some vs[i] := List.getElem?_eq_getElem hiv
          refine ⟨vs[i], ?_, ?_⟩
          · unfold L2.start
            rw [List.getElem?_append_left (by simpa using hiv), List.getElem?_map, ev']
            rfl
          · have hv := r2 i _ _ ea ev'
            have hu2 := p5 i _ u ea hu
            generalize args[i] = av at hv hu2
            cases av with
            | d x =>
              have : u = .d x := hu2
              subst this
              exact Rep.mono st1.sub hv
            | ref n =>
              obtain ⟨a, hm, e3⟩ := hv
              rcases hu2 with ⟨j, rfl, hj⟩ | ⟨x, rfl, hx, hns⟩
              · refine ⟨a, ?_, e3⟩
                rw [(adsOf_get c1).2 j n hj]
                exact hm
              · rw [e3]
                simp only [rdv] at hx
                cases q : S[n]? with
                | none => rw [q] at hx; cases hx
                | some c =>
                  rw [q] at hx
                  have hf : (frzS S snaps)[n]? = some (frzC c) := by rw [frzS_get]; simp [hns, q]
                  have cr := sim1.cell n _ a hf hm
                  cases c with
                  | lst l => cases hx; exact cr
                  | dct l => cases hx; exact cr
                  | fz y => cases hx; exact cr
        refine ⟨_, T0, F1, adsOf m refs, simc, rsc, (fun γ hγ => nomatch hγ), ?_⟩
        generalize exs C Fn.body (us.map some ++ List.replicate (Fn.ns - Fn.np) none) T0 = r at h
        cases r with
        | no => exact h.elim
        | exc x T =>
          intro cls d τ' H' F' mc' st simc' re _
          obtain ⟨s1, s2⟩ := back_sim b.sim1 b.hn b.hlt st simc'
          exact h cls d H' F' m (st1.trans s2) s1 re
        | ok f T =>
          cases f with
          | rt v => exact fun v' H' F' mc' st simc' rv => out_ok b st simc' rv h
          | nx σ => exact fun τ' H' F' mc' st simc' _ _ => out_ok b st simc' (v := .d .non) rfl h
          | bk σ => exact h.elim
          | ct σ => exact h.elim
    · exact h.elim
end
/-- a def of the module is that of the small program -/
structure DefAt (K : PySem.W.Frag) (mg : Str → Option Value) (nm : Nm) (Fn : Fn) (x : Str) (fa : Addr) (fd : FuncData) (ps : List Str) : Prop where
  ex : ∃ qual params body scope N, L2.FunD K x qual params body scope [] [] fa fd ∧ L2.FnScope N ps scope ∧ N.length = Fn.ns ∧ mSs Fn.body { nm with N := N } scope (fun _ => true) body = true
  hp : ps.length = Fn.np
  le : Fn.np ≤ Fn.ns
  hm : mg x = some (.ref fa)
  hb : L2.Binds K fd ps []
/-- what is known of the module -/
structure PgAt (R : RC) (P : Pg) (nm : Nm) (K : PySem.W.Frag) (w : World) (mg : Str → Option Value) : Prop where
  hK : R.K = K
  sys : SysK K
  fns : ∀ f x np, nm.fns f = some (x, np) → ∃ Fn fa fd ps, P.fn f = some Fn ∧ Fn.np = np ∧ DefAt K mg nm Fn x fa fd ps
  glo : ∀ g x d, nm.glos g = some x → P.glo g = some d → ∃ v u, mg x = some u ∧ RelV v u ∧ ∀ F, Rep R F d v
  gdc : ∀ g x, nm.gdcs g = some x → ∃ l d es n, P.gdc g = some l ∧ mg x = some (.ref d) ∧ L2.KDict K w d es n ∧ ∀ z : List Nat, match gLook z l with
    | some dv => ∃ u v, PySem.W.nsIn K d ⟨z.toArray⟩ = some (some u) ∧ RelV v u ∧ ∀ F, Rep R F dv v
    | none => PySem.W.nsIn K d ⟨z.toArray⟩ = some none
  blt : ∀ x, nm.blts.contains x = true → mg x = none ∧ x ≠ nam ∧ (x == dbg) = false
  ecs : EcsAt R nm.ecs K mg
theorem fn_all {R : RC} {P : Pg} {nm : Nm} {K : PySem.W.Frag} {w : World} {mg : Str → Option Value} (pa : PgAt R P nm K w mg) {prog : Program} {base : Heap} : ∀ (n : Nat) (f : Nat) (x : Str) (np : Nat), nm.fns f = some (x, np) → ∀ Fn fa fd ps, P.fn f = some Fn → Fn.np = np → DefAt K mg nm Fn x fa fd ps →
    FnG prog w K mg base (L2.CX prog w) n fa fd ps (spC R (callP P n) f np)
  | 0, f, x, np, hf, Fn, fa, fd, ps, hF, hnp, da => ⟨fun vs H Q E sp => by rw [sp.1, da.hp, hnp], fun _ _ _ _ _ sp => by
      obtain ⟨_, a, S, F, m, _, _, z⟩ := sp
      exact z.elim⟩
  | n + 1, f, x, np, hf, Fn, fa, fd, ps, hF, hnp, da => by
    obtain ⟨qual, params, body, scope, N, fun_, fsc, hN, hmS⟩ := da.ex
    refine fnG_of fun_ fsc (fun vs H Q E sp => by rw [sp.1, da.hp, hnp]) fun cdv A outer s H vs Q E gd room sp => ?_
    obtain ⟨hl, args, S, F, m, sim, ra, q⟩ := sp
    have q : Post R (fun cls d _ H => E cls d H) (RepV R) [] H F m (match P.fn f with
      | none => .no
      | some F => if args.length = F.np then bodyC ⟨callP P n, P.glo, P.gdc, P.wf⟩ F args S else .no) Q := q
    rw [hF] at q
    simp only at q
    split at q
    · rename_i hal
      refine ⟨_, mSs_ok (R := R) (C := ⟨callP P n, P.glo, P.gdc, P.wf⟩) (nm := { nm with N := N }) (sc := scope) (fb := fun _ => true) (W := fun cls d _ H => E cls d H) (Γ := []) Fn.body ?_ ⟨rfl, rfl, rfl⟩ (L2.passes_of rfl) body hmS (fun i _ γ hγ => nomatch hγ), body_ok sim ra hal hN da.le q⟩
      refine ⟨rfl, rfl, rfl, fsc.nd, pa.hK, fun _ => rfl, L2.takes_of rfl rfl rfl rfl, by have := room.units; exact this, gd, pa.sys, pa.glo, pa.gdc, fun f' x' np' hf' => ?_, pa.blt, pa.ecs, fun _ => room.mono (Nat.zero_le _)⟩
      obtain ⟨Fn', fa', fd', ps', e1, e2, da'⟩ := pa.fns f' x' np' hf'
      obtain ⟨_, _, _, _, _, fun', _, _, _⟩ := da'.ex
      exact ⟨n, fa', fd', ps', fn_all pa n f' x' np' hf' Fn' fa' fd' ps' e1 e2 da', room, da'.hm, fun'.kp, da'.hb⟩
    · exact q.elim
end Ev

end

section
set_option Elab.async false
set_option linter.all false
set_option maxRecDepth 100000
set_option maxHeartbeats 1000000
/-! Ev, the head: what stands behind the top, read by a hook of our own. -/
namespace Ev
open PySem PySem.Spec PyProof.Rows
open L2 (V Hp HO SqL SqT Rd Key RelV Vals FnOk Sp XK FunD FnScope)

/-! ### constants of the module -/
mutual
def repB (K : PySem.W.Frag) : D → Value → Bool
  | .non, u => match u with | .none => true | _ => false
  | .bl b, u => match u with | .bool c => decide (b = c) | _ => false
  | .int i, u => match u with | .int j _ => decide (i = j) | _ => false
  | .str s, u => match u with | .str x _ => decide (x = ⟨s.toArray⟩) | _ => false
  | .tup l, u => match u with
    | .ref a => (match K.lookup a with
      | some ⟨.type c, _, .seq its _, _⟩ => decide (c = "tuple") && decide (its.size ≤ 1000) && repBs K l its.toList
      | _ => false)
    | _ => false
  | .lst _, _ => false
  | .dct _, _ => false
  | .ins _ _, _ => false
termination_by structural x => x
def repBs (K : PySem.W.Frag) : List D → List Value → Bool
  | [], us => match us with | [] => true | _ => false
  | x :: l, us => match us with
    | u :: r => repB K x u && repBs K l r
    | [] => false
termination_by structural x => x
end
mutual
theorem repB_ok {R : RC} {K : PySem.W.Frag} (hK : R.K = K) : ∀ {d : D} {u : Value}, repB K d u = true → ∃ v, RelV v u ∧ ∀ F, Rep R F d v
  | .non, u, h => by
    simp only [repB] at h
    split at h
    · exact ⟨.non, rfl, fun _ => rfl⟩
    · cases h
  | .bl b, u, h => by
    simp only [repB] at h
    split at h
    · cases of_decide_eq_true h; exact ⟨.bl _, rfl, fun _ => rfl⟩
    · cases h
  | .int i, u, h => by
    simp only [repB] at h
    split at h
    · cases of_decide_eq_true h; exact ⟨.int _, ⟨_, rfl⟩, fun _ => rfl⟩
    · cases h
  | .str s, u, h => by
    simp only [repB] at h
    split at h
    · cases of_decide_eq_true h; exact ⟨.str _, ⟨_, rfl⟩, fun _ => rfl⟩
    · cases h
  | .tup l, u, h => by
    simp only [repB] at h
    split at h
    · rename_i a
      split at h
      · rename_i c od its n sl hl
        simp only [Bool.and_eq_true, decide_eq_true_eq] at h
        obtain ⟨⟨rfl, h2⟩, h3⟩ := h
        obtain ⟨vs, r1, r2⟩ := repBs_ok hK h3
        refine ⟨.ref a, rfl, fun F => ⟨a, vs, rfl, .inr ⟨_, its, n, by rw [hK]; exact hl, rfl, rfl, Nat.le_trans h2 (by rw [sizeLine_eq]; decide), r1⟩, r2 F⟩⟩
      · cases h
    · cases h
  | .lst _, u, h => by simp [repB] at h
  | .dct _, u, h => by simp [repB] at h
  | .ins _ _, u, h => by simp [repB] at h
termination_by structural d => d
theorem repBs_ok {R : RC} {K : PySem.W.Frag} (hK : R.K = K) : ∀ {l : List D} {us : List Value}, repBs K l us = true → ∃ vs, Vals vs us ∧ ∀ F, Reps R F l vs
  | [], us, h => by
    cases us with
    | nil => exact ⟨[], .nil, fun _ => rfl⟩
    | cons => simp [repBs] at h
  | x :: l, us, h => by
    cases us with
    | nil => simp [repBs] at h
    | cons u us =>
      simp only [repBs, Bool.and_eq_true] at h
      obtain ⟨v, r1, r2⟩ := repB_ok hK h.1
      obtain ⟨vs, s1, s2⟩ := repBs_ok hK h.2
      exact ⟨v :: vs, .cons r1 s1, fun F => ⟨v, vs, rfl, r2 F, s2 F⟩⟩
termination_by structural l => l
end
/-! ### dicts of the module -/
def entB (K : PySem.W.Frag) : List (List Nat × D) → List DictEntry → Bool
  | [], es => match es with | [] => true | _ => false
  | (k, d) :: l, es => match es with
    | e :: r => (match e.key with
      | .str x _ => decide (x = ⟨k.toArray⟩) && repB K d e.val && entB K l r
      | _ => false)
    | [] => false
def dctB (K : PySem.W.Frag) (a : Addr) (l : List (List Nat × D)) : Bool := match K.lookup a with
  | some ⟨_, _, .dict es _, _⟩ => entB K l es.toList
  | _ => false
theorem entB_ok {R : RC} {K : PySem.W.Frag} (hK : R.K = K) (z : List Nat) : ∀ {l : List (List Nat × D)} {es : List DictEntry}, entB K l es = true → (∀ e ∈ es, e.refKey = false) ∧ match gLook z l with
    | some dv => ∃ e v, es.find? (·.key.isStr ⟨z.toArray⟩) = some e ∧ RelV v e.val ∧ ∀ F, Rep R F dv v
    | none => es.find? (·.key.isStr ⟨z.toArray⟩) = none
  | [], es, h => by
    cases es with
    | nil => exact ⟨(fun e he => nomatch he), rfl⟩
    | cons => simp [entB] at h
  | (k, d) :: l, es, h => by
    cases es with
    | nil => simp [entB] at h
    | cons e es =>
      simp only [entB] at h
      split at h
      · rename_i x t hx
        simp only [Bool.and_eq_true, decide_eq_true_eq] at h
        obtain ⟨⟨rfl, h2⟩, h3⟩ := h
        obtain ⟨i1, i2⟩ := entB_ok hK z h3
        have hkey : e.key.isStr ⟨z.toArray⟩ = decide (k = z) := by
          rw [hx]
          show ((⟨k.toArray⟩ : Str) == ⟨z.toArray⟩) = decide (k = z)
          rw [Bool.eq_iff_iff]
          simp
        refine ⟨fun e' he => ?_, ?_⟩
        · rcases List.mem_cons.mp he with rfl | he
          · unfold DictEntry.refKey; rw [hx]
          · exact i1 e' he
        · simp only [gLook]
          rw [List.find?_cons, hkey]
          by_cases e0 : k = z
          · simp only [e0, decide_true, if_true]
            obtain ⟨v, r1, r2⟩ := repB_ok hK h2
            exact ⟨e, v, rfl, r1, r2⟩
          · simp only [e0, decide_false, if_false]
            exact i2
      · cases h
theorem dctB_ok {R : RC} {K : PySem.W.Frag} {w : World} {a : Addr} {l : List (List Nat × D)} {es : Array DictEntry} {n : Nat} (hK : R.K = K) (h : dctB K a l = true) (kd : L2.KDict K w a es n) (z : List Nat) : match gLook z l with
    | some dv => ∃ u v, PySem.W.nsIn K a ⟨z.toArray⟩ = some (some u) ∧ RelV v u ∧ ∀ F, Rep R F dv v
    | none => PySem.W.nsIn K a ⟨z.toArray⟩ = some none := by
  unfold dctB at h
  rw [kd.at_] at h
  obtain ⟨h1, h2⟩ := entB_ok hK z h
  unfold PySem.W.nsIn
  rw [kd.at_]
  cases e : gLook z l with
  | some dv =>
    rw [e] at h2
    obtain ⟨en, v, h3, h4, h5⟩ := h2
    simp only [h3]
    exact ⟨en.val, v, rfl, h4, h5⟩
  | none =>
    rw [e] at h2
    simp only [h2]
    rw [if_neg]
    intro hh
    obtain ⟨en, he, hr⟩ := List.any_eq_true.mp hh
    rw [h1 en he] at hr
    cases hr

/-! ### a module as data -/
structure DX where
  x : Str
  ps : List Str
  N : List Str
  st : Stmt
  fn : Fn
def DX.dd (d : DX) : He.DefD := ⟨(d.x, none), d.x, d.x, L2.defArgs d.st, L2.defBody d.st, L2.defScope d.st, [], []⟩
/-- an error's class: its name, what it is below (itself too), its field, the def of its __init__ (where it has a field) and that def's qualified name -/
structure EX where
  x : Str
  up : List Nat
  fld : Option Nat
  ini : Stmt
  qual : Str
structure MX where
  defs : List DX
  gl : List (Str × D)
  dc : List (Str × List (List Nat × D))
  fr : List Str
  wf : Nat
  es : List EX := []
def EX.dd (e : EX) : He.DefD := ⟨(e.x, some "__init__"), "__init__", e.qual, L2.defArgs e.ini, L2.defBody e.ini, L2.defScope e.ini, [], []⟩
def MX.inits (M : MX) : List He.DefD := M.es.filterMap fun e => e.fld.map fun _ => e.dd
def MX.nm (M : MX) : Nm := { N := [], fns := fun f => (M.defs[f]?).map fun d => (d.x, d.fn.np), glos := fun g => (M.gl[g]?).map (·.1), gdcs := fun g => (M.dc[g]?).map (·.1), blts := M.fr, ecs := M.es.map fun e => ⟨e.x, e.up, e.fld⟩ }
def MX.pg (M : MX) : Pg := ⟨fun f => (M.defs[f]?).map (·.fn), fun g => (M.gl[g]?).map (·.2), fun g => (M.dc[g]?).map (·.2), M.wf⟩
def nodupB : List Str → Bool
  | [] => true
  | x :: l => !(l.contains x) && nodupB l
theorem nodupB_ok : ∀ {l : List Str}, nodupB l = true → l.Nodup
  | [], _ => List.nodup_nil
  | x :: l, h => by
    simp only [nodupB, Bool.and_eq_true, Bool.not_eq_true'] at h
    refine List.nodup_cons.mpr ⟨fun z => ?_, nodupB_ok h.2⟩
    have : l.contains x = true := by simpa using z
    rw [h.1] at this; cases this
def DX.ok (nm : Nm) (d : DX) : Bool :=
  decide ((L2.defScope d.st).kind = .function) && !(L2.defScope d.st).isCoroutine && !(L2.defScope d.st).isGenerator && nodupB d.N && decide (d.N.take d.ps.length = d.ps) && d.ps.all (locB (L2.defScope d.st)) && (L2.defScope d.st).names.all (fun y => !(decide (y.2 = .free))) &&
  decide (d.ps.length = d.fn.np) && decide (d.N.length = d.fn.ns) && decide (d.fn.np ≤ d.fn.ns) && mSs d.fn.body { nm with N := d.N } (L2.defScope d.st) (fun _ => true) (L2.defBody d.st)
def MX.ok (M : MX) : Bool := M.defs.all (DX.ok M.nm) && M.fr.all fun x => decide (x ≠ nam) && !(x == dbg)
def sysB (K : PySem.W.Frag) : Bool := match K.lookup sysModules with
  | some ⟨_, _, .dict _ _, _⟩ => true
  | _ => false
theorem sysB_ok {K : PySem.W.Frag} (h : sysB K = true) : SysK K := by
  unfold sysB at h
  split at h
  · rename_i e
    exact ⟨_, _, _, e, rfl⟩
  · cases h
/-! ### errors' classes -/
def clsFB (K : PySem.W.Frag) (C : Addr) : Bool := (PySem.W.clsIn K C).isSome && He.eqO (PySem.W.findIn K (.ref C) "__getattribute__") (some (some (.builtin "BaseException.__getattribute__"))) && He.eqO (PySem.W.findIn K (.ref C) "__getattr__") (some none) &&
  decide (PySem.W.subIn K (.ref C) (.type "BaseException") = some true) && PySem.W.hasDictIn K C && He.eqO (PySem.W.findIn K (.ref C) "__class__") (some (some (.builtin "object.__class__"))) &&
  He.eqO (PySem.W.specialIn K (.builtin "object.__class__") "__get__") (some (some (.builtin "getset_descriptor.__get__"))) && decide (PySem.W.takesIn K (.builtin "object.__class__") = some true) && decide (PySem.W.mroIn K C (.type "object") = some true) &&
  decide (PySem.W.typeIn K (.ref C) = some (.type "type")) && PySem.W.keepIn K (.ref C)
theorem clsFB_ok {K : PySem.W.Frag} {C : Addr} (h : clsFB K C = true) : ClsF K C := by
  simp only [clsFB, Bool.and_eq_true, decide_eq_true_eq] at h
  obtain ⟨⟨⟨⟨⟨⟨⟨⟨⟨⟨h1, h2⟩, h3⟩, h4⟩, h5⟩, h6⟩, h7⟩, h8⟩, h9⟩, h10⟩, h11⟩ := h
  exact ⟨h1, He.eqO_ok h2, He.eqO_ok h3, h4, h5, He.eqO_ok h6, He.eqO_ok h7, h8, h9, h10, h11⟩
def lowCB (K : PySem.W.Frag) (C : Addr) : Bool := (match K.lookup C with
  | some ⟨.type t, _, .cls cd, sl⟩ => decide (t = "type") && (match cd.mro, sl.toList with
    | .ref C' :: bm, [_, _, _, _, some (.builtin n), _] => C' == C && n == "ValueError.__new__" && !cd.hasDel && cd.hasDict && PySem.HandSPX.refsVE bm
    | _, _ => false)
  | _ => false) && He.eqO (PySem.W.findIn K (.ref C) "__setattr__") (some (some (.builtin "object.__setattr__")))
theorem lowCB_ok {K : PySem.W.Frag} {C : Addr} (h : lowCB K C = true) (hc : ClsF K C) : LowC K C := by
  unfold lowCB at h
  simp only [Bool.and_eq_true] at h
  obtain ⟨h, hs⟩ := h
  split at h
  · rename_i t dd cd sl ho
    simp only [Bool.and_eq_true, decide_eq_true_eq] at h
    obtain ⟨rfl, h⟩ := h
    split at h
    · rename_i C' bm k0 k1 k2 k3 n k5 hm hsl
      simp only [Bool.and_eq_true, beq_iff_eq, Bool.not_eq_true'] at h
      obtain ⟨⟨⟨⟨rfl, rfl⟩, hdel⟩, hdc⟩, hbm⟩ := h
      obtain ⟨nm, bs, mro, ns, qn, hd, sn, sub, ab, col, del⟩ := cd
      dsimp only at hm hdel hdc
      subst hm hdel hdc
      have hsl' : sl = #[k0, k1, k2, k3, some (.builtin "ValueError.__new__"), k5] := by
        obtain ⟨l⟩ := sl
        simp only at hsl
        rw [hsl]
      subst hsl'
      exact ⟨⟨nm, qn, ns, bs, bm, sn, sub, ab, col, dd, k0, k1, k2, k3, k5, ho, hbm⟩, He.eqO_ok hs, hc.kp, hc.hsub, hc.ty⟩
    · cases h
  · cases h
def iniB (K : PySem.W.Frag) (C : Addr) (f : Nat) : Bool := decide (f ≤ 2) && lowCB K C && He.eqO (PySem.W.findIn K (.ref C) (fldN f)) (some none) && He.eqO (PySem.W.findIn K (.ref C) "__init__") (some (some (.ref (He.ma K C "__init__")))) &&
  decide (PySem.W.typeIn K (.ref (He.ma K C "__init__")) = some (.type "function"))
/-- __init__'s text -/
def iniOk (st : Stmt) : Nat → Prop
  | 0 => ∃ p1 p2 q1 q2 q3 q4, L2.defArgs st = Low_at.iA p1 p2 ∧ L2.defBody st = Low_at.iB q1 q2 q3 q4 ∧ L2.defScope st = Low_at.iS
  | 1 => ∃ p1 p2 q1 q2 q3 q4, L2.defArgs st = Low_most.iA p1 p2 ∧ L2.defBody st = Low_most.iB q1 q2 q3 q4 ∧ L2.defScope st = Low_most.iS
  | 2 => ∃ p1 p2 q1 q2 q3 q4, L2.defArgs st = Low_outcome.iA p1 p2 ∧ L2.defBody st = Low_outcome.iB q1 q2 q3 q4 ∧ L2.defScope st = Low_outcome.iS
  | _ => False
def iniL : List EX → Prop
  | [] => True
  | e :: l => (match e.fld with | none => True | some f => iniOk e.ini f) ∧ iniL l
theorem iniL_get : ∀ {l : List EX} {c : Nat} {e : EX} {f : Nat}, iniL l → l[c]? = some e → e.fld = some f → iniOk e.ini f
  | [], c, e, f, _, h, _ => by cases h
  | a :: l, 0, e, f, h, h1, h2 => by
    cases h1
    have := h.1
    rw [h2] at this
    exact this
  | a :: l, c + 1, e, f, h, h1, h2 => iniL_get h.2 (by simpa using h1) h2
theorem xtxt_ok {K : PySem.W.Frag} {C : Addr} {f : Nat} {e : EX} {fd : FuncData} (hc : ClsF K C) (h : iniB K C f = true) (hi : iniOk e.ini f) (F : FunD K "__init__" e.qual (L2.defArgs e.ini) (L2.defBody e.ini) (L2.defScope e.ini) [] [] (He.ma K C "__init__") fd) : XTxt K C (He.ma K C "__init__") f := by
  simp only [iniB, Bool.and_eq_true, decide_eq_true_eq] at h
  obtain ⟨⟨⟨⟨h1, h2⟩, h3⟩, h4⟩, h5⟩ := h
  have low := lowCB_ok h2 hc
  obtain ⟨oc, od, dV, kV, doc, pm, an, cdv, ct, osl, rfl, lk, hcd, hdv, _⟩ := F.ex
  have hdv : dV = .none := by
    rcases hdv with ⟨_, z⟩ | ⟨z, _⟩
    · exact z
    · exact absurd rfl z
  subst hdv
  match f, h1, hi, h3 with
  | 0, _, ⟨p1, p2, q1, q2, q3, q4, e1, e2, e3⟩, h3 =>
    rw [e1, e2, e3] at lk
    exact .at_ ⟨low, He.eqO_ok h3, He.eqO_ok h4, h5, oc, od, e.qual, kV, doc, pm, an, cdv, ct, osl, p1, p2, q1, q2, q3, q4, lk, hcd⟩
  | 1, _, ⟨p1, p2, q1, q2, q3, q4, e1, e2, e3⟩, h3 =>
    rw [e1, e2, e3] at lk
    exact .most ⟨low, He.eqO_ok h3, He.eqO_ok h4, h5, oc, od, e.qual, kV, doc, pm, an, cdv, ct, osl, p1, p2, q1, q2, q3, q4, lk, hcd⟩
  | 2, _, ⟨p1, p2, q1, q2, q3, q4, e1, e2, e3⟩, h3 =>
    rw [e1, e2, e3] at lk
    exact .outcome ⟨low, He.eqO_ok h3, He.eqO_ok h4, h5, oc, od, e.qual, kV, doc, pm, an, cdv, ct, osl, p1, p2, q1, q2, q3, q4, lk, hcd⟩
def exB (M : MX) (K : PySem.W.Frag) (e : EX) : Bool := (He.Fa.glo e.x).ok K && clsFB K (He.ga K e.x) && decide (PySem.W.kitOne K (.ref (He.ga K e.x)) (.type "ValueError") = some true) &&
  ((List.range M.es.length).all fun c => match M.es[c]? with
    | some e' => decide (PySem.W.exmOne K (.ref (He.ga K e.x)) (.ref (He.ga K e'.x)) = some (e.up.contains c)) && decide (PySem.W.kitOne K (.ref (He.ga K e.x)) (.ref (He.ga K e'.x)) = some (e.up.contains c))
    | none => true) && ((List.range nFld).all fun f => He.eqO (PySem.W.findIn K (.ref (He.ga K e.x)) (fldN f)) (some none)) &&
  (match e.fld with
    | some f => iniB K (He.ga K e.x) f
    | none => PySem.W.excIn K (He.ga K e.x) He.veBase "ValueError.__new__")
def ckM (M : MX) (K : PySem.W.Frag) : Bool := M.es.all (exB M K) && sysB K && M.fr.all (fun x => (He.Fa.free x).ok K) && M.gl.all (fun p => match PySem.W.nsIn K mainGlobals p.1 with
  | some (some u) => repB K p.2 u
  | _ => false) && M.defs.all (fun d => (He.Fa.glo d.x).ok K) && M.dc.all fun p => (He.Fa.glo p.1).ok K && dctB K (He.ga K p.1) p.2
def isL : Value → Bool
  | .type c => decide (c = "list")
  | _ => false
def asN (g : Addr → Option Obj) (n : Nat) : List Addr := (sysModules :: He.asD g n).filter fun a => match g a with
  | some o => !isL o.cls
  | none => true
def NoL (K : PySem.W.Frag) : Prop := ∀ a o, K.lookup a = some o → isL o.cls = false
theorem frG_mem {g : Addr → Option Obj} {a : Addr} {o : Obj} : ∀ as : List Addr, (He.frG g as).lookup a = some o → a ∈ as
  | [], e => nomatch (show (none : Option Obj) = some o from e)
  | b :: r, e => by
    unfold He.frG at e
    cases hb : g b with
    | none =>
      have e2 : (He.frG g r).lookup a = some o := by
        unfold He.frG
        rw [List.filterMap_cons, hb] at e
        exact e
      exact List.mem_cons_of_mem _ (frG_mem r e2)
    | some ob =>
      rw [List.filterMap_cons, hb] at e
      have e2 : (match a == b with | true => some ob | false => (He.frG g r).lookup a) = some o := e
      cases q : (a == b) with
      | true => rw [beq_iff_eq.mp q]; exact List.mem_cons_self ..
      | false =>
        rw [q] at e2
        exact List.mem_cons_of_mem _ (frG_mem r e2)
theorem noL_fr {g : Addr → Option Obj} {n : Nat} : NoL (He.frG g (asN g n)) := fun a o e => by
  have h1 := frG_mem _ e
  have h2 := He.frG_at _ e
  have h3 := (List.mem_filter.mp h1).2
  rw [h2] at h3
  simpa using h3
abbrev AlM := Bool × He.AlD × List (Option (List (Option (Str × Int))))
def obsM (M : MX) (K : PySem.W.Frag) : AlM := (ckM M K, He.obsD [] (M.defs.map DX.dd ++ M.inits) K, M.dc.map fun p => He.dicW K (He.ga K p.1))
def valM (M : MX) (w : World) : AlM := (true, He.valD (M.defs.map DX.dd ++ M.inits), M.dc.map fun p => some (He.keysIn w.params (p.2.map fun q => ⟨q.1.toArray⟩)))
def obsMG (n : Nat) (M : MX) (g : Addr → Option Obj) : AlM := obsM M (He.frG g (asN g n))
def hookM (n : Nat) (M : MX) : PySem.W.Hook where
  α := AlM
  obs := fun s => obsMG n M s.heap.get?
  val := fun w => valM M w
  says := fun w h => ∃ K : PySem.W.Frag, K.In h ∧ NoL K ∧ obsM M K = valM M w
  of := fun _ _ e => ⟨_, He.frG_in, noL_fr, e⟩
  keeps := fun _ _ _ ⟨K, hK, hn, c⟩ k => ⟨K, PySem.W.Frag.In.keeps hK k, hn, c⟩
def obM (n : Nat) (M : MX) (s : PySem.W.SharedT) : (hookM n M).α := obsMG n M (HandSHeadRun.getT s)
theorem obM_eq (n : Nat) (M : MX) (s : PySem.W.SharedT) : obM n M s = (hookM n M).obs s.abs := by
  have e : HandSHeadRun.getT s = s.abs.heap.get? := funext (HandSHeadRun.getT_eq s)
  unfold obM
  rw [e]
  rfl
def rcOf (M : MX) (K : PySem.W.Frag) : RC := ⟨K, fun c => (M.es[c]?).map fun e => He.ga K e.x, fldN, fun _ => true⟩
/-- how each def binds its parameters -/
def BindsAll (M : MX) : Prop := ∀ (f : Nat) (d : DX), M.defs[f]? = some d → ∀ (kV doc pm : Value) (an : Option Addr) (cdv ct : Value) (us : List Value), us.length = d.ps.length →
  bindArgs (PySem.W.fnOf d.x d.x (L2.defArgs d.st) (L2.defBody d.st) (L2.defScope d.st) .none kV doc pm an cdv ct) ⟨us, []⟩ = pure (d.ps.zip us)
theorem def_of {M : MX} {K : PySem.W.Frag} {w : World} {h : Heap} {mg : Str → Option Value} (X : K.In h) (G : h.Ns mainGlobals mg) (c : obsM M K = valM M w) (ok : M.ok = true) (hb : BindsAll M) {f : Nat} {d : DX} (hd : M.defs[f]? = some d) :
    ∃ fd, FunD K d.x d.x (L2.defArgs d.st) (L2.defBody d.st) (L2.defScope d.st) [] [] (He.ga K d.x) fd ∧ DefAt K mg M.nm d.fn d.x (He.ga K d.x) fd d.ps := by
  have c1 : ckM M K = true := congrArg (fun z : AlM => z.1) c
  have c2 : He.SaysD [] (M.defs.map DX.dd ++ M.inits) K := congrArg (fun z : AlM => z.2.1) c
  simp only [ckM, Bool.and_eq_true, List.all_eq_true] at c1
  obtain ⟨⟨⟨⟨⟨kE, k0⟩, k1⟩, k2⟩, k3⟩, k4⟩ := c1
  simp only [MX.ok, Bool.and_eq_true, List.all_eq_true] at ok
  have dm := List.mem_of_getElem? hd
  obtain ⟨fd, F⟩ := c2.def_ f (d := d.dd) (by
    have hlt : f < M.defs.length := (List.getElem?_eq_some_iff.mp hd).1
    rw [List.getElem?_append_left (by simpa using hlt), List.getElem?_map, hd]; rfl)
  have o := ok.1 d dm
  simp only [DX.ok, Bool.and_eq_true, decide_eq_true_eq, Bool.not_eq_true', List.all_eq_true, decide_eq_false_iff_not] at o
  obtain ⟨⟨⟨⟨⟨⟨⟨⟨⟨⟨o1, o2⟩, o3⟩, o4⟩, o5⟩, o6⟩, o7⟩, o8⟩, o9⟩, o10⟩, o11⟩ := o
  refine ⟨fd, F, ⟨⟨d.x, L2.defArgs d.st, L2.defBody d.st, L2.defScope d.st, d.N, F, ⟨o1, o2, o3, nodupB_ok o4, o5, fun x hx => ?_, o7⟩, o9, o11⟩, o8, o10, He.glo_ok X G (k3 d dm), L2.FunD.bindsN F (hb f d hd)⟩⟩
  have := o6 x hx
  unfold locB at this
  split at this <;> first | exact .inl (by assumption) | exact .inr (by assumption) | cases this
theorem ecs_of {M : MX} {K : PySem.W.Frag} {h : Heap} {mg : Str → Option Value} (X : K.In h) (G : h.Ns mainGlobals mg) (hi : iniL M.es) (ck : ∀ e ∈ M.es, exB M K e = true) (c2 : He.SaysD [] (M.defs.map DX.dd ++ M.inits) K) : EcsAt (rcOf M K) M.nm.ecs K mg := by
  have get : ∀ c C, (rcOf M K).cl c = some C → ∃ e : EX, M.es[c]? = some e ∧ C = He.ga K e.x := fun c C h => by
    cases q : M.es[c]? with
    | none => simp [rcOf, q] at h
    | some e => simp [rcOf, q] at h; exact ⟨e, rfl, h.symm⟩
  have facts : ∀ (c : Nat) (e : EX), M.es[c]? = some e → (He.Fa.glo e.x).ok K = true ∧ clsFB K (He.ga K e.x) = true ∧ PySem.W.kitOne K (.ref (He.ga K e.x)) (.type "ValueError") = some true ∧
      (∀ (c' : Nat) (e' : EX), M.es[c']? = some e' → PySem.W.exmOne K (.ref (He.ga K e.x)) (.ref (He.ga K e'.x)) = some (e.up.contains c') ∧ PySem.W.kitOne K (.ref (He.ga K e.x)) (.ref (He.ga K e'.x)) = some (e.up.contains c')) ∧
      (∀ f, f < nFld → PySem.W.findIn K (.ref (He.ga K e.x)) (fldN f) = some none) ∧ (match e.fld with
        | some f => iniB K (He.ga K e.x) f
        | none => PySem.W.excIn K (He.ga K e.x) He.veBase "ValueError.__new__") = true := fun c e he => by
    have := ck e (List.mem_of_getElem? he)
    simp only [exB, Bool.and_eq_true, decide_eq_true_eq, List.all_eq_true] at this
    obtain ⟨⟨⟨⟨⟨k1, k2⟩, k3⟩, k4⟩, k5⟩, k6⟩ := this
    refine ⟨k1, k2, k3, fun c' e' he' => ?_, fun f hf => He.eqO_ok (k5 f (List.mem_range.mpr hf)), k6⟩
    have hl : c' < M.es.length := (List.getElem?_eq_some_iff.mp he').1
    have := k4 c' (List.mem_range.mpr hl)
    rw [he'] at this
    simpa only [Bool.and_eq_true, decide_eq_true_eq] using this
  refine ⟨fun c C hC => ?_, fun c e he => ?_, fun _ _ _ => rfl, fun c C hC f hf => ?_, fun _ => rfl⟩
  · obtain ⟨e, he, rfl⟩ := get c C hC
    obtain ⟨k1, k2, k3, k4, k5, k6⟩ := facts c e he
    refine ⟨⟨e.x, e.up, e.fld⟩, by simp [MX.nm, he], He.glo_ok X G k1, clsFB_ok k2, k3, fun c' C' hC' => ?_, ?_⟩
    · obtain ⟨e', he', rfl⟩ := get c' C' hC'
      exact k4 c' e' he'
    · show match e.fld with
        | some f => ∃ fI, XTxt K (He.ga K e.x) fI f
        | none => PySem.W.excIn K (He.ga K e.x) He.veBase "ValueError.__new__" = true
      cases hfl : e.fld with
      | none => rw [hfl] at k6; exact k6
      | some f =>
        rw [hfl] at k6
        have hm : e.dd ∈ M.defs.map DX.dd ++ M.inits := List.mem_append_right _ (List.mem_filterMap.mpr ⟨e, List.mem_of_getElem? he, by rw [hfl]; rfl⟩)
        obtain ⟨j, hj, ej⟩ := List.mem_iff_getElem.mp hm
        obtain ⟨fd, F⟩ := c2.def_ j (d := e.dd) (by rw [List.getElem?_eq_getElem hj, ej])
        exact ⟨_, xtxt_ok (e := e) (clsFB_ok k2) k6 (iniL_get hi he hfl) F⟩
  · simp only [MX.nm, List.getElem?_map] at he
    cases q : M.es[c]? with
    | none => rw [q] at he; cases he
    | some e' => exact ⟨He.ga K e'.x, by simp [rcOf, q]⟩
  · obtain ⟨e, he, rfl⟩ := get c C hC
    exact (facts c e he).2.2.2.2.1 f hf
theorem pg_of {M : MX} {K : PySem.W.Frag} {w : World} {h : Heap} {mg : Str → Option Value} (X : K.In h) (G : h.Ns mainGlobals mg) (c : obsM M K = valM M w) (ok : M.ok = true) (hb : BindsAll M) (hi : iniL M.es) : PgAt (rcOf M K) M.pg M.nm K w mg := by
  have c1 : ckM M K = true := congrArg (fun z : AlM => z.1) c
  have c2 : He.SaysD [] (M.defs.map DX.dd ++ M.inits) K := congrArg (fun z : AlM => z.2.1) c
  have c3 : (M.dc.map fun p => He.dicW K (He.ga K p.1)) = M.dc.map fun p => some (He.keysIn w.params (p.2.map fun q => ⟨q.1.toArray⟩)) := congrArg (fun z : AlM => z.2.2) c
  simp only [ckM, Bool.and_eq_true, List.all_eq_true] at c1
  obtain ⟨⟨⟨⟨⟨kE, k0⟩, k1⟩, k2⟩, k3⟩, k4⟩ := c1
  have okk := ok
  simp only [MX.ok, Bool.and_eq_true, List.all_eq_true] at ok
  refine ⟨rfl, sysB_ok k0, fun f x np e => ?_, fun g x d e1 e2 => ?_, fun g x e => ?_, fun x e => ?_, ?_⟩
  · simp only [MX.nm] at e
    cases hd : M.defs[f]? with
    | none => rw [hd] at e; cases e
    | some d =>
      rw [hd] at e
      cases e
      obtain ⟨fd, _, da⟩ := def_of X G c okk hb hd
      exact ⟨d.fn, He.ga K d.x, fd, d.ps, by simp only [MX.pg]; rw [hd]; rfl, rfl, da⟩
  · simp only [MX.nm] at e1
    simp only [MX.pg] at e2
    cases hd : M.gl[g]? with
    | none => rw [hd] at e1; cases e1
    | some p =>
      rw [hd] at e1 e2
      cases e1; cases e2
      have := k2 p (List.mem_of_getElem? hd)
      split at this
      · rename_i u hu
        obtain ⟨v, r1, r2⟩ := repB_ok (R := rcOf M K) rfl this
        exact ⟨v, u, PySem.W.mg_of X G hu, r1, r2⟩
      · cases this
  · simp only [MX.nm] at e
    cases hd : M.dc[g]? with
    | none => rw [hd] at e; cases e
    | some p =>
      rw [hd] at e
      cases e
      have hm := k4 p (List.mem_of_getElem? hd)
      have e3 : (M.dc.map fun p => He.dicW K (He.ga K p.1))[g]? = (M.dc.map fun p => some (He.keysIn w.params (p.2.map fun q => ⟨q.1.toArray⟩)))[g]? := by rw [c3]
      rw [List.getElem?_map, List.getElem?_map, hd] at e3
      obtain ⟨es, n, kd⟩ := He.dicW_ok (w := w) (Option.some.inj e3)
      exact ⟨p.2, He.ga K p.1, es, n, by simp only [MX.pg]; rw [hd]; rfl, He.glo_ok X G hm.1, kd, fun z => dctB_ok (R := rcOf M K) rfl hm.2 kd z⟩
  · have hx : x ∈ M.fr := by simpa [MX.nm] using e
    have := ok.2 x hx
    simp only [Bool.and_eq_true, decide_eq_true_eq, Bool.not_eq_true'] at this
    exact ⟨He.free_ok X G (k1 x hx), this.1, this.2⟩
  · exact ecs_of X G hi (fun e he => kE e he) c2
/-- what leaves the law's def -/
def CXe (P : Program) : L2.CXT := fun outer H s E e s' => ∃ w, L2.CX P w outer H s E e s'
theorem fnok_cx {P : Program} {w : World} {K : PySem.W.Frag} {mg : Str → Option Value} {base : Heap} {k : Nat} {f : Addr} {fd : FuncData} {ps : List Str} {sp : Sp} (F : FnG P w K mg base (L2.CX P w) k f fd ps sp) : FnG P w K mg base (CXe P) k f fd ps sp :=
  ⟨F.len, fun gd hr he hb hv hs => codeAny_mono (F.go gd hr he hb hv hs) fun r s' hq => by
    cases r with
    | error e => exact ⟨w, hq⟩
    | ok fl => cases fl <;> exact hq⟩
theorem cxe_no {P : Program} (H : Hp) (s : Shared) (e : Value) (s' : Shared) (h : CXe P [] H s (fun _ _ _ => False) e s') : False := by
  obtain ⟨w, a, B, H', cls, d, _, _, _, _, _, _, _, z⟩ := h
  exact z
/-- what the law is asked: True, for every script -/
def Says (M : MX) (f k n : Nat) : Prop := ∀ ns : List Int, ns.length ≤ n → ∃ S, callP M.pg k f [.d (.lst (ns.map .int))] [] = .ok (.d (.bl true)) S
theorem law_sp {M : MX} {f k n : Nat} {K : PySem.W.Frag} (hn : NoL K) (h : Says M f k n) (H : Hp) (a : Addr) (ns : List Int) (hl : ns.length ≤ n) (hS : SqL K H a (ns.map V.int)) : spC (rcOf M K) (callP M.pg k) f 1 [.ref a] H (fun v _ => v = .bl true) fun _ _ _ => False := by
  obtain ⟨S, e⟩ := h ns hl
  have hR : Rd H a (.lst (ns.map V.int)) := by
    rcases hS with hS | ⟨o, its, n, h1, h2, _⟩
    · exact hS
    · have := hn a o h1
      rw [h2] at this
      simp [isL] at this
  have sub : Sub H H := Sub.refl H
  have hr : ∀ ns : List Int, Reps (rcOf M K) H (ns.map .int) (ns.map V.int) := by
    intro ns
    induction ns with
    | nil => rfl
    | cons i l ih => exact ⟨.int i, l.map V.int, rfl, rfl, ih⟩
  refine ⟨rfl, [.d (.lst (ns.map .int))], [], H, [], ⟨sub, List.nodup_nil, rfl, fun a h => (nomatch h), fun n c a h => (by cases h)⟩, ⟨.ref a, [], rfl, ⟨a, ns.map V.int, rfl, hR, hr ns⟩, rfl⟩, ?_⟩
  rw [e]
  exact fun b H' F' m' _ _ r => r
/-- the law's def -/
theorem law_of {M : MX} {K : PySem.W.Frag} {w : World} {h : Heap} {mg : Str → Option Value} (X : K.In h) (G : h.Ns mainGlobals mg) (c : obsM M K = valM M w) (ok : M.ok = true) (hb : BindsAll M) (hi : iniL M.es) {f k : Nat} {d : DX} {y : Str} {fa : Addr} (hd : M.defs[f]? = some d) (hp : d.ps = [y]) (hf : mg d.x = some (.ref fa)) (P : Program) :
    ∃ fd, (∀ (s : Shared) (u : Value), BindsTo s fd ⟨[u], []⟩ [(y, u)]) ∧ ∀ base : Heap, FnG P w K mg base (CXe P) k fa fd [y] (spC (rcOf M K) (callP M.pg k) f 1) := by
  obtain ⟨fd, F, da⟩ := def_of X G c ok hb hd
  have e := da.hm.symm.trans hf
  cases e
  have hnp : d.fn.np = 1 := by rw [← da.hp, hp]; rfl
  refine ⟨fd, fun s u => ?_, fun base => ?_⟩
  · have := L2.FunD.bindsA F (hb f d hd) s [u] (by rw [hp]; rfl)
    rw [hp] at this
    exact this
  · have := fn_all (pg_of X G c ok hb hi) (prog := P) (base := base) k f d.x 1 (by simp only [MX.nm]; rw [hd]; simp [hnp]) d.fn _ fd d.ps (by simp only [MX.pg]; rw [hd]; rfl) hnp da
    rw [hp] at this
    exact fnok_cx this
end Ev

end

section
set_option Elab.async false
set_option linter.all false
set_option maxRecDepth 100000
/-! Ev, plain: the evaluator's rows as rules for simp. -/
namespace Ev
section
variable (C : Cx) (σ : Sig) (S : Store)
@[simp] theorem ev_lit (x : D) : ev C (.lit x) σ S = .ok (.d x) S := by rw [ev] <;> rfl
@[simp] theorem ev_var (i : Nat) : ev C (.var i) σ S = (match σ[i]? with | some (some v) => .ok v S | _ => .no) := by rw [ev] <;> rfl
@[simp] theorem ev_glo (g : Nat) : ev C (.glo g) σ S = (match C.glo g with | some x => .ok (.d x) S | none => .no) := by rw [ev] <;> rfl
@[simp] theorem ev_bin (o : Bop) (a b : Exp) : ev C (.bin o a b) σ S = (ev C a σ S).bind fun x S1 => (ev C b σ S1).bind fun y S2 => on2 S2 x y (binD o) := by rw [ev] <;> rfl
@[simp] theorem ev_neg (a : Exp) : ev C (.neg a) σ S = (ev C a σ S).bind fun x S1 => on1 S1 x negD := by rw [ev] <;> rfl
@[simp] theorem ev_cmp (o : Cop) (a b : Exp) : ev C (.cmp o a b) σ S = (ev C a σ S).bind fun x S1 => (ev C b σ S1).bind fun y S2 => (on2b S2 x y (cmpD o)).bind fun t S3 => .ok (.d (.bl t)) S3 := by rw [ev] <;> rfl
@[simp] theorem ev_cmp2 (o p : Cop) (a b c : Exp) : ev C (.cmp2 o p a b c) σ S = (ev C a σ S).bind fun x S1 => (ev C b σ S1).bind fun y S2 => (on2b S2 x y (cmpD o)).bind fun t S3 => match t with
    | false => .ok (.d (.bl false)) S3
    | true => (ev C c σ S3).bind fun z S4 => (on2b S4 y z (cmpD p)).bind fun t S5 => .ok (.d (.bl t)) S5 := by rw [ev] <;> rfl
@[simp] theorem ev_and (l : List Exp) : ev C (.and l) σ S = evAnd C l σ S := by rw [ev] <;> rfl
@[simp] theorem ev_or (l : List Exp) : ev C (.or l) σ S = evOr C l σ S := by rw [ev] <;> rfl
@[simp] theorem ev_not (a : Exp) : ev C (.not a) σ S = (ev C a σ S).bind fun x S1 => (truthV S1 x).bind fun t S2 => .ok (.d (.bl (!t))) S2 := by rw [ev] <;> rfl
@[simp] theorem ev_ife (c : Tst) (a b : Exp) : ev C (.ife c a b) σ S = (evT C c σ S).bind fun t S1 => match t with
    | true => ev C a σ S1
    | false => ev C b σ S1 := by rw [ev] <;> rfl
@[simp] theorem ev_tup (es : List Exp) : ev C (.tup es) σ S = (evs C es σ S).bind fun vs S1 => disp .tup vs S1 := by rw [ev] <;> rfl
@[simp] theorem ev_lst (es : List Exp) : ev C (.lst es) σ S = (evs C es σ S).bind fun vs S1 => disp .lst vs S1 := by rw [ev] <;> rfl
@[simp] theorem ev_dcv (k v : Exp) : ev C (.dcv k v) σ S = (ev C k σ S).bind fun x S1 => (ev C v σ S1).bind fun y S2 => dispV x y S2 := by rw [ev] <;> rfl
@[simp] theorem ev_dct (ks : List D) (es : List Exp) : ev C (.dct ks es) σ S = (evs C es σ S).bind fun vs S1 => dispK ks vs S1 := by rw [ev] <;> rfl
@[simp] theorem ev_gix (g : Nat) (i : Exp) : ev C (.gix g i) σ S = (ev C i σ S).bind fun x S1 => on1 S1 x (gixD (C.gdc g)) := by rw [ev] <;> rfl
@[simp] theorem ev_sub (a i : Exp) : ev C (.sub a i) σ S = (ev C a σ S).bind fun x S1 => (ev C i σ S1).bind fun y S2 => on2 S2 x y subD := by rw [ev] <;> rfl
@[simp] theorem ev_slc (a : Exp) (lo hi : Option Exp) : ev C (.slc a lo hi) σ S = (ev C a σ S).bind fun x S1 => (evO C lo σ S1).bind fun l S2 => (evO C hi σ S2).bind fun h S3 => on1 S3 x fun x => slcD x l h := by rw [ev] <;> rfl
@[simp] theorem ev_call (f : Nat) (es : List Exp) : ev C (.call f es) σ S = (evs C es σ S).bind fun vs S1 => C.call f vs S1 := by rw [ev] <;> rfl
@[simp] theorem ev_blt (b : Blt) (es : List Exp) : ev C (.blt b es) σ S = (evs C es σ S).bind fun vs S1 => onL S1 vs (bltD b) := by rw [ev] <;> rfl
@[simp] theorem ev_meth (m : Mth) (o : Exp) (es : List Exp) : ev C (.meth m o es) σ S = (ev C o σ S).bind fun v S1 => match rdv S1 v with
    | some x => if recvD m x then (evs C es σ S1).bind fun vs S2 => doMeth m v vs S2 else .no
    | none => .no := by rw [ev] <;> rfl
@[simp] theorem ev_isi (e : Exp) (ts : List Ty) : ev C (.isi e ts) σ S = (ev C e σ S).bind fun x S1 => on1 S1 x (isiD ts) := by rw [ev] <;> rfl
@[simp] theorem ev_isx (e : Exp) (ts cs : List Nat) : ev C (.isx e ts cs) σ S = (ev C e σ S).bind fun x S1 => on1 S1 x (isxD cs) := by rw [ev] <;> rfl
@[simp] theorem ev_att (e : Exp) (f : Nat) : ev C (.att e f) σ S = (ev C e σ S).bind fun x S1 => on1 S1 x (attD f) := by rw [ev] <;> rfl
@[simp] theorem evAnd_one (e : Exp) : evAnd C [e] σ S = ev C e σ S := by rw [evAnd] <;> rfl
@[simp] theorem evAnd_cons (e f : Exp) (l : List Exp) : evAnd C (e :: f :: l) σ S = (ev C e σ S).bind fun x S1 => (truthV S1 x).bind fun t S2 => match t with
      | true => evAnd C (f :: l) σ S2
      | false => .ok x S2 := by rw [evAnd] <;> rfl
@[simp] theorem evOr_one (e : Exp) : evOr C [e] σ S = ev C e σ S := by rw [evOr] <;> rfl
@[simp] theorem evOr_cons (e f : Exp) (l : List Exp) : evOr C (e :: f :: l) σ S = (ev C e σ S).bind fun x S1 => (truthV S1 x).bind fun t S2 => match t with
      | true => .ok x S2
      | false => evOr C (f :: l) σ S2 := by rw [evOr] <;> rfl
@[simp] theorem evT_of (e : Exp) : evT C (.of e) σ S = (ev C e σ S).bind fun x S1 => truthV S1 x := by rw [evT] <;> rfl
@[simp] theorem evT_gin (n : Bool) (g : Nat) (e : Exp) : evT C (.gin n g e) σ S = (ev C e σ S).bind fun x S1 => on1b S1 x (ginD n (C.gdc g)) := by rw [evT] <;> rfl
@[simp] theorem evT_cmp (o : Cop) (a b : Exp) : evT C (.cmp o a b) σ S = (ev C a σ S).bind fun x S1 => (ev C b σ S1).bind fun y S2 => on2b S2 x y (cmpD o) := by rw [evT] <;> rfl
@[simp] theorem evT_cmp2 (o p : Cop) (a b c : Exp) : evT C (.cmp2 o p a b c) σ S = (ev C a σ S).bind fun x S1 => (ev C b σ S1).bind fun y S2 => (on2b S2 x y (cmpD o)).bind fun t S3 => match t with
    | false => .ok false S3
    | true => (ev C c σ S3).bind fun z S4 => on2b S4 y z (cmpD p) := by rw [evT] <;> rfl
@[simp] theorem evT_and (l : List Tst) : evT C (.and l) σ S = evTs C l σ S := by rw [evT] <;> rfl
@[simp] theorem evT_or (l : List Tst) : evT C (.or l) σ S = evTo C l σ S := by rw [evT] <;> rfl
@[simp] theorem evT_not (t : Tst) : evT C (.not t) σ S = (evT C t σ S).bind fun t S1 => .ok (!t) S1 := by rw [evT] <;> rfl
@[simp] theorem evTs_nil : evTs C [] σ S = .ok true S := by rw [evTs] <;> rfl
@[simp] theorem evTs_cons (e : Tst) (l : List Tst) : evTs C (e :: l) σ S = (evT C e σ S).bind fun t S1 => match t with
    | true => evTs C l σ S1
    | false => .ok false S1 := by rw [evTs] <;> rfl
@[simp] theorem evTo_nil : evTo C [] σ S = .ok false S := by rw [evTo] <;> rfl
@[simp] theorem evTo_cons (e : Tst) (l : List Tst) : evTo C (e :: l) σ S = (evT C e σ S).bind fun t S1 => match t with
    | true => .ok true S1
    | false => evTo C l σ S1 := by rw [evTo] <;> rfl
@[simp] theorem evs_nil : evs C [] σ S = .ok [] S := by rw [evs] <;> rfl
@[simp] theorem evs_cons (e : Exp) (l : List Exp) : evs C (e :: l) σ S = (ev C e σ S).bind fun v S1 => (evs C l σ S1).bind fun r S2 => .ok (v :: r) S2 := by rw [evs] <;> rfl
@[simp] theorem evO_none : evO C none σ S = .ok none S := by rw [evO] <;> rfl
@[simp] theorem evO_some (e : Exp) : evO C (some e) σ S = (ev C e σ S).bind fun v S1 => onInt S1 v fun i => .ok (some i) S1 := by rw [evO] <;> rfl
@[simp] theorem evI_of (e : Exp) : evI C (.of e) σ S = (ev C e σ S).bind fun v S1 => R.of (srcOf S1 v) S1 := by rw [evI] <;> rfl
@[simp] theorem evI_range1 (e : Exp) : evI C (.range1 e) σ S = (ev C e σ S).bind fun v S1 => onInt S1 v fun j => R.of ((rangeL 0 j).map fun l => ⟨l, fun _ => True⟩) S1 := by rw [evI] <;> rfl
@[simp] theorem evI_range2 (a b : Exp) : evI C (.range2 a b) σ S = (ev C a σ S).bind fun v S1 => (ev C b σ S1).bind fun w S2 => onInt S2 v fun i => onInt S2 w fun j => R.of ((rangeL i j).map fun l => ⟨l, fun _ => True⟩) S2 := by rw [evI] <;> rfl
@[simp] theorem ex_asgN (i : Nat) (e : Exp) : ex C (.asg (.name i) e) σ S = (ev C e σ S).bind fun v S1 => .ok (.nx (σ.set i (some v))) S1 := by rw [ex] <;> rfl
@[simp] theorem ex_new (i : Nat) (e : Exp) : ex C (.new i e) σ S = (ev C e σ S).bind fun v S1 => match v with
    | .d (.lst l) => .ok (.nx (σ.set i (some (.ref S1.length)))) (S1 ++ [.lst l])
    | .d (.dct l) => .ok (.nx (σ.set i (some (.ref S1.length)))) (S1 ++ [.dct l])
    | _ => .no := by rw [ex] <;> rfl
@[simp] theorem ex_expr (e : Exp) : ex C (.expr e) σ S = (ev C e σ S).bind fun _ S1 => .ok (.nx σ) S1 := by rw [ex] <;> rfl
@[simp] theorem ex_ret (e : Exp) : ex C (.ret e) σ S = (ev C e σ S).bind fun v S1 => .ok (.rt v) S1 := by rw [ex] <;> rfl
@[simp] theorem ex_retN : ex C .retN σ S = .ok (.rt (.d .non)) S := by rw [ex] <;> rfl
@[simp] theorem ex_ite (c : Tst) (a b : List Stm) : ex C (.ite c a b) σ S = (evT C c σ S).bind fun t S1 => match t with
    | true => exs C a σ S1
    | false => exs C b σ S1 := by rw [ex] <;> rfl
@[simp] theorem ex_rai (c : Nat) (fs : List Nat) (es : List Exp) : ex C (.rai c fs es) σ S = (evs C es σ S).bind fun vs S1 => raiR c fs vs S1 := by rw [ex] <;> rfl
@[simp] theorem ex_try (b : List Stm) (hs : List Hd) : ex C (.tr b hs) σ S = (match exs C b σ S with
    | .exc x S1 => exHs C hs x (wipes σ (asgSs b)) S1
    | r => r) := by rw [ex] <;> rfl
@[simp] theorem exHs_nil (x : Exn) : exHs C [] x σ S = .exc x S := by rw [exHs] <;> rfl
@[simp] theorem exHs_cons (k : Nat) (cs : List Nat) (i : Option Nat) (sb : List Stm) (l : List Hd) (x : Exn) : exHs C (.mk k cs i sb :: l) x σ S = (match cs.contains x.c with
    | true => unsetR i (exs C sb (setX i x σ) S)
    | false => exHs C l x σ S) := by rw [exHs, exH] <;> rfl
@[simp] theorem exs_nil : exs C [] σ S = .ok (.nx σ) S := by rw [exs] <;> rfl
@[simp] theorem exs_cons (s : Stm) (l : List Stm) : exs C (s :: l) σ S = (ex C s σ S).bind fun f S1 => match f with
    | .nx σ1 => exs C l σ1 S1
    | f => .ok f S1 := by rw [exs] <;> rfl
end
@[simp] theorem rdv_d (S : Store) (x : D) : rdv S (.d x) = some x := rfl
@[simp] theorem fzv_d (S : Store) (x : D) : fzv S (.d x) = some (x, S) := rfl
@[simp] theorem on1_d (S : Store) (x : D) (f : D → Option D) : on1 S (.d x) f = (match f x with | some z => .ok (.d z) S | none => .no) := rfl
@[simp] theorem on2_d (S : Store) (x y : D) (f : D → D → Option D) : on2 S (.d x) (.d y) f = (match f x y with | some z => .ok (.d z) S | none => .no) := rfl
@[simp] theorem on2b_d (S : Store) (x y : D) (f : D → D → Option Bool) : on2b S (.d x) (.d y) f = (match f x y with | some z => .ok z S | none => .no) := rfl
@[simp] theorem on1b_d (S : Store) (x : D) (f : D → Option Bool) : on1b S (.d x) f = (match f x with | some z => .ok z S | none => .no) := rfl
@[simp] theorem truthV_d (S : Store) (x : D) : truthV S (.d x) = (match truth x with | some b => .ok b S | none => .no) := rfl
@[simp] theorem rdvs_nil (S : Store) : rdvs S [] = some [] := rfl
@[simp] theorem rdvs_d (S : Store) (x : D) (l : List Val) : rdvs S (.d x :: l) = (match rdvs S l with | some r => some (x :: r) | none => none) := rfl
@[simp] theorem fzs_nil (S : Store) : fzs S [] = some ([], S) := rfl
@[simp] theorem fzs_d (S : Store) (x : D) (l : List Val) : fzs S (.d x :: l) = (match fzs S l with | some (r, S2) => some (x :: r, S2) | none => none) := rfl
@[simp] theorem onInt_i {α : Type} (S : Store) (i : Int) (f : Int → R α) : onInt S (.d (.int i)) f = f i := rfl
@[simp] theorem truth_bl (b : Bool) : truth (.bl b) = some b := rfl
/-- a call with data alone -/
theorem callP_pure {P : Pg} {n f : Nat} {F : Fn} {xs : List D} {y : D} {v : Val} {S T : Store} (hF : P.fn f = some F) (hn : xs.length = F.np) (ho : F.own = false)
    (h : exs ⟨callP P n, P.glo, P.gdc, P.wf⟩ F.body (xs.map (fun x => some (Val.d x)) ++ List.replicate (F.ns - F.np) none) [] = .ok (.rt v) T) (hv : rdv T v = some y) : callP P (n + 1) f (xs.map .d) S = .ok (.d y) S := by
  have hp : ∀ (bs : List Bool) (xs : List D), prep S bs (xs.map .d) [] [] = some (xs.map .d, [], []) := by
    intro bs xs
    induction xs generalizing bs with
    | nil => cases bs <;> rfl
    | cons x l ih => simp only [List.map_cons, prep, ih]
  show (match P.fn f with
    | none => R.no
    | some F => if (xs.map Val.d).length = F.np then bodyC ⟨callP P n, P.glo, P.gdc, P.wf⟩ F (xs.map .d) S else .no) = _
  rw [hF]
  simp only [List.length_map, hn, if_true]
  unfold bodyC
  rw [hp]
  simp only [List.all_nil, if_true, cellsAt]
  rw [List.map_map]
  have e : (xs.map (some ∘ Val.d)) = xs.map fun x => some (Val.d x) := rfl
  rw [e, h]
  simp only
  have pb : ∀ S T : Store, putBack S [] T = S := fun S T => by cases T <;> rfl
  cases v with
  | d x =>
    cases hv
    simp only [outC, pb, frzS, ite_self]
  | ref j =>
    simp only [outC, List.getElem?_nil, pb, frzS, ite_self, ho]
    have hc : ∃ c, T[j]? = some c := by
      cases q : T[j]? with
      | none => simp only [rdv, q] at hv; cases hv
      | some c => exact ⟨c, rfl⟩
    obtain ⟨c, hc⟩ := hc
    rw [hc]
    simp only [hv]
/-- .. that raises -/
theorem callP_exc {P : Pg} {n f : Nat} {F : Fn} {xs : List D} {x : Exn} {S T : Store} (hF : P.fn f = some F) (hn : xs.length = F.np)
    (h : exs ⟨callP P n, P.glo, P.gdc, P.wf⟩ F.body (xs.map (fun x => some (Val.d x)) ++ List.replicate (F.ns - F.np) none) [] = .exc x T) : callP P (n + 1) f (xs.map .d) S = .exc x S := by
  have hp : ∀ (bs : List Bool) (xs : List D), prep S bs (xs.map .d) [] [] = some (xs.map .d, [], []) := by
    intro bs xs
    induction xs generalizing bs with
    | nil => cases bs <;> rfl
    | cons x l ih => simp only [List.map_cons, prep, ih]
  show (match P.fn f with
    | none => R.no
    | some F => if (xs.map Val.d).length = F.np then bodyC ⟨callP P n, P.glo, P.gdc, P.wf⟩ F (xs.map .d) S else .no) = _
  rw [hF]
  simp only [List.length_map, hn, if_true]
  unfold bodyC
  rw [hp]
  simp only [List.all_nil, if_true, cellsAt]
  rw [List.map_map]
  have e : (xs.map (some ∘ Val.d)) = xs.map fun x => some (Val.d x) := rfl
  rw [e, h]
  simp only
  have pb : ∀ S T : Store, putBack S [] T = S := fun S T => by cases T <;> rfl
  rw [pb]
  rfl
section
variable (C : Cx) (σ : Sig) (S : Store)
/-- a loop's turn -/
noncomputable def forT (t : Tgt) (b : List Stm) : D → Sig → Store → R Flow := fun x σ S => match asgT σ t x with
      | some σ1 => exs C b σ1 S
      | none => .no
@[simp] theorem ex_for (t : Tgt) (it : Ite) (b : List Stm) : ex C (.for_ t it b) σ S = (evI C it σ S).bind fun p S1 => forL p.ck (forT C t b) p.l σ S1 := by rw [ex] <;> rfl
theorem forT_name (i : Nat) (b : List Stm) (x : D) : forT C (.name i) b x σ S = exs C b (σ.set i (some (.d x))) S := by
  unfold forT
  rw [asgT]
/-- a comprehension's turn -/
noncomputable def lcT (e : Exp) (t : Tgt) (own : List Nat) (ifs : List Tst) : D → Store → R (Option D) := fun x S => match asgT (wipes σ own) t x with
      | some σ1 => ((evTs C ifs σ1 S).bind fun b S2 => match b with
        | true => (ev C e σ1 S2).bind fun v S3 => fzO v S3
        | false => .ok none S2).nox
      | none => .no
@[simp] theorem ev_lc (e : Exp) (t : Tgt) (own : List Nat) (it : Ite) (ifs : List Tst) : ev C (.lc e t own it ifs) σ S = (evI C it σ S).bind fun p S1 => (lcL p.ck (lcT C σ e t own ifs) p.l [] S1).bind fun l S2 => .ok (.d (.lst l)) S2 := by rw [ev] <;> rfl
theorem lcT_name (e : Exp) (i : Nat) (own : List Nat) (ifs : List Tst) (x : D) : lcT C σ e (.name i) own ifs x S = ((evTs C ifs ((wipes σ own).set i (some (.d x))) S).bind fun b S2 => match b with
        | true => (ev C e ((wipes σ own).set i (some (.d x))) S2).bind fun v S3 => fzO v S3
        | false => .ok none S2).nox := by
  unfold lcT
  rw [asgT]
end
@[simp] theorem asgT_name (σ : Sig) (i : Nat) (x : D) : asgT σ (.name i) x = some (σ.set i (some (.d x))) := by rw [asgT]
@[simp] theorem fzO_d (x : D) (S : Store) : fzO (.d x) S = .ok (some x) S := rfl
@[simp] theorem wipes_nil (σ : Sig) : wipes σ [] = σ := rfl
@[simp] theorem wipes_cons (σ : Sig) (i : Nat) (l : List Nat) : wipes σ (i :: l) = (wipes σ l).set i none := rfl
@[simp] theorem forL_nil (turn : D → Sig → Store → R Flow) (σ : Sig) (S : Store) : forL (fun _ => True) turn [] σ S = .ok (.nx σ) S := by simp [forL]
@[simp] theorem forL_cons (turn : D → Sig → Store → R Flow) (x : D) (l : List D) (σ : Sig) (S : Store) : forL (fun _ => True) turn (x :: l) σ S = (turn x σ S).bind fun f S1 => match f with
    | .nx σ1 => forL (fun _ => True) turn l σ1 S1
    | .ct σ1 => forL (fun _ => True) turn l σ1 S1
    | .bk σ1 => .ok (.nx σ1) S1
    | .rt v => .ok (.rt v) S1 := by
  simp only [forL, if_true]
  try rfl
/-- a loop that goes through, or ends at the first that fails -/
theorem forL_all {turn : D → Sig → Store → R Flow} {p : D → Bool} {v : Val} {g : Sig → D → Sig} {S : Store} (I : Sig → Prop) (hI : ∀ σ x, I σ → I (g σ x)) : ∀ {l : List D} {σ : Sig}, (∀ x ∈ l, ∀ σ, I σ → turn x σ S = if p x = true then .ok (.nx (g σ x)) S else .ok (.rt v) S) → I σ →
    forL (fun _ => True) turn l σ S = if l.all p = true then .ok (.nx (l.foldl g σ)) S else .ok (.rt v) S
  | [], σ, h, h0 => by simp
  | x :: l, σ, h, h0 => by
    rw [forL_cons, h x (List.mem_cons_self ..) σ h0]
    by_cases hp : p x = true
    · simp only [hp, if_true, R.bind_ok, List.all_cons, Bool.true_and, List.foldl_cons]
      exact forL_all I hI (fun y hy => h y (List.mem_cons_of_mem _ hy)) (hI σ x h0)
    · simp [hp]
/-- a comprehension whose turns change nothing -/
theorem lcL_map {turn : D → Store → R (Option D)} {f : D → Option D} {S : Store} : ∀ {l acc : List D}, (∀ x ∈ l, turn x S = .ok (f x) S) → acc.length + l.length ≤ big → lcL (fun _ => True) turn l acc S = .ok (acc ++ l.filterMap f) S
  | [], acc, h, hl => by simp [lcL]
  | x :: l, acc, h, hl => by
    simp only [lcL, if_true, h x (List.mem_cons_self ..), R.bind_ok]
    have hl' : acc.length + (l.length + 1) ≤ big := by simpa using hl
    cases e : f x with
    | none =>
      simp only [List.filterMap_cons, e]
      exact lcL_map (fun y hy => h y (List.mem_cons_of_mem _ hy)) (by omega)
    | some y =>
      simp only [List.filterMap_cons, e]
      rw [if_pos (by omega), lcL_map (fun y hy => h y (List.mem_cons_of_mem _ hy)) (by simp; omega)]
      simp
theorem range_ok (n : Nat) (h : n ≤ 1000000) : rangeL 0 (n : Int) = some ((List.range n).map fun (k : Nat) => D.int k) := by
  unfold rangeL
  rw [if_pos (by unfold bd; omega)]
  simp
@[simp] theorem len_lst (l : List D) : bltD .len [.lst l] = some (.int l.length) := rfl
@[simp] theorem len_tup (l : List D) : bltD .len [.tup l] = some (.int l.length) := rfl
@[simp] theorem len_dct (l : List (D × D)) : bltD .len [.dct l] = some (.int l.length) := rfl
@[simp] theorem list_lst (l : List D) : bltD .list [.lst l] = some (.lst l) := rfl
@[simp] theorem list_tup (l : List D) : bltD .list [.tup l] = some (.lst l) := rfl
@[simp] theorem tuple_lst (l : List D) : bltD .tuple [.lst l] = some (.tup l) := rfl
@[simp] theorem tuple_tup (l : List D) : bltD .tuple [.tup l] = some (.tup l) := rfl
@[simp] theorem all_lst (l : List D) : bltD .all [.lst l] = (blsOf l).map fun bs => .bl (bs.all id) := rfl
@[simp] theorem sum_lst (l : List D) : bltD .sum [.lst l] = (intsOf l).map fun ns => .int ns.sum := rfl
@[simp] theorem sub_lst (l : List D) (i : Int) : subD (.lst l) (.int i) = ixD l i := rfl
@[simp] theorem sub_tup (l : List D) (i : Int) : subD (.tup l) (.int i) = ixD l i := rfl
@[simp] theorem cmp_eq (x y : D) : cmpD .eq x y = eqA x y := rfl
@[simp] theorem cmp_ne (x y : D) : cmpD .ne x y = neA x y := rfl
@[simp] theorem cmp_in (x y : D) : cmpD .isin x y = inD x y := rfl
@[simp] theorem cmp_notin (x y : D) : cmpD .notin x y = (inD x y).map (!·) := rfl
@[simp] theorem cmp_lt (i j : Int) : cmpD .lt (.int i) (.int j) = some (decide (i < j)) := rfl
@[simp] theorem cmp_le (i j : Int) : cmpD .le (.int i) (.int j) = some (decide (i ≤ j)) := rfl
@[simp] theorem cmp_gt (i j : Int) : cmpD .gt (.int i) (.int j) = some (decide (j < i)) := rfl
@[simp] theorem cmp_ge (i j : Int) : cmpD .ge (.int i) (.int j) = some (decide (j ≤ i)) := rfl
@[simp] theorem cmp_isN (x : D) : cmpD .is x .non = some x.isNon := by cases x <;> rfl
@[simp] theorem cmp_isnotN (x : D) : cmpD .isnot x .non = some (!x.isNon) := by cases x <;> rfl
@[simp] theorem bin_add (i j : Int) : binD .add (.int i) (.int j) = some (.int (i + j)) := rfl
@[simp] theorem bin_sub (i j : Int) : binD .sub (.int i) (.int j) = some (.int (i - j)) := rfl
@[simp] theorem eqA_int (i j : Int) : eqA (.int i) (.int j) = some (i == j) := by
  simp [eqA, eqOk, D.plain, D.depth, eqD]
@[simp] theorem eqA_str (a b : List Nat) : eqA (.str a) (.str b) = some (a == b) := by
  simp [eqA, eqOk, D.plain, D.depth, eqD]
@[simp] theorem eqA_bl (a b : Bool) : eqA (.bl a) (.bl b) = some (a == b) := by
  simp [eqA, eqOk, D.plain, D.depth, eqD]
@[simp] theorem neA_int (i j : Int) : neA (.int i) (.int j) = some (!(i == j)) := by
  simp [neA, eqOk, D.plain, D.depth, D.nodct, eqD]
end Ev

end

section
set_option Elab.async false
set_option linter.all false
set_option maxRecDepth 100000
set_option maxHeartbeats 1000000
/-! Ev, kinds of data: what a thing may be, told by a term that can be reckoned with. -/
namespace Ev
mutual
/-- small things: none of its rows, texts, dicts is long -/
def D.sm : D → Bool
  | .str s => decide (s.length ≤ 1000)
  | .tup l => decide (l.length ≤ 1000) && D.sms l
  | .lst l => decide (l.length ≤ 1000) && D.sms l
  | .dct l => decide (l.length ≤ 1000) && D.smk l
  | .ins _ _ => false
  | _ => true
termination_by structural x => x
def D.sms : List D → Bool
  | [] => true
  | x :: l => x.sm && D.sms l
termination_by structural x => x
def D.smk : List (D × D) → Bool
  | [] => true
  | (k, x) :: l => isK k && x.sm && D.smk l
termination_by structural x => x
end
theorem sms_iff : ∀ {l : List D}, D.sms l = true ↔ ∀ x ∈ l, x.sm = true
  | [] => by simp [D.sms]
  | x :: l => by simp [D.sms, sms_iff (l := l)]
theorem depths_iff {k : Nat} : ∀ {l : List D}, D.depths l ≤ k ↔ ∀ x ∈ l, x.depth ≤ k
  | [] => by simp [D.depths]
  | x :: l => by
    simp only [D.depths, List.mem_cons, forall_eq_or_imp, ← depths_iff (l := l)]
    exact Nat.max_le
/-- kinds -/
inductive A where
  | int (lo hi : Int) | bl (b : Option Bool) | non | txs (l : List (List Nat)) | txL (n : Nat)
  | tup (l : List A) | lst (l : List A) | seq (t : Bool) (lo hi : Nat) (a : A)
  | dct (l : List (D × A)) | any (d : Nat) | or (l : List A) | pd (k : Nat) | dk (j : Nat)
/-- a draw -/
def Dr (i : Int) : Prop := 0 ≤ i ∧ i ≤ 2147483647
/-- what kinds are told by: how many draws more a deck has, kinds of one's own -/
structure Par where
  dl : Nat
  u : Nat → D → Prop
/-- a row: a tuple or a list -/
def rowD (t : Bool) (m : List D) : D := match t with
  | true => .tup m
  | false => .lst m
section
variable (Pi : Par)
mutual
/-- x is of that kind -/
def Am : A → D → Prop
  | .int lo hi, x => ∃ i, x = .int i ∧ lo ≤ i ∧ i ≤ hi
  | .bl o, x => match o with
    | none => ∃ b, x = .bl b
    | some b => x = .bl b
  | .non, x => x = .non
  | .txs l, x => ∃ s, s ∈ l ∧ x = .str s
  | .txL n, x => ∃ s : List Nat, s.length ≤ n ∧ x = .str s
  | .tup l, x => ∃ m, x = .tup m ∧ Ams l m
  | .lst l, x => ∃ m, x = .lst m ∧ Ams l m
  | .seq t lo hi a, x => ∃ m, x = rowD t m ∧ lo ≤ m.length ∧ m.length ≤ hi ∧ ∀ y ∈ m, Am a y
  | .dct l, x => ∃ m, x = .dct m ∧ Amk l m
  | .any d, x => x.sm = true ∧ x.depth ≤ d
  | .or l, x => Amo l x
  | .pd k, x => Pi.u k x
  | .dk j, x => ∃ l : List Int, x = .lst (l.map .int) ∧ j + Pi.dl ≤ l.length ∧ ∀ i ∈ l, Dr i
termination_by structural a => a
def Ams : List A → List D → Prop
  | [], m => m = []
  | a :: l, m => ∃ x r, m = x :: r ∧ Am a x ∧ Ams l r
termination_by structural a => a
def Amk : List (D × A) → List (D × D) → Prop
  | [], m => m = []
  | (k, a) :: l, m => ∃ x r, m = (k, x) :: r ∧ isK k = true ∧ Am a x ∧ Amk l r
termination_by structural a => a
def Amo : List A → D → Prop
  | [], _ => False
  | a :: l, x => Am a x ∨ Amo l x
termination_by structural a => a
end
end
section
variable {Pi : Par}
theorem Amo_iff {x : D} : ∀ {l : List A}, Amo Pi l x ↔ ∃ a ∈ l, Am Pi a x
  | [] => by simp [Amo]
  | a :: l => by simp [Amo, Amo_iff (l := l)]
theorem Ams_len : ∀ {l : List A} {m : List D}, Ams Pi l m → l.length = m.length
  | [], m, h => by simp [Ams] at h; simp [h]
  | a :: l, m, h => by
    obtain ⟨x, r, rfl, _, h2⟩ := h
    simp [Ams_len h2]
theorem Ams_get : ∀ {l : List A} {m : List D}, Ams Pi l m → ∀ {i : Nat} {a : A}, l[i]? = some a → ∃ x, m[i]? = some x ∧ Am Pi a x
  | [], m, h, i, a, e => by cases e
  | b :: l, m, h, i, a, e => by
    obtain ⟨x, r, rfl, h1, h2⟩ := h
    cases i with
    | zero => cases e; exact ⟨x, rfl, h1⟩
    | succ i => exact Ams_get h2 (by simpa using e)
theorem Ams_mem : ∀ {l : List A} {m : List D}, Ams Pi l m → ∀ {x : D}, x ∈ m → ∃ a ∈ l, Am Pi a x
  | [], m, h, x, e => by simp [Ams] at h; subst h; cases e
  | b :: l, m, h, x, e => by
    obtain ⟨y, r, rfl, h1, h2⟩ := h
    rcases List.mem_cons.mp e with rfl | e
    · exact ⟨b, List.mem_cons_self .., h1⟩
    · obtain ⟨a, ha, hx⟩ := Ams_mem h2 e
      exact ⟨a, List.mem_cons_of_mem _ ha, hx⟩
theorem Ams_app : ∀ {l l' : List A} {m m' : List D}, Ams Pi l m → Ams Pi l' m' → Ams Pi (l ++ l') (m ++ m')
  | [], l', m, m', h, h' => by simp [Ams] at h; subst h; exact h'
  | a :: l, l', m, m', h, h' => by
    obtain ⟨x, r, rfl, h1, h2⟩ := h
    exact ⟨x, r ++ m', rfl, h1, Ams_app h2 h'⟩
theorem Ams_drop : ∀ (n : Nat) {l : List A} {m : List D}, Ams Pi l m → Ams Pi (l.drop n) (m.drop n)
  | 0, l, m, h => h
  | n + 1, [], m, h => by simp [Ams] at h; subst h; simp [Ams]
  | n + 1, a :: l, m, h => by
    obtain ⟨x, r, rfl, h1, h2⟩ := h
    exact Ams_drop n h2
theorem Ams_take : ∀ (n : Nat) {l : List A} {m : List D}, Ams Pi l m → Ams Pi (l.take n) (m.take n)
  | 0, l, m, h => rfl
  | n + 1, [], m, h => by simp [Ams] at h; subst h; simp [Ams]
  | n + 1, a :: l, m, h => by
    obtain ⟨x, r, rfl, h1, h2⟩ := h
    exact ⟨x, r.take n, rfl, h1, Ams_take n h2⟩
theorem Ams_rev : ∀ {l : List A} {m : List D}, Ams Pi l m → Ams Pi l.reverse m.reverse
  | [], m, h => by simp [Ams] at h; subst h; rfl
  | a :: l, m, h => by
    obtain ⟨x, r, rfl, h1, h2⟩ := h
    rw [List.reverse_cons, List.reverse_cons]
    exact Ams_app (Ams_rev h2) ⟨x, [], rfl, h1, rfl⟩
theorem Ams_set : ∀ (n : Nat) {l : List A} {m : List D} {a : A} {x : D}, Ams Pi l m → Am Pi a x → Ams Pi (l.set n a) (m.set n x)
  | n, [], m, a, x, h, hx => by simp [Ams] at h; subst h; rfl
  | 0, b :: l, m, a, x, h, hx => by
    obtain ⟨y, r, rfl, h1, h2⟩ := h
    exact ⟨x, r, rfl, hx, h2⟩
  | n + 1, b :: l, m, a, x, h, hx => by
    obtain ⟨y, r, rfl, h1, h2⟩ := h
    exact ⟨y, r.set n x, rfl, h1, Ams_set n h2 hx⟩

/-! ### within any d -/
mutual
def A.anyB : A → Nat → Bool
  | .int _ _, _ => true
  | .bl _, _ => true
  | .non, _ => true
  | .txs l, _ => l.all fun s => decide (s.length ≤ 1000)
  | .txL n, _ => decide (n ≤ 1000)
  | .tup l, d => match d with
    | 0 => false
    | d + 1 => decide (l.length ≤ 1000) && A.anyBs l d
  | .lst l, d => match d with
    | 0 => false
    | d + 1 => decide (l.length ≤ 1000) && A.anyBs l d
  | .seq _ _ hi a, d => match d with
    | 0 => false
    | d + 1 => decide (hi ≤ 1000) && a.anyB d
  | .dct l, d => match d with
    | 0 => false
    | d + 1 => decide (l.length ≤ 1000) && A.anyBk l d
  | .any e, d => decide (e ≤ d)
  | .or l, d => A.anyBs l d
  | .pd _, _ => false
  | .dk _, _ => false
termination_by structural a => a
def A.anyBs : List A → Nat → Bool
  | [], _ => true
  | a :: l, d => a.anyB d && A.anyBs l d
termination_by structural a => a
def A.anyBk : List (D × A) → Nat → Bool
  | [], _ => true
  | (_, a) :: l, d => a.anyB d && A.anyBk l d
termination_by structural a => a
end
mutual
theorem anyB_ok : ∀ {a : A} {d : Nat} {x : D}, a.anyB d = true → Am Pi a x → x.sm = true ∧ x.depth ≤ d
  | .int _ _, d, x, h, hx => by obtain ⟨i, rfl, _⟩ := hx; simp [D.sm, D.depth]
  | .bl o, d, x, h, hx => by
    cases o with
    | none => obtain ⟨b, rfl⟩ := hx; simp [D.sm, D.depth]
    | some b => cases hx; simp [D.sm, D.depth]
  | .non, d, x, h, hx => by cases hx; simp [D.sm, D.depth]
  | .txs l, d, x, h, hx => by
    obtain ⟨s, hs, rfl⟩ := hx
    simp only [A.anyB, List.all_eq_true] at h
    exact ⟨by simpa [D.sm] using h s hs, by simp [D.depth]⟩
  | .txL n, d, x, h, hx => by
    obtain ⟨s, hs, rfl⟩ := hx
    simp only [A.anyB, decide_eq_true_eq] at h
    exact ⟨by simp [D.sm]; omega, by simp [D.depth]⟩
  | .tup l, d, x, h, hx => by
    obtain ⟨m, rfl, hm⟩ := hx
    cases d with
    | zero => simp [A.anyB] at h
    | succ d =>
      simp only [A.anyB, Bool.and_eq_true, decide_eq_true_eq] at h
      have := anyBs_ok h.2 hm
      have hl := Ams_len hm
      exact ⟨by simp only [D.sm, Bool.and_eq_true, decide_eq_true_eq]; exact ⟨by omega, sms_iff.mpr fun x hx => (this x hx).1⟩, by simp only [D.depth]; exact Nat.succ_le_succ (depths_iff.mpr fun x hx => (this x hx).2)⟩
  | .lst l, d, x, h, hx => by
    obtain ⟨m, rfl, hm⟩ := hx
    cases d with
    | zero => simp [A.anyB] at h
    | succ d =>
      simp only [A.anyB, Bool.and_eq_true, decide_eq_true_eq] at h
      have := anyBs_ok h.2 hm
      have hl := Ams_len hm
      exact ⟨by simp only [D.sm, Bool.and_eq_true, decide_eq_true_eq]; exact ⟨by omega, sms_iff.mpr fun x hx => (this x hx).1⟩, by simp only [D.depth]; exact Nat.succ_le_succ (depths_iff.mpr fun x hx => (this x hx).2)⟩
  | .seq t lo hi a, d, x, h, hx => by
    obtain ⟨m, rfl, h1, h2, hm⟩ := hx
    cases d with
    | zero => simp [A.anyB] at h
    | succ d =>
      simp only [A.anyB, Bool.and_eq_true, decide_eq_true_eq] at h
      have : ∀ y ∈ m, y.sm = true ∧ y.depth ≤ d := fun y hy => anyB_ok h.2 (hm y hy)
      cases t <;> exact ⟨by simp only [rowD, D.sm, Bool.and_eq_true, decide_eq_true_eq]; exact ⟨by omega, sms_iff.mpr fun x hx => (this x hx).1⟩, by simp only [rowD, D.depth]; exact Nat.succ_le_succ (depths_iff.mpr fun x hx => (this x hx).2)⟩
  | .dct l, d, x, h, hx => by
    obtain ⟨m, rfl, hm⟩ := hx
    cases d with
    | zero => simp [A.anyB] at h
    | succ d =>
      simp only [A.anyB, Bool.and_eq_true, decide_eq_true_eq] at h
      obtain ⟨h3, h4, h5⟩ := anyBk_ok h.2 hm
      exact ⟨by simp only [D.sm, Bool.and_eq_true, decide_eq_true_eq]; exact ⟨by omega, h4⟩, by simp only [D.depth]; exact Nat.succ_le_succ h5⟩
  | .any e, d, x, h, hx => by
    simp only [A.anyB, decide_eq_true_eq] at h
    exact ⟨hx.1, Nat.le_trans hx.2 h⟩
  | .or l, d, x, h, hx => anyBo_ok h hx
  | .pd _, d, x, h, hx => by simp [A.anyB] at h
  | .dk _, d, x, h, hx => by simp [A.anyB] at h
termination_by structural a => a
theorem anyBs_ok : ∀ {l : List A} {d : Nat} {m : List D}, A.anyBs l d = true → Ams Pi l m → ∀ x ∈ m, x.sm = true ∧ x.depth ≤ d
  | [], d, m, h, hm, x, hx => by simp [Ams] at hm; subst hm; cases hx
  | a :: l, d, m, h, hm, x, hx => by
    obtain ⟨y, r, rfl, h1, h2⟩ := hm
    simp only [A.anyBs, Bool.and_eq_true] at h
    rcases List.mem_cons.mp hx with rfl | hx
    · exact anyB_ok h.1 h1
    · exact anyBs_ok h.2 h2 x hx
termination_by structural a => a
theorem anyBo_ok : ∀ {l : List A} {d : Nat} {x : D}, A.anyBs l d = true → Amo Pi l x → x.sm = true ∧ x.depth ≤ d
  | [], d, x, h, hx => by cases hx
  | a :: l, d, x, h, hx => by
    simp only [A.anyBs, Bool.and_eq_true] at h
    rcases hx with hx | hx
    · exact anyB_ok h.1 hx
    · exact anyBo_ok h.2 hx
termination_by structural a => a
theorem anyBk_ok : ∀ {l : List (D × A)} {d : Nat} {m : List (D × D)}, A.anyBk l d = true → Amk Pi l m → l.length = m.length ∧ D.smk m = true ∧ D.depthk m ≤ d
  | [], d, m, h, hm => by simp [Amk] at hm; subst hm; simp [D.smk, D.depthk]
  | (k, a) :: l, d, m, h, hm => by
    obtain ⟨y, r, rfl, h0, h1, h2⟩ := hm
    simp only [A.anyBk, Bool.and_eq_true] at h
    obtain ⟨h3, h4, h5⟩ := anyBk_ok h.2 h2
    obtain ⟨h6, h7⟩ := anyB_ok h.1 h1
    exact ⟨by simp [h3], by simp [D.smk, h0, h6, h4], by simp only [D.depthk]; exact Nat.max_le.mpr ⟨h7, h5⟩⟩
termination_by structural a => a
end

/-! ### one kind within another -/
def keysEq : List (D × A) → List (D × A) → Bool
  | [], [] => true
  | (k, _) :: l, (q, _) :: m => kEq k q && keysEq l m
  | _, _ => false
def A.sub : Nat → A → A → Bool
  | 0, _, _ => false
  | n + 1, a, b => match b with
    | .any d => a.anyB d
    | .or m => (match a with
      | .or l => l.all fun a => A.sub n a (.or m)
      | a => m.any fun b => A.sub n a b)
    | b => match a, b with
      | .or l, b => l.all fun a => A.sub n a b
      | .int a b, .int c d => decide (c ≤ a) && decide (b ≤ d)
      | .bl _, .bl none => true
      | .bl (some a), .bl (some b) => a == b
      | .non, .non => true
      | .txs l, .txs m => l.all fun s => m.contains s
      | .txs l, .txL n => l.all fun s => decide (s.length ≤ n)
      | .txL a, .txL b => decide (a ≤ b)
      | .tup l, .tup m => l.length == m.length && (l.zip m).all fun p => A.sub n p.1 p.2
      | .lst l, .lst m => l.length == m.length && (l.zip m).all fun p => A.sub n p.1 p.2
      | .tup l, .seq t lo hi a => t && decide (lo ≤ l.length) && decide (l.length ≤ hi) && l.all fun b => A.sub n b a
      | .lst l, .seq t lo hi a => !t && decide (lo ≤ l.length) && decide (l.length ≤ hi) && l.all fun b => A.sub n b a
      | .seq t lo hi a, .seq t' lo' hi' a' => t == t' && decide (lo' ≤ lo) && decide (hi ≤ hi') && (hi == 0 || A.sub n a a')
      | .pd j, .pd k => j == k
      | .dk j, .dk k => decide (k ≤ j)
      | .dct [], .dct [] => true
      | _, _ => false
theorem Ams_zip {n : Nat} (ih : ∀ {a b : A} {x : D}, A.sub n a b = true → Am Pi a x → Am Pi b x) : ∀ {l m : List A} {r : List D}, l.length = m.length → ((l.zip m).all fun p => A.sub n p.1 p.2) = true → Ams Pi l r → Ams Pi m r
  | [], [], r, _, _, hr => hr
  | [], _ :: _, r, h, _, _ => by cases h
  | _ :: _, [], r, h, _, _ => by cases h
  | a :: l, b :: m, r, hl, h, hr => by
    obtain ⟨x, r, rfl, h1, h2⟩ := hr
    simp only [List.zip_cons_cons, List.all_cons, Bool.and_eq_true] at h
    exact ⟨x, r, rfl, ih h.1 h1, Ams_zip ih (by simpa using hl) h.2 h2⟩
theorem sub_ok : ∀ (n : Nat) {a b : A} {x : D}, A.sub n a b = true → Am Pi a x → Am Pi b x
  | 0, a, b, x, h, hx => by simp [A.sub] at h
  | n + 1, a, b, x, h, hx => by
    have ih : ∀ {a b : A} {x : D}, A.sub n a b = true → Am Pi a x → Am Pi b x := fun h hx => sub_ok n h hx
    unfold A.sub at h
    split at h
    · exact anyB_ok h hx
    · rename_i m
      split at h
      · rename_i l
        obtain ⟨c, hc, hcx⟩ := Amo_iff.mp hx
        exact ih (List.all_eq_true.mp h c hc) hcx
      · obtain ⟨c, hc, hs⟩ := List.any_eq_true.mp h
        exact Amo_iff.mpr ⟨c, hc, ih hs hx⟩
    · split at h
      · obtain ⟨c, hc, hcx⟩ := Amo_iff.mp hx
        exact ih (List.all_eq_true.mp h c hc) hcx
      · simp only [Bool.and_eq_true, decide_eq_true_eq] at h
        obtain ⟨i, rfl, h1, h2⟩ := hx
        exact ⟨i, rfl, by omega, by omega⟩
      · rename_i o _ _
        cases o with
        | none => exact hx
        | some b => exact ⟨b, hx⟩
      · have := eq_of_beq h
        subst this
        exact hx
      · exact hx
      · obtain ⟨s, hs, rfl⟩ := hx
        exact ⟨s, by simpa using List.all_eq_true.mp h s hs, rfl⟩
      · obtain ⟨s, hs, rfl⟩ := hx
        exact ⟨s, by simpa using List.all_eq_true.mp h s hs, rfl⟩
      · obtain ⟨s, hs, rfl⟩ := hx
        simp only [decide_eq_true_eq] at h
        exact ⟨s, by omega, rfl⟩
      · simp only [Bool.and_eq_true] at h
        obtain ⟨m, rfl, hm⟩ := hx
        exact ⟨m, rfl, Ams_zip ih (by simpa using h.1) h.2 hm⟩
      · simp only [Bool.and_eq_true] at h
        obtain ⟨m, rfl, hm⟩ := hx
        exact ⟨m, rfl, Ams_zip ih (by simpa using h.1) h.2 hm⟩
      · simp only [Bool.and_eq_true, decide_eq_true_eq] at h
        obtain ⟨m, rfl, hm⟩ := hx
        obtain ⟨⟨⟨rfl, h1⟩, h2⟩, h3⟩ := h
        have hl := Ams_len hm
        refine ⟨m, rfl, by omega, by omega, fun y hy => ?_⟩
        obtain ⟨c, hc, hcy⟩ := Ams_mem hm hy
        exact ih (List.all_eq_true.mp h3 c hc) hcy
      · simp only [Bool.and_eq_true, decide_eq_true_eq, Bool.not_eq_true'] at h
        obtain ⟨m, rfl, hm⟩ := hx
        obtain ⟨⟨⟨rfl, h1⟩, h2⟩, h3⟩ := h
        have hl := Ams_len hm
        refine ⟨m, rfl, by omega, by omega, fun y hy => ?_⟩
        obtain ⟨c, hc, hcy⟩ := Ams_mem hm hy
        exact ih (List.all_eq_true.mp h3 c hc) hcy
      · simp only [Bool.and_eq_true, decide_eq_true_eq, Bool.or_eq_true, beq_iff_eq] at h
        obtain ⟨m, rfl, h1, h2, hm⟩ := hx
        obtain ⟨⟨⟨rfl, h3⟩, h4⟩, h5⟩ := h
        refine ⟨m, rfl, by omega, by omega, fun y hy => ?_⟩
        rcases h5 with h5 | h5
        · have : m = [] := List.length_eq_zero_iff.mp (by omega)
          subst this; cases hy
        · exact ih h5 (hm y hy)
      · have := eq_of_beq h
        subst this
        exact hx
      · simp only [decide_eq_true_eq] at h
        obtain ⟨l, e, h1, h2⟩ := hx
        exact ⟨l, e, by omega, h2⟩
      · exact hx
      · cases h

/-! ### joining -/
def A.tops : A → List A
  | .or l => l
  | a => [a]
def A.mk : List A → A
  | [a] => a
  | l => .or l
def A.fuel : Nat := 40
/-- one kind for both, if it is a simple one -/
def A.merge : A → A → Option A
  | .int a b, .int c d => some (.int (if a ≤ c then a else c) (if b ≤ d then d else b))
  | .bl a, .bl b => some (.bl (if a = b then a else none))
  | .txs l, .txs m => some (.txs (l ++ m.filter fun s => !l.contains s))
  | .seq t lo hi a, .seq t' lo' hi' b => if t = t' then (if A.sub A.fuel a b then some (.seq t (min lo lo') (max hi hi') b) else if A.sub A.fuel b a then some (.seq t (min lo lo') (max hi hi') a) else none) else none
  | a, b => if A.sub A.fuel a b then some b else if A.sub A.fuel b a then some a else none
theorem merge_ok {a b c : A} {x : D} (h : A.merge a b = some c) : (Am Pi a x → Am Pi c x) ∧ (Am Pi b x → Am Pi c x) := by
  unfold A.merge at h
  split at h
  · cases h
    constructor
    · rintro ⟨i, rfl, h1, h2⟩
      exact ⟨i, rfl, by split <;> omega, by split <;> omega⟩
    · rintro ⟨i, rfl, h1, h2⟩
      exact ⟨i, rfl, by split <;> omega, by split <;> omega⟩
  · rename_i p q
    cases h
    by_cases e : p = q
    · subst e; simp
    · simp only [e, if_false]
      constructor
      · intro h
        cases p with
        | none => exact h
        | some p => exact ⟨p, h⟩
      · intro h
        cases q with
        | none => exact h
        | some p => exact ⟨p, h⟩
  · cases h
    constructor
    · rintro ⟨s, hs, rfl⟩
      exact ⟨s, List.mem_append_left _ hs, rfl⟩
    · rename_i l m
      rintro ⟨s, hs, rfl⟩
      refine ⟨s, ?_, rfl⟩
      by_cases q : s ∈ l
      · exact List.mem_append_left _ q
      · exact List.mem_append_right _ (List.mem_filter.mpr ⟨hs, by simpa using q⟩)
  · split at h
    · rename_i e
      subst e
      split at h
      · rename_i hs
        cases h
        constructor
        · rintro ⟨m, rfl, h1, h2, hm⟩
          exact ⟨m, rfl, by omega, by omega, fun y hy => sub_ok _ hs (hm y hy)⟩
        · rintro ⟨m, rfl, h1, h2, hm⟩
          exact ⟨m, rfl, by omega, by omega, hm⟩
      · split at h
        · rename_i hs
          cases h
          constructor
          · rintro ⟨m, rfl, h1, h2, hm⟩
            exact ⟨m, rfl, by omega, by omega, hm⟩
          · rintro ⟨m, rfl, h1, h2, hm⟩
            exact ⟨m, rfl, by omega, by omega, fun y hy => sub_ok _ hs (hm y hy)⟩
        · cases h
    · cases h
  · split at h
    · cases h
      exact ⟨fun hx => sub_ok _ (by assumption) hx, fun hx => hx⟩
    · split at h
      · cases h
        exact ⟨fun hx => hx, fun hx => sub_ok _ (by assumption) hx⟩
      · cases h
def A.ins (a : A) : List A → List A
  | [] => [a]
  | b :: l => match A.merge a b with
    | some c => c :: l
    | none => b :: A.ins a l
theorem ins_ok {a : A} {x : D} : ∀ {l : List A}, (Am Pi a x → Amo Pi (A.ins a l) x) ∧ (Amo Pi l x → Amo Pi (A.ins a l) x)
  | [] => ⟨fun h => .inl h, fun h => by cases h⟩
  | b :: l => by
    unfold A.ins
    split
    · rename_i c hc
      obtain ⟨h1, h2⟩ := merge_ok (Pi := Pi) (x := x) hc
      exact ⟨fun h => .inl (h1 h), fun h => h.elim (fun h => .inl (h2 h)) .inr⟩
    · obtain ⟨h1, h2⟩ := ins_ok (a := a) (x := x) (l := l)
      exact ⟨fun h => .inr (h1 h), fun h => h.elim .inl fun h => .inr (h2 h)⟩
def A.join (a b : A) : A := A.mk (a.tops.foldr A.ins b.tops)
theorem mk_ok {l : List A} {x : D} : Am Pi (A.mk l) x ↔ Amo Pi l x := by
  unfold A.mk
  split
  · simp [Amo]
  · rfl
theorem tops_ok {a : A} {x : D} : Amo Pi a.tops x ↔ Am Pi a x := by
  unfold A.tops
  split
  · rfl
  · simp [Amo]
theorem join_ok {a b : A} {x : D} : (Am Pi a x → Am Pi (a.join b) x) ∧ (Am Pi b x → Am Pi (a.join b) x) := by
  unfold A.join
  rw [mk_ok, ← tops_ok (a := a), ← tops_ok (a := b)]
  generalize a.tops = l
  generalize b.tops = m
  induction l with
  | nil => exact ⟨(fun h => (h : False).elim), fun h => h⟩
  | cons c l ih =>
    simp only [List.foldr_cons]
    exact ⟨fun h => h.elim (fun h => ins_ok.1 h) fun h => ins_ok.2 (ih.1 h), fun h => ins_ok.2 (ih.2 h)⟩
/-- all of them, none lacking -/
def joinO : List (Option A) → Option A
  | [] => none
  | [o] => o
  | o :: l => match o, joinO l with
    | some a, some b => some (a.join b)
    | _, _ => none
theorem joinO_ok : ∀ {l : List (Option A)} {c : A}, joinO l = some c → ∀ o ∈ l, ∃ a, o = some a ∧ ∀ x, Am Pi a x → Am Pi c x
  | [], c, h, o, ho => by cases ho
  | [p], c, h, o, ho => by
    rcases List.mem_singleton.mp ho with rfl
    exact ⟨c, h, fun x hx => hx⟩
  | p :: q :: l, c, h, o, ho => by
    simp only [joinO] at h
    split at h
    · rename_i a b hb
      cases h
      rcases List.mem_cons.mp ho with rfl | ho
      · exact ⟨a, rfl, fun x hx => join_ok.1 hx⟩
      · obtain ⟨d, e, hd⟩ := joinO_ok hb o ho
        exact ⟨d, e, fun x hx => join_ok.2 (hd x hx)⟩
    · cases h
/-! ### one by one -/
def A.alts : A → List A
  | .or l => l
  | .txs l => l.map fun s => .txs [s]
  | .bl none => [.bl (some true), .bl (some false)]
  | a => [a]
theorem alts_ok {a : A} {x : D} (h : Am Pi a x) : ∃ b ∈ a.alts, Am Pi b x := by
  unfold A.alts
  split
  · exact Amo_iff.mp h
  · obtain ⟨s, hs, rfl⟩ := h
    exact ⟨.txs [s], List.mem_map.mpr ⟨s, hs, rfl⟩, s, by simp, rfl⟩
  · obtain ⟨b, rfl⟩ := h
    cases b
    · exact ⟨.bl (some false), by simp, rfl⟩
    · exact ⟨.bl (some true), by simp, rfl⟩
  · exact ⟨_, List.mem_singleton.mpr rfl, h⟩
/-- twice, for an or of texts -/
def A.alts2 (a : A) : List A := a.alts.flatMap A.alts
theorem alts2_ok {a : A} {x : D} (h : Am Pi a x) : ∃ b ∈ a.alts2, Am Pi b x := by
  obtain ⟨b, hb, hx⟩ := alts_ok h
  obtain ⟨c, hc, hx⟩ := alts_ok hx
  exact ⟨c, List.mem_flatMap.mpr ⟨b, hb, hc⟩, hx⟩
def lift1 (f : A → Option A) (a : A) : Option A := joinO (a.alts2.map f)
def lift2 (f : A → A → Option A) (a b : A) : Option A := joinO (a.alts2.flatMap fun a => b.alts2.map fun b => f a b)
/-- f tells of what g makes -/
def Snd1 (Pi : Par) (f : A → Option A) (g : D → Option D) : Prop := ∀ {a c : A} {x : D}, f a = some c → Am Pi a x → ∃ z, g x = some z ∧ Am Pi c z
def Snd2 (Pi : Par) (f : A → A → Option A) (g : D → D → Option D) : Prop := ∀ {a b c : A} {x y : D}, f a b = some c → Am Pi a x → Am Pi b y → ∃ z, g x y = some z ∧ Am Pi c z
theorem lift1_ok {f : A → Option A} {g : D → Option D} (h : Snd1 Pi f g) : Snd1 Pi (lift1 f) g := by
  intro a c x e hx
  obtain ⟨b, hb, hbx⟩ := alts2_ok hx
  obtain ⟨d, hd, hc⟩ := joinO_ok e (f b) (List.mem_map.mpr ⟨b, hb, rfl⟩)
  obtain ⟨z, h1, h2⟩ := h hd hbx
  exact ⟨z, h1, hc z h2⟩
theorem lift2_ok {f : A → A → Option A} {g : D → D → Option D} (h : Snd2 Pi f g) : Snd2 Pi (lift2 f) g := by
  intro a b c x y e hx hy
  obtain ⟨a', ha, hax⟩ := alts2_ok hx
  obtain ⟨b', hb, hby⟩ := alts2_ok hy
  obtain ⟨d, hd, hc⟩ := joinO_ok e (f a' b') (List.mem_flatMap.mpr ⟨a', ha, List.mem_map.mpr ⟨b', hb, rfl⟩⟩)
  obtain ⟨z, h1, h2⟩ := h hd hax hby
  exact ⟨z, h1, hc z h2⟩
end
end Ev

end

section
set_option Elab.async false
set_option linter.all false
set_option maxRecDepth 100000
set_option maxHeartbeats 1000000
/-! Ev, kinds: what the built-in things make of them. -/
namespace Ev
section
variable {Pi : Par}
/-! ### kinds of things -/
def kindD : D → Nat
  | .non => 0 | .bl _ => 1 | .int _ => 2 | .str _ => 3 | .tup _ => 4 | .lst _ => 5 | .dct _ => 6 | .ins _ _ => 7
def A.kind : A → Option Nat
  | .non => some 0 | .bl _ => some 1 | .int _ _ => some 2 | .txs _ => some 3 | .txL _ => some 3 | .tup _ => some 4 | .lst _ => some 5
  | .seq t _ _ _ => some (cond t 4 5) | .dct _ => some 6 | .dk _ => some 5 | _ => none
theorem kind_ok {a : A} {x : D} {k : Nat} (h : a.kind = some k) (hx : Am Pi a x) : kindD x = k := by
  cases a with
  | int => obtain ⟨i, rfl, _⟩ := hx; cases h; rfl
  | bl o => cases h; cases o with
    | none => obtain ⟨b, rfl⟩ := hx; rfl
    | some b => cases hx; rfl
  | non => cases hx; cases h; rfl
  | txs => obtain ⟨i, _, rfl⟩ := hx; cases h; rfl
  | txL => obtain ⟨i, _, rfl⟩ := hx; cases h; rfl
  | tup => obtain ⟨i, rfl, _⟩ := hx; cases h; rfl
  | lst => obtain ⟨i, rfl, _⟩ := hx; cases h; rfl
  | seq t => obtain ⟨i, rfl, _⟩ := hx; cases h; cases t <;> rfl
  | dct => obtain ⟨i, rfl, _⟩ := hx; cases h; rfl
  | dk => obtain ⟨i, rfl, _⟩ := hx; cases h; rfl
  | _ => cases h
/-- a truth -/
def aB (b : Bool) : A := .bl (some b)
def aU : A := .bl none
theorem aU_ok (b : Bool) : Am Pi aU (.bl b) := ⟨b, rfl⟩
def oU (c : Bool) : Option A := if c then some aU else none

/-! ### truth -/
def aTruth : A → Option A
  | .int lo hi => some (if 0 < lo ∨ hi < 0 then aB true else if lo = 0 ∧ hi = 0 then aB false else aU)
  | .bl o => some (.bl o)
  | .non => some (aB false)
  | .txs [s] => if s.length ≤ big then some (aB !s.isEmpty) else none
  | .txL n => if n ≤ big then some aU else none
  | .tup l => some (aB !l.isEmpty)
  | .lst l => some (aB !l.isEmpty)
  | .seq _ lo hi _ => some (if 0 < lo then aB true else if hi = 0 then aB false else aU)
  | .dct l => some (aB !l.isEmpty)
  | .any _ => some aU
  | _ => none
theorem isEmpty_len {α β : Type} {l : List α} {m : List β} (h : l.length = m.length) : l.isEmpty = m.isEmpty := by
  cases l <;> cases m <;> simp_all
theorem Amk_len : ∀ {l : List (D × A)} {m : List (D × D)}, Amk Pi l m → l.length = m.length
  | [], m, h => by simp [Amk] at h; simp [h]
  | (k, a) :: l, m, h => by
    obtain ⟨x, r, rfl, _, _, h2⟩ := h
    simp [Amk_len h2]
theorem sm_truth {x : D} (h : x.sm = true) : ∃ b, truth x = some b := by
  cases x with
  | str s => exact ⟨!s.isEmpty, by simp only [truth]; rw [if_pos]; simp [D.sm] at h; simp [big]; omega⟩
  | ins => simp [D.sm] at h
  | _ => exact ⟨_, rfl⟩
theorem aTruth_ok : Snd1 Pi aTruth (fun x => (truth x).map .bl) := by
  intro a c x h hx
  unfold aTruth at h
  split at h
  · cases h
    obtain ⟨i, rfl, h1, h2⟩ := hx
    refine ⟨.bl (i != 0), rfl, ?_⟩
    split
    · have : i ≠ 0 := by omega
      simp [aB, Am, this]
    · split
      · have : i = 0 := by omega
        simp [aB, Am, this]
      · exact aU_ok _
  · rename_i o
    cases h
    cases o with
    | none => obtain ⟨b, rfl⟩ := hx; exact ⟨.bl b, rfl, b, rfl⟩
    | some b => cases hx; exact ⟨.bl b, rfl, rfl⟩
  · cases h; cases hx; exact ⟨.bl false, rfl, rfl⟩
  · rename_i s
    split at h
    · rename_i hs
      cases h
      obtain ⟨t, ht, rfl⟩ := hx
      cases List.mem_singleton.mp ht
      exact ⟨_, by simp only [truth, hs, if_true]; rfl, rfl⟩
    · cases h
  · split at h
    · cases h
      obtain ⟨s, hs, rfl⟩ := hx
      have : s.length ≤ big := by omega
      exact ⟨_, by simp only [truth, this, if_true]; rfl, aU_ok _⟩
    · cases h
  · cases h
    obtain ⟨m, rfl, hm⟩ := hx
    exact ⟨_, rfl, by rw [isEmpty_len (Ams_len hm)]; rfl⟩
  · cases h
    obtain ⟨m, rfl, hm⟩ := hx
    exact ⟨_, rfl, by rw [isEmpty_len (Ams_len hm)]; rfl⟩
  · rename_i t lo hi b
    cases h
    obtain ⟨m, rfl, h1, h2, hm⟩ := hx
    refine ⟨.bl !m.isEmpty, by cases t <;> rfl, ?_⟩
    split
    · cases m with
      | nil => simp at h1; omega
      | cons => rfl
    · split
      · cases m with
        | nil => rfl
        | cons => simp at h2; omega
      · exact aU_ok _
  · cases h
    obtain ⟨m, rfl, hm⟩ := hx
    exact ⟨_, rfl, by rw [isEmpty_len (Amk_len hm)]; rfl⟩
  · cases h
    obtain ⟨b, hb⟩ := sm_truth hx.1
    exact ⟨.bl b, by simp [hb], aU_ok _⟩
  · cases h

/-! ### operators -/
def joinAll : List A → Option A
  | [] => none
  | [a] => some a
  | a :: l => (joinAll l).map a.join
theorem joinAll_ok : ∀ {l : List A} {c : A}, joinAll l = some c → ∀ {x : D}, (∃ a ∈ l, Am Pi a x) → Am Pi c x
  | [], c, h, x, ⟨a, ha, _⟩ => by cases ha
  | [b], c, h, x, ⟨a, ha, hx⟩ => by
    cases h
    cases List.mem_singleton.mp ha
    exact hx
  | b :: d :: l, c, h, x, ⟨a, ha, hx⟩ => by
    simp only [joinAll, Option.map_eq_some_iff] at h
    obtain ⟨e, he, rfl⟩ := h
    rcases List.mem_cons.mp ha with rfl | ha
    · exact join_ok.1 hx
    · exact join_ok.2 (joinAll_ok he ⟨a, ha, hx⟩)
/-- a row's items: is it a tuple, how many, of what kind (none: it has no items) -/
def A.asSeq : A → Option (Bool × Nat × Nat × A)
  | .tup l => some (true, l.length, l.length, (joinAll l).getD .non)
  | .lst l => some (false, l.length, l.length, (joinAll l).getD .non)
  | .seq t lo hi a => some (t, lo, hi, a)
  | _ => none
theorem getD_ok {l : List A} {m : List D} (h : Ams Pi l m) : ∀ y ∈ m, Am Pi ((joinAll l).getD .non) y := by
  intro y hy
  cases e : joinAll l with
  | none =>
    cases l with
    | nil => simp [Ams] at h; subst h; cases hy
    | cons a l =>
      exfalso
      have : ∀ l : List A, l ≠ [] → joinAll l ≠ none := by
        intro l
        induction l with
        | nil => simp
        | cons a l ih =>
          intro _
          cases l with
          | nil => simp [joinAll]
          | cons b l => simpa [joinAll] using ih
      exact this _ (by simp) e
  | some c => exact joinAll_ok e (Ams_mem h hy)
theorem asSeq_ok {a : A} {t : Bool} {lo hi : Nat} {b : A} {x : D} (h : a.asSeq = some (t, lo, hi, b)) (hx : Am Pi a x) : Am Pi (.seq t lo hi b) x := by
  unfold A.asSeq at h
  split at h
  · cases h
    obtain ⟨m, rfl, hm⟩ := hx
    exact ⟨m, rfl, by rw [Ams_len hm]; exact Nat.le_refl _, by rw [Ams_len hm]; exact Nat.le_refl _, getD_ok hm⟩
  · cases h
    obtain ⟨m, rfl, hm⟩ := hx
    exact ⟨m, rfl, by rw [Ams_len hm]; exact Nat.le_refl _, by rw [Ams_len hm]; exact Nat.le_refl _, getD_ok hm⟩
  · cases h; exact hx
  · cases h
/-- the kind of items of two rows together -/
def itJoin (n : Nat) (a : A) (m : Nat) (b : A) : A := if n = 0 then b else if m = 0 then a else a.join b
theorem itJoin_ok {n m : Nat} {a b : A} {l r : List D} (hl : l.length ≤ n) (hr : r.length ≤ m) (h1 : ∀ y ∈ l, Am Pi a y) (h2 : ∀ y ∈ r, Am Pi b y) : ∀ y ∈ l ++ r, Am Pi (itJoin n a m b) y := by
  intro y hy
  unfold itJoin
  rcases List.mem_append.mp hy with q | q
  · have : n ≠ 0 := by
      intro e; subst e
      rw [List.length_eq_zero_iff.mp (by omega : l.length = 0)] at q; cases q
    simp only [this, if_false]
    split
    · exact h1 y q
    · exact join_ok.1 (h1 y q)
  · split
    · exact h2 y q
    · have : m ≠ 0 := by
        intro e; subst e
        rw [List.length_eq_zero_iff.mp (by omega : r.length = 0)] at q; cases q
      simp only [this, if_false]
      exact join_ok.2 (h2 y q)
def aApp (a b : A) : Option A := match a, b with
  | .tup l, .tup m => if l.length + m.length ≤ 1000 then some (.tup (l ++ m)) else none
  | .lst l, .lst m => if l.length + m.length ≤ 1000 then some (.lst (l ++ m)) else none
  | a, b => match a.asSeq, b.asSeq with
    | some (t, lo, hi, a), some (t', lo', hi', b) => if t = t' ∧ hi + hi' ≤ 100000 then some (.seq t (lo + lo') (hi + hi') (itJoin hi a hi' b)) else none
    | _, _ => none
theorem le_big {n : Nat} (h : n ≤ 100000) : n ≤ big := Nat.le_trans h (by decide)
theorem bl_1000 {n : Nat} (h : n ≤ 1000) : n ≤ big := Nat.le_trans h (by decide)
theorem aApp_ok : Snd2 Pi aApp (binD .add) := by
  intro a b c x y h hx hy
  unfold aApp at h
  split at h
  · split at h
    · rename_i l m hl
      cases h
      obtain ⟨p, rfl, hp⟩ := hx
      obtain ⟨q, rfl, hq⟩ := hy
      have e1 := Ams_len hp
      have e2 := Ams_len hq
      have hb : p.length + q.length ≤ big := bl_1000 (by omega)
      exact ⟨.tup (p ++ q), by simp only [binD, if_pos hb], p ++ q, rfl, Ams_app hp hq⟩
    · cases h
  · split at h
    · rename_i l m hl
      cases h
      obtain ⟨p, rfl, hp⟩ := hx
      obtain ⟨q, rfl, hq⟩ := hy
      have e1 := Ams_len hp
      have e2 := Ams_len hq
      have hb : p.length + q.length ≤ big := bl_1000 (by omega)
      exact ⟨.lst (p ++ q), by simp only [binD, if_pos hb], p ++ q, rfl, Ams_app hp hq⟩
    · cases h
  · split at h
    · rename_i t lo hi a' t' lo' hi' b' ha hb
      split at h
      · rename_i hc
        cases h
        obtain ⟨rfl, hc⟩ := hc
        obtain ⟨p, rfl, h1, h2, hp⟩ := asSeq_ok ha hx
        obtain ⟨q, rfl, h3, h4, hq⟩ := asSeq_ok hb hy
        have hbg : p.length + q.length ≤ big := le_big (by omega)
        have hm := itJoin_ok h2 h4 hp hq
        cases t with
        | true =>
          exact ⟨.tup (p ++ q), by simp only [binD, rowD]; rw [if_pos hbg], p ++ q, rfl, by simp; omega, by simp; omega, hm⟩
        | false => exact ⟨.lst (p ++ q), by simp only [binD, rowD]; rw [if_pos hbg], p ++ q, rfl, by simp; omega, by simp; omega, hm⟩
      · cases h
    · cases h
def A.strMax : A → Option Nat
  | .txs l => some (l.foldr (fun s n => Nat.max s.length n) 0)
  | .txL n => some n
  | _ => none
theorem strMax_ok {a : A} {n : Nat} {x : D} (h : a.strMax = some n) (hx : Am Pi a x) : ∃ s : List Nat, x = .str s ∧ s.length ≤ n := by
  unfold A.strMax at h
  split at h
  · rename_i l
    cases h
    obtain ⟨s, hs, rfl⟩ := hx
    refine ⟨s, rfl, ?_⟩
    induction l with
    | nil => cases hs
    | cons t l ih =>
      rcases List.mem_cons.mp hs with rfl | hs
      · exact Nat.le_max_left ..
      · exact Nat.le_trans (ih hs) (Nat.le_max_right ..)
  · cases h
    obtain ⟨s, hs, rfl⟩ := hx
    exact ⟨s, rfl, hs⟩
  · cases h
def aStrAdd (a b : A) : Option A := match a, b with
  | .txs [s], .txs [t] => if s.length + t.length ≤ 1000 then some (.txs [s ++ t]) else none
  | a, b => match a.strMax, b.strMax with
    | some n, some m => if n + m ≤ 100000 then some (.txL (n + m)) else none
    | _, _ => none
theorem aStrAdd_ok : Snd2 Pi aStrAdd (binD .add) := by
  intro a b c x y h hx hy
  unfold aStrAdd at h
  split at h
  · split at h
    · rename_i s t hl
      cases h
      obtain ⟨_, h1, rfl⟩ := hx
      obtain ⟨_, h2, rfl⟩ := hy
      cases List.mem_singleton.mp h1
      cases List.mem_singleton.mp h2
      exact ⟨.str (s ++ t), by simp only [binD, if_pos (bl_1000 hl)], s ++ t, by simp, rfl⟩
    · cases h
  · split at h
    · rename_i n m h1 h2
      split at h
      · rename_i hl
        cases h
        obtain ⟨s, rfl, hs⟩ := strMax_ok h1 hx
        obtain ⟨t, rfl, ht⟩ := strMax_ok h2 hy
        exact ⟨.str (s ++ t), by simp only [binD, if_pos (le_big (by omega : s.length + t.length ≤ 100000))], s ++ t, by simp; omega, rfl⟩
      · cases h
    · cases h
def aBin (o : Bop) (a b : A) : Option A := match o, a, b with
  | .add, .int a b, .int c d => some (.int (a + c) (b + d))
  | .add, .txs l, b => aStrAdd (.txs l) b
  | .add, .txL l, b => aStrAdd (.txL l) b
  | .add, a, b => aApp a b
  | .sub, .int a b, .int c d => some (.int (a - d) (b - c))
  | .mul, .int a b, .int c d => if 0 ≤ a ∧ 0 ≤ c ∧ d < lim then some (.int (a * c) (b * d)) else none
  | .mul, .lst l, .int c d => if c = d ∧ 0 ≤ c ∧ c ≤ 20 ∧ l.length ≤ 20 then some (.lst (List.replicate c.toNat l).flatten) else none
  | .fdiv, .int a b, .int c d => if 0 < c ∧ d < 1073741824 then (if c = d then some (.int (a / c) (b / c)) else if 0 ≤ a then some (.int 0 b) else none) else none
  | .mod, .int a b, .int c d => if 0 < c then (if 0 ≤ a ∧ b < c then some (.int a b) else some (.int 0 (d - 1))) else none
  | .pow, .int a b, .int c d => if a = b ∧ c = d ∧ 0 ≤ c ∧ c ≤ 1000 ∧ a.natAbs < 1000000 then some (.int (a ^ c.toNat) (a ^ c.toNat)) else none
  | _, _, _ => none
theorem aBin_ok (o : Bop) : Snd2 Pi (aBin o) (binD o) := by
  intro a b c x y h hx hy
  unfold aBin at h
  split at h
  · cases h
    obtain ⟨i, rfl, h1, h2⟩ := hx
    obtain ⟨j, rfl, h3, h4⟩ := hy
    exact ⟨_, rfl, i + j, rfl, by omega, by omega⟩
  · exact aStrAdd_ok h hx hy
  · exact aStrAdd_ok h hx hy
  · exact aApp_ok h hx hy
  · cases h
    obtain ⟨i, rfl, h1, h2⟩ := hx
    obtain ⟨j, rfl, h3, h4⟩ := hy
    exact ⟨_, rfl, i - j, rfl, by omega, by omega⟩
  · split at h
    · rename_i a b c d hc
      cases h
      obtain ⟨i, rfl, h1, h2⟩ := hx
      obtain ⟨j, rfl, h3, h4⟩ := hy
      have : (-lim < i ∧ i < lim) ∨ (-lim < j ∧ j < lim) := by right; have : (0:Int) < lim := by decide
                                                               omega
      refine ⟨.int (i * j), by simp only [binD, if_pos this], i * j, rfl, ?_, ?_⟩
      · exact Int.mul_le_mul h1 h3 hc.2.1 (by omega)
      · exact Int.mul_le_mul h2 h4 (by omega) (by omega)
    · cases h
  · split at h
    · rename_i l c d hc
      cases h
      obtain ⟨m, rfl, hm⟩ := hx
      obtain ⟨j, rfl, h3, h4⟩ := hy
      obtain ⟨rfl, h5, h6, h7⟩ := hc
      have e : j = c := by omega
      subst e
      have hl := Ams_len hm
      refine ⟨.lst (List.replicate j.toNat m).flatten, by simp only [binD]; rw [if_pos ⟨h5, by omega, by omega⟩], _, rfl, ?_⟩
      have : ∀ k : Nat, Ams Pi (List.replicate k l).flatten (List.replicate k m).flatten := by
        intro k
        induction k with
        | zero => rfl
        | succ k ih => rw [List.replicate_succ, List.replicate_succ, List.flatten_cons, List.flatten_cons]; exact Ams_app hm ih
      exact this _
    · cases h
  · split at h
    · rename_i a b c d hc
      obtain ⟨i, rfl, h1, h2⟩ := hx
      obtain ⟨j, rfl, h3, h4⟩ := hy
      have hj : 0 < j ∧ j < 1073741824 := by omega
      split at h
      · cases h
        have : j = c := by omega
        subst this
        exact ⟨.int (i / j), by simp only [binD, if_pos hj], i / j, rfl, Int.ediv_le_ediv hj.1 h1, Int.ediv_le_ediv hj.1 h2⟩
      · split at h
        · cases h
          refine ⟨.int (i / j), by simp only [binD, if_pos hj], i / j, rfl, Int.ediv_nonneg (by omega) (by omega), ?_⟩
          exact Int.le_trans (Int.ediv_le_self _ (by omega)) h2
        · cases h
    · cases h
  · split at h
    · rename_i a b c d hc
      obtain ⟨i, rfl, h1, h2⟩ := hx
      obtain ⟨j, rfl, h3, h4⟩ := hy
      have hj : 0 < j := by omega
      refine ⟨.int (i % j), by simp only [binD, if_pos hj], ?_⟩
      split at h
      · cases h
        rw [Int.emod_eq_of_lt (by omega) (by omega)]
        exact ⟨i, rfl, by omega, by omega⟩
      · cases h
        have := Int.emod_lt_of_pos i hj
        exact ⟨i % j, rfl, Int.emod_nonneg _ (by omega), by omega⟩
    · cases h
  · split at h
    · rename_i a b c d hc
      cases h
      obtain ⟨i, rfl, h1, h2⟩ := hx
      obtain ⟨j, rfl, h3, h4⟩ := hy
      have e1 : i = a := by omega
      have e2 : j = c := by omega
      subst e1 e2
      have : 0 ≤ j ∧ j ≤ 1000000 ∧ i.natAbs < 18446744073709551616 := by omega
      exact ⟨.int (i ^ j.toNat), by simp only [binD, if_pos this], _, rfl, Int.le_refl _, Int.le_refl _⟩
    · cases h
  · cases h
def aNeg : A → Option A
  | .int a b => some (.int (-b) (-a))
  | _ => none
theorem aNeg_ok : Snd1 Pi aNeg negD := by
  intro a c x h hx
  unfold aNeg at h
  split at h
  · cases h
    obtain ⟨i, rfl, h1, h2⟩ := hx
    exact ⟨_, rfl, -i, rfl, by omega, by omega⟩
  · cases h

/-! ### comparisons -/
theorem sm_plain : ∀ {x : D}, x.sm = true → x.plain = true := by
  have h : ∀ n (x : D), x.depth ≤ n → x.sm = true → x.plain = true := by
    intro n
    induction n with
    | zero =>
      intro x hd hx
      cases x with
      | tup => simp [D.depth] at hd
      | lst => simp [D.depth] at hd
      | dct => simp [D.depth] at hd
      | ins => simp [D.sm] at hx
      | _ => rfl
    | succ n ih =>
      have hl : ∀ l : List D, D.depths l ≤ n → D.sms l = true → D.plains l = true := by
        intro l
        induction l with
        | nil => intros; rfl
        | cons y l il =>
          intro h1 h2
          simp only [D.depths] at h1
          simp only [D.sms, Bool.and_eq_true] at h2
          have h1 := Nat.max_le.mp h1
          simp only [D.plains, Bool.and_eq_true]
          exact ⟨ih y h1.1 h2.1, il h1.2 h2.2⟩
      have hk : ∀ l : List (D × D), D.depthk l ≤ n → D.smk l = true → D.plaink l = true := by
        intro l
        induction l with
        | nil => intros; rfl
        | cons y l il =>
          obtain ⟨k, y⟩ := y
          intro h1 h2
          simp only [D.depthk] at h1
          simp only [D.smk, Bool.and_eq_true] at h2
          have h1 := Nat.max_le.mp h1
          simp only [D.plaink, Bool.and_eq_true]
          exact ⟨ih y h1.1 h2.1.2, il h1.2 h2.2⟩
      intro x hd hx
      cases x with
      | tup l => simp only [D.depth] at hd; simp only [D.sm, Bool.and_eq_true] at hx; exact hl l (by omega) hx.2
      | lst l => simp only [D.depth] at hd; simp only [D.sm, Bool.and_eq_true] at hx; exact hl l (by omega) hx.2
      | dct l => simp only [D.depth] at hd; simp only [D.sm, Bool.and_eq_true] at hx; exact hk l (by omega) hx.2
      | ins => simp [D.sm] at hx
      | _ => rfl
  exact fun {x} hx => h x.depth x (Nat.le_refl _) hx
theorem any_eqOk {a : A} {x : D} (h : a.anyB 60 = true) (hx : Am Pi a x) : eqOk x = true := by
  obtain ⟨h1, h2⟩ := anyB_ok h hx
  simp only [eqOk, Bool.and_eq_true, decide_eq_true_eq]
  exact ⟨sm_plain h1, h2⟩
mutual
/-- no dicts within -/
def A.nodB : A → Bool
  | .tup l => A.nodBs l
  | .lst l => A.nodBs l
  | .seq _ _ _ a => a.nodB
  | .dct _ => false
  | .any d => decide (d = 0)
  | .or l => A.nodBs l
  | .pd _ => false
  | .dk _ => false
  | _ => true
termination_by structural a => a
def A.nodBs : List A → Bool
  | [] => true
  | a :: l => a.nodB && A.nodBs l
termination_by structural a => a
end
theorem nodcts_iff : ∀ {l : List D}, D.nodcts l = true ↔ ∀ x ∈ l, x.nodct = true
  | [] => by simp [D.nodcts]
  | x :: l => by simp [D.nodcts, nodcts_iff (l := l)]
mutual
theorem nodB_ok : ∀ {a : A} {x : D}, a.nodB = true → Am Pi a x → x.nodct = true
  | .int _ _, x, h, hx => by obtain ⟨i, rfl, _⟩ := hx; rfl
  | .bl o, x, h, hx => by
    cases o with
    | none => obtain ⟨b, rfl⟩ := hx; rfl
    | some b => cases hx; rfl
  | .non, x, h, hx => by cases hx; rfl
  | .txs _, x, h, hx => by obtain ⟨i, _, rfl⟩ := hx; rfl
  | .txL _, x, h, hx => by obtain ⟨i, _, rfl⟩ := hx; rfl
  | .tup l, x, h, hx => by
    obtain ⟨m, rfl, hm⟩ := hx
    exact nodcts_iff.mpr (nodBs_ok h hm)
  | .lst l, x, h, hx => by
    obtain ⟨m, rfl, hm⟩ := hx
    exact nodcts_iff.mpr (nodBs_ok h hm)
  | .seq t _ _ a, x, h, hx => by
    obtain ⟨m, rfl, _, _, hm⟩ := hx
    have : ∀ y ∈ m, y.nodct = true := fun y hy => nodB_ok (a := a) h (hm y hy)
    cases t <;> exact nodcts_iff.mpr this
  | .dct _, x, h, hx => by cases h
  | .any d, x, h, hx => by
    simp only [A.nodB, decide_eq_true_eq] at h
    subst h
    obtain ⟨h1, h2⟩ := hx
    cases x with
    | dct => simp [D.depth] at h2
    | tup => simp [D.depth] at h2
    | lst => simp [D.depth] at h2
    | _ => rfl
  | .or l, x, h, hx => nodBo_ok h hx
  | .pd _, x, h, hx => by cases h
  | .dk _, x, h, hx => by cases h
termination_by structural a => a
theorem nodBs_ok : ∀ {l : List A} {m : List D}, A.nodBs l = true → Ams Pi l m → ∀ x ∈ m, x.nodct = true
  | [], m, h, hm, x, hx => by simp [Ams] at hm; subst hm; cases hx
  | a :: l, m, h, hm, x, hx => by
    obtain ⟨y, r, rfl, h1, h2⟩ := hm
    simp only [A.nodBs, Bool.and_eq_true] at h
    rcases List.mem_cons.mp hx with rfl | hx
    · exact nodB_ok h.1 h1
    · exact nodBs_ok h.2 h2 x hx
termination_by structural a => a
theorem nodBo_ok : ∀ {l : List A} {x : D}, A.nodBs l = true → Amo Pi l x → x.nodct = true
  | [], x, h, hx => by cases hx
  | a :: l, x, h, hx => by
    simp only [A.nodBs, Bool.and_eq_true] at h
    rcases hx with hx | hx
    · exact nodB_ok h.1 hx
    · exact nodBo_ok h.2 hx
termination_by structural a => a
end
/-- truths and whole numbers may be equal -/
def kNum (k : Nat) : Nat := if k = 1 then 2 else k
/-- == : true, false, not known -/
def tEq (a b : A) : Option Bool := match a, b with
  | .int a b, .int c d => if b < c ∨ d < a then some false else if a = b ∧ c = d then some (decide (a = c)) else none
  | .txs [s], .txs [t] => some (s == t)
  | .bl (some a), .bl (some b) => some (a == b)
  | .non, .non => some true
  | a, b => match a.asSeq, b.asSeq with
    | some (t, lo, hi, _), some (t', lo', hi', _) => if hi < lo' ∨ hi' < lo ∨ t ≠ t' then some false else if hi = 0 ∧ hi' = 0 then some true else none
    | _, _ => match a.kind, b.kind with
      | some k, some q => if kNum k ≠ kNum q then some false else none
      | _, _ => none
theorem eqDs_len : ∀ {l m : List D}, eqDs l m = true → l.length = m.length
  | [], [], _ => rfl
  | [], _ :: _, h => by simp [eqDs] at h
  | _ :: _, [], h => by simp [eqDs] at h
  | x :: l, y :: m, h => by
    simp only [eqDs, Bool.and_eq_true] at h
    simp [eqDs_len h.2]
theorem eqD_kind {x y : D} (h : kNum (kindD x) ≠ kNum (kindD y)) : eqD x y = false := by
  cases x <;> cases y <;> first | rfl | (exfalso; exact h rfl)
theorem tEq_ok {a b : A} {x y : D} {t : Bool} (h : tEq a b = some t) (hx : Am Pi a x) (hy : Am Pi b y) : eqD x y = t := by
  unfold tEq at h
  split at h
  · obtain ⟨i, rfl, h1, h2⟩ := hx
    obtain ⟨j, rfl, h3, h4⟩ := hy
    split at h
    · cases h
      have : i ≠ j := by omega
      simp [eqD, this]
    · split at h
      · rename_i a b c d h5 h6
        cases h
        have e1 : i = a := by omega
        have e2 : j = c := by omega
        subst e1 e2
        simp only [eqD]
        by_cases q : i = j <;> simp [q]
      · cases h
  · cases h
    obtain ⟨_, h1, rfl⟩ := hx
    obtain ⟨_, h2, rfl⟩ := hy
    cases List.mem_singleton.mp h1
    cases List.mem_singleton.mp h2
    rfl
  · cases h; cases hx; cases hy; rfl
  · cases h; cases hx; cases hy; rfl
  · split at h
    · rename_i t1 lo hi p t2 lo' hi' q ha hb
      obtain ⟨m, rfl, h1, h2, _⟩ := asSeq_ok ha hx
      obtain ⟨n, rfl, h3, h4, _⟩ := asSeq_ok hb hy
      split at h
      · rename_i hc
        cases h
        rcases Bool.eq_false_or_eq_true (eqD (rowD t1 m) (rowD t2 n)) with q | q
        · exfalso
          have : t1 = t2 ∧ m.length = n.length := by
            cases t1 <;> cases t2 <;> simp only [rowD, eqD] at q
            · exact ⟨rfl, eqDs_len q⟩
            · cases q
            · cases q
            · exact ⟨rfl, eqDs_len q⟩
          rcases hc with hc | hc | hc
          · omega
          · omega
          · exact hc this.1
        · exact q
      · split at h
        · rename_i hc hd
          cases h
          have e1 : m = [] := List.length_eq_zero_iff.mp (by omega)
          have e2 : n = [] := List.length_eq_zero_iff.mp (by omega)
          have e3 : t1 = t2 := Decidable.byContradiction fun e => hc (.inr (.inr e))
          subst e1 e2 e3
          cases t1 <;> rfl
        · cases h
    · split at h
      · rename_i k q hk hq
        split at h
        · rename_i hn
          cases h
          refine eqD_kind ?_
          rw [kind_ok hk hx, kind_ok hq hy]
          exact hn
        · cases h
      · cases h
def oB : Option Bool → A
  | some b => aB b
  | none => aU
theorem oB_ok {o : Option Bool} {b : Bool} (h : ∀ c, o = some c → b = c) : Am Pi (oB o) (.bl b) := by
  cases o with
  | none => exact aU_ok b
  | some c => rw [h c rfl]; rfl
def aEq (a b : A) : Option A := if a.anyB 60 && b.anyB 60 then some (oB (tEq a b)) else none
theorem aEq_ok : Snd2 Pi aEq (fun x y => (eqA x y).map .bl) := by
  intro a b c x y h hx hy
  unfold aEq at h
  split at h
  · rename_i hh
    cases h
    simp only [Bool.and_eq_true] at hh
    refine ⟨.bl (eqD x y), by simp [eqA, any_eqOk hh.1 hx, any_eqOk hh.2 hy], oB_ok fun c hc => tEq_ok hc hx hy⟩
  · cases h
def aNe (a b : A) : Option A := if a.anyB 60 && b.anyB 60 && a.nodB && b.nodB then some (oB ((tEq a b).map (!·))) else none
theorem aNe_ok : Snd2 Pi aNe (fun x y => (neA x y).map .bl) := by
  intro a b c x y h hx hy
  unfold aNe at h
  split at h
  · rename_i hh
    cases h
    simp only [Bool.and_eq_true] at hh
    refine ⟨.bl (!eqD x y), by simp [neA, any_eqOk hh.1.1.1 hx, any_eqOk hh.1.1.2 hy, nodB_ok hh.1.2 hx, nodB_ok hh.2 hy], oB_ok fun c hc => ?_⟩
    cases e : tEq a b with
    | none => rw [e] at hc; cases hc
    | some t => rw [e] at hc; cases hc; rw [tEq_ok e hx hy]
  · cases h
def tLt (a b c d : Int) : Option Bool := if b < c then some true else if d ≤ a then some false else none
/-- is x one of these -/
def tIn (a : A) : List A → Option Bool
  | [] => some false
  | b :: l => match tEq b a, tIn a l with
    | some true, _ => some true
    | _, some true => some true
    | some false, some false => some false
    | _, _ => none
theorem tIn_ok {a : A} {x : D} (hx : Am Pi a x) : ∀ {l : List A} {m : List D} {t : Bool}, tIn a l = some t → Ams Pi l m → (m.any fun y => eqD y x) = t
  | [], m, t, h, hm => by simp [Ams] at hm; subst hm; cases h; rfl
  | b :: l, m, t, h, hm => by
    obtain ⟨y, r, rfl, h1, h2⟩ := hm
    simp only [tIn] at h
    rw [List.any_cons]
    split at h
    · rename_i e
      cases h
      rw [tEq_ok e h1 hx]; rfl
    · rename_i e _
      cases h
      rw [tIn_ok hx e h2]; simp
    · rename_i e1 e2
      cases h
      rw [tEq_ok e1 h1 hx, tIn_ok hx e2 h2]; rfl
    · cases h
/-- neither row nor dict -/
def A.leafB (a : A) : Bool := match a.kind with
  | some k => decide (k ≤ 3)
  | none => false
theorem leafB_ok {a : A} {y x : D} (h : a.leafB = true) (hy : Am Pi a y) : unlike y x = true := by
  unfold A.leafB at h
  split at h
  · rename_i k hk
    have := kind_ok hk hy
    simp only [decide_eq_true_eq] at h
    cases y <;> first | rfl | (simp [kindD] at this; omega)
  · cases h
def aIn (a b : A) : Option A := match b with
  | .lst l => if a.anyB 60 && A.anyBs l 60 && (a.nodB && A.nodBs l || l.all A.leafB) then some (oB (tIn a l)) else none
  | .tup l => if a.anyB 60 && A.anyBs l 60 && (a.nodB && A.nodBs l || l.all A.leafB) then some (oB (tIn a l)) else none
  | .seq _ _ _ b => if a.anyB 60 && a.nodB && b.anyB 60 && b.nodB then some aU else none
  | .txs [s] => match a with
    | .txs [[c]] => some (aB (decide (c ∈ s)))
    | _ => none
  | .dct l => match a with
    | .txs [s] => some (aB (l.any fun p => kEq p.1 (.str s)))
    | .int i j => if i = j then some (aB (l.any fun p => kEq p.1 (.int i))) else none
    | _ => none
  | _ => none
theorem kGet_any {k : D} : ∀ {l : List (D × A)} {m : List (D × D)}, Amk Pi l m → (kGet k m).isSome = l.any fun p => kEq p.1 k
  | [], m, h => by simp [Amk] at h; subst h; rfl
  | (q, a) :: l, m, h => by
    obtain ⟨x, r, rfl, _, h1, h2⟩ := h
    simp only [kGet, List.any_cons]
    by_cases e : kEq q k = true
    · simp [e]
    · simp [e, kGet_any h2]
theorem anyBs_mem {l : List A} {d : Nat} (h : A.anyBs l d = true) {a : A} (ha : a ∈ l) : a.anyB d = true := by
  induction l with
  | nil => cases ha
  | cons b l ih =>
    simp only [A.anyBs, Bool.and_eq_true] at h
    rcases List.mem_cons.mp ha with rfl | ha
    · exact h.1
    · exact ih h.2 ha
theorem nodBs_mem {l : List A} (h : A.nodBs l = true) {a : A} (ha : a ∈ l) : a.nodB = true := by
  induction l with
  | nil => cases ha
  | cons b l ih =>
    simp only [A.nodBs, Bool.and_eq_true] at h
    rcases List.mem_cons.mp ha with rfl | ha
    · exact h.1
    · exact ih h.2 ha
theorem aIn_ok : Snd2 Pi aIn (fun x y => (inD x y).map .bl) := by
  intro a b c x y h hx hy
  have key : ∀ {l : List A} {m : List D}, (a.anyB 60 && A.anyBs l 60 && (a.nodB && A.nodBs l || l.all A.leafB)) = true → Ams Pi l m → (eqOk x && m.all (inOk x)) = true := by
    intro l m hh hm
    simp only [Bool.and_eq_true, Bool.or_eq_true] at hh
    simp only [Bool.and_eq_true, List.all_eq_true]
    refine ⟨any_eqOk hh.1.1 hx, fun z hz => ?_⟩
    obtain ⟨e, he, hez⟩ := Ams_mem hm hz
    rcases hh.2 with q | q
    · simp [inOk, any_eqOk (anyBs_mem hh.1.2 he) hez, nodB_ok q.1 hx, nodB_ok (nodBs_mem q.2 he) hez]
    · simp [inOk, any_eqOk (anyBs_mem hh.1.2 he) hez, leafB_ok (x := x) (List.all_eq_true.mp q e he) hez]
  unfold aIn at h
  split at h
  · split at h
    · rename_i l hh
      cases h
      obtain ⟨m, rfl, hm⟩ := hy
      exact ⟨.bl (m.any fun y => eqD y x), by simp only [inD]; rw [if_pos (key hh hm)]; rfl, oB_ok fun c hc => tIn_ok hx hc hm⟩
    · cases h
  · split at h
    · rename_i l hh
      cases h
      obtain ⟨m, rfl, hm⟩ := hy
      exact ⟨.bl (m.any fun y => eqD y x), by simp only [inD]; rw [if_pos (key hh hm)]; rfl, oB_ok fun c hc => tIn_ok hx hc hm⟩
    · cases h
  · rename_i t lo hi b
    split at h
    · rename_i hh
      cases h
      obtain ⟨m, rfl, _, _, hm⟩ := hy
      simp only [Bool.and_eq_true] at hh
      have : (eqOk x && m.all (inOk x)) = true := by
        simp only [Bool.and_eq_true, List.all_eq_true]
        refine ⟨any_eqOk hh.1.1.1 hx, fun z hz => ?_⟩
        simp [inOk, any_eqOk hh.1.2 (hm z hz), nodB_ok hh.1.1.2 hx, nodB_ok hh.2 (hm z hz)]
      cases t <;> exact ⟨.bl (m.any fun y => eqD y x), by simp only [rowD, inD]; rw [if_pos this]; rfl, aU_ok _⟩
    · cases h
  · rename_i s
    split at h
    · cases h
      obtain ⟨_, h1, rfl⟩ := hx
      obtain ⟨_, h2, rfl⟩ := hy
      cases List.mem_singleton.mp h1
      cases List.mem_singleton.mp h2
      exact ⟨_, rfl, rfl⟩
    · cases h
  · rename_i l
    obtain ⟨m, rfl, hm⟩ := hy
    split at h
    · rename_i s
      cases h
      obtain ⟨_, h1, rfl⟩ := hx
      cases List.mem_singleton.mp h1
      exact ⟨.bl (kGet (.str s) m).isSome, rfl, by rw [kGet_any hm]; rfl⟩
    · rename_i i j
      split at h
      · rename_i e
        cases h
        obtain ⟨k, rfl, h1, h2⟩ := hx
        have : k = i := by omega
        subst this
        exact ⟨.bl (kGet (.int k) m).isSome, rfl, by rw [kGet_any hm]; rfl⟩
      · cases h
    · cases h
  · cases h
def aNot : A → Option A
  | .bl (some b) => some (aB !b)
  | .bl none => some aU
  | _ => none
theorem aNot_ok {a c : A} {b : Bool} (h : aNot a = some c) (hx : Am Pi a (.bl b)) : Am Pi c (.bl (!b)) := by
  unfold aNot at h
  split at h
  · cases h; cases hx; rfl
  · cases h; exact aU_ok _
  · cases h
mutual
/-- a kind of one thing alone -/
def A.ex : A → Option D
  | .int a b => if a = b then some (.int a) else none
  | .bl o => o.map .bl
  | .non => some .non
  | .txs l => match l with
    | [s] => some (.str s)
    | _ => none
  | .tup l => (A.exs l).map .tup
  | .lst l => (A.exs l).map .lst
  | _ => none
termination_by structural a => a
def A.exs : List A → Option (List D)
  | [] => some []
  | a :: l => match a.ex with
    | some x => (A.exs l).map (x :: ·)
    | none => none
termination_by structural a => a
end
mutual
theorem ex_ok : ∀ {a : A} {x y : D}, a.ex = some y → Am Pi a x → x = y
  | .int a b, x, y, h, hx => by
    simp only [A.ex] at h
    split at h
    · cases h
      obtain ⟨i, rfl, h1, h2⟩ := hx
      have : i = a := by omega
      rw [this]
    · cases h
  | .bl o, x, y, h, hx => by
    cases o with
    | none => simp [A.ex] at h
    | some b => simp [A.ex] at h; subst h; exact hx
  | .non, x, y, h, hx => by simp [A.ex] at h; subst h; exact hx
  | .txs l, x, y, h, hx => by
    obtain ⟨s, hs, rfl⟩ := hx
    simp only [A.ex] at h
    split at h
    · cases h
      simp at hs
      rw [hs]
    · cases h
  | .tup l, x, y, h, hx => by
    simp only [A.ex, Option.map_eq_some_iff] at h
    obtain ⟨m, h1, rfl⟩ := h
    obtain ⟨l', rfl, h2⟩ := hx
    rw [exs_ok h1 h2]
  | .lst l, x, y, h, hx => by
    simp only [A.ex, Option.map_eq_some_iff] at h
    obtain ⟨m, h1, rfl⟩ := h
    obtain ⟨l', rfl, h2⟩ := hx
    rw [exs_ok h1 h2]
  | .txL _, x, y, h, hx => by simp [A.ex] at h
  | .seq _ _ _ _, x, y, h, hx => by simp [A.ex] at h
  | .dct _, x, y, h, hx => by simp [A.ex] at h
  | .any _, x, y, h, hx => by simp [A.ex] at h
  | .or _, x, y, h, hx => by simp [A.ex] at h
  | .pd _, x, y, h, hx => by simp [A.ex] at h
  | .dk _, x, y, h, hx => by simp [A.ex] at h
termination_by structural a => a
theorem exs_ok : ∀ {l : List A} {xs ys : List D}, A.exs l = some ys → Ams Pi l xs → xs = ys
  | [], xs, ys, h, hx => by simp [A.exs] at h; subst h; exact hx
  | a :: l, xs, ys, h, hx => by
    obtain ⟨x, r, rfl, h1, h2⟩ := hx
    simp only [A.exs] at h
    split at h
    · rename_i y hy
      simp only [Option.map_eq_some_iff] at h
      obtain ⟨m, h3, rfl⟩ := h
      rw [ex_ok hy h1, exs_ok h3 h2]
    · cases h
termination_by structural a => a
end
def aCmp (o : Cop) (a b : A) : Option A := match o with
  | .eq => (match a.ex, b.ex with
    | some x, some y => (eqA x y).map aB
    | _, _ => aEq a b)
  | .ne => (match a.ex, b.ex with
    | some x, some y => (neA x y).map aB
    | _, _ => aNe a b)
  | .lt => (match a, b with
    | .int a b, .int c d => some (oB (tLt a b c d))
    | .txs _, .txs _ => some aU
    | .txL _, .txL _ => some aU
    | _, _ => none)
  | .le => (match a, b with
    | .int a b, .int c d => some (oB ((tLt c d a b).map (!·)))
    | .txs _, .txs _ => some aU
    | .txL _, .txL _ => some aU
    | _, _ => none)
  | .gt => (match a, b with
    | .int a b, .int c d => some (oB (tLt c d a b))
    | _, _ => none)
  | .ge => (match a, b with
    | .int a b, .int c d => some (oB ((tLt a b c d).map (!·)))
    | _, _ => none)
  | .is => (match b with
    | .non => (match a.kind with
      | some k => some (aB (decide (k = 0)))
      | none => some aU)
    | _ => none)
  | .isnot => (match b with
    | .non => (match a.kind with
      | some k => some (aB (decide (k ≠ 0)))
      | none => some aU)
    | _ => none)
  | .isin => aIn a b
  | .notin => (aIn a b).bind aNot
theorem tLt_ok {a b c d i j : Int} {t : Bool} (h : tLt a b c d = some t) (h1 : a ≤ i) (h2 : i ≤ b) (h3 : c ≤ j) (h4 : j ≤ d) : decide (i < j) = t := by
  unfold tLt at h
  split at h
  · cases h; simp; omega
  · split at h
    · cases h; simp; omega
    · cases h
theorem isNon_kind (x : D) : x.isNon = decide (kindD x = 0) := by cases x <;> rfl
theorem aCmp_ok (o : Cop) : Snd2 Pi (aCmp o) (fun x y => (cmpD o x y).map .bl) := by
  intro a b c x y h hx hy
  unfold aCmp at h
  split at h
  · split at h
    · rename_i x' y' e1 e2
      simp only [Option.map_eq_some_iff] at h
      obtain ⟨t, h1, rfl⟩ := h
      rw [ex_ok e1 hx, ex_ok e2 hy]
      exact ⟨.bl t, by simp [h1], rfl⟩
    · obtain ⟨z, h1, h2⟩ := aEq_ok h hx hy
      exact ⟨z, by simpa using h1, h2⟩
  · split at h
    · rename_i x' y' e1 e2
      simp only [Option.map_eq_some_iff] at h
      obtain ⟨t, h1, rfl⟩ := h
      rw [ex_ok e1 hx, ex_ok e2 hy]
      exact ⟨.bl t, by simp [h1], rfl⟩
    · obtain ⟨z, h1, h2⟩ := aNe_ok h hx hy
      exact ⟨z, by simpa using h1, h2⟩
  · split at h
    · cases h
      obtain ⟨i, rfl, h1, h2⟩ := hx
      obtain ⟨j, rfl, h3, h4⟩ := hy
      exact ⟨_, rfl, oB_ok fun t ht => tLt_ok ht h1 h2 h3 h4⟩
    · cases h
      obtain ⟨s, _, rfl⟩ := hx
      obtain ⟨t, _, rfl⟩ := hy
      exact ⟨_, rfl, aU_ok _⟩
    · cases h
      obtain ⟨s, _, rfl⟩ := hx
      obtain ⟨t, _, rfl⟩ := hy
      exact ⟨_, rfl, aU_ok _⟩
    · cases h
  · split at h
    · rename_i a b c d
      cases h
      obtain ⟨i, rfl, h1, h2⟩ := hx
      obtain ⟨j, rfl, h3, h4⟩ := hy
      refine ⟨.bl (decide (i ≤ j)), rfl, oB_ok fun t ht => ?_⟩
      cases e : tLt c d a b with
      | none => rw [e] at ht; cases ht
      | some u =>
        rw [e] at ht; cases ht
        rw [← tLt_ok e h3 h4 h1 h2]
        by_cases q : i ≤ j
        · have : ¬ j < i := by omega
          simp [q]
        · have : j < i := by omega
          simp [q, this]
    · cases h
      obtain ⟨s, _, rfl⟩ := hx
      obtain ⟨t, _, rfl⟩ := hy
      exact ⟨_, rfl, aU_ok _⟩
    · cases h
      obtain ⟨s, _, rfl⟩ := hx
      obtain ⟨t, _, rfl⟩ := hy
      exact ⟨_, rfl, aU_ok _⟩
    · cases h
  · split at h
    · cases h
      obtain ⟨i, rfl, h1, h2⟩ := hx
      obtain ⟨j, rfl, h3, h4⟩ := hy
      exact ⟨_, rfl, oB_ok fun t ht => tLt_ok ht h3 h4 h1 h2⟩
    · cases h
  · split at h
    · rename_i a b c d
      cases h
      obtain ⟨i, rfl, h1, h2⟩ := hx
      obtain ⟨j, rfl, h3, h4⟩ := hy
      refine ⟨.bl (decide (j ≤ i)), rfl, oB_ok fun t ht => ?_⟩
      cases e : tLt a b c d with
      | none => rw [e] at ht; cases ht
      | some u =>
        rw [e] at ht; cases ht
        rw [← tLt_ok e h1 h2 h3 h4]
        by_cases q : j ≤ i
        · have : ¬ i < j := by omega
          simp [q]
        · have : i < j := by omega
          simp [q, this]
    · cases h
  · split at h
    · cases hy
      refine ⟨.bl x.isNon, by simp, ?_⟩
      split at h
      · rename_i k hk
        cases h
        rw [isNon_kind, kind_ok hk hx]; rfl
      · cases h; exact aU_ok _
    · cases h
  · split at h
    · cases hy
      refine ⟨.bl (!x.isNon), by simp, ?_⟩
      split at h
      · rename_i k hk
        cases h
        rw [isNon_kind, kind_ok hk hx]
        by_cases q : k = 0 <;> simp [q, aB, Am]
      · cases h; exact aU_ok _
    · cases h
  · obtain ⟨z, h1, h2⟩ := aIn_ok h hx hy
    exact ⟨z, by simpa using h1, h2⟩
  · cases e : aIn a b with
    | none => rw [e] at h; cases h
    | some d =>
      rw [e] at h
      obtain ⟨z, h1, h2⟩ := aIn_ok e hx hy
      simp only [Option.map_eq_some_iff] at h1
      obtain ⟨t, ht, rfl⟩ := h1
      exact ⟨.bl (!t), by simp [ht], aNot_ok h h2⟩
end
end Ev

end

section
set_option Elab.async false
set_option linter.all false
set_option maxRecDepth 100000
set_option maxHeartbeats 1000000
/-! Ev, kinds: subscripts, slices, built-in functions, methods. -/
namespace Ev
section
variable {Pi : Par}
/-! ### subscripts -/
def rangeIx (n : Nat) (lo hi : Int) : Option (Nat × Nat) := if 0 ≤ lo ∧ hi < n then some (lo.toNat, hi.toNat) else if hi < 0 ∧ -(n : Int) ≤ lo then some ((lo + n).toNat, (hi + n).toNat) else if -(n : Int) ≤ lo ∧ hi < n then some (0, n - 1) else none
theorem rangeIx_ok {α : Type} {m : List α} {lo hi i : Int} {p q : Nat} (h : rangeIx m.length lo hi = some (p, q)) (h1 : lo ≤ i) (h2 : i ≤ hi) : ∃ k, p ≤ k ∧ k ≤ q ∧ k < m.length ∧ ixD m i = m[k]? := by
  unfold rangeIx at h
  split at h
  · cases h
    refine ⟨i.toNat, by omega, by omega, by omega, ?_⟩
    unfold ixD
    rw [if_pos (by omega), if_pos (by omega)]
  · split at h
    · cases h
      refine ⟨(i + m.length).toNat, by omega, by omega, by omega, ?_⟩
      unfold ixD
      rw [if_neg (by omega), if_pos (by omega)]
    · split at h
      · cases h
        by_cases hi0 : 0 ≤ i
        · refine ⟨i.toNat, by omega, by omega, by omega, ?_⟩
          unfold ixD
          rw [if_pos (by omega), if_pos (by omega)]
        · refine ⟨(i + m.length).toNat, by omega, by omega, by omega, ?_⟩
          unfold ixD
          rw [if_neg (by omega), if_pos (by omega)]
      · cases h
def aIx (l : List A) (lo hi : Int) : Option A := match rangeIx l.length lo hi with
  | some (p, q) => joinAll ((l.drop p).take (q + 1 - p))
  | none => none
theorem aIx_ok {l : List A} {m : List D} {lo hi i : Int} {c : A} (h : aIx l lo hi = some c) (hm : Ams Pi l m) (h1 : lo ≤ i) (h2 : i ≤ hi) : ∃ z, ixD m i = some z ∧ Am Pi c z := by
  unfold aIx at h
  split at h
  · rename_i p q hr
    rw [Ams_len hm] at hr
    obtain ⟨k, k1, k2, k3, k4⟩ := rangeIx_ok hr h1 h2
    have hl : k < l.length := by rw [Ams_len hm]; exact k3
    obtain ⟨x, hx, ha⟩ := Ams_get hm (List.getElem?_eq_getElem hl)
    refine ⟨x, by rw [k4, hx], joinAll_ok h ⟨l[k], ?_, ha⟩⟩
    refine List.mem_iff_getElem?.mpr ⟨k - p, ?_⟩
    rw [List.getElem?_take, if_pos (by omega), List.getElem?_drop, show p + (k - p) = k by omega]
    exact List.getElem?_eq_getElem hl
  · cases h
def chA (s : List Nat) : List A := s.map fun c => .txs [[c]]
def chD (s : List Nat) : List D := s.map fun c => .str [c]
theorem ch_ok : ∀ s : List Nat, Ams Pi (chA s) (chD s)
  | [] => rfl
  | c :: s => ⟨.str [c], chD s, rfl, ⟨[c], by simp, rfl⟩, ch_ok s⟩
theorem ixD_map {α β : Type} (f : α → β) (l : List α) (i : Int) : ixD (l.map f) i = (ixD l i).map f := by
  unfold ixD
  simp only [List.length_map, List.getElem?_map]
  split
  · split <;> rfl
  · split <;> rfl
def keyA : A → Option D
  | .txs [s] => some (.str s)
  | .int i j => if i = j then some (.int i) else none
  | _ => none
theorem keyA_ok {a : A} {k x : D} (h : keyA a = some k) (hx : Am Pi a x) : x = k ∧ isK k = true := by
  unfold keyA at h
  split at h
  · cases h
    obtain ⟨_, h1, rfl⟩ := hx
    cases List.mem_singleton.mp h1
    exact ⟨rfl, rfl⟩
  · split at h
    · cases h
      obtain ⟨i, rfl, h1, h2⟩ := hx
      exact ⟨by congr 1; omega, rfl⟩
    · cases h
  · cases h
def aKGet (k : D) : List (D × A) → Option A
  | [] => none
  | (q, x) :: l => if kEq q k then some x else aKGet k l
theorem aKGet_ok {k : D} : ∀ {l : List (D × A)} {m : List (D × D)}, Amk Pi l m → match aKGet k l with
    | some a => ∃ z, kGet k m = some z ∧ Am Pi a z
    | none => kGet k m = none
  | [], m, h => by simp [Amk] at h; subst h; rfl
  | (q, a) :: l, m, h => by
    obtain ⟨x, r, rfl, _, h1, h2⟩ := h
    simp only [aKGet, kGet]
    by_cases e : kEq q k = true
    · simp only [e, if_true]; exact ⟨x, rfl, h1⟩
    · simp only [e]; exact aKGet_ok h2
def aSub (a i : A) : Option A := match a with
  | .dct l => (match keyA i with
    | some k => aKGet k l
    | none => none)
  | a => match i with
    | .int lo hi => (match a with
      | .tup l => aIx l lo hi
      | .lst l => aIx l lo hi
      | .seq _ L _ b => (match rangeIx L lo hi with
        | some _ => some b
        | none => none)
      | .txs [s] => if s.length ≤ big then aIx (chA s) lo hi else none
      | _ => none)
    | _ => none
theorem rangeIx_mono {n m : Nat} {lo hi : Int} {p : Nat × Nat} (h : rangeIx n lo hi = some p) (hl : n ≤ m) : ∃ q, rangeIx m lo hi = some q := by
  unfold rangeIx at h ⊢
  split at h
  · rw [if_pos (by omega)]; exact ⟨_, rfl⟩
  · split at h
    · rw [if_neg (by omega), if_pos (by omega)]; exact ⟨_, rfl⟩
    · split at h
      · rw [if_neg (by omega), if_neg (by omega), if_pos (by omega)]; exact ⟨_, rfl⟩
      · cases h
theorem row_sub (t : Bool) (m : List D) (i : Int) : subD (rowD t m) (.int i) = ixD m i := by cases t <;> rfl
theorem aSub_ok : Snd2 Pi aSub subD := by
  intro a i c x y h hx hy
  unfold aSub at h
  split at h
  · split at h
    · rename_i l k hk
      obtain ⟨m, rfl, hm⟩ := hx
      obtain ⟨rfl, h2⟩ := keyA_ok hk hy
      have := aKGet_ok (k := y) hm
      rw [h] at this
      obtain ⟨z, h3, h4⟩ := this
      exact ⟨z, by simp [subD, h2, h3], h4⟩
    · cases h
  · split at h
    · obtain ⟨i, rfl, h1, h2⟩ := hy
      split at h
      · obtain ⟨m, rfl, hm⟩ := hx
        exact aIx_ok h hm h1 h2
      · obtain ⟨m, rfl, hm⟩ := hx
        exact aIx_ok h hm h1 h2
      · split at h
        · rename_i p hp
          cases h
          obtain ⟨m, rfl, h3, h4, hm⟩ := hx
          obtain ⟨⟨p, q⟩, hq⟩ := rangeIx_mono hp h3
          obtain ⟨k, _, _, k3, k4⟩ := rangeIx_ok hq h1 h2
          refine ⟨m[k], ?_, hm _ (List.getElem_mem k3)⟩
          have : ixD m i = some m[k] := by rw [k4]; exact List.getElem?_eq_getElem k3
          rw [row_sub]; exact this
        · cases h
      · split at h
        · rename_i s _ hs
          obtain ⟨_, h3, rfl⟩ := hx
          cases List.mem_singleton.mp h3
          obtain ⟨z, h4, h5⟩ := aIx_ok h (ch_ok s) h1 h2
          refine ⟨z, ?_, h5⟩
          simp only [subD, hs, if_true]
          rw [← h4, chD, ixD_map]
        · cases h
      · cases h
    · cases h
/-! ### slices -/
abbrev OI := Option (Int × Int)
def OIm : OI → Option Int → Prop
  | none, o => o = none
  | some (a, b), o => ∃ v, o = some v ∧ a ≤ v ∧ v ≤ b
/-- an end that is known -/
def oiC : OI → Option (Option Int)
  | none => some none
  | some (a, b) => if a = b then some (some a) else none
theorem oiC_ok {p : OI} {o q : Option Int} (h : oiC p = some q) (ho : OIm p o) : o = q := by
  unfold oiC at h
  split at h
  · cases h; exact ho
  · split at h
    · cases h
      obtain ⟨v, rfl, h1, h2⟩ := ho
      congr 1; omega
    · cases h
theorem Ams_cut {l : List A} {m : List D} (h : Ams Pi l m) (lo hi : Option Int) : Ams Pi (cut l lo hi) (cut m lo hi) := by
  unfold cut
  rw [Ams_len h]
  exact Ams_take _ (Ams_drop _ h)
def slLen (lo hi : OI) (L H : Nat) : Nat × Nat := match lo, hi with
  | none, none => (L, H)
  | some (a, b), none => if 0 ≤ a then (L - b.toNat, H - a.toNat) else (0, H)
  | none, some (a, b) => if 0 ≤ a then (min a.toNat L, min b.toNat H) else if a = b then (L - (-a).toNat, H - (-a).toNat) else (0, H)
  | some _, some _ => (0, H)
theorem cut_len {α : Type} (m : List α) (lo hi : Option Int) : (cut m lo hi).length = min (slIx m.length m.length hi - slIx m.length 0 lo) (m.length - slIx m.length 0 lo) := by
  unfold cut
  simp
theorem cut_mem {α : Type} {m : List α} {lo hi : Option Int} {y : α} (h : y ∈ cut m lo hi) : y ∈ m := by
  unfold cut at h
  exact List.mem_of_mem_drop (List.mem_of_mem_take h)
theorem slIx_le (n d : Nat) (hd : d ≤ n) (o : Option Int) : slIx n d o ≤ n := by
  unfold slIx
  split
  · exact hd
  · split <;> omega
theorem slLen_ok {α : Type} {m : List α} {lo hi : OI} {p q : Option Int} {L H L' H' : Nat} (h : slLen lo hi L H = (L', H')) (hp : OIm lo p) (hq : OIm hi q) (h1 : L ≤ m.length) (h2 : m.length ≤ H) : L' ≤ (cut m p q).length ∧ (cut m p q).length ≤ H' := by
  rw [cut_len]
  have k1 := slIx_le m.length m.length (Nat.le_refl _) q
  have k2 := slIx_le m.length 0 (Nat.zero_le _) p
  unfold slLen at h
  split at h
  · cases h; cases hp; cases hq; simp only [slIx]; omega
  · cases hq
    obtain ⟨v, rfl, h3, h4⟩ := hp
    split at h
    · cases h
      simp only [slIx]
      rw [if_neg (by omega)]
      omega
    · cases h; omega
  · cases hp
    obtain ⟨v, rfl, h3, h4⟩ := hq
    split at h
    · cases h
      simp only [slIx]
      rw [if_neg (by omega)]
      omega
    · split at h
      · cases h
        simp only [slIx]
        rw [if_pos (by omega)]
        omega
      · cases h; omega
  · cases h; omega
def aSlc (lo hi : OI) (a : A) : Option A := match oiC lo, oiC hi, a with
  | some p, some q, .tup l => some (.tup (cut l p q))
  | some p, some q, .lst l => some (.lst (cut l p q))
  | some p, some q, .txs [s] => if s.length ≤ big then some (.txs [cut s p q]) else none
  | _, _, a => match a.asSeq with
    | some (t, L, H, b) => some (.seq t (slLen lo hi L H).1 (slLen lo hi L H).2 b)
    | none => match a.strMax with
      | some n => if n ≤ big then some (.txL n) else none
      | none => none
theorem aSlc_ok {lo hi : OI} {p q : Option Int} (hp : OIm lo p) (hq : OIm hi q) : Snd1 Pi (aSlc lo hi) (fun x => slcD x p q) := by
  intro a c x h hx
  unfold aSlc at h
  split at h
  · rename_i e1 e2
    cases h
    cases oiC_ok e1 hp; cases oiC_ok e2 hq
    obtain ⟨m, rfl, hm⟩ := hx
    exact ⟨_, rfl, _, rfl, Ams_cut hm _ _⟩
  · rename_i e1 e2
    cases h
    cases oiC_ok e1 hp; cases oiC_ok e2 hq
    obtain ⟨m, rfl, hm⟩ := hx
    exact ⟨_, rfl, _, rfl, Ams_cut hm _ _⟩
  · rename_i s e1 e2
    split at h
    · rename_i hs
      cases h
      cases oiC_ok e1 hp; cases oiC_ok e2 hq
      obtain ⟨_, h3, rfl⟩ := hx
      cases List.mem_singleton.mp h3
      exact ⟨.str (cut s p q), by simp only [slcD, hs, if_true], cut s p q, by simp, rfl⟩
    · cases h
  · split at h
    · rename_i t L H b e
      cases h
      obtain ⟨m, rfl, h1, h2, hm⟩ := asSeq_ok e hx
      obtain ⟨k1, k2⟩ := slLen_ok (m := m) (L' := (slLen lo hi L H).1) (H' := (slLen lo hi L H).2) rfl hp hq h1 h2
      refine ⟨rowD t (cut m p q), by cases t <;> rfl, _, rfl, k1, k2, fun y hy => hm y (cut_mem hy)⟩
    · split at h
      · rename_i n e
        split at h
        · rename_i hn
          cases h
          obtain ⟨s, rfl, hs⟩ := strMax_ok e hx
          have : s.length ≤ big := by omega
          refine ⟨.str (cut s p q), by simp only [slcD, this, if_true], cut s p q, ?_, rfl⟩
          rw [cut_len]; omega
        · cases h
      · cases h
/-! ### built-in functions -/
def A.allTrue : List A → Bool
  | [] => true
  | .bl (some true) :: l => A.allTrue l
  | _ => false
def A.allBl : List A → Bool
  | [] => true
  | .bl _ :: l => A.allBl l
  | _ => false
theorem allBl_ok : ∀ {l : List A} {m : List D}, A.allBl l = true → Ams Pi l m → ∃ bs, blsOf m = some bs
  | [], m, h, hm => by simp [Ams] at hm; subst hm; exact ⟨[], rfl⟩
  | a :: l, m, h, hm => by
    obtain ⟨x, r, rfl, h1, h2⟩ := hm
    unfold A.allBl at h
    split at h
    · rename_i e; cases e
    · rename_i o l' e
      cases e
      obtain ⟨bs, hb⟩ := allBl_ok h h2
      cases o with
      | none => obtain ⟨b, rfl⟩ := h1; exact ⟨b :: bs, by simp [blsOf, hb]⟩
      | some b => cases h1; exact ⟨b :: bs, by simp [blsOf, hb]⟩
    · cases h
theorem allTrue_ok : ∀ {l : List A} {m : List D}, A.allTrue l = true → Ams Pi l m → ∃ bs, blsOf m = some bs ∧ bs.all id = true
  | [], m, h, hm => by simp [Ams] at hm; subst hm; exact ⟨[], rfl, rfl⟩
  | a :: l, m, h, hm => by
    obtain ⟨x, r, rfl, h1, h2⟩ := hm
    unfold A.allTrue at h
    split at h
    · rename_i e; cases e
    · rename_i l' e
      cases e
      obtain ⟨bs, hb, hc⟩ := allTrue_ok h h2
      cases h1
      exact ⟨true :: bs, by simp [blsOf, hb], by simpa using hc⟩
    · cases h
theorem blsOf_all : ∀ {m : List D}, (∀ y ∈ m, ∃ b, y = .bl b) → ∃ bs, blsOf m = some bs ∧ ((∀ y ∈ m, y = .bl true) → bs.all id = true)
  | [], h => ⟨[], rfl, fun _ => rfl⟩
  | x :: m, h => by
    obtain ⟨b, rfl⟩ := h x (by simp)
    obtain ⟨bs, h1, h2⟩ := blsOf_all fun y hy => h y (List.mem_cons_of_mem _ hy)
    refine ⟨b :: bs, by simp [blsOf, h1], fun hh => ?_⟩
    have := hh (.bl b) (by simp)
    cases this
    simpa using h2 fun y hy => hh y (List.mem_cons_of_mem _ hy)
def A.sums : List A → Option (Int × Int)
  | [] => some (0, 0)
  | .int a b :: l => (A.sums l).map fun p => (a + p.1, b + p.2)
  | _ => none
theorem sums_ok : ∀ {l : List A} {m : List D} {a b : Int}, A.sums l = some (a, b) → Ams Pi l m → ∃ ns, intsOf m = some ns ∧ a ≤ ns.sum ∧ ns.sum ≤ b
  | [], m, a, b, h, hm => by simp [Ams] at hm; subst hm; cases h; exact ⟨[], rfl, by simp, by simp⟩
  | c :: l, m, a, b, h, hm => by
    obtain ⟨x, r, rfl, h1, h2⟩ := hm
    unfold A.sums at h
    split at h
    · rename_i e; cases e
    · rename_i e
      cases e
      simp only [Option.map_eq_some_iff] at h
      obtain ⟨⟨p, q⟩, h3, h4⟩ := h
      obtain ⟨ns, h5, h6, h7⟩ := sums_ok h3 h2
      obtain ⟨i, rfl, h8, h9⟩ := h1
      simp only [Prod.mk.injEq] at h4
      exact ⟨i :: ns, by simp [intsOf, h5], by simp; omega, by simp; omega⟩
    · cases h
theorem intsOf_all {a b : Int} : ∀ {m : List D}, (∀ y ∈ m, ∃ i, y = .int i ∧ a ≤ i ∧ i ≤ b) → ∃ ns, intsOf m = some ns ∧ ns.length = m.length ∧ ∀ i ∈ ns, a ≤ i ∧ i ≤ b
  | [], h => ⟨[], rfl, rfl, by simp⟩
  | x :: m, h => by
    obtain ⟨i, rfl, h1, h2⟩ := h x (by simp)
    obtain ⟨ns, h3, h4, h5⟩ := intsOf_all fun y hy => h y (List.mem_cons_of_mem _ hy)
    refine ⟨i :: ns, by simp [intsOf, h3], by simp [h4], fun j hj => ?_⟩
    rcases List.mem_cons.mp hj with rfl | hj
    · exact ⟨h1, h2⟩
    · exact h5 j hj
theorem sum_bound {a b : Int} (ha : 0 ≤ a) : ∀ {ns : List Int}, (∀ i ∈ ns, a ≤ i ∧ i ≤ b) → (ns.length : Int) * a ≤ ns.sum ∧ ns.sum ≤ ns.length * b
  | [], h => by simp
  | i :: ns, h => by
    obtain ⟨h1, h2⟩ := h i (by simp)
    obtain ⟨h3, h4⟩ := sum_bound ha fun j hj => h j (List.mem_cons_of_mem _ hj)
    simp only [List.length_cons, List.sum_cons, Int.natCast_add, Int.add_mul]
    simp only [Int.natCast_one, Int.one_mul]
    omega
theorem foldl_max {a b : Int} : ∀ {ns : List Int} {i : Int}, a ≤ i → i ≤ b → (∀ j ∈ ns, a ≤ j ∧ j ≤ b) → a ≤ ns.foldl max i ∧ ns.foldl max i ≤ b
  | [], i, h1, h2, h => ⟨h1, h2⟩
  | j :: ns, i, h1, h2, h => by
    have := h j (by simp)
    exact @foldl_max a b ns (max i j) (by omega) (by omega) fun k hk => h k (List.mem_cons_of_mem _ hk)
theorem foldl_min {a b : Int} : ∀ {ns : List Int} {i : Int}, a ≤ i → i ≤ b → (∀ j ∈ ns, a ≤ j ∧ j ≤ b) → a ≤ ns.foldl min i ∧ ns.foldl min i ≤ b
  | [], i, h1, h2, h => ⟨h1, h2⟩
  | j :: ns, i, h1, h2, h => by
    have := h j (by simp)
    exact @foldl_min a b ns (min i j) (by omega) (by omega) fun k hk => h k (List.mem_cons_of_mem _ hk)
/-- dicts of pairs -/
theorem smk_set {k x : D} (hk : isK k = true) (hx : x.sm = true) {d : Nat} (hd : x.depth ≤ d) : ∀ {l : List (D × D)}, D.smk l = true → D.depthk l ≤ d → D.smk (kSet k x l) = true ∧ D.depthk (kSet k x l) ≤ d ∧ (kSet k x l).length ≤ l.length + 1 := by
  have app : ∀ (l : List (D × D)), D.smk l = true → D.depthk l ≤ d → D.smk (l ++ [(k, x)]) = true ∧ D.depthk (l ++ [(k, x)]) ≤ d := by
    intro l
    induction l with
    | nil => intro _ _; exact ⟨by simp [D.smk, hk, hx], by simp only [List.nil_append, D.depthk]; exact Nat.max_le.mpr ⟨hd, Nat.zero_le _⟩⟩
    | cons p l ih =>
      obtain ⟨k', y⟩ := p
      intro h1 h2
      simp only [D.smk, Bool.and_eq_true] at h1
      simp only [D.depthk] at h2
      obtain ⟨i1, i2⟩ := ih h1.2 (Nat.le_trans (Nat.le_max_right ..) h2)
      exact ⟨by simp only [List.cons_append, D.smk, Bool.and_eq_true]; exact ⟨h1.1, i1⟩, by simp only [List.cons_append, D.depthk]; exact Nat.max_le.mpr ⟨Nat.le_trans (Nat.le_max_left ..) h2, i2⟩⟩
  have mp : ∀ (l : List (D × D)), D.smk l = true → D.depthk l ≤ d → D.smk (l.map fun p => if kEq p.1 k = true then (p.1, x) else p) = true ∧ D.depthk (l.map fun p => if kEq p.1 k = true then (p.1, x) else p) ≤ d := by
    intro l
    induction l with
    | nil => intro _ _; exact ⟨rfl, Nat.zero_le _⟩
    | cons p l ih =>
      obtain ⟨k', y⟩ := p
      intro h1 h2
      simp only [D.smk, Bool.and_eq_true] at h1
      simp only [D.depthk] at h2
      obtain ⟨i1, i2⟩ := ih h1.2 (Nat.le_trans (Nat.le_max_right ..) h2)
      simp only [List.map_cons]
      split
      · exact ⟨by simp only [D.smk, Bool.and_eq_true]; exact ⟨⟨h1.1.1, hx⟩, i1⟩, by simp only [D.depthk]; exact Nat.max_le.mpr ⟨hd, i2⟩⟩
      · exact ⟨by simp only [D.smk, Bool.and_eq_true]; exact ⟨h1.1, i1⟩, by simp only [D.depthk]; exact Nat.max_le.mpr ⟨Nat.le_trans (Nat.le_max_left ..) h2, i2⟩⟩
  intro l h1 h2
  unfold kSet
  split
  · obtain ⟨i1, i2⟩ := mp l h1 h2
    exact ⟨i1, i2, by simp⟩
  · obtain ⟨i1, i2⟩ := app l h1 h2
    exact ⟨i1, i2, by simp⟩
theorem smk_fold {d : Nat} : ∀ {ps l : List (D × D)}, (∀ p ∈ ps, isK p.1 = true ∧ p.2.sm = true ∧ p.2.depth ≤ d) → D.smk l = true → D.depthk l ≤ d → D.smk (ps.foldl (fun l p => kSet p.1 p.2 l) l) = true ∧ D.depthk (ps.foldl (fun l p => kSet p.1 p.2 l) l) ≤ d ∧ (ps.foldl (fun l p => kSet p.1 p.2 l) l).length ≤ l.length + ps.length
  | [], l, _, h1, h2 => ⟨h1, h2, by simp⟩
  | p :: ps, l, h, h1, h2 => by
    obtain ⟨a, b, c⟩ := h p (by simp)
    obtain ⟨i1, i2, i3⟩ := smk_set a b c h1 h2
    obtain ⟨j1, j2, j3⟩ := @smk_fold d ps (kSet p.1 p.2 l) (fun q hq => h q (List.mem_cons_of_mem _ hq)) i1 i2
    exact ⟨j1, j2, by simp only [List.foldl_cons, List.length_cons]; omega⟩
theorem prs_all {d : Nat} : ∀ {m : List D}, (∀ y ∈ m, ∃ k x, y = .tup [k, x] ∧ isK k = true ∧ x.sm = true ∧ x.depth ≤ d) → ∃ ps, prsOf m = some ps ∧ ps.length = m.length ∧ ∀ p ∈ ps, isK p.1 = true ∧ p.2.sm = true ∧ p.2.depth ≤ d
  | [], _ => ⟨[], rfl, rfl, by simp⟩
  | y :: m, h => by
    obtain ⟨k, x, rfl, h1, h2, h3⟩ := h y (by simp)
    obtain ⟨ps, e, hl, hp⟩ := prs_all (m := m) fun z hz => h z (List.mem_cons_of_mem _ hz)
    refine ⟨(k, x) :: ps, by simp [prsOf, h1, e], by simp [hl], fun p hp' => ?_⟩
    rcases List.mem_cons.mp hp' with rfl | hp'
    · exact ⟨h1, h2, h3⟩
    · exact hp p hp'
/-- a pair of a number and a small thing -/
def pairB (d : Nat) : A → Bool
  | .tup [.int _ _, b] => b.anyB d
  | _ => false
def aBlt1 (b : Blt) (a : A) : Option A := match b with
  | .len => (match a with
    | .txs [s] => if s.length ≤ big then some (.int s.length s.length) else none
    | .txL n => if n ≤ big then some (.int 0 n) else none
    | .dct l => some (.int l.length l.length)
    | a => (match a.asSeq with
      | some (_, lo, hi, _) => some (.int lo hi)
      | none => none))
  | .tuple => (match a with
    | .tup l => some (.tup l)
    | .lst l => some (.tup l)
    | .seq _ lo hi a => some (.seq true lo hi a)
    | _ => none)
  | .list => (match a with
    | .tup l => some (.lst l)
    | .lst l => some (.lst l)
    | .seq _ lo hi a => some (.seq false lo hi a)
    | _ => none)
  | .all => (match a with
    | .lst l => if A.allTrue l then some (aB true) else if A.allBl l then some aU else none
    | .seq false _ _ (.bl o) => if o = some true then some (aB true) else some aU
    | _ => none)
  | .any => (match a with
    | .lst l => if A.allBl l then some aU else none
    | .seq false _ _ (.bl _) => some aU
    | _ => none)
  | .sum => (match a with
    | .lst l => (A.sums l).map fun p => .int p.1 p.2
    | .seq false lo hi (.int a b) => if 0 ≤ a ∧ 0 ≤ b then some (.int (lo * a) (hi * b)) else none
    | _ => none)
  | .max => (match a.asSeq with
    | some (false, lo, _, .int a b) => if 0 < lo then some (.int a b) else none
    | _ => none)
  | .min => (match a.asSeq with
    | some (false, lo, _, .int a b) => if 0 < lo then some (.int a b) else none
    | _ => none)
  | .int => (match a with
    | .int a b => some (.int a b)
    | .bl (some b) => some (.int (cond b 1 0) (cond b 1 0))
    | .bl none => some (.int 0 1)
    | _ => none)
  | .dict => match a with
    | .lst l => if l.length ≤ 1000 then ((List.range 60).find? fun d => l.all (pairB d)).map fun d => .any (d + 1) else none
    | a => (match a.asSeq with
    | some (false, _, hi, .tup [.int _ _, b]) => if hi ≤ 1000 then ((List.range 60).find? fun d => b.anyB d).map fun d => .any (d + 1) else none
    | _ => none)
  | _ => none
theorem aBlt1_ok (b : Blt) : Snd1 Pi (aBlt1 b) (fun x => bltD b [x]) := by
  intro a c x h hx
  unfold aBlt1 at h
  split at h
  · split at h
    · rename_i s
      split at h
      · rename_i hs
        cases h
        obtain ⟨_, h3, rfl⟩ := hx
        cases List.mem_singleton.mp h3
        exact ⟨.int s.length, by simp only [bltD, hs, if_true], _, rfl, Int.le_refl _, Int.le_refl _⟩
      · cases h
    · split at h
      · cases h
        obtain ⟨s, hs, rfl⟩ := hx
        have : s.length ≤ big := by omega
        exact ⟨_, by simp only [bltD, this, if_true]; rfl, _, rfl, by omega, by omega⟩
      · cases h
    · cases h
      obtain ⟨m, rfl, hm⟩ := hx
      have := Amk_len hm
      exact ⟨_, rfl, m.length, rfl, by omega, by omega⟩
    · split at h
      · rename_i t lo hi b e
        cases h
        obtain ⟨m, rfl, h1, h2, hm⟩ := asSeq_ok e hx
        exact ⟨.int m.length, by cases t <;> rfl, _, rfl, by omega, by omega⟩
      · cases h
  · split at h
    · cases h; obtain ⟨m, rfl, hm⟩ := hx; exact ⟨_, rfl, m, rfl, hm⟩
    · cases h; obtain ⟨m, rfl, hm⟩ := hx; exact ⟨_, rfl, m, rfl, hm⟩
    · rename_i t lo hi a
      cases h; obtain ⟨m, rfl, hm⟩ := hx; exact ⟨.tup m, by cases t <;> rfl, m, rfl, hm⟩
    · cases h
  · split at h
    · cases h; obtain ⟨m, rfl, hm⟩ := hx; exact ⟨_, rfl, m, rfl, hm⟩
    · cases h; obtain ⟨m, rfl, hm⟩ := hx; exact ⟨_, rfl, m, rfl, hm⟩
    · rename_i t lo hi a
      cases h; obtain ⟨m, rfl, hm⟩ := hx; exact ⟨.lst m, by cases t <;> rfl, m, rfl, hm⟩
    · cases h
  · split at h
    · obtain ⟨m, rfl, hm⟩ := hx
      split at h
      · cases h
        obtain ⟨bs, h1, h2⟩ := allTrue_ok (by assumption) hm
        exact ⟨_, by simp [h1]; rfl, by rw [h2]; rfl⟩
      · split at h
        · cases h
          obtain ⟨bs, h1⟩ := allBl_ok (by assumption) hm
          exact ⟨_, by simp [h1]; rfl, aU_ok _⟩
        · cases h
    · rename_i o
      obtain ⟨m, rfl, _, _, hm⟩ := hx
      obtain ⟨bs, h1, h2⟩ := blsOf_all fun y hy => (by
        have := hm y hy
        cases o with
        | none => exact this
        | some b => exact ⟨b, this⟩ : ∃ b, y = .bl b)
      refine ⟨.bl (bs.all id), by simp [rowD, h1], ?_⟩
      split at h
      · rename_i e
        cases h
        subst e
        rw [h2 hm]; rfl
      · cases h; exact aU_ok _
    · cases h
  · split at h
    · obtain ⟨m, rfl, hm⟩ := hx
      split at h
      · cases h
        obtain ⟨bs, h1⟩ := allBl_ok (by assumption) hm
        exact ⟨.bl (bs.any id), by simp [bltD, h1], aU_ok _⟩
      · cases h
    · rename_i o
      obtain ⟨m, rfl, _, _, hm⟩ := hx
      obtain ⟨bs, h1, h2⟩ := blsOf_all fun y hy => (by
        have := hm y hy
        cases o with
        | none => exact this
        | some b => exact ⟨b, this⟩ : ∃ b, y = .bl b)
      cases h
      exact ⟨.bl (bs.any id), by simp [bltD, rowD, h1], aU_ok _⟩
    · cases h
  · split at h
    · obtain ⟨m, rfl, hm⟩ := hx
      simp only [Option.map_eq_some_iff] at h
      obtain ⟨⟨p, q⟩, h1, rfl⟩ := h
      obtain ⟨ns, h2, h3, h4⟩ := sums_ok h1 hm
      exact ⟨.int ns.sum, by simp [h2], _, rfl, h3, h4⟩
    · split at h
      · rename_i lo hi a b h0
        cases h
        obtain ⟨m, rfl, h1, h2, hm⟩ := hx
        obtain ⟨ns, h3, h4, h5⟩ := intsOf_all hm
        obtain ⟨h6, h7⟩ := sum_bound h0.1 h5
        refine ⟨.int ns.sum, by simp [rowD, h3], _, rfl, ?_, ?_⟩
        · exact Int.le_trans (Int.mul_le_mul_of_nonneg_right (by omega) h0.1) h6
        · exact Int.le_trans h7 (Int.mul_le_mul_of_nonneg_right (by omega) h0.2)
      · cases h
    · cases h
  · split at h
    · rename_i lo _ a b e
      split at h
      · cases h
        obtain ⟨m, rfl, h1, h2, hm⟩ := asSeq_ok e hx
        obtain ⟨ns, h3, h4, h5⟩ := intsOf_all hm
        cases ns with
        | nil => simp at h4; omega
        | cons i ns =>
          have := h5 i (by simp)
          obtain ⟨k1, k2⟩ := foldl_max this.1 this.2 fun j hj => h5 j (List.mem_cons_of_mem _ hj)
          exact ⟨.int (ns.foldl max i), by simp [bltD, rowD, h3, maxL], _, rfl, k1, k2⟩
      · cases h
    · cases h
  · split at h
    · rename_i lo _ a b e
      split at h
      · cases h
        obtain ⟨m, rfl, h1, h2, hm⟩ := asSeq_ok e hx
        obtain ⟨ns, h3, h4, h5⟩ := intsOf_all hm
        cases ns with
        | nil => simp at h4; omega
        | cons i ns =>
          have := h5 i (by simp)
          obtain ⟨k1, k2⟩ := foldl_min this.1 this.2 fun j hj => h5 j (List.mem_cons_of_mem _ hj)
          exact ⟨.int (ns.foldl min i), by simp [bltD, rowD, h3, minL], _, rfl, k1, k2⟩
      · cases h
    · cases h
  · split at h
    · cases h
      obtain ⟨i, rfl, h1, h2⟩ := hx
      exact ⟨_, rfl, i, rfl, h1, h2⟩
    · cases h; cases hx; exact ⟨_, rfl, _, rfl, Int.le_refl _, Int.le_refl _⟩
    · cases h
      obtain ⟨b, rfl⟩ := hx
      exact ⟨_, rfl, _, rfl, by cases b <;> decide, by cases b <;> decide⟩
    · cases h
  · split at h
    · rename_i l
      split at h
      · rename_i hll
        simp only [Option.map_eq_some_iff] at h
        obtain ⟨d, hd, rfl⟩ := h
        have hd := List.find?_some hd
        obtain ⟨m, rfl, hm⟩ := hx
        obtain ⟨ps, e1, e2, e3⟩ := prs_all (d := d) (m := m) fun y hy => by
          obtain ⟨a, ha, hya⟩ := Ams_mem hm hy
          have hb := List.all_eq_true.mp hd a ha
          unfold pairB at hb
          split at hb
          · obtain ⟨l, rfl, k, r, rfl, ⟨i, rfl, _⟩, x, r2, rfl, hx, h3⟩ := hya
            cases h3
            obtain ⟨s1, s2⟩ := anyB_ok hb hx
            exact ⟨.int i, x, rfl, rfl, s1, s2⟩
          · cases hb
        obtain ⟨j1, j2, j3⟩ := smk_fold (l := []) e3 rfl (Nat.zero_le _)
        have hl := Ams_len hm
        refine ⟨.dct (ps.foldl (fun l p => kSet p.1 p.2 l) []), by simp only [bltD, e1, Option.map_some], ?_, ?_⟩
        · simp only [D.sm, Bool.and_eq_true, decide_eq_true_eq]
          exact ⟨by simp only [List.length_nil] at j3; omega, j1⟩
        · simp only [D.depth]
          omega
      · cases h
    · split at h
      · rename_i lo hi p q b e
        split at h
        · rename_i hhi
          simp only [Option.map_eq_some_iff] at h
          obtain ⟨d, hd, rfl⟩ := h
          have hd := List.find?_some hd
          obtain ⟨m, rfl, h1, h2, hm⟩ := asSeq_ok e hx
          obtain ⟨ps, e1, e2, e3⟩ := prs_all (d := d) (m := m) fun y hy => by
            obtain ⟨l, rfl, k, r, rfl, ⟨i, rfl, _⟩, x, r2, rfl, hx, h3⟩ := hm y hy
            cases h3
            obtain ⟨s1, s2⟩ := anyB_ok hd hx
            exact ⟨.int i, x, rfl, rfl, s1, s2⟩
          obtain ⟨j1, j2, j3⟩ := smk_fold (l := []) e3 rfl (Nat.zero_le _)
          refine ⟨.dct (ps.foldl (fun l p => kSet p.1 p.2 l) []), by simp only [bltD, rowD, e1, Option.map_some], ?_, ?_⟩
          · simp only [D.sm, Bool.and_eq_true, decide_eq_true_eq]
            exact ⟨by simp only [List.length_nil] at j3; omega, j1⟩
          · simp only [D.depth]
            omega
        · cases h
      · cases h
  · cases h
def imax (a b : Int) : Int := if a ≤ b then b else a
def imin (a b : Int) : Int := if a ≤ b then a else b
def aBlt2 (o : Blt) (x y : A) : Option A := match o, x, y with
  | .max2, .int a b, .int c d => some (.int (imax a c) (imax b d))
  | .min2, .int a b, .int c d => some (.int (imin a c) (imin b d))
  | _, _, _ => none
theorem aBlt2_ok (b : Blt) : Snd2 Pi (aBlt2 b) (fun x y => bltD b [x, y]) := by
  intro a b c x y h hx hy
  unfold aBlt2 at h
  split at h
  · cases h
    obtain ⟨i, rfl, h1, h2⟩ := hx
    obtain ⟨j, rfl, h3, h4⟩ := hy
    exact ⟨_, rfl, _, rfl, by unfold imax; split <;> split <;> omega, by unfold imax; split <;> split <;> omega⟩
  · cases h
    obtain ⟨i, rfl, h1, h2⟩ := hx
    obtain ⟨j, rfl, h3, h4⟩ := hy
    exact ⟨_, rfl, _, rfl, by unfold imin; split <;> split <;> omega, by unfold imin; split <;> split <;> omega⟩
  · cases h
/-! ### isinstance -/
def isTyK (k : Nat) : Ty → Bool
  | .str => k == 3
  | .int => k == 1 || k == 2
  | .bool => k == 1
  | .list => k == 5
  | .tuple => k == 4
  | .dict => k == 6
  | .cls _ => false
def aIsi (ts : List Ty) (a : A) : Option A := match a.kind with
  | some k => some (aB (ts.any (isTyK k)))
  | none => match a with
    | .any _ => some aU
    | _ => none
theorem isTyK_ok {x : D} (h : kindD x ≠ 7) (t : Ty) : isTy x t = isTyK (kindD x) t := by
  cases x <;> cases t <;> first | rfl | (exfalso; exact h rfl)
theorem isiD_eq {x : D} (h : kindD x ≠ 7) (ts : List Ty) : isiD ts x = some (.bl (ts.any (isTyK (kindD x)))) := by
  have : ts.any (isTy x) = ts.any (isTyK (kindD x)) := by congr 1; funext t; exact isTyK_ok h t
  rw [← this]
  cases x <;> first | rfl | (exfalso; exact h rfl)
theorem kind_ne {a : A} {k : Nat} (h : a.kind = some k) : k ≠ 7 := by
  cases a with
  | seq t => cases t <;> (cases h; decide)
  | _ => cases h <;> decide
theorem aIsi_ok (ts : List Ty) : Snd1 Pi (aIsi ts) (isiD ts) := by
  intro a c x h hx
  unfold aIsi at h
  split at h
  · rename_i k hk
    cases h
    have e := kind_ok hk hx
    have := kind_ne hk
    exact ⟨_, isiD_eq (by rw [e]; exact this) ts, by rw [e]; rfl⟩
  · split at h
    · cases h
      have : kindD x ≠ 7 := by
        have := hx.1
        cases x with
        | ins => simp [D.sm] at this
        | _ => simp [kindD]
      exact ⟨_, isiD_eq this ts, aU_ok _⟩
    · cases h
/-! ### what is written -/
mutual
def A.ofD : D → Option A
  | .non => some .non
  | .bl b => some (aB b)
  | .int i => some (.int i i)
  | .str s => some (.txs [s])
  | .tup l => (A.ofDs l).map .tup
  | .lst l => (A.ofDs l).map .lst
  | .dct l => (A.ofDk l).map .dct
  | .ins _ _ => none
termination_by structural x => x
def A.ofDs : List D → Option (List A)
  | [] => some []
  | x :: l => match A.ofD x, A.ofDs l with
    | some a, some r => some (a :: r)
    | _, _ => none
termination_by structural x => x
def A.ofDk : List (D × D) → Option (List (D × A))
  | [] => some []
  | (k, x) :: l => match A.ofD x, A.ofDk l with
    | some a, some r => if isK k then some ((k, a) :: r) else none
    | _, _ => none
termination_by structural x => x
end
mutual
theorem ofD_ok : ∀ {x : D} {a : A}, A.ofD x = some a → Am Pi a x
  | .non, a, h => by cases h; rfl
  | .bl b, a, h => by cases h; rfl
  | .int i, a, h => by cases h; exact ⟨i, rfl, Int.le_refl _, Int.le_refl _⟩
  | .str s, a, h => by cases h; exact ⟨s, by simp, rfl⟩
  | .tup l, a, h => by
    simp only [A.ofD, Option.map_eq_some_iff] at h
    obtain ⟨r, hr, rfl⟩ := h
    exact ⟨l, rfl, ofDs_ok hr⟩
  | .lst l, a, h => by
    simp only [A.ofD, Option.map_eq_some_iff] at h
    obtain ⟨r, hr, rfl⟩ := h
    exact ⟨l, rfl, ofDs_ok hr⟩
  | .dct l, a, h => by
    simp only [A.ofD, Option.map_eq_some_iff] at h
    obtain ⟨r, hr, rfl⟩ := h
    exact ⟨l, rfl, ofDk_ok hr⟩
  | .ins _ _, a, h => by cases h
termination_by structural x => x
theorem ofDs_ok : ∀ {l : List D} {r : List A}, A.ofDs l = some r → Ams Pi r l
  | [], r, h => by cases h; rfl
  | x :: l, r, h => by
    simp only [A.ofDs] at h
    split at h
    · rename_i a r' h1 h2
      cases h
      exact ⟨x, l, rfl, ofD_ok h1, ofDs_ok h2⟩
    · cases h
termination_by structural x => x
theorem ofDk_ok : ∀ {l : List (D × D)} {r : List (D × A)}, A.ofDk l = some r → Amk Pi r l
  | [], r, h => by cases h; rfl
  | (k, x) :: l, r, h => by
    simp only [A.ofDk] at h
    split at h
    · rename_i a r' h1 h2
      split at h
      · cases h
        exact ⟨x, l, rfl, by assumption, ofD_ok h1, ofDk_ok h2⟩
      · cases h
    · cases h
termination_by structural x => x
end
def aGix (o : Option (List (List Nat × D))) (a : A) : Option A := match a, o with
  | .txs [s], some l => (gLook s l).bind A.ofD
  | _, _ => none
theorem aGix_ok (o : Option (List (List Nat × D))) : Snd1 Pi (aGix o) (gixD o) := by
  intro a c x h hx
  unfold aGix at h
  split at h
  · rename_i s l
    obtain ⟨_, h3, rfl⟩ := hx
    cases List.mem_singleton.mp h3
    cases e : gLook s l with
    | none => rw [e] at h; cases h
    | some z => rw [e] at h; exact ⟨z, e, ofD_ok h⟩
  · cases h
def aGin (neg : Bool) (o : Option (List (List Nat × D))) (a : A) : Option A := match a, o with
  | .txs [s], some l => some (aB (xor neg (gLook s l).isSome))
  | .txL _, some _ => some aU
  | _, _ => none
theorem aGin_ok (neg : Bool) (o : Option (List (List Nat × D))) : Snd1 Pi (aGin neg o) (fun x => (ginD neg o x).map .bl) := by
  intro a c x h hx
  unfold aGin at h
  split at h
  · rename_i s l
    cases h
    obtain ⟨_, h3, rfl⟩ := hx
    cases List.mem_singleton.mp h3
    exact ⟨_, rfl, rfl⟩
  · cases h
    obtain ⟨s, _, rfl⟩ := hx
    exact ⟨_, rfl, aU_ok _⟩
  · cases h
end
end Ev

end

section
set_option Elab.async false
set_option linter.all false
set_option maxRecDepth 100000
set_option maxHeartbeats 1000000
/-! Ev, kinds: values, cells, states. -/
namespace Ev
def All2 {α β : Type} (R : α → β → Prop) : List α → List β → Prop
  | [], m => m = []
  | a :: l, m => ∃ b r, m = b :: r ∧ R a b ∧ All2 R l r
section
variable {α β : Type} {R : α → β → Prop}
theorem All2.len : ∀ {l : List α} {m : List β}, All2 R l m → l.length = m.length
  | [], m, h => by simp [All2] at h; simp [h]
  | a :: l, m, h => by
    obtain ⟨b, r, rfl, _, h2⟩ := h
    simp [h2.len]
theorem All2.get : ∀ {l : List α} {m : List β}, All2 R l m → ∀ {i : Nat} {a : α}, l[i]? = some a → ∃ b, m[i]? = some b ∧ R a b
  | [], m, h, i, a, e => by cases e
  | c :: l, m, h, i, a, e => by
    obtain ⟨x, r, rfl, h1, h2⟩ := h
    cases i with
    | zero => cases e; exact ⟨x, rfl, h1⟩
    | succ i => exact h2.get (by simpa using e)
theorem All2.set : ∀ (n : Nat) {l : List α} {m : List β} {a : α} {x : β}, All2 R l m → R a x → All2 R (l.set n a) (m.set n x)
  | n, [], m, a, x, h, hx => by simp [All2] at h; subst h; rfl
  | 0, b :: l, m, a, x, h, hx => by
    obtain ⟨y, r, rfl, h1, h2⟩ := h
    exact ⟨x, r, rfl, hx, h2⟩
  | n + 1, b :: l, m, a, x, h, hx => by
    obtain ⟨y, r, rfl, h1, h2⟩ := h
    exact ⟨y, r.set n x, rfl, h1, h2.set n hx⟩
/-- one side alone is set to what may be anything -/
theorem All2.setL (n : Nat) {l : List α} {m : List β} {a : α} (h : All2 R l m) (ha : ∀ b, R a b) : All2 R (l.set n a) m := by
  induction n generalizing l m with
  | zero =>
    cases l with
    | nil => exact h
    | cons b l => obtain ⟨y, r, rfl, h1, h2⟩ := h; exact ⟨y, r, rfl, ha y, h2⟩
  | succ n ih =>
    cases l with
    | nil => exact h
    | cons b l => obtain ⟨y, r, rfl, h1, h2⟩ := h; exact ⟨y, r, rfl, h1, ih h2⟩
theorem All2.app : ∀ {l l' : List α} {m m' : List β}, All2 R l m → All2 R l' m' → All2 R (l ++ l') (m ++ m')
  | [], l', m, m', h, h' => by simp [All2] at h; subst h; exact h'
  | a :: l, l', m, m', h, h' => by
    obtain ⟨x, r, rfl, h1, h2⟩ := h
    exact ⟨x, r ++ m', rfl, h1, h2.app h'⟩
theorem All2.mono {S : α → β → Prop} (hs : ∀ a b, R a b → S a b) : ∀ {l : List α} {m : List β}, All2 R l m → All2 S l m
  | [], m, h => h
  | a :: l, m, h => by
    obtain ⟨x, r, rfl, h1, h2⟩ := h
    exact ⟨x, r, rfl, hs _ _ h1, h2.mono hs⟩
end
inductive AV where
  | d (a : A) | ref (n : Nat)
structure AC where
  fz : Bool
  a : A
abbrev ASig := List (Option AV)
abbrev ASt := List AC
section
variable (Pi : Par)
def AmV : AV → Val → Prop
  | .d a, v => ∃ x, v = .d x ∧ Am Pi a x
  | .ref n, v => v = .ref n
def AmC (c : AC) (x : Cell) : Prop := match c.fz with
  | true => ∃ y, x = .fz y ∧ Am Pi c.a y
  | false => (∃ l, x = .lst l ∧ Am Pi c.a (.lst l)) ∨ ∃ l, x = .dct l ∧ Am Pi c.a (.dct l)
def AmO : Option AV → Option Val → Prop
  | none, _ => True
  | some v, o => ∃ x, o = some x ∧ AmV Pi v x
abbrev AmS (S : ASt) (T : Store) : Prop := All2 (AmC Pi) S T
abbrev AmG (s : ASig) (t : Sig) : Prop := All2 (AmO Pi) s t
def OkV (p : AV × ASt) (r : R Val) : Prop := ∃ v S, r = .ok v S ∧ AmV Pi p.1 v ∧ AmS Pi p.2 S
def OkB (p : A × ASt) (r : R Bool) : Prop := ∃ b S, r = .ok b S ∧ Am Pi p.1 (.bl b) ∧ AmS Pi p.2 S
def OkVs (p : List AV × ASt) (r : R (List Val)) : Prop := ∃ v S, r = .ok v S ∧ All2 (AmV Pi) p.1 v ∧ AmS Pi p.2 S
end
section
variable {Pi : Par}
/-! ### reading -/
def aRd (S : ASt) : AV → Option A
  | .d a => some a
  | .ref n => (S[n]?).map (·.a)
theorem aRd_ok {S : ASt} {T : Store} {v : AV} {x : Val} {a : A} (h : aRd S v = some a) (hv : AmV Pi v x) (hS : AmS Pi S T) : ∃ y, rdv T x = some y ∧ Am Pi a y := by
  cases v with
  | d b => cases h; obtain ⟨y, rfl, hy⟩ := hv; exact ⟨y, rfl, hy⟩
  | ref n =>
    cases hv
    simp only [aRd, Option.map_eq_some_iff] at h
    obtain ⟨⟨fz, b⟩, h1, rfl⟩ := h
    obtain ⟨c, h2, h3⟩ := hS.get h1
    cases fz with
    | true => obtain ⟨y, rfl, hy⟩ := h3; exact ⟨y, by simp [rdv, h2], hy⟩
    | false =>
      rcases h3 with ⟨l, rfl, hl⟩ | ⟨l, rfl, hl⟩
      · exact ⟨.lst l, by simp [rdv, h2], hl⟩
      · exact ⟨.dct l, by simp [rdv, h2], hl⟩
def aRds (S : ASt) : List AV → Option (List A)
  | [] => some []
  | v :: l => match aRd S v, aRds S l with
    | some a, some r => some (a :: r)
    | _, _ => none
theorem aRds_ok {S : ASt} {T : Store} (hS : AmS Pi S T) : ∀ {vs : List AV} {xs : List Val} {as : List A}, aRds S vs = some as → All2 (AmV Pi) vs xs → ∃ ys, rdvs T xs = some ys ∧ Ams Pi as ys
  | [], xs, as, h, hv => by simp [All2] at hv; subst hv; cases h; exact ⟨[], rfl, rfl⟩
  | v :: vs, xs, as, h, hv => by
    obtain ⟨x, r, rfl, h1, h2⟩ := hv
    simp only [aRds] at h
    split at h
    · rename_i a r' h3 h4
      cases h
      obtain ⟨y, h5, h6⟩ := aRd_ok h3 h1 hS
      obtain ⟨ys, h7, h8⟩ := aRds_ok hS h4 h2
      exact ⟨y :: ys, by simp [rdvs, h5, h7], y, ys, rfl, h6, h8⟩
    · cases h
/-! ### freezing -/
def aFz (S : ASt) : AV → Option (A × ASt)
  | .d a => some (a, S)
  | .ref n => match S[n]? with
    | some c => some (c.a, S.set n ⟨true, c.a⟩)
    | none => none
theorem set_same {α : Type} {l : List α} {n : Nat} {a : α} (h : l[n]? = some a) : l.set n a = l := by
  refine List.ext_getElem? fun k => ?_
  by_cases e : k = n
  · subst e
    have hl : k < l.length := (List.getElem?_eq_some_iff.mp h).1
    rw [List.getElem?_set_self hl, h]
  · rw [List.getElem?_set_ne (Ne.symm e)]
theorem aFz_ok {S S' : ASt} {T : Store} {v : AV} {x : Val} {a : A} (h : aFz S v = some (a, S')) (hv : AmV Pi v x) (hS : AmS Pi S T) : ∃ y T', fzv T x = some (y, T') ∧ Am Pi a y ∧ AmS Pi S' T' := by
  cases v with
  | d b => cases h; obtain ⟨y, rfl, hy⟩ := hv; exact ⟨y, T, rfl, hy, hS⟩
  | ref n =>
    cases hv
    simp only [aFz] at h
    split at h
    · rename_i c hc
      cases h
      obtain ⟨fz, b⟩ := c
      obtain ⟨c, h2, h3⟩ := hS.get hc
      cases fz with
      | true =>
        obtain ⟨y, rfl, hy⟩ := h3
        refine ⟨y, T, by simp [fzv, h2], hy, ?_⟩
        have := hS.set n (a := ⟨true, b⟩) (x := .fz y) (show AmC Pi ⟨true, b⟩ _ from ⟨y, rfl, hy⟩)
        rwa [set_same h2] at this
      | false =>
        rcases h3 with ⟨l, rfl, hl⟩ | ⟨l, rfl, hl⟩
        · exact ⟨.lst l, T.set n (.fz (.lst l)), by simp [fzv, h2], hl, hS.set n (show AmC Pi ⟨true, b⟩ _ from ⟨_, rfl, hl⟩)⟩
        · exact ⟨.dct l, T.set n (.fz (.dct l)), by simp [fzv, h2], hl, hS.set n (show AmC Pi ⟨true, b⟩ _ from ⟨_, rfl, hl⟩)⟩
    · cases h
def aFzs (S : ASt) : List AV → Option (List A × ASt)
  | [] => some ([], S)
  | v :: l => match aFz S v with
    | some p => (match aFzs p.2 l with
      | some q => some (p.1 :: q.1, q.2)
      | none => none)
    | none => none
theorem aFzs_ok : ∀ {vs : List AV} {xs : List Val} {as : List A} {S S' : ASt} {T : Store}, aFzs S vs = some (as, S') → All2 (AmV Pi) vs xs → AmS Pi S T → ∃ ys T', fzs T xs = some (ys, T') ∧ Ams Pi as ys ∧ AmS Pi S' T'
  | [], xs, as, S, S', T, h, hv, hS => by simp [All2] at hv; subst hv; cases h; exact ⟨[], T, rfl, rfl, hS⟩
  | v :: vs, xs, as, S, S', T, h, hv, hS => by
    obtain ⟨x, r, rfl, h1, h2⟩ := hv
    simp only [aFzs] at h
    split at h
    · rename_i p hp
      split at h
      · rename_i q hq
        cases h
        obtain ⟨y, T1, h3, h4, h5⟩ := aFz_ok (a := p.1) (S' := p.2) hp h1 hS
        obtain ⟨ys, T2, h6, h7, h8⟩ := aFzs_ok (as := q.1) (S' := q.2) hq h2 h5
        exact ⟨y :: ys, T2, by simp [fzs, h3, h6], ⟨y, ys, rfl, h4, h7⟩, h8⟩
      · cases h
    · cases h
/-! ### functions of data -/
def aOn1 (S : ASt) (v : AV) (f : A → Option A) : Option A := (aRd S v).bind (lift1 f)
def aOn2 (S : ASt) (v w : AV) (f : A → A → Option A) : Option A := (aRd S v).bind fun a => (aRd S w).bind fun b => lift2 f a b
theorem aOn1_ok {S : ASt} {T : Store} {v : AV} {x : Val} {f : A → Option A} {g : D → Option D} {c : A} (hs : Snd1 Pi f g) (h : aOn1 S v f = some c) (hv : AmV Pi v x) (hS : AmS Pi S T) : ∃ z, on1 T x g = .ok (.d z) T ∧ Am Pi c z := by
  simp only [aOn1, Option.bind_eq_some_iff] at h
  obtain ⟨a, h1, h2⟩ := h
  obtain ⟨y, h3, h4⟩ := aRd_ok h1 hv hS
  obtain ⟨z, h5, h6⟩ := lift1_ok hs h2 h4
  exact ⟨z, by simp [on1, h3, h5], h6⟩
theorem aOn1b_ok {S : ASt} {T : Store} {v : AV} {x : Val} {f : A → Option A} {g : D → Option Bool} {c : A} (hs : Snd1 Pi f (fun x => (g x).map .bl)) (h : aOn1 S v f = some c) (hv : AmV Pi v x) (hS : AmS Pi S T) : ∃ z, on1b T x g = .ok z T ∧ Am Pi c (.bl z) := by
  simp only [aOn1, Option.bind_eq_some_iff] at h
  obtain ⟨a, h1, h2⟩ := h
  obtain ⟨y, h3, h4⟩ := aRd_ok h1 hv hS
  obtain ⟨z, h5, h6⟩ := lift1_ok hs h2 h4
  simp only [Option.map_eq_some_iff] at h5
  obtain ⟨b, h7, rfl⟩ := h5
  exact ⟨b, by simp [on1b, h3, h7], h6⟩
theorem aTr_ok {S : ASt} {T : Store} {v : AV} {x : Val} {c : A} (h : aOn1 S v aTruth = some c) (hv : AmV Pi v x) (hS : AmS Pi S T) : ∃ z, truthV T x = .ok z T ∧ Am Pi c (.bl z) := by
  simp only [aOn1, Option.bind_eq_some_iff] at h
  obtain ⟨a, h1, h2⟩ := h
  obtain ⟨y, h3, h4⟩ := aRd_ok h1 hv hS
  obtain ⟨z, h5, h6⟩ := lift1_ok aTruth_ok h2 h4
  simp only [Option.map_eq_some_iff] at h5
  obtain ⟨b, h7, rfl⟩ := h5
  exact ⟨b, by simp [truthV, h3, h7], h6⟩
theorem aOn2_ok {S : ASt} {T : Store} {v w : AV} {x y : Val} {f : A → A → Option A} {g : D → D → Option D} {c : A} (hs : Snd2 Pi f g) (h : aOn2 S v w f = some c) (hv : AmV Pi v x) (hw : AmV Pi w y) (hS : AmS Pi S T) : ∃ z, on2 T x y g = .ok (.d z) T ∧ Am Pi c z := by
  simp only [aOn2, Option.bind_eq_some_iff] at h
  obtain ⟨a, h1, b, h2, h0⟩ := h
  obtain ⟨p, h3, h4⟩ := aRd_ok h1 hv hS
  obtain ⟨q, h5, h6⟩ := aRd_ok h2 hw hS
  obtain ⟨z, h7, h8⟩ := lift2_ok hs h0 h4 h6
  exact ⟨z, by simp [on2, h3, h5, h7], h8⟩
theorem aOn2b_ok {S : ASt} {T : Store} {v w : AV} {x y : Val} {f : A → A → Option A} {g : D → D → Option Bool} {c : A} (hs : Snd2 Pi f (fun x y => (g x y).map .bl)) (h : aOn2 S v w f = some c) (hv : AmV Pi v x) (hw : AmV Pi w y) (hS : AmS Pi S T) : ∃ z, on2b T x y g = .ok z T ∧ Am Pi c (.bl z) := by
  simp only [aOn2, Option.bind_eq_some_iff] at h
  obtain ⟨a, h1, b, h2, h0⟩ := h
  obtain ⟨p, h3, h4⟩ := aRd_ok h1 hv hS
  obtain ⟨q, h5, h6⟩ := aRd_ok h2 hw hS
  obtain ⟨z, h7, h8⟩ := lift2_ok hs h0 h4 h6
  simp only [Option.map_eq_some_iff] at h7
  obtain ⟨b, h7, rfl⟩ := h7
  exact ⟨b, by simp [on2b, h3, h5, h7], h8⟩
/-! ### joining states -/
def joinV : AV → AV → Option AV
  | .d a, .d b => some (.d (a.join b))
  | .ref n, .ref m => if n = m then some (.ref n) else none
  | _, _ => none
theorem joinV_ok {a b c : AV} {x : Val} (h : joinV a b = some c) : (AmV Pi a x → AmV Pi c x) ∧ (AmV Pi b x → AmV Pi c x) := by
  unfold joinV at h
  split at h
  · cases h
    exact ⟨fun ⟨y, e, hy⟩ => ⟨y, e, join_ok.1 hy⟩, fun ⟨y, e, hy⟩ => ⟨y, e, join_ok.2 hy⟩⟩
  · split at h
    · rename_i e
      cases h; subst e
      exact ⟨fun h => h, fun h => h⟩
    · cases h
  · cases h
def joinO1 : Option AV → Option AV → Option AV
  | some a, some b => joinV a b
  | _, _ => none
theorem joinO1_ok {a b : Option AV} {x : Option Val} : (AmO Pi a x → AmO Pi (joinO1 a b) x) ∧ (AmO Pi b x → AmO Pi (joinO1 a b) x) := by
  unfold joinO1
  split
  · rename_i a b
    cases e : joinV a b with
    | none => exact ⟨fun _ => trivial, fun _ => trivial⟩
    | some c =>
      exact ⟨fun ⟨y, e1, hy⟩ => ⟨y, e1, (joinV_ok e).1 hy⟩, fun ⟨y, e1, hy⟩ => ⟨y, e1, (joinV_ok e).2 hy⟩⟩
  · exact ⟨fun _ => trivial, fun _ => trivial⟩
def joinG : ASig → ASig → ASig
  | a :: l, b :: m => joinO1 a b :: joinG l m
  | _, _ => []
theorem joinG_ok : ∀ {l m : ASig} {t : Sig}, l.length = m.length → (AmG Pi l t → AmG Pi (joinG l m) t) ∧ (AmG Pi m t → AmG Pi (joinG l m) t)
  | [], [], t, h => ⟨fun h => h, fun h => h⟩
  | [], _ :: _, t, h => by cases h
  | _ :: _, [], t, h => by cases h
  | a :: l, b :: m, t, h => by
    have ih := fun t => joinG_ok (l := l) (m := m) (t := t) (by simpa using h)
    constructor
    · rintro ⟨x, r, rfl, h1, h2⟩
      exact ⟨x, r, rfl, joinO1_ok.1 h1, (ih r).1 h2⟩
    · rintro ⟨x, r, rfl, h1, h2⟩
      exact ⟨x, r, rfl, joinO1_ok.2 h1, (ih r).2 h2⟩
def joinSt : ASt → ASt → Option ASt
  | [], [] => some []
  | a :: l, b :: m => if a.fz = b.fz then (joinSt l m).map (⟨a.fz, a.a.join b.a⟩ :: ·) else none
  | _, _ => none
theorem joinC_ok {f : Bool} {a b : A} {x : Cell} : (AmC Pi ⟨f, a⟩ x → AmC Pi ⟨f, a.join b⟩ x) ∧ (AmC Pi ⟨f, b⟩ x → AmC Pi ⟨f, a.join b⟩ x) := by
  cases f with
  | true => exact ⟨fun ⟨y, e, h⟩ => ⟨y, e, join_ok.1 h⟩, fun ⟨y, e, h⟩ => ⟨y, e, join_ok.2 h⟩⟩
  | false =>
    exact ⟨fun h => h.elim (fun ⟨y, e, h⟩ => .inl ⟨y, e, join_ok.1 h⟩) fun ⟨y, e, h⟩ => .inr ⟨y, e, join_ok.1 h⟩, fun h => h.elim (fun ⟨y, e, h⟩ => .inl ⟨y, e, join_ok.2 h⟩) fun ⟨y, e, h⟩ => .inr ⟨y, e, join_ok.2 h⟩⟩
theorem joinSt_ok : ∀ {l m n : ASt} {t : Store}, joinSt l m = some n → (AmS Pi l t → AmS Pi n t) ∧ (AmS Pi m t → AmS Pi n t)
  | [], [], n, t, h => by cases h; exact ⟨fun h => h, fun h => h⟩
  | [], _ :: _, n, t, h => by cases h
  | _ :: _, [], n, t, h => by cases h
  | ⟨f, a⟩ :: l, ⟨g, b⟩ :: m, n, t, h => by
    simp only [joinSt] at h
    split at h
    · rename_i e
      subst e
      simp only [Option.map_eq_some_iff] at h
      obtain ⟨n', h1, rfl⟩ := h
      have ih := fun t => joinSt_ok (t := t) h1
      constructor
      · rintro ⟨x, r, rfl, h3, h4⟩
        exact ⟨x, r, rfl, joinC_ok.1 h3, (ih r).1 h4⟩
      · rintro ⟨x, r, rfl, h3, h4⟩
        exact ⟨x, r, rfl, joinC_ok.2 h3, (ih r).2 h4⟩
    · cases h
def joinP (p q : AV × ASt) : Option (AV × ASt) := match joinV p.1 q.1, joinSt p.2 q.2 with
  | some v, some S => some (v, S)
  | _, _ => none
theorem joinP_ok {p q c : AV × ASt} {r : R Val} (h : joinP p q = some c) : (OkV Pi p r → OkV Pi c r) ∧ (OkV Pi q r → OkV Pi c r) := by
  unfold joinP at h
  split at h
  · rename_i v S h1 h2
    cases h
    exact ⟨fun ⟨x, T, e, a, b⟩ => ⟨x, T, e, (joinV_ok h1).1 a, (joinSt_ok h2).1 b⟩, fun ⟨x, T, e, a, b⟩ => ⟨x, T, e, (joinV_ok h1).2 a, (joinSt_ok h2).2 b⟩⟩
  · cases h
def joinB (p q : A × ASt) : Option (A × ASt) := match joinSt p.2 q.2 with
  | some S => some (p.1.join q.1, S)
  | _ => none
theorem joinB_ok {p q c : A × ASt} {r : R Bool} (h : joinB p q = some c) : (OkB Pi p r → OkB Pi c r) ∧ (OkB Pi q r → OkB Pi c r) := by
  unfold joinB at h
  split at h
  · rename_i S h2
    cases h
    exact ⟨fun ⟨x, T, e, a, b⟩ => ⟨x, T, e, join_ok.1 a, (joinSt_ok h2).1 b⟩, fun ⟨x, T, e, a, b⟩ => ⟨x, T, e, join_ok.2 a, (joinSt_ok h2).2 b⟩⟩
  · cases h
/-- a truth: what it may be -/
def A.bs : A → Option (Option Bool)
  | .bl o => some o
  | _ => none
theorem bs_ok {a : A} {o : Option Bool} {b : Bool} (h : a.bs = some o) (hb : Am Pi a (.bl b)) : ∀ c, o = some c → b = c := by
  unfold A.bs at h
  split at h
  · cases h
    intro c hc
    subst hc
    cases hb; rfl
  · cases h
/-- both ways, as far as they may be gone -/
def branch {α : Type} (j : α → α → Option α) (t : A) (x y : Unit → Option α) : Option α := match t.bs with
  | none => none
  | some (some true) => x ()
  | some (some false) => y ()
  | some none => match x (), y () with
    | some a, some b => j a b
    | _, _ => none
theorem branch_ok {α β : Type} {Ok : α → β → Prop} {j : α → α → Option α} (hj : ∀ {p q c : α} {r : β}, j p q = some c → (Ok p r → Ok c r) ∧ (Ok q r → Ok c r)) {t : A} {x y : Unit → Option α} {c : α} {b : Bool} {r : β} (h : branch j t x y = some c) (ht : Am Pi t (.bl b))
    (hx : b = true → ∀ {p}, x () = some p → Ok p r) (hy : b = false → ∀ {p}, y () = some p → Ok p r) : Ok c r := by
  unfold branch at h
  split at h
  · cases h
  · rename_i e
    exact hx (bs_ok e ht _ rfl) h
  · rename_i e
    exact hy (bs_ok e ht _ rfl) h
  · split at h
    · rename_i p q hp hq
      cases b with
      | true => exact (hj h).1 (hx rfl hp)
      | false => exact (hj h).2 (hy rfl hq)
    · cases h
end
end Ev

end

section
set_option Elab.async false
set_option linter.all false
set_option maxRecDepth 100000
set_option maxHeartbeats 1000000
/-! Ev, kinds: what is walked, comprehensions, methods. -/
namespace Ev
section
variable {Pi : Par}
inductive ASrc where
  | ex (items : List A) (lo : Nat)
  | un (lo hi : Nat) (a : A)
section
variable (Pi : Par)
def ExOk : List A → Nat → List D → Prop
  | _, lo, [] => lo = 0
  | items, lo, x :: r => ∃ a t, items = a :: t ∧ Am Pi a x ∧ ExOk t (lo - 1) r
def SrcOk (s : ASrc) (l : List D) : Prop := match s with
  | .ex items lo => ExOk Pi items lo l
  | .un lo hi a => lo ≤ l.length ∧ l.length ≤ hi ∧ ∀ x ∈ l, Am Pi a x
end
theorem ExOk_ex : ∀ {l : List A} {m : List D}, Ams Pi l m → ExOk Pi l l.length m
  | [], m, h => by simp [Ams] at h; subst h; rfl
  | a :: l, m, h => by
    obtain ⟨x, r, rfl, h1, h2⟩ := h
    exact ⟨a, l, rfl, h1, ExOk_ex h2⟩
theorem ExOk_rep {a : A} : ∀ {hi lo : Nat} {m : List D}, lo ≤ m.length → m.length ≤ hi → (∀ x ∈ m, Am Pi a x) → ExOk Pi (List.replicate hi a) lo m
  | hi, lo, [], h1, h2, h => by simp at h1; exact h1
  | 0, lo, x :: m, h1, h2, h => by simp at h2
  | hi + 1, lo, x :: m, h1, h2, h => by
    simp at h1 h2
    exact ⟨a, List.replicate hi a, List.replicate_succ, h x (by simp), ExOk_rep (by omega) h2 fun y hy => h y (List.mem_cons_of_mem _ hy)⟩
theorem ExOk_len : ∀ {items : List A} {lo : Nat} {l : List D}, ExOk Pi items lo l → l.length ≤ items.length
  | items, lo, [], h => Nat.zero_le _
  | items, lo, x :: r, h => by
    obtain ⟨a, t, rfl, _, h2⟩ := h
    simp only [List.length_cons]
    exact Nat.succ_le_succ (ExOk_len h2)
/-- the rows that an or is of -/
def A.rows : List A → Option (Nat × Nat × A)
  | [] => none
  | [a] => (match a.asSeq with
    | some (_, lo, hi, b) => some (lo, hi, b)
    | none => none)
  | a :: l => match a.asSeq, A.rows l with
    | some (_, lo, hi, b), some (lo', hi', b') => some (min lo lo', max hi hi', itJoin hi b hi' b')
    | _, _ => none
theorem itJoinL {n m : Nat} {a b : A} {l : List D} (hl : l.length ≤ n) (h1 : ∀ y ∈ l, Am Pi a y) : ∀ y ∈ l, Am Pi (itJoin n a m b) y := by
  intro y hy
  have := itJoin_ok (r := []) (m := m) (b := b) hl (by simp) h1 (by simp)
  exact this y (by simpa using hy)
theorem itJoinR {n m : Nat} {a b : A} {l : List D} (hl : l.length ≤ m) (h1 : ∀ y ∈ l, Am Pi b y) : ∀ y ∈ l, Am Pi (itJoin n a m b) y := by
  intro y hy
  have := itJoin_ok (l := []) (n := n) (a := a) (by simp) hl (by simp) h1
  exact this y (by simpa using hy)
theorem rows_ok : ∀ {l : List A} {lo hi : Nat} {b : A} {x : D}, A.rows l = some (lo, hi, b) → Amo Pi l x → ∃ t m, x = rowD t m ∧ lo ≤ m.length ∧ m.length ≤ hi ∧ ∀ y ∈ m, Am Pi b y
  | [], lo, hi, b, x, h, hx => by cases h
  | [a], lo, hi, b, x, h, hx => by
    simp only [A.rows] at h
    split at h
    · rename_i t lo hi b e
      cases h
      rcases hx with hx | hx
      · obtain ⟨m, h1, h2⟩ := asSeq_ok e hx
        exact ⟨t, m, h1, h2⟩
      · cases hx
    · cases h
  | a :: c :: l, lo, hi, b, x, h, hx => by
    simp only [A.rows] at h
    split at h
    · rename_i t lo1 hi1 b1 lo2 hi2 b2 e1 e2
      cases h
      rcases hx with hx | hx
      · obtain ⟨m, h1, h2, h3, h4⟩ := asSeq_ok e1 hx
        exact ⟨t, m, h1, by omega, by omega, itJoinL h3 h4⟩
      · obtain ⟨t, m, h1, h2, h3, h4⟩ := rows_ok e2 hx
        exact ⟨t, m, h1, by omega, by omega, itJoinR h3 h4⟩
    · cases h
def srcA : A → Option ASrc
  | .tup l => some (.ex l l.length)
  | .lst l => some (.ex l l.length)
  | .seq _ lo hi a => some (if hi ≤ 16 then .ex (List.replicate hi a) lo else .un lo hi a)
  | .txs [s] => if s.length ≤ big then some (.ex (chA s) s.length) else none
  | .or l => (A.rows l).map fun p => if p.2.1 ≤ 16 then .ex (List.replicate p.2.1 p.2.2) p.1 else .un p.1 p.2.1 p.2.2
  | _ => none
def aSrcOf (S : ASt) : AV → Option ASrc
  | .d a => srcA a
  | .ref n => match S[n]? with
    | some ⟨true, a⟩ => if a.kind = some 5 then srcA a else none
    | _ => none
theorem un_ok {lo hi : Nat} {a : A} {m : List D} (h1 : lo ≤ m.length) (h2 : m.length ≤ hi) (h : ∀ x ∈ m, Am Pi a x) : SrcOk Pi (if hi ≤ 16 then .ex (List.replicate hi a) lo else .un lo hi a) m := by
  split
  · exact ExOk_rep h1 h2 h
  · exact ⟨h1, h2, h⟩
theorem srcA_ok {a : A} {s : ASrc} {x : D} (h : srcA a = some s) (hx : Am Pi a x) : ∃ l, SrcOk Pi s l ∧ ∀ T : Store, srcOf T (.d x) = some ⟨l, fun _ => True⟩ := by
  unfold srcA at h
  split at h
  · cases h; obtain ⟨m, rfl, hm⟩ := hx; exact ⟨m, ExOk_ex hm, fun T => rfl⟩
  · cases h; obtain ⟨m, rfl, hm⟩ := hx; exact ⟨m, ExOk_ex hm, fun T => rfl⟩
  · rename_i t lo hi b
    cases h
    obtain ⟨m, rfl, h1, h2, hm⟩ := hx
    exact ⟨m, un_ok h1 h2 hm, fun T => by cases t <;> rfl⟩
  · rename_i s
    split at h
    · rename_i hs
      cases h
      obtain ⟨_, h3, rfl⟩ := hx
      cases List.mem_singleton.mp h3
      refine ⟨chD s, ?_, fun T => by simp only [srcOf, hs, if_true]; rfl⟩
      have := ExOk_ex (Pi := Pi) (ch_ok s)
      simp only [chA, List.length_map] at this
      exact this
    · cases h
  · simp only [Option.map_eq_some_iff] at h
    obtain ⟨⟨lo, hi, b⟩, h1, rfl⟩ := h
    obtain ⟨t, m, rfl, h2, h3, h4⟩ := rows_ok h1 hx
    exact ⟨m, un_ok h2 h3 h4, fun T => by cases t <;> rfl⟩
  · cases h
theorem aSrcOf_ok {S : ASt} {T : Store} {v : AV} {x : Val} {s : ASrc} (h : aSrcOf S v = some s) (hv : AmV Pi v x) (hS : AmS Pi S T) : ∃ l, SrcOk Pi s l ∧ srcOf T x = some ⟨l, fun _ => True⟩ := by
  cases v with
  | d a =>
    obtain ⟨y, rfl, hy⟩ := hv
    obtain ⟨l, h1, h2⟩ := srcA_ok h hy
    exact ⟨l, h1, h2 T⟩
  | ref n =>
    cases hv
    simp only [aSrcOf] at h
    split at h
    · rename_i a hc
      split at h
      · rename_i hk
        obtain ⟨c, h2, h3⟩ := hS.get hc
        obtain ⟨y, rfl, hy⟩ := h3
        obtain ⟨l, h4, h5⟩ := srcA_ok h hy
        have := kind_ok hk hy
        refine ⟨l, h4, ?_⟩
        cases y with
        | lst m =>
          have := h5 T
          simp only [srcOf, Option.some.injEq, Src.mk.injEq] at this
          simp only [srcOf, h2, this.1]
        | _ => simp [kindD] at this
      · cases h
    · cases h
def rangeA (a b : Int) (c d : Int) : Option ASrc := if -bd ≤ a ∧ b < bd ∧ -bd ≤ c ∧ d < bd then
    some (if a = b ∧ d - a ≤ 40 then .ex ((List.range (d - a).toNat).map fun (k : Nat) => .int (a + k) (a + k)) (c - a).toNat else .un (c - b).toNat (d - a).toNat (.int a (d - 1))) else none
theorem ExOk_range {a : Int} : ∀ {n m s lo : Nat}, n ≤ m → lo ≤ n → ExOk Pi ((List.range' s m).map fun (k : Nat) => .int (a + k) (a + k)) lo ((List.range' s n).map fun (k : Nat) => D.int (a + k))
  | 0, m, s, lo, h, h0 => by simp [ExOk]; omega
  | n + 1, 0, s, lo, h, h0 => by omega
  | n + 1, m + 1, s, lo, h, h0 => by
    simp only [List.range'_succ, List.map_cons]
    exact ⟨_, _, rfl, ⟨_, rfl, Int.le_refl _, Int.le_refl _⟩, ExOk_range (by omega) (by omega)⟩
theorem rangeA_ok {a b c d i j : Int} {s : ASrc} (h : rangeA a b c d = some s) (h1 : a ≤ i) (h2 : i ≤ b) (h3 : c ≤ j) (h4 : j ≤ d) : ∃ l, SrcOk Pi s l ∧ rangeL i j = some l := by
  unfold rangeA at h
  split at h
  · rename_i hb
    cases h
    refine ⟨(List.range (j - i).toNat).map fun (k : Nat) => .int (i + k), ?_, by unfold rangeL; rw [if_pos (by omega)]⟩
    split
    · rename_i e
      have : i = a := by omega
      subst this
      show ExOk Pi _ _ _
      rw [List.range_eq_range', List.range_eq_range']
      exact ExOk_range (by omega) (by omega)
    · refine ⟨by simp; omega, by simp; omega, fun x hx => ?_⟩
      obtain ⟨k, hk, rfl⟩ := List.mem_map.mp hx
      have := List.mem_range.mp hk
      exact ⟨_, rfl, by omega, by omega⟩
  · cases h
/-! ### comprehensions -/
structure ATn where
  o : Option A
  sk : Bool
  S : ASt
def TnOk (Pi : Par) (t : ATn) (r : R (Option D)) : Prop := ∃ y S, r = .ok y S ∧ AmS Pi t.S S ∧ match y with
  | some z => ∃ a, t.o = some a ∧ Am Pi a z
  | none => t.sk = true
def alApp (acc a : A) : Option A := match acc with
  | .lst l => some (.lst (l ++ [a]))
  | .seq false lo hi b => some (.seq false (lo + 1) (hi + 1) (itJoin hi b 1 a))
  | _ => none
theorem alApp_ok {acc a c : A} {m : List D} {x : D} (h : alApp acc a = some c) (hm : Am Pi acc (.lst m)) (hx : Am Pi a x) : Am Pi c (.lst (m ++ [x])) := by
  unfold alApp at h
  split at h
  · cases h
    obtain ⟨n, e, hn⟩ := hm
    cases e
    exact ⟨_, rfl, Ams_app hn ⟨x, [], rfl, hx, rfl⟩⟩
  · cases h
    obtain ⟨n, e, h1, h2, hn⟩ := hm
    cases e
    exact ⟨m ++ [x], rfl, by simp; omega, by simp; omega, itJoin_ok h2 (by simp) hn (by simpa using hx)⟩
  · cases h
def alAdd (acc : A) (t : ATn) : Option A := match t.o, t.sk with
  | none, _ => some acc
  | some a, false => alApp acc a
  | some a, true => match acc.asSeq with
    | some (false, lo, hi, b) => some (.seq false lo (hi + 1) (itJoin hi b 1 a))
    | _ => none
theorem alAdd_ok {acc c : A} {t : ATn} {m : List D} {y : Option D} (h : alAdd acc t = some c) (hm : Am Pi acc (.lst m)) (hy : match y with
    | some z => ∃ a, t.o = some a ∧ Am Pi a z
    | none => t.sk = true) : Am Pi c (.lst (m ++ y.toList)) := by
  unfold alAdd at h
  split at h
  · rename_i e
    cases h
    cases y with
    | none => simpa using hm
    | some z => obtain ⟨a, h1, _⟩ := hy; rw [e] at h1; cases h1
  · rename_i a e1 e2
    cases y with
    | none => rw [e2] at hy; cases hy
    | some z =>
      obtain ⟨a', h1, h2⟩ := hy
      rw [e1] at h1; cases h1
      exact alApp_ok h hm h2
  · rename_i a e1 e2
    split at h
    · rename_i lo hi b e
      cases h
      obtain ⟨n, e3, h1, h2, hn⟩ := asSeq_ok e hm
      cases e3
      cases y with
      | none => exact ⟨m ++ [], rfl, by simp; omega, by simp; omega, by simpa using itJoinL h2 hn⟩
      | some z =>
        obtain ⟨a', h5, h6⟩ := hy
        rw [e1] at h5; cases h5
        exact ⟨m ++ [z], rfl, by simp; omega, by simp; omega, itJoin_ok h2 (by simp) hn (by simpa using h6)⟩
    · cases h
def alJoin (a b : A) : Option A := match a.asSeq, b.asSeq with
  | some (false, lo, hi, a), some (false, lo', hi', b) => some (.seq false (min lo lo') (max hi hi') (itJoin hi a hi' b))
  | _, _ => none
theorem alJoin_ok {a b c : A} {x : D} (h : alJoin a b = some c) : (Am Pi a x → Am Pi c x) ∧ (Am Pi b x → Am Pi c x) := by
  unfold alJoin at h
  split at h
  · rename_i e1 e2
    cases h
    constructor
    · intro hx
      obtain ⟨m, rfl, h1, h2, h3⟩ := asSeq_ok e1 hx
      exact ⟨m, rfl, by omega, by omega, itJoinL h2 h3⟩
    · intro hx
      obtain ⟨m, rfl, h1, h2, h3⟩ := asSeq_ok e2 hx
      exact ⟨m, rfl, by omega, by omega, itJoinR h2 h3⟩
  · cases h
def aLcE (turn : A → ASt → Option ATn) : List A → Nat → A → ASt → Option (A × ASt)
  | [], _, acc, S => some (acc, S)
  | a :: items, lo, acc, S => match turn a S with
    | none => none
    | some t => match alAdd acc t with
      | none => none
      | some acc1 => match aLcE turn items (lo - 1) acc1 t.S with
        | none => none
        | some p => if lo = 0 then (match alJoin p.1 acc, joinSt p.2 S with
            | some c, some S' => some (c, S')
            | _, _ => none)
          else some p
theorem lcL_nil {ck : Store → Prop} {turn : D → Store → R (Option D)} {acc : List D} {S : Store} (h : ck S) : lcL ck turn [] acc S = .ok acc S := by simp [lcL, h]
theorem aLcE_ok {turn : A → ASt → Option ATn} {cturn : D → Store → R (Option D)} {ck : Store → Prop} (hck : ∀ S, ck S) (ht : ∀ {a t S x T}, turn a S = some t → Am Pi a x → AmS Pi S T → TnOk Pi t (cturn x T)) :
    ∀ {l : List D} {items : List A} {lo : Nat} {acc : A} {S : ASt} {m : List D} {T : Store} {p : A × ASt}, aLcE turn items lo acc S = some p → ExOk Pi items lo l → Am Pi acc (.lst m) → AmS Pi S T → m.length + l.length ≤ big →
      ∃ r T', lcL ck cturn l m T = .ok r T' ∧ Am Pi p.1 (.lst r) ∧ AmS Pi p.2 T'
  | [], items, lo, acc, S, m, T, p, h, hl, hm, hS, hb => by
    refine ⟨m, T, lcL_nil (hck T), ?_⟩
    cases items with
    | nil => cases h; exact ⟨hm, hS⟩
    | cons a items =>
      simp only [aLcE] at h
      split at h
      · cases h
      · split at h
        · cases h
        · split at h
          · cases h
          · cases (show lo = 0 from hl)
            simp only [if_true] at h
            split at h
            · rename_i h1 h2
              cases h
              exact ⟨(alJoin_ok h1).2 hm, (joinSt_ok h2).2 hS⟩
            · cases h
  | x :: l, items, lo, acc, S, m, T, p, h, hl, hm, hS, hb => by
    obtain ⟨a, items, rfl, hx, hl⟩ := hl
    simp only [aLcE] at h
    split at h
    · cases h
    · rename_i t e1
      split at h
      · cases h
      · rename_i acc1 e2
        split at h
        · cases h
        · rename_i q e3
          obtain ⟨y, T1, h1, h2, h3⟩ := ht e1 hx hS
          have hm1 := alAdd_ok e2 hm h3
          have hlen : (x :: l).length = l.length + 1 := rfl
          have hb1 : (m ++ y.toList).length + l.length ≤ big := by
            cases y <;> simp <;> omega
          obtain ⟨r, T', k1, k2, k3⟩ := aLcE_ok hck ht e3 hl hm1 h2 hb1
          refine ⟨r, T', ?_, ?_⟩
          · simp only [lcL, hck T, if_true, h1, R.bind_ok]
            cases y with
            | none => simpa using k1
            | some z =>
              have : m.length < big := by omega
              simp only [this, if_true]
              exact k1
          · split at h
            · split at h
              · rename_i h4 h5
                cases h
                exact ⟨(alJoin_ok h4).1 k2, (joinSt_ok h5).1 k3⟩
              · cases h
            · cases h; exact ⟨k2, k3⟩
def subSt : ASt → ASt → Bool
  | [], [] => true
  | a :: l, b :: m => a.fz == b.fz && A.sub A.fuel a.a b.a && subSt l m
  | _, _ => false
theorem subC_ok {f : Bool} {a b : A} {x : Cell} (h : A.sub A.fuel a b = true) (hx : AmC Pi ⟨f, a⟩ x) : AmC Pi ⟨f, b⟩ x := by
  cases f with
  | true => obtain ⟨y, e, hy⟩ := hx; exact ⟨y, e, sub_ok _ h hy⟩
  | false =>
    rcases hx with ⟨y, e, hy⟩ | ⟨y, e, hy⟩
    · exact .inl ⟨y, e, sub_ok _ h hy⟩
    · exact .inr ⟨y, e, sub_ok _ h hy⟩
theorem subSt_ok : ∀ {l m : ASt} {t : Store}, subSt l m = true → AmS Pi l t → AmS Pi m t
  | [], [], t, h, ht => ht
  | [], _ :: _, t, h, ht => by cases h
  | _ :: _, [], t, h, ht => by cases h
  | ⟨f, a⟩ :: l, ⟨g, b⟩ :: m, t, h, ht => by
    simp only [subSt, Bool.and_eq_true, beq_iff_eq] at h
    obtain ⟨⟨rfl, h1⟩, h2⟩ := h
    obtain ⟨x, r, rfl, h3, h4⟩ := ht
    exact ⟨x, r, rfl, subC_ok h1 h3, subSt_ok h2 h4⟩
/-- a store that the turns stay within -/
def aFixLc (turn : A → ASt → Option ATn) (a : A) : Nat → ASt → Option (ATn × ASt)
  | 0, _ => none
  | n + 1, S => match turn a S with
    | none => none
    | some t => if subSt t.S S then some (t, S) else match joinSt t.S S with
      | none => none
      | some S1 => aFixLc turn a n S1
theorem aFixLc_ok {turn : A → ASt → Option ATn} {a : A} : ∀ {n : Nat} {S S' : ASt} {t : ATn}, aFixLc turn a n S = some (t, S') → turn a S' = some t ∧ subSt t.S S' = true ∧ ∀ {T}, AmS Pi S T → AmS Pi S' T
  | 0, S, S', t, h => by cases h
  | n + 1, S, S', t, h => by
    simp only [aFixLc] at h
    split at h
    · cases h
    · rename_i e1
      split at h
      · rename_i e2
        cases h
        exact ⟨e1, e2, fun h => h⟩
      · split at h
        · cases h
        · rename_i S1 e2
          obtain ⟨h1, h2, h3⟩ := aFixLc_ok h
          exact ⟨h1, h2, fun h => h3 ((joinSt_ok e2).2 h)⟩
def aLcU (turn : A → ASt → Option ATn) (lo hi : Nat) (a : A) (S : ASt) : Option (A × ASt) := match aFixLc turn a 4 S with
  | none => none
  | some (t, S1) => some (match t.o with
    | none => .lst []
    | some b => .seq false (if t.sk then 0 else lo) hi b, S1)
theorem lcU_ok {t : ATn} {S1 : ASt} {cturn : D → Store → R (Option D)} {ck : Store → Prop} (hck : ∀ S, ck S) (hsub : subSt t.S S1 = true) : ∀ {l : List D} {T : Store} {m : List D}, (∀ x ∈ l, ∀ T, AmS Pi S1 T → TnOk Pi t (cturn x T)) → AmS Pi S1 T → m.length + l.length ≤ big → 
      ∃ r T', lcL ck cturn l m T = .ok (m ++ r) T' ∧ AmS Pi S1 T' ∧ r.length ≤ l.length ∧ (t.sk = false → r.length = l.length) ∧ ∀ y ∈ r, ∃ b, t.o = some b ∧ Am Pi b y
  | [], T, m, h, hT, hb => ⟨[], T, by simp [lcL, hck T], hT, by simp, fun _ => rfl, by simp⟩
  | x :: l, T, m, h, hT, hb => by
    obtain ⟨y, T1, h1, h2, h3⟩ := h x (by simp) T hT
    have hlen : (x :: l).length = l.length + 1 := rfl
    have hb1 : (m ++ y.toList).length + l.length ≤ big := by cases y <;> simp <;> omega
    obtain ⟨r, T', k1, k2, k3, k4, k5⟩ := lcU_ok hck hsub (fun z hz => h z (List.mem_cons_of_mem _ hz)) (subSt_ok hsub h2) hb1
    refine ⟨y.toList ++ r, T', ?_, k2, ?_, ?_, ?_⟩
    · simp only [lcL, hck T, if_true, h1, R.bind_ok]
      cases y with
      | none => simpa using k1
      | some z =>
        have : m.length < big := by omega
        simp only [this, if_true]
        simpa using k1
    · cases y <;> simp <;> omega
    · intro hs
      have := k4 hs
      cases y with
      | none => rw [hs] at h3; cases h3
      | some z => simp; omega
    · intro z hz
      rcases List.mem_append.mp hz with q | q
      · cases y with
        | none => cases q
        | some w =>
          simp at q; subst q
          exact h3
      · exact k5 z q
def aLc (turn : A → ASt → Option ATn) (s : ASrc) (S : ASt) : Option (A × ASt) := match s with
  | .ex items lo => if items.length ≤ 100000 then aLcE turn items lo (.lst []) S else none
  | .un lo hi a => if hi ≤ 100000 then aLcU turn lo hi a S else none
theorem aLc_ok {turn : A → ASt → Option ATn} {cturn : D → Store → R (Option D)} {ck : Store → Prop} (hck : ∀ S, ck S) (ht : ∀ {a t S x T}, turn a S = some t → Am Pi a x → AmS Pi S T → TnOk Pi t (cturn x T)) {s : ASrc} {l : List D} {S : ASt} {T : Store} {p : A × ASt}
    (h : aLc turn s S = some p) (hl : SrcOk Pi s l) (hS : AmS Pi S T) : ∃ r T', lcL ck cturn l [] T = .ok r T' ∧ Am Pi p.1 (.lst r) ∧ AmS Pi p.2 T' := by
  unfold aLc at h
  split at h
  · split at h
    · rename_i items lo hb
      have := ExOk_len hl
      exact aLcE_ok hck ht h hl ⟨[], rfl, rfl⟩ hS (le_big (by simp; omega))
    · cases h
  · rename_i lo hi a
    split at h
    · rename_i hb
      unfold aLcU at h
      split at h
      · cases h
      · rename_i t S1 e
        cases h
        obtain ⟨h1, h2, h3⟩ := aFixLc_ok (Pi := Pi) e
        obtain ⟨l1, l2, l3⟩ := hl
        obtain ⟨r, T', k1, k2, k3, k4, k5⟩ := lcU_ok (m := []) hck h2 (fun x hx T hT => ht h1 (l3 x hx) hT) (h3 hS) (le_big (by simp; omega))
        refine ⟨r, T', by simpa using k1, ?_, k2⟩
        cases e2 : t.o with
        | none =>
          cases r with
          | nil => exact ⟨[], rfl, rfl⟩
          | cons y r => obtain ⟨b, hb, _⟩ := k5 y (by simp); rw [e2] at hb; cases hb
        | some b =>
          refine ⟨r, rfl, ?_, by omega, fun y hy => ?_⟩
          · cases q : t.sk with
            | true => simp
            | false => have := k4 q; simp; omega
          · obtain ⟨b', hb, hy⟩ := k5 y hy
            rw [e2] at hb; cases hb; exact hy
    · cases h
/-! ### methods -/
def recvK : Mth → Nat
  | .append | .pop | .popAt | .reverse | .extend | .insert | .remove | .index | .count => 5
  | .get1 | .get2 | .dpop1 | .dpop2 | .items => 6
  | .join | .split | .replace => 3
theorem recv_ok {m : Mth} {x : D} (h : kindD x = recvK m) : recvD m x = true := by
  cases m <;> cases x <;> first | rfl | cases h
def aMthD (m : Mth) (a : A) (as : List A) : Option A := match m, a, as with
  | .get1, .dct l, [k] => (keyA k).map fun k => (aKGet k l).getD .non
  | .get2, .dct l, [k, x] => (keyA k).map fun k => (aKGet k l).getD x
  | .join, a, [.lst l] => match a.strMax, joinAll l with
    | some n, some b => (match b.strMax with
      | some m => if l.length * m + l.length * n ≤ 100000 then some (.txL (l.length * m + l.length * n)) else none
      | none => none)
    | some _, none => some (.txs [[]])
    | _, _ => none
  | .join, a, [.seq _ _ hi b] => match a.strMax, b.strMax with
    | some n, some m => if hi * m + hi * n ≤ 100000 then some (.txL (hi * m + hi * n)) else none
    | _, _ => none
  | _, _, _ => none
theorem strs_bound {n : Nat} : ∀ {m : List D}, (∀ y ∈ m, ∃ s : List Nat, y = .str s ∧ s.length ≤ n) → ∃ xs, strsOf m = some xs ∧ xs.length = m.length ∧ (xs.map List.length).sum ≤ m.length * n
  | [], h => ⟨[], rfl, rfl, by simp⟩
  | y :: m, h => by
    obtain ⟨s, rfl, hs⟩ := h y (by simp)
    obtain ⟨xs, h1, h2, h3⟩ := strs_bound fun z hz => h z (List.mem_cons_of_mem _ hz)
    refine ⟨s :: xs, by simp [strsOf, h1], by simp [h2], ?_⟩
    simp only [List.map_cons, List.sum_cons, List.length_cons, Nat.add_mul]
    omega
theorem joinS_len (sep : List Nat) : ∀ xs : List (List Nat), (joinS sep xs).length ≤ (xs.map List.length).sum + xs.length * sep.length
  | [] => by simp [joinS]
  | [x] => by simp [joinS]
  | x :: y :: r => by
    have := joinS_len sep (y :: r)
    simp only [joinS, List.length_append, List.map_cons, List.sum_cons, List.length_cons, Nat.add_mul] at this ⊢
    omega
theorem aMthD_ok {m : Mth} {a c : A} {as : List A} {x : D} {xs : List D} (h : aMthD m a as = some c) (hx : Am Pi a x) (hs : Ams Pi as xs) : ∃ z, mthD m x xs = some z ∧ Am Pi c z := by
  unfold aMthD at h
  split at h
  · simp only [Option.map_eq_some_iff] at h
    obtain ⟨k, h1, rfl⟩ := h
    obtain ⟨q, rfl, hq⟩ := hx
    obtain ⟨y, r, rfl, h2, h3⟩ := hs
    simp [Ams] at h3
    subst h3
    obtain ⟨rfl, h4⟩ := keyA_ok h1 h2
    have := aKGet_ok (k := y) hq
    refine ⟨(kGet y q).getD .non, by simp [mthD, h4], ?_⟩
    split at this
    · rename_i a e
      obtain ⟨z, h5, h6⟩ := this
      rw [e, h5]; exact h6
    · rename_i e
      rw [e, this]; rfl
  · simp only [Option.map_eq_some_iff] at h
    obtain ⟨k, h1, rfl⟩ := h
    obtain ⟨q, rfl, hq⟩ := hx
    obtain ⟨y, r, rfl, h2, h3⟩ := hs
    obtain ⟨w, r, rfl, h7, h3⟩ := h3
    simp [Ams] at h3
    subst h3
    obtain ⟨rfl, h4⟩ := keyA_ok h1 h2
    have := aKGet_ok (k := y) hq
    refine ⟨(kGet y q).getD w, by simp [mthD, h4], ?_⟩
    split at this
    · rename_i a e
      obtain ⟨z, h5, h6⟩ := this
      rw [e, h5]; exact h6
    · rename_i e
      rw [e, this]; exact h7
  · rename_i l
    obtain ⟨y, r, rfl, h2, h3⟩ := hs
    simp [Ams] at h3
    subst h3
    obtain ⟨q, rfl, hq⟩ := h2
    split at h
    · rename_i n b e1 e2
      split at h
      · rename_i k e3
        split at h
        · rename_i hb
          cases h
          obtain ⟨s, rfl, hs⟩ := strMax_ok e1 hx
          obtain ⟨xs, h4, h5, h6⟩ := strs_bound (m := q) (n := k) fun y hy => strMax_ok e3 (joinAll_ok e2 (Ams_mem hq hy))
          have hl := Ams_len hq
          have h7 : xs.length * s.length ≤ l.length * n := by rw [h5, ← hl]; exact Nat.mul_le_mul_left _ hs
          have h8 : (xs.map List.length).sum ≤ l.length * k := by rw [hl]; exact h6
          have h9 := joinS_len s xs
          refine ⟨.str (joinS s xs), ?_, _, by omega, rfl⟩
          simp only [mthD, h4, Option.bind_some]
          rw [if_pos (le_big (by omega))]
        · cases h
      · cases h
    · rename_i n e1 e2
      cases h
      obtain ⟨s, rfl, hs⟩ := strMax_ok e1 hx
      cases q with
      | nil => exact ⟨.str [], by simp [mthD, strsOf, joinS], [], by simp, rfl⟩
      | cons y q =>
        have hn : ∀ l : List A, l ≠ [] → joinAll l ≠ none := by
          intro l
          induction l with
          | nil => simp
          | cons a l ih =>
            intro _
            cases l with
            | nil => simp [joinAll]
            | cons b l => simpa [joinAll] using ih
        exact absurd e2 (hn l (by rintro rfl; simp [Ams] at hq))
    · cases h
  · rename_i t lo hi b
    obtain ⟨y, r, rfl, h2, h3⟩ := hs
    simp [Ams] at h3
    subst h3
    obtain ⟨q, rfl, q1, q2, hq⟩ := h2
    split at h
    · rename_i n k e1 e3
      split at h
      · rename_i hb
        cases h
        obtain ⟨s, rfl, hs⟩ := strMax_ok e1 hx
        obtain ⟨xs, h4, h5, h6⟩ := strs_bound (m := q) (n := k) fun y hy => strMax_ok e3 (hq y hy)
        have h7 : xs.length * s.length ≤ hi * n := by rw [h5]; exact Nat.mul_le_mul q2 hs
        have h8 : (xs.map List.length).sum ≤ hi * k := Nat.le_trans h6 (Nat.mul_le_mul_right _ q2)
        have h9 := joinS_len s xs
        refine ⟨.str (joinS s xs), ?_, _, by omega, rfl⟩
        cases t <;> (simp only [mthD, rowD, h4, Option.bind_some]; rw [if_pos (le_big (by omega))])
      · cases h
    · cases h
  · cases h
def aMthC (m : Mth) (a : A) (as : List A) : Option (A × A) := match m, as with
  | .append, [x] => (match a with
    | .lst l => if l.length < 64 then some (.non, .lst (l ++ [x])) else if l.length ≤ 100000 then some (.non, .seq false (l.length + 1) (l.length + 1) (itJoin l.length ((joinAll l).getD .non) 1 x)) else none
    | .seq false lo hi b => if hi ≤ 100000 then some (.non, .seq false (lo + 1) (hi + 1) (itJoin hi b 1 x)) else none
    | _ => none)
  | .pop, [] => (match a with
    | .lst l => (match l[l.length - 1]? with
      | some x => some (x, .lst l.dropLast)
      | none => none)
    | .seq false lo hi b => if 0 < lo then some (b, .seq false (lo - 1) (hi - 1) b) else none
    | .dk (j + 1) => some (.int 0 2147483647, .dk j)
    | _ => none)
  | .reverse, [] => (match a with
    | .lst l => some (.non, .lst l.reverse)
    | .seq false lo hi b => some (.non, .seq false lo hi b)
    | _ => none)
  | _, _ => none
theorem dropLast_Ams : ∀ {l : List A} {m : List D}, Ams Pi l m → Ams Pi l.dropLast m.dropLast := by
  intro l m h
  rw [List.dropLast_eq_take, List.dropLast_eq_take, Ams_len h]
  exact Ams_take _ h
theorem aMthC_ok {m : Mth} {a z c : A} {as : List A} {x : Cell} {xs : List D} (h : aMthC m a as = some (z, c)) (hx : AmC Pi ⟨false, a⟩ x) (hs : Ams Pi as xs) : ∃ y c', mthC m x xs = some (y, c') ∧ Am Pi z y ∧ AmC Pi ⟨false, c⟩ c' := by
  have hk : ∀ {k}, a.kind = some k → k = 5 → ∃ l, x = .lst l ∧ Am Pi a (.lst l) := by
    intro k e1 e2
    subst e2
    rcases hx with ⟨l, rfl, hl⟩ | ⟨l, rfl, hl⟩
    · exact ⟨l, rfl, hl⟩
    · have := kind_ok e1 hl
      simp [kindD] at this
  unfold aMthC at h
  split at h
  · rename_i w
    obtain ⟨y, r, rfl, h2, h3⟩ := hs
    simp [Ams] at h3
    subst h3
    split at h
    · rename_i l
      obtain ⟨n, rfl, hn⟩ := hk rfl rfl
      obtain ⟨n', e, hn⟩ := hn
      cases e
      have hl := Ams_len hn
      split at h
      · cases h
        have : n.length < big := Nat.lt_of_lt_of_le (by omega : n.length < 64) (by decide)
        exact ⟨.non, .lst (n ++ [y]), by simp [mthC, this], rfl, .inl ⟨_, rfl, _, rfl, Ams_app hn ⟨y, [], rfl, h2, rfl⟩⟩⟩
      · split at h
        · rename_i hb
          cases h
          have : n.length < big := Nat.lt_of_le_of_lt (by omega : n.length ≤ 100000) (by decide)
          exact ⟨.non, .lst (n ++ [y]), by simp [mthC, this], rfl, .inl ⟨_, rfl, _, rfl, by simp; omega, by simp; omega, itJoin_ok (by omega) (by simp) (getD_ok hn) (by simpa using h2)⟩⟩
        · cases h
    · rename_i lo hi b
      split at h
      · rename_i hb
        cases h
        obtain ⟨n, rfl, hn⟩ := hk rfl rfl
        obtain ⟨n', e, h4, h5, hn⟩ := hn
        cases e
        have : n.length < big := Nat.lt_of_le_of_lt (by omega : n.length ≤ 100000) (by decide)
        exact ⟨.non, .lst (n ++ [y]), by simp [mthC, this], rfl, .inl ⟨_, rfl, _, rfl, by simp; omega, by simp; omega, itJoin_ok h5 (by simp) hn (by simpa using h2)⟩⟩
      · cases h
    · cases h
  · simp [Ams] at hs
    subst hs
    split at h
    · rename_i l
      split at h
      · rename_i w e
        cases h
        obtain ⟨n, rfl, hn⟩ := hk rfl rfl
        obtain ⟨n', e', hn⟩ := hn
        cases e'
        obtain ⟨y, h1, h2⟩ := Ams_get hn e
        rw [Ams_len hn] at h1
        exact ⟨y, .lst n.dropLast, by simp only [mthC, h1], h2, .inl ⟨_, rfl, _, rfl, dropLast_Ams hn⟩⟩
      · cases h
    · rename_i lo hi b
      split at h
      · rename_i hl
        cases h
        obtain ⟨n, rfl, hn⟩ := hk rfl rfl
        obtain ⟨n', e', h4, h5, hn⟩ := hn
        cases e'
        have hp : n.length - 1 < n.length := by omega
        refine ⟨n[n.length - 1], .lst n.dropLast, by simp only [mthC, List.getElem?_eq_getElem hp], hn _ (List.getElem_mem hp), .inl ⟨_, rfl, _, rfl, by simp; omega, by simp; omega, fun y hy => hn y (List.dropLast_subset n hy)⟩⟩
      · cases h
    · rename_i j
      cases h
      obtain ⟨n, rfl, hn⟩ := hk rfl rfl
      obtain ⟨l, e', h4, h5⟩ := hn
      cases e'
      have hp : l.length - 1 < l.length := by omega
      refine ⟨.int l[l.length - 1], .lst (l.dropLast.map .int), ?_, ⟨_, rfl, h5 _ (List.getElem_mem hp)⟩, .inl ⟨_, rfl, _, rfl, by simp; omega, fun i hi => h5 i (List.dropLast_subset l hi)⟩⟩
      simp only [mthC, List.length_map, List.getElem?_map, List.getElem?_eq_getElem hp, Option.map_some, List.map_dropLast]
    · cases h
  · simp [Ams] at hs
    subst hs
    split at h
    · cases h
      obtain ⟨n, rfl, hn⟩ := hk rfl rfl
      obtain ⟨n', e', hn⟩ := hn
      cases e'
      exact ⟨.non, .lst n.reverse, rfl, rfl, .inl ⟨_, rfl, _, rfl, Ams_rev hn⟩⟩
    · cases h
      obtain ⟨n, rfl, hn⟩ := hk rfl rfl
      obtain ⟨n', e', h4, h5, hn⟩ := hn
      cases e'
      exact ⟨.non, .lst n.reverse, rfl, rfl, .inl ⟨_, rfl, _, rfl, by simpa using h4, by simpa using h5, fun y hy => hn y (by simpa using hy)⟩⟩
    · cases h
  · cases h
end
end Ev

end

section
set_option Elab.async false
set_option linter.all false
set_option maxRecDepth 100000
set_option maxHeartbeats 1000000
/-! Ev, kinds: expressions. -/
namespace Ev
/-- what is known of calls, constants, dicts -/
structure ACx where
  call : Nat → List AV → ASt → Option (AV × ASt)
  glo : Nat → Option D
  gdc : Nat → Option (List (List Nat × D))
  hx : Exp → ASig → ASt → Option (AV × ASt) := fun _ _ _ => none
  ht : Tst → ASig → ASt → Option (A × ASt) := fun _ _ _ => none
structure CxOk (Pi : Par) (K : Cx) (C : ACx) : Prop where
  call : ∀ {f : Nat} {vs : List AV} {us : List Val} {S : ASt} {T : Store} {p : AV × ASt}, C.call f vs S = some p → All2 (AmV Pi) vs us → AmS Pi S T → OkV Pi p (K.call f us T)
  glo : K.glo = C.glo
  gdc : K.gdc = C.gdc
  hx : ∀ {e : Exp} {s : ASig} {S : ASt} {p : AV × ASt} {σ : Sig} {T : Store}, C.hx e s S = some p → AmG Pi s σ → AmS Pi S T → OkV Pi p (ev K e σ T) := by intro _ _ _ _ _ _ h; cases h
  ht : ∀ {e : Tst} {s : ASig} {S : ASt} {p : A × ASt} {σ : Sig} {T : Store}, C.ht e s S = some p → AmG Pi s σ → AmS Pi S T → OkB Pi p (evT K e σ T) := by intro _ _ _ _ _ _ h; cases h
section
variable {Pi : Par}
theorem OkV.bind {β : Type} {Q : R β → Prop} {p : AV × ASt} {r : R Val} {f : Val → Store → R β} (h : OkV Pi p r) (k : ∀ v S, AmV Pi p.1 v → AmS Pi p.2 S → Q (f v S)) : Q (r.bind f) := by
  obtain ⟨v, S, rfl, h1, h2⟩ := h
  exact k v S h1 h2
theorem OkB.bind {β : Type} {Q : R β → Prop} {p : A × ASt} {r : R Bool} {f : Bool → Store → R β} (h : OkB Pi p r) (k : ∀ v S, Am Pi p.1 (.bl v) → AmS Pi p.2 S → Q (f v S)) : Q (r.bind f) := by
  obtain ⟨v, S, rfl, h1, h2⟩ := h
  exact k v S h1 h2
theorem OkVs.bind {β : Type} {Q : R β → Prop} {p : List AV × ASt} {r : R (List Val)} {f : List Val → Store → R β} (h : OkVs Pi p r) (k : ∀ v S, All2 (AmV Pi) p.1 v → AmS Pi p.2 S → Q (f v S)) : Q (r.bind f) := by
  obtain ⟨v, S, rfl, h1, h2⟩ := h
  exact k v S h1 h2
def aKSet (k : D) (a : A) (l : List (D × A)) : List (D × A) := if (l.any fun p => kEq p.1 k) = true then l.map (fun p => if kEq p.1 k = true then (p.1, a) else p) else l ++ [(k, a)]
theorem Amk_any {k : D} : ∀ {l : List (D × A)} {m : List (D × D)}, Amk Pi l m → (m.any fun p => kEq p.1 k) = l.any fun p => kEq p.1 k
  | [], m, h => by simp [Amk] at h; subst h; rfl
  | (q, a) :: l, m, h => by
    obtain ⟨x, r, rfl, _, h1, h2⟩ := h
    simp only [List.any_cons, Amk_any h2]
theorem Amk_map {k : D} {a : A} {x : D} (hx : Am Pi a x) : ∀ {l : List (D × A)} {m : List (D × D)}, Amk Pi l m → Amk Pi (l.map fun p => if kEq p.1 k = true then (p.1, a) else p) (m.map fun p => if kEq p.1 k = true then (p.1, x) else p)
  | [], m, h => by simp [Amk] at h; subst h; rfl
  | (q, b) :: l, m, h => by
    obtain ⟨y, r, rfl, h0, h1, h2⟩ := h
    simp only [List.map_cons]
    by_cases e : kEq q k = true
    · simp only [e, if_true]
      exact ⟨x, _, rfl, h0, hx, Amk_map hx h2⟩
    · simp only [e]
      exact ⟨y, _, rfl, h0, h1, Amk_map hx h2⟩
theorem Amk_app : ∀ {l l' : List (D × A)} {m m' : List (D × D)}, Amk Pi l m → Amk Pi l' m' → Amk Pi (l ++ l') (m ++ m')
  | [], l', m, m', h, h' => by simp [Amk] at h; subst h; exact h'
  | (k, a) :: l, l', m, m', h, h' => by
    obtain ⟨x, r, rfl, h0, h1, h2⟩ := h
    exact ⟨x, r ++ m', rfl, h0, h1, Amk_app h2 h'⟩
theorem aKSet_ok {k : D} {a : A} {x : D} {l : List (D × A)} {m : List (D × D)} (hk : isK k = true) (hx : Am Pi a x) (h : Amk Pi l m) : Amk Pi (aKSet k a l) (kSet k x m) := by
  unfold aKSet kSet
  rw [Amk_any h]
  split
  · exact Amk_map hx h
  · exact Amk_app h ⟨x, [], rfl, hk, hx, rfl⟩
theorem fold_ok : ∀ {ks : List D} {as : List A} {xs : List D} {l : List (D × A)} {m : List (D × D)}, ks.all isK = true → Ams Pi as xs → Amk Pi l m → Amk Pi ((ks.zip as).foldl (fun l p => aKSet p.1 p.2 l) l) ((ks.zip xs).foldl (fun l p => kSet p.1 p.2 l) m)
  | [], as, xs, l, m, hk, hs, h => by simpa using h
  | k :: ks, [], xs, l, m, hk, hs, h => by simp [Ams] at hs; subst hs; simpa using h
  | k :: ks, a :: as, xs, l, m, hk, hs, h => by
    obtain ⟨x, r, rfl, h1, h2⟩ := hs
    simp only [List.all_cons, Bool.and_eq_true] at hk
    exact @fold_ok ks as r _ _ hk.2 h2 (aKSet_ok hk.1 h1 h)
/-! ### methods -/
def aMthL (m : Mth) (a : A) (as : List A) : Option A := match as with
  | [k] => lift2 (fun a k => aMthD m a [k]) a k
  | [k, x] => lift2 (fun a k => aMthD m a [k, x]) a k
  | as => lift1 (fun a => aMthD m a as) a
theorem aMthL_ok {m : Mth} {a c : A} {as : List A} {x : D} {xs : List D} (h : aMthL m a as = some c) (hx : Am Pi a x) (hs : Ams Pi as xs) : ∃ z, mthD m x xs = some z ∧ Am Pi c z := by
  unfold aMthL at h
  split at h
  · obtain ⟨y, r, rfl, h2, h3⟩ := hs
    simp [Ams] at h3
    subst h3
    exact lift2_ok (Pi := Pi) (g := fun x y => mthD m x [y]) (fun {a b c x y} h hx hy => aMthD_ok h hx (show Ams Pi [b] [y] from ⟨_, [], rfl, hy, rfl⟩)) h hx h2
  · obtain ⟨y, r, rfl, h2, h3⟩ := hs
    exact lift2_ok (Pi := Pi) (g := fun x y => mthD m x (y :: r)) (fun {a b c x y} h hx hy => aMthD_ok h hx (show Ams Pi (b :: _) (y :: r) from ⟨_, r, rfl, hy, h3⟩)) h hx h2
  · exact lift1_ok (Pi := Pi) (g := fun x => mthD m x xs) (fun h hx => aMthD_ok h hx hs) h hx
def aMeth (m : Mth) (v : AV) (vs : List AV) (S : ASt) : Option (AV × ASt) := match m.mut with
  | true => (match v with
    | .ref n => (match aFzs S vs with
      | some p => (match p.2[n]? with
        | some ⟨false, a⟩ => (match aMthC m a p.1 with
          | some q => some (.d q.1, p.2.set n ⟨false, q.2⟩)
          | none => none)
        | _ => none)
      | none => none)
    | .d _ => none)
  | false => match m.keeps with
    | true => (match aFzs S vs with
      | some p => (match aRd p.2 v with
        | some a => (aMthL m a p.1).map fun c => (.d c, p.2)
        | none => none)
      | none => none)
    | false => match aRd S v, aRds S vs with
      | some a, some as => (aMthL m a as).map fun c => (.d c, S)
      | _, _ => none
theorem aMeth_ok {m : Mth} {v : AV} {vs : List AV} {S : ASt} {T : Store} {p : AV × ASt} {x : Val} {xs : List Val} (h : aMeth m v vs S = some p) (hv : AmV Pi v x) (hs : All2 (AmV Pi) vs xs) (hS : AmS Pi S T) : OkV Pi p (doMeth m x xs T) := by
  unfold aMeth at h
  unfold doMeth
  split at h
  · rename_i em
    try rw [em]
    try simp only
    split at h
    · rename_i n
      cases hv
      split at h
      · rename_i q e1
        split at h
        · rename_i a e2
          split at h
          · rename_i r e3
            cases h
            obtain ⟨ys, T', h1, h2, h3⟩ := aFzs_ok (as := q.1) (S' := q.2) e1 hs hS
            obtain ⟨c, h4, h5⟩ := h3.get e2
            obtain ⟨y, c', h6, h7, h8⟩ := aMthC_ok (z := r.1) (c := r.2) e3 h5 h2
            exact ⟨.d y, T'.set n c', by simp [doMut, h1, h4, h6], ⟨y, rfl, h7⟩, h3.set n h8⟩
          · cases h
        · cases h
      · cases h
    · cases h
  · rename_i em
    try rw [em]
    try simp only
    split at h
    · rename_i ek
      try rw [ek]
      try simp only
      split at h
      · rename_i q e1
        split at h
        · rename_i a e2
          simp only [Option.map_eq_some_iff] at h
          obtain ⟨c, e3, rfl⟩ := h
          obtain ⟨ys, T', h1, h2, h3⟩ := aFzs_ok (as := q.1) (S' := q.2) e1 hs hS
          obtain ⟨y, h4, h5⟩ := aRd_ok e2 hv h3
          obtain ⟨z, h6, h7⟩ := aMthL_ok e3 h5 h2
          exact ⟨.d z, T', by simp [doKeep, h1, h4, h6], ⟨z, rfl, h7⟩, h3⟩
        · cases h
      · cases h
    · rename_i ek
      try rw [ek]
      try simp only
      split at h
      · rename_i a as e1 e2
        simp only [Option.map_eq_some_iff] at h
        obtain ⟨c, e3, rfl⟩ := h
        obtain ⟨y, h4, h5⟩ := aRd_ok e1 hv hS
        obtain ⟨ys, h1, h2⟩ := aRds_ok hS e2 hs
        obtain ⟨z, h6, h7⟩ := aMthL_ok e3 h5 h2
        exact ⟨.d z, T, by simp [doRead, onL, h1, h4, h6], ⟨z, rfl, h7⟩, hS⟩
      · cases h
/-! ### targets -/
def zipJ : List A → List A → Option (List A)
  | [], [] => some []
  | a :: l, b :: m => (zipJ l m).map (a.join b :: ·)
  | _, _ => none
theorem zipJ_ok : ∀ {l m n : List A} {xs : List D}, zipJ l m = some n → (Ams Pi l xs → Ams Pi n xs) ∧ (Ams Pi m xs → Ams Pi n xs)
  | [], [], n, xs, h => by cases h; exact ⟨fun h => h, fun h => h⟩
  | [], _ :: _, n, xs, h => by cases h
  | _ :: _, [], n, xs, h => by cases h
  | a :: l, b :: m, n, xs, h => by
    simp only [zipJ, Option.map_eq_some_iff] at h
    obtain ⟨n', h1, rfl⟩ := h
    constructor
    · rintro ⟨x, r, rfl, h2, h3⟩
      exact ⟨x, r, rfl, join_ok.1 h2, (zipJ_ok h1).1 h3⟩
    · rintro ⟨x, r, rfl, h2, h3⟩
      exact ⟨x, r, rfl, join_ok.2 h2, (zipJ_ok h1).2 h3⟩
def A.tup1 : A → Option (List A)
  | .tup l => some l
  | .seq true lo hi a => if lo = hi ∧ hi ≤ 20 then some (List.replicate hi a) else none
  | _ => none
theorem rep_Ams {a : A} : ∀ {m : List D}, (∀ x ∈ m, Am Pi a x) → Ams Pi (List.replicate m.length a) m
  | [], h => rfl
  | x :: m, h => ⟨x, m, rfl, h x (by simp), rep_Ams fun y hy => h y (List.mem_cons_of_mem _ hy)⟩
theorem tup1_ok {a : A} {l : List A} {x : D} (h : a.tup1 = some l) (hx : Am Pi a x) : ∃ m, x = .tup m ∧ Ams Pi l m := by
  unfold A.tup1 at h
  split at h
  · cases h; exact hx
  · split at h
    · rename_i e
      cases h
      obtain ⟨m, rfl, h1, h2, hm⟩ := hx
      refine ⟨m, rfl, ?_⟩
      have : m.length = _ := Nat.le_antisymm h2 (by omega)
      rw [← this]
      exact rep_Ams hm
    · cases h
  · cases h
def A.tups : List A → Option (List A)
  | [] => none
  | [a] => a.tup1
  | a :: l => match a.tup1, A.tups l with
    | some p, some q => zipJ p q
    | _, _ => none
theorem tups_ok : ∀ {as : List A} {l : List A} {x : D}, A.tups as = some l → Amo Pi as x → ∃ m, x = .tup m ∧ Ams Pi l m
  | [], l, x, h, hx => by cases h
  | [a], l, x, h, hx => by
    rcases hx with hx | hx
    · exact tup1_ok h hx
    · cases hx
  | a :: b :: as, l, x, h, hx => by
    simp only [A.tups] at h
    split at h
    · rename_i p q h1 h2
      rcases hx with hx | hx
      · obtain ⟨m, e, hm⟩ := tup1_ok h1 hx
        exact ⟨m, e, (zipJ_ok h).1 hm⟩
      · obtain ⟨m, e, hm⟩ := tups_ok h2 hx
        exact ⟨m, e, (zipJ_ok h).2 hm⟩
    · cases h
mutual
def aAsgT (s : ASig) : Tgt → A → Option ASig
  | .name i, a => some (s.set i (some (.d a)))
  | .tup l, a => match A.tups a.tops with
    | some as => aAsgTs s l as
    | none => none
termination_by structural t => t
def aAsgTs (s : ASig) : List Tgt → List A → Option ASig
  | [], as => match as with | [] => some s | _ => none
  | t :: l, as => match as with
    | a :: r => (match aAsgT s t a with | some s1 => aAsgTs s1 l r | none => none)
    | [] => none
termination_by structural t => t
end
mutual
theorem aAsgT_ok : ∀ {t : Tgt} {s s1 : ASig} {σ : Sig} {a : A} {x : D}, aAsgT s t a = some s1 → AmG Pi s σ → Am Pi a x → ∃ σ1, asgT σ t x = some σ1 ∧ AmG Pi s1 σ1
  | .name i, s, s1, σ, a, x, h, hs, hx => by
    cases h
    exact ⟨_, by rw [asgT], hs.set i ⟨_, rfl, x, rfl, hx⟩⟩
  | .tup l, s, s1, σ, a, x, h, hs, hx => by
    simp only [aAsgT] at h
    split at h
    · rename_i as e
      obtain ⟨m, rfl, hm⟩ := tups_ok e (tops_ok.mpr hx)
      obtain ⟨σ1, h1, h2⟩ := aAsgTs_ok h hs hm
      exact ⟨σ1, by rw [asgT]; exact h1, h2⟩
    · cases h
termination_by structural t => t
theorem aAsgTs_ok : ∀ {t : List Tgt} {s s1 : ASig} {σ : Sig} {as : List A} {xs : List D}, aAsgTs s t as = some s1 → AmG Pi s σ → Ams Pi as xs → ∃ σ1, asgTs σ t xs = some σ1 ∧ AmG Pi s1 σ1
  | [], s, s1, σ, as, xs, h, hs, hx => by
    cases as with
    | nil => simp [Ams] at hx; subst hx; cases h; exact ⟨σ, rfl, hs⟩
    | cons => cases h
  | t :: l, s, s1, σ, as, xs, h, hs, hx => by
    cases as with
    | nil => cases h
    | cons a as =>
      obtain ⟨x, r, rfl, h1, h2⟩ := hx
      simp only [aAsgTs] at h
      split at h
      · rename_i s2 e
        obtain ⟨σ1, h3, h4⟩ := aAsgT_ok e hs h1
        obtain ⟨σ2, h5, h6⟩ := aAsgTs_ok h h4 h2
        exact ⟨σ2, by simp only [asgTs, h3, h5], h6⟩
      · cases h
termination_by structural t => t
end
def aWipes (s : ASig) : List Nat → ASig
  | [] => s
  | i :: l => (aWipes s l).set i none
theorem aWipes_ok {s : ASig} {σ : Sig} (h : AmG Pi s σ) : ∀ l : List Nat, AmG Pi (aWipes s l) (wipes σ l)
  | [] => h
  | i :: l => (aWipes_ok h l).set i trivial
/-- a whole number between -/
def aInt (S : ASt) (v : AV) : Option (Int × Int) := match aRd S v with
  | some (.int a b) => some (a, b)
  | _ => none
theorem aInt_ok {S : ASt} {T : Store} {v : AV} {x : Val} {a b : Int} (h : aInt S v = some (a, b)) (hv : AmV Pi v x) (hS : AmS Pi S T) : ∃ i, a ≤ i ∧ i ≤ b ∧ ∀ {α : Type} (f : Int → R α), onInt T x f = f i := by
  unfold aInt at h
  split at h
  · rename_i e
    cases h
    obtain ⟨y, h1, i, rfl, h2, h3⟩ := aRd_ok e hv hS
    exact ⟨i, h2, h3, fun f => by simp [onInt, h1]⟩
  · cases h
def OkO (Pi : Par) (p : OI × ASt) (r : R (Option Int)) : Prop := ∃ v S, r = .ok v S ∧ OIm p.1 v ∧ AmS Pi p.2 S
def OkI (Pi : Par) (p : ASrc × ASt) (r : R Src) : Prop := ∃ v S, r = .ok v S ∧ (∀ T, v.ck T) ∧ SrcOk Pi p.1 v.l ∧ AmS Pi p.2 S
theorem OkO.bind {β : Type} {Q : R β → Prop} {p : OI × ASt} {r : R (Option Int)} {f : Option Int → Store → R β} (h : OkO Pi p r) (k : ∀ v S, OIm p.1 v → AmS Pi p.2 S → Q (f v S)) : Q (r.bind f) := by
  obtain ⟨v, S, rfl, h1, h2⟩ := h
  exact k v S h1 h2
end
section
variable (C : ACx)
mutual
def aev : Exp → ASig → ASt → Option (AV × ASt)
  | .lit x, _, S => (A.ofD x).map fun a => (.d a, S)
  | .var i, s, S => match s[i]? with
    | some (some v) => some (v, S)
    | _ => none
  | .glo g, _, S => match C.glo g with
    | some x => (A.ofD x).map fun a => (.d a, S)
    | none => none
  | .bin o a b, s, S => (aev a s S).bind fun p => (aev b s p.2).bind fun q => (aOn2 q.2 p.1 q.1 (aBin o)).map fun c => (.d c, q.2)
  | .neg a, s, S => (aev a s S).bind fun p => (aOn1 p.2 p.1 aNeg).map fun c => (.d c, p.2)
  | .cmp o a b, s, S => match C.hx (.cmp o a b) s S with
    | some p => some p
    | none => (aev a s S).bind fun p => (aev b s p.2).bind fun q => (aOn2 q.2 p.1 q.1 (aCmp o)).map fun c => (.d c, q.2)
  | .cmp2 o p a b c, s, S => (aev a s S).bind fun x => (aev b s x.2).bind fun y => (aOn2 y.2 x.1 y.1 (aCmp o)).bind fun t =>
      (branch joinB t (fun _ => (aev c s y.2).bind fun z => (aOn2 z.2 y.1 z.1 (aCmp p)).map fun c => (c, z.2)) (fun _ => some (aB false, y.2))).map fun r => (.d r.1, r.2)
  | .and l, s, S => aAnd l s S
  | .or l, s, S => aOr l s S
  | .not a, s, S => (aev a s S).bind fun p => (aOn1 p.2 p.1 aTruth).bind fun t => (aNot t).map fun c => (.d c, p.2)
  | .ife c a b, s, S => (aevT c s S).bind fun t => branch joinP t.1 (fun _ => aev a s t.2) (fun _ => aev b s t.2)
  | .tup es, s, S => (aevs es s S).bind fun p => (aFzs p.2 p.1).bind fun q => if q.1.length ≤ 1000 then some (.d (.tup q.1), q.2) else none
  | .lst es, s, S => (aevs es s S).bind fun p => (aFzs p.2 p.1).bind fun q => if q.1.length ≤ 1000 then some (.d (.lst q.1), q.2) else none
  | .dct ks es, s, S => (aevs es s S).bind fun p => (aFzs p.2 p.1).bind fun q => if ks.length = q.1.length ∧ ks.length ≤ 15 ∧ ks.all isK then some (.d (.dct ((ks.zip q.1).foldl (fun l p => aKSet p.1 p.2 l) [])), q.2) else none
  | .dcv _ _, _, _ => none
  | .isx _ _ _, _, _ => none
  | .att _ _, _, _ => none
  | .gix g i, s, S => (aev i s S).bind fun p => (aOn1 p.2 p.1 (aGix (C.gdc g))).map fun c => (.d c, p.2)
  | .sub a i, s, S => (aev a s S).bind fun p => (aev i s p.2).bind fun q => (aOn2 q.2 p.1 q.1 aSub).map fun c => (.d c, q.2)
  | .slc a lo hi, s, S => (aev a s S).bind fun p => (aevO lo s p.2).bind fun l => (aevO hi s l.2).bind fun h => (aOn1 h.2 p.1 (aSlc l.1 h.1)).map fun c => (.d c, h.2)
  | .call f es, s, S => match C.hx (.call f es) s S with
    | some p => some p
    | none => (aevs es s S).bind fun p => C.call f p.1 p.2
  | .blt b es, s, S => (aevs es s S).bind fun p => match p.1 with
    | [v] => (aOn1 p.2 v (aBlt1 b)).map fun c => (.d c, p.2)
    | [v, w] => (aOn2 p.2 v w (aBlt2 b)).map fun c => (.d c, p.2)
    | _ => none
  | .meth m o es, s, S => (aev o s S).bind fun p => (aRd p.2 p.1).bind fun a => if (a.alts.all fun a => a.kind == some (recvK m)) = true then (aevs es s p.2).bind fun q => aMeth m p.1 q.1 q.2 else none
  | .isi e ts, s, S => (aev e s S).bind fun p => (aOn1 p.2 p.1 (aIsi ts)).map fun c => (.d c, p.2)
  | .lc e t own it ifs, s, S => (aevI it s S).bind fun q => (aLc (fun x S => match aAsgT (aWipes s own) t x with
      | some s1 => (aevTs ifs s1 S).bind fun b => (match b.1.bs with
        | some (some true) => (aev e s1 b.2).bind fun v => (aFz v.2 v.1).map fun w => ⟨some w.1, false, w.2⟩
        | some (some false) => some ⟨none, true, b.2⟩
        | some none => (aev e s1 b.2).bind fun v => (aFz v.2 v.1).bind fun w => (joinSt w.2 b.2).map fun S' => ⟨some w.1, true, S'⟩
        | none => none)
      | none => none) q.1 q.2).map fun r => (.d r.1, r.2)
termination_by structural e => e
def aAnd : List Exp → ASig → ASt → Option (AV × ASt)
  | [], _, _ => none
  | e :: l, s, S => match l with
    | [] => aev e s S
    | _ :: _ => (aev e s S).bind fun p => (aOn1 p.2 p.1 aTruth).bind fun t => branch joinP t (fun _ => aAnd l s p.2) (fun _ => some p)
termination_by structural l => l
def aOr : List Exp → ASig → ASt → Option (AV × ASt)
  | [], _, _ => none
  | e :: l, s, S => match l with
    | [] => aev e s S
    | _ :: _ => (aev e s S).bind fun p => (aOn1 p.2 p.1 aTruth).bind fun t => branch joinP t (fun _ => some p) (fun _ => aOr l s p.2)
termination_by structural l => l
def aevT : Tst → ASig → ASt → Option (A × ASt)
  | .of e, s, S => (aev e s S).bind fun p => (aOn1 p.2 p.1 aTruth).map fun c => (c, p.2)
  | .gin n g e, s, S => (aev e s S).bind fun p => (aOn1 p.2 p.1 (aGin n (C.gdc g))).map fun c => (c, p.2)
  | .cmp o a b, s, S => match C.ht (.cmp o a b) s S with
    | some p => some p
    | none => (aev a s S).bind fun p => (aev b s p.2).bind fun q => (aOn2 q.2 p.1 q.1 (aCmp o)).map fun c => (c, q.2)
  | .cmp2 o p a b c, s, S => (aev a s S).bind fun x => (aev b s x.2).bind fun y => (aOn2 y.2 x.1 y.1 (aCmp o)).bind fun t =>
      branch joinB t (fun _ => (aev c s y.2).bind fun z => (aOn2 z.2 y.1 z.1 (aCmp p)).map fun c => (c, z.2)) (fun _ => some (aB false, y.2))
  | .and l, s, S => match C.ht (.and l) s S with
    | some p => some p
    | none => aevTs l s S
  | .or l, s, S => aevTo l s S
  | .not t, s, S => (aevT t s S).bind fun p => (aNot p.1).map fun c => (c, p.2)
termination_by structural e => e
def aevTs : List Tst → ASig → ASt → Option (A × ASt)
  | [], _, S => some (aB true, S)
  | e :: l, s, S => (aevT e s S).bind fun t => branch joinB t.1 (fun _ => aevTs l s t.2) (fun _ => some (aB false, t.2))
termination_by structural l => l
def aevTo : List Tst → ASig → ASt → Option (A × ASt)
  | [], _, S => some (aB false, S)
  | e :: l, s, S => (aevT e s S).bind fun t => branch joinB t.1 (fun _ => some (aB true, t.2)) (fun _ => aevTo l s t.2)
termination_by structural l => l
def aevs : List Exp → ASig → ASt → Option (List AV × ASt)
  | [], _, S => some ([], S)
  | e :: l, s, S => (aev e s S).bind fun p => (aevs l s p.2).map fun q => (p.1 :: q.1, q.2)
termination_by structural l => l
def aevO : Option Exp → ASig → ASt → Option (OI × ASt)
  | none, _, S => some (none, S)
  | some e, s, S => (aev e s S).bind fun p => (aInt p.2 p.1).map fun i => (some i, p.2)
termination_by structural o => o
def aevI : Ite → ASig → ASt → Option (ASrc × ASt)
  | .of e, s, S => (aev e s S).bind fun p => (aSrcOf p.2 p.1).map fun c => (c, p.2)
  | .range1 e, s, S => (aev e s S).bind fun p => (aInt p.2 p.1).bind fun i => (rangeA 0 0 i.1 i.2).map fun c => (c, p.2)
  | .range2 a b, s, S => (aev a s S).bind fun p => (aev b s p.2).bind fun q => (aInt q.2 p.1).bind fun i => (aInt q.2 q.1).bind fun j => (rangeA i.1 i.2 j.1 j.2).map fun c => (c, q.2)
  | _, _, _ => none
termination_by structural i => i
end
end
end Ev

end

section
set_option Elab.async false
set_option linter.all false
set_option maxRecDepth 100000
set_option maxHeartbeats 1000000
/-! Ev, kinds: what is told of expressions holds. -/
namespace Ev
section
variable {Pi : Par} {K : Cx} {C : ACx}
theorem okd {z : D} {c : A} {S : ASt} {T : Store} (h : Am Pi c z) (hS : AmS Pi S T) : OkV Pi (.d c, S) (.ok (.d z) T) := ⟨_, _, rfl, ⟨z, rfl, h⟩, hS⟩
mutual
theorem aev_ok (hC : CxOk Pi K C) : ∀ {e : Exp} {s : ASig} {S : ASt} {p : AV × ASt} {σ : Sig} {T : Store}, aev C e s S = some p → AmG Pi s σ → AmS Pi S T → OkV Pi p (ev K e σ T)
  | .lit x, s, S, p, σ, T, h, hs, hS => by
    simp only [aev, Option.map_eq_some_iff] at h
    obtain ⟨a, h1, rfl⟩ := h
    rw [ev_lit]
    exact okd (ofD_ok h1) hS
  | .var i, s, S, p, σ, T, h, hs, hS => by
    simp only [aev] at h
    split at h
    · rename_i v e
      cases h
      obtain ⟨o, h1, x, rfl, h2⟩ := hs.get e
      rw [ev_var, h1]
      exact ⟨_, _, rfl, h2, hS⟩
    · cases h
  | .glo g, s, S, p, σ, T, h, hs, hS => by
    simp only [aev] at h
    split at h
    · rename_i x e
      simp only [Option.map_eq_some_iff] at h
      obtain ⟨a, h1, rfl⟩ := h
      rw [ev_glo, hC.glo, e]
      exact okd (ofD_ok h1) hS
    · cases h
  | .bin o a b, s, S, p, σ, T, h, hs, hS => by
    simp only [aev, Option.bind_eq_some_iff, Option.map_eq_some_iff] at h
    obtain ⟨x, h1, y, h2, c, h3, rfl⟩ := h
    rw [ev_bin]
    refine (aev_ok hC h1 hs hS).bind fun v T1 hv hT => (aev_ok hC h2 hs hT).bind fun w T2 hw hT => ?_
    obtain ⟨z, h4, h5⟩ := aOn2_ok (aBin_ok o) h3 hv hw hT
    rw [h4]
    exact okd h5 hT
  | .neg a, s, S, p, σ, T, h, hs, hS => by
    simp only [aev, Option.bind_eq_some_iff, Option.map_eq_some_iff] at h
    obtain ⟨x, h1, c, h3, rfl⟩ := h
    rw [ev_neg]
    refine (aev_ok hC h1 hs hS).bind fun v T1 hv hT => ?_
    obtain ⟨z, h4, h5⟩ := aOn1_ok aNeg_ok h3 hv hT
    rw [h4]
    exact okd h5 hT
  | .cmp o a b, s, S, p, σ, T, h, hs, hS => by
    rw [aev] at h
    split at h
    · rename_i q hq
      cases h
      exact hC.hx hq hs hS
    · simp only [Option.bind_eq_some_iff, Option.map_eq_some_iff] at h
      obtain ⟨x, h1, y, h2, c, h3, rfl⟩ := h
      rw [ev_cmp]
      refine (aev_ok hC h1 hs hS).bind fun v T1 hv hT => (aev_ok hC h2 hs hT).bind fun w T2 hw hT => ?_
      obtain ⟨z, h4, h5⟩ := aOn2b_ok (aCmp_ok o) h3 hv hw hT
      rw [h4]
      exact okd h5 hT
  | .cmp2 o q a b c, s, S, p, σ, T, h, hs, hS => by
    simp only [aev, Option.bind_eq_some_iff, Option.map_eq_some_iff] at h
    obtain ⟨x, h1, y, h2, t, h3, r, h6, rfl⟩ := h
    rw [ev_cmp2]
    refine (aev_ok hC h1 hs hS).bind fun v T1 hv hT => (aev_ok hC h2 hs hT).bind fun w T2 hw hT => ?_
    obtain ⟨z, h4, h5⟩ := aOn2b_ok (aCmp_ok o) h3 hv hw hT
    rw [h4, R.bind_ok]
    refine branch_ok (Ok := fun (p : A × ASt) (r : R Val) => OkV Pi (.d p.1, p.2) r) (fun {p q c r} hj => ?_) h6 h5 (fun e => ?_) (fun e => ?_)
    · unfold joinB at hj
      split at hj
      · rename_i S' h8
        cases hj
        exact ⟨fun ⟨x, T, e, ⟨y, e2, a⟩, b⟩ => ⟨x, T, e, ⟨y, e2, join_ok.1 a⟩, (joinSt_ok h8).1 b⟩, fun ⟨x, T, e, ⟨y, e2, a⟩, b⟩ => ⟨x, T, e, ⟨y, e2, join_ok.2 a⟩, (joinSt_ok h8).2 b⟩⟩
      · cases hj
    · subst e
      intro p h7
      simp only [Option.bind_eq_some_iff, Option.map_eq_some_iff] at h7
      obtain ⟨u, h8, d, h9, rfl⟩ := h7
      refine (aev_ok hC h8 hs hT).bind fun w' T3 hw' hT' => ?_
      have hw2 : AmV Pi y.1 w := hw
      obtain ⟨z, k1, k2⟩ := aOn2b_ok (aCmp_ok q) h9 hw2 hw' hT'
      rw [k1]
      exact okd k2 hT'
    · subst e
      intro p h7
      cases h7
      exact okd rfl hT
  | .and l, s, S, p, σ, T, h, hs, hS => by
    rw [ev_and]
    exact aAnd_ok hC (by simpa only [aev] using h) hs hS
  | .or l, s, S, p, σ, T, h, hs, hS => by
    rw [ev_or]
    exact aOr_ok hC (by simpa only [aev] using h) hs hS
  | .not a, s, S, p, σ, T, h, hs, hS => by
    simp only [aev, Option.bind_eq_some_iff, Option.map_eq_some_iff] at h
    obtain ⟨x, h1, t, h2, c, h3, rfl⟩ := h
    rw [ev_not]
    refine (aev_ok hC h1 hs hS).bind fun v T1 hv hT => ?_
    obtain ⟨z, h4, h5⟩ := aTr_ok h2 hv hT
    rw [h4]
    exact okd (aNot_ok h3 h5) hT
  | .ife c a b, s, S, p, σ, T, h, hs, hS => by
    simp only [aev, Option.bind_eq_some_iff] at h
    obtain ⟨t, h1, h2⟩ := h
    rw [ev_ife]
    refine (aevT_ok hC h1 hs hS).bind fun z T1 hz hT => ?_
    refine branch_ok (Ok := OkV Pi) joinP_ok h2 hz (fun e => ?_) (fun e => ?_)
    · subst e; intro p hp; exact aev_ok hC hp hs hT
    · subst e; intro p hp; exact aev_ok hC hp hs hT
  | .tup es, s, S, p, σ, T, h, hs, hS => by
    simp only [aev, Option.bind_eq_some_iff] at h
    obtain ⟨x, h1, q, h2, h3⟩ := h
    split at h3
    · rename_i hl
      cases h3
      rw [ev_tup]
      refine (aevs_ok hC h1 hs hS).bind fun vs T1 hv hT => ?_
      obtain ⟨ys, T2, h4, h5, h6⟩ := aFzs_ok (as := q.1) (S' := q.2) h2 hv hT
      have : ys.length ≤ big := by rw [← Ams_len h5]; exact bl_1000 hl
      simp only [disp, h4, this, if_true]
      exact okd ⟨ys, rfl, h5⟩ h6
    · cases h3
  | .lst es, s, S, p, σ, T, h, hs, hS => by
    simp only [aev, Option.bind_eq_some_iff] at h
    obtain ⟨x, h1, q, h2, h3⟩ := h
    split at h3
    · rename_i hl
      cases h3
      rw [ev_lst]
      refine (aevs_ok hC h1 hs hS).bind fun vs T1 hv hT => ?_
      obtain ⟨ys, T2, h4, h5, h6⟩ := aFzs_ok (as := q.1) (S' := q.2) h2 hv hT
      have : ys.length ≤ big := by rw [← Ams_len h5]; exact bl_1000 hl
      simp only [disp, h4, this, if_true]
      exact okd ⟨ys, rfl, h5⟩ h6
    · cases h3
  | .dct ks es, s, S, p, σ, T, h, hs, hS => by
    simp only [aev, Option.bind_eq_some_iff] at h
    obtain ⟨x, h1, q, h2, h3⟩ := h
    split at h3
    · rename_i hl
      cases h3
      rw [ev_dct]
      refine (aevs_ok hC h1 hs hS).bind fun vs T1 hv hT => ?_
      obtain ⟨ys, T2, h4, h5, h6⟩ := aFzs_ok (as := q.1) (S' := q.2) h2 hv hT
      have : ks.length = ys.length ∧ ks.length ≤ 15 ∧ ks.all isK = true := by rw [← Ams_len h5]; exact hl
      simp only [dispK, h4]
      rw [if_pos this]
      exact okd ⟨_, rfl, fold_ok hl.2.2 h5 rfl⟩ h6
    · cases h3
  | .dcv _ _, s, S, p, σ, T, h, hs, hS => by cases h
  | .isx e ts cs, s, S, p, σ, T, h, hs, hS => by cases h
  | .att e f, s, S, p, σ, T, h, hs, hS => by cases h
  | .gix g i, s, S, p, σ, T, h, hs, hS => by
    simp only [aev, Option.bind_eq_some_iff, Option.map_eq_some_iff] at h
    obtain ⟨x, h1, c, h3, rfl⟩ := h
    rw [ev_gix, hC.gdc]
    refine (aev_ok hC h1 hs hS).bind fun v T1 hv hT => ?_
    obtain ⟨z, h4, h5⟩ := aOn1_ok (aGix_ok _) h3 hv hT
    rw [h4]
    exact okd h5 hT
  | .sub a i, s, S, p, σ, T, h, hs, hS => by
    simp only [aev, Option.bind_eq_some_iff, Option.map_eq_some_iff] at h
    obtain ⟨x, h1, y, h2, c, h3, rfl⟩ := h
    rw [ev_sub]
    refine (aev_ok hC h1 hs hS).bind fun v T1 hv hT => (aev_ok hC h2 hs hT).bind fun w T2 hw hT => ?_
    obtain ⟨z, h4, h5⟩ := aOn2_ok aSub_ok h3 hv hw hT
    rw [h4]
    exact okd h5 hT
  | .slc a lo hi, s, S, p, σ, T, h, hs, hS => by
    simp only [aev, Option.bind_eq_some_iff, Option.map_eq_some_iff] at h
    obtain ⟨x, h1, l, h2, u, h3, c, h4, rfl⟩ := h
    rw [ev_slc]
    refine (aev_ok hC h1 hs hS).bind fun v T1 hv hT => (aevO_ok hC h2 hs hT).bind fun i T2 hi hT => (aevO_ok hC h3 hs hT).bind fun j T3 hj hT => ?_
    obtain ⟨z, h4, h5⟩ := aOn1_ok (aSlc_ok hi hj) h4 hv hT
    rw [h4]
    exact okd h5 hT
  | .call f es, s, S, p, σ, T, h, hs, hS => by
    rw [aev] at h
    split at h
    · rename_i q hq
      cases h
      exact hC.hx hq hs hS
    · simp only [Option.bind_eq_some_iff] at h
      obtain ⟨x, h1, h2⟩ := h
      rw [ev_call]
      exact (aevs_ok hC h1 hs hS).bind fun vs T1 hv hT => hC.call h2 hv hT
  | .blt b es, s, S, p, σ, T, h, hs, hS => by
    simp only [aev, Option.bind_eq_some_iff] at h
    obtain ⟨x, h1, h2⟩ := h
    rw [ev_blt]
    refine (aevs_ok hC h1 hs hS).bind fun vs T1 hv hT => ?_
    split at h2
    · rename_i v e
      rw [e] at hv
      obtain ⟨w, r, rfl, h3, h4⟩ := hv
      simp [All2] at h4
      subst h4
      simp only [Option.map_eq_some_iff] at h2
      obtain ⟨c, h5, rfl⟩ := h2
      obtain ⟨z, h6, h7⟩ := aOn1_ok (aBlt1_ok b) h5 h3 hT
      have : onL T1 [w] (bltD b) = .ok (.d z) T1 := by
        rw [← h6]
        unfold on1 onL
        simp only [rdvs]
        cases rdv T1 w <;> rfl
      rw [this]
      exact okd h7 hT
    · rename_i v v' e
      rw [e] at hv
      obtain ⟨w, r, rfl, h3, h4⟩ := hv
      obtain ⟨w', r, rfl, h3', h4⟩ := h4
      simp [All2] at h4
      subst h4
      simp only [Option.map_eq_some_iff] at h2
      obtain ⟨c, h5, rfl⟩ := h2
      obtain ⟨z, h6, h7⟩ := aOn2_ok (aBlt2_ok b) h5 h3 h3' hT
      have : onL T1 [w, w'] (bltD b) = .ok (.d z) T1 := by
        rw [← h6]
        unfold on2 onL
        simp only [rdvs]
        cases rdv T1 w with
        | none => rfl
        | some _ => cases rdv T1 w' <;> rfl
      rw [this]
      exact okd h7 hT
    · cases h2
  | .meth m o es, s, S, p, σ, T, h, hs, hS => by
    simp only [aev, Option.bind_eq_some_iff] at h
    obtain ⟨x, h1, a, h2, h3⟩ := h
    split at h3
    · rename_i hk
      simp only [Option.bind_eq_some_iff] at h3
      obtain ⟨q, h4, h5⟩ := h3
      rw [ev_meth]
      refine (aev_ok hC h1 hs hS).bind fun v T1 hv hT => ?_
      obtain ⟨y, h6, h7⟩ := aRd_ok h2 hv hT
      obtain ⟨b, hb, hby⟩ := alts_ok h7
      have := List.all_eq_true.mp hk b hb
      have hr := recv_ok (kind_ok (eq_of_beq this) hby)
      simp only [h6, hr, if_true]
      exact (aevs_ok hC h4 hs hT).bind fun vs T2 hvs hT2 => aMeth_ok h5 hv hvs hT2
    · cases h3
  | .isi e ts, s, S, p, σ, T, h, hs, hS => by
    simp only [aev, Option.bind_eq_some_iff, Option.map_eq_some_iff] at h
    obtain ⟨x, h1, c, h3, rfl⟩ := h
    rw [ev_isi]
    refine (aev_ok hC h1 hs hS).bind fun v T1 hv hT => ?_
    obtain ⟨z, h4, h5⟩ := aOn1_ok (aIsi_ok ts) h3 hv hT
    rw [h4]
    exact okd h5 hT
  | .lc e t own it ifs, s, S, p, σ, T, h, hs, hS => by
    simp only [aev, Option.bind_eq_some_iff, Option.map_eq_some_iff] at h
    obtain ⟨q, h1, r, h2, rfl⟩ := h
    rw [ev_lc]
    obtain ⟨src, T1, e1, hck, hsrc, hT⟩ := aevI_ok hC h1 hs hS
    rw [e1, R.bind_ok]
    obtain ⟨l, T2, h3, h4, h5⟩ := aLc_ok (cturn := lcT K σ e t own ifs) hck (fun {a t' S' x T'} ht hx hT' => by
      split at ht
      · rename_i s1 e2
        simp only [Option.bind_eq_some_iff] at ht
        obtain ⟨b, h6, h7⟩ := ht
        obtain ⟨σ1, h8, h9⟩ := aAsgT_ok e2 (aWipes_ok hs own) hx
        obtain ⟨z, T3, k1, k2, k3⟩ := aevTs_ok hC h6 h9 hT'
        unfold lcT
        simp only [h8, k1, R.bind_ok]
        split at h7
        · rename_i eb
          cases bs_ok eb k2 _ rfl
          simp only [Option.bind_eq_some_iff, Option.map_eq_some_iff] at h7
          obtain ⟨v, h10, w, h11, rfl⟩ := h7
          obtain ⟨y, T4, k4, k5, k6⟩ := aev_ok hC h10 h9 k3
          obtain ⟨y', T5, k7, k8, k9⟩ := aFz_ok (a := w.1) (S' := w.2) h11 k5 k6
          refine ⟨some y', T5, by simp [k4, fzO, k7], k9, w.1, rfl, k8⟩
        · rename_i eb
          cases bs_ok eb k2 _ rfl
          cases h7
          exact ⟨none, T3, rfl, k3, rfl⟩
        · rename_i eb
          simp only [Option.bind_eq_some_iff, Option.map_eq_some_iff] at h7
          obtain ⟨v, h10, w, h11, S'', h12, rfl⟩ := h7
          cases z with
          | true =>
            obtain ⟨y, T4, k4, k5, k6⟩ := aev_ok hC h10 h9 k3
            obtain ⟨y', T5, k7, k8, k9⟩ := aFz_ok (a := w.1) (S' := w.2) h11 k5 k6
            refine ⟨some y', T5, by simp [k4, fzO, k7], (joinSt_ok h12).1 k9, w.1, rfl, k8⟩
          | false => exact ⟨none, T3, rfl, (joinSt_ok h12).2 k3, rfl⟩
        · cases h7
      · cases ht) h2 hsrc hT
    rw [h3]
    exact okd h4 h5
termination_by structural e => e
theorem aAnd_ok (hC : CxOk Pi K C) : ∀ {l : List Exp} {s : ASig} {S : ASt} {p : AV × ASt} {σ : Sig} {T : Store}, aAnd C l s S = some p → AmG Pi s σ → AmS Pi S T → OkV Pi p (evAnd K l σ T)
  | [], s, S, p, σ, T, h, hs, hS => by cases h
  | e :: l, s, S, p, σ, T, h, hs, hS => by
    cases l with
    | nil =>
      rw [evAnd_one]
      exact aev_ok hC (by simpa only [aAnd] using h) hs hS
    | cons f l =>
      rw [aAnd] at h
      simp only [Option.bind_eq_some_iff] at h
      obtain ⟨x, h1, t, h2, h3⟩ := h
      rw [evAnd_cons]
      refine (aev_ok hC h1 hs hS).bind fun v T1 hv hT => ?_
      obtain ⟨z, h4, h5⟩ := aTr_ok h2 hv hT
      rw [h4, R.bind_ok]
      refine branch_ok (Ok := OkV Pi) joinP_ok h3 h5 (fun e => ?_) (fun e => ?_)
      · subst e; intro p hp; exact aAnd_ok hC hp hs hT
      · subst e; intro p hp; cases hp; exact ⟨_, _, rfl, hv, hT⟩
termination_by structural l => l
theorem aOr_ok (hC : CxOk Pi K C) : ∀ {l : List Exp} {s : ASig} {S : ASt} {p : AV × ASt} {σ : Sig} {T : Store}, aOr C l s S = some p → AmG Pi s σ → AmS Pi S T → OkV Pi p (evOr K l σ T)
  | [], s, S, p, σ, T, h, hs, hS => by cases h
  | e :: l, s, S, p, σ, T, h, hs, hS => by
    cases l with
    | nil =>
      rw [evOr_one]
      exact aev_ok hC (by simpa only [aOr] using h) hs hS
    | cons f l =>
      rw [aOr] at h
      simp only [Option.bind_eq_some_iff] at h
      obtain ⟨x, h1, t, h2, h3⟩ := h
      rw [evOr_cons]
      refine (aev_ok hC h1 hs hS).bind fun v T1 hv hT => ?_
      obtain ⟨z, h4, h5⟩ := aTr_ok h2 hv hT
      rw [h4, R.bind_ok]
      refine branch_ok (Ok := OkV Pi) joinP_ok h3 h5 (fun e => ?_) (fun e => ?_)
      · subst e; intro p hp; cases hp; exact ⟨_, _, rfl, hv, hT⟩
      · subst e; intro p hp; exact aOr_ok hC hp hs hT
termination_by structural l => l
theorem aevT_ok (hC : CxOk Pi K C) : ∀ {e : Tst} {s : ASig} {S : ASt} {p : A × ASt} {σ : Sig} {T : Store}, aevT C e s S = some p → AmG Pi s σ → AmS Pi S T → OkB Pi p (evT K e σ T)
  | .of e, s, S, p, σ, T, h, hs, hS => by
    simp only [aevT, Option.bind_eq_some_iff, Option.map_eq_some_iff] at h
    obtain ⟨x, h1, c, h3, rfl⟩ := h
    rw [evT_of]
    refine (aev_ok hC h1 hs hS).bind fun v T1 hv hT => ?_
    obtain ⟨z, h4, h5⟩ := aTr_ok h3 hv hT
    exact ⟨z, T1, h4, h5, hT⟩
  | .gin n g e, s, S, p, σ, T, h, hs, hS => by
    simp only [aevT, Option.bind_eq_some_iff, Option.map_eq_some_iff] at h
    obtain ⟨x, h1, c, h3, rfl⟩ := h
    rw [evT_gin, hC.gdc]
    refine (aev_ok hC h1 hs hS).bind fun v T1 hv hT => ?_
    obtain ⟨z, h4, h5⟩ := aOn1b_ok (aGin_ok n _) h3 hv hT
    exact ⟨z, T1, h4, h5, hT⟩
  | .cmp o a b, s, S, p, σ, T, h, hs, hS => by
    rw [aevT] at h
    split at h
    · rename_i q hq
      cases h
      exact hC.ht hq hs hS
    · simp only [Option.bind_eq_some_iff, Option.map_eq_some_iff] at h
      obtain ⟨x, h1, y, h2, c, h3, rfl⟩ := h
      rw [evT_cmp]
      refine (aev_ok hC h1 hs hS).bind fun v T1 hv hT => (aev_ok hC h2 hs hT).bind fun w T2 hw hT => ?_
      obtain ⟨z, h4, h5⟩ := aOn2b_ok (aCmp_ok o) h3 hv hw hT
      exact ⟨z, T2, h4, h5, hT⟩
  | .cmp2 o q a b c, s, S, p, σ, T, h, hs, hS => by
    simp only [aevT, Option.bind_eq_some_iff] at h
    obtain ⟨x, h1, y, h2, t, h3, h6⟩ := h
    rw [evT_cmp2]
    refine (aev_ok hC h1 hs hS).bind fun v T1 hv hT => (aev_ok hC h2 hs hT).bind fun w T2 hw hT => ?_
    obtain ⟨z, h4, h5⟩ := aOn2b_ok (aCmp_ok o) h3 hv hw hT
    rw [h4, R.bind_ok]
    refine branch_ok (Ok := OkB Pi) joinB_ok h6 h5 (fun e => ?_) (fun e => ?_)
    · subst e
      intro p h7
      simp only [Option.bind_eq_some_iff, Option.map_eq_some_iff] at h7
      obtain ⟨u, h8, d, h9, rfl⟩ := h7
      refine (aev_ok hC h8 hs hT).bind fun w' T3 hw' hT' => ?_
      obtain ⟨z, k1, k2⟩ := aOn2b_ok (aCmp_ok q) h9 hw hw' hT'
      exact ⟨z, T3, k1, k2, hT'⟩
    · subst e
      intro p h7
      cases h7
      exact ⟨false, T2, rfl, rfl, hT⟩
  | .and l, s, S, p, σ, T, h, hs, hS => by
    rw [aevT] at h
    split at h
    · rename_i q hq
      cases h
      exact hC.ht hq hs hS
    · rw [evT_and]
      exact aevTs_ok hC h hs hS
  | .or l, s, S, p, σ, T, h, hs, hS => by
    rw [evT_or]
    exact aevTo_ok hC (by simpa only [aevT] using h) hs hS
  | .not t, s, S, p, σ, T, h, hs, hS => by
    simp only [aevT, Option.bind_eq_some_iff, Option.map_eq_some_iff] at h
    obtain ⟨x, h1, c, h3, rfl⟩ := h
    rw [evT_not]
    exact (aevT_ok hC h1 hs hS).bind fun z T1 hz hT => ⟨!z, T1, rfl, aNot_ok h3 hz, hT⟩
termination_by structural e => e
theorem aevTs_ok (hC : CxOk Pi K C) : ∀ {l : List Tst} {s : ASig} {S : ASt} {p : A × ASt} {σ : Sig} {T : Store}, aevTs C l s S = some p → AmG Pi s σ → AmS Pi S T → OkB Pi p (evTs K l σ T)
  | [], s, S, p, σ, T, h, hs, hS => by
    cases h
    exact ⟨true, T, evTs_nil .., rfl, hS⟩
  | e :: l, s, S, p, σ, T, h, hs, hS => by
    simp only [aevTs, Option.bind_eq_some_iff] at h
    obtain ⟨t, h1, h2⟩ := h
    rw [evTs_cons]
    refine (aevT_ok hC h1 hs hS).bind fun z T1 hz hT => ?_
    refine branch_ok (Ok := OkB Pi) joinB_ok h2 hz (fun e => ?_) (fun e => ?_)
    · subst e; intro p hp; exact aevTs_ok hC hp hs hT
    · subst e; intro p hp; cases hp; exact ⟨false, T1, rfl, rfl, hT⟩
termination_by structural l => l
theorem aevTo_ok (hC : CxOk Pi K C) : ∀ {l : List Tst} {s : ASig} {S : ASt} {p : A × ASt} {σ : Sig} {T : Store}, aevTo C l s S = some p → AmG Pi s σ → AmS Pi S T → OkB Pi p (evTo K l σ T)
  | [], s, S, p, σ, T, h, hs, hS => by
    cases h
    exact ⟨false, T, evTo_nil .., rfl, hS⟩
  | e :: l, s, S, p, σ, T, h, hs, hS => by
    simp only [aevTo, Option.bind_eq_some_iff] at h
    obtain ⟨t, h1, h2⟩ := h
    rw [evTo_cons]
    refine (aevT_ok hC h1 hs hS).bind fun z T1 hz hT => ?_
    refine branch_ok (Ok := OkB Pi) joinB_ok h2 hz (fun e => ?_) (fun e => ?_)
    · subst e; intro p hp; cases hp; exact ⟨true, T1, rfl, rfl, hT⟩
    · subst e; intro p hp; exact aevTo_ok hC hp hs hT
termination_by structural l => l
theorem aevs_ok (hC : CxOk Pi K C) : ∀ {l : List Exp} {s : ASig} {S : ASt} {p : List AV × ASt} {σ : Sig} {T : Store}, aevs C l s S = some p → AmG Pi s σ → AmS Pi S T → OkVs Pi p (evs K l σ T)
  | [], s, S, p, σ, T, h, hs, hS => by
    cases h
    exact ⟨[], T, evs_nil .., rfl, hS⟩
  | e :: l, s, S, p, σ, T, h, hs, hS => by
    simp only [aevs, Option.bind_eq_some_iff, Option.map_eq_some_iff] at h
    obtain ⟨x, h1, y, h2, rfl⟩ := h
    rw [evs_cons]
    exact (aev_ok hC h1 hs hS).bind fun v T1 hv hT => (aevs_ok hC h2 hs hT).bind fun w T2 hw hT => ⟨_, _, rfl, ⟨v, w, rfl, hv, hw⟩, hT⟩
termination_by structural l => l
theorem aevO_ok (hC : CxOk Pi K C) : ∀ {o : Option Exp} {s : ASig} {S : ASt} {p : OI × ASt} {σ : Sig} {T : Store}, aevO C o s S = some p → AmG Pi s σ → AmS Pi S T → OkO Pi p (evO K o σ T)
  | none, s, S, p, σ, T, h, hs, hS => by
    cases h
    exact ⟨none, T, evO_none .., rfl, hS⟩
  | some e, s, S, p, σ, T, h, hs, hS => by
    simp only [aevO, Option.bind_eq_some_iff, Option.map_eq_some_iff] at h
    obtain ⟨x, h1, ⟨a, b⟩, h2, rfl⟩ := h
    rw [evO_some]
    refine (aev_ok hC h1 hs hS).bind fun v T1 hv hT => ?_
    obtain ⟨i, h3, h4, h5⟩ := aInt_ok h2 hv hT
    exact ⟨some i, T1, h5 _, ⟨i, rfl, h3, h4⟩, hT⟩
termination_by structural o => o
theorem aevI_ok (hC : CxOk Pi K C) : ∀ {i : Ite} {s : ASig} {S : ASt} {p : ASrc × ASt} {σ : Sig} {T : Store}, aevI C i s S = some p → AmG Pi s σ → AmS Pi S T → OkI Pi p (evI K i σ T)
  | .of e, s, S, p, σ, T, h, hs, hS => by
    simp only [aevI, Option.bind_eq_some_iff, Option.map_eq_some_iff] at h
    obtain ⟨x, h1, c, h3, rfl⟩ := h
    rw [evI_of]
    refine (aev_ok hC h1 hs hS).bind fun v T1 hv hT => ?_
    obtain ⟨l, h4, h5⟩ := aSrcOf_ok h3 hv hT
    exact ⟨_, T1, by rw [h5]; rfl, fun _ => trivial, h4, hT⟩
  | .range1 e, s, S, p, σ, T, h, hs, hS => by
    simp only [aevI, Option.bind_eq_some_iff, Option.map_eq_some_iff] at h
    obtain ⟨x, h1, ⟨a, b⟩, h2, c, h3, rfl⟩ := h
    rw [evI_range1]
    refine (aev_ok hC h1 hs hS).bind fun v T1 hv hT => ?_
    obtain ⟨i, h4, h5, h6⟩ := aInt_ok h2 hv hT
    obtain ⟨l, h7, h8⟩ := rangeA_ok (Pi := Pi) h3 (Int.le_refl 0) (Int.le_refl 0) h4 h5
    exact ⟨_, T1, by rw [h6, h8]; rfl, fun _ => trivial, h7, hT⟩
  | .range2 e f, s, S, p, σ, T, h, hs, hS => by
    simp only [aevI, Option.bind_eq_some_iff, Option.map_eq_some_iff] at h
    obtain ⟨x, h1, y, h2, ⟨a, b⟩, h3, ⟨a', b'⟩, h4, c, h5, rfl⟩ := h
    rw [evI_range2]
    refine (aev_ok hC h1 hs hS).bind fun v T1 hv hT => (aev_ok hC h2 hs hT).bind fun w T2 hw hT => ?_
    obtain ⟨i, k1, k2, k3⟩ := aInt_ok h3 hv hT
    obtain ⟨j, k4, k5, k6⟩ := aInt_ok h4 hw hT
    obtain ⟨l, h7, h8⟩ := rangeA_ok (Pi := Pi) h5 k1 k2 k4 k5
    exact ⟨_, T2, by rw [k3, k6, h8]; rfl, fun _ => trivial, h7, hT⟩
  | .enum e, s, S, p, σ, T, h, hs, hS => by cases h
  | .zip e f, s, S, p, σ, T, h, hs, hS => by cases h
  | .rev e, s, S, p, σ, T, h, hs, hS => by cases h
termination_by structural i => i
end
end
end Ev

end

section
set_option Elab.async false
set_option linter.all false
set_option maxRecDepth 100000
set_option maxHeartbeats 1000000
/-! Ev, kinds: statements. -/
namespace Ev
abbrev AS := ASig × ASt
structure AR where
  nx : Option AS := none
  bk : Option AS := none
  ct : Option AS := none
  rt : Option (AV × ASt) := none
section
variable (Pi : Par)
def OkSt (o : Option AS) (σ : Sig) (S : Store) : Prop := ∃ q, o = some q ∧ AmG Pi q.1 σ ∧ AmS Pi q.2 S
def OkRt (o : Option (AV × ASt)) (v : Val) (S : Store) : Prop := ∃ q, o = some q ∧ AmV Pi q.1 v ∧ AmS Pi q.2 S
def OkFl (a : AR) (f : Flow) (S : Store) : Prop := match f with
  | .nx σ => OkSt Pi a.nx σ S
  | .bk σ => OkSt Pi a.bk σ S
  | .ct σ => OkSt Pi a.ct σ S
  | .rt v => OkRt Pi a.rt v S
def OkF (a : AR) (r : R Flow) : Prop := ∃ f S, r = .ok f S ∧ OkFl Pi a f S
end
section
variable {Pi : Par}
theorem OkF.bind {β : Type} {Q : R β → Prop} {p : AR} {r : R Flow} {f : Flow → Store → R β} (h : OkF Pi p r) (k : ∀ v S, OkFl Pi p v S → Q (f v S)) : Q (r.bind f) := by
  obtain ⟨v, S, rfl, h1⟩ := h
  exact k v S h1
theorem okN {s : ASig} {S : ASt} {σ : Sig} {T : Store} (hs : AmG Pi s σ) (hS : AmS Pi S T) : OkF Pi { nx := some (s, S) } (.ok (.nx σ) T) := ⟨_, _, rfl, _, rfl, hs, hS⟩
def joinAS (p q : AS) : Option AS := if p.1.length = q.1.length then (joinSt p.2 q.2).map fun S => (joinG p.1 q.1, S) else none
theorem joinAS_ok {p q c : AS} (h : joinAS p q = some c) {σ : Sig} {S : Store} : (AmG Pi p.1 σ ∧ AmS Pi p.2 S → AmG Pi c.1 σ ∧ AmS Pi c.2 S) ∧ (AmG Pi q.1 σ ∧ AmS Pi q.2 S → AmG Pi c.1 σ ∧ AmS Pi c.2 S) := by
  unfold joinAS at h
  split at h
  · rename_i e
    simp only [Option.map_eq_some_iff] at h
    obtain ⟨S', h1, rfl⟩ := h
    exact ⟨fun ⟨a, b⟩ => ⟨(joinG_ok e).1 a, (joinSt_ok h1).1 b⟩, fun ⟨a, b⟩ => ⟨(joinG_ok e).2 a, (joinSt_ok h1).2 b⟩⟩
  · cases h
def joinOA {α : Type} (j : α → α → Option α) : Option α → Option α → Option (Option α)
  | none, b => some b
  | some a, none => some (some a)
  | some a, some b => (j a b).map some
theorem joinOA_S {o1 o2 o : Option AS} (h : joinOA joinAS o1 o2 = some o) {σ : Sig} {S : Store} : (OkSt Pi o1 σ S → OkSt Pi o σ S) ∧ (OkSt Pi o2 σ S → OkSt Pi o σ S) := by
  unfold joinOA at h
  split at h
  · cases h; exact ⟨(fun ⟨q, e, _⟩ => nomatch e), fun h => h⟩
  · cases h; exact ⟨fun h => h, (fun ⟨q, e, _⟩ => nomatch e)⟩
  · simp only [Option.map_eq_some_iff] at h
    obtain ⟨c, h1, rfl⟩ := h
    exact ⟨fun ⟨q, e, r⟩ => by cases e; exact ⟨c, rfl, (joinAS_ok h1).1 r⟩, fun ⟨q, e, r⟩ => by cases e; exact ⟨c, rfl, (joinAS_ok h1).2 r⟩⟩
theorem joinOA_R {o1 o2 o : Option (AV × ASt)} (h : joinOA joinP o1 o2 = some o) {v : Val} {S : Store} : (OkRt Pi o1 v S → OkRt Pi o v S) ∧ (OkRt Pi o2 v S → OkRt Pi o v S) := by
  unfold joinOA at h
  split at h
  · cases h; exact ⟨(fun ⟨q, e, _⟩ => nomatch e), fun h => h⟩
  · cases h; exact ⟨fun h => h, (fun ⟨q, e, _⟩ => nomatch e)⟩
  · simp only [Option.map_eq_some_iff] at h
    obtain ⟨c, h1, rfl⟩ := h
    constructor
    · rintro ⟨q, e, r⟩
      cases e
      obtain ⟨v', S', e, h⟩ := (joinP_ok (Pi := Pi) (r := .ok v S) h1).1 ⟨v, S, rfl, r⟩
      cases e
      exact ⟨c, rfl, h⟩
    · rintro ⟨q, e, r⟩
      cases e
      obtain ⟨v', S', e, h⟩ := (joinP_ok (Pi := Pi) (r := .ok v S) h1).2 ⟨v, S, rfl, r⟩
      cases e
      exact ⟨c, rfl, h⟩
def joinAR (a b : AR) : Option AR := match joinOA joinAS a.nx b.nx, joinOA joinAS a.bk b.bk, joinOA joinAS a.ct b.ct, joinOA joinP a.rt b.rt with
  | some n, some k, some c, some r => some ⟨n, k, c, r⟩
  | _, _, _, _ => none
theorem joinAR_fl {a b c : AR} (h : joinAR a b = some c) {f : Flow} {S : Store} : (OkFl Pi a f S → OkFl Pi c f S) ∧ (OkFl Pi b f S → OkFl Pi c f S) := by
  unfold joinAR at h
  split at h
  · rename_i h1 h2 h3 h4
    cases h
    cases f with
    | nx => exact joinOA_S h1
    | bk => exact joinOA_S h2
    | ct => exact joinOA_S h3
    | rt => exact joinOA_R h4
  · cases h
theorem joinAR_ok {a b c : AR} {r : R Flow} (h : joinAR a b = some c) : (OkF Pi a r → OkF Pi c r) ∧ (OkF Pi b r → OkF Pi c r) :=
  ⟨fun ⟨f, S, e, k⟩ => ⟨f, S, e, (joinAR_fl h).1 k⟩, fun ⟨f, S, e, k⟩ => ⟨f, S, e, (joinAR_fl h).2 k⟩⟩
def joinARs : List (Option AR) → Option AR
  | [] => none
  | [o] => o
  | o :: l => match o, joinARs l with
    | some a, some b => joinAR a b
    | _, _ => none
theorem joinARs_ok : ∀ {l : List (Option AR)} {c : AR}, joinARs l = some c → ∀ {o : Option AR}, o ∈ l → ∃ a, o = some a ∧ ∀ {r}, OkF Pi a r → OkF Pi c r
  | [], c, h, o, ho => by cases ho
  | [p], c, h, o, ho => by
    rcases List.mem_singleton.mp ho with rfl
    exact ⟨c, h, fun h => h⟩
  | p :: q :: l, c, h, o, ho => by
    simp only [joinARs] at h
    split at h
    · rename_i a b hb
      rcases List.mem_cons.mp ho with rfl | ho
      · exact ⟨a, rfl, fun hx => (joinAR_ok h).1 hx⟩
      · obtain ⟨d, e, hd⟩ := joinARs_ok hb ho
        exact ⟨d, e, fun hx => (joinAR_ok h).2 (hd hx)⟩
    · cases h
/-! ### one by one -/
def splitA1 (a : A) : List A := match a with
  | .int lo hi => if hi - lo ≤ 32 then (List.range (hi - lo + 1).toNat).map fun (k : Nat) => .int (lo + k) (lo + k) else [.int lo hi]
  | .seq t lo hi b => if hi ≤ 12 then (List.range (hi + 1 - lo)).map fun k => (match t with | true => .tup (List.replicate (lo + k) b) | false => .lst (List.replicate (lo + k) b)) else [.seq t lo hi b]
  | a => [a]
theorem splitA1_ok {a : A} {x : D} (h : Am Pi a x) : ∃ b ∈ splitA1 a, Am Pi b x := by
  unfold splitA1
  split
  · rename_i lo hi
    split
    · obtain ⟨i, rfl, h1, h2⟩ := h
      refine ⟨.int (lo + (i - lo).toNat) (lo + (i - lo).toNat), List.mem_map.mpr ⟨(i - lo).toNat, List.mem_range.mpr (by omega), rfl⟩, i, rfl, by omega, by omega⟩
    · exact ⟨_, List.mem_singleton.mpr rfl, h⟩
  · rename_i t lo hi b
    split
    · obtain ⟨m, rfl, h1, h2, hm⟩ := h
      have e : lo + (m.length - lo) = m.length := by omega
      refine ⟨_, List.mem_map.mpr ⟨m.length - lo, List.mem_range.mpr (by omega), rfl⟩, ?_⟩
      cases t with
      | true => simp only; rw [e]; exact ⟨m, rfl, rep_Ams hm⟩
      | false => simp only; rw [e]; exact ⟨m, rfl, rep_Ams hm⟩
    · exact ⟨_, List.mem_singleton.mpr rfl, h⟩
  · exact ⟨_, List.mem_singleton.mpr rfl, h⟩
def splitA (a : A) : List A := a.alts2.flatMap splitA1
theorem splitA_ok {a : A} {x : D} (h : Am Pi a x) : ∃ b ∈ splitA a, Am Pi b x := by
  obtain ⟨b, hb, hx⟩ := alts2_ok h
  obtain ⟨c, hc, hx⟩ := splitA1_ok hx
  exact ⟨c, List.mem_flatMap.mpr ⟨b, hb, hc⟩, hx⟩
/-- .. by told groups -/
def splitG (o : Option (List A)) (a : A) : List A := match o with
  | none => splitA a
  | some gs => if (a.alts2.all fun b => gs.any fun c => A.sub A.fuel b c) = true then gs else [a]
theorem splitG_ok {o : Option (List A)} {a : A} {x : D} (h : Am Pi a x) : ∃ b ∈ splitG o a, Am Pi b x := by
  unfold splitG
  split
  · exact splitA_ok h
  · split
    · rename_i gs hc
      obtain ⟨b, hb, hx⟩ := alts2_ok h
      obtain ⟨c, hc, hs⟩ := List.any_eq_true.mp (List.all_eq_true.mp hc b hb)
      exact ⟨c, hc, sub_ok _ hs hx⟩
    · exact ⟨a, by simp, h⟩
abbrev Spl := List (Nat × Option (List A))
def splitAt (s : ASig) (p : Nat × Option (List A)) : List ASig := match s[p.1]? with
  | some (some (.d a)) => (splitG p.2 a).map fun b => s.set p.1 (some (.d b))
  | _ => [s]
theorem splitAt_ok {s : ASig} {σ : Sig} (p : Nat × Option (List A)) (h : AmG Pi s σ) : ∃ t ∈ splitAt s p, AmG Pi t σ := by
  obtain ⟨i, g⟩ := p
  unfold splitAt
  split
  · rename_i a e
    obtain ⟨o, h1, y, rfl, x, rfl, hx⟩ := h.get e
    obtain ⟨b, hb, hbx⟩ := splitG_ok (o := g) hx
    refine ⟨_, List.mem_map.mpr ⟨b, hb, rfl⟩, ?_⟩
    have := All2.set i h (a := some (.d b)) (x := some (.d x)) (show AmO Pi (some (.d b)) (some (.d x)) from ⟨_, rfl, x, rfl, hbx⟩)
    rwa [set_same h1] at this
  · exact ⟨s, by simp, h⟩
def asgSlot : Stm → Option Nat
  | .asg (.name i) _ => some i
  | .ite _ [.asg (.name i) _] [] => some i
  | _ => none
def splitS (spl : Spl) (st : Stm) (s : ASig) : List ASig := match asgSlot st with
  | some i => (match spl.find? fun p => p.1 == i with
    | some p => splitAt s p
    | none => [s])
  | none => [s]
theorem splitS_ok {spl : Spl} {st : Stm} {s : ASig} {σ : Sig} (h : AmG Pi s σ) : ∃ t ∈ splitS spl st s, AmG Pi t σ := by
  unfold splitS
  split
  · split
    · exact splitAt_ok _ h
    · exact ⟨s, by simp, h⟩
  · exact ⟨s, by simp, h⟩
/-! ### loops -/
def aForE (turn : A → ASig → ASt → Option AR) : List A → Nat → ASig → ASt → Option AR
  | [], _, s, S => some { nx := some (s, S) }
  | a :: items, lo, s, S => match turn a s S with
    | none => none
    | some r => match joinOA joinAS r.nx r.ct with
      | none => none
      | some cont => match joinAR { nx := r.bk, rt := r.rt } (if lo = 0 then { nx := some (s, S) } else {}) with
        | none => none
        | some o => match cont with
          | none => some o
          | some q => match aForE turn items (lo - 1) q.1 q.2 with
            | none => none
            | some r2 => joinAR o r2
theorem aForE_ok {turn : A → ASig → ASt → Option AR} {cturn : D → Sig → Store → R Flow} {ck : Store → Prop} (hck : ∀ S, ck S) (ht : ∀ {a r s S x σ T}, turn a s S = some r → Am Pi a x → AmG Pi s σ → AmS Pi S T → OkF Pi r (cturn x σ T)) :
    ∀ {l : List D} {items : List A} {lo : Nat} {s : ASig} {S : ASt} {σ : Sig} {T : Store} {p : AR}, aForE turn items lo s S = some p → ExOk Pi items lo l → AmG Pi s σ → AmS Pi S T → OkF Pi p (forL ck cturn l σ T)
  | [], items, lo, s, S, σ, T, p, h, hl, hs, hS => by
    have e : forL ck cturn [] σ T = .ok (.nx σ) T := by simp [forL, hck T]
    rw [e]
    cases items with
    | nil => cases h; exact okN hs hS
    | cons a items =>
      simp only [aForE] at h
      split at h
      · cases h
      · split at h
        · cases h
        · split at h
          · cases h
          · rename_i ho
            cases (show lo = 0 from hl)
            simp only [if_true] at ho
            have h1 := (joinAR_ok (Pi := Pi) ho).2 (okN hs hS)
            split at h
            · cases h; exact h1
            · split at h
              · cases h
              · exact (joinAR_ok h).1 h1
  | x :: l, items, lo, s, S, σ, T, p, h, hl, hs, hS => by
    obtain ⟨a, items, rfl, hx, hl⟩ := hl
    simp only [aForE] at h
    split at h
    · cases h
    · rename_i r e1
      split at h
      · cases h
      · rename_i cont e2
        split at h
        · cases h
        · rename_i o e3
          obtain ⟨f, T1, h1, h2⟩ := ht e1 hx hs hS
          have e : forL ck cturn (x :: l) σ T = (match f with
            | .nx σ1 => forL ck cturn l σ1 T1
            | .ct σ1 => forL ck cturn l σ1 T1
            | .bk σ1 => .ok (.nx σ1) T1
            | .rt v => .ok (.rt v) T1) := by
            simp only [forL, hck T, if_true, h1, R.bind_ok]
            cases f <;> rfl
          rw [e]
          have go : ∀ {σ1}, OkSt Pi cont σ1 T1 → OkF Pi p (forL ck cturn l σ1 T1) := by
            rintro σ1 ⟨q, rfl, k1, k2⟩
            simp only at h
            split at h
            · cases h
            · rename_i r2 e4
              exact (joinAR_ok h).2 (aForE_ok hck ht e4 hl k1 k2)
          have out : ∀ {f}, OkFl Pi { nx := r.bk, rt := r.rt } f T1 → OkF Pi p (.ok f T1) := by
            intro f hf
            have h3 : OkF Pi o (.ok f T1) := (joinAR_ok e3).1 ⟨f, T1, rfl, hf⟩
            split at h
            · cases h; exact h3
            · split at h
              · cases h
              · exact (joinAR_ok h).1 h3
          cases f with
          | nx σ1 => exact go ((joinOA_S e2).1 h2)
          | ct σ1 => exact go ((joinOA_S e2).2 h2)
          | bk σ1 => exact out (f := .nx σ1) h2
          | rt v => exact out (f := .rt v) h2
def subO : Option AV → Option AV → Bool
  | _, none => true
  | some (.d a), some (.d b) => A.sub A.fuel a b
  | some (.ref n), some (.ref m) => n == m
  | _, _ => false
theorem subO_ok {a b : Option AV} {x : Option Val} (h : subO a b = true) (hx : AmO Pi a x) : AmO Pi b x := by
  unfold subO at h
  split at h
  · trivial
  · obtain ⟨v, rfl, y, rfl, hy⟩ := hx
    exact ⟨_, rfl, y, rfl, sub_ok _ h hy⟩
  · cases eq_of_beq h; exact hx
  · cases h
def subG : ASig → ASig → Bool
  | [], [] => true
  | a :: l, b :: m => subO a b && subG l m
  | _, _ => false
theorem subG_ok : ∀ {l m : ASig} {t : Sig}, subG l m = true → AmG Pi l t → AmG Pi m t
  | [], [], t, h, ht => ht
  | [], _ :: _, t, h, ht => by cases h
  | _ :: _, [], t, h, ht => by cases h
  | a :: l, b :: m, t, h, ht => by
    simp only [subG, Bool.and_eq_true] at h
    obtain ⟨x, r, rfl, h3, h4⟩ := ht
    exact ⟨x, r, rfl, subO_ok h.1 h3, subG_ok h.2 h4⟩
/-- a state that the turns stay within -/
def aFixF (turn : A → ASig → ASt → Option AR) (a : A) : Nat → ASig → ASt → Option (AR × AS)
  | 0, _, _ => none
  | n + 1, s, S => match turn a s S with
    | none => none
    | some r => match joinOA joinAS r.nx r.ct with
      | none => none
      | some none => some (r, (s, S))
      | some (some q) => if subG q.1 s && subSt q.2 S then some (r, (s, S)) else match joinAS q (s, S) with
        | none => none
        | some q1 => aFixF turn a n q1.1 q1.2
theorem aFixF_ok {turn : A → ASig → ASt → Option AR} {a : A} : ∀ {n : Nat} {s : ASig} {S : ASt} {r : AR} {q : AS}, aFixF turn a n s S = some (r, q) → turn a q.1 q.2 = some r ∧ (∀ {σ T}, OkSt Pi r.nx σ T ∨ OkSt Pi r.ct σ T → AmG Pi q.1 σ ∧ AmS Pi q.2 T) ∧ ∀ {σ T}, AmG Pi s σ ∧ AmS Pi S T → AmG Pi q.1 σ ∧ AmS Pi q.2 T
  | 0, s, S, r, q, h => by cases h
  | n + 1, s, S, r, q, h => by
    simp only [aFixF] at h
    split at h
    · cases h
    · rename_i e1
      split at h
      · cases h
      · rename_i e2
        cases h
        refine ⟨e1, ?_, fun h => h⟩
        rintro σ T (k | k)
        · obtain ⟨q, e, _⟩ := (joinOA_S e2).1 k; cases e
        · obtain ⟨q, e, _⟩ := (joinOA_S e2).2 k; cases e
      · rename_i q1 e2
        split at h
        · rename_i e3
          cases h
          simp only [Bool.and_eq_true] at e3
          refine ⟨e1, ?_, fun h => h⟩
          rintro σ T (k | k)
          · obtain ⟨q, e, k1, k2⟩ := (joinOA_S e2).1 k; cases e; exact ⟨subG_ok e3.1 k1, subSt_ok e3.2 k2⟩
          · obtain ⟨q, e, k1, k2⟩ := (joinOA_S e2).2 k; cases e; exact ⟨subG_ok e3.1 k1, subSt_ok e3.2 k2⟩
        · split at h
          · cases h
          · rename_i q2 e3
            obtain ⟨h1, h2, h3⟩ := aFixF_ok h
            exact ⟨h1, h2, fun h => h3 ((joinAS_ok e3).2 h)⟩
def aForU (turn : A → ASig → ASt → Option AR) (a : A) (s : ASig) (S : ASt) : Option AR := match aFixF turn a 6 s S with
  | none => none
  | some p => joinAR { nx := p.1.bk, rt := p.1.rt } { nx := some p.2 }
theorem forU_ok {r o : AR} {q : AS} {cturn : D → Sig → Store → R Flow} {ck : Store → Prop} (hck : ∀ S, ck S) (hst : ∀ {σ T}, OkSt Pi r.nx σ T ∨ OkSt Pi r.ct σ T → AmG Pi q.1 σ ∧ AmS Pi q.2 T) (ho : joinAR { nx := r.bk, rt := r.rt } { nx := some q } = some o) :
    ∀ {l : List D} {σ : Sig} {T : Store}, (∀ x ∈ l, ∀ σ T, AmG Pi q.1 σ → AmS Pi q.2 T → OkF Pi r (cturn x σ T)) → AmG Pi q.1 σ → AmS Pi q.2 T → OkF Pi o (forL ck cturn l σ T)
  | [], σ, T, h, hs, hS => by
    have e : forL ck cturn [] σ T = .ok (.nx σ) T := by simp [forL, hck T]
    rw [e]
    exact (joinAR_ok ho).2 ⟨_, _, rfl, q, rfl, hs, hS⟩
  | x :: l, σ, T, h, hs, hS => by
    obtain ⟨f, T1, h1, h2⟩ := h x (by simp) σ T hs hS
    have e : forL ck cturn (x :: l) σ T = (match f with
      | .nx σ1 => forL ck cturn l σ1 T1
      | .ct σ1 => forL ck cturn l σ1 T1
      | .bk σ1 => .ok (.nx σ1) T1
      | .rt v => .ok (.rt v) T1) := by
      simp only [forL, hck T, if_true, h1, R.bind_ok]
      cases f <;> rfl
    rw [e]
    have ih := fun {σ T} => forU_ok hck hst ho (l := l) (σ := σ) (T := T) fun y hy => h y (List.mem_cons_of_mem _ hy)
    cases f with
    | nx σ1 => obtain ⟨k1, k2⟩ := hst (.inl h2); exact ih k1 k2
    | ct σ1 => obtain ⟨k1, k2⟩ := hst (.inr h2); exact ih k1 k2
    | bk σ1 => exact (joinAR_ok ho).1 ⟨.nx σ1, T1, rfl, h2⟩
    | rt v => exact (joinAR_ok ho).1 ⟨.rt v, T1, rfl, h2⟩
def aFor (turn : A → ASig → ASt → Option AR) (src : ASrc) (s : ASig) (S : ASt) : Option AR := match src with
  | .ex items lo => aForE turn items lo s S
  | .un _ _ a => aForU turn a s S
theorem aFor_ok {turn : A → ASig → ASt → Option AR} {cturn : D → Sig → Store → R Flow} {ck : Store → Prop} (hck : ∀ S, ck S) (ht : ∀ {a r s S x σ T}, turn a s S = some r → Am Pi a x → AmG Pi s σ → AmS Pi S T → OkF Pi r (cturn x σ T))
    {src : ASrc} {l : List D} {s : ASig} {S : ASt} {σ : Sig} {T : Store} {p : AR} (h : aFor turn src s S = some p) (hl : SrcOk Pi src l) (hs : AmG Pi s σ) (hS : AmS Pi S T) : OkF Pi p (forL ck cturn l σ T) := by
  unfold aFor at h
  split at h
  · exact aForE_ok hck ht h hl hs hS
  · unfold aForU at h
    split at h
    · cases h
    · rename_i a _ q e
      obtain ⟨h1, h2, h3⟩ := aFixF_ok (Pi := Pi) (r := q.1) (q := q.2) e
      obtain ⟨k1, k2⟩ := h3 ⟨hs, hS⟩
      exact forU_ok hck h2 h (fun x hx σ T hσ hT => ht h1 (hl.2.2 x hx) hσ hT) k1 k2
/-! ### the rest -/
def aAug (o : Bop) (a b : A) : Option A := match o, a, b with
  | .add, .int a b, .int c d => some (.int (a + c) (b + d))
  | .sub, .int a b, .int c d => some (.int (a - d) (b - c))
  | _, _, _ => none
theorem aAug_ok (o : Bop) : Snd2 Pi (aAug o) (augD o) := by
  intro a b c x y h hx hy
  unfold aAug at h
  split at h
  · cases h
    obtain ⟨i, rfl, h1, h2⟩ := hx
    obtain ⟨j, rfl, h3, h4⟩ := hy
    exact ⟨_, rfl, i + j, rfl, by omega, by omega⟩
  · cases h
    obtain ⟨i, rfl, h1, h2⟩ := hx
    obtain ⟨j, rfl, h3, h4⟩ := hy
    exact ⟨_, rfl, i - j, rfl, by omega, by omega⟩
  · cases h
def aSetC (c k x : A) : Option A := match c with
  | .lst l => (match k with
    | .int i j => if 0 ≤ i ∧ j < l.length then (if i = j then some (.lst (l.set i.toNat x)) else some (.seq false l.length l.length (itJoin l.length ((joinAll l).getD .non) 1 x))) else none
    | _ => none)
  | .seq false lo hi b => (match k with
    | .int i j => if 0 ≤ i ∧ j < lo then some (.seq false lo hi (b.join x)) else none
    | _ => none)
  | .dct l => (match keyA k with
    | some k => if l.length ≤ 1000 then some (.dct (aKSet k x l)) else none
    | none => none)
  | _ => none
theorem mem_set_or {α : Type} {l : List α} {n : Nat} {a y : α} (h : y ∈ l.set n a) : y ∈ l ∨ y = a := List.mem_or_eq_of_mem_set h
theorem aSetC_ok {c k x c1 : A} {cell : Cell} {q y : D} (h : aSetC c k x = some c1) (hc : AmC Pi ⟨false, c⟩ cell) (hk : Am Pi k q) (hx : Am Pi x y) : ∃ cell1, setC cell q y = some cell1 ∧ AmC Pi ⟨false, c1⟩ cell1 := by
  unfold aSetC at h
  split at h
  · rename_i l
    have hl : ∃ m, cell = .lst m ∧ Ams Pi l m := by
      rcases hc with ⟨m, rfl, n, e, hn⟩ | ⟨m, rfl, n, e, hn⟩
      · cases e; exact ⟨m, rfl, hn⟩
      · cases e
    obtain ⟨m, rfl, hm⟩ := hl
    have hlen := Ams_len hm
    split at h
    · rename_i i j
      obtain ⟨i', rfl, h1, h2⟩ := hk
      split at h
      · rename_i hb
        have hb' : 0 ≤ i' ∧ i' < m.length := by omega
        refine ⟨.lst (m.set i'.toNat y), by simp only [setC]; rw [if_pos hb'], ?_⟩
        split at h
        · cases h
          have : i' = i := by omega
          subst this
          exact .inl ⟨_, rfl, _, rfl, Ams_set _ hm hx⟩
        · cases h
          refine .inl ⟨_, rfl, _, rfl, by simp; omega, by simp; omega, fun z hz => ?_⟩
          have := itJoin_ok (r := [y]) (by omega : m.length ≤ l.length) (by simp) (getD_ok hm) (b := x) (m := 1) (by simpa using hx)
          rcases mem_set_or hz with q | q
          · exact this z (List.mem_append_left _ q)
          · exact this z (by simp [q])
      · cases h
    · cases h
  · rename_i lo hi b
    have hl : ∃ m, cell = .lst m ∧ lo ≤ m.length ∧ m.length ≤ hi ∧ ∀ y ∈ m, Am Pi b y := by
      rcases hc with ⟨m, rfl, n, e, hn⟩ | ⟨m, rfl, n, e, hn⟩
      · cases e; exact ⟨m, rfl, hn⟩
      · cases e
    obtain ⟨m, rfl, k1, k2, hm⟩ := hl
    split at h
    · rename_i i j
      obtain ⟨i', rfl, h1, h2⟩ := hk
      split at h
      · rename_i hb
        cases h
        have hb' : 0 ≤ i' ∧ i' < m.length := by omega
        refine ⟨.lst (m.set i'.toNat y), by simp only [setC]; rw [if_pos hb'], .inl ⟨_, rfl, _, rfl, by simpa using k1, by simpa using k2, fun z hz => ?_⟩⟩
        rcases mem_set_or hz with q | q
        · exact join_ok.1 (hm z q)
        · rw [q]; exact join_ok.2 hx
      · cases h
    · cases h
  · rename_i l
    have hl : ∃ m, cell = .dct m ∧ Amk Pi l m := by
      rcases hc with ⟨m, rfl, n, e, hn⟩ | ⟨m, rfl, n, e, hn⟩
      · cases e
      · cases e; exact ⟨m, rfl, hn⟩
    obtain ⟨m, rfl, hm⟩ := hl
    have hlen := Amk_len hm
    split at h
    · rename_i k' e
      split at h
      · cases h
        obtain ⟨rfl, h2⟩ := keyA_ok e hk
        refine ⟨.dct (kSet q y m), ?_, .inr ⟨_, rfl, _, rfl, aKSet_ok h2 hx hm⟩⟩
        cases q with
        | int => simp only [setC]; rw [if_pos ⟨rfl, Nat.lt_of_le_of_lt (by omega : m.length ≤ 1000) (by decide)⟩]
        | str => simp only [setC]; rw [if_pos ⟨rfl, Nat.lt_of_le_of_lt (by omega : m.length ≤ 1000) (by decide)⟩]
        | _ => cases h2
      · cases h
    · cases h
  · cases h
/-- may it lie in a cell -/
def A.cellB (a : A) : Bool := a.alts.all fun a => a.kind == some 5 || a.kind == some 6
theorem cellB_ok {a : A} {x : D} (h : a.cellB = true) (hx : Am Pi a x) : (∃ l, x = .lst l) ∨ ∃ l, x = .dct l := by
  obtain ⟨b, hb, hbx⟩ := alts_ok hx
  have := List.all_eq_true.mp h b hb
  simp only [Bool.or_eq_true, beq_iff_eq] at this
  rcases this with e | e
  · have := kind_ok e hbx
    cases x <;> simp [kindD] at this
    exact .inl ⟨_, rfl⟩
  · have := kind_ok e hbx
    cases x <;> simp [kindD] at this
    exact .inr ⟨_, rfl⟩
end
section
variable (C : ACx) (spl : Spl)
mutual
def aex : Stm → ASig → ASt → Option AR
  | .asg t e, s, S => (aev C e s S).bind fun p => match t with
    | .name i => some { nx := some (s.set i (some p.1), p.2) }
    | .tup l => (aRd p.2 p.1).bind fun a => (A.tups a.tops).bind fun as => (aAsgTs s l as).map fun s1 => { nx := some (s1, p.2) }
  | .new i e, s, S => (aev C e s S).bind fun p => match p.1 with
    | .d a => if a.cellB then some { nx := some (s.set i (some (.ref p.2.length)), p.2 ++ [⟨false, a⟩]) } else none
    | _ => none
  | .aug i o e, s, S => match s[i]? with
    | some (some x) => (aev C e s S).bind fun p => (aOn2 p.2 x p.1 (aAug o)).map fun c => { nx := some (s.set i (some (.d c)), p.2) }
    | _ => none
  | .setSub o i e, s, S => (aev C e s S).bind fun v => (aev C o s v.2).bind fun a => (aev C i s a.2).bind fun k => match a.1 with
    | .ref n => (aFz k.2 v.1).bind fun x => (aRd x.2 k.1).bind fun q => (match x.2[n]? with
      | some ⟨false, c⟩ => (aSetC c q x.1).map fun c1 => { nx := some (s, x.2.set n ⟨false, c1⟩) }
      | _ => none)
    | .d _ => none
  | .expr e, s, S => (aev C e s S).map fun p => { nx := some (s, p.2) }
  | .ret e, s, S => (aev C e s S).map fun p => { rt := some p }
  | .retNew e, s, S => (aev C e s S).bind fun p => match p.1 with
    | .d a => if a.cellB then some { rt := some (.ref p.2.length, p.2 ++ [⟨false, a⟩]) } else none
    | _ => none
  | .retN, _, S => some { rt := some (.d .non, S) }
  | .ite c a b, s, S => (aevT C c s S).bind fun t => branch joinAR t.1 (fun _ => aexs a s t.2) (fun _ => aexs b s t.2)
  | .for_ t it b, s, S => (aevI C it s S).bind fun q => aFor (fun x s S => match aAsgT s t x with
      | some s1 => aexs b s1 S
      | none => none) q.1 s q.2
  | .while_ _ _, _, _ => none
  | .brk, s, S => some { bk := some (s, S) }
  | .cnt, s, S => some { ct := some (s, S) }
  | .pass, s, S => some { nx := some (s, S) }
  | .rse, _, _ => none
  | .rai _ _ _, _, _ => none
  | .tr _ _, _, _ => none
termination_by structural s => s
def aexs : List Stm → ASig → ASt → Option AR
  | [], s, S => some { nx := some (s, S) }
  | st :: l, s, S => (aex st s S).bind fun r => match r.nx with
    | none => some r
    | some q => (joinARs ((splitS spl st q.1).map fun s1 => aexs l s1 q.2)).bind fun r2 => joinAR { r with nx := none } r2
termination_by structural l => l
end
end
section
variable {Pi : Par} {K : Cx} {C : ACx} {spl : Spl}
mutual
theorem aex_ok (hC : CxOk Pi K C) : ∀ {st : Stm} {s : ASig} {S : ASt} {p : AR} {σ : Sig} {T : Store}, aex C spl st s S = some p → AmG Pi s σ → AmS Pi S T → OkF Pi p (ex K st σ T)
  | .asg t e, s, S, p, σ, T, h, hs, hS => by
    simp only [aex, Option.bind_eq_some_iff] at h
    obtain ⟨x, h1, h2⟩ := h
    cases t with
    | name i =>
      cases h2
      rw [ex_asgN]
      exact (aev_ok hC h1 hs hS).bind fun v T1 hv hT => okN (hs.set i ⟨v, rfl, hv⟩) hT
    | tup l =>
      simp only [Option.bind_eq_some_iff, Option.map_eq_some_iff] at h2
      obtain ⟨a, h3, as, h4, s1, h5, rfl⟩ := h2
      obtain ⟨v, T1, ee, hv, hT⟩ := aev_ok hC h1 hs hS
      obtain ⟨y, h6, h7⟩ := aRd_ok h3 hv hT
      obtain ⟨m, rfl, hm⟩ := tups_ok h4 (tops_ok.mpr h7)
      obtain ⟨σ1, h8, h9⟩ := aAsgTs_ok h5 hs hm
      have : ex K (.asg (.tup l) e) σ T = .ok (.nx σ1) T1 := by
        rw [ex, ee]
        simp only [R.bind_ok, h6, h8]
      rw [this]
      exact okN h9 hT
  | .new i e, s, S, p, σ, T, h, hs, hS => by
    simp only [aex, Option.bind_eq_some_iff] at h
    obtain ⟨x, h1, h2⟩ := h
    split at h2
    · rename_i a e1
      split at h2
      · rename_i hc
        cases h2
        rw [ex_new]
        refine (aev_ok hC h1 hs hS).bind fun v T1 hv hT => ?_
        rw [e1] at hv
        obtain ⟨y, rfl, hy⟩ := hv
        have hlen := hT.len
        rcases cellB_ok hc hy with ⟨l, rfl⟩ | ⟨l, rfl⟩
        · exact okN (by rw [hlen]; exact hs.set i ⟨_, rfl, rfl⟩) (hT.app ⟨_, [], rfl, .inl ⟨l, rfl, hy⟩, rfl⟩)
        · exact okN (by rw [hlen]; exact hs.set i ⟨_, rfl, rfl⟩) (hT.app ⟨_, [], rfl, .inr ⟨l, rfl, hy⟩, rfl⟩)
      · cases h2
    · cases h2
  | .aug i o e, s, S, p, σ, T, h, hs, hS => by
    simp only [aex] at h
    split at h
    · rename_i x e1
      simp only [Option.bind_eq_some_iff, Option.map_eq_some_iff] at h
      obtain ⟨q, h1, c, h2, rfl⟩ := h
      obtain ⟨ov, h3, w, rfl, h4⟩ := hs.get e1
      obtain ⟨v, T1, ee, hv, hT⟩ := aev_ok hC h1 hs hS
      obtain ⟨z, h5, h6⟩ := aOn2_ok (aAug_ok o) h2 h4 hv hT
      have : ex K (.aug i o e) σ T = .ok (.nx (σ.set i (some (.d z)))) T1 := by
        rw [ex, h3]
        simp only [ee, R.bind_ok, h5]
      rw [this]
      exact okN (hs.set i ⟨_, rfl, z, rfl, h6⟩) hT
    · cases h
  | .setSub o i e, s, S, p, σ, T, h, hs, hS => by
    simp only [aex, Option.bind_eq_some_iff] at h
    obtain ⟨v, h1, a, h2, k, h3, h4⟩ := h
    split at h4
    · rename_i n e1
      simp only [Option.bind_eq_some_iff] at h4
      obtain ⟨x, h5, q, h6, h7⟩ := h4
      split at h7
      · rename_i c e2
        simp only [Option.map_eq_some_iff] at h7
        obtain ⟨c1, h8, rfl⟩ := h7
        obtain ⟨v', T1, k1, k2, k3⟩ := aev_ok hC h1 hs hS
        obtain ⟨a', T2, k4, k5, k6⟩ := aev_ok hC h2 hs k3
        obtain ⟨i', T3, k7, k8, k9⟩ := aev_ok hC h3 hs k6
        rw [e1] at k5
        cases k5
        obtain ⟨y, T4, l1, l2, l3⟩ := aFz_ok (a := x.1) (S' := x.2) h5 k2 k9
        obtain ⟨z, l4, l5⟩ := aRd_ok h6 k8 l3
        obtain ⟨cell, l6, l7⟩ := l3.get e2
        obtain ⟨cell1, l8, l9⟩ := aSetC_ok h8 l7 l5 l2
        have : ex K (.setSub o i e) σ T = .ok (.nx σ) (T4.set n cell1) := by
          rw [ex, k1]
          simp only [R.bind_ok, k4, k7, l1, l4, l6, l8]
        rw [this]
        exact okN hs (l3.set n l9)
      · cases h7
    · cases h4
  | .expr e, s, S, p, σ, T, h, hs, hS => by
    simp only [aex, Option.map_eq_some_iff] at h
    obtain ⟨x, h1, rfl⟩ := h
    rw [ex_expr]
    exact (aev_ok hC h1 hs hS).bind fun v T1 hv hT => okN hs hT
  | .ret e, s, S, p, σ, T, h, hs, hS => by
    simp only [aex, Option.map_eq_some_iff] at h
    obtain ⟨x, h1, rfl⟩ := h
    rw [ex_ret]
    exact (aev_ok hC h1 hs hS).bind fun v T1 hv hT => ⟨_, _, rfl, x, rfl, hv, hT⟩
  | .retNew e, s, S, p, σ, T, h, hs, hS => by
    simp only [aex, Option.bind_eq_some_iff] at h
    obtain ⟨x, h1, h2⟩ := h
    split at h2
    · rename_i a e1
      split at h2
      · rename_i hc
        cases h2
        obtain ⟨v, T1, k1, hv, hT⟩ := aev_ok hC h1 hs hS
        rw [e1] at hv
        obtain ⟨y, rfl, hy⟩ := hv
        have hlen := hT.len
        rcases cellB_ok hc hy with ⟨l, rfl⟩ | ⟨l, rfl⟩
        · have : ex K (.retNew e) σ T = .ok (.rt (.ref T1.length)) (T1 ++ [.lst l]) := by
            rw [ex, k1]; rfl
          rw [this]
          exact ⟨_, _, rfl, _, rfl, by rw [hlen]; rfl, hT.app ⟨_, [], rfl, .inl ⟨l, rfl, hy⟩, rfl⟩⟩
        · have : ex K (.retNew e) σ T = .ok (.rt (.ref T1.length)) (T1 ++ [.dct l]) := by
            rw [ex, k1]; rfl
          rw [this]
          exact ⟨_, _, rfl, _, rfl, by rw [hlen]; rfl, hT.app ⟨_, [], rfl, .inr ⟨l, rfl, hy⟩, rfl⟩⟩
      · cases h2
    · cases h2
  | .retN, s, S, p, σ, T, h, hs, hS => by
    cases h
    rw [ex_retN]
    exact ⟨_, _, rfl, _, rfl, ⟨_, rfl, rfl⟩, hS⟩
  | .ite c a b, s, S, p, σ, T, h, hs, hS => by
    simp only [aex, Option.bind_eq_some_iff] at h
    obtain ⟨t, h1, h2⟩ := h
    rw [ex_ite]
    refine (aevT_ok hC h1 hs hS).bind fun z T1 hz hT => ?_
    refine branch_ok (Ok := OkF Pi) joinAR_ok h2 hz (fun e => ?_) (fun e => ?_)
    · subst e; intro p hp; exact aexs_ok hC hp hs hT
    · subst e; intro p hp; exact aexs_ok hC hp hs hT
  | .for_ t it b, s, S, p, σ, T, h, hs, hS => by
    simp only [aex, Option.bind_eq_some_iff] at h
    obtain ⟨q, h1, h2⟩ := h
    rw [ex_for]
    obtain ⟨src, T1, e1, hck, hsrc, hT⟩ := aevI_ok hC h1 hs hS
    rw [e1, R.bind_ok]
    refine aFor_ok hck (fun {a r s' S' x σ' T'} ht hx hs' hT' => ?_) h2 hsrc hs hT
    split at ht
    · rename_i s1 e2
      obtain ⟨σ1, h8, h9⟩ := aAsgT_ok e2 hs' hx
      unfold forT
      rw [h8]
      exact aexs_ok hC ht h9 hT'
    · cases ht
  | .while_ _ _, s, S, p, σ, T, h, hs, hS => by cases h
  | .brk, s, S, p, σ, T, h, hs, hS => by
    cases h
    rw [ex]
    exact ⟨_, _, rfl, _, rfl, hs, hS⟩
  | .cnt, s, S, p, σ, T, h, hs, hS => by
    cases h
    rw [ex]
    exact ⟨_, _, rfl, _, rfl, hs, hS⟩
  | .pass, s, S, p, σ, T, h, hs, hS => by
    cases h
    rw [ex]
    exact ⟨_, _, rfl, _, rfl, hs, hS⟩
  | .rse, s, S, p, σ, T, h, hs, hS => by cases h
  | .rai _ _ _, s, S, p, σ, T, h, hs, hS => by cases h
  | .tr _ _, s, S, p, σ, T, h, hs, hS => by cases h
termination_by structural s => s
theorem aexs_ok (hC : CxOk Pi K C) : ∀ {l : List Stm} {s : ASig} {S : ASt} {p : AR} {σ : Sig} {T : Store}, aexs C spl l s S = some p → AmG Pi s σ → AmS Pi S T → OkF Pi p (exs K l σ T)
  | [], s, S, p, σ, T, h, hs, hS => by
    cases h
    rw [exs_nil]
    exact okN hs hS
  | st :: l, s, S, p, σ, T, h, hs, hS => by
    simp only [aexs, Option.bind_eq_some_iff] at h
    obtain ⟨r, h1, h2⟩ := h
    rw [exs_cons]
    refine (aex_ok hC h1 hs hS).bind fun f T1 hf => ?_
    split at h2
    · rename_i e
      cases h2
      cases f with
      | nx σ1 => obtain ⟨q, e1, _⟩ := hf; rw [e] at e1; cases e1
      | _ => exact ⟨_, _, rfl, hf⟩
    · rename_i q e
      simp only [Option.bind_eq_some_iff] at h2
      obtain ⟨r2, h3, h4⟩ := h2
      cases f with
      | nx σ1 =>
        obtain ⟨q', e1, k1, k2⟩ := hf
        rw [e] at e1
        cases e1
        obtain ⟨s1, m1, m2⟩ := splitS_ok (spl := spl) (st := st) k1
        obtain ⟨a, e3, h5⟩ := joinARs_ok (Pi := Pi) h3 (List.mem_map.mpr ⟨s1, m1, rfl⟩)
        exact (joinAR_ok h4).2 (h5 (aexs_ok hC e3 m2 k2))
      | bk σ1 => exact (joinAR_ok h4).1 ⟨_, _, rfl, hf⟩
      | ct σ1 => exact (joinAR_ok h4).1 ⟨_, _, rfl, hf⟩
      | rt v => exact (joinAR_ok h4).1 ⟨_, _, rfl, hf⟩
termination_by structural l => l
end
end
end Ev

end

section
set_option Elab.async false
set_option linter.all false
set_option maxRecDepth 100000
set_option maxHeartbeats 1000000
/-! Ev, kinds: calls. -/
namespace Ev
section
variable {Pi : Par}
def aPrep (S : ASt) : List Bool → List AV → List Nat → List Nat → Option (List AV × List Nat × List Nat)
  | _, [], refs, snaps => some ([], refs, snaps)
  | bs, .d x :: l, refs, snaps => match aPrep S bs.tail l refs snaps with
    | some (r, p) => some (.d x :: r, p)
    | none => none
  | bs, .ref n :: l, refs, snaps => match bs.headD false with
    | true => (match refs.idxOf? n with
      | some j => (match aPrep S bs.tail l refs snaps with
        | some (r, p) => some (.ref j :: r, p)
        | none => none)
      | none => (match aPrep S bs.tail l (refs ++ [n]) snaps with
        | some (r, p) => some (.ref refs.length :: r, p)
        | none => none))
    | false => (match aRd S (.ref n) with
      | some x => (match aPrep S bs.tail l refs (n :: snaps) with
        | some (r, p) => some (.d x :: r, p)
        | none => none)
      | none => none)
theorem aPrep_ok {S : ASt} {T : Store} (hS : AmS Pi S T) : ∀ {vs : List AV} {bs : List Bool} {refs snaps : List Nat} {xs : List Val} {us : List AV} {q : List Nat × List Nat}, aPrep S bs vs refs snaps = some (us, q) → All2 (AmV Pi) vs xs → ∃ ys, prep T bs xs refs snaps = some (ys, q) ∧ All2 (AmV Pi) us ys
  | [], bs, refs, snaps, xs, us, q, h, hv => by
    simp [All2] at hv
    subst hv
    cases bs <;> (cases h; exact ⟨[], rfl, rfl⟩)
  | .d a :: vs, bs, refs, snaps, xs, us, q, h, hv => by
    obtain ⟨v, r, rfl, ⟨x, rfl, h1⟩, h2⟩ := hv
    simp only [aPrep] at h
    split at h
    · rename_i r' p e
      cases h
      obtain ⟨ys, k1, k2⟩ := aPrep_ok hS e h2
      exact ⟨.d x :: ys, by simp only [prep, k1], _, _, rfl, ⟨x, rfl, h1⟩, k2⟩
    · cases h
  | .ref n :: vs, bs, refs, snaps, xs, us, q, h, hv => by
    obtain ⟨v, r, rfl, e0, h2⟩ := hv
    cases e0
    simp only [aPrep] at h
    split at h
    · rename_i eb
      split at h
      · rename_i j ej
        split at h
        · rename_i r' p e
          cases h
          obtain ⟨ys, k1, k2⟩ := aPrep_ok hS e h2
          exact ⟨.ref j :: ys, by simp only [prep, eb, ej, k1], _, _, rfl, rfl, k2⟩
        · cases h
      · rename_i ej
        split at h
        · rename_i r' p e
          cases h
          obtain ⟨ys, k1, k2⟩ := aPrep_ok hS e h2
          exact ⟨.ref refs.length :: ys, by simp only [prep, eb, ej, k1], _, _, rfl, rfl, k2⟩
        · cases h
    · rename_i eb
      split at h
      · rename_i x ex
        split at h
        · rename_i r' p e
          cases h
          obtain ⟨y, k3, k4⟩ := aRd_ok (Pi := Pi) ex rfl hS
          obtain ⟨ys, k1, k2⟩ := aPrep_ok hS e h2
          exact ⟨.d y :: ys, by simp only [prep, eb, k3, k1], _, _, rfl, ⟨y, rfl, k4⟩, k2⟩
        · cases h
      · cases h
def aCells (S : ASt) : List Nat → Option ASt
  | [] => some []
  | n :: l => match S[n]? with
    | some c => (match aCells S l with
      | some r => some (c :: r)
      | none => none)
    | none => none
theorem aCells_ok {S : ASt} {T : Store} (hS : AmS Pi S T) : ∀ {l : List Nat} {r : ASt}, aCells S l = some r → ∃ t, cellsAt T l = some t ∧ AmS Pi r t
  | [], r, h => by cases h; exact ⟨[], rfl, rfl⟩
  | n :: l, r, h => by
    simp only [aCells] at h
    split at h
    · rename_i c hc
      split at h
      · rename_i r' e
        cases h
        obtain ⟨t, h1, h2⟩ := aCells_ok hS e
        obtain ⟨d, h3, h4⟩ := hS.get hc
        exact ⟨d :: t, by simp only [cellsAt, h3, h1], d, t, rfl, h4, h2⟩
      · cases h
    · cases h
def aPut (S : ASt) : List Nat → ASt → ASt
  | n :: l, c :: T => aPut (S.set n c) l T
  | _, _ => S
theorem aPut_ok : ∀ {l : List Nat} {S T : ASt} {S' T' : Store}, AmS Pi S S' → AmS Pi T T' → AmS Pi (aPut S l T) (putBack S' l T')
  | [], S, T, S', T', h, hT => by
    cases T <;> cases T' <;> exact h
  | n :: l, S, [], S', T', h, hT => by
    simp [All2] at hT
    subst hT
    exact h
  | n :: l, S, c :: T, S', T', h, hT => by
    obtain ⟨x, r, rfl, h1, h2⟩ := hT
    exact @aPut_ok l (S.set n c) T (S'.set n x) r (h.set n h1) h2
mutual
def A.flatB : A → Bool
  | .int _ _ => true
  | .bl _ => true
  | .non => true
  | .txs _ => true
  | .txL _ => true
  | .tup l => A.flatBs l
  | .seq t _ _ a => t && a.flatB
  | .or l => A.flatBs l
  | _ => false
termination_by structural a => a
def A.flatBs : List A → Bool
  | [] => true
  | a :: l => a.flatB && A.flatBs l
termination_by structural a => a
end
theorem flats_iff : ∀ {l : List D}, D.flats l = true ↔ ∀ x ∈ l, x.flat = true
  | [] => by simp [D.flats]
  | x :: l => by simp [D.flats, flats_iff (l := l)]
mutual
theorem flatB_ok : ∀ {a : A} {x : D}, a.flatB = true → Am Pi a x → x.flat = true
  | .int _ _, x, h, hx => by obtain ⟨i, rfl, _⟩ := hx; rfl
  | .bl o, x, h, hx => by
    cases o with
    | none => obtain ⟨b, rfl⟩ := hx; rfl
    | some b => cases hx; rfl
  | .non, x, h, hx => by cases hx; rfl
  | .txs _, x, h, hx => by obtain ⟨i, _, rfl⟩ := hx; rfl
  | .txL _, x, h, hx => by obtain ⟨i, _, rfl⟩ := hx; rfl
  | .tup l, x, h, hx => by
    obtain ⟨m, rfl, hm⟩ := hx
    exact flats_iff.mpr (flatBs_ok h hm)
  | .seq t _ _ a, x, h, hx => by
    obtain ⟨m, rfl, _, _, hm⟩ := hx
    simp only [A.flatB, Bool.and_eq_true] at h
    obtain ⟨rfl, h⟩ := h
    exact flats_iff.mpr fun y hy => flatB_ok (a := a) h (hm y hy)
  | .or l, x, h, hx => flatBo_ok h hx
  | .lst _, x, h, hx => by cases h
  | .dct _, x, h, hx => by cases h
  | .any _, x, h, hx => by cases h
  | .pd _, x, h, hx => by cases h
  | .dk _, x, h, hx => by cases h
termination_by structural a => a
theorem flatBs_ok : ∀ {l : List A} {m : List D}, A.flatBs l = true → Ams Pi l m → ∀ x ∈ m, x.flat = true
  | [], m, h, hm, x, hx => by simp [Ams] at hm; subst hm; cases hx
  | a :: l, m, h, hm, x, hx => by
    obtain ⟨y, r, rfl, h1, h2⟩ := hm
    simp only [A.flatBs, Bool.and_eq_true] at h
    rcases List.mem_cons.mp hx with rfl | hx
    · exact flatB_ok h.1 h1
    · exact flatBs_ok h.2 h2 x hx
termination_by structural a => a
theorem flatBo_ok : ∀ {l : List A} {x : D}, A.flatBs l = true → Amo Pi l x → x.flat = true
  | [], x, h, hx => by cases hx
  | a :: l, x, h, hx => by
    simp only [A.flatBs, Bool.and_eq_true] at h
    rcases hx with hx | hx
    · exact flatB_ok h.1 hx
    · exact flatBo_ok h.2 hx
termination_by structural a => a
end
def AC.flatB (c : AC) : Bool := match c with
  | ⟨false, .lst l⟩ => A.flatBs l
  | ⟨false, .seq false _ _ a⟩ => a.flatB
  | ⟨false, .dk _⟩ => true
  | _ => false
theorem cflat_ok {c : AC} {x : Cell} (h : c.flatB = true) (hx : AmC Pi c x) : x.flat = true := by
  unfold AC.flatB at h
  split at h
  · rcases hx with ⟨m, rfl, n, e, hn⟩ | ⟨m, rfl, n, e, hn⟩
    · cases e; exact flats_iff.mpr (flatBs_ok h hn)
    · cases e
  · rcases hx with ⟨m, rfl, n, e, _, _, hn⟩ | ⟨m, rfl, n, e, hn⟩
    · cases e; exact flats_iff.mpr fun y hy => flatB_ok h (hn y hy)
    · cases e
  · rcases hx with ⟨m, rfl, n, e, hn⟩ | ⟨m, rfl, n, e, hn⟩
    · cases e
      refine flats_iff.mpr fun y hy => ?_
      obtain ⟨i, _, rfl⟩ := List.mem_map.mp hy
      rfl
    · cases e
  · cases h
def aFlatT (k : Nat) (T : ASt) : Bool := (T.take k).all AC.flatB
theorem aFlatT_ok : ∀ {k : Nat} {T : ASt} {T' : Store}, aFlatT k T = true → AmS Pi T T' → flatT k T' = true
  | 0, T, T', h, hT => by simp [flatT]
  | k + 1, [], T', h, hT => by simp [All2] at hT; subst hT; rfl
  | k + 1, c :: T, T', h, hT => by
    obtain ⟨x, r, rfl, h1, h2⟩ := hT
    simp only [aFlatT, List.take_succ_cons, List.all_cons, Bool.and_eq_true] at h
    simp only [flatT, List.take_succ_cons, List.all_cons, Bool.and_eq_true]
    exact ⟨cflat_ok h.1 h1, aFlatT_ok (T := T) h.2 h2⟩
def aOut (own : Bool) (refs snaps : List Nat) (S : ASt) (p : AV × ASt) : Option (AV × ASt) := match p.1 with
  | .d a => if snaps.isEmpty || (a.flatB && aFlatT refs.length p.2) then some (.d a, aPut S refs p.2) else none
  | .ref j => match refs[j]? with
    | some n => if snaps.isEmpty || aFlatT refs.length p.2 then some (.ref n, aPut S refs p.2) else none
    | none => match p.2[j]? with
      | some c => (match own with
        | true => if snaps.isEmpty || (c.flatB && aFlatT refs.length p.2) then some (.ref S.length, aPut S refs p.2 ++ [c]) else none
        | false => if snaps.isEmpty || (c.a.flatB && aFlatT refs.length p.2) then some (.d c.a, aPut S refs p.2) else none)
      | none => none
theorem aOut_ok {own : Bool} {refs snaps : List Nat} {S : ASt} {p q : AV × ASt} {S' T' : Store} {v : Val} (h : aOut own refs snaps S p = some q) (hv : AmV Pi p.1 v) (hS : AmS Pi S S') (hT : AmS Pi p.2 T') : OkV Pi q (outC own refs snaps S' T' v) := by
  have hp : AmS Pi (aPut S refs p.2) (putBack S' refs T') := aPut_ok hS hT
  unfold aOut at h
  split at h
  · rename_i a e
    rw [e] at hv
    obtain ⟨x, rfl, hx⟩ := hv
    split at h
    · rename_i hc
      cases h
      simp only [Bool.or_eq_true, Bool.and_eq_true] at hc
      have : outC own refs snaps S' T' (.d x) = .ok (.d x) (putBack S' refs T') := by
        rcases hc with hc | hc
        · have : snaps = [] := by simpa using hc
          subst this
          simp only [outC, frzS, ite_self]
        · simp only [outC, flatB_ok hc.1 hx, aFlatT_ok hc.2 hT, Bool.and_true, if_true]
      rw [this]
      exact okd hx hp
    · cases h
  · rename_i j e
    rw [e] at hv
    cases hv
    split at h
    · rename_i n en
      split at h
      · rename_i hc
        cases h
        simp only [Bool.or_eq_true] at hc
        have : outC own refs snaps S' T' (.ref j) = .ok (.ref n) (putBack S' refs T') := by
          rcases hc with hc | hc
          · have : snaps = [] := by simpa using hc
            subst this
            simp only [outC, en, frzS, ite_self]
          · simp only [outC, en, aFlatT_ok hc hT, if_true]
        rw [this]
        exact ⟨_, _, rfl, rfl, hp⟩
      · cases h
    · rename_i en
      split at h
      · rename_i c ec
        obtain ⟨c', h1, h2⟩ := hT.get ec
        split at h
        · split at h
          · rename_i hc
            cases h
            simp only [Bool.or_eq_true, Bool.and_eq_true] at hc
            have : outC true refs snaps S' T' (.ref j) = .ok (.ref S'.length) (putBack S' refs T' ++ [c']) := by
              rcases hc with hc | hc
              · have : snaps = [] := by simpa using hc
                subst this
                simp only [outC, en, h1, frzS, ite_self]
              · simp only [outC, en, h1, cflat_ok hc.1 h2, aFlatT_ok hc.2 hT, Bool.and_true, if_true]
            rw [this, ← hS.len]
            exact ⟨_, _, rfl, rfl, hp.app ⟨c', [], rfl, h2, rfl⟩⟩
          · cases h
        · split at h
          · rename_i hc
            cases h
            simp only [Bool.or_eq_true, Bool.and_eq_true] at hc
            obtain ⟨y, k1, k2⟩ := aRd_ok (Pi := Pi) (v := .ref j) (x := .ref j) (a := c.a) (by simp only [aRd, ec, Option.map_some]) rfl hT
            have : outC false refs snaps S' T' (.ref j) = .ok (.d y) (putBack S' refs T') := by
              rcases hc with hc | hc
              · have : snaps = [] := by simpa using hc
                subst this
                simp only [outC, en, h1, k1, frzS, ite_self]
              · simp only [outC, en, h1, k1, flatB_ok hc.1 k2, aFlatT_ok hc.2 hT, Bool.and_true, if_true]
            rw [this]
            exact okd k2 hp
          · cases h
      · cases h
def splitP (spl : Spl) (s : ASig) : List ASig := spl.foldl (fun l i => l.flatMap fun s => splitAt s i) [s]
theorem splitP_ok {spl : Spl} {s : ASig} {σ : Sig} (h : AmG Pi s σ) : ∃ t ∈ splitP spl s, AmG Pi t σ := by
  unfold splitP
  have : ∀ (spl : Spl) (l : List ASig), (∃ t ∈ l, AmG Pi t σ) → ∃ t ∈ spl.foldl (fun l i => l.flatMap fun s => splitAt s i) l, AmG Pi t σ := by
    intro spl
    induction spl with
    | nil => intro l h; exact h
    | cons i spl ih =>
      rintro l ⟨t, ht, hs⟩
      obtain ⟨u, hu, hs⟩ := splitAt_ok i hs
      exact ih _ ⟨u, List.mem_flatMap.mpr ⟨t, ht, hu⟩, hs⟩
  exact this spl [s] ⟨s, by simp, h⟩
def aBody (C : ACx) (F : Fn) (spl : Spl) (vs : List AV) (S : ASt) : Option (AV × ASt) := match aPrep S F.byref vs [] [] with
  | none => none
  | some (us, refs, snaps) => if (refs.all fun n => !snaps.contains n) = true then (match aCells S refs with
    | none => none
    | some T0 => match joinARs ((splitP spl (us.map some ++ List.replicate (F.ns - F.np) none)).map fun s => aexs C spl F.body s T0) with
      | none => none
      | some r => match r.bk, r.ct with
        | none, none => (match joinOA joinP r.rt (r.nx.map fun q => (.d .non, q.2)) with
          | some (some p) => aOut F.own refs snaps S p
          | _ => none)
        | _, _ => none) else none
theorem sig_ok : ∀ {us : List AV} {ys : List Val} (n : Nat), All2 (AmV Pi) us ys → AmG Pi (us.map some ++ List.replicate n none) (ys.map some ++ List.replicate n none)
  | [], ys, n, h => by
    simp [All2] at h
    subst h
    simp only [List.map_nil, List.nil_append]
    induction n with
    | zero => rfl
    | succ n ih => exact ⟨none, _, rfl, trivial, ih⟩
  | u :: us, ys, n, h => by
    obtain ⟨y, r, rfl, h1, h2⟩ := h
    exact ⟨some y, _, rfl, ⟨y, rfl, h1⟩, sig_ok n h2⟩
theorem aBody_ok {K : Cx} {C : ACx} (hC : CxOk Pi K C) {F : Fn} {spl : Spl} {vs : List AV} {xs : List Val} {S : ASt} {T : Store} {p : AV × ASt} (h : aBody C F spl vs S = some p) (hv : All2 (AmV Pi) vs xs) (hS : AmS Pi S T) : OkV Pi p (bodyC K F xs T) := by
  unfold aBody at h
  split at h
  · cases h
  · rename_i us refs snaps e1
    split at h
    · rename_i e2
      split at h
      · cases h
      · rename_i T0 e3
        split at h
        · cases h
        · rename_i r e4
          split at h
          · rename_i e5 e6
            split at h
            · rename_i q e7
              obtain ⟨ys, k1, k2⟩ := aPrep_ok hS e1 hv
              obtain ⟨T0', k3, k4⟩ := aCells_ok hS e3
              obtain ⟨s1, m1, m2⟩ := splitP_ok (spl := spl) (sig_ok (F.ns - F.np) k2)
              obtain ⟨a, e8, h5⟩ := joinARs_ok (Pi := Pi) e4 (List.mem_map.mpr ⟨s1, m1, rfl⟩)
              obtain ⟨f, T1, k5, k6⟩ := h5 (aexs_ok hC e8 m2 k4)
              unfold bodyC
              simp only [k1, e2, if_true, k3, k5]
              cases f with
              | nx σ =>
                obtain ⟨st, e9, _, k7⟩ := k6
                obtain ⟨q', e10, k8, k9⟩ := (joinOA_R (Pi := Pi) e7 (v := .d .non) (S := T1)).2 ⟨(.d .non, st.2), by rw [e9]; rfl, ⟨.non, rfl, rfl⟩, k7⟩
                cases e10
                exact aOut_ok h k8 hS k9
              | rt v =>
                obtain ⟨q', e10, k8, k9⟩ := (joinOA_R (Pi := Pi) e7).1 k6
                cases e10
                exact aOut_ok h k8 hS k9
              | bk σ => obtain ⟨st, e9, _⟩ := k6; rw [e5] at e9; cases e9
              | ct σ => obtain ⟨st, e9, _⟩ := k6; rw [e6] at e9; cases e9
            · cases h
          · cases h
    · cases h
/-- what a law's writer tells: where to split, what a def gives at most, what is proved of a def -/
structure Hint where
  spl : Nat → Spl := fun _ => []
  wid : Nat → List AV → Option A := fun _ _ => none
  con : Nat → List AV → ASt → Option (AV × ASt) := fun _ _ _ => none
  hx : Nat → Exp → ASig → ASt → Option (AV × ASt) := fun _ _ _ _ => none
  ht : Nat → Tst → ASig → ASt → Option (A × ASt) := fun _ _ _ _ => none
def widen (w : Option A) (p : AV × ASt) : AV × ASt := match w, p.1 with
  | some b, .d a => if A.sub A.fuel a b then (.d b, p.2) else p
  | _, _ => p
theorem widen_ok {w : Option A} {p : AV × ASt} {r : R Val} (h : OkV Pi p r) : OkV Pi (widen w p) r := by
  unfold widen
  split
  · rename_i b a e
    split
    · rename_i hs
      obtain ⟨v, S, rfl, h1, h2⟩ := h
      rw [e] at h1
      obtain ⟨x, rfl, hx⟩ := h1
      exact ⟨_, _, rfl, ⟨x, rfl, sub_ok _ hs hx⟩, h2⟩
    · exact h
  · exact h
def aCall (P : Pg) (h : Hint) : Nat → Nat → List AV → ASt → Option (AV × ASt)
  | 0, f, vs, S => h.con f vs S
  | n + 1, f, vs, S => match h.con f vs S with
    | some p => some p
    | none => match P.fn f with
      | none => none
      | some F => if vs.length = F.np then (aBody ⟨aCall P h n, P.glo, P.gdc, h.hx f, h.ht f⟩ F (h.spl f) vs S).map (widen (h.wid f vs)) else none
/-- what is told of defs holds, from so many calls deep on -/
structure ConOk (Pi : Par) (P : Pg) (h : Hint) (B : Nat) : Prop where
  con : ∀ {f : Nat} {vs : List AV} {xs : List Val} {S : ASt} {T : Store} {p : AV × ASt} {N : Nat}, h.con f vs S = some p → All2 (AmV Pi) vs xs → AmS Pi S T → B ≤ N → OkV Pi p (callP P N f xs T)
  hx : ∀ {f : Nat} {e : Exp} {s : ASig} {S : ASt} {p : AV × ASt} {σ : Sig} {T : Store} {N : Nat}, h.hx f e s S = some p → AmG Pi s σ → AmS Pi S T → B ≤ N → OkV Pi p (ev ⟨callP P N, P.glo, P.gdc, P.wf⟩ e σ T) := by intro _ _ _ _ _ _ _ _ h; cases h
  ht : ∀ {f : Nat} {e : Tst} {s : ASig} {S : ASt} {p : A × ASt} {σ : Sig} {T : Store} {N : Nat}, h.ht f e s S = some p → AmG Pi s σ → AmS Pi S T → B ≤ N → OkB Pi p (evT ⟨callP P N, P.glo, P.gdc, P.wf⟩ e σ T) := by intro _ _ _ _ _ _ _ _ h; cases h
theorem aCall_ok {P : Pg} {h : Hint} {B : Nat} (hc : ConOk Pi P h B) : ∀ {n f : Nat} {vs : List AV} {xs : List Val} {S : ASt} {T : Store} {p : AV × ASt} {N : Nat}, aCall P h n f vs S = some p → All2 (AmV Pi) vs xs → AmS Pi S T → n + B ≤ N → OkV Pi p (callP P N f xs T)
  | 0, f, vs, xs, S, T, p, N, e, hv, hS, hN => hc.con e hv hS (by omega)
  | n + 1, f, vs, xs, S, T, p, N, e, hv, hS, hN => by
    simp only [aCall] at e
    split at e
    · rename_i q eq
      cases e
      exact hc.con eq hv hS (by omega)
    · split at e
      · cases e
      · rename_i F eF
        split at e
        · rename_i hl
          simp only [Option.map_eq_some_iff] at e
          obtain ⟨q, e1, rfl⟩ := e
          obtain ⟨N, rfl⟩ : ∃ M, N = M + 1 := ⟨N - 1, by omega⟩
          have : callP P (N + 1) f xs T = bodyC ⟨callP P N, P.glo, P.gdc, P.wf⟩ F xs T := by
            show (match P.fn f with
              | none => R.no
              | some F => if xs.length = F.np then bodyC ⟨callP P N, P.glo, P.gdc, P.wf⟩ F xs T else .no) = _
            rw [eF]
            simp only
            rw [if_pos (by rw [← hv.len]; exact hl)]
          rw [this]
          refine widen_ok (aBody_ok ⟨fun {f vs us S T p} e hv hS => aCall_ok hc e hv hS (by omega), rfl, rfl, fun e hs hS => hc.hx e hs hS (by omega), fun e hs hS => hc.ht e hs hS (by omega)⟩ e1 hv hS)
        · cases e
/-! ### what is told of defs, one behind another -/
/-- a def, called so: its arguments (none: the deck), how many draws it takes at most, what it gives -/
structure Smm where
  f : Nat
  args : List (Option A)
  need : Nat
  ret : A
/-- the arguments fit; where the deck lies -/
def fitA (S : ASt) (need : Nat) : List (Option A) → List AV → Option (Option (Nat × Nat)) 
  | [], [] => some none
  | some a :: l, .d b :: vs => if A.sub A.fuel b a then fitA S need l vs else none
  | none :: l, .ref n :: vs => (match S[n]? with
    | some ⟨false, .dk j⟩ => if need ≤ j then (match fitA S need l vs with
      | some none => some (some (n, j))
      | _ => none) else none
    | _ => none)
  | _, _ => none
def smCon (tab : List Smm) (f : Nat) (vs : List AV) (S : ASt) : Option (AV × ASt) := match tab with
  | [] => none
  | e :: l => if e.f = f then (match fitA S e.need e.args vs with
      | some none => some (.d e.ret, S)
      | some (some (n, j)) => some (.d e.ret, S.set n ⟨false, .dk (j - e.need)⟩)
      | none => smCon l f vs S) else smCon l f vs S
/-- the arguments as kinds, the deck in cell 0 -/
def Smm.vs (e : Smm) : List AV := e.args.map fun o => match o with
  | some a => .d a
  | none => .ref 0
def Smm.hasDk (e : Smm) : Bool := e.args.any fun o => o.isNone
def Smm.st (e : Smm) : ASt := if e.hasDk then [⟨false, .dk e.need⟩] else []
def Smm.fits (e : Smm) (o : Option (AV × ASt)) : Bool := match o with
  | some (.d a, S) => A.sub A.fuel a e.ret && (match S with
    | [] => !e.hasDk
    | [⟨false, .dk _⟩] => e.hasDk
    | _ => false)
  | _ => false
def bsOk : List (Option A) → List Bool → Bool
  | [], _ => true
  | some _ :: l, bs => bsOk l bs.tail
  | none :: l, bs => bs.headD false && bsOk l bs.tail
/-- data where kinds are told, cell n where the deck is -/
def Sh (Pi : Par) (n : Nat) : List (Option A) → List Val → Prop
  | [], xs => xs = []
  | some a :: l, xs => ∃ y r, xs = .d y :: r ∧ Am Pi a y ∧ Sh Pi n l r
  | none :: l, xs => ∃ r, xs = .ref n :: r ∧ Sh Pi n l r
def z0 : Val → Val
  | .ref _ => .ref 0
  | v => v
theorem fitA_ok {S : ASt} {need : Nat} : ∀ {l : List (Option A)} {vs : List AV} {xs : List Val} {o : Option (Nat × Nat)}, fitA S need l vs = some o → All2 (AmV Pi) vs xs →
    match o with
    | none => (l.any fun o => o.isNone) = false ∧ ∀ n, Sh Pi n l xs
    | some (n, j) => (l.any fun o => o.isNone) = true ∧ S[n]? = some ⟨false, .dk j⟩ ∧ need ≤ j ∧ Sh Pi n l xs
  | [], [], xs, o, h, hv => by
    cases h
    simp [All2] at hv
    subst hv
    exact ⟨rfl, fun n => rfl⟩
  | [], _ :: _, xs, o, h, hv => by cases h
  | some a :: l, [], xs, o, h, hv => by cases h
  | none :: l, [], xs, o, h, hv => by cases h
  | some a :: l, .ref m :: vs, xs, o, h, hv => by cases h
  | none :: l, .d b :: vs, xs, o, h, hv => by cases h
  | some a :: l, .d b :: vs, xs, o, h, hv => by
    simp only [fitA] at h
    split at h
    · rename_i hs
      obtain ⟨_, r, rfl, ⟨y, rfl, hy⟩, h2⟩ := hv
      have ih := fitA_ok h h2
      cases o with
      | none => exact ⟨by simpa using ih.1, fun n => ⟨y, r, rfl, sub_ok _ hs hy, ih.2 n⟩⟩
      | some p => exact ⟨by simpa using ih.1, ih.2.1, ih.2.2.1, y, r, rfl, sub_ok _ hs hy, ih.2.2.2⟩
    · cases h
  | none :: l, .ref m :: vs, xs, o, h, hv => by
    simp only [fitA] at h
    split at h
    · rename_i j e
      split at h
      · rename_i hn
        split at h
        · rename_i e2
          cases h
          obtain ⟨_, r, rfl, e3, h2⟩ := hv
          cases e3
          have ih := fitA_ok e2 h2
          exact ⟨rfl, e, hn, r, rfl, ih.2 m⟩
        · cases h
      · cases h
    · cases h
theorem prep_dk {T : Store} {n : Nat} : ∀ {l : List (Option A)} {xs : List Val} {bs : List Bool} {refs : List Nat}, (refs = [] ∨ refs = [n]) → Sh Pi n l xs → bsOk l bs = true → prep T bs xs refs [] = some (xs.map z0, if (l.any fun o => o.isNone) = true then [n] else refs, [])
  | [], xs, bs, refs, hr, hs, hb => by
    simp [Sh] at hs
    subst hs
    cases bs <;> simp [prep]
  | some a :: l, xs, bs, refs, hr, hs, hb => by
    obtain ⟨y, r, rfl, _, h2⟩ := hs
    have ih := prep_dk (T := T) (bs := bs.tail) hr h2 hb
    simp only [prep, ih, List.map_cons, z0, List.any_cons, Option.isNone_some, Bool.false_or]
  | none :: l, xs, bs, refs, hr, hs, hb => by
    obtain ⟨r, rfl, h2⟩ := hs
    simp only [bsOk, Bool.and_eq_true] at hb
    rcases hr with rfl | rfl
    · have ih := prep_dk (T := T) (bs := bs.tail) (refs := [n]) (.inr rfl) h2 hb.2
      have : ([] : List Nat).idxOf? n = none := rfl
      simp only [prep, hb.1, this, List.nil_append, ih, List.map_cons, z0, List.any_cons, Option.isNone_none, Bool.true_or, if_true, ite_self, List.length_nil]
    · have ih := prep_dk (T := T) (bs := bs.tail) (refs := [n]) (.inr rfl) h2 hb.2
      have : ([n] : List Nat).idxOf? n = some 0 := by simp [List.idxOf?, List.findIdx?_cons]
      simp only [prep, hb.1, this, ih, List.map_cons, z0, List.any_cons, Option.isNone_none, Bool.true_or, if_true, ite_self]
theorem Sh_z0 {n : Nat} : ∀ {l : List (Option A)} {xs : List Val}, Sh Pi n l xs → Sh Pi 0 l (xs.map z0)
  | [], xs, h => by simp [Sh] at h; subst h; rfl
  | some a :: l, xs, h => by
    obtain ⟨y, r, rfl, h1, h2⟩ := h
    exact ⟨y, _, rfl, h1, Sh_z0 h2⟩
  | none :: l, xs, h => by
    obtain ⟨r, rfl, h2⟩ := h
    exact ⟨_, rfl, Sh_z0 h2⟩
theorem z0_z0 (xs : List Val) : (xs.map z0).map z0 = xs.map z0 := by
  rw [List.map_map]
  congr 1
  funext v
  cases v <;> rfl
theorem cells1 {T : Store} {n : Nat} {c : Cell} (h : T[n]? = some c) : cellsAt T [n] = some [c] := by simp [cellsAt, h]
/-- a def's call with the deck alone -/
theorem body_dk {K : Cx} {F : Fn} {l : List (Option A)} {xs : List Val} {T : Store} {n : Nat} {c c1 : Cell} {x : D} (hs : Sh Pi n l xs) (hb : bsOk l F.byref = true) (hd : (l.any fun o => o.isNone) = true) (hc : T[n]? = some c) (h : bodyC K F (xs.map z0) [c] = .ok (.d x) [c1]) : bodyC K F xs T = .ok (.d x) (T.set n c1) := by
  have p1 := prep_dk (T := T) (refs := []) (.inl rfl) hs hb
  have p2 := prep_dk (T := [c]) (refs := []) (.inl rfl) (Sh_z0 hs) hb
  rw [if_pos hd] at p1 p2
  rw [z0_z0] at p2
  have hcc : ([c] : Store)[0]? = some c := rfl
  unfold bodyC at h ⊢
  rw [p2] at h
  rw [p1]
  simp only [List.all_cons, List.all_nil, List.contains_nil, Bool.not_false, Bool.and_self, if_true, cells1 hc, cells1 hcc] at h ⊢
  cases e : exs K F.body ((xs.map z0).map some ++ List.replicate (F.ns - F.np) none) [c] with
  | no => rw [e] at h; cases h
  | exc => rw [e] at h; cases h
  | ok f T1 =>
    rw [e] at h
    have key : ∀ v, outC F.own [0] [] [c] T1 v = .ok (.d x) [c1] → outC F.own [n] [] T T1 v = .ok (.d x) (T.set n c1) := by
      intro v hv
      have pb : ∀ {k : Nat} {S : Store}, S[k]? = some c → putBack [c] [0] T1 = [c1] → putBack S [k] T1 = S.set k c1 := by
        intro k S hk hp
        cases T1 with
        | nil =>
          simp only [putBack] at hp ⊢
          cases hp
          exact (set_same hk).symm
        | cons d T1 =>
          simp only [putBack, List.set_cons_zero] at hp ⊢
          cases hp
          rfl
      cases v with
      | d y =>
        simp only [outC, frzS, ite_self] at hv ⊢
        cases hp : putBack [c] [0] T1 with
        | nil => rw [hp] at hv; cases hv
        | cons a b =>
          rw [hp] at hv
          cases hv
          rw [pb hc hp]
      | ref j =>
        cases j with
        | zero => simp only [outC, frzS, ite_self, List.getElem?_cons_zero] at hv; cases hv
        | succ j =>
          simp only [outC, frzS, ite_self, List.getElem?_cons_succ, List.getElem?_nil] at hv ⊢
          cases hT : T1[j + 1]? with
          | none => rw [hT] at hv; cases hv
          | some d =>
            rw [hT] at hv
            simp only at hv ⊢
            cases ho : F.own with
            | true => rw [ho] at hv; simp only at hv; cases hv
            | false =>
              rw [ho] at hv
              simp only at hv ⊢
              cases hr : rdv T1 (.ref (j + 1)) with
              | none => rw [hr] at hv; cases hv
              | some y =>
                rw [hr] at hv
                simp only at hv ⊢
                cases hp : putBack [c] [0] T1 with
                | nil => rw [hp] at hv; cases hv
                | cons a b =>
                  rw [hp] at hv
                  cases hv
                  rw [pb hc hp]
    cases f with
    | nx σ => exact key _ h
    | rt v => exact key v h
    | bk σ => cases h
    | ct σ => cases h
theorem body_d {K : Cx} {F : Fn} {l : List (Option A)} {xs : List Val} {T : Store} {x : D} (hs : Sh Pi 0 l xs) (hb : bsOk l F.byref = true) (hd : (l.any fun o => o.isNone) = false) (h : bodyC K F (xs.map z0) [] = .ok (.d x) []) : bodyC K F xs T = .ok (.d x) T := by
  have p1 := prep_dk (T := T) (refs := []) (.inl rfl) hs hb
  have p2 := prep_dk (T := []) (refs := []) (.inl rfl) (Sh_z0 hs) hb
  rw [if_neg (by simp [hd])] at p1 p2
  rw [z0_z0] at p2
  unfold bodyC at h ⊢
  rw [p2] at h
  rw [p1]
  simp only [List.all_nil, if_true, cellsAt] at h ⊢
  cases e : exs K F.body ((xs.map z0).map some ++ List.replicate (F.ns - F.np) none) [] with
  | no => rw [e] at h; cases h
  | exc => rw [e] at h; cases h
  | ok f T1 =>
    rw [e] at h
    have pb : ∀ S : Store, putBack S [] T1 = S := fun S => by cases T1 <;> rfl
    have key : ∀ v, outC F.own [] [] [] T1 v = .ok (.d x) [] → outC F.own [] [] T T1 v = .ok (.d x) T := by
      intro v hv
      cases v with
      | d y =>
        simp only [outC, frzS, ite_self, pb] at hv ⊢
        cases hv; rfl
      | ref j =>
        simp only [outC, frzS, ite_self, List.getElem?_nil, pb] at hv ⊢
        cases hT : T1[j]? with
        | none => rw [hT] at hv; cases hv
        | some d =>
          rw [hT] at hv
          simp only at hv ⊢
          cases ho : F.own with
          | true => rw [ho] at hv; simp only at hv; cases hv
          | false =>
            rw [ho] at hv
            simp only at hv ⊢
            cases hr : rdv T1 (.ref j) with
            | none => rw [hr] at hv; cases hv
            | some y =>
              rw [hr] at hv
              simp only at hv ⊢
              cases hv; rfl
    cases f with
    | nx σ => exact key _ h
    | rt v => exact key v h
    | bk σ => cases h
    | ct σ => cases h
/-! ### kinds that know of no deck -/
mutual
def A.noDk : A → Bool
  | .tup l => A.noDks l
  | .lst l => A.noDks l
  | .seq _ _ _ a => a.noDk
  | .dct l => A.noDkk l
  | .or l => A.noDks l
  | .dk _ => false
  | _ => true
termination_by structural a => a
def A.noDks : List A → Bool
  | [] => true
  | a :: l => a.noDk && A.noDks l
termination_by structural a => a
def A.noDkk : List (D × A) → Bool
  | [] => true
  | (_, a) :: l => a.noDk && A.noDkk l
termination_by structural a => a
end
mutual
theorem noDk_ok {u : Nat → D → Prop} {p q : Nat} : ∀ {a : A} {x : D}, a.noDk = true → Am ⟨p, u⟩ a x → Am ⟨q, u⟩ a x
  | .int _ _, x, h, hx => hx
  | .bl _, x, h, hx => hx
  | .non, x, h, hx => hx
  | .txs _, x, h, hx => hx
  | .txL _, x, h, hx => hx
  | .tup l, x, h, hx => by obtain ⟨m, e, hm⟩ := hx; exact ⟨m, e, noDks_ok h hm⟩
  | .lst l, x, h, hx => by obtain ⟨m, e, hm⟩ := hx; exact ⟨m, e, noDks_ok h hm⟩
  | .seq t lo hi a, x, h, hx => by obtain ⟨m, e, h1, h2, hm⟩ := hx; exact ⟨m, e, h1, h2, fun y hy => noDk_ok (a := a) h (hm y hy)⟩
  | .dct l, x, h, hx => by obtain ⟨m, e, hm⟩ := hx; exact ⟨m, e, noDkk_ok h hm⟩
  | .any _, x, h, hx => hx
  | .or l, x, h, hx => noDko_ok h hx
  | .pd _, x, h, hx => hx
  | .dk _, x, h, hx => by cases h
termination_by structural a => a
theorem noDks_ok {u : Nat → D → Prop} {p q : Nat} : ∀ {l : List A} {m : List D}, A.noDks l = true → Ams ⟨p, u⟩ l m → Ams ⟨q, u⟩ l m
  | [], m, h, hm => hm
  | a :: l, m, h, hm => by
    obtain ⟨x, r, e, h1, h2⟩ := hm
    simp only [A.noDks, Bool.and_eq_true] at h
    exact ⟨x, r, e, noDk_ok h.1 h1, noDks_ok h.2 h2⟩
termination_by structural a => a
theorem noDkk_ok {u : Nat → D → Prop} {p q : Nat} : ∀ {l : List (D × A)} {m : List (D × D)}, A.noDkk l = true → Amk ⟨p, u⟩ l m → Amk ⟨q, u⟩ l m
  | [], m, h, hm => hm
  | (k, a) :: l, m, h, hm => by
    obtain ⟨x, r, e, h0, h1, h2⟩ := hm
    simp only [A.noDkk, Bool.and_eq_true] at h
    exact ⟨x, r, e, h0, noDk_ok h.1 h1, noDkk_ok h.2 h2⟩
termination_by structural a => a
theorem noDko_ok {u : Nat → D → Prop} {p q : Nat} : ∀ {l : List A} {x : D}, A.noDks l = true → Amo ⟨p, u⟩ l x → Amo ⟨q, u⟩ l x
  | [], x, h, hx => hx
  | a :: l, x, h, hx => by
    simp only [A.noDks, Bool.and_eq_true] at h
    exact hx.elim (fun hx => .inl (noDk_ok h.1 hx)) fun hx => .inr (noDko_ok h.2 hx)
termination_by structural a => a
end
def Smm.noDk (e : Smm) : Bool := e.ret.noDk && e.args.all fun o => match o with
  | some a => a.noDk
  | none => true
theorem Sh_dl {u : Nat → D → Prop} {p q n : Nat} : ∀ {l : List (Option A)} {xs : List Val}, (l.all fun o => match o with
    | some a => a.noDk
    | none => true) = true → Sh ⟨p, u⟩ n l xs → Sh ⟨q, u⟩ n l xs
  | [], xs, h, hs => hs
  | some a :: l, xs, h, hs => by
    simp only [List.all_cons, Bool.and_eq_true] at h
    obtain ⟨y, r, e, h1, h2⟩ := hs
    exact ⟨y, r, e, noDk_ok h.1 h1, Sh_dl h.2 h2⟩
  | none :: l, xs, h, hs => by
    simp only [List.all_cons, Bool.and_eq_true] at h
    obtain ⟨r, e, h2⟩ := hs
    exact ⟨r, e, Sh_dl h.2 h2⟩
theorem Sh_vs {Pi : Par} : ∀ {l : List (Option A)} {xs : List Val}, Sh Pi 0 l xs → All2 (AmV Pi) (l.map fun o => match o with
    | some a => AV.d a
    | none => .ref 0) xs
  | [], xs, h => h
  | some a :: l, xs, h => by
    obtain ⟨y, r, e, h1, h2⟩ := h
    exact ⟨.d y, r, e, ⟨y, rfl, h1⟩, Sh_vs h2⟩
  | none :: l, xs, h => by
    obtain ⟨r, e, h2⟩ := h
    exact ⟨.ref 0, r, e, rfl, Sh_vs h2⟩
/-- what is told of e holds, from B calls on, however long the deck is -/
def SmmOk (u : Nat → D → Prop) (P : Pg) (B : Nat) (e : Smm) : Prop := ∀ {dl N n : Nat} {xs : List Val} {T : Store}, B ≤ N → Sh ⟨dl, u⟩ n e.args xs →
  (e.hasDk = false → ∃ x, callP P N e.f xs T = .ok (.d x) T ∧ Am ⟨dl, u⟩ e.ret x) ∧
  (e.hasDk = true → ∀ {l : List Int}, T[n]? = some (.lst (l.map .int)) → e.need ≤ l.length → (∀ i ∈ l, Dr i) → ∃ (x : D) (l1 : List Int), callP P N e.f xs T = .ok (.d x) (T.set n (.lst (l1.map .int))) ∧ Am ⟨dl, u⟩ e.ret x ∧ l.length - e.need ≤ l1.length ∧ ∀ i ∈ l1, Dr i)
/-- the check of one -/
def Smm.check (P : Pg) (h : Hint) (n : Nat) (e : Smm) : Bool := e.noDk && (match P.fn e.f with
  | some F => decide (e.args.length = F.np) && bsOk e.args F.byref && e.fits (aBody ⟨aCall P h n, P.glo, P.gdc, h.hx e.f, h.ht e.f⟩ F (h.spl e.f) e.vs e.st)
  | none => false)
theorem smm_ok {u : Nat → D → Prop} {P : Pg} {h : Hint} {n B : Nat} {e : Smm} (hc : ∀ dl, ConOk ⟨dl, u⟩ P h B) (hk : e.check P h n = true) : SmmOk u P (B + n + 1) e := by
  intro dl N m xs T hN hs
  simp only [Smm.check, Bool.and_eq_true] at hk
  obtain ⟨hnd, hk⟩ := hk
  split at hk
  · rename_i F eF
    simp only [Bool.and_eq_true, decide_eq_true_eq] at hk
    obtain ⟨⟨hl, hbs⟩, hfit⟩ := hk
    simp only [Smm.noDk, Bool.and_eq_true] at hnd
    obtain ⟨N, rfl⟩ : ∃ M, N = M + 1 := ⟨N - 1, by omega⟩
    have len : ∀ {l : List (Option A)} {xs : List Val}, Sh ⟨dl, u⟩ m l xs → xs.length = l.length := by
      intro l
      induction l with
      | nil => intro xs h; simp [Sh] at h; simp [h]
      | cons o l ih =>
        intro xs h
        cases o with
        | none => obtain ⟨r, rfl, h2⟩ := h; simp [ih h2]
        | some a => obtain ⟨y, r, rfl, _, h2⟩ := h; simp [ih h2]
    have hcall : ∀ T, callP P (N + 1) e.f xs T = bodyC ⟨callP P N, P.glo, P.gdc, P.wf⟩ F xs T := by
      intro T
      show (match P.fn e.f with
        | none => R.no
        | some F => if xs.length = F.np then bodyC ⟨callP P N, P.glo, P.gdc, P.wf⟩ F xs T else .no) = _
      rw [eF]
      simp only
      rw [if_pos (by rw [len hs]; exact hl)]
    have cx : ∀ dl, CxOk ⟨dl, u⟩ ⟨callP P N, P.glo, P.gdc, P.wf⟩ ⟨aCall P h n, P.glo, P.gdc, h.hx e.f, h.ht e.f⟩ := fun dl => ⟨fun e hv hS => aCall_ok (hc dl) e hv hS (by omega), rfl, rfl, fun e hs hS => (hc dl).hx e hs hS (by omega), fun e hs hS => (hc dl).ht e hs hS (by omega)⟩
    unfold Smm.fits at hfit
    split at hfit
    · rename_i a S eo
      simp only [Bool.and_eq_true] at hfit
      obtain ⟨hsub, hS⟩ := hfit
      refine ⟨fun hd => ?_, fun hd => ?_⟩
      · have est : e.st = [] := by simp [Smm.st, hd]
        rw [est] at eo
        obtain ⟨v, T1, e1, hv, hT1⟩ := aBody_ok (cx dl) eo (Sh_vs (Sh_z0 hs)) (show AmS ⟨dl, u⟩ [] [] from rfl)
        obtain ⟨x, rfl, hx⟩ := hv
        have hT0 : T1 = [] := by
          split at hS
          · exact hT1
          · rw [hd] at hS; cases hS
          · cases hS
        subst hT0
        have hs0 : Sh ⟨dl, u⟩ 0 e.args xs := by
          have : ∀ {l : List (Option A)} {xs : List Val}, (l.any fun o => o.isNone) = false → Sh ⟨dl, u⟩ m l xs → Sh ⟨dl, u⟩ 0 l xs := by
            intro l
            induction l with
            | nil => intro xs _ h; exact h
            | cons o l ih =>
              intro xs hn h
              cases o with
              | none => simp at hn
              | some a => obtain ⟨y, r, e, h1, h2⟩ := h; exact ⟨y, r, e, h1, ih (by simpa using hn) h2⟩
          exact this hd hs
        refine ⟨x, ?_, sub_ok _ hsub hx⟩
        rw [hcall]
        exact body_d hs0 hbs hd e1
      · intro l hT hlen hdr
        have est : e.st = [⟨false, .dk e.need⟩] := by simp [Smm.st, hd]
        rw [est] at eo
        have hcell : AmS ⟨l.length - e.need, u⟩ [⟨false, .dk e.need⟩] [.lst (l.map .int)] := ⟨_, [], rfl, .inl ⟨_, rfl, l, rfl, by simp only; omega, hdr⟩, rfl⟩
        obtain ⟨v, T1, e1, hv, hT1⟩ := aBody_ok (cx (l.length - e.need)) eo (Sh_vs (Sh_z0 (Sh_dl hnd.2 hs))) hcell
        obtain ⟨x, rfl, hx⟩ := hv
        have hT0 : ∃ l1 : List Int, T1 = [.lst (l1.map .int)] ∧ l.length - e.need ≤ l1.length ∧ ∀ i ∈ l1, Dr i := by
          split at hS
          · rw [hd] at hS; cases hS
          · obtain ⟨c, r, rfl, hc, hr⟩ := hT1
            simp [All2] at hr
            subst hr
            rcases hc with ⟨l', rfl, l1, e3, h1, h2⟩ | ⟨l', rfl, l1, e3, h1, h2⟩
            · cases e3
              exact ⟨l1, rfl, by simp only at h1; omega, h2⟩
            · cases e3
          · cases hS
        obtain ⟨l1, rfl, h1, h2⟩ := hT0
        refine ⟨x, l1, ?_, noDk_ok hnd.1 (sub_ok _ hsub hx), by omega, h2⟩
        rw [hcall]
        exact body_dk hs hbs hd hT e1
    · cases hfit
  · cases hk
/-- what is told of all of them is a word of calls -/
theorem smCon_ok {u : Nat → D → Prop} {P : Pg} {B : Nat} : ∀ {tab : List Smm}, (∀ e ∈ tab, SmmOk u P B e) → ∀ {dl f N : Nat} {vs : List AV} {xs : List Val} {S : ASt} {T : Store} {p : AV × ASt}, smCon tab f vs S = some p → All2 (AmV ⟨dl, u⟩) vs xs → AmS ⟨dl, u⟩ S T → B ≤ N → OkV ⟨dl, u⟩ p (callP P N f xs T)
  | [], ht, dl, f, N, vs, xs, S, T, p, h, hv, hS, hN => by cases h
  | e :: tab, ht, dl, f, N, vs, xs, S, T, p, h, hv, hS, hN => by
    have ih := fun h => smCon_ok (tab := tab) (fun e he => ht e (List.mem_cons_of_mem _ he)) (dl := dl) (f := f) (N := N) (p := p) h hv hS hN
    simp only [smCon] at h
    split at h
    · rename_i ef
      subst ef
      split at h
      · rename_i eo
        cases h
        obtain ⟨h1, h2⟩ := fitA_ok eo hv
        obtain ⟨x, h3, h4⟩ := (ht e (List.mem_cons_self ..) (T := T) hN (h2 0)).1 h1
        rw [h3]
        exact okd h4 hS
      · rename_i n j eo
        cases h
        obtain ⟨h1, h2, h3, h4⟩ := fitA_ok eo hv
        obtain ⟨c, k1, k2⟩ := hS.get h2
        have hc : ∃ l : List Int, c = .lst (l.map .int) ∧ j + dl ≤ l.length ∧ ∀ i ∈ l, Dr i := by
          rcases k2 with ⟨l', rfl, l1, e3, q1, q2⟩ | ⟨l', rfl, l1, e3, q1, q2⟩
          · cases e3; exact ⟨l1, rfl, q1, q2⟩
          · cases e3
        obtain ⟨l, rfl, q1, q2⟩ := hc
        obtain ⟨x, l1, r1, r2, r3, r4⟩ := (ht e (List.mem_cons_self ..) (dl := dl) (T := T) hN h4).2 h1 (l := l) k1 (by omega) q2
        rw [r1]
        exact ⟨_, _, rfl, ⟨x, rfl, r2⟩, hS.set n (show AmC ⟨dl, u⟩ ⟨false, .dk (j - e.need)⟩ _ from .inl ⟨_, rfl, l1, rfl, by simp only; omega, r4⟩)⟩
      · exact ih h
    · exact ih h
def addC (h : Hint) (c : Nat → List AV → ASt → Option (AV × ASt)) : Hint := { h with con := fun f vs S => match c f vs S with
  | some p => some p
  | none => h.con f vs S }
theorem addC_ok {Pi : Par} {P : Pg} {h : Hint} {c : Nat → List AV → ASt → Option (AV × ASt)} {B B1 : Nat} (hc : ConOk Pi P h B) (hB : B ≤ B1) (hd : ∀ {f : Nat} {vs : List AV} {xs : List Val} {S : ASt} {T : Store} {p : AV × ASt} {N : Nat}, c f vs S = some p → All2 (AmV Pi) vs xs → AmS Pi S T → B1 ≤ N → OkV Pi p (callP P N f xs T)) : ConOk Pi P (addC h c) B1 := by
  refine ⟨fun {f vs xs S T p N} e hv hS hN => ?_, fun e hs hS hN => hc.hx e hs hS (by omega), fun e hs hS hN => hc.ht e hs hS (by omega)⟩
  simp only [addC] at e
  split at e
  · rename_i q eq
    cases e
    exact hd eq hv hS hN
  · exact hc.con e hv hS (by omega)
/-- one def more is told -/
def addS (h : Hint) (e : Smm) : Hint := addC h (smCon [e])
theorem addS_ok {u : Nat → D → Prop} {P : Pg} {h : Hint} {B n : Nat} {e : Smm} (hc : ∀ dl, ConOk ⟨dl, u⟩ P h B) (hk : e.check P h n = true) : ∀ dl, ConOk ⟨dl, u⟩ P (addS h e) (B + n + 1) := fun dl =>
  addC_ok (hc dl) (by omega) fun e1 hv hS hN => smCon_ok (fun e2 he => by cases List.mem_singleton.mp he; exact smm_ok hc hk) e1 hv hS hN
/-- kind pd 0: the script -/
def scriptU (k : Nat) (x : D) : Prop := k = 0 ∧ ∃ ns : List Int, ns.length ≤ 63 ∧ x = .lst (ns.map .int)
def isTrue : Option (AV × ASt) → Bool
  | some (.d (.bl (some true)), _) => true
  | _ => false
theorem isTrue_ok {o : Option (AV × ASt)} (h : isTrue o = true) : ∃ S, o = some (.d (.bl (some true)), S) := by
  unfold isTrue at h
  split at h
  · exact ⟨_, rfl⟩
  · cases h
/-- the law's word, by kinds alone -/
theorem says_of {M : MX} {h : Hint} {B n f k : Nat} (hc : ConOk ⟨0, scriptU⟩ M.pg h B) (hk : n + B ≤ k) (e : isTrue (aCall M.pg h n f [.d (.pd 0)] []) = true) : Says M f k 63 := by
  intro ns hl
  obtain ⟨S, e⟩ := isTrue_ok e
  obtain ⟨v, T, h1, ⟨x, rfl, h2⟩, _⟩ := aCall_ok hc e (xs := [.d (.lst (ns.map .int))]) (T := []) ⟨_, [], rfl, ⟨_, rfl, rfl, ns, hl, rfl⟩, rfl⟩ rfl hk
  cases h2
  exact ⟨T, h1⟩
end
end Ev

end

section
set_option Elab.async false
set_option linter.all false
set_option maxRecDepth 100000
set_option maxHeartbeats 1000000
/-! the deck that every law draws from -/
namespace Ev
/-- its numbers, by names (so that nobody reckons with them) -/
structure Nums where
  m0 : Int
  m1 : Int
  m2 : Int
  m3 : Int
  m4 : Int
  m5 : Int
  m6 : Int
  m7 : Int
  c0 : Int
  c1 : Int
  c2 : Int
  c3 : Int
structure Nums.ok (G : Nums) : Prop where
  h0 : 0 < G.m0 ∧ G.m0 < 1073741824 ∧ G.m0 ≤ 2147483648
  h1 : -lim < G.m1 ∧ G.m1 < lim
  h2 : -lim < G.m2 ∧ G.m2 < lim
  h3 : 0 < G.m3 ∧ G.m3 ≤ 2147483648
  h4 : 0 < G.m4 ∧ G.m4 < lim
  h6 : 0 < G.m6 ∧ G.m6 < 1073741824
  hc0 : -lim < G.c0 ∧ G.c0 < lim
  hc1 : -lim < G.c1 ∧ G.c1 < lim
  hc2 : -lim < G.c2 ∧ G.c2 < lim
  hc3 : -lim < G.c3 ∧ G.c3 < lim
def nums : Nums := ⟨1000000, 16807, 3, 2147483629, 2147483647, 7, 2, 4, 48271, 69621, 39373, 40692⟩
theorem nums_ok : nums.ok := ⟨by decide, by decide, by decide, by decide, by decide, by decide, by decide, by decide, by decide, by decide⟩
def deckBG (G : Nums) : List Stm := [.asg (.name 6) (.bin .mod (.var 5) (.blt .len [(.var 2)])), .asg (.name 7) (.bin .mod (.sub (.var 2) (.var 6)) (.lit (.int G.m0))), .ite (.cmp .eq (.var 3) (.lit (.int 0))) [.asg (.name 7) (.bin .mod (.bin .add (.bin .add (.sub (.var 2) (.var 6)) (.bin .mul (.bin .mul (.var 5) (.var 5)) (.lit (.int G.m1)))) (.bin .mul (.lit (.int G.m2)) (.var 5))) (.lit (.int G.m3))), .asg (.name 7) (.bin .mod (.bin .add (.bin .mul (.var 7) (.sub (.lst [(.lit (.int G.c0)), (.lit (.int G.c1)), (.lit (.int G.c2)), (.lit (.int G.c3))]) (.bin .mod (.var 5) (.lit (.int 4))))) (.lit (.int G.m5))) (.lit (.int G.m4))), .asg (.name 7) (.bin .mod (.bin .mul (.var 7) (.var 7)) (.lit (.int G.m3)))] [.setSub (.var 2) (.var 6) (.bin .fdiv (.sub (.var 2) (.var 6)) (.lit (.int G.m0)))], .expr (.meth .append (.var 4) [(.var 7)])]
def deckFG (G : Nums) : Fn := ⟨2, 8, [false, false], true, [
  .new 2 (.blt .list [(.var 0)]),
  .ite (.cmp .eq (.var 2) (.lst [])) [.new 2 (.lst [(.lit (.int G.m7))])] [],
  .asg (.name 3) (.bin .mod (.sub (.var 2) (.lit (.int 0))) (.lit (.int G.m6))),
  .setSub (.var 2) (.lit (.int 0)) (.bin .fdiv (.sub (.var 2) (.lit (.int 0))) (.lit (.int G.m6))),
  .new 4 (.lst []),
  .for_ (.name 5) (.range1 (.var 1)) (deckBG G),
  .expr (.meth .reverse (.var 4) []),
  .ret (.var 4)]⟩
section
variable (C : Cx) {G : Nums} (hG : G.ok)
theorem kl1 : (100000 : Int) < lim := by decide
theorem kl2 : -lim < (0 : Int) := by decide
theorem kl {k : Nat} (hk : k ≤ 100000) : -lim < (k : Int) ∧ (k : Int) < lim := ⟨Int.lt_of_lt_of_le kl2 (Int.natCast_nonneg k), Int.lt_of_le_of_lt (by omega) kl1⟩
theorem mul_ok {i j : Int} (h : -lim < j ∧ j < lim) : binD .mul (.int i) (.int j) = some (.int (i * j)) := by
  simp only [binD]; rw [if_pos (.inr h)]
theorem mul_ok' {i j : Int} (h : -lim < i ∧ i < lim) : binD .mul (.int i) (.int j) = some (.int (i * j)) := by
  simp only [binD]; rw [if_pos (.inl h)]
theorem mod_ok {i j : Int} (h : 0 < j) : binD .mod (.int i) (.int j) = some (.int (i % j)) := by
  simp only [binD]; rw [if_pos h]
theorem fdiv_ok {i j : Int} (h : 0 < j) (h2 : j < 1073741824) : binD .fdiv (.int i) (.int j) = some (.int (i / j)) := by
  simp only [binD]; rw [if_pos ⟨h, h2⟩]
theorem ix_int {l : List Int} {n : Nat} (h : n < l.length) : ixD (l.map D.int) (n : Int) = some (.int l[n]) := by
  unfold ixD
  rw [if_pos (by omega), if_pos (by simp; omega)]
  simp [h]
theorem get_app1 {pre : Store} {a b : Cell} : (pre ++ [a, b])[pre.length]? = some a := by simp
theorem get_app2 {pre : Store} {a b : Cell} : (pre ++ [a, b])[pre.length + 1]? = some b := by simp
theorem set_app1 {pre : Store} {a b c : Cell} : (pre ++ [a, b]).set pre.length c = pre ++ [c, b] := by simp
theorem set_app2 {pre : Store} {a b c : Cell} : (pre ++ [a, b]).set (pre.length + 1) c = pre ++ [a, c] := by
  rw [List.set_append_right _ _ (by omega)]
  simp
theorem ex_setSub (o i e : Exp) (σ : Sig) (S : Store) : ex C (.setSub o i e) σ S = (ev C e σ S).bind fun v S1 => (ev C o σ S1).bind fun a S2 => (ev C i σ S2).bind fun k S3 => match a with
    | .ref n => (match fzv S3 v with
      | some (x, S4) => (match rdv S4 k with
        | some k => (match S4[n]? with
          | some c => (match setC c k x with
            | some c1 => .ok (.nx σ) (S4.set n c1)
            | none => .no)
          | none => .no)
        | none => .no)
      | none => .no)
    | .d _ => .no := by rw [ex] <;> rfl
include hG in
theorem deck_turnI {pre : Store} {row deck : List Int} {ki c : Int} {a : Nat} {s0 s1 s5 s6 s7 : Option Val} (hal : a < row.length) (hr : 0 < row.length) (hmod : ki % (row.length : Int) = (a : Int)) (hkl : -lim < ki ∧ ki < lim) (hd : deck.length < big)
    (hc : subD (.lst [.int G.c0, .int G.c1, .int G.c2, .int G.c3]) (.int (ki % 4)) = some (.int c)) (hcl : -lim < c ∧ c < lim) :
    ∃ (σ' : Sig) (row' : List Int) (x : Int), exs C (deckBG G) [s0, s1, some (.ref pre.length), some (.d (.int 0)), some (.ref (pre.length + 1)), some (.d (.int ki)), s6, s7] (pre ++ [.lst (row.map .int), .lst (deck.map .int)]) = .ok (.nx σ') (pre ++ [.lst (row'.map .int), .lst ((deck ++ [x]).map .int)]) ∧ Dr x ∧ row'.length = row.length ∧ σ'.length = 8 ∧ σ'[2]? = some (some (.ref pre.length)) ∧ σ'[3]? = some (some (.d (.int 0))) ∧ σ'[4]? = some (some (.ref (pre.length + 1))) := by
  have hrd : rdv (pre ++ [.lst (row.map .int), .lst (deck.map .int)]) (.ref pre.length) = some (.lst (row.map .int)) := by simp only [rdv, get_app1]
  have hrd2 : ∀ row : List D, rdv (pre ++ [.lst row, .lst (deck.map .int)]) (.ref (pre.length + 1)) = some (.lst (deck.map .int)) := by intro row; simp only [rdv, get_app2]
  have hrds : rdvs (pre ++ [.lst (row.map .int), .lst (deck.map .int)]) [.ref pre.length] = some [.lst (row.map .int)] := by simp only [rdvs, hrd]
  have h4b : 4 ≤ big := by decide
  have happ : ∀ (row : List D) (x : Int), doMeth .append (.ref (pre.length + 1)) [.d (.int x)] (pre ++ [.lst row, .lst (deck.map .int)]) = .ok (.d .non) (pre ++ [.lst row, .lst ((deck ++ [x]).map .int)]) := by
    intro row x
    simp only [doMeth, Mth.mut, doMut, fzs_d, fzs_nil, get_app2, mthC, List.length_map, hd, if_true, set_app2, List.map_append, List.map_cons, List.map_nil]
  refine ⟨[s0, s1, some (.ref pre.length), some (.d (.int 0)), some (.ref (pre.length + 1)), some (.d (.int ki)), some (.d (.int a)), some (.d (.int ((((row[a] + ki * ki * G.m1 + G.m2 * ki) % G.m3 * c + G.m5) % G.m4) * (((row[a] + ki * ki * G.m1 + G.m2 * ki) % G.m3 * c + G.m5) % G.m4) % G.m3)))], row, (((row[a] + ki * ki * G.m1 + G.m2 * ki) % G.m3 * c + G.m5) % G.m4) * (((row[a] + ki * ki * G.m1 + G.m2 * ki) % G.m3 * c + G.m5) % G.m4) % G.m3, ?_, ?_, rfl, ?_⟩
  rotate_left
  · constructor
    · exact Int.emod_nonneg _ (by have := hG.h3; omega)
    · have := Int.emod_lt_of_pos ((((row[a] + ki * ki * G.m1 + G.m2 * ki) % G.m3 * c + G.m5) % G.m4) * (((row[a] + ki * ki * G.m1 + G.m2 * ki) % G.m3 * c + G.m5) % G.m4)) hG.h3.1
      have := hG.h3
      omega
  rotate_left
  · have hb : ∀ z : Int, -lim < z % G.m4 ∧ z % G.m4 < lim := by
      intro z
      have h1 := Int.emod_nonneg z (show (G.m4 : Int) ≠ 0 by have := hG.h4; omega)
      have h2 := Int.emod_lt_of_pos z hG.h4.1
      exact ⟨by omega, Int.lt_trans h2 hG.h4.2⟩
    generalize hT : (pre ++ [Cell.lst (row.map D.int), Cell.lst (deck.map D.int)] : Store) = T at hrd hrds
    have hapT : ∀ x : Int, doMeth .append (.ref (pre.length + 1)) [.d (.int x)] T = .ok (.d .non) (pre ++ [.lst (row.map .int), .lst ((deck ++ [x]).map .int)]) := by intro x; rw [← hT]; exact happ _ x
    have hrdT : rdv T (.ref (pre.length + 1)) = some (.lst (deck.map .int)) := by rw [← hT]; exact hrd2 _
    clear happ hrd2
    generalize hx0 : (row[a] + ki * ki * G.m1 + G.m2 * ki) % G.m3 = x0
    generalize hx1 : (x0 * c + G.m5) % G.m4 = x1
    have hx1b : -lim < x1 ∧ x1 < lim := hx1 ▸ hb _
    generalize hx2 : x1 * x1 % G.m3 = x2
    have c1 : ∀ s6 s7, ex C (.asg (.name 6) (.bin .mod (.var 5) (.blt .len [(.var 2)]))) [s0, s1, some (.ref pre.length), some (.d (.int 0)), some (.ref (pre.length + 1)), some (.d (.int ki)), s6, s7] T = .ok (.nx [s0, s1, some (.ref pre.length), some (.d (.int 0)), some (.ref (pre.length + 1)), some (.d (.int ki)), some (.d (.int a)), s7]) T := by
      intro s6 s7
      simp [onL, hrds, mod_ok, hr, hmod]
    have c2 : ∀ s7, ex C (.asg (.name 7) (.bin .mod (.sub (.var 2) (.var 6)) (.lit (.int G.m0)))) [s0, s1, some (.ref pre.length), some (.d (.int 0)), some (.ref (pre.length + 1)), some (.d (.int ki)), some (.d (.int a)), s7] T = .ok (.nx [s0, s1, some (.ref pre.length), some (.d (.int 0)), some (.ref (pre.length + 1)), some (.d (.int ki)), some (.d (.int a)), some (.d (.int (row[a] % G.m0)))]) T := by
      intro s7
      simp [on2, hrd, ix_int hal, mod_ok, hG.h0.1]
    have v1 : ∀ s7, ev C (.bin .add (.sub (.var 2) (.var 6)) (.bin .mul (.bin .mul (.var 5) (.var 5)) (.lit (.int G.m1)))) [s0, s1, some (.ref pre.length), some (.d (.int 0)), some (.ref (pre.length + 1)), some (.d (.int ki)), some (.d (.int a)), s7] T = .ok (.d (.int (row[a] + ki * ki * G.m1))) T := by
      intro s7
      have e0 : on2 T (.ref pre.length) (.d (.int a)) subD = .ok (.d (.int row[a])) T := by simp only [on2, hrd, rdv_d, sub_lst, ix_int hal]
      simp only [ev_bin, ev_sub, ev_var, ev_lit, List.getElem?_cons_succ, List.getElem?_cons_zero, R.bind_ok, e0, on2_d, mul_ok hkl, mul_ok hG.h1, bin_add]
    have v2 : ∀ s7, ev C (.bin .mul (.lit (.int G.m2)) (.var 5)) [s0, s1, some (.ref pre.length), some (.d (.int 0)), some (.ref (pre.length + 1)), some (.d (.int ki)), some (.d (.int a)), s7] T = .ok (.d (.int (G.m2 * ki))) T := by
      intro s7
      simp only [ev_bin, ev_var, ev_lit, List.getElem?_cons_succ, List.getElem?_cons_zero, R.bind_ok, on2_d, mul_ok' hG.h2]
    have c3 : ∀ s7, ex C (.asg (.name 7) (.bin .mod (.bin .add (.bin .add (.sub (.var 2) (.var 6)) (.bin .mul (.bin .mul (.var 5) (.var 5)) (.lit (.int G.m1)))) (.bin .mul (.lit (.int G.m2)) (.var 5))) (.lit (.int G.m3)))) [s0, s1, some (.ref pre.length), some (.d (.int 0)), some (.ref (pre.length + 1)), some (.d (.int ki)), some (.d (.int a)), s7] T = .ok (.nx [s0, s1, some (.ref pre.length), some (.d (.int 0)), some (.ref (pre.length + 1)), some (.d (.int ki)), some (.d (.int a)), some (.d (.int x0))]) T := by
      intro s7
      rw [ex_asgN, ev_bin, ev_bin, v1, R.bind_ok, v2]
      simp only [R.bind_ok, ev_lit, on2_d, bin_add, mod_ok hG.h3.1, hx0, List.set_cons_succ, List.set_cons_zero]
    have v3 : ∀ s7, ev C (.sub (.lst [(.lit (.int G.c0)), (.lit (.int G.c1)), (.lit (.int G.c2)), (.lit (.int G.c3))]) (.bin .mod (.var 5) (.lit (.int 4)))) [s0, s1, some (.ref pre.length), some (.d (.int 0)), some (.ref (pre.length + 1)), some (.d (.int ki)), some (.d (.int a)), s7] T = .ok (.d (.int c)) T := by
      intro s7
      simp [-sub_lst, mod_ok, disp, h4b, hc]
    have c4 : ex C (.asg (.name 7) (.bin .mod (.bin .add (.bin .mul (.var 7) (.sub (.lst [(.lit (.int G.c0)), (.lit (.int G.c1)), (.lit (.int G.c2)), (.lit (.int G.c3))]) (.bin .mod (.var 5) (.lit (.int 4))))) (.lit (.int G.m5))) (.lit (.int G.m4)))) [s0, s1, some (.ref pre.length), some (.d (.int 0)), some (.ref (pre.length + 1)), some (.d (.int ki)), some (.d (.int a)), some (.d (.int x0))] T = .ok (.nx [s0, s1, some (.ref pre.length), some (.d (.int 0)), some (.ref (pre.length + 1)), some (.d (.int ki)), some (.d (.int a)), some (.d (.int x1))]) T := by
      have v3' := v3 (some (.d (.int x0)))
      simp only [ex_asgN, ev_bin, ev_var, List.getElem?_cons_succ, List.getElem?_cons_zero, R.bind_ok, v3', ev_lit, on2_d, mul_ok hcl, bin_add, mod_ok hG.h4.1, hx1, List.set_cons_succ, List.set_cons_zero]
    have c5 : ex C (.asg (.name 7) (.bin .mod (.bin .mul (.var 7) (.var 7)) (.lit (.int G.m3)))) [s0, s1, some (.ref pre.length), some (.d (.int 0)), some (.ref (pre.length + 1)), some (.d (.int ki)), some (.d (.int a)), some (.d (.int x1))] T = .ok (.nx [s0, s1, some (.ref pre.length), some (.d (.int 0)), some (.ref (pre.length + 1)), some (.d (.int ki)), some (.d (.int a)), some (.d (.int x2))]) T := by
      simp [mul_ok hx1b, mod_ok, hG.h3.1, hx2]
    have ct : ∀ s7, evT C (.cmp .eq (.var 3) (.lit (.int 0))) [s0, s1, some (.ref pre.length), some (.d (.int 0)), some (.ref (pre.length + 1)), some (.d (.int ki)), some (.d (.int a)), s7] T = .ok true T := by
      intro s7
      simp
    have c6 : ex C (.expr (.meth .append (.var 4) [(.var 7)])) [s0, s1, some (.ref pre.length), some (.d (.int 0)), some (.ref (pre.length + 1)), some (.d (.int ki)), some (.d (.int a)), some (.d (.int x2))] T = .ok (.nx [s0, s1, some (.ref pre.length), some (.d (.int 0)), some (.ref (pre.length + 1)), some (.d (.int ki)), some (.d (.int a)), some (.d (.int x2))]) (pre ++ [.lst (row.map .int), .lst ((deck ++ [x2]).map .int)]) := by
      simp only [ex_expr, ev_meth, ev_var, List.getElem?_cons_succ, List.getElem?_cons_zero, R.bind_ok, hrdT, recvD, if_true, evs_cons, evs_nil, hapT]
    show exs C (deckBG G) [s0, s1, some (.ref pre.length), some (.d (.int 0)), some (.ref (pre.length + 1)), some (.d (.int ki)), s6, s7] T = _
    unfold deckBG
    rw [exs_cons, c1, R.bind_ok]
    simp only
    rw [exs_cons, c2, R.bind_ok]
    simp only
    rw [exs_cons, ex_ite, ct, R.bind_ok]
    simp only
    rw [exs_cons, c3, R.bind_ok]
    simp only
    rw [exs_cons, c4, R.bind_ok]
    simp only
    rw [exs_cons, c5, R.bind_ok]
    simp only
    rw [exs_nil, R.bind_ok]
    simp only
    rw [exs_cons, c6, R.bind_ok]
    simp only
    rw [exs_nil]
  · simp
include hG in
theorem deck_turn0 {σ : Sig} {pre : Store} {row deck : List Int} {odd : Int} {k : Nat} (ho : odd = 0) (hl : σ.length = 8) (h2 : σ[2]? = some (some (.ref pre.length))) (h3 : σ[3]? = some (some (.d (.int odd)))) (h4 : σ[4]? = some (some (.ref (pre.length + 1)))) (hr : 0 < row.length) (hk : k ≤ 100000) (hd : deck.length < big) :
    ∃ (σ' : Sig) (row' : List Int) (x : Int), forT C (.name 5) (deckBG G) (.int k) σ (pre ++ [.lst (row.map .int), .lst (deck.map .int)]) = .ok (.nx σ') (pre ++ [.lst (row'.map .int), .lst ((deck ++ [x]).map .int)]) ∧ Dr x ∧ row'.length = row.length ∧ σ'.length = 8 ∧ σ'[2]? = some (some (.ref pre.length)) ∧ σ'[3]? = some (some (.d (.int odd))) ∧ σ'[4]? = some (some (.ref (pre.length + 1))) := by
  rw [forT_name]
  have hrd : rdv (pre ++ [.lst (row.map .int), .lst (deck.map .int)]) (.ref pre.length) = some (.lst (row.map .int)) := by simp only [rdv, get_app1]
  have hrd2 : ∀ row : List D, rdv (pre ++ [.lst row, .lst (deck.map .int)]) (.ref (pre.length + 1)) = some (.lst (deck.map .int)) := by intro row; simp only [rdv, get_app2]
  have hrds : rdvs (pre ++ [.lst (row.map .int), .lst (deck.map .int)]) [.ref pre.length] = some [.lst (row.map .int)] := by simp only [rdvs, hrd]
  obtain ⟨a, ha⟩ : ∃ a : Nat, a = k % row.length := ⟨_, rfl⟩
  have hal : a < row.length := ha ▸ Nat.mod_lt _ hr
  have hmod : ((k : Int) % (row.length : Int)) = (a : Int) := by rw [ha]; omega
  have hlim : (0 : Int) < lim := by decide
  have hkl : -lim < (k : Int) ∧ (k : Int) < lim := kl hk
  obtain ⟨s0, s1, s2, s3, s4, s5, s6, s7, rfl⟩ : ∃ s0 s1 s2 s3 s4 s5 s6 s7, σ = [s0, s1, s2, s3, s4, s5, s6, s7] := by
    match σ, hl with
    | [s0, s1, s2, s3, s4, s5, s6, s7], _ => exact ⟨s0, s1, s2, s3, s4, s5, s6, s7, rfl⟩
  have e2 : s2 = some (.ref pre.length) := by simpa using h2
  have e3 : s3 = some (.d (.int odd)) := by simpa using h3
  have e4 : s4 = some (.ref (pre.length + 1)) := by simpa using h4
  clear h2 h3 h4 hl
  subst e2
  subst e3
  subst e4
  have happ : ∀ (row : List D) (x : Int), doMeth .append (.ref (pre.length + 1)) [.d (.int x)] (pre ++ [.lst row, .lst (deck.map .int)]) = .ok (.d .non) (pre ++ [.lst row, .lst ((deck ++ [x]).map .int)]) := by
    intro row x
    simp only [doMeth, Mth.mut, doMut, fzs_d, fzs_nil, get_app2, mthC, List.length_map, hd, if_true, set_app2, List.map_append, List.map_cons, List.map_nil]
  subst ho
  have h4b : 4 ≤ big := by decide
  obtain ⟨c, hc, hcl⟩ : ∃ c : Int, subD (.lst [.int G.c0, .int G.c1, .int G.c2, .int G.c3]) (.int ((k : Int) % 4)) = some (.int c) ∧ (-lim < c ∧ c < lim) := by
    have h4 : k % 4 < 4 := Nat.mod_lt _ (by decide)
    have : ((k : Int) % 4) = ((k % 4 : Nat) : Int) := by omega
    rw [this]
    match k % 4, h4 with
    | 0, _ => exact ⟨G.c0, rfl, hG.hc0⟩
    | 1, _ => exact ⟨G.c1, rfl, hG.hc1⟩
    | 2, _ => exact ⟨G.c2, rfl, hG.hc2⟩
    | 3, _ => exact ⟨G.c3, rfl, hG.hc3⟩
  exact deck_turnI C hG (s5 := s5) hal hr hmod hkl hd hc hcl
include hG in
theorem deck_turn1 {σ : Sig} {pre : Store} {row deck : List Int} {odd : Int} {k : Nat} (ho : odd ≠ 0) (hl : σ.length = 8) (h2 : σ[2]? = some (some (.ref pre.length))) (h3 : σ[3]? = some (some (.d (.int odd)))) (h4 : σ[4]? = some (some (.ref (pre.length + 1)))) (hr : 0 < row.length) (hk : k ≤ 100000) (hd : deck.length < big) :
    ∃ (σ' : Sig) (row' : List Int) (x : Int), forT C (.name 5) (deckBG G) (.int k) σ (pre ++ [.lst (row.map .int), .lst (deck.map .int)]) = .ok (.nx σ') (pre ++ [.lst (row'.map .int), .lst ((deck ++ [x]).map .int)]) ∧ Dr x ∧ row'.length = row.length ∧ σ'.length = 8 ∧ σ'[2]? = some (some (.ref pre.length)) ∧ σ'[3]? = some (some (.d (.int odd))) ∧ σ'[4]? = some (some (.ref (pre.length + 1))) := by
  rw [forT_name]
  have hrd : rdv (pre ++ [.lst (row.map .int), .lst (deck.map .int)]) (.ref pre.length) = some (.lst (row.map .int)) := by simp only [rdv, get_app1]
  have hrd2 : ∀ row : List D, rdv (pre ++ [.lst row, .lst (deck.map .int)]) (.ref (pre.length + 1)) = some (.lst (deck.map .int)) := by intro row; simp only [rdv, get_app2]
  have hrds : rdvs (pre ++ [.lst (row.map .int), .lst (deck.map .int)]) [.ref pre.length] = some [.lst (row.map .int)] := by simp only [rdvs, hrd]
  obtain ⟨a, ha⟩ : ∃ a : Nat, a = k % row.length := ⟨_, rfl⟩
  have hal : a < row.length := ha ▸ Nat.mod_lt _ hr
  have hmod : ((k : Int) % (row.length : Int)) = (a : Int) := by rw [ha]; omega
  have hlim : (0 : Int) < lim := by decide
  have hkl : -lim < (k : Int) ∧ (k : Int) < lim := kl hk
  obtain ⟨s0, s1, s2, s3, s4, s5, s6, s7, rfl⟩ : ∃ s0 s1 s2 s3 s4 s5 s6 s7, σ = [s0, s1, s2, s3, s4, s5, s6, s7] := by
    match σ, hl with
    | [s0, s1, s2, s3, s4, s5, s6, s7], _ => exact ⟨s0, s1, s2, s3, s4, s5, s6, s7, rfl⟩
  have e2 : s2 = some (.ref pre.length) := by simpa using h2
  have e3 : s3 = some (.d (.int odd)) := by simpa using h3
  have e4 : s4 = some (.ref (pre.length + 1)) := by simpa using h4
  clear h2 h3 h4 hl
  subst e2
  subst e3
  subst e4
  have happ : ∀ (row : List D) (x : Int), doMeth .append (.ref (pre.length + 1)) [.d (.int x)] (pre ++ [.lst row, .lst (deck.map .int)]) = .ok (.d .non) (pre ++ [.lst row, .lst ((deck ++ [x]).map .int)]) := by
    intro row x
    simp only [doMeth, Mth.mut, doMut, fzs_d, fzs_nil, get_app2, mthC, List.length_map, hd, if_true, set_app2, List.map_append, List.map_cons, List.map_nil]
  refine ⟨[s0, s1, some (.ref pre.length), some (.d (.int odd)), some (.ref (pre.length + 1)), some (.d (.int k)), some (.d (.int a)), some (.d (.int (row[a] % G.m0)))], row.set a (row[a] / G.m0), row[a] % G.m0, ?_, ?_, by simp, ?_⟩
  rotate_left
  · have h1 := Int.emod_nonneg row[a] (show (G.m0 : Int) ≠ 0 by have := hG.h0; omega)
    have h2 := Int.emod_lt_of_pos row[a] hG.h0.1
    have := hG.h0
    exact ⟨h1, by omega⟩
  rotate_left
  · have hset : setC (.lst (row.map .int)) (.int a) (.int (row[a] / G.m0)) = some (.lst ((row.set a (row[a] / G.m0)).map .int)) := by
      simp only [setC, List.length_map]
      rw [if_pos (by omega)]
      simp [List.map_set]
    have hob : (odd == 0) = false := by simpa using ho
    have hg : (pre ++ [Cell.lst (row.map D.int), Cell.lst (deck.map D.int)])[pre.length]? = some (.lst (row.map D.int)) := get_app1
    have hs := set_app1 (pre := pre) (a := .lst (row.map D.int)) (b := .lst (deck.map D.int)) (c := .lst ((row.set a (row[a] / G.m0)).map .int))
    generalize hT : (pre ++ [Cell.lst (row.map D.int), Cell.lst (deck.map D.int)] : Store) = T at hrd hrds hg hs
    generalize hrow : (row.set a (row[a] / G.m0)).map D.int = row1 at hset hs
    have hapT := happ row1 (row[a] % G.m0)
    have hrdT := hrd2 row1
    clear happ hrd2
    have c1 : ∀ s6 s7, ex C (.asg (.name 6) (.bin .mod (.var 5) (.blt .len [(.var 2)]))) [s0, s1, some (.ref pre.length), some (.d (.int odd)), some (.ref (pre.length + 1)), some (.d (.int k)), s6, s7] T = .ok (.nx [s0, s1, some (.ref pre.length), some (.d (.int odd)), some (.ref (pre.length + 1)), some (.d (.int k)), some (.d (.int a)), s7]) T := by
      intro s6 s7
      simp [onL, hrds, mod_ok, hr, hmod]
    have c2 : ∀ s7, ex C (.asg (.name 7) (.bin .mod (.sub (.var 2) (.var 6)) (.lit (.int G.m0)))) [s0, s1, some (.ref pre.length), some (.d (.int odd)), some (.ref (pre.length + 1)), some (.d (.int k)), some (.d (.int a)), s7] T = .ok (.nx [s0, s1, some (.ref pre.length), some (.d (.int odd)), some (.ref (pre.length + 1)), some (.d (.int k)), some (.d (.int a)), some (.d (.int (row[a] % G.m0)))]) T := by
      intro s7
      simp [on2, hrd, ix_int hal, mod_ok, hG.h0.1]
    have ct : ∀ s7, evT C (.cmp .eq (.var 3) (.lit (.int 0))) [s0, s1, some (.ref pre.length), some (.d (.int odd)), some (.ref (pre.length + 1)), some (.d (.int k)), some (.d (.int a)), s7] T = .ok false T := by
      intro s7
      simp [hob]
    have c3 : ∀ s7, ex C (.setSub (.var 2) (.var 6) (.bin .fdiv (.sub (.var 2) (.var 6)) (.lit (.int G.m0)))) [s0, s1, some (.ref pre.length), some (.d (.int odd)), some (.ref (pre.length + 1)), some (.d (.int k)), some (.d (.int a)), s7] T = .ok (.nx [s0, s1, some (.ref pre.length), some (.d (.int odd)), some (.ref (pre.length + 1)), some (.d (.int k)), some (.d (.int a)), s7]) (pre ++ [.lst row1, .lst (deck.map .int)]) := by
      intro s7
      simp [on2, hrd, ix_int hal, ex_setSub, fdiv_ok, hG.h0.1, hG.h0.2.1, hg, hset, hs]
    have c6 : ex C (.expr (.meth .append (.var 4) [(.var 7)])) [s0, s1, some (.ref pre.length), some (.d (.int odd)), some (.ref (pre.length + 1)), some (.d (.int k)), some (.d (.int a)), some (.d (.int (row[a] % G.m0)))] (pre ++ [.lst row1, .lst (deck.map .int)]) = .ok (.nx [s0, s1, some (.ref pre.length), some (.d (.int odd)), some (.ref (pre.length + 1)), some (.d (.int k)), some (.d (.int a)), some (.d (.int (row[a] % G.m0)))]) (pre ++ [.lst row1, .lst ((deck ++ [row[a] % G.m0]).map .int)]) := by
      simp only [ex_expr, ev_meth, ev_var, List.getElem?_cons_succ, List.getElem?_cons_zero, R.bind_ok, hrdT, recvD, if_true, evs_cons, evs_nil, hapT]
    show exs C (deckBG G) [s0, s1, some (.ref pre.length), some (.d (.int odd)), some (.ref (pre.length + 1)), some (.d (.int k)), s6, s7] T = _
    unfold deckBG
    rw [exs_cons, c1, R.bind_ok]
    simp only
    rw [exs_cons, c2, R.bind_ok]
    simp only
    rw [exs_cons, ex_ite, ct, R.bind_ok]
    simp only
    rw [exs_cons, c3, R.bind_ok]
    simp only
    rw [exs_nil, R.bind_ok]
    simp only
    rw [exs_cons, c6, R.bind_ok]
    simp only
    rw [exs_nil]
  · simp
include hG in
theorem deck_turn {σ : Sig} {pre : Store} {row deck : List Int} {odd : Int} {k : Nat} (hl : σ.length = 8) (h2 : σ[2]? = some (some (.ref pre.length))) (h3 : σ[3]? = some (some (.d (.int odd)))) (h4 : σ[4]? = some (some (.ref (pre.length + 1)))) (hr : 0 < row.length) (hk : k ≤ 100000) (hd : deck.length < big) :
    ∃ (σ' : Sig) (row' : List Int) (x : Int), forT C (.name 5) (deckBG G) (.int k) σ (pre ++ [.lst (row.map .int), .lst (deck.map .int)]) = .ok (.nx σ') (pre ++ [.lst (row'.map .int), .lst ((deck ++ [x]).map .int)]) ∧ Dr x ∧ row'.length = row.length ∧ σ'.length = 8 ∧ σ'[2]? = some (some (.ref pre.length)) ∧ σ'[3]? = some (some (.d (.int odd))) ∧ σ'[4]? = some (some (.ref (pre.length + 1))) := by
  by_cases ho : odd = 0
  · exact deck_turn0 C hG ho hl h2 h3 h4 hr hk hd
  · exact deck_turn1 C hG ho hl h2 h3 h4 hr hk hd
include hG in
theorem deck_loop {pre : Store} {odd : Int} : ∀ (n k : Nat) {σ : Sig} {row deck : List Int}, σ.length = 8 → σ[2]? = some (some (.ref pre.length)) → σ[3]? = some (some (.d (.int odd))) → σ[4]? = some (some (.ref (pre.length + 1))) → 0 < row.length → k + n ≤ 100000 → deck.length + n ≤ 100000 →
    ∃ (σ' : Sig) (row' ds : List Int), forL (fun _ => True) (forT C (.name 5) (deckBG G)) ((List.range' k n).map fun (k : Nat) => D.int k) σ (pre ++ [.lst (row.map .int), .lst (deck.map .int)]) = .ok (.nx σ') (pre ++ [.lst (row'.map .int), .lst ((deck ++ ds).map .int)]) ∧ ds.length = n ∧ (∀ x ∈ ds, Dr x) ∧ σ'[4]? = some (some (.ref (pre.length + 1)))
  | 0, k, σ, row, deck, hl, h2, h3, h4, hr, hk, hd => ⟨σ, row, [], by simp, rfl, by simp, h4⟩
  | n + 1, k, σ, row, deck, hl, h2, h3, h4, hr, hk, hd => by
    obtain ⟨σ1, row1, x, e1, hx, hr1, hl1, h21, h31, h41⟩ := deck_turn C hG hl h2 h3 h4 hr (k := k) (deck := deck) (by omega) (Nat.lt_of_le_of_lt (by omega : deck.length ≤ 100000) (by decide))
    obtain ⟨σ2, row2, ds, e2, hd2, hds, h42⟩ := deck_loop n (k + 1) (row := row1) (deck := deck ++ [x]) hl1 h21 h31 h41 (by omega) (by omega) (by simp; omega)
    refine ⟨σ2, row2, x :: ds, ?_, by simp [hd2], ?_, h42⟩
    · rw [List.range'_succ, List.map_cons, forL_cons, e1, R.bind_ok]
      simp only
      rw [e2]
      simp
    · intro y hy
      rcases List.mem_cons.mp hy with rfl | hy
      · exact hx
      · exact hds y hy
end
end Ev

end

section
set_option Elab.async false
set_option linter.all false
set_option maxRecDepth 100000
set_option maxHeartbeats 1000000
namespace Ev
/-- the deck's own call -/
theorem deckG_ok {P : Pg} {G : Nums} (hG : G.ok) {f : Nat} (hF : P.fn f = some (deckFG G)) (n : Nat) (ns : List Int) (many : Nat) (mi : Int) (hrng : rangeL 0 mi = some ((List.range' 0 many).map fun (k : Nat) => D.int k)) (hm : many ≤ 50000) (S : Store) : ∃ l : List Int, l.length = many ∧ (∀ x ∈ l, Dr x) ∧ callP P (n + 1) f [.d (.lst (ns.map .int)), .d (.int mi)] S = .ok (.ref S.length) (S ++ [.lst (l.map .int)]) := by
  have hcall : callP P (n + 1) f [.d (.lst (ns.map .int)), .d (.int mi)] S = bodyC ⟨callP P n, P.glo, P.gdc, P.wf⟩ (deckFG G) [.d (.lst (ns.map .int)), .d (.int mi)] S := by
    show (match P.fn f with
      | none => R.no
      | some F => if [Val.d (.lst (ns.map .int)), Val.d (.int mi)].length = F.np then bodyC ⟨callP P n, P.glo, P.gdc, P.wf⟩ F [.d (.lst (ns.map .int)), .d (.int mi)] S else .no) = _
    rw [hF]
    rfl
  obtain ⟨C, hC⟩ : ∃ C : Cx, C = ⟨callP P n, P.glo, P.gdc, P.wf⟩ := ⟨_, rfl⟩
  rw [hcall, ← hC]
  -- what stands behind the fifth row
  have key : ∀ (pre : Store) (row : List Int) (s5 s6 s7 : Option Val), 0 < row.length → ∃ (l row' : List Int), l.length = many ∧ (∀ x ∈ l, Dr x) ∧ exs C [.asg (.name 3) (.bin .mod (.sub (.var 2) (.lit (.int 0))) (.lit (.int G.m6))), .setSub (.var 2) (.lit (.int 0)) (.bin .fdiv (.sub (.var 2) (.lit (.int 0))) (.lit (.int G.m6))), .new 4 (.lst []), .for_ (.name 5) (.range1 (.var 1)) (deckBG G), .expr (.meth .reverse (.var 4) []), .ret (.var 4)]
      [some (.d (.lst (ns.map .int))), some (.d (.int mi)), some (.ref pre.length), none, none, s5, s6, s7] (pre ++ [.lst (row.map .int)]) = .ok (.rt (.ref (pre.length + 1))) (pre ++ [.lst (row'.map .int), .lst (l.map .int)]) := by
    intro pre row s5 s6 s7 hr
    obtain ⟨x, row, rfl⟩ : ∃ x r, row = x :: r := by
      cases row with
      | nil => simp at hr
      | cons x r => exact ⟨x, r, rfl⟩
    obtain ⟨σ', row', ds, e, h1, h2, h3⟩ := deck_loop C hG (pre := pre) (odd := x % G.m6) many 0 (σ := [some (.d (.lst (ns.map .int))), some (.d (.int mi)), some (.ref pre.length), some (.d (.int (x % G.m6))), some (.ref (pre.length + 1)), s5, s6, s7]) (row := x / G.m6 :: row) (deck := []) rfl rfl rfl rfl (by simp) (by omega) (by simp; omega)
    refine ⟨ds.reverse, row', by simp [h1], fun y hy => h2 y (by simpa using hy), ?_⟩
    have hrd : rdv (pre ++ [Cell.lst ((x :: row).map .int)]) (.ref pre.length) = some (.lst ((x :: row).map .int)) := by simp [rdv]
    have hix : subD (.lst ((x :: row).map .int)) (.int 0) = some (.int x) := ix_int (l := x :: row) (n := 0) (by simp)
    have hset : setC (.lst ((x :: row).map .int)) (.int 0) (.int (x / G.m6)) = some (.lst ((x / G.m6 :: row).map .int)) := by
      simp only [setC]
      rw [if_pos (by simp)]
      rfl
    have hst : (pre ++ [Cell.lst ((x :: row).map .int)]).set pre.length (.lst ((x / G.m6 :: row).map .int)) = pre ++ [.lst ((x / G.m6 :: row).map .int)] := by simp
    have hg : (pre ++ [Cell.lst ((x :: row).map .int)])[pre.length]? = some (.lst ((x :: row).map .int)) := by simp
    have hrev : doMeth .reverse (.ref (pre.length + 1)) [] (pre ++ [Cell.lst (row'.map .int), Cell.lst (([] ++ ds).map .int)]) = .ok (.d .non) (pre ++ [.lst (row'.map .int), .lst (ds.reverse.map .int)]) := by
      simp only [doMeth, Mth.mut, doMut, fzs_nil, get_app2, mthC, set_app2, List.map_reverse, List.nil_append]
    have hrd2 : rdv (pre ++ [Cell.lst (row'.map .int), Cell.lst (([] ++ ds).map .int)]) (.ref (pre.length + 1)) = some (.lst (([] ++ ds).map .int)) := by simp only [rdv, get_app2]
    have e1 : ∀ s : Sig, s = [some (.d (.lst (ns.map .int))), some (.d (.int mi)), some (.ref pre.length), some (.d (.int (x % G.m6))), some (.ref (pre.length + 1)), s5, s6, s7] → exs C [.for_ (.name 5) (.range1 (.var 1)) (deckBG G), .expr (.meth .reverse (.var 4) []), .ret (.var 4)] s (pre ++ [.lst ((x / G.m6 :: row).map .int), .lst []]) = .ok (.rt (.ref (pre.length + 1))) (pre ++ [.lst (row'.map .int), .lst (ds.reverse.map .int)]) := by
      intro s hs
      have hf : ex C (.for_ (.name 5) (.range1 (.var 1)) (deckBG G)) s (pre ++ [.lst ((x / G.m6 :: row).map .int), .lst []]) = .ok (.nx σ') (pre ++ [.lst (row'.map .int), .lst (([] ++ ds).map .int)]) := by
        rw [ex_for, evI_range1, ev_var, hs]
        simp only [List.getElem?_cons_succ, List.getElem?_cons_zero, R.bind_ok, onInt_i, hrng, Option.map_some, R.of_some]
        exact e
      rw [exs_cons, hf, R.bind_ok]
      simp only [exs_cons, ex_expr, ev_meth, ev_var, h3, R.bind_ok, hrd2, recvD, if_true, evs_nil, hrev, ex_ret]
    have e2 : (exs C [.asg (.name 3) (.bin .mod (.sub (.var 2) (.lit (.int 0))) (.lit (.int G.m6))), .setSub (.var 2) (.lit (.int 0)) (.bin .fdiv (.sub (.var 2) (.lit (.int 0))) (.lit (.int G.m6))), .new 4 (.lst [])]
      [some (.d (.lst (ns.map .int))), some (.d (.int mi)), some (.ref pre.length), none, none, s5, s6, s7] (pre ++ [.lst ((x :: row).map .int)])) = .ok (.nx [some (.d (.lst (ns.map .int))), some (.d (.int mi)), some (.ref pre.length), some (.d (.int (x % G.m6))), some (.ref (pre.length + 1)), s5, s6, s7]) (pre ++ [.lst ((x / G.m6 :: row).map .int), .lst []]) := by
      simp [-List.map_cons, -sub_lst, on2, hrd, hix, mod_ok, fdiv_ok, hG.h6.1, hG.h6.2, ex_setSub, hset, hst, disp]
    have app : ∀ (l m : List Stm) (σ : Sig) (T : Store), exs C (l ++ m) σ T = (exs C l σ T).bind fun f S1 => match f with
        | .nx σ1 => exs C m σ1 S1
        | f => .ok f S1 := by
      intro l m
      induction l with
      | nil => intro σ T; simp
      | cons s l ih =>
        intro σ T
        simp only [List.cons_append, exs_cons]
        cases ex C s σ T with
        | ok f S1 => cases f <;> simp [ih]
        | exc => rfl
        | no => rfl
    have := app [.asg (.name 3) (.bin .mod (.sub (.var 2) (.lit (.int 0))) (.lit (.int G.m6))), .setSub (.var 2) (.lit (.int 0)) (.bin .fdiv (.sub (.var 2) (.lit (.int 0))) (.lit (.int G.m6))), .new 4 (.lst [])] [.for_ (.name 5) (.range1 (.var 1)) (deckBG G), .expr (.meth .reverse (.var 4) []), .ret (.var 4)] [some (.d (.lst (ns.map .int))), some (.d (.int mi)), some (.ref pre.length), none, none, s5, s6, s7] (pre ++ [.lst ((x :: row).map .int)])
    rw [e2, R.bind_ok] at this
    simp only [List.cons_append, List.nil_append] at this
    rw [this]
    exact e1 _ rfl
  have fin : ∀ (T : Store) (j : Nat) (l : List Int), T[j]? = some (.lst (l.map .int)) → exs C (deckFG G).body [some (.d (.lst (ns.map .int))), some (.d (.int mi)), none, none, none, none, none, none] [] = .ok (.rt (.ref j)) T → bodyC C (deckFG G) [.d (.lst (ns.map .int)), .d (.int mi)] S = .ok (.ref S.length) (S ++ [.lst (l.map .int)]) := by
    intro T j l hT he
    unfold bodyC
    have hp : prep S (deckFG G).byref [.d (.lst (ns.map .int)), .d (.int mi)] [] [] = some ([.d (.lst (ns.map .int)), .d (.int mi)], [], []) := rfl
    have hs : ([Val.d (.lst (ns.map .int)), Val.d (.int mi)].map some ++ List.replicate ((deckFG G).ns - (deckFG G).np) none) = [some (.d (.lst (ns.map .int))), some (.d (.int mi)), none, none, none, none, none, none] := rfl
    rw [hp]
    simp only [List.all_nil, if_true, cellsAt, hs, he]
    have ho : (deckFG G).own = true := rfl
    have pb : putBack S [] T = S := by cases T <;> rfl
    simp only [outC, List.getElem?_nil, hT, ho, frzS, ite_self, pb]
  have hb : (deckFG G).body = [.new 2 (.blt .list [(.var 0)]), .ite (.cmp .eq (.var 2) (.lst [])) [.new 2 (.lst [(.lit (.int G.m7))])] []] ++ [.asg (.name 3) (.bin .mod (.sub (.var 2) (.lit (.int 0))) (.lit (.int G.m6))), .setSub (.var 2) (.lit (.int 0)) (.bin .fdiv (.sub (.var 2) (.lit (.int 0))) (.lit (.int G.m6))), .new 4 (.lst []), .for_ (.name 5) (.range1 (.var 1)) (deckBG G), .expr (.meth .reverse (.var 4) []), .ret (.var 4)] := rfl
  have heq : ∀ l : List Int, eqA (.lst (l.map .int)) (.lst []) = some l.isEmpty := by
    intro l
    have h1 : D.plains (l.map .int) = true := by
      induction l with
      | nil => rfl
      | cons x l ih => exact ih
    have h2 : D.depths (l.map .int) = 0 := Nat.le_zero.mp (depths_iff.mpr (by
      intro x hx
      obtain ⟨i, _, rfl⟩ := List.mem_map.mp hx
      exact Nat.le_refl 0))
    have e1 : eqOk (.lst (l.map .int)) = true := by simp [eqOk, D.plain, D.depth, h1, h2]
    have e2 : eqOk (.lst []) = true := rfl
    simp only [eqA, e1, e2, Bool.and_self, if_true]
    cases l <;> rfl
  have app2 : ∀ (l m : List Stm) (σ : Sig) (T : Store), exs C (l ++ m) σ T = (exs C l σ T).bind fun f S1 => match f with
      | .nx σ1 => exs C m σ1 S1
      | f => .ok f S1 := by
    intro l m
    induction l with
    | nil => intro σ T; simp
    | cons s l ih =>
      intro σ T
      simp only [List.cons_append, exs_cons]
      cases ex C s σ T with
      | ok f S1 => cases f <;> simp [ih]
      | exc => rfl
      | no => rfl
  cases ns with
  | nil =>
    obtain ⟨l, row', h1, h2, h3⟩ := key [.lst []] [G.m7] none none none (by simp)
    refine ⟨l, h1, h2, fin ([.lst []] ++ [.lst (row'.map .int), .lst (l.map .int)]) 2 l rfl ?_⟩
    rw [hb, app2]
    have hh := heq []
    have h1b : 1 ≤ big := by decide
    have e0 : exs C [.new 2 (.blt .list [(.var 0)]), .ite (.cmp .eq (.var 2) (.lst [])) [.new 2 (.lst [(.lit (.int G.m7))])] []] [some (.d (.lst (([] : List Int).map .int))), some (.d (.int mi)), none, none, none, none, none, none] [] = .ok (.nx [some (.d (.lst (([] : List Int).map .int))), some (.d (.int mi)), some (.ref 1), none, none, none, none, none]) ([.lst []] ++ [.lst ([G.m7].map .int)]) := by
      simp at hh
      simp [onL, on2b, rdv, hh, disp, h1b]
    rw [e0]
    exact h3
  | cons x r =>
    obtain ⟨l, row', h1, h2, h3⟩ := key [] (x :: r) none none none (by simp)
    refine ⟨l, h1, h2, fin ([] ++ [.lst (row'.map .int), .lst (l.map .int)]) 1 l rfl ?_⟩
    rw [hb, app2]
    have hh := heq (x :: r)
    have e0 : exs C [.new 2 (.blt .list [(.var 0)]), .ite (.cmp .eq (.var 2) (.lst [])) [.new 2 (.lst [(.lit (.int G.m7))])] []] [some (.d (.lst ((x :: r).map .int))), some (.d (.int mi)), none, none, none, none, none, none] [] = .ok (.nx [some (.d (.lst ((x :: r).map .int))), some (.d (.int mi)), some (.ref 0), none, none, none, none, none]) ([] ++ [.lst ((x :: r).map .int)]) := by
      simp [-List.map_cons, onL, on2b, rdv, hh, disp]
    rw [e0]
    exact h3
def deckF : Fn := deckFG nums
theorem deck_ok {P : Pg} {f : Nat} (hF : P.fn f = some deckF) (n : Nat) (ns : List Int) (many : Nat) (hm : many ≤ 50000) (S : Store) : ∃ l : List Int, l.length = many ∧ (∀ x ∈ l, Dr x) ∧ callP P (n + 1) f [.d (.lst (ns.map .int)), .d (.int many)] S = .ok (.ref S.length) (S ++ [.lst (l.map .int)]) := deckG_ok nums_ok hF n ns many many (by rw [range_ok many (by omega), List.range_eq_range']) hm S
end Ev

end

section
set_option Elab.async false
set_option linter.all false
set_option maxRecDepth 100000
set_option maxHeartbeats 1000000
/-! what is told of some defs, by kinds -/
namespace Ev
/-- the deck: a new row of so many draws -/
def deckC (vs : List AV) (S : ASt) : Option (AV × ASt) := match vs with
  | [.d (.pd 0), .d (.int a b)] => if a = b ∧ 0 ≤ a ∧ a ≤ 50000 then some (.ref S.length, S ++ [⟨false, .dk a.toNat⟩]) else none
  | _ => none
theorem deckC_ok {P : Pg} {f : Nat} (hF : P.fn f = some deckF) {vs : List AV} {xs : List Val} {S : ASt} {T : Store} {p : AV × ASt} {N : Nat} (h : deckC vs S = some p) (hv : All2 (AmV ⟨0, scriptU⟩) vs xs) (hS : AmS ⟨0, scriptU⟩ S T) (hN : 1 ≤ N) : OkV ⟨0, scriptU⟩ p (callP P N f xs T) := by
  unfold deckC at h
  split at h
  · rename_i a b
    split at h
    · rename_i hc
      cases h
      obtain ⟨rfl, h0, h1⟩ := hc
      obtain ⟨_, _, rfl, ⟨x, rfl, _, ns, hns, rfl⟩, hv⟩ := hv
      obtain ⟨_, _, rfl, ⟨x, rfl, i, rfl, h2, h3⟩, hv⟩ := hv
      simp [All2] at hv
      subst hv
      obtain ⟨M, rfl⟩ : ∃ M, N = M + 1 := ⟨N - 1, by omega⟩
      obtain ⟨l, k1, k2, k3⟩ := deck_ok hF M ns a.toNat (by omega) T
      have : i = (a.toNat : Int) := by omega
      rw [this, k3, hS.len]
      exact ⟨_, _, rfl, rfl, hS.app ⟨_, [], rfl, .inl ⟨_, rfl, l, rfl, by simp only; omega, k2⟩, rfl⟩⟩
    · cases h
  · cases h
/-- a def that says True of all small things -/
def trueC (d : Nat) (vs : List AV) (S : ASt) : Option (AV × ASt) := match vs with
  | [.d a] => if a.anyB d then some (.d (aB true), S) else none
  | _ => none
theorem trueC_ok {Pi : Par} {P : Pg} {f d B : Nat} (hF : ∀ (n : Nat) (S : Store) (x : D), x.sm = true → x.depth ≤ d → callP P (n + B) f [.d x] S = .ok (.d (.bl true)) S) {vs : List AV} {xs : List Val} {S : ASt} {T : Store} {p : AV × ASt} {N : Nat} (h : trueC d vs S = some p) (hv : All2 (AmV Pi) vs xs) (hS : AmS Pi S T) (hN : B ≤ N) : OkV Pi p (callP P N f xs T) := by
  unfold trueC at h
  split at h
  · rename_i a
    split at h
    · rename_i hc
      cases h
      obtain ⟨_, _, rfl, ⟨x, rfl, hx⟩, hv⟩ := hv
      simp [All2] at hv
      subst hv
      obtain ⟨M, rfl⟩ : ∃ M, N = M + B := ⟨N - B, by omega⟩
      obtain ⟨h1, h2⟩ := anyB_ok hc hx
      rw [hF M T x h1 h2]
      exact okd rfl hS
    · cases h
  · cases h
/-- a weaker word of what is given -/
theorem SmmOk.imp {u : Nat → D → Prop} {P : Pg} {B : Nat} {e : Smm} {r : A} (h : SmmOk u P B e) (hi : ∀ dl x, Am ⟨dl, u⟩ e.ret x → Am ⟨dl, u⟩ r x) : SmmOk u P B { e with ret := r } := by
  intro dl N n xs T hN hs
  obtain ⟨h1, h2⟩ := h (T := T) hN hs
  refine ⟨fun hd => ?_, fun hd l hT hl hr => ?_⟩
  · obtain ⟨x, k1, k2⟩ := h1 hd
    exact ⟨x, k1, hi dl x k2⟩
  · obtain ⟨x, l1, k1, k2, k3⟩ := h2 hd hT hl hr
    exact ⟨x, l1, k1, hi dl x k2, k3⟩
/-- .. put behind the others -/
theorem addS_of {u : Nat → D → Prop} {P : Pg} {h : Hint} {B B1 : Nat} {e : Smm} (hc : ∀ dl, ConOk ⟨dl, u⟩ P h B) (hB : B ≤ B1) (hs : SmmOk u P B1 e) : ∀ dl, ConOk ⟨dl, u⟩ P (addS h e) B1 := fun dl =>
  addC_ok (hc dl) hB fun e1 hv hS hN => smCon_ok (fun e2 he => by cases List.mem_singleton.mp he; exact hs) e1 hv hS hN
end Ev

end

section
set_option Elab.async false
set_option linter.all false
set_option maxRecDepth 100000
set_option maxHeartbeats 1000000
/-! Ev, kinds: things whose text is short enough to be told by repr. -/
namespace Ev
open PySem (PyData)
structure RpOk (n : Nat) (d : PyData) : Prop where
  w : d.weight ≤ n
  l : d.leavesShort 201 = true
  s : d.showable = true
structure RpsOk (n : Nat) (d : List PyData) : Prop where
  w : PyData.weightAll d ≤ n
  l : PyData.leavesShortAll 201 d = true
  s : PyData.showableAll d = true
structure RpkOk (n : Nat) (d : List (PyData × PyData)) : Prop where
  w : PyData.weightKv d ≤ n
  l : PyData.leavesShortKv 201 d = true
  s : PyData.showableKv d = true
def chB (s : List Nat) : Bool := s.all fun c => decide (c < 16 ^ 8)
theorem rp_int {i : Int} (h : i.natAbs.log2 < 200) : RpOk 201 (.int i) := by
  refine ⟨?_, ?_, ?_⟩
  · simp only [PyData.weight]
    split <;> omega
  · simp only [PyData.leavesShort, PyData.shown, decide_eq_true_eq]
    have := PySem.int_text_length_le (a := i) (k := 200) (by decide) h
    refine decide_eq_true ?_
    rw [PySem.ofString_length]
    exact this
  · simp only [PyData.showable, decide_eq_true_eq]; omega
theorem rp_str {s : List Nat} (h : chB s = true) : RpOk s.length (.str ⟨s.toArray⟩) := by
  refine ⟨by simp [PyData.weight], ?_, rfl⟩
  simp only [PyData.leavesShort]
  simpa [chB] using h
/-- a bound of the weight (none: not told) -/
def maxLen (l : List (List Nat)) : Nat := l.foldr (fun s n => Nat.max s.length n) 0
def keyRp : D → Option Nat
  | .int i => if i.natAbs.log2 < 200 then some 201 else none
  | .str s => if chB s then some s.length else none
  | _ => none
mutual
def A.rp : A → Option Nat
  | .int lo hi => if lo.natAbs.log2 < 199 ∧ hi.natAbs.log2 < 199 then some 201 else none
  | .bl _ => some 0
  | .non => some 0
  | .txs l => if l.all chB then some (maxLen l) else none
  | .tup l => A.rps l
  | .lst l => A.rps l
  | .seq _ _ hi a => match a.rp with
    | some n => some (hi * (n + 1))
    | none => none
  | .dct l => A.rpk l
  | .or l => A.rpo l
  | _ => none
termination_by structural a => a
def A.rps : List A → Option Nat
  | [] => some 0
  | a :: l => match a.rp, A.rps l with
    | some n, some m => some (n + 1 + m)
    | _, _ => none
termination_by structural a => a
def A.rpk : List (D × A) → Option Nat
  | [] => some 0
  | (k, a) :: l => match keyRp k, a.rp, A.rpk l with
    | some j, some n, some m => some (j + n + 2 + m)
    | _, _, _ => none
termination_by structural a => a
def A.rpo : List A → Option Nat
  | [] => some 0
  | a :: l => match a.rp, A.rpo l with
    | some n, some m => some (Nat.max n m)
    | _, _ => none
termination_by structural a => a
end
theorem RpOk.le {n m : Nat} {d : PyData} (h : RpOk n d) (e : n ≤ m) : RpOk m d := ⟨Nat.le_trans h.w e, h.l, h.s⟩
theorem log2_mono {a b : Nat} (h : a ≤ b) (hb : b.log2 < 199) : a.log2 < 200 := by
  by_cases ha : a = 0
  · subst ha; decide
  · by_cases hb0 : b = 0
    · omega
    · have h1 : b < 2 ^ 199 := PySem.lt_two_pow_of_log2_lt hb
      exact (Nat.log2_lt ha).mpr (Nat.lt_of_le_of_lt h (Nat.lt_trans h1 (by decide)))
theorem rps_all {n : Nat} : ∀ {m : List D}, (∀ y ∈ m, RpOk n (toPy y)) → RpsOk (m.length * (n + 1)) (toPys m)
  | [], h => ⟨by simp [toPys, PyData.weightAll], rfl, rfl⟩
  | y :: m, h => by
    obtain ⟨h1, h2, h3⟩ := h y (by simp)
    obtain ⟨k1, k2, k3⟩ := rps_all fun z hz => h z (List.mem_cons_of_mem _ hz)
    refine ⟨?_, by simp [toPys, PyData.leavesShortAll, h2, k2], by simp [toPys, PyData.showableAll, h3, k3]⟩
    simp only [toPys, PyData.weightAll, List.length_cons, Nat.add_mul, Nat.one_mul]
    omega
section
variable {Pi : Par}
theorem maxLen_ok {l : List (List Nat)} {s : List Nat} (h : s ∈ l) : s.length ≤ maxLen l := by
  induction l with
  | nil => cases h
  | cons t l ih =>
    rcases List.mem_cons.mp h with rfl | h
    · exact Nat.le_max_left ..
    · exact Nat.le_trans (ih h) (Nat.le_max_right ..)
mutual
theorem rp_ok : ∀ {a : A} {n : Nat} {x : D}, a.rp = some n → Am Pi a x → RpOk n (toPy x)
  | .int lo hi, n, x, h, hx => by
    simp only [A.rp] at h
    split at h
    · rename_i hc
      cases h
      obtain ⟨i, rfl, h1, h2⟩ := hx
      refine rp_int ?_
      rcases Int.le_total 0 i with q | q
      · exact log2_mono (a := i.natAbs) (b := hi.natAbs) (by omega) hc.2
      · exact log2_mono (a := i.natAbs) (b := lo.natAbs) (by omega) hc.1
    · cases h
  | .bl o, n, x, h, hx => by
    cases h
    cases o with
    | none => obtain ⟨b, rfl⟩ := hx; exact ⟨Nat.le_refl _, rfl, rfl⟩
    | some b => cases hx; exact ⟨Nat.le_refl _, rfl, rfl⟩
  | .non, n, x, h, hx => by cases h; cases hx; exact ⟨Nat.le_refl _, rfl, rfl⟩
  | .txs l, n, x, h, hx => by
    simp only [A.rp] at h
    split at h
    · rename_i hc
      cases h
      obtain ⟨s, hs, rfl⟩ := hx
      exact (rp_str (List.all_eq_true.mp hc s hs)).le (maxLen_ok hs)
    · cases h
  | .txL _, n, x, h, hx => by cases h
  | .tup l, n, x, h, hx => by
    obtain ⟨m, rfl, hm⟩ := hx
    obtain ⟨h1, h2, h3⟩ := rps_ok (by simpa only [A.rp] using h) hm
    exact ⟨h1, h2, h3⟩
  | .lst l, n, x, h, hx => by
    obtain ⟨m, rfl, hm⟩ := hx
    obtain ⟨h1, h2, h3⟩ := rps_ok (by simpa only [A.rp] using h) hm
    exact ⟨h1, h2, h3⟩
  | .seq t lo hi a, n, x, h, hx => by
    simp only [A.rp] at h
    split at h
    · rename_i k e
      cases h
      obtain ⟨m, rfl, _, h2, hm⟩ := hx
      obtain ⟨k1, k2, k3⟩ := rps_all fun y hy => rp_ok e (hm y hy)
      have : m.length * (k + 1) ≤ hi * (k + 1) := Nat.mul_le_mul_right _ h2
      cases t <;> exact ⟨Nat.le_trans k1 this, k2, k3⟩
    · cases h
  | .dct l, n, x, h, hx => by
    obtain ⟨m, rfl, hm⟩ := hx
    obtain ⟨h1, h2, h3⟩ := rpk_ok (by simpa only [A.rp] using h) hm
    exact ⟨h1, h2, h3⟩
  | .any _, n, x, h, hx => by cases h
  | .or l, n, x, h, hx => rpo_ok (by simpa only [A.rp] using h) hx
  | .pd _, n, x, h, hx => by cases h
  | .dk _, n, x, h, hx => by cases h
termination_by structural a => a
theorem rps_ok : ∀ {l : List A} {n : Nat} {m : List D}, A.rps l = some n → Ams Pi l m → RpsOk n (toPys m)
  | [], n, m, h, hm => by cases h; simp [Ams] at hm; subst hm; exact ⟨Nat.le_refl _, rfl, rfl⟩
  | a :: l, n, m, h, hm => by
    obtain ⟨x, r, rfl, h1, h2⟩ := hm
    simp only [A.rps] at h
    split at h
    · rename_i i j e1 e2
      cases h
      obtain ⟨a1, a2, a3⟩ := rp_ok e1 h1
      obtain ⟨b1, b2, b3⟩ := rps_ok e2 h2
      exact ⟨by simp only [toPys, PyData.weightAll]; omega, by simp [toPys, PyData.leavesShortAll, a2, b2], by simp [toPys, PyData.showableAll, a3, b3]⟩
    · cases h
termination_by structural a => a
theorem rpk_ok : ∀ {l : List (D × A)} {n : Nat} {m : List (D × D)}, A.rpk l = some n → Amk Pi l m → RpkOk n (toPyk m)
  | [], n, m, h, hm => by cases h; simp [Amk] at hm; subst hm; exact ⟨Nat.le_refl _, rfl, rfl⟩
  | (k, a) :: l, n, m, h, hm => by
    obtain ⟨x, r, rfl, _, h1, h2⟩ := hm
    simp only [A.rpk] at h
    split at h
    · rename_i p i j e0 e1 e2
      cases h
      obtain ⟨a1, a2, a3⟩ := rp_ok e1 h1
      obtain ⟨b1, b2, b3⟩ := rpk_ok e2 h2
      have hk : RpOk p (keyPy k) := by
        unfold keyRp at e0
        split at e0
        · split at e0
          · cases e0; exact rp_int (by assumption)
          · cases e0
        · split at e0
          · cases e0; exact rp_str (by assumption)
          · cases e0
        · cases e0
      obtain ⟨c1, c2, c3⟩ := hk
      exact ⟨by simp only [toPyk, PyData.weightKv]; omega, by simp [toPyk, PyData.leavesShortKv, a2, b2, c2], by simp [toPyk, PyData.showableKv, a3, b3, c3]⟩
    · cases h
termination_by structural a => a
theorem rpo_ok : ∀ {l : List A} {n : Nat} {x : D}, A.rpo l = some n → Amo Pi l x → RpOk n (toPy x)
  | [], n, x, h, hx => by cases hx
  | a :: l, n, x, h, hx => by
    simp only [A.rpo] at h
    split at h
    · rename_i i j e1 e2
      cases h
      rcases hx with hx | hx
      · exact (rp_ok e1 hx).le (Nat.le_max_left ..)
      · exact (rpo_ok e2 hx).le (Nat.le_max_right ..)
    · cases h
termination_by structural a => a
end
end
mutual
theorem py_depth : ∀ x : D, (toPy x).depth ≤ x.depth
  | .non => Nat.le_refl _
  | .bl _ => Nat.le_refl _
  | .int _ => Nat.le_refl _
  | .str _ => Nat.le_refl _
  | .tup l => Nat.succ_le_succ (py_depths l)
  | .lst l => Nat.succ_le_succ (py_depths l)
  | .dct l => Nat.succ_le_succ (py_depthk l)
  | .ins _ _ => Nat.le_refl _
termination_by structural x => x
theorem py_depths : ∀ l : List D, PyData.depthAll (toPys l) ≤ D.depths l
  | [] => Nat.le_refl _
  | x :: l => by
    have h1 := py_depth x
    have h2 := py_depths l
    simp only [toPys, PyData.depthAll, D.depths]
    exact Nat.max_le.mpr ⟨Nat.le_trans h1 (Nat.le_max_left ..), Nat.le_trans h2 (Nat.le_max_right ..)⟩
termination_by structural l => l
theorem py_depthk : ∀ l : List (D × D), PyData.depthKv (toPyk l) ≤ D.depthk l
  | [] => Nat.le_refl _
  | (k, x) :: l => by
    have h1 := py_depth x
    have h2 := py_depthk l
    have h3 : (keyPy k).depth = 0 := by cases k <;> rfl
    simp only [toPyk, PyData.depthKv, D.depthk, h3]
    refine Nat.max_le.mpr ⟨Nat.max_le.mpr ⟨Nat.zero_le _, Nat.le_trans h1 (Nat.le_max_left ..)⟩, Nat.le_trans h2 (Nat.le_max_right ..)⟩
termination_by structural l => l
end
/-- repr of a thing of a kind whose weight is told -/
theorem reprOk_of {Pi : Par} {a : A} {n : Nat} {x : D} (h1 : a.rp = some n) (h2 : n ≤ 80000) (h3 : a.anyB 60 = true) (hx : Am Pi a x) : reprOk x = true := by
  obtain ⟨w, l, s⟩ := rp_ok h1 hx
  obtain ⟨k1, k2⟩ := anyB_ok h3 hx
  have := PyData.shown_le 201 (by decide) (toPy x) l
  have hd := py_depth x
  simp only [reprOk, Bool.and_eq_true, decide_eq_true_eq]
  refine ⟨⟨⟨sm_plain k1, by omega⟩, s⟩, ?_⟩
  have h4 : (201 + 2) * (toPy x).weight ≤ 203 * 80000 := Nat.mul_le_mul (Nat.le_refl _) (by omega)
  have h5 : (toPy x).shown.length ≤ 203 * 80000 + 201 := by omega
  exact Nat.le_trans h5 (by decide)
/-- may repr be asked -/
def A.rpB (a : A) : Bool := a.anyB 60 && match a.rp with
  | some n => decide (n ≤ 80000)
  | none => false
theorem rpB_ok {Pi : Par} {a : A} {x : D} (h : a.rpB = true) (hx : Am Pi a x) : reprOk x = true := by
  simp only [A.rpB, Bool.and_eq_true] at h
  obtain ⟨h1, h2⟩ := h
  split at h2
  · rename_i n e
    exact reprOk_of e (by simpa using h2) h1 hx
  · cases h2
end Ev

end

section
set_option Elab.async false
set_option linter.all false
set_option maxRecDepth 100000
set_option maxHeartbeats 1000000
/-! Ev, kinds of one's own, told by other kinds. -/
namespace Ev
mutual
/-- kinds of one's own put by their words -/
def A.inst (f : Nat → A) : A → A
  | .int a b => .int a b
  | .bl o => .bl o
  | .non => .non
  | .txs l => .txs l
  | .txL n => .txL n
  | .tup l => .tup (A.insts f l)
  | .lst l => .lst (A.insts f l)
  | .seq t lo hi a => .seq t lo hi (a.inst f)
  | .dct l => .dct (A.instk f l)
  | .any d => .any d
  | .or l => .or (A.insts f l)
  | .pd k => f k
  | .dk j => .dk j
termination_by structural a => a
def A.insts (f : Nat → A) : List A → List A
  | [] => []
  | a :: l => a.inst f :: A.insts f l
termination_by structural a => a
def A.instk (f : Nat → A) : List (D × A) → List (D × A)
  | [] => []
  | (k, a) :: l => (k, a.inst f) :: A.instk f l
termination_by structural a => a
end
section
variable {dl : Nat} {u v : Nat → D → Prop} {f : Nat → A}
mutual
theorem inst_ok (hf : ∀ k x, u k x → Am ⟨dl, v⟩ (f k) x) : ∀ {a : A} {x : D}, Am ⟨dl, u⟩ a x → Am ⟨dl, v⟩ (a.inst f) x
  | .int _ _, x, hx => hx
  | .bl _, x, hx => hx
  | .non, x, hx => hx
  | .txs _, x, hx => hx
  | .txL _, x, hx => hx
  | .tup l, x, hx => by obtain ⟨m, e, hm⟩ := hx; exact ⟨m, e, insts_ok hf hm⟩
  | .lst l, x, hx => by obtain ⟨m, e, hm⟩ := hx; exact ⟨m, e, insts_ok hf hm⟩
  | .seq t lo hi a, x, hx => by obtain ⟨m, e, h1, h2, hm⟩ := hx; exact ⟨m, e, h1, h2, fun y hy => inst_ok hf (hm y hy)⟩
  | .dct l, x, hx => by obtain ⟨m, e, hm⟩ := hx; exact ⟨m, e, instk_ok hf hm⟩
  | .any _, x, hx => hx
  | .or l, x, hx => insto_ok hf hx
  | .pd k, x, hx => hf k x hx
  | .dk _, x, hx => hx
termination_by structural a => a
theorem insts_ok (hf : ∀ k x, u k x → Am ⟨dl, v⟩ (f k) x) : ∀ {l : List A} {m : List D}, Ams ⟨dl, u⟩ l m → Ams ⟨dl, v⟩ (A.insts f l) m
  | [], m, hm => hm
  | a :: l, m, hm => by
    obtain ⟨x, r, e, h1, h2⟩ := hm
    exact ⟨x, r, e, inst_ok hf h1, insts_ok hf h2⟩
termination_by structural a => a
theorem instk_ok (hf : ∀ k x, u k x → Am ⟨dl, v⟩ (f k) x) : ∀ {l : List (D × A)} {m : List (D × D)}, Amk ⟨dl, u⟩ l m → Amk ⟨dl, v⟩ (A.instk f l) m
  | [], m, hm => hm
  | (k, a) :: l, m, hm => by
    obtain ⟨x, r, e, h0, h1, h2⟩ := hm
    exact ⟨x, r, e, h0, inst_ok hf h1, instk_ok hf h2⟩
termination_by structural a => a
theorem insto_ok (hf : ∀ k x, u k x → Am ⟨dl, v⟩ (f k) x) : ∀ {l : List A} {x : D}, Amo ⟨dl, u⟩ l x → Amo ⟨dl, v⟩ (A.insts f l) x
  | [], x, hx => hx
  | a :: l, x, hx => hx.elim (fun h => .inl (inst_ok hf h)) fun h => .inr (insto_ok hf h)
termination_by structural a => a
end
end
end Ev

end

section
set_option Elab.async false
set_option linter.all false
set_option maxRecDepth 100000
set_option maxHeartbeats 1000000
/-! Ev: lists for tuples, through and through. -/
namespace Ev
mutual
def liD : D → D
  | .tup l => .lst (liDs l)
  | x => x
termination_by structural x => x
def liDs : List D → List D
  | [] => []
  | x :: l => liD x :: liDs l
termination_by structural x => x
end
theorem liDs_map : ∀ l : List D, liDs l = l.map liD
  | [] => rfl
  | x :: l => by simp [liDs, liDs_map l]
theorem li_tup (l : List D) : liD (.tup l) = .lst (l.map liD) := by simp only [liD, liDs_map]
theorem li_id {x : D} (h : ∀ l, x ≠ .tup l) : liD x = x := by
  cases x with
  | tup l => exact absurd rfl (h l)
  | _ => rfl
theorem sm_liD : ∀ (k : Nat) (x : D), x.depth ≤ k → D.sm x = true → D.sm (liD x) = true ∧ (liD x).depth ≤ k
  | 0, x, hd, hx => by
    cases x with
    | tup l => simp [D.depth] at hd
    | _ => exact ⟨hx, hd⟩
  | k + 1, x, hd, hx => by
    cases x with
    | tup l =>
      rw [li_tup]
      simp only [D.sm, Bool.and_eq_true] at hx ⊢
      simp only [D.depth] at hd ⊢
      have h1 := sms_iff.mp hx.2
      have h2 := (depths_iff (k := k) (l := l)).mp (by omega)
      refine ⟨⟨by simpa using hx.1, sms_iff.mpr fun y hy => ?_⟩, ?_⟩
      · obtain ⟨z, hz, rfl⟩ := List.mem_map.mp hy
        exact (sm_liD k z (h2 z hz) (h1 z hz)).1
      · have : D.depths (l.map liD) ≤ k := depths_iff.mpr fun y hy => by
          obtain ⟨z, hz, rfl⟩ := List.mem_map.mp hy
          exact (sm_liD k z (h2 z hz) (h1 z hz)).2
        omega
    | _ => exact ⟨hx, hd⟩
mutual
/-- .. of kinds -/
def A.li : A → A
  | .tup l => .lst (A.lis l)
  | .seq true lo hi a => .seq false lo hi a.li
  | .or l => .or (A.lis l)
  | a => a
termination_by structural a => a
def A.lis : List A → List A
  | [] => []
  | a :: l => a.li :: A.lis l
termination_by structural a => a
end
mutual
/-- kinds of tuples, numbers, texts -/
def A.liB : A → Bool
  | .int _ _ => true
  | .bl _ => true
  | .non => true
  | .txs _ => true
  | .txL _ => true
  | .any _ => true
  | .tup l => A.liBs l
  | .seq t _ _ a => t && a.liB
  | .or l => A.liBs l
  | _ => false
termination_by structural a => a
def A.liBs : List A → Bool
  | [] => true
  | a :: l => a.liB && A.liBs l
termination_by structural a => a
end
section
variable {p q : Par}
mutual
theorem li_ok : ∀ {a : A} {x : D}, a.liB = true → Am p a x → Am q a.li (liD x)
  | .int _ _, x, h, hx => by obtain ⟨i, rfl, h⟩ := hx; exact ⟨i, rfl, h⟩
  | .bl o, x, h, hx => by
    cases o with
    | none => obtain ⟨b, rfl⟩ := hx; exact ⟨b, rfl⟩
    | some b => cases hx; rfl
  | .non, x, h, hx => by cases hx; rfl
  | .txs _, x, h, hx => by obtain ⟨i, h, rfl⟩ := hx; exact ⟨i, h, rfl⟩
  | .txL _, x, h, hx => by obtain ⟨i, h, rfl⟩ := hx; exact ⟨i, h, rfl⟩
  | .tup l, x, h, hx => by obtain ⟨m, rfl, hm⟩ := hx; rw [li_tup]; exact ⟨_, rfl, lis_ok h hm⟩
  | .lst l, x, h, hx => by cases h
  | .seq true lo hi a, x, h, hx => by
    obtain ⟨m, rfl, h1, h2, hm⟩ := hx
    show Am q (.seq false lo hi a.li) (liD (.tup m))
    rw [li_tup]
    refine ⟨_, rfl, by simpa using h1, by simpa using h2, fun y hy => ?_⟩
    obtain ⟨z, hz, rfl⟩ := List.mem_map.mp hy
    simp only [A.liB, Bool.and_eq_true] at h
    exact li_ok (a := a) h.2 (hm z hz)
  | .seq false lo hi a, x, h, hx => by simp [A.liB] at h
  | .dct l, x, h, hx => by cases h
  | .any d, x, h, hx => ⟨(sm_liD d x hx.2 hx.1).1, (sm_liD d x hx.2 hx.1).2⟩
  | .or l, x, h, hx => lio_ok h hx
  | .pd k, x, h, hx => by cases h
  | .dk _, x, h, hx => by cases h
termination_by structural a => a
theorem lis_ok : ∀ {l : List A} {m : List D}, A.liBs l = true → Ams p l m → Ams q (A.lis l) (m.map liD)
  | [], m, h, hm => by simp [Ams] at hm; subst hm; rfl
  | a :: l, m, h, hm => by
    obtain ⟨x, r, rfl, h1, h2⟩ := hm
    simp only [A.liBs, Bool.and_eq_true] at h
    exact ⟨liD x, r.map liD, rfl, li_ok h.1 h1, lis_ok h.2 h2⟩
termination_by structural a => a
theorem lio_ok : ∀ {l : List A} {x : D}, A.liBs l = true → Amo p l x → Amo q (A.lis l) (liD x)
  | [], x, h, hx => hx.elim
  | a :: l, x, h, hx => by
    simp only [A.liBs, Bool.and_eq_true] at h
    exact hx.elim (fun k => .inl (li_ok h.1 k)) fun k => .inr (lio_ok h.2 k)
termination_by structural a => a
end
end
end Ev

end

section
set_option Elab.async false
set_option linter.all false
set_option maxRecDepth 100000
set_option maxHeartbeats 1000000
/-! Ev: the deck and a law's word, with kinds of one's own beside the script. -/
namespace Ev
/-- kind 0 is the script -/
def U0 (u : Nat → D → Prop) : Prop := ∀ x, u 0 x ↔ ∃ ns : List Int, ns.length ≤ 63 ∧ x = .lst (ns.map .int)
section
variable {u : Nat → D → Prop}
theorem deckU_ok (hu : U0 u) {P : Pg} {f : Nat} (hF : P.fn f = some deckF) {vs : List AV} {xs : List Val} {S : ASt} {T : Store} {p : AV × ASt} {N : Nat} (h : deckC vs S = some p) (hv : All2 (AmV ⟨0, u⟩) vs xs) (hS : AmS ⟨0, u⟩ S T) (hN : 1 ≤ N) : OkV ⟨0, u⟩ p (callP P N f xs T) := by
  unfold deckC at h
  split at h
  · rename_i a b
    split at h
    · rename_i hc
      cases h
      obtain ⟨rfl, h0, h1⟩ := hc
      obtain ⟨_, _, rfl, ⟨x, rfl, hx⟩, hv⟩ := hv
      obtain ⟨ns, hns, rfl⟩ := (hu x).mp hx
      obtain ⟨_, _, rfl, ⟨x, rfl, i, rfl, h2, h3⟩, hv⟩ := hv
      simp [All2] at hv
      subst hv
      obtain ⟨M, rfl⟩ : ∃ M, N = M + 1 := ⟨N - 1, by omega⟩
      obtain ⟨l, k1, k2, k3⟩ := deck_ok hF M ns a.toNat (by omega) T
      have : i = (a.toNat : Int) := by omega
      rw [this, k3, hS.len]
      exact ⟨_, _, rfl, rfl, hS.app ⟨_, [], rfl, .inl ⟨_, rfl, l, rfl, by simp only; omega, k2⟩, rfl⟩⟩
    · cases h
  · cases h
theorem saysU_of (hu : U0 u) {M : MX} {h : Hint} {B n f k : Nat} (hc : ConOk ⟨0, u⟩ M.pg h B) (hk : n + B ≤ k) (e : isTrue (aCall M.pg h n f [.d (.pd 0)] []) = true) : Says M f k 63 := by
  intro ns hl
  obtain ⟨S, e⟩ := isTrue_ok e
  obtain ⟨v, T, h1, ⟨x, rfl, h2⟩, _⟩ := aCall_ok hc e (xs := [.d (.lst (ns.map .int))]) (T := []) ⟨_, [], rfl, ⟨_, rfl, (hu _).mpr ⟨ns, hl, rfl⟩⟩, rfl⟩ rfl hk
  cases h2
  exact ⟨T, h1⟩
end
end Ev

end

section
set_option Elab.async false
set_option linter.all false
set_option maxRecDepth 100000
set_option maxHeartbeats 1000000
/-! Ev: a thing is itself. -/
namespace Ev
mutual
theorem eqD_refl : ∀ {x : D}, x.plain = true → x.nodct = true → eqD x x = true
  | .non, _, _ => rfl
  | .bl b, _, _ => by simp [eqD]
  | .int i, _, _ => by simp [eqD]
  | .str s, _, _ => by simp [eqD]
  | .tup l, h, k => eqDs_refl (l := l) h k
  | .lst l, h, k => eqDs_refl (l := l) h k
  | .dct l, h, k => by cases k
  | .ins _ _, h, k => by cases h
termination_by structural x => x
theorem eqDs_refl : ∀ {l : List D}, D.plains l = true → D.nodcts l = true → eqDs l l = true
  | [], _, _ => rfl
  | x :: l, h, k => by
    simp only [D.plains, D.nodcts, Bool.and_eq_true] at h k
    simp only [eqDs, Bool.and_eq_true]
    exact ⟨eqD_refl h.1 k.1, eqDs_refl h.2 k.2⟩
termination_by structural x => x
end
mutual
theorem beq_refl : ∀ {x : D}, x.sm = true → D.beq x x = true
  | .non, _ => rfl
  | .bl b, _ => by simp [D.beq]
  | .int i, _ => by simp [D.beq]
  | .str s, _ => by simp [D.beq]
  | .tup l, h => by simp only [D.sm, Bool.and_eq_true] at h; exact beqs_refl (l := l) h.2
  | .lst l, h => by simp only [D.sm, Bool.and_eq_true] at h; exact beqs_refl (l := l) h.2
  | .dct l, h => by simp only [D.sm, Bool.and_eq_true] at h; exact beqk_refl (l := l) h.2
  | .ins _ _, h => by cases h
termination_by structural x => x
theorem beqs_refl : ∀ {l : List D}, D.sms l = true → D.beqs l l = true
  | [], _ => rfl
  | x :: l, h => by
    simp only [D.sms, Bool.and_eq_true] at h
    simp only [D.beqs, Bool.and_eq_true]
    exact ⟨beq_refl h.1, beqs_refl h.2⟩
termination_by structural x => x
theorem beqk_refl : ∀ {l : List (D × D)}, D.smk l = true → D.beqk l l = true
  | [], _ => rfl
  | (k, x) :: l, h => by
    simp only [D.smk, Bool.and_eq_true] at h
    simp only [D.beqk, Bool.and_eq_true]
    refine ⟨⟨?_, beq_refl h.1.2⟩, beqk_refl h.2⟩
    cases k <;> first | (simp [isK] at h; done) | simp [D.beq]
termination_by structural x => x
end
theorem eqOk_sm {x : D} (h : x.sm = true) (hd : x.depth ≤ 60) : eqOk x = true := by
  simp only [eqOk, Bool.and_eq_true, decide_eq_true_eq]
  exact ⟨sm_plain h, hd⟩
/-- x != x -/
theorem ne_self {x : D} (h : x.sm = true) (hd : x.depth ≤ 60) : neA x x = some false := by
  simp only [neA, eqOk_sm h hd, Bool.and_self, if_true, beq_refl h]
  split
  · rename_i hn
    rw [eqD_refl (sm_plain h) hn]
    rfl
  · rfl
end Ev

end

section
set_option Elab.async false
set_option linter.all false
set_option maxRecDepth 100000
set_option maxHeartbeats 1000000
/-! Ev: a def that takes one cell tells the same of two cells that are alike. -/
namespace Ev
theorem call_one {P : Pg} {f N n : Nat} {F : Fn} {a : D} {T : Store} {c : Cell} (hF : P.fn f = some F) (hb : F.byref = [true, false]) (hn : F.np = 2) (h : T[n]? = some c) :
    callP P (N + 1) f [.ref n, .d a] T = (match exs ⟨callP P N, P.glo, P.gdc, P.wf⟩ F.body ([some (.ref 0), some (.d a)] ++ List.replicate (F.ns - F.np) none) [c] with
      | .ok (.rt v) T1 => outC F.own [n] [] T T1 v
      | .ok (.nx _) T1 => outC F.own [n] [] T T1 (.d .non)
      | .ok _ _ => .no
      | .exc x T1 => .exc x (putBack T [n] T1)
      | .no => .no) := by
  show (match P.fn f with
    | none => R.no
    | some F => if [Val.ref n, Val.d a].length = F.np then bodyC ⟨callP P N, P.glo, P.gdc, P.wf⟩ F [.ref n, .d a] T else .no) = _
  rw [hF]
  simp only [List.length_cons, List.length_nil, hn, if_true]
  unfold bodyC
  have hp : prep T F.byref [.ref n, .d a] [] [] = some ([.ref 0, .d a], [n], []) := by
    rw [hb]
    rfl
  rw [hp]
  have hc : cellsAt T [n] = some [c] := by simp [cellsAt, h]
  simp only [hc, List.all_cons, List.contains_nil, Bool.not_false, List.all_nil, Bool.and_self, if_true, List.map_cons, List.map_nil, hn, frzS]
  all_goals
    generalize exs ⟨callP P N, P.glo, P.gdc, P.wf⟩ F.body ([some (.ref 0), some (.d a)] ++ List.replicate (F.ns - 2) none) [c] = r
    cases r with
    | ok f T1 => cases f <;> rfl
    | exc x T1 => rfl
    | no => rfl
theorem put_one {T : Store} {n : Nat} {c : Cell} (h : T[n]? = some c) : ∀ T1 : Store, putBack T [n] T1 = T.set n (T1.headD c)
  | [] => by
    show T = T.set n c
    obtain ⟨h1, h2⟩ := List.getElem?_eq_some_iff.mp h
    rw [← h2, List.set_getElem_self]
  | d :: T1 => by cases T1 <;> rfl
theorem twin {P : Pg} {f N n m : Nat} {F : Fn} {a x : D} {T T' T2 : Store} {c : Cell} (hF : P.fn f = some F) (hb : F.byref = [true, false]) (hn : F.np = 2) (ho : F.own = false) (h1 : T[n]? = some c) (h2 : T'[m]? = some c)
    (h : callP P (N + 1) f [.ref n, .d a] T = .ok (.d x) T2) : ∃ d, T2[n]? = some d ∧ callP P (N + 1) f [.ref m, .d a] T' = .ok (.d x) (T'.set m d) := by
  rw [call_one hF hb hn h1] at h
  rw [call_one hF hb hn h2]
  have hlt : n < T.length := (List.getElem?_eq_some_iff.mp h1).1
  have key : ∀ (v : Val) (T1 : Store), outC F.own [n] [] T T1 v = .ok (.d x) T2 → ∃ d, T2[n]? = some d ∧ outC F.own [m] [] T' T1 v = .ok (.d x) (T'.set m d) := by
    intro v T1 h
    cases v with
    | d y =>
      simp only [outC, frzS, ite_self, List.length_cons, List.length_nil] at h ⊢
      cases h
      rw [put_one h1, put_one h2]
      exact ⟨_, List.getElem?_set_self hlt, rfl⟩
    | ref j =>
      cases j with
      | zero =>
        simp only [outC, frzS, ite_self, List.getElem?_cons_zero] at h
        cases h
      | succ j =>
        simp only [outC, frzS, ite_self, List.getElem?_cons_succ, List.getElem?_nil, ho] at h ⊢
        split at h
        · split at h
          · cases h
            rw [put_one h1, put_one h2]
            exact ⟨_, List.getElem?_set_self hlt, rfl⟩
          · cases h
        · cases h
  revert h
  generalize exs ⟨callP P N, P.glo, P.gdc, P.wf⟩ F.body ([some (.ref 0), some (.d a)] ++ List.replicate (F.ns - F.np) none) [c] = r
  intro h
  cases r with
  | ok f T1 =>
    cases f with
    | rt v => exact key v T1 h
    | nx σ => exact key (.d .non) T1 h
    | bk σ => cases h
    | ct σ => cases h
  | exc x T1 => cases h
  | no => cases h
theorem put_nil (S T : Store) : putBack S [] T = S := by cases T <;> rfl
theorem call_data {P : Pg} {f N : Nat} {F : Fn} {xs : List D} {S : Store} (hF : P.fn f = some F) (hn : xs.length = F.np) :
    callP P (N + 1) f (xs.map .d) S = (match exs ⟨callP P N, P.glo, P.gdc, P.wf⟩ F.body (xs.map (fun x => some (Val.d x)) ++ List.replicate (F.ns - F.np) none) [] with
      | .ok (.rt v) T1 => outC F.own [] [] S T1 v
      | .ok (.nx _) T1 => outC F.own [] [] S T1 (.d .non)
      | .ok _ _ => .no
      | .exc x T1 => .exc x S
      | .no => .no) := by
  have hp : ∀ (bs : List Bool) (xs : List D), prep S bs (xs.map .d) [] [] = some (xs.map .d, [], []) := by
    intro bs xs
    induction xs generalizing bs with
    | nil => cases bs <;> rfl
    | cons x l ih => simp only [List.map_cons, prep, ih]
  show (match P.fn f with
    | none => R.no
    | some F => if (xs.map Val.d).length = F.np then bodyC ⟨callP P N, P.glo, P.gdc, P.wf⟩ F (xs.map .d) S else .no) = _
  rw [hF]
  simp only [List.length_map, hn, if_true]
  unfold bodyC
  rw [hp]
  simp only [List.all_nil, if_true, cellsAt, frzS]
  rw [List.map_map]
  have e : (xs.map (some ∘ Val.d)) = xs.map fun x => some (Val.d x) := rfl
  rw [e]
  all_goals
    generalize exs ⟨callP P N, P.glo, P.gdc, P.wf⟩ F.body (xs.map (fun x => some (Val.d x)) ++ List.replicate (F.ns - F.np) none) [] = r
    cases r with
    | ok f T1 => cases f <;> rfl
    | exc x T1 => simp only [put_nil]
    | no => rfl
/-- a new cell is the same, whatever lies there -/
theorem twin_own {P : Pg} {f N k : Nat} {F : Fn} {xs : List D} {S S' : Store} {c : Cell} (hF : P.fn f = some F) (hn : xs.length = F.np) (ho : F.own = true)
    (h : callP P (N + 1) f (xs.map .d) S = .ok (.ref k) (S ++ [c])) : callP P (N + 1) f (xs.map .d) S' = .ok (.ref S'.length) (S' ++ [c]) := by
  rw [call_data hF hn] at h ⊢
  have key : ∀ (v : Val) (T1 : Store), outC F.own [] [] S T1 v = .ok (.ref k) (S ++ [c]) → outC F.own [] [] S' T1 v = .ok (.ref S'.length) (S' ++ [c]) := by
    intro v T1 h
    cases v with
    | d y => simp only [outC, frzS, ite_self] at h; cases h
    | ref j =>
      simp only [outC, frzS, ite_self, List.getElem?_nil, ho, put_nil] at h ⊢
      split at h
      · rename_i c' e
        have e2 : S ++ [c'] = S ++ [c] := by injection h
        have e3 : c' = c := by simpa using e2
        subst e3
        rfl
      · cases h
  revert h
  generalize exs ⟨callP P N, P.glo, P.gdc, P.wf⟩ F.body (xs.map (fun x => some (Val.d x)) ++ List.replicate (F.ns - F.np) none) [] = r
  intro h
  cases r with
  | ok f T1 =>
    cases f with
    | rt v => exact key v T1 h
    | nx σ => exact key (.d .non) T1 h
    | bk σ => cases h
    | ct σ => cases h
  | exc x T1 => cases h
  | no => cases h
end Ev

end

section
set_option Elab.async false
set_option linter.all false
set_option maxRecDepth 100000
set_option maxHeartbeats 1000000
/-! Ev: weights, with kinds of one's own. -/
namespace Ev
open PySem (PyData)
mutual
def A.rpu (w : Nat → Option Nat) : A → Option Nat
  | .int lo hi => if lo.natAbs.log2 < 199 ∧ hi.natAbs.log2 < 199 then some 201 else none
  | .bl _ => some 0
  | .non => some 0
  | .txs l => if l.all chB then some (maxLen l) else none
  | .tup l => A.rpus w l
  | .lst l => A.rpus w l
  | .seq _ _ hi a => match (A.rpu w a) with
    | some n => some (hi * (n + 1))
    | none => none
  | .dct l => A.rpuk w l
  | .or l => A.rpuo w l
  | .pd k => w k
  | _ => none
termination_by structural a => a
def A.rpus (w : Nat → Option Nat) : List A → Option Nat
  | [] => some 0
  | a :: l => match (A.rpu w a), A.rpus w l with
    | some n, some m => some (n + 1 + m)
    | _, _ => none
termination_by structural a => a
def A.rpuk (w : Nat → Option Nat) : List (D × A) → Option Nat
  | [] => some 0
  | (k, a) :: l => match keyRp k, (A.rpu w a), A.rpuk w l with
    | some j, some n, some m => some (j + n + 2 + m)
    | _, _, _ => none
termination_by structural a => a
def A.rpuo (w : Nat → Option Nat) : List A → Option Nat
  | [] => some 0
  | a :: l => match (A.rpu w a), A.rpuo w l with
    | some n, some m => some (Nat.max n m)
    | _, _ => none
termination_by structural a => a
end
section
variable {Pi : Par} {w : Nat → Option Nat}
mutual
theorem rpu_ok (hw : ∀ k x m, w k = some m → Pi.u k x → RpOk m (toPy x)) : ∀ {a : A} {n : Nat} {x : D}, (A.rpu w a) = some n → Am Pi a x → RpOk n (toPy x)
  | .int lo hi, n, x, h, hx => by
    simp only [A.rpu] at h
    split at h
    · rename_i hc
      cases h
      obtain ⟨i, rfl, h1, h2⟩ := hx
      refine rp_int ?_
      rcases Int.le_total 0 i with q | q
      · exact log2_mono (a := i.natAbs) (b := hi.natAbs) (by omega) hc.2
      · exact log2_mono (a := i.natAbs) (b := lo.natAbs) (by omega) hc.1
    · cases h
  | .bl o, n, x, h, hx => by
    cases h
    cases o with
    | none => obtain ⟨b, rfl⟩ := hx; exact ⟨Nat.le_refl _, rfl, rfl⟩
    | some b => cases hx; exact ⟨Nat.le_refl _, rfl, rfl⟩
  | .non, n, x, h, hx => by cases h; cases hx; exact ⟨Nat.le_refl _, rfl, rfl⟩
  | .txs l, n, x, h, hx => by
    simp only [A.rpu] at h
    split at h
    · rename_i hc
      cases h
      obtain ⟨s, hs, rfl⟩ := hx
      exact (rp_str (List.all_eq_true.mp hc s hs)).le (maxLen_ok hs)
    · cases h
  | .txL _, n, x, h, hx => by cases h
  | .tup l, n, x, h, hx => by
    obtain ⟨m, rfl, hm⟩ := hx
    obtain ⟨h1, h2, h3⟩ := rpus_ok hw (by simpa only [A.rpu] using h) hm
    exact ⟨h1, h2, h3⟩
  | .lst l, n, x, h, hx => by
    obtain ⟨m, rfl, hm⟩ := hx
    obtain ⟨h1, h2, h3⟩ := rpus_ok hw (by simpa only [A.rpu] using h) hm
    exact ⟨h1, h2, h3⟩
  | .seq t lo hi a, n, x, h, hx => by
    simp only [A.rpu] at h
    split at h
    · rename_i k e
      cases h
      obtain ⟨m, rfl, _, h2, hm⟩ := hx
      obtain ⟨k1, k2, k3⟩ := rps_all fun y hy => rpu_ok hw e (hm y hy)
      have : m.length * (k + 1) ≤ hi * (k + 1) := Nat.mul_le_mul_right _ h2
      cases t <;> exact ⟨Nat.le_trans k1 this, k2, k3⟩
    · cases h
  | .dct l, n, x, h, hx => by
    obtain ⟨m, rfl, hm⟩ := hx
    obtain ⟨h1, h2, h3⟩ := rpuk_ok hw (by simpa only [A.rpu] using h) hm
    exact ⟨h1, h2, h3⟩
  | .any _, n, x, h, hx => by cases h
  | .or l, n, x, h, hx => rpuo_ok hw (by simpa only [A.rpu] using h) hx
  | .pd k, n, x, h, hx => hw k x n h hx
  | .dk _, n, x, h, hx => by cases h
termination_by structural a => a
theorem rpus_ok (hw : ∀ k x m, w k = some m → Pi.u k x → RpOk m (toPy x)) : ∀ {l : List A} {n : Nat} {m : List D}, A.rpus w l = some n → Ams Pi l m → RpsOk n (toPys m)
  | [], n, m, h, hm => by cases h; simp [Ams] at hm; subst hm; exact ⟨Nat.le_refl _, rfl, rfl⟩
  | a :: l, n, m, h, hm => by
    obtain ⟨x, r, rfl, h1, h2⟩ := hm
    simp only [A.rpus] at h
    split at h
    · rename_i i j e1 e2
      cases h
      obtain ⟨a1, a2, a3⟩ := rpu_ok hw e1 h1
      obtain ⟨b1, b2, b3⟩ := rpus_ok hw e2 h2
      exact ⟨by simp only [toPys, PyData.weightAll]; omega, by simp [toPys, PyData.leavesShortAll, a2, b2], by simp [toPys, PyData.showableAll, a3, b3]⟩
    · cases h
termination_by structural a => a
theorem rpuk_ok (hw : ∀ k x m, w k = some m → Pi.u k x → RpOk m (toPy x)) : ∀ {l : List (D × A)} {n : Nat} {m : List (D × D)}, A.rpuk w l = some n → Amk Pi l m → RpkOk n (toPyk m)
  | [], n, m, h, hm => by cases h; simp [Amk] at hm; subst hm; exact ⟨Nat.le_refl _, rfl, rfl⟩
  | (k, a) :: l, n, m, h, hm => by
    obtain ⟨x, r, rfl, _, h1, h2⟩ := hm
    simp only [A.rpuk] at h
    split at h
    · rename_i p i j e0 e1 e2
      cases h
      obtain ⟨a1, a2, a3⟩ := rpu_ok hw e1 h1
      obtain ⟨b1, b2, b3⟩ := rpuk_ok hw e2 h2
      have hk : RpOk p (keyPy k) := by
        unfold keyRp at e0
        split at e0
        · split at e0
          · cases e0; exact rp_int (by assumption)
          · cases e0
        · split at e0
          · cases e0; exact rp_str (by assumption)
          · cases e0
        · cases e0
      obtain ⟨c1, c2, c3⟩ := hk
      exact ⟨by simp only [toPyk, PyData.weightKv]; omega, by simp [toPyk, PyData.leavesShortKv, a2, b2, c2], by simp [toPyk, PyData.showableKv, a3, b3, c3]⟩
    · cases h
termination_by structural a => a
theorem rpuo_ok (hw : ∀ k x m, w k = some m → Pi.u k x → RpOk m (toPy x)) : ∀ {l : List A} {n : Nat} {x : D}, A.rpuo w l = some n → Amo Pi l x → RpOk n (toPy x)
  | [], n, x, h, hx => by cases hx
  | a :: l, n, x, h, hx => by
    simp only [A.rpuo] at h
    split at h
    · rename_i i j e1 e2
      cases h
      rcases hx with hx | hx
      · exact (rpu_ok hw e1 hx).le (Nat.le_max_left ..)
      · exact (rpuo_ok hw e2 hx).le (Nat.le_max_right ..)
    · cases h
termination_by structural a => a
end
end
theorem reprOk_w {n : Nat} {x : D} (h : RpOk n (toPy x)) (h2 : n ≤ 80000) (k1 : x.sm = true) (k2 : x.depth ≤ 60) : reprOk x = true := by
  obtain ⟨w, l, s⟩ := h
  have := PyData.shown_le 201 (by decide) (toPy x) l
  have hd := py_depth x
  simp only [reprOk, Bool.and_eq_true, decide_eq_true_eq]
  refine ⟨⟨⟨sm_plain k1, by omega⟩, s⟩, ?_⟩
  have h4 : (201 + 2) * (toPy x).weight ≤ 203 * 80000 := Nat.mul_le_mul (Nat.le_refl _) (by omega)
  have h5 : (toPy x).shown.length ≤ 203 * 80000 + 201 := by omega
  exact Nat.le_trans h5 (by decide)
end Ev

end

section
set_option Elab.async false
set_option linter.all false
set_option maxRecDepth 100000
set_option maxHeartbeats 0
namespace K48
open PySem Ev

def top (i : Nat) : Stmt := PySem.Challenge.pw_triesagain_k48_chances.main.body.getD i (.Pass ⟨0, 0, 0, 0⟩)

def i_is_whole : Nat := 0
def i_is_row : Nat := 1
def i_is_chance : Nat := 2
def i_learned : Nat := 3
def i__law_deck : Nat := 4
def i__law_truth : Nat := 5
def i__law_is_whole : Nat := 6
def i__law_is_chance : Nat := 7
def i__law_chance : Nat := 8
def i__law_bent : Nat := 9
def i__law_refused : Nat := 10
def i__law_learned : Nat := 11
def i_law : Nat := 12
def g_MOST_RUNS : Nat := 0
def g_MOST_COST : Nat := 1
/-- is_whole -/
def f_is_whole : Fn := ⟨3, 3, [false, false, false], false, [
  .ret (.and [(.isi (.var 0) [.int]), (.not (.isi (.var 0) [.bool])), (.cmp2 .le .le (.var 1) (.var 0) (.var 2))])]⟩

/-- is_row -/
def f_is_row : Fn := ⟨1, 1, [false], false, [
  .ret (.isi (.var 0) [.list, .tuple])]⟩

/-- is_chance -/
def f_is_chance : Fn := ⟨1, 1, [false], false, [
  .ite (.or [(.not (.of (.call i_is_row [(.var 0)]))), (.cmp .ne (.blt .len [(.var 0)]) (.lit (.int 3))), (.not (.of (.call i_is_whole [(.sub (.var 0) (.lit (.int 0))), (.lit (.int 0)), (.glo g_MOST_RUNS)])))]) [.ret (.lit (.bl false))] [],
  .ret (.and [(.call i_is_whole [(.sub (.var 0) (.lit (.int 1))), (.lit (.int 0)), (.sub (.var 0) (.lit (.int 0)))]), (.call i_is_whole [(.sub (.var 0) (.lit (.int 2))), (.lit (.int 1)), (.glo g_MOST_COST)])])]⟩

/-- learned -/
def f_learned : Fn := ⟨3, 3, [false, false, false], false, [
  .ite (.cmp .eq (.sub (.var 0) (.lit (.int 0))) (.glo g_MOST_RUNS)) [.rai 9 [0] [(.lit (.int 0))]] [],
  .ret (.tup [(.bin .add (.sub (.var 0) (.lit (.int 0))) (.lit (.int 1))), (.bin .add (.sub (.var 0) (.lit (.int 1))) (.blt .int [(.var 1)])), (.var 2)])]⟩

/-- _law_deck -/
def f__law_deck : Fn := ⟨2, 8, [false, false], true, [
  .new 2 (.blt .list [(.var 0)]),
  .ite (.cmp .eq (.var 2) (.lst [])) [.new 2 (.lst [(.lit (.int 4))])] [],
  .asg (.name 3) (.bin .mod (.sub (.var 2) (.lit (.int 0))) (.lit (.int 2))),
  .setSub (.var 2) (.lit (.int 0)) (.bin .fdiv (.sub (.var 2) (.lit (.int 0))) (.lit (.int 2))),
  .new 4 (.lst []),
  .for_ (.name 5) (.range1 (.var 1)) [.asg (.name 6) (.bin .mod (.var 5) (.blt .len [(.var 2)])), .asg (.name 7) (.bin .mod (.sub (.var 2) (.var 6)) (.lit (.int 1000000))), .ite (.cmp .eq (.var 3) (.lit (.int 0))) [.asg (.name 7) (.bin .mod (.bin .add (.bin .add (.sub (.var 2) (.var 6)) (.bin .mul (.bin .mul (.var 5) (.var 5)) (.lit (.int 16807)))) (.bin .mul (.lit (.int 3)) (.var 5))) (.lit (.int 2147483629))), .asg (.name 7) (.bin .mod (.bin .add (.bin .mul (.var 7) (.sub (.lst [(.lit (.int 48271)), (.lit (.int 69621)), (.lit (.int 39373)), (.lit (.int 40692))]) (.bin .mod (.var 5) (.lit (.int 4))))) (.lit (.int 7))) (.lit (.int 2147483647))), .asg (.name 7) (.bin .mod (.bin .mul (.var 7) (.var 7)) (.lit (.int 2147483629)))] [.setSub (.var 2) (.var 6) (.bin .fdiv (.sub (.var 2) (.var 6)) (.lit (.int 1000000)))], .expr (.meth .append (.var 4) [(.var 7)])],
  .expr (.meth .reverse (.var 4) []),
  .ret (.var 4)]⟩

/-- _law_truth -/
def f__law_truth : Fn := ⟨2, 2, [false, false], false, [
  .ret (.and [(.isi (.var 0) [.bool]), (.cmp .eq (.var 0) (.var 1))])]⟩

/-- _law_is_whole -/
def f__law_is_whole : Fn := ⟨3, 3, [false, false, false], false, [
  .ret (.and [(.isi (.var 0) [.int]), (.not (.isi (.var 0) [.bool])), (.cmp2 .le .le (.var 1) (.var 0) (.var 2))])]⟩

/-- _law_is_chance -/
def f__law_is_chance : Fn := ⟨1, 1, [false], false, [
  .ite (.or [(.not (.of (.isi (.var 0) [.list, .tuple]))), (.cmp .ne (.blt .len [(.var 0)]) (.lit (.int 3))), (.not (.of (.call i__law_is_whole [(.sub (.var 0) (.lit (.int 0))), (.lit (.int 0)), (.lit (.int 1000))])))]) [.ret (.lit (.bl false))] [],
  .ret (.and [(.call i__law_is_whole [(.sub (.var 0) (.lit (.int 1))), (.lit (.int 0)), (.sub (.var 0) (.lit (.int 0)))]), (.call i__law_is_whole [(.sub (.var 0) (.lit (.int 2))), (.lit (.int 1)), (.lit (.int 100000))])])]⟩

/-- _law_chance -/
def f__law_chance : Fn := ⟨1, 4, [true], false, [
  .asg (.name 1) (.meth .pop (.var 0) []),
  .asg (.name 2) (.sub (.lst [(.lit (.int 0)), (.lit (.int 1000)), (.lit (.int 999)), (.lit (.int 7)), (.bin .mod (.bin .fdiv (.var 1) (.lit (.int 5))) (.lit (.int 1001)))]) (.bin .mod (.var 1) (.lit (.int 5)))),
  .asg (.name 1) (.meth .pop (.var 0) []),
  .asg (.name 3) (.sub (.lst [(.lit (.int 0)), (.var 2), (.bin .mod (.bin .fdiv (.var 1) (.lit (.int 3))) (.bin .add (.var 2) (.lit (.int 1))))]) (.bin .mod (.var 1) (.lit (.int 3)))),
  .asg (.name 1) (.meth .pop (.var 0) []),
  .ret (.lst [(.var 2), (.var 3), (.sub (.lst [(.lit (.int 1)), (.lit (.int 100000)), (.bin .add (.lit (.int 1)) (.bin .mod (.bin .fdiv (.var 1) (.lit (.int 3))) (.lit (.int 100000))))]) (.bin .mod (.var 1) (.lit (.int 3))))])]⟩

/-- _law_bent -/
def f__law_bent : Fn := ⟨2, 5, [false, false], false, [
  .asg (.name 2) (.bin .mod (.var 1) (.lit (.int 8))),
  .asg (.name 3) (.bin .mod (.bin .fdiv (.var 1) (.lit (.int 8))) (.lit (.int 3))),
  .asg (.name 4) (.lst [(.lit (.bl true)), (.lit (.bl false)), (.lit (.str [49])), (.lit .non), (.tup [(.lit (.int 1)), (.lit (.int 2))]), (.neg (.lit (.int 1))), (.lit (.int 1001)), (.lit (.int 100001)), (.lit (.int 0)), (.bin .pow (.lit (.int 10)) (.lit (.int 20)))]),
  .ite (.cmp .eq (.var 2) (.lit (.int 0))) [.ret (.bin .add (.slc (.var 0) none (some (.var 3))) (.slc (.var 0) (some (.bin .add (.var 3) (.lit (.int 1)))) none))] [],
  .ite (.cmp .eq (.var 2) (.lit (.int 1))) [.ret (.bin .add (.var 0) (.lst [(.lit (.int 1))]))] [],
  .ite (.cmp .lt (.var 2) (.lit (.int 5))) [.ret (.bin .add (.bin .add (.slc (.var 0) none (some (.var 3))) (.lst [(.sub (.var 4) (.bin .mod (.bin .fdiv (.var 1) (.lit (.int 24))) (.lit (.int 10))))])) (.slc (.var 0) (some (.bin .add (.var 3) (.lit (.int 1)))) none))] [],
  .ite (.cmp .eq (.var 2) (.lit (.int 5))) [.ret (.lst [(.sub (.var 0) (.lit (.int 0))), (.bin .add (.sub (.var 0) (.lit (.int 0))) (.lit (.int 1))), (.sub (.var 0) (.lit (.int 2)))])] [],
  .ite (.cmp .eq (.var 2) (.lit (.int 6))) [.ret (.sub (.var 4) (.bin .mod (.bin .fdiv (.var 1) (.lit (.int 24))) (.lit (.int 10))))] [],
  .ret (.var 0)]⟩

/-- _law_refused -/
def f__law_refused : Fn := ⟨1, 3, [false], false, [
  .asg (.name 1) (.lit (.int 0)),
  .tr [.expr (.call i_learned [(.var 0), (.lit (.bl true)), (.lit (.int 5))])] [.mk 9 [9] (some 2) [.asg (.name 1) (.blt .int [(.and [(.cmp .eq (.att (.var 2) 0) (.lit (.int 0))), (.not (.isi (.att (.var 2) 0) [.bool]))])]), .ite (.of (.isx (.var 2) [2, 3, 4, 5, 6, 7, 8, 10] [2, 3, 4, 5, 6, 7, 8, 10])) [.asg (.name 1) (.lit (.int 0))] [], .ite (.of (.isx (.var 2) [11, 12, 13, 14, 1] [1, 11, 12, 13, 14])) [.asg (.name 1) (.lit (.int 0))] []]],
  .ite (.cmp .ne (.var 1) (.lit (.int 1))) [.ret (.lit (.bl false))] [],
  .tr [.expr (.call i_learned [(.var 0), (.lit (.bl false)), (.lit (.int 5))])] [.mk 0 [0, 1, 2, 3, 4, 5, 6, 7, 8, 9, 10, 11, 12, 13, 14] (some 2) [.asg (.name 1) (.bin .mul (.lit (.int 2)) (.blt .int [(.isx (.var 2) [1000] [0, 1, 2, 3, 4, 5, 6, 7, 8, 9, 10, 11, 12, 13, 14])]))]],
  .ret (.cmp .eq (.var 1) (.lit (.int 2)))]⟩

/-- _law_learned -/
def f__law_learned : Fn := ⟨3, 7, [false, false, false], false, [
  .asg (.name 3) (.blt .list [(.var 0)]),
  .ite (.cmp .eq (.sub (.var 0) (.lit (.int 0))) (.lit (.int 1000))) [.ret (.and [(.call i__law_refused [(.var 3)]), (.call i__law_refused [(.blt .tuple [(.var 0)])]), (.cmp .eq (.var 3) (.var 0))])] [],
  .asg (.name 4) (.tup [(.bin .add (.sub (.var 0) (.lit (.int 0))) (.lit (.int 1))), (.bin .add (.sub (.var 0) (.lit (.int 1))) (.sub (.lst [(.lit (.int 0)), (.lit (.int 1))]) (.blt .int [(.var 1)]))), (.var 2)]),
  .for_ (.name 5) (.of (.lst [(.call i_learned [(.var 3), (.var 1), (.var 2)]), (.call i_learned [(.blt .tuple [(.var 0)]), (.var 1), (.var 2)])])) [.ite (.or [(.not (.of (.isi (.var 5) [.tuple]))), (.cmp .ne (.var 5) (.var 4)), (.not (.of (.blt .all [(.lc (.call i__law_is_whole [(.var 6), (.lit (.int 0)), (.bin .pow (.lit (.int 10)) (.lit (.int 6)))]) (.name 6) [6] (.of (.var 5)) [])])))]) [.ret (.lit (.bl false))] []],
  .ret (.cmp .eq (.var 3) (.var 0))]⟩

/-- law -/
def f_law : Fn := ⟨1, 8, [false], false, [
  .asg (.name 1) (.call i__law_deck [(.var 0), (.lit (.int 40))]),
  .ite (.or [(.of (.call i_is_chance [(.tup [])])), (.cmp .ne (.call i_learned [(.lst [(.lit (.int 1)), (.lit (.int 0)), (.lit (.int 2))]), (.lit (.bl true)), (.lit (.int 3))]) (.tup [(.lit (.int 2)), (.lit (.int 1)), (.lit (.int 3))]))]) [.ret (.lit (.bl false))] [],
  .for_ (.name 2) (.range1 (.lit (.int 4))) [.asg (.name 3) (.call i__law_chance [(.var 1)]), .asg (.name 4) (.meth .pop (.var 1) []), .for_ (.name 5) (.of (.lst [(.var 3), (.blt .tuple [(.var 3)]), (.call i__law_bent [(.var 3), (.var 4)])])) [.ite (.not (.of (.call i__law_truth [(.call i_is_chance [(.var 5)]), (.call i__law_is_chance [(.var 5)])]))) [.ret (.lit (.bl false))] []], .asg (.name 6) (.call i__law_bent [(.var 3), (.meth .pop (.var 1) [])]), .ite (.and [(.of (.isi (.var 6) [.list])), (.not (.of (.call i__law_truth [(.call i_is_chance [(.blt .tuple [(.var 6)])]), (.call i__law_is_chance [(.var 6)])])))]) [.ret (.lit (.bl false))] [], .asg (.name 7) (.sub (.lst [(.lit (.int 1)), (.lit (.int 100000)), (.bin .add (.lit (.int 1)) (.bin .mod (.bin .fdiv (.var 4) (.lit (.int 2))) (.lit (.int 100000))))]) (.bin .mod (.var 4) (.lit (.int 3)))), .ite (.not (.of (.call i__law_learned [(.var 3), (.cmp .eq (.bin .mod (.var 4) (.lit (.int 2))) (.lit (.int 1))), (.var 7)]))) [.ret (.lit (.bl false))] []],
  .ret (.lit (.bl true))]⟩

def defs : List DX := [
  ⟨"is_whole", ["thing", "least", "most"], ["thing", "least", "most"], top 17, f_is_whole⟩,
  ⟨"is_row", ["thing"], ["thing"], top 18, f_is_row⟩,
  ⟨"is_chance", ["thing"], ["thing"], top 22, f_is_chance⟩,
  ⟨"learned", ["chance", "wrong", "cost"], ["chance", "wrong", "cost"], top 23, f_learned⟩,
  ⟨"_law_deck", ["_law_script", "_law_many"], ["_law_script", "_law_many", "_law_row", "_law_odd", "_law_deck_here", "_law_k", "_law_at", "_law_one"], top 25, f__law_deck⟩,
  ⟨"_law_truth", ["_law_found", "_law_due"], ["_law_found", "_law_due"], top 26, f__law_truth⟩,
  ⟨"_law_is_whole", ["_law_thing", "_law_least", "_law_most"], ["_law_thing", "_law_least", "_law_most"], top 27, f__law_is_whole⟩,
  ⟨"_law_is_chance", ["_law_thing"], ["_law_thing"], top 28, f__law_is_chance⟩,
  ⟨"_law_chance", ["_law_deck_here"], ["_law_deck_here", "_law_draw", "_law_runs", "_law_faults"], top 29, f__law_chance⟩,
  ⟨"_law_bent", ["_law_row", "_law_draw"], ["_law_row", "_law_draw", "_law_way", "_law_at", "_law_odd"], top 30, f__law_bent⟩,
  ⟨"_law_refused", ["_law_chance_here"], ["_law_chance_here", "_law_told", "error"], top 31, f__law_refused⟩,
  ⟨"_law_learned", ["_law_chance_here", "_law_wrong", "_law_cost"], ["_law_chance_here", "_law_wrong", "_law_cost", "_law_handed", "_law_due", "_law_one", "_law_number"], top 32, f__law_learned⟩,
  ⟨"law", ["_law_script"], ["_law_script", "_law_deck_here", "_law_k", "_law_chance_here", "_law_draw", "_law_thing", "_law_bent_here", "_law_cost"], top 33, f_law⟩]

def gl : List (Str × D) := [("MOST_RUNS", (.int 1000)), ("MOST_COST", (.int 100000))]

def dc : List (Str × List (List Nat × D)) := []

def fr : List Str := ["isinstance", "int", "bool", "list", "tuple", "len", "range", "ValueError", "all"]

def inTop (i j : Nat) : Stmt := match top i with
  | .ClassDef _ _ _ b _ _ _ _ _ _ _ => b.getD j (.Pass ⟨0, 0, 0, 0⟩)
  | s => s

def es : List EX := [
  ⟨"TryError", [0], none, .Pass ⟨0, 0, 0, 0⟩, "TryError.__init__"⟩,
  ⟨"TooMany", [1, 0], some 1, inTop 2 0, "TooMany.__init__"⟩,
  ⟨"NoRow", [2, 0], some 0, inTop 3 0, "NoRow.__init__"⟩,
  ⟨"NotThere", [3, 0], none, .Pass ⟨0, 0, 0, 0⟩, "NotThere.__init__"⟩,
  ⟨"NoTry", [4, 0], some 0, inTop 5 0, "NoTry.__init__"⟩,
  ⟨"ShowsNothing", [5, 0], none, .Pass ⟨0, 0, 0, 0⟩, "ShowsNothing.__init__"⟩,
  ⟨"NoLevel", [6, 0], none, .Pass ⟨0, 0, 0, 0⟩, "NoLevel.__init__"⟩,
  ⟨"NoBook", [7, 0], some 0, inTop 8 0, "NoBook.__init__"⟩,
  ⟨"TooGreat", [8, 0], some 1, inTop 9 0, "TooGreat.__init__"⟩,
  ⟨"NoChance", [9, 0], some 0, inTop 10 0, "NoChance.__init__"⟩,
  ⟨"NoOrder", [10, 0], none, .Pass ⟨0, 0, 0, 0⟩, "NoOrder.__init__"⟩,
  ⟨"NoChange", [11, 0], some 0, inTop 12 0, "NoChange.__init__"⟩,
  ⟨"NotRight", [12, 0], none, .Pass ⟨0, 0, 0, 0⟩, "NotRight.__init__"⟩,
  ⟨"NotWrong", [13, 0], none, .Pass ⟨0, 0, 0, 0⟩, "NotWrong.__init__"⟩,
  ⟨"NoLine", [14, 0], some 0, inTop 15 0, "NoLine.__init__"⟩]

def M : MX := ⟨defs, gl, dc, fr, 1000, es⟩

theorem M_inis : iniL M.es := ⟨trivial, ⟨_, _, _, _, _, _, rfl, rfl, rfl⟩, ⟨_, _, _, _, _, _, rfl, rfl, rfl⟩, trivial, ⟨_, _, _, _, _, _, rfl, rfl, rfl⟩, trivial, trivial, ⟨_, _, _, _, _, _, rfl, rfl, rfl⟩, ⟨_, _, _, _, _, _, rfl, rfl, rfl⟩, ⟨_, _, _, _, _, _, rfl, rfl, rfl⟩, trivial, ⟨_, _, _, _, _, _, rfl, rfl, rfl⟩, trivial, trivial, ⟨_, _, _, _, _, _, rfl, rfl, rfl⟩, trivial⟩

theorem M_ok : M.ok = true := by decide +kernel

theorem M_binds : BindsAll M := by
  intro f d h
  match f, h with

  | 0, h => cases h; exact fun _ _ _ _ _ _ us hl => (match us, hl with | [_, _, _], _ => rfl)

  | 1, h => cases h; exact fun _ _ _ _ _ _ us hl => (match us, hl with | [_], _ => rfl)

  | 2, h => cases h; exact fun _ _ _ _ _ _ us hl => (match us, hl with | [_], _ => rfl)

  | 3, h => cases h; exact fun _ _ _ _ _ _ us hl => (match us, hl with | [_, _, _], _ => rfl)

  | 4, h => cases h; exact fun _ _ _ _ _ _ us hl => (match us, hl with | [_, _], _ => rfl)

  | 5, h => cases h; exact fun _ _ _ _ _ _ us hl => (match us, hl with | [_, _], _ => rfl)

  | 6, h => cases h; exact fun _ _ _ _ _ _ us hl => (match us, hl with | [_, _, _], _ => rfl)

  | 7, h => cases h; exact fun _ _ _ _ _ _ us hl => (match us, hl with | [_], _ => rfl)

  | 8, h => cases h; exact fun _ _ _ _ _ _ us hl => (match us, hl with | [_], _ => rfl)

  | 9, h => cases h; exact fun _ _ _ _ _ _ us hl => (match us, hl with | [_, _], _ => rfl)

  | 10, h => cases h; exact fun _ _ _ _ _ _ us hl => (match us, hl with | [_], _ => rfl)

  | 11, h => cases h; exact fun _ _ _ _ _ _ us hl => (match us, hl with | [_, _, _], _ => rfl)

  | 12, h => cases h; exact fun _ _ _ _ _ _ us hl => (match us, hl with | [_], _ => rfl)

  | n + 13, h => cases h

def loose0 : List Str := ["TryError", "TooMany", "NoRow", "NotThere", "NoTry", "ShowsNothing", "NoLevel", "NoBook", "TooGreat", "NoChance", "NoOrder", "NoChange", "NotRight", "NotWrong", "NoLine", "is_whole", "is_row", "MOST_RUNS", "MOST_COST", "is_chance"]

def loose1 : List Str := ["learned", "_law_deck", "_law_truth", "_law_is_whole", "_law_is_chance", "_law_chance", "_law_bent", "_law_refused", "_law_learned"]

def loose : List Str := loose0 ++ loose1

def dLaw : DX := ⟨"law", ["_law_script"], ["_law_script", "_law_deck_here", "_law_k", "_law_chance_here", "_law_draw", "_law_thing", "_law_bent_here", "_law_cost"], top 33, f_law⟩

def lawIx : Nat := 33
def lawF : Nat := 12

abbrev R : PySem.W.OpenRow := PySem.W.OpenLaw.row PySem.Challenge.rw_triesagain_k48_chances

theorem run (w : World) : HandSHeadRun.RunEq R (PySem.W.view R.prog [33]) (hookM 6 M) (obM 6 M) 20000 loose w :=
  PySem.W.byRow2 "special-get-raises" (P := fun w => HandSHeadRun.RunEq R (PySem.W.view R.prog [33]) (hookM 6 M) (obM 6 M) 20000 loose w) (fun w os => by kernel_rfl) (fun w os => by kernel_rfl) w

end K48

open PySem PySem.W PySem.Calls PyProof.Rows
theorem K48.holds_of (h : Ev.Says K48.M K48.i_law 60 63) : PySem.Challenge.rw_triesagain_k48_chances.Holds := by
  w_on; o_law
  refine HandSHeadRun.head_any (r := OpenLaw.row PySem.Challenge.rw_triesagain_k48_chances) (q := view (OpenLaw.row PySem.Challenge.rw_triesagain_k48_chances).prog [33]) (H := Ev.hookM 6 K48.M) (ob := Ev.obM 6 K48.M) (M := 20000) (loose := K48.loose) (d := HandSHeadRun.topDef (OpenLaw.row PySem.Challenge.rw_triesagain_k48_chances).prog 33) (kwd := []) (Ev.obM_eq 6 K48.M)
    (by kernel_rfl) (fun s => by kernel_rfl) K48.run (by kernel_rfl) (by kernel_rfl) (by kernel_rfl) (by rfl) (by first | assumption | decide +kernel) (by decide +kernel) ⟨rfl, rfl, rfl, rfl, rfl, by decide +kernel⟩ ?hw ?hc
  case hw => w_witness2
  case hc =>
    refine Ev.walkG (l := PySem.Challenge.rw_triesagain_k48_chances) (n := 63) (k := 60) (x := "_law_script") (CX := Ev.CXe PySem.Challenge.rw_triesagain_k48_chances.prog) rfl (by decide) (by kernel_rfl) ⟨rfl, by decide, by decide⟩ ?F Ev.cxe_no
    intro w mg fa h1 Y G hmg0
    obtain ⟨K, KX, hnl, c⟩ := Y
    have hmg : mg ("law" : PySem.Str) = some (.ref fa) := by
      have e : (HandSHeadRun.topDef (OpenLaw.row PySem.Challenge.rw_triesagain_k48_chances).prog 33).name = ("law" : PySem.Str) := by kernel_rfl
      rw [← e]
      exact hmg0
    obtain ⟨fd, hb, hF⟩ := Ev.law_of (k := 60) (f := 12) KX G c K48.M_ok K48.M_binds K48.M_inis (d := K48.dLaw) rfl rfl hmg PySem.Challenge.rw_triesagain_k48_chances.prog
    exact ⟨K, fd, Ev.spC (Ev.rcOf K48.M K) (Ev.callP K48.M.pg 60) 12 1, KX, hb, fun H a ns hl _ hS => Ev.law_sp hnl h H a ns hl hS, hF⟩


end

section
set_option Elab.async false
set_option linter.all false
set_option maxRecDepth 100000
set_option maxHeartbeats 1000000
namespace K48
open Ev
abbrev P : Pg := M.pg
def whole : D → Int → Int → Bool
  | .int i, a, b => decide (a ≤ i) && decide (i ≤ b)
  | _, _, _ => false
theorem c_whole (n : Nat) (S : Store) (x : D) (a b : Int) (hx : D.sm x = true) : callP P (n + 1) i_is_whole [.d x, .d (.int a), .d (.int b)] S = .ok (.d (.bl (whole x a b))) S := by
  refine callP_pure (xs := [x, .int a, .int b]) (F := f_is_whole) rfl rfl rfl (v := .d (.bl (whole x a b))) (T := []) ?_ rfl
  cases x with
  | int i => 
    by_cases h : a ≤ i <;> simp [f_is_whole, isiD, isTy, whole, cmpD, h]
  | ins => simp [D.sm] at hx
  | _ => simp [f_is_whole, isiD, isTy, whole, cmpD]
theorem l_whole (n : Nat) (S : Store) (x : D) (a b : Int) (hx : D.sm x = true) : callP P (n + 1) i__law_is_whole [.d x, .d (.int a), .d (.int b)] S = .ok (.d (.bl (whole x a b))) S := by
  refine callP_pure (xs := [x, .int a, .int b]) (F := f__law_is_whole) rfl rfl rfl (v := .d (.bl (whole x a b))) (T := []) ?_ rfl
  cases x with
  | int i => 
    by_cases h : a ≤ i <;> simp [f__law_is_whole, isiD, isTy, whole, cmpD, h]
  | ins => simp [D.sm] at hx
  | _ => simp [f__law_is_whole, isiD, isTy, whole, cmpD]
def isRow : D → Bool
  | .lst _ => true
  | .tup _ => true
  | _ => false
theorem c_row (n : Nat) (S : Store) (x : D) (hx : D.sm x = true) : callP P (n + 1) i_is_row [.d x] S = .ok (.d (.bl (isRow x))) S := by
  refine callP_pure (xs := [x]) (F := f_is_row) rfl rfl rfl (v := .d (.bl (isRow x))) (T := []) ?_ rfl
  cases x with
  | ins => simp [D.sm] at hx
  | _ => simp [f_is_row, isiD, isTy, isRow]
theorem sms_mem : ∀ {l : List D}, D.sms l = true → ∀ x ∈ l, D.sm x = true
  | [], _, x, hx => nomatch hx
  | y :: l, h, x, hx => by
    simp only [D.sms, Bool.and_eq_true] at h
    rcases List.mem_cons.mp hx with rfl | hx
    · exact h.1
    · exact sms_mem h.2 x hx
def items : D → List D
  | .lst l => l
  | .tup l => l
  | _ => []
structure RowOf (x : D) (l : List D) : Prop where
  row : isRow x = true
  len : bltD .len [x] = some (.int l.length)
  ix : ∀ i, subD x (.int i) = ixD l i
  mem : ∀ y ∈ l, D.sm y = true
theorem rowOf {x : D} (hx : D.sm x = true) (hr : isRow x = true) : RowOf x (items x) := by
  cases x with
  | lst l => exact ⟨rfl, rfl, fun i => rfl, sms_mem (by simp only [D.sm, Bool.and_eq_true] at hx; exact hx.2)⟩
  | tup l => exact ⟨rfl, rfl, fun i => rfl, sms_mem (by simp only [D.sm, Bool.and_eq_true] at hx; exact hx.2)⟩
  | _ => cases hr
/-- what [32] says of a row of three -/
def ch3 : List D → Bool
  | [a, b, c] => whole a 0 1000 && (match a with | .int r => whole b 0 r | _ => false) && whole c 1 100000
  | _ => false
def chD (x : D) : Bool := isRow x && ch3 (items x)
theorem g1 : P.glo g_MOST_RUNS = some (.int 1000) := rfl
theorem g2 : P.glo g_MOST_COST = some (.int 100000) := rfl
theorem c_chance (n : Nat) (S : Store) (x : D) (hx : D.sm x = true) : callP P (n + 2) i_is_chance [.d x] S = .ok (.d (.bl (chD x))) S := by
  refine callP_pure (n := n + 1) (xs := [x]) (F := f_is_chance) rfl rfl rfl (v := .d (.bl (chD x))) (T := []) ?_ rfl
  have h1 := c_row n [] x hx
  cases hr : isRow x with
  | false => simp [f_is_chance, h1, hr, chD]
  | true =>
    have h := rowOf hx hr
    by_cases hl : (items x).length = 3
    · obtain ⟨a, b, c, e⟩ : ∃ a b c, items x = [a, b, c] := by
        match items x, hl with
        | [a, b, c], _ => exact ⟨a, b, c, rfl⟩
      rw [e] at h
      have j0 : subD x (.int 0) = some a := by rw [h.ix]; simp [ixD]
      have j1 : subD x (.int 1) = some b := by rw [h.ix]; simp [ixD]
      have j2 : subD x (.int 2) = some c := by rw [h.ix]; simp [ixD]
      have hlen := h.len
      have ha := fun p q => c_whole n [] a p q (h.mem a (by simp))
      have hb := fun p q => c_whole n [] b p q (h.mem b (by simp))
      have hc := fun p q => c_whole n [] c p q (h.mem c (by simp))
      cases qa : whole a 0 1000 with
      | false => simp [f_is_chance, h1, hr, onL, hlen, g1, j0, ha, qa, chD, e, ch3]
      | true =>
        cases a with
        | int r =>
          cases qb : whole b 0 r <;> simp [f_is_chance, h1, hr, onL, hlen, g1, g2, j0, j1, j2, ha, hb, hc, qa, qb, chD, e, ch3]
        | _ => simp [whole] at qa
    · have hlen := h.len
      have hn : ((items x).length : Int) ≠ 3 := by omega
      have hb : (((items x).length : Int) == 3) = false := beq_eq_false_iff_ne.mpr hn
      have e : ch3 (items x) = false := by
        unfold ch3
        split
        · rename_i q; rw [q] at hl; simp at hl
        · rfl
      simp [f_is_chance, h1, hr, onL, hlen, hb, chD, e]
theorem l_chance (n : Nat) (S : Store) (x : D) (hx : D.sm x = true) : callP P (n + 2) i__law_is_chance [.d x] S = .ok (.d (.bl (chD x))) S := by
  refine callP_pure (n := n + 1) (xs := [x]) (F := f__law_is_chance) rfl rfl rfl (v := .d (.bl (chD x))) (T := []) ?_ rfl
  cases hr : isRow x with
  | false => cases x <;> first | (simp [isRow] at hr; done) | (simp [D.sm] at hx; done) | simp [f__law_is_chance, isiD, isTy, chD, isRow]
  | true =>
    have h := rowOf hx hr
    have hi : isiD [.list, .tuple] x = some (.bl true) := by cases x <;> first | (simp [isRow] at hr; done) | simp [isiD, isTy]
    by_cases hl : (items x).length = 3
    · obtain ⟨a, b, c, e⟩ : ∃ a b c, items x = [a, b, c] := by
        match items x, hl with
        | [a, b, c], _ => exact ⟨a, b, c, rfl⟩
      rw [e] at h
      have j0 : subD x (.int 0) = some a := by rw [h.ix]; simp [ixD]
      have j1 : subD x (.int 1) = some b := by rw [h.ix]; simp [ixD]
      have j2 : subD x (.int 2) = some c := by rw [h.ix]; simp [ixD]
      have hlen := h.len
      have ha := fun p q => l_whole n [] a p q (h.mem a (by simp))
      have hb := fun p q => l_whole n [] b p q (h.mem b (by simp))
      have hc := fun p q => l_whole n [] c p q (h.mem c (by simp))
      cases qa : whole a 0 1000 with
      | false => simp [f__law_is_chance, hi, hr, onL, hlen, j0, ha, qa, chD, e, ch3]
      | true =>
        cases a with
        | int r =>
          cases qb : whole b 0 r <;> simp [f__law_is_chance, hi, hr, onL, hlen, j0, j1, j2, ha, hb, hc, qa, qb, chD, e, ch3]
        | _ => simp [whole] at qa
    · have hlen := h.len
      have hn : ((items x).length : Int) ≠ 3 := by omega
      have hb : (((items x).length : Int) == 3) = false := beq_eq_false_iff_ne.mpr hn
      have e : ch3 (items x) = false := by
        unfold ch3
        split
        · rename_i q; rw [q] at hl; simp at hl
        · rfl
      simp [f__law_is_chance, hi, hr, onL, hlen, hb, chD, e]
theorem l_truth (n : Nat) (S : Store) (b : Bool) : callP P (n + 1) i__law_truth [.d (.bl b), .d (.bl b)] S = .ok (.d (.bl true)) S := by
  refine callP_pure (xs := [.bl b, .bl b]) (F := f__law_truth) rfl rfl rfl (v := .d (.bl true)) (T := []) ?_ rfl
  simp [f__law_truth, isiD, isTy]
end K48

end

section
set_option Elab.async false
set_option linter.all false
set_option maxRecDepth 100000
set_option maxHeartbeats 1000000
namespace K48
open Ev
def b2i (b : Bool) : Int := cond b 1 0
/-- a row of a chance's three numbers -/
def Ch (x : D) (r f c : Int) : Prop := x = .lst [.int r, .int f, .int c] ∨ x = .tup [.int r, .int f, .int c]
theorem Ch.s0 {x : D} {r f c : Int} (h : Ch x r f c) : subD x (.int 0) = some (.int r) := by rcases h with rfl | rfl <;> simp [ixD]
theorem Ch.s1 {x : D} {r f c : Int} (h : Ch x r f c) : subD x (.int 1) = some (.int f) := by rcases h with rfl | rfl <;> simp [ixD]
theorem b3 : (3 : Nat) ≤ big := by decide
theorem b2' : (2 : Nat) ≤ big := by decide
theorem c_learned (n : Nat) (S : Store) (x : D) (r f c k : Int) (w : Bool) (h : Ch x r f c) (hr : r ≠ 1000) : callP P (n + 1) i_learned [.d x, .d (.bl w), .d (.int k)] S = .ok (.d (.tup [.int (r + 1), .int (f + b2i w), .int k])) S := by
  refine callP_pure (xs := [x, .bl w, .int k]) (F := f_learned) rfl rfl rfl (v := .d (.tup [.int (r + 1), .int (f + b2i w), .int k])) (T := []) ?_ rfl
  have hb : (r == 1000) = false := beq_eq_false_iff_ne.mpr hr
  simp [f_learned, h.s0, h.s1, g1, hb, onL, bltD, disp, b3, b2i]
theorem c_refuse (n : Nat) (S : Store) (x : D) (f c k : Int) (w : Bool) (h : Ch x 1000 f c) : callP P (n + 1) i_learned [.d x, .d (.bl w), .d (.int k)] S = .exc ⟨9, [(0, .int 0)]⟩ S := by
  refine callP_exc (xs := [x, .bl w, .int k]) (F := f_learned) (T := []) rfl rfl ?_
  simp [f_learned, h.s0, g1, raiR]
theorem l_refused (n : Nat) (S : Store) (x : D) (f c : Int) (h : Ch x 1000 f c) : callP P (n + 2) i__law_refused [.d x] S = .ok (.d (.bl true)) S := by
  refine callP_pure (n := n + 1) (xs := [x]) (F := f__law_refused) rfl rfl rfl (v := .d (.bl true)) (T := []) ?_ rfl
  have e1 := fun S => c_refuse n S x f c 5 true h
  have e2 := fun S => c_refuse n S x f c 5 false h
  simp [f__law_refused, e1, e2, asgSs, asgS, setX, Exn.d, attD, isxD, isiD, isTy, onL, bltD, unsetR, unset, binD, lim]
theorem eq3 (r f c : Int) : eqA (.lst [.int r, .int f, .int c]) (.lst [.int r, .int f, .int c]) = some true := by
  simp [eqA, eqOk, D.plain, D.plains, D.depth, D.depths, eqD, eqDs]
theorem ne3 (r f c : Int) : neA (.tup [.int r, .int f, .int c]) (.tup [.int r, .int f, .int c]) = some false := by
  simp [neA, eqOk, D.plain, D.plains, D.depth, D.depths, D.nodct, D.nodcts, eqD, eqDs]
theorem l_learned (n : Nat) (S : Store) (r f c k : Int) (w : Bool) (h1 : 0 ≤ r) (h2 : r ≤ 1000) (h3 : 0 ≤ f) (h4 : f ≤ 1000) (h5 : 1 ≤ k) (h6 : k ≤ 100000) : callP P (n + 3) i__law_learned [.d (.lst [.int r, .int f, .int c]), .d (.bl w), .d (.int k)] S = .ok (.d (.bl true)) S := by
  refine callP_pure (n := n + 2) (xs := [.lst [.int r, .int f, .int c], .bl w, .int k]) (F := f__law_learned) rfl rfl rfl (v := .d (.bl true)) (T := []) ?_ rfl
  by_cases hr : r = 1000
  · subst hr
    have e1 := fun S => l_refused n S (.lst [.int 1000, .int f, .int c]) f c (.inl rfl)
    have e2 := fun S => l_refused n S (.tup [.int 1000, .int f, .int c]) f c (.inr rfl)
    simp [f__law_learned, onL, ixD, e1, e2, eq3]
  · have hb : (r == 1000) = false := beq_eq_false_iff_ne.mpr hr
    have e1 := fun S => c_learned (n + 1) S (.lst [.int r, .int f, .int c]) r f c k w (.inl rfl) hr
    have e2 := fun S => c_learned (n + 1) S (.tup [.int r, .int f, .int c]) r f c k w (.inr rfl) hr
    have w1 : ∀ i : Int, 0 ≤ i → i ≤ 1000000 → ∀ S, callP P (n + 2) i__law_is_whole [.d (.int i), .d (.int 0), .d (.int 1000000)] S = .ok (.d (.bl true)) S := fun i a b S => by
      rw [l_whole (n + 1) S (.int i) 0 1000000 rfl]
      simp [whole, a, b]
    have hw : 0 ≤ b2i w ∧ b2i w ≤ 1 := by cases w <;> decide
    have a1 := w1 (r + 1) (by omega) (by omega)
    have a2 := w1 (f + b2i w) (by omega) (by omega)
    have a3 := w1 k (by omega) (by omega)
    have hp : binD .pow (.int 10) (.int 6) = some (.int 1000000) := by simp [binD]
    cases w
    · have e1 : ∀ S, callP P (n + 2) i_learned [.d (.lst [.int r, .int f, .int c]), .d (.bl false), .d (.int k)] S = .ok (.d (.tup [.int (r + 1), .int f, .int k])) S := by simpa [b2i] using e1
      have e2 : ∀ S, callP P (n + 2) i_learned [.d (.tup [.int r, .int f, .int c]), .d (.bl false), .d (.int k)] S = .ok (.d (.tup [.int (r + 1), .int f, .int k])) S := by simpa [b2i] using e2
      have a2 : ∀ S, callP P (n + 2) i__law_is_whole [.d (.int f), .d (.int 0), .d (.int 1000000)] S = .ok (.d (.bl true)) S := by simpa [b2i] using a2
      simp [f__law_learned, onL, ixD, hb, bltD, e1, e2, disp, b3, b2', fzs, srcOf, forT_name, lcL, lcT_name, isiD, isTy, ne3, a1, a2, a3, hp, blsOf, big, eq3]
    · have e1 : ∀ S, callP P (n + 2) i_learned [.d (.lst [.int r, .int f, .int c]), .d (.bl true), .d (.int k)] S = .ok (.d (.tup [.int (r + 1), .int (f + 1), .int k])) S := by simpa [b2i] using e1
      have e2 : ∀ S, callP P (n + 2) i_learned [.d (.tup [.int r, .int f, .int c]), .d (.bl true), .d (.int k)] S = .ok (.d (.tup [.int (r + 1), .int (f + 1), .int k])) S := by simpa [b2i] using e2
      have a2 : ∀ S, callP P (n + 2) i__law_is_whole [.d (.int (f + 1)), .d (.int 0), .d (.int 1000000)] S = .ok (.d (.bl true)) S := by simpa [b2i] using a2
      simp [f__law_learned, onL, ixD, hb, bltD, e1, e2, disp, b3, b2', fzs, srcOf, forT_name, lcL, lcT_name, isiD, isTy, ne3, a1, a2, a3, hp, blsOf, big, eq3]
end K48

end

section
set_option Elab.async false
set_option linter.all false
set_option maxRecDepth 100000
set_option maxHeartbeats 1000000
namespace K48
open Ev
/-- a slot of small data -/
def smAt (s : ASig) (j : Nat) : Bool := match s[j]? with
  | some (some (.d k)) => k.anyB 60
  | _ => false
theorem smAt_ok {Pi : Par} {s : ASig} {σ : Sig} {j : Nat} (h : smAt s j = true) (hs : AmG Pi s σ) : ∃ x, σ[j]? = some (some (.d x)) ∧ x.sm = true := by
  unfold smAt at h
  split at h
  · rename_i k e
    obtain ⟨o, h1, v, rfl, x, rfl, hx⟩ := hs.get e
    exact ⟨x, h1, (anyB_ok h hx).1⟩
  · cases h
def hxL (f : Nat) (e : Exp) (s : ASig) (S : ASt) : Option (AV × ASt) := match e with
  | .call g [.call a [.var j], .call b [.var k]] => if f = i_law ∧ g = i__law_truth ∧ a = i_is_chance ∧ b = i__law_is_chance ∧ j = k then (if smAt s j then some (.d (aB true), S) else none) else none
  | _ => none
def htL (f : Nat) (e : Tst) (s : ASig) (S : ASt) : Option (A × ASt) := match e with
  | .and [.of (.isi (.var i) [.list]), .not (.of (.call g [.call a [.blt .tuple [.var j]], .call b [.var k]]))] => if f = i_law ∧ g = i__law_truth ∧ a = i_is_chance ∧ b = i__law_is_chance ∧ j = k ∧ i = j then (if smAt s j then some (aB false, S) else none) else none
  | _ => none
def leaC (vs : List AV) (S : ASt) : Option (AV × ASt) := match vs with
  | [.d (.lst [.int a b, .int c d, .int _ _]), .d (.bl _), .d (.int e g)] => if 0 ≤ a ∧ b ≤ 1000 ∧ 0 ≤ c ∧ d ≤ 1000 ∧ 1 ≤ e ∧ g ≤ 100000 then some (.d (aB true), S) else none
  | _ => none
theorem bl_of {Pi : Par} {o : Option Bool} {x : D} (h : Am Pi (.bl o) x) : ∃ w, x = .bl w := by
  cases o with
  | none => obtain ⟨b, rfl⟩ := h; exact ⟨b, rfl⟩
  | some b => exact ⟨b, h⟩
theorem leaC_ok {Pi : Par} {vs : List AV} {xs : List Val} {S : ASt} {T : Store} {p : AV × ASt} {N : Nat} (h : leaC vs S = some p) (hv : All2 (AmV Pi) vs xs) (hS : AmS Pi S T) (hN : 10 ≤ N) : OkV Pi p (callP P N i__law_learned xs T) := by
  unfold leaC at h
  split at h
  · split at h
    · rename_i hc
      cases h
      obtain ⟨_, _, rfl, ⟨x, rfl, l, rfl, y1, r1, rfl, ⟨r, rfl, h1, h2⟩, y2, r2, rfl, ⟨f, rfl, h3, h4⟩, y3, r3, rfl, ⟨c, rfl, _, _⟩, e0⟩, hv⟩ := hv
      have e0 : r3 = [] := e0
      subst e0
      obtain ⟨_, _, rfl, ⟨x, rfl, hw⟩, hv⟩ := hv
      obtain ⟨_, _, rfl, ⟨x', rfl, k, rfl, h5, h6⟩, hv⟩ := hv
      simp [All2] at hv
      subst hv
      obtain ⟨w, rfl⟩ := bl_of hw
      obtain ⟨M, rfl⟩ : ∃ M, N = M + 3 := ⟨N - 3, by omega⟩
      rw [l_learned M T r f c k w (by omega) (by omega) (by omega) (by omega) (by omega) (by omega)]
      exact okd rfl hS
    · cases h
  · cases h
def h0 : Hint where
  con := fun f vs S => if f = i__law_learned then leaC vs S else none
  hx := hxL
  ht := htL
theorem truth_at {n j : Nat} {σ : Sig} {T : Store} {x : D} (h : σ[j]? = some (some (.d x))) (hx : x.sm = true) : ev ⟨callP P (n + 2), P.glo, P.gdc, P.wf⟩ (.call i__law_truth [.call i_is_chance [.var j], .call i__law_is_chance [.var j]]) σ T = .ok (.d (.bl true)) T := by
  have e1 := c_chance n T x hx
  have e2 := l_chance n T x hx
  have e3 := l_truth (n + 1) T (chD x)
  simp [h, e1, e2, e3]
theorem h0_ok (dl : Nat) : ConOk ⟨dl, scriptU⟩ P h0 10 := by
  refine ⟨fun {f vs xs S T p N} h hv hS hN => ?_, fun {f e s S p σ T N} h hs hS hN => ?_, fun {f e s S p σ T N} h hs hS hN => ?_⟩
  · simp only [h0] at h
    split at h
    · rename_i e
      subst e
      exact leaC_ok h hv hS hN
    · cases h
  · simp only [h0, hxL] at h
    split at h
    · split at h
      · rename_i hc
        obtain ⟨_, rfl, rfl, rfl, rfl⟩ := hc
        split at h
        · rename_i hj
          cases h
          obtain ⟨x, hσ, hx⟩ := smAt_ok hj hs
          obtain ⟨M, rfl⟩ : ∃ M, N = M + 2 := ⟨N - 2, by omega⟩
          rw [truth_at hσ hx]
          exact okd rfl hS
        · cases h
      · cases h
    · cases h
  · simp only [h0, htL] at h
    split at h
    · split at h
      · rename_i hc
        obtain ⟨_, rfl, rfl, rfl, rfl, rfl⟩ := hc
        split at h
        · rename_i hj
          cases h
          obtain ⟨x, hσ, hx⟩ := smAt_ok hj hs
          obtain ⟨M, rfl⟩ : ∃ M, N = M + 2 := ⟨N - 2, by omega⟩
          refine ⟨false, T, ?_, rfl, hS⟩
          cases x with
          | lst l =>
            have e1 := c_chance M T (.tup l) (by simpa [D.sm] using hx)
            have e2 := l_chance M T (.lst l) hx
            have e3 := l_truth (M + 1) T (chD (.lst l))
            have e4 : chD (.tup l) = chD (.lst l) := rfl
            rw [e4] at e1
            simp [hσ, isiD, isTy, onL, e1, e2, e3]
          | ins => simp [D.sm] at hx
          | _ => simp [hσ, isiD, isTy]
        · cases h
      · cases h
    · cases h
def eC : Smm := ⟨i__law_chance, [none], 3, .lst [.int 0 1000, .int 0 1000, .int 1 100000]⟩
def eB : Smm := ⟨i__law_bent, [some (.lst [.int 0 1000, .int 0 1000, .int 1 100000]), some (.int 0 2147483647)], 0, .any 5⟩
theorem kC : eC.check P h0 2 = true := by decide +kernel
theorem kB : eB.check P (addS h0 eC) 2 = true := by decide +kernel
def h1 := addS (addS h0 eC) eB
theorem h1_ok : ∀ dl, ConOk ⟨dl, scriptU⟩ P h1 16 := addS_ok (addS_ok h0_ok kC) kB
def h2 := addC h1 fun f vs S => if f = i__law_deck then deckC vs S else none
theorem h2_ok : ConOk ⟨0, scriptU⟩ P h2 16 := addC_ok (h1_ok 0) (Nat.le_refl _) fun {f vs xs S T p N} h hv hS hN => by
  split at h
  · rename_i e
    subst e
    exact deckC_ok (by rfl) h hv hS (by omega)
  · cases h
theorem says : Says M i_law 60 63 := says_of (n := 8) h2_ok (by decide) (by decide +kernel)
end K48

end

theorem PySem.Challenge.cw_triesagain_k48_chances_holds : PySem.Challenge.rw_triesagain_k48_chances.Holds :=
  K48.holds_of K48.says
