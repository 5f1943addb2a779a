import PyProof.Rows.All
import Wide.All
import OpenK.AllK
import Wide.FinOn
import PySem.Challenge.RW_litwebs_k02_whole_texts_of_webs
import HandS.ForMost
import HandS.ForExc
import HandS.TupAny
import HandS.Deep
import KE.DataAny
import KE.DataMinMax
import KE.SortData
import HandS.IsInst
import HandS.StrMore
import HandS.FStr
import HandS.DictComp
import HandS.TupLen
import HandS.OwnEq
import HandS.Steps
import PyProof.InstNe
import PyProof.DictFindH
import HandS.EndBits
import HandS.Codes
set_option Elab.async false
set_option linter.all false
set_option maxRecDepth 100000
set_option maxHeartbeats 0
/-! LW1: data by value, owned contents, the state relation. -/
namespace LW
open PySem PySem.Spec PyProof.Rows L2

/-- data: what a Python value is, by value -/
inductive D where
  | non | bl (b : Bool) | int (i : Int) | str (s : Str)
  | tup (ds : List D) | lst (ds : List D) | dct (t : Bool) (kvs : List (D × D))
  | ins (c : Str) (fs : List (Str × D))

/-- the key of a dict as data -/
def keyD : Key → D
  | .inl i => .int i
  | .inr x => .str x

/-- a tuple of the heap, no constant's -/
def TupAt (_K : PySem.W.Frag) (F : Hp) (a : Addr) (xs : List V) : Prop := F a = some (.tup xs)
section
variable (K : PySem.W.Frag) (mg : Str → Option Value) (F : Hp)
mutual
/-- v stands for the datum d in the heap F -/
inductive Rep : V → D → Prop where
  | non : Rep .non .non
  | bl (b : Bool) : Rep (.bl b) (.bl b)
  | int (i : Int) : Rep (.int i) (.int i)
  | str (s : Str) : Rep (.str s) (.str s)
  | tup {a : Addr} {xs : List V} {ds : List D} : TupAt K F a xs → RepL xs ds → Rep (.ref a) (.tup ds)
  | lst {a : Addr} {xs : List V} {ds : List D} : SqL K F a xs → RepL xs ds → Rep (.ref a) (.lst ds)
  | dK {a : Addr} {kvs : List (Key × V)} {ds : List (D × D)} : F a = some (.dK kvs) → RepK kvs ds → Rep (.ref a) (.dct false ds)
  | dT {a : Addr} {kvs : List (List Key × V)} {ds : List (D × D)} : F a = some (.dT kvs) → RepT kvs ds → Rep (.ref a) (.dct true ds)
  | ins {a C dx : Addr} {c : Str} {gs : List (Str × V)} {fs : List (Str × D)} : F a = some (.ins C dx gs) → mg c = some (.ref C) → RepF gs fs → Rep (.ref a) (.ins c fs)
inductive RepL : List V → List D → Prop where
  | nil : RepL [] []
  | cons {x : V} {d : D} {xs : List V} {ds : List D} : Rep x d → RepL xs ds → RepL (x :: xs) (d :: ds)
inductive RepF : List (Str × V) → List (Str × D) → Prop where
  | nil : RepF [] []
  | cons {n : Str} {x : V} {d : D} {xs : List (Str × V)} {ds : List (Str × D)} : Rep x d → RepF xs ds → RepF ((n, x) :: xs) ((n, d) :: ds)
inductive RepK : List (Key × V) → List (D × D) → Prop where
  | nil : RepK [] []
  | cons {n : Key} {x : V} {d : D} {xs : List (Key × V)} {ds : List (D × D)} : Rep x d → RepK xs ds → RepK ((n, x) :: xs) ((keyD n, d) :: ds)
inductive RepT : List (List Key × V) → List (D × D) → Prop where
  | nil : RepT [] []
  | cons {n : List Key} {x : V} {d : D} {xs : List (List Key × V)} {ds : List (D × D)} : Rep x d → RepT xs ds → RepT ((n, x) :: xs) ((.tup (n.map keyD), d) :: ds)
end
end

/-- all of F stands in F' -/
def Le (F F' : Hp) : Prop := ∀ a o, F a = some o → F' a = some o
theorem Le.refl (F : Hp) : Le F F := fun _ _ h => h
theorem Le.trans {F F1 F2 : Hp} (a : Le F F1) (b : Le F1 F2) : Le F F2 := fun c o h => b c o (a c o h)
theorem Rd.le {F F' : Hp} {a : Addr} {u : HO} (l : Le F F') (r : Rd F a u) : Rd F' a u := by
  rcases r with r | ⟨o, r⟩
  · exact .inl (l _ _ r)
  · exact .inr ⟨o, l _ _ r⟩
theorem SqL_le {K : PySem.W.Frag} {F F' : Hp} {a : Addr} {xs : List V} (l : Le F F') (r : SqL K F a xs) : SqL K F' a xs := by
  rcases r with r | r
  · exact .inl (Rd.le l r)
  · exact .inr r
theorem SqT_le {K : PySem.W.Frag} {F F' : Hp} {a : Addr} {xs : List V} (l : Le F F') (r : SqT K F a xs) : SqT K F' a xs := by
  rcases r with r | r
  · exact .inl (Rd.le l r)
  · exact .inr r

section
variable {K : PySem.W.Frag} {mg : Str → Option Value} {F F' : Hp}
mutual
theorem Rep.mono (l : Le F F') : ∀ {v : V} {d : D}, Rep K mg F v d → Rep K mg F' v d
  | _, _, .non => .non
  | _, _, .bl b => .bl b
  | _, _, .int i => .int i
  | _, _, .str s => .str s
  | _, _, .tup h r => .tup (l _ _ h) (RepL.mono l r)
  | _, _, .lst h r => .lst (SqL_le l h) (RepL.mono l r)
  | _, _, .dK h r => .dK (l _ _ h) (RepK.mono l r)
  | _, _, .dT h r => .dT (l _ _ h) (RepT.mono l r)
  | _, _, .ins h g r => .ins (l _ _ h) g (RepF.mono l r)
theorem RepL.mono (l : Le F F') : ∀ {v : List V} {d : List D}, RepL K mg F v d → RepL K mg F' v d
  | _, _, .nil => .nil
  | _, _, .cons h r => .cons (Rep.mono l h) (RepL.mono l r)
theorem RepF.mono (l : Le F F') : ∀ {v : List (Str × V)} {d : List (Str × D)}, RepF K mg F v d → RepF K mg F' v d
  | _, _, .nil => .nil
  | _, _, .cons h r => .cons (Rep.mono l h) (RepF.mono l r)
theorem RepK.mono (l : Le F F') : ∀ {v : List (Key × V)} {d : List (D × D)}, RepK K mg F v d → RepK K mg F' v d
  | _, _, .nil => .nil
  | _, _, .cons h r => .cons (Rep.mono l h) (RepK.mono l r)
theorem RepT.mono (l : Le F F') : ∀ {v : List (List Key × V)} {d : List (D × D)}, RepT K mg F v d → RepT K mg F' v d
  | _, _, .nil => .nil
  | _, _, .cons h r => .cons (Rep.mono l h) (RepT.mono l r)
end

theorem RepL.length : ∀ {xs : List V} {ds : List D}, RepL K mg F xs ds → xs.length = ds.length
  | _, _, .nil => rfl
  | _, _, .cons _ r => congrArg (· + 1) r.length
theorem RepL.get : ∀ {xs : List V} {ds : List D} {i : Nat} {d : D}, RepL K mg F xs ds → ds[i]? = some d → ∃ x, xs[i]? = some x ∧ Rep K mg F x d
  | _, _, _, _, .nil, e => by simp at e
  | _, _, 0, _, .cons h _, e => by simp at e; subst e; exact ⟨_, rfl, h⟩
  | _, _, i + 1, d, .cons _ r, e => by
    obtain ⟨x, h1, h2⟩ := RepL.get (i := i) (d := d) r (by simpa using e)
    exact ⟨x, by simpa using h1, h2⟩
theorem RepL.getV : ∀ {xs : List V} {ds : List D} {i : Nat} {x : V}, RepL K mg F xs ds → xs[i]? = some x → ∃ d, ds[i]? = some d ∧ Rep K mg F x d
  | _, _, _, _, .nil, e => by simp at e
  | _, _, 0, _, .cons h _, e => by simp at e; subst e; exact ⟨_, rfl, h⟩
  | _, _, i + 1, d, .cons _ r, e => by
    obtain ⟨x, h1, h2⟩ := RepL.getV (i := i) (x := d) r (by simpa using e)
    exact ⟨x, by simpa using h1, h2⟩
theorem RepL.append : ∀ {xs ys : List V} {ds es : List D}, RepL K mg F xs ds → RepL K mg F ys es → RepL K mg F (xs ++ ys) (ds ++ es)
  | _, _, _, _, .nil, s => s
  | _, _, _, _, .cons h r, s => .cons h (r.append s)
theorem RepL.take : ∀ {xs : List V} {ds : List D} (n : Nat), RepL K mg F xs ds → RepL K mg F (xs.take n) (ds.take n)
  | _, _, 0, _ => .nil
  | _, _, _ + 1, .nil => .nil
  | _, _, n + 1, .cons h r => .cons h (r.take n)
theorem RepL.drop : ∀ {xs : List V} {ds : List D} (n : Nat), RepL K mg F xs ds → RepL K mg F (xs.drop n) (ds.drop n)
  | _, _, 0, r => r
  | _, _, _ + 1, .nil => .nil
  | _, _, n + 1, .cons _ r => r.drop n
theorem RepL.set : ∀ {xs : List V} {ds : List D} (n : Nat) {x : V} {d : D}, RepL K mg F xs ds → Rep K mg F x d → RepL K mg F (xs.set n x) (ds.set n d)
  | _, _, _, _, _, .nil, _ => .nil
  | _, _, 0, _, _, .cons _ r, h => .cons h r
  | _, _, n + 1, _, _, .cons h' r, h => .cons h' (r.set n h)
end

/-- what a slot holds: a datum that may be shared, or a list, a dict, an instance that this slot alone holds -/
inductive O where
  | v (d : D) | l (ds : List D) | k (t : Bool) (kvs : List (D × D)) | i (c : Str) (fs : List (Str × O))

mutual
def O.d : O → D
  | .v d => d
  | .l ds => .lst ds
  | .k t kvs => .dct t kvs
  | .i c fs => .ins c (O.dF fs)
def O.dF : List (Str × O) → List (Str × D)
  | [] => []
  | (n, o) :: r => (n, o.d) :: O.dF r
end

/-- the owner of an address: a path (slot, field, ..) -/
abbrev Lab := Addr → Option (List Nat)

section
variable (K : PySem.W.Frag) (mg : Str → Option Value) (F H : Hp) (lab : Lab)
mutual
inductive RepO : List Nat → V → O → Prop where
  | v {p : List Nat} {x : V} {d : D} : Rep K mg F x d → RepO p x (.v d)
  | l {p : List Nat} {a : Addr} {xs : List V} {ds : List D} : lab a = some p → H a = some (.lst xs) → RepL K mg F xs ds → RepO p (.ref a) (.l ds)
  | kK {p : List Nat} {a : Addr} {kvs : List (Key × V)} {ds : List (D × D)} : lab a = some p → H a = some (.dK kvs) → RepK K mg F kvs ds → RepO p (.ref a) (.k false ds)
  | kT {p : List Nat} {a : Addr} {kvs : List (List Key × V)} {ds : List (D × D)} : lab a = some p → H a = some (.dT kvs) → RepT K mg F kvs ds → RepO p (.ref a) (.k true ds)
  | i {p : List Nat} {a C dx : Addr} {c : Str} {gs : List (Str × V)} {fs : List (Str × O)} : lab a = some p → H a = some (.ins C dx gs) → mg c = some (.ref C) → RepOF p 0 gs fs → RepO p (.ref a) (.i c fs)
inductive RepOF : List Nat → Nat → List (Str × V) → List (Str × O) → Prop where
  | nil {p : List Nat} {j : Nat} : RepOF p j [] []
  | cons {p : List Nat} {j : Nat} {n : Str} {x : V} {o : O} {xs : List (Str × V)} {os : List (Str × O)} : RepO (p ++ [j]) x o → RepOF p (j + 1) xs os → RepOF p j ((n, x) :: xs) ((n, o) :: os)
end
end

section
variable {K : PySem.W.Frag} {mg : Str → Option Value} {F F' H H' : Hp} {lab lab' : Lab}
mutual
/-- the owned objects as they were, under another path -/
theorem RepO.stay (l : Le F F') : ∀ {p q : List Nat} {v : V} {o : O}, (∀ a r, lab a = some (p ++ r) → H' a = H a ∧ lab' a = some (q ++ r)) → RepO K mg F H lab p v o → RepO K mg F' H' lab' q v o
  | p, q, _, _, hk, .v r => .v (r.mono l)
  | p, q, _, _, hk, .l (a := a) h1 h2 r => by
    have z := hk a [] (by rw [List.append_nil]; exact h1)
    rw [List.append_nil] at z
    exact .l z.2 (z.1.trans h2) (r.mono l)
  | p, q, _, _, hk, .kK (a := a) h1 h2 r => by
    have z := hk a [] (by rw [List.append_nil]; exact h1)
    rw [List.append_nil] at z
    exact .kK z.2 (z.1.trans h2) (r.mono l)
  | p, q, _, _, hk, .kT (a := a) h1 h2 r => by
    have z := hk a [] (by rw [List.append_nil]; exact h1)
    rw [List.append_nil] at z
    exact .kT z.2 (z.1.trans h2) (r.mono l)
  | p, q, _, _, hk, .i (a := a) h1 h2 h3 r => by
    have z := hk a [] (by rw [List.append_nil]; exact h1)
    rw [List.append_nil] at z
    exact .i z.2 (z.1.trans h2) h3 (RepOF.stay l (fun j a r e => hk a (j :: r) e) r)
theorem RepOF.stay (l : Le F F') : ∀ {p q : List Nat} {j : Nat} {v : List (Str × V)} {o : List (Str × O)}, (∀ i a r, lab a = some (p ++ i :: r) → H' a = H a ∧ lab' a = some (q ++ i :: r)) → RepOF K mg F H lab p j v o → RepOF K mg F' H' lab' q j v o
  | p, q, j, _, _, hk, .nil => .nil
  | p, q, j, _, _, hk, .cons h r => .cons (RepO.stay l (fun a r e => by
      rw [List.append_assoc] at e ⊢
      exact hk j a r e) h) (RepOF.stay l hk r)
end
mutual
/-- let go of the ownership: what was labelled stands in F' -/
theorem RepO.frz (l : Le F F') : ∀ {p : List Nat} {v : V} {o : O}, (∀ a r, lab a = some (p ++ r) → F' a = H a) → RepO K mg F H lab p v o → Rep K mg F' v o.d
  | p, _, _, hk, .v r => r.mono l
  | p, _, _, hk, .l (a := a) h1 h2 r => .lst (SqL.of ((hk a [] (by rw [List.append_nil]; exact h1)).trans h2)) (r.mono l)
  | p, _, _, hk, .kK (a := a) h1 h2 r => .dK ((hk a [] (by rw [List.append_nil]; exact h1)).trans h2) (r.mono l)
  | p, _, _, hk, .kT (a := a) h1 h2 r => .dT ((hk a [] (by rw [List.append_nil]; exact h1)).trans h2) (r.mono l)
  | p, _, _, hk, .i (a := a) h1 h2 h3 r => .ins ((hk a [] (by rw [List.append_nil]; exact h1)).trans h2) h3 (RepOF.frz l (fun j a r e => hk a (j :: r) e) r)
theorem RepOF.frz (l : Le F F') : ∀ {p : List Nat} {j : Nat} {v : List (Str × V)} {o : List (Str × O)}, (∀ i a r, lab a = some (p ++ i :: r) → F' a = H a) → RepOF K mg F H lab p j v o → RepF K mg F' v (O.dF o)
  | p, j, _, _, hk, .nil => .nil
  | p, j, _, _, hk, .cons h r => .cons (RepO.frz l (fun a r e => hk j a r (by rw [List.append_assoc] at e; exact e)) h) (RepOF.frz l hk r)
end
end
end LW

/-! LW2: outcomes, the state relation, moves, the judgements. -/
namespace LW
open PySem PySem.Spec PyProof.Rows L2

abbrev Env := List (Option O)
/-- what an expression hands on: a datum, a new owned thing, a look at an owned thing -/
inductive P where
  | v (d : D) | f (o : O) | s (d : D)
def P.d : P → D
  | .v d => d
  | .f o => o.d
  | .s d => d
/-- an own exception: its class, its attributes -/
structure EX where
  c : Str
  fs : List (Str × D)
inductive Out (α : Type) where
  | ok (a : α) (ρ : Env) | exc (x : EX) (ρ : Env) | no
def Out.bind {α β : Type} (m : Out α) (k : α → Env → Out β) : Out β :=
  match m with
  | .ok a ρ => k a ρ
  | .exc x ρ => .exc x ρ
  | .no => .no
@[simp] theorem Out.bind_ok {α β : Type} (a : α) (ρ : Env) (k : α → Env → Out β) : (Out.ok a ρ).bind k = k a ρ := rfl
@[simp] theorem Out.bind_exc {α β : Type} (x : EX) (ρ : Env) (k : α → Env → Out β) : (Out.exc x ρ).bind k = .exc x ρ := rfl
@[simp] theorem Out.bind_no {α β : Type} (k : α → Env → Out β) : (Out.no : Out α).bind k = .no := rfl

section
variable (K : PySem.W.Frag) (mg : Str → Option Value)
/-- v is read as d now -/
inductive RepS (F H : Hp) : V → D → Prop where
  | v {x : V} {d : D} : Rep K mg F x d → RepS F H x d
  | l {a : Addr} {xs : List V} {ds : List D} : H a = some (.lst xs) → RepL K mg F xs ds → RepS F H (.ref a) (.lst ds)
  | kK {a : Addr} {kvs : List (Key × V)} {ds : List (D × D)} : H a = some (.dK kvs) → RepK K mg F kvs ds → RepS F H (.ref a) (.dct false ds)
  | kT {a : Addr} {kvs : List (List Key × V)} {ds : List (D × D)} : H a = some (.dT kvs) → RepT K mg F kvs ds → RepS F H (.ref a) (.dct true ds)
def RepP (N : Addr → Prop) (F H : Hp) (lab : Lab) (v : V) : P → Prop
  | .v d => Rep K mg F v d
  | .s d => RepS K mg F H v d
  | .f o => ∃ l2 : Lab, RepO K mg F H l2 [] v o ∧ ∀ a p, l2 a = some p → N a ∧ lab a = none ∧ F a = none ∧ H a ≠ none
def RepX (F : Hp) (cls : Value) (d : Option Addr) (x : EX) : Prop :=
  ∃ C, cls = .ref C ∧ mg x.c = some (.ref C) ∧ (x.fs ≠ [] → ∃ dd gs, d = some dd ∧ F dd = some (.xd gs) ∧ RepF K mg F gs x.fs)
end

/-- the frozen part stands, the owned part is no frozen one -/
structure Bas (F H : Hp) (lab : Lab) : Prop where
  le : Le F H
  lf : ∀ a p, lab a = some p → F a = none ∧ H a ≠ none
structure SR (K : PySem.W.Frag) (mg : Str → Option Value) (F H : Hp) (lab : Lab) (σ : L2.St) (ρ : Env) : Prop where
  bas : Bas F H lab
  env : ∀ (i : Nat) (o : O), ρ[i]? = some (some o) → ∃ v, σ[i]? = some (some v) ∧ RepO K mg F H lab [i] v o
  len : ρ.length = σ.length

/-- what an evaluation may change -/
structure Move (q : Bool) (F H : Hp) (lab : Lab) (F' H' : Hp) (lab' : Lab) : Prop where
  ff : Le F F'
  th : ∀ a, H a ≠ none → H' a ≠ none
  fr : ∀ a, H a ≠ none → (q = true ∨ lab a = none) → H' a = H a ∧ lab' a = lab a ∧ (F a = none → F' a = none)
section
variable {q : Bool} {F H F1 H1 F2 H2 : Hp} {lab lab1 lab2 : Lab}
theorem Move.refl : Move q F H lab F H lab := ⟨Le.refl _, fun _ h => h, fun _ _ _ => ⟨rfl, rfl, fun h => h⟩⟩
theorem Move.trans (a : Move q F H lab F1 H1 lab1) (b : Move q F1 H1 lab1 F2 H2 lab2) : Move q F H lab F2 H2 lab2 :=
  ⟨a.ff.trans b.ff, fun c h => b.th c (a.th c h), fun c h hq => by
    obtain ⟨e1, e2, e3⟩ := a.fr c h hq
    obtain ⟨g1, g2, g3⟩ := b.fr c (a.th c h) (hq.imp id fun z => e2.trans z)
    exact ⟨g1.trans e1, g2.trans e2, fun z => g3 (e3 z)⟩⟩
theorem Move.weak (q' : Bool) (h : q' = true → q = true) (a : Move q F H lab F1 H1 lab1) : Move q' F H lab F1 H1 lab1 :=
  ⟨a.ff, a.th, fun c hc hq => a.fr c hc (hq.imp h id)⟩
theorem Move.to_false (a : Move q F H lab F1 H1 lab1) : Move false F H lab F1 H1 lab1 := a.weak false fun z => nomatch z
/-- not an old thing of others: it may be labelled, frozen, turned -/
def New (q : Bool) (H : Hp) (lab : Lab) (a : Addr) : Prop := H a ≠ none → (q = true ∨ lab a = none) → False
theorem New.of_none {a : Addr} (h : H a = none) : New q H lab a := fun z _ => z h
theorem New.since {q1 : Bool} {a : Addr} (n : New q1 H1 lab1 a) (m : Move q F H lab F1 H1 lab1) (h : q = true → q1 = true) : New q H lab a := fun h1 h2 => by
  obtain ⟨e1, e2, _⟩ := m.fr a h1 h2
  exact n (by rw [e1]; exact h1) (h2.imp h fun z => e2.trans z)
theorem New.weak {q1 : Bool} {a : Addr} (n : New q H lab a) (h : q1 = true → q = true) : New q1 H lab a := fun h1 h2 => n h1 (h2.imp h id)
theorem Move.back {c : Addr} (a : Move q F H lab F1 H1 lab1) (h : H1 c = none) : H c = none := by
  cases e : H c with
  | none => rfl
  | some o => exact absurd h (a.th c (by rw [e]; exact fun z => nomatch z))
end
/-- only new things -/
structure Grow (F H F' H' : Hp) : Prop where
  ff : Le F F'
  hh : Le H H'
  fn : ∀ a, H a ≠ none → F a = none → F' a = none
  le : Le F' H'
section
variable {q : Bool} {F H F1 H1 F2 H2 : Hp} {lab lab1 lab2 : Lab} {K : PySem.W.Frag} {mg : Str → Option Value} {σ : L2.St} {ρ ρ1 : Env}
theorem ne_none {H : Hp} {a : Addr} {o : HO} (h : H a = some o) : H a ≠ none := by rw [h]; exact fun z => nomatch z
theorem Grow.eqH (g : Grow F H F1 H1) {a : Addr} (h : H a ≠ none) : H1 a = H a := by
  cases e : H a with
  | none => exact absurd e h
  | some o => exact g.hh a o e
theorem Grow.refl (l : Le F H) : Grow F H F H := ⟨Le.refl _, Le.refl _, fun _ _ h => h, l⟩
theorem Grow.move (g : Grow F H F1 H1) : Move q F H lab F1 H1 lab :=
  ⟨g.ff, fun a h => by rw [g.eqH h]; exact h, fun a h _ => ⟨g.eqH h, rfl, g.fn a h⟩⟩
theorem Grow.bas (b : Bas F H lab) (g : Grow F H F1 H1) : Bas F1 H1 lab :=
  ⟨g.le, fun a p h => by
    obtain ⟨h1, h2⟩ := b.lf a p h
    exact ⟨g.fn a h2 h1, by rw [g.eqH h2]; exact h2⟩⟩
theorem Grow.sr (s : SR K mg F H lab σ ρ) (g : Grow F H F1 H1) : SR K mg F1 H1 lab σ ρ :=
  ⟨g.bas s.bas, fun i o h => by
    obtain ⟨v, h1, h2⟩ := s.env i o h
    exact ⟨v, h1, h2.stay g.ff fun a r e => ⟨g.eqH (s.bas.lf a _ e).2, e⟩⟩, s.len⟩
theorem Grow.trans (a : Grow F H F1 H1) (b : Grow F1 H1 F2 H2) : Grow F H F2 H2 :=
  ⟨a.ff.trans b.ff, a.hh.trans b.hh, fun c h z => b.fn c (by rw [a.eqH h]; exact h) (a.fn c h z), b.le⟩
/-- a new object, frozen at once -/
theorem Grow.new (l : Le F H) {p : Addr} {o : HO} (hp : H p = none) : Grow F H (upd F p o) (upd H p o) := by
  have fp : F p = none := by
    cases e : F p with
    | none => rfl
    | some u => rw [l p u e] at hp; cases hp
  refine ⟨fun a u h => ?_, fun a u h => ?_, fun a h z => ?_, fun a u h => ?_⟩
  · rw [upd_ne (ne_of_none h fp)]; exact h
  · rw [upd_ne (ne_of_none h hp)]; exact h
  · by_cases e : a = p
    · subst e; exact absurd hp h
    · rw [upd_ne e]; exact z
  · by_cases e : a = p
    · subst e; rw [upd_same] at h ⊢; exact h
    · rw [upd_ne e] at h ⊢; exact l a u h
/-- a new object that is not frozen -/
theorem Grow.own (l : Le F H) {p : Addr} {o : HO} (hp : H p = none) : Grow F H F (upd H p o) :=
  ⟨Le.refl _, fun a u h => by rw [upd_ne (ne_of_none h hp)]; exact h, fun _ _ z => z, fun a u h => by rw [upd_ne (ne_of_none (l a u h) hp)]; exact l a u h⟩

/-! ### how representations stay -/
theorem RepS.mono {v : V} {d : D} (l : Le F F1) (k : ∀ a, H a ≠ none → H1 a = H a) (r : RepS K mg F H v d) : RepS K mg F1 H1 v d := by
  cases r with
  | v r => exact .v (r.mono l)
  | l h r => exact .l ((k _ (ne_none h)).trans h) (r.mono l)
  | kK h r => exact .kK ((k _ (ne_none h)).trans h) (r.mono l)
  | kT h r => exact .kT ((k _ (ne_none h)).trans h) (r.mono l)
/-- may it still be read behind a move of the kind q -/
def P.sure (q : Bool) : P → Bool
  | .s _ => q
  | _ => true
theorem RepP.step {N : Addr → Prop} {v : V} {p : P} (r : RepP K mg N F H lab v p) (m : Move q F H lab F1 H1 lab1) (hs : p.sure q = true) : RepP K mg N F1 H1 lab1 v p := by
  cases p with
  | v d => exact Rep.mono m.ff r
  | s d =>
    have e : q = true := hs
    exact RepS.mono m.ff (fun a h => (m.fr a h (.inl e)).1) r
  | f o =>
    obtain ⟨l2, r, h⟩ := r
    refine ⟨l2, r.stay m.ff fun a p e => ?_, fun a p e => ?_⟩
    · obtain ⟨_, h2, _, h4⟩ := h a _ e
      exact ⟨(m.fr a h4 (.inr h2)).1, e⟩
    · obtain ⟨h1, h2, h3, h4⟩ := h a _ e
      obtain ⟨g1, g2, g3⟩ := m.fr a h4 (.inr h2)
      exact ⟨h1, g2.trans h2, g3 h3, m.th a h4⟩
theorem RepP.since {N N' : Addr → Prop} {v : V} {p : P} (r : RepP K mg N' F H lab v p) (h : ∀ a, N' a → N a) : RepP K mg N F H lab v p := by
  cases p with
  | v d => exact r
  | s d => exact r
  | f o =>
    obtain ⟨l2, r, k⟩ := r
    exact ⟨l2, r, fun a p e => ⟨h a (k a p e).1, (k a p e).2⟩⟩
/-- what can be read -/
def P.rd : P → Option D
  | .v d => some d
  | .s d => some d
  | .f (.v d) => some d
  | .f (.l ds) => some (.lst ds)
  | .f (.k t kvs) => some (.dct t kvs)
  | .f (.i _ _) => none
theorem RepP.rd {N : Addr → Prop} {v : V} {p : P} {d : D} (r : RepP K mg N F H lab v p) (e : p.rd = some d) : RepS K mg F H v d := by
  cases p with
  | v d' => cases e; exact .v r
  | s d' => cases e; exact r
  | f o =>
    obtain ⟨l2, r, _⟩ := r
    cases r with
    | v r => cases e; exact .v r
    | l _ h r => cases e; exact .l h r
    | kK _ h r => cases e; exact .kK h r
    | kT _ h r => cases e; exact .kT h r
    | i _ _ _ _ => cases e
/-- let go of a new thing's ownership -/
theorem RepP.frz {N : Addr → Prop} {v : V} {o : O} (b : Bas F H lab) (r : RepP K mg N F H lab v (.f o)) :
    ∃ F', Le F F' ∧ Bas F' H lab ∧ (∀ a, ¬ N a → F a = none → F' a = none) ∧ Rep K mg F' v o.d := by
  obtain ⟨l2, r, k⟩ := r
  have hl : Le F (fun a => if (l2 a).isSome then H a else F a) := fun a u h => by
    show (if (l2 a).isSome then H a else F a) = some u
    cases e : l2 a with
    | none => exact h
    | some p => exact absurd (k a p e).2.2.1 (ne_none h)
  refine ⟨fun a => if (l2 a).isSome then H a else F a, hl, ⟨fun a u h => ?_, fun a p h => ⟨?_, (b.lf a p h).2⟩⟩, fun a h0 h => ?_, r.frz hl fun a p e => ?_⟩
  · have h' : (if (l2 a).isSome then H a else F a) = some u := h
    split at h'
    · exact h'
    · exact b.le a u h'
  · show (if (l2 a).isSome then H a else F a) = none
    cases e : l2 a with
    | none => exact (b.lf a p h).1
    | some p' => rw [(k a p' e).2.1] at h; cases h
  · show (if (l2 a).isSome then H a else F a) = none
    cases e : l2 a with
    | none => exact h
    | some p => exact absurd (k a p e).1 h0
  · show (if (l2 a).isSome then H a else F a) = H a
    have e' : l2 a = some p := e
    rw [e']; rfl
theorem SR.frzF {F' : Hp} (s : SR K mg F H lab σ ρ) (l : Le F F') (b : Bas F' H lab) : SR K mg F' H lab σ ρ :=
  ⟨b, fun i o h => by
    obtain ⟨v, h1, h2⟩ := s.env i o h
    exact ⟨v, h1, h2.stay l fun a r e => ⟨rfl, e⟩⟩, s.len⟩
end

/-! ### the judgements -/
section
variable (K : PySem.W.Frag) (mg : Str → Option Value)
/-- the outcome m is met: what follows, Q, holds at each state that m tells; an exception's, W -/
def Meets {α β : Type} (W : WX) (q : Bool) (F H : Hp) (lab : Lab) (σ : L2.St) (rep : Hp → Hp → Lab → β → α → Prop) (m : Out α) (Q : β → Hp → Prop) : Prop :=
  match m with
  | .ok a ρ' => ∀ b F' H' lab', Move q F H lab F' H' lab' → SR K mg F' H' lab' σ ρ' → rep F' H' lab' b a → Q b H'
  | .exc x ρ' => ∀ cls d F' H' lab', Move false F H lab F' H' lab' → SR K mg F' H' lab' σ ρ' → RepX K mg F' cls d x → W cls d σ H'
  | .no => False
/-- an expression that computes f, as a reading -/
def tD (W : WX) (q : Bool) (f : Env → Out P) : TE := fun σ H Q => ∃ ρ F lab, SR K mg F H lab σ ρ ∧ Meets K mg W q F H lab σ (RepP K mg (New q H lab)) (f ρ) Q
def tDT (W : WX) (q : Bool) (f : Env → Out Bool) : TT := fun σ H Q => ∃ ρ F lab, SR K mg F H lab σ ρ ∧ Meets K mg W q F H lab σ (fun _ _ _ b a => b = a) (f ρ) Q
def tDA (W : WX) (q : Bool) (f : Env → Out (List D)) : TA := fun σ H Q => ∃ ρ F lab, SR K mg F H lab σ ρ ∧ Meets K mg W q F H lab σ (fun F' _ _ b a => RepL K mg F' b a) (f ρ) Q
end
def DE (X : Cx) (W : WX) (q : Bool) (e : Expr) (f : Env → Out P) : Prop := PE X e (tD X.K X.mg W q f)
def DT (X : Cx) (W : WX) (q : Bool) (e : Expr) (f : Env → Out Bool) : Prop := PT X e (tDT X.K X.mg W q f)
def DA (X : Cx) (W : WX) (q : Bool) (es : List Expr) (f : Env → Out (List D)) : Prop := PA X es (tDA X.K X.mg W q f)

theorem PE_weak {X : Cx} {e : Expr} {t t' : TE} (h : PE X e t) (k : ∀ σ H Q, t' σ H Q → t σ H Q) : PE X e t' := ⟨fun pins s σ H Q I w => h.run pins s σ H Q I (k σ H Q w)⟩
theorem PT_weak {X : Cx} {e : Expr} {t t' : TT} (h : PT X e t) (k : ∀ σ H Q, t' σ H Q → t σ H Q) : PT X e t' := ⟨fun pins s σ H Q I w => h.run pins s σ H Q I (k σ H Q w)⟩
theorem PA_weak {X : Cx} {e : List Expr} {t t' : TA} (h : PA X e t) (k : ∀ σ H Q, t' σ H Q → t σ H Q) : PA X e t' := ⟨fun pos pins s σ H Q I w => h.run pos pins s σ H Q I (k σ H Q w)⟩
theorem PS_weak {X : Cx} {e : Stmt} {t t' : TS} (h : PS X e t) (k : ∀ D σ H, t' D σ H → t D σ H) : PS X e t' := ⟨fun pins s σ H D I w => h.run pins s σ H D I (k D σ H w)⟩

section
variable {K : PySem.W.Frag} {mg : Str → Option Value} {W : WX} {q q1 : Bool} {F H F1 H1 : Hp} {lab lab1 : Lab} {σ : L2.St} {ρ ρ1 : Env}
variable {α β γ δ : Type} {rep : Hp → Hp → Lab → β → α → Prop} {m : Out α} {Q : β → Hp → Prop}
theorem Meets.imp {Q' : β → Hp → Prop} (h : Meets K mg W q F H lab σ rep m Q) (k : ∀ b H', Q b H' → Q' b H') : Meets K mg W q F H lab σ rep m Q' := by
  cases m with
  | ok a ρ' => exact fun b F' H' lab' mv sr r => k _ _ (h b F' H' lab' mv sr r)
  | exc x ρ' => exact h
  | no => exact h
theorem Meets.weak (hq : q = true → q1 = true) (h : Meets K mg W q F H lab σ rep m Q) : Meets K mg W q1 F H lab σ rep m Q := by
  cases m with
  | ok a ρ' => exact fun b F' H' lab' mv sr r => h b F' H' lab' (mv.weak q hq) sr r
  | exc x ρ' => exact h
  | no => exact h
/-- the first of two: behind it the second stands with its own outcome -/
theorem Meets.seq {rep2 : (Addr → Prop) → Hp → Hp → Lab → δ → γ → Prop} {k : α → Env → Out γ} {Q2 : δ → Hp → Prop} {Q1 : β → Hp → Prop} {qa : Bool}
    (hqa : q = true → qa = true) (since : ∀ N N' F' H' lab' d c, (∀ a, N a → N' a) → rep2 N F' H' lab' d c → rep2 N' F' H' lab' d c)
    (h : Meets K mg W q F H lab σ (rep2 (New q H lab)) (m.bind k) Q2)
    (step : ∀ b a ρ1 F1 H1 lab1, Move qa F H lab F1 H1 lab1 → SR K mg F1 H1 lab1 σ ρ1 → rep F1 H1 lab1 b a → Meets K mg W q F1 H1 lab1 σ (rep2 (New q H1 lab1)) (k a ρ1) Q2 → Q1 b H1) :
    Meets K mg W qa F H lab σ rep m Q1 := by
  cases m with
  | no => exact h
  | exc x ρ' => exact h
  | ok a ρ1 =>
    intro b F1 H1 lab1 mv sr r
    refine step b a ρ1 F1 H1 lab1 mv sr r ?_
    have h' : Meets K mg W q F H lab σ (rep2 (New q H lab)) (k a ρ1) Q2 := h
    cases e : k a ρ1 with
    | no => rw [e] at h'; exact h'
    | exc x ρ2 =>
      rw [e] at h'
      exact fun cls d F2 H2 lab2 mv2 sr2 rx => h' cls d F2 H2 lab2 (mv.to_false.trans mv2) sr2 rx
    | ok c ρ2 =>
      rw [e] at h'
      exact fun b2 F2 H2 lab2 mv2 sr2 rc => h' b2 F2 H2 lab2 ((mv.weak q hqa).trans mv2) sr2 (since _ _ F2 H2 lab2 b2 c (fun a n => n.since (mv.weak q hqa) id) rc)
theorem sinceP (N N' : Addr → Prop) (F' H' : Hp) (lab' : Lab) (d : V) (c : P) (h : ∀ a, N a → N' a) (r : RepP K mg N F' H' lab' d c) : RepP K mg N' F' H' lab' d c := r.since h
/-- the end of a rule: new things alone -/
theorem Meets.grow {p : P} {v : V} {Q : VK} (h : Meets K mg W q F H lab σ (RepP K mg (New q H lab)) (.ok p ρ) Q) (sr : SR K mg F H lab σ ρ) (g : Grow F H F1 H1) (r : RepP K mg (fun a => H a = none) F1 H1 lab v p) : Q v H1 :=
  h v F1 H1 lab g.move (g.sr sr) (r.since fun a z => .of_none z)
end
end LW

/-! LW3: names, constants, operators, displays. -/
namespace LW
open PySem PySem.Spec PyProof.Rows L2

section
variable {K : PySem.W.Frag} {mg : Str → Option Value} {F H : Hp} {lab : Lab} {v : V}
/-! ### what a read datum is -/
theorem RepS.int {i : Int} (r : RepS K mg F H v (.int i)) : v = .int i := by cases r with | v r => cases r; rfl
theorem RepS.bl {i : Bool} (r : RepS K mg F H v (.bl i)) : v = .bl i := by cases r with | v r => cases r; rfl
theorem RepS.str {i : Str} (r : RepS K mg F H v (.str i)) : v = .str i := by cases r with | v r => cases r; rfl
theorem RepS.non (r : RepS K mg F H v .non) : v = .non := by cases r with | v r => cases r; rfl
theorem RepS.tup {ds : List D} (l : Le F H) (r : RepS K mg F H v (.tup ds)) : ∃ a xs, v = .ref a ∧ SqT K H a xs ∧ RepL K mg F xs ds := by
  cases r with | v r => cases r with | tup h r => exact ⟨_, _, rfl, SqT.of (l _ _ h), r⟩
theorem RepS.lst {ds : List D} (l : Le F H) (r : RepS K mg F H v (.lst ds)) : ∃ a xs, v = .ref a ∧ SqL K H a xs ∧ RepL K mg F xs ds := by
  cases r with
  | v r => cases r with | lst h r => exact ⟨_, _, rfl, SqL_le l h, r⟩
  | l h r => exact ⟨_, _, rfl, SqL.of h, r⟩
end

/-! ### names -/
def sVar (i : Nat) (ρ : Env) : Out P := match ρ[i]? with
  | some (some (.v d)) => .ok (.v d) ρ
  | some (some (.l ds)) => .ok (.s (.lst ds)) ρ
  | some (some (.k t kvs)) => .ok (.s (.dct t kvs)) ρ
  | _ => .no
def sFrz (i : Nat) (ρ : Env) : Out P := match ρ[i]? with
  | some (some o) => .ok (.v o.d) (ρ.set i (some (.v o.d)))
  | _ => .no
def sMov (i : Nat) (ρ : Env) : Out P := match ρ[i]? with
  | some (some o) => .ok (.f o) (ρ.set i none)
  | _ => .no
/-- the labels of the slot i taken away -/
def unlab (lab : Lab) (i : Nat) : Lab := fun a => match lab a with
  | some (j :: r) => if j = i then none else some (j :: r)
  | z => z
/-- the labels of the slot i, alone -/
def labAt (lab : Lab) (i : Nat) : Lab := fun a => match lab a with
  | some (j :: r) => if j = i then some r else none
  | _ => none
theorem unlab_other {lab : Lab} {i j : Nat} {a : Addr} {r : List Nat} (h : j ≠ i) (e : lab a = some (j :: r)) : unlab lab i a = some (j :: r) := by
  unfold unlab; rw [e]; simp [h]
theorem unlab_none {lab : Lab} {i : Nat} {a : Addr} (e : lab a = none) : unlab lab i a = none := by unfold unlab; rw [e]
theorem unlab_sub {lab : Lab} {i : Nat} {a : Addr} {p : List Nat} (e : unlab lab i a = some p) : lab a = some p ∧ ∀ r, p ≠ i :: r := by
  unfold unlab at e
  split at e
  · rename_i j r h
    split at e
    · cases e
    · rename_i hn
      cases e
      exact ⟨h, fun r' z => by cases z; exact hn rfl⟩
  · rename_i h
    exact ⟨e, fun r z => h i r (e.trans (congrArg some z))⟩
theorem labAt_of {lab : Lab} {i : Nat} {a : Addr} {r : List Nat} (e : lab a = some (i :: r)) : labAt lab i a = some r := by unfold labAt; rw [e]; simp
theorem of_labAt {lab : Lab} {i : Nat} {a : Addr} {r : List Nat} (e : labAt lab i a = some r) : lab a = some (i :: r) := by
  unfold labAt at e
  split at e
  · rename_i j r' h
    split at e
    · rename_i hj
      cases e; subst hj; exact h
    · cases e
  · cases e
theorem unlab_self {lab : Lab} {i : Nat} {a : Addr} {r : List Nat} (e : lab a = some (i :: r)) : unlab lab i a = none := by unfold unlab; rw [e]; simp

section
variable {K : PySem.W.Frag} {mg : Str → Option Value} {F H : Hp} {lab : Lab} {σ : L2.St} {ρ : Env}
theorem SR.slot {i : Nat} {o : O} (sr : SR K mg F H lab σ ρ) (h : ρ[i]? = some (some o)) : ∃ v, σ[i]? = some (some v) ∧ RepO K mg F H lab [i] v o := sr.env i o h
/-- a slot emptied, its thing in the hand -/
theorem SR.mov {i : Nat} {o : O} (sr : SR K mg F H lab σ ρ) (h : ρ[i]? = some (some o)) {v : V} (hv : σ[i]? = some (some v)) :
    SR K mg F H (unlab lab i) σ (ρ.set i none) ∧ RepP K mg (fun a => lab a ≠ none) F H (unlab lab i) v (.f o) ∧ Move false F H lab F H (unlab lab i) := by
  obtain ⟨v', hv', r⟩ := sr.env i o h
  rw [hv] at hv'; cases hv'
  refine ⟨⟨⟨sr.bas.le, fun a p e => sr.bas.lf a p (unlab_sub e).1⟩, fun j o' hj => ?_, by rw [List.length_set]; exact sr.len⟩, ⟨labAt lab i, r.stay (Le.refl _) fun a p e => ⟨rfl, labAt_of e⟩, fun a p e => ?_⟩, ⟨Le.refl _, fun _ z => z, fun a _ hq => ?_⟩⟩
  · by_cases e : j = i
    · subst e
      by_cases hl : j < ρ.length
      · rw [List.getElem?_set_self hl] at hj; cases hj
      · rw [List.getElem?_eq_none (by rw [List.length_set]; omega)] at hj; cases hj
    · rw [List.getElem?_set_ne (Ne.symm e)] at hj
      obtain ⟨w, h1, h2⟩ := sr.env j o' hj
      exact ⟨w, h1, h2.stay (Le.refl _) fun a r z => ⟨rfl, unlab_other e z⟩⟩
  · have e' := of_labAt e
    obtain ⟨h1, h2⟩ := sr.bas.lf a _ e'
    exact ⟨ne_none_opt e', unlab_self e', h1, h2⟩
  · have e : lab a = none := hq.elim (fun z => nomatch z) id
    exact ⟨rfl, by rw [unlab_none e, e], fun z => z⟩
where
  ne_none_opt {α : Type} {x : Option α} {y : α} (h : x = some y) : x ≠ none := by rw [h]; exact fun z => nomatch z
theorem SR.put {i : Nat} {v : V} {d : D} (sr : SR K mg F H lab σ ρ) (hσ : σ[i]? = some (some v)) (r : Rep K mg F v d) : SR K mg F H lab σ (ρ.set i (some (.v d))) := by
  refine ⟨sr.bas, fun j o hj => ?_, by rw [List.length_set]; exact sr.len⟩
  by_cases e : j = i
  · subst e
    by_cases hl : j < ρ.length
    · rw [List.getElem?_set_self hl] at hj
      cases hj
      exact ⟨v, hσ, .v r⟩
    · rw [List.getElem?_eq_none (by rw [List.length_set]; omega)] at hj; cases hj
  · rw [List.getElem?_set_ne (Ne.symm e)] at hj
    exact sr.env j o hj
end

section
variable {X : Cx} {W : WX}
theorem e_var (i : Nat) {x : Str} {pos : Pos} (hN : X.N[i]? = some x := by rfl) (hv : Vis X.env.scope x := by first | exact Or.inl rfl | exact Or.inr (Or.inl rfl) | exact Or.inr (Or.inr rfl)) (hd : (x == ("__debug__" : Str)) = false := by decide)
    (hcd : (x == ("__classdict__" : Str)) = false := by decide) : DE X W true (.Name x pos) (sVar i) := by
  refine PE_weak (pe_var hN hv hd hcd) fun σ H Q h => ?_
  obtain ⟨ρ, F, lab, sr, m⟩ := h
  unfold sVar at m
  split at m
  · rename_i d e
    obtain ⟨v, h1, r⟩ := sr.env i _ e
    cases r with | v r => exact ⟨v, h1, m v F H lab Move.refl sr r⟩
  · rename_i d e
    obtain ⟨v, h1, r⟩ := sr.env i _ e
    cases r with | l _ h r => exact ⟨_, h1, m _ F H lab Move.refl sr (.l h r)⟩
  · rename_i d e
    obtain ⟨v, h1, r⟩ := sr.env i _ e
    cases r with
    | kK _ h r => exact ⟨_, h1, m _ F H lab Move.refl sr (.kK h r)⟩
    | kT _ h r => exact ⟨_, h1, m _ F H lab Move.refl sr (.kT h r)⟩
  · exact m.elim
theorem e_mov (i : Nat) {x : Str} {pos : Pos} (hN : X.N[i]? = some x := by rfl) (hv : Vis X.env.scope x := by first | exact Or.inl rfl | exact Or.inr (Or.inl rfl) | exact Or.inr (Or.inr rfl)) (hd : (x == ("__debug__" : Str)) = false := by decide)
    (hcd : (x == ("__classdict__" : Str)) = false := by decide) : DE X W false (.Name x pos) (sMov i) := by
  refine PE_weak (pe_var hN hv hd hcd) fun σ H Q h => ?_
  obtain ⟨ρ, F, lab, sr, m⟩ := h
  unfold sMov at m
  split at m
  · rename_i o e
    obtain ⟨v, h1, _⟩ := sr.env i _ e
    obtain ⟨s2, r2, mv⟩ := sr.mov e h1
    exact ⟨v, h1, m v F H _ mv s2 (r2.since fun a z h1 h2 => h2.elim (fun z => nomatch z) z)⟩
  · exact m.elim
theorem e_frz (i : Nat) {x : Str} {pos : Pos} (hN : X.N[i]? = some x := by rfl) (hv : Vis X.env.scope x := by first | exact Or.inl rfl | exact Or.inr (Or.inl rfl) | exact Or.inr (Or.inr rfl)) (hd : (x == ("__debug__" : Str)) = false := by decide)
    (hcd : (x == ("__classdict__" : Str)) = false := by decide) : DE X W false (.Name x pos) (sFrz i) := by
  refine PE_weak (pe_var hN hv hd hcd) fun σ H Q h => ?_
  obtain ⟨ρ, F, lab, sr, m⟩ := h
  unfold sFrz at m
  split at m
  · rename_i o e
    obtain ⟨v, h1, _⟩ := sr.env i _ e
    obtain ⟨s2, r2, mv⟩ := sr.mov e h1
    obtain ⟨F', l, b, k, r⟩ := r2.frz s2.bas
    refine ⟨v, h1, m v F' H (unlab lab i) ⟨l, fun _ z => z, fun a ha hq => ?_⟩ ?_ r⟩
    · obtain ⟨g1, g2, g3⟩ := mv.fr a ha hq
      exact ⟨g1, g2, k a (fun z => z (hq.elim (fun z => nomatch z) id))⟩
    · have s3 := (s2.frzF l b).put h1 r
      rw [List.set_set] at s3
      exact s3
  · exact m.elim
/-! ### constants -/
def sC (d : D) (ρ : Env) : Out P := .ok (.v d) ρ
theorem e_const {e : Expr} {v : V} {d : D} (he : PE X e (tC v)) (r : ∀ F, Rep X.K X.mg F v d) : DE X W true e (sC d) := by
  refine PE_weak he fun σ H Q h => ?_
  obtain ⟨ρ, F, lab, sr, m⟩ := h
  exact m v F H lab Move.refl sr (r F)
theorem e_int {i : Int} {j : Nat} {pos : Pos} : DE X W true (.Constant (.int i) j pos) (sC (.int i)) := e_const pe_int fun _ => .int i
theorem e_bl {i : Bool} {j : Nat} {pos : Pos} : DE X W true (.Constant (.bool i) j pos) (sC (.bl i)) := e_const pe_bl fun _ => .bl i
theorem e_non {j : Nat} {pos : Pos} : DE X W true (.Constant .none j pos) (sC .non) := e_const pe_non fun _ => .non
theorem e_str {i : Str} {j : Nat} {pos : Pos} : DE X W true (.Constant (.str i) j pos) (sC (.str i)) := e_const pe_str fun _ => .str i
/-! ### new things let go -/
def P.fz : P → Option D
  | .v d => some d
  | .f o => some o.d
  | .s _ => none
def sFz (f : Env → Out P) (ρ : Env) : Out P := (f ρ).bind fun p ρ' => match p.fz with
  | some d => .ok (.v d) ρ'
  | none => .no
theorem P.fz_sure {p : P} {d : D} (h : p.fz = some d) (q : Bool) : p.sure q = true := by cases p <;> first | rfl | cases h
/-- a value taken as a frozen datum -/
theorem fz_move {K : PySem.W.Frag} {mg : Str → Option Value} {q : Bool} {F0 H0 F H : Hp} {lab0 lab : Lab} {σ : L2.St} {ρ : Env} {p : P} {v : V} {d : D}
    (mv : Move q F0 H0 lab0 F H lab) (sr : SR K mg F H lab σ ρ) (r : RepP K mg (New q H0 lab0) F H lab v p) (e : p.fz = some d) :
    ∃ F', Move q F0 H0 lab0 F' H lab ∧ SR K mg F' H lab σ ρ ∧ Rep K mg F' v d ∧ Le F F' := by
  cases p with
  | v d' => cases e; exact ⟨F, mv, sr, r, Le.refl _⟩
  | s d' => cases e
  | f o =>
    cases e
    obtain ⟨F', l, b, k, r'⟩ := r.frz sr.bas
    refine ⟨F', ⟨mv.ff.trans l, mv.th, fun a ha hq => ?_⟩, sr.frzF l b, r', l⟩
    obtain ⟨g1, g2, g3⟩ := mv.fr a ha hq
    exact ⟨g1, g2, fun z => k a (fun n => n ha hq) (g3 z)⟩
theorem e_fz {q : Bool} {e : Expr} {f : Env → Out P} (he : DE X W q e f) : DE X W q e (sFz f) := by
  refine PE_weak he fun σ H Q h => ?_
  obtain ⟨ρ, F, lab, sr, m⟩ := h
  refine ⟨ρ, F, lab, sr, ?_⟩
  unfold sFz at m
  cases hf : f ρ with
  | no => rw [hf] at m; exact m
  | exc x ρ' => rw [hf] at m; exact m
  | ok p ρ' =>
    rw [hf, Out.bind_ok] at m
    cases hp : p.fz with
    | none => rw [hp] at m; exact m.elim
    | some d =>
      rw [hp] at m
      exact fun v F1 H1 lab1 mv s1 r => let ⟨F', mv', s', r', _⟩ := fz_move mv s1 r hp; m v F' H1 lab1 mv' s' r'
theorem e_w {q : Bool} {e : Expr} {f : Env → Out P} (he : DE X W true e f) : DE X W q e f := by
  refine PE_weak he fun σ H Q h => ?_
  obtain ⟨ρ, F, lab, sr, m⟩ := h
  refine ⟨ρ, F, lab, sr, ?_⟩
  cases hf : f ρ with
  | no => rw [hf] at m; exact m
  | exc x ρ' => rw [hf] at m; exact m
  | ok p ρ' =>
    rw [hf] at m
    exact fun v F1 H1 lab1 mv s1 r => m v F1 H1 lab1 (mv.weak q fun _ => rfl) s1 (r.since fun a z => z.weak fun _ => rfl)
end

/-! ### operators -/
/-- what a rule by values computes -/
def Op2 (K : PySem.W.Frag) (mg : Str → Option Value) (r : R2) (g : D → D → Option P) : Prop :=
  ∀ (v u : V) (x y : D) (p : P) (F H : Hp) (lab : Lab) (Q : VK), Bas F H lab → RepS K mg F H v x → RepS K mg F H u y → g x y = some p →
    (∀ w F' H', Grow F H F' H' → RepP K mg (fun a => H a = none) F' H' lab w p → Q w H') → r v u H Q
def sOp (g : D → D → Option P) (qb : Bool) (fa fb : Env → Out P) (ρ : Env) : Out P := (fa ρ).bind fun p ρ1 => if p.sure qb then (fb ρ1).bind fun p' ρ2 => match p.rd, p'.rd with
  | some x, some y => (match g x y with
    | some z => .ok z ρ2
    | none => .no)
  | _, _ => .no else .no
section
variable {X : Cx} {W : WX} {qa qb : Bool} {a b : Expr} {fa fb : Env → Out P} {g : D → D → Option P} {r : R2} {pos : Pos}
theorem op_read (ho : Op2 X.K X.mg r g) {σ : L2.St} {H : Hp} {Q : VK} (h : tD X.K X.mg W (qa && qb) (sOp g qb fa fb) σ H Q) : tOp r (tD X.K X.mg W qa fa) (tD X.K X.mg W qb fb) σ H Q := by
  obtain ⟨ρ, F, lab, sr, m⟩ := h
  refine ⟨ρ, F, lab, sr, Meets.seq (rep2 := RepP X.K X.mg) (fun z => (Bool.and_eq_true_iff.mp z).1) sinceP m fun x p ρ1 F1 H1 lab1 mv1 sr1 rp m1 => ?_⟩
  split at m1
  · rename_i hs
    refine ⟨ρ1, F1, lab1, sr1, Meets.seq (rep2 := RepP X.K X.mg) (fun z => (Bool.and_eq_true_iff.mp z).2) sinceP m1 fun y p' ρ2 F2 H2 lab2 mv2 sr2 rp' m2 => ?_⟩
    have rp2 := rp.step mv2 hs
    split at m2
    · rename_i x' y' e1 e2
      split at m2
      · rename_i z ez
        exact ho x y x' y' z F2 H2 lab2 Q sr2.bas (rp2.rd e1) (rp'.rd e2) ez fun w F' H' gr rw' => Meets.grow m2 sr2 gr rw'
      · exact m2.elim
    · exact m2.elim
  · exact m1.elim
theorem e_op {op : Operator} (ho : OpR X (binaryOp op) r) (hg : Op2 X.K X.mg r g) (ha : DE X W qa a fa) (hb : DE X W qb b fb) : DE X W (qa && qb) (.BinOp a op b pos) (sOp g qb fa fb) :=
  PE_weak (pe_op ho ha hb) fun σ H Q h => op_read hg h
theorem e_cmp {op : CmpOp} (ho : OpR X (compareOp op) r) (hg : Op2 X.K X.mg r g) (ha : DE X W qa a fa) (hb : DE X W qb b fb) (hm : behindInMarks op b = false) : DE X W (qa && qb) (.Compare a [op] [b] pos) (sOp g qb fa fb) :=
  PE_weak (pe_cmpR ho ha hb hm) fun σ H Q h => op_read hg h
theorem e_ix (hi : IxR X r) (hg : Op2 X.K X.mg r g) (ha : DE X W qa a fa) (hb : DE X W qb b fb) (hs : PlainIx b) : DE X W (qa && qb) (.Subscript a b pos) (sOp g qb fa fb) :=
  PE_weak (pe_ix hi ha hb hs) fun σ H Q h => op_read hg h
/-- a bool's outcome as a test's -/
def sTB (f : Env → Out P) (ρ : Env) : Out Bool := (f ρ).bind fun p ρ' => match p with
  | .v (.bl k) => .ok k ρ'
  | _ => .no
theorem tb_read {q : Bool} {f : Env → Out P} {σ : L2.St} {H : Hp} {Q : Bool → Hp → Prop} (h : tDT X.K X.mg W q (sTB f) σ H Q) : tD X.K X.mg W q f σ H fun x H1 => ∃ c, x = .bl c ∧ Q c H1 := by
  obtain ⟨ρ, F, lab, sr, m⟩ := h
  refine ⟨ρ, F, lab, sr, ?_⟩
  unfold sTB at m
  cases hf : f ρ with
  | no => rw [hf] at m; exact m
  | exc x ρ' => rw [hf] at m; exact m
  | ok p ρ' =>
    rw [hf, Out.bind_ok] at m
    split at m
    · intro v F1 H1 lab1 mv s1 r
      cases r
      exact ⟨_, rfl, m _ F1 H1 lab1 mv s1 rfl⟩
    · exact m.elim
theorem t_cmp {op : CmpOp} (ho : OpR X (compareOp op) r) (hg : Op2 X.K X.mg r g) (ha : DE X W qa a fa) (hb : DE X W qb b fb) (hm : behindInMarks op b = false) : DT X W (qa && qb) (.Compare a [op] [b] pos) (sTB (sOp g qb fa fb)) :=
  PT_weak (pt_cmpR ho ha hb hm) fun σ H Q h => op_read hg (tb_read h)
theorem t_val {q : Bool} {e : Expr} {f : Env → Out P} (h : DE X W q e f) (he : ∀ whole, isTrue e X.env whole = (do let v ← whole; standAt e.pos; holding [v] (truthy v)) := by intro _; rfl) : DT X W q e (sTB f) :=
  PT_weak (pt_val h he) fun σ H Q h => tb_read h
end
end LW

/-! LW4: tests, and, or, chains, arguments, displays, calls of built-ins. -/
namespace LW
open PySem PySem.Spec PyProof.Rows L2

section
variable {K : PySem.W.Frag} {mg : Str → Option Value} {W : WX} {q q1 : Bool} {F H F1 H1 : Hp} {lab lab1 : Lab} {σ : L2.St} {ρ ρ1 : Env}
variable {α β γ δ : Type} {rep : (Addr → Prop) → Hp → Hp → Lab → β → α → Prop} {m : Out α} {Q : β → Hp → Prop}
theorem Meets.move (since : ∀ N N' F' H' lab' d c, (∀ a, N a → N' a) → rep N F' H' lab' d c → rep N' F' H' lab' d c)
    (h : Meets K mg W q F H lab σ (rep (New q H lab)) m Q) (mv : Move q F H lab F1 H1 lab1) : Meets K mg W q F1 H1 lab1 σ (rep (New q H1 lab1)) m Q := by
  cases m with
  | no => exact h
  | exc x ρ2 => exact fun cls d F2 H2 lab2 mv2 sr2 rx => h cls d F2 H2 lab2 (mv.to_false.trans mv2) sr2 rx
  | ok c ρ2 => exact fun b2 F2 H2 lab2 mv2 sr2 rc => h b2 F2 H2 lab2 (mv.trans mv2) sr2 (since _ _ F2 H2 lab2 b2 c (fun a n => n.since mv id) rc)
theorem Meets.down {q' : Bool} (hq : q = true → q' = true) (since : ∀ N N' F' H' lab' d c, (∀ a, N a → N' a) → rep N F' H' lab' d c → rep N' F' H' lab' d c)
    (h : Meets K mg W q F H lab σ (rep (New q H lab)) m Q) : Meets K mg W q' F H lab σ (rep (New q' H lab)) m Q := by
  cases m with
  | no => exact h
  | exc x ρ2 => exact h
  | ok c ρ2 => exact fun b2 F2 H2 lab2 mv2 sr2 rc => h b2 F2 H2 lab2 (mv2.weak q hq) sr2 (since _ _ F2 H2 lab2 b2 c (fun a n => n.weak hq) rc)
end

theorem and_l {a b : Bool} (h : (a && b) = true) : a = true := (Bool.and_eq_true_iff.mp h).1
theorem and_r {a b : Bool} (h : (a && b) = true) : b = true := (Bool.and_eq_true_iff.mp h).2
/-- a test's end -/
abbrev RB : (Addr → Prop) → Hp → Hp → Lab → Bool → Bool → Prop := fun _ _ _ _ b a => b = a
theorem sinceB (N N' : Addr → Prop) (F' H' : Hp) (lab' : Lab) (d c : Bool) (h : ∀ a, N a → N' a) (r : RB N F' H' lab' d c) : RB N' F' H' lab' d c := r
abbrev RA (K : PySem.W.Frag) (mg : Str → Option Value) : (Addr → Prop) → Hp → Hp → Lab → List V → List D → Prop := fun _ F' _ _ b a => RepL K mg F' b a
theorem sinceA {K : PySem.W.Frag} {mg : Str → Option Value} (N N' : Addr → Prop) (F' H' : Hp) (lab' : Lab) (d : List V) (c : List D) (h : ∀ a, N a → N' a) (r : RA K mg N F' H' lab' d c) : RA K mg N' F' H' lab' d c := r

section
variable {X : Cx} {W : WX} {qa qb : Bool} {a b c : Expr} {rest : List Expr} {pos : Pos}
/-! ### and, or, not -/
def DW (X : Cx) (W : WX) (q : Bool) (e : Expr) (f : Env → Out Bool) : Prop := PW X e (tDT X.K X.mg W q f)
theorem t_w {q : Bool} {e : Expr} {f : Env → Out Bool} (h : DW X W q e f) : DT X W q e f := PW.pt h
theorem PW_weak {e : Expr} {t t' : TT} (h : PW X e t) (k : ∀ σ H Q, t' σ H Q → t σ H Q) : PW X e t' := ⟨fun wh pins s σ H Q I w => h.run wh pins s σ H Q I (k σ H Q w)⟩
def sAndT (fa fb : Env → Out Bool) (ρ : Env) : Out Bool := (fa ρ).bind fun k ρ1 => if k = true then fb ρ1 else .ok false ρ1
def sOrT (fa fb : Env → Out Bool) (ρ : Env) : Out Bool := (fa ρ).bind fun k ρ1 => if k = true then .ok true ρ1 else fb ρ1
def sNotT (fa : Env → Out Bool) (ρ : Env) : Out Bool := (fa ρ).bind fun k ρ1 => .ok (!k) ρ1
variable {fa fb : Env → Out Bool}
theorem t_and1 (ha : DT X W qa a fa) : DW X W qa (.BoolOp .And [a] pos) fa := pw_and1 ha
theorem t_or1 (ha : DT X W qa a fa) : DW X W qa (.BoolOp .Or [a] pos) fa := pw_or1 ha
theorem t_and (ha : DT X W qa a fa) (hb : DW X W qb (.BoolOp .And (b :: rest) pos) fb) : DW X W (qa && qb) (.BoolOp .And (a :: b :: rest) pos) (sAndT fa fb) := by
  refine PW_weak (pw_and ha hb) fun σ H Q h => ?_
  obtain ⟨ρ, F, lab, sr, m⟩ := h
  refine ⟨ρ, F, lab, sr, Meets.seq (rep2 := RB) and_l sinceB m fun x k ρ1 F1 H1 lab1 mv1 sr1 rp m1 => ?_⟩
  subst rp
  cases x with
  | false => exact m1 false F1 H1 lab1 Move.refl sr1 rfl
  | true => exact ⟨ρ1, F1, lab1, sr1, Meets.down (rep := RB) and_r sinceB m1⟩
theorem t_or (ha : DT X W qa a fa) (hb : DW X W qb (.BoolOp .Or (b :: rest) pos) fb) : DW X W (qa && qb) (.BoolOp .Or (a :: b :: rest) pos) (sOrT fa fb) := by
  refine PW_weak (pw_or ha hb) fun σ H Q h => ?_
  obtain ⟨ρ, F, lab, sr, m⟩ := h
  refine ⟨ρ, F, lab, sr, Meets.seq (rep2 := RB) and_l sinceB m fun x k ρ1 F1 H1 lab1 mv1 sr1 rp m1 => ?_⟩
  subst rp
  cases x with
  | true => exact m1 true F1 H1 lab1 Move.refl sr1 rfl
  | false => exact ⟨ρ1, F1, lab1, sr1, Meets.down (rep := RB) and_r sinceB m1⟩
theorem t_not (ha : DT X W qa a fa) : DT X W qa (.UnaryOp .Not a pos) (sNotT fa) := by
  refine PT_weak (pt_not ha) fun σ H Q h => ?_
  obtain ⟨ρ, F, lab, sr, m⟩ := h
  refine ⟨ρ, F, lab, sr, Meets.seq (rep2 := RB) id sinceB m fun x k ρ1 F1 H1 lab1 mv1 sr1 rp m1 => ?_⟩
  subst rp
  exact m1 (!x) F1 H1 lab1 Move.refl sr1 rfl
/-! ### .. as values -/
variable {ga gb gc : Env → Out P}
def sAnd (fa fb : Env → Out P) (ρ : Env) : Out P := (fa ρ).bind fun p ρ1 => match p with
  | .v (.bl true) => fb ρ1
  | .v (.bl false) => .ok (.v (.bl false)) ρ1
  | _ => .no
def sOr (fa fb : Env → Out P) (ρ : Env) : Out P := (fa ρ).bind fun p ρ1 => match p with
  | .v (.bl true) => .ok (.v (.bl true)) ρ1
  | .v (.bl false) => fb ρ1
  | _ => .no
def sNot (fa : Env → Out P) (ρ : Env) : Out P := (fa ρ).bind fun p ρ1 => match p with
  | .v (.bl k) => .ok (.v (.bl (!k))) ρ1
  | _ => .no
def sIfE (t : Env → Out Bool) (fa fb : Env → Out P) (ρ : Env) : Out P := (t ρ).bind fun k ρ1 => if k = true then fa ρ1 else fb ρ1
theorem e_one {op : BoolOp} (h : DE X W qa a ga) : DE X W qa (.BoolOp op [a] pos) ga := pe_one h
theorem e_and (ha : DE X W qa a ga) (hb : DE X W qb (.BoolOp .And (b :: rest) pos) gb) : DE X W (qa && qb) (.BoolOp .And (a :: b :: rest) pos) (sAnd ga gb) := by
  refine PE_weak (pe_and ha hb) fun σ H Q h => ?_
  obtain ⟨ρ, F, lab, sr, m⟩ := h
  refine ⟨ρ, F, lab, sr, Meets.seq (rep2 := RepP X.K X.mg) and_l sinceP m fun x k ρ1 F1 H1 lab1 mv1 sr1 rp m1 => ?_⟩
  split at m1
  · cases rp
    exact ⟨true, rfl, ρ1, F1, lab1, sr1, Meets.down (rep := RepP X.K X.mg) and_r sinceP m1⟩
  · cases rp
    exact ⟨false, rfl, m1 _ F1 H1 lab1 Move.refl sr1 (Rep.bl false)⟩
  · exact m1.elim
theorem e_or (ha : DE X W qa a ga) (hb : DE X W qb (.BoolOp .Or (b :: rest) pos) gb) : DE X W (qa && qb) (.BoolOp .Or (a :: b :: rest) pos) (sOr ga gb) := by
  refine PE_weak (pe_or ha hb) fun σ H Q h => ?_
  obtain ⟨ρ, F, lab, sr, m⟩ := h
  refine ⟨ρ, F, lab, sr, Meets.seq (rep2 := RepP X.K X.mg) and_l sinceP m fun x k ρ1 F1 H1 lab1 mv1 sr1 rp m1 => ?_⟩
  split at m1
  · cases rp
    exact ⟨true, rfl, m1 _ F1 H1 lab1 Move.refl sr1 (Rep.bl true)⟩
  · cases rp
    exact ⟨false, rfl, ρ1, F1, lab1, sr1, Meets.down (rep := RepP X.K X.mg) and_r sinceP m1⟩
  · exact m1.elim
theorem e_not (ha : DE X W qa a ga) : DE X W qa (.UnaryOp .Not a pos) (sNot ga) := by
  refine PE_weak (pe_not ha) fun σ H Q h => ?_
  obtain ⟨ρ, F, lab, sr, m⟩ := h
  refine ⟨ρ, F, lab, sr, Meets.seq (rep2 := RepP X.K X.mg) id sinceP m fun x k ρ1 F1 H1 lab1 mv1 sr1 rp m1 => ?_⟩
  split at m1
  · cases rp
    exact ⟨_, rfl, m1 _ F1 H1 lab1 Move.refl sr1 (Rep.bl _)⟩
  · exact m1.elim
theorem e_if {qt : Bool} {t : Env → Out Bool} (hc : DT X W qt c t) (ha : DE X W qa a ga) (hb : DE X W qb b gb) : DE X W (qt && (qa && qb)) (.IfExp c a b pos) (sIfE t ga gb) := by
  refine PE_weak (pe_ifExp hc ha hb) fun σ H Q h => ?_
  obtain ⟨ρ, F, lab, sr, m⟩ := h
  refine ⟨ρ, F, lab, sr, Meets.seq (rep2 := RepP X.K X.mg) (rep := fun _ _ _ b a => b = a) and_l sinceP m fun x k ρ1 F1 H1 lab1 mv1 sr1 rp m1 => ?_⟩
  subst rp
  cases x with
  | true => exact ⟨ρ1, F1, lab1, sr1, Meets.down (rep := RepP X.K X.mg) (fun z => and_l (and_r z)) sinceP m1⟩
  | false => exact ⟨ρ1, F1, lab1, sr1, Meets.down (rep := RepP X.K X.mg) (fun z => and_r (and_r z)) sinceP m1⟩
/-! ### a < b < c -/
def sChn (g g' : D → D → Option P) (qb qc : Bool) (fa fb fc : Env → Out P) (ρ : Env) : Out P := (fa ρ).bind fun p ρ1 => if p.sure qb then (fb ρ1).bind fun p' ρ2 => match p.rd, p'.rd with
  | some x, some y => (match g x y with
    | some (.v (.bl true)) => (if p'.sure qc then (fc ρ2).bind fun p'' ρ3 => (match p'.rd, p''.rd with
      | some y', some z => (match g' y' z with
        | some w => .ok w ρ3
        | none => .no)
      | _, _ => .no) else .no)
    | some (.v (.bl false)) => .ok (.v (.bl false)) ρ2
    | _ => .no)
  | _, _ => .no else .no
variable {r r' : R2} {g g' : D → D → Option P} {qc : Bool}
theorem chn_read (ho : Op2 X.K X.mg r g) (ho' : Op2 X.K X.mg r' g') {σ : L2.St} {H : Hp} {Q : VK} (h : tD X.K X.mg W (qa && (qb && qc)) (sChn g g' qb qc ga gb gc) σ H Q) :
    tChain r r' (tD X.K X.mg W qa ga) (tD X.K X.mg W qb gb) (tD X.K X.mg W qc gc) σ H Q := by
  obtain ⟨ρ, F, lab, sr, m⟩ := h
  refine ⟨ρ, F, lab, sr, Meets.seq (rep2 := RepP X.K X.mg) and_l sinceP m fun x p ρ1 F1 H1 lab1 mv1 sr1 rp m1 => ?_⟩
  split at m1
  · rename_i hs
    refine ⟨ρ1, F1, lab1, sr1, Meets.seq (rep2 := RepP X.K X.mg) (fun z => and_l (and_r z)) sinceP m1 fun y p' ρ2 F2 H2 lab2 mv2 sr2 rp' m2 => ?_⟩
    have rp2 := rp.step mv2 hs
    split at m2
    · rename_i x' y' e1 e2
      split at m2
      · rename_i ez
        refine ho x y x' y' _ F2 H2 lab2 _ sr2.bas (rp2.rd e1) (rp'.rd e2) ez fun w F' H' gr rw' => ?_
        cases rw'
        refine ⟨true, rfl, ?_⟩
        have m3 := Meets.move (rep := RepP X.K X.mg) sinceP m2 (gr.move (lab := lab2))
        split at m3
        · rename_i hs2
          have rp3 := rp'.step (gr.move (q := true) (lab := lab2)) (by cases p' <;> first | rfl | exact hs2)
          refine ⟨ρ2, F', lab2, gr.sr sr2, Meets.seq (rep2 := RepP X.K X.mg) (fun z => and_r (and_r z)) sinceP m3 fun z p'' ρ3 F3 H3 lab3 mv3 sr3 rp'' m4 => ?_⟩
          have rp4 := rp3.step mv3 hs2
          split at m4
          · rename_i y2 z2 e3 e4
            split at m4
            · rename_i w2 ew
              exact ho' y z y2 z2 w2 F3 H3 lab3 Q sr3.bas (rp4.rd e3) (rp''.rd e4) ew fun w F' H' gr rw' => Meets.grow m4 sr3 gr rw'
            · exact m4.elim
          · exact m4.elim
        · exact m3.elim
      · rename_i ez
        refine ho x y x' y' _ F2 H2 lab2 _ sr2.bas (rp2.rd e1) (rp'.rd e2) ez fun w F' H' gr rw' => ?_
        cases rw'
        exact ⟨false, rfl, Meets.grow m2 sr2 gr (Rep.bl false)⟩
      · exact m2.elim
    · exact m2.elim
  · exact m1.elim
theorem e_chn {op op' : CmpOp} (hr : OpR X (compareOp op) r) (hr' : OpR X (compareOp op') r') (ho : Op2 X.K X.mg r g) (ho' : Op2 X.K X.mg r' g') (ha : DE X W qa a ga) (hb : DE X W qb b gb) (hc : DE X W qc c gc)
    (hm : lastMarks [op, op'] [b, c] = false := by with_unfolding_all rfl) : DE X W (qa && (qb && qc)) (.Compare a [op, op'] [b, c] pos) (sChn g g' qb qc ga gb gc) :=
  PE_weak (pe_chain hr hr' ha hb hc hm) fun σ H Q h => chn_read ho ho' h
theorem t_chn {op op' : CmpOp} (hr : OpR X (compareOp op) r) (hr' : OpR X (compareOp op') r') (ho : Op2 X.K X.mg r g) (ho' : Op2 X.K X.mg r' g') (ha : DE X W qa a ga) (hb : DE X W qb b gb) (hc : DE X W qc c gc)
    (hm : lastMarks [op, op'] [b, c] = false := by with_unfolding_all rfl) : DT X W (qa && (qb && qc)) (.Compare a [op, op'] [b, c] pos) (sTB (sChn g g' qb qc ga gb gc)) :=
  PT_weak (pt_chain hr hr' ha hb hc hm) fun σ H Q h => chn_read ho ho' (tb_read h)
end

/-! ### arguments -/
def sNil (ρ : Env) : Out (List D) := .ok [] ρ
def sCons (f : Env → Out P) (g : Env → Out (List D)) (ρ : Env) : Out (List D) := (sFz f ρ).bind fun p ρ1 => match p with
  | .v d => (g ρ1).bind fun ds ρ2 => .ok (d :: ds) ρ2
  | _ => .no
section
variable {X : Cx} {W : WX} {qa qb : Bool} {e : Expr} {es : List Expr} {f : Env → Out P} {g : Env → Out (List D)} {pos : Pos}
theorem a_nil : DA X W true [] sNil := by
  refine PA_weak pa_nil fun σ H Q h => ?_
  obtain ⟨ρ, F, lab, sr, m⟩ := h
  exact m [] F H lab Move.refl sr .nil
theorem a_cons (ha : DE X W qa e f) (hr : DA X W qb es g) (hs : starEach (e :: es) X.env = (false, eval e X.env) :: starEach es X.env := by rfl) : DA X W (qa && qb) (e :: es) (sCons f g) := by
  refine PA_weak (pa_cons (e_fz ha) hr hs) fun σ H Q h => ?_
  obtain ⟨ρ, F, lab, sr, m⟩ := h
  refine ⟨ρ, F, lab, sr, Meets.seq (rep2 := RA X.K X.mg) and_l sinceA m fun x p ρ1 F1 H1 lab1 mv1 sr1 rp m1 => ?_⟩
  split at m1
  · rename_i d
    refine ⟨ρ1, F1, lab1, sr1, Meets.seq (rep2 := RA X.K X.mg) and_r sinceA m1 fun xs ds ρ2 F2 H2 lab2 mv2 sr2 rs m2 => ?_⟩
    exact m2 (x :: xs) F2 H2 lab2 Move.refl sr2 (.cons (Rep.mono mv2.ff rp) rs)
  · exact m1.elim
/-! ### displays -/
/-- a written number of arguments -/
def Len (g : Env → Out (List D)) (n : Nat) : Prop := ∀ ρ ds ρ', g ρ = .ok ds ρ' → ds.length = n
theorem len_nil : Len sNil 0 := fun ρ ds ρ' h => by cases h; rfl
theorem len_cons {n : Nat} (h : Len g n) : Len (sCons f g) (n + 1) := fun ρ ds ρ' e => by
  unfold sCons at e
  cases e1 : sFz f ρ with
  | no => rw [e1] at e; cases e
  | exc _ _ => rw [e1] at e; cases e
  | ok p ρ1 =>
    rw [e1, Out.bind_ok] at e
    split at e
    · cases e2 : g ρ1 with
      | no => rw [e2] at e; cases e
      | exc _ _ => rw [e2] at e; cases e
      | ok ds' ρ2 =>
        rw [e2, Out.bind_ok] at e
        cases e
        exact congrArg (· + 1) (h ρ1 ds' _ e2)
    · cases e
def sTup (g : Env → Out (List D)) (ρ : Env) : Out P := (g ρ).bind fun ds ρ1 => .ok (.v (.tup ds)) ρ1
def sLst (g : Env → Out (List D)) (ρ : Env) : Out P := (g ρ).bind fun ds ρ1 => .ok (.f (.l ds)) ρ1
/-- a new tuple, as data -/
theorem new_tup {K : PySem.W.Frag} {mg : Str → Option Value} {F H : Hp} {lab : Lab} {xs : List V} {ds : List D} {Q : VK} (l : Le F H) (r : RepL K mg F xs ds)
    (k : ∀ w F' H', Grow F H F' H' → RepP K mg (fun a => H a = none) F' H' lab w (.v (.tup ds)) → Q w H') : ∀ p, H p = none → Q (.ref p) (upd H p (.tup xs)) := fun p hp =>
  k _ _ _ (Grow.new l hp) (Rep.tup upd_same (r.mono (Grow.new (o := .tup xs) l hp).ff))
/-- a new list, in the hand -/
theorem new_lst {K : PySem.W.Frag} {mg : Str → Option Value} {F H : Hp} {lab : Lab} {xs : List V} {ds : List D} {Q : VK} (b : Bas F H lab) (r : RepL K mg F xs ds)
    (k : ∀ w F' H', Grow F H F' H' → RepP K mg (fun a => H a = none) F' H' lab w (.f (.l ds)) → Q w H') : ∀ p, H p = none → Q (.ref p) (upd H p (.lst xs)) := fun p hp => by
  refine k _ F _ (Grow.own b.le hp) ⟨fun a => if a = p then some [] else none, .l (by simp) upd_same r, fun a z e => ?_⟩
  have ea : a = p := by
    by_cases h : a = p
    · exact h
    · have e' : (if a = p then some ([] : List Nat) else none) = some z := e
      rw [if_neg h] at e'; cases e'
  subst ea
  refine ⟨hp, ?_, ?_, by rw [upd_same]; exact fun z => nomatch z⟩
  · cases h : lab a with
    | none => rfl
    | some z => exact absurd hp (b.lf a z h).2
  · cases h : F a with
    | none => rfl
    | some z => exact absurd hp (ne_none (b.le a z h))
theorem e_tup {x1 : Nat} {n : Nat} (ha : DA X W qa es g) (hn : Len g n) (hz : n ≤ sizeLine := by decide) : DE X W qa (.Tuple es x1 pos) (sTup g) := by
  refine PE_weak (pe_tup ha) fun σ H Q h => ?_
  obtain ⟨ρ, F, lab, sr, m⟩ := h
  refine ⟨ρ, F, lab, sr, ?_⟩
  unfold sTup at m
  cases hg : g ρ with
  | no => rw [hg] at m; exact m
  | exc x ρ' => rw [hg] at m; exact m
  | ok ds ρ1 =>
    rw [hg, Out.bind_ok] at m
    intro xs F1 H1 lab1 mv sr1 r
    have hl : xs.length = n := r.length.trans (hn ρ ds ρ1 hg)
    refine ⟨by rw [hl]; exact hz, new_tup (lab := lab1) sr1.bas.le r fun w F' H' gr rw' => ?_⟩
    exact Meets.grow (Meets.move (rep := RepP X.K X.mg) sinceP m mv) sr1 gr rw'
theorem e_lst {n : Nat} (ha : DA X W qa es g) (hn : Len g n) (hz : n ≤ sizeLine := by decide) : DE X W qa (.List es pos) (sLst g) := by
  refine PE_weak (pe_lst ha) fun σ H Q h => ?_
  obtain ⟨ρ, F, lab, sr, m⟩ := h
  refine ⟨ρ, F, lab, sr, ?_⟩
  unfold sLst at m
  cases hg : g ρ with
  | no => rw [hg] at m; exact m
  | exc x ρ' => rw [hg] at m; exact m
  | ok ds ρ1 =>
    rw [hg, Out.bind_ok] at m
    intro xs F1 H1 lab1 mv sr1 r
    have hl : xs.length = n := r.length.trans (hn ρ ds ρ1 hg)
    refine ⟨by rw [hl]; exact hz, new_lst sr1.bas r fun w F' H' gr rw' => ?_⟩
    exact Meets.grow (Meets.move (rep := RepP X.K X.mg) sinceP m mv) sr1 gr rw'
end

/-! ### calls of built-ins -/
def Call1 (K : PySem.W.Frag) (mg : Str → Option Value) (r : List V → Hp → VK → Prop) (g : D → Option P) : Prop :=
  ∀ (v : V) (x : D) (p : P) (F H : Hp) (lab : Lab) (Q : VK), Bas F H lab → RepS K mg F H v x → g x = some p →
    (∀ w F' H', Grow F H F' H' → RepP K mg (fun a => H a = none) F' H' lab w p → Q w H') → r [v] H Q
def Call2 (K : PySem.W.Frag) (mg : Str → Option Value) (r : List V → Hp → VK → Prop) (g : D → D → Option P) : Prop :=
  ∀ (v u : V) (x y : D) (p : P) (F H : Hp) (lab : Lab) (Q : VK), Bas F H lab → RepS K mg F H v x → RepS K mg F H u y → g x y = some p →
    (∀ w F' H', Grow F H F' H' → RepP K mg (fun a => H a = none) F' H' lab w p → Q w H') → r [v, u] H Q
def sC1 (g : D → Option P) (f : Env → Out P) (ρ : Env) : Out P := (f ρ).bind fun p ρ1 => match p.rd with
  | some x => (match g x with
    | some z => .ok z ρ1
    | none => .no)
  | none => .no
section
variable {X : Cx} {W : WX} {q qa qb : Bool} {x : Str} {p pos : Pos} {e a b : Expr} {f fa fb : Env → Out P} {id T : String} {r : List V → Hp → VK → Prop} {g : D → Option P} {g2 : D → D → Option P}
theorem c1_read (hg : Call1 X.K X.mg r g) {σ : L2.St} {H : Hp} {Q : VK} (h : tD X.K X.mg W q (sC1 g f) σ H Q) : tCB r (tCons (tD X.K X.mg W q f) tNil) σ H Q := by
  obtain ⟨ρ, F, lab, sr, m⟩ := h
  refine ⟨ρ, F, lab, sr, Meets.seq (rep2 := RepP X.K X.mg) id sinceP m fun v p ρ1 F1 H1 lab1 mv1 sr1 rp m1 => ?_⟩
  split at m1
  · rename_i y hy
    split at m1
    · rename_i z hz
      exact hg v y z F1 H1 lab1 Q sr1.bas (rp.rd hy) hz fun w F' H' gr rw' => Meets.grow m1 sr1 gr rw'
    · exact m1.elim
  · exact m1.elim
theorem e_cB1 (hc : CallR X (.builtin id) r) (hr : Call1 X.K X.mg r g) (hgl : Gl X x) (hm : X.mg x = none) (hv : bootBuiltins x = some (.builtin id)) (ha : DE X W q e f) (hn : x ≠ "__name__" := by decide) (hdb : (x == ("__debug__" : Str)) = false := by decide)
    (he : starEach [e] X.env = [(false, eval e X.env)] := by rfl) : DE X W q (.Call (.Name x p) [e] [] pos) (sC1 g f) :=
  PE_weak (pe_callB (es := []) hc hgl hm hv (pa_cons ha pa_nil he) hn hdb he) fun σ H Q h => c1_read hr h
theorem e_cT1 (hc : CallR X (.type T) r) (hr : Call1 X.K X.mg r g) (hgl : Gl X x) (hm : X.mg x = none) (hv : bootBuiltins x = some (.type T)) (ha : DE X W q e f) (hn : x ≠ "__name__" := by decide) (hdb : (x == ("__debug__" : Str)) = false := by decide)
    (he : starEach [e] X.env = [(false, eval e X.env)] := by rfl) : DE X W q (.Call (.Name x p) [e] [] pos) (sC1 g f) :=
  PE_weak (pe_callTy (es := []) hc hgl hm hv (pa_cons ha pa_nil he) hn hdb he) fun σ H Q h => c1_read hr h
theorem e_cB2 {r2 : List V → Hp → VK → Prop} (hc : CallR X (.builtin id) r2) (hr : Call2 X.K X.mg r2 g2) (hgl : Gl X x) (hm : X.mg x = none) (hv : bootBuiltins x = some (.builtin id)) (ha : DE X W qa a fa) (hb : DE X W qb b fb) (hn : x ≠ "__name__" := by decide) (hdb : (x == ("__debug__" : Str)) = false := by decide)
    (he : starEach [a, b] X.env = (false, eval a X.env) :: starEach [b] X.env := by rfl) (he2 : starEach [b] X.env = [(false, eval b X.env)] := by rfl) (hpl : (backTo pos (starEach [b] X.env)).any (·.1) = false := by rfl) : DE X W (qa && qb) (.Call (.Name x p) [a, b] [] pos) (sOp g2 qb fa fb) :=
  PE_weak (pe_callB (es := [b]) hc hgl hm hv (pa_cons ha (pa_cons hb pa_nil he2) he) hn hdb he hpl) fun σ H Q h => op_read (r := fun x y H Q => r2 [x, y] H Q) hr h
end
end LW

/-! LW5: calls of defs, statements, a def by its body. -/
namespace LW
open PySem PySem.Spec PyProof.Rows L2

/-! ### what a def does -/
inductive FR where
  | ret (p : P) (os : List O) | exc (x : EX) (os : List O) | no
abbrev Fn := List O → FR
section
variable (K : PySem.W.Frag) (mg : Str → Option Value)
def FMeets (F H : Hp) (lab : Lab) (vs : List V) (fr : FR) (Q : VK) (E : XK) : Prop :=
  match fr with
  | .ret p os' => ∀ v F' H' lab', Move false F H lab F' H' lab' → SR K mg F' H' lab' (vs.map some) (os'.map some) → RepP K mg (New false H lab) F' H' lab' v p → Q v H'
  | .exc x os' => ∀ cls d F' H' lab', Move false F H lab F' H' lab' → SR K mg F' H' lab' (vs.map some) (os'.map some) → RepX K mg F' cls d x → E cls d H'
  | .no => False
def spF (n : Nat) (S : Fn) : Sp := fun vs H Q E => vs.length = n ∧ ∃ F lab os, SR K mg F H lab (vs.map some) (os.map some) ∧ FMeets K mg F H lab vs (S os) Q E
end

/-- a call with data alone -/
def sCall (S : Fn) (g : Env → Out (List D)) (ρ : Env) : Out P := (g ρ).bind fun ds ρ1 => match S (ds.map .v) with
  | .ret p _ => .ok p ρ1
  | .exc x _ => .exc x ρ1
  | .no => .no
/-- .. whose first argument is the owned thing of the slot i -/
def sCallM (S : Fn) (i : Nat) (g : Env → Out (List D)) (ρ : Env) : Out P := match ρ[i]? with
  | some (some _) => (g ρ).bind fun ds ρ1 => (match ρ1[i]? with
    | some (some o) => (match S (o :: ds.map .v) with
      | .ret p (o' :: _) => .ok p (ρ1.set i (some o'))
      | .exc x (o' :: _) => .exc x (ρ1.set i (some o'))
      | _ => .no)
    | _ => .no)
  | _ => .no
section
variable {K : PySem.W.Frag} {mg : Str → Option Value} {F H : Hp} {lab : Lab} {σ : L2.St} {ρ : Env}
/-- data as slots -/
theorem env_vals {σ : L2.St} {xs : List V} {ds : List D} (r : RepL K mg F xs ds) : ∀ (i : Nat) (o : O), ((ds.map O.v).map some)[i]? = some (some o) → ∃ v, (xs.map some)[i]? = some (some v) ∧ RepO K mg F H lab [i] v o := fun i o h => by
  rw [List.getElem?_map, List.getElem?_map] at h
  cases e : ds[i]? with
  | none => rw [e] at h; cases h
  | some d =>
    rw [e] at h; cases h
    obtain ⟨x, h1, h2⟩ := r.get e
    exact ⟨x, by rw [List.getElem?_map, h1]; rfl, .v h2⟩
theorem sr_vals {xs : List V} {ds : List D} (l : Le F H) (r : RepL K mg F xs ds) : SR K mg F H (fun _ => none) (xs.map some) ((ds.map O.v).map some) :=
  ⟨⟨l, fun a p h => nomatch h⟩, env_vals (σ := []) r, by simp [r.length]⟩
/-- behind a call with data alone -/
theorem back_vals {F' H' : Hp} {lab' : Lab} (sr : SR K mg F H lab σ ρ) (mv : Move false F H (fun _ => none) F' H' lab') (b : Bas F' H' lab') (q : Bool) : Move q F H lab F' H' lab ∧ SR K mg F' H' lab σ ρ := by
  have fr := fun a h => mv.fr a h (.inr rfl)
  refine ⟨⟨mv.ff, mv.th, fun a h _ => ⟨(fr a h).1, rfl, (fr a h).2.2⟩⟩, ⟨⟨b.le, fun a p h => ?_⟩, fun i o h => ?_, sr.len⟩⟩
  · obtain ⟨h1, h2⟩ := sr.bas.lf a p h
    exact ⟨(fr a h2).2.2 h1, mv.th a h2⟩
  · obtain ⟨v, h1, h2⟩ := sr.env i o h
    exact ⟨v, h1, h2.stay mv.ff fun a r e => ⟨(fr a (sr.bas.lf a _ e).2).1, e⟩⟩
theorem back_ret {F' H' : Hp} {lab' : Lab} {v : V} {p : P} {q : Bool} (sr : SR K mg F H lab σ ρ) (r : RepP K mg (New false H fun _ => none) F' H' lab' v p) : RepP K mg (New q H lab) F' H' lab v p := by
  cases p with
  | v d => exact r
  | s d => exact r
  | f o =>
    obtain ⟨l2, r, k⟩ := r
    refine ⟨l2, r, fun a p e => ?_⟩
    obtain ⟨h1, h2, h3⟩ := k a p e
    have hn : H a = none := by
      cases e : H a with
      | none => rfl
      | some u => exact (h1 (ne_none e) (.inr rfl)).elim
    refine ⟨.of_none hn, ?_, h3⟩
    cases e : lab a with
    | none => rfl
    | some z => exact absurd hn (sr.bas.lf a z e).2
/-- the labels handed to a callee whose first argument is the slot i's -/
def labIn (lab : Lab) (i : Nat) : Lab := fun a => (labAt lab i a).map (0 :: ·)
/-- .. and taken back -/
def labOut (lab lab' : Lab) (i : Nat) : Lab := fun a => match lab' a with
  | some (0 :: r) => some (i :: r)
  | _ => unlab lab i a
theorem labIn_of {i : Nat} {a : Addr} {r : List Nat} (e : lab a = some (i :: r)) : labIn lab i a = some (0 :: r) := by unfold labIn; rw [labAt_of e]; rfl
theorem of_labIn {i : Nat} {a : Addr} {p : List Nat} (e : labIn lab i a = some p) : ∃ r, p = 0 :: r ∧ lab a = some (i :: r) := by
  unfold labIn at e
  cases h : labAt lab i a with
  | none => rw [h] at e; cases e
  | some r => rw [h] at e; cases e; exact ⟨r, rfl, of_labAt h⟩
theorem labIn_none {i : Nat} {a : Addr} (e : ∀ r, lab a ≠ some (i :: r)) : labIn lab i a = none := by
  cases h : labIn lab i a with
  | none => rfl
  | some p => obtain ⟨r, _, h2⟩ := of_labIn h; exact absurd h2 (e r)
theorem sr_in {i : Nat} {o : O} {v : V} {xs : List V} {ds : List D} (sr : SR K mg F H lab σ ρ) (h : ρ[i]? = some (some o)) (hv : σ[i]? = some (some v)) (r : RepL K mg F xs ds) :
    SR K mg F H (labIn lab i) ((v :: xs).map some) ((o :: ds.map O.v).map some) := by
  refine ⟨⟨sr.bas.le, fun a p e => ?_⟩, fun j o' hj => ?_, by simp [r.length]⟩
  · obtain ⟨r', _, e'⟩ := of_labIn e
    exact sr.bas.lf a _ e'
  · cases j with
    | zero =>
      have e : o = o' := by simpa using hj
      subst e
      obtain ⟨v', hv', ro⟩ := sr.env i o h
      rw [hv] at hv'; cases hv'
      exact ⟨v, rfl, ro.stay (Le.refl _) fun a r e => ⟨rfl, labIn_of e⟩⟩
    | succ j =>
      obtain ⟨w, h1, h2⟩ := env_vals (H := H) (lab := labIn lab i) (σ := []) r j o' (by simpa using hj)
      refine ⟨w, by simpa using h1, ?_⟩
      cases o' with
      | v d => cases h2 with | v h2 => exact .v h2
      | _ =>
        simp only [List.map_cons, List.getElem?_cons_succ, List.getElem?_map] at hj
        cases e : ds[j]? <;> (rw [e] at hj; simp at hj)
theorem sr_out {F' H' : Hp} {lab' : Lab} {i : Nat} {o o' : O} {v : V} {vs : List V} {os : List O} (sr : SR K mg F H lab σ ρ) (h : ρ[i]? = some (some o)) (hv : σ[i]? = some (some v))
    (mv : Move false F H (labIn lab i) F' H' lab') (sr' : SR K mg F' H' lab' ((v :: vs).map some) ((o' :: os).map some)) :
    Move false F H lab F' H' (labOut lab lab' i) ∧ SR K mg F' H' (labOut lab lab' i) σ (ρ.set i (some o')) := by
  have fr : ∀ a, H a ≠ none → (∀ r, lab a ≠ some (i :: r)) → H' a = H a ∧ lab' a = none ∧ (F a = none → F' a = none) := fun a h1 h2 => by
    have e := labIn_none h2
    obtain ⟨g1, g2, g3⟩ := mv.fr a h1 (.inr e)
    exact ⟨g1, g2.trans e, g3⟩
  have out : ∀ {a}, lab' a = none → labOut lab lab' i a = unlab lab i a := fun {a} e => by unfold labOut; rw [e]
  refine ⟨⟨mv.ff, mv.th, fun a h1 h2 => ?_⟩, ⟨⟨sr'.bas.le, fun a p e => ?_⟩, fun j o2 hj => ?_, by rw [List.length_set]; exact sr.len⟩⟩
  · have e : lab a = none := h2.elim (fun z => nomatch z) id
    obtain ⟨g1, g2, g3⟩ := fr a h1 fun r z => by rw [e] at z; cases z
    exact ⟨g1, by rw [out g2, unlab_none e, e], g3⟩
  · unfold labOut at e
    split at e
    · rename_i r er
      exact sr'.bas.lf a _ er
    · obtain ⟨e1, e2⟩ := unlab_sub e
      obtain ⟨h1, h2⟩ := sr.bas.lf a p e1
      obtain ⟨g1, g2, g3⟩ := fr a h2 fun r z => e2 r (Option.some.inj (e1.symm.trans z))
      exact ⟨g3 h1, mv.th a h2⟩
  · by_cases e : j = i
    · subst e
      by_cases hl : j < ρ.length
      · rw [List.getElem?_set_self hl] at hj
        cases hj
        obtain ⟨w, h1, h2⟩ := sr'.env 0 o' rfl
        have ew : v = w := by simpa using h1
        subst ew
        exact ⟨v, hv, h2.stay (Le.refl _) fun a r e => ⟨rfl, by unfold labOut; rw [show lab' a = some (0 :: r) from e]; rfl⟩⟩
      · rw [List.getElem?_eq_none (by rw [List.length_set]; omega)] at hj; cases hj
    · rw [List.getElem?_set_ne (Ne.symm e)] at hj
      obtain ⟨w, h1, h2⟩ := sr.env j o2 hj
      refine ⟨w, h1, h2.stay mv.ff fun a r z => ?_⟩
      obtain ⟨g1, g2, _⟩ := fr a (sr.bas.lf a _ z).2 fun r' z' => by
        rw [show lab a = some (j :: r) from z] at z'
        exact e (List.cons.inj (Option.some.inj z')).1
      exact ⟨g1, by rw [out g2]; exact unlab_other e z⟩
theorem ret_out {F' H' : Hp} {lab' : Lab} {i : Nat} {v : V} {p : P} (sr : SR K mg F H lab σ ρ) (mv : Move false F H (labIn lab i) F' H' lab') (r : RepP K mg (New false H (labIn lab i)) F' H' lab' v p) :
    RepP K mg (New false H lab) F' H' (labOut lab lab' i) v p := by
  cases p with
  | v d => exact r
  | s d => exact r
  | f o =>
    obtain ⟨l2, r, k⟩ := r
    refine ⟨l2, r, fun a p e => ?_⟩
    obtain ⟨h1, h2, h3⟩ := k a p e
    refine ⟨fun z1 z2 => h1 z1 (z2.imp id fun z => labIn_none fun r' z' => by rw [z] at z'; cases z'), ?_, h3⟩
    unfold labOut
    rw [h2]
    show unlab lab i a = none
    cases e2 : unlab lab i a with
    | none => rfl
    | some p' =>
      obtain ⟨e3, e4⟩ := unlab_sub e2
      exact (h1 (sr.bas.lf a _ e3).2 (.inr (labIn_none fun r' z' => e4 r' (Option.some.inj (e3.symm.trans z'))))).elim
end
section
variable {X : Cx} {W : WX} {q : Bool} {k n : Nat} {f : Addr} {fd : FuncData} {ps : List Str} {S : Fn} {x : Str} {p pos : Pos} {e : Expr} {es : List Expr} {g : Env → Out (List D)}
theorem FMeets.imp {K : PySem.W.Frag} {mg : Str → Option Value} {F H : Hp} {lab : Lab} {vs : List V} {fr : FR} {Q Q' : VK} {E E' : XK} (h : FMeets K mg F H lab vs fr Q E) (h1 : ∀ v H', Q v H' → Q' v H') (h2 : ∀ c d H', E c d H' → E' c d H') : FMeets K mg F H lab vs fr Q' E' := by
  cases fr with
  | no => exact h
  | exc x os => exact fun cls d F' H' lab' mv sr r => h2 _ _ _ (h cls d F' H' lab' mv sr r)
  | ret p os => exact fun v F' H' lab' mv sr r => h1 _ _ (h v F' H' lab' mv sr r)
/-- the def's promise is met by a call with data -/
theorem call_read {vs : List V} {ds : List D} {F H : Hp} {lab : Lab} {σ : L2.St} {ρ : Env} {Q : VK} (hn : ∀ os, S os ≠ .no → os.length = n) (sr : SR X.K X.mg F H lab σ ρ) (r : RepL X.K X.mg F vs ds)
    (m : Meets X.K X.mg W q F H lab σ (RepP X.K X.mg (New q H lab)) (match S (ds.map .v) with | .ret p _ => .ok p ρ | .exc x _ => .exc x ρ | .no => .no) Q) : spF X.K X.mg n S vs H Q (WE W σ) := by
  refine ⟨?_, F, fun _ => none, ds.map .v, sr_vals sr.bas.le r, ?_⟩
  · rw [r.length]
    have := hn (ds.map .v) (fun z => by rw [z] at m; exact m)
    rw [← this, List.length_map]
  · cases hS : S (ds.map O.v) with
    | no => rw [hS] at m; exact m
    | exc x' os =>
      rw [hS] at m
      exact fun cls d F' H' lab' mv sr' rx => let ⟨a, b⟩ := back_vals sr mv sr'.bas false; m cls d F' H' lab a b rx
    | ret p' os =>
      rw [hS] at m
      exact fun v F' H' lab' mv sr' rp => let ⟨a, b⟩ := back_vals sr mv sr'.bas q; m v F' H' lab a b (back_ret sr rp)
theorem e_call (G : FnOk X.prog X.w X.K X.mg X.base (L2.CX X.prog X.w) k f fd ps (spF X.K X.mg n S)) (hn : ∀ os, S os ≠ .no → os.length = n) (hr : Room k X.A) (tk : Takes X W) (hg : Gl X x) (hm : X.mg x = some (.ref f)) (hk : PySem.W.keepIn X.K (.ref f) = true) (hb : Binds X.K fd ps [])
    (ha : DA X W q (e :: es) g) (hdb : (x == ("__debug__" : Str)) = false := by decide) (he : starEach (e :: es) X.env = (false, eval e X.env) :: starEach es X.env := by rfl) (hpl : (backTo pos (starEach es X.env)).any (·.1) = false := by rfl) :
    DE X W q (.Call (.Name x p) (e :: es) [] pos) (sCall S g) := by
  refine PE_weak (pe_callS (E := WE W) G hr hg hm hk hb (passAt tk) ha hdb he hpl) fun σ H Q h => ?_
  obtain ⟨ρ, F, lab, sr, m⟩ := h
  refine ⟨ρ, F, lab, sr, Meets.seq (rep2 := RepP X.K X.mg) id sinceP m fun xs ds ρ1 F1 H1 lab1 mv1 sr1 rp m1 => ?_⟩
  exact call_read hn sr1 rp m1
theorem e_callM (i : Nat) {y : Str} {ypos : Pos} (G : FnOk X.prog X.w X.K X.mg X.base (L2.CX X.prog X.w) k f fd ps (spF X.K X.mg n S)) (hn : ∀ os, S os ≠ .no → os.length = n) (hr : Room k X.A) (tk : Takes X W) (hg : Gl X x) (hm : X.mg x = some (.ref f)) (hk : PySem.W.keepIn X.K (.ref f) = true) (hb : Binds X.K fd ps [])
    (ha : DA X W q es g) (hN : X.N[i]? = some y := by rfl) (hv : Vis X.env.scope y := by first | exact Or.inl rfl | exact Or.inr (Or.inl rfl) | exact Or.inr (Or.inr rfl)) (hd : (y == ("__debug__" : Str)) = false := by decide)
    (hcd : (y == ("__classdict__" : Str)) = false := by decide) (hdb : (x == ("__debug__" : Str)) = false := by decide) (he : starEach (.Name y ypos :: es) X.env = (false, eval (.Name y ypos) X.env) :: starEach es X.env := by rfl) (hpl : (backTo pos (starEach es X.env)).any (·.1) = false := by rfl) :
    DE X W false (.Call (.Name x p) (.Name y ypos :: es) [] pos) (sCallM S i g) := by
  refine PE_weak (pe_callS (E := WE W) G hr hg hm hk hb (passAt tk) (pa_cons (pe_var hN hv hd hcd) ha he) hdb he hpl) fun σ H Q h => ?_
  obtain ⟨ρ, F, lab, sr, m⟩ := h
  unfold sCallM at m
  split at m
  case h_2 => exact m.elim
  rename_i o0 ho0
  obtain ⟨v, hv1, _⟩ := sr.env i o0 ho0
  refine ⟨v, hv1, ρ, F, lab, sr, Meets.seq (q := false) (qa := q) (rep2 := RepP X.K X.mg) (fun z => Bool.noConfusion z) sinceP m fun xs ds ρ1 F1 H1 lab1 mv1 sr1 rp m1 => ?_⟩
  split at m1
  · rename_i o ho
    have hv2 : σ[i]? = some (some v) := hv1
    refine ⟨?_, F1, labIn lab1 i, o :: ds.map .v, sr_in sr1 ho hv2 rp, ?_⟩
    · have := hn (o :: ds.map .v) (fun z => by rw [z] at m1; exact m1)
      rw [← this]; simp [rp.length]
    · cases hS : S (o :: ds.map O.v) with
      | no => rw [hS] at m1; exact m1
      | exc x' os =>
        rw [hS] at m1
        cases os with
        | nil => exact m1.elim
        | cons o' os =>
          exact fun cls d F' H' lab' mv sr' rx => let ⟨a, b⟩ := sr_out sr1 ho hv2 mv sr'; m1 cls d F' H' _ a b rx
      | ret p' os =>
        rw [hS] at m1
        cases os with
        | nil => exact m1.elim
        | cons o' os =>
          exact fun v F' H' lab' mv sr' rp => let ⟨a, b⟩ := sr_out sr1 ho hv2 mv sr'; m1 v F' H' _ a b (ret_out sr1 mv rp)
  · exact m1.elim
end
end LW

/-! LW6: statements; a def by its body. -/
namespace LW
open PySem PySem.Spec PyProof.Rows L2

inductive Flow where
  | next (ρ : Env) | ret (p : P) (ρ : Env) | brk (ρ : Env) | cont (ρ : Env) | exc (x : EX) (ρ : Env) | no
structure Keep (ks : List Nat) (σ σ' : L2.St) : Prop where
  at_ : ∀ j ∈ ks, σ'[j]? = σ[j]?
  len : σ'.length = σ.length
theorem Keep.refl {ks : List Nat} {σ : L2.St} : Keep ks σ σ := ⟨fun _ _ => rfl, rfl⟩
theorem Keep.trans {ks : List Nat} {σ σ1 σ2 : L2.St} (a : Keep ks σ σ1) (b : Keep ks σ1 σ2) : Keep ks σ σ2 := ⟨fun j h => (b.at_ j h).trans (a.at_ j h), b.len.trans a.len⟩
theorem Keep.set {ks : List Nat} {σ : L2.St} {i : Nat} {v : Option V} (h : i ∉ ks) : Keep ks σ (σ.set i v) := ⟨fun j hj => by
  rw [List.getElem?_set_ne]
  intro e; subst e; exact h hj, List.length_set⟩
section
variable (K : PySem.W.Frag) (mg : Str → Option Value)
def SMeets (W : WX) (ks : List Nat) (F H : Hp) (lab : Lab) (σ : L2.St) (fl : Flow) (D : Ends) : Prop :=
  match fl with
  | .next ρ' => ∀ σ' F' H' lab', Move false F H lab F' H' lab' → SR K mg F' H' lab' σ' ρ' → Keep ks σ σ' → D.nx σ' H'
  | .brk ρ' => ∀ σ' F' H' lab', Move false F H lab F' H' lab' → SR K mg F' H' lab' σ' ρ' → Keep ks σ σ' → D.bk σ' H'
  | .cont ρ' => ∀ σ' F' H' lab', Move false F H lab F' H' lab' → SR K mg F' H' lab' σ' ρ' → Keep ks σ σ' → D.ct σ' H'
  | .ret p ρ' => ∀ v σ' F' H' lab', Move false F H lab F' H' lab' → SR K mg F' H' lab' σ' ρ' → Keep ks σ σ' → RepP K mg (New false H lab) F' H' lab' v p → D.rt v H'
  | .exc x ρ' => ∀ cls d σ' F' H' lab', Move false F H lab F' H' lab' → SR K mg F' H' lab' σ' ρ' → Keep ks σ σ' → RepX K mg F' cls d x → W cls d σ' H'
  | .no => False
def tDS (W : WX) (ks : List Nat) (g : Env → Flow) : TS := fun D σ H => ∃ ρ F lab, SR K mg F H lab σ ρ ∧ SMeets K mg W ks F H lab σ (g ρ) D
end
def DS (X : Cx) (W : WX) (ks : List Nat) (st : Stmt) (g : Env → Flow) : Prop := PS X st (tDS X.K X.mg W ks g)
def DSs (X : Cx) (W : WX) (ks : List Nat) (st : List Stmt) (g : Env → Flow) : Prop := PSs X st (tDS X.K X.mg W ks g)
theorem PSs_weak {X : Cx} {e : List Stmt} {t t' : TS} (h : PSs X e t) (k : ∀ D σ H, t' D σ H → t D σ H) : PSs X e t' := ⟨fun pins s σ H D I w => h.run pins s σ H D I (k D σ H w)⟩

section
variable {K : PySem.W.Frag} {mg : Str → Option Value} {W : WX} {ks : List Nat} {F H F1 H1 : Hp} {lab lab1 : Lab} {σ σ1 : L2.St} {ρ : Env} {fl : Flow} {D D' : Ends}
/-- from a later state on -/
theorem SMeets.later (h : SMeets K mg W ks F H lab σ fl D) (mv : Move false F H lab F1 H1 lab1) (kp : Keep ks σ σ1) : SMeets K mg W ks F1 H1 lab1 σ1 fl D := by
  cases fl with
  | no => exact h
  | next ρ' => exact fun σ' F' H' lab' m s k => h σ' F' H' lab' (mv.trans m) s (kp.trans k)
  | brk ρ' => exact fun σ' F' H' lab' m s k => h σ' F' H' lab' (mv.trans m) s (kp.trans k)
  | cont ρ' => exact fun σ' F' H' lab' m s k => h σ' F' H' lab' (mv.trans m) s (kp.trans k)
  | ret p ρ' => exact fun v σ' F' H' lab' m s k r => h v σ' F' H' lab' (mv.trans m) s (kp.trans k) (r.since fun a n => n.since mv id)
  | exc x ρ' => exact fun c d σ' F' H' lab' m s k r => h c d σ' F' H' lab' (mv.trans m) s (kp.trans k) r
def sSeq (g1 g2 : Env → Flow) (ρ : Env) : Flow := match g1 ρ with
  | .next ρ1 => g2 ρ1
  | fl => fl
/-- an expression, then a statement's rest -/
def flow {α : Type} (m : Out α) (k : α → Env → Flow) : Flow := match m with
  | .ok a ρ => k a ρ
  | .exc x ρ => .exc x ρ
  | .no => .no
@[simp] theorem flow_ok {α : Type} (a : α) (ρ : Env) (k : α → Env → Flow) : flow (.ok a ρ) k = k a ρ := rfl
@[simp] theorem flow_exc {α : Type} (x : EX) (ρ : Env) (k : α → Env → Flow) : flow (.exc x ρ) k = .exc x ρ := rfl
@[simp] theorem flow_no {α : Type} (k : α → Env → Flow) : flow .no k = .no := rfl
theorem SMeets.expr {α β : Type} {q : Bool} {m : Out α} {k : α → Env → Flow} {rep : Hp → Hp → Lab → β → α → Prop} {Q1 : β → Hp → Prop} (h : SMeets K mg W ks F H lab σ (flow m k) D)
    (step : ∀ b a ρ1 F1 H1 lab1, Move q F H lab F1 H1 lab1 → SR K mg F1 H1 lab1 σ ρ1 → rep F1 H1 lab1 b a → SMeets K mg W ks F1 H1 lab1 σ (k a ρ1) D → Q1 b H1) : Meets K mg W q F H lab σ rep m Q1 := by
  cases m with
  | no => exact h
  | exc x ρ' => exact fun cls d F1 H1 lab1 mv sr rx => h cls d σ F1 H1 lab1 mv sr Keep.refl rx
  | ok a ρ1 => exact fun b F1 H1 lab1 mv sr r => step b a ρ1 F1 H1 lab1 mv sr r (SMeets.later h mv.to_false Keep.refl)
end

section
variable {X : Cx} {W : WX} {ks : List Nat} {st : Stmt} {sts rest : List Stmt} {g g1 g2 : Env → Flow} {pos : Pos} {e : Expr} {q : Bool} {f : Env → Out P}
theorem s_nil : DSs X W ks [] Flow.next := PSs_weak pss_nil fun D σ H h => by
  obtain ⟨ρ, F, lab, sr, m⟩ := h
  exact m σ F H lab Move.refl sr Keep.refl
theorem s_cons (h1 : DS X W ks st g1) (h2 : DSs X W ks rest g2) : DSs X W ks (st :: rest) (sSeq g1 g2) := PSs_weak (pss_cons h1 h2) fun D σ H h => by
  obtain ⟨ρ, F, lab, sr, m⟩ := h
  refine ⟨ρ, F, lab, sr, ?_⟩
  unfold sSeq at m
  cases hg : g1 ρ with
  | next ρ1 =>
    rw [hg] at m
    exact fun σ' F' H' lab' mv s k => ⟨ρ1, F', lab', s, SMeets.later m mv k⟩
  | no => rw [hg] at m; exact m
  | brk ρ' => rw [hg] at m; exact m
  | cont ρ' => rw [hg] at m; exact m
  | ret p ρ' => rw [hg] at m; exact m
  | exc x ρ' => rw [hg] at m; exact m
theorem s_one (h1 : DS X W ks st g1) : DSs X W ks [st] g1 := pss_one h1
theorem s_pass : DS X W ks (.Pass pos) Flow.next := PS_weak ps_pass fun D σ H h => by
  obtain ⟨ρ, F, lab, sr, m⟩ := h
  exact m σ F H lab Move.refl sr Keep.refl
theorem s_brk : DS X W ks (.Break pos) Flow.brk := PS_weak ps_break fun D σ H h => by
  obtain ⟨ρ, F, lab, sr, m⟩ := h
  exact m σ F H lab Move.refl sr Keep.refl
theorem s_cont : DS X W ks (.Continue pos) Flow.cont := PS_weak ps_continue fun D σ H h => by
  obtain ⟨ρ, F, lab, sr, m⟩ := h
  exact m σ F H lab Move.refl sr Keep.refl
/-- a statement that is never reached -/
theorem s_never : DS X W ks st (fun _ => .no) := PS_weak ps_never fun D σ H h => by
  obtain ⟨ρ, F, lab, sr, m⟩ := h
  exact m
theorem s_doc {x : Str} {j : Nat} {pos' : Pos} : DS X W ks (.Expr (.Constant (.str x) j pos) pos') Flow.next := PS_weak ps_doc fun D σ H h => by
  obtain ⟨ρ, F, lab, sr, m⟩ := h
  exact m σ F H lab Move.refl sr Keep.refl
def sIf (t : Env → Out Bool) (g1 g2 : Env → Flow) (ρ : Env) : Flow := flow (t ρ) fun k ρ1 => if k = true then g1 ρ1 else g2 ρ1
theorem s_if {c : Expr} {a b : List Stmt} {t : Env → Out Bool} (hc : DT X W q c t) (ha : DSs X W ks a g1) (hb : DSs X W ks b g2) : DS X W ks (.If c a b pos) (sIf t g1 g2) := PS_weak (ps_if hc ha hb) fun D σ H h => by
  obtain ⟨ρ, F, lab, sr, m⟩ := h
  refine ⟨ρ, F, lab, sr, SMeets.expr m fun x k ρ1 F1 H1 lab1 mv1 sr1 rp m1 => ?_⟩
  subst rp
  cases x with
  | true => exact ⟨ρ1, F1, lab1, sr1, m1⟩
  | false => exact ⟨ρ1, F1, lab1, sr1, m1⟩
def sExp (f : Env → Out P) (ρ : Env) : Flow := flow (f ρ) fun _ ρ1 => .next ρ1
theorem s_expr (he : DE X W q e f) (hs : swapsWith e none pos.line X.env = pure false := by rfl) : DS X W ks (.Expr e pos) (sExp f) := PS_weak (ps_expr he hs) fun D σ H h => by
  obtain ⟨ρ, F, lab, sr, m⟩ := h
  refine ⟨ρ, F, lab, sr, SMeets.expr m fun x k ρ1 F1 H1 lab1 mv1 sr1 rp m1 => ?_⟩
  exact m1 σ F1 H1 lab1 Move.refl sr1 Keep.refl
def sRet (f : Env → Out P) (ρ : Env) : Flow := flow (f ρ) fun p ρ1 => match p with
  | .s _ => .no
  | p => .ret p ρ1
theorem s_ret (he : DE X W q e f) : DS X W ks (.Return (some e) pos) (sRet f) := PS_weak (ps_ret he) fun D σ H h => by
  obtain ⟨ρ, F, lab, sr, m⟩ := h
  unfold sRet at m
  refine ⟨ρ, F, lab, sr, ?_⟩
  cases hf : f ρ with
  | no => rw [hf] at m; exact m
  | exc x ρ' => rw [hf] at m; exact fun cls d F1 H1 lab1 mv sr rx => m cls d σ F1 H1 lab1 mv sr Keep.refl rx
  | ok p ρ' =>
    rw [hf, flow_ok] at m
    intro v F1 H1 lab1 mv sr1 rp
    cases p with
    | s d => exact m.elim
    | v d => exact m v σ F1 H1 lab1 mv.to_false sr1 Keep.refl rp
    | f o => exact m v σ F1 H1 lab1 mv.to_false sr1 Keep.refl (rp.since fun a n => n.weak fun z => nomatch z)
theorem s_retN : DS X W ks (.Return none pos) (fun ρ => .ret (.v .non) ρ) := PS_weak ps_retN fun D σ H h => by
  obtain ⟨ρ, F, lab, sr, m⟩ := h
  exact m .non σ F H lab Move.refl sr Keep.refl Rep.non
/-! ### names stored -/
/-- the labels of a new thing, under the slot i -/
def labPut (lab l2 : Lab) (i : Nat) : Lab := fun a => match l2 a with
  | some r => some (i :: r)
  | none => lab a
theorem sr_put {K : PySem.W.Frag} {mg : Str → Option Value} {q : Bool} {F0 H0 F H : Hp} {lab0 lab : Lab} {σ : L2.St} {ρ : Env} {i : Nat} {v : V} {o : O} (hi : i < ρ.length) (mv : Move q F0 H0 lab0 F H lab) (sr : SR K mg F H lab σ ρ) (r : RepP K mg (New q H0 lab0) F H lab v (.f o)) :
    ∃ lab', Move q F0 H0 lab0 F H lab' ∧ SR K mg F H lab' (σ.set i (some v)) (ρ.set i (some o)) := by
  obtain ⟨l2, r, k⟩ := r
  have hp : ∀ {a}, l2 a = none → labPut lab l2 i a = lab a := fun {a} e => by unfold labPut; rw [e]
  refine ⟨labPut lab l2 i, ⟨mv.ff, mv.th, fun a h1 h2 => ?_⟩, ⟨⟨sr.bas.le, fun a p e => ?_⟩, fun j o' hj => ?_, by rw [List.length_set, List.length_set]; exact sr.len⟩⟩
  · obtain ⟨g1, g2, g3⟩ := mv.fr a h1 h2
    refine ⟨g1, ?_, g3⟩
    cases e : l2 a with
    | none => rw [hp e]; exact g2
    | some r' => exact ((k a r' e).1 h1 h2).elim
  · unfold labPut at e
    split at e
    · rename_i r' e2
      exact (k a r' e2).2.2
    · exact sr.bas.lf a p e
  · by_cases e : j = i
    · subst e
      rw [List.getElem?_set_self hi] at hj
      cases hj
      exact ⟨v, by rw [List.getElem?_set_self (by rw [← sr.len]; exact hi)], r.stay (Le.refl _) fun a r' e => ⟨rfl, by unfold labPut; rw [show l2 a = some r' from e]; rfl⟩⟩
    · rw [List.getElem?_set_ne (Ne.symm e)] at hj
      obtain ⟨w, h1, h2⟩ := sr.env j o' hj
      refine ⟨w, by rw [List.getElem?_set_ne (Ne.symm e)]; exact h1, h2.stay (Le.refl _) fun a r' z => ⟨rfl, ?_⟩⟩
      cases e2 : l2 a with
      | none => rw [hp e2]; exact z
      | some r2 => exact absurd ((show lab a = some (j :: r') from z).symm.trans (k a r2 e2).2.1) (fun z' => nomatch z')
def sSet (i : Nat) (f : Env → Out P) (ρ : Env) : Flow := flow (f ρ) fun p ρ1 => match p with
  | .v d => .next (ρ1.set i (some (.v d)))
  | .f o => .next (ρ1.set i (some o))
  | .s _ => .no
theorem sr_putv {K : PySem.W.Frag} {mg : Str → Option Value} {F H : Hp} {lab : Lab} {σ : L2.St} {ρ : Env} {i : Nat} {v : V} {d : D} (sr : SR K mg F H lab σ ρ) (r : Rep K mg F v d) : SR K mg F H lab (σ.set i (some v)) (ρ.set i (some (.v d))) := by
  refine ⟨sr.bas, fun j o' hj => ?_, by rw [List.length_set, List.length_set]; exact sr.len⟩
  by_cases e : j = i
  · subst e
    by_cases hl : j < ρ.length
    · rw [List.getElem?_set_self hl] at hj
      cases hj
      exact ⟨v, by rw [List.getElem?_set_self (by rw [← sr.len]; exact hl)], .v r⟩
    · rw [List.getElem?_eq_none (by rw [List.length_set]; omega)] at hj; cases hj
  · rw [List.getElem?_set_ne (Ne.symm e)] at hj
    obtain ⟨w, h1, h2⟩ := sr.env j o' hj
    exact ⟨w, by rw [List.getElem?_set_ne (Ne.symm e)]; exact h1, h2⟩
theorem put_read {i : Nat} {x : Str} (hi : X.N[i]? = some x) (hk : i ∉ ks) {D : Ends} {σ : L2.St} {H : Hp} (hl : σ.length = X.N.length) (h : tDS X.K X.mg W ks (sSet i f) D σ H) : tAsg (tD X.K X.mg W q f) (gName i) D σ H := by
  obtain ⟨ρ, F, lab, sr, m⟩ := h
  have hiρ : i < ρ.length := by
    rw [sr.len, hl]
    exact (List.getElem?_eq_some_iff.mp hi).1
  refine ⟨ρ, F, lab, sr, ?_⟩
  unfold sSet at m
  cases hf : f ρ with
  | no => rw [hf] at m; exact m
  | exc x ρ' => rw [hf] at m; exact fun cls d F1 H1 lab1 mv sr rx => m cls d σ F1 H1 lab1 mv sr Keep.refl rx
  | ok p ρ' =>
    rw [hf, flow_ok] at m
    intro v F1 H1 lab1 mv sr1 rp
    cases p with
    | s d => exact m.elim
    | v d => exact m _ F1 H1 lab1 mv.to_false (sr_putv sr1 rp) (Keep.set hk)
    | f o =>
      have hi1 : i < ρ'.length := by rw [sr1.len, ← sr.len]; exact hiρ
      obtain ⟨lab', mv', sr'⟩ := sr_put hi1 mv sr1 rp
      exact m _ F1 H1 lab' mv'.to_false sr' (Keep.set hk)
theorem s_set {i : Nat} {x : Str} {pos' : Pos} (hN : X.N.Nodup) (hi : X.N[i]? = some x) (hx : Loc X.env.scope x) (hk : i ∉ ks) (he : DE X W q e f) (hs : swapsWith e (some (.Name x pos')) pos.line X.env = pure false := by rfl) (hf : X.fn x = true ∨ X.env.scope.names.lookup x = some .local := by first | exact .inl rfl | exact .inr rfl | assumption) :
    DS X W ks (.Assign [.Name x pos'] e pos) (sSet i f) := by
  refine ⟨fun pins s σ H D I w => (ps_set hN hi hx he hs hf).run pins s σ H D I (put_read hi hk I.len w)⟩
end

/-! ### a def by its body -/
def getO (ρ : Env) (j : Nat) : Option O := match ρ[j]? with
  | some z => z
  | none => none
def O.isV : O → Bool
  | .v _ => true
  | _ => false
/-- own: the first parameter is an owned thing -/
def argsOk (own : Bool) (os : List O) : Bool := match own, os with
  | true, _ :: r => r.all O.isV
  | true, [] => false
  | false, os => os.all O.isV
/-- what the parameters hold behind the body -/
def outs (own : Bool) (os : List O) (ρ : Env) : Option (List O) := match own, os with
  | true, _ :: r => (getO ρ 0).map (· :: r)
  | true, [] => none
  | false, os => some os
def runFn (own : Bool) (n m : Nat) (body : Env → Flow) : Fn := fun os => if os.length = n ∧ argsOk own os = true then (match body (os.map some ++ List.replicate (m - n) none) with
  | .next ρ => (match outs own os ρ with | some os' => .ret (.v .non) os' | none => .no)
  | .ret p ρ => (match outs own os ρ with | some os' => .ret p os' | none => .no)
  | .exc x ρ => (match outs own os ρ with | some os' => .exc x os' | none => .no)
  | _ => .no) else .no
theorem runFn_len {own : Bool} {n m : Nat} {body : Env → Flow} (os : List O) (h : runFn own n m body os ≠ .no) : os.length = n := by
  unfold runFn at h
  by_cases e : os.length = n ∧ argsOk own os = true
  · exact e.1
  · rw [if_neg e] at h; exact absurd rfl h
section
variable {P : Program} {w : World} {K : PySem.W.Frag} {mg : Str → Option Value} {base : Heap}
theorem isV_all {os : List O} (h : os.all O.isV = true) {j : Nat} {o : O} (e : os[j]? = some o) : ∃ d, o = .v d := by
  have := List.all_eq_true.mp h o (List.mem_of_getElem? e)
  cases o with
  | v d => exact ⟨d, rfl⟩
  | l _ => cases this
  | k _ _ => cases this
  | i _ _ => cases this
/-- the parameters behind the body -/
theorem sr_end {own : Bool} {F H F' H' : Hp} {lab lab' : Lab} {vs : List V} {σ' : L2.St} {ρ' : Env} {os os' : List O} (sr : SR K mg F H lab (vs.map some) (os.map some))
    (hv : argsOk own os = true) (mv : Move false F H lab F' H' lab') (sr' : SR K mg F' H' lab' σ' ρ') (kp : own = true → σ'[0]? = (vs.map some)[0]?)
    (e : outs own os ρ' = some os') : SR K mg F' H' lab' (vs.map some) (os'.map some) := by
  have vals : ∀ (j : Nat) (o : O), os[j]? = some o → (∃ d, o = .v d) → ∃ v, (vs.map some)[j]? = some (some v) ∧ RepO K mg F' H' lab' [j] v o := fun j o h1 h2 => by
    obtain ⟨d, rfl⟩ := h2
    obtain ⟨v, g1, g2⟩ := sr.env j (.v d) (by rw [List.getElem?_map, h1]; rfl)
    cases g2 with | v r => exact ⟨v, g1, .v (r.mono mv.ff)⟩
  have hlen : os.length = vs.length := by have := sr.len; simpa using this
  cases own with
  | false =>
    have e' : some os = some os' := e
    cases e'
    refine ⟨sr'.bas, fun j o hj => ?_, by simpa using hlen⟩
    have hj' : os[j]? = some o := by
      rw [List.getElem?_map] at hj
      cases e2 : os[j]? with
      | none => rw [e2] at hj; cases hj
      | some z => rw [e2] at hj; simpa using hj
    exact vals j o hj' (isV_all hv hj')
  | true =>
    cases os with
    | nil => cases hv
    | cons o0 r =>
      have e' : (getO ρ' 0).map (· :: r) = some os' := e
      cases ho : getO ρ' 0 with
      | none => rw [ho] at e'; cases e'
      | some o' =>
        rw [ho] at e'
        cases e'
        refine ⟨sr'.bas, fun j o hj => ?_, by simpa using hlen⟩
        cases j with
        | zero =>
          have eo : o' = o := by simpa using hj
          subst eo
          have hρ : ρ'[0]? = some (some o') := by
            unfold getO at ho
            split at ho
            · rename_i z hz
              rw [hz, ho]
            · cases ho
          obtain ⟨v, g1, g2⟩ := sr'.env 0 o' hρ
          exact ⟨v, by rw [← kp rfl]; exact g1, g2⟩
        | succ j =>
          have hj' : r[j]? = some o := by
            simp only [List.map_cons, List.getElem?_cons_succ, List.getElem?_map] at hj
            cases e2 : r[j]? with
            | none => rw [e2] at hj; cases hj
            | some z => rw [e2] at hj; simpa using hj
          exact vals (j + 1) o (by simpa using hj') (isV_all (show r.all O.isV = true from hv) hj')
/-- the slots a caller may not lose -/
def keepOf (own : Bool) : List Nat := if own = true then [0] else []
theorem fn_def {own : Bool} {n m k : Nat} {x qual : Str} {st : Stmt} {f : Addr} {fd : FuncData} {N ps : List Str} {body : Env → Flow} (FF : Fun K x qual st f fd) (S : FnScope N ps (defScope st)) (hn : ps.length = n) (hm : N.length = m)
    (hbody : ∀ (cdv : Value) (A : Around) (outer : List PySem.Env) (s : Shared) (H : Hp) (E : XK), Room k (A.deeper (envOfC qual (defScope st) s.heap.objs.size f cdv)) →
      DSs (cxOf (L2.CX P w) P w K mg base N qual (defScope st) f cdv A outer s H E) (fun cls d _ H' => E cls d H') (keepOf own) (defBody st) body) :
    FnOk P w K mg base (L2.CX P w) (k + 1) f fd ps (spF K mg n (runFn own n m body)) := by
  refine FF.okX S (fun vs H Q E h => h.1.trans hn.symm) fun cdv A outer s H vs Q E hr h => ?_
  obtain ⟨hl, F, lab, os, sr, fm⟩ := h
  refine ⟨_, hbody cdv A outer s H E hr, ?_⟩
  have hos : os.length = n := by have := sr.len; simp at this; omega
  unfold runFn at fm
  by_cases hc : os.length = n ∧ argsOk own os = true
  · rw [if_pos hc] at fm
    have st : L2.start N vs = vs.map some ++ List.replicate (m - n) none := by unfold L2.start; rw [hm, hl]
    have sr0 : SR K mg F H lab (L2.start N vs) (os.map some ++ List.replicate (m - n) none) := by
      rw [st]
      refine ⟨sr.bas, fun j o hj => ?_, by simp [hos, hl]⟩
      by_cases hjl : j < os.length
      · rw [List.getElem?_append_left (by simpa using hjl)] at hj
        obtain ⟨v, h1, h2⟩ := sr.env j o hj
        exact ⟨v, by rw [List.getElem?_append_left (by simp; omega)]; exact h1, h2⟩
      · rw [List.getElem?_append_right (by simp; omega), List.getElem?_replicate] at hj
        split at hj <;> cases hj
    have kp : ∀ {σ' : L2.St}, Keep (keepOf own) (L2.start N vs) σ' → own = true → σ'[0]? = (vs.map some)[0]? := fun {σ'} h z => by
      subst z
      rw [h.at_ 0 (by simp [keepOf]), st, List.getElem?_append_left]
      cases os with
      | nil => cases hc.2
      | cons o r => simp at hos; simp; omega
    refine ⟨_, F, lab, sr0, ?_⟩
    cases hb : body (os.map some ++ List.replicate (m - n) none) with
    | no => rw [hb] at fm; exact fm
    | brk ρ' => rw [hb] at fm; exact fm.elim
    | cont ρ' => rw [hb] at fm; exact fm.elim
    | next ρ' =>
      rw [hb] at fm
      cases ho : outs own os ρ' with
      | none => simp only [ho] at fm; exact fm.elim
      | some os' =>
        simp only [ho] at fm
        exact fun σ' F' H' lab' mv sr' k' => fm _ F' H' lab' mv (sr_end sr hc.2 mv sr' (kp k') ho) Rep.non
    | ret p ρ' =>
      rw [hb] at fm
      cases ho : outs own os ρ' with
      | none => simp only [ho] at fm; exact fm.elim
      | some os' =>
        simp only [ho] at fm
        exact fun v σ' F' H' lab' mv sr' k' rp => fm _ F' H' lab' mv (sr_end sr hc.2 mv sr' (kp k') ho) rp
    | exc x ρ' =>
      rw [hb] at fm
      cases ho : outs own os ρ' with
      | none => simp only [ho] at fm; exact fm.elim
      | some os' =>
        simp only [ho] at fm
        exact fun cls d σ' F' H' lab' mv sr' k' rx => fm _ _ F' H' lab' mv (sr_end sr hc.2 mv sr' (kp k') ho) rx
  · rw [if_neg hc] at fm
    exact fm.elim
end
end LW

/-! LW7: what is walked; for, while, comprehensions. -/
namespace LW
open PySem PySem.Spec PyProof.Rows L2

/-- the iterator J yields the data ds, one behind another, wherever F stands -/
def Walks (K : PySem.W.Frag) (mg : Str → Option Value) (F : Hp) (J : It) (ds : List D) : Prop :=
  ∀ F' H', Le F F' → Le F' H' → (∀ i, ds.length ≤ i → J.stop i H') ∧
    ∀ i d, ds[i]? = some d → J.go i H' ∧ ∀ x H'', J.yld i H' x H'' → ∃ F'', Grow F' H' F'' H'' ∧ Rep K mg F'' x d
section
variable (K : PySem.W.Frag) (mg : Str → Option Value)
def tDI (W : WX) (q : Bool) (h : Env → Out (List D)) : TI := fun σ H R => ∃ ρ F lab, SR K mg F H lab σ ρ ∧ Meets K mg W q F H lab σ (fun F' _ _ J ds => Walks K mg F' J ds ∧ ds.length ≤ sizeLine) (h ρ) R
def tDG (ks : List Nat) (tg : D → Env → Option Env) : TG := fun v σ H Q => ∃ ρ F lab d, SR K mg F H lab σ ρ ∧ Rep K mg F v d ∧ match tg d ρ with
  | some ρ' => ∀ σ' F' H' lab', Move true F H lab F' H' lab' → SR K mg F' H' lab' σ' ρ' → Keep ks σ σ' → Q σ' H'
  | none => False
def tDGs (ks : List Nat) (tg : List D → Env → Option Env) : TGs := fun vs σ H Q => ∃ ρ F lab ds, SR K mg F H lab σ ρ ∧ RepL K mg F vs ds ∧ match tg ds ρ with
  | some ρ' => ∀ σ' F' H' lab', Move true F H lab F' H' lab' → SR K mg F' H' lab' σ' ρ' → Keep ks σ σ' → Q σ' H'
  | none => False
end
def DI (X : Cx) (W : WX) (q : Bool) (tgt iter : Expr) (h : Env → Out (List D)) : Prop := PI X tgt iter (tDI X.K X.mg W q h)
def DG (X : Cx) (ks : List Nat) (e : Expr) (tg : D → Env → Option Env) : Prop := PG X e (tDG X.K X.mg ks tg)
def DGs (X : Cx) (ks : List Nat) (es : List Expr) (tg : List D → Env → Option Env) : Prop := PGs X es (tDGs X.K X.mg ks tg)
theorem PG_weak {X : Cx} {e : Expr} {t t' : TG} (h : PG X e t) (k : ∀ v σ H Q, t' v σ H Q → t v σ H Q) : PG X e t' := ⟨fun pins s σ H v u Q I r w => h.run pins s σ H v u Q I r (k v σ H Q w)⟩
theorem PGs_weak {X : Cx} {e : List Expr} {t t' : TGs} (h : PGs X e t) (k : ∀ v σ H Q, t' v σ H Q → t v σ H Q) : PGs X e t' := ⟨fun pins s σ H v u Q I r w => h.run pins s σ H v u Q I r (k v σ H Q w)⟩

/-! ### targets -/
def gSet (i : Nat) (d : D) (ρ : Env) : Option Env := some (ρ.set i (some (.v d)))
def gsNil (ds : List D) (ρ : Env) : Option Env := match ds with
  | [] => some ρ
  | _ => none
def gsCons (t : D → Env → Option Env) (u : List D → Env → Option Env) (ds : List D) (ρ : Env) : Option Env := match ds with
  | d :: r => (match t d ρ with
    | some ρ1 => u r ρ1
    | none => none)
  | [] => none
def gTupD (n : Nat) (u : List D → Env → Option Env) (d : D) (ρ : Env) : Option Env := match d with
  | .tup ds => if ds.length = n then u ds ρ else none
  | _ => none
section
variable {X : Cx} {ks : List Nat} {pos : Pos} {e : Expr} {es : List Expr} {t : D → Env → Option Env} {u : List D → Env → Option Env}
theorem g_name {i : Nat} {x : Str} (hN : X.N.Nodup) (hi : X.N[i]? = some x) (hx : Loc X.env.scope x) (hk : i ∉ ks) (hf : X.fn x = true ∨ X.env.scope.names.lookup x = some .local := by first | exact .inl rfl | exact .inr rfl | assumption) : DG X ks (.Name x pos) (gSet i) := by
  refine PG_weak (pg_name hN hi hx hf) fun v σ H Q h => ?_
  obtain ⟨ρ, F, lab, d, sr, r, m⟩ := h
  exact m _ F H lab Move.refl (sr_putv sr r) (Keep.set hk)
theorem g_nil : DGs X ks [] gsNil := by
  refine PGs_weak pgs_nil fun v σ H Q h => ?_
  obtain ⟨ρ, F, lab, ds, sr, r, m⟩ := h
  cases r with
  | nil => exact ⟨rfl, m _ F H lab Move.refl sr Keep.refl⟩
  | cons _ _ => exact m.elim
theorem g_cons (h1 : DG X ks e t) (h2 : DGs X ks es u) (hs : (assignEach (e :: es) X.env).map (·.2) = assign e X.env :: (assignEach es X.env).map (·.2) := by rfl) : DGs X ks (e :: es) (gsCons t u) := by
  refine PGs_weak (pgs_cons h1 h2 hs) fun v σ H Q h => ?_
  obtain ⟨ρ, F, lab, ds, sr, r, m⟩ := h
  cases r with
  | nil => exact m.elim
  | cons r rs =>
    refine ⟨_, _, rfl, ρ, F, lab, _, sr, r, ?_⟩
    unfold gsCons at m
    simp only at m
    split at m
    · rename_i ρ' e'
      split at e'
      · rename_i ρ1 e1
        exact fun σ' F' H' lab' mv s k => ⟨ρ1, F', lab', _, s, rs.mono mv.ff, by rw [e']; exact fun σ2 F2 H2 lab2 mv2 s2 k2 => m σ2 F2 H2 lab2 (mv.trans mv2) s2 (k.trans k2)⟩
      · cases e'
    · exact m.elim
theorem g_tup {kk n : Nat} (hc : X.calm = true) (h : DGs X ks es u) (hn : (assignEach es X.env).length = n := by rfl) (hst : (assignEach es X.env).findIdx? (·.1) = none := by rfl) : DG X ks (.Tuple es kk pos) (gTupD n u) := by
  refine PG_weak (pg_tup hc h hn hst) fun v σ H Q h => ?_
  obtain ⟨ρ, F, lab, d, sr, r, m⟩ := h
  cases r with
  | tup hq rs =>
    unfold gTupD at m
    simp only at m
    split at m
    · rename_i ρ' e'
      split at e'
      · rename_i hl
        exact ⟨_, _, rfl, SqT.of (sr.bas.le _ _ hq), rs.length.trans hl, ρ, F, lab, _, sr, rs, by rw [e']; exact m⟩
      · cases e'
    · exact m.elim
  | _ => exact m.elim
end

/-! ### what is walked -/
def itemsOf : D → Option (List D)
  | .lst ds => some ds
  | .tup ds => some ds
  | .str s => if s.length ≤ sizeLine then some (s.cps.toList.map fun c => .str ⟨#[c]⟩) else none
  | _ => none
def hSeq (f : Env → Out P) (ρ : Env) : Out (List D) := (sFz f ρ).bind fun p ρ1 => match p with
  | .v d => (match itemsOf d with
    | some ds => .ok ds ρ1
    | none => .no)
  | _ => .no
section
variable {K : PySem.W.Frag} {mg : Str → Option Value} {F : Hp}
theorem walks_list {a : Addr} {xs : List V} {ds : List D} (h : SqL K F a xs) (r : RepL K mg F xs ds) : Walks K mg F (Itl K a) ds := fun F' H' l1 l2 => by
  have hs : SqL K H' a xs := SqL_le (l1.trans l2) h
  refine ⟨fun i hi => ⟨xs, hs, by rw [r.length]; exact hi⟩, fun i d e => ?_⟩
  obtain ⟨x, hx, rx⟩ := r.get e
  refine ⟨⟨xs, x, hs, hx⟩, fun y H'' hy => ?_⟩
  obtain ⟨rfl, hy⟩ := hy
  have := hy xs hs
  rw [hx] at this; cases this
  exact ⟨F', Grow.refl l2, rx.mono l1⟩
theorem walks_tup {a : Addr} {xs : List V} {ds : List D} (h : SqT K F a xs) (r : RepL K mg F xs ds) : Walks K mg F (Itt K a) ds := fun F' H' l1 l2 => by
  have hs : SqT K H' a xs := SqT_le (l1.trans l2) h
  refine ⟨fun i hi => ⟨xs, hs, by rw [r.length]; exact hi⟩, fun i d e => ?_⟩
  obtain ⟨x, hx, rx⟩ := r.get e
  refine ⟨⟨xs, x, hs, hx⟩, fun y H'' hy => ?_⟩
  obtain ⟨rfl, hy⟩ := hy
  have := hy xs hs
  rw [hx] at this; cases this
  exact ⟨F', Grow.refl l2, rx.mono l1⟩
theorem walks_str {x : Str} : Walks K mg F (Its x) (x.cps.toList.map fun c => .str ⟨#[c]⟩) := fun F' H' l1 l2 => by
  refine ⟨fun i hi => by show x.cps.size ≤ i; simpa using hi, fun i d e => ?_⟩
  rw [List.getElem?_map] at e
  cases hc : x.cps.toList[i]? with
  | none => rw [hc] at e; cases e
  | some c =>
    rw [hc] at e
    have ed : D.str ⟨#[c]⟩ = d := Option.some.inj e
    subst ed
    have hc' : x.cps[i]? = some c := by rw [← Array.getElem?_toList]; exact hc
    refine ⟨(Array.getElem?_eq_some_iff.mp hc').1, fun y H'' hy => ?_⟩
    obtain ⟨rfl, c', h1, rfl⟩ := hy
    rw [hc'] at h1; cases h1
    exact ⟨F', Grow.refl l2, .str _⟩
theorem walks_range {lo : Int} {n : Nat} : Walks K mg F (Itr lo n) ((List.range n).map fun i : Nat => .int (lo + i)) := fun F' H' l1 l2 => by
  refine ⟨fun i hi => by show n ≤ i; simpa using hi, fun i d e => ?_⟩
  rw [List.getElem?_map] at e
  by_cases hi : i < n
  · rw [List.getElem?_range hi] at e
    have ed : D.int (lo + (i : Nat)) = d := Option.some.inj e
    subst ed
    refine ⟨hi, fun y H'' hy => ?_⟩
    obtain ⟨rfl, rfl⟩ := hy
    exact ⟨F', Grow.refl l2, .int _⟩
  · rw [List.getElem?_eq_none (by simpa using hi)] at e; cases e
end
section
variable {X : Cx} {W : WX} {q : Bool} {tgt e : Expr} {f : Env → Out P}
theorem tail_of {R : It → Hp → Prop} {F H : Hp} {lab : Lab} {σ : L2.St} {ρ : Env} {q : Bool} {ds : List D} {J : It} (m : Meets X.K X.mg W q F H lab σ (fun F' _ _ J ds => Walks X.K X.mg F' J ds ∧ ds.length ≤ sizeLine) (.ok ds ρ) R)
    (sr : SR X.K X.mg F H lab σ ρ) (w : Walks X.K X.mg F J ds) (hz : ds.length ≤ sizeLine) : R J H := m J F H lab Move.refl sr ⟨w, hz⟩
/-- a list, a tuple, a text -/
theorem i_seq (he : DE X W q e f) : DI X W q tgt e (hSeq f) := by
  refine ⟨fun pins s σ H R I h => ?_⟩
  obtain ⟨ρ, F, lab, sr, m⟩ := h
  have he' := e_fz he
  refine thn (he'.run pins s σ H (fun v H1 => ∃ d ρ1 F1 lab1, SR X.K X.mg F1 H1 lab1 σ ρ1 ∧ Rep X.K X.mg F1 v d ∧ Meets X.K X.mg W q F1 H1 lab1 σ (fun F' _ _ J ds => Walks X.K X.mg F' J ds ∧ ds.length ≤ sizeLine) (match itemsOf d with | some ds => .ok ds ρ1 | none => .no) R) I
    ⟨ρ, F, lab, sr, Meets.seq (rep2 := fun _ F' _ _ J ds => Walks X.K X.mg F' J ds ∧ ds.length ≤ sizeLine) id (fun _ _ _ _ _ _ _ _ r => r) m fun v p ρ1 F1 H1 lab1 mv1 sr1 rp m1 => ?_⟩) fun v s1 ⟨x, H1, I1, r1, d, ρ1, F1, lab1, sr1, rd, m1⟩ => ?_
  · cases p with
    | v d => exact ⟨d, ρ1, F1, lab1, sr1, rp, m1⟩
    | f _ => exact m1.elim
    | s _ => exact m1.elim
  · cases rd with
    | lst hq rs =>
      obtain rfl : v = Value.ref _ := r1
      have hq1 : SqL X.K H1 _ _ := SqL_le sr1.bas.le hq
      obtain ⟨its, rv, p, hz⟩ := I1.list hq1
      refine wpAny_pyIter_list p.isList ?_
      refine ⟨s1.heap.objs.size, [s1.heap.objs.size], _, _, H1, rfl, I1.kept (t' := s1.toks) fun b o e => Heap.get?_push_of_some _ e, turn_list _ _, ⟨_, Heap.get?_push_size _ rfl, rfl, rfl⟩, fun b hb => ?_, ?_⟩
      · have e : b = s1.heap.objs.size := by simpa using hb
        subst e
        exact I1.fpOk (Nat.le_refl _) (I1.hok.fresh (Nat.le_refl _))
      · exact tail_of m1 sr1 (walks_list hq rs) (by rw [← rs.length]; exact hz)
    | tup hq rs =>
      obtain rfl : v = Value.ref _ := r1
      obtain ⟨its, rv, p, hz⟩ := I1.tuple (SqT.of (sr1.bas.le _ _ hq))
      refine wpAny_pyIter_tuple (show s1.heap.IsTuple _ its.toArray from p) ?_
      refine ⟨s1.heap.objs.size, [s1.heap.objs.size], _, _, H1, rfl, I1.kept (t' := s1.toks) fun b o e => Heap.get?_push_of_some _ e, turn_tuple _ _, ⟨_, Heap.get?_push_size _ rfl, rfl, rfl⟩, fun b hb => ?_, ?_⟩
      · have e : b = s1.heap.objs.size := by simpa using hb
        subst e
        exact I1.fpOk (Nat.le_refl _) (I1.hok.fresh (Nat.le_refl _))
      · exact tail_of m1 sr1 (walks_tup (SqT.of hq) rs) (by rw [← rs.length]; exact hz)
    | str x =>
      obtain ⟨t, rfl⟩ := r1
      by_cases hz : x.length ≤ sizeLine
      · simp only [itemsOf, if_pos hz] at m1
        have hz' : (x.cps.toList.map fun c => D.str ⟨#[c]⟩).length ≤ sizeLine := by simpa [Str.length] using hz
        have q := tail_of m1 sr1 walks_str hz'
        cases ha : x.cps.all (· < 128)
        · exact wpAny_pyIter_wide ha (pi_one (tk := s1.toks) I1 _ (turn_str _ x t "str_iterator" (.inr rfl)) ⟨_, Heap.get?_push_size _ rfl, rfl, rfl⟩ q)
        · exact wpAny_pyIter_ascii ha (pi_one (tk := s1.toks) I1 _ (turn_str _ x t "str_ascii_iterator" (.inl rfl)) ⟨_, Heap.get?_push_size _ rfl, rfl, rfl⟩ q)
      · simp only [itemsOf, if_neg hz] at m1
        exact m1.elim
    | _ => exact m1.elim
/-! range -/
theorem PI_weak {tg iter : Expr} {t t' : TI} (h : PI X tg iter t) (k : ∀ σ H Q, t' σ H Q → t σ H Q) : PI X tg iter t' := ⟨fun pins s σ H R I w => h.run pins s σ H R I (k σ H R w)⟩
def rangeD (a b : Int) : List D := (List.range (b - a).toNat).map fun i : Nat => .int (a + (i : Int))
theorem rangeD_len (a b : Int) : (rangeD a b).length = (b - a).toNat := by simp [rangeD]
theorem rangeD_line {a b : Int} (h1 : -1000000 ≤ a) (h2 : b ≤ 1000000) : (rangeD a b).length ≤ sizeLine := by
  rw [rangeD_len, sizeLine_eq]; omega
def hRange1 (f : Env → Out P) (ρ : Env) : Out (List D) := (f ρ).bind fun p ρ1 => match p with
  | .v (.int n) => if -1000000 ≤ n ∧ n ≤ 1000000 then .ok (rangeD 0 n) ρ1 else .no
  | _ => .no
def hRange2 (f g : Env → Out P) (ρ : Env) : Out (List D) := (f ρ).bind fun p ρ1 => match p with
  | .v (.int a) => (g ρ1).bind fun p' ρ2 => (match p' with
    | .v (.int b) => if -1000000 ≤ a ∧ a ≤ 1000000 ∧ -1000000 ≤ b ∧ b ≤ 1000000 then .ok (rangeD a b) ρ2 else .no
    | _ => .no)
  | _ => .no
variable {a b : Expr} {qb : Bool} {g : Env → Out P} {p pos : Pos}
theorem i_range1 (hg : Gl X "range") (hm : X.mg "range" = none) (ha : DE X W q a f) (hs : starEach [a] X.env = [(false, eval a X.env)] := by rfl) : DI X W q tgt (.Call (.Name "range" p) [a] [] pos) (hRange1 f) := by
  refine PI_weak (pi_range1 hg hm (pa_cons ha pa_nil hs) hs) fun σ H R h => ?_
  obtain ⟨ρ, F, lab, sr, m⟩ := h
  refine ⟨ρ, F, lab, sr, Meets.seq (rep2 := fun _ F' _ _ J ds => Walks X.K X.mg F' J ds ∧ ds.length ≤ sizeLine) id (fun _ _ _ _ _ _ _ _ r => r) m fun v p ρ1 F1 H1 lab1 mv1 sr1 rp m1 => ?_⟩
  split at m1
  · rename_i n
    cases rp
    split at m1
    · rename_i hb
      have hw : Walks X.K X.mg F1 (Itr 0 n.toNat) (rangeD 0 n) := by
        unfold rangeD
        rw [show (n - 0).toNat = n.toNat by omega]
        exact walks_range
      exact ⟨n, rfl, by omega, by omega, tail_of m1 sr1 hw (rangeD_line (by omega) hb.2)⟩
    · exact m1.elim
  · exact m1.elim
theorem i_range2 (hg : Gl X "range") (hm : X.mg "range" = none) (ha : DE X W q a f) (hb : DE X W qb b g) (hs : starEach [a, b] X.env = [(false, eval a X.env), (false, eval b X.env)] := by rfl) (hs2 : starEach [b] X.env = [(false, eval b X.env)] := by rfl) :
    DI X W (q && qb) tgt (.Call (.Name "range" p) [a, b] [] pos) (hRange2 f g) := by
  refine PI_weak (pi_range2 hg hm (pa_cons ha (pa_cons hb pa_nil hs2) (by rw [hs, hs2])) hs hs2) fun σ H R h => ?_
  obtain ⟨ρ, F, lab, sr, m⟩ := h
  refine ⟨ρ, F, lab, sr, Meets.seq (rep2 := fun _ F' _ _ J ds => Walks X.K X.mg F' J ds ∧ ds.length ≤ sizeLine) and_l (fun _ _ _ _ _ _ _ _ r => r) m fun v p ρ1 F1 H1 lab1 mv1 sr1 rp m1 => ?_⟩
  split at m1
  · rename_i a'
    cases rp
    refine ⟨ρ1, F1, lab1, sr1, Meets.seq (rep2 := fun _ F' _ _ J ds => Walks X.K X.mg F' J ds ∧ ds.length ≤ sizeLine) and_r (fun _ _ _ _ _ _ _ _ r => r) m1 fun v p ρ2 F2 H2 lab2 mv2 sr2 rp m2 => ?_⟩
    split at m2
    · rename_i b'
      cases rp
      split at m2
      · rename_i hb
        exact ⟨a', b', rfl, ⟨by omega, by omega, by omega, by omega⟩, tail_of m2 sr2 walks_range (rangeD_line hb.1 hb.2.2.2)⟩
      · exact m2.elim
    · exact m2.elim
  · exact m1.elim
end

/-! ### for -/
def forL (tg : D → Env → Option Env) (body : Env → Flow) : List D → Env → Flow
  | [], ρ => .next ρ
  | d :: r, ρ => match tg d ρ with
    | none => .no
    | some ρ1 => match body ρ1 with
      | .next ρ2 => forL tg body r ρ2
      | .cont ρ2 => forL tg body r ρ2
      | .brk ρ2 => .next ρ2
      | fl => fl
def sFor (h : Env → Out (List D)) (tg : D → Env → Option Env) (body : Env → Flow) (ρ : Env) : Flow := flow (h ρ) fun ds ρ1 => forL tg body ds ρ1
def whileL (t : Env → Out Bool) (body : Env → Flow) : Nat → Env → Flow
  | 0, _ => .no
  | n + 1, ρ => flow (t ρ) fun k ρ1 => if k = true then (match body ρ1 with
      | .next ρ2 => whileL t body n ρ2
      | .cont ρ2 => whileL t body n ρ2
      | .brk ρ2 => .next ρ2
      | fl => fl) else .next ρ1
section
variable {X : Cx} {W : WX} {ks : List Nat} {q : Bool} {tgt iter c : Expr} {body : List Stmt} {h : Env → Out (List D)} {tg : D → Env → Option Env} {g : Env → Flow} {t : Env → Out Bool} {pos : Pos}
theorem s_for (hp : PassesOwn (model X.prog X.w) X.A X.env X.xe) (hc : X.calm = true) (hi : DI X W q tgt iter h) (hg : DG X ks tgt tg) (hb : DSs X W ks body g) (hs : ∀ x, foldedSetIterable iter X.env x = pure x := by intro _; rfl) : DS X W ks (.For tgt iter body [] pos) (sFor h tg g) := by
  refine PS_weak (ps_for hp hc hi hg hb hs) fun D σ H hh => ?_
  obtain ⟨ρ, F, lab, sr, m⟩ := hh
  refine ⟨ρ, F, lab, sr, SMeets.expr m fun J ds ρ1 F1 H1 lab1 mv1 sr1 rw m1 => ?_⟩
  obtain ⟨wk, _⟩ := rw
  refine ⟨fun i n σ2 H2 => n = ds.length - i ∧ i ≤ ds.length ∧ ∃ ρ2 F2 lab2, SR X.K X.mg F2 H2 lab2 σ2 ρ2 ∧ Le F1 F2 ∧ SMeets X.K X.mg W ks F2 H2 lab2 σ2 (forL tg g (ds.drop i) ρ2) D, ⟨ds.length, by omega, by omega, ρ1, F1, lab1, sr1, Le.refl _, m1⟩, ?_⟩
  rintro i n σ2 H2 ⟨rfl, hi, ρ2, F2, lab2, sr2, l2, m2⟩
  obtain ⟨wstop, wgo⟩ := wk F2 H2 l2 sr2.bas.le
  by_cases hlt : i < ds.length
  · refine .inr ?_
    have hd : ds[i]? = some ds[i] := List.getElem?_eq_getElem hlt
    obtain ⟨go, yl⟩ := wgo i _ hd
    rw [List.drop_eq_getElem_cons hlt] at m2
    unfold forL at m2
    refine ⟨go, fun σ4 H4 => i + 1 ≤ ds.length ∧ ∃ ρ4 F4 lab4, SR X.K X.mg F4 H4 lab4 σ4 ρ4 ∧ Le F1 F4 ∧ SMeets X.K X.mg W ks F4 H4 lab4 σ4 (forL tg g (ds.drop (i + 1)) ρ4) D, fun σ4 H4 ⟨z, r⟩ => ⟨ds.length - (i + 1), by omega, rfl, z, r⟩, fun x H3 hy => ?_⟩
    obtain ⟨F3, gr, rx⟩ := yl x H3 hy
    have m3 := SMeets.later (σ1 := σ2) m2 (gr.move (q := false) (lab := lab2)) Keep.refl
    have sr3 := gr.sr sr2
    refine ⟨ρ2, F3, lab2, _, sr3, rx, ?_⟩
    cases ht : tg ds[i] ρ2 with
    | none => rw [ht] at m3; exact m3
    | some ρ3 =>
      rw [ht] at m3
      intro σ5 F5 H5 lab5 mv5 sr5 k5
      have m5 := SMeets.later m3 mv5.to_false k5
      have l5 : Le F1 F5 := l2.trans (gr.ff.trans mv5.ff)
      refine ⟨ρ3, F5, lab5, sr5, ?_⟩
      simp only at m5
      cases hb : g ρ3 with
      | next ρ6 => rw [hb] at m5; exact fun σ' F' H' lab' mv s k => ⟨hlt, ρ6, F', lab', s, l5.trans mv.ff, SMeets.later m5 mv k⟩
      | cont ρ6 => rw [hb] at m5; exact fun σ' F' H' lab' mv s k => ⟨hlt, ρ6, F', lab', s, l5.trans mv.ff, SMeets.later m5 mv k⟩
      | brk ρ6 => rw [hb] at m5; exact m5
      | ret p ρ6 => rw [hb] at m5; exact m5
      | exc x ρ6 => rw [hb] at m5; exact m5
      | no => rw [hb] at m5; exact m5
  · have e : i = ds.length := by omega
    subst e
    rw [List.drop_length] at m2
    exact .inl ⟨wstop _ (Nat.le_refl _), m2 σ2 F2 H2 lab2 Move.refl sr2 Keep.refl⟩
theorem s_while (n : Nat) (hp : PassesOwn (model X.prog X.w) X.A X.env X.xe) (hc : DT X W q c t) (hb : DSs X W ks body g) : DS X W ks (.While c body [] pos) (whileL t g n) := by
  refine PS_weak (ps_while hp hc hb) fun D σ H hh => ?_
  obtain ⟨ρ, F, lab, sr, m⟩ := hh
  refine ⟨fun n σ2 H2 => ∃ ρ2 F2 lab2, SR X.K X.mg F2 H2 lab2 σ2 ρ2 ∧ SMeets X.K X.mg W ks F2 H2 lab2 σ2 (whileL t g n ρ2) D, ⟨n, ρ, F, lab, sr, m⟩, ?_⟩
  rintro n σ2 H2 ⟨ρ2, F2, lab2, sr2, m2⟩
  cases n with
  | zero => exact m2.elim
  | succ n =>
    unfold whileL at m2
    refine ⟨ρ2, F2, lab2, sr2, SMeets.expr m2 fun b k ρ3 F3 H3 lab3 mv3 sr3 rp m3 => ?_⟩
    subst rp
    cases b with
    | false => exact m3 σ2 F3 H3 lab3 Move.refl sr3 Keep.refl
    | true =>
      refine ⟨fun σ4 H4 => ∃ ρ4 F4 lab4, SR X.K X.mg F4 H4 lab4 σ4 ρ4 ∧ SMeets X.K X.mg W ks F4 H4 lab4 σ4 (whileL t g n ρ4) D, fun σ4 H4 r => ⟨n, Nat.lt_succ_self n, r⟩, ρ3, F3, lab3, sr3, ?_⟩
      simp only [if_true] at m3
      cases hb : g ρ3 with
      | next ρ6 => rw [hb] at m3; exact fun σ' F' H' lab' mv s k => ⟨ρ6, F', lab', s, SMeets.later m3 mv k⟩
      | cont ρ6 => rw [hb] at m3; exact fun σ' F' H' lab' mv s k => ⟨ρ6, F', lab', s, SMeets.later m3 mv k⟩
      | brk ρ6 => rw [hb] at m3; exact m3
      | ret p ρ6 => rw [hb] at m3; exact m3
      | exc x ρ6 => rw [hb] at m3; exact m3
      | no => rw [hb] at m3; exact m3
end
end LW

/-! LW8: list comprehensions. -/
namespace LW
open PySem PySem.Spec PyProof.Rows L2

/-- no exception leaves -/
abbrev WN : WX := fun _ _ _ _ => False
def wipeE (ρ : Env) : List Nat → Env
  | [] => ρ
  | v :: vs => (wipeE ρ vs).set v none
/-- a slot's content, none where there is none -/
def getS (ρ : Env) (i : Nat) : Option O := match ρ[i]? with
  | some z => z
  | none => none
def restE (ρ0 ρ : Env) : List Nat → Env
  | [] => ρ
  | v :: vs => (restE ρ0 ρ vs).set v (getS ρ0 v)
def ownOk (ρ : Env) (own : List Nat) : Bool := own.all fun i => match getS ρ i with
  | none => true
  | some (.v _) => true
  | _ => false
def sYes (ρ : Env) : Out Bool := .ok true ρ
def lcL (own : List Nat) (tg : D → Env → Option Env) (t : Env → Out Bool) (f : Env → Out P) : List D → List D → Env → Out (List D)
  | [], acc, ρ => .ok acc ρ
  | d :: r, acc, ρ => match tg d ρ with
    | none => .no
    | some ρ1 => match t ρ1 with
      | .ok false ρ2 => lcL own tg t f r acc (wipeE ρ2 own)
      | .ok true ρ2 => (match sFz f ρ2 with
        | .ok (.v y) ρ3 => lcL own tg t f r (acc ++ [y]) (wipeE ρ3 own)
        | _ => .no)
      | _ => .no
def sLc (own : List Nat) (h : Env → Out (List D)) (tg : D → Env → Option Env) (t : Env → Out Bool) (f : Env → Out P) (ρ : Env) : Out P := (h ρ).bind fun ds ρ1 =>
  if ownOk ρ1 own = true then (lcL own tg t f ds [] (wipeE ρ1 own)).bind fun acc ρ2 => .ok (.f (.l acc)) (restE ρ1 ρ2 own) else .no

section
variable {K : PySem.W.Frag} {mg : Str → Option Value} {F H F1 H1 : Hp} {lab lab1 : Lab} {σ : L2.St} {ρ ρ1 ρ2 : Env}
theorem sr_wipe (sr : SR K mg F H lab σ ρ) : ∀ vs : List Nat, SR K mg F H lab (L2.wipe σ vs) (wipeE ρ vs)
  | [] => sr
  | v :: vs => by
    have s := sr_wipe sr vs
    refine ⟨s.bas, fun j o hj => ?_, by unfold wipeE L2.wipe; rw [List.length_set, List.length_set]; exact s.len⟩
    unfold wipeE at hj
    unfold L2.wipe
    by_cases e : j = v
    · subst e
      by_cases hl : j < (wipeE ρ vs).length
      · rw [List.getElem?_set_self hl] at hj; cases hj
      · rw [List.getElem?_eq_none (by rw [List.length_set]; omega)] at hj; cases hj
    · rw [List.getElem?_set_ne (Ne.symm e)] at hj ⊢
      exact s.env j o hj
theorem wipe_get {σ : L2.St} {j : Nat} : ∀ {vs : List Nat}, j ∉ vs → (L2.wipe σ vs)[j]? = σ[j]?
  | [], _ => rfl
  | v :: vs, h => by
    unfold L2.wipe
    rw [List.getElem?_set_ne (fun e => h (by simp [e]))]
    exact wipe_get fun z => h (List.mem_cons_of_mem _ z)
theorem wipe_at {σ : L2.St} {j : Nat} : ∀ {vs : List Nat}, j ∈ vs → (L2.wipe σ vs)[j]? = if j < σ.length then some none else none
  | v :: vs, h => by
    unfold L2.wipe
    by_cases e : v = j
    · subst e
      by_cases hl : v < σ.length
      · rw [if_pos hl, List.getElem?_set_self (by rw [L2.wipe_length]; exact hl)]
      · rw [if_neg hl, List.getElem?_eq_none (by rw [List.length_set, L2.wipe_length]; omega)]
    · rw [List.getElem?_set_ne e]
      exact wipe_at (by rcases List.mem_cons.mp h with z | z; exact absurd z.symm e; exact z)
theorem wipe_eq {σ σ2 : L2.St} {vs ks : List Nat} (hk : ∀ j, j < σ.length → j ∉ vs → j ∈ ks) (k : Keep ks (L2.wipe σ vs) σ2) : L2.wipe σ2 vs = L2.wipe σ vs := by
  have hl : σ2.length = σ.length := k.len.trans (L2.wipe_length σ vs)
  refine List.ext_getElem? fun j => ?_
  by_cases hj : j ∈ vs
  · rw [wipe_at hj, wipe_at hj, hl]
  · rw [wipe_get hj]
    by_cases h : j < σ.length
    · exact k.at_ j (hk j h hj)
    · rw [List.getElem?_eq_none (by omega), List.getElem?_eq_none (by rw [L2.wipe_length]; omega)]
theorem sr_rest (sr0 : SR K mg F1 H1 lab1 σ ρ1) (l : Le F1 F) : ∀ vs : List Nat, (∀ i ∈ vs, ∀ o, ρ1[i]? = some (some o) → ∃ d, o = .v d) → ∀ {us : List Nat}, (∀ i ∈ vs, i ∈ us) →
    SR K mg F H lab (L2.wipe σ us) ρ2 → ∀ j o, (restE ρ1 ρ2 vs)[j]? = some (some o) → ∃ v, σ[j]? = some (some v) ∧ RepO K mg F H lab [j] v o
  | [], _, us, _, sr, j, o, hj => by
    obtain ⟨v, h1, h2⟩ := sr.env j o hj
    exact ⟨v, (L2.wipe_some h1).1, h2⟩
  | v :: vs, hv, us, hu, sr, j, o, hj => by
    unfold restE at hj
    by_cases e : v = j
    · subst e
      by_cases hl : v < (restE ρ1 ρ2 vs).length
      · rw [List.getElem?_set_self hl] at hj
        have hg : getS ρ1 v = some o := Option.some.inj hj
        have h1 : ρ1[v]? = some (some o) := by
          unfold getS at hg
          split at hg
          · rename_i z hz; rw [hz, hg]
          · cases hg
        obtain ⟨d, rfl⟩ := hv v List.mem_cons_self o h1
        obtain ⟨x, g1, g2⟩ := sr0.env v _ h1
        cases g2 with | v r => exact ⟨x, g1, .v (r.mono l)⟩
      · rw [List.getElem?_eq_none (by rw [List.length_set]; omega)] at hj; cases hj
    · rw [List.getElem?_set_ne e] at hj
      exact sr_rest sr0 l vs (fun i hi => hv i (List.mem_cons_of_mem _ hi)) (fun i hi => hu i (List.mem_cons_of_mem _ hi)) sr j o hj
theorem restE_len : ∀ vs : List Nat, (restE ρ1 ρ2 vs).length = ρ2.length
  | [] => rfl
  | v :: vs => by unfold restE; rw [List.length_set]; exact restE_len vs
theorem sr_back (sr0 : SR K mg F1 H1 lab1 σ ρ1) (l : Le F1 F) {vs : List Nat} (ho : ownOk ρ1 vs = true) (sr : SR K mg F H lab (L2.wipe σ vs) ρ2) : SR K mg F H lab σ (restE ρ1 ρ2 vs) := by
  refine ⟨sr.bas, fun j o hj => sr_rest sr0 l vs (fun i hi o h => ?_) (fun i hi => hi) sr j o hj, by rw [restE_len, sr.len, L2.wipe_length]⟩
  have := List.all_eq_true.mp ho i hi
  unfold getS at this
  rw [h] at this
  cases o with
  | v d => exact ⟨d, rfl⟩
  | l _ => cases this
  | k _ _ => cases this
  | i _ _ => cases this
/-- the comprehension's own list grows -/
theorem sr_grow {D0 : Addr} {o : HO} (sr : SR K mg F H lab σ ρ) (h1 : F D0 = none) (h2 : lab D0 = none) : SR K mg F (upd H D0 o) lab σ ρ := by
  refine ⟨⟨fun a u h => ?_, fun a p h => ?_⟩, fun j o' hj => ?_, sr.len⟩
  · rw [upd_ne (ne_of_none h h1)]; exact sr.bas.le a u h
  · have e : a ≠ D0 := by intro e; subst e; rw [h2] at h; cases h
    rw [upd_ne e]; exact sr.bas.lf a p h
  · obtain ⟨v, g1, g2⟩ := sr.env j o' hj
    refine ⟨v, g1, g2.stay (Le.refl _) fun a r e => ⟨?_, e⟩⟩
    exact upd_ne (by intro z; subst z; rw [h2] at e; cases e)
end
section
variable {X : Cx} {W : WX} {q qt qe : Bool} {elt tgt iter c : Expr} {ifs : List Expr} {scope : Scope} {own : List (Str × Nat)} {ks : List Nat} {pos : Pos} {h : Env → Out (List D)} {tg : D → Env → Option Env} {t : Env → Out Bool} {f : Env → Out P}
theorem ts_nil : PTs X [] (tDT X.K X.mg WN true sYes) := ⟨fun pins s σ H Q I w => by
  obtain ⟨ρ, F, lab, sr, m⟩ := w
  exact pts_nil.run pins s σ H Q I (m true F H lab Move.refl sr rfl)⟩
theorem ts_one (ht : DT X WN qt c t) : PTs X [c] (tDT X.K X.mg WN qt t) := pts_one ht
theorem lc_read (ho : ∀ j, j < X.N.length → j ∉ own.map (·.2) → j ∈ ks) {σ : L2.St} {H : Hp} {Q : VK} (hlen : σ.length = X.N.length) (hh : tD X.K X.mg W (q && (qt && qe)) (sLc (own.map (·.2)) h tg t f) σ H Q) :
    tLc (tDI X.K X.mg W q h) (tDG X.K X.mg ks tg) (tDT X.K X.mg WN qt t) (tD X.K X.mg WN qe (sFz f)) (own.map (·.2)) σ H Q := by
  obtain ⟨ρ, F, lab, sr, m⟩ := hh
  refine ⟨ρ, F, lab, sr, Meets.seq (rep2 := RepP X.K X.mg) and_l sinceP m fun J ds ρ1 F1 H1 lab1 mv1 sr1 rw m1 => ?_⟩
  obtain ⟨wk, hz⟩ := rw
  split at m1
  case isFalse => exact m1.elim
  rename_i hown
  intro D0 hD
  generalize hR : lcL (own.map (·.2)) tg t f ds [] (wipeE ρ1 (own.map (·.2))) = R0 at m1
  have fD : F1 D0 = none := by
    cases e : F1 D0 with
    | none => rfl
    | some u => rw [sr1.bas.le D0 u e] at hD; cases hD
  have lD : lab1 D0 = none := by
    cases e : lab1 D0 with
    | none => rfl
    | some p => exact absurd hD (sr1.bas.lf D0 p e).2
  refine ⟨fun i n H2 => n = ds.length - i ∧ i ≤ ds.length ∧ ∃ acc xs ρ2 F2 lab2, SR X.K X.mg F2 H2 lab2 (L2.wipe σ (own.map (·.2))) ρ2 ∧ Move (q && (qt && qe)) F1 H1 lab1 F2 H2 lab2 ∧ H2 D0 = some (.lst xs) ∧ RepL X.K X.mg F2 xs acc ∧ F2 D0 = none ∧ lab2 D0 = none ∧ acc.length ≤ i ∧
      lcL (own.map (·.2)) tg t f (ds.drop i) acc ρ2 = R0, ⟨ds.length, by omega, by omega, [], [], wipeE ρ1 (own.map (·.2)), F1, lab1, ?_, ?_, upd_same, .nil, fD, lD, Nat.le_refl _, by rw [List.drop_zero]; exact hR⟩, ?_⟩
  · exact sr_grow (sr_wipe sr1 _) fD lD
  · exact (Grow.own sr1.bas.le hD).move
  rintro i n H2 ⟨rfl, hi, acc, xs, ρ2, F2, lab2, sr2, mv2, hx, rx, f2, l2, ha, hR2⟩
  obtain ⟨wstop, wgo⟩ := wk F2 H2 mv2.ff sr2.bas.le
  by_cases hlt : i < ds.length
  · refine .inr ?_
    obtain ⟨go, yl⟩ := wgo i _ (List.getElem?_eq_getElem hlt)
    rw [List.drop_eq_getElem_cons hlt] at hR2
    unfold lcL at hR2
    have next : ∀ acc' xs' ρ4 F4 H4 lab4 σ4, SR X.K X.mg F4 H4 lab4 σ4 ρ4 → L2.wipe σ4 (own.map (·.2)) = L2.wipe σ (own.map (·.2)) → Move (q && (qt && qe)) F1 H1 lab1 F4 H4 lab4 → RepL X.K X.mg F4 xs' acc' → F4 D0 = none → lab4 D0 = none → acc'.length ≤ i + 1 → H4 D0 = some (.lst xs) →
        lcL (own.map (·.2)) tg t f (ds.drop (i + 1)) acc' (wipeE ρ4 (own.map (·.2))) = R0 → ∃ acc xs ρ2 F2 lab2, SR X.K X.mg F2 (upd H4 D0 (.lst xs')) lab2 (L2.wipe σ (own.map (·.2))) ρ2 ∧ Move (q && (qt && qe)) F1 H1 lab1 F2 (upd H4 D0 (.lst xs')) lab2 ∧ (upd H4 D0 (.lst xs')) D0 = some (.lst xs) ∧ RepL X.K X.mg F2 xs acc ∧ F2 D0 = none ∧ lab2 D0 = none ∧ acc.length ≤ i + 1 ∧
        lcL (own.map (·.2)) tg t f (ds.drop (i + 1)) acc ρ2 = R0 := fun acc' xs' ρ4 F4 H4 lab4 σ4 s4 ew m4 r4 f4 l4 a4 h4 e4 => by
      refine ⟨acc', xs', _, F4, lab4, ?_, ⟨m4.ff, fun a ha => ?_, fun a ha hq => ?_⟩, upd_same, r4, f4, l4, a4, e4⟩
      · have := sr_grow (o := .lst xs') (sr_wipe s4 (own.map (·.2))) f4 l4
        rw [ew] at this
        exact this
      · by_cases e : a = D0
        · subst e; exact absurd hD ha
        · rw [upd_ne e]; exact m4.th a ha
      · have e : a ≠ D0 := fun e => by subst e; exact ha hD
        rw [upd_ne e]; exact m4.fr a ha hq
    refine ⟨go, fun H4 => i + 1 ≤ ds.length ∧ ∃ acc xs ρ2 F2 lab2, SR X.K X.mg F2 H4 lab2 (L2.wipe σ (own.map (·.2))) ρ2 ∧ Move (q && (qt && qe)) F1 H1 lab1 F2 H4 lab2 ∧ H4 D0 = some (.lst xs) ∧ RepL X.K X.mg F2 xs acc ∧ F2 D0 = none ∧ lab2 D0 = none ∧ acc.length ≤ i + 1 ∧
      lcL (own.map (·.2)) tg t f (ds.drop (i + 1)) acc ρ2 = R0, fun H4 ⟨z, r⟩ => ⟨ds.length - (i + 1), by omega, rfl, z, r⟩, fun x H3 hy => ?_⟩
    obtain ⟨F3, gr, rx3⟩ := yl x H3 hy
    have sr3 := gr.sr sr2
    have mv3 : Move (q && (qt && qe)) F1 H1 lab1 F3 H3 lab2 := mv2.trans gr.move
    have hx3 : H3 D0 = some (.lst xs) := gr.hh D0 _ hx
    have f3 : F3 D0 = none := gr.fn D0 (ne_none hx) f2
    refine ⟨ρ2, F3, lab2, _, sr3, rx3, ?_⟩
    cases ht : tg ds[i] ρ2 with
    | none => rw [ht] at hR2; simp only at hR2; rw [← hR2] at m1; exact m1
    | some ρ3 =>
      rw [ht] at hR2
      simp only at hR2
      intro σ5 F5 H5 lab5 mv5 sr5 k5
      have ew : L2.wipe σ5 (own.map (·.2)) = L2.wipe σ (own.map (·.2)) := wipe_eq (fun j hj hn => ho j (by omega) hn) k5
      have hx5 : H5 D0 = H3 D0 ∧ lab5 D0 = lab2 D0 ∧ (F3 D0 = none → F5 D0 = none) := mv5.fr D0 (ne_none hx3) (.inl rfl)
      have mv5' : Move (q && (qt && qe)) F1 H1 lab1 F5 H5 lab5 := mv3.trans (mv5.weak _ fun _ => rfl)
      refine ⟨ew, ρ3, F5, lab5, sr5, ?_⟩
      cases ht2 : t ρ3 with
      | no => rw [ht2] at hR2; simp only at hR2; rw [← hR2] at m1; exact m1
      | exc x ρ4 => rw [ht2] at hR2; simp only at hR2; rw [← hR2] at m1; exact m1.elim
      | ok b ρ4 =>
        intro b' F6 H6 lab6 mv6 sr6 eb
        subst eb
        have hx6 := mv6.fr D0 (ne_none (hx5.1.trans hx3)) (.inr (hx5.2.1.trans l2))
        have mv6' : Move (q && (qt && qe)) F1 H1 lab1 F6 H6 lab6 := mv5'.trans (mv6.weak _ fun z => and_l (and_r z))
        have h6 : H6 D0 = some (.lst xs) := hx6.1.trans (hx5.1.trans hx3)
        have l6 : lab6 D0 = none := hx6.2.1.trans (hx5.2.1.trans l2)
        have f6 : F6 D0 = none := hx6.2.2 (hx5.2.2 f3)
        have r6 : RepL X.K X.mg F6 xs acc := rx.mono (gr.ff.trans (mv5.ff.trans mv6.ff))
        cases b' with
        | false =>
          rw [ht2] at hR2
          simp only at hR2
          refine ⟨hlt, ?_⟩
          have := next acc xs ρ4 F6 H6 lab6 σ5 sr6 ew mv6' r6 f6 l6 (by omega) h6 hR2
          have eu : upd H6 D0 (.lst xs) = H6 := by
            funext a
            by_cases e : a = D0
            · subst e; rw [upd_same, h6]
            · rw [upd_ne e]
          rw [eu] at this
          exact this
        | true =>
          rw [ht2] at hR2
          simp only at hR2
          refine ⟨ρ4, F6, lab6, sr6, ?_⟩
          cases hf : sFz f ρ4 with
          | no => rw [hf] at hR2; simp only at hR2; rw [← hR2] at m1; exact m1
          | exc x ρ5 => rw [hf] at hR2; simp only at hR2; rw [← hR2] at m1; exact m1.elim
          | ok p ρ5 =>
            rw [hf] at hR2
            intro y F7 H7 lab7 mv7 sr7 ry
            have hx7 := mv7.fr D0 (ne_none h6) (.inr l6)
            cases p with
            | f o => simp only at hR2; rw [← hR2] at m1; exact m1.elim
            | s d => simp only at hR2; rw [← hR2] at m1; exact m1.elim
            | v d =>
              simp only at hR2
              refine ⟨xs, hx7.1.trans h6, ?_, hlt, ?_⟩
              · rw [rx.length]; omega
              · exact next (acc ++ [d]) (xs ++ [y]) ρ5 F7 H7 lab7 σ5 sr7 ew (mv6'.trans (mv7.weak _ fun z => and_r (and_r z))) ((r6.mono mv7.ff).append (.cons ry .nil)) (hx7.2.2 f6) (hx7.2.1.trans l6) (by simp; omega) (hx7.1.trans h6) hR2
  · have e : i = ds.length := by omega
    subst e
    rw [List.drop_length] at hR2
    refine .inl ⟨wstop _ (Nat.le_refl _), ?_⟩
    have e0 : R0 = .ok acc ρ2 := by rw [← hR2]; rfl
    rw [e0] at m1
    refine m1 (.ref D0) F2 H2 lab2 mv2 (sr_back sr1 mv2.ff hown sr2) ⟨fun a => if a = D0 then some [] else none, .l (by simp) hx rx, fun a z e => ?_⟩
    have ea : a = D0 := by
      by_cases h : a = D0
      · exact h
      · have e' : (if a = D0 then some ([] : List Nat) else none) = some z := e
        rw [if_neg h] at e'; cases e'
    subst ea
    exact ⟨.of_none hD, l2, f2, ne_none hx⟩
theorem e_lc (hc : X.calm = true) (hN : X.N.Nodup) (hi : DI X W q tgt iter h) (ok : BlkOk X.N X.env.scope scope own) (ho : ∀ j, j < X.N.length → j ∉ own.map (·.2) → j ∈ ks)
    (hg : ∀ (s : Shared) (H : Hp) (C : Addr) (cl : List (Str × Addr)) (fp : List Addr), DG (X.blk s H scope (compEnvC scope cl C X.env) fp) ks tgt tg)
    (ht : ∀ (s : Shared) (H : Hp) (C : Addr) (cl : List (Str × Addr)) (fp : List Addr), PTs (X.blk s H scope (compEnvC scope cl C X.env) fp) ifs (tDT X.K X.mg WN qt t))
    (he : ∀ (s : Shared) (H : Hp) (C : Addr) (cl : List (Str × Addr)) (fp : List Addr), DE (X.blk s H scope (compEnvC scope cl C X.env) fp) WN qe elt f) (hs : ∀ x, foldedSetIterable iter X.env x = pure x := by intro _; rfl) :
    DE X W (q && (qt && qe)) (.ListComp elt [⟨tgt, iter, ifs, 0⟩] scope pos) (sLc (own.map (·.2)) h tg t f) :=
  ⟨fun pins s σ H Q I w => (pe_lc (own := own) (g := tDG X.K X.mg ks tg) (tt := tDT X.K X.mg WN qt t) (te := tD X.K X.mg WN qe (sFz f)) hc hN hi ok hg ht (fun s H C cl fp => e_fz (he s H C cl fp)) hs).run pins s σ H Q I (lc_read ho I.len w)⟩
theorem s_setLc {i : Nat} {y : Str} {py spos : Pos} (hc : X.calm = true) (hN : X.N.Nodup) (hy : X.N[i]? = some y) (hyl : X.env.scope.names.lookup y = some .local) (hk : i ∉ ks)
    (hsw : swapsWith (.ListComp elt [⟨tgt, iter, ifs, 0⟩] scope pos) (some (.Name y py)) spos.line X.env = pure true) (hi : DI X W q tgt iter h) (ok : BlkOk X.N X.env.scope scope own) {ks' : List Nat} (ho : ∀ j, j < X.N.length → j ∉ own.map (·.2) → j ∈ ks')
    (hg : ∀ (s : Shared) (H : Hp) (C : Addr) (cl : List (Str × Addr)) (fp : List Addr), DG (X.blk s H scope (compEnvC scope cl C X.env) fp) ks' tgt tg)
    (ht : ∀ (s : Shared) (H : Hp) (C : Addr) (cl : List (Str × Addr)) (fp : List Addr), PTs (X.blk s H scope (compEnvC scope cl C X.env) fp) ifs (tDT X.K X.mg WN qt t))
    (he : ∀ (s : Shared) (H : Hp) (C : Addr) (cl : List (Str × Addr)) (fp : List Addr), DE (X.blk s H scope (compEnvC scope cl C X.env) fp) WN qe elt f) (hs : ∀ x, foldedSetIterable iter X.env x = pure x := by intro _; rfl) :
    DS X W ks (.Assign [.Name y py] (.ListComp elt [⟨tgt, iter, ifs, 0⟩] scope pos) spos) (sSet i (sLc (own.map (·.2)) h tg t f)) :=
  ⟨fun pins s σ H D I w => (ps_setLc (own := own) (g := tDG X.K X.mg ks' tg) (tt := tDT X.K X.mg WN qt t) (te := tD X.K X.mg WN qe (sFz f)) hc hN hy hyl hsw hi ok hg ht (fun s H C cl fp => e_fz (he s H C cl fp)) hs).run pins s σ H D I (by
    obtain ⟨ρ, F, lab, sr, m⟩ := w
    have := put_read (X := X) (W := W) (q := (q && (qt && qe))) (f := sLc (own.map (·.2)) h tg t f) hy hk I.len ⟨ρ, F, lab, sr, m⟩
    exact lc_read ho I.len this)⟩
end
end LW

/-! LW9: the operators on data. -/
namespace LW
open PySem PySem.Spec PyProof.Rows L2

/-- what follows an operation by values: new things alone -/
def Cont (K : PySem.W.Frag) (mg : Str → Option Value) (F H : Hp) (lab : Lab) (p : P) (Q : VK) : Prop := ∀ w F' H', Grow F H F' H' → RepP K mg (fun a => H a = none) F' H' lab w p → Q w H'
def rD (K : PySem.W.Frag) (mg : Str → Option Value) (g : D → D → Option P) : R2 := fun x y H Q => ∃ F lab dx dy p, Bas F H lab ∧ RepS K mg F H x dx ∧ RepS K mg F H y dy ∧ g dx dy = some p ∧ Cont K mg F H lab p Q
def rD1 (K : PySem.W.Frag) (mg : Str → Option Value) (g : D → Option P) : List V → Hp → VK → Prop := fun xs H Q => ∃ F lab x dx p, xs = [x] ∧ Bas F H lab ∧ RepS K mg F H x dx ∧ g dx = some p ∧ Cont K mg F H lab p Q
def rD2 (K : PySem.W.Frag) (mg : Str → Option Value) (g : D → D → Option P) : List V → Hp → VK → Prop := fun xs H Q => ∃ x y, xs = [x, y] ∧ rD K mg g x y H Q
theorem op2_D {K : PySem.W.Frag} {mg : Str → Option Value} {g : D → D → Option P} : Op2 K mg (rD K mg g) g := fun v u x y p F H lab Q b rx ry e k => ⟨F, lab, x, y, p, b, rx, ry, e, k⟩
theorem call1_D {K : PySem.W.Frag} {mg : Str → Option Value} {g : D → Option P} : Call1 K mg (rD1 K mg g) g := fun v x p F H lab Q b rx e k => ⟨F, lab, v, x, p, rfl, b, rx, e, k⟩
theorem call2_D {K : PySem.W.Frag} {mg : Str → Option Value} {g : D → D → Option P} : Call2 K mg (rD2 K mg g) g := fun v u x y p F H lab Q b rx ry e k => ⟨v, u, rfl, F, lab, x, y, p, b, rx, ry, e, k⟩
def OpD (X : Cx) (f : Value → Value → Sem Value) (g : D → D → Option P) : Prop := OpR X f (rD X.K X.mg g)
section
variable {K : PySem.W.Frag} {mg : Str → Option Value} {F H : Hp} {lab : Lab} {Q : VK}
theorem Cont.int (b : Bas F H lab) {i : Int} (k : Cont K mg F H lab (.v (.int i)) Q) : Q (.int i) H := k _ F H (Grow.refl b.le) (Rep.int i)
theorem Cont.bl (b : Bas F H lab) {i : Bool} (k : Cont K mg F H lab (.v (.bl i)) Q) : Q (.bl i) H := k _ F H (Grow.refl b.le) (Rep.bl i)
theorem Cont.str (b : Bas F H lab) {i : Str} (k : Cont K mg F H lab (.v (.str i)) Q) : Q (.str i) H := k _ F H (Grow.refl b.le) (Rep.str i)
theorem Cont.non (b : Bas F H lab) (k : Cont K mg F H lab (.v .non) Q) : Q .non H := k _ F H (Grow.refl b.le) Rep.non
theorem Cont.same (b : Bas F H lab) {d : D} {v : V} (r : Rep K mg F v d) (k : Cont K mg F H lab (.v d) Q) : Q v H := k _ F H (Grow.refl b.le) r
theorem Cont.tup (b : Bas F H lab) {xs : List V} {ds : List D} (r : RepL K mg F xs ds) (k : Cont K mg F H lab (.v (.tup ds)) Q) : ∀ p, H p = none → Q (.ref p) (upd H p (.tup xs)) := new_tup (lab := lab) b.le r k
theorem Cont.lst (b : Bas F H lab) {xs : List V} {ds : List D} (r : RepL K mg F xs ds) (k : Cont K mg F H lab (.f (.l ds)) Q) : ∀ p, H p = none → Q (.ref p) (upd H p (.lst xs)) := new_lst b r k
end

/-! ### arithmetic -/
def gAdd : D → D → Option P
  | .int i, .int j => some (.v (.int (i + j)))
  | .str x, .str y => if x.length + y.length ≤ sizeLine then some (.v (.str (x ++ y))) else none
  | .lst xs, .lst ys => if xs.length + ys.length ≤ sizeLine then some (.f (.l (xs ++ ys))) else none
  | .tup xs, .tup ys => if xs.length + ys.length ≤ sizeLine then some (.v (.tup (xs ++ ys))) else none
  | _, _ => none
def gSub : D → D → Option P
  | .int i, .int j => some (.v (.int (i - j)))
  | _, _ => none
def gMul : D → D → Option P
  | .int i, .int j => if (-(2 ^ 64) < i ∧ i < 2 ^ 64) ∨ (-(2 ^ 64) < j ∧ j < 2 ^ 64) then some (.v (.int (i * j))) else none
  | _, _ => none
def gDiv : D → D → Option P
  | .int i, .int j => if 0 < j ∧ j < 1073741824 then some (.v (.int (i / j))) else none
  | _, _ => none
def gMod : D → D → Option P
  | .int i, .int j => if 0 < j then some (.v (.int (i % j))) else none
  | _, _ => none
def gPow : D → D → Option P
  | .int i, .int j => if 0 ≤ j ∧ j ≤ 1000000 ∧ i.natAbs < 2 ^ 64 then some (.v (.int (i ^ j.toNat))) else none
  | _, _ => none
theorem RepS.rep_tup {K : PySem.W.Frag} {mg : Str → Option Value} {F H : Hp} {v : V} {ds : List D} (r : RepS K mg F H v (.tup ds)) : Rep K mg F v (.tup ds) := by cases r with | v r => exact r
section
variable {X : Cx}
/-- list + list, whatever may be read -/
theorem op_catR {pins : List (Addr × Obj)} {s : Shared} {σ : L2.St} {H : Hp} {l b : Addr} {xs ys : List V} {v u : Value} {Q : VK} (I : Inv X pins σ H s) (rx : RelV (.ref l) v) (ry : RelV (.ref b) u) (h1 : SqL X.K H l xs) (h2 : SqL X.K H b ys) (hz : xs.length + ys.length ≤ sizeLine)
    (q : ∀ p, H p = none → Q (.ref p) (upd H p (.lst (xs ++ ys)))) : wpAny (model X.prog X.w) X.A (binaryOp .Add v u) (EP X pins σ Q) X.xe s := by
  cases rx
  cases ry
  obtain ⟨its, r, ⟨⟨cls, dd, data, sl⟩, n, ho, hc, hdd, hd⟩, z⟩ := I.list h1
  obtain ⟨its2, r2, ⟨⟨cls2, dd2, data2, sl2⟩, n2, ho2, hc2, hdd2, hd2⟩, z2⟩ := I.list h2
  simp only at hc hd hc2 hd2
  subst hc hd hc2 hd2
  have hl := r.length
  have hl2 := r2.length
  have ea : its.toArray ++ its2.toArray = (its ++ its2).toArray := by simp
  refine concat_meets ⟨_, ho, rfl⟩ ⟨_, ho2, rfl⟩ noFill_list_add seq_list_add PySem.F.slot_list_add PySem.F.entry_list_add (PySem.F.args_list_add_2 _ _) (list_addW l b its.toArray its2.toArray n n2 dd dd2 sl sl2 (by rw [List.size_toArray, List.size_toArray]; omega)) ⟨ho, ho2, ?_⟩
  rw [ea]
  refine ⟨.ref s.heap.objs.size, _, I.laid (t' := s.toks) (o := .lst (xs ++ ys)) (fun b ob q => Heap.get?_push_of_some _ q) (Nat.le_refl _) ?_, rfl, q _ (I.hok.fresh (Nat.le_refl _))⟩
  exact ⟨by rw [List.length_append]; exact hz, _, _, r.append r2, Heap.get?_push_size _ rfl⟩
theorem opd_add : OpD X (binaryOp .Add) gAdd := by
  intro pins s σ H x y v u Q I rx ry ⟨F, lab, dx, dy, p, b, r1, r2, e, k⟩
  unfold gAdd at e
  split at e
  · cases e; cases r1.int; cases r2.int
    exact op_add pins s σ H _ _ v u Q I rx ry ⟨_, _, rfl, rfl, k.int b⟩
  · split at e
    · cases e; cases r1.str; cases r2.str
      exact op_add_str pins s σ H _ _ v u Q I rx ry ⟨_, _, rfl, rfl, by assumption, k.str b⟩
    · cases e
  · split at e
    · rename_i hz
      cases e
      obtain ⟨a1, xs1, rfl, h1, l1⟩ := r1.lst b.le
      obtain ⟨a2, xs2, rfl, h2, l2⟩ := r2.lst b.le
      exact op_catR I rx ry h1 h2 (by rw [l1.length, l2.length]; exact hz) (k.lst b (l1.append l2))
    · cases e
  · split at e
    · rename_i hz
      cases e
      have g1 := r1.rep_tup
      have g2 := r2.rep_tup
      obtain ⟨a1, xs1, rfl, h1, l1⟩ := r1.tup b.le
      obtain ⟨a2, xs2, rfl, h2, l2⟩ := r2.tup b.le
      refine op_catA pins s σ H _ _ v u Q I rx ry ⟨a1, a2, xs1, xs2, rfl, rfl, h1, h2, by rw [l1.length, l2.length]; exact hz, fun z => ?_, fun _ z => ?_, fun _ _ => k.tup b (l1.append l2)⟩
      · subst z
        cases l1
        exact k.same b g2
      · subst z
        cases l2
        rw [List.append_nil] at k
        exact k.same b g1
    · cases e
  · cases e
theorem opd_sub : OpD X (binaryOp .Sub) gSub := by
  intro pins s σ H x y v u Q I rx ry ⟨F, lab, dx, dy, p, b, r1, r2, e, k⟩
  unfold gSub at e
  split at e
  · cases e; cases r1.int; cases r2.int
    exact op_sub pins s σ H _ _ v u Q I rx ry ⟨_, _, rfl, rfl, k.int b⟩
  · cases e
theorem opd_mul : OpD X (binaryOp .Mult) gMul := by
  intro pins s σ H x y v u Q I rx ry ⟨F, lab, dx, dy, p, b, r1, r2, e, k⟩
  unfold gMul at e
  split at e
  · split at e
    · cases e; cases r1.int; cases r2.int
      exact op_mul pins s σ H _ _ v u Q I rx ry ⟨_, _, rfl, rfl, by assumption, k.int b⟩
    · cases e
  · cases e
theorem opd_div : OpD X (binaryOp .FloorDiv) gDiv := by
  intro pins s σ H x y v u Q I rx ry ⟨F, lab, dx, dy, p, b, r1, r2, e, k⟩
  unfold gDiv at e
  split at e
  · split at e
    · cases e; cases r1.int; cases r2.int
      exact op_fdiv pins s σ H _ _ v u Q I rx ry ⟨_, _, rfl, rfl, by assumption, k.int b⟩
    · cases e
  · cases e
theorem opd_mod : OpD X (binaryOp .Mod) gMod := by
  intro pins s σ H x y v u Q I rx ry ⟨F, lab, dx, dy, p, b, r1, r2, e, k⟩
  unfold gMod at e
  split at e
  · split at e
    · cases e; cases r1.int; cases r2.int
      exact op_mod pins s σ H _ _ v u Q I rx ry ⟨_, _, rfl, rfl, by assumption, k.int b⟩
    · cases e
  · cases e
theorem opd_pow : OpD X (binaryOp .Pow) gPow := by
  intro pins s σ H x y v u Q I rx ry ⟨F, lab, dx, dy, p, b, r1, r2, e, k⟩
  unfold gPow at e
  split at e
  · split at e
    · cases e; cases r1.int; cases r2.int
      exact op_pow pins s σ H _ _ v u Q I rx ry ⟨_, _, rfl, rfl, by assumption, k.int b⟩
    · cases e
  · cases e
def gNeg : D → Option P
  | .int i => some (.v (.int (-i)))
  | _ => none

/-! ### order -/
def gLt : D → D → Option P
  | .int i, .int j => some (.v (.bl (decide (i < j))))
  | _, _ => none
def gLe : D → D → Option P
  | .int i, .int j => some (.v (.bl (decide (i ≤ j))))
  | _, _ => none
def gGt : D → D → Option P
  | .int i, .int j => some (.v (.bl (decide (j < i))))
  | _, _ => none
def gGe : D → D → Option P
  | .int i, .int j => some (.v (.bl (decide (j ≤ i))))
  | _, _ => none
theorem opd_lt : OpD X (compareOp .Lt) gLt := by
  intro pins s σ H x y v u Q I rx ry ⟨F, lab, dx, dy, p, b, r1, r2, e, k⟩
  unfold gLt at e
  split at e
  · cases e; cases r1.int; cases r2.int
    exact op_lt pins s σ H _ _ v u Q I rx ry ⟨_, _, rfl, rfl, k.bl b⟩
  · cases e
theorem opd_le : OpD X (compareOp .LtE) gLe := by
  intro pins s σ H x y v u Q I rx ry ⟨F, lab, dx, dy, p, b, r1, r2, e, k⟩
  unfold gLe at e
  split at e
  · cases e; cases r1.int; cases r2.int
    exact op_le pins s σ H _ _ v u Q I rx ry ⟨_, _, rfl, rfl, k.bl b⟩
  · cases e
theorem opd_gt : OpD X (compareOp .Gt) gGt := by
  intro pins s σ H x y v u Q I rx ry ⟨F, lab, dx, dy, p, b, r1, r2, e, k⟩
  unfold gGt at e
  split at e
  · cases e; cases r1.int; cases r2.int
    exact op_gt pins s σ H _ _ v u Q I rx ry ⟨_, _, rfl, rfl, k.bl b⟩
  · cases e
theorem opd_ge : OpD X (compareOp .GtE) gGe := by
  intro pins s σ H x y v u Q I rx ry ⟨F, lab, dx, dy, p, b, r1, r2, e, k⟩
  unfold gGe at e
  split at e
  · cases e; cases r1.int; cases r2.int
    exact op_ge pins s σ H _ _ v u Q I rx ry ⟨_, _, rfl, rfl, k.bl b⟩
  · cases e
end

/-! ### equality of plain data -/
mutual
def D.py : D → PyData
  | .non => .none
  | .bl b => .bool b
  | .int i => .int i
  | .str s => .str s
  | .tup ds => .tuple (D.pyL ds)
  | .lst ds => .list (D.pyL ds)
  | .dct _ _ => .none
  | .ins _ _ => .none
def D.pyL : List D → List PyData
  | [] => []
  | d :: r => d.py :: D.pyL r
end
mutual
/-- no dict, no instance within; at most so deep -/
def D.plain : Nat → D → Bool
  | _, .non => true
  | _, .bl _ => true
  | _, .int _ => true
  | _, .str s => PyData.strOk s
  | n + 1, .tup ds => D.plainL n ds
  | n + 1, .lst ds => D.plainL n ds
  | 0, .tup _ => false
  | 0, .lst _ => false
  | _, .dct _ _ => false
  | _, .ins _ _ => false
def D.plainL : Nat → List D → Bool
  | _, [] => true
  | n, d :: r => D.plain n d && D.plainL n r
end
mutual
theorem D.plain_lay : ∀ (n : Nat) (d : D), d.plain n = true → d.py.canLay0 = true ∧ d.py.depth ≤ n
  | n, .non, _ => by simp [D.py, PyData.canLay0, PyData.depth]
  | n, .bl _, _ => by simp [D.py, PyData.canLay0, PyData.depth]
  | n, .int _, _ => by simp [D.py, PyData.canLay0, PyData.depth]
  | n, .str _, h => by simpa [D.py, PyData.canLay0, PyData.depth, D.plain] using h
  | n + 1, .tup ds, h => by
    obtain ⟨h1, h2⟩ := D.plain_layL n ds (by simpa [D.plain] using h)
    exact ⟨by simpa [D.py, PyData.canLay0] using h1, by simp only [D.py, PyData.depth]; omega⟩
  | n + 1, .lst ds, h => by
    obtain ⟨h1, h2⟩ := D.plain_layL n ds (by simpa [D.plain] using h)
    exact ⟨by simpa [D.py, PyData.canLay0] using h1, by simp only [D.py, PyData.depth]; omega⟩
  | 0, .tup _, h => by simp [D.plain] at h
  | 0, .lst _, h => by simp [D.plain] at h
  | n, .dct _ _, h => by cases n <;> simp [D.plain] at h
  | n, .ins _ _, h => by cases n <;> simp [D.plain] at h
theorem D.plain_layL : ∀ (n : Nat) (ds : List D), D.plainL n ds = true → PyData.canLayAll0 (D.pyL ds) = true ∧ PyData.depthAll (D.pyL ds) ≤ n
  | n, [], _ => by simp [D.pyL, PyData.canLayAll0, PyData.depthAll]
  | n, d :: r, h => by
    have h' : d.plain n = true ∧ D.plainL n r = true := by simpa [D.plainL] using h
    obtain ⟨a1, a2⟩ := D.plain_lay n d h'.1
    obtain ⟨b1, b2⟩ := D.plain_layL n r h'.2
    exact ⟨by simp [D.pyL, PyData.canLayAll0, a1, b1], by simp only [D.pyL, PyData.depthAll]; omega⟩
end
theorem D.shaped {d : D} (h : d.plain 60 = true) : SeqAt.shaped d.py = true := by
  obtain ⟨h1, h2⟩ := D.plain_lay 60 d h
  show (d.py.canLay0 && decide (d.py.depth ≤ 64)) = true
  rw [h1, decide_eq_true (by omega)]; rfl
section
variable {K : PySem.W.Frag} {mg : Str → Option Value} {F H : Hp}
mutual
theorem Rep.dp (l : Le F H) : ∀ {n : Nat} {v : V} {d : D}, Rep K mg F v d → d.plain n = true → Dp K H v d.py
  | _, _, _, .non, _ => .non
  | _, _, _, .bl b, _ => .bl b
  | _, _, _, .int i, _ => .int i
  | _, _, _, .str s, _ => .str s
  | n + 1, _, _, .tup h r, p => .tup (SqT.of (l _ _ h)) (RepL.dp l r (n := n) (by simpa [D.plain] using p))
  | n + 1, _, _, .lst h r, p => .lst (SqL_le l h) (RepL.dp l r (n := n) (by simpa [D.plain] using p))
  | 0, _, _, .tup h r, p => by simp [D.plain] at p
  | 0, _, _, .lst h r, p => by simp [D.plain] at p
  | n, _, _, .dK _ _, p => by cases n <;> simp [D.plain] at p
  | n, _, _, .dT _ _, p => by cases n <;> simp [D.plain] at p
  | n, _, _, .ins _ _ _, p => by cases n <;> simp [D.plain] at p
theorem RepL.dp (l : Le F H) : ∀ {n : Nat} {v : List V} {d : List D}, RepL K mg F v d → D.plainL n d = true → DpAll K H v (D.pyL d)
  | _, _, _, .nil, _ => .nil
  | n, _, _, .cons (d := d) (ds := ds) h r, p => by
    have p' : d.plain n = true ∧ D.plainL n ds = true := by simpa [D.plainL] using p
    exact .cons (Rep.dp l h p'.1) (RepL.dp l r p'.2)
end
theorem RepS.dp {n : Nat} {v : V} {d : D} (l : Le F H) (r : RepS K mg F H v d) (p : d.plain n = true) : Dp K H v d.py := by
  cases r with
  | v r => exact r.dp l p
  | l h r =>
    cases n with
    | zero => simp [D.plain] at p
    | succ n => exact .lst (SqL.of h) (RepL.dp l r (n := n) (by simpa [D.plain] using p))
  | kK _ _ => cases n <;> simp [D.plain] at p
  | kT _ _ => cases n <;> simp [D.plain] at p
end
def D.eqv (x y : D) : Bool := PyData.eqv x.py y.py
/-- two texts, or plain data -/
def D.cmp (x y : D) : Option Bool := match x, y with
  | .str a, .str b => some (decide (a = b))
  | x, y => if x.plain 60 = true ∧ y.plain 60 = true then some (D.eqv x y) else none
def gEq (x y : D) : Option P := (D.cmp x y).map fun k => .v (.bl k)
def gNe (x y : D) : Option P := (D.cmp x y).map fun k => .v (.bl (!k))
section
variable {X : Cx}
theorem opd_eq (hu : X.A.units + 64 < cLine) : OpD X (compareOp .Eq) gEq := by
  intro pins s σ H x y v u Q I rx ry ⟨F, lab, dx, dy, p, b, r1, r2, e, k⟩
  unfold gEq D.cmp at e
  split at e
  · cases e
    cases r1.str
    cases r2.str
    refine op_eq pins s σ H _ _ v u Q I rx ry ⟨rfl, ?_⟩
    have q := k.bl b
    rename_i x y
    have e2 : decide (V.str x = V.str y) = decide (x = y) := by simp
    rw [e2]; exact q
  · split at e
    · rename_i hp
      cases e
      exact op_eqD hu pins s σ H _ _ v u Q I rx ry ⟨_, _, r1.dp b.le hp.1, r2.dp b.le hp.2, D.shaped hp.1, D.shaped hp.2, k.bl b⟩
    · cases e
theorem opd_ne (hu : X.A.units + 64 < cLine) : OpD X (compareOp .NotEq) gNe := by
  intro pins s σ H x y v u Q I rx ry ⟨F, lab, dx, dy, p, b, r1, r2, e, k⟩
  unfold gNe D.cmp at e
  split at e
  · cases e
    cases r1.str
    cases r2.str
    refine op_ne pins s σ H _ _ v u Q I rx ry ⟨rfl, ?_⟩
    have q := k.bl b
    rename_i x y
    have e2 : decide (V.str x = V.str y) = decide (x = y) := by simp
    rw [e2]; exact q
  · split at e
    · rename_i hp
      cases e
      exact op_neD hu pins s σ H _ _ v u Q I rx ry ⟨_, _, r1.dp b.le hp.1, r2.dp b.le hp.2, D.shaped hp.1, D.shaped hp.2, k.bl b⟩
    · cases e
/-! ### is None -/
def D.isNon : D → Bool
  | .non => true
  | _ => false
def gIsN (x y : D) : Option P := match y with
  | .non => some (.v (.bl x.isNon))
  | _ => none
def gNotN (x y : D) : Option P := match y with
  | .non => some (.v (.bl (!x.isNon)))
  | _ => none
theorem RepS.isNon {K : PySem.W.Frag} {mg : Str → Option Value} {F H : Hp} {v : V} {d : D} (r : RepS K mg F H v d) : decide (v = .non) = d.isNon := by
  cases r with
  | v r => cases r <;> rfl
  | _ => rfl
theorem opd_isN : OpD X (compareOp .Is) gIsN := by
  intro pins s σ H x y v u Q I rx ry ⟨F, lab, dx, dy, p, b, r1, r2, e, k⟩
  unfold gIsN at e
  split at e
  · cases e; cases r2.non
    exact op_isN pins s σ H _ _ v u Q I rx ry ⟨rfl, by rw [r1.isNon]; exact k.bl b⟩
  · cases e
theorem opd_notN : OpD X (compareOp .IsNot) gNotN := by
  intro pins s σ H x y v u Q I rx ry ⟨F, lab, dx, dy, p, b, r1, r2, e, k⟩
  unfold gNotN at e
  split at e
  · cases e; cases r2.non
    exact op_notN pins s σ H _ _ v u Q I rx ry ⟨rfl, by rw [r1.isNon]; exact k.bl b⟩
  · cases e
end
end LW

/-! LW10: containers: items, slices, in, len, list, tuple, sorted, min, all, any. -/
namespace LW
open PySem PySem.Spec PyProof.Rows L2

/-! ### items and slices -/
def gIx : D → D → Option P
  | .lst ds, .int i => (atI ds i).map .v
  | .tup ds, .int i => (atI ds i).map .v
  | .str z, .int i => if z.length ≤ sizeLine then (atI z.cps.toList i).map fun c => .v (.str ⟨#[c]⟩) else none
  | _, _ => none
section
variable {K : PySem.W.Frag} {mg : Str → Option Value} {F H : Hp}
theorem RepL.atI {xs : List V} {ds : List D} (r : RepL K mg F xs ds) {i : Int} {d : D} (h : L2.atI ds i = some d) : ∃ x, L2.atI xs i = some x ∧ Rep K mg F x d := by
  unfold L2.atI at h ⊢
  rw [r.length]
  cases e : ixN ds.length i with
  | none => rw [e] at h; cases h
  | some j =>
    rw [e] at h
    exact r.get h
end
def IxD (X : Cx) (g : D → D → Option P) : Prop := IxR X (rD X.K X.mg g)
section
variable {X : Cx}
theorem ixd_seq : IxD X gIx := by
  intro value slice pins s σ H x y v u Q I rx ry ⟨F, lab, dx, dy, p, b, r1, r2, e, k⟩ hs
  unfold gIx at e
  split at e
  · rename_i ds i
    cases r2.int
    obtain ⟨a, xs, rfl, h1, l1⟩ := r1.lst b.le
    cases hd : L2.atI ds i with
    | none => rw [hd] at e; cases e
    | some d =>
      rw [hd] at e; cases e
      obtain ⟨z, hz, rz⟩ := l1.atI hd
      exact ix_list value slice pins s σ H _ _ v u Q I rx ry ⟨a, xs, i, z, rfl, rfl, h1, hz, k.same b rz⟩ hs
  · rename_i ds i
    cases r2.int
    obtain ⟨a, xs, rfl, h1, l1⟩ := r1.tup b.le
    cases hd : L2.atI ds i with
    | none => rw [hd] at e; cases e
    | some d =>
      rw [hd] at e; cases e
      obtain ⟨z, hz, rz⟩ := l1.atI hd
      exact ix_tup value slice pins s σ H _ _ v u Q I rx ry ⟨a, xs, i, z, rfl, rfl, h1, hz, k.same b rz⟩ hs
  · rename_i z i
    cases r2.int
    cases r1.str
    split at e
    · rename_i hl
      cases hd : L2.atI z.cps.toList i with
      | none => rw [hd] at e; cases e
      | some c =>
        rw [hd] at e; cases e
        exact ix_str value slice pins s σ H _ _ v u Q I rx ry ⟨z, i, c, rfl, rfl, hl, hd, k.str b⟩ hs
    · cases e
  · cases e
end
/-- xs[lo:hi] -/
def cutD (xs : List D) (lo hi : Option Int) : List D := (xs.drop (HT.sIx xs.length 0 lo)).take (HT.sIx xs.length xs.length hi - HT.sIx xs.length 0 lo)
def gSl (x : D) (lo hi : Option Int) : Option P := match x with
  | .lst ds => some (.f (.l (cutD ds lo hi)))
  | .tup ds => some (.v (.tup (cutD ds lo hi)))
  | .str z => if z.length ≤ sizeLine then some (.v (.str (cutS z lo hi))) else none
  | _ => none
section
variable {K : PySem.W.Frag} {mg : Str → Option Value} {F H : Hp}
theorem RepL.cut {xs : List V} {ds : List D} (r : RepL K mg F xs ds) (lo hi : Option Int) : RepL K mg F (cutV xs lo hi) (cutD ds lo hi) := by
  unfold cutV cutD
  rw [r.length]
  exact (r.drop _).take _
end
def rSlD (K : PySem.W.Frag) (mg : Str → Option Value) : V → Option Int → Option Int → Hp → VK → Prop := fun x lo hi H Q => ∃ F lab dx p, Bas F H lab ∧ RepS K mg F H x dx ∧ gSl dx lo hi = some p ∧ Cont K mg F H lab p Q
theorem sld_seq {X : Cx} : SlR X (rSlD X.K X.mg) := by
  intro pins s σ H x v vl vu lo hi sl Q I rx hs pl pu ⟨F, lab, dx, p, b, r1, e, k⟩
  unfold gSl at e
  split at e
  · cases e
    obtain ⟨a, xs, rfl, h1, l1⟩ := r1.lst b.le
    exact sl_list pins s σ H _ v vl vu lo hi sl Q I rx hs pl pu ⟨a, xs, rfl, h1, k.lst b (l1.cut lo hi)⟩
  · cases e
    have g1 := r1.rep_tup
    obtain ⟨a, xs, rfl, h1, l1⟩ := r1.tup b.le
    refine sl_tupA pins s σ H _ v vl vu lo hi sl Q I rx hs pl pu ⟨a, xs, rfl, h1, fun hw => ?_, fun _ => k.tup b (l1.cut lo hi)⟩
    rename_i ds
    have e2 : cutD ds lo hi = ds := by
      unfold cutD
      rw [← l1.length, hw.1, hw.2, List.drop_zero, Nat.sub_zero, l1.length, List.take_length]
    rw [e2] at k
    exact k.same b g1
  · split at e
    · rename_i hz
      cases e
      cases r1.str
      exact sl_str pins s σ H _ v vl vu lo hi sl Q I rx hs pl pu ⟨_, rfl, hz, k.str b⟩
    · cases e
  · cases e
/-- a slice's end -/
def oPart (f : Env → Out P) (ρ : Env) : Out (Option Int) := (f ρ).bind fun p ρ1 => match p with
  | .v (.int i) => .ok (some i) ρ1
  | _ => .no
def oNone (ρ : Env) : Out (Option Int) := .ok none ρ
def sSl (q : Bool) (f : Env → Out P) (lo hi : Env → Out (Option Int)) (ρ : Env) : Out P := (f ρ).bind fun p ρ1 => if p.sure q then (lo ρ1).bind fun l ρ2 => (hi ρ2).bind fun h ρ3 => match p.rd with
  | some x => (match gSl x l h with
    | some z => .ok z ρ3
    | none => .no)
  | none => .no else .no
abbrev RO : (Addr → Prop) → Hp → Hp → Lab → Option Int → Option Int → Prop := fun _ _ _ _ b a => b = a
def tDO (K : PySem.W.Frag) (mg : Str → Option Value) (W : WX) (q : Bool) (f : Env → Out (Option Int)) : TO := fun σ H Q => ∃ ρ F lab, SR K mg F H lab σ ρ ∧ Meets K mg W q F H lab σ (fun _ _ _ b a => b = a) (f ρ) Q
section
variable {X : Cx} {W : WX} {q ql qh : Bool} {e : Expr} {lo hi : Option Expr} {f : Env → Out P} {fl fh : Env → Out (Option Int)} {pos p2 : Pos} {le : Expr}
theorem PO_weak {e : Option Expr} {t t' : TO} (h : PO X e t) (k : ∀ σ H Q, t' σ H Q → t σ H Q) : PO X e t' := ⟨fun pins s σ H Q I w => h.run pins s σ H Q I (k σ H Q w)⟩
def DO (X : Cx) (W : WX) (q : Bool) (e : Option Expr) (f : Env → Out (Option Int)) : Prop := PO X e (tDO X.K X.mg W q f)
theorem o_none : DO X W true none oNone := PO_weak po_none fun σ H Q h => by
  obtain ⟨ρ, F, lab, sr, m⟩ := h
  exact m none F H lab Move.refl sr rfl
theorem o_some (h : DE X W q le f) : DO X W q (some le) (oPart f) := PO_weak (po_some h) fun σ H Q h => by
  obtain ⟨ρ, F, lab, sr, m⟩ := h
  refine ⟨ρ, F, lab, sr, Meets.seq (rep2 := RO) id (fun _ _ _ _ _ _ _ _ r => r) m fun v p ρ1 F1 H1 lab1 mv1 sr1 rp m1 => ?_⟩
  split at m1
  · cases rp
    exact ⟨_, rfl, m1 _ F1 H1 lab1 Move.refl sr1 rfl⟩
  · exact m1.elim
theorem e_slice (he : DE X W q e f) (hl : DO X W ql lo fl) (hh : DO X W qh hi fh) : DE X W (q && (ql && qh)) (.Subscript e (.Slice lo hi none p2) pos) (sSl (ql && qh) f fl fh) := by
  refine PE_weak (pe_slice sld_seq he hl hh) fun σ H Q h => ?_
  obtain ⟨ρ, F, lab, sr, m⟩ := h
  refine ⟨ρ, F, lab, sr, Meets.seq (rep2 := RepP X.K X.mg) and_l sinceP m fun v p ρ1 F1 H1 lab1 mv1 sr1 rp m1 => ?_⟩
  split at m1
  · rename_i hs
    refine ⟨ρ1, F1, lab1, sr1, Meets.seq (rep2 := RepP X.K X.mg) (fun z => and_l (and_r z)) sinceP m1 fun l l' ρ2 F2 H2 lab2 mv2 sr2 el m2 => ?_⟩
    subst el
    refine ⟨ρ2, F2, lab2, sr2, Meets.seq (rep2 := RepP X.K X.mg) (fun z => and_r (and_r z)) sinceP m2 fun h h' ρ3 F3 H3 lab3 mv3 sr3 eh m3 => ?_⟩
    subst eh
    have rp3 : RepP X.K X.mg (New q H lab) F3 H3 lab3 v p := rp.step (q := (ql && qh)) ((mv2.weak _ and_l).trans (mv3.weak _ and_r)) hs
    split at m3
    · rename_i x hx
      split at m3
      · rename_i z hz
        exact ⟨F3, lab3, x, z, sr3.bas, rp3.rd hx, hz, fun w F' H' gr rw' => Meets.grow m3 sr3 gr rw'⟩
      · exact m3.elim
    · exact m3.elim
  · exact m1.elim
end

/-! ### x in xs -/
def inL (x : D) (ds : List D) : Bool := (D.pyL ds).any fun z => PyData.eqv z x.py
def D.mem (x y : D) : Option Bool := match y with
  | .lst ds => if x.plain 59 = true ∧ D.plainL 59 ds = true then some (inL x ds) else none
  | .tup ds => if x.plain 59 = true ∧ D.plainL 59 ds = true then some (inL x ds) else none
  | _ => none
def gIn (x y : D) : Option P := (D.mem x y).map fun k => .v (.bl k)
def gNotIn (x y : D) : Option P := (D.mem x y).map fun k => .v (.bl (!k))
section
variable {X : Cx}
theorem opd_in (hu : X.A.units + 64 < cLine) : OpD X (compareOp .In) gIn := by
  intro pins s σ H x y v u Q I rx ry ⟨F, lab, dx, dy, p, b, r1, r2, e, k⟩
  unfold gIn D.mem at e
  split at e
  · split at e
    · rename_i ds hp
      cases e
      have dx' := r1.dp (n := 59) b.le hp.1
      have dy' := r2.dp (n := 60) b.le (show (D.lst ds).plain 60 = true by simpa [D.plain] using hp.2)
      obtain ⟨as, q1⟩ := Dp.reads I _ x v dx' rx
      obtain ⟨bs, q2⟩ := Dp.reads I _ y u dy' ry
      obtain ⟨c1, c2⟩ := D.plain_lay _ _ hp.1
      obtain ⟨c3, c4⟩ := D.plain_layL _ _ hp.2
      refine SeqAt.in_list_reads q2 q1 c3 c1 ?_ ⟨.bl _, H, I, rfl, k.bl b⟩
      have := Nat.min_le_right (PyData.depthAll (D.pyL ds)) dx.py.depth
      omega
    · cases e
  · split at e
    · rename_i ds hp
      cases e
      have dx' := r1.dp (n := 59) b.le hp.1
      have dy' := r2.dp (n := 60) b.le (show (D.tup ds).plain 60 = true by simpa [D.plain] using hp.2)
      obtain ⟨as, q1⟩ := Dp.reads I _ x v dx' rx
      obtain ⟨bs, q2⟩ := Dp.reads I _ y u dy' ry
      obtain ⟨c1, c2⟩ := D.plain_lay _ _ hp.1
      obtain ⟨c3, c4⟩ := D.plain_layL _ _ hp.2
      refine SeqAt.in_tuple_reads q2 q1 c3 c1 ?_ ⟨.bl _, H, I, rfl, k.bl b⟩
      have := Nat.min_le_right (PyData.depthAll (D.pyL ds)) dx.py.depth
      omega
    · cases e
  · cases e
theorem opd_notIn (hu : X.A.units + 64 < cLine) : OpD X (compareOp .NotIn) gNotIn := by
  intro pins s σ H x y v u Q I rx ry ⟨F, lab, dx, dy, p, b, r1, r2, e, k⟩
  unfold gNotIn D.mem at e
  split at e
  · split at e
    · rename_i ds hp
      cases e
      have dx' := r1.dp (n := 59) b.le hp.1
      have dy' := r2.dp (n := 60) b.le (show (D.lst ds).plain 60 = true by simpa [D.plain] using hp.2)
      obtain ⟨as, q1⟩ := Dp.reads I _ x v dx' rx
      obtain ⟨bs, q2⟩ := Dp.reads I _ y u dy' ry
      obtain ⟨c1, c2⟩ := D.plain_lay _ _ hp.1
      obtain ⟨c3, c4⟩ := D.plain_layL _ _ hp.2
      refine SeqAt.notIn_list_reads q2 q1 c3 c1 ?_ ⟨.bl _, H, I, rfl, k.bl b⟩
      have := Nat.min_le_right (PyData.depthAll (D.pyL ds)) dx.py.depth
      omega
    · cases e
  · split at e
    · rename_i ds hp
      cases e
      have dx' := r1.dp (n := 59) b.le hp.1
      have dy' := r2.dp (n := 60) b.le (show (D.tup ds).plain 60 = true by simpa [D.plain] using hp.2)
      obtain ⟨as, q1⟩ := Dp.reads I _ x v dx' rx
      obtain ⟨bs, q2⟩ := Dp.reads I _ y u dy' ry
      obtain ⟨c1, c2⟩ := D.plain_lay _ _ hp.1
      obtain ⟨c3, c4⟩ := D.plain_layL _ _ hp.2
      refine SeqAt.notIn_tuple_reads q2 q1 c3 c1 ?_ ⟨.bl _, H, I, rfl, k.bl b⟩
      have := Nat.min_le_right (PyData.depthAll (D.pyL ds)) dx.py.depth
      omega
    · cases e
  · cases e
end

/-! ### built-ins of one argument -/
def CallD (X : Cx) (f : Value) (g : D → Option P) : Prop := CallR X f (rD1 X.K X.mg g)
def gLen : D → Option P
  | .lst ds => some (.v (.int ds.length))
  | .tup ds => some (.v (.int ds.length))
  | .str z => if z.length ≤ sizeLine then some (.v (.int z.length)) else none
  | _ => none
def gList : D → Option P
  | .lst ds => some (.f (.l ds))
  | .tup ds => some (.f (.l ds))
  | _ => none
def gTuple : D → Option P
  | .lst ds => some (.v (.tup ds))
  | .tup ds => some (.v (.tup ds))
  | _ => none
def gAbs : D → Option P
  | .int i => some (.v (.int (if i < 0 then -i else i)))
  | _ => none
def gInt : D → Option P
  | .int i => some (.v (.int i))
  | .str z => if z.length ≤ 640 then (PySem.intText? z).map fun n => .v (.int n) else none
  | _ => none
def gStr : D → Option P
  | .int i => if i.natAbs.log2 < 1920 then some (.v (.str (toString i))) else none
  | _ => none
def D.asB : D → Option Bool
  | .bl b => some b
  | _ => none
def boolsOf : List D → Option (List Bool)
  | [] => some []
  | .bl b :: r => (boolsOf r).map (b :: ·)
  | _ :: _ => none
def gAll : D → Option P
  | .lst ds => (boolsOf ds).map fun bs => .v (.bl (bs.all id))
  | _ => none
def gAny : D → Option P
  | .lst ds => (boolsOf ds).map fun bs => .v (.bl (bs.any id))
  | _ => none
section
variable {X : Cx}
theorem boolsOf_py : ∀ {ds : List D} {bs : List Bool}, boolsOf ds = some bs → D.pyL ds = bs.map PyData.bool ∧ D.plainL 1 ds = true
  | [], bs, h => by cases h; exact ⟨rfl, rfl⟩
  | d :: r, bs, h => by
    cases d <;> simp only [boolsOf] at h <;> try cases h
    cases e : boolsOf r with
    | none => rw [e] at h; cases h
    | some bs' =>
      rw [e] at h; cases h
      obtain ⟨h1, h2⟩ := boolsOf_py e
      exact ⟨by simp [D.pyL, D.py, h1], by simp [D.plainL, D.plain, h2]⟩
theorem cd_len : CallD X (.builtin "len") gLen := by
  intro pins s σ H xs us Q I r ⟨F, lab, x, dx, p, hx, b, r1, e, k⟩
  subst hx
  unfold gLen at e
  split at e
  · cases e
    obtain ⟨a, ys, rfl, h1, l1⟩ := r1.lst b.le
    exact call_len_seq pins s σ H _ us Q I r ⟨a, ys, rfl, .inl h1, by rw [l1.length]; exact k.int b⟩
  · cases e
    obtain ⟨a, ys, rfl, h1, l1⟩ := r1.tup b.le
    exact call_len_seq pins s σ H _ us Q I r ⟨a, ys, rfl, .inr h1, by rw [l1.length]; exact k.int b⟩
  · split at e
    · rename_i hz
      cases e
      cases r1.str
      exact call_len_str pins s σ H _ us Q I r ⟨_, rfl, hz, k.int b⟩
    · cases e
  · cases e
theorem cd_list : CallD X (.type "list") gList := by
  intro pins s σ H xs us Q I r ⟨F, lab, x, dx, p, hx, b, r1, e, k⟩
  subst hx
  unfold gList at e
  split at e
  · cases e
    obtain ⟨a, ys, rfl, h1, l1⟩ := r1.lst b.le
    exact call_list_of pins s σ H _ us Q I r ⟨a, ys, rfl, .inl h1, k.lst b l1⟩
  · cases e
    obtain ⟨a, ys, rfl, h1, l1⟩ := r1.tup b.le
    exact call_list_of pins s σ H _ us Q I r ⟨a, ys, rfl, .inr h1, k.lst b l1⟩
  · cases e
theorem cd_tuple : CallD X (.type "tuple") gTuple := by
  intro pins s σ H xs us Q I r ⟨F, lab, x, dx, p, hx, b, r1, e, k⟩
  subst hx
  unfold gTuple at e
  split at e
  · cases e
    obtain ⟨a, ys, rfl, h1, l1⟩ := r1.lst b.le
    exact call_tuple_of pins s σ H _ us Q I r ⟨a, ys, rfl, .inl ⟨h1, k.tup b l1⟩⟩
  · cases e
    have g1 := r1.rep_tup
    obtain ⟨a, ys, rfl, h1, l1⟩ := r1.tup b.le
    exact call_tuple_of pins s σ H _ us Q I r ⟨a, ys, rfl, .inr ⟨h1, k.same b g1⟩⟩
  · cases e
theorem cd_abs : CallD X (.builtin "abs") gAbs := by
  intro pins s σ H xs us Q I r ⟨F, lab, x, dx, p, hx, b, r1, e, k⟩
  subst hx
  unfold gAbs at e
  split at e
  · cases e; cases r1.int
    exact call_abs pins s σ H _ us Q I r ⟨_, rfl, k.int b⟩
  · cases e
theorem cd_int : CallD X (.type "int") gInt := by
  intro pins s σ H xs us Q I r ⟨F, lab, x, dx, p, hx, b, r1, e, k⟩
  subst hx
  unfold gInt at e
  split at e
  · cases e; cases r1.int
    exact call_int1 pins s σ H _ us Q I r (.inl ⟨_, rfl, k.int b⟩)
  · split at e
    · rename_i z hz
      cases r1.str
      cases ht : PySem.intText? z with
      | none => rw [ht] at e; cases e
      | some n =>
        rw [ht] at e; cases e
        exact call_int_str pins s σ H _ us Q I r ⟨z, n, rfl, ht, hz, k.int b⟩
    · cases e
  · cases e
theorem cd_str : CallD X (.type "str") gStr := by
  intro pins s σ H xs us Q I r ⟨F, lab, x, dx, p, hx, b, r1, e, k⟩
  subst hx
  unfold gStr at e
  split at e
  · split at e
    · rename_i hz
      cases e; cases r1.int
      exact call_str_int pins s σ H _ us Q I r ⟨_, rfl, hz, k.str b⟩
    · cases e
  · cases e
theorem plain_bools : ∀ bs : List Bool, PyData.plainAll (bs.map PyData.bool) = true
  | [] => rfl
  | b :: r => by simp [PyData.plainAll, PyData.plain, plain_bools r]
theorem cd_all (hc : X.calm = true) : CallD X (.builtin "all") gAll := by
  intro pins s σ H xs us Q I r ⟨F, lab, x, dx, p, hx, b, r1, e, k⟩
  subst hx
  unfold gAll at e
  split at e
  · rename_i ds
    cases hb : boolsOf ds with
    | none => rw [hb] at e; cases e
    | some bs =>
      rw [hb] at e; cases e
      obtain ⟨e1, e2⟩ := boolsOf_py hb
      have dp := r1.dp (n := 2) b.le (show (D.lst ds).plain 2 = true by simpa [D.plain] using e2)
      obtain ⟨u, rfl, ru⟩ := vals1 r
      obtain ⟨as, rd⟩ := Dp.reads I _ x u dp ru
      rw [show (D.lst ds).py = .list (bs.map PyData.bool) by simp [D.py, e1]] at rd
      cases rd with
      | list h1 h2 h3 h4 =>
        refine PySem.W.all_list_data (I.ok.hd hc) ⟨_, h1, h2, _, h3⟩ h4 (plain_bools bs) (fun x hx => ?_) fun h' tk kp => ?_
        · obtain ⟨c, _, rfl⟩ := List.mem_map.mp hx
          exact True.intro
        · have et : (bs.map PyData.bool).all PyData.truthy = bs.all id := by rw [List.all_map]; rfl
          rw [et]
          exact ⟨.bl _, H, I.kept kp, rfl, k.bl b⟩
  · cases e
theorem cd_any (hc : X.calm = true) : CallD X (.builtin "any") gAny := by
  intro pins s σ H xs us Q I r ⟨F, lab, x, dx, p, hx, b, r1, e, k⟩
  subst hx
  unfold gAny at e
  split at e
  · rename_i ds
    cases hb : boolsOf ds with
    | none => rw [hb] at e; cases e
    | some bs =>
      rw [hb] at e; cases e
      obtain ⟨e1, e2⟩ := boolsOf_py hb
      have dp := r1.dp (n := 2) b.le (show (D.lst ds).plain 2 = true by simpa [D.plain] using e2)
      obtain ⟨u, rfl, ru⟩ := vals1 r
      obtain ⟨as, rd⟩ := Dp.reads I _ x u dp ru
      rw [show (D.lst ds).py = .list (bs.map PyData.bool) by simp [D.py, e1]] at rd
      cases rd with
      | list h1 h2 h3 h4 =>
        refine PySem.W.any_list_data (I.ok.hd hc) ⟨_, h1, h2, _, h3⟩ h4 (plain_bools bs) (fun x hx => ?_) fun h' tk kp => ?_
        · obtain ⟨c, _, rfl⟩ := List.mem_map.mp hx
          exact True.intro
        · have et : (bs.map PyData.bool).any PyData.truthy = bs.any id := by rw [List.any_map]; rfl
          rw [et]
          exact ⟨.bl _, H, I.kept kp, rfl, k.bl b⟩
  · cases e
/-! ### sorted, min -/
def leD (a b : D) : Bool := PySem.W.dataLe false D.py a b
def D.isTup : D → Bool
  | .tup (_ :: _) => true
  | _ => false
def D.noTup : D → Bool
  | .non => false
  | .tup _ => false
  | .dct _ _ => false
  | .ins _ _ => false
  | _ => true
def sortOk (ds : List D) : Bool := D.plainL 50 ds && ds.all (fun a => ds.all fun b => PySem.W.alike a.py b.py) && (ds.all D.isTup || ds.all D.noTup)
def gSorted : D → Option P
  | .lst ds => if sortOk ds = true then some (.f (.l (ds.mergeSort leD))) else none
  | _ => none
theorem pyL_map : ∀ ds : List D, D.pyL ds = ds.map D.py
  | [] => rfl
  | d :: r => by simp [D.pyL, pyL_map r]
theorem plainL_mem {n : Nat} : ∀ {ds : List D}, D.plainL n ds = true → ∀ d ∈ ds, d.plain n = true
  | d :: r, h, x, hx => by
    have h' : d.plain n = true ∧ D.plainL n r = true := by simpa [D.plainL] using h
    rcases List.mem_cons.mp hx with e | e
    · rw [e]; exact h'.1
    · exact plainL_mem h'.2 x e
theorem each_zip {K : PySem.W.Frag} {mg : Str → Option Value} {F : Hp} : ∀ {xs : List V} {ds : List D} {us : List Value}, RepL K mg F xs ds → Vals xs us → PySem.W.EachIs (fun (u : Value) (p : V × D) => RelV p.1 u ∧ Rep K mg F p.1 p.2) us (xs.zip ds)
  | _, _, _, .nil, .nil => .nil
  | _, _, _, .cons h r, .cons g s => .cons ⟨g, h⟩ (each_zip r s)
theorem each_back {K : PySem.W.Frag} {mg : Str → Option Value} {F : Hp} : ∀ {us : List Value} {ps : List (V × D)}, PySem.W.EachIs (fun (u : Value) (p : V × D) => RelV p.1 u ∧ Rep K mg F p.1 p.2) us ps → Vals (ps.map (·.1)) us ∧ RepL K mg F (ps.map (·.1)) (ps.map (·.2))
  | _, _, .nil => ⟨.nil, .nil⟩
  | _, _, .cons h r => ⟨.cons h.1 (each_back r).1, .cons h.2 (each_back r).2⟩
theorem zip_snd {xs : List V} {ds : List D} (h : xs.length = ds.length) : (xs.zip ds).map (·.2) = ds := by
  rw [List.map_snd_zip (by omega)]
theorem cd_sorted (hu : X.A.units + 64 < cLine) : CallD X (.builtin "sorted") gSorted := by
  intro pins s σ H xs us Q I r ⟨F, lab, x, dx, p, hx, b, r1, e, k⟩
  subst hx
  unfold gSorted at e
  split at e
  · rename_i ds
    split at e
    · rename_i hok
      cases e
      unfold sortOk at hok
      obtain ⟨⟨h1, h2⟩, h3⟩ := Bool.and_eq_true_iff.mp hok |>.imp Bool.and_eq_true_iff.mp id
      obtain ⟨a, ys, rfl, hl, l1⟩ := r1.lst b.le
      obtain ⟨u, rfl, ru⟩ := vals1 r
      cases ru
      obtain ⟨its, rv, pl, hz⟩ := I.list hl
      have hlen : ys.length = ds.length := l1.length
      have hsnd : ∀ p ∈ ys.zip ds, p.2 ∈ ds := fun p hp => (List.of_mem_zip hp).2
      refine PySem.W.sorted_data (bs := ys.zip ds) (enc := fun p => p.2.py) (R := fun (u : Value) (p : V × D) => RelV p.1 u ∧ Rep X.K X.mg F p.1 p.2) pl.isList (each_zip l1 rv) ?_ ?_ ?_ ?_ ?_ fun out ho he => ?_
      · refine PySem.W.EachIs.of_zip (by rw [List.length_zip, ← rv.length, hlen]; simp) fun z hz => ?_
        have hz2 : z.2 ∈ ys.zip ds := (List.of_mem_zip hz).2
        have q := PySem.W.EachIs.zip (each_zip l1 rv) z hz
        obtain ⟨as, ra⟩ := Dp.reads I _ z.2.1 z.1 (q.2.dp b.le (plainL_mem h1 _ (hsnd _ hz2))) q.1
        exact ⟨as, ra⟩
      · intro d hd d' hd'
        obtain ⟨p, hp, rfl⟩ := List.mem_map.mp hd
        obtain ⟨p', hp', rfl⟩ := List.mem_map.mp hd'
        exact List.all_eq_true.mp (List.all_eq_true.mp h2 _ (hsnd p hp)) _ (hsnd p' hp')
      · rcases Bool.or_eq_true_iff.mp h3 with z | z
        · refine .inl fun d hd => ?_
          obtain ⟨p, hp, rfl⟩ := List.mem_map.mp hd
          have q := List.all_eq_true.mp z _ (hsnd p hp)
          generalize p.2 = w at q
          cases w with
          | tup es =>
            cases es with
            | nil => cases q
            | cons e es => exact ⟨_, _, rfl⟩
          | _ => cases q
        · refine .inr fun d hd => ?_
          obtain ⟨p, hp, rfl⟩ := List.mem_map.mp hd
          have q := List.all_eq_true.mp z _ (hsnd p hp)
          generalize p.2 = w at q
          cases w with
          | non => cases q
          | tup _ => cases q
          | dct _ _ => cases q
          | ins _ _ => cases q
          | _ => exact ⟨fun z => (nomatch z), fun _ z => (nomatch z)⟩
      · rw [List.length_zip]; omega
      · intro p hp
        have := (D.plain_lay 50 _ (plainL_mem h1 _ (hsnd p hp))).2
        show X.A.units + 2 + p.2.py.depth < cLine
        omega
      · obtain ⟨g1, g2⟩ := each_back he
        have em : ((ys.zip ds).mergeSort (PySem.W.dataLe false fun p => p.2.py)).map (·.2) = ds.mergeSort leD := by
          exact (PySem.W.sort_maps (r := PySem.W.dataLe false fun p : V × D => p.2.py) (s := leD) (fun p : V × D => p.2) (fun _ _ _ _ => rfl)).trans (congrArg (fun z => z.mergeSort leD) (zip_snd hlen))
        rw [em] at g2
        obtain ⟨c, hc⟩ := PyProof.Rows.sortedAll_at s.heap its out.toArray
        have hn : H (s.heap.objs.size + 1) = none := I.hok.fresh (Nat.le_succ _)
        refine ⟨.ref (s.heap.objs.size + 1), _, I.laid (t' := s.toks) (o := .lst _) (fun b o q => PyProof.Rows.sortedAll_old q) (Nat.le_succ _) ?_, rfl, k.lst b g2 _ hn⟩
        exact ⟨by rw [List.length_map, List.length_mergeSort, List.length_zip]; omega, out, c, g1, hc⟩
    · cases e
  · cases e
def intsOf : List D → Option (List Int)
  | [] => some []
  | .int i :: r => (intsOf r).map (i :: ·)
  | _ :: _ => none
theorem intsOf_py : ∀ {ds : List D} {ns : List Int}, intsOf ds = some ns → D.pyL ds = ns.map PyData.int ∧ D.plainL 1 ds = true
  | [], ns, h => by cases h; exact ⟨rfl, rfl⟩
  | d :: r, ns, h => by
    cases d <;> simp only [intsOf] at h <;> try cases h
    cases e : intsOf r with
    | none => rw [e] at h; cases h
    | some bs' =>
      rw [e] at h; cases h
      obtain ⟨h1, h2⟩ := intsOf_py e
      exact ⟨by simp [D.pyL, D.py, h1], by simp [D.plainL, D.plain, h2]⟩
def gMin : D → Option P
  | .lst ds => (match intsOf ds with
    | some (n :: ns) => some (.v (.int (ns.foldl min n)))
    | _ => none)
  | _ => none
theorem cd_min (hc : X.calm = true) (hu : X.A.units + 64 < cLine) : CallD X (.builtin "min") gMin := by
  intro pins s σ H xs us Q I r ⟨F, lab, x, dx, p, hx, b, r1, e, k⟩
  subst hx
  unfold gMin at e
  split at e
  · rename_i ds
    split at e
    · rename_i n ns hb
      cases e
      obtain ⟨e1, e2⟩ := intsOf_py hb
      have dp := r1.dp (n := 2) b.le (show (D.lst ds).plain 2 = true by simpa [D.plain] using e2)
      obtain ⟨u, rfl, ru⟩ := vals1 r
      obtain ⟨as, rd⟩ := Dp.reads I _ x u dp ru
      rw [show (D.lst ds).py = .list (PyData.int n :: ns.map PyData.int) by simp [D.py, e1]] at rd
      cases rd with
      | list h1 h2 h3 h4 =>
        have hd : PyData.depthAll (PyData.int n :: ns.map PyData.int) = 0 := PySem.W.depth_ints (n :: ns)
        refine PySem.W.min_list_data (I.ok.hd hc) ⟨_, h1, h2, _, h3⟩ h4 ⟨fun x hx y hy => ?_, fun x hx => ?_⟩ (by rw [hd]; omega) fun i v h' tk bs hv rv kp => ?_
        · obtain ⟨i, _, rfl⟩ := List.mem_map.mp (show x ∈ (n :: ns).map PyData.int from hx)
          obtain ⟨j, _, rfl⟩ := List.mem_map.mp (show y ∈ (n :: ns).map PyData.int from hy)
          rfl
        · obtain ⟨i, _, rfl⟩ := List.mem_map.mp (show x ∈ (n :: ns).map PyData.int from hx)
          exact fun z => nomatch z
        · rw [PySem.W.minD_ints] at rv
          cases rv with
          | int => exact ⟨.int _, H, I.kept kp, ⟨_, rfl⟩, k.int b⟩
    · cases e
  · cases e
def gMin2 : D → D → Option P
  | .int i, .int j => some (.v (.int (if j < i then j else i)))
  | _, _ => none
def gMax2 : D → D → Option P
  | .int i, .int j => some (.v (.int (if j > i then j else i)))
  | _, _ => none
theorem cd_min2 (hc : X.calm = true) : CallR X (.builtin "min") (rD2 X.K X.mg gMin2) := by
  intro pins s σ H xs us Q I r ⟨x, y, hx, F, lab, dx, dy, p, b, r1, r2, e, k⟩
  subst hx
  unfold gMin2 at e
  split at e
  · cases e; cases r1.int; cases r2.int
    exact call_min2 hc pins s σ H _ us Q I r ⟨_, _, rfl, k.int b⟩
  · cases e
theorem cd_max2 (hc : X.calm = true) : CallR X (.builtin "max") (rD2 X.K X.mg gMax2) := by
  intro pins s σ H xs us Q I r ⟨x, y, hx, F, lab, dx, dy, p, b, r1, r2, e, k⟩
  subst hx
  unfold gMax2 at e
  split at e
  · cases e; cases r1.int; cases r2.int
    exact call_max2 hc pins s σ H _ us Q I r ⟨_, _, rfl, k.int b⟩
  · cases e
end
end LW

/-! LW11: what is changed: the lists of slots and of fields; attributes; instances made. -/
namespace LW
open PySem PySem.Spec PyProof.Rows L2

/-! ### places: a slot, or a field of the instance in a slot -/
inductive Pl where
  | sl (i : Nat) | fd (i : Nat) (c f : Str)
def putO (f : Str) (o : O) : List (Str × O) → List (Str × O)
  | [] => [(f, o)]
  | (n, x) :: r => if n = f then (n, o) :: r else (n, x) :: putO f o r
def idxO (f : Str) : List (Str × O) → Nat
  | [] => 0
  | (n, _) :: r => if n = f then 0 else idxO f r + 1
def lookO (f : Str) : List (Str × O) → Option O
  | [] => none
  | (n, x) :: r => if n = f then some x else lookO f r
def getPl (ρ : Env) : Pl → Option O
  | .sl i => getS ρ i
  | .fd i c f => match getS ρ i with
    | some (.i c' fs) => if c' = c then lookO f fs else none
    | _ => none
def setPl (ρ : Env) (o : O) : Pl → Env
  | .sl i => ρ.set i (some o)
  | .fd i _ f => match getS ρ i with
    | some (.i c fs) => ρ.set i (some (.i c (putO f o fs)))
    | _ => ρ
theorem getS_eq {ρ : Env} {i : Nat} {o : O} (h : getS ρ i = some o) : ρ[i]? = some (some o) := by
  unfold getS at h
  split at h
  · rename_i z hz; rw [hz, h]
  · cases h
/-- where the value of a place stands -/
def AtPl (mg : Str → Option Value) (σ : L2.St) (H : Hp) (v : V) : Pl → Prop
  | .sl i => σ[i]? = some (some v)
  | .fd i c f => ∃ a C dx gs, σ[i]? = some (some (.ref a)) ∧ H a = some (.ins C dx gs) ∧ mg c = some (.ref C) ∧ gs.lookup f = some v
def pathPl (ρ : Env) : Pl → List Nat
  | .sl i => [i]
  | .fd i _ f => match getS ρ i with
    | some (.i _ fs) => [i, idxO f fs]
    | _ => [i]
section
variable {K : PySem.W.Frag} {mg : Str → Option Value} {F H F' H' : Hp} {lab lab' : Lab} {σ : L2.St} {ρ : Env}
theorem lookup_cons_ne {f n : Str} {x : V} {xs : List (Str × V)} (h : n ≠ f) : ((n, x) :: xs).lookup f = xs.lookup f := by
  have hb : (f == n) = false := beq_eq_false_iff_ne.mpr (Ne.symm h)
  simp only [List.lookup, hb]
theorem lookup_cons_eq {n : Str} {x : V} {xs : List (Str × V)} : ((n, x) :: xs).lookup n = some x := by simp [List.lookup]
/-- a field found -/
theorem RepOF.look {p : List Nat} {f : Str} : ∀ {j : Nat} {gs : List (Str × V)} {fs : List (Str × O)} {o : O}, RepOF K mg F H lab p j gs fs → lookO f fs = some o →
    ∃ v, gs.lookup f = some v ∧ RepO K mg F H lab (p ++ [j + idxO f fs]) v o
  | _, _, _, _, .nil, h => by cases h
  | j, _, _, o, .cons (n := n) (x := x) r1 r2, h => by
    unfold lookO at h
    unfold idxO
    by_cases e : n = f
    · rw [if_pos e] at h ⊢
      cases h
      subst e
      exact ⟨x, lookup_cons_eq, r1⟩
    · rw [if_neg e] at h ⊢
      obtain ⟨v, h1, h2⟩ := RepOF.look r2 h
      refine ⟨v, by rw [lookup_cons_ne e]; exact h1, ?_⟩
      rw [Nat.add_assoc, Nat.add_comm 1] at h2
      exact h2
theorem RepOF.none {p : List Nat} {f : Str} : ∀ {j : Nat} {gs : List (Str × V)} {fs : List (Str × O)}, RepOF K mg F H lab p j gs fs → lookO f fs = none → gs.lookup f = Option.none
  | _, _, _, .nil, _ => rfl
  | j, _, _, .cons (n := n) (x := x) r1 r2, h => by
    unfold lookO at h
    by_cases e : n = f
    · rw [if_pos e] at h; cases h
    · rw [if_neg e] at h
      rw [lookup_cons_ne e]; exact RepOF.none r2 h
theorem RepOF.len {p : List Nat} : ∀ {j : Nat} {gs : List (Str × V)} {fs : List (Str × O)}, RepOF K mg F H lab p j gs fs → gs.length = fs.length
  | _, _, _, .nil => rfl
  | _, _, _, .cons _ r => congrArg (· + 1) r.len
theorem RepOF.stayFrom {p q : List Nat} (l : Le F F') : ∀ {j : Nat} {gs : List (Str × V)} {fs : List (Str × O)}, (∀ i a r, j ≤ i → lab a = some (p ++ i :: r) → H' a = H a ∧ lab' a = some (q ++ i :: r)) → RepOF K mg F H lab p j gs fs → RepOF K mg F' H' lab' q j gs fs
  | _, _, _, _, .nil => .nil
  | j, _, _, hk, .cons h r => .cons (RepO.stay l (fun a r e => by
      rw [List.append_assoc] at e ⊢
      exact hk j a r (Nat.le_refl _) e) h) (RepOF.stayFrom l (fun i a r z e => hk i a r (by omega) e) r)
/-- a field put: the others as they were -/
theorem RepOF.put {p : List Nat} {f : Str} (l : Le F F') {v : V} {o : O} : ∀ {j : Nat} {gs : List (Str × V)} {fs : List (Str × O)}, RepOF K mg F H lab p j gs fs →
    (∀ i a r, j ≤ i → i ≠ j + idxO f fs → lab a = some (p ++ i :: r) → H' a = H a ∧ lab' a = some (p ++ i :: r)) → RepO K mg F' H' lab' (p ++ [j + idxO f fs]) v o → RepOF K mg F' H' lab' p j (putF f v gs) (putO f o fs)
  | j, _, _, .nil, _, h => .cons (by simpa [idxO] using h) .nil
  | j, _, _, .cons (n := n) (x := x) (o := o0) (xs := xs) (os := os) r1 r2, hk, h => by
    unfold putF putO
    unfold idxO at hk h
    by_cases e : n = f
    · rw [if_pos e] at hk h
      rw [if_pos e, if_pos e]
      exact .cons (by simpa using h) (r2.stayFrom l fun i a r z => hk i a r (by omega) (by omega))
    · rw [if_neg e] at hk h
      rw [if_neg e, if_neg e]
      refine .cons (r1.stay l fun a r z => ?_) (RepOF.put l r2 (fun i a r z1 z2 => hk i a r (by omega) (by omega)) (by rw [Nat.add_assoc, Nat.add_comm 1]; exact h))
      rw [List.append_assoc] at z ⊢
      exact hk j a r (Nat.le_refl _) (by omega) z
/-- a place's content -/
theorem SR.get {p : Pl} {o : O} (sr : SR K mg F H lab σ ρ) (h : getPl ρ p = some o) : ∃ v, AtPl mg σ H v p ∧ RepO K mg F H lab (pathPl ρ p) v o := by
  cases p with
  | sl i => exact sr.env i o (getS_eq h)
  | fd i c0 f =>
    unfold getPl at h
    simp only at h
    split at h
    · rename_i c fs hg
      split at h
      case isFalse => cases h
      rename_i hc
      subst hc
      obtain ⟨v, h1, h2⟩ := sr.env i _ (getS_eq hg)
      cases h2 with
      | i g1 g2 g3 g4 =>
        obtain ⟨w, k1, k2⟩ := g4.look h
        refine ⟨w, ⟨_, _, _, _, h1, g2, g3, k1⟩, ?_⟩
        unfold pathPl
        simp only [hg]
        simpa using k2
    · cases h
theorem putF_same {f : Str} {v : V} : ∀ {gs : List (Str × V)}, gs.lookup f = some v → putF f v gs = gs
  | [], h => by simp [List.lookup] at h
  | (n, x) :: ys, h => by
    unfold putF
    by_cases e : n = f
    · subst e
      rw [if_pos rfl]
      rw [lookup_cons_eq] at h
      cases h; rfl
    · rw [if_neg e]
      rw [lookup_cons_ne e] at h
      rw [putF_same h]
/-- a place's own list, dict changed in place: others keep their labels and objects -/
theorem SR.set {p : Pl} {o o' : O} {v : V} {a : Addr} {u : HO} (sr : SR K mg F H lab σ ρ) (h : getPl ρ p = some o) (hv : AtPl mg σ H v p) (ha : lab a = some (pathPl ρ p)) (hl : ∀ C dx gs, H a ≠ some (.ins C dx gs))
    (r : RepO K mg F (upd H a u) lab (pathPl ρ p) v o') : SR K mg F (upd H a u) lab σ (setPl ρ o' p) ∧ Move false F H lab F (upd H a u) lab := by
  have hb := sr.bas.lf a _ ha
  have hbas : Bas F (upd H a u) lab := ⟨fun b w e => by rw [upd_ne (ne_of_none e hb.1)]; exact sr.bas.le b w e, fun b q e => by
    obtain ⟨h1, h2⟩ := sr.bas.lf b q e
    refine ⟨h1, ?_⟩
    by_cases z : b = a
    · subst z; rw [upd_same]; exact fun z => nomatch z
    · rw [upd_ne z]; exact h2⟩
  have other : ∀ {b q}, lab b = some q → q ≠ pathPl ρ p → upd H a u b = H b := fun {b q} e z => upd_ne (by intro y; subst y; rw [ha] at e; exact z (Option.some.inj e).symm)
  refine ⟨?_, ⟨Le.refl _, fun b z => ?_, fun b h1 h2 => ?_⟩⟩
  · cases p with
    | sl i =>
      refine ⟨hbas, fun j o2 hj => ?_, by unfold setPl; rw [List.length_set]; exact sr.len⟩
      unfold setPl at hj
      simp only at hj
      by_cases e : j = i
      · subst e
        by_cases hlt : j < ρ.length
        · rw [List.getElem?_set_self hlt] at hj
          cases hj
          exact ⟨v, hv, r⟩
        · rw [List.getElem?_eq_none (by rw [List.length_set]; omega)] at hj; cases hj
      · rw [List.getElem?_set_ne (Ne.symm e)] at hj
        obtain ⟨w, h1, h2⟩ := sr.env j o2 hj
        refine ⟨w, h1, h2.stay (Le.refl _) fun b r' z => ⟨other z ?_, z⟩⟩
        intro y
        exact e (List.cons.inj (show j :: r' = [i] from y)).1
    | fd i c0 f =>
      unfold getPl at h
      simp only at h
      split at h
      case h_2 => cases h
      rename_i c fs hg
      have hpath : pathPl ρ (.fd i c0 f) = [i, idxO f fs] := by unfold pathPl; simp only [hg]
      rw [hpath] at r ha other
      have hset : setPl ρ o' (.fd i c0 f) = ρ.set i (some (.i c (putO f o' fs))) := by unfold setPl; simp only [hg]
      rw [hset]
      refine ⟨hbas, fun j o2 hj => ?_, by rw [List.length_set]; exact sr.len⟩
      by_cases e : j = i
      · subst e
        by_cases hlt : j < ρ.length
        · rw [List.getElem?_set_self hlt] at hj
          cases hj
          obtain ⟨w, h1, h2⟩ := sr.env j _ (getS_eq hg)
          cases h2 with
          | @i _ a1 C dx c gs fs g1 g2 g3 g4 =>
            obtain ⟨a', C', dx', gs', k1, k2, _, k3⟩ := hv
            rw [h1] at k1
            cases k1
            rw [g2] at k2
            cases k2
            have na : a1 ≠ a := fun z => hl _ _ _ (z ▸ g2)
            have gput := RepOF.put (f := f) (F' := F) (H' := upd H a u) (lab' := lab) (v := v) (o := o') (Le.refl F) g4 (fun i' b r' _ z1 z2 => ⟨other z2 (fun y => z1 (by
              have : i' = idxO f fs := (List.cons.inj (List.cons.inj (show [j] ++ i' :: r' = [j, idxO f fs] from y)).2).1
              omega)), z2⟩) (by simpa using r)
            have same := putF_same k3
            rw [same] at gput
            exact ⟨_, h1, .i g1 ((upd_ne na).trans g2) g3 gput⟩
        · rw [List.getElem?_eq_none (by rw [List.length_set]; omega)] at hj; cases hj
      · rw [List.getElem?_set_ne (Ne.symm e)] at hj
        obtain ⟨w, h1, h2⟩ := sr.env j o2 hj
        refine ⟨w, h1, h2.stay (Le.refl _) fun b r' z => ⟨other z ?_, z⟩⟩
        intro y
        exact e (List.cons.inj (show j :: r' = [i, idxO f fs] from y)).1
  · by_cases y : b = a
    · subst y; rw [upd_same]; exact fun z => nomatch z
    · rw [upd_ne y]; exact z
  · have e : lab b = none := h2.elim (fun z => nomatch z) id
    have nb : b ≠ a := by intro y; subst y; rw [ha] at e; cases e
    exact ⟨upd_ne nb, rfl, fun z => z⟩
theorem AtPl.inj {p : Pl} {v w : V} (h : AtPl mg σ H v p) (h' : AtPl mg σ H' w p) (k : (∃ i, p = .sl i) ∨ ∀ a, H a ≠ none → H' a = H a) : v = w := by
  cases p with
  | sl i =>
    have h1 : σ[i]? = some (some v) := h
    have h2 : σ[i]? = some (some w) := h'
    rw [h1] at h2; cases h2; rfl
  | fd i c f =>
    obtain ⟨a, C, dx, gs, h1, h2, _, h3⟩ := h
    obtain ⟨a', C', dx', gs', g1, g2, _, g3⟩ := h'
    rw [h1] at g1; cases g1
    rcases k with ⟨_, z⟩ | k
    · cases z
    · rw [k a (ne_none h2), h2] at g2
      cases g2
      rw [h3] at g3; cases g3; rfl
end

/-! ### the expression of a place -/
def tPl (mg : Str → Option Value) (p : Pl) : TE := fun σ H Q => ∃ v, AtPl mg σ H v p ∧ Q v H
def PLx (X : Cx) (e : Expr) (p : Pl) : Prop := PE X e (tPl X.mg p)
/-- what the text's class has -/
structure ClsOk (K : PySem.W.Frag) (mg : Str → Option Value) (c : Str) (C : Addr) : Prop where
  gl : mg c = some (.ref C)
  cls : Cls K C
section
variable {X : Cx}
theorem pl_name (i : Nat) {x : Str} {pos : Pos} (hN : X.N[i]? = some x := by rfl) (hv : Vis X.env.scope x := by first | exact Or.inl rfl | exact Or.inr (Or.inl rfl) | exact Or.inr (Or.inr rfl)) (hd : (x == ("__debug__" : Str)) = false := by decide)
    (hcd : (x == ("__classdict__" : Str)) = false := by decide) : PLx X (.Name x pos) (.sl i) := pe_var hN hv hd hcd
theorem pl_fld (i : Nat) {x c f : Str} {C : Addr} {pos p2 : Pos} (k : ClsOk X.K X.mg c C) (n : NoAttr X.K C f) (hN : X.N[i]? = some x := by rfl) (hv : Vis X.env.scope x := by first | exact Or.inl rfl | exact Or.inr (Or.inl rfl) | exact Or.inr (Or.inr rfl)) (hd : (x == ("__debug__" : Str)) = false := by decide)
    (hcd : (x == ("__classdict__" : Str)) = false := by decide) (hb : attributeBase (.Name x pos) f X.env (eval (.Name x pos) X.env) = eval (.Name x pos) X.env := by rfl) : PLx X (.Attribute (.Name x pos) f p2) (.fd i c f) :=
  PE_weak (pe_fld (pe_var hN hv hd hcd) hb) fun σ H Q ⟨v, ⟨a, C', dx, gs, h1, h2, h3, h4⟩, q⟩ => by
    rw [k.gl] at h3
    cases h3
    exact ⟨.ref a, h1, a, C, dx, gs, v, rfl, h2, k.cls, n, h4, q⟩
end

/-! ### methods of lists that change them -/
/-- g: the list, the argument; the answer, the list behind -/
def LmR (K : PySem.W.Frag) (mg : Str → Option Value) (r : V → List V → Hp → VK → Prop) (g : List D → D → Option (D × List D)) : Prop :=
  ∀ (a : Addr) (xs : List V) (ds : List D) (x : V) (d : D) (res : D) (ds' : List D) (F H : Hp) (Q : VK), Le F H → H a = some (.lst xs) → RepL K mg F xs ds → Rep K mg F x d → g ds d = some (res, ds') →
    (∀ w xs', Rep K mg F w res → RepL K mg F xs' ds' → Q w (upd H a (.lst xs'))) → r (.ref a) [x] H Q
def sLm (g : List D → D → Option (D × List D)) (p : Pl) (f : Env → Out P) (ρ : Env) : Out P := match getPl ρ p with
  | some (.l _) => (sFz f ρ).bind fun q ρ1 => (match q, getPl ρ1 p with
    | .v d, some (.l ds) => (match g ds d with
      | some (res, ds') => .ok (.v res) (setPl ρ1 (.l ds') p)
      | none => .no)
    | _, _ => .no)
  | _ => .no
def gApp (ds : List D) (d : D) : Option (D × List D) := if ds.length < sizeLine then some (.non, ds ++ [d]) else none
def gExt (ds : List D) (d : D) : Option (D × List D) := match d with
  | .lst es => if ds.length + es.length ≤ sizeLine then some (.non, ds ++ es) else none
  | _ => none
def gPopAt (ds : List D) (d : D) : Option (D × List D) := match d with
  | .int i => if -1000000 ≤ i ∧ i ≤ 1000000 then (ixN ds.length i).bind fun j => ds[j]?.map fun y => (y, ds.eraseIdx j) else none
  | _ => none
def Pl.quick (p : Pl) (q : Bool) : Bool := match p with
  | .sl _ => true
  | .fd _ _ _ => q
section
variable {X : Cx} {W : WX} {q : Bool} {p : Pl} {o e : Expr} {f : Env → Out P} {g : List D → D → Option (D × List D)} {r : V → List V → Hp → VK → Prop} {name : Str} {id : String} {apos cpos : Pos}
theorem e_lm (hp : PLx X o p) (hr : LmR X.K X.mg r g) (slot : Slot "list" name id) (hty : typeOf (.builtin id) = pure (.type "method_descriptor")) (hm : MtR X id r) (ha : DE X W q e f) (hq : p.quick q = true)
    (hbase : attributeBase o name X.env (eval o X.env) = eval o X.env := by rfl)
    (hfew : ((backTo cpos (starEach [e] X.env)).all (fun x => !x.1) && (backToKw cpos (keywordEach [] X.env)).all (fun x => x.1.isSome)
      && decide (([e] : List Expr).length + ([] : List Keyword).length + (if ([] : List Keyword).isEmpty then 0 else 1) < 30)) = true := by rfl)
    (hline : (apos.endLine == cpos.line) = true := by rfl) (hs : starEach [e] X.env = [(false, eval e X.env)] := by rfl) : DE X W false (.Call (.Attribute o name apos) [e] [] cpos) (sLm g p f) := by
  refine PE_weak (pe_bm PySem.F.plainAttrs_list slot hty hm hp (pa_cons (e_fz ha) pa_nil hs) hbase hfew hline hs rfl) fun σ H Q h => ?_
  obtain ⟨ρ, F, lab, sr, m⟩ := h
  unfold sLm at m
  split at m
  case h_2 => exact m.elim
  rename_i ds0 h0
  obtain ⟨v, hv, r0⟩ := sr.get h0
  cases r0 with
  | @l _ a xs0 _ l0 g0 k0 =>
  refine ⟨.ref a, hv, (show tyV X.K "list" (.ref a) H from .inl ⟨rfl, xs0, .inl (.inl g0)⟩), ρ, F, lab, sr, Meets.seq (q := false) (qa := q) (rep2 := RepP X.K X.mg) (fun z => Bool.noConfusion z) sinceP m fun y p' ρ1 F1 H1 lab1 mv1 sr1 rp m1 => ?_⟩
  split at m1
  case h_2 => exact m1.elim
  rename_i d ds hd
  split at m1
  case h_2 => exact m1.elim
  rename_i res ds' hg
  obtain ⟨v1, hv1, r1⟩ := sr1.get hd
  have ev : V.ref a = v1 := hv.inj hv1 (by
    cases p with
    | sl i => exact .inl ⟨i, rfl⟩
    | fd i c f =>
      have e : q = true := hq
      exact .inr fun b hb => (mv1.fr b hb (.inl e)).1)
  subst ev
  cases r1 with
  | @l _ _ xs _ l1 g1 k1 =>
  refine hr a xs ds y d res ds' F1 H1 Q sr1.bas.le g1 k1 rp hg fun w xs' rw' rl => ?_
  obtain ⟨sr2, mv2⟩ := sr1.set (o' := .l ds') (u := .lst xs') hd hv1 l1 (fun C dx gs z => by rw [g1] at z; cases z) (.l l1 upd_same rl)
  exact m1 w F1 _ lab1 mv2 sr2 rw'
theorem lm_append : LmR X.K X.mg rAppend gApp := by
  intro a xs ds x d res ds' F H Q l h rl r e k
  unfold gApp at e
  split at e
  · rename_i hz
    cases e
    exact ⟨a, xs, x, rfl, rfl, h, by rw [rl.length]; exact hz, k .non _ .non (rl.append (.cons r .nil))⟩
  · cases e
theorem RepL.eraseIdx {K : PySem.W.Frag} {mg : Str → Option Value} {F : Hp} : ∀ {xs : List V} {ds : List D} (n : Nat), RepL K mg F xs ds → RepL K mg F (xs.eraseIdx n) (ds.eraseIdx n)
  | _, _, _, .nil => .nil
  | _, _, 0, .cons _ r => r
  | _, _, n + 1, .cons h r => .cons h (RepL.eraseIdx n r)
theorem lm_popAt : LmR X.K X.mg rPopAt gPopAt := by
  intro a xs ds x d res ds' F H Q l h rl r e k
  unfold gPopAt at e
  split at e
  case h_2 => cases e
  rename_i i
  split at e
  case isFalse => cases e
  rename_i hi
  cases r
  cases hj : ixN ds.length i with
  | none => rw [hj] at e; cases e
  | some j =>
    rw [hj] at e
    cases hy : ds[j]? with
    | none => simp [hy] at e
    | some y =>
      simp [hy] at e
      obtain ⟨rfl, rfl⟩ := e
      obtain ⟨z, hz, rz⟩ := rl.get hy
      rw [← rl.length] at hj
      obtain ⟨s1, _, _, _⟩ := ixN_seq hj
      exact ⟨a, xs, i, j, z, rfl, rfl, h, by omega, by omega, s1, hz, k z _ rz (RepL.eraseIdx j rl)⟩
end

/-! ### xs[i] = e -/
def sSetIx (p : Pl) (fv fi : Env → Out P) (ρ : Env) : Flow := flow (sFz fv ρ) fun q ρ1 => match q, getPl ρ1 p with
  | .v d, some (.l _) => flow (fi ρ1) fun q2 ρ2 => (match q2, getPl ρ2 p with
    | .v (.int i), some (.l ds) => (match ixN ds.length i with
      | some j => .next (setPl ρ2 (.l (ds.set j d)) p)
      | none => .no)
    | _, _ => .no)
  | _, _ => .no
section
variable {X : Cx} {W : WX} {ks : List Nat} {q qi : Bool} {p : Pl} {o i e : Expr} {f fi : Env → Out P} {pos pos' : Pos}
theorem s_setIx (hp : PLx X o p) (he : DE X W q e f) (hi : DE X W qi i fi) (hq : p.quick qi = true) (hs : swapsWithSole [.Subscript o i pos'] e pos.line X.env = pure false := by rfl) (hw : swappedStores [.Subscript o i pos'] e X.env = pure none := by rfl)
    (h1 : (assignEach [.Subscript o i pos'] X.env).map (·.2) = [assign (.Subscript o i pos') X.env] := by rfl)
    (ha : ∀ v, assign (.Subscript o i pos') X.env v = (do
      let ov ← holding [v] (eval o X.env)
      let iv ← holding [v, ov] (eval i X.env)
      standAt pos'
      holding [v, ov, iv] (setItem ov iv v)
      release [v, ov, iv] []) := by intro _; rfl) : DS X W ks (.Assign [.Subscript o i pos'] e pos) (sSetIx p f fi) := by
  refine PS_weak (ps_asg (e_fz he) (pg_sub hp hi set_list ha) hs hw h1) fun D σ H h => ?_
  obtain ⟨ρ, F, lab, sr, m⟩ := h
  refine ⟨ρ, F, lab, sr, SMeets.expr m fun y p' ρ1 F1 H1 lab1 mv1 sr1 rp m1 => ?_⟩
  split at m1
  case h_2 => exact m1.elim
  rename_i d ds0 h0
  obtain ⟨v, hv, r0⟩ := sr1.get h0
  cases r0 with
  | @l _ a xs0 _ l0 g0 k0 =>
  refine ⟨.ref a, hv, ρ1, F1, lab1, sr1, SMeets.expr m1 fun z p2 ρ2 F2 H2 lab2 mv2 sr2 rp2 m2 => ?_⟩
  split at m2
  case h_2 => exact m2.elim
  rename_i n ds hd
  cases rp2
  split at m2
  case h_2 => exact m2.elim
  rename_i j hj
  obtain ⟨v1, hv1, r1⟩ := sr2.get hd
  have ev : V.ref a = v1 := hv.inj hv1 (by
    cases p with
    | sl i => exact .inl ⟨i, rfl⟩
    | fd i c f =>
      have e : qi = true := hq
      exact .inr fun b hb => (mv2.fr b hb (.inl e)).1)
  subst ev
  cases r1 with
  | @l _ _ xs _ l1 g1 k1 =>
  refine ⟨a, xs, n, j, rfl, rfl, g1, by rw [k1.length]; exact hj, ?_⟩
  obtain ⟨sr3, mv3⟩ := sr2.set (o' := .l (ds.set j d)) (u := .lst (xs.set j y)) hd hv1 l1 (fun C dx gs z => by rw [g1] at z; cases z) (.l l1 upd_same (k1.set j (Rep.mono mv2.ff rp)))
  exact m2 σ F2 _ lab2 mv3 sr3 Keep.refl
end

/-! ### attributes -/
/-- e.f of an instance that is a datum -/
def lookD (f : Str) : List (Str × D) → Option D
  | [] => none
  | (n, x) :: r => if n = f then some x else lookD f r
def sFldD (c f : Str) (g : Env → Out P) (ρ : Env) : Out P := (g ρ).bind fun p ρ1 => match p with
  | .v (.ins c' fs) => if c' = c then (match lookD f fs with
    | some d => .ok (.v d) ρ1
    | none => .no) else .no
  | _ => .no
theorem RepF.look {K : PySem.W.Frag} {mg : Str → Option Value} {F : Hp} {f : Str} : ∀ {gs : List (Str × V)} {fs : List (Str × D)} {d : D}, RepF K mg F gs fs → lookD f fs = some d → ∃ v, gs.lookup f = some v ∧ Rep K mg F v d
  | _, _, _, .nil, h => by cases h
  | _, _, _, .cons (n := n) (x := x) r1 r2, h => by
    unfold lookD at h
    by_cases e : n = f
    · rw [if_pos e] at h
      cases h; subst e
      exact ⟨x, lookup_cons_eq, r1⟩
    · rw [if_neg e] at h
      obtain ⟨v, h1, h2⟩ := RepF.look r2 h
      exact ⟨v, by rw [lookup_cons_ne e]; exact h1, h2⟩
/-- self.f of an owned instance -/
def sFldO (i : Nat) (c f : Str) (ρ : Env) : Out P := match getPl ρ (.fd i c f) with
  | some (.v d) => .ok (.v d) ρ
  | some (.l ds) => .ok (.s (.lst ds)) ρ
  | some (.k t kvs) => .ok (.s (.dct t kvs)) ρ
  | _ => .no
section
variable {X : Cx} {W : WX} {q : Bool} {c f : Str} {C : Addr} {e o : Expr} {g : Env → Out P} {pos p2 : Pos}
theorem e_fld (k : ClsOk X.K X.mg c C) (n : NoAttr X.K C f) (he : DE X W q e g) (hb : attributeBase e f X.env (eval e X.env) = eval e X.env := by rfl) : DE X W q (.Attribute e f pos) (sFldD c f g) := by
  refine PE_weak (pe_fld he hb) fun σ H Q h => ?_
  obtain ⟨ρ, F, lab, sr, m⟩ := h
  refine ⟨ρ, F, lab, sr, Meets.seq (rep2 := RepP X.K X.mg) id sinceP m fun v p ρ1 F1 H1 lab1 mv1 sr1 rp m1 => ?_⟩
  split at m1
  case h_2 => exact m1.elim
  split at m1
  case isFalse => exact m1.elim
  rename_i hc
  subst hc
  split at m1
  case h_2 => exact m1.elim
  rename_i d hd
  cases rp with
  | ins h1 h2 h3 =>
    rw [k.gl] at h2
    cases h2
    obtain ⟨v, g1, g2⟩ := h3.look hd
    exact ⟨_, _, _, _, v, rfl, sr1.bas.le _ _ h1, k.cls, n, g1, m1 v F1 H1 lab1 Move.refl sr1 g2⟩
theorem e_fldO (i : Nat) (hp : PLx X o (.fd i c f)) : DE X W true o (sFldO i c f) := by
  refine PE_weak hp fun σ H Q h => ?_
  obtain ⟨ρ, F, lab, sr, m⟩ := h
  unfold sFldO at m
  split at m
  · rename_i d h0
    obtain ⟨v, hv, r⟩ := sr.get h0
    cases r with | v r => exact ⟨v, hv, m v F H lab Move.refl sr r⟩
  · rename_i d h0
    obtain ⟨v, hv, r⟩ := sr.get h0
    cases r with | l _ h r => exact ⟨_, hv, m _ F H lab Move.refl sr (.l h r)⟩
  · rename_i d h0
    obtain ⟨v, hv, r⟩ := sr.get h0
    cases r with
    | kK _ h r => exact ⟨_, hv, m _ F H lab Move.refl sr (.kK h r)⟩
    | kT _ h r => exact ⟨_, hv, m _ F H lab Move.refl sr (.kT h r)⟩
  · exact m.elim
end
end LW

/-! LW12: fields stored, instances made, methods called; isinstance, texts, constants of the module. -/
namespace LW
open PySem PySem.Spec PyProof.Rows L2

/-! ### self.f = e -/
def sSetF (i : Nat) (c f : Str) (fe : Env → Out P) (ρ : Env) : Flow := flow (fe ρ) fun p ρ1 => match getS ρ1 i with
  | some (.i c' fs) => if c' = c ∧ fs.length < 1000 then (match p with
    | .v d => .next (ρ1.set i (some (.i c (putO f (.v d) fs))))
    | .f o => .next (ρ1.set i (some (.i c (putO f o fs))))
    | .s _ => .no) else .no
  | _ => .no
def P.toO : P → Option O
  | .v d => some (.v d)
  | .f o => some o
  | .s _ => none
section
variable {K : PySem.W.Frag} {mg : Str → Option Value} {q : Bool} {F0 H0 F H : Hp} {lab0 lab : Lab} {σ : L2.St} {ρ : Env}
/-- any value in the hand, as an owned content under labels of its own -/
theorem RepP.own {N : Addr → Prop} {v : V} {p : P} {o : O} (b : Bas F H lab) (r : RepP K mg N F H lab v p) (e : p.toO = some o) :
    ∃ l2 : Lab, RepO K mg F H l2 [] v o ∧ ∀ a p, l2 a = some p → N a ∧ lab a = none ∧ F a = none ∧ H a ≠ none := by
  cases p with
  | v d => cases e; exact ⟨fun _ => none, .v r, fun a p h => nomatch h⟩
  | s d => cases e
  | f o' => cases e; exact r
def labF (lab l2 : Lab) (i j : Nat) : Lab := fun a => match l2 a with
  | some r => some (i :: j :: r)
  | none => lab a
theorem sr_putF {i : Nat} {c f : Str} {fs : List (Str × O)} {a C dx : Addr} {gs : List (Str × V)} {v : V} {p : P} {o : O} (mv : Move q F0 H0 lab0 F H lab) (sr : SR K mg F H lab σ ρ) (hs : getS ρ i = some (.i c fs)) (hσ : σ[i]? = some (some (.ref a))) (ha : lab a = some [i])
    (hH : H a = some (.ins C dx gs)) (hc : mg c = some (.ref C)) (hf : RepOF K mg F H lab [i] 0 gs fs) (r : RepP K mg (New q H0 lab0) F H lab v p) (e : p.toO = some o) :
    ∃ lab', Move false F0 H0 lab0 F (upd H a (.ins C dx (putF f v gs))) lab' ∧ SR K mg F (upd H a (.ins C dx (putF f v gs))) lab' σ (ρ.set i (some (.i c (putO f o fs)))) := by
  obtain ⟨l2, r2, k⟩ := r.own sr.bas e
  have hp : ∀ {b}, l2 b = none → labF lab l2 i (idxO f fs) b = lab b := fun {b} e => by unfold labF; rw [e]
  have l2none : ∀ {b q}, lab b = some q → l2 b = none := fun {b q} h => by
    cases z : l2 b with
    | none => rfl
    | some r => rw [(k b r z).2.1] at h; cases h
  have hb := sr.bas.lf a _ ha
  refine ⟨labF lab l2 i (idxO f fs), ⟨mv.ff, fun b h => ?_, fun b h1 h2 => ?_⟩, ⟨⟨fun b w e => by rw [upd_ne (ne_of_none e hb.1)]; exact sr.bas.le b w e, fun b q e => ?_⟩, fun j o2 hj => ?_, by rw [List.length_set]; exact sr.len⟩⟩
  · by_cases y : b = a
    · subst y; rw [upd_same]; exact fun z => nomatch z
    · rw [upd_ne y]; exact mv.th b h
  · have e0 : lab0 b = none := h2.elim (fun z => nomatch z) id
    obtain ⟨g1, g2, g3⟩ := mv.fr b h1 (.inr e0)
    have nb : b ≠ a := by intro y; subst y; rw [ha, e0] at g2; cases g2
    refine ⟨by rw [upd_ne nb]; exact g1, ?_, g3⟩
    cases z : l2 b with
    | none => rw [hp z]; exact g2
    | some r => exact ((k b r z).1 h1 (.inr e0)).elim
  · unfold labF at e
    split at e
    · rename_i r' z
      obtain ⟨_, _, h3, h4⟩ := k b r' z
      refine ⟨h3, ?_⟩
      by_cases y : b = a
      · subst y; rw [upd_same]; exact fun z => nomatch z
      · rw [upd_ne y]; exact h4
    · obtain ⟨h3, h4⟩ := sr.bas.lf b q e
      refine ⟨h3, ?_⟩
      by_cases y : b = a
      · subst y; rw [upd_same]; exact fun z => nomatch z
      · rw [upd_ne y]; exact h4
  · by_cases e : j = i
    · subst e
      by_cases hlt : j < ρ.length
      · rw [List.getElem?_set_self hlt] at hj
        cases hj
        refine ⟨_, hσ, .i (by rw [hp (l2none ha)]; exact ha) upd_same hc (RepOF.put (Le.refl F) hf (fun i' b r' _ z1 z2 => ?_) ?_)⟩
        · have nb : b ≠ a := by intro y; subst y; rw [ha] at z2; cases z2
          exact ⟨upd_ne nb, by rw [hp (l2none z2)]; exact z2⟩
        · refine r2.stay (Le.refl F) fun b r' z => ?_
          have z' : l2 b = some r' := z
          have nb : b ≠ a := by intro y; subst y; rw [(k b r' z').2.1] at ha; cases ha
          exact ⟨upd_ne nb, by unfold labF; rw [z']; simp⟩
      · rw [List.getElem?_eq_none (by rw [List.length_set]; omega)] at hj; cases hj
    · rw [List.getElem?_set_ne (Ne.symm e)] at hj
      obtain ⟨w, h1, h2⟩ := sr.env j o2 hj
      refine ⟨w, h1, h2.stay (Le.refl F) fun b r' z => ?_⟩
      have z' : lab b = some (j :: r') := z
      have nb : b ≠ a := by intro y; subst y; rw [ha] at z'; exact e (List.cons.inj (Option.some.inj z')).1.symm
      exact ⟨upd_ne nb, by rw [hp (l2none z')]; exact z'⟩
end
section
variable {X : Cx} {W : WX} {ks : List Nat} {q : Bool} {c f : Str} {C : Addr} {e : Expr} {fe : Env → Out P} {pos p2 p3 : Pos}
theorem s_setF (i : Nat) {x : Str} (k : ClsOk X.K X.mg c C) (n : NoAttr X.K C f) (he : DE X W q e fe) (hN : X.N[i]? = some x := by rfl) (hv : Vis X.env.scope x := by first | exact Or.inl rfl | exact Or.inr (Or.inl rfl) | exact Or.inr (Or.inr rfl)) (hd : (x == ("__debug__" : Str)) = false := by decide)
    (hcd : (x == ("__classdict__" : Str)) = false := by decide) (hs : swapsWith e (some (.Attribute (.Name x p3) f p2)) pos.line X.env = pure false := by rfl) : DS X W ks (.Assign [.Attribute (.Name x p3) f p2] e pos) (sSetF i c f fe) := by
  refine PS_weak (ps_fld (pe_var hN hv hd hcd) he hs) fun D σ H h => ?_
  obtain ⟨ρ, F, lab, sr, m⟩ := h
  refine ⟨ρ, F, lab, sr, ?_⟩
  unfold sSetF at m
  cases hf : fe ρ with
  | no => rw [hf] at m; exact m
  | exc x ρ' => rw [hf] at m; exact fun cls d F1 H1 lab1 mv sr rx => m cls d σ F1 H1 lab1 mv sr Keep.refl rx
  | ok p ρ1 =>
    rw [hf, flow_ok] at m
    intro y F1 H1 lab1 mv sr1 rp
    split at m
    case h_2 => exact m.elim
    rename_i c' fs hg
    split at m
    case isFalse => exact m.elim
    rename_i hcl
    obtain ⟨rfl, hlen⟩ := hcl
    obtain ⟨v, h1, h2⟩ := sr1.env i _ (getS_eq hg)
    cases h2 with
    | @i _ a C' dx _ gs _ g1 g2 g3 g4 =>
      have e3 := g3
      rw [k.gl] at e3
      cases e3
      have fin : ∀ o, p.toO = some o → SMeets X.K X.mg W ks F H lab σ (.next (ρ1.set i (some (.i c' (putO f o fs))))) D → D.nx σ (upd H1 a (.ins C dx (putF f y gs))) := fun o eo mm => by
        obtain ⟨lab', mv', sr'⟩ := sr_putF (f := f) mv sr1 hg h1 g1 g2 g3 g4 rp eo
        exact mm σ F1 _ lab' mv' sr' Keep.refl
      refine ⟨.ref a, h1, a, C, dx, gs, rfl, g2, k.cls, n, by rw [g4.len]; exact hlen, ?_⟩
      cases p with
      | s d => exact m.elim
      | v d => exact fin (.v d) rfl m
      | f o => exact fin o rfl m
end

/-! ### C(..): a new instance, its __init__ -/
def sMake (c : Str) (S : Fn) (g : Env → Out (List D)) (ρ : Env) : Out P := (g ρ).bind fun ds ρ1 => match S (.i c [] :: ds.map .v) with
  | .ret (.v .non) (o :: _) => .ok (.f o) ρ1
  | .exc x _ => .exc x ρ1
  | _ => .no
section
variable {X : Cx} {CX : CXT} {k : Nat} {f C : Addr} {fd : FuncData} {ps : List Str} {sp : Sp} {E : L2.St → XK} {x : Str} {p pos : Pos} {e : Expr} {es : List Expr} {t : TA}
def tMakeS (C : Addr) (sp : Sp) (E : L2.St → XK) (t : TA) : TE := fun σ H Q => t σ H fun vs H1 => ∀ x dx, H1 x = none → H1 dx = none → dx ≠ x → sp (.ref x :: vs) (upd (upd H1 dx (.own x)) x (.ins C dx [])) (fun v H2 => v = .non ∧ Q (.ref x) H2) (E σ)
theorem run_makeS {pins : List (Addr × Obj)} {σ : L2.St} {H : Hp} {s : Shared} {Q : VK} {us : List Value} {vs : List V} (M : Mk X.K C f) (F : FnOk X.prog X.w X.K X.mg X.base CX k f fd ps sp) (hr : Room (k + 1) X.A) (hb : L2.Binds X.K fd ps [])
    (hx : PassesAt CX X σ (E σ)) (I : L2.Inv X pins σ H s) (r : Vals vs us)
    (h : ∀ x dx, H x = none → H dx = none → dx ≠ x → sp (.ref x :: vs) (upd (upd H dx (.own x)) x (.ins C dx [])) (fun v H2 => v = .non ∧ Q (.ref x) H2) (E σ)) :
    wpAny (model X.prog X.w) X.A (call (.ref C) us) (EP X pins σ Q) X.xe s := by
  have hq := h (s.heap.objs.size + 1) s.heap.objs.size (I.hok.fresh (Nat.le_succ _)) (I.hok.fresh (Nat.le_refl _)) (Nat.ne_of_lt (Nat.lt_succ_self _))
  have I2 := Inv.made (C := C) I
  have r2 : Vals (V.ref (s.heap.objs.size + 1) :: vs) (Value.ref (s.heap.objs.size + 1) :: us) := .cons rfl r
  have hl : (Value.ref (s.heap.objs.size + 1) :: us).length = ps.length := by
    have e := r2.length
    rw [F.len _ _ _ _ hq] at e
    exact e.symm
  have b := hb
  refine wpAny_call (make_map (f := f) I.kIn M.makes M.init (beq_iff_eq.mp M.fn) (codeAny_mono (F.run _ X.stack _ _ ⟨Value.ref (s.heap.objs.size + 1) :: us, []⟩ (Value.ref (s.heap.objs.size + 1) :: us) _ _ (E σ) (hr.make C us [])
    (I2.env0.make C us []) (by have q := hb _ (Value.ref (s.heap.objs.size + 1) :: us) I2.kIn (by rw [List.append_nil]; exact hl); rw [List.append_nil] at q; exact q) r2 hq) fun r s' hq' => ?_))
  cases r with
  | error e => exact hx pins _ _ e s' I2 hq'
  | ok fl =>
    cases fl with
    | ret u =>
      obtain ⟨v, H', I3, rv, ev, q3⟩ := I2.after hq'
      subst ev
      exact ⟨rv, ⟨V.ref (s.heap.objs.size + 1), H', I3, rfl, q3⟩⟩
    | next => exact False.elim hq'
    | brk => exact False.elim hq'
    | cont => exact False.elim hq'
theorem pe_makeS (M : Mk X.K C f) (F : FnOk X.prog X.w X.K X.mg X.base CX k f fd ps sp) (hr : Room (k + 1) X.A) (hg : Gl X x) (hm : X.mg x = some (.ref C)) (hb : L2.Binds X.K fd ps []) (hx : ∀ σ, PassesAt CX X σ (E σ))
    (ha : PA X (e :: es) t) (hdb : (x == ("__debug__" : Str)) = false := by decide) (he : starEach (e :: es) X.env = (false, eval e X.env) :: starEach es X.env := by rfl) (hpl : (backTo pos (starEach es X.env)).any (·.1) = false := by rfl) :
    PE X (.Call (.Name x p) (e :: es) [] pos) (tMakeS C sp E t) := by
  refine ⟨fun pins s σ H Q I h => ?_⟩
  refine wpAny_Call_Name_kw (ld_glob I hg hm ?_ hdb)
  refine PySem.W.callWith_K (h₀ := X.base) I.ok.mod.kin M.kp (thn (ha.run pos pins s σ H _ I h) fun us s1 ⟨vs, H1, I1, r, q⟩ => ⟨I1.kIn, ?_⟩) he hpl
  exact run_makeS M F hr hb (hx σ) I1 r q
theorem pe_make0S (M : Mk X.K C f) (F : FnOk X.prog X.w X.K X.mg X.base CX k f fd ps sp) (hr : Room (k + 1) X.A) (hg : Gl X x) (hm : X.mg x = some (.ref C)) (hb : L2.Binds X.K fd ps []) (hx : ∀ σ, PassesAt CX X σ (E σ))
    (hdb : (x == ("__debug__" : Str)) = false := by decide) : PE X (.Call (.Name x p) [] [] pos) (tMakeS C sp E tNil) := by
  refine ⟨fun pins s σ H Q I h => ?_⟩
  refine wpAny_Call_Name_kw (ld_glob I hg hm ?_ hdb)
  exact PySem.W.callWith_K0 I.kIn M.kp (run_makeS (us := []) M F hr hb (hx σ) I .nil h)
end
section
variable {K : PySem.W.Frag} {mg : Str → Option Value} {F H : Hp} {lab : Lab} {σ : L2.St} {ρ : Env} {Q : VK} {W : WX} {S : Fn} {n : Nat} {c : Str} {C : Addr} {vs : List V} {ds : List D} {q : Bool}
/-- what follows a new instance's __init__ -/
theorem make_read (hn : ∀ os, S os ≠ .no → os.length = n) (hc : mg c = some (.ref C)) (sr : SR K mg F H lab σ ρ) (r : RepL K mg F vs ds)
    (m : Meets K mg W q F H lab σ (RepP K mg (New q H lab)) (match S (.i c [] :: ds.map .v) with | .ret (.v .non) (o :: _) => .ok (.f o) ρ | .exc x _ => .exc x ρ | _ => .no) Q) :
    ∀ x dx, H x = none → H dx = none → dx ≠ x → spF K mg n S (.ref x :: vs) (upd (upd H dx (.own x)) x (.ins C dx [])) (fun v H2 => v = .non ∧ Q (.ref x) H2) (WE W σ) := fun x dx hx hdx hne => by
  have le : Le F (upd (upd H dx (.own x)) x (.ins C dx [])) := fun a u e => by
    have e1 := sr.bas.le a u e
    rw [upd_ne (ne_of_none e1 hx), upd_ne (ne_of_none e1 hdx)]; exact e1
  have fx : F x = none := by
    cases e : F x with
    | none => rfl
    | some u => rw [sr.bas.le x u e] at hx; cases hx
  have lx : lab x = none := by
    cases e : lab x with
    | none => rfl
    | some p => exact absurd hx (sr.bas.lf x p e).2
  let lc : Lab := fun a => if a = x then some [0] else none
  have sr0 : SR K mg F (upd (upd H dx (.own x)) x (.ins C dx [])) lc ((V.ref x :: vs).map some) ((O.i c [] :: ds.map O.v).map some) := by
    refine ⟨⟨le, fun a p e => ?_⟩, fun j o hj => ?_, by simp [r.length]⟩
    · have ea : a = x := by
        by_cases h : a = x
        · exact h
        · have e' : (if a = x then some [0] else none) = some p := e
          rw [if_neg h] at e'; cases e'
      subst ea
      exact ⟨fx, by rw [upd_same]; exact fun z => nomatch z⟩
    · cases j with
      | zero =>
        have e : O.i c [] = o := by simpa using hj
        subst e
        exact ⟨_, rfl, .i (by simp [lc]) upd_same hc .nil⟩
      | succ j =>
        obtain ⟨w, h1, h2⟩ := env_vals (H := upd (upd H dx (.own x)) x (.ins C dx [])) (lab := lc) (σ := []) r j o (by simpa using hj)
        refine ⟨w, by simpa using h1, ?_⟩
        cases o with
        | v d => cases h2 with | v h2 => exact .v h2
        | _ =>
          simp only [List.map_cons, List.getElem?_cons_succ, List.getElem?_map] at hj
          cases e : ds[j]? <;> (rw [e] at hj; simp at hj)
  -- old things stand apart from what the call turns
  have old : ∀ {a}, H a ≠ none → a ≠ x ∧ a ≠ dx ∧ lc a = none ∧ upd (upd H dx (.own x)) x (.ins C dx []) a = H a := fun {a} h => by
    have h1 : a ≠ x := fun z => h (z ▸ hx)
    have h2 : a ≠ dx := fun z => h (z ▸ hdx)
    exact ⟨h1, h2, if_neg h1, by rw [upd_ne h1, upd_ne h2]⟩
  have back : ∀ {F' H' lab'}, Move false F (upd (upd H dx (.own x)) x (.ins C dx [])) lc F' H' lab' → Bas F' H' lab' → ∀ q, Move q F H lab F' H' lab ∧ SR K mg F' H' lab σ ρ := fun {F' H' lab'} mv b q => by
    have fr : ∀ a, H a ≠ none → H' a = H a ∧ (F a = none → F' a = none) := fun a h => by
      obtain ⟨o1, o2, o3, o4⟩ := old h
      obtain ⟨g1, _, g3⟩ := mv.fr a (by rw [o4]; exact h) (.inr o3)
      exact ⟨g1.trans o4, g3⟩
    refine ⟨⟨mv.ff, fun a h => by rw [(fr a h).1]; exact h, fun a h _ => ⟨(fr a h).1, rfl, (fr a h).2⟩⟩, ⟨⟨b.le, fun a p h => ?_⟩, fun i o h => ?_, sr.len⟩⟩
    · obtain ⟨h1, h2⟩ := sr.bas.lf a p h
      exact ⟨(fr a h2).2 h1, by rw [(fr a h2).1]; exact h2⟩
    · obtain ⟨v, h1, h2⟩ := sr.env i o h
      exact ⟨v, h1, h2.stay mv.ff fun a r e => ⟨(fr a (sr.bas.lf a _ e).2).1, e⟩⟩
  refine ⟨?_, F, lc, .i c [] :: ds.map .v, sr0, ?_⟩
  · have := hn (.i c [] :: ds.map .v) (fun z => by rw [z] at m; exact m)
    rw [← this]; simp [r.length]
  · cases hS : S (.i c [] :: ds.map O.v) with
    | no => rw [hS] at m; exact m
    | exc x' os =>
      rw [hS] at m
      exact fun cls d F' H' lab' mv sr' rx => let ⟨a, b⟩ := back mv sr'.bas false; m cls d F' H' lab a b rx
    | ret p' os =>
      rw [hS] at m
      intro v F' H' lab' mv sr' rp
      split at m
      · rename_i fr o tl ee
        cases ee
        cases rp
        refine ⟨rfl, ?_⟩
        obtain ⟨mv2, sr2⟩ := back mv sr'.bas q
        obtain ⟨w, h1, h2⟩ := sr'.env 0 o rfl
        have ew : V.ref x = w := by simpa using h1
        subst ew
        refine m (.ref x) F' H' lab mv2 sr2 ⟨labAt lab' 0, h2.stay (Le.refl _) fun a r e => ⟨rfl, labAt_of e⟩, fun a p e => ?_⟩
        have e' := of_labAt e
        obtain ⟨f1, f2⟩ := sr'.bas.lf a _ e'
        have hn : H a = none := by
          cases z : H a with
          | none => rfl
          | some u =>
            obtain ⟨o1, o2, o3, o4⟩ := old (ne_none z)
            obtain ⟨_, g2, _⟩ := mv.fr a (by rw [o4]; exact ne_none z) (.inr o3)
            rw [o3, e'] at g2; cases g2
        refine ⟨.of_none hn, ?_, f1, f2⟩
        cases z : lab a with
        | none => rfl
        | some p' => exact absurd hn (sr.bas.lf a p' z).2
      · rename_i ee; cases ee
      · exact m.elim
end
section
variable {X : Cx} {W : WX} {q : Bool} {k n : Nat} {f C : Addr} {fd : FuncData} {ps : List Str} {S : Fn} {x : Str} {p pos : Pos} {e : Expr} {es : List Expr} {g : Env → Out (List D)}
theorem e_make (M : Mk X.K C f) (G : FnOk X.prog X.w X.K X.mg X.base (L2.CX X.prog X.w) k f fd ps (spF X.K X.mg n S)) (hn : ∀ os, S os ≠ .no → os.length = n) (hr : Room (k + 1) X.A) (tk : Takes X W) (hg : Gl X x) (hm : X.mg x = some (.ref C)) (hb : L2.Binds X.K fd ps [])
    (ha : DA X W q (e :: es) g) (hdb : (x == ("__debug__" : Str)) = false := by decide) (he : starEach (e :: es) X.env = (false, eval e X.env) :: starEach es X.env := by rfl) (hpl : (backTo pos (starEach es X.env)).any (·.1) = false := by rfl) :
    DE X W q (.Call (.Name x p) (e :: es) [] pos) (sMake x S g) := by
  refine PE_weak (pe_makeS (E := WE W) M G hr hg hm hb (passAt tk) ha hdb he hpl) fun σ H Q h => ?_
  obtain ⟨ρ, F, lab, sr, m⟩ := h
  refine ⟨ρ, F, lab, sr, Meets.seq (rep2 := RepP X.K X.mg) id sinceP m fun xs ds ρ1 F1 H1 lab1 mv1 sr1 rp m1 => ?_⟩
  exact make_read hn hm sr1 rp m1
theorem e_make0 (M : Mk X.K C f) (G : FnOk X.prog X.w X.K X.mg X.base (L2.CX X.prog X.w) k f fd ps (spF X.K X.mg n S)) (hn : ∀ os, S os ≠ .no → os.length = n) (hr : Room (k + 1) X.A) (tk : Takes X W) (hg : Gl X x) (hm : X.mg x = some (.ref C)) (hb : L2.Binds X.K fd ps [])
    (hdb : (x == ("__debug__" : Str)) = false := by decide) : DE X W true (.Call (.Name x p) [] [] pos) (sMake x S sNil) := by
  refine PE_weak (pe_make0S (E := WE W) M G hr hg hm hb (passAt tk) hdb) fun σ H Q h => ?_
  obtain ⟨ρ, F, lab, sr, m⟩ := h
  exact make_read (ds := []) hn hm sr .nil m
end
end LW

namespace LW
open PySem PySem.Spec PyProof.Rows L2
/-! ### o.m(..): o the owned instance of a slot -/
def sMeth (c : Str) (S : Fn) (i : Nat) (g : Env → Out (List D)) (ρ : Env) : Out P := match getS ρ i with
  | some (.i c' _) => if c' = c then sCallM S i g ρ else .no
  | _ => .no
section
variable {X : Cx} {CX : CXT} {k : Nat} {f C : Addr} {fd : FuncData} {ps : List Str} {sp : Sp} {E : L2.St → XK} {m : Str} {pos apos : Pos} {o e : Expr} {es : List Expr} {ta : TE} {t : TA}
def tMethS (C : Addr) (m : Str) (sp : Sp) (E : L2.St → XK) (ta : TE) (t : TA) : TE := fun σ H Q => ta σ H fun x H1 => ∃ a dx fs, x = .ref a ∧ H1 a = some (.ins C dx fs) ∧ fs.lookup m = none ∧ t σ H1 fun vs H2 => sp (x :: vs) H2 Q (E σ)
theorem pe_methSD {pl : Sem Bool} (he : PE X o ta) (c : Cls X.K C) (hm : Meth X.K C m f) (F : FnOk X.prog X.w X.K X.mg X.base CX k f fd ps sp) (hr : Room k X.A) (hb : L2.Binds X.K fd ps []) (hx : ∀ σ, PassesAt CX X σ (E σ)) (ha : PA X (e :: es) t)
    (hst : starEach (e :: es) X.env = (false, eval e X.env) :: starEach es X.env := by rfl) (hpl : (backTo pos (starEach es X.env)).any (·.1) = false := by rfl)
    (ht : eval (.Call (.Attribute o m apos) (e :: es) [] pos) X.env = (do
      let ov ← eval o X.env
      standAt apos.atName
      let (f, first) ← holding [ov] (getMethod ov m pl)
      callWith pos f first (backTo pos (starEach (e :: es) X.env)) (backToKw pos (keywordEach [] X.env))) := by rfl) :
    PE X (.Call (.Attribute o m apos) (e :: es) [] pos) (tMethS C m sp E ta t) := by
  refine ⟨fun pins s σ H Q I h => ?_⟩
  refine PySem.W.methodCall_KW (pl := pl) (thn (he.run pins s σ H _ I h) fun u s1 ⟨x, H1, I1, rx, a, dx, fs, ex, ea, l, q⟩ => ?_) ht
  subst ex
  obtain rfl : u = Value.ref a := rx
  refine getmeth_ok I1 ea c hm l ?_
  refine PySem.W.callWith_K (first := [.ref a]) (h₀ := X.base) I.ok.mod.kin hm.kp (thn (ha.run pos pins s1 σ H1 _ I1 q) fun us s2 ⟨vs, H2, I2, r, q2⟩ => ⟨I2.kIn, ?_⟩) hst hpl
  exact run_fnS (us := .ref a :: us) (vs := .ref a :: vs) F hr hb (hx σ) I2 (.cons rfl r) q2
theorem pe_meth0SD {pl : Sem Bool} (he : PE X o ta) (c : Cls X.K C) (hm : Meth X.K C m f) (F : FnOk X.prog X.w X.K X.mg X.base CX k f fd ps sp) (hr : Room k X.A) (hb : L2.Binds X.K fd ps []) (hx : ∀ σ, PassesAt CX X σ (E σ))
    (ht : eval (.Call (.Attribute o m apos) [] [] pos) X.env = (do
      let ov ← eval o X.env
      standAt apos.atName
      let (f, first) ← holding [ov] (getMethod ov m pl)
      callWith pos f first (backTo pos (starEach [] X.env)) (backToKw pos (keywordEach [] X.env))) := by rfl) :
    PE X (.Call (.Attribute o m apos) [] [] pos) (tMethS C m sp E ta tNil) := by
  refine ⟨fun pins s σ H Q I h => ?_⟩
  refine PySem.W.methodCall_KW (pl := pl) (thn (he.run pins s σ H _ I h) fun u s1 ⟨x, H1, I1, rx, a, dx, fs, ex, ea, l, q⟩ => ?_) ht
  subst ex
  obtain rfl : u = Value.ref a := rx
  refine getmeth_ok I1 ea c hm l ?_
  exact PySem.W.callWith_K0 (first := [.ref a]) I1.kIn hm.kp (run_fnS (us := [.ref a]) (vs := [.ref a]) F hr hb (hx σ) I1 (.cons rfl .nil) q)
end
section
variable {X : Cx} {W : WX} {q : Bool} {k n : Nat} {f C : Addr} {fd : FuncData} {ps : List Str} {S : Fn} {c m : Str} {p pos apos : Pos} {e : Expr} {es : List Expr} {g : Env → Out (List D)} {y : Str} {ypos : Pos}
theorem callM_read {i : Nat} {v : V} {xs : List V} {ds : List D} {F1 H1 : Hp} {lab1 : Lab} {σ : L2.St} {ρ1 : Env} {Q : VK} (hn : ∀ os, S os ≠ .no → os.length = n) (hv1 : σ[i]? = some (some v)) (sr1 : SR X.K X.mg F1 H1 lab1 σ ρ1) (rp : RepL X.K X.mg F1 xs ds)
    (m1 : Meets X.K X.mg W false F1 H1 lab1 σ (RepP X.K X.mg (New false H1 lab1)) (match ρ1[i]? with
      | some (some o) => (match S (o :: ds.map .v) with
        | .ret p (o' :: _) => .ok p (ρ1.set i (some o'))
        | .exc x (o' :: _) => .exc x (ρ1.set i (some o'))
        | _ => .no)
      | _ => .no) Q) : spF X.K X.mg n S (v :: xs) H1 Q (WE W σ) := by
  split at m1
  · rename_i o ho
    have hv2 : σ[i]? = some (some v) := hv1
    refine ⟨?_, F1, labIn lab1 i, o :: ds.map .v, sr_in sr1 ho hv2 rp, ?_⟩
    · have := hn (o :: ds.map .v) (fun z => by rw [z] at m1; exact m1)
      rw [← this]; simp [rp.length]
    · cases hS : S (o :: ds.map O.v) with
      | no => rw [hS] at m1; exact m1
      | exc x' os =>
        rw [hS] at m1
        cases os with
        | nil => exact m1.elim
        | cons o' os =>
          exact fun cls d F' H' lab' mv sr' rx => let ⟨a, b⟩ := sr_out sr1 ho hv2 mv sr'; m1 cls d F' H' _ a b rx
      | ret p' os =>
        rw [hS] at m1
        cases os with
        | nil => exact m1.elim
        | cons o' os =>
          exact fun v F' H' lab' mv sr' rp => let ⟨a, b⟩ := sr_out sr1 ho hv2 mv sr'; m1 v F' H' _ a b (ret_out sr1 mv rp)
  · exact m1.elim
/-- no attribute of the instance hides the method -/
def noHide (m : Str) (ρ : Env) (i : Nat) : Bool := match getS ρ i with
  | some (.i _ fs) => (lookO m fs).isNone
  | _ => false
def sMethF (c m : Str) (S : Fn) (i : Nat) (g : Env → Out (List D)) (ρ : Env) : Out P := if noHide m ρ i = true then sMeth c S i g ρ else .no
theorem e_meth (i : Nat) {pl : Sem Bool} (kc : ClsOk X.K X.mg c C) (hm : Meth X.K C m f) (G : FnOk X.prog X.w X.K X.mg X.base (L2.CX X.prog X.w) k f fd ps (spF X.K X.mg n S)) (hn : ∀ os, S os ≠ .no → os.length = n) (hr : Room k X.A) (tk : Takes X W) (hb : L2.Binds X.K fd ps [])
    (ha : DA X W q (e :: es) g) (hN : X.N[i]? = some y := by rfl) (hv : Vis X.env.scope y := by first | exact Or.inl rfl | exact Or.inr (Or.inl rfl) | exact Or.inr (Or.inr rfl)) (hd : (y == ("__debug__" : Str)) = false := by decide)
    (hcd : (y == ("__classdict__" : Str)) = false := by decide) (he : starEach (e :: es) X.env = (false, eval e X.env) :: starEach es X.env := by rfl) (hpl : (backTo pos (starEach es X.env)).any (·.1) = false := by rfl)
    (ht : eval (.Call (.Attribute (.Name y ypos) m apos) (e :: es) [] pos) X.env = (do
      let ov ← eval (.Name y ypos) X.env
      standAt apos.atName
      let (f, first) ← holding [ov] (getMethod ov m pl)
      callWith pos f first (backTo pos (starEach (e :: es) X.env)) (backToKw pos (keywordEach [] X.env))) := by rfl) :
    DE X W false (.Call (.Attribute (.Name y ypos) m apos) (e :: es) [] pos) (sMethF c m S i g) := by
  refine PE_weak (pe_methSD (E := WE W) (pl := pl) (pe_var hN hv hd hcd) kc.cls hm G hr hb (passAt tk) ha he hpl ht) fun σ H Q h => ?_
  obtain ⟨ρ, F, lab, sr, mm⟩ := h
  unfold sMethF at mm
  split at mm
  case isFalse => exact mm.elim
  rename_i hh
  unfold sMeth at mm
  split at mm
  case h_2 => exact mm.elim
  rename_i c' fs hg
  split at mm
  case isFalse => exact mm.elim
  rename_i hcc
  subst hcc
  unfold sCallM at mm
  rw [getS_eq hg] at mm
  simp only at mm
  obtain ⟨v, hv1, r1⟩ := sr.env i _ (getS_eq hg)
  unfold noHide at hh
  rw [hg] at hh
  cases r1 with
  | i g1 g2 g3 g4 =>
    rw [kc.gl] at g3
    cases g3
    refine ⟨_, hv1, _, _, _, rfl, g2, g4.none (by simpa using hh), ρ, F, lab, sr, Meets.seq (q := false) (qa := q) (rep2 := RepP X.K X.mg) (fun z => Bool.noConfusion z) sinceP mm fun xs ds ρ1 F1 H1 lab1 mv1 sr1 rp m1 => ?_⟩
    exact callM_read hn hv1 sr1 rp m1
theorem e_meth0 (i : Nat) {pl : Sem Bool} (kc : ClsOk X.K X.mg c C) (hm : Meth X.K C m f) (G : FnOk X.prog X.w X.K X.mg X.base (L2.CX X.prog X.w) k f fd ps (spF X.K X.mg n S)) (hn : ∀ os, S os ≠ .no → os.length = n) (hr : Room k X.A) (tk : Takes X W) (hb : L2.Binds X.K fd ps [])
    (hN : X.N[i]? = some y := by rfl) (hv : Vis X.env.scope y := by first | exact Or.inl rfl | exact Or.inr (Or.inl rfl) | exact Or.inr (Or.inr rfl)) (hd : (y == ("__debug__" : Str)) = false := by decide)
    (hcd : (y == ("__classdict__" : Str)) = false := by decide)
    (ht : eval (.Call (.Attribute (.Name y ypos) m apos) [] [] pos) X.env = (do
      let ov ← eval (.Name y ypos) X.env
      standAt apos.atName
      let (f, first) ← holding [ov] (getMethod ov m pl)
      callWith pos f first (backTo pos (starEach [] X.env)) (backToKw pos (keywordEach [] X.env))) := by rfl) :
    DE X W false (.Call (.Attribute (.Name y ypos) m apos) [] [] pos) (sMethF c m S i sNil) := by
  refine PE_weak (pe_meth0SD (E := WE W) (pl := pl) (pe_var hN hv hd hcd) kc.cls hm G hr hb (passAt tk) ht) fun σ H Q h => ?_
  obtain ⟨ρ, F, lab, sr, mm⟩ := h
  unfold sMethF at mm
  split at mm
  case isFalse => exact mm.elim
  rename_i hh
  unfold sMeth at mm
  split at mm
  case h_2 => exact mm.elim
  rename_i c' fs hg
  split at mm
  case isFalse => exact mm.elim
  rename_i hcc
  subst hcc
  unfold sCallM sNil at mm
  rw [getS_eq hg] at mm
  simp only [Out.bind_ok] at mm
  obtain ⟨v, hv1, r1⟩ := sr.env i _ (getS_eq hg)
  unfold noHide at hh
  rw [hg] at hh
  cases r1 with
  | i g1 g2 g3 g4 =>
    rw [kc.gl] at g3
    cases g3
    refine ⟨_, hv1, _, _, _, rfl, g2, g4.none (by simpa using hh), ?_⟩
    exact callM_read (ds := []) hn hv1 sr .nil mm
end
end LW

/-! LW13: isinstance, methods of texts, f-strings, constants of the module. -/
namespace LW
open PySem PySem.Spec PyProof.Rows L2

/-! ### isinstance -/
def IsA (K : PySem.W.Frag) (mg : Str → Option Value) (u : Value) (g : D → Option Bool) : Prop :=
  ∀ (F H : Hp) (v : V) (d : D) (b : Bool), Le F H → RepS K mg F H v d → g d = some b → ∃ t, TyX K H v t ∧ PySem.W.kitOne K t u = some b
inductive Tg where
  | int | bool | str | tuple | list | dict | own (c : Str)
def Tg.name : Tg → String
  | .int => "int" | .bool => "bool" | .str => "str" | .tuple => "tuple" | .list => "list" | .dict => "dict" | .own _ => ""
/-- the kind's own name -/
def D.ty : D → String
  | .non => "NoneType" | .bl _ => "bool" | .int _ => "int" | .str _ => "str" | .tup _ => "tuple" | .lst _ => "list" | .dct _ _ => "dict" | .ins _ _ => ""
def subTy (a b : String) : Bool := a == b || (a == "bool" && b == "int")
/-- is d of the kind; cs: the classes that are known -/
def D.isa (cs : List Str) (g : Tg) (d : D) : Option Bool := match d, g with
  | .ins c _, .own c' => if cs.contains c then some (c == c') else none
  | .ins c _, _ => if cs.contains c then some false else none
  | _, .own _ => some false
  | d, g => some (subTy d.ty g.name)
/-- an own class's facts, for isinstance of its instances -/
structure InsT (K : PySem.W.Frag) (C : Addr) : Prop where
  cls : Cls K C
  ha : PySem.W.findIn K (.ref C) "__class__" = some (some (.builtin "object.__class__"))
  hn : PySem.W.specialIn K (.builtin "object.__class__") "__get__" = some (some (.builtin "getset_descriptor.__get__"))
  htk : PySem.W.takesIn K (.builtin "object.__class__") = some true
  hm : PySem.W.mroIn K C (.type "object") = some true
section
variable {K : PySem.W.Frag} {mg : Str → Option Value} {F H : Hp} {v : V} {d : D} {cs : List Str}
/-- the type of what is read, where it is no instance -/
theorem RepS.ty (l : Le F H) (r : RepS K mg F H v d) (hni : ∀ c fs, d ≠ .ins c fs) : TyX K H v (.type d.ty) := by
  cases r with
  | v r =>
    cases r with
    | non => exact .base .non
    | bl b => exact .base (.bl b)
    | int i => exact .base (.int i)
    | str s => exact .base (.str s)
    | tup h r =>
      exact .base (.tup (l _ _ h))
    | lst h r =>
      rcases SqL_le l h with (h | ⟨o, h⟩) | ⟨o, its, n, h1, h2, _⟩
      · exact .base (.lst h)
      · exact .base (.frz h)
      · exact .kList h1 h2
    | dK h r => exact .base (.dK (l _ _ h))
    | dT h r => exact .base (.dT (l _ _ h))
    | ins _ _ _ => exact absurd rfl (hni _ _)
  | l h r => exact .base (.lst h)
  | kK h r => exact .base (.dK h)
  | kT h r => exact .base (.dT h)
theorem isa_b (g : Tg) (hg : ∀ c, g ≠ .own c) (hk : ∀ n ∈ ["NoneType", "bool", "int", "str", "tuple", "list", "dict"], PySem.W.kitOne K (.type n) (.type g.name) = some (subTy n g.name))
    (hc : ∀ c ∈ cs, ∀ C, mg c = some (.ref C) → InsT K C ∧ PySem.W.kitOne K (.ref C) (.type g.name) = some false) : IsA K mg (.type g.name) (D.isa cs g) := by
  intro F H v d b l r e
  cases hd : d with
  | ins c fs =>
    subst hd
    have e' : (if cs.contains c then some false else none) = some b := by
      cases g <;> first | exact e | exact absurd rfl (hg _)
    split at e'
    · rename_i hin
      cases e'
      cases r with
      | v r =>
        cases r with
        | ins h1 h2 h3 =>
          obtain ⟨t, k⟩ := hc c (by simpa using hin) _ h2
          exact ⟨_, .base (.ins (l _ _ h1) t.cls t.ha t.hn t.htk t.hm), k⟩
    · cases e'
  | _ =>
    subst hd
    refine ⟨_, r.ty l (fun c fs z => nomatch z), ?_⟩
    cases g <;> first
      | exact absurd rfl (hg _)
      | (cases e; exact hk _ (by simp [D.ty]))
/-- two classes at once -/
def IsA2 (K : PySem.W.Frag) (mg : Str → Option Value) (u1 u2 : Value) (g1 g2 : D → Option Bool) : Prop :=
  ∀ (F H : Hp) (v : V) (d : D) (b1 b2 : Bool), Le F H → RepS K mg F H v d → g1 d = some b1 → g2 d = some b2 → ∃ t, TyX K H v t ∧ PySem.W.kitOne K t u1 = some b1 ∧ PySem.W.kitOne K t u2 = some b2
theorem isa_b2 (g g' : Tg) (hg : ∀ c, g ≠ .own c) (hg' : ∀ c, g' ≠ .own c) (hk : ∀ n ∈ ["NoneType", "bool", "int", "str", "tuple", "list", "dict"], PySem.W.kitOne K (.type n) (.type g.name) = some (subTy n g.name))
    (hk' : ∀ n ∈ ["NoneType", "bool", "int", "str", "tuple", "list", "dict"], PySem.W.kitOne K (.type n) (.type g'.name) = some (subTy n g'.name))
    (hc : ∀ c ∈ cs, ∀ C, mg c = some (.ref C) → InsT K C ∧ PySem.W.kitOne K (.ref C) (.type g.name) = some false) (hc' : ∀ c ∈ cs, ∀ C, mg c = some (.ref C) → InsT K C ∧ PySem.W.kitOne K (.ref C) (.type g'.name) = some false) :
    IsA2 K mg (.type g.name) (.type g'.name) (D.isa cs g) (D.isa cs g') := by
  intro F H v d b1 b2 l r e1 e2
  cases hd : d with
  | ins c fs =>
    subst hd
    have e1' : (if cs.contains c then some false else none) = some b1 := by
      cases g <;> first | exact e1 | exact absurd rfl (hg _)
    have e2' : (if cs.contains c then some false else none) = some b2 := by
      cases g' <;> first | exact e2 | exact absurd rfl (hg' _)
    split at e1'
    · rename_i hin
      rw [if_pos hin] at e2'
      cases e1'
      cases e2'
      cases r with
      | v r =>
        cases r with
        | ins h1 h2 h3 =>
          obtain ⟨t, k⟩ := hc c (by simpa using hin) _ h2
          exact ⟨_, .base (.ins (l _ _ h1) t.cls t.ha t.hn t.htk t.hm), k, (hc' c (by simpa using hin) _ h2).2⟩
    · cases e1'
  | _ =>
    subst hd
    refine ⟨_, r.ty l (fun c fs z => nomatch z), ?_, ?_⟩
    · cases g <;> first
        | exact absurd rfl (hg _)
        | (cases e1; exact hk _ (by simp [D.ty]))
    · cases g' <;> first
        | exact absurd rfl (hg' _)
        | (cases e2; exact hk' _ (by simp [D.ty]))
theorem isa_own (c0 : Str) {C0 : Addr} (hk : ∀ n ∈ ["NoneType", "bool", "int", "str", "tuple", "list", "dict"], PySem.W.kitOne K (.type n) (.ref C0) = some false)
    (hc : ∀ c ∈ cs, ∀ C, mg c = some (.ref C) → InsT K C ∧ PySem.W.kitOne K (.ref C) (.ref C0) = some (c == c0)) : IsA K mg (.ref C0) (D.isa cs (.own c0)) := by
  intro F H v d b l r e
  cases hd : d with
  | ins c fs =>
    subst hd
    have e' : (if cs.contains c then some (c == c0) else none) = some b := e
    split at e'
    · rename_i hin
      cases e'
      cases r with
      | v r =>
        cases r with
        | ins h1 h2 h3 =>
          obtain ⟨t, k⟩ := hc c (by simpa using hin) _ h2
          exact ⟨_, .base (.ins (l _ _ h1) t.cls t.ha t.hn t.htk t.hm), k⟩
    · cases e'
  | _ =>
    subst hd
    refine ⟨_, r.ty l (fun c fs z => nomatch z), ?_⟩
    cases e
    exact hk _ (by simp [D.ty])
end
def gIs (g : D → Option Bool) (d : D) : Option P := (g d).map fun b => .v (.bl b)
def gIs2 (g1 g2 : D → Option Bool) (d : D) : Option P := match g1 d, g2 d with
  | some b1, some b2 => some (.v (.bl (b1 || b2)))
  | _, _ => none
section
variable {X : Cx} {W : WX} {q : Bool} {a b c : Expr} {f : Env → Out P} {g g1 g2 : D → Option Bool} {u u1 u2 : Value} {cv c1 c2 : V} {p pos tpos : Pos} {n1 : Nat}
theorem e_isi (hgl : Gl X "isinstance") (hm : X.mg "isinstance" = none) (ha : DE X W q a f) (hT : PE X b (tC cv)) (k : ClsV cv u) (hg : IsA X.K X.mg u g) (hv : bootBuiltins "isinstance" = some (.builtin "isinstance") := by decide +kernel)
    (he : starEach [a, b] X.env = (false, eval a X.env) :: starEach [b] X.env := by rfl) (he2 : starEach [b] X.env = [(false, eval b X.env)] := by rfl) (hpl : (backTo pos (starEach [b] X.env)).any (·.1) = false := by rfl) :
    DE X W q (.Call (.Name "isinstance" p) [a, b] [] pos) (sC1 (gIs g) f) :=
  PE_weak (pe_callB (es := [b]) call_isi hgl hm hv (pa_cons ha (pa_cons hT pa_nil he2) he) (by decide) (by decide) he hpl) fun σ H Q h => by
    obtain ⟨ρ, F, lab, sr, m⟩ := h
    refine ⟨ρ, F, lab, sr, Meets.seq (rep2 := RepP X.K X.mg) id sinceP m fun v p ρ1 F1 H1 lab1 mv1 sr1 rp m1 => ?_⟩
    split at m1
    · rename_i y hy
      unfold gIs at m1
      cases hb : g y with
      | none => rw [hb] at m1; exact m1.elim
      | some b =>
        rw [hb] at m1
        obtain ⟨t, h1, h2⟩ := hg F1 H1 v y b sr1.bas.le (rp.rd hy) hb
        exact ⟨v, cv, t, u, b, rfl, k, h1, h2, m1 _ F1 H1 lab1 Move.refl sr1 (Rep.bl b)⟩
    · exact m1.elim
/-- isinstance(x, (A, B)) -/
theorem e_isi2 (hgl : Gl X "isinstance") (hm : X.mg "isinstance" = none) (ha : DE X W q a f) (hT1 : PE X b (tC c1)) (hT2 : PE X c (tC c2)) (k1 : ClsV c1 u1) (k2 : ClsV c2 u2) (hg : IsA2 X.K X.mg u1 u2 g1 g2) (hv : bootBuiltins "isinstance" = some (.builtin "isinstance") := by decide +kernel)
    (he : starEach [a, .Tuple [b, c] n1 tpos] X.env = (false, eval a X.env) :: starEach [.Tuple [b, c] n1 tpos] X.env := by rfl) (he2 : starEach [.Tuple [b, c] n1 tpos] X.env = [(false, eval (.Tuple [b, c] n1 tpos) X.env)] := by rfl) (hpl : (backTo pos (starEach [.Tuple [b, c] n1 tpos] X.env)).any (·.1) = false := by rfl)
    (hs1 : starEach [b, c] X.env = (false, eval b X.env) :: starEach [c] X.env := by rfl) (hs2 : starEach [c] X.env = [(false, eval c X.env)] := by rfl) :
    DE X W q (.Call (.Name "isinstance" p) [a, .Tuple [b, c] n1 tpos] [] pos) (sC1 (gIs2 g1 g2) f) :=
  PE_weak (pe_callB (es := [.Tuple [b, c] n1 tpos]) call_isiT hgl hm hv (pa_cons ha (pa_cons (pe_tup (pa_cons hT1 (pa_cons hT2 pa_nil hs2) hs1)) pa_nil he2) he) (by decide) (by decide) he hpl) fun σ H Q h => by
    obtain ⟨ρ, F, lab, sr, m⟩ := h
    refine ⟨ρ, F, lab, sr, Meets.seq (rep2 := RepP X.K X.mg) id sinceP m fun v p ρ1 F1 H1 lab1 mv1 sr1 rp m1 => ?_⟩
    split at m1
    · rename_i y hy
      unfold gIs2 at m1
      cases hb1 : g1 y with
      | none => rw [hb1] at m1; exact m1.elim
      | some b1 =>
        cases hb2 : g2 y with
        | none => rw [hb1, hb2] at m1; exact m1.elim
        | some b2 =>
          rw [hb1, hb2] at m1
          refine ⟨by show 2 ≤ sizeLine; decide, fun tp htp => ?_⟩
          have gr : Grow F1 H1 F1 (upd H1 tp (.tup [c1, c2])) := Grow.own sr1.bas.le htp
          have rs := (rp.step (q := true) (gr.move (lab := lab1)) (by cases p <;> rfl)).rd hy
          obtain ⟨t, h1, h2, h2'⟩ := hg F1 _ v y b1 b2 gr.le rs hb1 hb2
          refine ⟨v, tp, [c1, c2], t, [u1, u2], b1 || b2, rfl, upd_same, .cons k1 (.cons k2 .nil), h1, ?_, Meets.grow m1 sr1 gr (Rep.bl _)⟩
          unfold PySem.W.kitAny
          rw [h2]
          cases b1 with
          | true => rfl
          | false =>
            simp only
            unfold PySem.W.kitAny
            rw [h2']
            cases b2 <;> rfl
    · exact m1.elim
/-! ### methods of a text, one argument -/
def M1R (K : PySem.W.Frag) (mg : Str → Option Value) (r : V → List V → Hp → VK → Prop) (g : Str → D → Option P) : Prop :=
  ∀ (a : Str) (v : V) (d : D) (p : P) (F H : Hp) (lab : Lab) (Q : VK), Bas F H lab → RepS K mg F H v d → g a d = some p → Cont K mg F H lab p Q → r (.str a) [v] H Q
def sM1 (g : Str → D → Option P) (fa fb : Env → Out P) (ρ : Env) : Out P := (fa ρ).bind fun p ρ1 => match p with
  | .v (.str a) => (fb ρ1).bind fun p' ρ2 => (match p'.rd with
    | some d => (match g a d with
      | some z => .ok z ρ2
      | none => .no)
    | none => .no)
  | _ => .no
theorem e_m1 {qa qb : Bool} {o e : Expr} {fa fb : Env → Out P} {g : Str → D → Option P} {id : String} {name : Str} {apos pos : Pos} {r : V → List V → Hp → VK → Prop} (slot : Slot "str" name id) (ty : typeOf (.builtin id) = pure (.type "method_descriptor")) (rule : MtR X id r) (hr : M1R X.K X.mg r g)
    (ho : DE X W qa o fa) (he : DE X W qb e fb) (hs : starEach [e] X.env = [(false, eval e X.env)] := by rfl) (hbase : attributeBase o name X.env (eval o X.env) = eval o X.env := by rfl) (hline : (apos.endLine == pos.line) = true := by rfl) :
    DE X W (qa && qb) (.Call (.Attribute o name apos) [e] [] pos) (sM1 g fa fb) :=
  PE_weak (pe_m1 slot ty rule ho he hs hbase hline) fun σ H Q h => by
    obtain ⟨ρ, F, lab, sr, m⟩ := h
    refine ⟨ρ, F, lab, sr, Meets.seq (rep2 := RepP X.K X.mg) and_l sinceP m fun v p ρ1 F1 H1 lab1 mv1 sr1 rp m1 => ?_⟩
    split at m1
    · cases rp
      refine ⟨⟨_, rfl⟩, ρ1, F1, lab1, sr1, Meets.seq (rep2 := RepP X.K X.mg) and_r sinceP m1 fun v p ρ2 F2 H2 lab2 mv2 sr2 rp2 m2 => ?_⟩
      split at m2
      · rename_i d hd
        split at m2
        · rename_i z hz
          exact hr _ v d z F2 H2 lab2 Q sr2.bas (rp2.rd hd) hz fun w F' H' gr rw' => Meets.grow m2 sr2 gr rw'
        · exact m2.elim
      · exact m2.elim
    · exact m1.elim
def gStrip (a : Str) (d : D) : Option P := match d with
  | .str b => if a.length ≤ sizeLine then some (.v (.str (Txt.stripChars a b))) else none
  | _ => none
theorem m1_strip : M1R X.K X.mg (fun x xs H Q => ∃ a b, x = .str a ∧ xs = [.str b] ∧ a.length ≤ sizeLine ∧ Q (.str (Txt.stripChars a b)) H) gStrip := by
  intro a v d p F H lab Q b r e k
  unfold gStrip at e
  split at e
  · split at e
    · rename_i hz
      cases e; cases r.str
      exact ⟨_, _, rfl, rfl, hz, k.str b⟩
    · cases e
  · cases e
def gSplit (a : Str) (d : D) : Option P := match d with
  | .str b => if (b.length == 0) = false ∧ a.length + 2 ≤ sizeLine then some (.f (.l ((Txt.split a b).map .str))) else none
  | _ => none
theorem repL_strs {K : PySem.W.Frag} {mg : Str → Option Value} {F : Hp} : ∀ ys : List Str, RepL K mg F (ys.map V.str) (ys.map D.str)
  | [] => .nil
  | y :: r => .cons (.str y) (repL_strs r)
theorem m1_split : M1R X.K X.mg (fun x xs H Q => ∃ a b, x = .str a ∧ xs = [.str b] ∧ (b.length == 0) = false ∧ a.length + 2 ≤ sizeLine ∧ rNewStrs (Txt.split a b) H Q) gSplit := by
  intro a v d p F H lab Q b r e k
  unfold gSplit at e
  split at e
  · split at e
    · rename_i hz
      cases e; cases r.str
      exact ⟨_, _, rfl, rfl, hz.1, hz.2, k.lst b (repL_strs _)⟩
    · cases e
  · cases e
def strsOf : List D → Option (List Str)
  | [] => some []
  | .str s :: r => (strsOf r).map (s :: ·)
  | _ :: _ => none
theorem strsOf_rep {K : PySem.W.Frag} {mg : Str → Option Value} {F : Hp} : ∀ {xs : List V} {ds : List D} {ys : List Str}, RepL K mg F xs ds → strsOf ds = some ys → xs = ys.map V.str
  | _, _, _, .nil, h => by cases h; rfl
  | _, _, _, .cons (d := d) (ds := ds) h r, e => by
    cases d <;> simp only [strsOf] at e <;> try cases e
    cases h
    cases e2 : strsOf ds with
    | none => rw [e2] at e; cases e
    | some ys' =>
      rw [e2] at e; cases e
      rw [strsOf_rep r e2]; rfl
def seqOf : D → Option (List D)
  | .lst ds => some ds
  | .tup ds => some ds
  | _ => none
def gJoin (a : Str) (d : D) : Option P := match seqOf d with
  | some ds => (match strsOf ds with
    | some ys => if (ys.map (·.length)).sum + ys.length * a.length ≤ 16777216 then some (.v (.str (Txt.join a ys))) else none
    | none => none)
  | none => none
theorem m1_join : M1R X.K X.mg (fun x xs H Q => ∃ a p, ∃ ys : List Str, x = .str a ∧ xs = [.ref p] ∧ (SqL X.K H p (ys.map V.str) ∨ SqT X.K H p (ys.map V.str)) ∧
      (ys.map (·.length)).sum + ys.length * a.length ≤ 16777216 ∧ Q (.str (Txt.join a ys)) H) gJoin := by
  intro a v d p F H lab Q b r e k
  unfold gJoin at e
  cases d with
  | lst ds =>
    simp only [seqOf] at e
    split at e
    · rename_i ys hy
      split at e
      · rename_i hz
        cases e
        obtain ⟨c, xs, rfl, h1, l1⟩ := r.lst b.le
        have ex := strsOf_rep l1 hy
        subst ex
        exact ⟨a, c, ys, rfl, rfl, .inl h1, hz, k.str b⟩
      · cases e
    · cases e
  | tup ds =>
    simp only [seqOf] at e
    split at e
    · rename_i ys hy
      split at e
      · rename_i hz
        cases e
        obtain ⟨c, xs, rfl, h1, l1⟩ := r.tup b.le
        have ex := strsOf_rep l1 hy
        subst ex
        exact ⟨a, c, ys, rfl, rfl, .inr h1, hz, k.str b⟩
      · cases e
    · cases e
  | _ => simp [seqOf] at e
/-! ### f-strings -/
def sFmt (f : Env → Out P) (ρ : Env) : Out P := (f ρ).bind fun p ρ1 => match p with
  | .v (.str y) => if y.length ≤ sizeLine then .ok (.v (.str y)) ρ1 else .no
  | .v (.int i) => if i.natAbs.log2 < 1920 then .ok (.v (.str (toString i))) ρ1 else .no
  | _ => .no
theorem e_fmt {e : Expr} {f : Env → Out P} {pos : Pos} (he : DE X W q e f) : DE X W q (.FormattedValue e (-1) none pos) (sFmt f) :=
  PE_weak (pe_fmt he) fun σ H Q h => by
    obtain ⟨ρ, F, lab, sr, m⟩ := h
    refine ⟨ρ, F, lab, sr, Meets.seq (rep2 := RepP X.K X.mg) id sinceP m fun v p ρ1 F1 H1 lab1 mv1 sr1 rp m1 => ?_⟩
    split at m1
    · cases rp
      split at m1
      · rename_i hz
        exact .inl ⟨_, rfl, hz, m1 _ F1 H1 lab1 Move.refl sr1 (Rep.str _)⟩
      · exact m1.elim
    · cases rp
      split at m1
      · rename_i hz
        exact .inr ⟨_, rfl, hz, m1 _ F1 H1 lab1 Move.refl sr1 (Rep.str _)⟩
      · exact m1.elim
    · exact m1.elim
def sJs : List (Env → Out P) → Str → Env → Out P
  | [], acc, ρ => .ok (.v (.str acc)) ρ
  | f :: fs, acc, ρ => (f ρ).bind fun p ρ1 => match p with
    | .v (.str y) => if (acc ++ y).length ≤ sizeLine then sJs fs (acc ++ y) ρ1 else .no
    | _ => .no
/-- the parts -/
inductive DJ (X : Cx) (W : WX) : List Expr → List (Env → Out P) → Prop where
  | nil : DJ X W [] []
  | cons {e : Expr} {f : Env → Out P} {es : List Expr} {fs : List (Env → Out P)} (h : DE X W true e f) (r : DJ X W es fs) : DJ X W (e :: es) (f :: fs)
theorem dj_pj {es : List Expr} {fs : List (Env → Out P)} (h : DJ X W es fs) : PJ X es (fs.map (tD X.K X.mg W true)) := by
  induction h with
  | nil => exact .nil
  | cons h r ih => exact .cons h ih
theorem js_read : ∀ (fs : List (Env → Out P)) (acc : Str) (σ : L2.St) (H : Hp) (Q : VK) (ρ : Env) (F : Hp) (lab : Lab), SR X.K X.mg F H lab σ ρ → Meets X.K X.mg W true F H lab σ (RepP X.K X.mg (New true H lab)) (sJs fs acc ρ) Q →
    tJs (fs.map (tD X.K X.mg W true)) acc σ H fun out H1 => Q (.str out) H1
  | [], acc, σ, H, Q, ρ, F, lab, sr, m => m _ F H lab Move.refl sr (Rep.str _)
  | f :: fs, acc, σ, H, Q, ρ, F, lab, sr, m => by
    refine ⟨ρ, F, lab, sr, Meets.seq (rep2 := RepP X.K X.mg) id sinceP m fun v p ρ1 F1 H1 lab1 mv1 sr1 rp m1 => ?_⟩
    split at m1
    · cases rp
      split at m1
      · rename_i hz
        exact ⟨_, rfl, hz, js_read fs _ σ H1 Q ρ1 F1 lab1 sr1 m1⟩
      · exact m1.elim
    · exact m1.elim
theorem e_fstr {v1 v2 : Expr} {rest : List Expr} {fs : List (Env → Out P)} {pos : Pos} (h : DJ X W (v1 :: v2 :: rest) fs) : DE X W true (.JoinedStr (v1 :: v2 :: rest) pos) (sJs fs Str.empty) :=
  PE_weak (pe_joined (dj_pj h)) fun σ H Q ⟨ρ, F, lab, sr, m⟩ => js_read fs Str.empty σ H Q ρ F lab sr m
/-! ### constants of the module -/
theorem e_glob {x : Str} {v : V} {u : Value} {d : D} {pos : Pos} (hg : Gl X x) (hm : X.mg x = some u) (r : RelV v u) (rp : ∀ F, Rep X.K X.mg F v d) (hd : (x == ("__debug__" : Str)) = false := by decide) : DE X W true (.Name x pos) (sC d) := e_const (pe_glob hg hm r hd) rp
end
end LW

/-! LW14: calls without arguments, pairs stored, enumerate, texts in texts, fields let go, dicts. -/
namespace LW
open PySem PySem.Spec PyProof.Rows L2

section
variable {X : Cx} {W : WX} {q : Bool} {k n : Nat} {f : Addr} {fd : FuncData} {ps : List Str} {S : Fn} {x : Str} {p pos : Pos}
theorem e_call0 (G : FnOk X.prog X.w X.K X.mg X.base (L2.CX X.prog X.w) k f fd ps (spF X.K X.mg n S)) (hn : ∀ os, S os ≠ .no → os.length = n) (hr : Room k X.A) (tk : Takes X W) (hg : Gl X x) (hm : X.mg x = some (.ref f)) (hk : PySem.W.keepIn X.K (.ref f) = true) (hb : Binds X.K fd ps [])
    (hdb : (x == ("__debug__" : Str)) = false := by decide) : DE X W true (.Call (.Name x p) [] [] pos) (sCall S sNil) := by
  refine ⟨fun pins s σ H Q I h => ?_⟩
  obtain ⟨ρ, F, lab, sr, m⟩ := h
  refine wpAny_Call_Name_kw (ld_glob I hg hm ?_ hdb)
  refine PySem.W.callWith_K0 I.kIn hk ?_
  exact run_fnS (E := WE W) G hr hb (passAt tk σ) I .nil (call_read (ds := []) hn sr .nil m)
end

/-! ### a, b = x, y -/
def sPar (i j : Nat) (g : Env → Out (List D)) (ρ : Env) : Flow := flow (g ρ) fun ds ρ1 => match ds with
  | [a, b] => .next ((ρ1.set i (some (.v a))).set j (some (.v b)))
  | _ => .no
section
variable {X : Cx} {W : WX} {q : Bool} {ks : List Nat}
theorem s_par {i j : Nat} {x y : Str} {a b : Expr} {g : Env → Out (List D)} {px py pt pos : Pos} {kt k2 : Nat} {pt2 : Pos} (hc : X.calm = true) (hN : X.N.Nodup) (hi : X.N[i]? = some x) (hj : X.N[j]? = some y) (hij : i ≠ j) (hki : i ∉ ks) (hkj : j ∉ ks)
    (hx : X.env.scope.names.lookup x = some .local) (hy : X.env.scope.names.lookup y = some .local) (ha : DA X W q [a, b] g)
    (hw : swappedStores [.Tuple [.Name x px, .Name y py] kt pt] (.Tuple [a, b] k2 pt2) X.env = pure (some [x, y]))
    (hs : swapsWithSole [.Tuple [.Name x px, .Name y py] kt pt] (.Tuple [a, b] k2 pt2) pos.line X.env = pure false := by rfl) :
    DS X W ks (.Assign [.Tuple [.Name x px, .Name y py] kt pt] (.Tuple [a, b] k2 pt2) pos) (sPar i j g) := by
  refine PS_weak (ps_par hc hN hi hj hij hx hy ha hw hs) fun D σ H h => ?_
  obtain ⟨ρ, F, lab, sr, m⟩ := h
  refine ⟨ρ, F, lab, sr, SMeets.expr m fun xs ds ρ1 F1 H1 lab1 mv1 sr1 rw m1 => ?_⟩
  split at m1
  · cases rw with
    | cons r1 rr =>
      cases rr with
      | cons r2 rr =>
        cases rr
        exact ⟨_, _, rfl, m1 _ F1 H1 lab1 Move.refl (sr_putv (sr_putv sr1 r1) r2) ((Keep.set hki).trans (Keep.set hkj))⟩
  · exact m1.elim
end

/-! ### enumerate -/
def enumD (ds : List D) : List D := ds.zipIdx.map fun p => .tup [.int (p.2 : Nat), p.1]
theorem enumD_len (ds : List D) : (enumD ds).length = ds.length := by simp [enumD]
theorem enumD_get {ds : List D} {i : Nat} {d : D} (h : ds[i]? = some d) : (enumD ds)[i]? = some (.tup [.int (i : Nat), d]) := by
  simp [enumD, h]
def hEnum (f : Env → Out P) (ρ : Env) : Out (List D) := (sFz f ρ).bind fun p ρ1 => match p with
  | .v (.lst ds) => if ds.length ≤ sizeLine then .ok (enumD ds) ρ1 else .no
  | _ => .no
section
variable {X : Cx} {W : WX} {q : Bool} {e : Expr} {f : Env → Out P} {elts : List Expr} {kk : Nat} {tpos p pos : Pos}
theorem i_enum (hg : Gl X "enumerate") (hm : X.mg "enumerate" = none) (ha : DE X W q e f) (hs : starEach [e] X.env = [(false, eval e X.env)] := by rfl) :
    DI X W q (.Tuple elts kk tpos) (.Call (.Name "enumerate" p) [e] [] pos) (hEnum f) := by
  refine PI_weak (pi_enum hg hm (pa_cons (e_fz ha) pa_nil hs) hs) fun σ H R h => ?_
  obtain ⟨ρ, F, lab, sr, m⟩ := h
  refine ⟨ρ, F, lab, sr, Meets.seq (rep2 := fun _ F' _ _ J ds => Walks X.K X.mg F' J ds ∧ ds.length ≤ sizeLine) id (fun _ _ _ _ _ _ _ _ r => r) m fun v p ρ1 F1 H1 lab1 mv1 sr1 rp m1 => ?_⟩
  split at m1
  · rename_i ds
    split at m1
    case isFalse => exact m1.elim
    rename_i hz
    cases rp with
    | lst hq rs =>
      rename_i a xs
      refine ⟨a, xs, rfl, SqL_le sr1.bas.le hq, tail_of m1 sr1 (fun F' H' l1 l2 => ?_) (by rw [enumD_len]; exact hz)⟩
      have hs : SqL X.K H' a xs := SqL_le (l1.trans l2) hq
      refine ⟨fun i hi => ⟨xs, hs, by rw [rs.length]; rw [enumD_len] at hi; exact hi⟩, fun i d e => ?_⟩
      have hi : i < ds.length := by
        have := (List.getElem?_eq_some_iff.mp e).1
        rwa [enumD_len] at this
      have hd : ds[i]? = some ds[i] := List.getElem?_eq_getElem hi
      rw [enumD_get hd] at e
      cases e
      obtain ⟨x, hx, rx⟩ := rs.get hd
      refine ⟨⟨xs, x, hs, hx⟩, fun y H'' hy => ?_⟩
      obtain ⟨T, x', rfl, hT, rfl, hx'⟩ := hy
      have e2 := hx' xs hs
      rw [hx] at e2; cases e2
      have gr := Grow.new (o := .tup [.int (i : Nat), x]) l2 hT
      exact ⟨_, gr, .tup upd_same (.cons (.int _) (.cons (rx.mono (l1.trans gr.ff)) .nil))⟩
  · exact m1.elim
end

/-! ### keys -/
mutual
def D.keq : D → D → Bool
  | .int a, .int b => a == b
  | .str a, .str b => a == b
  | .tup a, .tup b => keqL a b
  | _, _ => false
def keqL : List D → List D → Bool
  | [], [] => true
  | a :: r, b :: s => a.keq b && keqL r s
  | _, _ => false
end
theorem keq_key (a b : Key) : (keyD a).keq (keyD b) = decide (a = b) := by
  cases a <;> cases b <;> simp [keyD, D.keq] <;> rfl
theorem keqL_key : ∀ a b : List Key, keqL (a.map keyD) (b.map keyD) = decide (a = b)
  | [], [] => rfl
  | [], b :: s => rfl
  | a :: r, [] => rfl
  | a :: r, b :: s => by
    simp only [List.map_cons, keqL, keq_key, keqL_key r s]
    by_cases h1 : a = b <;> by_cases h2 : r = s <;> simp [h1, h2]
def D.key? : D → Option Key
  | .int i => some (.inl i)
  | .str s => some (.inr s)
  | _ => none
def keysOf : List D → Option (List Key)
  | [] => some []
  | d :: r => match d.key?, keysOf r with
    | some k, some ks => some (k :: ks)
    | _, _ => none
theorem key_D {d : D} {k : Key} (h : d.key? = some k) : d = keyD k := by
  cases d <;> simp only [D.key?] at h <;> cases h <;> rfl
theorem keys_D : ∀ {ds : List D} {ks : List Key}, keysOf ds = some ks → ds = ks.map keyD
  | [], ks, h => by cases h; rfl
  | d :: r, ks, h => by
    unfold keysOf at h
    split at h
    · rename_i k ks' h1 h2
      cases h
      rw [key_D h1, keys_D h2]; rfl
    · cases h
/-- is k a key of a dict of that kind -/
def D.keyAt (t : Bool) (k : D) : Bool := match t, k with
  | false, k => k.key?.isSome
  | true, .tup ds => (keysOf ds).isSome
  | true, _ => false
def lookK (k : D) : List (D × D) → Option D
  | [] => none
  | (n, d) :: r => if n.keq k = true then some d else lookK k r
def hasK (k : D) (ds : List (D × D)) : Bool := ds.any fun kv => kv.1.keq k
def setK (k v : D) (ds : List (D × D)) : List (D × D) := if hasK k ds = true then ds.map (fun kv => if kv.1.keq k = true then (kv.1, v) else kv) else ds ++ [(k, v)]
def delK (k : D) (ds : List (D × D)) : List (D × D) := ds.filter fun kv => !kv.1.keq k
section
variable {K : PySem.W.Frag} {mg : Str → Option Value} {F : Hp}
theorem valK : ∀ {kvs : List (Key × V)} {ds : List (D × D)} (k : Key), RepK K mg F kvs ds → (lookK (keyD k) ds = none → valV kvs k = none) ∧ ∀ d, lookK (keyD k) ds = some d → ∃ v, valV kvs k = some v ∧ Rep K mg F v d
  | _, _, k, .nil => ⟨fun _ => rfl, fun d h => by cases h⟩
  | _, _, k, .cons (n := n) h r => by
    unfold lookK
    rw [keq_key]
    by_cases e : n = k
    · rw [if_pos (by simpa using e)]
      refine And.intro (fun z => nomatch z) (fun d z => ?_)
      cases z
      exact ⟨_, valV_pos e, h⟩
    · rw [if_neg (by simpa using e)]
      obtain ⟨h1, h2⟩ := valK k r
      refine And.intro (fun z => ?_) (fun d z => ?_)
      · rw [valV_neg e]; exact h1 z
      · rw [valV_neg e]; exact h2 d z
theorem valT : ∀ {kvs : List (List Key × V)} {ds : List (D × D)} (k : List Key), RepT K mg F kvs ds → (lookK (.tup (k.map keyD)) ds = none → valV kvs k = none) ∧ ∀ d, lookK (.tup (k.map keyD)) ds = some d → ∃ v, valV kvs k = some v ∧ Rep K mg F v d
  | _, _, k, .nil => ⟨fun _ => rfl, fun d h => by cases h⟩
  | _, _, k, .cons (n := n) h r => by
    unfold lookK
    rw [D.keq, keqL_key]
    by_cases e : n = k
    · rw [if_pos (by simpa using e)]
      refine And.intro (fun z => nomatch z) (fun d z => ?_)
      cases z
      exact ⟨_, valV_pos e, h⟩
    · rw [if_neg (by simpa using e)]
      obtain ⟨h1, h2⟩ := valT k r
      refine And.intro (fun z => ?_) (fun d z => ?_)
      · rw [valV_neg e]; exact h1 z
      · rw [valV_neg e]; exact h2 d z
theorem hasK_K : ∀ {kvs : List (Key × V)} {ds : List (D × D)} (k : Key), RepK K mg F kvs ds → hasK (keyD k) ds = kvs.any fun kv => decide (kv.1 = k)
  | _, _, k, .nil => rfl
  | _, _, k, .cons (n := n) h r => by
    have ih := hasK_K k r
    unfold hasK at ih ⊢
    rw [List.any_cons, List.any_cons, ih, keq_key]
theorem hasK_T : ∀ {kvs : List (List Key × V)} {ds : List (D × D)} (k : List Key), RepT K mg F kvs ds → hasK (.tup (k.map keyD)) ds = kvs.any fun kv => decide (kv.1 = k)
  | _, _, k, .nil => rfl
  | _, _, k, .cons (n := n) h r => by
    have ih := hasK_T k r
    unfold hasK at ih ⊢
    rw [List.any_cons, List.any_cons, ih, D.keq, keqL_key]
theorem RepK.snoc : ∀ {kvs : List (Key × V)} {ds : List (D × D)} {k : Key} {v : V} {d : D}, RepK K mg F kvs ds → Rep K mg F v d → RepK K mg F (kvs ++ [(k, v)]) (ds ++ [(keyD k, d)])
  | _, _, _, _, _, .nil, h => .cons h .nil
  | _, _, _, _, _, .cons h' r, h => .cons h' (r.snoc h)
theorem RepT.snoc : ∀ {kvs : List (List Key × V)} {ds : List (D × D)} {k : List Key} {v : V} {d : D}, RepT K mg F kvs ds → Rep K mg F v d → RepT K mg F (kvs ++ [(k, v)]) (ds ++ [(.tup (k.map keyD), d)])
  | _, _, _, _, _, .nil, h => .cons h .nil
  | _, _, _, _, _, .cons h' r, h => .cons h' (r.snoc h)
theorem RepK.repl : ∀ {kvs : List (Key × V)} {ds : List (D × D)} {k : Key} {v : V} {d : D}, RepK K mg F kvs ds → Rep K mg F v d →
    RepK K mg F (kvs.map fun kv => if kv.1 = k then (kv.1, v) else kv) (ds.map fun kv => if kv.1.keq (keyD k) = true then (kv.1, d) else kv)
  | _, _, _, _, _, .nil, _ => .nil
  | _, _, k, v, d, .cons (n := n) h' r, h => by
    have ih := RepK.repl (k := k) r h
    simp only [List.map_cons, keq_key]
    by_cases e : n = k
    · rw [if_pos e, if_pos (by simpa using e)]; exact .cons h ih
    · rw [if_neg e, if_neg (by simpa using e)]; exact .cons h' ih
theorem RepT.repl : ∀ {kvs : List (List Key × V)} {ds : List (D × D)} {k : List Key} {v : V} {d : D}, RepT K mg F kvs ds → Rep K mg F v d →
    RepT K mg F (kvs.map fun kv => if kv.1 = k then (kv.1, v) else kv) (ds.map fun kv => if kv.1.keq (.tup (k.map keyD)) = true then (kv.1, d) else kv)
  | _, _, _, _, _, .nil, _ => .nil
  | _, _, k, v, d, .cons (n := n) h' r, h => by
    have ih := RepT.repl (k := k) r h
    simp only [List.map_cons, D.keq, keqL_key]
    by_cases e : n = k
    · rw [if_pos e, if_pos (by simpa using e)]; exact .cons h ih
    · rw [if_neg e, if_neg (by simpa using e)]; exact .cons h' ih
theorem RepK.put {kvs : List (Key × V)} {ds : List (D × D)} {k : Key} {v : V} {d : D} (r : RepK K mg F kvs ds) (h : Rep K mg F v d) : RepK K mg F (putK kvs k v) (setK (keyD k) d ds) := by
  unfold putK setK
  rw [hasK_K k r]
  split
  · exact r.repl h
  · exact r.snoc h
theorem RepT.put {kvs : List (List Key × V)} {ds : List (D × D)} {k : List Key} {v : V} {d : D} (r : RepT K mg F kvs ds) (h : Rep K mg F v d) : RepT K mg F (putK kvs k v) (setK (.tup (k.map keyD)) d ds) := by
  unfold putK setK
  rw [hasK_T k r]
  split
  · exact r.repl h
  · exact r.snoc h
theorem RepK.drop {k : Key} : ∀ {kvs : List (Key × V)} {ds : List (D × D)}, RepK K mg F kvs ds → RepK K mg F (dropK kvs k) (delK (keyD k) ds)
  | _, _, .nil => .nil
  | _, _, .cons (n := n) h r => by
    have ih := r.drop (k := k)
    unfold dropK delK at ih ⊢
    rw [List.filter_cons, List.filter_cons]
    simp only [keq_key] at ih ⊢
    by_cases e : n = k
    · simp [e]; simpa using ih
    · simp [e]; exact .cons h (by simpa using ih)
theorem RepK.len : ∀ {kvs : List (Key × V)} {ds : List (D × D)}, RepK K mg F kvs ds → kvs.length = ds.length
  | _, _, .nil => rfl
  | _, _, .cons _ r => congrArg (· + 1) r.len
theorem RepT.len : ∀ {kvs : List (List Key × V)} {ds : List (D × D)}, RepT K mg F kvs ds → kvs.length = ds.length
  | _, _, .nil => rfl
  | _, _, .cons _ r => congrArg (· + 1) r.len
theorem RepL.keys : ∀ {xs : List V} {ks : List Key}, RepL K mg F xs (ks.map keyD) → xs = ks.map kV
  | _, [], .nil => rfl
  | _, k :: r, .cons h t => by
    rw [t.keys]
    cases k <;> (cases h; rfl)
theorem Rep.key {v : V} {k : Key} (h : Rep K mg F v (keyD k)) : v = kV k := by cases k <;> (cases h; rfl)
theorem RepS.key {H : Hp} {v : V} {k : Key} (h : RepS K mg F H v (keyD k)) : v = kV k := by
  cases k <;> (cases h with | v h => cases h; rfl)
/-- what a dict holds at a key -/
theorem dget {H : Hp} (l : Le F H) {a v : V} {t : Bool} {ds : List (D × D)} {k : D} (ra : RepS K mg F H a (.dct t ds)) (rk : RepS K mg F H v k) (hk : k.keyAt t = true) :
    ∃ c, a = .ref c ∧ IsD H c ∧ ((lookK k ds = none → DGet H c v none) ∧ ∀ d, lookK k ds = some d → ∃ x, DGet H c v (some x) ∧ Rep K mg F x d) := by
  have go1 : ∀ {c : Addr} {kvs : List (Key × V)} {ds : List (D × D)} {k : D}, H c = some (.dK kvs) → RepK K mg F kvs ds → k.keyAt false = true → RepS K mg F H v k →
      (lookK k ds = none → DGet H c v none) ∧ ∀ d, lookK k ds = some d → ∃ x, DGet H c v (some x) ∧ Rep K mg F x d := fun {c kvs ds k} hc r hk rk => by
    have hk : k.key?.isSome = true := hk
    cases hkk : k.key? with
    | none => rw [hkk] at hk; cases hk
    | some kk =>
      have e := key_D hkk
      subst e
      obtain ⟨h1, h2⟩ := valK kk r
      have ev := rk.key
      subst ev
      refine ⟨fun z => ?_, fun d z => ?_⟩
      · have := DGet.k (k := kk) hc; rw [h1 z] at this; exact this
      · obtain ⟨x, e1, e2⟩ := h2 d z
        have := DGet.k (k := kk) hc; rw [e1] at this; exact ⟨x, this, e2⟩
  have go2 : ∀ {c : Addr} {kvs : List (List Key × V)} {ds : List (D × D)} {k : D}, H c = some (.dT kvs) → RepT K mg F kvs ds → k.keyAt true = true → RepS K mg F H v k →
      (lookK k ds = none → DGet H c v none) ∧ ∀ d, lookK k ds = some d → ∃ x, DGet H c v (some x) ∧ Rep K mg F x d := fun {c kvs ds k} hc r hk rk => by
    cases k with
    | tup es =>
      have hk' : (keysOf es).isSome = true := hk
      cases hkk : keysOf es with
      | none => rw [hkk] at hk'; cases hk'
      | some kk =>
        have e := keys_D hkk
        subst e
        obtain ⟨h1, h2⟩ := valT kk r
        cases rk with
        | v rk =>
          cases rk with
          | tup ht rl =>
            rename_i b xs
            have ex := rl.keys
            subst ex
            have hb : H b = some (.tup (kk.map kV)) := l _ _ ht
            refine ⟨fun z => ?_, fun d z => ?_⟩
            · have := DGet.t (k := kk) hc hb; rw [h1 z] at this; exact this
            · obtain ⟨x, e1, e2⟩ := h2 d z
              have := DGet.t (k := kk) hc hb; rw [e1] at this; exact ⟨x, this, e2⟩
    | _ => cases hk
  cases ra with
  | v ra =>
    cases ra with
    | dK h r => exact ⟨_, rfl, .inl ⟨_, .inl (l _ _ h)⟩, go1 (l _ _ h) r hk rk⟩
    | dT h r => exact ⟨_, rfl, .inr ⟨_, .inl (l _ _ h)⟩, go2 (l _ _ h) r hk rk⟩
  | kK h r => exact ⟨_, rfl, .inl ⟨_, .inl h⟩, go1 h r hk rk⟩
  | kT h r => exact ⟨_, rfl, .inr ⟨_, .inl h⟩, go2 h r hk rk⟩
end
/-! ### in, [..], len with dicts and texts -/
def gInB (x y : D) : Option Bool := match y with
  | .str b => (match x with
    | .str a => (match a.cps.toList with
      | [c] => some (decide (c ∈ b.cps.toList))
      | _ => none)
    | _ => none)
  | .dct t kvs => if x.keyAt t = true then some (lookK x kvs).isSome else none
  | y => D.mem x y
def gIn2 (x y : D) : Option P := (gInB x y).map fun k => .v (.bl k)
def gNotIn2 (x y : D) : Option P := (gInB x y).map fun k => .v (.bl (!k))
def gIx2 (x y : D) : Option P := match x with
  | .dct t kvs => if y.keyAt t = true then (lookK y kvs).map P.v else none
  | x => gIx x y
def gLen2 (x : D) : Option P := match x with
  | .dct _ kvs => some (.v (.int kvs.length))
  | x => gLen x
section
variable {X : Cx}
theorem opd_in2 (hu : X.A.units + 64 < cLine) : OpD X (compareOp .In) gIn2 := by
  intro pins s σ H x y v u Q I rx ry ⟨F, lab, dx, dy, p, b, r1, r2, e, k⟩
  unfold gIn2 gInB at e
  split at e
  · split at e
    · split at e
      · rename_i a l c hc
        cases e; cases r1.str; cases r2.str
        have ha : a = ⟨#[c]⟩ := by
          rcases a with ⟨⟨z⟩⟩
          have hc : z = [c] := hc
          subst hc; rfl
        subst ha
        exact op_in_sign pins s σ H _ _ v u Q I rx ry ⟨c, _, rfl, rfl, k.bl b⟩
      · cases e
    · cases e
  · split at e
    · rename_i hk
      cases e
      obtain ⟨c, rfl, _, h1, h2⟩ := dget b.le r2 r1 hk
      cases (show u = Value.ref c from ry)
      cases hl : lookK dx _ with
      | none => rw [hl] at k; exact d_in (by omega) I (h1 hl) rx fun s' I' => ⟨.bl false, H, I', rfl, k.bl b⟩
      | some d =>
        obtain ⟨z, g, _⟩ := h2 d hl
        rw [hl] at k
        exact d_in (by omega) I g rx fun s' I' => ⟨.bl true, H, I', rfl, k.bl b⟩
    · cases e
  · exact opd_in hu pins s σ H x y v u Q I rx ry ⟨F, lab, dx, _, p, b, r1, r2, e, k⟩
theorem opd_notIn2 (hu : X.A.units + 64 < cLine) : OpD X (compareOp .NotIn) gNotIn2 := by
  intro pins s σ H x y v u Q I rx ry ⟨F, lab, dx, dy, p, b, r1, r2, e, k⟩
  unfold gNotIn2 gInB at e
  split at e
  · split at e
    · split at e
      · rename_i a l c hc
        cases e; cases r1.str; cases r2.str
        have ha : a = ⟨#[c]⟩ := by
          rcases a with ⟨⟨z⟩⟩
          have hc : z = [c] := hc
          subst hc; rfl
        subst ha
        exact op_notIn_sign pins s σ H _ _ v u Q I rx ry ⟨c, _, rfl, rfl, k.bl b⟩
      · cases e
    · cases e
  · split at e
    · rename_i hk
      cases e
      obtain ⟨c, rfl, _, h1, h2⟩ := dget b.le r2 r1 hk
      cases (show u = Value.ref c from ry)
      cases hl : lookK dx _ with
      | none => rw [hl] at k; exact d_notIn (by omega) I (h1 hl) rx fun s' I' => ⟨.bl true, H, I', rfl, k.bl b⟩
      | some d =>
        obtain ⟨z, g, _⟩ := h2 d hl
        rw [hl] at k
        exact d_notIn (by omega) I g rx fun s' I' => ⟨.bl false, H, I', rfl, k.bl b⟩
    · cases e
  · exact opd_notIn hu pins s σ H x y v u Q I rx ry ⟨F, lab, dx, _, p, b, r1, r2, e, k⟩
theorem ixd_2 (hu : X.A.units + 64 < cLine) : IxD X gIx2 := by
  intro value slice pins s σ H x y v u Q I rx ry ⟨F, lab, dx, dy, p, b, r1, r2, e, k⟩ hs
  unfold gIx2 at e
  split at e
  · split at e
    · rename_i hk
      obtain ⟨c, rfl, _, h1, h2⟩ := dget b.le r1 r2 hk
      cases (show v = Value.ref c from rx)
      cases hl : lookK dy _ with
      | none => rw [hl] at e; cases e
      | some d =>
        rw [hl] at e; cases e
        obtain ⟨z, g, rz⟩ := h2 d hl
        have hT := dict_typeIs I g
        unfold subscriptTail
        refine wpAny_bind ?_
        rw [getitemInPython_of_ne hT.not_modules]
        refine wpAny_bind (wpAny_specialOf hT PySem.F.slot_dict_getitem.lookup ?_)
        have fin : wpAny (model X.prog X.w) X.A (subscripted slice false (.ref c) u) (fun r s₃ => wpAny (model X.prog X.w) X.A (letTemporaryGo value (.ref c) r >>= fun _ => pure r) (EP X pins σ Q) X.xe s₃) X.xe s := by
          rw [hs]
          exact wpAny_operating (wpAny_mono (d_getItem (Q := fun r s₃ => EP X pins σ Q r s₃) (by omega) I g ry fun w' s' I' rw' => ⟨z, H, I', rw', k.same b rz⟩) (fun r s₃ h₃ => wpAny_bind (wpAny_letTemporaryGo (wpAny_pure h₃))) fun _ _ x => x)
        first
          | exact wpAny_pure (wpAny_bind fin)
          | exact wpAny_bind (wpAny_pure (wpAny_bind fin))
          | exact wpAny_bind fin
    · cases e
  · exact ixd_seq value slice pins s σ H x y v u Q I rx ry ⟨F, lab, _, dy, p, b, r1, r2, e, k⟩ hs
theorem cd_len2 : CallD X (.builtin "len") gLen2 := by
  intro pins s σ H xs us Q I r ⟨F, lab, x, dx, p, hx, b, r1, e, k⟩
  unfold gLen2 at e
  split at e
  · subst hx
    cases e
    obtain ⟨u, rfl, rx⟩ := vals1 r
    cases r1 with
    | v ra =>
      cases ra with
      | dK h r' =>
        obtain rfl : u = .ref _ := rx
        rw [← RepK.len r'] at k
        exact d_len I (.inl (b.le _ _ h)) fun t s' I' => ⟨.int _, H, I', ⟨t, rfl⟩, k.int b⟩
      | dT h r' => exact call_len_dT pins s σ H _ _ Q I r ⟨_, _, rfl, b.le _ _ h, by rw [RepT.len r']; exact k.int b⟩
    | kK h r' =>
      obtain rfl : u = .ref _ := rx
      rw [← RepK.len r'] at k
      exact d_len I (.inl h) fun t s' I' => ⟨.int _, H, I', ⟨t, rfl⟩, k.int b⟩
    | kT h r' => exact call_len_dT pins s σ H _ _ Q I r ⟨_, _, rfl, h, by rw [RepT.len r']; exact k.int b⟩
  · exact cd_len pins s σ H xs us Q I r ⟨F, lab, x, _, p, hx, b, r1, e, k⟩
end
end LW

/-! LW15: dict comprehensions. -/
namespace LW
open PySem PySem.Spec PyProof.Rows L2

/-- how a dict of one kind of keys stands in the heap -/
structure DKind where
  κ : Type
  ob : List (κ × V) → HO
  put : List (κ × V) → κ → V → List (κ × V)
  key : Hp → V → κ → Prop
  empty : ∀ {P : Program} {w : World} {H : Hp} (h : Heap), sysModules < h.objs.size → ObjOk P w H (h.push { cls := .type "dict", data := .dict #[] }) h.objs.size (ob [])
  set : ∀ {X : Cx} {pins : List (Addr × Obj)} {σ : L2.St} {H : Hp} {s : Shared} {E : Value → Shared → Prop} {D0 : Addr} {kvs : List (κ × V)} {k : κ} {y v : V} {u r : Value} {Q : Unit → Shared → Prop}, X.A.units + 64 < cLine → Inv X pins σ H s → H D0 = some (ob kvs) → kvs.length < sizeLine →
    key H y k → RelV y u → RelV v r → (∀ s', Inv X pins σ (upd H D0 (ob (put kvs k v))) s' → Q () s') → wpAny (model X.prog X.w) X.A (dictSet D0 u r) Q E s
def kindK : DKind where
  κ := Key
  ob := .dK
  put := putK
  key := fun _ y k => y = kV k
  empty := dk_empty
  set := fun hu I hD hz hk ry rv h => by subst hk; exact d_dictSet I hD hz ry rv h
def kindT : DKind where
  κ := List Key
  ob := .dT
  put := putK
  key := fun H y k => ∃ b, y = .ref b ∧ H b = some (.tup (k.map kV))
  empty := dt_empty
  set := fun {X pins σ H s E D0 kvs k y v u r Q} hu I e l hk ry rv h => by
    obtain ⟨b, rfl, eb⟩ := hk
    cases (show u = Value.ref b from ry)
    obtain ⟨z, hd, xs, rel, dd⟩ := dt_of I.hok e
    have hz : xs.length ≤ sizeLine := by rw [← Paired.length rel]; exact z
    have hl : (putK kvs k v).length ≤ sizeLine := by have := length_putK kvs k v; omega
    refine wpAny_dictSet_heap (hsz := hz) (show (tupleKind (mixKind X.prog X.w)).room X.A from (show X.A.units < cLine by omega)) (key_of I.hok eb) dd fun h' dd' hs => h _ ?_
    obtain ⟨q, es, ep, hq, h2, h3, h4, _, h5⟩ := dd'
    refine d_write I (by rw [e]; exact True.intro) hs ⟨q, hq⟩ ⟨hl, hd, _, (rel.put k eb rv).keeps fun c ys ec => ?_, q, es, ep, hq, h2, h3, h4, h5⟩
    rw [upd_ne (ne_of ec e (fun z => nomatch z))]
    exact ec
section
variable {X : Cx}
/-- {k: v for target in iter if ..}: the walk -/
def tDcG (kd : DKind) (wi : TI) (g : TG) (tt : TT) (tk tv : TE) (vs : List Nat) : TE := fun σ H Q => wi σ H fun J H1 => ∀ D0, H1 D0 = none → ∃ W : Nat → Nat → Hp → Prop, (∃ m, W 0 m (upd H1 D0 (kd.ob []))) ∧ ∀ i m H, W i m H →
  (J.stop i H ∧ Q (.ref D0) H) ∨ (J.go i H ∧ ∃ Nx : Hp → Prop, (∀ H', Nx H' → ∃ m', m' < m ∧ W (i + 1) m' H') ∧ ∀ x H', J.yld i H x H' → g x (L2.wipe σ vs) H' fun σ2 H2 => L2.wipe σ2 vs = L2.wipe σ vs ∧ tt σ2 H2 fun b H3 =>
    if b = true then tk σ2 H3 fun y H4 => tv σ2 H4 fun z H5 => ∃ kvs k, kd.key H5 y k ∧ H5 D0 = some (kd.ob kvs) ∧ kvs.length < sizeLine ∧ Nx (upd H5 D0 (kd.ob (kd.put kvs k z))) else Nx H3)
theorem pe_dcG (kd : DKind) {kx vx tg iter : Expr} {ifs : List Expr} {scope : Scope} {own : List (Str × Nat)} {pos : Pos} {wi : TI} {g : TG} {tt : TT} {tk tv : TE}
    (hc : X.calm = true) (hN : X.N.Nodup) (hu : X.A.units + 64 < cLine) (hi : PI X tg iter wi) (ok : BlkOk X.N X.env.scope scope own)
    (hg : ∀ (s : Shared) (H : Hp) (C : Addr) (cl : List (Str × Addr)) (fp : List Addr), PG (X.blk s H scope (compEnvC scope cl C X.env) fp) tg g) (ht : ∀ (s : Shared) (H : Hp) (C : Addr) (cl : List (Str × Addr)) (fp : List Addr), PTs (X.blk s H scope (compEnvC scope cl C X.env) fp) ifs tt)
    (hk : ∀ (s : Shared) (H : Hp) (C : Addr) (cl : List (Str × Addr)) (fp : List Addr), PE (X.blk s H scope (compEnvC scope cl C X.env) fp) kx tk)
    (he : ∀ (s : Shared) (H : Hp) (C : Addr) (cl : List (Str × Addr)) (fp : List Addr), PE (X.blk s H scope (compEnvC scope cl C X.env) fp) vx tv) (hs : ∀ x, foldedSetIterable iter X.env x = pure x := by intro _; rfl) :
    PE X (.DictComp kx vx [⟨tg, iter, ifs, 0⟩] scope pos) (tDcG kd wi g tt tk tv (own.map (·.2))) := by
  refine ⟨fun pins s σ H Q I h => ?_⟩
  rw [arm_eval_DictComp]
  have hfree : ∀ y ∈ scope.names, y.2 = .free → ∃ c, X.env.cells.lookup y.1 = some c := fun y hy e => (ok.free y hy e).elim (fun k => I.ok.has _ (.inl k)) fun k => I.ok.has _ (.inr k)
  refine wpAny_comprehension_free rfl hs (closure_ok hfree) ok.kind (fun y hy e => by rw [ok.uniq y hy, e])
    (thn (hi.run pins s σ H _ I h) fun xv s1 hx => thn hx fun itv s2 ⟨it, fp, tn, J, H2, e, I2, T, st2, f2, q⟩ => ?_)
  subst e
  refine wpAny_newObj_type (newEnv_comp ?_)
  have hDn : H2 s2.heap.objs.size = none := I2.hok.fresh (Nat.le_refl _)
  obtain ⟨W, ⟨m0, w0⟩, turn⟩ := q _ hDn
  generalize hs3 : ({ s2 with heap := s2.heap.push { cls := .type "dict", data := .dict #[] } } : Shared) = s3
  have h3 : s3.heap = s2.heap.push { cls := .type "dict", data := .dict #[] } := by rw [← hs3]
  have I3 : Inv X pins σ (upd H2 s2.heap.objs.size (kd.ob [])) s3 := by
    rw [← hs3]
    exact I2.laid (t' := s2.toks) (fun b o e => Heap.get?_push_of_some _ e) (Nat.le_refl _) (kd.empty s2.heap I2.big)
  generalize hD : s2.heap.objs.size = D0 at *
  generalize hH3 : upd H2 D0 (kd.ob []) = H3 at *
  have f3 : ∀ b ∈ fp, FpOk X pins H3 b ∧ b < s3.heap.objs.size := fun b hb => by
    have hlt : b < D0 := by
      obtain ⟨o, e, _⟩ := T.obj _ _ st2 b hb
      rw [← hD]; exact Heap.lt_size e
    refine ⟨⟨?_, (f2 b hb).2⟩, by rw [h3, Heap.size_push, hD]; exact Nat.lt_succ_of_lt hlt⟩
    rw [← hH3, upd_ne (Nat.ne_of_lt hlt)]
    exact (f2 b hb).1
  have I4 := block_start I3 ok hN f3
  have pg := hg s3 H3 s3.heap.objs.size (cellsFrom (s3.heap.objs.size + 1) scope.names (cloFrom X.env.cells scope.names [])) fp
  have pt := ht s3 H3 s3.heap.objs.size (cellsFrom (s3.heap.objs.size + 1) scope.names (cloFrom X.env.cells scope.names [])) fp
  have pk := hk s3 H3 s3.heap.objs.size (cellsFrom (s3.heap.objs.size + 1) scope.names (cloFrom X.env.cells scope.names [])) fp
  have pe := he s3 H3 s3.heap.objs.size (cellsFrom (s3.heap.objs.size + 1) scope.names (cloFrom X.env.cells scope.names [])) fp
  show codeAny _ _ (.compStart (.DictComp kx vx [⟨tg, iter, ifs, 0⟩] scope pos) 0 (.ref it) (.ref D0) (compEnvC scope (cellsFrom (s3.heap.objs.size + 1) scope.names (cloFrom X.env.cells scope.names [])) s3.heap.objs.size X.env)) (compPost (model X.prog X.w) X.A X.xe none (EP X pins σ Q) (.ref D0) s3.heap.objs.size) { s3 with heap := pushCells (s3.heap.push { cls := .type "dict", data := .dict #[] }) scope.names }
  generalize hce : compEnvC scope (cellsFrom (s3.heap.objs.size + 1) scope.names (cloFrom X.env.cells scope.names [])) s3.heap.objs.size X.env = ce at I4 pg pt pk pe ⊢
  have cL : ce.locals = s3.heap.objs.size := by subst hce; rfl
  generalize hs4 : ({ s3 with heap := pushCells (s3.heap.push { cls := .type "dict", data := .dict #[] }) scope.names } : Shared) = s4 at I4 ⊢
  have st4 : tn 0 s4.heap := T.keep _ _ _ st2 fun b _ o e => by
    rw [← hs4]
    exact pushCells_keeps _ _ _ _ (Heap.get?_push_of_some _ (by rw [h3]; exact Heap.get?_push_of_some _ e))
  have stat : ∀ {σ' : L2.St} {H' : Hp} {s' : Shared}, Inv (X.blk s3 H3 scope ce fp) [] σ' H' s' → (∀ b ∈ fp, H' b = none) → ∀ b ∈ fp, FpOk (X.blk s3 H3 scope ce fp) [] H' b := fun {σ' H' s'} I' hn b hb =>
    ⟨hn b hb, (I'.ok.exf b hb).1, I'.ok.exfs b hb, .inl hb, fun x c e => (I'.ok.exf b hb).2 x c e, fun p hp => absurd (show p ∈ ([] : List (Addr × Obj)) ++ [] from hp) (by simp)⟩
  refine codeAny_compStart_dict ?lp (T.self X.A 0 _ _ _ st4 ?lp)
  refine compLoop_anyD (fun n s' => ∃ i H', Inv (X.blk s3 H3 scope ce fp) [] (L2.wipe σ (own.map (·.2))) H' s' ∧ tn i s'.heap ∧ (∀ b ∈ fp, H' b = none) ∧ W i n H') ?_ m0 ⟨0, H3, I4, st4, fun b hb => (f3 b hb).1.1, w0⟩
  rintro n s5 ⟨i, H5, I5, st5, n5, w5⟩
  rcases turn i n H5 w5 with ⟨stop, qq⟩ | ⟨go, Nx, hNx, step⟩
  · have td := T.done (X.blk s3 H3 scope ce fp) rfl rfl rfl hc i [] s5 _ H5 (fun _ _ => False) I5 (stat I5 n5) st5 stop
    refine thnF td fun r s6 ⟨hr, I6⟩ => ?_
    subst hr
    have I7 : Inv X pins σ H5 s6 := I3.call' (ch := fp) I6.os I6.base I6.hok I6.bare fun b hb => ⟨(f3 b hb).1.2.2.2.1, (f3 b hb).1.2.1, (f3 b hb).1.2.2.2.2.1, (f3 b hb).1.2.2.2.2.2⟩
    have nC : H5 s3.heap.objs.size = none := by
      have z : H5 ce.locals = none := I6.free
      rwa [cL] at z
    obtain ⟨m, hn, _⟩ := I6.loc
    have hn : s6.heap.Ns ce.locals m := hn
    rw [cL] at hn
    refine ⟨m, hn, fun h'' sb => ?_⟩
    obtain ⟨f0, f1, f2, f3, f4, f5⟩ := I3.fpOk (Nat.le_refl _) nC
    exact ⟨.ref D0, H5, I7.turned (t' := s6.toks) (fun b o hb e => (sb.2 b hb).trans e) f0 f1 f3 f4 f5, rfl, qq⟩
  · have ti := T.item (X.blk s3 H3 scope ce fp) rfl rfl rfl hc i [] s5 _ H5 (fun _ _ => False) I5 (stat I5 n5) st5 go
    refine thnF ti fun r s6 ⟨u, hr, h6⟩ => ?_
    subst hr
    refine thnF h6 fun _ s7 ⟨x, H7, I7, r7, y7, st7, n7⟩ => ?_
    refine thnF (pg.run _ s7 _ H7 x u _ (I7.pinned (stat I7 n7) (T.obj _ _ st7)) r7 (step x H7 y7)) fun _ s8 ⟨σ8, H8, I8, hw8, q8⟩ => ?_
    refine thnF (pt.run _ s8 σ8 H8 _ I8 q8) fun b s9 ⟨H9, I9, q9⟩ => ?_
    have fin : ∀ {s' : Shared} {H' : Hp}, Inv (X.blk s3 H3 scope ce fp) ([] ++ pinsAt fp s7.heap) σ8 H' s' → Nx H' → ∃ m, m < n ∧ ∃ i H', Inv (X.blk s3 H3 scope ce fp) [] (L2.wipe σ (own.map (·.2))) H' s' ∧ tn i s'.heap ∧ (∀ b ∈ fp, H' b = none) ∧ W i m H' := fun {s' H'} I' nx => by
      obtain ⟨m', hm, w'⟩ := hNx H' nx
      have pin' : ∀ b ∈ fp, ∀ o, s7.heap.get? b = some o → s'.heap.get? b = some o ∧ H' b = none := fun b hb o e =>
        let z := I'.pin (b, o) (List.mem_append_right _ (List.mem_append_right _ (mem_pinsAt hb e)))
        ⟨z.1, z.2.1⟩
      refine ⟨m', hm, i + 1, H', (I'.unpinned (pins := [])).weak (by rw [← hw8, L2.wipe_length]) (fun j v e => ?_), T.keep _ _ _ st7 fun b hb o e => (pin' b hb o e).1, fun b hb => ?_, w'⟩
      · rw [← hw8] at e
        exact (L2.wipe_some e).1
      · obtain ⟨o, e, _⟩ := T.obj _ _ st7 b hb
        exact (pin' b hb o e).2
    cases b with
    | false =>
      simp only [Bool.false_eq_true, if_false] at q9 ⊢
      exact fin I9 q9
    | true =>
      simp only [if_true] at q9 ⊢
      refine thnF (pk.run _ s9 σ8 H9 _ I9 q9) fun z s10 ⟨yk, H10, I10, r10, q10⟩ => ?_
      refine thnF (pe.run _ s10 σ8 H10 _ I10 q10) fun z2 s11 ⟨yv, H11, I11, r11, kvs, k, ek, hD11, hz11, nx⟩ => ?_
      exact kd.set (X := X.blk s3 H3 scope ce fp) hu I11 hD11 hz11 ek r10 r11 fun s12 I12 => fin I12 nx
end

/-! ### by data -/
structure DRep (K : PySem.W.Frag) (mg : Str → Option Value) (t : Bool) (kd : DKind) where
  rep : Hp → List (kd.κ × V) → List (D × D) → Prop
  nil : ∀ F, rep F [] []
  mono : ∀ {F F' : Hp} {a : List (kd.κ × V)} {b : List (D × D)}, Le F F' → rep F a b → rep F' a b
  len : ∀ {F : Hp} {a : List (kd.κ × V)} {b : List (D × D)}, rep F a b → a.length = b.length
  key : ∀ {F H : Hp} {v : V} {d : D}, Le F H → Rep K mg F v d → d.keyAt t = true → ∃ k, kd.key H v k ∧ ∀ {kvs : List (kd.κ × V)} {ds : List (D × D)} {x : V} {y : D}, rep F kvs ds → Rep K mg F x y → rep F (kd.put kvs k x) (setK d y ds)
  own : ∀ {F H : Hp} {lab : Lab} {p : List Nat} {a : Addr} {kvs : List (kd.κ × V)} {ds : List (D × D)}, lab a = some p → H a = some (kd.ob kvs) → rep F kvs ds → RepO K mg F H lab p (.ref a) (.k t ds)
def repK (K : PySem.W.Frag) (mg : Str → Option Value) : DRep K mg false kindK where
  rep := fun F a b => RepK K mg F a b
  nil := fun _ => .nil
  mono := fun l r => r.mono l
  len := fun r => r.len
  key := fun {F H v d} l r h => by
    have h : d.key?.isSome = true := h
    cases hk : d.key? with
    | none => rw [hk] at h; cases h
    | some k =>
      have e := key_D hk
      subst e
      exact ⟨k, r.key, fun a b => a.put b⟩
  own := fun h1 h2 r => .kK h1 h2 r
def repT (K : PySem.W.Frag) (mg : Str → Option Value) : DRep K mg true kindT where
  rep := fun F a b => RepT K mg F a b
  nil := fun _ => .nil
  mono := fun l r => r.mono l
  len := fun r => r.len
  key := fun {F H v d} l r h => by
    cases d with
    | tup es =>
      have h : (keysOf es).isSome = true := h
      cases hk : keysOf es with
      | none => rw [hk] at h; cases h
      | some k =>
        have e := keys_D hk
        subst e
        cases r with
        | tup ht rl =>
          have ex := rl.keys
          subst ex
          exact ⟨k, ⟨_, rfl, l _ _ ht⟩, fun a b => a.put b⟩
    | _ => cases h
  own := fun h1 h2 r => .kT h1 h2 r
theorem setK_len (k v : D) (ds : List (D × D)) : (setK k v ds).length ≤ ds.length + 1 := by
  unfold setK
  split <;> simp
def dcL (t : Bool) (own : List Nat) (tg : D → Env → Option Env) (tt : Env → Out Bool) (fk fv : Env → Out P) : List D → List (D × D) → Env → Out (List (D × D))
  | [], acc, ρ => .ok acc ρ
  | d :: r, acc, ρ => match tg d ρ with
    | none => .no
    | some ρ1 => match tt ρ1 with
      | .ok false ρ2 => dcL t own tg tt fk fv r acc (wipeE ρ2 own)
      | .ok true ρ2 => (match sFz fk ρ2 with
        | .ok (.v k) ρ3 => (match sFz fv ρ3 with
          | .ok (.v y) ρ4 => if k.keyAt t = true then dcL t own tg tt fk fv r (setK k y acc) (wipeE ρ4 own) else .no
          | _ => .no)
        | _ => .no)
      | _ => .no
def sDc (t : Bool) (own : List Nat) (h : Env → Out (List D)) (tg : D → Env → Option Env) (tt : Env → Out Bool) (fk fv : Env → Out P) (ρ : Env) : Out P := (h ρ).bind fun ds ρ1 =>
  if ownOk ρ1 own = true then (dcL t own tg tt fk fv ds [] (wipeE ρ1 own)).bind fun acc ρ2 => .ok (.f (.k t acc)) (restE ρ1 ρ2 own) else .no
section
variable {X : Cx} {W : WX} {q qt qk qe : Bool} {kx vx tgt iter c : Expr} {ifs : List Expr} {scope : Scope} {own : List (Str × Nat)} {ks : List Nat} {pos : Pos} {h : Env → Out (List D)} {tg : D → Env → Option Env} {t : Env → Out Bool} {fk fv : Env → Out P} {tb : Bool} {kd : DKind}
theorem dc_read (dr : DRep X.K X.mg tb kd) (ho : ∀ j, j < X.N.length → j ∉ own.map (·.2) → j ∈ ks) {σ : L2.St} {H : Hp} {Q : VK} (hlen : σ.length = X.N.length) (hh : tD X.K X.mg W (q && (qt && (qk && qe))) (sDc tb (own.map (·.2)) h tg t fk fv) σ H Q) :
    tDcG kd (tDI X.K X.mg W q h) (tDG X.K X.mg ks tg) (tDT X.K X.mg WN qt t) (tD X.K X.mg WN qk (sFz fk)) (tD X.K X.mg WN qe (sFz fv)) (own.map (·.2)) σ H Q := by
  obtain ⟨ρ, F, lab, sr, m⟩ := hh
  refine ⟨ρ, F, lab, sr, Meets.seq (rep2 := RepP X.K X.mg) and_l sinceP m fun J ds ρ1 F1 H1 lab1 mv1 sr1 rw m1 => ?_⟩
  obtain ⟨wk, hz⟩ := rw
  split at m1
  case isFalse => exact m1.elim
  rename_i hown
  intro D0 hD
  generalize hR : dcL tb (own.map (·.2)) tg t fk fv ds [] (wipeE ρ1 (own.map (·.2))) = R0 at m1
  have fD : F1 D0 = none := by
    cases e : F1 D0 with
    | none => rfl
    | some u => rw [sr1.bas.le D0 u e] at hD; cases hD
  have lD : lab1 D0 = none := by
    cases e : lab1 D0 with
    | none => rfl
    | some p => exact absurd hD (sr1.bas.lf D0 p e).2
  refine ⟨fun i n H2 => n = ds.length - i ∧ i ≤ ds.length ∧ ∃ acc xs ρ2 F2 lab2, SR X.K X.mg F2 H2 lab2 (L2.wipe σ (own.map (·.2))) ρ2 ∧ Move (q && (qt && (qk && qe))) F1 H1 lab1 F2 H2 lab2 ∧ H2 D0 = some (kd.ob xs) ∧ dr.rep F2 xs acc ∧ F2 D0 = none ∧ lab2 D0 = none ∧ acc.length ≤ i ∧
      dcL tb (own.map (·.2)) tg t fk fv (ds.drop i) acc ρ2 = R0, ⟨ds.length, by omega, by omega, [], [], wipeE ρ1 (own.map (·.2)), F1, lab1, ?_, ?_, upd_same, dr.nil _, fD, lD, Nat.le_refl _, by rw [List.drop_zero]; exact hR⟩, ?_⟩
  · exact sr_grow (sr_wipe sr1 _) fD lD
  · exact (Grow.own sr1.bas.le hD).move
  rintro i n H2 ⟨rfl, hi, acc, xs, ρ2, F2, lab2, sr2, mv2, hx, rx, f2, l2, ha, hR2⟩
  obtain ⟨wstop, wgo⟩ := wk F2 H2 mv2.ff sr2.bas.le
  by_cases hlt : i < ds.length
  · refine .inr ?_
    obtain ⟨go, yl⟩ := wgo i _ (List.getElem?_eq_getElem hlt)
    rw [List.drop_eq_getElem_cons hlt] at hR2
    unfold dcL at hR2
    have next : ∀ acc' xs' ρ4 F4 H4 lab4 σ4, SR X.K X.mg F4 H4 lab4 σ4 ρ4 → L2.wipe σ4 (own.map (·.2)) = L2.wipe σ (own.map (·.2)) → Move (q && (qt && (qk && qe))) F1 H1 lab1 F4 H4 lab4 → dr.rep F4 xs' acc' → F4 D0 = none → lab4 D0 = none → acc'.length ≤ i + 1 →
        dcL tb (own.map (·.2)) tg t fk fv (ds.drop (i + 1)) acc' (wipeE ρ4 (own.map (·.2))) = R0 → ∃ acc xs ρ2 F2 lab2, SR X.K X.mg F2 (upd H4 D0 (kd.ob xs')) lab2 (L2.wipe σ (own.map (·.2))) ρ2 ∧ Move (q && (qt && (qk && qe))) F1 H1 lab1 F2 (upd H4 D0 (kd.ob xs')) lab2 ∧ (upd H4 D0 (kd.ob xs')) D0 = some (kd.ob xs) ∧ dr.rep F2 xs acc ∧ F2 D0 = none ∧ lab2 D0 = none ∧ acc.length ≤ i + 1 ∧
        dcL tb (own.map (·.2)) tg t fk fv (ds.drop (i + 1)) acc ρ2 = R0 := fun acc' xs' ρ4 F4 H4 lab4 σ4 s4 ew m4 r4 f4 l4 a4 e4 => by
      refine ⟨acc', xs', _, F4, lab4, ?_, ⟨m4.ff, fun a ha => ?_, fun a ha hq => ?_⟩, upd_same, r4, f4, l4, a4, e4⟩
      · have := sr_grow (o := kd.ob xs') (sr_wipe s4 (own.map (·.2))) f4 l4
        rw [ew] at this
        exact this
      · by_cases e : a = D0
        · subst e; exact absurd hD ha
        · rw [upd_ne e]; exact m4.th a ha
      · have e : a ≠ D0 := fun e => by subst e; exact ha hD
        rw [upd_ne e]; exact m4.fr a ha hq
    refine ⟨go, fun H4 => i + 1 ≤ ds.length ∧ ∃ acc xs ρ2 F2 lab2, SR X.K X.mg F2 H4 lab2 (L2.wipe σ (own.map (·.2))) ρ2 ∧ Move (q && (qt && (qk && qe))) F1 H1 lab1 F2 H4 lab2 ∧ H4 D0 = some (kd.ob xs) ∧ dr.rep F2 xs acc ∧ F2 D0 = none ∧ lab2 D0 = none ∧ acc.length ≤ i + 1 ∧
      dcL tb (own.map (·.2)) tg t fk fv (ds.drop (i + 1)) acc ρ2 = R0, fun H4 ⟨z, r⟩ => ⟨ds.length - (i + 1), by omega, rfl, z, r⟩, fun x H3 hy => ?_⟩
    obtain ⟨F3, gr, rx3⟩ := yl x H3 hy
    have sr3 := gr.sr sr2
    have mv3 : Move (q && (qt && (qk && qe))) F1 H1 lab1 F3 H3 lab2 := mv2.trans gr.move
    have hx3 : H3 D0 = some (kd.ob xs) := gr.hh D0 _ hx
    have f3 : F3 D0 = none := gr.fn D0 (ne_none hx) f2
    refine ⟨ρ2, F3, lab2, _, sr3, rx3, ?_⟩
    cases ht : tg ds[i] ρ2 with
    | none => rw [ht] at hR2; simp only at hR2; rw [← hR2] at m1; exact m1
    | some ρ3 =>
      rw [ht] at hR2
      simp only at hR2
      intro σ5 F5 H5 lab5 mv5 sr5 k5
      have ew : L2.wipe σ5 (own.map (·.2)) = L2.wipe σ (own.map (·.2)) := wipe_eq (fun j hj hn => ho j (by omega) hn) k5
      have hx5 : H5 D0 = H3 D0 ∧ lab5 D0 = lab2 D0 ∧ (F3 D0 = none → F5 D0 = none) := mv5.fr D0 (ne_none hx3) (.inl rfl)
      have mv5' : Move (q && (qt && (qk && qe))) F1 H1 lab1 F5 H5 lab5 := mv3.trans (mv5.weak _ fun _ => rfl)
      refine ⟨ew, ρ3, F5, lab5, sr5, ?_⟩
      cases ht2 : t ρ3 with
      | no => rw [ht2] at hR2; simp only at hR2; rw [← hR2] at m1; exact m1
      | exc x ρ4 => rw [ht2] at hR2; simp only at hR2; rw [← hR2] at m1; exact m1.elim
      | ok b ρ4 =>
        intro b' F6 H6 lab6 mv6 sr6 eb
        subst eb
        have hx6 := mv6.fr D0 (ne_none (hx5.1.trans hx3)) (.inr (hx5.2.1.trans l2))
        have mv6' : Move (q && (qt && (qk && qe))) F1 H1 lab1 F6 H6 lab6 := mv5'.trans (mv6.weak _ fun z => and_l (and_r z))
        have h6 : H6 D0 = some (kd.ob xs) := hx6.1.trans (hx5.1.trans hx3)
        have l6 : lab6 D0 = none := hx6.2.1.trans (hx5.2.1.trans l2)
        have f6 : F6 D0 = none := hx6.2.2 (hx5.2.2 f3)
        have r6 : dr.rep F6 xs acc := dr.mono (gr.ff.trans (mv5.ff.trans mv6.ff)) rx
        cases b' with
        | false =>
          rw [ht2] at hR2
          simp only at hR2
          refine ⟨hlt, ?_⟩
          have := next acc xs ρ4 F6 H6 lab6 σ5 sr6 ew mv6' r6 f6 l6 (by omega) hR2
          have eu : upd H6 D0 (kd.ob xs) = H6 := by
            funext a
            by_cases e : a = D0
            · subst e; rw [upd_same, h6]
            · rw [upd_ne e]
          rw [eu] at this
          exact this
        | true =>
          rw [ht2] at hR2
          simp only at hR2
          refine ⟨ρ4, F6, lab6, sr6, ?_⟩
          cases hf : sFz fk ρ4 with
          | no => rw [hf] at hR2; simp only at hR2; rw [← hR2] at m1; exact m1
          | exc x ρ5 => rw [hf] at hR2; simp only at hR2; rw [← hR2] at m1; exact m1.elim
          | ok p ρ5 =>
            rw [hf] at hR2
            intro y F7 H7 lab7 mv7 sr7 ry
            have hx7 := mv7.fr D0 (ne_none h6) (.inr l6)
            cases p with
            | f o => simp only at hR2; rw [← hR2] at m1; exact m1.elim
            | s d => simp only at hR2; rw [← hR2] at m1; exact m1.elim
            | v kk =>
              simp only at hR2
              refine ⟨ρ5, F7, lab7, sr7, ?_⟩
              cases hv : sFz fv ρ5 with
              | no => rw [hv] at hR2; simp only at hR2; rw [← hR2] at m1; exact m1
              | exc x ρ6 => rw [hv] at hR2; simp only at hR2; rw [← hR2] at m1; exact m1.elim
              | ok p ρ6 =>
                rw [hv] at hR2
                intro z F8 H8 lab8 mv8 sr8 rz
                have h7 : H7 D0 = some (kd.ob xs) := hx7.1.trans h6
                have l7 : lab7 D0 = none := hx7.2.1.trans l6
                have hx8 := mv8.fr D0 (ne_none h7) (.inr l7)
                cases p with
                | f o => simp only at hR2; rw [← hR2] at m1; exact m1.elim
                | s d => simp only at hR2; rw [← hR2] at m1; exact m1.elim
                | v d =>
                  simp only at hR2
                  split at hR2
                  case isFalse => rw [← hR2] at m1; exact m1.elim
                  rename_i hka
                  obtain ⟨k0, e0, hput⟩ := dr.key sr8.bas.le (Rep.mono mv8.ff ry) hka
                  refine ⟨xs, k0, e0, hx8.1.trans h7, ?_, hlt, ?_⟩
                  · rw [dr.len rx]; omega
                  · refine next (setK kk d acc) (kd.put xs k0 z) ρ6 F8 H8 lab8 σ5 sr8 ew ((mv6'.trans (mv7.weak _ fun z => and_l (and_r (and_r z)))).trans (mv8.weak _ fun z => and_r (and_r (and_r z)))) (hput (dr.mono (mv7.ff.trans mv8.ff) r6) rz) (hx8.2.2 (hx7.2.2 f6)) (hx8.2.1.trans l7) (Nat.le_trans (setK_len _ _ _) (by omega)) hR2
  · have e : i = ds.length := by omega
    subst e
    rw [List.drop_length] at hR2
    refine .inl ⟨wstop _ (Nat.le_refl _), ?_⟩
    have e0 : R0 = .ok acc ρ2 := by rw [← hR2]; rfl
    rw [e0] at m1
    refine m1 (.ref D0) F2 H2 lab2 mv2 (sr_back sr1 mv2.ff hown sr2) ⟨fun a => if a = D0 then some [] else none, dr.own (by simp) hx rx, fun a z e => ?_⟩
    have ea : a = D0 := by
      by_cases h : a = D0
      · exact h
      · have e' : (if a = D0 then some ([] : List Nat) else none) = some z := e
        rw [if_neg h] at e'; cases e'
    subst ea
    exact ⟨.of_none hD, l2, f2, ne_none hx⟩
theorem e_dc0 (dr : DRep X.K X.mg tb kd) (hc : X.calm = true) (hN : X.N.Nodup) (hu : X.A.units + 64 < cLine) (hi : DI X W q tgt iter h) (ok : BlkOk X.N X.env.scope scope own) (ho : ∀ j, j < X.N.length → j ∉ own.map (·.2) → j ∈ ks)
    (hg : ∀ (s : Shared) (H : Hp) (C : Addr) (cl : List (Str × Addr)) (fp : List Addr), DG (X.blk s H scope (compEnvC scope cl C X.env) fp) ks tgt tg)
    (ht : ∀ (s : Shared) (H : Hp) (C : Addr) (cl : List (Str × Addr)) (fp : List Addr), PTs (X.blk s H scope (compEnvC scope cl C X.env) fp) ifs (tDT X.K X.mg WN qt t))
    (hk : ∀ (s : Shared) (H : Hp) (C : Addr) (cl : List (Str × Addr)) (fp : List Addr), DE (X.blk s H scope (compEnvC scope cl C X.env) fp) WN qk kx fk)
    (he : ∀ (s : Shared) (H : Hp) (C : Addr) (cl : List (Str × Addr)) (fp : List Addr), DE (X.blk s H scope (compEnvC scope cl C X.env) fp) WN qe vx fv) (hs : ∀ x, foldedSetIterable iter X.env x = pure x := by intro _; rfl) :
    DE X W (q && (qt && (qk && qe))) (.DictComp kx vx [⟨tgt, iter, ifs, 0⟩] scope pos) (sDc tb (own.map (·.2)) h tg t fk fv) :=
  ⟨fun pins s σ H Q I w => (pe_dcG kd (own := own) (g := tDG X.K X.mg ks tg) (tt := tDT X.K X.mg WN qt t) (tk := tD X.K X.mg WN qk (sFz fk)) (tv := tD X.K X.mg WN qe (sFz fv)) hc hN hu hi ok hg ht (fun s H C cl fp => e_fz (hk s H C cl fp)) (fun s H C cl fp => e_fz (he s H C cl fp)) hs).run pins s σ H Q I (dc_read dr ho I.len w)⟩
/-- keys: whole numbers, texts -/
theorem e_dcK (hc : X.calm = true) (hN : X.N.Nodup) (hu : X.A.units + 64 < cLine) (hi : DI X W q tgt iter h) (ok : BlkOk X.N X.env.scope scope own) (ho : ∀ j, j < X.N.length → j ∉ own.map (·.2) → j ∈ ks)
    (hg : ∀ (s : Shared) (H : Hp) (C : Addr) (cl : List (Str × Addr)) (fp : List Addr), DG (X.blk s H scope (compEnvC scope cl C X.env) fp) ks tgt tg)
    (ht : ∀ (s : Shared) (H : Hp) (C : Addr) (cl : List (Str × Addr)) (fp : List Addr), PTs (X.blk s H scope (compEnvC scope cl C X.env) fp) ifs (tDT X.K X.mg WN qt t))
    (hk : ∀ (s : Shared) (H : Hp) (C : Addr) (cl : List (Str × Addr)) (fp : List Addr), DE (X.blk s H scope (compEnvC scope cl C X.env) fp) WN qk kx fk)
    (he : ∀ (s : Shared) (H : Hp) (C : Addr) (cl : List (Str × Addr)) (fp : List Addr), DE (X.blk s H scope (compEnvC scope cl C X.env) fp) WN qe vx fv) (hs : ∀ x, foldedSetIterable iter X.env x = pure x := by intro _; rfl) :
    DE X W (q && (qt && (qk && qe))) (.DictComp kx vx [⟨tgt, iter, ifs, 0⟩] scope pos) (sDc false (own.map (·.2)) h tg t fk fv) := e_dc0 (repK X.K X.mg) hc hN hu hi ok ho hg ht hk he hs
/-- keys: tuples of these -/
theorem e_dcT (hc : X.calm = true) (hN : X.N.Nodup) (hu : X.A.units + 64 < cLine) (hi : DI X W q tgt iter h) (ok : BlkOk X.N X.env.scope scope own) (ho : ∀ j, j < X.N.length → j ∉ own.map (·.2) → j ∈ ks)
    (hg : ∀ (s : Shared) (H : Hp) (C : Addr) (cl : List (Str × Addr)) (fp : List Addr), DG (X.blk s H scope (compEnvC scope cl C X.env) fp) ks tgt tg)
    (ht : ∀ (s : Shared) (H : Hp) (C : Addr) (cl : List (Str × Addr)) (fp : List Addr), PTs (X.blk s H scope (compEnvC scope cl C X.env) fp) ifs (tDT X.K X.mg WN qt t))
    (hk : ∀ (s : Shared) (H : Hp) (C : Addr) (cl : List (Str × Addr)) (fp : List Addr), DE (X.blk s H scope (compEnvC scope cl C X.env) fp) WN qk kx fk)
    (he : ∀ (s : Shared) (H : Hp) (C : Addr) (cl : List (Str × Addr)) (fp : List Addr), DE (X.blk s H scope (compEnvC scope cl C X.env) fp) WN qe vx fv) (hs : ∀ x, foldedSetIterable iter X.env x = pure x := by intro _; rfl) :
    DE X W (q && (qt && (qk && qe))) (.DictComp kx vx [⟨tgt, iter, ifs, 0⟩] scope pos) (sDc true (own.map (·.2)) h tg t fk fv) := e_dc0 (repT X.K X.mg) hc hN hu hi ok ho hg ht hk he hs
end
end LW

/-! LW16: fields of any instance, fields let go, own == and !=, constants of the module searched. -/
namespace LW
open PySem PySem.Spec PyProof.Rows L2

/-- x.f, whether the slot owns the instance or not -/
def sFld (i : Nat) (c f : Str) (ρ : Env) : Out P := match getS ρ i with
  | some (.v (.ins c' fs)) => if c' = c then (match lookD f fs with
    | some d => .ok (.v d) ρ
    | none => .no) else .no
  | some (.i c' fs) => if c' = c then (match lookO f fs with
    | some (.v d) => .ok (.v d) ρ
    | some (.l ds) => .ok (.s (.lst ds)) ρ
    | some (.k t kvs) => .ok (.s (.dct t kvs)) ρ
    | _ => .no) else .no
  | _ => .no
/-- .. let go -/
def sFldZ (i : Nat) (c f : Str) (ρ : Env) : Out P := match getS ρ i with
  | some (.v (.ins c' fs)) => if c' = c then (match lookD f fs with
    | some d => .ok (.v d) ρ
    | none => .no) else .no
  | some (.i c' fs) => if c' = c then (match lookO f fs with
    | some o => .ok (.v o.d) (ρ.set i (some (.i c (putO f (.v o.d) fs))))
    | none => .no) else .no
  | _ => .no
/-- the labels below [i, j] taken away -/
def isAt (i j : Nat) (p : Option (List Nat)) : Bool := match p with
  | some (i' :: j' :: _) => i' == i && j' == j
  | _ => false
theorem isAt_of {i j : Nat} {r : List Nat} : isAt i j (some (i :: j :: r)) = true := by simp [isAt]
section
variable {X : Cx} {W : WX} {c f : Str} {C : Addr} {pos p3 : Pos}
theorem e_fldU (i : Nat) {x : Str} (k : ClsOk X.K X.mg c C) (n : NoAttr X.K C f) (hN : X.N[i]? = some x := by rfl) (hv : Vis X.env.scope x := by first | exact Or.inl rfl | exact Or.inr (Or.inl rfl) | exact Or.inr (Or.inr rfl)) (hd : (x == ("__debug__" : Str)) = false := by decide)
    (hcd : (x == ("__classdict__" : Str)) = false := by decide) (hb : attributeBase (.Name x p3) f X.env (eval (.Name x p3) X.env) = eval (.Name x p3) X.env := by rfl) : DE X W true (.Attribute (.Name x p3) f pos) (sFld i c f) := by
  refine PE_weak (pe_fld (pe_var hN hv hd hcd) hb) fun σ H Q h => ?_
  obtain ⟨ρ, F, lab, sr, m⟩ := h
  unfold sFld at m
  split at m
  · rename_i c' fs hg
    split at m
    case isFalse => exact m.elim
    rename_i hc
    subst hc
    split at m
    case h_2 => exact m.elim
    rename_i d hd
    obtain ⟨v, h1, r⟩ := sr.env i _ (getS_eq hg)
    cases r with
    | v r =>
      cases r with
      | ins g1 g2 g3 =>
        rw [k.gl] at g2
        cases g2
        obtain ⟨w, k1, k2⟩ := g3.look hd
        exact ⟨_, h1, _, _, _, _, w, rfl, sr.bas.le _ _ g1, k.cls, n, k1, m w F H lab Move.refl sr k2⟩
  · rename_i c' fs hg
    split at m
    case isFalse => exact m.elim
    rename_i hc
    subst hc
    obtain ⟨v, h1, r⟩ := sr.env i _ (getS_eq hg)
    cases r with
    | i g1 g2 g3 g4 =>
      rw [k.gl] at g3
      cases g3
      split at m
      · rename_i d hl
        obtain ⟨w, k1, k2⟩ := g4.look hl
        cases k2 with | v r => exact ⟨_, h1, _, _, _, _, w, rfl, g2, k.cls, n, k1, m w F H lab Move.refl sr r⟩
      · rename_i d hl
        obtain ⟨w, k1, k2⟩ := g4.look hl
        cases k2 with | l _ h r => exact ⟨_, h1, _, _, _, _, _, rfl, g2, k.cls, n, k1, m _ F H lab Move.refl sr (.l h r)⟩
      · rename_i d hl
        obtain ⟨w, k1, k2⟩ := g4.look hl
        cases k2 with
        | kK _ h r => exact ⟨_, h1, _, _, _, _, _, rfl, g2, k.cls, n, k1, m _ F H lab Move.refl sr (.kK h r)⟩
        | kT _ h r => exact ⟨_, h1, _, _, _, _, _, rfl, g2, k.cls, n, k1, m _ F H lab Move.refl sr (.kT h r)⟩
      · exact m.elim
  · exact m.elim
theorem e_fldZ (i : Nat) {x : Str} (k : ClsOk X.K X.mg c C) (n : NoAttr X.K C f) (hN : X.N[i]? = some x := by rfl) (hv : Vis X.env.scope x := by first | exact Or.inl rfl | exact Or.inr (Or.inl rfl) | exact Or.inr (Or.inr rfl)) (hd : (x == ("__debug__" : Str)) = false := by decide)
    (hcd : (x == ("__classdict__" : Str)) = false := by decide) (hb : attributeBase (.Name x p3) f X.env (eval (.Name x p3) X.env) = eval (.Name x p3) X.env := by rfl) : DE X W false (.Attribute (.Name x p3) f pos) (sFldZ i c f) := by
  refine PE_weak (pe_fld (pe_var hN hv hd hcd) hb) fun σ H Q h => ?_
  obtain ⟨ρ, F, lab, sr, m⟩ := h
  unfold sFldZ at m
  split at m
  · rename_i c' fs hg
    split at m
    case isFalse => exact m.elim
    rename_i hc
    subst hc
    split at m
    case h_2 => exact m.elim
    rename_i d hd
    obtain ⟨v, h1, r⟩ := sr.env i _ (getS_eq hg)
    cases r with
    | v r =>
      cases r with
      | ins g1 g2 g3 =>
        rw [k.gl] at g2
        cases g2
        obtain ⟨w, k1, k2⟩ := g3.look hd
        exact ⟨_, h1, _, _, _, _, w, rfl, sr.bas.le _ _ g1, k.cls, n, k1, m w F H lab Move.refl sr k2⟩
  · rename_i c' fs hg
    split at m
    case isFalse => exact m.elim
    rename_i hc
    subst hc
    split at m
    case h_2 => exact m.elim
    rename_i o hl
    have hρ := getS_eq hg
    obtain ⟨v, h1, r⟩ := sr.env i _ hρ
    cases r with
    | @i _ a C' dx _ gs _ g1 g2 g3 g4 =>
      have e3 := g3
      rw [k.gl] at e3
      cases e3
      obtain ⟨w, k1, k2⟩ := g4.look hl
      have k2 : RepO X.K X.mg F H lab [i, idxO f fs] w o := by simpa using k2
      have hF : Le F (fun b => if isAt i (idxO f fs) (lab b) = true then H b else F b) := fun b u e => by
        show (if isAt i (idxO f fs) (lab b) = true then H b else F b) = some u
        split
        · rename_i z
          cases zz : lab b with
          | none => rw [zz] at z; cases z
          | some p => rw [(sr.bas.lf b p zz).1] at e; cases e
        · exact e
      generalize hF' : (fun b => if isAt i (idxO f fs) (lab b) = true then H b else F b) = F' at hF
      have eF : ∀ b, F' b = if isAt i (idxO f fs) (lab b) = true then H b else F b := fun b => by rw [← hF']
      have rw' : Rep X.K X.mg F' w o.d := k2.frz hF fun b r e => by rw [eF, show lab b = some (i :: idxO f fs :: r) from e, isAt_of]; rfl
      generalize hL' : (fun b => if isAt i (idxO f fs) (lab b) = true then none else lab b : Lab) = lab'
      have eL : ∀ b, lab' b = if isAt i (idxO f fs) (lab b) = true then none else lab b := fun b => by rw [← hL']
      have stay : ∀ {b p}, lab b = some p → isAt i (idxO f fs) (some p) = false → lab' b = some p := fun {b p} e z => by rw [eL, e, z]; rfl
      refine ⟨_, h1, a, C, dx, gs, w, rfl, g2, k.cls, n, k1, m w F' H lab' ⟨hF, fun _ z => z, fun b _ hq => ?_⟩ ⟨⟨fun b u e => ?_, fun b p e => ?_⟩, fun j o2 hj => ?_, by rw [List.length_set]; exact sr.len⟩ rw'⟩
      · have e : lab b = none := hq.elim (fun z => nomatch z) id
        refine ⟨rfl, by rw [eL, e]; rfl, fun z => ?_⟩
        rw [eF, e]; exact z
      · rw [eF] at e
        split at e
        · exact e
        · exact sr.bas.le b u e
      · rw [eL] at e
        split at e
        · cases e
        · rename_i z
          have := sr.bas.lf b p e
          refine ⟨?_, this.2⟩
          rw [eF, if_neg z]
          exact this.1
      · by_cases e : j = i
        · subst e
          by_cases hlt : j < ρ.length
          · rw [List.getElem?_set_self hlt] at hj
            cases hj
            refine ⟨_, h1, .i (stay g1 rfl) g2 g3 ?_⟩
            have := RepOF.put (f := f) (F' := F') (H' := H) (lab' := lab') (v := w) (o := .v o.d) hF g4 (fun i' b r' _ z1 z2 => ⟨rfl, stay z2 (by simp [isAt]; intro y; exact z1 (by omega))⟩) (.v rw')
            rw [putF_same k1] at this
            exact this
          · rw [List.getElem?_eq_none (by rw [List.length_set]; omega)] at hj; cases hj
        · rw [List.getElem?_set_ne (Ne.symm e)] at hj
          obtain ⟨w2, q1, q2⟩ := sr.env j o2 hj
          refine ⟨w2, q1, q2.stay hF fun b r z => ⟨rfl, stay z ?_⟩⟩
          show isAt i (idxO f fs) (some (j :: r)) = false
          cases r with
          | nil => rfl
          | cons j' r => simp [isAt, e]
  · exact m.elim
end

/-! ### own == and != -/
/-- what the own == of a class tells -/
def gEqI (c : Str) (S : Fn) (x y : D) : Option P := match x, y with
  | .ins c1 _, .ins c2 _ => if c1 = c ∧ c2 = c then (match S [.v x, .v y] with
    | .ret (.v (.bl b)) _ => some (.v (.bl b))
    | _ => none) else none
  | _, _ => none
def gNeI (c : Str) (S : Fn) (x y : D) : Option P := match x, y with
  | .ins c1 _, .ins c2 _ => if c1 = c ∧ c2 = c then (match S [.v x, .v y] with
    | .ret (.v (.bl b)) _ => some (.v (.bl (!b)))
    | _ => none) else none
  | _, _ => none
theorem Move.growN {K : PySem.W.Frag} {mg : Str → Option Value} {F H F' H' : Hp} {lab' : Lab} (mv : Move false F H (fun _ => none) F' H' lab') (b : Bas F' H' lab') : Grow F H F' H' :=
  ⟨mv.ff, fun a o h => by rw [(mv.fr a (ne_none h) (.inr rfl)).1]; exact h, fun a h z => (mv.fr a h (.inr rfl)).2.2 z, b.le⟩
/-- what an instance has for == and != -/
structure OwnEq (K : PySem.W.Frag) (C f : Addr) : Prop where
  eq : PySem.W.findIn K (.ref C) "__eq__" = some (some (.ref f))
  fn : PySem.W.isFn K (.ref f) = true
  ne : PySem.W.findIn K (.ref C) "__ne__" = some (some (.builtin "object.__ne__"))
  sub : PySem.W.subIn K (.ref C) (.type "object") = some true
section
variable {X : Cx} {W : WX} {k n : Nat} {c : Str} {C f : Addr} {fd : FuncData} {ps : List Str} {S : Fn}
/-- the own == called below the running body -/
theorem run_eq (G : FnOk X.prog X.w X.K X.mg X.base (L2.CX X.prog X.w) k f fd ps (spF X.K X.mg 2 S)) (hb : Binds X.K fd ps []) {A : Around} (hr : Room k A) (hA : A.frames = X.A.frames) {pins : List (Addr × Obj)} {s : Shared} {σ : L2.St} {H F : Hp} {lab : Lab} {a b : Addr} {dx dy : D} {b0 : Bool} {os : List O} {Q : Value → Shared → Prop} {E : Value → Shared → Prop}
    (I : Inv X pins σ H s) (ba : Bas F H lab) (r1 : Rep X.K X.mg F (.ref a) dx) (r2 : Rep X.K X.mg F (.ref b) dy) (hS : S [.v dx, .v dy] = .ret (.v (.bl b0)) os)
    (h : ∀ F' H' s', Inv X pins σ H' s' → Grow F H F' H' → Q (.bool b0) s') : wpAny (model X.prog X.w) A (call (.ref f) [.ref a, .ref b]) Q E s := by
  have e0 : Env0 X.prog X.w X.K X.mg X.base A X.stack s H := by
    have e := I.env0
    exact ⟨by rw [hA]; exact e.frames, e.mod, e.bs, e.bsz, e.funs, e.frf, e.hok, e.bare⟩
  have hsp : spF X.K X.mg 2 S [.ref a, .ref b] H (fun v H' => v = .bl b0 ∧ ∃ F', Grow F H F' H') (fun _ _ _ => False) := by
    refine ⟨rfl, F, fun _ => none, [.v dx, .v dy], sr_vals (ds := [dx, dy]) ba.le (.cons r1 (.cons r2 .nil)), ?_⟩
    rw [hS]
    intro v F' H' lab' mv sr' rp
    cases rp
    exact ⟨rfl, F', Move.growN (K := X.K) (mg := X.mg) mv sr'.bas⟩
  have hl := G.len _ _ _ _ hsp
  have r2 : Vals [V.ref a, V.ref b] [Value.ref a, Value.ref b] := .cons rfl (.cons rfl .nil)
  refine wpAny_call (codeAny_mono (G.run A X.stack s H ⟨[.ref a, .ref b], []⟩ [.ref a, .ref b] [.ref a, .ref b] _ _ hr e0 (by
    have := hb s [.ref a, .ref b] I.kIn (by simpa using hl)
    simpa using this) r2 hsp) fun r s' hq => ?_)
  cases r with
  | error e =>
    obtain ⟨_, _, _, _, _, _, _, _, _, _, _, _, hE⟩ := hq
    exact hE.elim
  | ok fl =>
    cases fl with
    | ret w =>
      obtain ⟨z, H', I', rz, ez, F', gr⟩ := I.after hq
      subst ez
      cases rz
      exact h F' H' s' I' gr
    | next => exact False.elim hq
    | brk => exact False.elim hq
    | cont => exact False.elim hq
theorem opd_eqI (q : OwnEq X.K C f) (gl : X.mg c = some (.ref C)) (G : FnOk X.prog X.w X.K X.mg X.base (L2.CX X.prog X.w) k f fd ps (spF X.K X.mg 2 S)) (hb : Binds X.K fd ps []) (hr : Room k X.A) : OpD X (compareOp .Eq) (gEqI c S) := by
  intro pins s σ H x y v u Q I rx ry ⟨F, lab, dx, dy, p, b, r1, r2, e, kk⟩
  unfold gEqI at e
  split at e
  case h_2 => cases e
  rename_i c1 fs1 c2 fs2
  split at e
  case isFalse => cases e
  rename_i hc
  obtain ⟨rfl, rfl⟩ := hc
  split at e
  case h_2 => cases e
  rename_i b0 os hS
  cases e
  cases r1 with
  | v r1 =>
  cases r2 with
  | v r2 =>
  have r1' := r1
  have r2' := r2
  cases r1 with
  | @ins a C1 ex _ gs _ g1 g2 g3 =>
  cases r2 with
  | @ins a2 C2 ex2 _ gs2 _ h1 h2 h3 =>
  rw [gl] at g2 h2
  cases g2
  cases h2
  cases rx
  cases ry
  obtain ⟨mA, J, _⟩ := ins_get I.hok (b.le _ _ g1)
  obtain ⟨mB, J', _⟩ := ins_get I.hok (b.le _ _ h1)
  obtain ⟨od, J, _⟩ := J.look
  obtain ⟨od', J', _⟩ := J'.look
  obtain ⟨m, hF⟩ := I.fr
  refine PySem.W.cmp_K (op := .Eq) (tb := .ref C) hr.units0 hF I.ok.mod.kin J J'.type (by simp [PySem.W.notFirst]) q.eq q.fn ?_
  refine run_eq G hb hr rfl I b r1' r2' hS fun F' H' s' I' gr => ?_
  exact ⟨.bl b0, H', I', rfl, kk _ F' H' gr (Rep.bl b0)⟩
theorem opd_neI (q : OwnEq X.K C f) (gl : X.mg c = some (.ref C)) (G : FnOk X.prog X.w X.K X.mg X.base (L2.CX X.prog X.w) k f fd ps (spF X.K X.mg 2 S)) (hb : Binds X.K fd ps []) (hr : Room (k + 1) X.A) : OpD X (compareOp .NotEq) (gNeI c S) := by
  intro pins s σ H x y v u Q I rx ry ⟨F, lab, dx, dy, p, b, r1, r2, e, kk⟩
  unfold gNeI at e
  split at e
  case h_2 => cases e
  rename_i c1 fs1 c2 fs2
  split at e
  case isFalse => cases e
  rename_i hc
  obtain ⟨rfl, rfl⟩ := hc
  split at e
  case h_2 => cases e
  rename_i b0 os hS
  cases e
  cases r1 with
  | v r1 =>
  cases r2 with
  | v r2 =>
  have r1' := r1
  have r2' := r2
  cases r1 with
  | @ins a C1 ex _ gs _ g1 g2 g3 =>
  cases r2 with
  | @ins a2 C2 ex2 _ gs2 _ h1 h2 h3 =>
  rw [gl] at g2 h2
  cases g2
  cases h2
  cases rx
  cases ry
  obtain ⟨mA, J, _⟩ := ins_get I.hok (b.le _ _ g1)
  obtain ⟨mB, J', _⟩ := ins_get I.hok (b.le _ _ h1)
  obtain ⟨od, J, _⟩ := J.look
  obtain ⟨od', J', _⟩ := J'.look
  have X0 := I.kIn
  have hu1 : X.A.in1.units < cLine := hr.in1.units0
  show wpAny _ _ (richCompare .NotEq (.ref a) (.ref a2)) _ _ _
  unfold richCompare
  simp only [oneThing_ref]
  refine wpAny_holding (wpAny_bind (wpAny_cRoomFor hr.units0 ?_))
  rw [cmpInfo_NotEq]
  dsimp only
  refine wpAny_bind (J.type.here (wpAny_bind (J'.type.here ?_)))
  rw [show (Value.ref C != Value.ref C) = false from by simp]
  simp only [Bool.false_eq_true, if_false]
  refine wpAny_bind (wpAny_pure ?_)
  simp only [Bool.false_eq_true, if_false]
  have main : wpAny (model X.prog X.w) X.A (tryCompare (.ref a) "__ne__" (.ref a2)) (fun r s' => r = some (.bool (!b0)) ∧ ∃ H', Inv X pins σ H' s' ∧ Q (.bl (!b0)) H') X.xe s := by
    unfold tryCompare
    have one : wpAny (model X.prog X.w) X.A (call (.builtin "object.__ne__") [.ref a, .ref a2]) (fun v s' => v = .bool (!b0) ∧ ∃ H', Inv X pins σ H' s' ∧ Q (.bl (!b0)) H') X.xe s := by
      refine wpAny_call (codeAny_call_builtin PySem.F.cmp_object.ne.plain PySem.F.cmpEntry_ne (PySem.W.check_slot PySem.F.cmpKind_ne PySem.F.cmpSplit_ne (J.type.andThen (PySem.W.looks_subIn X0 q.sub)) (PySem.F.cmpArgs_ne _ _) ?_))
      unfold Builtin.«object.__ne__»
      refine wpAny_bind (m := slotArgs "__ne__" 1 _) (wpAny_pure ?_)
      refine wpAny_bind (wpAny_cRoomFor hu1 ?_)
      refine wpAny_bind (PySem.W.ifBound_K X0 J q.eq q.fn ?_)
      refine run_eq G hb hr.in1 rfl I b r1' r2' hS fun F' H' s' I' gr => ?_
      refine wpAny_bind (wpAny_truthy_bool ?_)
      exact wpAny_pure ⟨rfl, H', I', kk _ F' H' gr (Rep.bl _)⟩
    refine wpAny_bind ?_
    simp only [callSpecialIfBound?, bindSpecialIfBound?]
    refine wpAny_holding (wpAny_bind (wpAny_bind (wpAny_bind (J.type.here ((PySem.W.looks_findIn X0 q.ne).here ?_)))))
    refine wpAny_bind (wpAny_askSetting (wpAny_ite ?_))
    have fin : wpAny (model X.prog X.w) X.A (call (.builtin "object.__ne__") ([.ref a] ++ [.ref a2]) >>= fun v => pure (some v)) (fun r s' => wpAny (model X.prog X.w) X.A (match r with | some .notImplemented | none => pure none | some r => pure (some r)) (fun r s' => r = some (.bool (!b0)) ∧ ∃ H', Inv X pins σ H' s' ∧ Q (.bl (!b0)) H') X.xe s') X.xe s :=
      wpAny_bind (wpAny_mono one (fun v s' h' => by
        obtain ⟨rfl, h'⟩ := h'
        exact wpAny_pure (wpAny_pure ⟨rfl, h'⟩)) fun _ _ h' => h')
    simp only [PySem.F.cmp_object.ne.bind]
    split
    · exact wpAny_bind (wpAny_pure (wpAny_pure fin))
    · exact wpAny_tryCatch (wpAny_bind (wpAny_pure (wpAny_pure fin)))
  refine wpAny_bind (wpAny_mono main (fun r s' hr' => ?_) fun _ _ e => e)
  obtain ⟨rfl, H', I', hq⟩ := hr'
  exact wpAny_pure ⟨.bl _, H', I', rfl, hq⟩
end
end LW

/-! LW17: constants of the module searched and looked up. -/
namespace LW
open PySem PySem.Spec PyProof.Rows L2

/-- a tuple of texts that stands at the top -/
structure KTup (K : PySem.W.Frag) (c : Addr) (ys : List Str) : Prop where
  sq : ∀ H, SqT K H c (ys.map V.str)
theorem KTup.of {K : PySem.W.Frag} {c : Addr} {ys : List Str} {o : Obj} {its : Array Value} {n : Nat} (h1 : K.lookup c = some o) (h2 : o.cls = .type "tuple") (h3 : o.data = .seq its n) (h4 : its.size ≤ sizeLine) (h5 : its.toList.map absV = ys.map fun y => some (.str y)) : KTup K c ys :=
  ⟨fun H => .inr ⟨o, its, n, h1, h2, h3, h4, by
    generalize its.toList = l at h5
    induction ys generalizing l with
    | nil => cases l with | nil => exact .nil | cons _ _ => cases h5
    | cons y r ih =>
      cases l with
      | nil => cases h5
      | cons u l =>
        simp only [List.map_cons, List.cons.injEq] at h5
        refine .cons ?_ (ih l h5.2)
        have h := h5.1
        cases u <;> simp only [absV] at h <;> cases h
        exact ⟨_, rfl⟩⟩⟩
def gInC (ys : List Str) (d : D) : Option P := (D.mem d (.lst (ys.map .str))).map fun k => .v (.bl k)
def gNotInC (ys : List Str) (d : D) : Option P := (D.mem d (.lst (ys.map .str))).map fun k => .v (.bl (!k))
section
variable {X : Cx} {W : WX} {q : Bool} {a : Expr} {f : Env → Out P} {g : Str} {c : Addr} {ys : List Str} {p pos : Pos}
def rC (X : Cx) (c : Addr) (g : D → Option P) : R2 := fun x y H Q => ∃ F lab dx p, y = .ref c ∧ Bas F H lab ∧ RepS X.K X.mg F H x dx ∧ g dx = some p ∧ Cont X.K X.mg F H lab p Q
theorem op_inC (kt : KTup X.K c ys) (hu : X.A.units + 64 < cLine) : OpR X (compareOp .In) (rC X c (gInC ys)) := by
  intro pins s σ H x y v u Q I rx ry hh
  obtain ⟨F, lab, dx, p, rfl, b, r1, e, k⟩ := hh
  unfold gInC D.mem at e
  simp only at e
  split at e
  · rename_i hp
    cases e
    have dx' := r1.dp (n := 59) b.le hp.1
    have dy' : Dp X.K H (.ref c) (.tuple (D.pyL (ys.map .str))) := .tup (kt.sq H) (RepL.dp (K := X.K) (mg := X.mg) (F := F) b.le (n := 59) (repL_strs ys) hp.2)
    obtain ⟨as, q1⟩ := Dp.reads I _ x v dx' rx
    obtain ⟨bs, q2⟩ := Dp.reads I _ (.ref c) u dy' ry
    obtain ⟨c1, c2⟩ := D.plain_lay _ _ hp.1
    obtain ⟨c3, c4⟩ := D.plain_layL _ _ hp.2
    refine SeqAt.in_tuple_reads q2 q1 c3 c1 ?_ ⟨.bl _, H, I, rfl, k.bl b⟩
    have := Nat.min_le_right (PyData.depthAll (D.pyL (ys.map .str))) dx.py.depth
    omega
  · cases e
theorem op_notInC (kt : KTup X.K c ys) (hu : X.A.units + 64 < cLine) : OpR X (compareOp .NotIn) (rC X c (gNotInC ys)) := by
  intro pins s σ H x y v u Q I rx ry hh
  obtain ⟨F, lab, dx, p, rfl, b, r1, e, k⟩ := hh
  unfold gNotInC D.mem at e
  simp only at e
  split at e
  · rename_i hp
    cases e
    have dx' := r1.dp (n := 59) b.le hp.1
    have dy' : Dp X.K H (.ref c) (.tuple (D.pyL (ys.map .str))) := .tup (kt.sq H) (RepL.dp (K := X.K) (mg := X.mg) (F := F) b.le (n := 59) (repL_strs ys) hp.2)
    obtain ⟨as, q1⟩ := Dp.reads I _ x v dx' rx
    obtain ⟨bs, q2⟩ := Dp.reads I _ (.ref c) u dy' ry
    obtain ⟨c1, c2⟩ := D.plain_lay _ _ hp.1
    obtain ⟨c3, c4⟩ := D.plain_layL _ _ hp.2
    refine SeqAt.notIn_tuple_reads q2 q1 c3 c1 ?_ ⟨.bl _, H, I, rfl, k.bl b⟩
    have := Nat.min_le_right (PyData.depthAll (D.pyL (ys.map .str))) dx.py.depth
    omega
  · cases e
theorem rC_read {gg : D → Option P} {σ : L2.St} {H : Hp} {Q : VK} (h : tD X.K X.mg W q (sC1 gg f) σ H Q) : tOp (rC X c gg) (tD X.K X.mg W q f) (tC (.ref c)) σ H Q := by
  obtain ⟨ρ, F, lab, sr, m⟩ := h
  refine ⟨ρ, F, lab, sr, Meets.seq (rep2 := RepP X.K X.mg) id sinceP m fun v p ρ1 F1 H1 lab1 mv1 sr1 rp m1 => ?_⟩
  split at m1
  · rename_i y hy
    split at m1
    · rename_i z hz
      exact ⟨F1, lab1, y, z, rfl, sr1.bas, rp.rd hy, hz, fun w F' H' gr rw' => Meets.grow m1 sr1 gr rw'⟩
    · exact m1.elim
  · exact m1.elim
theorem e_cmpC {op : CmpOp} {gg : D → Option P} (ho : OpR X (compareOp op) (rC X c gg)) (ha : DE X W q a f) (hg : Gl X g) (hm : X.mg g = some (.ref c)) (hd : (g == ("__debug__" : Str)) = false := by decide) (hb : behindInMarks op (.Name g p) = false := by rfl) :
    DE X W q (.Compare a [op] [.Name g p] pos) (sC1 gg f) :=
  PE_weak (pe_cmpR ho ha (pe_glob hg hm (v := .ref c) rfl hd) hb) fun σ H Q h => rC_read h
theorem t_cmpC {op : CmpOp} {gg : D → Option P} (ho : OpR X (compareOp op) (rC X c gg)) (ha : DE X W q a f) (hg : Gl X g) (hm : X.mg g = some (.ref c)) (hd : (g == ("__debug__" : Str)) = false := by decide) (hb : behindInMarks op (.Name g p) = false := by rfl) :
    DT X W q (.Compare a [op] [.Name g p] pos) (sTB (sC1 gg f)) :=
  PT_weak (pt_cmpR ho ha (pe_glob hg hm (v := .ref c) rfl hd) hb) fun σ H Q h => rC_read (tb_read h)
end
end LW

/-! LW18: small words for printed derivations. -/
namespace LW
open PySem PySem.Spec PyProof.Rows L2

theorem bb_len : bootBuiltins "len" = some (.builtin "len") := by decide +kernel
theorem bb_list : bootBuiltins "list" = some (.type "list") := by decide +kernel
theorem bb_tuple : bootBuiltins "tuple" = some (.type "tuple") := by decide +kernel
theorem bb_int : bootBuiltins "int" = some (.type "int") := by decide +kernel
theorem bb_str : bootBuiltins "str" = some (.type "str") := by decide +kernel
theorem bb_bool : bootBuiltins "bool" = some (.type "bool") := by decide +kernel
theorem bb_dict : bootBuiltins "dict" = some (.type "dict") := by decide +kernel
theorem bb_abs : bootBuiltins "abs" = some (.builtin "abs") := by decide +kernel
theorem bb_all : bootBuiltins "all" = some (.builtin "all") := by decide +kernel
theorem bb_any : bootBuiltins "any" = some (.builtin "any") := by decide +kernel
theorem bb_sorted : bootBuiltins "sorted" = some (.builtin "sorted") := by decide +kernel
theorem bb_min : bootBuiltins "min" = some (.builtin "min") := by decide +kernel
theorem bb_max : bootBuiltins "max" = some (.builtin "max") := by decide +kernel
theorem bb_repr : bootBuiltins "repr" = some (.builtin "repr") := by decide +kernel
/-- the classes of the package -/
def CS : List Str := ["Web", "LineReader", "Lighter", "House", "Desk", "Whole", "Dark"]
/-- an instance's test by a builtin's type; dh: the package's classes are of none -/
abbrev dI (g : Tg) : D → Option Bool := D.isa CS g
section
variable {P : Program} {w : World} {K : PySem.W.Frag} {mg : Str → Option Value} {base : Heap}
/-- a def that is asked nothing -/
theorem fn_no {n k : Nat} {x qual : Str} {st : Stmt} {f : Addr} {fd : FuncData} {N ps : List Str} (FF : Fun K x qual st f fd) (S : FnScope N ps (defScope st)) (hn : ps.length = n) :
    FnOk P w K mg base (L2.CX P w) (k + 1) f fd ps (spF K mg n fun _ => .no) := by
  refine FF.okX S (fun vs H Q E h => h.1.trans hn.symm) fun cdv A outer s H vs Q E hr h => ?_
  obtain ⟨_, F, lab, os, sr, fm⟩ := h
  exact fm.elim
theorem fn_def2 {own : Bool} {n m k : Nat} {x qual : Str} {st : Stmt} {f : Addr} {fd : FuncData} {N ps : List Str} {body : Env → Flow} (FF : Fun K x qual st f fd) (S : FnScope N ps (defScope st)) (hn : ps.length = n) (hm : N.length = m)
    (hbody : ∀ (cdv : Value) (A : Around) (outer : List PySem.Env) (s : Shared) (H : Hp) (E : XK), Room k (A.deeper (envOfC qual (defScope st) s.heap.objs.size f cdv)) →
      Takes (cxOf (L2.CX P w) P w K mg base N qual (defScope st) f cdv A outer s H E) (fun cls d _ H' => E cls d H') →
      PassesOwn (model P w) (A.deeper (envOfC qual (defScope st) s.heap.objs.size f cdv)) (cxOf (L2.CX P w) P w K mg base N qual (defScope st) f cdv A outer s H E).env (cxOf (L2.CX P w) P w K mg base N qual (defScope st) f cdv A outer s H E).xe →
      (cxOf (L2.CX P w) P w K mg base N qual (defScope st) f cdv A outer s H E).A.units + 64 < cLine → (cxOf (L2.CX P w) P w K mg base N qual (defScope st) f cdv A outer s H E).N.Nodup →
      DSs (cxOf (L2.CX P w) P w K mg base N qual (defScope st) f cdv A outer s H E) (fun cls d _ H' => E cls d H') (keepOf own) (defBody st) body) :
    FnOk P w K mg base (L2.CX P w) (k + 1) f fd ps (spF K mg n (runFn own n m body)) :=
  fn_def FF S hn hm fun cdv A outer s H E hr => hbody cdv A outer s H E hr (takes_of rfl rfl rfl rfl) (passes_of (X := cxOf (L2.CX P w) P w K mg base N qual (defScope st) f cdv A outer s H E) rfl) hr.units S.nd
theorem no_len {n : Nat} (os : List O) (h : (fun _ => FR.no : Fn) os ≠ .no) : os.length = n := absurd rfl h
end
section
variable {X : Cx} {W : WX} {q : Bool} {e : Expr} {f : Env → Out P} {pos : Pos}
/-- -x -/
theorem e_neg (he : DE X W q e f) : DE X W q (.UnaryOp .USub e pos) (sC1 gNeg f) := by
  refine PE_weak (pe_un un_neg he) fun σ H Q h => ?_
  obtain ⟨ρ, F, lab, sr, m⟩ := h
  refine ⟨ρ, F, lab, sr, Meets.seq (rep2 := RepP X.K X.mg) id sinceP m fun v p ρ1 F1 H1 lab1 mv1 sr1 rp m1 => ?_⟩
  split at m1
  · rename_i y hy
    split at m1
    · rename_i z hz
      unfold gNeg at hz
      split at hz
      · cases hz
        have := (rp.rd hy).int
        subst this
        exact ⟨_, rfl, m1 _ F1 H1 lab1 Move.refl sr1 (Rep.int _)⟩
      · cases hz
    · exact m1.elim
  · exact m1.elim
end
end LW

/-! LW19: the end of a law; what the top has of classes. -/
namespace LW
open PySem PySem.Spec PyProof.Rows L2

theorem kit_int (K : PySem.W.Frag) : ∀ n ∈ ["NoneType", "bool", "int", "str", "tuple", "list", "dict"], PySem.W.kitOne K (.type n) (.type "int") = some (subTy n "int") := by
  intro n hn
  simp only [List.mem_cons, List.not_mem_nil, or_false] at hn
  rcases hn with rfl | rfl | rfl | rfl | rfl | rfl | rfl <;> kernel_rfl
theorem kit_bool (K : PySem.W.Frag) : ∀ n ∈ ["NoneType", "bool", "int", "str", "tuple", "list", "dict"], PySem.W.kitOne K (.type n) (.type "bool") = some (subTy n "bool") := by
  intro n hn
  simp only [List.mem_cons, List.not_mem_nil, or_false] at hn
  rcases hn with rfl | rfl | rfl | rfl | rfl | rfl | rfl <;> kernel_rfl
theorem kit_str (K : PySem.W.Frag) : ∀ n ∈ ["NoneType", "bool", "int", "str", "tuple", "list", "dict"], PySem.W.kitOne K (.type n) (.type "str") = some (subTy n "str") := by
  intro n hn
  simp only [List.mem_cons, List.not_mem_nil, or_false] at hn
  rcases hn with rfl | rfl | rfl | rfl | rfl | rfl | rfl <;> kernel_rfl
theorem kit_tuple (K : PySem.W.Frag) : ∀ n ∈ ["NoneType", "bool", "int", "str", "tuple", "list", "dict"], PySem.W.kitOne K (.type n) (.type "tuple") = some (subTy n "tuple") := by
  intro n hn
  simp only [List.mem_cons, List.not_mem_nil, or_false] at hn
  rcases hn with rfl | rfl | rfl | rfl | rfl | rfl | rfl <;> kernel_rfl
theorem kit_list (K : PySem.W.Frag) : ∀ n ∈ ["NoneType", "bool", "int", "str", "tuple", "list", "dict"], PySem.W.kitOne K (.type n) (.type "list") = some (subTy n "list") := by
  intro n hn
  simp only [List.mem_cons, List.not_mem_nil, or_false] at hn
  rcases hn with rfl | rfl | rfl | rfl | rfl | rfl | rfl <;> kernel_rfl
theorem kit_dict (K : PySem.W.Frag) : ∀ n ∈ ["NoneType", "bool", "int", "str", "tuple", "list", "dict"], PySem.W.kitOne K (.type n) (.type "dict") = some (subTy n "dict") := by
  intro n hn
  simp only [List.mem_cons, List.not_mem_nil, or_false] at hn
  rcases hn with rfl | rfl | rfl | rfl | rfl | rfl | rfl <;> kernel_rfl
/-- the builtin types that a law tests for -/
def kinds : List String := ["int", "bool", "str", "tuple", "list", "dict"]
/-- a class of the package as the top has it, or not at all -/
inductive Here (K : PySem.W.Frag) (mg : Str → Option Value) (c : Str) : Prop where
  | no (h : mg c = none)
  | yes (C : Addr) (h : mg c = some (.ref C)) (t : InsT K C) (m : ∀ n ∈ kinds, PySem.W.mroIn K C (.type n) = some false)
theorem Here.of {K : PySem.W.Frag} {mg : Str → Option Value} {c : Str} {C : Addr} (h : mg c = some (.ref C)) (t : InsT K C) (m1 : PySem.W.mroIn K C (.type "int") = some false) (m2 : PySem.W.mroIn K C (.type "bool") = some false) (m3 : PySem.W.mroIn K C (.type "str") = some false)
    (m4 : PySem.W.mroIn K C (.type "tuple") = some false) (m5 : PySem.W.mroIn K C (.type "list") = some false) (m6 : PySem.W.mroIn K C (.type "dict") = some false) : Here K mg c := .yes C h t fun n hn => by
  simp only [kinds, List.mem_cons, List.not_mem_nil, or_false] at hn
  rcases hn with rfl | rfl | rfl | rfl | rfl | rfl <;> assumption
theorem all7 {p : Str → Prop} (h1 : p "Web") (h2 : p "LineReader") (h3 : p "Lighter") (h4 : p "House") (h5 : p "Desk") (h6 : p "Whole") (h7 : p "Dark") : ∀ c ∈ CS, p c := fun c hc => by
  simp only [CS, List.mem_cons, List.not_mem_nil, or_false] at hc
  rcases hc with rfl | rfl | rfl | rfl | rfl | rfl | rfl <;> assumption
structure AllHere (K : PySem.W.Frag) (mg : Str → Option Value) : Prop where
  all : ∀ c ∈ CS, Here K mg c
theorem AllHere.mk7 {K : PySem.W.Frag} {mg : Str → Option Value} (h1 : Here K mg "Web") (h2 : Here K mg "LineReader") (h3 : Here K mg "Lighter") (h4 : Here K mg "House") (h5 : Here K mg "Desk") (h6 : Here K mg "Whole") (h7 : Here K mg "Dark") : AllHere K mg := ⟨fun c hc => by
  simp only [CS, List.mem_cons, List.not_mem_nil, or_false] at hc
  rcases hc with rfl | rfl | rfl | rfl | rfl | rfl | rfl <;> assumption⟩
theorem kit_ref {K : PySem.W.Frag} {C : Addr} {T : String} (hm : PySem.W.kitMeta T = true) (h : PySem.W.mroIn K C (.type T) = some false) : PySem.W.kitOne K (.ref C) (.type T) = some false := by
  unfold PySem.W.kitOne
  rw [if_neg (by simp)]
  show (if PySem.W.kitMeta T = true then PySem.W.subIn K (.ref C) (.type T) else none) = some false
  rw [if_pos hm]; exact h
section
variable {K : PySem.W.Frag} {mg : Str → Option Value}
theorem AllHere.get (A : AllHere K mg) {T : String} (hT : T ∈ kinds) (hm : PySem.W.kitMeta T = true) : ∀ c ∈ CS, ∀ C, mg c = some (.ref C) → InsT K C ∧ PySem.W.kitOne K (.ref C) (.type T) = some false := fun c hc C h => by
  rcases A.all c hc with h' | ⟨C', h', t, m⟩
  · rw [h'] at h; cases h
  · rw [h'] at h; cases h
    exact ⟨t, kit_ref hm (m T hT)⟩
theorem km_int : PySem.W.kitMeta "int" = true := by decide +kernel
theorem km_bool : PySem.W.kitMeta "bool" = true := by decide +kernel
theorem km_str : PySem.W.kitMeta "str" = true := by decide +kernel
theorem km_tuple : PySem.W.kitMeta "tuple" = true := by decide +kernel
theorem km_list : PySem.W.kitMeta "list" = true := by decide +kernel
theorem km_dict : PySem.W.kitMeta "dict" = true := by decide +kernel
theorem isa_int (A : AllHere K mg) : IsA K mg (.type "int") (D.isa CS .int) := isa_b .int (fun _ z => nomatch z) (kit_int K) (A.get (T := "int") (by decide) km_int)
theorem isa_bool (A : AllHere K mg) : IsA K mg (.type "bool") (D.isa CS .bool) := isa_b .bool (fun _ z => nomatch z) (kit_bool K) (A.get (T := "bool") (by decide) km_bool)
theorem isa_str (A : AllHere K mg) : IsA K mg (.type "str") (D.isa CS .str) := isa_b .str (fun _ z => nomatch z) (kit_str K) (A.get (T := "str") (by decide) km_str)
theorem isa_tuple (A : AllHere K mg) : IsA K mg (.type "tuple") (D.isa CS .tuple) := isa_b .tuple (fun _ z => nomatch z) (kit_tuple K) (A.get (T := "tuple") (by decide) km_tuple)
theorem isa_list (A : AllHere K mg) : IsA K mg (.type "list") (D.isa CS .list) := isa_b .list (fun _ z => nomatch z) (kit_list K) (A.get (T := "list") (by decide) km_list)
theorem isa_dict (A : AllHere K mg) : IsA K mg (.type "dict") (D.isa CS .dict) := isa_b .dict (fun _ z => nomatch z) (kit_dict K) (A.get (T := "dict") (by decide) km_dict)
theorem isa2_list_tuple (A : AllHere K mg) : IsA2 K mg (.type "list") (.type "tuple") (D.isa CS .list) (D.isa CS .tuple) :=
  isa_b2 .list .tuple (fun _ z => nomatch z) (fun _ z => nomatch z) (kit_list K) (kit_tuple K) (A.get (T := "list") (by decide) km_list) (A.get (T := "tuple") (by decide) km_tuple)
/-- tested for an own class -/
theorem kit_own {C0 : Addr} (h : ((PySem.W.clsIn K C0).isSome && PySem.W.typeIn K (.ref C0) == some (.type "type")) = true) : ∀ n ∈ ["NoneType", "bool", "int", "str", "tuple", "list", "dict"], PySem.W.kitOne K (.type n) (.ref C0) = some false := by
  intro n hn
  have e : PySem.W.kitOne K (.type n) (.ref C0) = PySem.W.subIn K (.type n) (.ref C0) := by
    unfold PySem.W.kitOne
    rw [if_neg (by simp)]
    show (if ((PySem.W.clsIn K C0).isSome && PySem.W.typeIn K (.ref C0) == some (.type "type")) = true then PySem.W.subIn K (.type n) (.ref C0) else none) = _
    rw [if_pos h]
  rw [e]
  simp only [List.mem_cons, List.not_mem_nil, or_false] at hn
  rcases hn with rfl | rfl | rfl | rfl | rfl | rfl | rfl <;> kernel_rfl
theorem kit_refs {C C0 : Addr} {b : Bool} (h : ((PySem.W.clsIn K C0).isSome && PySem.W.typeIn K (.ref C0) == some (.type "type")) = true) (m : PySem.W.mroIn K C (.ref C0) = some b) (hb : C = C0 → b = true) : PySem.W.kitOne K (.ref C) (.ref C0) = some b := by
  unfold PySem.W.kitOne
  by_cases e : C = C0
  · rw [if_pos (by simp [e]), hb e]
  · rw [if_neg (by simp [e])]
    show (if ((PySem.W.clsIn K C0).isSome && PySem.W.typeIn K (.ref C0) == some (.type "type")) = true then PySem.W.subIn K (.ref C) (.ref C0) else none) = some b
    rw [if_pos h]; exact m
theorem isa_ownA (A : AllHere K mg) (c0 : Str) {C0 : Addr} (h1 : PySem.W.isClsIn K C0 = true) (h2 : PySem.W.typeIn K (.ref C0) = some (.type "type"))
    (hm : ∀ c ∈ CS, mg c = none ∨ ∃ C, mg c = some (.ref C) ∧ PySem.W.mroIn K C (.ref C0) = some (c == c0) ∧ (C = C0 → (c == c0) = true)) : IsA K mg (.ref C0) (D.isa CS (.own c0)) :=
  have h : ((PySem.W.clsIn K C0).isSome && PySem.W.typeIn K (.ref C0) == some (.type "type")) = true := by
    have h1 : (PySem.W.clsIn K C0).isSome = true := h1
    rw [h1, h2]; simp
  isa_own c0 (kit_own h) fun c hc C e => by
    rcases hm c hc with z | ⟨C', z, m, k⟩
    · rw [z] at e; cases e
    · rw [z] at e; cases e
      rcases A.all c hc with z' | ⟨C', z', t, _⟩
      · rw [z'] at z; cases z
      · rw [z'] at z; cases z
        exact ⟨t, kit_refs h m k⟩
end

/-! ### the end -/
def spL (K : PySem.W.Frag) : Sp := fun vs H Q _ => ∃ (a : Addr) (ns : List Int), vs = [.ref a] ∧ SqL K H a (ns.map V.int) ∧ ns.length ≤ 63 ∧ (∀ z ∈ ns, Builtin.Int.intBits z ≤ 1048576) ∧ ∀ H', Q (.bl true) H'
theorem repL_ints {K : PySem.W.Frag} {mg : Str → Option Value} {F : Hp} : ∀ ns : List Int, RepL K mg F (ns.map V.int) (ns.map D.int)
  | [] => .nil
  | n :: r => .cons (.int n) (repL_ints r)
/-- what the law's meaning has to keep -/
def LawKeeps (S : Fn) : Prop := ∀ ns : List Int, ns.length ≤ 63 → (∀ z ∈ ns, Builtin.Int.intBits z ≤ 1048576) → ∃ os, S [.v (.lst (ns.map .int))] = .ret (.v (.bl true)) os
section
variable {P : Program} {w : World} {K : PySem.W.Frag} {mg : Str → Option Value} {base : Heap}
theorem law_ok {k : Nat} {f : Addr} {fd : FuncData} {S : Fn} (G : FnOk P w K mg base (L2.CX P w) k f fd ["script"] (spF K mg 1 S)) (h : LawKeeps S) : FnOk P w K mg base (L2.CX P w) k f fd ["script"] (spL K) := by
  have key : ∀ vs H Q E, spL K vs H Q E → spF K mg 1 S vs H Q E := fun vs H Q E ⟨a, ns, e, hs, hl, hb, q⟩ => by
    subst e
    obtain ⟨os, hS⟩ := h ns hl hb
    have hle : Le (fun b => if b = a then H a else none : Hp) H := fun b o e => by
      have e' : (if b = a then H a else none) = some o := e
      split at e'
      · rename_i z; rw [z]; exact e'
      · cases e'
    have hsq : SqL K (fun b => if b = a then H a else none : Hp) a (ns.map V.int) := by
      rcases hs with (z | ⟨o, z⟩) | z
      · exact .inl (.inl ((if_pos rfl).trans z))
      · exact .inl (.inr ⟨o, (if_pos rfl).trans z⟩)
      · exact .inr z
    refine ⟨rfl, _, fun _ => none, [.v (.lst (ns.map .int))], sr_vals (ds := [.lst (ns.map .int)]) hle (.cons (.lst hsq (repL_ints ns)) .nil), ?_⟩
    rw [hS]
    intro v F' H' lab' mv sr rp
    cases rp
    exact q H'
  exact ⟨fun vs H Q E z => G.len vs H Q E (key vs H Q E z), fun A outer s H as us vs Q E hr e0 hb r z => G.run A outer s H as us vs Q E hr e0 hb r (key vs H Q E z)⟩
end
theorem walk {l : PySem.W.OpenLaw} {k : Nat} {q : Program} {loose : List Str} {XP : (Str → Option Value) → Heap → Prop} {YP : World → Heap → Prop} {d : DefRec} {K : Params → PySem.W.Frag} (hn : l.most = some 63) (hdf : d.params.defaults = []) (hr : Room k callerA)
    (hY : ∀ (w : World) (h : Heap), YP w h → (K w.params).In h)
    (F : ∀ (w : World) (mg : Str → Option Value) (fa : Addr) (h : Heap), (K w.params).In h → h.Ns mainGlobals mg → mg d.name = some (.ref fa) →
      ∃ fd : FuncData, (∀ (s : Shared) (u : Value), BindsTo s fd ⟨[u], []⟩ [("script", u)]) ∧ ∀ base : Heap, (K w.params).In base → base.Ns mainGlobals mg → FnOk l.prog w (K w.params) mg base (L2.CX l.prog w) k fa fd ["script"] (spL (K w.params))) :
    PySem.W.WalkO q loose XP YP l.row.toRowW d [] (fun f vs => PySem.call f vs) :=
  L2.walk_ofB (n := 63) (k := k) (x := "script") (CX := fun w => L2.CX l.prog w) (sp := fun w => spL (K w.params)) hn (by decide) hdf hr hY F (fun _ _ a ns hl hb _ hS => ⟨a, ns, rfl, hS, hl, hb, fun _ => rfl⟩) fun _ _ _ _ _ ⟨_, _, _, _, _, _, _, _, _, _, _, _, z⟩ => z
end LW

/-! LW20: a meaning reckoned step by step: each word as a function of what its first part came to (no lambda), so that simp walks it in order. -/
namespace LW
open PySem L2
variable {α : Type}
section
variable {ρ ρ1 ρ2 : Env} {f fa fb fc : Env → Out P} {t ta tb : Env → Out Bool} {g1 g2 g : Env → Flow} {ga gb : D → D → Option P} {gu : D → Option P} {q qb qc k : Bool} {d : D} {o : O} {p p' : P} {x y : D} {i : Nat} {ar : Env → Out (List D)} {ds es : List D}
/-! names -/
def varF (z : Option (Option O)) (ρ : Env) : Out P := match z with
  | some (some (.v d)) => .ok (.v d) ρ
  | some (some (.l ds)) => .ok (.s (.lst ds)) ρ
  | some (some (.k t kvs)) => .ok (.s (.dct t kvs)) ρ
  | _ => .no
theorem sVar_w : sVar i ρ = varF ρ[i]? ρ := rfl
@[simp] theorem varF_v : varF (some (some (.v d))) ρ = .ok (.v d) ρ := rfl
@[simp] theorem varF_l : varF (some (some (.l ds))) ρ = .ok (.s (.lst ds)) ρ := rfl
@[simp] theorem varF_k {kvs : List (D × D)} : varF (some (some (.k k kvs))) ρ = .ok (.s (.dct k kvs)) ρ := rfl
def frzF (z : Option (Option O)) (i : Nat) (ρ : Env) : Out P := match z with
  | some (some o) => .ok (.v o.d) (ρ.set i (some (.v o.d)))
  | _ => .no
theorem sFrz_w : sFrz i ρ = frzF ρ[i]? i ρ := rfl
@[simp] theorem frzF_o : frzF (some (some o)) i ρ = .ok (.v o.d) (ρ.set i (some (.v o.d))) := rfl
def movF (z : Option (Option O)) (i : Nat) (ρ : Env) : Out P := match z with
  | some (some o) => .ok (.f o) (ρ.set i none)
  | _ => .no
theorem sMov_w : sMov i ρ = movF ρ[i]? i ρ := rfl
@[simp] theorem movF_o : movF (some (some o)) i ρ = .ok (.f o) (ρ.set i none) := rfl
theorem sC_w : sC d ρ = .ok (.v d) ρ := rfl
/-! let go -/
def fzF (m : Out P) : Out P := m.bind fun p ρ' => match p.fz with
  | some d => .ok (.v d) ρ'
  | none => .no
theorem sFz_w : sFz f ρ = fzF (f ρ) := rfl
@[simp] theorem fzF_v : fzF (.ok (.v d) ρ) = .ok (.v d) ρ := rfl
@[simp] theorem fzF_f : fzF (.ok (.f o) ρ) = .ok (.v o.d) ρ := rfl
@[simp] theorem fzF_x {e : EX} : fzF (.exc e ρ) = .exc e ρ := rfl
/-! a result or nothing -/
def outP (z : Option P) (ρ : Env) : Out P := match z with
  | some p => .ok p ρ
  | none => .no
@[simp] theorem outP_s : outP (some p) ρ = .ok p ρ := rfl
def opC (g : D → D → Option P) (x y : Option D) (ρ : Env) : Out P := match x, y with
  | some x, some y => (match g x y with
    | some z => .ok z ρ
    | none => .no)
  | _, _ => .no
@[simp] theorem opC_s : opC ga (some x) (some y) ρ = outP (ga x y) ρ := rfl
def opB (g : D → D → Option P) (p : P) (m : Out P) : Out P := m.bind fun p' ρ2 => opC g p.rd p'.rd ρ2
@[simp] theorem opB_ok : opB ga p (.ok p' ρ) = opC ga p.rd p'.rd ρ := rfl
@[simp] theorem opB_x {e : EX} : opB ga p (.exc e ρ) = .exc e ρ := rfl
def opA (g : D → D → Option P) (qb : Bool) (fb : Env → Out P) (m : Out P) : Out P := m.bind fun p ρ1 => if p.sure qb then opB g p (fb ρ1) else .no
theorem sOp_w : sOp ga qb fa fb ρ = opA ga qb fb (fa ρ) := rfl
@[simp] theorem opA_v : opA ga qb fb (.ok (.v d) ρ) = opB ga (.v d) (fb ρ) := rfl
@[simp] theorem opA_f : opA ga qb fb (.ok (.f o) ρ) = opB ga (.f o) (fb ρ) := rfl
@[simp] theorem opA_s : opA ga true fb (.ok (.s d) ρ) = opB ga (.s d) (fb ρ) := rfl
@[simp] theorem opA_x {e : EX} : opA ga qb fb (.exc e ρ) = .exc e ρ := rfl
@[simp] theorem rd_v : (P.v d).rd = some d := rfl
@[simp] theorem rd_s : (P.s d).rd = some d := rfl
@[simp] theorem rd_fv : (P.f (.v d)).rd = some d := rfl
@[simp] theorem rd_fl : (P.f (.l ds)).rd = some (.lst ds) := rfl
@[simp] theorem rd_fk {kvs : List (D × D)} : (P.f (.k k kvs)).rd = some (.dct k kvs) := rfl
/-! tests -/
def tbF (m : Out P) : Out Bool := m.bind fun p ρ' => match p with
  | .v (.bl k) => .ok k ρ'
  | _ => .no
theorem sTB_w : sTB f ρ = tbF (f ρ) := rfl
@[simp] theorem tbF_b : tbF (.ok (.v (.bl k)) ρ) = .ok k ρ := rfl
@[simp] theorem tbF_x {e : EX} : tbF (.exc e ρ) = .exc e ρ := rfl
def andT (tb : Env → Out Bool) (m : Out Bool) : Out Bool := m.bind fun k ρ1 => if k = true then tb ρ1 else .ok false ρ1
theorem sAndT_w : sAndT ta tb ρ = andT tb (ta ρ) := rfl
theorem andT_ok : andT tb (.ok k ρ) = if k = true then tb ρ else .ok false ρ := rfl
@[simp] theorem andT_t : andT tb (.ok true ρ) = tb ρ := rfl
@[simp] theorem andT_f : andT tb (.ok false ρ) = .ok false ρ := rfl
def orT (tb : Env → Out Bool) (m : Out Bool) : Out Bool := m.bind fun k ρ1 => if k = true then .ok true ρ1 else tb ρ1
theorem sOrT_w : sOrT ta tb ρ = orT tb (ta ρ) := rfl
theorem orT_ok : orT tb (.ok k ρ) = if k = true then .ok true ρ else tb ρ := rfl
@[simp] theorem orT_t : orT tb (.ok true ρ) = .ok true ρ := rfl
@[simp] theorem orT_f : orT tb (.ok false ρ) = tb ρ := rfl
def notT (m : Out Bool) : Out Bool := m.bind fun k ρ1 => .ok (!k) ρ1
theorem sNotT_w : sNotT ta ρ = notT (ta ρ) := rfl
@[simp] theorem notT_ok : notT (.ok k ρ) = .ok (!k) ρ := rfl
def andF (fb : Env → Out P) (m : Out P) : Out P := m.bind fun p ρ1 => match p with
  | .v (.bl true) => fb ρ1
  | .v (.bl false) => .ok (.v (.bl false)) ρ1
  | _ => .no
theorem sAnd_w : sAnd fa fb ρ = andF fb (fa ρ) := rfl
theorem andF_ok : andF fb (.ok (.v (.bl k)) ρ) = if k = true then fb ρ else .ok (.v (.bl false)) ρ := by cases k <;> rfl
@[simp] theorem andF_t : andF fb (.ok (.v (.bl true)) ρ) = fb ρ := rfl
@[simp] theorem andF_f : andF fb (.ok (.v (.bl false)) ρ) = .ok (.v (.bl false)) ρ := rfl
def orF (fb : Env → Out P) (m : Out P) : Out P := m.bind fun p ρ1 => match p with
  | .v (.bl true) => .ok (.v (.bl true)) ρ1
  | .v (.bl false) => fb ρ1
  | _ => .no
theorem sOr_w : sOr fa fb ρ = orF fb (fa ρ) := rfl
theorem orF_ok : orF fb (.ok (.v (.bl k)) ρ) = if k = true then .ok (.v (.bl true)) ρ else fb ρ := by cases k <;> rfl
@[simp] theorem orF_t : orF fb (.ok (.v (.bl true)) ρ) = .ok (.v (.bl true)) ρ := rfl
@[simp] theorem orF_f : orF fb (.ok (.v (.bl false)) ρ) = fb ρ := rfl
def notF (m : Out P) : Out P := m.bind fun p ρ1 => match p with
  | .v (.bl k) => .ok (.v (.bl (!k))) ρ1
  | _ => .no
theorem sNot_w : sNot fa ρ = notF (fa ρ) := rfl
@[simp] theorem notF_ok : notF (.ok (.v (.bl k)) ρ) = .ok (.v (.bl (!k))) ρ := rfl
def ifE (fa fb : Env → Out P) (m : Out Bool) : Out P := m.bind fun k ρ1 => if k = true then fa ρ1 else fb ρ1
theorem sIfE_w : sIfE t fa fb ρ = ifE fa fb (t ρ) := rfl
theorem ifE_ok : ifE fa fb (.ok k ρ) = if k = true then fa ρ else fb ρ := rfl
@[simp] theorem ifE_t : ifE fa fb (.ok true ρ) = fa ρ := rfl
@[simp] theorem ifE_f : ifE fa fb (.ok false ρ) = fb ρ := rfl
/-! a < b < c -/
def chD (g' : D → D → Option P) (p' : P) (m : Out P) : Out P := m.bind fun p'' ρ3 => opC g' p'.rd p''.rd ρ3
@[simp] theorem chD_ok : chD ga p (.ok p' ρ) = opC ga p.rd p'.rd ρ := rfl
def chC (g' : D → D → Option P) (qc : Bool) (fc : Env → Out P) (p' : P) (z : Option P) (ρ2 : Env) : Out P := match z with
  | some (.v (.bl true)) => (if p'.sure qc then chD g' p' (fc ρ2) else .no)
  | some (.v (.bl false)) => .ok (.v (.bl false)) ρ2
  | _ => .no
@[simp] theorem chC_tv : chC gb qc fc (.v d) (some (.v (.bl true))) ρ = chD gb (.v d) (fc ρ) := rfl
@[simp] theorem chC_ts : chC gb true fc (.s d) (some (.v (.bl true))) ρ = chD gb (.s d) (fc ρ) := rfl
@[simp] theorem chC_f : chC gb qc fc p (some (.v (.bl false))) ρ = .ok (.v (.bl false)) ρ := rfl
theorem chC_v : chC gb qc fc (.v d) (some (.v (.bl k))) ρ = if k = true then chD gb (.v d) (fc ρ) else .ok (.v (.bl false)) ρ := by cases k <;> rfl
def chB (g g' : D → D → Option P) (qc : Bool) (fc : Env → Out P) (p : P) (m : Out P) : Out P := m.bind fun p' ρ2 => match p.rd, p'.rd with
  | some x, some y => chC g' qc fc p' (g x y) ρ2
  | _, _ => .no
@[simp] theorem chB_ok {x y : D} : chB ga gb qc fc (.v x) (.ok (.v y) ρ) = chC gb qc fc (.v y) (ga x y) ρ := rfl
@[simp] theorem chB_s {x y : D} : chB ga gb qc fc (.s x) (.ok (.v y) ρ) = chC gb qc fc (.v y) (ga x y) ρ := rfl
def chA (g g' : D → D → Option P) (qb qc : Bool) (fb fc : Env → Out P) (m : Out P) : Out P := m.bind fun p ρ1 => if p.sure qb then chB g g' qc fc p (fb ρ1) else .no
theorem sChn_w : sChn ga gb qb qc fa fb fc ρ = chA ga gb qb qc fb fc (fa ρ) := rfl
@[simp] theorem chA_v : chA ga gb qb qc fb fc (.ok (.v d) ρ) = chB ga gb qc fc (.v d) (fb ρ) := rfl
@[simp] theorem chA_s : chA ga gb true qc fb fc (.ok (.s d) ρ) = chB ga gb qc fc (.s d) (fb ρ) := rfl
/-! arguments -/
theorem sNil_w : sNil ρ = .ok [] ρ := rfl
def consB (d : D) (m : Out (List D)) : Out (List D) := m.bind fun ds ρ2 => .ok (d :: ds) ρ2
@[simp] theorem consB_ok : consB d (.ok ds ρ) = .ok (d :: ds) ρ := rfl
@[simp] theorem consB_x {e : EX} : consB d (.exc e ρ) = .exc e ρ := rfl
def consA (g : Env → Out (List D)) (m : Out P) : Out (List D) := m.bind fun p ρ1 => match p with
  | .v d => consB d (g ρ1)
  | _ => .no
theorem sCons_w : sCons f ar ρ = consA ar (fzF (f ρ)) := rfl
@[simp] theorem consA_v : consA ar (.ok (.v d) ρ) = consB d (ar ρ) := rfl
@[simp] theorem consA_x {e : EX} : consA ar (.exc e ρ) = .exc e ρ := rfl
def tupF (m : Out (List D)) : Out P := m.bind fun ds ρ1 => .ok (.v (.tup ds)) ρ1
theorem sTup_w : sTup ar ρ = tupF (ar ρ) := rfl
@[simp] theorem tupF_ok : tupF (.ok ds ρ) = .ok (.v (.tup ds)) ρ := rfl
def lstF (m : Out (List D)) : Out P := m.bind fun ds ρ1 => .ok (.f (.l ds)) ρ1
theorem sLst_w : sLst ar ρ = lstF (ar ρ) := rfl
@[simp] theorem lstF_ok : lstF (.ok ds ρ) = .ok (.f (.l ds)) ρ := rfl
/-! calls of one -/
def c1B (g : D → Option P) (z : Option D) (ρ : Env) : Out P := match z with
  | some x => outP (g x) ρ
  | none => .no
@[simp] theorem c1B_s : c1B gu (some x) ρ = outP (gu x) ρ := rfl
def c1A (g : D → Option P) (m : Out P) : Out P := m.bind fun p ρ1 => c1B g p.rd ρ1
theorem sC1_w : sC1 gu f ρ = c1A gu (f ρ) := by
  unfold sC1 c1A c1B outP
  cases f ρ with
  | ok p ρ1 =>
    simp only [Out.bind_ok]
    try (cases p.rd <;> rfl)
  | _ => rfl
@[simp] theorem c1A_ok : c1A gu (.ok p ρ) = c1B gu p.rd ρ := rfl
@[simp] theorem c1A_x {e : EX} : c1A gu (.exc e ρ) = .exc e ρ := rfl
/-! calls of defs -/
variable {S : Fn} {os : List O}
def callB (r : FR) (ρ : Env) : Out P := match r with
  | .ret p _ => .ok p ρ
  | .exc x _ => .exc x ρ
  | .no => .no
@[simp] theorem callB_r : callB (.ret p os) ρ = .ok p ρ := rfl
@[simp] theorem callB_x {e : EX} : callB (.exc e os) ρ = .exc e ρ := rfl
def callA (S : Fn) (m : Out (List D)) : Out P := m.bind fun ds ρ1 => callB (S (ds.map .v)) ρ1
theorem sCall_w : sCall S ar ρ = callA S (ar ρ) := rfl
@[simp] theorem callA_ok : callA S (.ok ds ρ) = callB (S (ds.map .v)) ρ := rfl
@[simp] theorem callA_x {e : EX} : callA S (.exc e ρ) = .exc e ρ := rfl
def cmC (i : Nat) (r : FR) (ρ : Env) : Out P := match r with
  | .ret p (o' :: _) => .ok p (ρ.set i (some o'))
  | .exc x (o' :: _) => .exc x (ρ.set i (some o'))
  | _ => .no
@[simp] theorem cmC_r : cmC i (.ret p (o :: os)) ρ = .ok p (ρ.set i (some o)) := rfl
@[simp] theorem cmC_x {e : EX} : cmC i (.exc e (o :: os)) ρ = .exc e (ρ.set i (some o)) := rfl
def cmB (S : Fn) (i : Nat) (ds : List D) (z : Option (Option O)) (ρ : Env) : Out P := match z with
  | some (some o) => cmC i (S (o :: ds.map .v)) ρ
  | _ => .no
@[simp] theorem cmB_s : cmB S i ds (some (some o)) ρ = cmC i (S (o :: ds.map .v)) ρ := rfl
def cmA (S : Fn) (i : Nat) (m : Out (List D)) : Out P := m.bind fun ds ρ1 => cmB S i ds ρ1[i]? ρ1
@[simp] theorem cmA_ok : cmA S i (.ok ds ρ) = cmB S i ds ρ[i]? ρ := rfl
def cm0 (S : Fn) (i : Nat) (g : Env → Out (List D)) (z : Option (Option O)) (ρ : Env) : Out P := match z with
  | some (some _) => cmA S i (g ρ)
  | _ => .no
theorem sCallM_w : sCallM S i ar ρ = cm0 S i ar ρ[i]? ρ := rfl
@[simp] theorem cm0_s : cm0 S i ar (some (some o)) ρ = cmA S i (ar ρ) := rfl
/-! statements -/
def seqF (g2 : Env → Flow) (m : Flow) : Flow := match m with
  | .next ρ1 => g2 ρ1
  | fl => fl
theorem sSeq_w : sSeq g1 g2 ρ = seqF g2 (g1 ρ) := rfl
@[simp] theorem seqF_n : seqF g (.next ρ) = g ρ := rfl
@[simp] theorem seqF_r : seqF g (.ret p ρ) = .ret p ρ := rfl
@[simp] theorem seqF_x {e : EX} : seqF g (.exc e ρ) = .exc e ρ := rfl
@[simp] theorem seqF_b : seqF g (.brk ρ) = .brk ρ := rfl
@[simp] theorem seqF_c : seqF g (.cont ρ) = .cont ρ := rfl
def ifS (g1 g2 : Env → Flow) (m : Out Bool) : Flow := flow m fun k ρ1 => if k = true then g1 ρ1 else g2 ρ1
theorem sIf_w : sIf t g1 g2 ρ = ifS g1 g2 (t ρ) := rfl
theorem ifS_ok : ifS g1 g2 (.ok k ρ) = if k = true then g1 ρ else g2 ρ := rfl
@[simp] theorem ifS_t : ifS g1 g2 (.ok true ρ) = g1 ρ := rfl
@[simp] theorem ifS_f : ifS g1 g2 (.ok false ρ) = g2 ρ := rfl
@[simp] theorem ifS_x {e : EX} : ifS g1 g2 (.exc e ρ) = .exc e ρ := rfl
def expF (m : Out P) : Flow := flow m fun _ ρ1 => .next ρ1
theorem sExp_w : sExp f ρ = expF (f ρ) := rfl
@[simp] theorem expF_ok : expF (.ok p ρ) = .next ρ := rfl
@[simp] theorem expF_x {e : EX} : expF (.exc e ρ) = .exc e ρ := rfl
def retF (m : Out P) : Flow := flow m fun p ρ1 => match p with
  | .s _ => .no
  | p => .ret p ρ1
theorem sRet_w : sRet f ρ = retF (f ρ) := rfl
@[simp] theorem retF_v : retF (.ok (.v d) ρ) = .ret (.v d) ρ := rfl
@[simp] theorem retF_f : retF (.ok (.f o) ρ) = .ret (.f o) ρ := rfl
@[simp] theorem retF_x {e : EX} : retF (.exc e ρ) = .exc e ρ := rfl
def setF (i : Nat) (m : Out P) : Flow := flow m fun p ρ1 => match p with
  | .v d => .next (ρ1.set i (some (.v d)))
  | .f o => .next (ρ1.set i (some o))
  | .s _ => .no
theorem sSet_w : sSet i f ρ = setF i (f ρ) := rfl
@[simp] theorem setF_v : setF i (.ok (.v d) ρ) = .next (ρ.set i (some (.v d))) := rfl
@[simp] theorem setF_f : setF i (.ok (.f o) ρ) = .next (ρ.set i (some o)) := rfl
@[simp] theorem setF_x {e : EX} : setF i (.exc e ρ) = .exc e ρ := rfl
def parF (i j : Nat) (m : Out (List D)) : Flow := flow m fun ds ρ1 => match ds with
  | [a, b] => .next ((ρ1.set i (some (.v a))).set j (some (.v b)))
  | _ => .no
variable {j : Nat}
theorem sPar_w : sPar i j ar ρ = parF i j (ar ρ) := rfl
@[simp] theorem parF_ok : parF i j (.ok [x, y] ρ) = .next ((ρ.set i (some (.v x))).set j (some (.v y))) := rfl
/-! a def -/
variable {n m : Nat} {body : Env → Flow} {own : Bool} {s : Flow}
def endF (own : Bool) (os : List O) (fl : Flow) : FR := match fl with
  | .next ρ => (match outs own os ρ with | some os' => .ret (.v .non) os' | none => .no)
  | .ret p ρ => (match outs own os ρ with | some os' => .ret p os' | none => .no)
  | .exc x ρ => (match outs own os ρ with | some os' => .exc x os' | none => .no)
  | _ => .no
theorem runFn_w : runFn own n m body os = if os.length = n ∧ LW.argsOk own os = true then endF own os (body (os.map some ++ List.replicate (m - n) none)) else .no := rfl
@[simp] theorem endF_rf : endF false os (.ret p ρ) = .ret p os := rfl
@[simp] theorem endF_nf : endF false os (.next ρ) = .ret (.v .non) os := rfl
@[simp] theorem endF_xf {e : EX} : endF false os (.exc e ρ) = .exc e os := rfl
variable {r : List O}
@[simp] theorem endF_rt : endF true (o :: r) (.ret p (some o :: ρ)) = .ret p (o :: r) := rfl
theorem endF_rt' {o' : O} : endF true (o :: r) (.ret p (some o' :: ρ)) = .ret p (o' :: r) := rfl
theorem endF_nt' {o' : O} : endF true (o :: r) (.next (some o' :: ρ)) = .ret (.v .non) (o' :: r) := rfl
theorem endF_xt' {o' : O} {e : EX} : endF true (o :: r) (.exc e (some o' :: ρ)) = .exc e (o' :: r) := rfl
/-! what is walked -/
def seqH (m : Out P) : Out (List D) := m.bind fun p ρ1 => match p with
  | .v d => (match itemsOf d with
    | some ds => .ok ds ρ1
    | none => .no)
  | _ => .no
theorem hSeq_w : hSeq f ρ = seqH (fzF (f ρ)) := rfl
@[simp] theorem seqH_l : seqH (.ok (.v (.lst ds)) ρ) = .ok ds ρ := rfl
@[simp] theorem seqH_t : seqH (.ok (.v (.tup ds)) ρ) = .ok ds ρ := rfl
theorem seqH_s {z : Str} (h : z.length ≤ sizeLine) : seqH (.ok (.v (.str z)) ρ) = .ok (z.cps.toList.map fun c => .str ⟨#[c]⟩) ρ := by
  have e : itemsOf (.str z) = some (z.cps.toList.map fun c => D.str ⟨#[c]⟩) := if_pos h
  show (match itemsOf (.str z) with | some ds => Out.ok ds ρ | none => .no) = _
  rw [e]
def rng1 (m : Out P) : Out (List D) := m.bind fun p ρ1 => match p with
  | .v (.int n) => if -1000000 ≤ n ∧ n ≤ 1000000 then .ok (rangeD 0 n) ρ1 else .no
  | _ => .no
theorem hRange1_w : hRange1 f ρ = rng1 (f ρ) := rfl
theorem rng1_ok {n : Int} : rng1 (.ok (.v (.int n)) ρ) = if -1000000 ≤ n ∧ n ≤ 1000000 then .ok (rangeD 0 n) ρ else .no := rfl
def enumH (m : Out P) : Out (List D) := m.bind fun p ρ1 => match p with
  | .v (.lst ds) => if ds.length ≤ sizeLine then .ok (enumD ds) ρ1 else .no
  | _ => .no
theorem hEnum_w : hEnum f ρ = enumH (fzF (f ρ)) := rfl
theorem enumH_ok : enumH (.ok (.v (.lst ds)) ρ) = if ds.length ≤ sizeLine then .ok (enumD ds) ρ else .no := rfl
/-! for -/
variable {tg : D → Env → Option Env} {h : Env → Out (List D)}
def forB (tg : D → Env → Option Env) (body : Env → Flow) (r : List D) (fl : Flow) : Flow := match fl with
  | .next ρ2 => forL tg body r ρ2
  | .cont ρ2 => forL tg body r ρ2
  | .brk ρ2 => .next ρ2
  | fl => fl
@[simp] theorem forB_n : forB tg g ds (.next ρ) = forL tg g ds ρ := rfl
@[simp] theorem forB_c : forB tg g ds (.cont ρ) = forL tg g ds ρ := rfl
@[simp] theorem forB_b : forB tg g ds (.brk ρ) = .next ρ := rfl
@[simp] theorem forB_r : forB tg g ds (.ret p ρ) = .ret p ρ := rfl
@[simp] theorem forB_x {e : EX} : forB tg g ds (.exc e ρ) = .exc e ρ := rfl
def forA (tg : D → Env → Option Env) (body : Env → Flow) (r : List D) (z : Option Env) : Flow := match z with
  | none => .no
  | some ρ1 => forB tg body r (body ρ1)
@[simp] theorem forA_s : forA tg g ds (some ρ) = forB tg g ds (g ρ) := rfl
theorem forL_c : forL tg g (d :: ds) ρ = forA tg g ds (tg d ρ) := by
  show forL tg g (d :: ds) ρ = _
  unfold forL forA forB
  cases tg d ρ with
  | none => rfl
  | some ρ1 => simp only; try (cases g ρ1 <;> rfl)
@[simp] theorem forL_n : forL tg g [] ρ = .next ρ := rfl
def forF (tg : D → Env → Option Env) (body : Env → Flow) (m : Out (List D)) : Flow := flow m fun ds ρ1 => forL tg body ds ρ1
theorem sFor_w : sFor h tg g ρ = forF tg g (h ρ) := rfl
@[simp] theorem forF_ok : forF tg g (.ok ds ρ) = forL tg g ds ρ := rfl
@[simp] theorem gSet_w : gSet i d ρ = some (ρ.set i (some (.v d))) := rfl
/-! comprehensions -/
variable {ow : List Nat} {acc : List D}
def lcC (own : List Nat) (tg : D → Env → Option Env) (t : Env → Out Bool) (f : Env → Out P) (r acc : List D) (m : Out P) : Out (List D) := match m with
  | .ok (.v y) ρ3 => lcL own tg t f r (acc ++ [y]) (wipeE ρ3 own)
  | _ => .no
@[simp] theorem lcC_ok : lcC ow tg t f ds acc (.ok (.v d) ρ) = lcL ow tg t f ds (acc ++ [d]) (wipeE ρ ow) := rfl
def lcB (own : List Nat) (tg : D → Env → Option Env) (t : Env → Out Bool) (f : Env → Out P) (r acc : List D) (m : Out Bool) : Out (List D) := match m with
  | .ok false ρ2 => lcL own tg t f r acc (wipeE ρ2 own)
  | .ok true ρ2 => lcC own tg t f r acc (sFz f ρ2)
  | _ => .no
@[simp] theorem lcB_f : lcB ow tg t f ds acc (.ok false ρ) = lcL ow tg t f ds acc (wipeE ρ ow) := rfl
@[simp] theorem lcB_t : lcB ow tg t f ds acc (.ok true ρ) = lcC ow tg t f ds acc (sFz f ρ) := rfl
def lcA (own : List Nat) (tg : D → Env → Option Env) (t : Env → Out Bool) (f : Env → Out P) (r acc : List D) (z : Option Env) : Out (List D) := match z with
  | none => .no
  | some ρ1 => lcB own tg t f r acc (t ρ1)
@[simp] theorem lcA_s : lcA ow tg t f ds acc (some ρ) = lcB ow tg t f ds acc (t ρ) := rfl
theorem lcL_c : lcL ow tg t f (d :: ds) acc ρ = lcA ow tg t f ds acc (tg d ρ) := by
  unfold lcL lcA
  cases tg d ρ with
  | none => rfl
  | some ρ1 =>
    simp only
    unfold lcB
    cases t ρ1 with
    | ok b ρ2 => cases b <;> rfl
    | _ => rfl
@[simp] theorem lcL_n : lcL ow tg t f [] acc ρ = .ok acc ρ := rfl
theorem sYes_w : sYes ρ = .ok true ρ := rfl
def lcE (own : List Nat) (ρ1 : Env) (m : Out (List D)) : Out P := m.bind fun acc ρ2 => .ok (.f (.l acc)) (restE ρ1 ρ2 own)
@[simp] theorem lcE_ok : lcE ow ρ1 (.ok acc ρ) = .ok (.f (.l acc)) (restE ρ1 ρ ow) := rfl
def lcF (own : List Nat) (tg : D → Env → Option Env) (t : Env → Out Bool) (f : Env → Out P) (m : Out (List D)) : Out P := m.bind fun ds ρ1 => if ownOk ρ1 own = true then lcE own ρ1 (lcL own tg t f ds [] (wipeE ρ1 own)) else .no
theorem sLc_w : sLc ow h tg t f ρ = lcF ow tg t f (h ρ) := rfl
theorem lcF_ok : lcF ow tg t f (.ok ds ρ) = if ownOk ρ ow = true then lcE ow ρ (lcL ow tg t f ds [] (wipeE ρ ow)) else .no := rfl
/-! a comprehension over plain data: what each item gives -/
def lcMap (φ : D → Option (Option D)) : List D → Option (List D)
  | [] => some []
  | d :: r => match φ d, lcMap φ r with
    | some (some y), some ys => some (y :: ys)
    | some none, some ys => some ys
    | _, _ => none
theorem lcL_map {φ : D → Option (Option D)} {ρ0 : Env} : ∀ {ds acc ys : List D}, (∀ d ∈ ds, ∀ z, φ d = some z → ∃ ρ1 ρ2, tg d ρ0 = some ρ1 ∧ (match z with
      | none => t ρ1 = .ok false ρ2
      | some y => ∃ ρ3, t ρ1 = .ok true ρ3 ∧ sFz f ρ3 = .ok (.v y) ρ2) ∧ wipeE ρ2 ow = ρ0) → lcMap φ ds = some ys → lcL ow tg t f ds acc ρ0 = .ok (acc ++ ys) ρ0
  | [], acc, ys, _, e => by cases e; simp
  | d :: r, acc, ys, hh, e => by
    unfold lcMap at e
    rw [lcL_c]
    split at e
    · rename_i y zs e1 e2
      cases e
      obtain ⟨ρ1, ρ2, h1, ⟨ρ3, h2, h3⟩, h4⟩ := hh d List.mem_cons_self _ e1
      rw [h1, lcA_s, h2, lcB_t, h3, lcC_ok, h4, lcL_map (fun d hd => hh d (List.mem_cons_of_mem _ hd)) e2]
      simp
    · rename_i zs e1 e2
      cases e
      obtain ⟨ρ1, ρ2, h1, h2, h4⟩ := hh d List.mem_cons_self _ e1
      rw [h1, lcA_s, h2, lcB_f, h4, lcL_map (fun d hd => hh d (List.mem_cons_of_mem _ hd)) e2]
    · cases e
/-! places -/
variable {cl fl : Str}
def fldF (c f : Str) (z : Option O) (ρ : Env) : Out P := match z with
  | some (.v (.ins c' fs)) => if c' = c then (match lookD f fs with
    | some d => .ok (.v d) ρ
    | none => .no) else .no
  | some (.i c' fs) => if c' = c then (match lookO f fs with
    | some (.v d) => .ok (.v d) ρ
    | some (.l ds) => .ok (.s (.lst ds)) ρ
    | some (.k t kvs) => .ok (.s (.dct t kvs)) ρ
    | _ => .no) else .no
  | _ => .no
theorem sFld_w : sFld i cl fl ρ = fldF cl fl (getS ρ i) ρ := rfl
end
section
variable {ρ ρ1 : Env} {f fi fv : Env → Out P} {p : Pl} {d : D} {o : O} {i j n : Nat} {ds : List D} {x : Int}
def sIxE (p : Pl) (d : D) (ds : List D) (z : Option Nat) (ρ : Env) : Flow := match z with
  | some j => .next (setPl ρ (.l (ds.set j d)) p)
  | none => .no
@[simp] theorem sIxE_s : sIxE p d ds (some j) ρ = .next (setPl ρ (.l (ds.set j d)) p) := rfl
def sIxD (p : Pl) (d : D) (i : Int) (z : Option O) (ρ : Env) : Flow := match z with
  | some (.l ds) => sIxE p d ds (ixN ds.length i) ρ
  | _ => .no
@[simp] theorem sIxD_s : sIxD p d x (some (.l ds)) ρ = sIxE p d ds (ixN ds.length x) ρ := rfl
def sIxC (p : Pl) (d : D) (m : Out P) : Flow := flow m fun q2 ρ2 => match q2 with
  | .v (.int i) => sIxD p d i (getPl ρ2 p) ρ2
  | _ => .no
@[simp] theorem sIxC_s : sIxC p d (.ok (.v (.int x)) ρ) = sIxD p d x (getPl ρ p) ρ := rfl
def sIxB (p : Pl) (fi : Env → Out P) (d : D) (z : Option O) (ρ : Env) : Flow := match z with
  | some (.l _) => sIxC p d (fi ρ)
  | _ => .no
@[simp] theorem sIxB_s : sIxB p fi d (some (.l ds)) ρ = sIxC p d (fi ρ) := rfl
def sIxA (p : Pl) (fi : Env → Out P) (m : Out P) : Flow := flow m fun q ρ1 => match q with
  | .v d => sIxB p fi d (getPl ρ1 p) ρ1
  | _ => .no
@[simp] theorem sIxA_s : sIxA p fi (.ok (.v d) ρ) = sIxB p fi d (getPl ρ p) ρ := rfl
theorem sSetIx_w : sSetIx p fv fi ρ = sIxA p fi (fzF (fv ρ)) := by
  show flow (fzF (fv ρ)) _ = flow (fzF (fv ρ)) _
  congr 1
  funext q ρ1
  cases q with
  | v d =>
    simp only
    cases getPl ρ1 p with
    | none => rfl
    | some o =>
      cases o with
      | l ds0 =>
        show flow (fi ρ1) _ = flow (fi ρ1) _
        congr 1
        funext q2 ρ2
        cases q2 with
        | v d2 =>
          cases d2 <;> try rfl
          simp only
          cases getPl ρ2 p with
          | none => rfl
          | some o =>
            cases o <;> try rfl
        | _ => rfl
      | _ => rfl
  | _ => rfl
theorem getPl_sl : getPl ρ (.sl i) = getS ρ i := rfl
theorem setPl_sl : setPl ρ o (.sl i) = ρ.set i (some o) := rfl
theorem getS_w : getS ρ i = (ρ[i]?).getD none := by unfold getS; cases ρ[i]? <;> rfl
/-! methods of lists -/
def lmC (g : List D → D → Option (D × List D)) (p : Pl) (z : Option (D × List D)) (ρ : Env) : Out P := match z with
  | some (res, ds') => .ok (.v res) (setPl ρ (.l ds') p)
  | none => .no
variable {gl : List D → D → Option (D × List D)} {es : List D} {r : D}
@[simp] theorem lmC_s : lmC gl p (some (r, es)) ρ = .ok (.v r) (setPl ρ (.l es) p) := rfl
def lmB (g : List D → D → Option (D × List D)) (p : Pl) (d : D) (z : Option O) (ρ : Env) : Out P := match z with
  | some (.l ds) => lmC g p (g ds d) ρ
  | _ => .no
@[simp] theorem lmB_s : lmB gl p d (some (.l ds)) ρ = lmC gl p (gl ds d) ρ := rfl
def lmA (g : List D → D → Option (D × List D)) (p : Pl) (m : Out P) : Out P := m.bind fun q ρ1 => match q with
  | .v d => lmB g p d (getPl ρ1 p) ρ1
  | _ => .no
@[simp] theorem lmA_s : lmA gl p (.ok (.v d) ρ) = lmB gl p d (getPl ρ p) ρ := rfl
def lm0 (g : List D → D → Option (D × List D)) (p : Pl) (f : Env → Out P) (z : Option O) (ρ : Env) : Out P := match z with
  | some (.l _) => lmA g p (fzF (f ρ))
  | _ => .no
@[simp] theorem lm0_s : lm0 gl p f (some (.l ds)) ρ = lmA gl p (fzF (f ρ)) := rfl
theorem sLm_w : sLm gl p f ρ = lm0 gl p f (getPl ρ p) ρ := by
  unfold sLm lm0
  cases getPl ρ p with
  | none => rfl
  | some o =>
    cases o with
    | l ds0 =>
      show (fzF (f ρ)).bind _ = (fzF (f ρ)).bind _
      congr 1
      funext q ρ1
      cases q with
      | v d =>
        simp only
        cases getPl ρ1 p with
        | none => rfl
        | some o => cases o <;> rfl
      | _ => rfl
    | _ => rfl
/-! slices -/
variable {fl fh : Env → Out (Option Int)} {q : Bool} {lo hi : Option Int} {v : P}
def slC (x : Option D) (lo hi : Option Int) (ρ : Env) : Out P := match x with
  | some x => outP (gSl x lo hi) ρ
  | none => .no
@[simp] theorem slC_s : slC (some d) lo hi ρ = outP (gSl d lo hi) ρ := rfl
def slH (v : P) (lo : Option Int) (m : Out (Option Int)) : Out P := m.bind fun h ρ => slC v.rd lo h ρ
@[simp] theorem slH_s : slH v lo (.ok hi ρ) = slC v.rd lo hi ρ := rfl
def slL (v : P) (fh : Env → Out (Option Int)) (m : Out (Option Int)) : Out P := m.bind fun l ρ => slH v l (fh ρ)
@[simp] theorem slL_s : slL v fh (.ok lo ρ) = slH v lo (fh ρ) := rfl
def slA (q : Bool) (fl fh : Env → Out (Option Int)) (m : Out P) : Out P := m.bind fun p ρ1 => if p.sure q then slL p fh (fl ρ1) else .no
@[simp] theorem slA_v : slA q fl fh (.ok (.v d) ρ) = slL (.v d) fh (fl ρ) := rfl
@[simp] theorem slA_f : slA q fl fh (.ok (.f o) ρ) = slL (.f o) fh (fl ρ) := rfl
@[simp] theorem slA_t : slA true fl fh (.ok (.s d) ρ) = slL (.s d) fh (fl ρ) := rfl
theorem sSl_w : sSl q f fl fh ρ = slA q fl fh (f ρ) := rfl
def oPF (m : Out P) : Out (Option Int) := m.bind fun p ρ1 => match p with
  | .v (.int i) => .ok (some i) ρ1
  | _ => .no
theorem oPart_w : oPart f ρ = oPF (f ρ) := rfl
@[simp] theorem oPF_s : oPF (.ok (.v (.int x)) ρ) = .ok (some x) ρ := rfl
theorem oNone_w : oNone ρ = .ok none ρ := rfl
/-! methods of texts -/
variable {gm : Str → D → Option P} {fa fb : Env → Out P} {a : Str}
def m1C (g : Str → D → Option P) (a : Str) (z : Option D) (ρ : Env) : Out P := match z with
  | some d => outP (g a d) ρ
  | none => .no
@[simp] theorem m1C_s : m1C gm a (some d) ρ = outP (gm a d) ρ := rfl
def m1B (g : Str → D → Option P) (a : Str) (m : Out P) : Out P := m.bind fun p' ρ2 => m1C g a p'.rd ρ2
@[simp] theorem m1B_s : m1B gm a (.ok v ρ) = m1C gm a v.rd ρ := rfl
def m1A (g : Str → D → Option P) (fb : Env → Out P) (m : Out P) : Out P := m.bind fun p ρ1 => match p with
  | .v (.str a) => m1B g a (fb ρ1)
  | _ => .no
@[simp] theorem m1A_s : m1A gm fb (.ok (.v (.str a)) ρ) = m1B gm a (fb ρ) := rfl
theorem sM1_w : sM1 gm fa fb ρ = m1A gm fb (fa ρ) := rfl
/-! places in lists -/
theorem ix_nat (h : 0 ≤ x) : gIx2 (.lst ds) (.int x) = (ds[x.toNat]?).map P.v := by
  show (L2.atI ds x).map P.v = _
  unfold L2.atI ixN
  rw [if_pos h]
  by_cases h2 : x < ds.length
  · rw [if_pos h2]; rfl
  · rw [if_neg h2, List.getElem?_eq_none (by omega)]; rfl
theorem ix_natT (h : 0 ≤ x) : gIx2 (.tup ds) (.int x) = (ds[x.toNat]?).map P.v := ix_nat (ds := ds) h
end
section
variable {ρ ρ0 : Env} {i : Nat} {r : List Nat} {d : D}
def freeO (z : Option O) : Bool := match z with
  | none => true
  | some (.v _) => true
  | _ => false
@[simp] theorem freeO_n : freeO none = true := rfl
@[simp] theorem freeO_v : freeO (some (.v d)) = true := rfl
theorem ownOk_n : ownOk ρ [] = true := rfl
theorem ownOk_c : ownOk ρ (i :: r) = (freeO (getS ρ i) && ownOk ρ r) := rfl
theorem wipeE_n : wipeE ρ [] = ρ := rfl
theorem wipeE_c : wipeE ρ (i :: r) = (wipeE ρ r).set i none := rfl
theorem restE_n : restE ρ0 ρ [] = ρ := rfl
theorem restE_c : restE ρ0 ρ (i :: r) = (restE ρ0 ρ r).set i (getS ρ0 i) := rfl
end
section
variable {ρ ρ1 ρ2 : Env} {i n : Nat} {ow : List Nat} {d k v : D} {o o' : O} {p : P} {c f m : Str} {fs : List (Str × O)} {fe fa fb : Env → Out P} {ds : List D} {acc : List (D × D)} {tb : Bool} {h : Env → Out (List D)} {tg : D → Env → Option Env} {t : Env → Out Bool} {fk fv : Env → Out P} {S : Fn} {ar : Env → Out (List D)} {os : List O}
/-! dict comprehensions -/
def dcE (own : List Nat) (t : Bool) (ρ1 : Env) (m : Out (List (D × D))) : Out P := m.bind fun acc ρ2 => .ok (.f (.k t acc)) (restE ρ1 ρ2 own)
@[simp] theorem dcE_ok : dcE ow tb ρ1 (.ok acc ρ) = .ok (.f (.k tb acc)) (restE ρ1 ρ ow) := rfl
def dcF (tb : Bool) (own : List Nat) (tg : D → Env → Option Env) (t : Env → Out Bool) (fk fv : Env → Out P) (m : Out (List D)) : Out P := m.bind fun ds ρ1 => if ownOk ρ1 own = true then dcE own tb ρ1 (dcL tb own tg t fk fv ds [] (wipeE ρ1 own)) else .no
theorem sDc_w : sDc tb ow h tg t fk fv ρ = dcF tb ow tg t fk fv (h ρ) := rfl
theorem dcF_ok : dcF tb ow tg t fk fv (.ok ds ρ) = if ownOk ρ ow = true then dcE ow tb ρ (dcL tb ow tg t fk fv ds [] (wipeE ρ ow)) else .no := rfl
/-- keys that are all new -/
def freshK : List D → List (D × D) → Bool
  | [], _ => true
  | d :: r, acc => !hasK d acc && freshK r (acc ++ [(d, d)])
theorem hasK_snd {d : D} : ∀ {a b : List (D × D)}, a.map (·.1) = b.map (·.1) → hasK d a = hasK d b := fun {a b} e => by
  unfold hasK
  have : ∀ l : List (D × D), (l.any fun kv => kv.1.keq d) = (l.map (·.1)).any fun k => k.keq d := fun l => by rw [List.any_map]; rfl
  rw [this, this, e]
theorem freshK_fst : ∀ {ds : List D} {a b : List (D × D)}, a.map (·.1) = b.map (·.1) → freshK ds a = freshK ds b
  | [], _, _, _ => rfl
  | d :: r, a, b, e => by
    unfold freshK
    rw [hasK_snd e, freshK_fst (ds := r) (a := a ++ [(d, d)]) (b := b ++ [(d, d)]) (by simp [e])]
theorem dcL_new {ρ0 : Env} {v : D} : ∀ {ds : List D} {acc : List (D × D)}, (∀ d ∈ ds, d.keyAt tb = true ∧ ∃ ρ1 ρ2 ρ3 ρ4, tg d ρ0 = some ρ1 ∧ t ρ1 = .ok true ρ2 ∧ sFz fk ρ2 = .ok (.v d) ρ3 ∧ sFz fv ρ3 = .ok (.v v) ρ4 ∧ wipeE ρ4 ow = ρ0) → freshK ds acc = true →
    dcL tb ow tg t fk fv ds acc ρ0 = .ok (acc ++ ds.map fun d => (d, v)) ρ0
  | [], acc, _, _ => by simp [dcL]
  | d :: r, acc, hh, e => by
    obtain ⟨h0, ρ1, ρ2, ρ3, ρ4, h1, h2, h3, h4, h5⟩ := hh d List.mem_cons_self
    unfold freshK at e
    simp only [Bool.and_eq_true, Bool.not_eq_true'] at e
    unfold dcL
    rw [h1]
    simp only
    rw [h2]
    simp only
    rw [h3]
    simp only
    rw [h4]
    simp only
    rw [if_pos h0, h5]
    have es : setK d v acc = acc ++ [(d, v)] := by unfold setK; rw [if_neg (by rw [e.1]; exact Bool.false_ne_true)]
    rw [es, dcL_new (fun x hx => hh x (List.mem_cons_of_mem _ hx)) (by rw [← e.2]; exact freshK_fst (by simp))]
    simp
/-! fields -/
def stfB (i : Nat) (c f : Str) (p : P) (z : Option O) (ρ1 : Env) : Flow := match z with
  | some (.i c' fs) => if c' = c ∧ fs.length < 1000 then (match p with
    | .v d => .next (ρ1.set i (some (.i c (putO f (.v d) fs))))
    | .f o => .next (ρ1.set i (some (.i c (putO f o fs))))
    | .s _ => .no) else .no
  | _ => .no
theorem stfB_v (hl : fs.length < 1000) : stfB i c f (.v d) (some (.i c fs)) ρ = .next (ρ.set i (some (.i c (putO f (.v d) fs)))) := if_pos ⟨rfl, hl⟩
theorem stfB_f (hl : fs.length < 1000) : stfB i c f (.f o) (some (.i c fs)) ρ = .next (ρ.set i (some (.i c (putO f o fs)))) := if_pos ⟨rfl, hl⟩
def stfA (i : Nat) (c f : Str) (m : Out P) : Flow := flow m fun p ρ1 => stfB i c f p (getS ρ1 i) ρ1
theorem sSetF_w : sSetF i c f fe ρ = stfA i c f (fe ρ) := rfl
@[simp] theorem stfA_ok : stfA i c f (.ok p ρ) = stfB i c f p (getS ρ i) ρ := rfl
def gplF (c f : Str) (z : Option O) : Option O := match z with
  | some (.i c' fs) => if c' = c then lookO f fs else none
  | _ => none
theorem getPl_fd : getPl ρ (.fd i c f) = gplF c f (getS ρ i) := rfl
theorem gplF_i : gplF c f (some (.i c fs)) = lookO f fs := if_pos rfl
def splF (i : Nat) (f : Str) (o : O) (z : Option O) (ρ : Env) : Env := match z with
  | some (.i c fs) => ρ.set i (some (.i c (putO f o fs)))
  | _ => ρ
theorem setPl_fd : setPl ρ o (.fd i c f) = splF i f o (getS ρ i) ρ := rfl
@[simp] theorem splF_i : splF i f o (some (.i c fs)) ρ = ρ.set i (some (.i c (putO f o fs))) := rfl
theorem fldF_v {gs : List (Str × D)} (e : lookD f gs = some d) : fldF c f (some (.v (.ins c gs))) ρ = .ok (.v d) ρ := by
  show (if c = c then (match lookD f gs with | some d => Out.ok (P.v d) ρ | none => .no) else .no) = _
  rw [if_pos rfl, e]
theorem fldF_iv (e : lookO f fs = some (.v d)) : fldF c f (some (.i c fs)) ρ = .ok (.v d) ρ := by
  show (if c = c then (match lookO f fs with | some (.v d) => Out.ok (P.v d) ρ | some (.l ds) => .ok (.s (.lst ds)) ρ | some (.k t kvs) => .ok (.s (.dct t kvs)) ρ | _ => .no) else .no) = _
  rw [if_pos rfl, e]
theorem fldF_il (e : lookO f fs = some (.l ds)) : fldF c f (some (.i c fs)) ρ = .ok (.s (.lst ds)) ρ := by
  show (if c = c then (match lookO f fs with | some (.v d) => Out.ok (P.v d) ρ | some (.l ds) => .ok (.s (.lst ds)) ρ | some (.k t kvs) => .ok (.s (.dct t kvs)) ρ | _ => .no) else .no) = _
  rw [if_pos rfl, e]
def fzA (i : Nat) (c f : Str) (z : Option O) (ρ : Env) : Out P := match z with
  | some (.v (.ins c' fs)) => if c' = c then (match lookD f fs with
    | some d => .ok (.v d) ρ
    | none => .no) else .no
  | some (.i c' fs) => if c' = c then (match lookO f fs with
    | some o => .ok (.v o.d) (ρ.set i (some (.i c (putO f (.v o.d) fs))))
    | none => .no) else .no
  | _ => .no
theorem sFldZ_w : sFldZ i c f ρ = fzA i c f (getS ρ i) ρ := rfl
theorem fzA_i (e : lookO f fs = some o) : fzA i c f (some (.i c fs)) ρ = .ok (.v o.d) (ρ.set i (some (.i c (putO f (.v o.d) fs)))) := by
  show (if c = c then (match lookO f fs with | some o => Out.ok (P.v o.d) (ρ.set i (some (.i c (putO f (.v o.d) fs)))) | none => .no) else .no) = _
  rw [if_pos rfl, e]
/-! instances made, methods -/
def mkB (r : FR) (ρ : Env) : Out P := match r with
  | .ret (.v .non) (o :: _) => .ok (.f o) ρ
  | .exc x _ => .exc x ρ
  | _ => .no
@[simp] theorem mkB_r : mkB (.ret (.v .non) (o :: os)) ρ = .ok (.f o) ρ := rfl
@[simp] theorem mkB_x {e : EX} : mkB (.exc e os) ρ = .exc e ρ := rfl
def mkA (c : Str) (S : Fn) (m : Out (List D)) : Out P := m.bind fun ds ρ1 => mkB (S (.i c [] :: ds.map .v)) ρ1
theorem sMake_w : sMake c S ar ρ = mkA c S (ar ρ) := rfl
@[simp] theorem mkA_ok : mkA c S (.ok ds ρ) = mkB (S (.i c [] :: ds.map .v)) ρ := rfl
theorem sMethF_i (hs : getS ρ i = some (.i c fs)) (hm : lookO m fs = none) : sMethF c m S i ar ρ = sCallM S i ar ρ := by
  unfold sMethF noHide sMeth
  rw [hs]
  simp [hm]
/-! f-strings -/
def fmtF (m : Out P) : Out P := m.bind fun p ρ1 => match p with
  | .v (.str y) => if y.length ≤ sizeLine then .ok (.v (.str y)) ρ1 else .no
  | .v (.int i) => if i.natAbs.log2 < 1920 then .ok (.v (.str (toString i))) ρ1 else .no
  | _ => .no
theorem sFmt_w : sFmt fe ρ = fmtF (fe ρ) := rfl
theorem fmtF_s {y : Str} : fmtF (.ok (.v (.str y)) ρ) = if y.length ≤ sizeLine then .ok (.v (.str y)) ρ else .no := rfl
theorem fmtF_i {y : Int} : fmtF (.ok (.v (.int y)) ρ) = if y.natAbs.log2 < 1920 then .ok (.v (.str (toString y))) ρ else .no := rfl
def jsB (fs : List (Env → Out P)) (acc : Str) (m : Out P) : Out P := m.bind fun p ρ1 => match p with
  | .v (.str y) => if (acc ++ y).length ≤ sizeLine then sJs fs (acc ++ y) ρ1 else .no
  | _ => .no
variable {ps : List (Env → Out P)} {z y : Str}
theorem sJs_c : sJs (fe :: ps) z ρ = jsB ps z (fe ρ) := rfl
theorem sJs_n : sJs [] z ρ = .ok (.v (.str z)) ρ := rfl
theorem jsB_s : jsB ps z (.ok (.v (.str y)) ρ) = if (z ++ y).length ≤ sizeLine then sJs ps (z ++ y) ρ else .no := rfl
end
end LW

namespace SM
open PySem LW
/-! web_text -/
def sem_web_text : Fn := runFn false 1 6 (
  sSeq (sSet 1 (sLc [2] (hSeq (sFld 0 "Web" "names")) (gSet 2) (sYes) (sJs [sC (.str "place "), sFmt (sVar 2)] Str.empty)))
  (sSeq (sSet 1 (sOp gAdd true (sOp gAdd true (sVar 1) (sLc [3, 4] (hSeq (sFld 0 "Web" "ways")) (gTupD 2 (gsCons (gSet 3) (gsCons (gSet 4) (gsNil)))) (sYes) (sJs [sC (.str "way "), sFmt (sVar 3), sC (.str " "), sFmt (sVar 4)] Str.empty))) (sLst (sCons (sC (.str "end")) (sNil)))))
  (sRet (sM1 gJoin (sC (.str "")) (sLc [5] (hSeq (sFrz 1)) (gSet 5) (sYes) (sOp gAdd true (sVar 5) (sC (.str "\n"))))))))
theorem len_web_text (os : List O) (h : sem_web_text os ≠ .no) : os.length = 1 := runFn_len os h
/-! is_number -/
def sem_is_number : Fn := runFn false 1 1 (
  sRet (sAnd (sC1 (gIs (D.isa CS .int)) (sVar 0)) (sNot (sC1 (gIs (D.isa CS .bool)) (sVar 0)))))
theorem len_is_number (os : List O) (h : sem_is_number os ≠ .no) : os.length = 1 := runFn_len os h
/-! is_within -/
def sem_is_within : Fn := runFn false 3 3 (
  sRet (sAnd (sCall (sem_is_number) (sCons (sVar 0) (sNil))) (sChn gLe gLe true true (sVar 1) (sVar 0) (sVar 2))))
theorem len_is_within (os : List O) (h : sem_is_within os ≠ .no) : os.length = 3 := runFn_len os h
/-! is_listed -/
def sem_is_listed : Fn := runFn false 1 1 (
  sRet (sC1 (gIs2 (D.isa CS .list) (D.isa CS .tuple)) (sVar 0)))
theorem len_is_listed (os : List O) (h : sem_is_listed os ≠ .no) : os.length = 1 := runFn_len os h
/-! Web.__eq__ -/
def sem_Web___eq__ : Fn := runFn false 2 2 (
  sRet (sAnd (sC1 (gIs (D.isa CS (.own "Web"))) (sVar 1)) (sAnd (sOp gEq true (sFld 0 "Web" "names") (sFld 1 "Web" "names")) (sOp gEq true (sFld 0 "Web" "ways") (sFld 1 "Web" "ways")))))
theorem len_Web___eq__ (os : List O) (h : sem_Web___eq__ os ≠ .no) : os.length = 2 := runFn_len os h
/-! is_label -/
def sem_is_label : Fn := runFn false 1 1 (
  sRet (sAnd (sC1 (gIs (D.isa CS .str)) (sVar 0)) (sAnd (sChn gLe gLe true true (sC (.int 1)) (sC1 gLen2 (sVar 0)) (sC (.int 8))) (sOp gEq true (sM1 gStrip (sVar 0) (sC (.str "abcdefghijklmnopqrstuvwxyz"))) (sC (.str ""))))))
theorem len_is_label (os : List O) (h : sem_is_label os ≠ .no) : os.length = 1 := runFn_len os h
/-! is_name -/
def sem_is_name : Fn := runFn false 1 1 (
  sRet (sAnd (sCall (sem_is_label) (sCons (sVar 0) (sNil))) (sC1 (gNotInC ["place", "way", "end"]) (sVar 0))))
theorem len_is_name (os : List O) (h : sem_is_name os ≠ .no) : os.length = 1 := runFn_len os h
/-! are_pairs_below -/
def sem_are_pairs_below : Fn := runFn false 2 3 (
  sSeq (sIf (sNotT (sTB (sCall (sem_is_listed) (sCons (sVar 0) (sNil))))) (sRet (sC (.bl false))) (Flow.next))
  (sSeq (sFor (hSeq (sVar 0)) (gSet 2) (sSeq (sIf (sOrT (sNotT (sTB (sC1 (gIs (D.isa CS .tuple)) (sVar 2)))) (sOrT (sTB (sOp gNe true (sC1 gLen2 (sVar 2)) (sC (.int 2)))) (sNotT (sTB (sCall (sem_is_within) (sCons (sOp gIx2 true (sVar 2) (sC (.int 1))) (sCons (sC (.int 1)) (sCons (sOp gSub true (sVar 1) (sC (.int 1))) (sNil))))))))) (sRet (sC (.bl false))) (Flow.next))
  (sIf (sNotT (sTB (sCall (sem_is_within) (sCons (sOp gIx2 true (sVar 2) (sC (.int 0))) (sCons (sC (.int 0)) (sCons (sOp gSub true (sOp gIx2 true (sVar 2) (sC (.int 1))) (sC (.int 1))) (sNil))))))) (sRet (sC (.bl false))) (Flow.next))))
  (sRet (sOp gEq true (sC1 gLen2 (sDc true [2] (hSeq (sVar 0)) (gSet 2) (sYes) (sVar 2) (sC (.bl true)))) (sC1 gLen2 (sVar 0))))))
theorem len_are_pairs_below (os : List O) (h : sem_are_pairs_below os ≠ .no) : os.length = 2 := runFn_len os h
/-! are_names -/
def sem_are_names : Fn := runFn false 1 2 (
  sSeq (sIf (sOrT (sNotT (sTB (sCall (sem_is_listed) (sCons (sVar 0) (sNil))))) (sNotT (sTB (sChn gLe gLe true true (sC (.int 1)) (sC1 gLen2 (sVar 0)) (sC (.int 10)))))) (sRet (sC (.bl false))) (Flow.next))
  (sRet (sAnd (sC1 gAll (sLc [1] (hSeq (sVar 0)) (gSet 1) (sYes) (sCall (sem_is_name) (sCons (sVar 1) (sNil))))) (sOp gEq true (sC1 gLen2 (sDc false [1] (hSeq (sVar 0)) (gSet 1) (sYes) (sVar 1) (sC (.bl true)))) (sC1 gLen2 (sVar 0))))))
theorem len_are_names (os : List O) (h : sem_are_names os ≠ .no) : os.length = 1 := runFn_len os h
/-! Web.__init__ -/
def sem_Web___init__ : Fn := runFn true 3 6 (
  sSeq (sIf (sNotT (sTB (sCall (sem_are_names) (sCons (sVar 1) (sNil))))) ((fun _ => .no)) (Flow.next))
  (sSeq (sIf (sNotT (sTB (sCall (sem_are_pairs_below) (sCons (sVar 2) (sCons (sC1 gLen2 (sVar 1)) (sNil)))))) ((fun _ => .no)) (Flow.next))
  (sSeq (sSetF 0 "Web" "names" (sC1 gTuple (sVar 1)))
  (sSeq (sSetF 0 "Web" "ways" (sC1 gTuple (sC1 gSorted (sVar 2))))
  (sSeq (sSetF 0 "Web" "beside" (sLst (sNil)))
  (sFor (hRange1 (sC1 gLen2 (sVar 1))) (gSet 3) (sExp (sLm gApp (.fd 0 "Web" "beside") (sC1 gTuple (sC1 gSorted (sLc [4, 5] (hSeq (sVar 2)) (gTupD 2 (gsCons (gSet 4) (gsCons (gSet 5) (gsNil)))) (sTB (sOp gIn2 true (sVar 3) (sTup (sCons (sVar 4) (sCons (sVar 5) (sNil)))))) (sOp gSub true (sOp gAdd true (sVar 4) (sVar 5)) (sVar 3)))))))))))))
theorem len_Web___init__ (os : List O) (h : sem_Web___init__ os ≠ .no) : os.length = 3 := runFn_len os h
/-! number_in -/
def sem_number_in : Fn := runFn false 1 1 (
  sSeq (sIf (sOrT (sNotT (sTB (sChn gLe gLe true true (sC (.int 1)) (sC1 gLen2 (sVar 0)) (sC (.int 6))))) (sTB (sOp gNe true (sM1 gStrip (sVar 0) (sC (.str "0123456789"))) (sC (.str ""))))) (sRet (sC .non)) (Flow.next))
  (sRet (sIfE (sAndT (sTB (sOp gEq true (sOp gIx2 true (sVar 0) (sC (.int 0))) (sC (.str "0")))) (sTB (sOp gNe true (sVar 0) (sC (.str "0"))))) (sC .non) (sC1 gInt (sVar 0)))))
theorem len_number_in (os : List O) (h : sem_number_in os ≠ .no) : os.length = 1 := runFn_len os h
/-! LineReader.__init__ -/
def sem_LineReader___init__ : Fn := runFn true 1 1 (
  sSeq (sSetF 0 "LineReader" "read_names" (sLst (sNil)))
  (sSeq (sSetF 0 "LineReader" "read_ways" (sLst (sNil)))
  (sSetF 0 "LineReader" "ended" (sC (.bl false)))))
theorem len_LineReader___init__ (os : List O) (h : sem_LineReader___init__ os ≠ .no) : os.length = 1 := runFn_len os h
/-! LineReader.takes -/
def sem_LineReader_takes : Fn := runFn true 2 3 (
  sSeq (sIf (sTB (sFld 0 "LineReader" "ended")) (sRet (sC (.bl false))) (Flow.next))
  (sSeq (sIf (sAndT (sTB (sOp gEq true (sOp gIx2 true (sVar 1) (sC (.int 0))) (sC (.str "place")))) (sAndT (sTB (sOp gEq true (sC1 gLen2 (sVar 1)) (sC (.int 2)))) (sTB (sOp gEq true (sC1 gLen2 (sFld 0 "LineReader" "read_ways")) (sC (.int 0)))))) (sSeq (sExp (sLm gApp (.fd 0 "LineReader" "read_names") (sOp gIx2 true (sVar 1) (sC (.int 1)))))
  (sRet (sCall (sem_is_name) (sCons (sOp gIx2 true (sVar 1) (sC (.int 1))) (sNil))))) (Flow.next))
  (sSeq (sIf (sTB (sOp gEq true (sC1 gLen2 (sFld 0 "LineReader" "read_names")) (sC (.int 0)))) (sRet (sC (.bl false))) (Flow.next))
  (sSeq (sIf (sAndT (sTB (sOp gEq true (sOp gIx2 true (sVar 1) (sC (.int 0))) (sC (.str "way")))) (sTB (sOp gEq true (sC1 gLen2 (sVar 1)) (sC (.int 3))))) (sSeq (sSet 2 (sTup (sCons (sCall (sem_number_in) (sCons (sOp gIx2 true (sVar 1) (sC (.int 1))) (sNil))) (sCons (sCall (sem_number_in) (sCons (sOp gIx2 true (sVar 1) (sC (.int 2))) (sNil))) (sNil)))))
  (sSeq (sExp (sLm gApp (.fd 0 "LineReader" "read_ways") (sVar 2)))
  (sRet (sOp gNotIn2 true (sC .non) (sVar 2))))) (Flow.next))
  (sSeq (sSetF 0 "LineReader" "ended" (sOp gEq true (sVar 1) (sLst (sCons (sC (.str "end")) (sNil)))))
  (sRet (sFldZ 0 "LineReader" "ended")))))))
theorem len_LineReader_takes (os : List O) (h : sem_LineReader_takes os ≠ .no) : os.length = 2 := runFn_len os h
/-! read_web -/
def sem_read_web : Fn := runFn false 1 6 (
  sSeq (sIf (sNotT (sTB (sC1 (gIs (D.isa CS .str)) (sVar 0)))) ((fun _ => .no)) (Flow.next))
  (sSeq (sSet 1 (sM1 gSplit (sVar 0) (sC (.str "\n"))))
  (sSeq (sSet 2 (sMake "LineReader" (sem_LineReader___init__) sNil))
  (sSeq (sFor (hEnum (sFrz 1)) (gTupD 2 (gsCons (gSet 3) (gsCons (gSet 4) (gsNil)))) (sIf (sTB (sOp gEq true (sVar 3) (sOp gSub true (sC1 gLen2 (sVar 1)) (sC (.int 1))))) (sIf (sTB (sOp gNe true (sVar 4) (sC (.str "")))) ((fun _ => .no)) (Flow.next)) (sSeq (sSet 5 (sM1 gSplit (sVar 4) (sC (.str " "))))
  (sSeq (sIf (sTB (sOp gIn2 true (sC (.str "")) (sVar 5))) ((fun _ => .no)) (Flow.next))
  (sIf (sNotT (sTB (sMethF "LineReader" "takes" (sem_LineReader_takes) 2 (sCons (sFrz 5) (sNil))))) ((fun _ => .no)) (Flow.next))))))
  (sSeq (sIf (sNotT (sTB (sFld 2 "LineReader" "ended"))) ((fun _ => .no)) (Flow.next))
  (sRet (sMake "Web" (sem_Web___init__) (sCons (sFldZ 2 "LineReader" "read_names") (sCons (sFldZ 2 "LineReader" "read_ways") (sNil))))))))))
theorem len_read_web (os : List O) (h : sem_read_web os ≠ .no) : os.length = 1 := runFn_len os h
/-! _law_pot -/
def sem__law_pot : Fn := runFn false 1 2 (
  sRet (sLst (sCons (sLc [1] (hSeq (sSl true (sVar 0) (oNone) (oPart (sC (.int 63))))) (gSet 1) (sYes) (sC1 gAbs (sVar 1))) (sCons (sC (.int 0)) (sCons (sC (.int 20011)) (sCons (sC (.int 0)) (sNil)))))))
theorem len__law_pot (os : List O) (h : sem__law_pot os ≠ .no) : os.length = 1 := runFn_len os h
/-! _law_draw -/
def sem__law_draw : Fn := runFn true 2 4 (
  sSeq (sIf (sTB (sOp gLt true (sVar 1) (sC (.int 2)))) (sRet (sC (.int 0))) (Flow.next))
  (sSeq (sIf (sTB (sOp gGt true (sOp gIx2 true (sVar 0) (sC (.int 3))) (sC (.int 0)))) (sSeq (sSet 2 (sOp gMod true (sC1 gInt (sOp gIx2 true (sVar 0) (sC (.int 3)))) (sVar 1)))
  (sSeq (sSetIx (.sl 0) (sOp gDiv true (sOp gIx2 true (sVar 0) (sC (.int 3))) (sVar 1)) (sC (.int 3)))
  (sRet (sVar 2)))) (Flow.next))
  (sSeq (sSet 3 (sC (.int 0)))
  (sSeq (sIf (sTB (sOp gLt true (sOp gIx2 true (sVar 0) (sC (.int 1))) (sC1 gLen2 (sOp gIx2 true (sVar 0) (sC (.int 0)))))) (sSeq (sSet 3 (sOp gIx2 true (sOp gIx2 true (sVar 0) (sC (.int 0))) (sOp gIx2 true (sVar 0) (sC (.int 1)))))
  (sSeq (sSetIx (.sl 0) (sOp gAdd true (sOp gIx2 true (sVar 0) (sC (.int 1))) (sC (.int 1))) (sC (.int 1)))
  (sIf (sTB (sOp gGe true (sVar 3) (sOp gPow true (sC (.int 10)) (sC (.int 18))))) (sSeq (sSetIx (.sl 0) (sOp gDiv true (sVar 3) (sVar 1)) (sC (.int 3)))
  (sRet (sOp gMod true (sC1 gInt (sVar 3)) (sVar 1)))) (Flow.next)))) (Flow.next))
  (sSeq (sSetIx (.sl 0) (sOp gMod true (sC1 gInt (sOp gAdd true (sOp gAdd true (sOp gMul true (sOp gIx2 true (sVar 0) (sC (.int 2))) (sC (.int 48271))) (sVar 3)) (sC (.int 12345)))) (sC (.int 2147483647))) (sC (.int 2)))
  (sRet (sOp gMod true (sC1 gInt (sOp gAdd true (sOp gDiv true (sOp gMul true (sOp gIx2 true (sVar 0) (sC (.int 2))) (sOp gIx2 true (sVar 0) (sC (.int 2)))) (sC (.int 64))) (sOp gDiv true (sOp gIx2 true (sVar 0) (sC (.int 2))) (sC (.int 7))))) (sVar 1))))))))
theorem len__law_draw (os : List O) (h : sem__law_draw os ≠ .no) : os.length = 2 := runFn_len os h
/-! _law_pick -/
def sem__law_pick : Fn := runFn true 2 2 (
  sRet (sOp gIx2 false (sVar 1) (sCallM (sem__law_draw) 0 (sCons (sC1 gLen2 (sVar 1)) (sNil)))))
theorem len__law_pick (os : List O) (h : sem__law_pick os ≠ .no) : os.length = 2 := runFn_len os h
/-! _law_same -/
def step__law_same (self : Fn) : Fn := runFn false 2 3 (
  sSeq (sIf (sOrT (sTB (sC1 (gIs (D.isa CS .tuple)) (sVar 1))) (sTB (sC1 (gIs (D.isa CS .list)) (sVar 1)))) (sSeq (sIf (sOrT (sTB (sOp gNe true (sC1 (gIs (D.isa CS .tuple)) (sVar 1)) (sC1 (gIs (D.isa CS .tuple)) (sVar 0)))) (sTB (sOp gNe true (sC1 (gIs (D.isa CS .list)) (sVar 1)) (sC1 (gIs (D.isa CS .list)) (sVar 0))))) (sRet (sC (.bl false))) (Flow.next))
  (sSeq (sIf (sTB (sOp gNe true (sC1 gLen2 (sVar 0)) (sC1 gLen2 (sVar 1)))) (sRet (sC (.bl false))) (Flow.next))
  (sRet (sOp gEq true (sLc [2] (hRange1 (sC1 gLen2 (sVar 1))) (gSet 2) (sNotT (sTB (sCall (self) (sCons (sOp gIx2 true (sVar 0) (sVar 2)) (sCons (sOp gIx2 true (sVar 1) (sVar 2)) (sNil)))))) (sVar 2)) (sLst (sNil)))))) (Flow.next))
  (sSeq (sIf (sTB (sOp gIsN true (sVar 1) (sC .non))) (sRet (sOp gIsN true (sVar 0) (sC .non))) (Flow.next))
  (sSeq (sIf (sTB (sC1 (gIs (D.isa CS .str)) (sVar 1))) (sRet (sAnd (sC1 (gIs (D.isa CS .str)) (sVar 0)) (sOp gEq true (sVar 0) (sVar 1)))) (Flow.next))
  (sRet (sAnd (sC1 (gIs (D.isa CS .int)) (sVar 0)) (sAnd (sOp gEq true (sC1 (gIs (D.isa CS .bool)) (sVar 0)) (sC1 (gIs (D.isa CS .bool)) (sVar 1))) (sOp gEq true (sVar 0) (sVar 1))))))))
def sem__law_same : Nat → Fn
  | 0 => fun _ => .no
  | k + 1 => step__law_same (sem__law_same k)
theorem len__law_same : ∀ (k : Nat) (os : List O), sem__law_same k os ≠ .no → os.length = 2
  | 0, _, h => absurd rfl h
  | _ + 1, os, h => runFn_len os h
/-! _law_words -/
def sem__law_words : Fn := runFn false 0 0 (
  sRet (sLst (sCons (sC (.str "place")) (sCons (sC (.str "way")) (sCons (sC (.str "end")) (sNil))))))
theorem len__law_words (os : List O) (h : sem__law_words os ≠ .no) : os.length = 0 := runFn_len os h
/-! _law_word -/
def sem__law_word : Fn := runFn true 1 3 (
  sSeq (sIf (sTB (sOp gEq true (sCallM (sem__law_draw) 0 (sCons (sC (.int 6)) (sNil))) (sC (.int 0)))) (sRet (sCallM (sem__law_pick) 0 (sCons (sCall (sem__law_words) sNil) (sNil)))) (Flow.next))
  (sSeq (sSet 1 (sCallM (sem__law_pick) 0 (sCons (sLst (sCons (sC (.int 1)) (sCons (sC (.int 2)) (sCons (sC (.int 3)) (sCons (sC (.int 5)) (sCons (sC (.int 8)) (sNil))))))) (sNil))))
  (sRet (sM1 gJoin (sC (.str "")) (sLc [2] (hRange1 (sVar 1)) (gSet 2) (sYes) (sCallM (sem__law_pick) 0 (sCons (sC (.str "abcdefghijklmnopqrstuvwxyz")) (sNil))))))))
theorem len__law_word (os : List O) (h : sem__law_word os ≠ .no) : os.length = 1 := runFn_len os h
/-! _law_is_label -/
def sem__law_is_label : Fn := runFn false 1 2 (
  sSeq (sIf (sOrT (sNotT (sTB (sC1 (gIs (D.isa CS .str)) (sVar 0)))) (sNotT (sTB (sChn gLe gLe true true (sC (.int 1)) (sC1 gLen2 (sVar 0)) (sC (.int 8)))))) (sRet (sC (.bl false))) (Flow.next))
  (sRet (sOp gEq true (sC1 gLen2 (sLc [1] (hSeq (sVar 0)) (gSet 1) (sTB (sOp gIn2 true (sVar 1) (sC (.str "abcdefghijklmnopqrstuvwxyz")))) (sVar 1))) (sC1 gLen2 (sVar 0)))))
theorem len__law_is_label (os : List O) (h : sem__law_is_label os ≠ .no) : os.length = 1 := runFn_len os h
/-! _law_is_name -/
def sem__law_is_name : Fn := runFn false 1 1 (
  sRet (sAnd (sCall (sem__law_is_label) (sCons (sVar 0) (sNil))) (sOp gNotIn2 true (sVar 0) (sCall (sem__law_words) sNil))))
theorem len__law_is_name (os : List O) (h : sem__law_is_name os ≠ .no) : os.length = 1 := runFn_len os h
/-! _law_names -/
def sem__law_names : Fn := runFn true 2 8 (
  sSeq (sSet 2 (sLst (sNil)))
  (sSeq (sFor (hRange1 (sVar 1)) (gSet 3) (sSeq (sSet 4 (sSl true (sCallM (sem__law_word) 0 (sNil)) (oNone) (oPart (sC (.int 7)))))
  (sSeq (sSet 5 (sLc [6] (hSeq (sC (.str "abcdefghijklmnopqrstuvwxyz"))) (gSet 6) (sYes) (sOp gAdd true (sVar 4) (sVar 6))))
  (sExp (sLm gApp (.sl 2) (sOp gIx2 true (sLc [7] (hSeq (sFrz 5)) (gSet 7) (sAndT (sTB (sOp gNotIn2 true (sVar 7) (sVar 2))) (sTB (sCall (sem__law_is_name) (sCons (sVar 7) (sNil))))) (sVar 7)) (sC (.int 0))))))))
  (sRet (sMov 2))))
theorem len__law_names (os : List O) (h : sem__law_names os ≠ .no) : os.length = 2 := runFn_len os h
/-! _law_pairs -/
def sem__law_pairs : Fn := runFn false 1 4 (
  sSeq (sSet 1 (sLst (sNil)))
  (sSeq (sFor (hRange1 (sVar 0)) (gSet 2) (sSet 1 (sOp gAdd true (sVar 1) (sLc [3] (hRange1 (sVar 2)) (gSet 3) (sYes) (sTup (sCons (sVar 3) (sCons (sVar 2) (sNil))))))))
  (sRet (sMov 1))))
theorem len__law_pairs (os : List O) (h : sem__law_pairs os ≠ .no) : os.length = 1 := runFn_len os h
/-! _law_spec -/
def sem__law_spec : Fn := runFn true 2 5 (
  sSeq (sSet 2 (sCallM (sem__law_names) 0 (sCons (sOp gAdd false (sC (.int 1)) (sCallM (sem__law_draw) 0 (sCons (sVar 1) (sNil)))) (sNil))))
  (sSeq (sSet 3 (sOp gAdd false (sC (.int 1)) (sCallM (sem__law_draw) 0 (sCons (sC (.int 4)) (sNil)))))
  (sRet (sLst (sCons (sFrz 2) (sCons (sLc [4] (hSeq (sCall (sem__law_pairs) (sCons (sC1 gLen2 (sVar 2)) (sNil)))) (gSet 4) (sTB (sOp gEq true (sCallM (sem__law_draw) 0 (sCons (sVar 3) (sNil))) (sC (.int 0)))) (sVar 4)) (sNil)))))))
theorem len__law_spec (os : List O) (h : sem__law_spec os ≠ .no) : os.length = 2 := runFn_len os h
/-! _law_made -/
def sem__law_made : Fn := runFn false 1 1 (
  sRet (sMake "Web" (sem_Web___init__) (sCons (sC1 gList (sOp gIx2 true (sVar 0) (sC (.int 0)))) (sCons (sC1 gList (sOp gIx2 true (sVar 0) (sC (.int 1)))) (sNil)))))
theorem len__law_made (os : List O) (h : sem__law_made os ≠ .no) : os.length = 1 := runFn_len os h
/-! _law_lines -/
def sem__law_lines : Fn := runFn false 1 4 (
  sRet (sOp gAdd true (sOp gAdd true (sLc [1] (hSeq (sOp gIx2 true (sVar 0) (sC (.int 0)))) (gSet 1) (sYes) (sOp gAdd true (sC (.str "place ")) (sVar 1))) (sLc [2, 3] (hSeq (sC1 gSorted (sOp gIx2 true (sVar 0) (sC (.int 1))))) (gTupD 2 (gsCons (gSet 2) (gsCons (gSet 3) (gsNil)))) (sYes) (sOp gAdd true (sOp gAdd true (sOp gAdd true (sC (.str "way ")) (sC1 gStr (sVar 2))) (sC (.str " "))) (sC1 gStr (sVar 3))))) (sLst (sCons (sC (.str "end")) (sNil)))))
theorem len__law_lines (os : List O) (h : sem__law_lines os ≠ .no) : os.length = 1 := runFn_len os h
/-! _law_text_of -/
def sem__law_text_of : Fn := runFn false 1 2 (
  sRet (sM1 gJoin (sC (.str "")) (sLc [1] (hSeq (sCall (sem__law_lines) (sCons (sVar 0) (sNil)))) (gSet 1) (sYes) (sOp gAdd true (sVar 1) (sC (.str "\n"))))))
theorem len__law_text_of (os : List O) (h : sem__law_text_of os ≠ .no) : os.length = 1 := runFn_len os h
/-! law -/
def sem_law : Fn := runFn false 1 7 (
  sSeq (sSet 1 (sCall (sem__law_pot) (sCons (sVar 0) (sNil))))
  (sSeq (sFor (hRange1 (sC (.int 6))) (gSet 2) (sSeq (sSet 3 (sCallM (sem__law_spec) 1 (sCons (sC (.int 10)) (sNil))))
  (sSeq (sPar 4 5 (sCons (sCall (sem__law_made) (sCons (sFrz 3) (sNil))) (sCons (sCall (sem__law_text_of) (sCons (sFrz 3) (sNil))) (sNil))))
  (sSeq (sSet 6 (sCall (sem_read_web) (sCons (sVar 5) (sNil))))
  (sSeq (sIf (sOrT (sNotT (sTB (sCall ((sem__law_same 12)) (sCons (sCall (sem_web_text) (sCons (sVar 4) (sNil))) (sCons (sVar 5) (sNil)))))) (sOrT (sTB (sOp (gNeI "Web" sem_Web___eq__) true (sFrz 6) (sVar 4))) (sTB (sOp gNe true (sCall (sem_web_text) (sCons (sFrz 6) (sNil))) (sVar 5))))) (sRet (sC (.bl false))) (Flow.next))
  (sIf (sNotT (sTB (sCall ((sem__law_same 12)) (sCons (sLst (sCons (sFldZ 6 "Web" "names") (sCons (sFldZ 6 "Web" "ways") (sNil)))) (sCons (sLst (sCons (sC1 gTuple (sOp gIx2 true (sVar 3) (sC (.int 0)))) (sCons (sC1 gTuple (sC1 gSorted (sOp gIx2 true (sVar 3) (sC (.int 1))))) (sNil)))) (sNil)))))) (sRet (sC (.bl false))) (Flow.next)))))))
  (sRet (sC (.bl true)))))
theorem len_law (os : List O) (h : sem_law os ≠ .no) : os.length = 1 := runFn_len os h
end SM

namespace SM
open PySem LW L2
/-- the pot of draws -/
structure Pot where
  cs : List Int
  i : Nat
  g : Int
  x : Int
def Pot.o (p : Pot) : O := .l [.lst (p.cs.map .int), .int p.i, .int p.g, .int p.x]
theorem ixN4 : ixN 4 1 = some 1 ∧ ixN 4 2 = some 2 ∧ ixN 4 3 = some 3 := ⟨rfl, rfl, rfl⟩
theorem pot0 {a b c d : D} : gIx2 (.lst [a, b, c, d]) (.int 0) = some (.v a) := rfl
theorem pot1 {a b c d : D} : gIx2 (.lst [a, b, c, d]) (.int 1) = some (.v b) := rfl
theorem pot2 {a b c d : D} : gIx2 (.lst [a, b, c, d]) (.int 2) = some (.v c) := rfl
theorem pot3 {a b c d : D} : gIx2 (.lst [a, b, c, d]) (.int 3) = some (.v d) := rfl
theorem gMul_r {i j : Int} (h : -18446744073709551616 < j ∧ j < 18446744073709551616) : gMul (.int i) (.int j) = some (.v (.int (i * j))) := by
  exact if_pos (.inr (by simpa using h))
theorem gPow18 : gPow (.int 10) (.int 18) = some (.v (.int 1000000000000000000)) := by simp [gPow]
theorem gDiv_c {i : Int} {j : Int} (h : 0 < j ∧ j < 1073741824) : gDiv (.int i) (.int j) = some (.v (.int (i / j))) := if_pos h
theorem gMod_c {i : Int} {j : Int} (h : 0 < j) : gMod (.int i) (.int j) = some (.v (.int (i % j))) := if_pos h
theorem cs_get {cs : List Int} {i : Nat} (h : i < cs.length) : gIx2 (.lst (cs.map .int)) (.int i) = some (.v (.int cs[i])) := by
  rw [ix_nat (by omega), Int.toNat_natCast, List.getElem?_map, List.getElem?_eq_getElem h]; rfl
theorem draw (p : Pot) (many : Int) (hm : many < 1073741824) : ∃ (r : Int) (p' : Pot), sem__law_draw [p.o, .v (.int many)] = .ret (.v (.int r)) [p'.o, .v (.int many)] ∧ (many < 2 → r = 0) ∧ (2 ≤ many → 0 ≤ r ∧ r < many) := by
  obtain ⟨cs, i, g, x⟩ := p
  unfold sem__law_draw
  by_cases h1 : many < 2
  · have h1 := decide_eq_true h1
    refine ⟨0, ⟨cs, i, g, x⟩, ?_, fun _ => rfl, fun h => ?_⟩
    · simp only [runFn_w, LW.argsOk, O.isV, O.d, List.all_cons, List.all_nil, Bool.and_true, Bool.true_and, Bool.and_self, List.length_cons, List.length_nil, List.map_cons, List.map_nil, List.cons_append, List.nil_append, List.replicate_succ, List.replicate_zero, Nat.reduceAdd, Nat.reduceSub, Nat.zero_add, and_self, and_true, true_and, if_true, ite_true, if_false, ite_false, List.getElem?_cons_zero, List.getElem?_cons_succ, List.set_cons_zero, List.set_cons_succ, List.set_nil, Bool.false_eq_true, reduceIte, sVar_w, varF_v, varF_l, varF_k, sFrz_w, frzF_o, sMov_w, movF_o, sC_w, sFz_w, fzF_v, fzF_f, fzF_x, outP_s, opC_s, opB_ok, opB_x, sOp_w, opA_v, opA_f, opA_s, opA_x, rd_v, rd_s, rd_fv, rd_fl, rd_fk, sTB_w, tbF_b, tbF_x, sAndT_w, andT_t, andT_f, sOrT_w, orT_t, orT_f, sNotT_w, notT_ok, sAnd_w, andF_t, andF_f, sOr_w, orF_t, orF_f, sNot_w, notF_ok, sIfE_w, ifE_t, ifE_f, sChn_w, chA_v, chA_s, chB_ok, chB_s, chC_tv, chC_ts, chC_f, chD_ok, sNil_w, consB_ok, consB_x, sCons_w, consA_v, consA_x, sTup_w, tupF_ok, sLst_w, lstF_ok, sC1_w, c1A_ok, c1A_x, c1B_s, sCall_w, callA_ok, callA_x, callB_r, callB_x, sCallM_w, cm0_s, cmA_ok, cmB_s, cmC_r, cmC_x, sSeq_w, seqF_n, seqF_r, seqF_x, seqF_b, seqF_c, sIf_w, ifS_t, ifS_f, ifS_x, sExp_w, expF_ok, expF_x, sRet_w, retF_v, retF_f, retF_x, sSet_w, setF_v, setF_f, setF_x, sPar_w, parF_ok, endF_rf, endF_nf, endF_xf, endF_rt, endF_rt', endF_nt', endF_xt', hSeq_w, seqH_l, seqH_t, hRange1_w, rng1_ok, hEnum_w, enumH_ok, sFor_w, forF_ok, forL_n, forA_s, forB_n, forB_c, forB_b, forB_r, forB_x, gSet_w, sLc_w, lcF_ok, lcE_ok, lcL_n, sYes_w, sFld_w, sSetIx_w, sIxA_s, sIxB_s, sIxC_s, sIxD_s, sIxE_s, getPl_sl, setPl_sl, getS_w, Option.getD_some, sLm_w, lm0_s, lmA_s, lmB_s, lmC_s, sSl_w, slA_v, slA_f, slA_t, slL_s, slH_s, slC_s, oPart_w, oPF_s, oNone_w, sM1_w, m1A_s, m1B_s, m1C_s, lcA_s, lcB_f, lcB_t, lcC_ok, freeO_n, freeO_v, ownOk_n, ownOk_c, wipeE_n, wipeE_c, restE_n, restE_c, sDc_w, dcF_ok, dcE_ok, sSetF_w, stfA_ok, getPl_fd, gplF_i, setPl_fd, splF_i, sFldZ_w, mkB_r, mkB_x, mkA_ok, sMake_w, sFmt_w, Pot.o, gLt, h1]
    · have := of_decide_eq_true h1; omega
  · have h1' : 0 < many ∧ many < 1073741824 := by omega
    have h1 := decide_eq_false h1
    have em : ∀ z : Int, (many < 2 → z % many = 0) ∧ (2 ≤ many → 0 ≤ z % many ∧ z % many < many) := fun z => ⟨fun h => absurd h (of_decide_eq_false h1), fun _ => ⟨Int.emod_nonneg _ (by omega), Int.emod_lt_of_pos _ h1'.1⟩⟩
    by_cases h2 : x > 0
    · have h2 := decide_eq_true h2
      refine ⟨x % many, ⟨cs, i, g, x / many⟩, ?_, em _⟩
      simp only [runFn_w, LW.argsOk, O.isV, O.d, List.all_cons, List.all_nil, Bool.and_true, Bool.true_and, Bool.and_self, List.length_cons, List.length_nil, List.map_cons, List.map_nil, List.cons_append, List.nil_append, List.replicate_succ, List.replicate_zero, Nat.reduceAdd, Nat.reduceSub, Nat.zero_add, and_self, and_true, true_and, if_true, ite_true, if_false, ite_false, List.getElem?_cons_zero, List.getElem?_cons_succ, List.set_cons_zero, List.set_cons_succ, List.set_nil, Bool.false_eq_true, reduceIte, sVar_w, varF_v, varF_l, varF_k, sFrz_w, frzF_o, sMov_w, movF_o, sC_w, sFz_w, fzF_v, fzF_f, fzF_x, outP_s, opC_s, opB_ok, opB_x, sOp_w, opA_v, opA_f, opA_s, opA_x, rd_v, rd_s, rd_fv, rd_fl, rd_fk, sTB_w, tbF_b, tbF_x, sAndT_w, andT_t, andT_f, sOrT_w, orT_t, orT_f, sNotT_w, notT_ok, sAnd_w, andF_t, andF_f, sOr_w, orF_t, orF_f, sNot_w, notF_ok, sIfE_w, ifE_t, ifE_f, sChn_w, chA_v, chA_s, chB_ok, chB_s, chC_tv, chC_ts, chC_f, chD_ok, sNil_w, consB_ok, consB_x, sCons_w, consA_v, consA_x, sTup_w, tupF_ok, sLst_w, lstF_ok, sC1_w, c1A_ok, c1A_x, c1B_s, sCall_w, callA_ok, callA_x, callB_r, callB_x, sCallM_w, cm0_s, cmA_ok, cmB_s, cmC_r, cmC_x, sSeq_w, seqF_n, seqF_r, seqF_x, seqF_b, seqF_c, sIf_w, ifS_t, ifS_f, ifS_x, sExp_w, expF_ok, expF_x, sRet_w, retF_v, retF_f, retF_x, sSet_w, setF_v, setF_f, setF_x, sPar_w, parF_ok, endF_rf, endF_nf, endF_xf, endF_rt, endF_rt', endF_nt', endF_xt', hSeq_w, seqH_l, seqH_t, hRange1_w, rng1_ok, hEnum_w, enumH_ok, sFor_w, forF_ok, forL_n, forA_s, forB_n, forB_c, forB_b, forB_r, forB_x, gSet_w, sLc_w, lcF_ok, lcE_ok, lcL_n, sYes_w, sFld_w, sSetIx_w, sIxA_s, sIxB_s, sIxC_s, sIxD_s, sIxE_s, getPl_sl, setPl_sl, getS_w, Option.getD_some, sLm_w, lm0_s, lmA_s, lmB_s, lmC_s, sSl_w, slA_v, slA_f, slA_t, slL_s, slH_s, slC_s, oPart_w, oPF_s, oNone_w, sM1_w, m1A_s, m1B_s, m1C_s, lcA_s, lcB_f, lcB_t, lcC_ok, freeO_n, freeO_v, ownOk_n, ownOk_c, wipeE_n, wipeE_c, restE_n, restE_c, sDc_w, dcF_ok, dcE_ok, sSetF_w, stfA_ok, getPl_fd, gplF_i, setPl_fd, splF_i, sFldZ_w, mkB_r, mkB_x, mkA_ok, sMake_w, sFmt_w, Pot.o, gLt, h1, pot3, gGt, h2, gInt, gMod, gDiv, h1'.1, h1', ixN4]
    · have h2 := decide_eq_false h2
      by_cases h3 : i < cs.length
      · have h3' : decide ((i : Int) < (cs.map D.int).length) = true := by simpa using h3
        by_cases h4 : cs[i] ≥ 1000000000000000000
        · have h4 := decide_eq_true h4
          refine ⟨cs[i] % many, ⟨cs, i + 1, g, cs[i] / many⟩, ?_, em _⟩
          simp only [runFn_w, LW.argsOk, O.isV, O.d, List.all_cons, List.all_nil, Bool.and_true, Bool.true_and, Bool.and_self, List.length_cons, List.length_nil, List.map_cons, List.map_nil, List.cons_append, List.nil_append, List.replicate_succ, List.replicate_zero, Nat.reduceAdd, Nat.reduceSub, Nat.zero_add, and_self, and_true, true_and, if_true, ite_true, if_false, ite_false, List.getElem?_cons_zero, List.getElem?_cons_succ, List.set_cons_zero, List.set_cons_succ, List.set_nil, Bool.false_eq_true, reduceIte, sVar_w, varF_v, varF_l, varF_k, sFrz_w, frzF_o, sMov_w, movF_o, sC_w, sFz_w, fzF_v, fzF_f, fzF_x, outP_s, opC_s, opB_ok, opB_x, sOp_w, opA_v, opA_f, opA_s, opA_x, rd_v, rd_s, rd_fv, rd_fl, rd_fk, sTB_w, tbF_b, tbF_x, sAndT_w, andT_t, andT_f, sOrT_w, orT_t, orT_f, sNotT_w, notT_ok, sAnd_w, andF_t, andF_f, sOr_w, orF_t, orF_f, sNot_w, notF_ok, sIfE_w, ifE_t, ifE_f, sChn_w, chA_v, chA_s, chB_ok, chB_s, chC_tv, chC_ts, chC_f, chD_ok, sNil_w, consB_ok, consB_x, sCons_w, consA_v, consA_x, sTup_w, tupF_ok, sLst_w, lstF_ok, sC1_w, c1A_ok, c1A_x, c1B_s, sCall_w, callA_ok, callA_x, callB_r, callB_x, sCallM_w, cm0_s, cmA_ok, cmB_s, cmC_r, cmC_x, sSeq_w, seqF_n, seqF_r, seqF_x, seqF_b, seqF_c, sIf_w, ifS_t, ifS_f, ifS_x, sExp_w, expF_ok, expF_x, sRet_w, retF_v, retF_f, retF_x, sSet_w, setF_v, setF_f, setF_x, sPar_w, parF_ok, endF_rf, endF_nf, endF_xf, endF_rt, endF_rt', endF_nt', endF_xt', hSeq_w, seqH_l, seqH_t, hRange1_w, rng1_ok, hEnum_w, enumH_ok, sFor_w, forF_ok, forL_n, forA_s, forB_n, forB_c, forB_b, forB_r, forB_x, gSet_w, sLc_w, lcF_ok, lcE_ok, lcL_n, sYes_w, sFld_w, sSetIx_w, sIxA_s, sIxB_s, sIxC_s, sIxD_s, sIxE_s, getPl_sl, setPl_sl, getS_w, Option.getD_some, sLm_w, lm0_s, lmA_s, lmB_s, lmC_s, sSl_w, slA_v, slA_f, slA_t, slL_s, slH_s, slC_s, oPart_w, oPF_s, oNone_w, sM1_w, m1A_s, m1B_s, m1C_s, lcA_s, lcB_f, lcB_t, lcC_ok, freeO_n, freeO_v, ownOk_n, ownOk_c, wipeE_n, wipeE_c, restE_n, restE_c, sDc_w, dcF_ok, dcE_ok, sSetF_w, stfA_ok, getPl_fd, gplF_i, setPl_fd, splF_i, sFldZ_w, mkB_r, mkB_x, mkA_ok, sMake_w, sFmt_w, Pot.o, gLt, h1, pot3, pot1, pot0, gGt, h2, gInt, gMod, gDiv, h1'.1, h1', ixN4, gLen2, gLen, h3', cs_get h3, gAdd, gGe, gPow18, h4, Int.natCast_add, Int.natCast_one]
        · have h4 := decide_eq_false h4
          generalize hG : (g * 48271 + cs[i] + 12345) % 2147483647 = G
          have b : -18446744073709551616 < G ∧ G < 18446744073709551616 := by omega
          refine ⟨(G * G / 64 + G / 7) % many, ⟨cs, i + 1, G, x⟩, ?_, em _⟩
          simp only [runFn_w, LW.argsOk, O.isV, O.d, List.all_cons, List.all_nil, Bool.and_true, Bool.true_and, Bool.and_self, List.length_cons, List.length_nil, List.map_cons, List.map_nil, List.cons_append, List.nil_append, List.replicate_succ, List.replicate_zero, Nat.reduceAdd, Nat.reduceSub, Nat.zero_add, and_self, and_true, true_and, if_true, ite_true, if_false, ite_false, List.getElem?_cons_zero, List.getElem?_cons_succ, List.set_cons_zero, List.set_cons_succ, List.set_nil, Bool.false_eq_true, reduceIte, sVar_w, varF_v, varF_l, varF_k, sFrz_w, frzF_o, sMov_w, movF_o, sC_w, sFz_w, fzF_v, fzF_f, fzF_x, outP_s, opC_s, opB_ok, opB_x, sOp_w, opA_v, opA_f, opA_s, opA_x, rd_v, rd_s, rd_fv, rd_fl, rd_fk, sTB_w, tbF_b, tbF_x, sAndT_w, andT_t, andT_f, sOrT_w, orT_t, orT_f, sNotT_w, notT_ok, sAnd_w, andF_t, andF_f, sOr_w, orF_t, orF_f, sNot_w, notF_ok, sIfE_w, ifE_t, ifE_f, sChn_w, chA_v, chA_s, chB_ok, chB_s, chC_tv, chC_ts, chC_f, chD_ok, sNil_w, consB_ok, consB_x, sCons_w, consA_v, consA_x, sTup_w, tupF_ok, sLst_w, lstF_ok, sC1_w, c1A_ok, c1A_x, c1B_s, sCall_w, callA_ok, callA_x, callB_r, callB_x, sCallM_w, cm0_s, cmA_ok, cmB_s, cmC_r, cmC_x, sSeq_w, seqF_n, seqF_r, seqF_x, seqF_b, seqF_c, sIf_w, ifS_t, ifS_f, ifS_x, sExp_w, expF_ok, expF_x, sRet_w, retF_v, retF_f, retF_x, sSet_w, setF_v, setF_f, setF_x, sPar_w, parF_ok, endF_rf, endF_nf, endF_xf, endF_rt, endF_rt', endF_nt', endF_xt', hSeq_w, seqH_l, seqH_t, hRange1_w, rng1_ok, hEnum_w, enumH_ok, sFor_w, forF_ok, forL_n, forA_s, forB_n, forB_c, forB_b, forB_r, forB_x, gSet_w, sLc_w, lcF_ok, lcE_ok, lcL_n, sYes_w, sFld_w, sSetIx_w, sIxA_s, sIxB_s, sIxC_s, sIxD_s, sIxE_s, getPl_sl, setPl_sl, getS_w, Option.getD_some, sLm_w, lm0_s, lmA_s, lmB_s, lmC_s, sSl_w, slA_v, slA_f, slA_t, slL_s, slH_s, slC_s, oPart_w, oPF_s, oNone_w, sM1_w, m1A_s, m1B_s, m1C_s, lcA_s, lcB_f, lcB_t, lcC_ok, freeO_n, freeO_v, ownOk_n, ownOk_c, wipeE_n, wipeE_c, restE_n, restE_c, sDc_w, dcF_ok, dcE_ok, sSetF_w, stfA_ok, getPl_fd, gplF_i, setPl_fd, splF_i, sFldZ_w, mkB_r, mkB_x, mkA_ok, sMake_w, sFmt_w, Pot.o, gLt, h1, pot3, pot2, pot1, pot0, gGt, h2, gInt, gMod_c h1'.1, h1', ixN4, gLen2, gLen, h3', cs_get h3, gAdd, gGe, gPow18, h4, Int.natCast_add, Int.natCast_one,
            gMul_r (i := g) (j := 48271) (by decide), gMod_c (j := 2147483647) (by decide), hG, gMul_r b, gDiv_c (j := 64) (by decide), gDiv_c (j := 7) (by decide)]
      · have h3' : decide ((i : Int) < (cs.map D.int).length) = false := by simpa using h3
        generalize hG : (g * 48271 + 0 + 12345) % 2147483647 = G
        have b : -18446744073709551616 < G ∧ G < 18446744073709551616 := by omega
        refine ⟨(G * G / 64 + G / 7) % many, ⟨cs, i, G, x⟩, ?_, em _⟩
        simp only [runFn_w, LW.argsOk, O.isV, O.d, List.all_cons, List.all_nil, Bool.and_true, Bool.true_and, Bool.and_self, List.length_cons, List.length_nil, List.map_cons, List.map_nil, List.cons_append, List.nil_append, List.replicate_succ, List.replicate_zero, Nat.reduceAdd, Nat.reduceSub, Nat.zero_add, and_self, and_true, true_and, if_true, ite_true, if_false, ite_false, List.getElem?_cons_zero, List.getElem?_cons_succ, List.set_cons_zero, List.set_cons_succ, List.set_nil, Bool.false_eq_true, reduceIte, sVar_w, varF_v, varF_l, varF_k, sFrz_w, frzF_o, sMov_w, movF_o, sC_w, sFz_w, fzF_v, fzF_f, fzF_x, outP_s, opC_s, opB_ok, opB_x, sOp_w, opA_v, opA_f, opA_s, opA_x, rd_v, rd_s, rd_fv, rd_fl, rd_fk, sTB_w, tbF_b, tbF_x, sAndT_w, andT_t, andT_f, sOrT_w, orT_t, orT_f, sNotT_w, notT_ok, sAnd_w, andF_t, andF_f, sOr_w, orF_t, orF_f, sNot_w, notF_ok, sIfE_w, ifE_t, ifE_f, sChn_w, chA_v, chA_s, chB_ok, chB_s, chC_tv, chC_ts, chC_f, chD_ok, sNil_w, consB_ok, consB_x, sCons_w, consA_v, consA_x, sTup_w, tupF_ok, sLst_w, lstF_ok, sC1_w, c1A_ok, c1A_x, c1B_s, sCall_w, callA_ok, callA_x, callB_r, callB_x, sCallM_w, cm0_s, cmA_ok, cmB_s, cmC_r, cmC_x, sSeq_w, seqF_n, seqF_r, seqF_x, seqF_b, seqF_c, sIf_w, ifS_t, ifS_f, ifS_x, sExp_w, expF_ok, expF_x, sRet_w, retF_v, retF_f, retF_x, sSet_w, setF_v, setF_f, setF_x, sPar_w, parF_ok, endF_rf, endF_nf, endF_xf, endF_rt, endF_rt', endF_nt', endF_xt', hSeq_w, seqH_l, seqH_t, hRange1_w, rng1_ok, hEnum_w, enumH_ok, sFor_w, forF_ok, forL_n, forA_s, forB_n, forB_c, forB_b, forB_r, forB_x, gSet_w, sLc_w, lcF_ok, lcE_ok, lcL_n, sYes_w, sFld_w, sSetIx_w, sIxA_s, sIxB_s, sIxC_s, sIxD_s, sIxE_s, getPl_sl, setPl_sl, getS_w, Option.getD_some, sLm_w, lm0_s, lmA_s, lmB_s, lmC_s, sSl_w, slA_v, slA_f, slA_t, slL_s, slH_s, slC_s, oPart_w, oPF_s, oNone_w, sM1_w, m1A_s, m1B_s, m1C_s, lcA_s, lcB_f, lcB_t, lcC_ok, freeO_n, freeO_v, ownOk_n, ownOk_c, wipeE_n, wipeE_c, restE_n, restE_c, sDc_w, dcF_ok, dcE_ok, sSetF_w, stfA_ok, getPl_fd, gplF_i, setPl_fd, splF_i, sFldZ_w, mkB_r, mkB_x, mkA_ok, sMake_w, sFmt_w, Pot.o, gLt, h1, pot3, pot2, pot1, pot0, gGt, h2, gInt, gMod_c h1'.1, h1', ixN4, gLen2, gLen, h3', gAdd, gGe,
            gMul_r (i := g) (j := 48271) (by decide), gMod_c (j := 2147483647) (by decide), hG, gMul_r b, gDiv_c (j := 64) (by decide), gDiv_c (j := 7) (by decide)]
end SM

namespace SM
open PySem LW L2
theorem lcMap_all {φ : D → Option (Option D)} {ψ : D → D} : ∀ {ds : List D}, (∀ d ∈ ds, φ d = some (some (ψ d))) → lcMap φ ds = some (ds.map ψ)
  | [], _ => rfl
  | d :: r, h => by
    unfold lcMap
    rw [h d List.mem_cons_self, lcMap_all fun x hx => h x (List.mem_cons_of_mem _ hx)]
    rfl
theorem cut_hi (ds : List D) (k : Nat) : cutD ds none (some (k : Int)) = ds.take k := by
  unfold cutD
  rw [HT.sIx_none, HT.sIx_nat]
  simp only [List.drop_zero, Nat.sub_zero]
  by_cases h : k ≤ ds.length
  · rw [Nat.min_eq_left h]
  · rw [Nat.min_eq_right (by omega), List.take_of_length_le (Nat.le_refl _), List.take_of_length_le (by omega)]
theorem rangeD_nat (n : Nat) : rangeD 0 (n : Int) = (List.range n).map fun i : Nat => D.int i := by
  unfold rangeD
  rw [show ((n : Int) - 0).toNat = n by omega]
  apply List.map_congr_left
  intro i _
  simp
theorem pot (ns : List Int) (hz : ns.length ≤ 63) : ∃ p : Pot, sem__law_pot [.v (.lst (ns.map .int))] = .ret (.f p.o) [.v (.lst (ns.map .int))] := by
  unfold sem__law_pot
  let ψ : D → D := fun d => match d with | .int i => .int (if i < 0 then -i else i) | d => d
  have e := lcL_map (ow := [1]) (tg := gSet 1) (t := sYes) (f := sC1 gAbs (sVar 1)) (φ := fun d => some (some (ψ d))) (ρ0 := [some (.v (.lst (ns.map .int))), none]) (ds := (ns.map D.int).take 63) (acc := []) (fun d hd z hz => by
    have : d ∈ ns.map D.int := List.mem_of_mem_take hd
    obtain ⟨i, _, rfl⟩ := List.mem_map.mp this
    cases hz
    refine ⟨_, [some (.v (.lst (ns.map .int))), some (.v (.int i))], rfl, ⟨_, rfl, ?_⟩, rfl⟩
    simp only [runFn_w, LW.argsOk, O.isV, O.d, List.all_cons, List.all_nil, Bool.and_true, Bool.true_and, Bool.and_self, List.length_cons, List.length_nil, List.map_cons, List.map_nil, List.cons_append, List.nil_append, List.replicate_succ, List.replicate_zero, Nat.reduceAdd, Nat.reduceSub, Nat.zero_add, and_self, and_true, true_and, if_true, ite_true, if_false, ite_false, List.getElem?_cons_zero, List.getElem?_cons_succ, List.set_cons_zero, List.set_cons_succ, List.set_nil, Bool.false_eq_true, reduceIte, sVar_w, varF_v, varF_l, varF_k, sFrz_w, frzF_o, sMov_w, movF_o, sC_w, sFz_w, fzF_v, fzF_f, fzF_x, outP_s, opC_s, opB_ok, opB_x, sOp_w, opA_v, opA_f, opA_s, opA_x, rd_v, rd_s, rd_fv, rd_fl, rd_fk, sTB_w, tbF_b, tbF_x, sAndT_w, andT_t, andT_f, sOrT_w, orT_t, orT_f, sNotT_w, notT_ok, sAnd_w, andF_t, andF_f, sOr_w, orF_t, orF_f, sNot_w, notF_ok, sIfE_w, ifE_t, ifE_f, sChn_w, chA_v, chA_s, chB_ok, chB_s, chC_tv, chC_ts, chC_f, chD_ok, sNil_w, consB_ok, consB_x, sCons_w, consA_v, consA_x, sTup_w, tupF_ok, sLst_w, lstF_ok, sC1_w, c1A_ok, c1A_x, c1B_s, sCall_w, callA_ok, callA_x, callB_r, callB_x, sCallM_w, cm0_s, cmA_ok, cmB_s, cmC_r, cmC_x, sSeq_w, seqF_n, seqF_r, seqF_x, seqF_b, seqF_c, sIf_w, ifS_t, ifS_f, ifS_x, sExp_w, expF_ok, expF_x, sRet_w, retF_v, retF_f, retF_x, sSet_w, setF_v, setF_f, setF_x, sPar_w, parF_ok, endF_rf, endF_nf, endF_xf, endF_rt, endF_rt', endF_nt', endF_xt', hSeq_w, seqH_l, seqH_t, hRange1_w, rng1_ok, hEnum_w, enumH_ok, sFor_w, forF_ok, forL_n, forA_s, forB_n, forB_c, forB_b, forB_r, forB_x, gSet_w, sLc_w, lcF_ok, lcE_ok, lcL_n, sYes_w, sFld_w, sSetIx_w, sIxA_s, sIxB_s, sIxC_s, sIxD_s, sIxE_s, getPl_sl, setPl_sl, getS_w, Option.getD_some, sLm_w, lm0_s, lmA_s, lmB_s, lmC_s, sSl_w, slA_v, slA_f, slA_t, slL_s, slH_s, slC_s, oPart_w, oPF_s, oNone_w, sM1_w, m1A_s, m1B_s, m1C_s, lcA_s, lcB_f, lcB_t, lcC_ok, freeO_n, freeO_v, ownOk_n, ownOk_c, wipeE_n, wipeE_c, restE_n, restE_c, sDc_w, dcF_ok, dcE_ok, sSetF_w, stfA_ok, getPl_fd, gplF_i, setPl_fd, splF_i, sFldZ_w, mkB_r, mkB_x, mkA_ok, sMake_w, sFmt_w, gAbs]; rfl) (lcMap_all fun d _ => rfl)
  refine ⟨⟨((ns.take 63).map fun i => if i < 0 then -i else i), 0, 20011, 0⟩, ?_⟩
  have cut : cutD (ns.map D.int) none (some 63) = (ns.map D.int).take 63 := cut_hi _ 63
  simp only [runFn_w, LW.argsOk, O.isV, O.d, List.all_cons, List.all_nil, Bool.and_true, Bool.true_and, Bool.and_self, List.length_cons, List.length_nil, List.map_cons, List.map_nil, List.cons_append, List.nil_append, List.replicate_succ, List.replicate_zero, Nat.reduceAdd, Nat.reduceSub, Nat.zero_add, and_self, and_true, true_and, if_true, ite_true, if_false, ite_false, List.getElem?_cons_zero, List.getElem?_cons_succ, List.set_cons_zero, List.set_cons_succ, List.set_nil, Bool.false_eq_true, reduceIte, sVar_w, varF_v, varF_l, varF_k, sFrz_w, frzF_o, sMov_w, movF_o, sC_w, sFz_w, fzF_v, fzF_f, fzF_x, outP_s, opC_s, opB_ok, opB_x, sOp_w, opA_v, opA_f, opA_s, opA_x, rd_v, rd_s, rd_fv, rd_fl, rd_fk, sTB_w, tbF_b, tbF_x, sAndT_w, andT_t, andT_f, sOrT_w, orT_t, orT_f, sNotT_w, notT_ok, sAnd_w, andF_t, andF_f, sOr_w, orF_t, orF_f, sNot_w, notF_ok, sIfE_w, ifE_t, ifE_f, sChn_w, chA_v, chA_s, chB_ok, chB_s, chC_tv, chC_ts, chC_f, chD_ok, sNil_w, consB_ok, consB_x, sCons_w, consA_v, consA_x, sTup_w, tupF_ok, sLst_w, lstF_ok, sC1_w, c1A_ok, c1A_x, c1B_s, sCall_w, callA_ok, callA_x, callB_r, callB_x, sCallM_w, cm0_s, cmA_ok, cmB_s, cmC_r, cmC_x, sSeq_w, seqF_n, seqF_r, seqF_x, seqF_b, seqF_c, sIf_w, ifS_t, ifS_f, ifS_x, sExp_w, expF_ok, expF_x, sRet_w, retF_v, retF_f, retF_x, sSet_w, setF_v, setF_f, setF_x, sPar_w, parF_ok, endF_rf, endF_nf, endF_xf, endF_rt, endF_rt', endF_nt', endF_xt', hSeq_w, seqH_l, seqH_t, hRange1_w, rng1_ok, hEnum_w, enumH_ok, sFor_w, forF_ok, forL_n, forA_s, forB_n, forB_c, forB_b, forB_r, forB_x, gSet_w, sLc_w, lcF_ok, lcE_ok, lcL_n, sYes_w, sFld_w, sSetIx_w, sIxA_s, sIxB_s, sIxC_s, sIxD_s, sIxE_s, getPl_sl, setPl_sl, getS_w, Option.getD_some, sLm_w, lm0_s, lmA_s, lmB_s, lmC_s, sSl_w, slA_v, slA_f, slA_t, slL_s, slH_s, slC_s, oPart_w, oPF_s, oNone_w, sM1_w, m1A_s, m1B_s, m1C_s, lcA_s, lcB_f, lcB_t, lcC_ok, freeO_n, freeO_v, ownOk_n, ownOk_c, wipeE_n, wipeE_c, restE_n, restE_c, sDc_w, dcF_ok, dcE_ok, sSetF_w, stfA_ok, getPl_fd, gplF_i, setPl_fd, splF_i, sFldZ_w, mkB_r, mkB_x, mkA_ok, sMake_w, sFmt_w, gSl, cut, e]
  congr 2
  simp [Pot.o, ψ, List.map_take]
  rfl
theorem pick (p : Pot) (ds : List D) (h : 0 < ds.length) (h2 : ds.length < 1073741824) : ∃ (d : D) (p' : Pot), d ∈ ds ∧ sem__law_pick [p.o, .v (.lst ds)] = .ret (.v d) [p'.o, .v (.lst ds)] := by
  obtain ⟨r, p', e, h0, h1⟩ := draw p (ds.length : Int) (by omega)
  have hr : 0 ≤ r ∧ r < ds.length := by
    by_cases z : (ds.length : Int) < 2
    · rw [h0 z]; omega
    · exact h1 (by omega)
  have hi : r.toNat < ds.length := by omega
  have hg : gIx2 (.lst ds) (.int r) = some (.v ds[r.toNat]) := by
    rw [ix_nat hr.1, List.getElem?_eq_getElem hi]; rfl
  refine ⟨ds[r.toNat], p', List.getElem_mem hi, ?_⟩
  unfold sem__law_pick
  simp only [runFn_w, LW.argsOk, O.isV, O.d, List.all_cons, List.all_nil, Bool.and_true, Bool.true_and, Bool.and_self, List.length_cons, List.length_nil, List.map_cons, List.map_nil, List.cons_append, List.nil_append, List.replicate_succ, List.replicate_zero, Nat.reduceAdd, Nat.reduceSub, Nat.zero_add, and_self, and_true, true_and, if_true, ite_true, if_false, ite_false, List.getElem?_cons_zero, List.getElem?_cons_succ, List.set_cons_zero, List.set_cons_succ, List.set_nil, Bool.false_eq_true, reduceIte, sVar_w, varF_v, varF_l, varF_k, sFrz_w, frzF_o, sMov_w, movF_o, sC_w, sFz_w, fzF_v, fzF_f, fzF_x, outP_s, opC_s, opB_ok, opB_x, sOp_w, opA_v, opA_f, opA_s, opA_x, rd_v, rd_s, rd_fv, rd_fl, rd_fk, sTB_w, tbF_b, tbF_x, sAndT_w, andT_t, andT_f, sOrT_w, orT_t, orT_f, sNotT_w, notT_ok, sAnd_w, andF_t, andF_f, sOr_w, orF_t, orF_f, sNot_w, notF_ok, sIfE_w, ifE_t, ifE_f, sChn_w, chA_v, chA_s, chB_ok, chB_s, chC_tv, chC_ts, chC_f, chD_ok, sNil_w, consB_ok, consB_x, sCons_w, consA_v, consA_x, sTup_w, tupF_ok, sLst_w, lstF_ok, sC1_w, c1A_ok, c1A_x, c1B_s, sCall_w, callA_ok, callA_x, callB_r, callB_x, sCallM_w, cm0_s, cmA_ok, cmB_s, cmC_r, cmC_x, sSeq_w, seqF_n, seqF_r, seqF_x, seqF_b, seqF_c, sIf_w, ifS_t, ifS_f, ifS_x, sExp_w, expF_ok, expF_x, sRet_w, retF_v, retF_f, retF_x, sSet_w, setF_v, setF_f, setF_x, sPar_w, parF_ok, endF_rf, endF_nf, endF_xf, endF_rt, endF_rt', endF_nt', endF_xt', hSeq_w, seqH_l, seqH_t, hRange1_w, rng1_ok, hEnum_w, enumH_ok, sFor_w, forF_ok, forL_n, forA_s, forB_n, forB_c, forB_b, forB_r, forB_x, gSet_w, sLc_w, lcF_ok, lcE_ok, lcL_n, sYes_w, sFld_w, sSetIx_w, sIxA_s, sIxB_s, sIxC_s, sIxD_s, sIxE_s, getPl_sl, setPl_sl, getS_w, Option.getD_some, sLm_w, lm0_s, lmA_s, lmB_s, lmC_s, sSl_w, slA_v, slA_f, slA_t, slL_s, slH_s, slC_s, oPart_w, oPF_s, oNone_w, sM1_w, m1A_s, m1B_s, m1C_s, lcA_s, lcB_f, lcB_t, lcC_ok, freeO_n, freeO_v, ownOk_n, ownOk_c, wipeE_n, wipeE_c, restE_n, restE_c, sDc_w, dcF_ok, dcE_ok, sSetF_w, stfA_ok, getPl_fd, gplF_i, setPl_fd, splF_i, sFldZ_w, mkB_r, mkB_x, mkA_ok, sMake_w, sFmt_w, gLen2, gLen, e, hg]
/-- the letters -/
def AZ : Str := "abcdefghijklmnopqrstuvwxyz"
def Letter (c : Nat) : Prop := 97 ≤ c ∧ c ≤ 122
theorem az_len : AZ.length = 26 := by decide +kernel
theorem az_list : AZ.cps.toList = (List.range 26).map (· + 97) := by decide +kernel
theorem az_mem {c : Nat} : c ∈ AZ.cps.toList ↔ Letter c := by
  rw [az_list, List.mem_map]
  constructor
  · rintro ⟨a, h, rfl⟩
    have := List.mem_range.mp h
    exact ⟨by omega, by omega⟩
  · intro h
    exact ⟨c - 97, List.mem_range.mpr (by have := h.2; have := h.1; omega), by have := h.1; omega⟩
theorem line_big : 100000 ≤ sizeLine := by rw [sizeLine_eq]; omega
theorem pick_az (p : Pot) : ∃ (c : Nat) (p' : Pot), Letter c ∧ sem__law_pick [p.o, .v (.str AZ)] = .ret (.v (.str ⟨#[c]⟩)) [p'.o, .v (.str AZ)] := by
  obtain ⟨r, p', e, h0, h1⟩ := draw p 26 (by omega)
  have hr := h1 (by omega)
  have hi : r.toNat < AZ.cps.toList.length := by rw [az_list]; simp; omega
  have hg : gIx2 (.str AZ) (.int r) = some (.v (.str ⟨#[AZ.cps.toList[r.toNat]]⟩)) := by
    show (if AZ.length ≤ sizeLine then (L2.atI AZ.cps.toList r).map fun c => P.v (.str ⟨#[c]⟩) else none) = _
    rw [if_pos (by rw [az_len]; have := line_big; omega)]
    unfold L2.atI ixN
    rw [if_pos hr.1, if_pos (by rw [az_list]; simp; omega)]
    simp [List.getElem?_eq_getElem hi]
  have hl : gLen2 (.str AZ) = some (.v (.int 26)) := by
    show (if AZ.length ≤ sizeLine then some (P.v (.int AZ.length)) else none) = _
    rw [if_pos (by rw [az_len]; have := line_big; omega), az_len]; rfl
  refine ⟨_, p', az_mem.mp (List.getElem_mem hi), ?_⟩
  unfold sem__law_pick
  simp only [runFn_w, LW.argsOk, O.isV, O.d, List.all_cons, List.all_nil, Bool.and_true, Bool.true_and, Bool.and_self, List.length_cons, List.length_nil, List.map_cons, List.map_nil, List.cons_append, List.nil_append, List.replicate_succ, List.replicate_zero, Nat.reduceAdd, Nat.reduceSub, Nat.zero_add, and_self, and_true, true_and, if_true, ite_true, if_false, ite_false, List.getElem?_cons_zero, List.getElem?_cons_succ, List.set_cons_zero, List.set_cons_succ, List.set_nil, Bool.false_eq_true, reduceIte, sVar_w, varF_v, varF_l, varF_k, sFrz_w, frzF_o, sMov_w, movF_o, sC_w, sFz_w, fzF_v, fzF_f, fzF_x, outP_s, opC_s, opB_ok, opB_x, sOp_w, opA_v, opA_f, opA_s, opA_x, rd_v, rd_s, rd_fv, rd_fl, rd_fk, sTB_w, tbF_b, tbF_x, sAndT_w, andT_t, andT_f, sOrT_w, orT_t, orT_f, sNotT_w, notT_ok, sAnd_w, andF_t, andF_f, sOr_w, orF_t, orF_f, sNot_w, notF_ok, sIfE_w, ifE_t, ifE_f, sChn_w, chA_v, chA_s, chB_ok, chB_s, chC_tv, chC_ts, chC_f, chD_ok, sNil_w, consB_ok, consB_x, sCons_w, consA_v, consA_x, sTup_w, tupF_ok, sLst_w, lstF_ok, sC1_w, c1A_ok, c1A_x, c1B_s, sCall_w, callA_ok, callA_x, callB_r, callB_x, sCallM_w, cm0_s, cmA_ok, cmB_s, cmC_r, cmC_x, sSeq_w, seqF_n, seqF_r, seqF_x, seqF_b, seqF_c, sIf_w, ifS_t, ifS_f, ifS_x, sExp_w, expF_ok, expF_x, sRet_w, retF_v, retF_f, retF_x, sSet_w, setF_v, setF_f, setF_x, sPar_w, parF_ok, endF_rf, endF_nf, endF_xf, endF_rt, endF_rt', endF_nt', endF_xt', hSeq_w, seqH_l, seqH_t, hRange1_w, rng1_ok, hEnum_w, enumH_ok, sFor_w, forF_ok, forL_n, forA_s, forB_n, forB_c, forB_b, forB_r, forB_x, gSet_w, sLc_w, lcF_ok, lcE_ok, lcL_n, sYes_w, sFld_w, sSetIx_w, sIxA_s, sIxB_s, sIxC_s, sIxD_s, sIxE_s, getPl_sl, setPl_sl, getS_w, Option.getD_some, sLm_w, lm0_s, lmA_s, lmB_s, lmC_s, sSl_w, slA_v, slA_f, slA_t, slL_s, slH_s, slC_s, oPart_w, oPF_s, oNone_w, sM1_w, m1A_s, m1B_s, m1C_s, lcA_s, lcB_f, lcB_t, lcC_ok, freeO_n, freeO_v, ownOk_n, ownOk_c, wipeE_n, wipeE_c, restE_n, restE_c, sDc_w, dcF_ok, dcE_ok, sSetF_w, stfA_ok, getPl_fd, gplF_i, setPl_fd, splF_i, sFldZ_w, mkB_r, mkB_x, mkA_ok, sMake_w, sFmt_w, hl, e, hg]
/-- a text of letters -/
def Lets (s : Str) : Prop := ∀ c ∈ s.cps.toList, Letter c
def one (c : Nat) : Str := ⟨#[c]⟩
/-- signs drawn one behind another -/
theorem signs (a : Option O) : ∀ (ds : List D) (p : Pot) (acc : List D), ∃ (cs : List Nat) (p' : Pot), (∀ c ∈ cs, Letter c) ∧ cs.length = ds.length ∧
    lcL [2] (gSet 2) sYes (sCallM sem__law_pick 0 (sCons (sC (.str "abcdefghijklmnopqrstuvwxyz")) sNil)) ds acc [some p.o, a, none] = .ok (acc ++ cs.map fun c => .str (one c)) [some p'.o, a, none]
  | [], p, acc => ⟨[], p, by simp, rfl, by simp⟩
  | d :: r, p, acc => by
    obtain ⟨c, p1, hc, e1⟩ := pick_az p
    have e1 : sem__law_pick [p.o, .v (.str "abcdefghijklmnopqrstuvwxyz")] = .ret (.v (.str ⟨#[c]⟩)) [p1.o, .v (.str AZ)] := e1
    obtain ⟨cs, p2, hcs, hl, e2⟩ := signs a r p1 (acc ++ [.str (one c)])
    refine ⟨c :: cs, p2, fun x hx => ?_, by simp [hl], ?_⟩
    · rcases List.mem_cons.mp hx with z | z
      · rw [z]; exact hc
      · exact hcs x z
    · rw [lcL_c]
      simp only [runFn_w, LW.argsOk, O.isV, O.d, List.all_cons, List.all_nil, Bool.and_true, Bool.true_and, Bool.and_self, List.length_cons, List.length_nil, List.map_cons, List.map_nil, List.cons_append, List.nil_append, List.replicate_succ, List.replicate_zero, Nat.reduceAdd, Nat.reduceSub, Nat.zero_add, and_self, and_true, true_and, if_true, ite_true, if_false, ite_false, List.getElem?_cons_zero, List.getElem?_cons_succ, List.set_cons_zero, List.set_cons_succ, List.set_nil, Bool.false_eq_true, reduceIte, sVar_w, varF_v, varF_l, varF_k, sFrz_w, frzF_o, sMov_w, movF_o, sC_w, sFz_w, fzF_v, fzF_f, fzF_x, outP_s, opC_s, opB_ok, opB_x, sOp_w, opA_v, opA_f, opA_s, opA_x, rd_v, rd_s, rd_fv, rd_fl, rd_fk, sTB_w, tbF_b, tbF_x, sAndT_w, andT_t, andT_f, sOrT_w, orT_t, orT_f, sNotT_w, notT_ok, sAnd_w, andF_t, andF_f, sOr_w, orF_t, orF_f, sNot_w, notF_ok, sIfE_w, ifE_t, ifE_f, sChn_w, chA_v, chA_s, chB_ok, chB_s, chC_tv, chC_ts, chC_f, chD_ok, sNil_w, consB_ok, consB_x, sCons_w, consA_v, consA_x, sTup_w, tupF_ok, sLst_w, lstF_ok, sC1_w, c1A_ok, c1A_x, c1B_s, sCall_w, callA_ok, callA_x, callB_r, callB_x, sCallM_w, cm0_s, cmA_ok, cmB_s, cmC_r, cmC_x, sSeq_w, seqF_n, seqF_r, seqF_x, seqF_b, seqF_c, sIf_w, ifS_t, ifS_f, ifS_x, sExp_w, expF_ok, expF_x, sRet_w, retF_v, retF_f, retF_x, sSet_w, setF_v, setF_f, setF_x, sPar_w, parF_ok, endF_rf, endF_nf, endF_xf, endF_rt, endF_rt', endF_nt', endF_xt', hSeq_w, seqH_l, seqH_t, hRange1_w, rng1_ok, hEnum_w, enumH_ok, sFor_w, forF_ok, forL_n, forA_s, forB_n, forB_c, forB_b, forB_r, forB_x, gSet_w, sLc_w, lcF_ok, lcE_ok, lcL_n, sYes_w, sFld_w, sSetIx_w, sIxA_s, sIxB_s, sIxC_s, sIxD_s, sIxE_s, getPl_sl, setPl_sl, getS_w, Option.getD_some, sLm_w, lm0_s, lmA_s, lmB_s, lmC_s, sSl_w, slA_v, slA_f, slA_t, slL_s, slH_s, slC_s, oPart_w, oPF_s, oNone_w, sM1_w, m1A_s, m1B_s, m1C_s, lcA_s, lcB_f, lcB_t, lcC_ok, freeO_n, freeO_v, ownOk_n, ownOk_c, wipeE_n, wipeE_c, restE_n, restE_c, sDc_w, dcF_ok, dcE_ok, sSetF_w, stfA_ok, getPl_fd, gplF_i, setPl_fd, splF_i, sFldZ_w, mkB_r, mkB_x, mkA_ok, sMake_w, sFmt_w, e1]
      rw [show (Str.mk #[c]) = one c from rfl, e2]
      simp
theorem one_S (c : Nat) : one c = SX.S [c] := rfl
theorem joinL_nil : ∀ l : List (List Nat), TL.joinL [] l = l.flatten
  | [] => rfl
  | [p] => by simp [TL.joinL]
  | p :: q :: r => by
    show p ++ ([] ++ TL.joinL [] (q :: r)) = _
    rw [joinL_nil (q :: r)]; simp
theorem join_e (l : List (List Nat)) : Txt.join "" (l.map SX.S) = SX.S l.flatten := by
  rw [show ("" : Str) = SX.S [] from rfl, SX.join_S, joinL_nil]
theorem join_one (cs : List Nat) : Txt.join "" (cs.map one) = SX.S cs := by
  have : cs.map one = (cs.map fun c => [c]).map SX.S := by rw [List.map_map]; rfl
  rw [this, join_e]
  congr 1
  clear this
  induction cs with
  | nil => rfl
  | cons c r ih => simp [ih]
theorem strsOf_map : ∀ ys : List Str, strsOf (ys.map .str) = some ys
  | [] => rfl
  | y :: r => by simp [strsOf, strsOf_map r]
theorem gEq_int (a b : Int) : gEq (.int a) (.int b) = some (.v (.bl (decide (a = b)))) := by
  unfold gEq D.cmp
  simp [D.eqv, D.py, D.plain, PyData.eqv]
  rfl
theorem words : sem__law_words [] = .ret (.f (.l [.str "place", .str "way", .str "end"])) [] := by
  unfold sem__law_words
  simp only [runFn_w, LW.argsOk, O.isV, O.d, List.all_cons, List.all_nil, Bool.and_true, Bool.true_and, Bool.and_self, List.length_cons, List.length_nil, List.map_cons, List.map_nil, List.cons_append, List.nil_append, List.replicate_succ, List.replicate_zero, Nat.reduceAdd, Nat.reduceSub, Nat.zero_add, and_self, and_true, true_and, if_true, ite_true, if_false, ite_false, List.getElem?_cons_zero, List.getElem?_cons_succ, List.set_cons_zero, List.set_cons_succ, List.set_nil, Bool.false_eq_true, reduceIte, sVar_w, varF_v, varF_l, varF_k, sFrz_w, frzF_o, sMov_w, movF_o, sC_w, sFz_w, fzF_v, fzF_f, fzF_x, outP_s, opC_s, opB_ok, opB_x, sOp_w, opA_v, opA_f, opA_s, opA_x, rd_v, rd_s, rd_fv, rd_fl, rd_fk, sTB_w, tbF_b, tbF_x, sAndT_w, andT_t, andT_f, sOrT_w, orT_t, orT_f, sNotT_w, notT_ok, sAnd_w, andF_t, andF_f, sOr_w, orF_t, orF_f, sNot_w, notF_ok, sIfE_w, ifE_t, ifE_f, sChn_w, chA_v, chA_s, chB_ok, chB_s, chC_tv, chC_ts, chC_f, chD_ok, sNil_w, consB_ok, consB_x, sCons_w, consA_v, consA_x, sTup_w, tupF_ok, sLst_w, lstF_ok, sC1_w, c1A_ok, c1A_x, c1B_s, sCall_w, callA_ok, callA_x, callB_r, callB_x, sCallM_w, cm0_s, cmA_ok, cmB_s, cmC_r, cmC_x, sSeq_w, seqF_n, seqF_r, seqF_x, seqF_b, seqF_c, sIf_w, ifS_t, ifS_f, ifS_x, sExp_w, expF_ok, expF_x, sRet_w, retF_v, retF_f, retF_x, sSet_w, setF_v, setF_f, setF_x, sPar_w, parF_ok, endF_rf, endF_nf, endF_xf, endF_rt, endF_rt', endF_nt', endF_xt', hSeq_w, seqH_l, seqH_t, hRange1_w, rng1_ok, hEnum_w, enumH_ok, sFor_w, forF_ok, forL_n, forA_s, forB_n, forB_c, forB_b, forB_r, forB_x, gSet_w, sLc_w, lcF_ok, lcE_ok, lcL_n, sYes_w, sFld_w, sSetIx_w, sIxA_s, sIxB_s, sIxC_s, sIxD_s, sIxE_s, getPl_sl, setPl_sl, getS_w, Option.getD_some, sLm_w, lm0_s, lmA_s, lmB_s, lmC_s, sSl_w, slA_v, slA_f, slA_t, slL_s, slH_s, slC_s, oPart_w, oPF_s, oNone_w, sM1_w, m1A_s, m1B_s, m1C_s, lcA_s, lcB_f, lcB_t, lcC_ok, freeO_n, freeO_v, ownOk_n, ownOk_c, wipeE_n, wipeE_c, restE_n, restE_c, sDc_w, dcF_ok, dcE_ok, sSetF_w, stfA_ok, getPl_fd, gplF_i, setPl_fd, splF_i, sFldZ_w, mkB_r, mkB_x, mkA_ok, sMake_w, sFmt_w]
/-- a word drawn -/
theorem word (p : Pot) : ∃ (l : List Nat) (p' : Pot), sem__law_word [p.o] = .ret (.v (.str (SX.S l))) [p'.o] ∧ (∀ c ∈ l, Letter c) ∧ l.length ≤ 8 := by
  unfold sem__law_word
  obtain ⟨r, p1, e1, _, _⟩ := draw p 6 (by omega)
  by_cases hr : r = 0
  · have hr := decide_eq_true hr
    obtain ⟨d, p2, hd, e2⟩ := pick p1 [.str "place", .str "way", .str "end"] (by simp) (by simp)
    have hl : ∃ l, d = .str (SX.S l) ∧ (∀ c ∈ l, Letter c) ∧ l.length ≤ 8 := by
      simp only [List.mem_cons, List.not_mem_nil, or_false] at hd
      rcases hd with rfl | rfl | rfl
      · exact ⟨[112, 108, 97, 99, 101], by rfl, by unfold Letter; decide, by decide⟩
      · exact ⟨[119, 97, 121], by rfl, by unfold Letter; decide, by decide⟩
      · exact ⟨[101, 110, 100], by rfl, by unfold Letter; decide, by decide⟩
    obtain ⟨l, rfl, h1, h2⟩ := hl
    refine ⟨l, p2, ?_, h1, h2⟩
    simp only [runFn_w, LW.argsOk, O.isV, O.d, List.all_cons, List.all_nil, Bool.and_true, Bool.true_and, Bool.and_self, List.length_cons, List.length_nil, List.map_cons, List.map_nil, List.cons_append, List.nil_append, List.replicate_succ, List.replicate_zero, Nat.reduceAdd, Nat.reduceSub, Nat.zero_add, and_self, and_true, true_and, if_true, ite_true, if_false, ite_false, List.getElem?_cons_zero, List.getElem?_cons_succ, List.set_cons_zero, List.set_cons_succ, List.set_nil, Bool.false_eq_true, reduceIte, sVar_w, varF_v, varF_l, varF_k, sFrz_w, frzF_o, sMov_w, movF_o, sC_w, sFz_w, fzF_v, fzF_f, fzF_x, outP_s, opC_s, opB_ok, opB_x, sOp_w, opA_v, opA_f, opA_s, opA_x, rd_v, rd_s, rd_fv, rd_fl, rd_fk, sTB_w, tbF_b, tbF_x, sAndT_w, andT_t, andT_f, sOrT_w, orT_t, orT_f, sNotT_w, notT_ok, sAnd_w, andF_t, andF_f, sOr_w, orF_t, orF_f, sNot_w, notF_ok, sIfE_w, ifE_t, ifE_f, sChn_w, chA_v, chA_s, chB_ok, chB_s, chC_tv, chC_ts, chC_f, chD_ok, sNil_w, consB_ok, consB_x, sCons_w, consA_v, consA_x, sTup_w, tupF_ok, sLst_w, lstF_ok, sC1_w, c1A_ok, c1A_x, c1B_s, sCall_w, callA_ok, callA_x, callB_r, callB_x, sCallM_w, cm0_s, cmA_ok, cmB_s, cmC_r, cmC_x, sSeq_w, seqF_n, seqF_r, seqF_x, seqF_b, seqF_c, sIf_w, ifS_t, ifS_f, ifS_x, sExp_w, expF_ok, expF_x, sRet_w, retF_v, retF_f, retF_x, sSet_w, setF_v, setF_f, setF_x, sPar_w, parF_ok, endF_rf, endF_nf, endF_xf, endF_rt, endF_rt', endF_nt', endF_xt', hSeq_w, seqH_l, seqH_t, hRange1_w, rng1_ok, hEnum_w, enumH_ok, sFor_w, forF_ok, forL_n, forA_s, forB_n, forB_c, forB_b, forB_r, forB_x, gSet_w, sLc_w, lcF_ok, lcE_ok, lcL_n, sYes_w, sFld_w, sSetIx_w, sIxA_s, sIxB_s, sIxC_s, sIxD_s, sIxE_s, getPl_sl, setPl_sl, getS_w, Option.getD_some, sLm_w, lm0_s, lmA_s, lmB_s, lmC_s, sSl_w, slA_v, slA_f, slA_t, slL_s, slH_s, slC_s, oPart_w, oPF_s, oNone_w, sM1_w, m1A_s, m1B_s, m1C_s, lcA_s, lcB_f, lcB_t, lcC_ok, freeO_n, freeO_v, ownOk_n, ownOk_c, wipeE_n, wipeE_c, restE_n, restE_c, sDc_w, dcF_ok, dcE_ok, sSetF_w, stfA_ok, getPl_fd, gplF_i, setPl_fd, splF_i, sFldZ_w, mkB_r, mkB_x, mkA_ok, sMake_w, sFmt_w, e1, gEq_int, hr, words, e2]
  · have hr := decide_eq_false hr
    obtain ⟨d, p2, hd, e2⟩ := pick p1 [.int 1, .int 2, .int 3, .int 5, .int 8] (by simp) (by simp)
    have hk : ∃ k : Nat, d = .int k ∧ k ≤ 8 := by
      simp only [List.mem_cons, List.not_mem_nil, or_false] at hd
      rcases hd with rfl | rfl | rfl | rfl | rfl
      · exact ⟨1, rfl, by omega⟩
      · exact ⟨2, rfl, by omega⟩
      · exact ⟨3, rfl, by omega⟩
      · exact ⟨5, rfl, by omega⟩
      · exact ⟨8, rfl, by omega⟩
    obtain ⟨k, rfl, hk⟩ := hk
    obtain ⟨cs, p3, hc, hl, e3⟩ := signs (some (.v (.int k))) (rangeD 0 k) p2 []
    have hlen : cs.length = k := by rw [hl, rangeD_len]; omega
    refine ⟨cs, p3, ?_, hc, by omega⟩
    have hj : gJoin "" (.lst (cs.map fun c => D.str (one c))) = some (.v (.str (SX.S cs))) := by
      have : (cs.map fun c => D.str (one c)) = (cs.map one).map .str := by rw [List.map_map]; rfl
      unfold gJoin
      simp only [seqOf, this, strsOf_map]
      rw [if_pos, join_one]
      have : ((cs.map one).map (·.length)).sum = cs.length := by
        rw [List.map_map]
        clear this e3 hl hc hlen
        induction cs with
        | nil => rfl
        | cons c r ih =>
          rw [List.map_cons, List.sum_cons, ih, List.length_cons]
          show 1 + r.length = r.length + 1
          omega
      rw [this]
      show cs.length + (cs.map one).length * 0 ≤ 16777216
      omega
    simp only [runFn_w, LW.argsOk, O.isV, O.d, List.all_cons, List.all_nil, Bool.and_true, Bool.true_and, Bool.and_self, List.length_cons, List.length_nil, List.map_cons, List.map_nil, List.cons_append, List.nil_append, List.replicate_succ, List.replicate_zero, Nat.reduceAdd, Nat.reduceSub, Nat.zero_add, and_self, and_true, true_and, if_true, ite_true, if_false, ite_false, List.getElem?_cons_zero, List.getElem?_cons_succ, List.set_cons_zero, List.set_cons_succ, List.set_nil, Bool.false_eq_true, reduceIte, sVar_w, varF_v, varF_l, varF_k, sFrz_w, frzF_o, sMov_w, movF_o, sC_w, sFz_w, fzF_v, fzF_f, fzF_x, outP_s, opC_s, opB_ok, opB_x, sOp_w, opA_v, opA_f, opA_s, opA_x, rd_v, rd_s, rd_fv, rd_fl, rd_fk, sTB_w, tbF_b, tbF_x, sAndT_w, andT_t, andT_f, sOrT_w, orT_t, orT_f, sNotT_w, notT_ok, sAnd_w, andF_t, andF_f, sOr_w, orF_t, orF_f, sNot_w, notF_ok, sIfE_w, ifE_t, ifE_f, sChn_w, chA_v, chA_s, chB_ok, chB_s, chC_tv, chC_ts, chC_f, chD_ok, sNil_w, consB_ok, consB_x, sCons_w, consA_v, consA_x, sTup_w, tupF_ok, sLst_w, lstF_ok, sC1_w, c1A_ok, c1A_x, c1B_s, sCall_w, callA_ok, callA_x, callB_r, callB_x, sCallM_w, cm0_s, cmA_ok, cmB_s, cmC_r, cmC_x, sSeq_w, seqF_n, seqF_r, seqF_x, seqF_b, seqF_c, sIf_w, ifS_t, ifS_f, ifS_x, sExp_w, expF_ok, expF_x, sRet_w, retF_v, retF_f, retF_x, sSet_w, setF_v, setF_f, setF_x, sPar_w, parF_ok, endF_rf, endF_nf, endF_xf, endF_rt, endF_rt', endF_nt', endF_xt', hSeq_w, seqH_l, seqH_t, hRange1_w, rng1_ok, hEnum_w, enumH_ok, sFor_w, forF_ok, forL_n, forA_s, forB_n, forB_c, forB_b, forB_r, forB_x, gSet_w, sLc_w, lcF_ok, lcE_ok, lcL_n, sYes_w, sFld_w, sSetIx_w, sIxA_s, sIxB_s, sIxC_s, sIxD_s, sIxE_s, getPl_sl, setPl_sl, getS_w, Option.getD_some, sLm_w, lm0_s, lmA_s, lmB_s, lmC_s, sSl_w, slA_v, slA_f, slA_t, slL_s, slH_s, slC_s, oPart_w, oPF_s, oNone_w, sM1_w, m1A_s, m1B_s, m1C_s, lcA_s, lcB_f, lcB_t, lcC_ok, freeO_n, freeO_v, ownOk_n, ownOk_c, wipeE_n, wipeE_c, restE_n, restE_c, sDc_w, dcF_ok, dcE_ok, sSetF_w, stfA_ok, getPl_fd, gplF_i, setPl_fd, splF_i, sFldZ_w, mkB_r, mkB_x, mkA_ok, sMake_w, sFmt_w, e1, gEq_int, hr, e2, show (-1000000 ≤ (k : Int)) ∧ (k : Int) ≤ 1000000 from ⟨by omega, by omega⟩, e3, hj]
end SM

namespace SM
open PySem LW L2
/-! isinstance by kinds -/
theorem ia_str_str {z : Str} : gIs (D.isa CS .str) (.str z) = some (.v (.bl true)) := rfl
theorem ia_int_int {z : Int} : gIs (D.isa CS .int) (.int z) = some (.v (.bl true)) := rfl
theorem ia_bool_int {z : Int} : gIs (D.isa CS .bool) (.int z) = some (.v (.bl false)) := rfl
theorem ia_tuple_tup {z : List D} : gIs (D.isa CS .tuple) (.tup z) = some (.v (.bl true)) := rfl
theorem ia_lt_lst {z : List D} : gIs2 (D.isa CS .list) (D.isa CS .tuple) (.lst z) = some (.v (.bl true)) := rfl
theorem ia_lt_tup {z : List D} : gIs2 (D.isa CS .list) (D.isa CS .tuple) (.tup z) = some (.v (.bl true)) := rfl
/-! lengths -/
theorem len_str {l : List Nat} (h : l.length ≤ 100000) : gLen2 (.str (SX.S l)) = some (.v (.int l.length)) := by
  show (if (SX.S l).length ≤ sizeLine then some (P.v (.int (SX.S l).length)) else none) = _
  rw [SX.S_len, if_pos (Nat.le_trans h line_big)]
theorem len_lst {ds : List D} : gLen2 (.lst ds) = some (.v (.int ds.length)) := rfl
theorem len_tup {ds : List D} : gLen2 (.tup ds) = some (.v (.int ds.length)) := rfl
instance (c : Nat) : Decidable (Letter c) := inferInstanceAs (Decidable (97 ≤ c ∧ c ≤ 122))
theorem in_az (c : Nat) : gIn2 (.str ⟨#[c]⟩) (.str "abcdefghijklmnopqrstuvwxyz") = some (.v (.bl (decide (Letter c)))) := by
  show some (P.v (.bl (decide (c ∈ AZ.cps.toList)))) = _
  congr 3
  exact decide_eq_decide.mpr az_mem
theorem walk_S (l : List Nat) : ((SX.S l).cps.toList.map fun c => D.str ⟨#[c]⟩) = l.map fun c => D.str ⟨#[c]⟩ := rfl
/-- a label by the law -/
def isLab (l : List Nat) : Bool := decide (1 ≤ l.length) && decide (l.length ≤ 8) && l.all fun c => decide (Letter c)
theorem filter_all {l : List Nat} {f : Nat → Bool} : decide ((l.filter f).length = l.length) = l.all f := by
  induction l with
  | nil => rfl
  | cons c r ih =>
    rw [List.filter_cons, List.all_cons]
    cases hf : f c with
    | true => simp only [if_true, List.length_cons, Bool.true_and, ← ih]; exact decide_eq_decide.mpr (by omega)
    | false =>
      have := List.length_filter_le f r
      simp only [Bool.false_eq_true, if_false, Bool.false_and, List.length_cons, decide_eq_false_iff_not]
      omega
theorem lc_filter {φ : D → Bool} : ∀ ds : List D, lcMap (fun d => if φ d = true then some (some d) else some none) ds = some (ds.filter φ)
  | [] => rfl
  | d :: r => by
    unfold lcMap
    rw [lc_filter r, List.filter_cons]
    cases φ d <;> rfl
theorem law_label (l : List Nat) (h : l.length ≤ 100000) : sem__law_is_label [.v (.str (SX.S l))] = .ret (.v (.bl (isLab l))) [.v (.str (SX.S l))] := by
  unfold sem__law_is_label
  have hz : (SX.S l).length ≤ sizeLine := by rw [SX.S_len]; exact Nat.le_trans h line_big
  by_cases h1 : 1 ≤ l.length
  · have h1' : decide ((1 : Int) ≤ (l.length : Int)) = true := decide_eq_true (by omega)
    by_cases h2 : l.length ≤ 8
    · have h2' : decide ((l.length : Int) ≤ 8) = true := decide_eq_true (by omega)
      let φ : D → Bool := fun d => match d with | .str s => (match s.cps.toList with | [c] => decide (Letter c) | _ => false) | _ => false
      have e := lcL_map (ow := [1]) (tg := gSet 1) (t := sTB (sOp gIn2 true (sVar 1) (sC (.str "abcdefghijklmnopqrstuvwxyz")))) (f := sVar 1) (φ := fun d => if φ d = true then some (some d) else some none)
        (ρ0 := [some (.v (.str (SX.S l))), none]) (ds := l.map fun c => D.str ⟨#[c]⟩) (acc := []) (fun d hd z hz => by
          obtain ⟨c, _, rfl⟩ := List.mem_map.mp hd
          have hφ : φ (.str ⟨#[c]⟩) = decide (Letter c) := rfl
          rw [hφ] at hz
          by_cases hc : Letter c
          · rw [decide_eq_true hc] at hz
            cases hz
            refine ⟨_, [some (.v (.str (SX.S l))), some (.v (.str ⟨#[c]⟩))], rfl, ⟨[some (.v (.str (SX.S l))), some (.v (.str ⟨#[c]⟩))], ?_, ?_⟩, rfl⟩
            · simp only [runFn_w, LW.argsOk, O.isV, O.d, List.all_cons, List.all_nil, Bool.and_true, Bool.true_and, Bool.and_self, List.length_cons, List.length_nil, List.map_cons, List.map_nil, List.cons_append, List.nil_append, List.replicate_succ, List.replicate_zero, Nat.reduceAdd, Nat.reduceSub, Nat.zero_add, and_self, and_true, true_and, if_true, ite_true, if_false, ite_false, List.getElem?_cons_zero, List.getElem?_cons_succ, List.set_cons_zero, List.set_cons_succ, List.set_nil, Bool.false_eq_true, reduceIte, sVar_w, varF_v, varF_l, varF_k, sFrz_w, frzF_o, sMov_w, movF_o, sC_w, sFz_w, fzF_v, fzF_f, fzF_x, outP_s, opC_s, opB_ok, opB_x, sOp_w, opA_v, opA_f, opA_s, opA_x, rd_v, rd_s, rd_fv, rd_fl, rd_fk, sTB_w, tbF_b, tbF_x, sAndT_w, andT_t, andT_f, sOrT_w, orT_t, orT_f, sNotT_w, notT_ok, sAnd_w, andF_t, andF_f, sOr_w, orF_t, orF_f, sNot_w, notF_ok, sIfE_w, ifE_t, ifE_f, sChn_w, chA_v, chA_s, chB_ok, chB_s, chC_tv, chC_ts, chC_f, chD_ok, sNil_w, consB_ok, consB_x, sCons_w, consA_v, consA_x, sTup_w, tupF_ok, sLst_w, lstF_ok, sC1_w, c1A_ok, c1A_x, c1B_s, sCall_w, callA_ok, callA_x, callB_r, callB_x, sCallM_w, cm0_s, cmA_ok, cmB_s, cmC_r, cmC_x, sSeq_w, seqF_n, seqF_r, seqF_x, seqF_b, seqF_c, sIf_w, ifS_t, ifS_f, ifS_x, sExp_w, expF_ok, expF_x, sRet_w, retF_v, retF_f, retF_x, sSet_w, setF_v, setF_f, setF_x, sPar_w, parF_ok, endF_rf, endF_nf, endF_xf, endF_rt, endF_rt', endF_nt', endF_xt', hSeq_w, seqH_l, seqH_t, hRange1_w, rng1_ok, hEnum_w, enumH_ok, sFor_w, forF_ok, forL_n, forA_s, forB_n, forB_c, forB_b, forB_r, forB_x, gSet_w, sLc_w, lcF_ok, lcE_ok, lcL_n, sYes_w, sFld_w, sSetIx_w, sIxA_s, sIxB_s, sIxC_s, sIxD_s, sIxE_s, getPl_sl, setPl_sl, getS_w, Option.getD_some, sLm_w, lm0_s, lmA_s, lmB_s, lmC_s, sSl_w, slA_v, slA_f, slA_t, slL_s, slH_s, slC_s, oPart_w, oPF_s, oNone_w, sM1_w, m1A_s, m1B_s, m1C_s, lcA_s, lcB_f, lcB_t, lcC_ok, freeO_n, freeO_v, ownOk_n, ownOk_c, wipeE_n, wipeE_c, restE_n, restE_c, sDc_w, dcF_ok, dcE_ok, sSetF_w, stfA_ok, getPl_fd, gplF_i, setPl_fd, splF_i, sFldZ_w, mkB_r, mkB_x, mkA_ok, sMake_w, sFmt_w, in_az, decide_eq_true hc]
            · simp only [runFn_w, LW.argsOk, O.isV, O.d, List.all_cons, List.all_nil, Bool.and_true, Bool.true_and, Bool.and_self, List.length_cons, List.length_nil, List.map_cons, List.map_nil, List.cons_append, List.nil_append, List.replicate_succ, List.replicate_zero, Nat.reduceAdd, Nat.reduceSub, Nat.zero_add, and_self, and_true, true_and, if_true, ite_true, if_false, ite_false, List.getElem?_cons_zero, List.getElem?_cons_succ, List.set_cons_zero, List.set_cons_succ, List.set_nil, Bool.false_eq_true, reduceIte, sVar_w, varF_v, varF_l, varF_k, sFrz_w, frzF_o, sMov_w, movF_o, sC_w, sFz_w, fzF_v, fzF_f, fzF_x, outP_s, opC_s, opB_ok, opB_x, sOp_w, opA_v, opA_f, opA_s, opA_x, rd_v, rd_s, rd_fv, rd_fl, rd_fk, sTB_w, tbF_b, tbF_x, sAndT_w, andT_t, andT_f, sOrT_w, orT_t, orT_f, sNotT_w, notT_ok, sAnd_w, andF_t, andF_f, sOr_w, orF_t, orF_f, sNot_w, notF_ok, sIfE_w, ifE_t, ifE_f, sChn_w, chA_v, chA_s, chB_ok, chB_s, chC_tv, chC_ts, chC_f, chD_ok, sNil_w, consB_ok, consB_x, sCons_w, consA_v, consA_x, sTup_w, tupF_ok, sLst_w, lstF_ok, sC1_w, c1A_ok, c1A_x, c1B_s, sCall_w, callA_ok, callA_x, callB_r, callB_x, sCallM_w, cm0_s, cmA_ok, cmB_s, cmC_r, cmC_x, sSeq_w, seqF_n, seqF_r, seqF_x, seqF_b, seqF_c, sIf_w, ifS_t, ifS_f, ifS_x, sExp_w, expF_ok, expF_x, sRet_w, retF_v, retF_f, retF_x, sSet_w, setF_v, setF_f, setF_x, sPar_w, parF_ok, endF_rf, endF_nf, endF_xf, endF_rt, endF_rt', endF_nt', endF_xt', hSeq_w, seqH_l, seqH_t, hRange1_w, rng1_ok, hEnum_w, enumH_ok, sFor_w, forF_ok, forL_n, forA_s, forB_n, forB_c, forB_b, forB_r, forB_x, gSet_w, sLc_w, lcF_ok, lcE_ok, lcL_n, sYes_w, sFld_w, sSetIx_w, sIxA_s, sIxB_s, sIxC_s, sIxD_s, sIxE_s, getPl_sl, setPl_sl, getS_w, Option.getD_some, sLm_w, lm0_s, lmA_s, lmB_s, lmC_s, sSl_w, slA_v, slA_f, slA_t, slL_s, slH_s, slC_s, oPart_w, oPF_s, oNone_w, sM1_w, m1A_s, m1B_s, m1C_s, lcA_s, lcB_f, lcB_t, lcC_ok, freeO_n, freeO_v, ownOk_n, ownOk_c, wipeE_n, wipeE_c, restE_n, restE_c, sDc_w, dcF_ok, dcE_ok, sSetF_w, stfA_ok, getPl_fd, gplF_i, setPl_fd, splF_i, sFldZ_w, mkB_r, mkB_x, mkA_ok, sMake_w, sFmt_w]
          · rw [decide_eq_false hc] at hz
            cases hz
            refine ⟨_, [some (.v (.str (SX.S l))), some (.v (.str ⟨#[c]⟩))], rfl, ?_, rfl⟩
            simp only
            simp only [runFn_w, LW.argsOk, O.isV, O.d, List.all_cons, List.all_nil, Bool.and_true, Bool.true_and, Bool.and_self, List.length_cons, List.length_nil, List.map_cons, List.map_nil, List.cons_append, List.nil_append, List.replicate_succ, List.replicate_zero, Nat.reduceAdd, Nat.reduceSub, Nat.zero_add, and_self, and_true, true_and, if_true, ite_true, if_false, ite_false, List.getElem?_cons_zero, List.getElem?_cons_succ, List.set_cons_zero, List.set_cons_succ, List.set_nil, Bool.false_eq_true, reduceIte, sVar_w, varF_v, varF_l, varF_k, sFrz_w, frzF_o, sMov_w, movF_o, sC_w, sFz_w, fzF_v, fzF_f, fzF_x, outP_s, opC_s, opB_ok, opB_x, sOp_w, opA_v, opA_f, opA_s, opA_x, rd_v, rd_s, rd_fv, rd_fl, rd_fk, sTB_w, tbF_b, tbF_x, sAndT_w, andT_t, andT_f, sOrT_w, orT_t, orT_f, sNotT_w, notT_ok, sAnd_w, andF_t, andF_f, sOr_w, orF_t, orF_f, sNot_w, notF_ok, sIfE_w, ifE_t, ifE_f, sChn_w, chA_v, chA_s, chB_ok, chB_s, chC_tv, chC_ts, chC_f, chD_ok, sNil_w, consB_ok, consB_x, sCons_w, consA_v, consA_x, sTup_w, tupF_ok, sLst_w, lstF_ok, sC1_w, c1A_ok, c1A_x, c1B_s, sCall_w, callA_ok, callA_x, callB_r, callB_x, sCallM_w, cm0_s, cmA_ok, cmB_s, cmC_r, cmC_x, sSeq_w, seqF_n, seqF_r, seqF_x, seqF_b, seqF_c, sIf_w, ifS_t, ifS_f, ifS_x, sExp_w, expF_ok, expF_x, sRet_w, retF_v, retF_f, retF_x, sSet_w, setF_v, setF_f, setF_x, sPar_w, parF_ok, endF_rf, endF_nf, endF_xf, endF_rt, endF_rt', endF_nt', endF_xt', hSeq_w, seqH_l, seqH_t, hRange1_w, rng1_ok, hEnum_w, enumH_ok, sFor_w, forF_ok, forL_n, forA_s, forB_n, forB_c, forB_b, forB_r, forB_x, gSet_w, sLc_w, lcF_ok, lcE_ok, lcL_n, sYes_w, sFld_w, sSetIx_w, sIxA_s, sIxB_s, sIxC_s, sIxD_s, sIxE_s, getPl_sl, setPl_sl, getS_w, Option.getD_some, sLm_w, lm0_s, lmA_s, lmB_s, lmC_s, sSl_w, slA_v, slA_f, slA_t, slL_s, slH_s, slC_s, oPart_w, oPF_s, oNone_w, sM1_w, m1A_s, m1B_s, m1C_s, lcA_s, lcB_f, lcB_t, lcC_ok, freeO_n, freeO_v, ownOk_n, ownOk_c, wipeE_n, wipeE_c, restE_n, restE_c, sDc_w, dcF_ok, dcE_ok, sSetF_w, stfA_ok, getPl_fd, gplF_i, setPl_fd, splF_i, sFldZ_w, mkB_r, mkB_x, mkA_ok, sMake_w, sFmt_w, in_az, decide_eq_false hc]) (lc_filter _)
      have hf : (List.filter φ (l.map fun c => D.str ⟨#[c]⟩)).length = (l.filter fun c => decide (Letter c)).length := by
        rw [List.filter_map, List.length_map]; rfl
      have hn : ((([] : List D) ++ List.filter φ (l.map fun c => D.str ⟨#[c]⟩)).length : Int) = ((l.filter fun c => decide (Letter c)).length : Int) := by rw [List.nil_append, hf]
      have hd : decide (((l.filter fun c => decide (Letter c)).length : Int) = (l.length : Int)) = l.all fun c => decide (Letter c) := by
        rw [← filter_all]; exact decide_eq_decide.mpr (by omega)
      simp only [runFn_w, LW.argsOk, O.isV, O.d, List.all_cons, List.all_nil, Bool.and_true, Bool.true_and, Bool.and_self, List.length_cons, List.length_nil, List.map_cons, List.map_nil, List.cons_append, List.nil_append, List.replicate_succ, List.replicate_zero, Nat.reduceAdd, Nat.reduceSub, Nat.zero_add, and_self, and_true, true_and, if_true, ite_true, if_false, ite_false, List.getElem?_cons_zero, List.getElem?_cons_succ, List.set_cons_zero, List.set_cons_succ, List.set_nil, Bool.false_eq_true, reduceIte, sVar_w, varF_v, varF_l, varF_k, sFrz_w, frzF_o, sMov_w, movF_o, sC_w, sFz_w, fzF_v, fzF_f, fzF_x, outP_s, opC_s, opB_ok, opB_x, sOp_w, opA_v, opA_f, opA_s, opA_x, rd_v, rd_s, rd_fv, rd_fl, rd_fk, sTB_w, tbF_b, tbF_x, sAndT_w, andT_t, andT_f, sOrT_w, orT_t, orT_f, sNotT_w, notT_ok, sAnd_w, andF_t, andF_f, sOr_w, orF_t, orF_f, sNot_w, notF_ok, sIfE_w, ifE_t, ifE_f, sChn_w, chA_v, chA_s, chB_ok, chB_s, chC_tv, chC_ts, chC_f, chD_ok, sNil_w, consB_ok, consB_x, sCons_w, consA_v, consA_x, sTup_w, tupF_ok, sLst_w, lstF_ok, sC1_w, c1A_ok, c1A_x, c1B_s, sCall_w, callA_ok, callA_x, callB_r, callB_x, sCallM_w, cm0_s, cmA_ok, cmB_s, cmC_r, cmC_x, sSeq_w, seqF_n, seqF_r, seqF_x, seqF_b, seqF_c, sIf_w, ifS_t, ifS_f, ifS_x, sExp_w, expF_ok, expF_x, sRet_w, retF_v, retF_f, retF_x, sSet_w, setF_v, setF_f, setF_x, sPar_w, parF_ok, endF_rf, endF_nf, endF_xf, endF_rt, endF_rt', endF_nt', endF_xt', hSeq_w, seqH_l, seqH_t, hRange1_w, rng1_ok, hEnum_w, enumH_ok, sFor_w, forF_ok, forL_n, forA_s, forB_n, forB_c, forB_b, forB_r, forB_x, gSet_w, sLc_w, lcF_ok, lcE_ok, lcL_n, sYes_w, sFld_w, sSetIx_w, sIxA_s, sIxB_s, sIxC_s, sIxD_s, sIxE_s, getPl_sl, setPl_sl, getS_w, Option.getD_some, sLm_w, lm0_s, lmA_s, lmB_s, lmC_s, sSl_w, slA_v, slA_f, slA_t, slL_s, slH_s, slC_s, oPart_w, oPF_s, oNone_w, sM1_w, m1A_s, m1B_s, m1C_s, lcA_s, lcB_f, lcB_t, lcC_ok, freeO_n, freeO_v, ownOk_n, ownOk_c, wipeE_n, wipeE_c, restE_n, restE_c, sDc_w, dcF_ok, dcE_ok, sSetF_w, stfA_ok, getPl_fd, gplF_i, setPl_fd, splF_i, sFldZ_w, mkB_r, mkB_x, mkA_ok, sMake_w, sFmt_w, ia_str_str, Bool.not_true, len_str h, gLe, h1', h2', seqH_s hz, walk_S, e, len_lst, hn, gEq_int, hd]
      simp [isLab, h1, h2]
      rw [hf]; exact hd
    · have h2' : decide ((l.length : Int) ≤ 8) = false := decide_eq_false (by omega)
      simp only [runFn_w, LW.argsOk, O.isV, O.d, List.all_cons, List.all_nil, Bool.and_true, Bool.true_and, Bool.and_self, List.length_cons, List.length_nil, List.map_cons, List.map_nil, List.cons_append, List.nil_append, List.replicate_succ, List.replicate_zero, Nat.reduceAdd, Nat.reduceSub, Nat.zero_add, and_self, and_true, true_and, if_true, ite_true, if_false, ite_false, List.getElem?_cons_zero, List.getElem?_cons_succ, List.set_cons_zero, List.set_cons_succ, List.set_nil, Bool.false_eq_true, reduceIte, sVar_w, varF_v, varF_l, varF_k, sFrz_w, frzF_o, sMov_w, movF_o, sC_w, sFz_w, fzF_v, fzF_f, fzF_x, outP_s, opC_s, opB_ok, opB_x, sOp_w, opA_v, opA_f, opA_s, opA_x, rd_v, rd_s, rd_fv, rd_fl, rd_fk, sTB_w, tbF_b, tbF_x, sAndT_w, andT_t, andT_f, sOrT_w, orT_t, orT_f, sNotT_w, notT_ok, sAnd_w, andF_t, andF_f, sOr_w, orF_t, orF_f, sNot_w, notF_ok, sIfE_w, ifE_t, ifE_f, sChn_w, chA_v, chA_s, chB_ok, chB_s, chC_tv, chC_ts, chC_f, chD_ok, sNil_w, consB_ok, consB_x, sCons_w, consA_v, consA_x, sTup_w, tupF_ok, sLst_w, lstF_ok, sC1_w, c1A_ok, c1A_x, c1B_s, sCall_w, callA_ok, callA_x, callB_r, callB_x, sCallM_w, cm0_s, cmA_ok, cmB_s, cmC_r, cmC_x, sSeq_w, seqF_n, seqF_r, seqF_x, seqF_b, seqF_c, sIf_w, ifS_t, ifS_f, ifS_x, sExp_w, expF_ok, expF_x, sRet_w, retF_v, retF_f, retF_x, sSet_w, setF_v, setF_f, setF_x, sPar_w, parF_ok, endF_rf, endF_nf, endF_xf, endF_rt, endF_rt', endF_nt', endF_xt', hSeq_w, seqH_l, seqH_t, hRange1_w, rng1_ok, hEnum_w, enumH_ok, sFor_w, forF_ok, forL_n, forA_s, forB_n, forB_c, forB_b, forB_r, forB_x, gSet_w, sLc_w, lcF_ok, lcE_ok, lcL_n, sYes_w, sFld_w, sSetIx_w, sIxA_s, sIxB_s, sIxC_s, sIxD_s, sIxE_s, getPl_sl, setPl_sl, getS_w, Option.getD_some, sLm_w, lm0_s, lmA_s, lmB_s, lmC_s, sSl_w, slA_v, slA_f, slA_t, slL_s, slH_s, slC_s, oPart_w, oPF_s, oNone_w, sM1_w, m1A_s, m1B_s, m1C_s, lcA_s, lcB_f, lcB_t, lcC_ok, freeO_n, freeO_v, ownOk_n, ownOk_c, wipeE_n, wipeE_c, restE_n, restE_c, sDc_w, dcF_ok, dcE_ok, sSetF_w, stfA_ok, getPl_fd, gplF_i, setPl_fd, splF_i, sFldZ_w, mkB_r, mkB_x, mkA_ok, sMake_w, sFmt_w, ia_str_str, Bool.not_true, Bool.not_false, len_str h, gLe, h1', h2']
      simp [isLab, h2]
  · have h1' : decide ((1 : Int) ≤ (l.length : Int)) = false := decide_eq_false (by omega)
    simp only [runFn_w, LW.argsOk, O.isV, O.d, List.all_cons, List.all_nil, Bool.and_true, Bool.true_and, Bool.and_self, List.length_cons, List.length_nil, List.map_cons, List.map_nil, List.cons_append, List.nil_append, List.replicate_succ, List.replicate_zero, Nat.reduceAdd, Nat.reduceSub, Nat.zero_add, and_self, and_true, true_and, if_true, ite_true, if_false, ite_false, List.getElem?_cons_zero, List.getElem?_cons_succ, List.set_cons_zero, List.set_cons_succ, List.set_nil, Bool.false_eq_true, reduceIte, sVar_w, varF_v, varF_l, varF_k, sFrz_w, frzF_o, sMov_w, movF_o, sC_w, sFz_w, fzF_v, fzF_f, fzF_x, outP_s, opC_s, opB_ok, opB_x, sOp_w, opA_v, opA_f, opA_s, opA_x, rd_v, rd_s, rd_fv, rd_fl, rd_fk, sTB_w, tbF_b, tbF_x, sAndT_w, andT_t, andT_f, sOrT_w, orT_t, orT_f, sNotT_w, notT_ok, sAnd_w, andF_t, andF_f, sOr_w, orF_t, orF_f, sNot_w, notF_ok, sIfE_w, ifE_t, ifE_f, sChn_w, chA_v, chA_s, chB_ok, chB_s, chC_tv, chC_ts, chC_f, chD_ok, sNil_w, consB_ok, consB_x, sCons_w, consA_v, consA_x, sTup_w, tupF_ok, sLst_w, lstF_ok, sC1_w, c1A_ok, c1A_x, c1B_s, sCall_w, callA_ok, callA_x, callB_r, callB_x, sCallM_w, cm0_s, cmA_ok, cmB_s, cmC_r, cmC_x, sSeq_w, seqF_n, seqF_r, seqF_x, seqF_b, seqF_c, sIf_w, ifS_t, ifS_f, ifS_x, sExp_w, expF_ok, expF_x, sRet_w, retF_v, retF_f, retF_x, sSet_w, setF_v, setF_f, setF_x, sPar_w, parF_ok, endF_rf, endF_nf, endF_xf, endF_rt, endF_rt', endF_nt', endF_xt', hSeq_w, seqH_l, seqH_t, hRange1_w, rng1_ok, hEnum_w, enumH_ok, sFor_w, forF_ok, forL_n, forA_s, forB_n, forB_c, forB_b, forB_r, forB_x, gSet_w, sLc_w, lcF_ok, lcE_ok, lcL_n, sYes_w, sFld_w, sSetIx_w, sIxA_s, sIxB_s, sIxC_s, sIxD_s, sIxE_s, getPl_sl, setPl_sl, getS_w, Option.getD_some, sLm_w, lm0_s, lmA_s, lmB_s, lmC_s, sSl_w, slA_v, slA_f, slA_t, slL_s, slH_s, slC_s, oPart_w, oPF_s, oNone_w, sM1_w, m1A_s, m1B_s, m1C_s, lcA_s, lcB_f, lcB_t, lcC_ok, freeO_n, freeO_v, ownOk_n, ownOk_c, wipeE_n, wipeE_c, restE_n, restE_c, sDc_w, dcF_ok, dcE_ok, sSetF_w, stfA_ok, getPl_fd, gplF_i, setPl_fd, splF_i, sFldZ_w, mkB_r, mkB_x, mkA_ok, sMake_w, sFmt_w, ia_str_str, Bool.not_true, Bool.not_false, len_str h, gLe, h1']
    simp [isLab, h1]
/-! the words of the texts -/
def W3 : List (List Nat) := [[112, 108, 97, 99, 101], [119, 97, 121], [101, 110, 100]]
theorem w3_strs : ([.str "place", .str "way", .str "end"] : List D) = W3.map fun l => D.str (SX.S l) := rfl
theorem plainL_strs {n : Nat} : ∀ ys : List Str, (∀ y ∈ ys, PyData.strOk y = true) → D.plainL n (ys.map .str) = true
  | [], _ => rfl
  | y :: r, h => by
    simp [D.plainL, D.plain, plainL_strs r fun z hz => h z (List.mem_cons_of_mem _ hz), h y List.mem_cons_self]
/-- the signs of a text -/
def Okl (l : List Nat) : Prop := ∀ c ∈ l, c < 1114112
theorem okl_S {l : List Nat} (h : Okl l) : PyData.strOk (SX.S l) = true := by
  unfold PyData.strOk SX.S
  rw [Array.all_eq_true']
  intro x hx
  exact decide_eq_true (h x (by simpa using hx))
theorem okl_let {l : List Nat} (h : ∀ c ∈ l, Letter c) : Okl l := fun c hc => by have := (h c hc).2; omega
theorem inL_strs (s : Str) : ∀ ys : List Str, inL (.str s) (ys.map .str) = decide (s ∈ ys)
  | [] => by simp [inL, D.pyL]
  | y :: r => by
    have ih := inL_strs s r
    unfold inL at ih ⊢
    simp only [List.map_cons, D.pyL, List.any_cons, ih, D.py, PyData.eqv]
    rw [show decide (s ∈ y :: r) = (decide (s = y) || decide (s ∈ r)) by simp only [List.mem_cons, Bool.decide_or]]
    simp only [D.py] at ih
    rw [ih]
    congr 1
    by_cases h : y = s
    · subst h; simp
    · rw [decide_eq_false (fun z => h z.symm)]; exact beq_eq_false_iff_ne.mpr h
theorem mem_strs (s : Str) (ys : List Str) (h1 : PyData.strOk s = true) (h2 : ∀ y ∈ ys, PyData.strOk y = true) : D.mem (.str s) (.lst (ys.map .str)) = some (decide (s ∈ ys)) := by
  show (if D.plain 59 (.str s) = true ∧ D.plainL 59 (ys.map .str) = true then some (inL (.str s) (ys.map .str)) else none) = _
  rw [if_pos ⟨by simp [D.plain, h1], plainL_strs ys h2⟩, inL_strs]
theorem notIn_strs (s : Str) (ys : List Str) (h1 : PyData.strOk s = true) (h2 : ∀ y ∈ ys, PyData.strOk y = true) : gNotIn2 (.str s) (.lst (ys.map .str)) = some (.v (.bl (!decide (s ∈ ys)))) := by
  show (D.mem (.str s) (.lst (ys.map .str))).map _ = _
  rw [mem_strs s ys h1 h2]; rfl
theorem mem_S {l : List Nat} {ls : List (List Nat)} : SX.S l ∈ ls.map SX.S ↔ l ∈ ls := by
  rw [List.mem_map]
  constructor
  · rintro ⟨a, h, e⟩; rw [← SX.S_inj e]; exact h
  · intro h; exact ⟨l, h, rfl⟩
theorem notIn_S (l : List Nat) (ls : List (List Nat)) (h1 : Okl l) (h2 : ∀ m ∈ ls, Okl m) : gNotIn2 (.str (SX.S l)) (.lst (ls.map fun l => .str (SX.S l))) = some (.v (.bl (!decide (l ∈ ls)))) := by
  have := notIn_strs (SX.S l) (ls.map SX.S) (okl_S h1) (fun y hy => by obtain ⟨m, hm, rfl⟩ := List.mem_map.mp hy; exact okl_S (h2 m hm))
  rw [List.map_map] at this
  rw [show (ls.map fun l => D.str (SX.S l)) = ls.map (D.str ∘ SX.S) from rfl, this]
  simp only [mem_S]
def isNam (l : List Nat) : Bool := isLab l && !decide (l ∈ W3)
theorem w3_ok : ∀ m ∈ W3, Okl m := by unfold Okl W3; decide
theorem law_name (l : List Nat) (h : l.length ≤ 100000) (ho : Okl l) : sem__law_is_name [.v (.str (SX.S l))] = .ret (.v (.bl (isNam l))) [.v (.str (SX.S l))] := by
  unfold sem__law_is_name
  have e := law_label l h
  cases hl : isLab l with
  | false =>
    rw [hl] at e
    simp only [runFn_w, LW.argsOk, O.isV, O.d, List.all_cons, List.all_nil, Bool.and_true, Bool.true_and, Bool.and_self, List.length_cons, List.length_nil, List.map_cons, List.map_nil, List.cons_append, List.nil_append, List.replicate_succ, List.replicate_zero, Nat.reduceAdd, Nat.reduceSub, Nat.zero_add, and_self, and_true, true_and, if_true, ite_true, if_false, ite_false, List.getElem?_cons_zero, List.getElem?_cons_succ, List.set_cons_zero, List.set_cons_succ, List.set_nil, Bool.false_eq_true, reduceIte, sVar_w, varF_v, varF_l, varF_k, sFrz_w, frzF_o, sMov_w, movF_o, sC_w, sFz_w, fzF_v, fzF_f, fzF_x, outP_s, opC_s, opB_ok, opB_x, sOp_w, opA_v, opA_f, opA_s, opA_x, rd_v, rd_s, rd_fv, rd_fl, rd_fk, sTB_w, tbF_b, tbF_x, sAndT_w, andT_t, andT_f, sOrT_w, orT_t, orT_f, sNotT_w, notT_ok, sAnd_w, andF_t, andF_f, sOr_w, orF_t, orF_f, sNot_w, notF_ok, sIfE_w, ifE_t, ifE_f, sChn_w, chA_v, chA_s, chB_ok, chB_s, chC_tv, chC_ts, chC_f, chD_ok, sNil_w, consB_ok, consB_x, sCons_w, consA_v, consA_x, sTup_w, tupF_ok, sLst_w, lstF_ok, sC1_w, c1A_ok, c1A_x, c1B_s, sCall_w, callA_ok, callA_x, callB_r, callB_x, sCallM_w, cm0_s, cmA_ok, cmB_s, cmC_r, cmC_x, sSeq_w, seqF_n, seqF_r, seqF_x, seqF_b, seqF_c, sIf_w, ifS_t, ifS_f, ifS_x, sExp_w, expF_ok, expF_x, sRet_w, retF_v, retF_f, retF_x, sSet_w, setF_v, setF_f, setF_x, sPar_w, parF_ok, endF_rf, endF_nf, endF_xf, endF_rt, endF_rt', endF_nt', endF_xt', hSeq_w, seqH_l, seqH_t, hRange1_w, rng1_ok, hEnum_w, enumH_ok, sFor_w, forF_ok, forL_n, forA_s, forB_n, forB_c, forB_b, forB_r, forB_x, gSet_w, sLc_w, lcF_ok, lcE_ok, lcL_n, sYes_w, sFld_w, sSetIx_w, sIxA_s, sIxB_s, sIxC_s, sIxD_s, sIxE_s, getPl_sl, setPl_sl, getS_w, Option.getD_some, sLm_w, lm0_s, lmA_s, lmB_s, lmC_s, sSl_w, slA_v, slA_f, slA_t, slL_s, slH_s, slC_s, oPart_w, oPF_s, oNone_w, sM1_w, m1A_s, m1B_s, m1C_s, lcA_s, lcB_f, lcB_t, lcC_ok, freeO_n, freeO_v, ownOk_n, ownOk_c, wipeE_n, wipeE_c, restE_n, restE_c, sDc_w, dcF_ok, dcE_ok, sSetF_w, stfA_ok, getPl_fd, gplF_i, setPl_fd, splF_i, sFldZ_w, mkB_r, mkB_x, mkA_ok, sMake_w, sFmt_w, e]
    simp [isNam, hl]
  | true =>
    rw [hl] at e
    simp only [runFn_w, LW.argsOk, O.isV, O.d, List.all_cons, List.all_nil, Bool.and_true, Bool.true_and, Bool.and_self, List.length_cons, List.length_nil, List.map_cons, List.map_nil, List.cons_append, List.nil_append, List.replicate_succ, List.replicate_zero, Nat.reduceAdd, Nat.reduceSub, Nat.zero_add, and_self, and_true, true_and, if_true, ite_true, if_false, ite_false, List.getElem?_cons_zero, List.getElem?_cons_succ, List.set_cons_zero, List.set_cons_succ, List.set_nil, Bool.false_eq_true, reduceIte, sVar_w, varF_v, varF_l, varF_k, sFrz_w, frzF_o, sMov_w, movF_o, sC_w, sFz_w, fzF_v, fzF_f, fzF_x, outP_s, opC_s, opB_ok, opB_x, sOp_w, opA_v, opA_f, opA_s, opA_x, rd_v, rd_s, rd_fv, rd_fl, rd_fk, sTB_w, tbF_b, tbF_x, sAndT_w, andT_t, andT_f, sOrT_w, orT_t, orT_f, sNotT_w, notT_ok, sAnd_w, andF_t, andF_f, sOr_w, orF_t, orF_f, sNot_w, notF_ok, sIfE_w, ifE_t, ifE_f, sChn_w, chA_v, chA_s, chB_ok, chB_s, chC_tv, chC_ts, chC_f, chD_ok, sNil_w, consB_ok, consB_x, sCons_w, consA_v, consA_x, sTup_w, tupF_ok, sLst_w, lstF_ok, sC1_w, c1A_ok, c1A_x, c1B_s, sCall_w, callA_ok, callA_x, callB_r, callB_x, sCallM_w, cm0_s, cmA_ok, cmB_s, cmC_r, cmC_x, sSeq_w, seqF_n, seqF_r, seqF_x, seqF_b, seqF_c, sIf_w, ifS_t, ifS_f, ifS_x, sExp_w, expF_ok, expF_x, sRet_w, retF_v, retF_f, retF_x, sSet_w, setF_v, setF_f, setF_x, sPar_w, parF_ok, endF_rf, endF_nf, endF_xf, endF_rt, endF_rt', endF_nt', endF_xt', hSeq_w, seqH_l, seqH_t, hRange1_w, rng1_ok, hEnum_w, enumH_ok, sFor_w, forF_ok, forL_n, forA_s, forB_n, forB_c, forB_b, forB_r, forB_x, gSet_w, sLc_w, lcF_ok, lcE_ok, lcL_n, sYes_w, sFld_w, sSetIx_w, sIxA_s, sIxB_s, sIxC_s, sIxD_s, sIxE_s, getPl_sl, setPl_sl, getS_w, Option.getD_some, sLm_w, lm0_s, lmA_s, lmB_s, lmC_s, sSl_w, slA_v, slA_f, slA_t, slL_s, slH_s, slC_s, oPart_w, oPF_s, oNone_w, sM1_w, m1A_s, m1B_s, m1C_s, lcA_s, lcB_f, lcB_t, lcC_ok, freeO_n, freeO_v, ownOk_n, ownOk_c, wipeE_n, wipeE_c, restE_n, restE_c, sDc_w, dcF_ok, dcE_ok, sSetF_w, stfA_ok, getPl_fd, gplF_i, setPl_fd, splF_i, sFldZ_w, mkB_r, mkB_x, mkA_ok, sMake_w, sFmt_w, e, words, w3_strs, notIn_S l W3 ho w3_ok]
    simp [isNam, hl]
/-! pigeons -/
theorem pigeon {α : Type} [DecidableEq α] : ∀ (xs ys : List α), xs.Nodup → (∀ x ∈ xs, x ∈ ys) → xs.length ≤ ys.length
  | [], _, _, _ => Nat.zero_le _
  | x :: r, ys, hn, hs => by
    have hx : x ∈ ys := hs x List.mem_cons_self
    have hr : ∀ z ∈ r, z ∈ ys.erase x := fun z hz => by
      have hne : z ≠ x := fun e => (List.nodup_cons.mp hn).1 (e ▸ hz)
      exact (List.mem_erase_of_ne hne).mpr (hs z (List.mem_cons_of_mem _ hz))
    have ih := pigeon r (ys.erase x) (List.nodup_cons.mp hn).2 hr
    rw [List.length_erase_of_mem hx] at ih
    have : 0 < ys.length := List.length_pos_of_mem hx
    rw [List.length_cons]; omega
end SM

namespace SM
open PySem LW L2
def sS (l : List Nat) : D := .str (SX.S l)
def Names (fs : List (List Nat)) : Prop := fs.Nodup ∧ ∀ l ∈ fs, isNam l = true
theorem isNam_let {l : List Nat} (h : isNam l = true) : ∀ c ∈ l, Letter c := fun c hc => by
  unfold isNam isLab at h
  simp only [Bool.and_eq_true, List.all_eq_true, decide_eq_true_eq] at h
  exact h.1.2 c hc
theorem isNam_len {l : List Nat} (h : isNam l = true) : 1 ≤ l.length ∧ l.length ≤ 8 := by
  unfold isNam isLab at h
  simp only [Bool.and_eq_true, decide_eq_true_eq] at h
  exact h.1.1
theorem Names.okl {fs : List (List Nat)} (h : Names fs) : ∀ m ∈ fs, Okl m := fun m hm => okl_let (isNam_let (h.2 m hm))
theorem cut7 (l : List Nat) (h : l.length ≤ 100000) : gSl (sS l) none (some 7) = some (.v (sS (l.take 7))) := by
  show (if (SX.S l).length ≤ sizeLine then some (P.v (.str (cutS (SX.S l) none (some 7)))) else none) = _
  rw [if_pos (by rw [SX.S_len]; exact Nat.le_trans h line_big)]
  have : cutS (SX.S l) none (some 7) = SX.S (l.take 7) := by
    rw [C8.cutS_slice, SX.slice_to (by omega)]; rfl
  rw [this]; rfl
theorem add_S {a b : List Nat} (h : a.length + b.length ≤ 100000) : gAdd (sS a) (sS b) = some (.v (sS (a ++ b))) := by
  show (if (SX.S a).length + (SX.S b).length ≤ sizeLine then some (P.v (.str (SX.S a ++ SX.S b))) else none) = _
  rw [SX.S_len, SX.S_len, if_pos (Nat.le_trans h line_big), SX.S_cat]; rfl
/-- the body of the names' loop -/
def namesBody : LW.Env → LW.Flow :=
  sSeq (sSet 4 (sSl true (sCallM (sem__law_word) 0 (sNil)) (oNone) (oPart (sC (.int 7)))))
  (sSeq (sSet 5 (sLc [6] (hSeq (sC (.str "abcdefghijklmnopqrstuvwxyz"))) (gSet 6) (sYes) (sOp gAdd true (sVar 4) (sVar 6))))
  (sExp (sLm gApp (.sl 2) (sOp gIx2 true (sLc [7] (hSeq (sFrz 5)) (gSet 7) (sAndT (sTB (sOp gNotIn2 true (sVar 7) (sVar 2))) (sTB (sCall (sem__law_is_name) (sCons (sVar 7) (sNil))))) (sVar 7)) (sC (.int 0))))))
theorem az_walk : (AZ.cps.toList.map fun c => D.str ⟨#[c]⟩) = ((List.range 26).map fun i => [i + 97]).map sS := by
  rw [az_list, List.map_map, List.map_map]; rfl
theorem az_line : AZ.length ≤ sizeLine := by rw [az_len]; have := line_big; omega
theorem names_turn (p : Pot) (fs : List (List Nat)) (a1 a3 a4 a5 : Option O) (hn : Names fs) (hl : fs.length ≤ 20) :
    ∃ (l : List Nat) (p' : Pot) (a4' a5' : Option O), namesBody [some p.o, a1, some (.l (fs.map sS)), a3, a4, a5, none, none] = .next [some p'.o, a1, some (.l ((fs ++ [l]).map sS)), a3, a4', a5', none, none] ∧ Names (fs ++ [l]) := by
  obtain ⟨w0, p1, e1, hw, hwl⟩ := word p
  have e1 : sem__law_word [p.o] = .ret (.v (sS w0)) [p1.o] := e1
  generalize hw1 : w0.take 7 = w
  have hwL : ∀ c ∈ w, Letter c := fun c hc => hw c (by rw [← hw1] at hc; exact List.mem_of_mem_take hc)
  have hw7 : w.length ≤ 7 := by rw [← hw1, List.length_take]; omega
  let cands : List (List Nat) := (List.range 26).map fun i => w ++ [i + 97]
  have hcl : ∀ l ∈ cands, l.length ≤ 8 ∧ isLab l = true ∧ Okl l := fun l hm => by
    obtain ⟨i, hi, rfl⟩ := List.mem_map.mp hm
    have hi := List.mem_range.mp hi
    have hL : ∀ c ∈ w ++ [i + 97], Letter c := fun c hc => by
      rcases List.mem_append.mp hc with z | z
      · exact hwL c z
      · rw [List.mem_singleton.mp z]; exact ⟨by omega, by omega⟩
    refine ⟨by simp; omega, ?_, okl_let hL⟩
    unfold isLab
    simp only [Bool.and_eq_true, decide_eq_true_eq, List.all_eq_true]
    exact ⟨⟨by simp, by simp; omega⟩, hL⟩
  have e2 := lcL_map (ow := [6]) (tg := gSet 6) (t := sYes) (f := sOp gAdd true (sVar 4) (sVar 6)) (φ := fun d => match d with | .str s => some (some (sS (w ++ s.cps.toList))) | _ => none)
    (ρ0 := [some p1.o, a1, some (.l (fs.map sS)), a3, some (.v (sS w)), a5, none, none]) (ds := ((List.range 26).map fun i => [i + 97]).map sS) (acc := []) (ys := cands.map sS) (fun d hd z hz => by
      obtain ⟨s, hs, rfl⟩ := List.mem_map.mp hd
      obtain ⟨i, hi, rfl⟩ := List.mem_map.mp hs
      cases hz
      refine ⟨_, [some p1.o, a1, some (.l (fs.map sS)), a3, some (.v (sS w)), a5, some (.v (sS [i + 97])), none], rfl, ⟨_, rfl, ?_⟩, rfl⟩
      simp only [runFn_w, LW.argsOk, O.isV, O.d, List.all_cons, List.all_nil, Bool.and_true, Bool.true_and, Bool.and_self, List.length_cons, List.length_nil, List.map_cons, List.map_nil, List.cons_append, List.nil_append, List.replicate_succ, List.replicate_zero, Nat.reduceAdd, Nat.reduceSub, Nat.zero_add, and_self, and_true, true_and, if_true, ite_true, if_false, ite_false, List.getElem?_cons_zero, List.getElem?_cons_succ, List.set_cons_zero, List.set_cons_succ, List.set_nil, Bool.false_eq_true, reduceIte, sVar_w, varF_v, varF_l, varF_k, sFrz_w, frzF_o, sMov_w, movF_o, sC_w, sFz_w, fzF_v, fzF_f, fzF_x, outP_s, opC_s, opB_ok, opB_x, sOp_w, opA_v, opA_f, opA_s, opA_x, rd_v, rd_s, rd_fv, rd_fl, rd_fk, sTB_w, tbF_b, tbF_x, sAndT_w, andT_t, andT_f, sOrT_w, orT_t, orT_f, sNotT_w, notT_ok, sAnd_w, andF_t, andF_f, sOr_w, orF_t, orF_f, sNot_w, notF_ok, sIfE_w, ifE_t, ifE_f, sChn_w, chA_v, chA_s, chB_ok, chB_s, chC_tv, chC_ts, chC_f, chD_ok, sNil_w, consB_ok, consB_x, sCons_w, consA_v, consA_x, sTup_w, tupF_ok, sLst_w, lstF_ok, sC1_w, c1A_ok, c1A_x, c1B_s, sCall_w, callA_ok, callA_x, callB_r, callB_x, sCallM_w, cm0_s, cmA_ok, cmB_s, cmC_r, cmC_x, sSeq_w, seqF_n, seqF_r, seqF_x, seqF_b, seqF_c, sIf_w, ifS_t, ifS_f, ifS_x, sExp_w, expF_ok, expF_x, sRet_w, retF_v, retF_f, retF_x, sSet_w, setF_v, setF_f, setF_x, sPar_w, parF_ok, endF_rf, endF_nf, endF_xf, endF_rt, endF_rt', endF_nt', endF_xt', hSeq_w, seqH_l, seqH_t, hRange1_w, rng1_ok, hEnum_w, enumH_ok, sFor_w, forF_ok, forL_n, forA_s, forB_n, forB_c, forB_b, forB_r, forB_x, gSet_w, sLc_w, lcF_ok, lcE_ok, lcL_n, sYes_w, sFld_w, sSetIx_w, sIxA_s, sIxB_s, sIxC_s, sIxD_s, sIxE_s, getPl_sl, setPl_sl, getS_w, Option.getD_some, sLm_w, lm0_s, lmA_s, lmB_s, lmC_s, sSl_w, slA_v, slA_f, slA_t, slL_s, slH_s, slC_s, oPart_w, oPF_s, oNone_w, sM1_w, m1A_s, m1B_s, m1C_s, lcA_s, lcB_f, lcB_t, lcC_ok, freeO_n, freeO_v, ownOk_n, ownOk_c, wipeE_n, wipeE_c, restE_n, restE_c, sDc_w, dcF_ok, dcE_ok, sSetF_w, stfA_ok, getPl_fd, gplF_i, setPl_fd, splF_i, sFldZ_w, mkB_r, mkB_x, mkA_ok, sMake_w, sFmt_w, add_S (a := w) (b := [i + 97]) (by simp; omega)]) (by
      have := lcMap_all (φ := fun d => match d with | .str s => some (some (sS (w ++ s.cps.toList))) | _ => none) (ψ := fun d => match d with | .str s => sS (w ++ s.cps.toList) | d => d) (ds := ((List.range 26).map fun i => [i + 97]).map sS) (fun d hd => by
        obtain ⟨s, hs, rfl⟩ := List.mem_map.mp hd; rfl)
      rw [this, List.map_map, List.map_map, List.map_map]; rfl)
  let good : List Nat → Bool := fun l => !decide (l ∈ fs) && isNam l
  let φ : D → Bool := fun d => match d with | .str s => good s.cps.toList | _ => false
  have e3 := fun (a : Option O) => lcL_map (ow := [7]) (tg := gSet 7) (t := sAndT (sTB (sOp gNotIn2 true (sVar 7) (sVar 2))) (sTB (sCall (sem__law_is_name) (sCons (sVar 7) (sNil))))) (f := sVar 7) (φ := fun d => if φ d = true then some (some d) else some none)
    (ρ0 := [some p1.o, a1, some (.l (fs.map sS)), a3, some (.v (sS w)), a, none, none]) (ds := cands.map sS) (acc := []) (fun d hd z hz => by
      obtain ⟨l, hl, rfl⟩ := List.mem_map.mp hd
      obtain ⟨h8, _, hok⟩ := hcl l hl
      have hφ : φ (sS l) = good l := rfl
      rw [hφ] at hz
      have en : gNotIn2 (sS l) (.lst (fs.map sS)) = some (.v (.bl (!decide (l ∈ fs)))) := notIn_S l fs hok hn.okl
      have el := law_name l (by omega) hok
      have el : sem__law_is_name [.v (sS l)] = .ret (.v (.bl (isNam l))) [.v (sS l)] := el
      by_cases h1 : l ∈ fs
      · have h1' := decide_eq_true h1
        rw [show good l = false by simp [good, h1]] at hz
        cases hz
        refine ⟨_, [some p1.o, a1, some (.l (fs.map sS)), a3, some (.v (sS w)), a, none, some (.v (sS l))], rfl, ?_, rfl⟩
        simp only
        simp only [runFn_w, LW.argsOk, O.isV, O.d, List.all_cons, List.all_nil, Bool.and_true, Bool.true_and, Bool.and_self, List.length_cons, List.length_nil, List.map_cons, List.map_nil, List.cons_append, List.nil_append, List.replicate_succ, List.replicate_zero, Nat.reduceAdd, Nat.reduceSub, Nat.zero_add, and_self, and_true, true_and, if_true, ite_true, if_false, ite_false, List.getElem?_cons_zero, List.getElem?_cons_succ, List.set_cons_zero, List.set_cons_succ, List.set_nil, Bool.false_eq_true, reduceIte, sVar_w, varF_v, varF_l, varF_k, sFrz_w, frzF_o, sMov_w, movF_o, sC_w, sFz_w, fzF_v, fzF_f, fzF_x, outP_s, opC_s, opB_ok, opB_x, sOp_w, opA_v, opA_f, opA_s, opA_x, rd_v, rd_s, rd_fv, rd_fl, rd_fk, sTB_w, tbF_b, tbF_x, sAndT_w, andT_t, andT_f, sOrT_w, orT_t, orT_f, sNotT_w, notT_ok, sAnd_w, andF_t, andF_f, sOr_w, orF_t, orF_f, sNot_w, notF_ok, sIfE_w, ifE_t, ifE_f, sChn_w, chA_v, chA_s, chB_ok, chB_s, chC_tv, chC_ts, chC_f, chD_ok, sNil_w, consB_ok, consB_x, sCons_w, consA_v, consA_x, sTup_w, tupF_ok, sLst_w, lstF_ok, sC1_w, c1A_ok, c1A_x, c1B_s, sCall_w, callA_ok, callA_x, callB_r, callB_x, sCallM_w, cm0_s, cmA_ok, cmB_s, cmC_r, cmC_x, sSeq_w, seqF_n, seqF_r, seqF_x, seqF_b, seqF_c, sIf_w, ifS_t, ifS_f, ifS_x, sExp_w, expF_ok, expF_x, sRet_w, retF_v, retF_f, retF_x, sSet_w, setF_v, setF_f, setF_x, sPar_w, parF_ok, endF_rf, endF_nf, endF_xf, endF_rt, endF_rt', endF_nt', endF_xt', hSeq_w, seqH_l, seqH_t, hRange1_w, rng1_ok, hEnum_w, enumH_ok, sFor_w, forF_ok, forL_n, forA_s, forB_n, forB_c, forB_b, forB_r, forB_x, gSet_w, sLc_w, lcF_ok, lcE_ok, lcL_n, sYes_w, sFld_w, sSetIx_w, sIxA_s, sIxB_s, sIxC_s, sIxD_s, sIxE_s, getPl_sl, setPl_sl, getS_w, Option.getD_some, sLm_w, lm0_s, lmA_s, lmB_s, lmC_s, sSl_w, slA_v, slA_f, slA_t, slL_s, slH_s, slC_s, oPart_w, oPF_s, oNone_w, sM1_w, m1A_s, m1B_s, m1C_s, lcA_s, lcB_f, lcB_t, lcC_ok, freeO_n, freeO_v, ownOk_n, ownOk_c, wipeE_n, wipeE_c, restE_n, restE_c, sDc_w, dcF_ok, dcE_ok, sSetF_w, stfA_ok, getPl_fd, gplF_i, setPl_fd, splF_i, sFldZ_w, mkB_r, mkB_x, mkA_ok, sMake_w, sFmt_w, en, h1', Bool.not_true]
      · have h1' := decide_eq_false h1
        cases h2 : isNam l with
        | true =>
          rw [show good l = true by simp [good, h1, h2]] at hz
          cases hz
          refine ⟨_, [some p1.o, a1, some (.l (fs.map sS)), a3, some (.v (sS w)), a, none, some (.v (sS l))], rfl, ⟨[some p1.o, a1, some (.l (fs.map sS)), a3, some (.v (sS w)), a, none, some (.v (sS l))], ?_, ?_⟩, rfl⟩
          · simp only [runFn_w, LW.argsOk, O.isV, O.d, List.all_cons, List.all_nil, Bool.and_true, Bool.true_and, Bool.and_self, List.length_cons, List.length_nil, List.map_cons, List.map_nil, List.cons_append, List.nil_append, List.replicate_succ, List.replicate_zero, Nat.reduceAdd, Nat.reduceSub, Nat.zero_add, and_self, and_true, true_and, if_true, ite_true, if_false, ite_false, List.getElem?_cons_zero, List.getElem?_cons_succ, List.set_cons_zero, List.set_cons_succ, List.set_nil, Bool.false_eq_true, reduceIte, sVar_w, varF_v, varF_l, varF_k, sFrz_w, frzF_o, sMov_w, movF_o, sC_w, sFz_w, fzF_v, fzF_f, fzF_x, outP_s, opC_s, opB_ok, opB_x, sOp_w, opA_v, opA_f, opA_s, opA_x, rd_v, rd_s, rd_fv, rd_fl, rd_fk, sTB_w, tbF_b, tbF_x, sAndT_w, andT_t, andT_f, sOrT_w, orT_t, orT_f, sNotT_w, notT_ok, sAnd_w, andF_t, andF_f, sOr_w, orF_t, orF_f, sNot_w, notF_ok, sIfE_w, ifE_t, ifE_f, sChn_w, chA_v, chA_s, chB_ok, chB_s, chC_tv, chC_ts, chC_f, chD_ok, sNil_w, consB_ok, consB_x, sCons_w, consA_v, consA_x, sTup_w, tupF_ok, sLst_w, lstF_ok, sC1_w, c1A_ok, c1A_x, c1B_s, sCall_w, callA_ok, callA_x, callB_r, callB_x, sCallM_w, cm0_s, cmA_ok, cmB_s, cmC_r, cmC_x, sSeq_w, seqF_n, seqF_r, seqF_x, seqF_b, seqF_c, sIf_w, ifS_t, ifS_f, ifS_x, sExp_w, expF_ok, expF_x, sRet_w, retF_v, retF_f, retF_x, sSet_w, setF_v, setF_f, setF_x, sPar_w, parF_ok, endF_rf, endF_nf, endF_xf, endF_rt, endF_rt', endF_nt', endF_xt', hSeq_w, seqH_l, seqH_t, hRange1_w, rng1_ok, hEnum_w, enumH_ok, sFor_w, forF_ok, forL_n, forA_s, forB_n, forB_c, forB_b, forB_r, forB_x, gSet_w, sLc_w, lcF_ok, lcE_ok, lcL_n, sYes_w, sFld_w, sSetIx_w, sIxA_s, sIxB_s, sIxC_s, sIxD_s, sIxE_s, getPl_sl, setPl_sl, getS_w, Option.getD_some, sLm_w, lm0_s, lmA_s, lmB_s, lmC_s, sSl_w, slA_v, slA_f, slA_t, slL_s, slH_s, slC_s, oPart_w, oPF_s, oNone_w, sM1_w, m1A_s, m1B_s, m1C_s, lcA_s, lcB_f, lcB_t, lcC_ok, freeO_n, freeO_v, ownOk_n, ownOk_c, wipeE_n, wipeE_c, restE_n, restE_c, sDc_w, dcF_ok, dcE_ok, sSetF_w, stfA_ok, getPl_fd, gplF_i, setPl_fd, splF_i, sFldZ_w, mkB_r, mkB_x, mkA_ok, sMake_w, sFmt_w, en, h1', Bool.not_false, el, h2]
          · simp only [runFn_w, LW.argsOk, O.isV, O.d, List.all_cons, List.all_nil, Bool.and_true, Bool.true_and, Bool.and_self, List.length_cons, List.length_nil, List.map_cons, List.map_nil, List.cons_append, List.nil_append, List.replicate_succ, List.replicate_zero, Nat.reduceAdd, Nat.reduceSub, Nat.zero_add, and_self, and_true, true_and, if_true, ite_true, if_false, ite_false, List.getElem?_cons_zero, List.getElem?_cons_succ, List.set_cons_zero, List.set_cons_succ, List.set_nil, Bool.false_eq_true, reduceIte, sVar_w, varF_v, varF_l, varF_k, sFrz_w, frzF_o, sMov_w, movF_o, sC_w, sFz_w, fzF_v, fzF_f, fzF_x, outP_s, opC_s, opB_ok, opB_x, sOp_w, opA_v, opA_f, opA_s, opA_x, rd_v, rd_s, rd_fv, rd_fl, rd_fk, sTB_w, tbF_b, tbF_x, sAndT_w, andT_t, andT_f, sOrT_w, orT_t, orT_f, sNotT_w, notT_ok, sAnd_w, andF_t, andF_f, sOr_w, orF_t, orF_f, sNot_w, notF_ok, sIfE_w, ifE_t, ifE_f, sChn_w, chA_v, chA_s, chB_ok, chB_s, chC_tv, chC_ts, chC_f, chD_ok, sNil_w, consB_ok, consB_x, sCons_w, consA_v, consA_x, sTup_w, tupF_ok, sLst_w, lstF_ok, sC1_w, c1A_ok, c1A_x, c1B_s, sCall_w, callA_ok, callA_x, callB_r, callB_x, sCallM_w, cm0_s, cmA_ok, cmB_s, cmC_r, cmC_x, sSeq_w, seqF_n, seqF_r, seqF_x, seqF_b, seqF_c, sIf_w, ifS_t, ifS_f, ifS_x, sExp_w, expF_ok, expF_x, sRet_w, retF_v, retF_f, retF_x, sSet_w, setF_v, setF_f, setF_x, sPar_w, parF_ok, endF_rf, endF_nf, endF_xf, endF_rt, endF_rt', endF_nt', endF_xt', hSeq_w, seqH_l, seqH_t, hRange1_w, rng1_ok, hEnum_w, enumH_ok, sFor_w, forF_ok, forL_n, forA_s, forB_n, forB_c, forB_b, forB_r, forB_x, gSet_w, sLc_w, lcF_ok, lcE_ok, lcL_n, sYes_w, sFld_w, sSetIx_w, sIxA_s, sIxB_s, sIxC_s, sIxD_s, sIxE_s, getPl_sl, setPl_sl, getS_w, Option.getD_some, sLm_w, lm0_s, lmA_s, lmB_s, lmC_s, sSl_w, slA_v, slA_f, slA_t, slL_s, slH_s, slC_s, oPart_w, oPF_s, oNone_w, sM1_w, m1A_s, m1B_s, m1C_s, lcA_s, lcB_f, lcB_t, lcC_ok, freeO_n, freeO_v, ownOk_n, ownOk_c, wipeE_n, wipeE_c, restE_n, restE_c, sDc_w, dcF_ok, dcE_ok, sSetF_w, stfA_ok, getPl_fd, gplF_i, setPl_fd, splF_i, sFldZ_w, mkB_r, mkB_x, mkA_ok, sMake_w, sFmt_w]
        | false =>
          rw [show good l = false by simp [good, h1, h2]] at hz
          cases hz
          refine ⟨_, [some p1.o, a1, some (.l (fs.map sS)), a3, some (.v (sS w)), a, none, some (.v (sS l))], rfl, ?_, rfl⟩
          simp only
          simp only [runFn_w, LW.argsOk, O.isV, O.d, List.all_cons, List.all_nil, Bool.and_true, Bool.true_and, Bool.and_self, List.length_cons, List.length_nil, List.map_cons, List.map_nil, List.cons_append, List.nil_append, List.replicate_succ, List.replicate_zero, Nat.reduceAdd, Nat.reduceSub, Nat.zero_add, and_self, and_true, true_and, if_true, ite_true, if_false, ite_false, List.getElem?_cons_zero, List.getElem?_cons_succ, List.set_cons_zero, List.set_cons_succ, List.set_nil, Bool.false_eq_true, reduceIte, sVar_w, varF_v, varF_l, varF_k, sFrz_w, frzF_o, sMov_w, movF_o, sC_w, sFz_w, fzF_v, fzF_f, fzF_x, outP_s, opC_s, opB_ok, opB_x, sOp_w, opA_v, opA_f, opA_s, opA_x, rd_v, rd_s, rd_fv, rd_fl, rd_fk, sTB_w, tbF_b, tbF_x, sAndT_w, andT_t, andT_f, sOrT_w, orT_t, orT_f, sNotT_w, notT_ok, sAnd_w, andF_t, andF_f, sOr_w, orF_t, orF_f, sNot_w, notF_ok, sIfE_w, ifE_t, ifE_f, sChn_w, chA_v, chA_s, chB_ok, chB_s, chC_tv, chC_ts, chC_f, chD_ok, sNil_w, consB_ok, consB_x, sCons_w, consA_v, consA_x, sTup_w, tupF_ok, sLst_w, lstF_ok, sC1_w, c1A_ok, c1A_x, c1B_s, sCall_w, callA_ok, callA_x, callB_r, callB_x, sCallM_w, cm0_s, cmA_ok, cmB_s, cmC_r, cmC_x, sSeq_w, seqF_n, seqF_r, seqF_x, seqF_b, seqF_c, sIf_w, ifS_t, ifS_f, ifS_x, sExp_w, expF_ok, expF_x, sRet_w, retF_v, retF_f, retF_x, sSet_w, setF_v, setF_f, setF_x, sPar_w, parF_ok, endF_rf, endF_nf, endF_xf, endF_rt, endF_rt', endF_nt', endF_xt', hSeq_w, seqH_l, seqH_t, hRange1_w, rng1_ok, hEnum_w, enumH_ok, sFor_w, forF_ok, forL_n, forA_s, forB_n, forB_c, forB_b, forB_r, forB_x, gSet_w, sLc_w, lcF_ok, lcE_ok, lcL_n, sYes_w, sFld_w, sSetIx_w, sIxA_s, sIxB_s, sIxC_s, sIxD_s, sIxE_s, getPl_sl, setPl_sl, getS_w, Option.getD_some, sLm_w, lm0_s, lmA_s, lmB_s, lmC_s, sSl_w, slA_v, slA_f, slA_t, slL_s, slH_s, slC_s, oPart_w, oPF_s, oNone_w, sM1_w, m1A_s, m1B_s, m1C_s, lcA_s, lcB_f, lcB_t, lcC_ok, freeO_n, freeO_v, ownOk_n, ownOk_c, wipeE_n, wipeE_c, restE_n, restE_c, sDc_w, dcF_ok, dcE_ok, sSetF_w, stfA_ok, getPl_fd, gplF_i, setPl_fd, splF_i, sFldZ_w, mkB_r, mkB_x, mkA_ok, sMake_w, sFmt_w, en, h1', Bool.not_false, el, h2]) (lc_filter _)
  have hff : List.filter φ (cands.map sS) = (cands.filter good).map sS := by rw [List.filter_map]; rfl
  have hne : cands.filter good ≠ [] := fun he => by
    have hall : ∀ l ∈ cands, l ∈ fs ++ W3 := fun l hl => by
      have hg : good l = false := by
        cases hg : good l with
        | false => rfl
        | true => have := List.mem_filter.mpr ⟨hl, hg⟩; rw [he] at this; cases this
      by_cases h1 : l ∈ fs
      · exact List.mem_append_left _ h1
      · refine List.mem_append_right _ ?_
        have h2 := (hcl l hl).2.1
        simp only [good, h1, isNam, h2, decide_false, Bool.not_false, Bool.true_and, Bool.not_eq_false', decide_eq_true_eq] at hg
        exact hg
    have hnd : cands.Nodup := by
      refine List.Pairwise.map _ (fun i j hij he => hij ?_) List.nodup_range
      have := List.append_cancel_left he
      simp at this; exact this
    have := pigeon cands (fs ++ W3) hnd hall
    simp [cands, W3] at this
    omega
  cases hf : cands.filter good with
  | nil => exact absurd hf hne
  | cons l rest =>
    have hl : l ∈ cands ∧ good l = true := List.mem_filter.mp (by rw [hf]; exact List.mem_cons_self)
    have hgl : l ∉ fs ∧ isNam l = true := by
      have := hl.2
      simp only [good, Bool.and_eq_true, Bool.not_eq_true', decide_eq_false_iff_not] at this
      exact this
    have ix : gIx2 (.lst (List.filter φ (cands.map sS))) (.int 0) = some (.v (sS l)) := by
      rw [ix_nat (by omega), hff, hf]; rfl
    have happ : gApp (fs.map sS) (sS l) = some (.non, (fs ++ [l]).map sS) := by
      show (if (fs.map sS).length < sizeLine then some (D.non, fs.map sS ++ [sS l]) else none) = _
      rw [if_pos (by have := line_big; simp; omega)]; simp
    refine ⟨l, p1, some (.v (sS w)), some (.v (.lst (cands.map sS))), ?_, ⟨?_, ?_⟩⟩
    · unfold namesBody
      simp only [runFn_w, LW.argsOk, O.isV, O.d, List.all_cons, List.all_nil, Bool.and_true, Bool.true_and, Bool.and_self, List.length_cons, List.length_nil, List.map_cons, List.map_nil, List.cons_append, List.nil_append, List.replicate_succ, List.replicate_zero, Nat.reduceAdd, Nat.reduceSub, Nat.zero_add, and_self, and_true, true_and, if_true, ite_true, if_false, ite_false, List.getElem?_cons_zero, List.getElem?_cons_succ, List.set_cons_zero, List.set_cons_succ, List.set_nil, Bool.false_eq_true, reduceIte, sVar_w, varF_v, varF_l, varF_k, sFrz_w, frzF_o, sMov_w, movF_o, sC_w, sFz_w, fzF_v, fzF_f, fzF_x, outP_s, opC_s, opB_ok, opB_x, sOp_w, opA_v, opA_f, opA_s, opA_x, rd_v, rd_s, rd_fv, rd_fl, rd_fk, sTB_w, tbF_b, tbF_x, sAndT_w, andT_t, andT_f, sOrT_w, orT_t, orT_f, sNotT_w, notT_ok, sAnd_w, andF_t, andF_f, sOr_w, orF_t, orF_f, sNot_w, notF_ok, sIfE_w, ifE_t, ifE_f, sChn_w, chA_v, chA_s, chB_ok, chB_s, chC_tv, chC_ts, chC_f, chD_ok, sNil_w, consB_ok, consB_x, sCons_w, consA_v, consA_x, sTup_w, tupF_ok, sLst_w, lstF_ok, sC1_w, c1A_ok, c1A_x, c1B_s, sCall_w, callA_ok, callA_x, callB_r, callB_x, sCallM_w, cm0_s, cmA_ok, cmB_s, cmC_r, cmC_x, sSeq_w, seqF_n, seqF_r, seqF_x, seqF_b, seqF_c, sIf_w, ifS_t, ifS_f, ifS_x, sExp_w, expF_ok, expF_x, sRet_w, retF_v, retF_f, retF_x, sSet_w, setF_v, setF_f, setF_x, sPar_w, parF_ok, endF_rf, endF_nf, endF_xf, endF_rt, endF_rt', endF_nt', endF_xt', hSeq_w, seqH_l, seqH_t, hRange1_w, rng1_ok, hEnum_w, enumH_ok, sFor_w, forF_ok, forL_n, forA_s, forB_n, forB_c, forB_b, forB_r, forB_x, gSet_w, sLc_w, lcF_ok, lcE_ok, lcL_n, sYes_w, sFld_w, sSetIx_w, sIxA_s, sIxB_s, sIxC_s, sIxD_s, sIxE_s, getPl_sl, setPl_sl, getS_w, Option.getD_some, sLm_w, lm0_s, lmA_s, lmB_s, lmC_s, sSl_w, slA_v, slA_f, slA_t, slL_s, slH_s, slC_s, oPart_w, oPF_s, oNone_w, sM1_w, m1A_s, m1B_s, m1C_s, lcA_s, lcB_f, lcB_t, lcC_ok, freeO_n, freeO_v, ownOk_n, ownOk_c, wipeE_n, wipeE_c, restE_n, restE_c, sDc_w, dcF_ok, dcE_ok, sSetF_w, stfA_ok, getPl_fd, gplF_i, setPl_fd, splF_i, sFldZ_w, mkB_r, mkB_x, mkA_ok, sMake_w, sFmt_w, e1, cut7 w0 (by omega), hw1, show seqH (.ok (.v (.str "abcdefghijklmnopqrstuvwxyz")) [some p1.o, a1, some (.l (fs.map sS)), a3, some (.v (sS w)), a5, none, none]) = _ from seqH_s (z := AZ) az_line, az_walk, e2, e3, ix, happ]
    · exact List.nodup_append.mpr ⟨hn.1, by simp, fun a ha b hb => by rw [List.mem_singleton.mp hb]; exact fun e => hgl.1 (e ▸ ha)⟩
    · intro m hm
      rcases List.mem_append.mp hm with z | z
      · exact hn.2 m z
      · rw [List.mem_singleton.mp z]; exact hgl.2
theorem names_loop : ∀ (ds : List D) (p : Pot) (fs : List (List Nat)) (a1 a3 a4 a5 : Option O), Names fs → fs.length + ds.length ≤ 20 →
    ∃ (gs : List (List Nat)) (p' : Pot) (a3' a4' a5' : Option O), forL (gSet 3) namesBody ds [some p.o, a1, some (.l (fs.map sS)), a3, a4, a5, none, none] = .next [some p'.o, a1, some (.l (gs.map sS)), a3', a4', a5', none, none] ∧ Names gs ∧ gs.length = fs.length + ds.length
  | [], p, fs, a1, a3, a4, a5, hn, _ => ⟨fs, p, a3, a4, a5, rfl, hn, rfl⟩
  | d :: r, p, fs, a1, a3, a4, a5, hn, hl => by
    obtain ⟨l, p1, b4, b5, e, hn'⟩ := names_turn p fs a1 (some (.v d)) a4 a5 hn (by simp at hl; omega)
    obtain ⟨gs, p2, c3, c4, c5, e2, h2, h3⟩ := names_loop r p1 (fs ++ [l]) a1 (some (.v d)) b4 b5 hn' (by simp at hl ⊢; omega)
    refine ⟨gs, p2, c3, c4, c5, ?_, h2, by rw [h3]; simp; omega⟩
    rw [forL_c]
    simp only [runFn_w, LW.argsOk, O.isV, O.d, List.all_cons, List.all_nil, Bool.and_true, Bool.true_and, Bool.and_self, List.length_cons, List.length_nil, List.map_cons, List.map_nil, List.cons_append, List.nil_append, List.replicate_succ, List.replicate_zero, Nat.reduceAdd, Nat.reduceSub, Nat.zero_add, and_self, and_true, true_and, if_true, ite_true, if_false, ite_false, List.getElem?_cons_zero, List.getElem?_cons_succ, List.set_cons_zero, List.set_cons_succ, List.set_nil, Bool.false_eq_true, reduceIte, sVar_w, varF_v, varF_l, varF_k, sFrz_w, frzF_o, sMov_w, movF_o, sC_w, sFz_w, fzF_v, fzF_f, fzF_x, outP_s, opC_s, opB_ok, opB_x, sOp_w, opA_v, opA_f, opA_s, opA_x, rd_v, rd_s, rd_fv, rd_fl, rd_fk, sTB_w, tbF_b, tbF_x, sAndT_w, andT_t, andT_f, sOrT_w, orT_t, orT_f, sNotT_w, notT_ok, sAnd_w, andF_t, andF_f, sOr_w, orF_t, orF_f, sNot_w, notF_ok, sIfE_w, ifE_t, ifE_f, sChn_w, chA_v, chA_s, chB_ok, chB_s, chC_tv, chC_ts, chC_f, chD_ok, sNil_w, consB_ok, consB_x, sCons_w, consA_v, consA_x, sTup_w, tupF_ok, sLst_w, lstF_ok, sC1_w, c1A_ok, c1A_x, c1B_s, sCall_w, callA_ok, callA_x, callB_r, callB_x, sCallM_w, cm0_s, cmA_ok, cmB_s, cmC_r, cmC_x, sSeq_w, seqF_n, seqF_r, seqF_x, seqF_b, seqF_c, sIf_w, ifS_t, ifS_f, ifS_x, sExp_w, expF_ok, expF_x, sRet_w, retF_v, retF_f, retF_x, sSet_w, setF_v, setF_f, setF_x, sPar_w, parF_ok, endF_rf, endF_nf, endF_xf, endF_rt, endF_rt', endF_nt', endF_xt', hSeq_w, seqH_l, seqH_t, hRange1_w, rng1_ok, hEnum_w, enumH_ok, sFor_w, forF_ok, forL_n, forA_s, forB_n, forB_c, forB_b, forB_r, forB_x, gSet_w, sLc_w, lcF_ok, lcE_ok, lcL_n, sYes_w, sFld_w, sSetIx_w, sIxA_s, sIxB_s, sIxC_s, sIxD_s, sIxE_s, getPl_sl, setPl_sl, getS_w, Option.getD_some, sLm_w, lm0_s, lmA_s, lmB_s, lmC_s, sSl_w, slA_v, slA_f, slA_t, slL_s, slH_s, slC_s, oPart_w, oPF_s, oNone_w, sM1_w, m1A_s, m1B_s, m1C_s, lcA_s, lcB_f, lcB_t, lcC_ok, freeO_n, freeO_v, ownOk_n, ownOk_c, wipeE_n, wipeE_c, restE_n, restE_c, sDc_w, dcF_ok, dcE_ok, sSetF_w, stfA_ok, getPl_fd, gplF_i, setPl_fd, splF_i, sFldZ_w, mkB_r, mkB_x, mkA_ok, sMake_w, sFmt_w, e, e2]
theorem names (p : Pot) (n : Nat) (hn : n ≤ 20) : ∃ (gs : List (List Nat)) (p' : Pot), sem__law_names [p.o, .v (.int n)] = .ret (.f (.l (gs.map sS))) [p'.o, .v (.int n)] ∧ Names gs ∧ gs.length = n := by
  obtain ⟨gs, p', a3, a4, a5, e, h1, h2⟩ := names_loop (rangeD 0 n) p [] (some (.v (.int n))) none none none ⟨List.nodup_nil, fun _ h => nomatch h⟩ (by rw [rangeD_len]; simp; omega)
  rw [rangeD_len] at h2
  refine ⟨gs, p', ?_, h1, by simp at h2; omega⟩
  have e : forL (gSet 3) namesBody (rangeD 0 n) [some p.o, some (.v (.int n)), some (.l []), none, none, none, none, none] = _ := e
  unfold namesBody at e
  unfold sem__law_names
  simp only [runFn_w, LW.argsOk, O.isV, O.d, List.all_cons, List.all_nil, Bool.and_true, Bool.true_and, Bool.and_self, List.length_cons, List.length_nil, List.map_cons, List.map_nil, List.cons_append, List.nil_append, List.replicate_succ, List.replicate_zero, Nat.reduceAdd, Nat.reduceSub, Nat.zero_add, and_self, and_true, true_and, if_true, ite_true, if_false, ite_false, List.getElem?_cons_zero, List.getElem?_cons_succ, List.set_cons_zero, List.set_cons_succ, List.set_nil, Bool.false_eq_true, reduceIte, sVar_w, varF_v, varF_l, varF_k, sFrz_w, frzF_o, sMov_w, movF_o, sC_w, sFz_w, fzF_v, fzF_f, fzF_x, outP_s, opC_s, opB_ok, opB_x, sOp_w, opA_v, opA_f, opA_s, opA_x, rd_v, rd_s, rd_fv, rd_fl, rd_fk, sTB_w, tbF_b, tbF_x, sAndT_w, andT_t, andT_f, sOrT_w, orT_t, orT_f, sNotT_w, notT_ok, sAnd_w, andF_t, andF_f, sOr_w, orF_t, orF_f, sNot_w, notF_ok, sIfE_w, ifE_t, ifE_f, sChn_w, chA_v, chA_s, chB_ok, chB_s, chC_tv, chC_ts, chC_f, chD_ok, sNil_w, consB_ok, consB_x, sCons_w, consA_v, consA_x, sTup_w, tupF_ok, sLst_w, lstF_ok, sC1_w, c1A_ok, c1A_x, c1B_s, sCall_w, callA_ok, callA_x, callB_r, callB_x, sCallM_w, cm0_s, cmA_ok, cmB_s, cmC_r, cmC_x, sSeq_w, seqF_n, seqF_r, seqF_x, seqF_b, seqF_c, sIf_w, ifS_t, ifS_f, ifS_x, sExp_w, expF_ok, expF_x, sRet_w, retF_v, retF_f, retF_x, sSet_w, setF_v, setF_f, setF_x, sPar_w, parF_ok, endF_rf, endF_nf, endF_xf, endF_rt, endF_rt', endF_nt', endF_xt', hSeq_w, seqH_l, seqH_t, hRange1_w, rng1_ok, hEnum_w, enumH_ok, sFor_w, forF_ok, forL_n, forA_s, forB_n, forB_c, forB_b, forB_r, forB_x, gSet_w, sLc_w, lcF_ok, lcE_ok, lcL_n, sYes_w, sFld_w, sSetIx_w, sIxA_s, sIxB_s, sIxC_s, sIxD_s, sIxE_s, getPl_sl, setPl_sl, getS_w, Option.getD_some, sLm_w, lm0_s, lmA_s, lmB_s, lmC_s, sSl_w, slA_v, slA_f, slA_t, slL_s, slH_s, slC_s, oPart_w, oPF_s, oNone_w, sM1_w, m1A_s, m1B_s, m1C_s, lcA_s, lcB_f, lcB_t, lcC_ok, freeO_n, freeO_v, ownOk_n, ownOk_c, wipeE_n, wipeE_c, restE_n, restE_c, sDc_w, dcF_ok, dcE_ok, sSetF_w, stfA_ok, getPl_fd, gplF_i, setPl_fd, splF_i, sFldZ_w, mkB_r, mkB_x, mkA_ok, sMake_w, sFmt_w, show (-1000000 ≤ (n : Int)) ∧ (n : Int) ≤ 1000000 from ⟨by omega, by omega⟩, e]
/-- a pair -/
def pD (q : Nat × Nat) : D := .tup [.int q.1, .int q.2]
/-- all pairs below, in the law's order -/
def pairsUp : Nat → List (Nat × Nat)
  | 0 => []
  | n + 1 => pairsUp n ++ (List.range n).map fun i => (i, n)
theorem pairsUp_len (n : Nat) : (pairsUp n).length ≤ n * n := by
  induction n with
  | zero => simp [pairsUp]
  | succ n ih => simp [pairsUp]; rw [Nat.mul_add, Nat.add_mul]; omega
theorem pairsUp_mem {n : Nat} {q : Nat × Nat} : q ∈ pairsUp n ↔ q.1 < q.2 ∧ q.2 < n := by
  induction n with
  | zero => simp [pairsUp]
  | succ n ih =>
    simp only [pairsUp, List.mem_append, ih, List.mem_map, List.mem_range]
    constructor
    · rintro (h | ⟨i, h, rfl⟩)
      · exact ⟨h.1, by omega⟩
      · exact ⟨h, by simp⟩
    · intro ⟨h1, h2⟩
      by_cases h : q.2 < n
      · exact .inl ⟨h1, h⟩
      · refine .inr ⟨q.1, by omega, ?_⟩
        have : q.2 = n := by omega
        rw [← this]
theorem pairsUp_nodup (n : Nat) : (pairsUp n).Nodup := by
  induction n with
  | zero => exact List.nodup_nil
  | succ n ih =>
    refine List.nodup_append.mpr ⟨ih, List.Pairwise.map _ (fun i j h e => h (Prod.mk.inj e).1) List.nodup_range, fun a ha b hb e => ?_⟩
    obtain ⟨i, hi, rfl⟩ := List.mem_map.mp hb
    rw [e] at ha
    have := (pairsUp_mem.mp ha).2
    simp at this
theorem range_line {n : Nat} (h : n ≤ 1000) : (-1000000 ≤ (n : Int)) ∧ (n : Int) ≤ 1000000 := ⟨by omega, by omega⟩
theorem pairs_loop (a0 : Option O) : ∀ (k n : Nat) (a2 : Option O), n + k ≤ 100 →
    ∃ a2', forL (gSet 2) (sSet 1 (sOp gAdd true (sVar 1) (sLc [3] (hRange1 (sVar 2)) (gSet 3) (sYes) (sTup (sCons (sVar 3) (sCons (sVar 2) (sNil))))))) ((List.range' n k).map fun i : Nat => D.int i) [a0, some (.l ((pairsUp n).map pD)), a2, none] = .next [a0, some (.l ((pairsUp (n + k)).map pD)), a2', none]
  | 0, n, a2, _ => ⟨a2, rfl⟩
  | k + 1, n, a2, h => by
    obtain ⟨a2', e⟩ := pairs_loop a0 k (n + 1) (some (.v (.int n))) (by omega)
    refine ⟨a2', ?_⟩
    rw [List.range'_succ, List.map_cons, forL_c]
    have el := lcL_map (ow := [3]) (tg := gSet 3) (t := sYes) (f := sTup (sCons (sVar 3) (sCons (sVar 2) (sNil)))) (φ := fun d => some (some (.tup [d, .int n])))
      (ρ0 := [a0, some (.l ((pairsUp n).map pD)), some (.v (.int n)), none]) (ds := rangeD 0 n) (acc := []) (fun d hd z hz => by
        cases hz
        refine ⟨_, [a0, some (.l ((pairsUp n).map pD)), some (.v (.int n)), some (.v d)], rfl, ⟨_, rfl, ?_⟩, rfl⟩
        simp only [runFn_w, LW.argsOk, O.isV, O.d, List.all_cons, List.all_nil, Bool.and_true, Bool.true_and, Bool.and_self, List.length_cons, List.length_nil, List.map_cons, List.map_nil, List.cons_append, List.nil_append, List.replicate_succ, List.replicate_zero, Nat.reduceAdd, Nat.reduceSub, Nat.zero_add, and_self, and_true, true_and, if_true, ite_true, if_false, ite_false, List.getElem?_cons_zero, List.getElem?_cons_succ, List.set_cons_zero, List.set_cons_succ, List.set_nil, Bool.false_eq_true, reduceIte, sVar_w, varF_v, varF_l, varF_k, sFrz_w, frzF_o, sMov_w, movF_o, sC_w, sFz_w, fzF_v, fzF_f, fzF_x, outP_s, opC_s, opB_ok, opB_x, sOp_w, opA_v, opA_f, opA_s, opA_x, rd_v, rd_s, rd_fv, rd_fl, rd_fk, sTB_w, tbF_b, tbF_x, sAndT_w, andT_t, andT_f, sOrT_w, orT_t, orT_f, sNotT_w, notT_ok, sAnd_w, andF_t, andF_f, sOr_w, orF_t, orF_f, sNot_w, notF_ok, sIfE_w, ifE_t, ifE_f, sChn_w, chA_v, chA_s, chB_ok, chB_s, chC_tv, chC_ts, chC_f, chD_ok, sNil_w, consB_ok, consB_x, sCons_w, consA_v, consA_x, sTup_w, tupF_ok, sLst_w, lstF_ok, sC1_w, c1A_ok, c1A_x, c1B_s, sCall_w, callA_ok, callA_x, callB_r, callB_x, sCallM_w, cm0_s, cmA_ok, cmB_s, cmC_r, cmC_x, sSeq_w, seqF_n, seqF_r, seqF_x, seqF_b, seqF_c, sIf_w, ifS_t, ifS_f, ifS_x, sExp_w, expF_ok, expF_x, sRet_w, retF_v, retF_f, retF_x, sSet_w, setF_v, setF_f, setF_x, sPar_w, parF_ok, endF_rf, endF_nf, endF_xf, endF_rt, endF_rt', endF_nt', endF_xt', hSeq_w, seqH_l, seqH_t, hRange1_w, rng1_ok, hEnum_w, enumH_ok, sFor_w, forF_ok, forL_n, forA_s, forB_n, forB_c, forB_b, forB_r, forB_x, gSet_w, sLc_w, lcF_ok, lcE_ok, lcL_n, sYes_w, sFld_w, sSetIx_w, sIxA_s, sIxB_s, sIxC_s, sIxD_s, sIxE_s, getPl_sl, setPl_sl, getS_w, Option.getD_some, sLm_w, lm0_s, lmA_s, lmB_s, lmC_s, sSl_w, slA_v, slA_f, slA_t, slL_s, slH_s, slC_s, oPart_w, oPF_s, oNone_w, sM1_w, m1A_s, m1B_s, m1C_s, lcA_s, lcB_f, lcB_t, lcC_ok, freeO_n, freeO_v, ownOk_n, ownOk_c, wipeE_n, wipeE_c, restE_n, restE_c, sDc_w, dcF_ok, dcE_ok, sSetF_w, stfA_ok, getPl_fd, gplF_i, setPl_fd, splF_i, sFldZ_w, mkB_r, mkB_x, mkA_ok, sMake_w, sFmt_w]) (lcMap_all fun d _ => rfl)
    have ea : gAdd (.lst ((pairsUp n).map pD)) (.lst ((rangeD 0 n).map fun d => D.tup [d, .int n])) = some (.f (.l ((pairsUp (n + 1)).map pD))) := by
      show (if ((pairsUp n).map pD).length + ((rangeD 0 n).map fun d => D.tup [d, .int n]).length ≤ sizeLine then some (P.f (.l ((pairsUp n).map pD ++ (rangeD 0 n).map fun d => D.tup [d, .int n]))) else none) = _
      rw [if_pos (by
        have := pairsUp_len n
        have h2 : n * n ≤ 100 * 100 := Nat.mul_le_mul (by omega) (by omega)
        have := line_big
        rw [List.length_map, List.length_map, rangeD_len]; omega)]
      rw [rangeD_nat, List.map_map]
      simp only [pairsUp, List.map_append, List.map_map]
      rfl
    simp only [runFn_w, LW.argsOk, O.isV, O.d, List.all_cons, List.all_nil, Bool.and_true, Bool.true_and, Bool.and_self, List.length_cons, List.length_nil, List.map_cons, List.map_nil, List.cons_append, List.nil_append, List.replicate_succ, List.replicate_zero, Nat.reduceAdd, Nat.reduceSub, Nat.zero_add, and_self, and_true, true_and, if_true, ite_true, if_false, ite_false, List.getElem?_cons_zero, List.getElem?_cons_succ, List.set_cons_zero, List.set_cons_succ, List.set_nil, Bool.false_eq_true, reduceIte, sVar_w, varF_v, varF_l, varF_k, sFrz_w, frzF_o, sMov_w, movF_o, sC_w, sFz_w, fzF_v, fzF_f, fzF_x, outP_s, opC_s, opB_ok, opB_x, sOp_w, opA_v, opA_f, opA_s, opA_x, rd_v, rd_s, rd_fv, rd_fl, rd_fk, sTB_w, tbF_b, tbF_x, sAndT_w, andT_t, andT_f, sOrT_w, orT_t, orT_f, sNotT_w, notT_ok, sAnd_w, andF_t, andF_f, sOr_w, orF_t, orF_f, sNot_w, notF_ok, sIfE_w, ifE_t, ifE_f, sChn_w, chA_v, chA_s, chB_ok, chB_s, chC_tv, chC_ts, chC_f, chD_ok, sNil_w, consB_ok, consB_x, sCons_w, consA_v, consA_x, sTup_w, tupF_ok, sLst_w, lstF_ok, sC1_w, c1A_ok, c1A_x, c1B_s, sCall_w, callA_ok, callA_x, callB_r, callB_x, sCallM_w, cm0_s, cmA_ok, cmB_s, cmC_r, cmC_x, sSeq_w, seqF_n, seqF_r, seqF_x, seqF_b, seqF_c, sIf_w, ifS_t, ifS_f, ifS_x, sExp_w, expF_ok, expF_x, sRet_w, retF_v, retF_f, retF_x, sSet_w, setF_v, setF_f, setF_x, sPar_w, parF_ok, endF_rf, endF_nf, endF_xf, endF_rt, endF_rt', endF_nt', endF_xt', hSeq_w, seqH_l, seqH_t, hRange1_w, rng1_ok, hEnum_w, enumH_ok, sFor_w, forF_ok, forL_n, forA_s, forB_n, forB_c, forB_b, forB_r, forB_x, gSet_w, sLc_w, lcF_ok, lcE_ok, lcL_n, sYes_w, sFld_w, sSetIx_w, sIxA_s, sIxB_s, sIxC_s, sIxD_s, sIxE_s, getPl_sl, setPl_sl, getS_w, Option.getD_some, sLm_w, lm0_s, lmA_s, lmB_s, lmC_s, sSl_w, slA_v, slA_f, slA_t, slL_s, slH_s, slC_s, oPart_w, oPF_s, oNone_w, sM1_w, m1A_s, m1B_s, m1C_s, lcA_s, lcB_f, lcB_t, lcC_ok, freeO_n, freeO_v, ownOk_n, ownOk_c, wipeE_n, wipeE_c, restE_n, restE_c, sDc_w, dcF_ok, dcE_ok, sSetF_w, stfA_ok, getPl_fd, gplF_i, setPl_fd, splF_i, sFldZ_w, mkB_r, mkB_x, mkA_ok, sMake_w, sFmt_w, range_line (n := n) (by omega), el, ea]
    rw [e]
    rw [show n + 1 + k = n + (k + 1) by omega]
theorem pairs (n : Nat) (h : n ≤ 100) : sem__law_pairs [.v (.int n)] = .ret (.f (.l ((pairsUp n).map pD))) [.v (.int n)] := by
  obtain ⟨a2, e⟩ := pairs_loop (some (.v (.int n))) n 0 none (by omega)
  have e : forL (gSet 2) _ ((List.range' 0 n).map fun i : Nat => D.int i) [some (.v (.int n)), some (.l []), none, none] = _ := e
  rw [← List.range_eq_range', ← rangeD_nat, Nat.zero_add] at e
  unfold sem__law_pairs
  simp only [runFn_w, LW.argsOk, O.isV, O.d, List.all_cons, List.all_nil, Bool.and_true, Bool.true_and, Bool.and_self, List.length_cons, List.length_nil, List.map_cons, List.map_nil, List.cons_append, List.nil_append, List.replicate_succ, List.replicate_zero, Nat.reduceAdd, Nat.reduceSub, Nat.zero_add, and_self, and_true, true_and, if_true, ite_true, if_false, ite_false, List.getElem?_cons_zero, List.getElem?_cons_succ, List.set_cons_zero, List.set_cons_succ, List.set_nil, Bool.false_eq_true, reduceIte, sVar_w, varF_v, varF_l, varF_k, sFrz_w, frzF_o, sMov_w, movF_o, sC_w, sFz_w, fzF_v, fzF_f, fzF_x, outP_s, opC_s, opB_ok, opB_x, sOp_w, opA_v, opA_f, opA_s, opA_x, rd_v, rd_s, rd_fv, rd_fl, rd_fk, sTB_w, tbF_b, tbF_x, sAndT_w, andT_t, andT_f, sOrT_w, orT_t, orT_f, sNotT_w, notT_ok, sAnd_w, andF_t, andF_f, sOr_w, orF_t, orF_f, sNot_w, notF_ok, sIfE_w, ifE_t, ifE_f, sChn_w, chA_v, chA_s, chB_ok, chB_s, chC_tv, chC_ts, chC_f, chD_ok, sNil_w, consB_ok, consB_x, sCons_w, consA_v, consA_x, sTup_w, tupF_ok, sLst_w, lstF_ok, sC1_w, c1A_ok, c1A_x, c1B_s, sCall_w, callA_ok, callA_x, callB_r, callB_x, sCallM_w, cm0_s, cmA_ok, cmB_s, cmC_r, cmC_x, sSeq_w, seqF_n, seqF_r, seqF_x, seqF_b, seqF_c, sIf_w, ifS_t, ifS_f, ifS_x, sExp_w, expF_ok, expF_x, sRet_w, retF_v, retF_f, retF_x, sSet_w, setF_v, setF_f, setF_x, sPar_w, parF_ok, endF_rf, endF_nf, endF_xf, endF_rt, endF_rt', endF_nt', endF_xt', hSeq_w, seqH_l, seqH_t, hRange1_w, rng1_ok, hEnum_w, enumH_ok, sFor_w, forF_ok, forL_n, forA_s, forB_n, forB_c, forB_b, forB_r, forB_x, gSet_w, sLc_w, lcF_ok, lcE_ok, lcL_n, sYes_w, sFld_w, sSetIx_w, sIxA_s, sIxB_s, sIxC_s, sIxD_s, sIxE_s, getPl_sl, setPl_sl, getS_w, Option.getD_some, sLm_w, lm0_s, lmA_s, lmB_s, lmC_s, sSl_w, slA_v, slA_f, slA_t, slL_s, slH_s, slC_s, oPart_w, oPF_s, oNone_w, sM1_w, m1A_s, m1B_s, m1C_s, lcA_s, lcB_f, lcB_t, lcC_ok, freeO_n, freeO_v, ownOk_n, ownOk_c, wipeE_n, wipeE_c, restE_n, restE_c, sDc_w, dcF_ok, dcE_ok, sSetF_w, stfA_ok, getPl_fd, gplF_i, setPl_fd, splF_i, sFldZ_w, mkB_r, mkB_x, mkA_ok, sMake_w, sFmt_w, range_line (n := n) (by omega), e]
end SM

namespace SM
open PySem LW L2
theorem spec_pick (a1 a2 a3 : Option O) (t : Nat) (h3 : a3 = some (.v (.int t))) (ht : t < 1073741824) : ∀ (ds : List (Nat × Nat)) (p : Pot) (acc : List (Nat × Nat)), ∃ (qs : List (Nat × Nat)) (p' : Pot), List.Sublist qs ds ∧
    lcL [4] (gSet 4) (sTB (sOp gEq true (sCallM (sem__law_draw) 0 (sCons (sVar 3) (sNil))) (sC (.int 0)))) (sVar 4) (ds.map pD) (acc.map pD) [some p.o, a1, a2, a3, none] = .ok ((acc ++ qs).map pD) [some p'.o, a1, a2, a3, none]
  | [], p, acc => ⟨[], p, List.Sublist.refl _, by simp⟩
  | d :: r, p, acc => by
    subst h3
    obtain ⟨v, p1, e1, _, _⟩ := draw p t (by omega)
    rw [List.map_cons, lcL_c]
    by_cases hv : v = 0
    · have hv := decide_eq_true hv
      obtain ⟨qs, p2, hs, e2⟩ := spec_pick a1 a2 _ t rfl ht r p1 (acc ++ [d])
      refine ⟨d :: qs, p2, hs.cons_cons d, ?_⟩
      simp only [runFn_w, LW.argsOk, O.isV, O.d, List.all_cons, List.all_nil, Bool.and_true, Bool.true_and, Bool.and_self, List.length_cons, List.length_nil, List.map_cons, List.map_nil, List.cons_append, List.nil_append, List.replicate_succ, List.replicate_zero, Nat.reduceAdd, Nat.reduceSub, Nat.zero_add, and_self, and_true, true_and, if_true, ite_true, if_false, ite_false, List.getElem?_cons_zero, List.getElem?_cons_succ, List.set_cons_zero, List.set_cons_succ, List.set_nil, Bool.false_eq_true, reduceIte, sVar_w, varF_v, varF_l, varF_k, sFrz_w, frzF_o, sMov_w, movF_o, sC_w, sFz_w, fzF_v, fzF_f, fzF_x, outP_s, opC_s, opB_ok, opB_x, sOp_w, opA_v, opA_f, opA_s, opA_x, rd_v, rd_s, rd_fv, rd_fl, rd_fk, sTB_w, tbF_b, tbF_x, sAndT_w, andT_t, andT_f, sOrT_w, orT_t, orT_f, sNotT_w, notT_ok, sAnd_w, andF_t, andF_f, sOr_w, orF_t, orF_f, sNot_w, notF_ok, sIfE_w, ifE_t, ifE_f, sChn_w, chA_v, chA_s, chB_ok, chB_s, chC_tv, chC_ts, chC_f, chD_ok, sNil_w, consB_ok, consB_x, sCons_w, consA_v, consA_x, sTup_w, tupF_ok, sLst_w, lstF_ok, sC1_w, c1A_ok, c1A_x, c1B_s, sCall_w, callA_ok, callA_x, callB_r, callB_x, sCallM_w, cm0_s, cmA_ok, cmB_s, cmC_r, cmC_x, sSeq_w, seqF_n, seqF_r, seqF_x, seqF_b, seqF_c, sIf_w, ifS_t, ifS_f, ifS_x, sExp_w, expF_ok, expF_x, sRet_w, retF_v, retF_f, retF_x, sSet_w, setF_v, setF_f, setF_x, sPar_w, parF_ok, endF_rf, endF_nf, endF_xf, endF_rt, endF_rt', endF_nt', endF_xt', hSeq_w, seqH_l, seqH_t, hRange1_w, rng1_ok, hEnum_w, enumH_ok, sFor_w, forF_ok, forL_n, forA_s, forB_n, forB_c, forB_b, forB_r, forB_x, gSet_w, sLc_w, lcF_ok, lcE_ok, lcL_n, sYes_w, sFld_w, sSetIx_w, sIxA_s, sIxB_s, sIxC_s, sIxD_s, sIxE_s, getPl_sl, setPl_sl, getS_w, Option.getD_some, sLm_w, lm0_s, lmA_s, lmB_s, lmC_s, sSl_w, slA_v, slA_f, slA_t, slL_s, slH_s, slC_s, oPart_w, oPF_s, oNone_w, sM1_w, m1A_s, m1B_s, m1C_s, lcA_s, lcB_f, lcB_t, lcC_ok, freeO_n, freeO_v, ownOk_n, ownOk_c, wipeE_n, wipeE_c, restE_n, restE_c, sDc_w, dcF_ok, dcE_ok, sSetF_w, stfA_ok, getPl_fd, gplF_i, setPl_fd, splF_i, sFldZ_w, mkB_r, mkB_x, mkA_ok, sMake_w, sFmt_w, e1, gEq_int, hv]
      rw [List.map_append] at e2
      rw [show acc.map pD ++ [pD d] = acc.map pD ++ List.map pD [d] from rfl, e2]
      simp
    · have hv := decide_eq_false hv
      obtain ⟨qs, p2, hs, e2⟩ := spec_pick a1 a2 _ t rfl ht r p1 acc
      refine ⟨qs, p2, hs.cons d, ?_⟩
      simp only [runFn_w, LW.argsOk, O.isV, O.d, List.all_cons, List.all_nil, Bool.and_true, Bool.true_and, Bool.and_self, List.length_cons, List.length_nil, List.map_cons, List.map_nil, List.cons_append, List.nil_append, List.replicate_succ, List.replicate_zero, Nat.reduceAdd, Nat.reduceSub, Nat.zero_add, and_self, and_true, true_and, if_true, ite_true, if_false, ite_false, List.getElem?_cons_zero, List.getElem?_cons_succ, List.set_cons_zero, List.set_cons_succ, List.set_nil, Bool.false_eq_true, reduceIte, sVar_w, varF_v, varF_l, varF_k, sFrz_w, frzF_o, sMov_w, movF_o, sC_w, sFz_w, fzF_v, fzF_f, fzF_x, outP_s, opC_s, opB_ok, opB_x, sOp_w, opA_v, opA_f, opA_s, opA_x, rd_v, rd_s, rd_fv, rd_fl, rd_fk, sTB_w, tbF_b, tbF_x, sAndT_w, andT_t, andT_f, sOrT_w, orT_t, orT_f, sNotT_w, notT_ok, sAnd_w, andF_t, andF_f, sOr_w, orF_t, orF_f, sNot_w, notF_ok, sIfE_w, ifE_t, ifE_f, sChn_w, chA_v, chA_s, chB_ok, chB_s, chC_tv, chC_ts, chC_f, chD_ok, sNil_w, consB_ok, consB_x, sCons_w, consA_v, consA_x, sTup_w, tupF_ok, sLst_w, lstF_ok, sC1_w, c1A_ok, c1A_x, c1B_s, sCall_w, callA_ok, callA_x, callB_r, callB_x, sCallM_w, cm0_s, cmA_ok, cmB_s, cmC_r, cmC_x, sSeq_w, seqF_n, seqF_r, seqF_x, seqF_b, seqF_c, sIf_w, ifS_t, ifS_f, ifS_x, sExp_w, expF_ok, expF_x, sRet_w, retF_v, retF_f, retF_x, sSet_w, setF_v, setF_f, setF_x, sPar_w, parF_ok, endF_rf, endF_nf, endF_xf, endF_rt, endF_rt', endF_nt', endF_xt', hSeq_w, seqH_l, seqH_t, hRange1_w, rng1_ok, hEnum_w, enumH_ok, sFor_w, forF_ok, forL_n, forA_s, forB_n, forB_c, forB_b, forB_r, forB_x, gSet_w, sLc_w, lcF_ok, lcE_ok, lcL_n, sYes_w, sFld_w, sSetIx_w, sIxA_s, sIxB_s, sIxC_s, sIxD_s, sIxE_s, getPl_sl, setPl_sl, getS_w, Option.getD_some, sLm_w, lm0_s, lmA_s, lmB_s, lmC_s, sSl_w, slA_v, slA_f, slA_t, slL_s, slH_s, slC_s, oPart_w, oPF_s, oNone_w, sM1_w, m1A_s, m1B_s, m1C_s, lcA_s, lcB_f, lcB_t, lcC_ok, freeO_n, freeO_v, ownOk_n, ownOk_c, wipeE_n, wipeE_c, restE_n, restE_c, sDc_w, dcF_ok, dcE_ok, sSetF_w, stfA_ok, getPl_fd, gplF_i, setPl_fd, splF_i, sFldZ_w, mkB_r, mkB_x, mkA_ok, sMake_w, sFmt_w, e1, gEq_int, hv]
      exact e2
/-- a drawn web: names, pairs -/
structure Spec (gs : List (List Nat)) (qs : List (Nat × Nat)) (most : Nat) : Prop where
  nam : Names gs
  one : 1 ≤ gs.length
  most : gs.length ≤ most
  sub : List.Sublist qs (pairsUp gs.length)
def spD (gs : List (List Nat)) (qs : List (Nat × Nat)) : List D := [.lst (gs.map sS), .lst (qs.map pD)]
theorem spec (p : Pot) (most : Nat) (h1 : 1 ≤ most) (h2 : most ≤ 20) : ∃ (gs : List (List Nat)) (qs : List (Nat × Nat)) (p' : Pot), sem__law_spec [p.o, .v (.int most)] = .ret (.f (.l (spD gs qs))) [p'.o, .v (.int most)] ∧ Spec gs qs most := by
  obtain ⟨r, p1, e1, hr0, hr1⟩ := draw p most (by omega)
  have hr : 0 ≤ r ∧ r < most := by
    by_cases z : (most : Int) < 2
    · rw [hr0 z]; omega
    · exact hr1 (by omega)
  obtain ⟨n, rfl⟩ : ∃ n : Nat, r = n := ⟨r.toNat, by omega⟩
  obtain ⟨gs, p2, e2, hn, hl⟩ := names p1 (1 + n) (by omega)
  have e2 : sem__law_names [p1.o, .v (.int (1 + (n : Int)))] = .ret (.f (.l (gs.map sS))) [p2.o, .v (.int ((1 + n : Nat) : Int))] := by rw [← e2]; simp
  obtain ⟨t, p3, e3, ht0, ht1⟩ := draw p2 4 (by omega)
  have ht := ht1 (by omega)
  obtain ⟨m, rfl⟩ : ∃ n : Nat, t = n := ⟨t.toNat, by omega⟩
  have e4 := pairs gs.length (by omega)
  obtain ⟨qs, p4, hs, e5⟩ := spec_pick (some (.v (.int most))) (some (.v (.lst (gs.map sS)))) (some (.v (.int ((1 + m : Nat) : Int)))) (1 + m) rfl (by omega) (pairsUp gs.length) p3 []
  have e5 : lcL [4] (gSet 4) (sTB (sOp gEq true (sCallM (sem__law_draw) 0 (sCons (sVar 3) (sNil))) (sC (.int 0)))) (sVar 4) ((pairsUp gs.length).map pD) [] [some p3.o, some (.v (.int most)), some (.v (.lst (gs.map sS))), some (.v (.int (1 + (m : Int)))), none] = .ok (qs.map pD) [some p4.o, some (.v (.int most)), some (.v (.lst (gs.map sS))), some (.v (.int (1 + (m : Int)))), none] := by
    have : ((1 + m : Nat) : Int) = 1 + (m : Int) := by simp
    rw [this] at e5; exact e5
  refine ⟨gs, qs, p4, ?_, ⟨hn, by omega, by omega, hs⟩⟩
  have hg : ((gs.map sS).length : Int) = (gs.length : Int) := by simp
  unfold sem__law_spec
  simp only [runFn_w, LW.argsOk, O.isV, O.d, List.all_cons, List.all_nil, Bool.and_true, Bool.true_and, Bool.and_self, List.length_cons, List.length_nil, List.map_cons, List.map_nil, List.cons_append, List.nil_append, List.replicate_succ, List.replicate_zero, Nat.reduceAdd, Nat.reduceSub, Nat.zero_add, and_self, and_true, true_and, if_true, ite_true, if_false, ite_false, List.getElem?_cons_zero, List.getElem?_cons_succ, List.set_cons_zero, List.set_cons_succ, List.set_nil, Bool.false_eq_true, reduceIte, sVar_w, varF_v, varF_l, varF_k, sFrz_w, frzF_o, sMov_w, movF_o, sC_w, sFz_w, fzF_v, fzF_f, fzF_x, outP_s, opC_s, opB_ok, opB_x, sOp_w, opA_v, opA_f, opA_s, opA_x, rd_v, rd_s, rd_fv, rd_fl, rd_fk, sTB_w, tbF_b, tbF_x, sAndT_w, andT_t, andT_f, sOrT_w, orT_t, orT_f, sNotT_w, notT_ok, sAnd_w, andF_t, andF_f, sOr_w, orF_t, orF_f, sNot_w, notF_ok, sIfE_w, ifE_t, ifE_f, sChn_w, chA_v, chA_s, chB_ok, chB_s, chC_tv, chC_ts, chC_f, chD_ok, sNil_w, consB_ok, consB_x, sCons_w, consA_v, consA_x, sTup_w, tupF_ok, sLst_w, lstF_ok, sC1_w, c1A_ok, c1A_x, c1B_s, sCall_w, callA_ok, callA_x, callB_r, callB_x, sCallM_w, cm0_s, cmA_ok, cmB_s, cmC_r, cmC_x, sSeq_w, seqF_n, seqF_r, seqF_x, seqF_b, seqF_c, sIf_w, ifS_t, ifS_f, ifS_x, sExp_w, expF_ok, expF_x, sRet_w, retF_v, retF_f, retF_x, sSet_w, setF_v, setF_f, setF_x, sPar_w, parF_ok, endF_rf, endF_nf, endF_xf, endF_rt, endF_rt', endF_nt', endF_xt', hSeq_w, seqH_l, seqH_t, hRange1_w, rng1_ok, hEnum_w, enumH_ok, sFor_w, forF_ok, forL_n, forA_s, forB_n, forB_c, forB_b, forB_r, forB_x, gSet_w, sLc_w, lcF_ok, lcE_ok, lcL_n, sYes_w, sFld_w, sSetIx_w, sIxA_s, sIxB_s, sIxC_s, sIxD_s, sIxE_s, getPl_sl, setPl_sl, getS_w, Option.getD_some, sLm_w, lm0_s, lmA_s, lmB_s, lmC_s, sSl_w, slA_v, slA_f, slA_t, slL_s, slH_s, slC_s, oPart_w, oPF_s, oNone_w, sM1_w, m1A_s, m1B_s, m1C_s, lcA_s, lcB_f, lcB_t, lcC_ok, freeO_n, freeO_v, ownOk_n, ownOk_c, wipeE_n, wipeE_c, restE_n, restE_c, sDc_w, dcF_ok, dcE_ok, sSetF_w, stfA_ok, getPl_fd, gplF_i, setPl_fd, splF_i, sFldZ_w, mkB_r, mkB_x, mkA_ok, sMake_w, sFmt_w, e1, gAdd, e2, e3, len_lst, hg, e4, e5]
  rfl
/-! the web -/
theorem Spec.mem {gs : List (List Nat)} {qs : List (Nat × Nat)} {m : Nat} (s : Spec gs qs m) : ∀ q ∈ qs, q.1 < q.2 ∧ q.2 < gs.length := fun q hq => pairsUp_mem.mp (s.sub.subset hq)
theorem Spec.nodup {gs : List (List Nat)} {qs : List (Nat × Nat)} {m : Nat} (s : Spec gs qs m) : qs.Nodup := s.sub.nodup (pairsUp_nodup _)
end SM

namespace SM
open PySem LW L2
theorem tw_all {g : Nat → Bool} : ∀ {l : List Nat}, (∀ c ∈ l, g c = true) → l.takeWhile g = l
  | [], _ => rfl
  | c :: r, h => by rw [List.takeWhile_cons, if_pos (h c List.mem_cons_self), tw_all fun x hx => h x (List.mem_cons_of_mem _ hx)]
theorem tw_lt {g : Nat → Bool} : ∀ {l : List Nat}, ¬ (∀ c ∈ l, g c = true) → (l.takeWhile g).length < l.length
  | [], h => absurd (fun _ z => nomatch z) h
  | c :: r, h => by
    rw [List.takeWhile_cons]
    split
    · rename_i hc
      have : ¬ ∀ x ∈ r, g x = true := fun z => h fun x hx => by
        rcases List.mem_cons.mp hx with e | e
        · rw [e]; exact hc
        · exact z x e
      have := tw_lt this
      simp; omega
    · simp
theorem tw_drop {g : Nat → Bool} : ∀ {l : List Nat} {c : Nat}, l[(l.takeWhile g).length]? = some c → g c = false
  | [], _, h => by simp at h
  | d :: r, c, h => by
    rw [List.takeWhile_cons] at h
    split at h
    · exact tw_drop (l := r) (by simpa using h)
    · rename_i hd
      simp at h; subst h
      cases e : g d with
      | true => exact absurd e hd
      | false => rfl
/-- nothing is left of a text stripped just where all signs are to go -/
theorem strip_iff (l : List Nat) (y : Str) : (Txt.stripChars (SX.S l) y = SX.S []) ↔ ∀ c ∈ l, y.cps.contains c = true := by
  generalize hg : y.cps.contains = g
  have e0 : (Txt.stripChars (SX.S l) y).cps.toList = (l.drop (l.takeWhile g).length).take (l.length - ((l.drop (l.takeWhile g).length).reverse.takeWhile g).length - (l.takeWhile g).length) := by
    unfold Txt.stripChars
    rw [PySem.W.stripBy_eq, hg]
    exact TL.tl_strSub (SX.S l) _ _
  have e1 : (Txt.stripChars (SX.S l) y = SX.S []) ↔ (Txt.stripChars (SX.S l) y).cps.toList = [] := ⟨fun h => by rw [h], fun h => TL.ext_tl h⟩
  rw [e1, e0]
  constructor
  · intro h
    refine Classical.byContradiction fun hn => ?_
    have h1 := tw_lt hn
    have hd : (l.drop (l.takeWhile g).length).length = l.length - (l.takeWhile g).length := List.length_drop
    have hne : ¬ ∀ c ∈ (l.drop (l.takeWhile g).length).reverse, g c = true := fun z => by
      have hc : l[(l.takeWhile g).length]? = some l[(l.takeWhile g).length] := List.getElem?_eq_getElem h1
      have h2 := tw_drop hc
      have : l[(l.takeWhile g).length] ∈ (l.drop (l.takeWhile g).length).reverse := by
        rw [List.mem_reverse]
        refine List.mem_of_getElem? (i := 0) ?_
        rw [List.getElem?_drop]; simpa using hc
      rw [z _ this] at h2; cases h2
    have h3 := tw_lt hne
    rw [List.length_reverse, hd] at h3
    have h4 := congrArg List.length h
    rw [List.length_take, hd] at h4
    simp only [List.length_nil] at h4
    omega
  · intro h
    rw [tw_all h, List.drop_length]; simp
theorem strip_az (l : List Nat) : gEq (.str (Txt.stripChars (SX.S l) AZ)) (.str "") = some (.v (.bl (decide (∀ c ∈ l, Letter c)))) := by
  show some (P.v (.bl (decide (Txt.stripChars (SX.S l) AZ = SX.S [])))) = _
  congr 3
  refine decide_eq_decide.mpr ((strip_iff l AZ).trans ?_)
  constructor
  · intro h c hc
    exact az_mem.mp (by simpa using h c hc)
  · intro h c hc
    simpa using az_mem.mpr (h c hc)
/-- a label by the program -/
theorem label (l : List Nat) (h : l.length ≤ 100000) : sem_is_label [.v (sS l)] = .ret (.v (.bl (isLab l))) [.v (sS l)] := by
  unfold sem_is_label
  have hz : (SX.S l).length ≤ sizeLine := by rw [SX.S_len]; exact Nat.le_trans h line_big
  have es : gStrip (SX.S l) (.str "abcdefghijklmnopqrstuvwxyz") = some (.v (.str (Txt.stripChars (SX.S l) AZ))) := if_pos hz
  have hall : decide (∀ c ∈ l, Letter c) = l.all fun c => decide (Letter c) := by
    cases e : l.all fun c => decide (Letter c) with
    | true => exact decide_eq_true (by simpa using e)
    | false => exact decide_eq_false (fun z => by rw [List.all_eq_true.mpr (fun c hc => decide_eq_true (z c hc))] at e; cases e)
  unfold sS
  by_cases h1 : 1 ≤ l.length
  · have h1' : decide ((1 : Int) ≤ (l.length : Int)) = true := decide_eq_true (by omega)
    by_cases h2 : l.length ≤ 8
    · have h2' : decide ((l.length : Int) ≤ 8) = true := decide_eq_true (by omega)
      simp only [runFn_w, LW.argsOk, O.isV, O.d, List.all_cons, List.all_nil, Bool.and_true, Bool.true_and, Bool.and_self, List.length_cons, List.length_nil, List.map_cons, List.map_nil, List.cons_append, List.nil_append, List.replicate_succ, List.replicate_zero, Nat.reduceAdd, Nat.reduceSub, Nat.zero_add, and_self, and_true, true_and, if_true, ite_true, if_false, ite_false, List.getElem?_cons_zero, List.getElem?_cons_succ, List.set_cons_zero, List.set_cons_succ, List.set_nil, Bool.false_eq_true, reduceIte, sVar_w, varF_v, varF_l, varF_k, sFrz_w, frzF_o, sMov_w, movF_o, sC_w, sFz_w, fzF_v, fzF_f, fzF_x, outP_s, opC_s, opB_ok, opB_x, sOp_w, opA_v, opA_f, opA_s, opA_x, rd_v, rd_s, rd_fv, rd_fl, rd_fk, sTB_w, tbF_b, tbF_x, sAndT_w, andT_t, andT_f, sOrT_w, orT_t, orT_f, sNotT_w, notT_ok, sAnd_w, andF_t, andF_f, sOr_w, orF_t, orF_f, sNot_w, notF_ok, sIfE_w, ifE_t, ifE_f, sChn_w, chA_v, chA_s, chB_ok, chB_s, chC_tv, chC_ts, chC_f, chD_ok, sNil_w, consB_ok, consB_x, sCons_w, consA_v, consA_x, sTup_w, tupF_ok, sLst_w, lstF_ok, sC1_w, c1A_ok, c1A_x, c1B_s, sCall_w, callA_ok, callA_x, callB_r, callB_x, sCallM_w, cm0_s, cmA_ok, cmB_s, cmC_r, cmC_x, sSeq_w, seqF_n, seqF_r, seqF_x, seqF_b, seqF_c, sIf_w, ifS_t, ifS_f, ifS_x, sExp_w, expF_ok, expF_x, sRet_w, retF_v, retF_f, retF_x, sSet_w, setF_v, setF_f, setF_x, sPar_w, parF_ok, endF_rf, endF_nf, endF_xf, endF_rt, endF_rt', endF_nt', endF_xt', hSeq_w, seqH_l, seqH_t, hRange1_w, rng1_ok, hEnum_w, enumH_ok, sFor_w, forF_ok, forL_n, forA_s, forB_n, forB_c, forB_b, forB_r, forB_x, gSet_w, sLc_w, lcF_ok, lcE_ok, lcL_n, sYes_w, sFld_w, sSetIx_w, sIxA_s, sIxB_s, sIxC_s, sIxD_s, sIxE_s, getPl_sl, setPl_sl, getS_w, Option.getD_some, sLm_w, lm0_s, lmA_s, lmB_s, lmC_s, sSl_w, slA_v, slA_f, slA_t, slL_s, slH_s, slC_s, oPart_w, oPF_s, oNone_w, sM1_w, m1A_s, m1B_s, m1C_s, lcA_s, lcB_f, lcB_t, lcC_ok, freeO_n, freeO_v, ownOk_n, ownOk_c, wipeE_n, wipeE_c, restE_n, restE_c, sDc_w, dcF_ok, dcE_ok, sSetF_w, stfA_ok, getPl_fd, gplF_i, setPl_fd, splF_i, sFldZ_w, mkB_r, mkB_x, mkA_ok, sMake_w, sFmt_w, ia_str_str, len_str h, gLe, h1', h2', es, strip_az, hall]
      simp [isLab, h1, h2]
    · have h2' : decide ((l.length : Int) ≤ 8) = false := decide_eq_false (by omega)
      simp only [runFn_w, LW.argsOk, O.isV, O.d, List.all_cons, List.all_nil, Bool.and_true, Bool.true_and, Bool.and_self, List.length_cons, List.length_nil, List.map_cons, List.map_nil, List.cons_append, List.nil_append, List.replicate_succ, List.replicate_zero, Nat.reduceAdd, Nat.reduceSub, Nat.zero_add, and_self, and_true, true_and, if_true, ite_true, if_false, ite_false, List.getElem?_cons_zero, List.getElem?_cons_succ, List.set_cons_zero, List.set_cons_succ, List.set_nil, Bool.false_eq_true, reduceIte, sVar_w, varF_v, varF_l, varF_k, sFrz_w, frzF_o, sMov_w, movF_o, sC_w, sFz_w, fzF_v, fzF_f, fzF_x, outP_s, opC_s, opB_ok, opB_x, sOp_w, opA_v, opA_f, opA_s, opA_x, rd_v, rd_s, rd_fv, rd_fl, rd_fk, sTB_w, tbF_b, tbF_x, sAndT_w, andT_t, andT_f, sOrT_w, orT_t, orT_f, sNotT_w, notT_ok, sAnd_w, andF_t, andF_f, sOr_w, orF_t, orF_f, sNot_w, notF_ok, sIfE_w, ifE_t, ifE_f, sChn_w, chA_v, chA_s, chB_ok, chB_s, chC_tv, chC_ts, chC_f, chD_ok, sNil_w, consB_ok, consB_x, sCons_w, consA_v, consA_x, sTup_w, tupF_ok, sLst_w, lstF_ok, sC1_w, c1A_ok, c1A_x, c1B_s, sCall_w, callA_ok, callA_x, callB_r, callB_x, sCallM_w, cm0_s, cmA_ok, cmB_s, cmC_r, cmC_x, sSeq_w, seqF_n, seqF_r, seqF_x, seqF_b, seqF_c, sIf_w, ifS_t, ifS_f, ifS_x, sExp_w, expF_ok, expF_x, sRet_w, retF_v, retF_f, retF_x, sSet_w, setF_v, setF_f, setF_x, sPar_w, parF_ok, endF_rf, endF_nf, endF_xf, endF_rt, endF_rt', endF_nt', endF_xt', hSeq_w, seqH_l, seqH_t, hRange1_w, rng1_ok, hEnum_w, enumH_ok, sFor_w, forF_ok, forL_n, forA_s, forB_n, forB_c, forB_b, forB_r, forB_x, gSet_w, sLc_w, lcF_ok, lcE_ok, lcL_n, sYes_w, sFld_w, sSetIx_w, sIxA_s, sIxB_s, sIxC_s, sIxD_s, sIxE_s, getPl_sl, setPl_sl, getS_w, Option.getD_some, sLm_w, lm0_s, lmA_s, lmB_s, lmC_s, sSl_w, slA_v, slA_f, slA_t, slL_s, slH_s, slC_s, oPart_w, oPF_s, oNone_w, sM1_w, m1A_s, m1B_s, m1C_s, lcA_s, lcB_f, lcB_t, lcC_ok, freeO_n, freeO_v, ownOk_n, ownOk_c, wipeE_n, wipeE_c, restE_n, restE_c, sDc_w, dcF_ok, dcE_ok, sSetF_w, stfA_ok, getPl_fd, gplF_i, setPl_fd, splF_i, sFldZ_w, mkB_r, mkB_x, mkA_ok, sMake_w, sFmt_w, ia_str_str, len_str h, gLe, h1', h2']
      simp [isLab, h2]
  · have h1' : decide ((1 : Int) ≤ (l.length : Int)) = false := decide_eq_false (by omega)
    simp only [runFn_w, LW.argsOk, O.isV, O.d, List.all_cons, List.all_nil, Bool.and_true, Bool.true_and, Bool.and_self, List.length_cons, List.length_nil, List.map_cons, List.map_nil, List.cons_append, List.nil_append, List.replicate_succ, List.replicate_zero, Nat.reduceAdd, Nat.reduceSub, Nat.zero_add, and_self, and_true, true_and, if_true, ite_true, if_false, ite_false, List.getElem?_cons_zero, List.getElem?_cons_succ, List.set_cons_zero, List.set_cons_succ, List.set_nil, Bool.false_eq_true, reduceIte, sVar_w, varF_v, varF_l, varF_k, sFrz_w, frzF_o, sMov_w, movF_o, sC_w, sFz_w, fzF_v, fzF_f, fzF_x, outP_s, opC_s, opB_ok, opB_x, sOp_w, opA_v, opA_f, opA_s, opA_x, rd_v, rd_s, rd_fv, rd_fl, rd_fk, sTB_w, tbF_b, tbF_x, sAndT_w, andT_t, andT_f, sOrT_w, orT_t, orT_f, sNotT_w, notT_ok, sAnd_w, andF_t, andF_f, sOr_w, orF_t, orF_f, sNot_w, notF_ok, sIfE_w, ifE_t, ifE_f, sChn_w, chA_v, chA_s, chB_ok, chB_s, chC_tv, chC_ts, chC_f, chD_ok, sNil_w, consB_ok, consB_x, sCons_w, consA_v, consA_x, sTup_w, tupF_ok, sLst_w, lstF_ok, sC1_w, c1A_ok, c1A_x, c1B_s, sCall_w, callA_ok, callA_x, callB_r, callB_x, sCallM_w, cm0_s, cmA_ok, cmB_s, cmC_r, cmC_x, sSeq_w, seqF_n, seqF_r, seqF_x, seqF_b, seqF_c, sIf_w, ifS_t, ifS_f, ifS_x, sExp_w, expF_ok, expF_x, sRet_w, retF_v, retF_f, retF_x, sSet_w, setF_v, setF_f, setF_x, sPar_w, parF_ok, endF_rf, endF_nf, endF_xf, endF_rt, endF_rt', endF_nt', endF_xt', hSeq_w, seqH_l, seqH_t, hRange1_w, rng1_ok, hEnum_w, enumH_ok, sFor_w, forF_ok, forL_n, forA_s, forB_n, forB_c, forB_b, forB_r, forB_x, gSet_w, sLc_w, lcF_ok, lcE_ok, lcL_n, sYes_w, sFld_w, sSetIx_w, sIxA_s, sIxB_s, sIxC_s, sIxD_s, sIxE_s, getPl_sl, setPl_sl, getS_w, Option.getD_some, sLm_w, lm0_s, lmA_s, lmB_s, lmC_s, sSl_w, slA_v, slA_f, slA_t, slL_s, slH_s, slC_s, oPart_w, oPF_s, oNone_w, sM1_w, m1A_s, m1B_s, m1C_s, lcA_s, lcB_f, lcB_t, lcC_ok, freeO_n, freeO_v, ownOk_n, ownOk_c, wipeE_n, wipeE_c, restE_n, restE_c, sDc_w, dcF_ok, dcE_ok, sSetF_w, stfA_ok, getPl_fd, gplF_i, setPl_fd, splF_i, sFldZ_w, mkB_r, mkB_x, mkA_ok, sMake_w, sFmt_w, ia_str_str, len_str h, gLe, h1']
    simp [isLab, h1]
theorem notInC_S (l : List Nat) (ho : Okl l) : gNotInC ["place", "way", "end"] (sS l) = some (.v (.bl (!decide (l ∈ W3)))) := by
  have := notIn_S l W3 ho w3_ok
  exact this
theorem name (l : List Nat) (h : l.length ≤ 100000) (ho : Okl l) : sem_is_name [.v (sS l)] = .ret (.v (.bl (isNam l))) [.v (sS l)] := by
  unfold sem_is_name
  have e := label l h
  cases hl : isLab l with
  | false =>
    rw [hl] at e
    simp only [runFn_w, LW.argsOk, O.isV, O.d, List.all_cons, List.all_nil, Bool.and_true, Bool.true_and, Bool.and_self, List.length_cons, List.length_nil, List.map_cons, List.map_nil, List.cons_append, List.nil_append, List.replicate_succ, List.replicate_zero, Nat.reduceAdd, Nat.reduceSub, Nat.zero_add, and_self, and_true, true_and, if_true, ite_true, if_false, ite_false, List.getElem?_cons_zero, List.getElem?_cons_succ, List.set_cons_zero, List.set_cons_succ, List.set_nil, Bool.false_eq_true, reduceIte, sVar_w, varF_v, varF_l, varF_k, sFrz_w, frzF_o, sMov_w, movF_o, sC_w, sFz_w, fzF_v, fzF_f, fzF_x, outP_s, opC_s, opB_ok, opB_x, sOp_w, opA_v, opA_f, opA_s, opA_x, rd_v, rd_s, rd_fv, rd_fl, rd_fk, sTB_w, tbF_b, tbF_x, sAndT_w, andT_t, andT_f, sOrT_w, orT_t, orT_f, sNotT_w, notT_ok, sAnd_w, andF_t, andF_f, sOr_w, orF_t, orF_f, sNot_w, notF_ok, sIfE_w, ifE_t, ifE_f, sChn_w, chA_v, chA_s, chB_ok, chB_s, chC_tv, chC_ts, chC_f, chD_ok, sNil_w, consB_ok, consB_x, sCons_w, consA_v, consA_x, sTup_w, tupF_ok, sLst_w, lstF_ok, sC1_w, c1A_ok, c1A_x, c1B_s, sCall_w, callA_ok, callA_x, callB_r, callB_x, sCallM_w, cm0_s, cmA_ok, cmB_s, cmC_r, cmC_x, sSeq_w, seqF_n, seqF_r, seqF_x, seqF_b, seqF_c, sIf_w, ifS_t, ifS_f, ifS_x, sExp_w, expF_ok, expF_x, sRet_w, retF_v, retF_f, retF_x, sSet_w, setF_v, setF_f, setF_x, sPar_w, parF_ok, endF_rf, endF_nf, endF_xf, endF_rt, endF_rt', endF_nt', endF_xt', hSeq_w, seqH_l, seqH_t, hRange1_w, rng1_ok, hEnum_w, enumH_ok, sFor_w, forF_ok, forL_n, forA_s, forB_n, forB_c, forB_b, forB_r, forB_x, gSet_w, sLc_w, lcF_ok, lcE_ok, lcL_n, sYes_w, sFld_w, sSetIx_w, sIxA_s, sIxB_s, sIxC_s, sIxD_s, sIxE_s, getPl_sl, setPl_sl, getS_w, Option.getD_some, sLm_w, lm0_s, lmA_s, lmB_s, lmC_s, sSl_w, slA_v, slA_f, slA_t, slL_s, slH_s, slC_s, oPart_w, oPF_s, oNone_w, sM1_w, m1A_s, m1B_s, m1C_s, lcA_s, lcB_f, lcB_t, lcC_ok, freeO_n, freeO_v, ownOk_n, ownOk_c, wipeE_n, wipeE_c, restE_n, restE_c, sDc_w, dcF_ok, dcE_ok, sSetF_w, stfA_ok, getPl_fd, gplF_i, setPl_fd, splF_i, sFldZ_w, mkB_r, mkB_x, mkA_ok, sMake_w, sFmt_w, e]
    simp [isNam, hl]
  | true =>
    rw [hl] at e
    simp only [runFn_w, LW.argsOk, O.isV, O.d, List.all_cons, List.all_nil, Bool.and_true, Bool.true_and, Bool.and_self, List.length_cons, List.length_nil, List.map_cons, List.map_nil, List.cons_append, List.nil_append, List.replicate_succ, List.replicate_zero, Nat.reduceAdd, Nat.reduceSub, Nat.zero_add, and_self, and_true, true_and, if_true, ite_true, if_false, ite_false, List.getElem?_cons_zero, List.getElem?_cons_succ, List.set_cons_zero, List.set_cons_succ, List.set_nil, Bool.false_eq_true, reduceIte, sVar_w, varF_v, varF_l, varF_k, sFrz_w, frzF_o, sMov_w, movF_o, sC_w, sFz_w, fzF_v, fzF_f, fzF_x, outP_s, opC_s, opB_ok, opB_x, sOp_w, opA_v, opA_f, opA_s, opA_x, rd_v, rd_s, rd_fv, rd_fl, rd_fk, sTB_w, tbF_b, tbF_x, sAndT_w, andT_t, andT_f, sOrT_w, orT_t, orT_f, sNotT_w, notT_ok, sAnd_w, andF_t, andF_f, sOr_w, orF_t, orF_f, sNot_w, notF_ok, sIfE_w, ifE_t, ifE_f, sChn_w, chA_v, chA_s, chB_ok, chB_s, chC_tv, chC_ts, chC_f, chD_ok, sNil_w, consB_ok, consB_x, sCons_w, consA_v, consA_x, sTup_w, tupF_ok, sLst_w, lstF_ok, sC1_w, c1A_ok, c1A_x, c1B_s, sCall_w, callA_ok, callA_x, callB_r, callB_x, sCallM_w, cm0_s, cmA_ok, cmB_s, cmC_r, cmC_x, sSeq_w, seqF_n, seqF_r, seqF_x, seqF_b, seqF_c, sIf_w, ifS_t, ifS_f, ifS_x, sExp_w, expF_ok, expF_x, sRet_w, retF_v, retF_f, retF_x, sSet_w, setF_v, setF_f, setF_x, sPar_w, parF_ok, endF_rf, endF_nf, endF_xf, endF_rt, endF_rt', endF_nt', endF_xt', hSeq_w, seqH_l, seqH_t, hRange1_w, rng1_ok, hEnum_w, enumH_ok, sFor_w, forF_ok, forL_n, forA_s, forB_n, forB_c, forB_b, forB_r, forB_x, gSet_w, sLc_w, lcF_ok, lcE_ok, lcL_n, sYes_w, sFld_w, sSetIx_w, sIxA_s, sIxB_s, sIxC_s, sIxD_s, sIxE_s, getPl_sl, setPl_sl, getS_w, Option.getD_some, sLm_w, lm0_s, lmA_s, lmB_s, lmC_s, sSl_w, slA_v, slA_f, slA_t, slL_s, slH_s, slC_s, oPart_w, oPF_s, oNone_w, sM1_w, m1A_s, m1B_s, m1C_s, lcA_s, lcB_f, lcB_t, lcC_ok, freeO_n, freeO_v, ownOk_n, ownOk_c, wipeE_n, wipeE_c, restE_n, restE_c, sDc_w, dcF_ok, dcE_ok, sSetF_w, stfA_ok, getPl_fd, gplF_i, setPl_fd, splF_i, sFldZ_w, mkB_r, mkB_x, mkA_ok, sMake_w, sFmt_w, e, notInC_S l ho]
    simp [isNam, hl]
end SM

namespace SM
open PySem LW L2
theorem keq_sS (a b : List Nat) : (sS a).keq (sS b) = decide (a = b) := by
  show (SX.S a == SX.S b) = _
  rw [SX.S_beq]
  by_cases h : a = b <;> simp [h]
theorem keq_pD (a b : Nat × Nat) : (pD a).keq (pD b) = decide (a = b) := by
  show keqL [.int a.1, .int a.2] [.int b.1, .int b.2] = _
  simp only [keqL, D.keq, Bool.and_true]
  obtain ⟨a1, a2⟩ := a
  obtain ⟨b1, b2⟩ := b
  by_cases h1 : a1 = b1 <;> by_cases h2 : a2 = b2 <;> simp [h1, h2] <;> omega
theorem freshK_nodup {α : Type} {enc : α → D} [DecidableEq α] (hk : ∀ a b, (enc a).keq (enc b) = decide (a = b)) : ∀ (xs : List α) (acc : List α), xs.Nodup → (∀ x ∈ xs, x ∉ acc) → freshK (xs.map enc) (acc.map fun a => (enc a, enc a)) = true
  | [], _, _, _ => rfl
  | x :: r, acc, hn, hs => by
    have h1 : hasK (enc x) (acc.map fun a => (enc a, enc a)) = false := by
      unfold hasK
      rw [List.any_map, List.any_eq_false]
      intro a ha
      simp only [Function.comp, hk, decide_eq_true_eq]
      exact fun e => hs x List.mem_cons_self (e ▸ ha)
    have h2 := freshK_nodup hk r (acc ++ [x]) (List.nodup_cons.mp hn).2 (fun z hz hm => by
      rcases List.mem_append.mp hm with q | q
      · exact hs z (List.mem_cons_of_mem _ hz) q
      · rw [List.mem_singleton] at q; subst q; exact (List.nodup_cons.mp hn).1 hz)
    rw [List.map_append] at h2
    show (!hasK (enc x) (acc.map fun a => (enc a, enc a)) && freshK (r.map enc) (acc.map (fun a => (enc a, enc a)) ++ [(enc x, enc x)])) = true
    rw [h1]
    exact h2
theorem boolsOf_true : ∀ n : Nat, boolsOf (List.replicate n (.bl true)) = some (List.replicate n true)
  | 0 => rfl
  | n + 1 => by rw [List.replicate_succ, List.replicate_succ]; simp [boolsOf, boolsOf_true n]
theorem gAll_true (n : Nat) : gAll (.lst (List.replicate n (.bl true))) = some (.v (.bl true)) := by
  unfold gAll
  simp only [boolsOf_true]
  simp
theorem are_names (gs : List (List Nat)) (hn : Names gs) (h1 : 1 ≤ gs.length) (h2 : gs.length ≤ 10) : sem_are_names [.v (.lst (gs.map sS))] = .ret (.v (.bl true)) [.v (.lst (gs.map sS))] := by
  have hg : ((gs.map sS).length : Int) = (gs.length : Int) := by simp
  have h1' : decide ((1 : Int) ≤ (gs.length : Int)) = true := decide_eq_true (by omega)
  have h2' : decide ((gs.length : Int) ≤ 10) = true := decide_eq_true (by omega)
  have e1 := lcL_map (ow := [1]) (tg := gSet 1) (t := sYes) (f := sCall (sem_is_name) (sCons (sVar 1) (sNil))) (φ := fun d => some (some (.bl true)))
    (ρ0 := [some (.v (.lst (gs.map sS))), none]) (ds := gs.map sS) (acc := []) (fun d hd z hz => by
      obtain ⟨l, hl, rfl⟩ := List.mem_map.mp hd
      cases hz
      have hnm := hn.2 l hl
      have e := name l (by have := (isNam_len hnm).2; omega) (hn.okl l hl)
      rw [hnm] at e
      refine ⟨_, [some (.v (.lst (gs.map sS))), some (.v (sS l))], rfl, ⟨_, rfl, ?_⟩, rfl⟩
      simp only [runFn_w, LW.argsOk, O.isV, O.d, List.all_cons, List.all_nil, Bool.and_true, Bool.true_and, Bool.and_self, List.length_cons, List.length_nil, List.map_cons, List.map_nil, List.cons_append, List.nil_append, List.replicate_succ, List.replicate_zero, Nat.reduceAdd, Nat.reduceSub, Nat.zero_add, and_self, and_true, true_and, if_true, ite_true, if_false, ite_false, List.getElem?_cons_zero, List.getElem?_cons_succ, List.set_cons_zero, List.set_cons_succ, List.set_nil, Bool.false_eq_true, reduceIte, sVar_w, varF_v, varF_l, varF_k, sFrz_w, frzF_o, sMov_w, movF_o, sC_w, sFz_w, fzF_v, fzF_f, fzF_x, outP_s, opC_s, opB_ok, opB_x, sOp_w, opA_v, opA_f, opA_s, opA_x, rd_v, rd_s, rd_fv, rd_fl, rd_fk, sTB_w, tbF_b, tbF_x, sAndT_w, andT_t, andT_f, sOrT_w, orT_t, orT_f, sNotT_w, notT_ok, sAnd_w, andF_t, andF_f, sOr_w, orF_t, orF_f, sNot_w, notF_ok, sIfE_w, ifE_t, ifE_f, sChn_w, chA_v, chA_s, chB_ok, chB_s, chC_tv, chC_ts, chC_f, chD_ok, sNil_w, consB_ok, consB_x, sCons_w, consA_v, consA_x, sTup_w, tupF_ok, sLst_w, lstF_ok, sC1_w, c1A_ok, c1A_x, c1B_s, sCall_w, callA_ok, callA_x, callB_r, callB_x, sCallM_w, cm0_s, cmA_ok, cmB_s, cmC_r, cmC_x, sSeq_w, seqF_n, seqF_r, seqF_x, seqF_b, seqF_c, sIf_w, ifS_t, ifS_f, ifS_x, sExp_w, expF_ok, expF_x, sRet_w, retF_v, retF_f, retF_x, sSet_w, setF_v, setF_f, setF_x, sPar_w, parF_ok, endF_rf, endF_nf, endF_xf, endF_rt, endF_rt', endF_nt', endF_xt', hSeq_w, seqH_l, seqH_t, hRange1_w, rng1_ok, hEnum_w, enumH_ok, sFor_w, forF_ok, forL_n, forA_s, forB_n, forB_c, forB_b, forB_r, forB_x, gSet_w, sLc_w, lcF_ok, lcE_ok, lcL_n, sYes_w, sFld_w, sSetIx_w, sIxA_s, sIxB_s, sIxC_s, sIxD_s, sIxE_s, getPl_sl, setPl_sl, getS_w, Option.getD_some, sLm_w, lm0_s, lmA_s, lmB_s, lmC_s, sSl_w, slA_v, slA_f, slA_t, slL_s, slH_s, slC_s, oPart_w, oPF_s, oNone_w, sM1_w, m1A_s, m1B_s, m1C_s, lcA_s, lcB_f, lcB_t, lcC_ok, freeO_n, freeO_v, ownOk_n, ownOk_c, wipeE_n, wipeE_c, restE_n, restE_c, sDc_w, dcF_ok, dcE_ok, sSetF_w, stfA_ok, getPl_fd, gplF_i, setPl_fd, splF_i, sFldZ_w, mkB_r, mkB_x, mkA_ok, sMake_w, sFmt_w, e]) (lcMap_all fun d _ => rfl)
  have e2 := dcL_new (tb := false) (ow := [1]) (tg := gSet 1) (t := sYes) (fk := sVar 1) (fv := sC (.bl true)) (ρ0 := [some (.v (.lst (gs.map sS))), none]) (v := .bl true) (ds := gs.map sS) (acc := []) (fun d hd => by
      obtain ⟨l, hl, rfl⟩ := List.mem_map.mp hd
      refine ⟨rfl, _, _, [some (.v (.lst (gs.map sS))), some (.v (sS l))], [some (.v (.lst (gs.map sS))), some (.v (sS l))], rfl, rfl, ?_, ?_, rfl⟩
      · simp only [runFn_w, LW.argsOk, O.isV, O.d, List.all_cons, List.all_nil, Bool.and_true, Bool.true_and, Bool.and_self, List.length_cons, List.length_nil, List.map_cons, List.map_nil, List.cons_append, List.nil_append, List.replicate_succ, List.replicate_zero, Nat.reduceAdd, Nat.reduceSub, Nat.zero_add, and_self, and_true, true_and, if_true, ite_true, if_false, ite_false, List.getElem?_cons_zero, List.getElem?_cons_succ, List.set_cons_zero, List.set_cons_succ, List.set_nil, Bool.false_eq_true, reduceIte, sVar_w, varF_v, varF_l, varF_k, sFrz_w, frzF_o, sMov_w, movF_o, sC_w, sFz_w, fzF_v, fzF_f, fzF_x, outP_s, opC_s, opB_ok, opB_x, sOp_w, opA_v, opA_f, opA_s, opA_x, rd_v, rd_s, rd_fv, rd_fl, rd_fk, sTB_w, tbF_b, tbF_x, sAndT_w, andT_t, andT_f, sOrT_w, orT_t, orT_f, sNotT_w, notT_ok, sAnd_w, andF_t, andF_f, sOr_w, orF_t, orF_f, sNot_w, notF_ok, sIfE_w, ifE_t, ifE_f, sChn_w, chA_v, chA_s, chB_ok, chB_s, chC_tv, chC_ts, chC_f, chD_ok, sNil_w, consB_ok, consB_x, sCons_w, consA_v, consA_x, sTup_w, tupF_ok, sLst_w, lstF_ok, sC1_w, c1A_ok, c1A_x, c1B_s, sCall_w, callA_ok, callA_x, callB_r, callB_x, sCallM_w, cm0_s, cmA_ok, cmB_s, cmC_r, cmC_x, sSeq_w, seqF_n, seqF_r, seqF_x, seqF_b, seqF_c, sIf_w, ifS_t, ifS_f, ifS_x, sExp_w, expF_ok, expF_x, sRet_w, retF_v, retF_f, retF_x, sSet_w, setF_v, setF_f, setF_x, sPar_w, parF_ok, endF_rf, endF_nf, endF_xf, endF_rt, endF_rt', endF_nt', endF_xt', hSeq_w, seqH_l, seqH_t, hRange1_w, rng1_ok, hEnum_w, enumH_ok, sFor_w, forF_ok, forL_n, forA_s, forB_n, forB_c, forB_b, forB_r, forB_x, gSet_w, sLc_w, lcF_ok, lcE_ok, lcL_n, sYes_w, sFld_w, sSetIx_w, sIxA_s, sIxB_s, sIxC_s, sIxD_s, sIxE_s, getPl_sl, setPl_sl, getS_w, Option.getD_some, sLm_w, lm0_s, lmA_s, lmB_s, lmC_s, sSl_w, slA_v, slA_f, slA_t, slL_s, slH_s, slC_s, oPart_w, oPF_s, oNone_w, sM1_w, m1A_s, m1B_s, m1C_s, lcA_s, lcB_f, lcB_t, lcC_ok, freeO_n, freeO_v, ownOk_n, ownOk_c, wipeE_n, wipeE_c, restE_n, restE_c, sDc_w, dcF_ok, dcE_ok, sSetF_w, stfA_ok, getPl_fd, gplF_i, setPl_fd, splF_i, sFldZ_w, mkB_r, mkB_x, mkA_ok, sMake_w, sFmt_w]
      · simp only [runFn_w, LW.argsOk, O.isV, O.d, List.all_cons, List.all_nil, Bool.and_true, Bool.true_and, Bool.and_self, List.length_cons, List.length_nil, List.map_cons, List.map_nil, List.cons_append, List.nil_append, List.replicate_succ, List.replicate_zero, Nat.reduceAdd, Nat.reduceSub, Nat.zero_add, and_self, and_true, true_and, if_true, ite_true, if_false, ite_false, List.getElem?_cons_zero, List.getElem?_cons_succ, List.set_cons_zero, List.set_cons_succ, List.set_nil, Bool.false_eq_true, reduceIte, sVar_w, varF_v, varF_l, varF_k, sFrz_w, frzF_o, sMov_w, movF_o, sC_w, sFz_w, fzF_v, fzF_f, fzF_x, outP_s, opC_s, opB_ok, opB_x, sOp_w, opA_v, opA_f, opA_s, opA_x, rd_v, rd_s, rd_fv, rd_fl, rd_fk, sTB_w, tbF_b, tbF_x, sAndT_w, andT_t, andT_f, sOrT_w, orT_t, orT_f, sNotT_w, notT_ok, sAnd_w, andF_t, andF_f, sOr_w, orF_t, orF_f, sNot_w, notF_ok, sIfE_w, ifE_t, ifE_f, sChn_w, chA_v, chA_s, chB_ok, chB_s, chC_tv, chC_ts, chC_f, chD_ok, sNil_w, consB_ok, consB_x, sCons_w, consA_v, consA_x, sTup_w, tupF_ok, sLst_w, lstF_ok, sC1_w, c1A_ok, c1A_x, c1B_s, sCall_w, callA_ok, callA_x, callB_r, callB_x, sCallM_w, cm0_s, cmA_ok, cmB_s, cmC_r, cmC_x, sSeq_w, seqF_n, seqF_r, seqF_x, seqF_b, seqF_c, sIf_w, ifS_t, ifS_f, ifS_x, sExp_w, expF_ok, expF_x, sRet_w, retF_v, retF_f, retF_x, sSet_w, setF_v, setF_f, setF_x, sPar_w, parF_ok, endF_rf, endF_nf, endF_xf, endF_rt, endF_rt', endF_nt', endF_xt', hSeq_w, seqH_l, seqH_t, hRange1_w, rng1_ok, hEnum_w, enumH_ok, sFor_w, forF_ok, forL_n, forA_s, forB_n, forB_c, forB_b, forB_r, forB_x, gSet_w, sLc_w, lcF_ok, lcE_ok, lcL_n, sYes_w, sFld_w, sSetIx_w, sIxA_s, sIxB_s, sIxC_s, sIxD_s, sIxE_s, getPl_sl, setPl_sl, getS_w, Option.getD_some, sLm_w, lm0_s, lmA_s, lmB_s, lmC_s, sSl_w, slA_v, slA_f, slA_t, slL_s, slH_s, slC_s, oPart_w, oPF_s, oNone_w, sM1_w, m1A_s, m1B_s, m1C_s, lcA_s, lcB_f, lcB_t, lcC_ok, freeO_n, freeO_v, ownOk_n, ownOk_c, wipeE_n, wipeE_c, restE_n, restE_c, sDc_w, dcF_ok, dcE_ok, sSetF_w, stfA_ok, getPl_fd, gplF_i, setPl_fd, splF_i, sFldZ_w, mkB_r, mkB_x, mkA_ok, sMake_w, sFmt_w]) (freshK_nodup keq_sS gs [] hn.1 (fun _ _ h => nomatch h))
  have ha : gAll (.lst ((gs.map sS).map fun _ => D.bl true)) = some (.v (.bl true)) := by
    rw [show ((gs.map sS).map fun _ => D.bl true) = List.replicate gs.length (.bl true) by rw [List.map_map]; exact List.map_const' ..]
    exact gAll_true _
  have hl : gLen2 (.dct false ((gs.map sS).map fun d => (d, D.bl true))) = some (.v (.int gs.length)) := by
    show some (P.v (.int ((gs.map sS).map fun d => (d, D.bl true)).length)) = _
    simp
  unfold sem_are_names sem_is_listed
  simp only [runFn_w, LW.argsOk, O.isV, O.d, List.all_cons, List.all_nil, Bool.and_true, Bool.true_and, Bool.and_self, List.length_cons, List.length_nil, List.map_cons, List.map_nil, List.cons_append, List.nil_append, List.replicate_succ, List.replicate_zero, Nat.reduceAdd, Nat.reduceSub, Nat.zero_add, and_self, and_true, true_and, if_true, ite_true, if_false, ite_false, List.getElem?_cons_zero, List.getElem?_cons_succ, List.set_cons_zero, List.set_cons_succ, List.set_nil, Bool.false_eq_true, reduceIte, sVar_w, varF_v, varF_l, varF_k, sFrz_w, frzF_o, sMov_w, movF_o, sC_w, sFz_w, fzF_v, fzF_f, fzF_x, outP_s, opC_s, opB_ok, opB_x, sOp_w, opA_v, opA_f, opA_s, opA_x, rd_v, rd_s, rd_fv, rd_fl, rd_fk, sTB_w, tbF_b, tbF_x, sAndT_w, andT_t, andT_f, sOrT_w, orT_t, orT_f, sNotT_w, notT_ok, sAnd_w, andF_t, andF_f, sOr_w, orF_t, orF_f, sNot_w, notF_ok, sIfE_w, ifE_t, ifE_f, sChn_w, chA_v, chA_s, chB_ok, chB_s, chC_tv, chC_ts, chC_f, chD_ok, sNil_w, consB_ok, consB_x, sCons_w, consA_v, consA_x, sTup_w, tupF_ok, sLst_w, lstF_ok, sC1_w, c1A_ok, c1A_x, c1B_s, sCall_w, callA_ok, callA_x, callB_r, callB_x, sCallM_w, cm0_s, cmA_ok, cmB_s, cmC_r, cmC_x, sSeq_w, seqF_n, seqF_r, seqF_x, seqF_b, seqF_c, sIf_w, ifS_t, ifS_f, ifS_x, sExp_w, expF_ok, expF_x, sRet_w, retF_v, retF_f, retF_x, sSet_w, setF_v, setF_f, setF_x, sPar_w, parF_ok, endF_rf, endF_nf, endF_xf, endF_rt, endF_rt', endF_nt', endF_xt', hSeq_w, seqH_l, seqH_t, hRange1_w, rng1_ok, hEnum_w, enumH_ok, sFor_w, forF_ok, forL_n, forA_s, forB_n, forB_c, forB_b, forB_r, forB_x, gSet_w, sLc_w, lcF_ok, lcE_ok, lcL_n, sYes_w, sFld_w, sSetIx_w, sIxA_s, sIxB_s, sIxC_s, sIxD_s, sIxE_s, getPl_sl, setPl_sl, getS_w, Option.getD_some, sLm_w, lm0_s, lmA_s, lmB_s, lmC_s, sSl_w, slA_v, slA_f, slA_t, slL_s, slH_s, slC_s, oPart_w, oPF_s, oNone_w, sM1_w, m1A_s, m1B_s, m1C_s, lcA_s, lcB_f, lcB_t, lcC_ok, freeO_n, freeO_v, ownOk_n, ownOk_c, wipeE_n, wipeE_c, restE_n, restE_c, sDc_w, dcF_ok, dcE_ok, sSetF_w, stfA_ok, getPl_fd, gplF_i, setPl_fd, splF_i, sFldZ_w, mkB_r, mkB_x, mkA_ok, sMake_w, sFmt_w, ia_lt_lst, Bool.not_true, len_lst, hg, gLe, h1', h2', e1, ha, e2, hl, gEq_int, decide_true]
end SM

namespace SM
open PySem LW L2
theorem gNe_int (a b : Int) : gNe (.int a) (.int b) = some (.v (.bl (!decide (a = b)))) := by
  unfold gNe D.cmp
  simp [D.eqv, D.py, D.plain, PyData.eqv]
  rfl
theorem is_within (a lo hi : Int) : sem_is_within [.v (.int a), .v (.int lo), .v (.int hi)] = .ret (.v (.bl (decide (lo ≤ a) && decide (a ≤ hi)))) [.v (.int a), .v (.int lo), .v (.int hi)] := by
  unfold sem_is_within sem_is_number
  by_cases h : lo ≤ a
  · have h := decide_eq_true h
    simp only [runFn_w, LW.argsOk, O.isV, O.d, List.all_cons, List.all_nil, Bool.and_true, Bool.true_and, Bool.and_self, List.length_cons, List.length_nil, List.map_cons, List.map_nil, List.cons_append, List.nil_append, List.replicate_succ, List.replicate_zero, Nat.reduceAdd, Nat.reduceSub, Nat.zero_add, and_self, and_true, true_and, if_true, ite_true, if_false, ite_false, List.getElem?_cons_zero, List.getElem?_cons_succ, List.set_cons_zero, List.set_cons_succ, List.set_nil, Bool.false_eq_true, reduceIte, sVar_w, varF_v, varF_l, varF_k, sFrz_w, frzF_o, sMov_w, movF_o, sC_w, sFz_w, fzF_v, fzF_f, fzF_x, outP_s, opC_s, opB_ok, opB_x, sOp_w, opA_v, opA_f, opA_s, opA_x, rd_v, rd_s, rd_fv, rd_fl, rd_fk, sTB_w, tbF_b, tbF_x, sAndT_w, andT_t, andT_f, sOrT_w, orT_t, orT_f, sNotT_w, notT_ok, sAnd_w, andF_t, andF_f, sOr_w, orF_t, orF_f, sNot_w, notF_ok, sIfE_w, ifE_t, ifE_f, sChn_w, chA_v, chA_s, chB_ok, chB_s, chC_tv, chC_ts, chC_f, chD_ok, sNil_w, consB_ok, consB_x, sCons_w, consA_v, consA_x, sTup_w, tupF_ok, sLst_w, lstF_ok, sC1_w, c1A_ok, c1A_x, c1B_s, sCall_w, callA_ok, callA_x, callB_r, callB_x, sCallM_w, cm0_s, cmA_ok, cmB_s, cmC_r, cmC_x, sSeq_w, seqF_n, seqF_r, seqF_x, seqF_b, seqF_c, sIf_w, ifS_t, ifS_f, ifS_x, sExp_w, expF_ok, expF_x, sRet_w, retF_v, retF_f, retF_x, sSet_w, setF_v, setF_f, setF_x, sPar_w, parF_ok, endF_rf, endF_nf, endF_xf, endF_rt, endF_rt', endF_nt', endF_xt', hSeq_w, seqH_l, seqH_t, hRange1_w, rng1_ok, hEnum_w, enumH_ok, sFor_w, forF_ok, forL_n, forA_s, forB_n, forB_c, forB_b, forB_r, forB_x, gSet_w, sLc_w, lcF_ok, lcE_ok, lcL_n, sYes_w, sFld_w, sSetIx_w, sIxA_s, sIxB_s, sIxC_s, sIxD_s, sIxE_s, getPl_sl, setPl_sl, getS_w, Option.getD_some, sLm_w, lm0_s, lmA_s, lmB_s, lmC_s, sSl_w, slA_v, slA_f, slA_t, slL_s, slH_s, slC_s, oPart_w, oPF_s, oNone_w, sM1_w, m1A_s, m1B_s, m1C_s, lcA_s, lcB_f, lcB_t, lcC_ok, freeO_n, freeO_v, ownOk_n, ownOk_c, wipeE_n, wipeE_c, restE_n, restE_c, sDc_w, dcF_ok, dcE_ok, sSetF_w, stfA_ok, getPl_fd, gplF_i, setPl_fd, splF_i, sFldZ_w, mkB_r, mkB_x, mkA_ok, sMake_w, sFmt_w, ia_int_int, ia_bool_int, Bool.not_false, gLe, h]
  · have h := decide_eq_false h
    simp only [runFn_w, LW.argsOk, O.isV, O.d, List.all_cons, List.all_nil, Bool.and_true, Bool.true_and, Bool.and_self, List.length_cons, List.length_nil, List.map_cons, List.map_nil, List.cons_append, List.nil_append, List.replicate_succ, List.replicate_zero, Nat.reduceAdd, Nat.reduceSub, Nat.zero_add, and_self, and_true, true_and, if_true, ite_true, if_false, ite_false, List.getElem?_cons_zero, List.getElem?_cons_succ, List.set_cons_zero, List.set_cons_succ, List.set_nil, Bool.false_eq_true, reduceIte, sVar_w, varF_v, varF_l, varF_k, sFrz_w, frzF_o, sMov_w, movF_o, sC_w, sFz_w, fzF_v, fzF_f, fzF_x, outP_s, opC_s, opB_ok, opB_x, sOp_w, opA_v, opA_f, opA_s, opA_x, rd_v, rd_s, rd_fv, rd_fl, rd_fk, sTB_w, tbF_b, tbF_x, sAndT_w, andT_t, andT_f, sOrT_w, orT_t, orT_f, sNotT_w, notT_ok, sAnd_w, andF_t, andF_f, sOr_w, orF_t, orF_f, sNot_w, notF_ok, sIfE_w, ifE_t, ifE_f, sChn_w, chA_v, chA_s, chB_ok, chB_s, chC_tv, chC_ts, chC_f, chD_ok, sNil_w, consB_ok, consB_x, sCons_w, consA_v, consA_x, sTup_w, tupF_ok, sLst_w, lstF_ok, sC1_w, c1A_ok, c1A_x, c1B_s, sCall_w, callA_ok, callA_x, callB_r, callB_x, sCallM_w, cm0_s, cmA_ok, cmB_s, cmC_r, cmC_x, sSeq_w, seqF_n, seqF_r, seqF_x, seqF_b, seqF_c, sIf_w, ifS_t, ifS_f, ifS_x, sExp_w, expF_ok, expF_x, sRet_w, retF_v, retF_f, retF_x, sSet_w, setF_v, setF_f, setF_x, sPar_w, parF_ok, endF_rf, endF_nf, endF_xf, endF_rt, endF_rt', endF_nt', endF_xt', hSeq_w, seqH_l, seqH_t, hRange1_w, rng1_ok, hEnum_w, enumH_ok, sFor_w, forF_ok, forL_n, forA_s, forB_n, forB_c, forB_b, forB_r, forB_x, gSet_w, sLc_w, lcF_ok, lcE_ok, lcL_n, sYes_w, sFld_w, sSetIx_w, sIxA_s, sIxB_s, sIxC_s, sIxD_s, sIxE_s, getPl_sl, setPl_sl, getS_w, Option.getD_some, sLm_w, lm0_s, lmA_s, lmB_s, lmC_s, sSl_w, slA_v, slA_f, slA_t, slL_s, slH_s, slC_s, oPart_w, oPF_s, oNone_w, sM1_w, m1A_s, m1B_s, m1C_s, lcA_s, lcB_f, lcB_t, lcC_ok, freeO_n, freeO_v, ownOk_n, ownOk_c, wipeE_n, wipeE_c, restE_n, restE_c, sDc_w, dcF_ok, dcE_ok, sSetF_w, stfA_ok, getPl_fd, gplF_i, setPl_fd, splF_i, sFldZ_w, mkB_r, mkB_x, mkA_ok, sMake_w, sFmt_w, ia_int_int, ia_bool_int, Bool.not_false, gLe, h]
    rfl
theorem pairs_ok_loop (a0 a1 : Option O) (n : Nat) (h1 : a1 = some (.v (.int n))) : ∀ (qs : List (Nat × Nat)) (a2 : Option D), (∀ q ∈ qs, q.1 < q.2 ∧ q.2 < n) → ∃ a2' : Option D, 
    forL (gSet 2) (sSeq (sIf (sOrT (sNotT (sTB (sC1 (gIs (D.isa CS .tuple)) (sVar 2)))) (sOrT (sTB (sOp gNe true (sC1 gLen2 (sVar 2)) (sC (.int 2)))) (sNotT (sTB (sCall (sem_is_within) (sCons (sOp gIx2 true (sVar 2) (sC (.int 1))) (sCons (sC (.int 1)) (sCons (sOp gSub true (sVar 1) (sC (.int 1))) (sNil))))))))) (sRet (sC (.bl false))) (LW.Flow.next))
  (sIf (sNotT (sTB (sCall (sem_is_within) (sCons (sOp gIx2 true (sVar 2) (sC (.int 0))) (sCons (sC (.int 0)) (sCons (sOp gSub true (sOp gIx2 true (sVar 2) (sC (.int 1))) (sC (.int 1))) (sNil))))))) (sRet (sC (.bl false))) (LW.Flow.next)))
      (qs.map pD) [a0, a1, a2.map O.v] = .next [a0, a1, a2'.map O.v]
  | [], a2, _ => ⟨a2, rfl⟩
  | q :: r, a2, h => by
    subst h1
    obtain ⟨a2', e⟩ := pairs_ok_loop a0 _ n rfl r (some (pD q)) fun x hx => h x (List.mem_cons_of_mem _ hx)
    obtain ⟨hq1, hq2⟩ := h q List.mem_cons_self
    refine ⟨a2', ?_⟩
    have i0 : gIx2 (pD q) (.int 0) = some (.v (.int q.1)) := rfl
    have i1 : gIx2 (pD q) (.int 1) = some (.v (.int q.2)) := rfl
    have it : gIs (D.isa CS .tuple) (pD q) = some (.v (.bl true)) := rfl
    have l2 : gLen2 (pD q) = some (.v (.int 2)) := rfl
    have d1 : decide ((1 : Int) ≤ (q.2 : Int)) = true := decide_eq_true (by omega)
    have d2 : decide ((q.2 : Int) ≤ (n : Int) - 1) = true := decide_eq_true (by omega)
    have d3 : decide ((0 : Int) ≤ (q.1 : Int)) = true := decide_eq_true (by omega)
    have d4 : decide ((q.1 : Int) ≤ (q.2 : Int) - 1) = true := decide_eq_true (by omega)
    rw [List.map_cons, forL_c]
    simp only [runFn_w, LW.argsOk, O.isV, O.d, List.all_cons, List.all_nil, Bool.and_true, Bool.true_and, Bool.and_self, List.length_cons, List.length_nil, List.map_cons, List.map_nil, List.cons_append, List.nil_append, List.replicate_succ, List.replicate_zero, Nat.reduceAdd, Nat.reduceSub, Nat.zero_add, and_self, and_true, true_and, if_true, ite_true, if_false, ite_false, List.getElem?_cons_zero, List.getElem?_cons_succ, List.set_cons_zero, List.set_cons_succ, List.set_nil, Bool.false_eq_true, reduceIte, sVar_w, varF_v, varF_l, varF_k, sFrz_w, frzF_o, sMov_w, movF_o, sC_w, sFz_w, fzF_v, fzF_f, fzF_x, outP_s, opC_s, opB_ok, opB_x, sOp_w, opA_v, opA_f, opA_s, opA_x, rd_v, rd_s, rd_fv, rd_fl, rd_fk, sTB_w, tbF_b, tbF_x, sAndT_w, andT_t, andT_f, sOrT_w, orT_t, orT_f, sNotT_w, notT_ok, sAnd_w, andF_t, andF_f, sOr_w, orF_t, orF_f, sNot_w, notF_ok, sIfE_w, ifE_t, ifE_f, sChn_w, chA_v, chA_s, chB_ok, chB_s, chC_tv, chC_ts, chC_f, chD_ok, sNil_w, consB_ok, consB_x, sCons_w, consA_v, consA_x, sTup_w, tupF_ok, sLst_w, lstF_ok, sC1_w, c1A_ok, c1A_x, c1B_s, sCall_w, callA_ok, callA_x, callB_r, callB_x, sCallM_w, cm0_s, cmA_ok, cmB_s, cmC_r, cmC_x, sSeq_w, seqF_n, seqF_r, seqF_x, seqF_b, seqF_c, sIf_w, ifS_t, ifS_f, ifS_x, sExp_w, expF_ok, expF_x, sRet_w, retF_v, retF_f, retF_x, sSet_w, setF_v, setF_f, setF_x, sPar_w, parF_ok, endF_rf, endF_nf, endF_xf, endF_rt, endF_rt', endF_nt', endF_xt', hSeq_w, seqH_l, seqH_t, hRange1_w, rng1_ok, hEnum_w, enumH_ok, sFor_w, forF_ok, forL_n, forA_s, forB_n, forB_c, forB_b, forB_r, forB_x, gSet_w, sLc_w, lcF_ok, lcE_ok, lcL_n, sYes_w, sFld_w, sSetIx_w, sIxA_s, sIxB_s, sIxC_s, sIxD_s, sIxE_s, getPl_sl, setPl_sl, getS_w, Option.getD_some, sLm_w, lm0_s, lmA_s, lmB_s, lmC_s, sSl_w, slA_v, slA_f, slA_t, slL_s, slH_s, slC_s, oPart_w, oPF_s, oNone_w, sM1_w, m1A_s, m1B_s, m1C_s, lcA_s, lcB_f, lcB_t, lcC_ok, freeO_n, freeO_v, ownOk_n, ownOk_c, wipeE_n, wipeE_c, restE_n, restE_c, sDc_w, dcF_ok, dcE_ok, sSetF_w, stfA_ok, getPl_fd, gplF_i, setPl_fd, splF_i, sFldZ_w, mkB_r, mkB_x, mkA_ok, sMake_w, sFmt_w, it, Bool.not_true, l2, gNe_int, decide_true, i0, i1, LW.gSub, is_within, d1, d2, d3, d4]
    exact e
theorem pairs_below (qs : List (Nat × Nat)) (n : Nat) (h : ∀ q ∈ qs, q.1 < q.2 ∧ q.2 < n) (hn : qs.Nodup) : sem_are_pairs_below [.v (.lst (qs.map pD)), .v (.int n)] = .ret (.v (.bl true)) [.v (.lst (qs.map pD)), .v (.int n)] := by
  obtain ⟨a2, e⟩ := pairs_ok_loop (some (.v (.lst (qs.map pD)))) _ n rfl qs none h
  have e2 := dcL_new (tb := true) (ow := [2]) (tg := gSet 2) (t := sYes) (fk := sVar 2) (fv := sC (.bl true)) (ρ0 := [some (.v (.lst (qs.map pD))), some (.v (.int n)), none]) (v := .bl true) (ds := qs.map pD) (acc := []) (fun d hd => by
      obtain ⟨q, hq, rfl⟩ := List.mem_map.mp hd
      refine ⟨rfl, _, _, [some (.v (.lst (qs.map pD))), some (.v (.int n)), some (.v (pD q))], [some (.v (.lst (qs.map pD))), some (.v (.int n)), some (.v (pD q))], rfl, rfl, ?_, ?_, rfl⟩
      · simp only [runFn_w, LW.argsOk, O.isV, O.d, List.all_cons, List.all_nil, Bool.and_true, Bool.true_and, Bool.and_self, List.length_cons, List.length_nil, List.map_cons, List.map_nil, List.cons_append, List.nil_append, List.replicate_succ, List.replicate_zero, Nat.reduceAdd, Nat.reduceSub, Nat.zero_add, and_self, and_true, true_and, if_true, ite_true, if_false, ite_false, List.getElem?_cons_zero, List.getElem?_cons_succ, List.set_cons_zero, List.set_cons_succ, List.set_nil, Bool.false_eq_true, reduceIte, sVar_w, varF_v, varF_l, varF_k, sFrz_w, frzF_o, sMov_w, movF_o, sC_w, sFz_w, fzF_v, fzF_f, fzF_x, outP_s, opC_s, opB_ok, opB_x, sOp_w, opA_v, opA_f, opA_s, opA_x, rd_v, rd_s, rd_fv, rd_fl, rd_fk, sTB_w, tbF_b, tbF_x, sAndT_w, andT_t, andT_f, sOrT_w, orT_t, orT_f, sNotT_w, notT_ok, sAnd_w, andF_t, andF_f, sOr_w, orF_t, orF_f, sNot_w, notF_ok, sIfE_w, ifE_t, ifE_f, sChn_w, chA_v, chA_s, chB_ok, chB_s, chC_tv, chC_ts, chC_f, chD_ok, sNil_w, consB_ok, consB_x, sCons_w, consA_v, consA_x, sTup_w, tupF_ok, sLst_w, lstF_ok, sC1_w, c1A_ok, c1A_x, c1B_s, sCall_w, callA_ok, callA_x, callB_r, callB_x, sCallM_w, cm0_s, cmA_ok, cmB_s, cmC_r, cmC_x, sSeq_w, seqF_n, seqF_r, seqF_x, seqF_b, seqF_c, sIf_w, ifS_t, ifS_f, ifS_x, sExp_w, expF_ok, expF_x, sRet_w, retF_v, retF_f, retF_x, sSet_w, setF_v, setF_f, setF_x, sPar_w, parF_ok, endF_rf, endF_nf, endF_xf, endF_rt, endF_rt', endF_nt', endF_xt', hSeq_w, seqH_l, seqH_t, hRange1_w, rng1_ok, hEnum_w, enumH_ok, sFor_w, forF_ok, forL_n, forA_s, forB_n, forB_c, forB_b, forB_r, forB_x, gSet_w, sLc_w, lcF_ok, lcE_ok, lcL_n, sYes_w, sFld_w, sSetIx_w, sIxA_s, sIxB_s, sIxC_s, sIxD_s, sIxE_s, getPl_sl, setPl_sl, getS_w, Option.getD_some, sLm_w, lm0_s, lmA_s, lmB_s, lmC_s, sSl_w, slA_v, slA_f, slA_t, slL_s, slH_s, slC_s, oPart_w, oPF_s, oNone_w, sM1_w, m1A_s, m1B_s, m1C_s, lcA_s, lcB_f, lcB_t, lcC_ok, freeO_n, freeO_v, ownOk_n, ownOk_c, wipeE_n, wipeE_c, restE_n, restE_c, sDc_w, dcF_ok, dcE_ok, sSetF_w, stfA_ok, getPl_fd, gplF_i, setPl_fd, splF_i, sFldZ_w, mkB_r, mkB_x, mkA_ok, sMake_w, sFmt_w]
      · simp only [runFn_w, LW.argsOk, O.isV, O.d, List.all_cons, List.all_nil, Bool.and_true, Bool.true_and, Bool.and_self, List.length_cons, List.length_nil, List.map_cons, List.map_nil, List.cons_append, List.nil_append, List.replicate_succ, List.replicate_zero, Nat.reduceAdd, Nat.reduceSub, Nat.zero_add, and_self, and_true, true_and, if_true, ite_true, if_false, ite_false, List.getElem?_cons_zero, List.getElem?_cons_succ, List.set_cons_zero, List.set_cons_succ, List.set_nil, Bool.false_eq_true, reduceIte, sVar_w, varF_v, varF_l, varF_k, sFrz_w, frzF_o, sMov_w, movF_o, sC_w, sFz_w, fzF_v, fzF_f, fzF_x, outP_s, opC_s, opB_ok, opB_x, sOp_w, opA_v, opA_f, opA_s, opA_x, rd_v, rd_s, rd_fv, rd_fl, rd_fk, sTB_w, tbF_b, tbF_x, sAndT_w, andT_t, andT_f, sOrT_w, orT_t, orT_f, sNotT_w, notT_ok, sAnd_w, andF_t, andF_f, sOr_w, orF_t, orF_f, sNot_w, notF_ok, sIfE_w, ifE_t, ifE_f, sChn_w, chA_v, chA_s, chB_ok, chB_s, chC_tv, chC_ts, chC_f, chD_ok, sNil_w, consB_ok, consB_x, sCons_w, consA_v, consA_x, sTup_w, tupF_ok, sLst_w, lstF_ok, sC1_w, c1A_ok, c1A_x, c1B_s, sCall_w, callA_ok, callA_x, callB_r, callB_x, sCallM_w, cm0_s, cmA_ok, cmB_s, cmC_r, cmC_x, sSeq_w, seqF_n, seqF_r, seqF_x, seqF_b, seqF_c, sIf_w, ifS_t, ifS_f, ifS_x, sExp_w, expF_ok, expF_x, sRet_w, retF_v, retF_f, retF_x, sSet_w, setF_v, setF_f, setF_x, sPar_w, parF_ok, endF_rf, endF_nf, endF_xf, endF_rt, endF_rt', endF_nt', endF_xt', hSeq_w, seqH_l, seqH_t, hRange1_w, rng1_ok, hEnum_w, enumH_ok, sFor_w, forF_ok, forL_n, forA_s, forB_n, forB_c, forB_b, forB_r, forB_x, gSet_w, sLc_w, lcF_ok, lcE_ok, lcL_n, sYes_w, sFld_w, sSetIx_w, sIxA_s, sIxB_s, sIxC_s, sIxD_s, sIxE_s, getPl_sl, setPl_sl, getS_w, Option.getD_some, sLm_w, lm0_s, lmA_s, lmB_s, lmC_s, sSl_w, slA_v, slA_f, slA_t, slL_s, slH_s, slC_s, oPart_w, oPF_s, oNone_w, sM1_w, m1A_s, m1B_s, m1C_s, lcA_s, lcB_f, lcB_t, lcC_ok, freeO_n, freeO_v, ownOk_n, ownOk_c, wipeE_n, wipeE_c, restE_n, restE_c, sDc_w, dcF_ok, dcE_ok, sSetF_w, stfA_ok, getPl_fd, gplF_i, setPl_fd, splF_i, sFldZ_w, mkB_r, mkB_x, mkA_ok, sMake_w, sFmt_w]) (freshK_nodup keq_pD qs [] hn (fun _ _ h => nomatch h))
  have hl : gLen2 (.dct true ((qs.map pD).map fun d => (d, D.bl true))) = some (.v (.int qs.length)) := by
    show some (P.v (.int ((qs.map pD).map fun d => (d, D.bl true)).length)) = _
    simp
  have hg : ((qs.map pD).length : Int) = (qs.length : Int) := by simp
  unfold sem_are_pairs_below sem_is_listed
  have e : forL _ _ (qs.map pD) [some (.v (.lst (qs.map pD))), some (.v (.int n)), none] = _ := e
  cases ha : a2 with
  | none =>
    rw [ha, Option.map_none] at e
    simp only [runFn_w, LW.argsOk, O.isV, O.d, List.all_cons, List.all_nil, Bool.and_true, Bool.true_and, Bool.and_self, List.length_cons, List.length_nil, List.map_cons, List.map_nil, List.cons_append, List.nil_append, List.replicate_succ, List.replicate_zero, Nat.reduceAdd, Nat.reduceSub, Nat.zero_add, and_self, and_true, true_and, if_true, ite_true, if_false, ite_false, List.getElem?_cons_zero, List.getElem?_cons_succ, List.set_cons_zero, List.set_cons_succ, List.set_nil, Bool.false_eq_true, reduceIte, sVar_w, varF_v, varF_l, varF_k, sFrz_w, frzF_o, sMov_w, movF_o, sC_w, sFz_w, fzF_v, fzF_f, fzF_x, outP_s, opC_s, opB_ok, opB_x, sOp_w, opA_v, opA_f, opA_s, opA_x, rd_v, rd_s, rd_fv, rd_fl, rd_fk, sTB_w, tbF_b, tbF_x, sAndT_w, andT_t, andT_f, sOrT_w, orT_t, orT_f, sNotT_w, notT_ok, sAnd_w, andF_t, andF_f, sOr_w, orF_t, orF_f, sNot_w, notF_ok, sIfE_w, ifE_t, ifE_f, sChn_w, chA_v, chA_s, chB_ok, chB_s, chC_tv, chC_ts, chC_f, chD_ok, sNil_w, consB_ok, consB_x, sCons_w, consA_v, consA_x, sTup_w, tupF_ok, sLst_w, lstF_ok, sC1_w, c1A_ok, c1A_x, c1B_s, sCall_w, callA_ok, callA_x, callB_r, callB_x, sCallM_w, cm0_s, cmA_ok, cmB_s, cmC_r, cmC_x, sSeq_w, seqF_n, seqF_r, seqF_x, seqF_b, seqF_c, sIf_w, ifS_t, ifS_f, ifS_x, sExp_w, expF_ok, expF_x, sRet_w, retF_v, retF_f, retF_x, sSet_w, setF_v, setF_f, setF_x, sPar_w, parF_ok, endF_rf, endF_nf, endF_xf, endF_rt, endF_rt', endF_nt', endF_xt', hSeq_w, seqH_l, seqH_t, hRange1_w, rng1_ok, hEnum_w, enumH_ok, sFor_w, forF_ok, forL_n, forA_s, forB_n, forB_c, forB_b, forB_r, forB_x, gSet_w, sLc_w, lcF_ok, lcE_ok, lcL_n, sYes_w, sFld_w, sSetIx_w, sIxA_s, sIxB_s, sIxC_s, sIxD_s, sIxE_s, getPl_sl, setPl_sl, getS_w, Option.getD_some, sLm_w, lm0_s, lmA_s, lmB_s, lmC_s, sSl_w, slA_v, slA_f, slA_t, slL_s, slH_s, slC_s, oPart_w, oPF_s, oNone_w, sM1_w, m1A_s, m1B_s, m1C_s, lcA_s, lcB_f, lcB_t, lcC_ok, freeO_n, freeO_v, ownOk_n, ownOk_c, wipeE_n, wipeE_c, restE_n, restE_c, sDc_w, dcF_ok, dcE_ok, sSetF_w, stfA_ok, getPl_fd, gplF_i, setPl_fd, splF_i, sFldZ_w, mkB_r, mkB_x, mkA_ok, sMake_w, sFmt_w, ia_lt_lst, Bool.not_true, e, e2, hl, len_lst, hg, gEq_int, decide_true]
  | some d =>
    rw [ha, Option.map_some] at e
    simp only [runFn_w, LW.argsOk, O.isV, O.d, List.all_cons, List.all_nil, Bool.and_true, Bool.true_and, Bool.and_self, List.length_cons, List.length_nil, List.map_cons, List.map_nil, List.cons_append, List.nil_append, List.replicate_succ, List.replicate_zero, Nat.reduceAdd, Nat.reduceSub, Nat.zero_add, and_self, and_true, true_and, if_true, ite_true, if_false, ite_false, List.getElem?_cons_zero, List.getElem?_cons_succ, List.set_cons_zero, List.set_cons_succ, List.set_nil, Bool.false_eq_true, reduceIte, sVar_w, varF_v, varF_l, varF_k, sFrz_w, frzF_o, sMov_w, movF_o, sC_w, sFz_w, fzF_v, fzF_f, fzF_x, outP_s, opC_s, opB_ok, opB_x, sOp_w, opA_v, opA_f, opA_s, opA_x, rd_v, rd_s, rd_fv, rd_fl, rd_fk, sTB_w, tbF_b, tbF_x, sAndT_w, andT_t, andT_f, sOrT_w, orT_t, orT_f, sNotT_w, notT_ok, sAnd_w, andF_t, andF_f, sOr_w, orF_t, orF_f, sNot_w, notF_ok, sIfE_w, ifE_t, ifE_f, sChn_w, chA_v, chA_s, chB_ok, chB_s, chC_tv, chC_ts, chC_f, chD_ok, sNil_w, consB_ok, consB_x, sCons_w, consA_v, consA_x, sTup_w, tupF_ok, sLst_w, lstF_ok, sC1_w, c1A_ok, c1A_x, c1B_s, sCall_w, callA_ok, callA_x, callB_r, callB_x, sCallM_w, cm0_s, cmA_ok, cmB_s, cmC_r, cmC_x, sSeq_w, seqF_n, seqF_r, seqF_x, seqF_b, seqF_c, sIf_w, ifS_t, ifS_f, ifS_x, sExp_w, expF_ok, expF_x, sRet_w, retF_v, retF_f, retF_x, sSet_w, setF_v, setF_f, setF_x, sPar_w, parF_ok, endF_rf, endF_nf, endF_xf, endF_rt, endF_rt', endF_nt', endF_xt', hSeq_w, seqH_l, seqH_t, hRange1_w, rng1_ok, hEnum_w, enumH_ok, sFor_w, forF_ok, forL_n, forA_s, forB_n, forB_c, forB_b, forB_r, forB_x, gSet_w, sLc_w, lcF_ok, lcE_ok, lcL_n, sYes_w, sFld_w, sSetIx_w, sIxA_s, sIxB_s, sIxC_s, sIxD_s, sIxE_s, getPl_sl, setPl_sl, getS_w, Option.getD_some, sLm_w, lm0_s, lmA_s, lmB_s, lmC_s, sSl_w, slA_v, slA_f, slA_t, slL_s, slH_s, slC_s, oPart_w, oPF_s, oNone_w, sM1_w, m1A_s, m1B_s, m1C_s, lcA_s, lcB_f, lcB_t, lcC_ok, freeO_n, freeO_v, ownOk_n, ownOk_c, wipeE_n, wipeE_c, restE_n, restE_c, sDc_w, dcF_ok, dcE_ok, sSetF_w, stfA_ok, getPl_fd, gplF_i, setPl_fd, splF_i, sFldZ_w, mkB_r, mkB_x, mkA_ok, sMake_w, sFmt_w, ia_lt_lst, Bool.not_true, e, e2, hl, len_lst, hg, gEq_int, decide_true]
/-! the order of pairs -/
def leP (a b : Nat × Nat) : Bool := leD (pD a) (pD b)
theorem leD_total : W.TotalLe leD := by
  show W.TotalLe (PySem.W.dataLe false D.py)
  unfold PySem.W.dataLe
  exact W.sortLe_total _ _ _
def sortP (qs : List (Nat × Nat)) : List (Nat × Nat) := qs.mergeSort leP
theorem leP_total : W.TotalLe leP := ⟨fun a b c => leD_total.trans _ _ _, fun a b => leD_total.total _ _⟩
theorem sortP_sorted (qs : List (Nat × Nat)) : (sortP qs).Pairwise fun a b => leP a b = true := W.sort_pairwise leP_total qs
theorem sortP_idem (qs : List (Nat × Nat)) : sortP (sortP qs) = sortP qs := List.mergeSort_of_pairwise (sortP_sorted qs)
theorem sortP_perm (qs : List (Nat × Nat)) : (sortP qs).Perm qs := List.mergeSort_perm qs leP
theorem plain_pD {n : Nat} (q : Nat × Nat) : (pD q).plain (n + 1) = true := by
  cases n <;> simp [pD, D.plain, D.plainL]
theorem plainL_map {α : Type} {n : Nat} {f : α → D} (h : ∀ x, (f x).plain n = true) : ∀ xs : List α, D.plainL n (xs.map f) = true
  | [] => rfl
  | x :: r => by simp [D.plainL, h x, plainL_map h r]
theorem sorted_pairs (qs : List (Nat × Nat)) : gSorted (.lst (qs.map pD)) = some (.f (.l ((sortP qs).map pD))) := by
  have hok : sortOk (qs.map pD) = true := by
    unfold sortOk
    rw [plainL_map (n := 50) (fun q => plain_pD (n := 49) q)]
    have h1 : ((qs.map pD).all fun a => (qs.map pD).all fun b => PySem.W.alike a.py b.py) = true := by
      rw [List.all_eq_true]
      intro a ha
      obtain ⟨x, _, rfl⟩ := List.mem_map.mp ha
      rw [List.all_eq_true]
      intro b hb
      obtain ⟨y, _, rfl⟩ := List.mem_map.mp hb
      simp [pD, D.py, D.pyL, PySem.W.alike, PySem.W.alikeAll]
    have h2 : (qs.map pD).all D.isTup = true := by
      rw [List.all_eq_true]
      intro a ha
      obtain ⟨x, _, rfl⟩ := List.mem_map.mp ha
      rfl
    rw [h1, h2]; rfl
  show (if sortOk (qs.map pD) = true then some (P.f (.l ((qs.map pD).mergeSort leD))) else none) = _
  rw [if_pos hok]
  unfold sortP
  rw [W.sort_maps (r := leP) (s := leD) pD fun _ _ _ _ => rfl]
theorem sorted_ints (ns : List Int) : ∃ ms : List D, gSorted (.lst (ns.map .int)) = some (.f (.l ms)) := by
  refine ⟨(ns.map .int).mergeSort leD, ?_⟩
  have hok : sortOk (ns.map .int) = true := by
    unfold sortOk
    rw [plainL_map (n := 50) (fun q => by simp [D.plain])]
    have h1 : ((ns.map D.int).all fun a => (ns.map D.int).all fun b => PySem.W.alike a.py b.py) = true := by
      rw [List.all_eq_true]
      intro a ha
      obtain ⟨x, _, rfl⟩ := List.mem_map.mp ha
      rw [List.all_eq_true]
      intro b hb
      obtain ⟨y, _, rfl⟩ := List.mem_map.mp hb
      simp [D.py, PySem.W.alike]
    have h2 : (ns.map D.int).all D.noTup = true := by
      rw [List.all_eq_true]
      intro a ha
      obtain ⟨x, _, rfl⟩ := List.mem_map.mp ha
      rfl
    rw [h1, h2]; simp
  exact if_pos hok
end SM

namespace SM
open PySem LW L2
/-- what stands beside a place -/
def besideN (k : Nat) (qs : List (Nat × Nat)) : List Int := qs.filterMap fun q => if k = q.1 ∨ k = q.2 then some ((q.1 : Int) + q.2 - k) else none
def webF (gs : List (List Nat)) (ws : List (Nat × Nat)) (bs : List D) : List (Str × O) := [("names", .v (.tup (gs.map sS))), ("ways", .v (.tup (ws.map pD))), ("beside", .l bs)]
theorem in_two (k a b : Nat) : gIn2 (.int k) (.tup [.int a, .int b]) = some (.v (.bl (decide (k = a ∨ k = b)))) := by
  show (D.mem (.int k) (.tup [.int a, .int b])).map _ = _
  have : D.mem (.int k) (.tup [.int a, .int b]) = some (decide (k = a ∨ k = b)) := by
    show (if D.plain 59 (.int k) = true ∧ D.plainL 59 [.int a, .int b] = true then some (inL (.int k) [.int a, .int b]) else none) = _
    rw [if_pos ⟨by simp [D.plain], by simp [D.plain, D.plainL]⟩]
    congr 1
    simp only [inL, D.pyL, D.py, List.any_cons, List.any_nil, PyData.eqv, Bool.or_false]
    by_cases h1 : k = a <;> by_cases h2 : k = b <;> simp [h1, h2] <;> omega
  rw [this]; rfl
def φB (k : Nat) (d : D) : Option (Option D) := match d with
  | .tup [.int a, .int b] => if (k : Int) = a ∨ (k : Int) = b then some (some (.int (a + b - k))) else some none
  | _ => none
theorem φB_map (k : Nat) : ∀ qs : List (Nat × Nat), lcMap (φB k) (qs.map pD) = some ((besideN k qs).map .int)
  | [] => rfl
  | q :: r => by
    unfold lcMap besideN
    rw [List.map_cons] 
    show (match φB k (pD q), lcMap (φB k) (r.map pD) with
      | some (some y), some ys => some (y :: ys)
      | some none, some ys => some ys
      | _, _ => none) = _
    rw [φB_map k r]
    have : φB k (pD q) = if (k : Int) = q.1 ∨ (k : Int) = q.2 then some (some (.int ((q.1 : Int) + q.2 - k))) else some none := rfl
    rw [this, List.filterMap_cons]
    by_cases h : k = q.1 ∨ k = q.2
    · rw [if_pos (by omega), if_pos h]; rfl
    · rw [if_neg (by omega), if_neg h]; rfl
def webBody : LW.Env → LW.Flow := sExp (sLm gApp (.fd 0 "Web" "beside") (sC1 gTuple (sC1 gSorted (sLc [4, 5] (hSeq (sVar 2)) (gTupD 2 (gsCons (gSet 4) (gsCons (gSet 5) (gsNil)))) (sTB (sOp gIn2 true (sVar 3) (sTup (sCons (sVar 4) (sCons (sVar 5) (sNil)))))) (sOp LW.gSub true (sOp gAdd true (sVar 4) (sVar 5)) (sVar 3))))))
theorem webF_look {gs : List (List Nat)} {ws : List (Nat × Nat)} {bs : List D} : lookO "beside" (webF gs ws bs) = some (.l bs) := rfl
theorem webF_put {gs : List (List Nat)} {ws : List (Nat × Nat)} {bs cs : List D} : putO "beside" (.l cs) (webF gs ws bs) = webF gs ws cs := rfl
theorem web_turn (a1 : Option O) (gs : List (List Nat)) (ws : List (Nat × Nat)) (qs : List (Nat × Nat)) (bs : List D) (k : Nat) (hb : bs.length ≤ 100) :
    ∃ b, webBody [some (.i "Web" (webF gs ws bs)), a1, some (.v (.lst (qs.map pD))), some (.v (.int k)), none, none] = .next [some (.i "Web" (webF gs ws (bs ++ [b]))), a1, some (.v (.lst (qs.map pD))), some (.v (.int k)), none, none] := by
  have e := lcL_map (ow := [4, 5]) (tg := gTupD 2 (gsCons (gSet 4) (gsCons (gSet 5) (gsNil)))) (t := sTB (sOp gIn2 true (sVar 3) (sTup (sCons (sVar 4) (sCons (sVar 5) (sNil)))))) (f := sOp LW.gSub true (sOp gAdd true (sVar 4) (sVar 5)) (sVar 3))
    (φ := φB k) (ρ0 := [some (.i "Web" (webF gs ws bs)), a1, some (.v (.lst (qs.map pD))), some (.v (.int k)), none, none]) (ds := qs.map pD) (acc := []) (fun d hd z hz => by
      obtain ⟨q, hq, rfl⟩ := List.mem_map.mp hd
      have hφ : φB k (pD q) = if (k : Int) = q.1 ∨ (k : Int) = q.2 then some (some (.int ((q.1 : Int) + q.2 - k))) else some none := rfl
      rw [hφ] at hz
      by_cases h : k = q.1 ∨ k = q.2
      · rw [if_pos (by omega)] at hz
        cases hz
        have hd := decide_eq_true h
        refine ⟨_, [some (.i "Web" (webF gs ws bs)), a1, some (.v (.lst (qs.map pD))), some (.v (.int k)), some (.v (.int q.1)), some (.v (.int q.2))], rfl, ⟨[some (.i "Web" (webF gs ws bs)), a1, some (.v (.lst (qs.map pD))), some (.v (.int k)), some (.v (.int q.1)), some (.v (.int q.2))], ?_, ?_⟩, rfl⟩
        · simp only [runFn_w, LW.argsOk, O.isV, O.d, List.all_cons, List.all_nil, Bool.and_true, Bool.true_and, Bool.and_self, List.length_cons, List.length_nil, List.map_cons, List.map_nil, List.cons_append, List.nil_append, List.replicate_succ, List.replicate_zero, Nat.reduceAdd, Nat.reduceSub, Nat.zero_add, and_self, and_true, true_and, if_true, ite_true, if_false, ite_false, List.getElem?_cons_zero, List.getElem?_cons_succ, List.set_cons_zero, List.set_cons_succ, List.set_nil, Bool.false_eq_true, reduceIte, sVar_w, varF_v, varF_l, varF_k, sFrz_w, frzF_o, sMov_w, movF_o, sC_w, sFz_w, fzF_v, fzF_f, fzF_x, outP_s, opC_s, opB_ok, opB_x, sOp_w, opA_v, opA_f, opA_s, opA_x, rd_v, rd_s, rd_fv, rd_fl, rd_fk, sTB_w, tbF_b, tbF_x, sAndT_w, andT_t, andT_f, sOrT_w, orT_t, orT_f, sNotT_w, notT_ok, sAnd_w, andF_t, andF_f, sOr_w, orF_t, orF_f, sNot_w, notF_ok, sIfE_w, ifE_t, ifE_f, sChn_w, chA_v, chA_s, chB_ok, chB_s, chC_tv, chC_ts, chC_f, chD_ok, sNil_w, consB_ok, consB_x, sCons_w, consA_v, consA_x, sTup_w, tupF_ok, sLst_w, lstF_ok, sC1_w, c1A_ok, c1A_x, c1B_s, sCall_w, callA_ok, callA_x, callB_r, callB_x, sCallM_w, cm0_s, cmA_ok, cmB_s, cmC_r, cmC_x, sSeq_w, seqF_n, seqF_r, seqF_x, seqF_b, seqF_c, sIf_w, ifS_t, ifS_f, ifS_x, sExp_w, expF_ok, expF_x, sRet_w, retF_v, retF_f, retF_x, sSet_w, setF_v, setF_f, setF_x, sPar_w, parF_ok, endF_rf, endF_nf, endF_xf, endF_rt, endF_rt', endF_nt', endF_xt', hSeq_w, seqH_l, seqH_t, hRange1_w, rng1_ok, hEnum_w, enumH_ok, sFor_w, forF_ok, forL_n, forA_s, forB_n, forB_c, forB_b, forB_r, forB_x, gSet_w, sLc_w, lcF_ok, lcE_ok, lcL_n, sYes_w, sFld_w, sSetIx_w, sIxA_s, sIxB_s, sIxC_s, sIxD_s, sIxE_s, getPl_sl, setPl_sl, getS_w, Option.getD_some, sLm_w, lm0_s, lmA_s, lmB_s, lmC_s, sSl_w, slA_v, slA_f, slA_t, slL_s, slH_s, slC_s, oPart_w, oPF_s, oNone_w, sM1_w, m1A_s, m1B_s, m1C_s, lcA_s, lcB_f, lcB_t, lcC_ok, freeO_n, freeO_v, ownOk_n, ownOk_c, wipeE_n, wipeE_c, restE_n, restE_c, sDc_w, dcF_ok, dcE_ok, sSetF_w, stfA_ok, getPl_fd, gplF_i, setPl_fd, splF_i, sFldZ_w, mkB_r, mkB_x, mkA_ok, sMake_w, sFmt_w, in_two, hd]
        · simp only [runFn_w, LW.argsOk, O.isV, O.d, List.all_cons, List.all_nil, Bool.and_true, Bool.true_and, Bool.and_self, List.length_cons, List.length_nil, List.map_cons, List.map_nil, List.cons_append, List.nil_append, List.replicate_succ, List.replicate_zero, Nat.reduceAdd, Nat.reduceSub, Nat.zero_add, and_self, and_true, true_and, if_true, ite_true, if_false, ite_false, List.getElem?_cons_zero, List.getElem?_cons_succ, List.set_cons_zero, List.set_cons_succ, List.set_nil, Bool.false_eq_true, reduceIte, sVar_w, varF_v, varF_l, varF_k, sFrz_w, frzF_o, sMov_w, movF_o, sC_w, sFz_w, fzF_v, fzF_f, fzF_x, outP_s, opC_s, opB_ok, opB_x, sOp_w, opA_v, opA_f, opA_s, opA_x, rd_v, rd_s, rd_fv, rd_fl, rd_fk, sTB_w, tbF_b, tbF_x, sAndT_w, andT_t, andT_f, sOrT_w, orT_t, orT_f, sNotT_w, notT_ok, sAnd_w, andF_t, andF_f, sOr_w, orF_t, orF_f, sNot_w, notF_ok, sIfE_w, ifE_t, ifE_f, sChn_w, chA_v, chA_s, chB_ok, chB_s, chC_tv, chC_ts, chC_f, chD_ok, sNil_w, consB_ok, consB_x, sCons_w, consA_v, consA_x, sTup_w, tupF_ok, sLst_w, lstF_ok, sC1_w, c1A_ok, c1A_x, c1B_s, sCall_w, callA_ok, callA_x, callB_r, callB_x, sCallM_w, cm0_s, cmA_ok, cmB_s, cmC_r, cmC_x, sSeq_w, seqF_n, seqF_r, seqF_x, seqF_b, seqF_c, sIf_w, ifS_t, ifS_f, ifS_x, sExp_w, expF_ok, expF_x, sRet_w, retF_v, retF_f, retF_x, sSet_w, setF_v, setF_f, setF_x, sPar_w, parF_ok, endF_rf, endF_nf, endF_xf, endF_rt, endF_rt', endF_nt', endF_xt', hSeq_w, seqH_l, seqH_t, hRange1_w, rng1_ok, hEnum_w, enumH_ok, sFor_w, forF_ok, forL_n, forA_s, forB_n, forB_c, forB_b, forB_r, forB_x, gSet_w, sLc_w, lcF_ok, lcE_ok, lcL_n, sYes_w, sFld_w, sSetIx_w, sIxA_s, sIxB_s, sIxC_s, sIxD_s, sIxE_s, getPl_sl, setPl_sl, getS_w, Option.getD_some, sLm_w, lm0_s, lmA_s, lmB_s, lmC_s, sSl_w, slA_v, slA_f, slA_t, slL_s, slH_s, slC_s, oPart_w, oPF_s, oNone_w, sM1_w, m1A_s, m1B_s, m1C_s, lcA_s, lcB_f, lcB_t, lcC_ok, freeO_n, freeO_v, ownOk_n, ownOk_c, wipeE_n, wipeE_c, restE_n, restE_c, sDc_w, dcF_ok, dcE_ok, sSetF_w, stfA_ok, getPl_fd, gplF_i, setPl_fd, splF_i, sFldZ_w, mkB_r, mkB_x, mkA_ok, sMake_w, sFmt_w, gAdd, LW.gSub]
      · rw [if_neg (by omega)] at hz
        cases hz
        have hd := decide_eq_false h
        refine ⟨_, [some (.i "Web" (webF gs ws bs)), a1, some (.v (.lst (qs.map pD))), some (.v (.int k)), some (.v (.int q.1)), some (.v (.int q.2))], rfl, ?_, rfl⟩
        simp only
        simp only [runFn_w, LW.argsOk, O.isV, O.d, List.all_cons, List.all_nil, Bool.and_true, Bool.true_and, Bool.and_self, List.length_cons, List.length_nil, List.map_cons, List.map_nil, List.cons_append, List.nil_append, List.replicate_succ, List.replicate_zero, Nat.reduceAdd, Nat.reduceSub, Nat.zero_add, and_self, and_true, true_and, if_true, ite_true, if_false, ite_false, List.getElem?_cons_zero, List.getElem?_cons_succ, List.set_cons_zero, List.set_cons_succ, List.set_nil, Bool.false_eq_true, reduceIte, sVar_w, varF_v, varF_l, varF_k, sFrz_w, frzF_o, sMov_w, movF_o, sC_w, sFz_w, fzF_v, fzF_f, fzF_x, outP_s, opC_s, opB_ok, opB_x, sOp_w, opA_v, opA_f, opA_s, opA_x, rd_v, rd_s, rd_fv, rd_fl, rd_fk, sTB_w, tbF_b, tbF_x, sAndT_w, andT_t, andT_f, sOrT_w, orT_t, orT_f, sNotT_w, notT_ok, sAnd_w, andF_t, andF_f, sOr_w, orF_t, orF_f, sNot_w, notF_ok, sIfE_w, ifE_t, ifE_f, sChn_w, chA_v, chA_s, chB_ok, chB_s, chC_tv, chC_ts, chC_f, chD_ok, sNil_w, consB_ok, consB_x, sCons_w, consA_v, consA_x, sTup_w, tupF_ok, sLst_w, lstF_ok, sC1_w, c1A_ok, c1A_x, c1B_s, sCall_w, callA_ok, callA_x, callB_r, callB_x, sCallM_w, cm0_s, cmA_ok, cmB_s, cmC_r, cmC_x, sSeq_w, seqF_n, seqF_r, seqF_x, seqF_b, seqF_c, sIf_w, ifS_t, ifS_f, ifS_x, sExp_w, expF_ok, expF_x, sRet_w, retF_v, retF_f, retF_x, sSet_w, setF_v, setF_f, setF_x, sPar_w, parF_ok, endF_rf, endF_nf, endF_xf, endF_rt, endF_rt', endF_nt', endF_xt', hSeq_w, seqH_l, seqH_t, hRange1_w, rng1_ok, hEnum_w, enumH_ok, sFor_w, forF_ok, forL_n, forA_s, forB_n, forB_c, forB_b, forB_r, forB_x, gSet_w, sLc_w, lcF_ok, lcE_ok, lcL_n, sYes_w, sFld_w, sSetIx_w, sIxA_s, sIxB_s, sIxC_s, sIxD_s, sIxE_s, getPl_sl, setPl_sl, getS_w, Option.getD_some, sLm_w, lm0_s, lmA_s, lmB_s, lmC_s, sSl_w, slA_v, slA_f, slA_t, slL_s, slH_s, slC_s, oPart_w, oPF_s, oNone_w, sM1_w, m1A_s, m1B_s, m1C_s, lcA_s, lcB_f, lcB_t, lcC_ok, freeO_n, freeO_v, ownOk_n, ownOk_c, wipeE_n, wipeE_c, restE_n, restE_c, sDc_w, dcF_ok, dcE_ok, sSetF_w, stfA_ok, getPl_fd, gplF_i, setPl_fd, splF_i, sFldZ_w, mkB_r, mkB_x, mkA_ok, sMake_w, sFmt_w, in_two, hd]) (φB_map k qs)
  obtain ⟨ms, hs⟩ := sorted_ints (besideN k qs)
  have ht : gTuple (.lst ms) = some (.v (.tup ms)) := rfl
  have ha : gApp bs (.tup ms) = some (.non, bs ++ [.tup ms]) := if_pos (by have := line_big; omega)
  refine ⟨.tup ms, ?_⟩
  unfold webBody
  simp only [runFn_w, LW.argsOk, O.isV, O.d, List.all_cons, List.all_nil, Bool.and_true, Bool.true_and, Bool.and_self, List.length_cons, List.length_nil, List.map_cons, List.map_nil, List.cons_append, List.nil_append, List.replicate_succ, List.replicate_zero, Nat.reduceAdd, Nat.reduceSub, Nat.zero_add, and_self, and_true, true_and, if_true, ite_true, if_false, ite_false, List.getElem?_cons_zero, List.getElem?_cons_succ, List.set_cons_zero, List.set_cons_succ, List.set_nil, Bool.false_eq_true, reduceIte, sVar_w, varF_v, varF_l, varF_k, sFrz_w, frzF_o, sMov_w, movF_o, sC_w, sFz_w, fzF_v, fzF_f, fzF_x, outP_s, opC_s, opB_ok, opB_x, sOp_w, opA_v, opA_f, opA_s, opA_x, rd_v, rd_s, rd_fv, rd_fl, rd_fk, sTB_w, tbF_b, tbF_x, sAndT_w, andT_t, andT_f, sOrT_w, orT_t, orT_f, sNotT_w, notT_ok, sAnd_w, andF_t, andF_f, sOr_w, orF_t, orF_f, sNot_w, notF_ok, sIfE_w, ifE_t, ifE_f, sChn_w, chA_v, chA_s, chB_ok, chB_s, chC_tv, chC_ts, chC_f, chD_ok, sNil_w, consB_ok, consB_x, sCons_w, consA_v, consA_x, sTup_w, tupF_ok, sLst_w, lstF_ok, sC1_w, c1A_ok, c1A_x, c1B_s, sCall_w, callA_ok, callA_x, callB_r, callB_x, sCallM_w, cm0_s, cmA_ok, cmB_s, cmC_r, cmC_x, sSeq_w, seqF_n, seqF_r, seqF_x, seqF_b, seqF_c, sIf_w, ifS_t, ifS_f, ifS_x, sExp_w, expF_ok, expF_x, sRet_w, retF_v, retF_f, retF_x, sSet_w, setF_v, setF_f, setF_x, sPar_w, parF_ok, endF_rf, endF_nf, endF_xf, endF_rt, endF_rt', endF_nt', endF_xt', hSeq_w, seqH_l, seqH_t, hRange1_w, rng1_ok, hEnum_w, enumH_ok, sFor_w, forF_ok, forL_n, forA_s, forB_n, forB_c, forB_b, forB_r, forB_x, gSet_w, sLc_w, lcF_ok, lcE_ok, lcL_n, sYes_w, sFld_w, sSetIx_w, sIxA_s, sIxB_s, sIxC_s, sIxD_s, sIxE_s, getPl_sl, setPl_sl, getS_w, Option.getD_some, sLm_w, lm0_s, lmA_s, lmB_s, lmC_s, sSl_w, slA_v, slA_f, slA_t, slL_s, slH_s, slC_s, oPart_w, oPF_s, oNone_w, sM1_w, m1A_s, m1B_s, m1C_s, lcA_s, lcB_f, lcB_t, lcC_ok, freeO_n, freeO_v, ownOk_n, ownOk_c, wipeE_n, wipeE_c, restE_n, restE_c, sDc_w, dcF_ok, dcE_ok, sSetF_w, stfA_ok, getPl_fd, gplF_i, setPl_fd, splF_i, sFldZ_w, mkB_r, mkB_x, mkA_ok, sMake_w, sFmt_w, webF_look, e, hs, ht, ha, webF_put]
theorem web_loop (a1 : Option O) (gs : List (List Nat)) (ws qs : List (Nat × Nat)) : ∀ (n j : Nat) (bs : List D) (a3 : Option O), bs.length + n ≤ 100 → ∃ bs' a3', forL (gSet 3) webBody ((List.range' j n).map fun i : Nat => D.int i) [some (.i "Web" (webF gs ws bs)), a1, some (.v (.lst (qs.map pD))), a3, none, none] = .next [some (.i "Web" (webF gs ws bs')), a1, some (.v (.lst (qs.map pD))), a3', none, none]
  | 0, j, bs, a3, _ => ⟨bs, a3, rfl⟩
  | n + 1, j, bs, a3, h => by
    obtain ⟨b, e⟩ := web_turn a1 gs ws qs bs j (by omega)
    obtain ⟨bs', a3', e2⟩ := web_loop a1 gs ws qs n (j + 1) (bs ++ [b]) (some (.v (.int j))) (by simp; omega)
    refine ⟨bs', a3', ?_⟩
    rw [List.range'_succ, List.map_cons, forL_c]
    simp only [runFn_w, LW.argsOk, O.isV, O.d, List.all_cons, List.all_nil, Bool.and_true, Bool.true_and, Bool.and_self, List.length_cons, List.length_nil, List.map_cons, List.map_nil, List.cons_append, List.nil_append, List.replicate_succ, List.replicate_zero, Nat.reduceAdd, Nat.reduceSub, Nat.zero_add, and_self, and_true, true_and, if_true, ite_true, if_false, ite_false, List.getElem?_cons_zero, List.getElem?_cons_succ, List.set_cons_zero, List.set_cons_succ, List.set_nil, Bool.false_eq_true, reduceIte, sVar_w, varF_v, varF_l, varF_k, sFrz_w, frzF_o, sMov_w, movF_o, sC_w, sFz_w, fzF_v, fzF_f, fzF_x, outP_s, opC_s, opB_ok, opB_x, sOp_w, opA_v, opA_f, opA_s, opA_x, rd_v, rd_s, rd_fv, rd_fl, rd_fk, sTB_w, tbF_b, tbF_x, sAndT_w, andT_t, andT_f, sOrT_w, orT_t, orT_f, sNotT_w, notT_ok, sAnd_w, andF_t, andF_f, sOr_w, orF_t, orF_f, sNot_w, notF_ok, sIfE_w, ifE_t, ifE_f, sChn_w, chA_v, chA_s, chB_ok, chB_s, chC_tv, chC_ts, chC_f, chD_ok, sNil_w, consB_ok, consB_x, sCons_w, consA_v, consA_x, sTup_w, tupF_ok, sLst_w, lstF_ok, sC1_w, c1A_ok, c1A_x, c1B_s, sCall_w, callA_ok, callA_x, callB_r, callB_x, sCallM_w, cm0_s, cmA_ok, cmB_s, cmC_r, cmC_x, sSeq_w, seqF_n, seqF_r, seqF_x, seqF_b, seqF_c, sIf_w, ifS_t, ifS_f, ifS_x, sExp_w, expF_ok, expF_x, sRet_w, retF_v, retF_f, retF_x, sSet_w, setF_v, setF_f, setF_x, sPar_w, parF_ok, endF_rf, endF_nf, endF_xf, endF_rt, endF_rt', endF_nt', endF_xt', hSeq_w, seqH_l, seqH_t, hRange1_w, rng1_ok, hEnum_w, enumH_ok, sFor_w, forF_ok, forL_n, forA_s, forB_n, forB_c, forB_b, forB_r, forB_x, gSet_w, sLc_w, lcF_ok, lcE_ok, lcL_n, sYes_w, sFld_w, sSetIx_w, sIxA_s, sIxB_s, sIxC_s, sIxD_s, sIxE_s, getPl_sl, setPl_sl, getS_w, Option.getD_some, sLm_w, lm0_s, lmA_s, lmB_s, lmC_s, sSl_w, slA_v, slA_f, slA_t, slL_s, slH_s, slC_s, oPart_w, oPF_s, oNone_w, sM1_w, m1A_s, m1B_s, m1C_s, lcA_s, lcB_f, lcB_t, lcC_ok, freeO_n, freeO_v, ownOk_n, ownOk_c, wipeE_n, wipeE_c, restE_n, restE_c, sDc_w, dcF_ok, dcE_ok, sSetF_w, stfA_ok, getPl_fd, gplF_i, setPl_fd, splF_i, sFldZ_w, mkB_r, mkB_x, mkA_ok, sMake_w, sFmt_w, e, e2]
theorem web_init (gs : List (List Nat)) (qs : List (Nat × Nat)) (hn : Names gs) (h1 : 1 ≤ gs.length) (h2 : gs.length ≤ 10) (hq : ∀ q ∈ qs, q.1 < q.2 ∧ q.2 < gs.length) (hd : qs.Nodup) :
    ∃ bs, sem_Web___init__ [.i "Web" [], .v (.lst (gs.map sS)), .v (.lst (qs.map pD))] = .ret (.v .non) [.i "Web" (webF gs (sortP qs) bs), .v (.lst (gs.map sS)), .v (.lst (qs.map pD))] := by
  obtain ⟨bs, a3, e⟩ := web_loop (some (.v (.lst (gs.map sS)))) gs (sortP qs) qs gs.length 0 [] none (by simp; omega)
  rw [← List.range_eq_range', ← rangeD_nat] at e
  have hg : ((gs.map sS).length : Int) = (gs.length : Int) := by simp
  let f1 : List (Str × O) := [("names", .v (.tup (gs.map sS)))]
  let f2 : List (Str × O) := [("names", .v (.tup (gs.map sS))), ("ways", .v (.tup ((sortP qs).map pD)))]
  have p1 : putO "names" (.v (.tup (gs.map sS))) [] = f1 := rfl
  have p2 : putO "ways" (.v (.tup ((sortP qs).map pD))) f1 = f2 := rfl
  have p3 : putO "beside" (.l []) f2 = webF gs (sortP qs) [] := rfl
  refine ⟨bs, ?_⟩
  unfold webBody at e
  unfold sem_Web___init__
  simp only [runFn_w, LW.argsOk, O.isV, O.d, List.all_cons, List.all_nil, Bool.and_true, Bool.true_and, Bool.and_self, List.length_cons, List.length_nil, List.map_cons, List.map_nil, List.cons_append, List.nil_append, List.replicate_succ, List.replicate_zero, Nat.reduceAdd, Nat.reduceSub, Nat.zero_add, and_self, and_true, true_and, if_true, ite_true, if_false, ite_false, List.getElem?_cons_zero, List.getElem?_cons_succ, List.set_cons_zero, List.set_cons_succ, List.set_nil, Bool.false_eq_true, reduceIte, sVar_w, varF_v, varF_l, varF_k, sFrz_w, frzF_o, sMov_w, movF_o, sC_w, sFz_w, fzF_v, fzF_f, fzF_x, outP_s, opC_s, opB_ok, opB_x, sOp_w, opA_v, opA_f, opA_s, opA_x, rd_v, rd_s, rd_fv, rd_fl, rd_fk, sTB_w, tbF_b, tbF_x, sAndT_w, andT_t, andT_f, sOrT_w, orT_t, orT_f, sNotT_w, notT_ok, sAnd_w, andF_t, andF_f, sOr_w, orF_t, orF_f, sNot_w, notF_ok, sIfE_w, ifE_t, ifE_f, sChn_w, chA_v, chA_s, chB_ok, chB_s, chC_tv, chC_ts, chC_f, chD_ok, sNil_w, consB_ok, consB_x, sCons_w, consA_v, consA_x, sTup_w, tupF_ok, sLst_w, lstF_ok, sC1_w, c1A_ok, c1A_x, c1B_s, sCall_w, callA_ok, callA_x, callB_r, callB_x, sCallM_w, cm0_s, cmA_ok, cmB_s, cmC_r, cmC_x, sSeq_w, seqF_n, seqF_r, seqF_x, seqF_b, seqF_c, sIf_w, ifS_t, ifS_f, ifS_x, sExp_w, expF_ok, expF_x, sRet_w, retF_v, retF_f, retF_x, sSet_w, setF_v, setF_f, setF_x, sPar_w, parF_ok, endF_rf, endF_nf, endF_xf, endF_rt, endF_rt', endF_nt', endF_xt', hSeq_w, seqH_l, seqH_t, hRange1_w, rng1_ok, hEnum_w, enumH_ok, sFor_w, forF_ok, forL_n, forA_s, forB_n, forB_c, forB_b, forB_r, forB_x, gSet_w, sLc_w, lcF_ok, lcE_ok, lcL_n, sYes_w, sFld_w, sSetIx_w, sIxA_s, sIxB_s, sIxC_s, sIxD_s, sIxE_s, getPl_sl, setPl_sl, getS_w, Option.getD_some, sLm_w, lm0_s, lmA_s, lmB_s, lmC_s, sSl_w, slA_v, slA_f, slA_t, slL_s, slH_s, slC_s, oPart_w, oPF_s, oNone_w, sM1_w, m1A_s, m1B_s, m1C_s, lcA_s, lcB_f, lcB_t, lcC_ok, freeO_n, freeO_v, ownOk_n, ownOk_c, wipeE_n, wipeE_c, restE_n, restE_c, sDc_w, dcF_ok, dcE_ok, sSetF_w, stfA_ok, getPl_fd, gplF_i, setPl_fd, splF_i, sFldZ_w, mkB_r, mkB_x, mkA_ok, sMake_w, sFmt_w, are_names gs hn h1 h2, Bool.not_true, len_lst, hg, pairs_below qs gs.length hq hd, gTuple, sorted_pairs, range_line (n := gs.length) (by omega), stfB_v (fs := []) (by simp), p1, stfB_v (fs := f1) (by simp [f1]), p2, stfB_f (fs := f2) (by simp [f2]), p3, e]
end SM

namespace SM
open PySem LW L2
def cPL : List Nat := [112, 108, 97, 99, 101, 32]
def cWY : List Nat := [119, 97, 121, 32]
def cEN : List Nat := [101, 110, 100]
def lineN (l : List Nat) : List Nat := cPL ++ l
def lineW (q : Nat × Nat) : List Nat := ((cWY ++ TL.numL q.1) ++ [32]) ++ TL.numL q.2
def linesOf (gs : List (List Nat)) (ws : List (Nat × Nat)) : List (List Nat) := gs.map lineN ++ ws.map lineW ++ [cEN]
def textOf (gs : List (List Nat)) (ws : List (Nat × Nat)) : List Nat := ((linesOf gs ws).map fun l => l ++ [10]).flatten
theorem num1 {n : Nat} (h : n < 10) : (TL.numL n).length ≤ 1 := TL.numL_len (by omega) (by omega)
theorem lineW_len {q : Nat × Nat} (h1 : q.1 < 10) (h2 : q.2 < 10) : (lineW q).length ≤ 7 := by
  have := num1 h1; have := num1 h2
  simp [lineW, cWY]; omega
theorem log_small {n : Nat} (h : n < 1000) : ((n : Int).natAbs).log2 < 1920 := by
  rw [Int.natAbs_natCast]
  by_cases h0 : n = 0
  · subst h0; decide
  · rw [Nat.log2_lt h0]
    exact Nat.lt_of_lt_of_le h (by decide +kernel)
theorem str_num {n : Nat} (h : n < 1000) : gStr (.int n) = some (.v (sS (TL.numL n))) := by
  show (if ((n : Int).natAbs).log2 < 1920 then some (P.v (.str (toString (n : Int)))) else none) = _
  rw [if_pos (log_small h)]
  congr 2
  unfold sS
  congr 1
  exact SX.num_S n
theorem join_sS {ls : List (List Nat)} (h1 : ∀ l ∈ ls, l.length ≤ 100) (h2 : ls.length ≤ 1000) : gJoin "" (.lst (ls.map sS)) = some (.v (sS ls.flatten)) := by
  have : ls.map sS = (ls.map SX.S).map .str := by rw [List.map_map]; rfl
  unfold gJoin
  simp only [seqOf, this, strsOf_map]
  have hs : ((ls.map SX.S).map (·.length)).sum ≤ 100 * ls.length := by
    clear this h2
    induction ls with
    | nil => simp
    | cons l r ih =>
      rw [List.map_cons, List.map_cons, List.sum_cons, SX.S_len]
      have := ih fun x hx => h1 x (List.mem_cons_of_mem _ hx)
      have := h1 l List.mem_cons_self
      rw [List.length_cons]; omega
  rw [if_pos, join_e]; rfl
  show _ + (ls.map SX.S).length * 0 ≤ 16777216
  omega
theorem add_lst {xs ys : List D} (h : xs.length + ys.length ≤ 100000) : gAdd (.lst xs) (.lst ys) = some (.f (.l (xs ++ ys))) := if_pos (Nat.le_trans h line_big)
theorem lenW (gs : List (List Nat)) (ws : List (Nat × Nat)) : (linesOf gs ws).length = gs.length + ws.length + 1 := by simp [linesOf]; omega
/-- what a web is for its text -/
structure WebOk (gs : List (List Nat)) (ws : List (Nat × Nat)) : Prop where
  nam : Names gs
  one : 1 ≤ gs.length
  ten : gs.length ≤ 10
  way : ∀ q ∈ ws, q.1 < q.2 ∧ q.2 < gs.length
  nd : ws.Nodup
  len : ws.length ≤ 100
theorem WebOk.lines {gs : List (List Nat)} {ws : List (Nat × Nat)} (w : WebOk gs ws) : ∀ l ∈ linesOf gs ws, l.length ≤ 20 := fun l hl => by
  unfold linesOf at hl
  rcases List.mem_append.mp hl with z | z
  · rcases List.mem_append.mp z with z | z
    · obtain ⟨g, hg, rfl⟩ := List.mem_map.mp z
      have := (isNam_len (w.nam.2 g hg)).2
      simp [lineN, cPL]; omega
    · obtain ⟨q, hq, rfl⟩ := List.mem_map.mp z
      have := w.way q hq
      have := w.ten
      have := lineW_len (q := q) (by omega) (by omega)
      omega
  · rw [List.mem_singleton.mp z]; simp [cEN]
theorem law_lines (gs : List (List Nat)) (qs : List (Nat × Nat)) (w : WebOk gs (sortP qs)) : sem__law_lines [.v (.lst (spD gs qs))] = .ret (.f (.l ((linesOf gs (sortP qs)).map sS))) [.v (.lst (spD gs qs))] := by
  have e1 := lcL_map (ow := [1]) (tg := gSet 1) (t := sYes) (f := sOp gAdd true (sC (.str "place ")) (sVar 1)) (φ := fun d => match d with | .str s => some (some (sS (lineN s.cps.toList))) | _ => none)
    (ρ0 := [some (.v (.lst (spD gs qs))), none, none, none]) (ds := gs.map sS) (acc := []) (fun d hd z hz => by
      obtain ⟨l, hl, rfl⟩ := List.mem_map.mp hd
      cases hz
      have hlen := (isNam_len (w.nam.2 l hl)).2
      have ea : gAdd (.str "place ") (sS l) = some (.v (sS (lineN l))) := add_S (a := cPL) (b := l) (by simp [cPL]; omega)
      refine ⟨_, [some (.v (.lst (spD gs qs))), some (.v (sS l)), none, none], rfl, ⟨_, rfl, ?_⟩, rfl⟩
      simp only [runFn_w, LW.argsOk, O.isV, O.d, List.all_cons, List.all_nil, Bool.and_true, Bool.true_and, Bool.and_self, List.length_cons, List.length_nil, List.map_cons, List.map_nil, List.cons_append, List.nil_append, List.replicate_succ, List.replicate_zero, Nat.reduceAdd, Nat.reduceSub, Nat.zero_add, and_self, and_true, true_and, if_true, ite_true, if_false, ite_false, List.getElem?_cons_zero, List.getElem?_cons_succ, List.set_cons_zero, List.set_cons_succ, List.set_nil, Bool.false_eq_true, reduceIte, sVar_w, varF_v, varF_l, varF_k, sFrz_w, frzF_o, sMov_w, movF_o, sC_w, sFz_w, fzF_v, fzF_f, fzF_x, outP_s, opC_s, opB_ok, opB_x, sOp_w, opA_v, opA_f, opA_s, opA_x, rd_v, rd_s, rd_fv, rd_fl, rd_fk, sTB_w, tbF_b, tbF_x, sAndT_w, andT_t, andT_f, sOrT_w, orT_t, orT_f, sNotT_w, notT_ok, sAnd_w, andF_t, andF_f, sOr_w, orF_t, orF_f, sNot_w, notF_ok, sIfE_w, ifE_t, ifE_f, sChn_w, chA_v, chA_s, chB_ok, chB_s, chC_tv, chC_ts, chC_f, chD_ok, sNil_w, consB_ok, consB_x, sCons_w, consA_v, consA_x, sTup_w, tupF_ok, sLst_w, lstF_ok, sC1_w, c1A_ok, c1A_x, c1B_s, sCall_w, callA_ok, callA_x, callB_r, callB_x, sCallM_w, cm0_s, cmA_ok, cmB_s, cmC_r, cmC_x, sSeq_w, seqF_n, seqF_r, seqF_x, seqF_b, seqF_c, sIf_w, ifS_t, ifS_f, ifS_x, sExp_w, expF_ok, expF_x, sRet_w, retF_v, retF_f, retF_x, sSet_w, setF_v, setF_f, setF_x, sPar_w, parF_ok, endF_rf, endF_nf, endF_xf, endF_rt, endF_rt', endF_nt', endF_xt', hSeq_w, seqH_l, seqH_t, hRange1_w, rng1_ok, hEnum_w, enumH_ok, sFor_w, forF_ok, forL_n, forA_s, forB_n, forB_c, forB_b, forB_r, forB_x, gSet_w, sLc_w, lcF_ok, lcE_ok, lcL_n, sYes_w, sFld_w, sSetIx_w, sIxA_s, sIxB_s, sIxC_s, sIxD_s, sIxE_s, getPl_sl, setPl_sl, getS_w, Option.getD_some, sLm_w, lm0_s, lmA_s, lmB_s, lmC_s, sSl_w, slA_v, slA_f, slA_t, slL_s, slH_s, slC_s, oPart_w, oPF_s, oNone_w, sM1_w, m1A_s, m1B_s, m1C_s, lcA_s, lcB_f, lcB_t, lcC_ok, freeO_n, freeO_v, ownOk_n, ownOk_c, wipeE_n, wipeE_c, restE_n, restE_c, sDc_w, dcF_ok, dcE_ok, sSetF_w, stfA_ok, getPl_fd, gplF_i, setPl_fd, splF_i, sFldZ_w, mkB_r, mkB_x, mkA_ok, sMake_w, sFmt_w, ea]) (lcMap_all (ψ := fun d => match d with | .str s => sS (lineN s.cps.toList) | d => d) fun d hd => by
        obtain ⟨l, hl, rfl⟩ := List.mem_map.mp hd; rfl)
  have e2 := lcL_map (ow := [2, 3]) (tg := gTupD 2 (gsCons (gSet 2) (gsCons (gSet 3) (gsNil)))) (t := sYes) (f := sOp gAdd true (sOp gAdd true (sOp gAdd true (sC (.str "way ")) (sC1 gStr (sVar 2))) (sC (.str " "))) (sC1 gStr (sVar 3)))
    (φ := fun d => match d with | .tup [.int a, .int b] => some (some (sS (lineW (a.toNat, b.toNat)))) | _ => none) (ρ0 := [some (.v (.lst (spD gs qs))), none, none, none]) (ds := (sortP qs).map pD) (acc := []) (fun d hd z hz => by
      obtain ⟨q, hq, rfl⟩ := List.mem_map.mp hd
      cases hz
      obtain ⟨h1, h2⟩ := w.way q hq
      have h10 := w.ten
      have n1 := num1 (n := q.1) (by omega)
      have n2 := num1 (n := q.2) (by omega)
      have a1 : gAdd (.str "way ") (sS (TL.numL q.1)) = some (.v (sS (cWY ++ TL.numL q.1))) := add_S (a := cWY) (by simp [cWY]; omega)
      have a2 : gAdd (sS (cWY ++ TL.numL q.1)) (.str " ") = some (.v (sS ((cWY ++ TL.numL q.1) ++ [32]))) := add_S (b := [32]) (by simp [cWY]; omega)
      have a3 : gAdd (sS ((cWY ++ TL.numL q.1) ++ [32])) (sS (TL.numL q.2)) = some (.v (sS (lineW q))) := add_S (by simp [cWY]; omega)
      refine ⟨_, [some (.v (.lst (spD gs qs))), none, some (.v (.int q.1)), some (.v (.int q.2))], rfl, ⟨_, rfl, ?_⟩, rfl⟩
      simp only [runFn_w, LW.argsOk, O.isV, O.d, List.all_cons, List.all_nil, Bool.and_true, Bool.true_and, Bool.and_self, List.length_cons, List.length_nil, List.map_cons, List.map_nil, List.cons_append, List.nil_append, List.replicate_succ, List.replicate_zero, Nat.reduceAdd, Nat.reduceSub, Nat.zero_add, and_self, and_true, true_and, if_true, ite_true, if_false, ite_false, List.getElem?_cons_zero, List.getElem?_cons_succ, List.set_cons_zero, List.set_cons_succ, List.set_nil, Bool.false_eq_true, reduceIte, sVar_w, varF_v, varF_l, varF_k, sFrz_w, frzF_o, sMov_w, movF_o, sC_w, sFz_w, fzF_v, fzF_f, fzF_x, outP_s, opC_s, opB_ok, opB_x, sOp_w, opA_v, opA_f, opA_s, opA_x, rd_v, rd_s, rd_fv, rd_fl, rd_fk, sTB_w, tbF_b, tbF_x, sAndT_w, andT_t, andT_f, sOrT_w, orT_t, orT_f, sNotT_w, notT_ok, sAnd_w, andF_t, andF_f, sOr_w, orF_t, orF_f, sNot_w, notF_ok, sIfE_w, ifE_t, ifE_f, sChn_w, chA_v, chA_s, chB_ok, chB_s, chC_tv, chC_ts, chC_f, chD_ok, sNil_w, consB_ok, consB_x, sCons_w, consA_v, consA_x, sTup_w, tupF_ok, sLst_w, lstF_ok, sC1_w, c1A_ok, c1A_x, c1B_s, sCall_w, callA_ok, callA_x, callB_r, callB_x, sCallM_w, cm0_s, cmA_ok, cmB_s, cmC_r, cmC_x, sSeq_w, seqF_n, seqF_r, seqF_x, seqF_b, seqF_c, sIf_w, ifS_t, ifS_f, ifS_x, sExp_w, expF_ok, expF_x, sRet_w, retF_v, retF_f, retF_x, sSet_w, setF_v, setF_f, setF_x, sPar_w, parF_ok, endF_rf, endF_nf, endF_xf, endF_rt, endF_rt', endF_nt', endF_xt', hSeq_w, seqH_l, seqH_t, hRange1_w, rng1_ok, hEnum_w, enumH_ok, sFor_w, forF_ok, forL_n, forA_s, forB_n, forB_c, forB_b, forB_r, forB_x, gSet_w, sLc_w, lcF_ok, lcE_ok, lcL_n, sYes_w, sFld_w, sSetIx_w, sIxA_s, sIxB_s, sIxC_s, sIxD_s, sIxE_s, getPl_sl, setPl_sl, getS_w, Option.getD_some, sLm_w, lm0_s, lmA_s, lmB_s, lmC_s, sSl_w, slA_v, slA_f, slA_t, slL_s, slH_s, slC_s, oPart_w, oPF_s, oNone_w, sM1_w, m1A_s, m1B_s, m1C_s, lcA_s, lcB_f, lcB_t, lcC_ok, freeO_n, freeO_v, ownOk_n, ownOk_c, wipeE_n, wipeE_c, restE_n, restE_c, sDc_w, dcF_ok, dcE_ok, sSetF_w, stfA_ok, getPl_fd, gplF_i, setPl_fd, splF_i, sFldZ_w, mkB_r, mkB_x, mkA_ok, sMake_w, sFmt_w, str_num (n := q.1) (by omega), str_num (n := q.2) (by omega), a1, a2, a3]
      rfl) (lcMap_all (ψ := fun d => match d with | .tup [.int a, .int b] => sS (lineW (a.toNat, b.toNat)) | d => d) fun d hd => by
        obtain ⟨l, hl, rfl⟩ := List.mem_map.mp hd; rfl)
  have i0 : gIx2 (.lst (spD gs qs)) (.int 0) = some (.v (.lst (gs.map sS))) := rfl
  have i1 : gIx2 (.lst (spD gs qs)) (.int 1) = some (.v (.lst (qs.map pD))) := rfl
  have m1 : List.map (fun d => match d with | .str s => sS (lineN s.cps.toList) | d => d) (gs.map sS) = (gs.map lineN).map sS := by
    rw [List.map_map, List.map_map]; rfl
  have m2 : List.map (fun d => match d with | .tup [.int a, .int b] => sS (lineW (a.toNat, b.toNat)) | d => d) ((sortP qs).map pD) = ((sortP qs).map lineW).map sS := by
    rw [List.map_map, List.map_map]; rfl
  have l10 := w.ten
  have l100 := w.len
  rw [m1] at e1
  rw [m2] at e2
  have j1 := add_lst (xs := (gs.map lineN).map sS) (ys := ((sortP qs).map lineW).map sS) (by simp; omega)
  have j2 := add_lst (xs := (gs.map lineN).map sS ++ ((sortP qs).map lineW).map sS) (ys := [.str "end"]) (by simp; omega)
  unfold sem__law_lines
  simp only [runFn_w, LW.argsOk, O.isV, O.d, List.all_cons, List.all_nil, Bool.and_true, Bool.true_and, Bool.and_self, List.length_cons, List.length_nil, List.map_cons, List.map_nil, List.cons_append, List.nil_append, List.replicate_succ, List.replicate_zero, Nat.reduceAdd, Nat.reduceSub, Nat.zero_add, and_self, and_true, true_and, if_true, ite_true, if_false, ite_false, List.getElem?_cons_zero, List.getElem?_cons_succ, List.set_cons_zero, List.set_cons_succ, List.set_nil, Bool.false_eq_true, reduceIte, sVar_w, varF_v, varF_l, varF_k, sFrz_w, frzF_o, sMov_w, movF_o, sC_w, sFz_w, fzF_v, fzF_f, fzF_x, outP_s, opC_s, opB_ok, opB_x, sOp_w, opA_v, opA_f, opA_s, opA_x, rd_v, rd_s, rd_fv, rd_fl, rd_fk, sTB_w, tbF_b, tbF_x, sAndT_w, andT_t, andT_f, sOrT_w, orT_t, orT_f, sNotT_w, notT_ok, sAnd_w, andF_t, andF_f, sOr_w, orF_t, orF_f, sNot_w, notF_ok, sIfE_w, ifE_t, ifE_f, sChn_w, chA_v, chA_s, chB_ok, chB_s, chC_tv, chC_ts, chC_f, chD_ok, sNil_w, consB_ok, consB_x, sCons_w, consA_v, consA_x, sTup_w, tupF_ok, sLst_w, lstF_ok, sC1_w, c1A_ok, c1A_x, c1B_s, sCall_w, callA_ok, callA_x, callB_r, callB_x, sCallM_w, cm0_s, cmA_ok, cmB_s, cmC_r, cmC_x, sSeq_w, seqF_n, seqF_r, seqF_x, seqF_b, seqF_c, sIf_w, ifS_t, ifS_f, ifS_x, sExp_w, expF_ok, expF_x, sRet_w, retF_v, retF_f, retF_x, sSet_w, setF_v, setF_f, setF_x, sPar_w, parF_ok, endF_rf, endF_nf, endF_xf, endF_rt, endF_rt', endF_nt', endF_xt', hSeq_w, seqH_l, seqH_t, hRange1_w, rng1_ok, hEnum_w, enumH_ok, sFor_w, forF_ok, forL_n, forA_s, forB_n, forB_c, forB_b, forB_r, forB_x, gSet_w, sLc_w, lcF_ok, lcE_ok, lcL_n, sYes_w, sFld_w, sSetIx_w, sIxA_s, sIxB_s, sIxC_s, sIxD_s, sIxE_s, getPl_sl, setPl_sl, getS_w, Option.getD_some, sLm_w, lm0_s, lmA_s, lmB_s, lmC_s, sSl_w, slA_v, slA_f, slA_t, slL_s, slH_s, slC_s, oPart_w, oPF_s, oNone_w, sM1_w, m1A_s, m1B_s, m1C_s, lcA_s, lcB_f, lcB_t, lcC_ok, freeO_n, freeO_v, ownOk_n, ownOk_c, wipeE_n, wipeE_c, restE_n, restE_c, sDc_w, dcF_ok, dcE_ok, sSetF_w, stfA_ok, getPl_fd, gplF_i, setPl_fd, splF_i, sFldZ_w, mkB_r, mkB_x, mkA_ok, sMake_w, sFmt_w, i0, e1, i1, sorted_pairs, e2, j1, j2]
  simp only [linesOf, List.map_append]
  rfl
end SM

namespace SM
open PySem LW L2
theorem feed_lines {ls : List (List Nat)} (h : ∀ l ∈ ls, l.length ≤ 99) {ρ0 : LW.Env} {i : Nat} (hi : i < ρ0.length) (hw : ρ0[i]? = some none) :
    lcL [i] (gSet i) sYes (sOp gAdd true (sVar i) (sC (.str "\n"))) (ls.map sS) [] ρ0 = .ok ((ls.map fun l => l ++ [10]).map sS) ρ0 := by
  have e := lcL_map (ow := [i]) (tg := gSet i) (t := sYes) (f := sOp gAdd true (sVar i) (sC (.str "\n"))) (φ := fun d => match d with | .str s => some (some (sS (s.cps.toList ++ [10]))) | _ => none)
    (ρ0 := ρ0) (ds := ls.map sS) (acc := []) (fun d hd z hz => by
      obtain ⟨l, hl, rfl⟩ := List.mem_map.mp hd
      cases hz
      have ea : gAdd (sS l) (.str "\n") = some (.v (sS (l ++ [10]))) := add_S (b := [10]) (by have := h l hl; simp; omega)
      refine ⟨_, ρ0.set i (some (.v (sS l))), rfl, ⟨_, rfl, ?_⟩, ?_⟩
      · have hs : (ρ0.set i (some (.v (sS l))))[i]? = some (some (.v (sS l))) := List.getElem?_set_self hi
        simp only [runFn_w, LW.argsOk, O.isV, O.d, List.all_cons, List.all_nil, Bool.and_true, Bool.true_and, Bool.and_self, List.length_cons, List.length_nil, List.map_cons, List.map_nil, List.cons_append, List.nil_append, List.replicate_succ, List.replicate_zero, Nat.reduceAdd, Nat.reduceSub, Nat.zero_add, and_self, and_true, true_and, if_true, ite_true, if_false, ite_false, List.getElem?_cons_zero, List.getElem?_cons_succ, List.set_cons_zero, List.set_cons_succ, List.set_nil, Bool.false_eq_true, reduceIte, sVar_w, varF_v, varF_l, varF_k, sFrz_w, frzF_o, sMov_w, movF_o, sC_w, sFz_w, fzF_v, fzF_f, fzF_x, outP_s, opC_s, opB_ok, opB_x, sOp_w, opA_v, opA_f, opA_s, opA_x, rd_v, rd_s, rd_fv, rd_fl, rd_fk, sTB_w, tbF_b, tbF_x, sAndT_w, andT_t, andT_f, sOrT_w, orT_t, orT_f, sNotT_w, notT_ok, sAnd_w, andF_t, andF_f, sOr_w, orF_t, orF_f, sNot_w, notF_ok, sIfE_w, ifE_t, ifE_f, sChn_w, chA_v, chA_s, chB_ok, chB_s, chC_tv, chC_ts, chC_f, chD_ok, sNil_w, consB_ok, consB_x, sCons_w, consA_v, consA_x, sTup_w, tupF_ok, sLst_w, lstF_ok, sC1_w, c1A_ok, c1A_x, c1B_s, sCall_w, callA_ok, callA_x, callB_r, callB_x, sCallM_w, cm0_s, cmA_ok, cmB_s, cmC_r, cmC_x, sSeq_w, seqF_n, seqF_r, seqF_x, seqF_b, seqF_c, sIf_w, ifS_t, ifS_f, ifS_x, sExp_w, expF_ok, expF_x, sRet_w, retF_v, retF_f, retF_x, sSet_w, setF_v, setF_f, setF_x, sPar_w, parF_ok, endF_rf, endF_nf, endF_xf, endF_rt, endF_rt', endF_nt', endF_xt', hSeq_w, seqH_l, seqH_t, hRange1_w, rng1_ok, hEnum_w, enumH_ok, sFor_w, forF_ok, forL_n, forA_s, forB_n, forB_c, forB_b, forB_r, forB_x, gSet_w, sLc_w, lcF_ok, lcE_ok, lcL_n, sYes_w, sFld_w, sSetIx_w, sIxA_s, sIxB_s, sIxC_s, sIxD_s, sIxE_s, getPl_sl, setPl_sl, getS_w, Option.getD_some, sLm_w, lm0_s, lmA_s, lmB_s, lmC_s, sSl_w, slA_v, slA_f, slA_t, slL_s, slH_s, slC_s, oPart_w, oPF_s, oNone_w, sM1_w, m1A_s, m1B_s, m1C_s, lcA_s, lcB_f, lcB_t, lcC_ok, freeO_n, freeO_v, ownOk_n, ownOk_c, wipeE_n, wipeE_c, restE_n, restE_c, sDc_w, dcF_ok, dcE_ok, sSetF_w, stfA_ok, getPl_fd, gplF_i, setPl_fd, splF_i, sFldZ_w, mkB_r, mkB_x, mkA_ok, sMake_w, sFmt_w, hs, ea]
      · show (ρ0.set i (some (.v (sS l)))).set i none = ρ0
        rw [List.set_set]
        refine List.ext_getElem? fun j => ?_
        by_cases hj : j = i
        · subst hj; rw [List.getElem?_set_self hi, hw]
        · rw [List.getElem?_set_ne (Ne.symm hj)]) (lcMap_all (ψ := fun d => match d with | .str s => sS (s.cps.toList ++ [10]) | d => d) fun d hd => by
        obtain ⟨l, hl, rfl⟩ := List.mem_map.mp hd; rfl)
  rw [e, List.nil_append, List.map_map, List.map_map]; rfl
theorem feed_join (gs : List (List Nat)) (ws : List (Nat × Nat)) (w : WebOk gs ws) : gJoin "" (.lst (((linesOf gs ws).map fun l => l ++ [10]).map sS)) = some (.v (sS (textOf gs ws))) :=
  join_sS (fun l hl => by
    obtain ⟨m, hm, rfl⟩ := List.mem_map.mp hl
    have := w.lines m hm
    simp; omega) (by have := w.ten; have := w.len; simp [linesOf]; omega)
theorem text_of (gs : List (List Nat)) (qs : List (Nat × Nat)) (w : WebOk gs (sortP qs)) : sem__law_text_of [.v (.lst (spD gs qs))] = .ret (.v (sS (textOf gs (sortP qs)))) [.v (.lst (spD gs qs))] := by
  have e := feed_lines (ls := linesOf gs (sortP qs)) (fun l hl => by have := w.lines l hl; omega) (ρ0 := [some (.v (.lst (spD gs qs))), none]) (i := 1) (by simp) rfl
  unfold sem__law_text_of
  simp only [runFn_w, LW.argsOk, O.isV, O.d, List.all_cons, List.all_nil, Bool.and_true, Bool.true_and, Bool.and_self, List.length_cons, List.length_nil, List.map_cons, List.map_nil, List.cons_append, List.nil_append, List.replicate_succ, List.replicate_zero, Nat.reduceAdd, Nat.reduceSub, Nat.zero_add, and_self, and_true, true_and, if_true, ite_true, if_false, ite_false, List.getElem?_cons_zero, List.getElem?_cons_succ, List.set_cons_zero, List.set_cons_succ, List.set_nil, Bool.false_eq_true, reduceIte, sVar_w, varF_v, varF_l, varF_k, sFrz_w, frzF_o, sMov_w, movF_o, sC_w, sFz_w, fzF_v, fzF_f, fzF_x, outP_s, opC_s, opB_ok, opB_x, sOp_w, opA_v, opA_f, opA_s, opA_x, rd_v, rd_s, rd_fv, rd_fl, rd_fk, sTB_w, tbF_b, tbF_x, sAndT_w, andT_t, andT_f, sOrT_w, orT_t, orT_f, sNotT_w, notT_ok, sAnd_w, andF_t, andF_f, sOr_w, orF_t, orF_f, sNot_w, notF_ok, sIfE_w, ifE_t, ifE_f, sChn_w, chA_v, chA_s, chB_ok, chB_s, chC_tv, chC_ts, chC_f, chD_ok, sNil_w, consB_ok, consB_x, sCons_w, consA_v, consA_x, sTup_w, tupF_ok, sLst_w, lstF_ok, sC1_w, c1A_ok, c1A_x, c1B_s, sCall_w, callA_ok, callA_x, callB_r, callB_x, sCallM_w, cm0_s, cmA_ok, cmB_s, cmC_r, cmC_x, sSeq_w, seqF_n, seqF_r, seqF_x, seqF_b, seqF_c, sIf_w, ifS_t, ifS_f, ifS_x, sExp_w, expF_ok, expF_x, sRet_w, retF_v, retF_f, retF_x, sSet_w, setF_v, setF_f, setF_x, sPar_w, parF_ok, endF_rf, endF_nf, endF_xf, endF_rt, endF_rt', endF_nt', endF_xt', hSeq_w, seqH_l, seqH_t, hRange1_w, rng1_ok, hEnum_w, enumH_ok, sFor_w, forF_ok, forL_n, forA_s, forB_n, forB_c, forB_b, forB_r, forB_x, gSet_w, sLc_w, lcF_ok, lcE_ok, lcL_n, sYes_w, sFld_w, sSetIx_w, sIxA_s, sIxB_s, sIxC_s, sIxD_s, sIxE_s, getPl_sl, setPl_sl, getS_w, Option.getD_some, sLm_w, lm0_s, lmA_s, lmB_s, lmC_s, sSl_w, slA_v, slA_f, slA_t, slL_s, slH_s, slC_s, oPart_w, oPF_s, oNone_w, sM1_w, m1A_s, m1B_s, m1C_s, lcA_s, lcB_f, lcB_t, lcC_ok, freeO_n, freeO_v, ownOk_n, ownOk_c, wipeE_n, wipeE_c, restE_n, restE_c, sDc_w, dcF_ok, dcE_ok, sSetF_w, stfA_ok, getPl_fd, gplF_i, setPl_fd, splF_i, sFldZ_w, mkB_r, mkB_x, mkA_ok, sMake_w, sFmt_w, law_lines gs qs w, e, feed_join gs (sortP qs) w]
def webD (gs : List (List Nat)) (ws : List (Nat × Nat)) (bs : List D) : D := .ins "Web" [("names", .tup (gs.map sS)), ("ways", .tup (ws.map pD)), ("beside", .lst bs)]
theorem webF_d {gs : List (List Nat)} {ws : List (Nat × Nat)} {bs : List D} : (O.i "Web" (webF gs ws bs)).d = webD gs ws bs := rfl
theorem fmt_num {n : Nat} (h : n < 1000) {ρ : LW.Env} : fmtF (.ok (.v (.int n)) ρ) = .ok (.v (sS (TL.numL n))) ρ := by
  rw [fmtF_i, if_pos (log_small h)]
  unfold sS
  congr 3
  exact SX.num_S n
theorem fmt_S {l : List Nat} (h : l.length ≤ 100000) {ρ : LW.Env} : fmtF (.ok (.v (sS l)) ρ) = .ok (.v (sS l)) ρ := by
  unfold sS
  rw [fmtF_s, if_pos (by rw [SX.S_len]; exact Nat.le_trans h line_big)]
theorem js_S {fs : List (LW.Env → Out P)} {a b : List Nat} (h : a.length + b.length ≤ 100000) {ρ : LW.Env} : jsB fs (SX.S a) (.ok (.v (sS b)) ρ) = sJs fs (SX.S (a ++ b)) ρ := by
  unfold sS
  rw [jsB_s, SX.S_cat, if_pos (by rw [SX.S_len, List.length_append]; exact Nat.le_trans h line_big)]
theorem sC_S {l : List Nat} {ρ : LW.Env} : (Out.ok (P.v (.str (SX.S l))) ρ) = .ok (.v (sS l)) ρ := rfl
theorem web_text (gs : List (List Nat)) (ws : List (Nat × Nat)) (bs : List D) (w : WebOk gs ws) : sem_web_text [.v (webD gs ws bs)] = .ret (.v (sS (textOf gs ws))) [.v (webD gs ws bs)] := by
  have e1 := lcL_map (ow := [2]) (tg := gSet 2) (t := sYes) (f := sJs [sC (.str "place "), sFmt (sVar 2)] Str.empty) (φ := fun d => match d with | .str s => some (some (sS (lineN s.cps.toList))) | _ => none)
    (ρ0 := [some (.v (webD gs ws bs)), none, none, none, none, none]) (ds := gs.map sS) (acc := []) (fun d hd z hz => by
      obtain ⟨l, hl, rfl⟩ := List.mem_map.mp hd
      cases hz
      have hlen := (isNam_len (w.nam.2 l hl)).2
      refine ⟨_, [some (.v (webD gs ws bs)), none, some (.v (sS l)), none, none, none], rfl, ⟨_, rfl, ?_⟩, rfl⟩
      rw [sFz_w, sJs_c, show Str.empty = SX.S [] from rfl]
      simp only [runFn_w, LW.argsOk, O.isV, O.d, List.all_cons, List.all_nil, Bool.and_true, Bool.true_and, Bool.and_self, List.length_cons, List.length_nil, List.map_cons, List.map_nil, List.cons_append, List.nil_append, List.replicate_succ, List.replicate_zero, Nat.reduceAdd, Nat.reduceSub, Nat.zero_add, and_self, and_true, true_and, if_true, ite_true, if_false, ite_false, List.getElem?_cons_zero, List.getElem?_cons_succ, List.set_cons_zero, List.set_cons_succ, List.set_nil, Bool.false_eq_true, reduceIte, sVar_w, varF_v, varF_l, varF_k, sFrz_w, frzF_o, sMov_w, movF_o, sC_w, sFz_w, fzF_v, fzF_f, fzF_x, outP_s, opC_s, opB_ok, opB_x, sOp_w, opA_v, opA_f, opA_s, opA_x, rd_v, rd_s, rd_fv, rd_fl, rd_fk, sTB_w, tbF_b, tbF_x, sAndT_w, andT_t, andT_f, sOrT_w, orT_t, orT_f, sNotT_w, notT_ok, sAnd_w, andF_t, andF_f, sOr_w, orF_t, orF_f, sNot_w, notF_ok, sIfE_w, ifE_t, ifE_f, sChn_w, chA_v, chA_s, chB_ok, chB_s, chC_tv, chC_ts, chC_f, chD_ok, sNil_w, consB_ok, consB_x, sCons_w, consA_v, consA_x, sTup_w, tupF_ok, sLst_w, lstF_ok, sC1_w, c1A_ok, c1A_x, c1B_s, sCall_w, callA_ok, callA_x, callB_r, callB_x, sCallM_w, cm0_s, cmA_ok, cmB_s, cmC_r, cmC_x, sSeq_w, seqF_n, seqF_r, seqF_x, seqF_b, seqF_c, sIf_w, ifS_t, ifS_f, ifS_x, sExp_w, expF_ok, expF_x, sRet_w, retF_v, retF_f, retF_x, sSet_w, setF_v, setF_f, setF_x, sPar_w, parF_ok, endF_rf, endF_nf, endF_xf, endF_rt, endF_rt', endF_nt', endF_xt', hSeq_w, seqH_l, seqH_t, hRange1_w, rng1_ok, hEnum_w, enumH_ok, sFor_w, forF_ok, forL_n, forA_s, forB_n, forB_c, forB_b, forB_r, forB_x, gSet_w, sLc_w, lcF_ok, lcE_ok, lcL_n, sYes_w, sFld_w, sSetIx_w, sIxA_s, sIxB_s, sIxC_s, sIxD_s, sIxE_s, getPl_sl, setPl_sl, getS_w, Option.getD_some, sLm_w, lm0_s, lmA_s, lmB_s, lmC_s, sSl_w, slA_v, slA_f, slA_t, slL_s, slH_s, slC_s, oPart_w, oPF_s, oNone_w, sM1_w, m1A_s, m1B_s, m1C_s, lcA_s, lcB_f, lcB_t, lcC_ok, freeO_n, freeO_v, ownOk_n, ownOk_c, wipeE_n, wipeE_c, restE_n, restE_c, sDc_w, dcF_ok, dcE_ok, sSetF_w, stfA_ok, getPl_fd, gplF_i, setPl_fd, splF_i, sFldZ_w, mkB_r, mkB_x, mkA_ok, sMake_w, sFmt_w]
      rw [show (Out.ok (P.v (.str "place ")) _ : Out P) = .ok (.v (sS cPL)) _ from rfl, js_S (by simp [cPL]), sJs_c]
      simp only [runFn_w, LW.argsOk, O.isV, O.d, List.all_cons, List.all_nil, Bool.and_true, Bool.true_and, Bool.and_self, List.length_cons, List.length_nil, List.map_cons, List.map_nil, List.cons_append, List.nil_append, List.replicate_succ, List.replicate_zero, Nat.reduceAdd, Nat.reduceSub, Nat.zero_add, and_self, and_true, true_and, if_true, ite_true, if_false, ite_false, List.getElem?_cons_zero, List.getElem?_cons_succ, List.set_cons_zero, List.set_cons_succ, List.set_nil, Bool.false_eq_true, reduceIte, sVar_w, varF_v, varF_l, varF_k, sFrz_w, frzF_o, sMov_w, movF_o, sC_w, sFz_w, fzF_v, fzF_f, fzF_x, outP_s, opC_s, opB_ok, opB_x, sOp_w, opA_v, opA_f, opA_s, opA_x, rd_v, rd_s, rd_fv, rd_fl, rd_fk, sTB_w, tbF_b, tbF_x, sAndT_w, andT_t, andT_f, sOrT_w, orT_t, orT_f, sNotT_w, notT_ok, sAnd_w, andF_t, andF_f, sOr_w, orF_t, orF_f, sNot_w, notF_ok, sIfE_w, ifE_t, ifE_f, sChn_w, chA_v, chA_s, chB_ok, chB_s, chC_tv, chC_ts, chC_f, chD_ok, sNil_w, consB_ok, consB_x, sCons_w, consA_v, consA_x, sTup_w, tupF_ok, sLst_w, lstF_ok, sC1_w, c1A_ok, c1A_x, c1B_s, sCall_w, callA_ok, callA_x, callB_r, callB_x, sCallM_w, cm0_s, cmA_ok, cmB_s, cmC_r, cmC_x, sSeq_w, seqF_n, seqF_r, seqF_x, seqF_b, seqF_c, sIf_w, ifS_t, ifS_f, ifS_x, sExp_w, expF_ok, expF_x, sRet_w, retF_v, retF_f, retF_x, sSet_w, setF_v, setF_f, setF_x, sPar_w, parF_ok, endF_rf, endF_nf, endF_xf, endF_rt, endF_rt', endF_nt', endF_xt', hSeq_w, seqH_l, seqH_t, hRange1_w, rng1_ok, hEnum_w, enumH_ok, sFor_w, forF_ok, forL_n, forA_s, forB_n, forB_c, forB_b, forB_r, forB_x, gSet_w, sLc_w, lcF_ok, lcE_ok, lcL_n, sYes_w, sFld_w, sSetIx_w, sIxA_s, sIxB_s, sIxC_s, sIxD_s, sIxE_s, getPl_sl, setPl_sl, getS_w, Option.getD_some, sLm_w, lm0_s, lmA_s, lmB_s, lmC_s, sSl_w, slA_v, slA_f, slA_t, slL_s, slH_s, slC_s, oPart_w, oPF_s, oNone_w, sM1_w, m1A_s, m1B_s, m1C_s, lcA_s, lcB_f, lcB_t, lcC_ok, freeO_n, freeO_v, ownOk_n, ownOk_c, wipeE_n, wipeE_c, restE_n, restE_c, sDc_w, dcF_ok, dcE_ok, sSetF_w, stfA_ok, getPl_fd, gplF_i, setPl_fd, splF_i, sFldZ_w, mkB_r, mkB_x, mkA_ok, sMake_w, sFmt_w, fmt_S (l := l) (by omega)]
      rw [js_S (by simp [cPL]; omega), sJs_n]
      rfl) (lcMap_all (ψ := fun d => match d with | .str s => sS (lineN s.cps.toList) | d => d) fun d hd => by
        obtain ⟨l, hl, rfl⟩ := List.mem_map.mp hd; rfl)
  have hN : (gs.map lineN).map sS = List.map (fun d => match d with | .str s => sS (lineN s.cps.toList) | d => d) (gs.map sS) := by
    rw [List.map_map, List.map_map]; rfl
  rw [← hN] at e1
  have e2 := lcL_map (ow := [3, 4]) (tg := gTupD 2 (gsCons (gSet 3) (gsCons (gSet 4) (gsNil)))) (t := sYes) (f := sJs [sC (.str "way "), sFmt (sVar 3), sC (.str " "), sFmt (sVar 4)] Str.empty)
    (φ := fun d => match d with | .tup [.int a, .int b] => some (some (sS (lineW (a.toNat, b.toNat)))) | _ => none) (ρ0 := [some (.v (webD gs ws bs)), some (.l ((gs.map lineN).map sS)), none, none, none, none]) (ds := ws.map pD) (acc := []) (fun d hd z hz => by
      obtain ⟨q, hq, rfl⟩ := List.mem_map.mp hd
      cases hz
      obtain ⟨h1, h2⟩ := w.way q hq
      have h10 := w.ten
      have n1 := num1 (n := q.1) (by omega)
      have n2 := num1 (n := q.2) (by omega)
      refine ⟨_, [some (.v (webD gs ws bs)), some (.l ((gs.map lineN).map sS)), none, some (.v (.int q.1)), some (.v (.int q.2)), none], rfl, ⟨_, rfl, ?_⟩, rfl⟩
      rw [sFz_w, sJs_c, show Str.empty = SX.S [] from rfl]
      simp only [runFn_w, LW.argsOk, O.isV, O.d, List.all_cons, List.all_nil, Bool.and_true, Bool.true_and, Bool.and_self, List.length_cons, List.length_nil, List.map_cons, List.map_nil, List.cons_append, List.nil_append, List.replicate_succ, List.replicate_zero, Nat.reduceAdd, Nat.reduceSub, Nat.zero_add, and_self, and_true, true_and, if_true, ite_true, if_false, ite_false, List.getElem?_cons_zero, List.getElem?_cons_succ, List.set_cons_zero, List.set_cons_succ, List.set_nil, Bool.false_eq_true, reduceIte, sVar_w, varF_v, varF_l, varF_k, sFrz_w, frzF_o, sMov_w, movF_o, sC_w, sFz_w, fzF_v, fzF_f, fzF_x, outP_s, opC_s, opB_ok, opB_x, sOp_w, opA_v, opA_f, opA_s, opA_x, rd_v, rd_s, rd_fv, rd_fl, rd_fk, sTB_w, tbF_b, tbF_x, sAndT_w, andT_t, andT_f, sOrT_w, orT_t, orT_f, sNotT_w, notT_ok, sAnd_w, andF_t, andF_f, sOr_w, orF_t, orF_f, sNot_w, notF_ok, sIfE_w, ifE_t, ifE_f, sChn_w, chA_v, chA_s, chB_ok, chB_s, chC_tv, chC_ts, chC_f, chD_ok, sNil_w, consB_ok, consB_x, sCons_w, consA_v, consA_x, sTup_w, tupF_ok, sLst_w, lstF_ok, sC1_w, c1A_ok, c1A_x, c1B_s, sCall_w, callA_ok, callA_x, callB_r, callB_x, sCallM_w, cm0_s, cmA_ok, cmB_s, cmC_r, cmC_x, sSeq_w, seqF_n, seqF_r, seqF_x, seqF_b, seqF_c, sIf_w, ifS_t, ifS_f, ifS_x, sExp_w, expF_ok, expF_x, sRet_w, retF_v, retF_f, retF_x, sSet_w, setF_v, setF_f, setF_x, sPar_w, parF_ok, endF_rf, endF_nf, endF_xf, endF_rt, endF_rt', endF_nt', endF_xt', hSeq_w, seqH_l, seqH_t, hRange1_w, rng1_ok, hEnum_w, enumH_ok, sFor_w, forF_ok, forL_n, forA_s, forB_n, forB_c, forB_b, forB_r, forB_x, gSet_w, sLc_w, lcF_ok, lcE_ok, lcL_n, sYes_w, sFld_w, sSetIx_w, sIxA_s, sIxB_s, sIxC_s, sIxD_s, sIxE_s, getPl_sl, setPl_sl, getS_w, Option.getD_some, sLm_w, lm0_s, lmA_s, lmB_s, lmC_s, sSl_w, slA_v, slA_f, slA_t, slL_s, slH_s, slC_s, oPart_w, oPF_s, oNone_w, sM1_w, m1A_s, m1B_s, m1C_s, lcA_s, lcB_f, lcB_t, lcC_ok, freeO_n, freeO_v, ownOk_n, ownOk_c, wipeE_n, wipeE_c, restE_n, restE_c, sDc_w, dcF_ok, dcE_ok, sSetF_w, stfA_ok, getPl_fd, gplF_i, setPl_fd, splF_i, sFldZ_w, mkB_r, mkB_x, mkA_ok, sMake_w, sFmt_w]
      rw [show (Out.ok (P.v (.str "way ")) _ : Out P) = .ok (.v (sS cWY)) _ from rfl, js_S (by simp [cWY]), sJs_c]
      simp only [runFn_w, LW.argsOk, O.isV, O.d, List.all_cons, List.all_nil, Bool.and_true, Bool.true_and, Bool.and_self, List.length_cons, List.length_nil, List.map_cons, List.map_nil, List.cons_append, List.nil_append, List.replicate_succ, List.replicate_zero, Nat.reduceAdd, Nat.reduceSub, Nat.zero_add, and_self, and_true, true_and, if_true, ite_true, if_false, ite_false, List.getElem?_cons_zero, List.getElem?_cons_succ, List.set_cons_zero, List.set_cons_succ, List.set_nil, Bool.false_eq_true, reduceIte, sVar_w, varF_v, varF_l, varF_k, sFrz_w, frzF_o, sMov_w, movF_o, sC_w, sFz_w, fzF_v, fzF_f, fzF_x, outP_s, opC_s, opB_ok, opB_x, sOp_w, opA_v, opA_f, opA_s, opA_x, rd_v, rd_s, rd_fv, rd_fl, rd_fk, sTB_w, tbF_b, tbF_x, sAndT_w, andT_t, andT_f, sOrT_w, orT_t, orT_f, sNotT_w, notT_ok, sAnd_w, andF_t, andF_f, sOr_w, orF_t, orF_f, sNot_w, notF_ok, sIfE_w, ifE_t, ifE_f, sChn_w, chA_v, chA_s, chB_ok, chB_s, chC_tv, chC_ts, chC_f, chD_ok, sNil_w, consB_ok, consB_x, sCons_w, consA_v, consA_x, sTup_w, tupF_ok, sLst_w, lstF_ok, sC1_w, c1A_ok, c1A_x, c1B_s, sCall_w, callA_ok, callA_x, callB_r, callB_x, sCallM_w, cm0_s, cmA_ok, cmB_s, cmC_r, cmC_x, sSeq_w, seqF_n, seqF_r, seqF_x, seqF_b, seqF_c, sIf_w, ifS_t, ifS_f, ifS_x, sExp_w, expF_ok, expF_x, sRet_w, retF_v, retF_f, retF_x, sSet_w, setF_v, setF_f, setF_x, sPar_w, parF_ok, endF_rf, endF_nf, endF_xf, endF_rt, endF_rt', endF_nt', endF_xt', hSeq_w, seqH_l, seqH_t, hRange1_w, rng1_ok, hEnum_w, enumH_ok, sFor_w, forF_ok, forL_n, forA_s, forB_n, forB_c, forB_b, forB_r, forB_x, gSet_w, sLc_w, lcF_ok, lcE_ok, lcL_n, sYes_w, sFld_w, sSetIx_w, sIxA_s, sIxB_s, sIxC_s, sIxD_s, sIxE_s, getPl_sl, setPl_sl, getS_w, Option.getD_some, sLm_w, lm0_s, lmA_s, lmB_s, lmC_s, sSl_w, slA_v, slA_f, slA_t, slL_s, slH_s, slC_s, oPart_w, oPF_s, oNone_w, sM1_w, m1A_s, m1B_s, m1C_s, lcA_s, lcB_f, lcB_t, lcC_ok, freeO_n, freeO_v, ownOk_n, ownOk_c, wipeE_n, wipeE_c, restE_n, restE_c, sDc_w, dcF_ok, dcE_ok, sSetF_w, stfA_ok, getPl_fd, gplF_i, setPl_fd, splF_i, sFldZ_w, mkB_r, mkB_x, mkA_ok, sMake_w, sFmt_w, fmt_num (n := q.1) (by omega)]
      rw [js_S (by simp [cWY]; omega), sJs_c]
      simp only [runFn_w, LW.argsOk, O.isV, O.d, List.all_cons, List.all_nil, Bool.and_true, Bool.true_and, Bool.and_self, List.length_cons, List.length_nil, List.map_cons, List.map_nil, List.cons_append, List.nil_append, List.replicate_succ, List.replicate_zero, Nat.reduceAdd, Nat.reduceSub, Nat.zero_add, and_self, and_true, true_and, if_true, ite_true, if_false, ite_false, List.getElem?_cons_zero, List.getElem?_cons_succ, List.set_cons_zero, List.set_cons_succ, List.set_nil, Bool.false_eq_true, reduceIte, sVar_w, varF_v, varF_l, varF_k, sFrz_w, frzF_o, sMov_w, movF_o, sC_w, sFz_w, fzF_v, fzF_f, fzF_x, outP_s, opC_s, opB_ok, opB_x, sOp_w, opA_v, opA_f, opA_s, opA_x, rd_v, rd_s, rd_fv, rd_fl, rd_fk, sTB_w, tbF_b, tbF_x, sAndT_w, andT_t, andT_f, sOrT_w, orT_t, orT_f, sNotT_w, notT_ok, sAnd_w, andF_t, andF_f, sOr_w, orF_t, orF_f, sNot_w, notF_ok, sIfE_w, ifE_t, ifE_f, sChn_w, chA_v, chA_s, chB_ok, chB_s, chC_tv, chC_ts, chC_f, chD_ok, sNil_w, consB_ok, consB_x, sCons_w, consA_v, consA_x, sTup_w, tupF_ok, sLst_w, lstF_ok, sC1_w, c1A_ok, c1A_x, c1B_s, sCall_w, callA_ok, callA_x, callB_r, callB_x, sCallM_w, cm0_s, cmA_ok, cmB_s, cmC_r, cmC_x, sSeq_w, seqF_n, seqF_r, seqF_x, seqF_b, seqF_c, sIf_w, ifS_t, ifS_f, ifS_x, sExp_w, expF_ok, expF_x, sRet_w, retF_v, retF_f, retF_x, sSet_w, setF_v, setF_f, setF_x, sPar_w, parF_ok, endF_rf, endF_nf, endF_xf, endF_rt, endF_rt', endF_nt', endF_xt', hSeq_w, seqH_l, seqH_t, hRange1_w, rng1_ok, hEnum_w, enumH_ok, sFor_w, forF_ok, forL_n, forA_s, forB_n, forB_c, forB_b, forB_r, forB_x, gSet_w, sLc_w, lcF_ok, lcE_ok, lcL_n, sYes_w, sFld_w, sSetIx_w, sIxA_s, sIxB_s, sIxC_s, sIxD_s, sIxE_s, getPl_sl, setPl_sl, getS_w, Option.getD_some, sLm_w, lm0_s, lmA_s, lmB_s, lmC_s, sSl_w, slA_v, slA_f, slA_t, slL_s, slH_s, slC_s, oPart_w, oPF_s, oNone_w, sM1_w, m1A_s, m1B_s, m1C_s, lcA_s, lcB_f, lcB_t, lcC_ok, freeO_n, freeO_v, ownOk_n, ownOk_c, wipeE_n, wipeE_c, restE_n, restE_c, sDc_w, dcF_ok, dcE_ok, sSetF_w, stfA_ok, getPl_fd, gplF_i, setPl_fd, splF_i, sFldZ_w, mkB_r, mkB_x, mkA_ok, sMake_w, sFmt_w]
      rw [show (Out.ok (P.v (.str " ")) _ : Out P) = .ok (.v (sS [32])) _ from rfl, js_S (by simp [cWY]; omega), sJs_c]
      simp only [runFn_w, LW.argsOk, O.isV, O.d, List.all_cons, List.all_nil, Bool.and_true, Bool.true_and, Bool.and_self, List.length_cons, List.length_nil, List.map_cons, List.map_nil, List.cons_append, List.nil_append, List.replicate_succ, List.replicate_zero, Nat.reduceAdd, Nat.reduceSub, Nat.zero_add, and_self, and_true, true_and, if_true, ite_true, if_false, ite_false, List.getElem?_cons_zero, List.getElem?_cons_succ, List.set_cons_zero, List.set_cons_succ, List.set_nil, Bool.false_eq_true, reduceIte, sVar_w, varF_v, varF_l, varF_k, sFrz_w, frzF_o, sMov_w, movF_o, sC_w, sFz_w, fzF_v, fzF_f, fzF_x, outP_s, opC_s, opB_ok, opB_x, sOp_w, opA_v, opA_f, opA_s, opA_x, rd_v, rd_s, rd_fv, rd_fl, rd_fk, sTB_w, tbF_b, tbF_x, sAndT_w, andT_t, andT_f, sOrT_w, orT_t, orT_f, sNotT_w, notT_ok, sAnd_w, andF_t, andF_f, sOr_w, orF_t, orF_f, sNot_w, notF_ok, sIfE_w, ifE_t, ifE_f, sChn_w, chA_v, chA_s, chB_ok, chB_s, chC_tv, chC_ts, chC_f, chD_ok, sNil_w, consB_ok, consB_x, sCons_w, consA_v, consA_x, sTup_w, tupF_ok, sLst_w, lstF_ok, sC1_w, c1A_ok, c1A_x, c1B_s, sCall_w, callA_ok, callA_x, callB_r, callB_x, sCallM_w, cm0_s, cmA_ok, cmB_s, cmC_r, cmC_x, sSeq_w, seqF_n, seqF_r, seqF_x, seqF_b, seqF_c, sIf_w, ifS_t, ifS_f, ifS_x, sExp_w, expF_ok, expF_x, sRet_w, retF_v, retF_f, retF_x, sSet_w, setF_v, setF_f, setF_x, sPar_w, parF_ok, endF_rf, endF_nf, endF_xf, endF_rt, endF_rt', endF_nt', endF_xt', hSeq_w, seqH_l, seqH_t, hRange1_w, rng1_ok, hEnum_w, enumH_ok, sFor_w, forF_ok, forL_n, forA_s, forB_n, forB_c, forB_b, forB_r, forB_x, gSet_w, sLc_w, lcF_ok, lcE_ok, lcL_n, sYes_w, sFld_w, sSetIx_w, sIxA_s, sIxB_s, sIxC_s, sIxD_s, sIxE_s, getPl_sl, setPl_sl, getS_w, Option.getD_some, sLm_w, lm0_s, lmA_s, lmB_s, lmC_s, sSl_w, slA_v, slA_f, slA_t, slL_s, slH_s, slC_s, oPart_w, oPF_s, oNone_w, sM1_w, m1A_s, m1B_s, m1C_s, lcA_s, lcB_f, lcB_t, lcC_ok, freeO_n, freeO_v, ownOk_n, ownOk_c, wipeE_n, wipeE_c, restE_n, restE_c, sDc_w, dcF_ok, dcE_ok, sSetF_w, stfA_ok, getPl_fd, gplF_i, setPl_fd, splF_i, sFldZ_w, mkB_r, mkB_x, mkA_ok, sMake_w, sFmt_w, fmt_num (n := q.2) (by omega)]
      rw [js_S (by simp [cWY]; omega), sJs_n]
      rfl) (lcMap_all (ψ := fun d => match d with | .tup [.int a, .int b] => sS (lineW (a.toNat, b.toNat)) | d => d) fun d hd => by
        obtain ⟨l, hl, rfl⟩ := List.mem_map.mp hd; rfl)
  have hW : (ws.map lineW).map sS = List.map (fun d => match d with | .tup [.int a, .int b] => sS (lineW (a.toNat, b.toNat)) | d => d) (ws.map pD) := by
    rw [List.map_map, List.map_map]; rfl
  rw [← hW] at e2
  have l10 := w.ten
  have l100 := w.len
  have j1 := add_lst (xs := (gs.map lineN).map sS) (ys := (ws.map lineW).map sS) (by simp; omega)
  have j2 := add_lst (xs := (gs.map lineN).map sS ++ (ws.map lineW).map sS) (ys := [.str "end"]) (by simp; omega)
  have hL : (gs.map lineN).map sS ++ (ws.map lineW).map sS ++ [D.str "end"] = (linesOf gs ws).map sS := by
    simp only [linesOf, List.map_append]; rfl
  have f1 : ∀ ρ : LW.Env, fldF "Web" "names" (some (.v (webD gs ws bs))) ρ = .ok (.v (.tup (gs.map sS))) ρ := fun ρ => fldF_v rfl
  have f2 : ∀ ρ : LW.Env, fldF "Web" "ways" (some (.v (webD gs ws bs))) ρ = .ok (.v (.tup (ws.map pD))) ρ := fun ρ => fldF_v rfl
  have e3 := feed_lines (ls := linesOf gs ws) (fun l hl => by have := w.lines l hl; omega) (ρ0 := [some (.v (webD gs ws bs)), some (.v (.lst ((linesOf gs ws).map sS))), none, none, none, none]) (i := 5) (by simp) rfl
  unfold sem_web_text
  simp only [runFn_w, LW.argsOk, O.isV, O.d, List.all_cons, List.all_nil, Bool.and_true, Bool.true_and, Bool.and_self, List.length_cons, List.length_nil, List.map_cons, List.map_nil, List.cons_append, List.nil_append, List.replicate_succ, List.replicate_zero, Nat.reduceAdd, Nat.reduceSub, Nat.zero_add, and_self, and_true, true_and, if_true, ite_true, if_false, ite_false, List.getElem?_cons_zero, List.getElem?_cons_succ, List.set_cons_zero, List.set_cons_succ, List.set_nil, Bool.false_eq_true, reduceIte, sVar_w, varF_v, varF_l, varF_k, sFrz_w, frzF_o, sMov_w, movF_o, sC_w, sFz_w, fzF_v, fzF_f, fzF_x, outP_s, opC_s, opB_ok, opB_x, sOp_w, opA_v, opA_f, opA_s, opA_x, rd_v, rd_s, rd_fv, rd_fl, rd_fk, sTB_w, tbF_b, tbF_x, sAndT_w, andT_t, andT_f, sOrT_w, orT_t, orT_f, sNotT_w, notT_ok, sAnd_w, andF_t, andF_f, sOr_w, orF_t, orF_f, sNot_w, notF_ok, sIfE_w, ifE_t, ifE_f, sChn_w, chA_v, chA_s, chB_ok, chB_s, chC_tv, chC_ts, chC_f, chD_ok, sNil_w, consB_ok, consB_x, sCons_w, consA_v, consA_x, sTup_w, tupF_ok, sLst_w, lstF_ok, sC1_w, c1A_ok, c1A_x, c1B_s, sCall_w, callA_ok, callA_x, callB_r, callB_x, sCallM_w, cm0_s, cmA_ok, cmB_s, cmC_r, cmC_x, sSeq_w, seqF_n, seqF_r, seqF_x, seqF_b, seqF_c, sIf_w, ifS_t, ifS_f, ifS_x, sExp_w, expF_ok, expF_x, sRet_w, retF_v, retF_f, retF_x, sSet_w, setF_v, setF_f, setF_x, sPar_w, parF_ok, endF_rf, endF_nf, endF_xf, endF_rt, endF_rt', endF_nt', endF_xt', hSeq_w, seqH_l, seqH_t, hRange1_w, rng1_ok, hEnum_w, enumH_ok, sFor_w, forF_ok, forL_n, forA_s, forB_n, forB_c, forB_b, forB_r, forB_x, gSet_w, sLc_w, lcF_ok, lcE_ok, lcL_n, sYes_w, sFld_w, sSetIx_w, sIxA_s, sIxB_s, sIxC_s, sIxD_s, sIxE_s, getPl_sl, setPl_sl, getS_w, Option.getD_some, sLm_w, lm0_s, lmA_s, lmB_s, lmC_s, sSl_w, slA_v, slA_f, slA_t, slL_s, slH_s, slC_s, oPart_w, oPF_s, oNone_w, sM1_w, m1A_s, m1B_s, m1C_s, lcA_s, lcB_f, lcB_t, lcC_ok, freeO_n, freeO_v, ownOk_n, ownOk_c, wipeE_n, wipeE_c, restE_n, restE_c, sDc_w, dcF_ok, dcE_ok, sSetF_w, stfA_ok, getPl_fd, gplF_i, setPl_fd, splF_i, sFldZ_w, mkB_r, mkB_x, mkA_ok, sMake_w, sFmt_w, f1, e1, f2, e2, j1, j2, hL, e3, feed_join gs ws w]
end SM

namespace SM
open PySem LW L2
theorem number_in {n : Nat} (h : n < 10) : sem_number_in [.v (sS (TL.numL n))] = .ret (.v (.int n)) [.v (sS (TL.numL n))] := by
  rw [TL.numL_lt h]
  match n, h with
  | 0, _ => kernel_rfl
  | 1, _ => kernel_rfl
  | 2, _ => kernel_rfl
  | 3, _ => kernel_rfl
  | 4, _ => kernel_rfl
  | 5, _ => kernel_rfl
  | 6, _ => kernel_rfl
  | 7, _ => kernel_rfl
  | 8, _ => kernel_rfl
  | 9, _ => kernel_rfl
/-! words of lines -/
theorem split_sp {a : List Nat} {ps : List (List Nat)} (hl : a.length ≤ 100000) (h : TL.spl [32] 0 [] a = ps) : gSplit (SX.S a) (.str " ") = some (.f (.l (ps.map sS))) := by
  show (if ((" " : Str).length == 0) = false ∧ (SX.S a).length + 2 ≤ sizeLine then some (P.f (.l ((Txt.split (SX.S a) " ").map .str))) else none) = _
  rw [if_pos ⟨rfl, by rw [SX.S_len]; have := line_big; rw [sizeLine_eq] at *; omega⟩]
  rw [show (" " : Str) = SX.S [32] from rfl, SX.split_S (by simp) (by decide), h, List.map_map]
  rfl
theorem no32 {l : List Nat} (h : ∀ c ∈ l, Letter c) : 32 ∉ l := fun z => by have := (h 32 z).1; omega
theorem num32 {n : Nat} : 32 ∉ TL.numL n := TL.numL_free (.inl (by omega))
theorem num10 {n : Nat} : 10 ∉ TL.numL n := TL.numL_free (.inl (by omega))
theorem wordsN {l : List Nat} (h : ∀ c ∈ l, Letter c) : TL.spl [32] 0 [] (lineN l) = [[112, 108, 97, 99, 101], l] := by
  have := SX.spl_join (c := 32) (sep := []) (parts := [[112, 108, 97, 99, 101], l]) (by simp) (fun p hp => by
    simp only [List.mem_cons, List.not_mem_nil, or_false] at hp
    rcases hp with rfl | rfl
    · decide
    · exact no32 h)
  exact this
theorem wordsW (q : Nat × Nat) : TL.spl [32] 0 [] (lineW q) = [[119, 97, 121], TL.numL q.1, TL.numL q.2] := by
  have := SX.spl_join (c := 32) (sep := []) (parts := [[119, 97, 121], TL.numL q.1, TL.numL q.2]) (by simp) (fun p hp => by
    simp only [List.mem_cons, List.not_mem_nil, or_false] at hp
    rcases hp with rfl | rfl | rfl
    · decide
    · exact num32
    · exact num32)
  rw [← this]
  congr 1
  simp [lineW, cWY, TL.joinL]
theorem wordsE : TL.spl [32] 0 [] cEN = [[101, 110, 100]] := by
  have := SX.spl_join (c := 32) (sep := []) (parts := [[101, 110, 100]]) (by simp) (fun p hp => by
    rw [List.mem_singleton.mp hp]; decide)
  exact this
theorem joinL_feed : ∀ ls : List (List Nat), TL.joinL [10] (ls ++ [[]]) = (ls.map fun l => l ++ [10]).flatten
  | [] => rfl
  | [l] => by simp [TL.joinL]
  | l :: m :: r => by
    show l ++ ([10] ++ TL.joinL [10] (m :: r ++ [[]])) = _
    rw [joinL_feed (m :: r)]
    simp
theorem no10 {gs : List (List Nat)} {ws : List (Nat × Nat)} (w : WebOk gs ws) : ∀ l ∈ linesOf gs ws, 10 ∉ l := fun l hl => by
  unfold linesOf at hl
  rcases List.mem_append.mp hl with z | z
  · rcases List.mem_append.mp z with z | z
    · obtain ⟨g, hg, rfl⟩ := List.mem_map.mp z
      have hL := isNam_let (w.nam.2 g hg)
      intro h
      rcases List.mem_append.mp h with y | y
      · revert y; decide
      · have := (hL 10 y).1; omega
    · obtain ⟨q, hq, rfl⟩ := List.mem_map.mp z
      intro h
      simp only [lineW, List.mem_append] at h
      rcases h with ((h | h) | h) | h
      · revert h; decide
      · exact num10 h
      · revert h; decide
      · exact num10 h
  · rw [List.mem_singleton.mp z]; decide
theorem split_text (gs : List (List Nat)) (ws : List (Nat × Nat)) (w : WebOk gs ws) : gSplit (SX.S (textOf gs ws)) (.str "\n") = some (.f (.l ((linesOf gs ws ++ [[]]).map sS))) := by
  have hj : textOf gs ws = TL.joinL [10] (linesOf gs ws ++ [[]]) := (joinL_feed _).symm
  have hs : TL.spl [10] 0 [] (textOf gs ws) = linesOf gs ws ++ [[]] := by
    rw [hj]
    exact SX.spl_join (c := 10) (sep := []) (by simp) fun p hp => by
      rcases List.mem_append.mp hp with z | z
      · exact no10 w p z
      · rw [List.mem_singleton.mp z]; simp
  have hlen : (textOf gs ws).length ≤ 100000 := by
    have h1 := w.lines
    have : ∀ ls : List (List Nat), (∀ l ∈ ls, l.length ≤ 20) → ((ls.map fun l => l ++ [10]).flatten).length ≤ 21 * ls.length := by
      intro ls
      induction ls with
      | nil => simp
      | cons l r ih =>
        intro h
        have := ih fun x hx => h x (List.mem_cons_of_mem _ hx)
        have := h l List.mem_cons_self
        simp at *; omega
    have := this _ h1
    have := w.ten; have := w.len
    rw [lenW] at *
    unfold textOf; omega
  show (if (("\n" : Str).length == 0) = false ∧ (SX.S (textOf gs ws)).length + 2 ≤ sizeLine then some (P.f (.l ((Txt.split (SX.S (textOf gs ws)) "\n").map .str))) else none) = _
  rw [if_pos ⟨rfl, by rw [SX.S_len]; rw [sizeLine_eq]; omega⟩]
  rw [show ("\n" : Str) = SX.S [10] from rfl, SX.split_S (by simp) (by decide), hs, List.map_map]
  rfl
end SM

namespace SM
open PySem LW L2
def rF (ns : List (List Nat)) (qs : List (Nat × Nat)) (e : Bool) : List (Str × O) := [("read_names", .l (ns.map sS)), ("read_ways", .l (qs.map pD)), ("ended", .v (.bl e))]
def rO (ns : List (List Nat)) (qs : List (Nat × Nat)) (e : Bool) : O := .i "LineReader" (rF ns qs e)
section
variable {ns : List (List Nat)} {qs : List (Nat × Nat)} {e e' : Bool} {ρ : LW.Env}
theorem rL1 : lookO "read_names" (rF ns qs e) = some (.l (ns.map sS)) := rfl
theorem rL2 : lookO "read_ways" (rF ns qs e) = some (.l (qs.map pD)) := rfl
theorem rL3 : lookO "ended" (rF ns qs e) = some (.v (.bl e)) := rfl
theorem rL4 : lookO "takes" (rF ns qs e) = none := rfl
theorem rP1 {l : List Nat} : putO "read_names" (.l ((ns ++ [l]).map sS)) (rF ns qs e) = rF (ns ++ [l]) qs e := rfl
theorem rP2 {q : Nat × Nat} : putO "read_ways" (.l ((qs ++ [q]).map pD)) (rF ns qs e) = rF ns (qs ++ [q]) e := rfl
theorem rP3 : putO "ended" (.v (.bl e')) (rF ns qs e) = rF ns qs e' := rfl
theorem rF1 : fldF "LineReader" "ended" (some (.i "LineReader" (rF ns qs e))) ρ = .ok (.v (.bl e)) ρ := fldF_iv rL3
theorem rF2 : fldF "LineReader" "read_ways" (some (.i "LineReader" (rF ns qs e))) ρ = .ok (.s (.lst (qs.map pD))) ρ := fldF_il rL2
theorem rF3 : fldF "LineReader" "read_names" (some (.i "LineReader" (rF ns qs e))) ρ = .ok (.s (.lst (ns.map sS))) ρ := fldF_il rL1
theorem rZ3 {i : Nat} : fzA i "LineReader" "ended" (some (.i "LineReader" (rF ns qs e))) ρ = .ok (.v (.bl e)) (ρ.set i (some (.i "LineReader" (rF ns qs e)))) := fzA_i rL3
end
theorem gEq_S (a b : List Nat) : gEq (sS a) (sS b) = some (.v (.bl (decide (a = b)))) := by
  show some (P.v (.bl (decide (SX.S a = SX.S b)))) = _
  congr 3
  exact decide_eq_decide.mpr ⟨SX.S_inj, fun h => by rw [h]⟩
theorem reader0 : sem_LineReader___init__ [.i "LineReader" []] = .ret (.v .non) [rO [] [] false] := by
  let f1 : List (Str × O) := [("read_names", .l [])]
  let f2 : List (Str × O) := [("read_names", .l []), ("read_ways", .l [])]
  have p1 : putO "read_names" (.l []) [] = f1 := rfl
  have p2 : putO "read_ways" (.l []) f1 = f2 := rfl
  have p3 : putO "ended" (.v (.bl false)) f2 = rF [] [] false := rfl
  unfold sem_LineReader___init__ rO
  simp only [runFn_w, LW.argsOk, O.isV, O.d, List.all_cons, List.all_nil, Bool.and_true, Bool.true_and, Bool.and_self, List.length_cons, List.length_nil, List.map_cons, List.map_nil, List.cons_append, List.nil_append, List.replicate_succ, List.replicate_zero, Nat.reduceAdd, Nat.reduceSub, Nat.zero_add, and_self, and_true, true_and, if_true, ite_true, if_false, ite_false, List.getElem?_cons_zero, List.getElem?_cons_succ, List.set_cons_zero, List.set_cons_succ, List.set_nil, Bool.false_eq_true, reduceIte, sVar_w, varF_v, varF_l, varF_k, sFrz_w, frzF_o, sMov_w, movF_o, sC_w, sFz_w, fzF_v, fzF_f, fzF_x, outP_s, opC_s, opB_ok, opB_x, sOp_w, opA_v, opA_f, opA_s, opA_x, rd_v, rd_s, rd_fv, rd_fl, rd_fk, sTB_w, tbF_b, tbF_x, sAndT_w, andT_t, andT_f, sOrT_w, orT_t, orT_f, sNotT_w, notT_ok, sAnd_w, andF_t, andF_f, sOr_w, orF_t, orF_f, sNot_w, notF_ok, sIfE_w, ifE_t, ifE_f, sChn_w, chA_v, chA_s, chB_ok, chB_s, chC_tv, chC_ts, chC_f, chD_ok, sNil_w, consB_ok, consB_x, sCons_w, consA_v, consA_x, sTup_w, tupF_ok, sLst_w, lstF_ok, sC1_w, c1A_ok, c1A_x, c1B_s, sCall_w, callA_ok, callA_x, callB_r, callB_x, sCallM_w, cm0_s, cmA_ok, cmB_s, cmC_r, cmC_x, sSeq_w, seqF_n, seqF_r, seqF_x, seqF_b, seqF_c, sIf_w, ifS_t, ifS_f, ifS_x, sExp_w, expF_ok, expF_x, sRet_w, retF_v, retF_f, retF_x, sSet_w, setF_v, setF_f, setF_x, sPar_w, parF_ok, endF_rf, endF_nf, endF_xf, endF_rt, endF_rt', endF_nt', endF_xt', hSeq_w, seqH_l, seqH_t, hRange1_w, rng1_ok, hEnum_w, enumH_ok, sFor_w, forF_ok, forL_n, forA_s, forB_n, forB_c, forB_b, forB_r, forB_x, gSet_w, sLc_w, lcF_ok, lcE_ok, lcL_n, sYes_w, sFld_w, sSetIx_w, sIxA_s, sIxB_s, sIxC_s, sIxD_s, sIxE_s, getPl_sl, setPl_sl, getS_w, Option.getD_some, sLm_w, lm0_s, lmA_s, lmB_s, lmC_s, sSl_w, slA_v, slA_f, slA_t, slL_s, slH_s, slC_s, oPart_w, oPF_s, oNone_w, sM1_w, m1A_s, m1B_s, m1C_s, lcA_s, lcB_f, lcB_t, lcC_ok, freeO_n, freeO_v, ownOk_n, ownOk_c, wipeE_n, wipeE_c, restE_n, restE_c, sDc_w, dcF_ok, dcE_ok, sSetF_w, stfA_ok, getPl_fd, gplF_i, setPl_fd, splF_i, sFldZ_w, mkB_r, mkB_x, mkA_ok, sMake_w, sFmt_w, stfB_f (fs := []) (by simp), p1, stfB_f (fs := f1) (by simp [f1]), p2, stfB_v (fs := f2) (by simp [f2]), p3]
def wPL : List Nat := [112, 108, 97, 99, 101]
def wWY : List Nat := [119, 97, 121]
theorem takesN (ns : List (List Nat)) (l : List Nat) (hl : isNam l = true) (hn : ns.length ≤ 100) :
    sem_LineReader_takes [rO ns [] false, .v (.lst ([wPL, l].map sS))] = .ret (.v (.bl true)) [rO (ns ++ [l]) [] false, .v (.lst ([wPL, l].map sS))] := by
  generalize hws : [wPL, l].map sS = ws
  have i0 : gIx2 (.lst ws) (.int 0) = some (.v (sS wPL)) := by rw [← hws]; rfl
  have i1 : gIx2 (.lst ws) (.int 1) = some (.v (sS l)) := by rw [← hws]; rfl
  have q0 : gEq (sS wPL) (.str "place") = some (.v (.bl true)) := (gEq_S wPL wPL).trans (by rw [decide_eq_true rfl])
  have l2 : gLen2 (.lst ws) = some (.v (.int 2)) := by rw [← hws]; rfl
  have l0 : gLen2 (.lst []) = some (.v (.int 0)) := rfl
  have ha : gApp (ns.map sS) (sS l) = some (.non, (ns ++ [l]).map sS) := by
    show (if (ns.map sS).length < sizeLine then some (D.non, ns.map sS ++ [sS l]) else none) = _
    rw [if_pos (by have := line_big; simp; omega)]; simp
  have en := name l (by have := (isNam_len hl).2; omega) (okl_let (isNam_let hl))
  rw [hl] at en
  unfold sem_LineReader_takes rO
  simp only [runFn_w, LW.argsOk, O.isV, O.d, List.all_cons, List.all_nil, Bool.and_true, Bool.true_and, Bool.and_self, List.length_cons, List.length_nil, List.map_cons, List.map_nil, List.cons_append, List.nil_append, List.replicate_succ, List.replicate_zero, Nat.reduceAdd, Nat.reduceSub, Nat.zero_add, and_self, and_true, true_and, if_true, ite_true, if_false, ite_false, List.getElem?_cons_zero, List.getElem?_cons_succ, List.set_cons_zero, List.set_cons_succ, List.set_nil, Bool.false_eq_true, reduceIte, sVar_w, varF_v, varF_l, varF_k, sFrz_w, frzF_o, sMov_w, movF_o, sC_w, sFz_w, fzF_v, fzF_f, fzF_x, outP_s, opC_s, opB_ok, opB_x, sOp_w, opA_v, opA_f, opA_s, opA_x, rd_v, rd_s, rd_fv, rd_fl, rd_fk, sTB_w, tbF_b, tbF_x, sAndT_w, andT_t, andT_f, sOrT_w, orT_t, orT_f, sNotT_w, notT_ok, sAnd_w, andF_t, andF_f, sOr_w, orF_t, orF_f, sNot_w, notF_ok, sIfE_w, ifE_t, ifE_f, sChn_w, chA_v, chA_s, chB_ok, chB_s, chC_tv, chC_ts, chC_f, chD_ok, sNil_w, consB_ok, consB_x, sCons_w, consA_v, consA_x, sTup_w, tupF_ok, sLst_w, lstF_ok, sC1_w, c1A_ok, c1A_x, c1B_s, sCall_w, callA_ok, callA_x, callB_r, callB_x, sCallM_w, cm0_s, cmA_ok, cmB_s, cmC_r, cmC_x, sSeq_w, seqF_n, seqF_r, seqF_x, seqF_b, seqF_c, sIf_w, ifS_t, ifS_f, ifS_x, sExp_w, expF_ok, expF_x, sRet_w, retF_v, retF_f, retF_x, sSet_w, setF_v, setF_f, setF_x, sPar_w, parF_ok, endF_rf, endF_nf, endF_xf, endF_rt, endF_rt', endF_nt', endF_xt', hSeq_w, seqH_l, seqH_t, hRange1_w, rng1_ok, hEnum_w, enumH_ok, sFor_w, forF_ok, forL_n, forA_s, forB_n, forB_c, forB_b, forB_r, forB_x, gSet_w, sLc_w, lcF_ok, lcE_ok, lcL_n, sYes_w, sFld_w, sSetIx_w, sIxA_s, sIxB_s, sIxC_s, sIxD_s, sIxE_s, getPl_sl, setPl_sl, getS_w, Option.getD_some, sLm_w, lm0_s, lmA_s, lmB_s, lmC_s, sSl_w, slA_v, slA_f, slA_t, slL_s, slH_s, slC_s, oPart_w, oPF_s, oNone_w, sM1_w, m1A_s, m1B_s, m1C_s, lcA_s, lcB_f, lcB_t, lcC_ok, freeO_n, freeO_v, ownOk_n, ownOk_c, wipeE_n, wipeE_c, restE_n, restE_c, sDc_w, dcF_ok, dcE_ok, sSetF_w, stfA_ok, getPl_fd, gplF_i, setPl_fd, splF_i, sFldZ_w, mkB_r, mkB_x, mkA_ok, sMake_w, sFmt_w, rF1, i0, q0, l2, gEq_int, decide_true, rF2, l0, rL1, i1, ha, rP1, en]
theorem none_notin (a b : Nat) : gNotIn2 .non (.tup [.int a, .int b]) = some (.v (.bl true)) := by
  show (D.mem .non (.tup [.int a, .int b])).map _ = _
  have : D.mem .non (.tup [.int a, .int b]) = some false := by
    show (if D.plain 59 .non = true ∧ D.plainL 59 [.int a, .int b] = true then some (inL .non [.int a, .int b]) else none) = _
    rw [if_pos ⟨by simp [D.plain], by simp [D.plain, D.plainL]⟩]
    simp [inL, D.pyL, D.py, PyData.eqv]
  rw [this]; rfl
theorem takesW (ns : List (List Nat)) (qs : List (Nat × Nat)) (q : Nat × Nat) (h1 : q.1 < 10) (h2 : q.2 < 10) (h0 : 1 ≤ ns.length) (hq : qs.length ≤ 100) :
    sem_LineReader_takes [rO ns qs false, .v (.lst ([wWY, TL.numL q.1, TL.numL q.2].map sS))] = .ret (.v (.bl true)) [rO ns (qs ++ [q]) false, .v (.lst ([wWY, TL.numL q.1, TL.numL q.2].map sS))] := by
  generalize hws : [wWY, TL.numL q.1, TL.numL q.2].map sS = ws
  have i0 : gIx2 (.lst ws) (.int 0) = some (.v (sS wWY)) := by rw [← hws]; rfl
  have i1 : gIx2 (.lst ws) (.int 1) = some (.v (sS (TL.numL q.1))) := by rw [← hws]; rfl
  have i2 : gIx2 (.lst ws) (.int 2) = some (.v (sS (TL.numL q.2))) := by rw [← hws]; rfl
  have q0 : gEq (sS wWY) (.str "place") = some (.v (.bl false)) := (gEq_S wWY wPL).trans (by rw [decide_eq_false (by decide)])
  have q1 : gEq (sS wWY) (.str "way") = some (.v (.bl true)) := (gEq_S wWY wWY).trans (by rw [decide_eq_true rfl])
  have l3 : gLen2 (.lst ws) = some (.v (.int 3)) := by rw [← hws]; rfl
  have ln : gLen2 (.lst (ns.map sS)) = some (.v (.int ns.length)) := by rw [len_lst]; simp
  have d0 : decide ((ns.length : Int) = 0) = false := decide_eq_false (by omega)
  have ha : gApp (qs.map pD) (.tup [.int q.1, .int q.2]) = some (.non, (qs ++ [q]).map pD) := by
    show (if (qs.map pD).length < sizeLine then some (D.non, qs.map pD ++ [pD q]) else none) = _
    rw [if_pos (by have := line_big; simp; omega)]; simp
  unfold sem_LineReader_takes rO
  simp only [runFn_w, LW.argsOk, O.isV, O.d, List.all_cons, List.all_nil, Bool.and_true, Bool.true_and, Bool.and_self, List.length_cons, List.length_nil, List.map_cons, List.map_nil, List.cons_append, List.nil_append, List.replicate_succ, List.replicate_zero, Nat.reduceAdd, Nat.reduceSub, Nat.zero_add, and_self, and_true, true_and, if_true, ite_true, if_false, ite_false, List.getElem?_cons_zero, List.getElem?_cons_succ, List.set_cons_zero, List.set_cons_succ, List.set_nil, Bool.false_eq_true, reduceIte, sVar_w, varF_v, varF_l, varF_k, sFrz_w, frzF_o, sMov_w, movF_o, sC_w, sFz_w, fzF_v, fzF_f, fzF_x, outP_s, opC_s, opB_ok, opB_x, sOp_w, opA_v, opA_f, opA_s, opA_x, rd_v, rd_s, rd_fv, rd_fl, rd_fk, sTB_w, tbF_b, tbF_x, sAndT_w, andT_t, andT_f, sOrT_w, orT_t, orT_f, sNotT_w, notT_ok, sAnd_w, andF_t, andF_f, sOr_w, orF_t, orF_f, sNot_w, notF_ok, sIfE_w, ifE_t, ifE_f, sChn_w, chA_v, chA_s, chB_ok, chB_s, chC_tv, chC_ts, chC_f, chD_ok, sNil_w, consB_ok, consB_x, sCons_w, consA_v, consA_x, sTup_w, tupF_ok, sLst_w, lstF_ok, sC1_w, c1A_ok, c1A_x, c1B_s, sCall_w, callA_ok, callA_x, callB_r, callB_x, sCallM_w, cm0_s, cmA_ok, cmB_s, cmC_r, cmC_x, sSeq_w, seqF_n, seqF_r, seqF_x, seqF_b, seqF_c, sIf_w, ifS_t, ifS_f, ifS_x, sExp_w, expF_ok, expF_x, sRet_w, retF_v, retF_f, retF_x, sSet_w, setF_v, setF_f, setF_x, sPar_w, parF_ok, endF_rf, endF_nf, endF_xf, endF_rt, endF_rt', endF_nt', endF_xt', hSeq_w, seqH_l, seqH_t, hRange1_w, rng1_ok, hEnum_w, enumH_ok, sFor_w, forF_ok, forL_n, forA_s, forB_n, forB_c, forB_b, forB_r, forB_x, gSet_w, sLc_w, lcF_ok, lcE_ok, lcL_n, sYes_w, sFld_w, sSetIx_w, sIxA_s, sIxB_s, sIxC_s, sIxD_s, sIxE_s, getPl_sl, setPl_sl, getS_w, Option.getD_some, sLm_w, lm0_s, lmA_s, lmB_s, lmC_s, sSl_w, slA_v, slA_f, slA_t, slL_s, slH_s, slC_s, oPart_w, oPF_s, oNone_w, sM1_w, m1A_s, m1B_s, m1C_s, lcA_s, lcB_f, lcB_t, lcC_ok, freeO_n, freeO_v, ownOk_n, ownOk_c, wipeE_n, wipeE_c, restE_n, restE_c, sDc_w, dcF_ok, dcE_ok, sSetF_w, stfA_ok, getPl_fd, gplF_i, setPl_fd, splF_i, sFldZ_w, mkB_r, mkB_x, mkA_ok, sMake_w, sFmt_w, rF1, i0, q0, rF3, ln, gEq_int, d0, q1, l3, decide_true, i1, i2, number_in h1, number_in h2, rL2, ha, rP2, none_notin]
theorem takesE (ns : List (List Nat)) (qs : List (Nat × Nat)) (h0 : 1 ≤ ns.length) :
    sem_LineReader_takes [rO ns qs false, .v (.lst ([cEN].map sS))] = .ret (.v (.bl true)) [rO ns qs true, .v (.lst ([cEN].map sS))] := by
  have qe0 : gEq (.lst ([cEN].map sS)) (.lst [.str "end"]) = some (.v (.bl true)) := by kernel_rfl
  have i00 : gIx2 (.lst ([cEN].map sS)) (.int 0) = some (.v (sS cEN)) := rfl
  generalize hws : [cEN].map sS = ws
  have i0 : gIx2 (.lst ws) (.int 0) = some (.v (sS cEN)) := by rw [← hws]; exact i00
  have qe : gEq (.lst ws) (.lst [.str "end"]) = some (.v (.bl true)) := by rw [← hws]; exact qe0
  have q0 : gEq (sS cEN) (.str "place") = some (.v (.bl false)) := (gEq_S cEN wPL).trans (by rw [decide_eq_false (by decide)])
  have q1 : gEq (sS cEN) (.str "way") = some (.v (.bl false)) := (gEq_S cEN wWY).trans (by rw [decide_eq_false (by decide)])
  have ln : gLen2 (.lst (ns.map sS)) = some (.v (.int ns.length)) := by rw [len_lst]; simp
  have d0 : decide ((ns.length : Int) = 0) = false := decide_eq_false (by omega)
  have hlen : (rF ns qs false).length < 1000 := by simp [rF]
  unfold sem_LineReader_takes rO
  simp only [runFn_w, LW.argsOk, O.isV, O.d, List.all_cons, List.all_nil, Bool.and_true, Bool.true_and, Bool.and_self, List.length_cons, List.length_nil, List.map_cons, List.map_nil, List.cons_append, List.nil_append, List.replicate_succ, List.replicate_zero, Nat.reduceAdd, Nat.reduceSub, Nat.zero_add, and_self, and_true, true_and, if_true, ite_true, if_false, ite_false, List.getElem?_cons_zero, List.getElem?_cons_succ, List.set_cons_zero, List.set_cons_succ, List.set_nil, Bool.false_eq_true, reduceIte, sVar_w, varF_v, varF_l, varF_k, sFrz_w, frzF_o, sMov_w, movF_o, sC_w, sFz_w, fzF_v, fzF_f, fzF_x, outP_s, opC_s, opB_ok, opB_x, sOp_w, opA_v, opA_f, opA_s, opA_x, rd_v, rd_s, rd_fv, rd_fl, rd_fk, sTB_w, tbF_b, tbF_x, sAndT_w, andT_t, andT_f, sOrT_w, orT_t, orT_f, sNotT_w, notT_ok, sAnd_w, andF_t, andF_f, sOr_w, orF_t, orF_f, sNot_w, notF_ok, sIfE_w, ifE_t, ifE_f, sChn_w, chA_v, chA_s, chB_ok, chB_s, chC_tv, chC_ts, chC_f, chD_ok, sNil_w, consB_ok, consB_x, sCons_w, consA_v, consA_x, sTup_w, tupF_ok, sLst_w, lstF_ok, sC1_w, c1A_ok, c1A_x, c1B_s, sCall_w, callA_ok, callA_x, callB_r, callB_x, sCallM_w, cm0_s, cmA_ok, cmB_s, cmC_r, cmC_x, sSeq_w, seqF_n, seqF_r, seqF_x, seqF_b, seqF_c, sIf_w, ifS_t, ifS_f, ifS_x, sExp_w, expF_ok, expF_x, sRet_w, retF_v, retF_f, retF_x, sSet_w, setF_v, setF_f, setF_x, sPar_w, parF_ok, endF_rf, endF_nf, endF_xf, endF_rt, endF_rt', endF_nt', endF_xt', hSeq_w, seqH_l, seqH_t, hRange1_w, rng1_ok, hEnum_w, enumH_ok, sFor_w, forF_ok, forL_n, forA_s, forB_n, forB_c, forB_b, forB_r, forB_x, gSet_w, sLc_w, lcF_ok, lcE_ok, lcL_n, sYes_w, sFld_w, sSetIx_w, sIxA_s, sIxB_s, sIxC_s, sIxD_s, sIxE_s, getPl_sl, setPl_sl, getS_w, Option.getD_some, sLm_w, lm0_s, lmA_s, lmB_s, lmC_s, sSl_w, slA_v, slA_f, slA_t, slL_s, slH_s, slC_s, oPart_w, oPF_s, oNone_w, sM1_w, m1A_s, m1B_s, m1C_s, lcA_s, lcB_f, lcB_t, lcC_ok, freeO_n, freeO_v, ownOk_n, ownOk_c, wipeE_n, wipeE_c, restE_n, restE_c, sDc_w, dcF_ok, dcE_ok, sSetF_w, stfA_ok, getPl_fd, gplF_i, setPl_fd, splF_i, sFldZ_w, mkB_r, mkB_x, mkA_ok, sMake_w, sFmt_w, rF1, i0, q0, rF3, ln, gEq_int, d0, q1, qe, stfB_v hlen, rP3, rZ3]
end SM

namespace SM
open PySem LW L2
def item (k : Nat) (a : List Nat) : D := .tup [.int (k : Nat), sS a]
def items : Nat → List (List Nat) → List D
  | _, [] => []
  | k, a :: r => item k a :: items (k + 1) r
theorem items_append : ∀ (k : Nat) (a b : List (List Nat)), items k (a ++ b) = items k a ++ items (k + a.length) b
  | k, [], b => by simp [items]
  | k, x :: r, b => by
    show item k x :: items (k + 1) (r ++ b) = item k x :: (items (k + 1) r ++ _)
    rw [items_append (k + 1) r b, List.length_cons, show k + 1 + r.length = k + (r.length + 1) by omega]
theorem enum_items (ls : List (List Nat)) : enumD (ls.map sS) = items 0 ls := by
  unfold enumD
  have : ∀ (k : Nat) (ls : List (List Nat)), ((ls.map sS).zipIdx k).map (fun p => D.tup [.int (p.2 : Nat), p.1]) = items k ls := by
    intro k ls
    induction ls generalizing k with
    | nil => rfl
    | cons a r ih => rw [List.map_cons, List.zipIdx_cons, List.map_cons, ih (k + 1)]; rfl
  exact this 0 ls
def rdT : D → LW.Env → Option LW.Env := gTupD 2 (gsCons (gSet 3) (gsCons (gSet 4) (gsNil)))
def rdB : LW.Env → LW.Flow := sIf (sTB (sOp gEq true (sVar 3) (sOp LW.gSub true (sC1 gLen2 (sVar 1)) (sC (.int 1))))) (sIf (sTB (sOp gNe true (sVar 4) (sC (.str "")))) ((fun _ => .no)) (LW.Flow.next)) (sSeq (sSet 5 (sM1 gSplit (sVar 4) (sC (.str " "))))
  (sSeq (sIf (sTB (sOp gIn2 true (sC (.str "")) (sVar 5))) ((fun _ => .no)) (LW.Flow.next))
  (sIf (sNotT (sTB (sMethF "LineReader" "takes" (sem_LineReader_takes) 2 (sCons (sFrz 5) (sNil))))) ((fun _ => .no)) (LW.Flow.next))))
theorem in_e (ps : List (List Nat)) (h : ∀ p ∈ ps, Okl p) : gIn2 (.str "") (.lst (ps.map sS)) = some (.v (.bl (decide ([] ∈ ps)))) := by
  have : D.mem (.str (SX.S [])) (.lst ((ps.map SX.S).map .str)) = some (decide (SX.S [] ∈ ps.map SX.S)) := mem_strs _ _ (okl_S (l := []) (fun _ z => nomatch z)) fun y hy => by
    obtain ⟨m, hm, rfl⟩ := List.mem_map.mp hy; exact okl_S (h m hm)
  rw [List.map_map] at this
  show (D.mem (.str (SX.S [])) (.lst (ps.map (D.str ∘ SX.S)))).map _ = _
  rw [this]
  simp only [mem_S]; rfl
theorem m1A_S {gm : Str → D → Option P} {fb : LW.Env → Out P} {a : List Nat} {ρ : LW.Env} : m1A gm fb (.ok (.v (sS a)) ρ) = m1B gm (SX.S a) (fb ρ) := rfl
theorem rd_step (t : Option O) (lines : List (List Nat)) (i : Nat) (a : List Nat) (ps : List (List Nat)) (fs : List (Str × O)) (o' : O) (a3 a4 a5 : Option O) (hm : lookO "takes" fs = none) (hi : i + 1 < lines.length)
    (hs : gSplit (SX.S a) (.str " ") = some (.f (.l (ps.map sS)))) (hne : [] ∉ ps) (hok : ∀ p ∈ ps, Okl p) (ht : sem_LineReader_takes [.i "LineReader" fs, .v (.lst (ps.map sS))] = .ret (.v (.bl true)) [o', .v (.lst (ps.map sS))]) :
    ∃ b5, ∀ R, forL rdT rdB (item i a :: R) [t, some (.v (.lst (lines.map sS))), some (.i "LineReader" fs), a3, a4, a5] = forL rdT rdB R [t, some (.v (.lst (lines.map sS))), some o', some (.v (.int i)), some (.v (sS a)), b5] := by
  have ll : gLen2 (.lst (lines.map sS)) = some (.v (.int lines.length)) := by rw [len_lst]; simp
  have di : decide ((i : Int) = (lines.length : Int) - 1) = false := decide_eq_false (by omega)
  have ht0 : rdT (item i a) [t, some (.v (.lst (lines.map sS))), some (.i "LineReader" fs), a3, a4, a5] = some [t, some (.v (.lst (lines.map sS))), some (.i "LineReader" fs), some (.v (.int i)), some (.v (sS a)), a5] := rfl
  have hs : gSplit (SX.S a) (.str " ") = some (.f (.l (ps.map sS))) := hs
  have hin := in_e ps hok
  rw [decide_eq_false hne] at hin
  generalize hL : lines.map sS = L at *
  generalize hP : ps.map sS = PS at *
  refine ⟨some (.v (.lst PS)), fun R => ?_⟩
  rw [forL_c, ht0, forA_s]
  have hB : ∀ ρ, forL rdT rdB R ρ = forL rdT rdB R ρ := fun _ => rfl
  generalize hF : forL rdT rdB R = FR at hB
  have hFB : ∀ m, forB rdT rdB R m = (match m with | .next ρ2 => FR ρ2 | .cont ρ2 => FR ρ2 | .brk ρ2 => .next ρ2 | fl => fl) := fun m => by rw [← hF]; cases m <;> rfl
  rw [hFB]
  unfold rdB
  simp only [runFn_w, LW.argsOk, O.isV, O.d, List.all_cons, List.all_nil, Bool.and_true, Bool.true_and, Bool.and_self, List.length_cons, List.length_nil, List.map_cons, List.map_nil, List.cons_append, List.nil_append, List.replicate_succ, List.replicate_zero, Nat.reduceAdd, Nat.reduceSub, Nat.zero_add, and_self, and_true, true_and, if_true, ite_true, if_false, ite_false, List.getElem?_cons_zero, List.getElem?_cons_succ, List.set_cons_zero, List.set_cons_succ, List.set_nil, Bool.false_eq_true, reduceIte, sVar_w, varF_v, varF_l, varF_k, sFrz_w, frzF_o, sMov_w, movF_o, sC_w, sFz_w, fzF_v, fzF_f, fzF_x, outP_s, opC_s, opB_ok, opB_x, sOp_w, opA_v, opA_f, opA_s, opA_x, rd_v, rd_s, rd_fv, rd_fl, rd_fk, sTB_w, tbF_b, tbF_x, sAndT_w, andT_t, andT_f, sOrT_w, orT_t, orT_f, sNotT_w, notT_ok, sAnd_w, andF_t, andF_f, sOr_w, orF_t, orF_f, sNot_w, notF_ok, sIfE_w, ifE_t, ifE_f, sChn_w, chA_v, chA_s, chB_ok, chB_s, chC_tv, chC_ts, chC_f, chD_ok, sNil_w, consB_ok, consB_x, sCons_w, consA_v, consA_x, sTup_w, tupF_ok, sLst_w, lstF_ok, sC1_w, c1A_ok, c1A_x, c1B_s, sCall_w, callA_ok, callA_x, callB_r, callB_x, sCallM_w, cm0_s, cmA_ok, cmB_s, cmC_r, cmC_x, sSeq_w, seqF_n, seqF_r, seqF_x, seqF_b, seqF_c, sIf_w, ifS_t, ifS_f, ifS_x, sExp_w, expF_ok, expF_x, sRet_w, retF_v, retF_f, retF_x, sSet_w, setF_v, setF_f, setF_x, sPar_w, parF_ok, endF_rf, endF_nf, endF_xf, endF_rt, endF_rt', endF_nt', endF_xt', hSeq_w, seqH_l, seqH_t, hRange1_w, rng1_ok, hEnum_w, enumH_ok, sFor_w, forF_ok, forL_n, forA_s, forB_n, forB_c, forB_b, forB_r, forB_x, gSet_w, sLc_w, lcF_ok, lcE_ok, lcL_n, sYes_w, sFld_w, sSetIx_w, sIxA_s, sIxB_s, sIxC_s, sIxD_s, sIxE_s, getPl_sl, setPl_sl, getS_w, Option.getD_some, sLm_w, lm0_s, lmA_s, lmB_s, lmC_s, sSl_w, slA_v, slA_f, slA_t, slL_s, slH_s, slC_s, oPart_w, oPF_s, oNone_w, sM1_w, m1A_s, m1B_s, m1C_s, lcA_s, lcB_f, lcB_t, lcC_ok, freeO_n, freeO_v, ownOk_n, ownOk_c, wipeE_n, wipeE_c, restE_n, restE_c, sDc_w, dcF_ok, dcE_ok, sSetF_w, stfA_ok, getPl_fd, gplF_i, setPl_fd, splF_i, sFldZ_w, mkB_r, mkB_x, mkA_ok, sMake_w, sFmt_w, ll, LW.gSub, gEq_int, di]
  simp only [runFn_w, LW.argsOk, O.isV, O.d, List.all_cons, List.all_nil, Bool.and_true, Bool.true_and, Bool.and_self, List.length_cons, List.length_nil, List.map_cons, List.map_nil, List.cons_append, List.nil_append, List.replicate_succ, List.replicate_zero, Nat.reduceAdd, Nat.reduceSub, Nat.zero_add, and_self, and_true, true_and, if_true, ite_true, if_false, ite_false, List.getElem?_cons_zero, List.getElem?_cons_succ, List.set_cons_zero, List.set_cons_succ, List.set_nil, Bool.false_eq_true, reduceIte, sVar_w, varF_v, varF_l, varF_k, sFrz_w, frzF_o, sMov_w, movF_o, sC_w, sFz_w, fzF_v, fzF_f, fzF_x, outP_s, opC_s, opB_ok, opB_x, sOp_w, opA_v, opA_f, opA_s, opA_x, rd_v, rd_s, rd_fv, rd_fl, rd_fk, sTB_w, tbF_b, tbF_x, sAndT_w, andT_t, andT_f, sOrT_w, orT_t, orT_f, sNotT_w, notT_ok, sAnd_w, andF_t, andF_f, sOr_w, orF_t, orF_f, sNot_w, notF_ok, sIfE_w, ifE_t, ifE_f, sChn_w, chA_v, chA_s, chB_ok, chB_s, chC_tv, chC_ts, chC_f, chD_ok, sNil_w, consB_ok, consB_x, sCons_w, consA_v, consA_x, sTup_w, tupF_ok, sLst_w, lstF_ok, sC1_w, c1A_ok, c1A_x, c1B_s, sCall_w, callA_ok, callA_x, callB_r, callB_x, sCallM_w, cm0_s, cmA_ok, cmB_s, cmC_r, cmC_x, sSeq_w, seqF_n, seqF_r, seqF_x, seqF_b, seqF_c, sIf_w, ifS_t, ifS_f, ifS_x, sExp_w, expF_ok, expF_x, sRet_w, retF_v, retF_f, retF_x, sSet_w, setF_v, setF_f, setF_x, sPar_w, parF_ok, endF_rf, endF_nf, endF_xf, endF_rt, endF_rt', endF_nt', endF_xt', hSeq_w, seqH_l, seqH_t, hRange1_w, rng1_ok, hEnum_w, enumH_ok, sFor_w, forF_ok, forL_n, forA_s, forB_n, forB_c, forB_b, forB_r, forB_x, gSet_w, sLc_w, lcF_ok, lcE_ok, lcL_n, sYes_w, sFld_w, sSetIx_w, sIxA_s, sIxB_s, sIxC_s, sIxD_s, sIxE_s, getPl_sl, setPl_sl, getS_w, Option.getD_some, sLm_w, lm0_s, lmA_s, lmB_s, lmC_s, sSl_w, slA_v, slA_f, slA_t, slL_s, slH_s, slC_s, oPart_w, oPF_s, oNone_w, sM1_w, m1A_s, m1B_s, m1C_s, lcA_s, lcB_f, lcB_t, lcC_ok, freeO_n, freeO_v, ownOk_n, ownOk_c, wipeE_n, wipeE_c, restE_n, restE_c, sDc_w, dcF_ok, dcE_ok, sSetF_w, stfA_ok, getPl_fd, gplF_i, setPl_fd, splF_i, sFldZ_w, mkB_r, mkB_x, mkA_ok, sMake_w, sFmt_w, m1A_S, hs, hin]
  rw [sMethF_i (fs := fs) rfl hm]
  simp only [runFn_w, LW.argsOk, O.isV, O.d, List.all_cons, List.all_nil, Bool.and_true, Bool.true_and, Bool.and_self, List.length_cons, List.length_nil, List.map_cons, List.map_nil, List.cons_append, List.nil_append, List.replicate_succ, List.replicate_zero, Nat.reduceAdd, Nat.reduceSub, Nat.zero_add, and_self, and_true, true_and, if_true, ite_true, if_false, ite_false, List.getElem?_cons_zero, List.getElem?_cons_succ, List.set_cons_zero, List.set_cons_succ, List.set_nil, Bool.false_eq_true, reduceIte, sVar_w, varF_v, varF_l, varF_k, sFrz_w, frzF_o, sMov_w, movF_o, sC_w, sFz_w, fzF_v, fzF_f, fzF_x, outP_s, opC_s, opB_ok, opB_x, sOp_w, opA_v, opA_f, opA_s, opA_x, rd_v, rd_s, rd_fv, rd_fl, rd_fk, sTB_w, tbF_b, tbF_x, sAndT_w, andT_t, andT_f, sOrT_w, orT_t, orT_f, sNotT_w, notT_ok, sAnd_w, andF_t, andF_f, sOr_w, orF_t, orF_f, sNot_w, notF_ok, sIfE_w, ifE_t, ifE_f, sChn_w, chA_v, chA_s, chB_ok, chB_s, chC_tv, chC_ts, chC_f, chD_ok, sNil_w, consB_ok, consB_x, sCons_w, consA_v, consA_x, sTup_w, tupF_ok, sLst_w, lstF_ok, sC1_w, c1A_ok, c1A_x, c1B_s, sCall_w, callA_ok, callA_x, callB_r, callB_x, sCallM_w, cm0_s, cmA_ok, cmB_s, cmC_r, cmC_x, sSeq_w, seqF_n, seqF_r, seqF_x, seqF_b, seqF_c, sIf_w, ifS_t, ifS_f, ifS_x, sExp_w, expF_ok, expF_x, sRet_w, retF_v, retF_f, retF_x, sSet_w, setF_v, setF_f, setF_x, sPar_w, parF_ok, endF_rf, endF_nf, endF_xf, endF_rt, endF_rt', endF_nt', endF_xt', hSeq_w, seqH_l, seqH_t, hRange1_w, rng1_ok, hEnum_w, enumH_ok, sFor_w, forF_ok, forL_n, forA_s, forB_n, forB_c, forB_b, forB_r, forB_x, gSet_w, sLc_w, lcF_ok, lcE_ok, lcL_n, sYes_w, sFld_w, sSetIx_w, sIxA_s, sIxB_s, sIxC_s, sIxD_s, sIxE_s, getPl_sl, setPl_sl, getS_w, Option.getD_some, sLm_w, lm0_s, lmA_s, lmB_s, lmC_s, sSl_w, slA_v, slA_f, slA_t, slL_s, slH_s, slC_s, oPart_w, oPF_s, oNone_w, sM1_w, m1A_s, m1B_s, m1C_s, lcA_s, lcB_f, lcB_t, lcC_ok, freeO_n, freeO_v, ownOk_n, ownOk_c, wipeE_n, wipeE_c, restE_n, restE_c, sDc_w, dcF_ok, dcE_ok, sSetF_w, stfA_ok, getPl_fd, gplF_i, setPl_fd, splF_i, sFldZ_w, mkB_r, mkB_x, mkA_ok, sMake_w, sFmt_w, ht, Bool.not_true]
theorem loopN (t : Option O) (lines : List (List Nat)) (R : List D) : ∀ (gs : List (List Nat)) (k : Nat) (ns : List (List Nat)) (a3 a4 a5 : Option O), (∀ l ∈ gs, isNam l = true) → k + gs.length < lines.length → ns.length + gs.length ≤ 100 →
    ∃ b3 b4 b5, forL rdT rdB (items k (gs.map lineN) ++ R) [t, some (.v (.lst (lines.map sS))), some (rO ns [] false), a3, a4, a5] = forL rdT rdB R [t, some (.v (.lst (lines.map sS))), some (rO (ns ++ gs) [] false), b3, b4, b5]
  | [], k, ns, a3, a4, a5, _, _, _ => ⟨a3, a4, a5, by simp [items]⟩
  | l :: r, k, ns, a3, a4, a5, hg, hk, hn => by
    have hl := hg l List.mem_cons_self
    have hL := isNam_let hl
    have h8 := isNam_len hl
    obtain ⟨c5, e⟩ := rd_step t lines k (lineN l) [wPL, l] (rF ns [] false) (rO (ns ++ [l]) [] false) a3 a4 a5 rL4 (by simp at hk; omega) (split_sp (by simp [lineN, cPL]; omega) (wordsN hL)) (by
      intro h
      simp only [List.mem_cons, List.not_mem_nil, or_false] at h
      rcases h with h | h
      · exact absurd h (by decide)
      · rw [← h] at h8; simp at h8) (fun p hp => by
      simp only [List.mem_cons, List.not_mem_nil, or_false] at hp
      rcases hp with rfl | rfl
      · unfold Okl wPL; decide
      · exact okl_let hL) (takesN ns l hl (by simp at hn; omega))
    obtain ⟨b3, b4, b5, e2⟩ := loopN t lines R r (k + 1) (ns ++ [l]) _ _ _ (fun x hx => hg x (List.mem_cons_of_mem _ hx)) (by simp at hk; omega) (by simp at hn ⊢; omega)
    refine ⟨b3, b4, b5, ?_⟩
    show forL rdT rdB (item k (lineN l) :: (items (k + 1) (r.map lineN) ++ R)) _ = _
    rw [show (rO ns [] false) = .i "LineReader" (rF ns [] false) from rfl, e, e2, List.append_assoc]
    rfl
theorem loopW (t : Option O) (lines : List (List Nat)) (R : List D) (ns : List (List Nat)) (h0 : 1 ≤ ns.length) : ∀ (ws : List (Nat × Nat)) (k : Nat) (qs : List (Nat × Nat)) (a3 a4 a5 : Option O), (∀ q ∈ ws, q.1 < 10 ∧ q.2 < 10) → k + ws.length < lines.length → qs.length + ws.length ≤ 100 →
    ∃ b3 b4 b5, forL rdT rdB (items k (ws.map lineW) ++ R) [t, some (.v (.lst (lines.map sS))), some (rO ns qs false), a3, a4, a5] = forL rdT rdB R [t, some (.v (.lst (lines.map sS))), some (rO ns (qs ++ ws) false), b3, b4, b5]
  | [], k, qs, a3, a4, a5, _, _, _ => ⟨a3, a4, a5, by simp [items]⟩
  | q :: r, k, qs, a3, a4, a5, hg, hk, hn => by
    obtain ⟨q1, q2⟩ := hg q List.mem_cons_self
    have n1 := num1 q1
    have n2 := num1 q2
    have o1 : Okl (TL.numL q.1) := fun c hc => by
      rw [TL.numL_lt q1] at hc; have := List.mem_singleton.mp hc; omega
    have o2 : Okl (TL.numL q.2) := fun c hc => by
      rw [TL.numL_lt q2] at hc; have := List.mem_singleton.mp hc; omega
    obtain ⟨c5, e⟩ := rd_step t lines k (lineW q) [wWY, TL.numL q.1, TL.numL q.2] (rF ns qs false) (rO ns (qs ++ [q]) false) a3 a4 a5 rL4 (by simp at hk; omega) (split_sp (by have := lineW_len q1 q2; omega) (wordsW q)) (by
      intro h
      simp only [List.mem_cons, List.not_mem_nil, or_false] at h
      rcases h with h | h | h
      · exact absurd h (by decide)
      · exact TL.numL_ne _ h.symm
      · exact TL.numL_ne _ h.symm) (fun p hp => by
      simp only [List.mem_cons, List.not_mem_nil, or_false] at hp
      rcases hp with rfl | rfl | rfl
      · unfold Okl wWY; decide
      · exact o1
      · exact o2) (takesW ns qs q q1 q2 h0 (by simp at hn; omega))
    obtain ⟨b3, b4, b5, e2⟩ := loopW t lines R ns h0 r (k + 1) (qs ++ [q]) _ _ _ (fun x hx => hg x (List.mem_cons_of_mem _ hx)) (by simp at hk; omega) (by simp at hn ⊢; omega)
    refine ⟨b3, b4, b5, ?_⟩
    show forL rdT rdB (item k (lineW q) :: (items (k + 1) (r.map lineW) ++ R)) _ = _
    rw [show (rO ns qs false) = .i "LineReader" (rF ns qs false) from rfl, e, e2, List.append_assoc]
    rfl
end SM

namespace SM
open PySem LW L2
theorem gNe_S (a b : List Nat) : gNe (sS a) (sS b) = some (.v (.bl (!decide (a = b)))) := by
  show some (P.v (.bl (!decide (SX.S a = SX.S b)))) = _
  congr 4
  exact decide_eq_decide.mpr ⟨SX.S_inj, fun h => by rw [h]⟩
theorem rd_loop (t : Option O) (gs : List (List Nat)) (ws : List (Nat × Nat)) (w : WebOk gs ws) : ∃ b3 b4 b5, forL rdT rdB (enumD ((linesOf gs ws ++ [[]]).map sS)) [t, some (.v (.lst ((linesOf gs ws ++ [[]]).map sS))), some (rO [] [] false), none, none, none] =
    .next [t, some (.v (.lst ((linesOf gs ws ++ [[]]).map sS))), some (rO gs ws true), b3, b4, b5] := by
  have h10 := w.ten
  have h100 := w.len
  have hT : (linesOf gs ws ++ [[]]).length = gs.length + ws.length + 2 := by rw [List.length_append, lenW]; rfl
  rw [enum_items]
  generalize hl : linesOf gs ws ++ [[]] = lines at *
  have hi : items 0 lines = items 0 (gs.map lineN) ++ (items gs.length (ws.map lineW) ++ [item (gs.length + ws.length) cEN, item (gs.length + ws.length + 1) []]) := by
    rw [← hl, linesOf, items_append, items_append, items_append, List.append_assoc, List.append_assoc]
    simp [items]; rfl
  rw [hi]
  obtain ⟨a3, a4, a5, e1⟩ := loopN t lines (items gs.length (ws.map lineW) ++ [item (gs.length + ws.length) cEN, item (gs.length + ws.length + 1) []]) gs 0 [] none none none w.nam.2 (by omega) (by simp; omega)
  obtain ⟨b3, b4, b5, e2⟩ := loopW t lines [item (gs.length + ws.length) cEN, item (gs.length + ws.length + 1) []] gs w.one ws gs.length [] a3 a4 a5 (fun q hq => by have := w.way q hq; omega) (by omega) (by simp; omega)
  obtain ⟨c5, e3⟩ := rd_step t lines (gs.length + ws.length) cEN [cEN] (rF gs ws false) (rO gs ws true) b3 b4 b5 rL4 (by omega) (split_sp (by simp [cEN]) wordsE) (by decide) (fun p hp => by
    rw [List.mem_singleton.mp hp]; unfold Okl cEN; decide) (takesE gs ws w.one)
  have e3 := e3 [item (gs.length + ws.length + 1) []]
  rw [List.nil_append] at e1 e2
  rw [e1, e2, show (rO gs ws false) = .i "LineReader" (rF gs ws false) from rfl, e3]
  refine ⟨some (.v (.int ((gs.length + ws.length + 1 : Nat) : Int))), some (.v (sS [])), c5, ?_⟩
  have ll : gLen2 (.lst (lines.map sS)) = some (.v (.int lines.length)) := by rw [len_lst]; simp
  have di : decide (((gs.length + ws.length + 1 : Nat) : Int) = (lines.length : Int) - 1) = true := decide_eq_true (by omega)
  have ne : gNe (sS []) (.str "") = some (.v (.bl false)) := (gNe_S [] []).trans rfl
  generalize hL : lines.map sS = L at *
  generalize hk : gs.length + ws.length + 1 = k at *
  rw [forL_c, show rdT (item k []) [t, some (.v (.lst L)), some (rO gs ws true), some (.v (.int ((gs.length + ws.length : Nat) : Int))), some (.v (sS cEN)), c5] = some [t, some (.v (.lst L)), some (rO gs ws true), some (.v (.int k)), some (.v (sS [])), c5] from rfl, forA_s]
  unfold rdB
  simp only [runFn_w, LW.argsOk, O.isV, O.d, List.all_cons, List.all_nil, Bool.and_true, Bool.true_and, Bool.and_self, List.length_cons, List.length_nil, List.map_cons, List.map_nil, List.cons_append, List.nil_append, List.replicate_succ, List.replicate_zero, Nat.reduceAdd, Nat.reduceSub, Nat.zero_add, and_self, and_true, true_and, if_true, ite_true, if_false, ite_false, List.getElem?_cons_zero, List.getElem?_cons_succ, List.set_cons_zero, List.set_cons_succ, List.set_nil, Bool.false_eq_true, reduceIte, sVar_w, varF_v, varF_l, varF_k, sFrz_w, frzF_o, sMov_w, movF_o, sC_w, sFz_w, fzF_v, fzF_f, fzF_x, outP_s, opC_s, opB_ok, opB_x, sOp_w, opA_v, opA_f, opA_s, opA_x, rd_v, rd_s, rd_fv, rd_fl, rd_fk, sTB_w, tbF_b, tbF_x, sAndT_w, andT_t, andT_f, sOrT_w, orT_t, orT_f, sNotT_w, notT_ok, sAnd_w, andF_t, andF_f, sOr_w, orF_t, orF_f, sNot_w, notF_ok, sIfE_w, ifE_t, ifE_f, sChn_w, chA_v, chA_s, chB_ok, chB_s, chC_tv, chC_ts, chC_f, chD_ok, sNil_w, consB_ok, consB_x, sCons_w, consA_v, consA_x, sTup_w, tupF_ok, sLst_w, lstF_ok, sC1_w, c1A_ok, c1A_x, c1B_s, sCall_w, callA_ok, callA_x, callB_r, callB_x, sCallM_w, cm0_s, cmA_ok, cmB_s, cmC_r, cmC_x, sSeq_w, seqF_n, seqF_r, seqF_x, seqF_b, seqF_c, sIf_w, ifS_t, ifS_f, ifS_x, sExp_w, expF_ok, expF_x, sRet_w, retF_v, retF_f, retF_x, sSet_w, setF_v, setF_f, setF_x, sPar_w, parF_ok, endF_rf, endF_nf, endF_xf, endF_rt, endF_rt', endF_nt', endF_xt', hSeq_w, seqH_l, seqH_t, hRange1_w, rng1_ok, hEnum_w, enumH_ok, sFor_w, forF_ok, forL_n, forA_s, forB_n, forB_c, forB_b, forB_r, forB_x, gSet_w, sLc_w, lcF_ok, lcE_ok, lcL_n, sYes_w, sFld_w, sSetIx_w, sIxA_s, sIxB_s, sIxC_s, sIxD_s, sIxE_s, getPl_sl, setPl_sl, getS_w, Option.getD_some, sLm_w, lm0_s, lmA_s, lmB_s, lmC_s, sSl_w, slA_v, slA_f, slA_t, slL_s, slH_s, slC_s, oPart_w, oPF_s, oNone_w, sM1_w, m1A_s, m1B_s, m1C_s, lcA_s, lcB_f, lcB_t, lcC_ok, freeO_n, freeO_v, ownOk_n, ownOk_c, wipeE_n, wipeE_c, restE_n, restE_c, sDc_w, dcF_ok, dcE_ok, sSetF_w, stfA_ok, getPl_fd, gplF_i, setPl_fd, splF_i, sFldZ_w, mkB_r, mkB_x, mkA_ok, sMake_w, sFmt_w, ll, LW.gSub, gEq_int, di, ne]
theorem read_web (gs : List (List Nat)) (ws : List (Nat × Nat)) (w : WebOk gs ws) : ∃ bs, sem_read_web [.v (sS (textOf gs ws))] = .ret (.f (.i "Web" (webF gs (sortP ws) bs))) [.v (sS (textOf gs ws))] := by
  obtain ⟨bs, ew⟩ := web_init gs ws w.nam w.one w.ten w.way w.nd
  obtain ⟨b3, b4, b5, el⟩ := rd_loop (some (.v (sS (textOf gs ws)))) gs ws w
  have es := split_text gs ws w
  have hz : (linesOf gs ws ++ [[]]).length ≤ 1000 := by rw [List.length_append, lenW]; have := w.ten; have := w.len; simp; omega
  have hl : ((linesOf gs ws ++ [[]]).map sS).length ≤ sizeLine := by have := line_big; rw [List.length_map]; omega
  generalize hL : (linesOf gs ws ++ [[]]).map sS = L at *
  generalize hT : textOf gs ws = T at *
  let fs2 : List (Str × O) := [("read_names", .v (.lst (gs.map sS))), ("read_ways", .l (ws.map pD)), ("ended", .v (.bl true))]
  let fs3 : List (Str × O) := [("read_names", .v (.lst (gs.map sS))), ("read_ways", .v (.lst (ws.map pD))), ("ended", .v (.bl true))]
  have z1 : ∀ ρ : LW.Env, fzA 2 "LineReader" "read_names" (some (.i "LineReader" (rF gs ws true))) ρ = .ok (.v (.lst (gs.map sS))) (ρ.set 2 (some (.i "LineReader" fs2))) := fun ρ => fzA_i (o := .l (gs.map sS)) rfl
  have z2 : ∀ ρ : LW.Env, fzA 2 "LineReader" "read_ways" (some (.i "LineReader" fs2)) ρ = .ok (.v (.lst (ws.map pD))) (ρ.set 2 (some (.i "LineReader" fs3))) := fun ρ => fzA_i (o := .l (ws.map pD)) rfl
  have is : gIs (D.isa CS .str) (sS T) = some (.v (.bl true)) := rfl
  refine ⟨bs, ?_⟩
  unfold rdT rdB rO at el
  unfold sem_read_web
  simp only [runFn_w, LW.argsOk, O.isV, O.d, List.all_cons, List.all_nil, Bool.and_true, Bool.true_and, Bool.and_self, List.length_cons, List.length_nil, List.map_cons, List.map_nil, List.cons_append, List.nil_append, List.replicate_succ, List.replicate_zero, Nat.reduceAdd, Nat.reduceSub, Nat.zero_add, and_self, and_true, true_and, if_true, ite_true, if_false, ite_false, List.getElem?_cons_zero, List.getElem?_cons_succ, List.set_cons_zero, List.set_cons_succ, List.set_nil, Bool.false_eq_true, reduceIte, sVar_w, varF_v, varF_l, varF_k, sFrz_w, frzF_o, sMov_w, movF_o, sC_w, sFz_w, fzF_v, fzF_f, fzF_x, outP_s, opC_s, opB_ok, opB_x, sOp_w, opA_v, opA_f, opA_s, opA_x, rd_v, rd_s, rd_fv, rd_fl, rd_fk, sTB_w, tbF_b, tbF_x, sAndT_w, andT_t, andT_f, sOrT_w, orT_t, orT_f, sNotT_w, notT_ok, sAnd_w, andF_t, andF_f, sOr_w, orF_t, orF_f, sNot_w, notF_ok, sIfE_w, ifE_t, ifE_f, sChn_w, chA_v, chA_s, chB_ok, chB_s, chC_tv, chC_ts, chC_f, chD_ok, sNil_w, consB_ok, consB_x, sCons_w, consA_v, consA_x, sTup_w, tupF_ok, sLst_w, lstF_ok, sC1_w, c1A_ok, c1A_x, c1B_s, sCall_w, callA_ok, callA_x, callB_r, callB_x, sCallM_w, cm0_s, cmA_ok, cmB_s, cmC_r, cmC_x, sSeq_w, seqF_n, seqF_r, seqF_x, seqF_b, seqF_c, sIf_w, ifS_t, ifS_f, ifS_x, sExp_w, expF_ok, expF_x, sRet_w, retF_v, retF_f, retF_x, sSet_w, setF_v, setF_f, setF_x, sPar_w, parF_ok, endF_rf, endF_nf, endF_xf, endF_rt, endF_rt', endF_nt', endF_xt', hSeq_w, seqH_l, seqH_t, hRange1_w, rng1_ok, hEnum_w, enumH_ok, sFor_w, forF_ok, forL_n, forA_s, forB_n, forB_c, forB_b, forB_r, forB_x, gSet_w, sLc_w, lcF_ok, lcE_ok, lcL_n, sYes_w, sFld_w, sSetIx_w, sIxA_s, sIxB_s, sIxC_s, sIxD_s, sIxE_s, getPl_sl, setPl_sl, getS_w, Option.getD_some, sLm_w, lm0_s, lmA_s, lmB_s, lmC_s, sSl_w, slA_v, slA_f, slA_t, slL_s, slH_s, slC_s, oPart_w, oPF_s, oNone_w, sM1_w, m1A_s, m1B_s, m1C_s, lcA_s, lcB_f, lcB_t, lcC_ok, freeO_n, freeO_v, ownOk_n, ownOk_c, wipeE_n, wipeE_c, restE_n, restE_c, sDc_w, dcF_ok, dcE_ok, sSetF_w, stfA_ok, getPl_fd, gplF_i, setPl_fd, splF_i, sFldZ_w, mkB_r, mkB_x, mkA_ok, sMake_w, sFmt_w, is, Bool.not_true, m1A_S, es, reader0, rO, hl, el, rF1, z1, z2, ew]
end SM

namespace SM
open PySem LW L2
def sameOk : Nat → D → Bool
  | 0, _ => false
  | _ + 1, .int _ => true
  | _ + 1, .str _ => true
  | k + 1, .tup ds => decide (ds.length ≤ 1000000) && ds.all (sameOk k)
  | k + 1, .lst ds => decide (ds.length ≤ 1000000) && ds.all (sameOk k)
  | _ + 1, _ => false
section
variable {z : Str} {i : Int} {ds : List D}
theorem i1 : gIs (D.isa CS .tuple) (.str z) = some (.v (.bl false)) := rfl
theorem i2 : gIs (D.isa CS .list) (.str z) = some (.v (.bl false)) := rfl
theorem i3 : gIs (D.isa CS .tuple) (.int i) = some (.v (.bl false)) := rfl
theorem i4 : gIs (D.isa CS .list) (.int i) = some (.v (.bl false)) := rfl
theorem i5 : gIs (D.isa CS .str) (.int i) = some (.v (.bl false)) := rfl
theorem i6 : gIs (D.isa CS .list) (.tup ds) = some (.v (.bl false)) := rfl
theorem i7 : gIs (D.isa CS .tuple) (.lst ds) = some (.v (.bl false)) := rfl
theorem i8 : gIs (D.isa CS .list) (.lst ds) = some (.v (.bl true)) := rfl
theorem n1 : gIsN (.str z) .non = some (.v (.bl false)) := rfl
theorem n2 : gIsN (.int i) .non = some (.v (.bl false)) := rfl
end
theorem eq_str (z : Str) : gEq (.str z) (.str z) = some (.v (.bl true)) := by
  show some (P.v (.bl (decide (z = z)))) = _
  rw [decide_eq_true rfl]
theorem ne_bl (b : Bool) : gNe (.bl b) (.bl b) = some (.v (.bl false)) := by
  unfold gNe D.cmp
  simp [D.eqv, D.py, D.plain, PyData.eqv]
theorem eq_bl (b : Bool) : gEq (.bl b) (.bl b) = some (.v (.bl true)) := by
  unfold gEq D.cmp
  simp [D.eqv, D.py, D.plain, PyData.eqv]
theorem eq_nil : gEq (.lst []) (.lst []) = some (.v (.bl true)) := by kernel_rfl
theorem same_items (S : Fn) (d1 d2 : D) (ds : List D) (g1 : ∀ i : Nat, i < ds.length → gIx2 d1 (.int i) = some (.v (ds[i]?.getD .non))) (h : ∀ d ∈ ds, S [.v d, .v d] = .ret (.v (.bl true)) [.v d, .v d]) (a2 : Option O) (h2 : d1 = d2) :
    lcL [2] (gSet 2) (sNotT (sTB (sCall S (sCons (sOp gIx2 true (sVar 0) (sVar 2)) (sCons (sOp gIx2 true (sVar 1) (sVar 2)) sNil))))) (sVar 2) (rangeD 0 ds.length) [] [some (.v d1), some (.v d2), none] = .ok [] [some (.v d1), some (.v d2), none] := by
  subst h2
  have e := lcL_map (ow := [2]) (tg := gSet 2) (t := sNotT (sTB (sCall S (sCons (sOp gIx2 true (sVar 0) (sVar 2)) (sCons (sOp gIx2 true (sVar 1) (sVar 2)) sNil))))) (f := sVar 2) (φ := fun _ => some none)
    (ρ0 := [some (.v d1), some (.v d1), none]) (ds := rangeD 0 ds.length) (acc := []) (ys := []) (fun d hd z hz => by
      cases hz
      rw [rangeD_nat] at hd
      obtain ⟨i, hi, rfl⟩ := List.mem_map.mp hd
      have hi := List.mem_range.mp hi
      have hg := g1 i hi
      rw [List.getElem?_eq_getElem hi, Option.getD_some] at hg
      refine ⟨_, [some (.v d1), some (.v d1), some (.v (.int i))], rfl, ?_, rfl⟩
      simp only
      simp only [runFn_w, LW.argsOk, O.isV, O.d, List.all_cons, List.all_nil, Bool.and_true, Bool.true_and, Bool.and_self, List.length_cons, List.length_nil, List.map_cons, List.map_nil, List.cons_append, List.nil_append, List.replicate_succ, List.replicate_zero, Nat.reduceAdd, Nat.reduceSub, Nat.zero_add, and_self, and_true, true_and, if_true, ite_true, if_false, ite_false, List.getElem?_cons_zero, List.getElem?_cons_succ, List.set_cons_zero, List.set_cons_succ, List.set_nil, Bool.false_eq_true, reduceIte, sVar_w, varF_v, varF_l, varF_k, sFrz_w, frzF_o, sMov_w, movF_o, sC_w, sFz_w, fzF_v, fzF_f, fzF_x, outP_s, opC_s, opB_ok, opB_x, sOp_w, opA_v, opA_f, opA_s, opA_x, rd_v, rd_s, rd_fv, rd_fl, rd_fk, sTB_w, tbF_b, tbF_x, sAndT_w, andT_t, andT_f, sOrT_w, orT_t, orT_f, sNotT_w, notT_ok, sAnd_w, andF_t, andF_f, sOr_w, orF_t, orF_f, sNot_w, notF_ok, sIfE_w, ifE_t, ifE_f, sChn_w, chA_v, chA_s, chB_ok, chB_s, chC_tv, chC_ts, chC_f, chD_ok, sNil_w, consB_ok, consB_x, sCons_w, consA_v, consA_x, sTup_w, tupF_ok, sLst_w, lstF_ok, sC1_w, c1A_ok, c1A_x, c1B_s, sCall_w, callA_ok, callA_x, callB_r, callB_x, sCallM_w, cm0_s, cmA_ok, cmB_s, cmC_r, cmC_x, sSeq_w, seqF_n, seqF_r, seqF_x, seqF_b, seqF_c, sIf_w, ifS_t, ifS_f, ifS_x, sExp_w, expF_ok, expF_x, sRet_w, retF_v, retF_f, retF_x, sSet_w, setF_v, setF_f, setF_x, sPar_w, parF_ok, endF_rf, endF_nf, endF_xf, endF_rt, endF_rt', endF_nt', endF_xt', hSeq_w, seqH_l, seqH_t, hRange1_w, rng1_ok, hEnum_w, enumH_ok, sFor_w, forF_ok, forL_n, forA_s, forB_n, forB_c, forB_b, forB_r, forB_x, gSet_w, sLc_w, lcF_ok, lcE_ok, lcL_n, sYes_w, sFld_w, sSetIx_w, sIxA_s, sIxB_s, sIxC_s, sIxD_s, sIxE_s, getPl_sl, setPl_sl, getS_w, Option.getD_some, sLm_w, lm0_s, lmA_s, lmB_s, lmC_s, sSl_w, slA_v, slA_f, slA_t, slL_s, slH_s, slC_s, oPart_w, oPF_s, oNone_w, sM1_w, m1A_s, m1B_s, m1C_s, lcA_s, lcB_f, lcB_t, lcC_ok, freeO_n, freeO_v, ownOk_n, ownOk_c, wipeE_n, wipeE_c, restE_n, restE_c, sDc_w, dcF_ok, dcE_ok, sSetF_w, stfA_ok, getPl_fd, gplF_i, setPl_fd, splF_i, sFldZ_w, mkB_r, mkB_x, mkA_ok, sMake_w, sFmt_w, hg, h ds[i] (List.getElem_mem hi), Bool.not_true]) (by
      have : ∀ l : List D, lcMap (fun _ => (some none : Option (Option D))) l = some [] := fun l => by
        induction l with
        | nil => rfl
        | cons d r ih => unfold lcMap; rw [ih]
      exact this _)
  simpa using e
theorem same_refl : ∀ (k : Nat) (d : D), sameOk k d = true → sem__law_same k [.v d, .v d] = .ret (.v (.bl true)) [.v d, .v d]
  | 0, _, h => by cases h
  | k + 1, d, h => by
    show step__law_same (sem__law_same k) [.v d, .v d] = _
    unfold step__law_same
    cases d with
    | int i => simp only [runFn_w, LW.argsOk, O.isV, O.d, List.all_cons, List.all_nil, Bool.and_true, Bool.true_and, Bool.and_self, List.length_cons, List.length_nil, List.map_cons, List.map_nil, List.cons_append, List.nil_append, List.replicate_succ, List.replicate_zero, Nat.reduceAdd, Nat.reduceSub, Nat.zero_add, and_self, and_true, true_and, if_true, ite_true, if_false, ite_false, List.getElem?_cons_zero, List.getElem?_cons_succ, List.set_cons_zero, List.set_cons_succ, List.set_nil, Bool.false_eq_true, reduceIte, sVar_w, varF_v, varF_l, varF_k, sFrz_w, frzF_o, sMov_w, movF_o, sC_w, sFz_w, fzF_v, fzF_f, fzF_x, outP_s, opC_s, opB_ok, opB_x, sOp_w, opA_v, opA_f, opA_s, opA_x, rd_v, rd_s, rd_fv, rd_fl, rd_fk, sTB_w, tbF_b, tbF_x, sAndT_w, andT_t, andT_f, sOrT_w, orT_t, orT_f, sNotT_w, notT_ok, sAnd_w, andF_t, andF_f, sOr_w, orF_t, orF_f, sNot_w, notF_ok, sIfE_w, ifE_t, ifE_f, sChn_w, chA_v, chA_s, chB_ok, chB_s, chC_tv, chC_ts, chC_f, chD_ok, sNil_w, consB_ok, consB_x, sCons_w, consA_v, consA_x, sTup_w, tupF_ok, sLst_w, lstF_ok, sC1_w, c1A_ok, c1A_x, c1B_s, sCall_w, callA_ok, callA_x, callB_r, callB_x, sCallM_w, cm0_s, cmA_ok, cmB_s, cmC_r, cmC_x, sSeq_w, seqF_n, seqF_r, seqF_x, seqF_b, seqF_c, sIf_w, ifS_t, ifS_f, ifS_x, sExp_w, expF_ok, expF_x, sRet_w, retF_v, retF_f, retF_x, sSet_w, setF_v, setF_f, setF_x, sPar_w, parF_ok, endF_rf, endF_nf, endF_xf, endF_rt, endF_rt', endF_nt', endF_xt', hSeq_w, seqH_l, seqH_t, hRange1_w, rng1_ok, hEnum_w, enumH_ok, sFor_w, forF_ok, forL_n, forA_s, forB_n, forB_c, forB_b, forB_r, forB_x, gSet_w, sLc_w, lcF_ok, lcE_ok, lcL_n, sYes_w, sFld_w, sSetIx_w, sIxA_s, sIxB_s, sIxC_s, sIxD_s, sIxE_s, getPl_sl, setPl_sl, getS_w, Option.getD_some, sLm_w, lm0_s, lmA_s, lmB_s, lmC_s, sSl_w, slA_v, slA_f, slA_t, slL_s, slH_s, slC_s, oPart_w, oPF_s, oNone_w, sM1_w, m1A_s, m1B_s, m1C_s, lcA_s, lcB_f, lcB_t, lcC_ok, freeO_n, freeO_v, ownOk_n, ownOk_c, wipeE_n, wipeE_c, restE_n, restE_c, sDc_w, dcF_ok, dcE_ok, sSetF_w, stfA_ok, getPl_fd, gplF_i, setPl_fd, splF_i, sFldZ_w, mkB_r, mkB_x, mkA_ok, sMake_w, sFmt_w, i3, i4, n2, i5, ia_int_int, ia_bool_int, eq_bl, gEq_int, decide_true]
    | str z => simp only [runFn_w, LW.argsOk, O.isV, O.d, List.all_cons, List.all_nil, Bool.and_true, Bool.true_and, Bool.and_self, List.length_cons, List.length_nil, List.map_cons, List.map_nil, List.cons_append, List.nil_append, List.replicate_succ, List.replicate_zero, Nat.reduceAdd, Nat.reduceSub, Nat.zero_add, and_self, and_true, true_and, if_true, ite_true, if_false, ite_false, List.getElem?_cons_zero, List.getElem?_cons_succ, List.set_cons_zero, List.set_cons_succ, List.set_nil, Bool.false_eq_true, reduceIte, sVar_w, varF_v, varF_l, varF_k, sFrz_w, frzF_o, sMov_w, movF_o, sC_w, sFz_w, fzF_v, fzF_f, fzF_x, outP_s, opC_s, opB_ok, opB_x, sOp_w, opA_v, opA_f, opA_s, opA_x, rd_v, rd_s, rd_fv, rd_fl, rd_fk, sTB_w, tbF_b, tbF_x, sAndT_w, andT_t, andT_f, sOrT_w, orT_t, orT_f, sNotT_w, notT_ok, sAnd_w, andF_t, andF_f, sOr_w, orF_t, orF_f, sNot_w, notF_ok, sIfE_w, ifE_t, ifE_f, sChn_w, chA_v, chA_s, chB_ok, chB_s, chC_tv, chC_ts, chC_f, chD_ok, sNil_w, consB_ok, consB_x, sCons_w, consA_v, consA_x, sTup_w, tupF_ok, sLst_w, lstF_ok, sC1_w, c1A_ok, c1A_x, c1B_s, sCall_w, callA_ok, callA_x, callB_r, callB_x, sCallM_w, cm0_s, cmA_ok, cmB_s, cmC_r, cmC_x, sSeq_w, seqF_n, seqF_r, seqF_x, seqF_b, seqF_c, sIf_w, ifS_t, ifS_f, ifS_x, sExp_w, expF_ok, expF_x, sRet_w, retF_v, retF_f, retF_x, sSet_w, setF_v, setF_f, setF_x, sPar_w, parF_ok, endF_rf, endF_nf, endF_xf, endF_rt, endF_rt', endF_nt', endF_xt', hSeq_w, seqH_l, seqH_t, hRange1_w, rng1_ok, hEnum_w, enumH_ok, sFor_w, forF_ok, forL_n, forA_s, forB_n, forB_c, forB_b, forB_r, forB_x, gSet_w, sLc_w, lcF_ok, lcE_ok, lcL_n, sYes_w, sFld_w, sSetIx_w, sIxA_s, sIxB_s, sIxC_s, sIxD_s, sIxE_s, getPl_sl, setPl_sl, getS_w, Option.getD_some, sLm_w, lm0_s, lmA_s, lmB_s, lmC_s, sSl_w, slA_v, slA_f, slA_t, slL_s, slH_s, slC_s, oPart_w, oPF_s, oNone_w, sM1_w, m1A_s, m1B_s, m1C_s, lcA_s, lcB_f, lcB_t, lcC_ok, freeO_n, freeO_v, ownOk_n, ownOk_c, wipeE_n, wipeE_c, restE_n, restE_c, sDc_w, dcF_ok, dcE_ok, sSetF_w, stfA_ok, getPl_fd, gplF_i, setPl_fd, splF_i, sFldZ_w, mkB_r, mkB_x, mkA_ok, sMake_w, sFmt_w, i1, i2, n1, ia_str_str, eq_str]
    | tup ds =>
      have h' : (decide (ds.length ≤ 1000000) && ds.all (sameOk k)) = true := h
      simp only [Bool.and_eq_true, decide_eq_true_eq, List.all_eq_true] at h'
      have e := same_items (sem__law_same k) (.tup ds) (.tup ds) ds (fun i hi => by rw [ix_natT (by omega), Int.toNat_natCast, List.getElem?_eq_getElem hi]; rfl) (fun d hd => same_refl k d (h'.2 d hd)) none rfl
      have hr : (-1000000 ≤ (ds.length : Int)) ∧ (ds.length : Int) ≤ 1000000 := ⟨by omega, by omega⟩
      simp only [runFn_w, LW.argsOk, O.isV, O.d, List.all_cons, List.all_nil, Bool.and_true, Bool.true_and, Bool.and_self, List.length_cons, List.length_nil, List.map_cons, List.map_nil, List.cons_append, List.nil_append, List.replicate_succ, List.replicate_zero, Nat.reduceAdd, Nat.reduceSub, Nat.zero_add, and_self, and_true, true_and, if_true, ite_true, if_false, ite_false, List.getElem?_cons_zero, List.getElem?_cons_succ, List.set_cons_zero, List.set_cons_succ, List.set_nil, Bool.false_eq_true, reduceIte, sVar_w, varF_v, varF_l, varF_k, sFrz_w, frzF_o, sMov_w, movF_o, sC_w, sFz_w, fzF_v, fzF_f, fzF_x, outP_s, opC_s, opB_ok, opB_x, sOp_w, opA_v, opA_f, opA_s, opA_x, rd_v, rd_s, rd_fv, rd_fl, rd_fk, sTB_w, tbF_b, tbF_x, sAndT_w, andT_t, andT_f, sOrT_w, orT_t, orT_f, sNotT_w, notT_ok, sAnd_w, andF_t, andF_f, sOr_w, orF_t, orF_f, sNot_w, notF_ok, sIfE_w, ifE_t, ifE_f, sChn_w, chA_v, chA_s, chB_ok, chB_s, chC_tv, chC_ts, chC_f, chD_ok, sNil_w, consB_ok, consB_x, sCons_w, consA_v, consA_x, sTup_w, tupF_ok, sLst_w, lstF_ok, sC1_w, c1A_ok, c1A_x, c1B_s, sCall_w, callA_ok, callA_x, callB_r, callB_x, sCallM_w, cm0_s, cmA_ok, cmB_s, cmC_r, cmC_x, sSeq_w, seqF_n, seqF_r, seqF_x, seqF_b, seqF_c, sIf_w, ifS_t, ifS_f, ifS_x, sExp_w, expF_ok, expF_x, sRet_w, retF_v, retF_f, retF_x, sSet_w, setF_v, setF_f, setF_x, sPar_w, parF_ok, endF_rf, endF_nf, endF_xf, endF_rt, endF_rt', endF_nt', endF_xt', hSeq_w, seqH_l, seqH_t, hRange1_w, rng1_ok, hEnum_w, enumH_ok, sFor_w, forF_ok, forL_n, forA_s, forB_n, forB_c, forB_b, forB_r, forB_x, gSet_w, sLc_w, lcF_ok, lcE_ok, lcL_n, sYes_w, sFld_w, sSetIx_w, sIxA_s, sIxB_s, sIxC_s, sIxD_s, sIxE_s, getPl_sl, setPl_sl, getS_w, Option.getD_some, sLm_w, lm0_s, lmA_s, lmB_s, lmC_s, sSl_w, slA_v, slA_f, slA_t, slL_s, slH_s, slC_s, oPart_w, oPF_s, oNone_w, sM1_w, m1A_s, m1B_s, m1C_s, lcA_s, lcB_f, lcB_t, lcC_ok, freeO_n, freeO_v, ownOk_n, ownOk_c, wipeE_n, wipeE_c, restE_n, restE_c, sDc_w, dcF_ok, dcE_ok, sSetF_w, stfA_ok, getPl_fd, gplF_i, setPl_fd, splF_i, sFldZ_w, mkB_r, mkB_x, mkA_ok, sMake_w, sFmt_w, ia_tuple_tup, i6, ne_bl, len_tup, gNe_int, decide_true, Bool.not_true, hr, e, eq_nil]
    | lst ds =>
      have h' : (decide (ds.length ≤ 1000000) && ds.all (sameOk k)) = true := h
      simp only [Bool.and_eq_true, decide_eq_true_eq, List.all_eq_true] at h'
      have e := same_items (sem__law_same k) (.lst ds) (.lst ds) ds (fun i hi => by rw [ix_nat (by omega), Int.toNat_natCast, List.getElem?_eq_getElem hi]; rfl) (fun d hd => same_refl k d (h'.2 d hd)) none rfl
      have hr : (-1000000 ≤ (ds.length : Int)) ∧ (ds.length : Int) ≤ 1000000 := ⟨by omega, by omega⟩
      simp only [runFn_w, LW.argsOk, O.isV, O.d, List.all_cons, List.all_nil, Bool.and_true, Bool.true_and, Bool.and_self, List.length_cons, List.length_nil, List.map_cons, List.map_nil, List.cons_append, List.nil_append, List.replicate_succ, List.replicate_zero, Nat.reduceAdd, Nat.reduceSub, Nat.zero_add, and_self, and_true, true_and, if_true, ite_true, if_false, ite_false, List.getElem?_cons_zero, List.getElem?_cons_succ, List.set_cons_zero, List.set_cons_succ, List.set_nil, Bool.false_eq_true, reduceIte, sVar_w, varF_v, varF_l, varF_k, sFrz_w, frzF_o, sMov_w, movF_o, sC_w, sFz_w, fzF_v, fzF_f, fzF_x, outP_s, opC_s, opB_ok, opB_x, sOp_w, opA_v, opA_f, opA_s, opA_x, rd_v, rd_s, rd_fv, rd_fl, rd_fk, sTB_w, tbF_b, tbF_x, sAndT_w, andT_t, andT_f, sOrT_w, orT_t, orT_f, sNotT_w, notT_ok, sAnd_w, andF_t, andF_f, sOr_w, orF_t, orF_f, sNot_w, notF_ok, sIfE_w, ifE_t, ifE_f, sChn_w, chA_v, chA_s, chB_ok, chB_s, chC_tv, chC_ts, chC_f, chD_ok, sNil_w, consB_ok, consB_x, sCons_w, consA_v, consA_x, sTup_w, tupF_ok, sLst_w, lstF_ok, sC1_w, c1A_ok, c1A_x, c1B_s, sCall_w, callA_ok, callA_x, callB_r, callB_x, sCallM_w, cm0_s, cmA_ok, cmB_s, cmC_r, cmC_x, sSeq_w, seqF_n, seqF_r, seqF_x, seqF_b, seqF_c, sIf_w, ifS_t, ifS_f, ifS_x, sExp_w, expF_ok, expF_x, sRet_w, retF_v, retF_f, retF_x, sSet_w, setF_v, setF_f, setF_x, sPar_w, parF_ok, endF_rf, endF_nf, endF_xf, endF_rt, endF_rt', endF_nt', endF_xt', hSeq_w, seqH_l, seqH_t, hRange1_w, rng1_ok, hEnum_w, enumH_ok, sFor_w, forF_ok, forL_n, forA_s, forB_n, forB_c, forB_b, forB_r, forB_x, gSet_w, sLc_w, lcF_ok, lcE_ok, lcL_n, sYes_w, sFld_w, sSetIx_w, sIxA_s, sIxB_s, sIxC_s, sIxD_s, sIxE_s, getPl_sl, setPl_sl, getS_w, Option.getD_some, sLm_w, lm0_s, lmA_s, lmB_s, lmC_s, sSl_w, slA_v, slA_f, slA_t, slL_s, slH_s, slC_s, oPart_w, oPF_s, oNone_w, sM1_w, m1A_s, m1B_s, m1C_s, lcA_s, lcB_f, lcB_t, lcC_ok, freeO_n, freeO_v, ownOk_n, ownOk_c, wipeE_n, wipeE_c, restE_n, restE_c, sDc_w, dcF_ok, dcE_ok, sSetF_w, stfA_ok, getPl_fd, gplF_i, setPl_fd, splF_i, sFldZ_w, mkB_r, mkB_x, mkA_ok, sMake_w, sFmt_w, i7, i8, ne_bl, len_lst, gNe_int, decide_true, Bool.not_true, hr, e, eq_nil]
    | _ => cases h
end SM

namespace SM
open PySem LW L2
theorem Spec.web {gs : List (List Nat)} {qs : List (Nat × Nat)} (s : Spec gs qs 10) : WebOk gs (sortP qs) := by
  have hp := sortP_perm qs
  refine ⟨s.nam, s.one, s.most, fun q hq => s.mem q (hp.mem_iff.mp hq), hp.nodup_iff.mpr s.nodup, ?_⟩
  rw [hp.length_eq]
  have h1 := s.sub.length_le
  have h2 := pairsUp_len gs.length
  have h3 : gs.length * gs.length ≤ 10 * 10 := Nat.mul_le_mul s.most s.most
  omega
theorem law_made (gs : List (List Nat)) (qs : List (Nat × Nat)) (s : Spec gs qs 10) : ∃ bs, sem__law_made [.v (.lst (spD gs qs))] = .ret (.f (.i "Web" (webF gs (sortP qs) bs))) [.v (.lst (spD gs qs))] := by
  obtain ⟨bs, e⟩ := web_init gs qs s.nam s.one s.most s.mem s.nodup
  have i0 : gIx2 (.lst (spD gs qs)) (.int 0) = some (.v (.lst (gs.map sS))) := rfl
  have i1 : gIx2 (.lst (spD gs qs)) (.int 1) = some (.v (.lst (qs.map pD))) := rfl
  have l0 : gList (.lst (gs.map sS)) = some (.f (.l (gs.map sS))) := rfl
  have l1 : gList (.lst (qs.map pD)) = some (.f (.l (qs.map pD))) := rfl
  refine ⟨bs, ?_⟩
  unfold sem__law_made
  simp only [runFn_w, LW.argsOk, O.isV, O.d, List.all_cons, List.all_nil, Bool.and_true, Bool.true_and, Bool.and_self, List.length_cons, List.length_nil, List.map_cons, List.map_nil, List.cons_append, List.nil_append, List.replicate_succ, List.replicate_zero, Nat.reduceAdd, Nat.reduceSub, Nat.zero_add, and_self, and_true, true_and, if_true, ite_true, if_false, ite_false, List.getElem?_cons_zero, List.getElem?_cons_succ, List.set_cons_zero, List.set_cons_succ, List.set_nil, Bool.false_eq_true, reduceIte, sVar_w, varF_v, varF_l, varF_k, sFrz_w, frzF_o, sMov_w, movF_o, sC_w, sFz_w, fzF_v, fzF_f, fzF_x, outP_s, opC_s, opB_ok, opB_x, sOp_w, opA_v, opA_f, opA_s, opA_x, rd_v, rd_s, rd_fv, rd_fl, rd_fk, sTB_w, tbF_b, tbF_x, sAndT_w, andT_t, andT_f, sOrT_w, orT_t, orT_f, sNotT_w, notT_ok, sAnd_w, andF_t, andF_f, sOr_w, orF_t, orF_f, sNot_w, notF_ok, sIfE_w, ifE_t, ifE_f, sChn_w, chA_v, chA_s, chB_ok, chB_s, chC_tv, chC_ts, chC_f, chD_ok, sNil_w, consB_ok, consB_x, sCons_w, consA_v, consA_x, sTup_w, tupF_ok, sLst_w, lstF_ok, sC1_w, c1A_ok, c1A_x, c1B_s, sCall_w, callA_ok, callA_x, callB_r, callB_x, sCallM_w, cm0_s, cmA_ok, cmB_s, cmC_r, cmC_x, sSeq_w, seqF_n, seqF_r, seqF_x, seqF_b, seqF_c, sIf_w, ifS_t, ifS_f, ifS_x, sExp_w, expF_ok, expF_x, sRet_w, retF_v, retF_f, retF_x, sSet_w, setF_v, setF_f, setF_x, sPar_w, parF_ok, endF_rf, endF_nf, endF_xf, endF_rt, endF_rt', endF_nt', endF_xt', hSeq_w, seqH_l, seqH_t, hRange1_w, rng1_ok, hEnum_w, enumH_ok, sFor_w, forF_ok, forL_n, forA_s, forB_n, forB_c, forB_b, forB_r, forB_x, gSet_w, sLc_w, lcF_ok, lcE_ok, lcL_n, sYes_w, sFld_w, sSetIx_w, sIxA_s, sIxB_s, sIxC_s, sIxD_s, sIxE_s, getPl_sl, setPl_sl, getS_w, Option.getD_some, sLm_w, lm0_s, lmA_s, lmB_s, lmC_s, sSl_w, slA_v, slA_f, slA_t, slL_s, slH_s, slC_s, oPart_w, oPF_s, oNone_w, sM1_w, m1A_s, m1B_s, m1C_s, lcA_s, lcB_f, lcB_t, lcC_ok, freeO_n, freeO_v, ownOk_n, ownOk_c, wipeE_n, wipeE_c, restE_n, restE_c, sDc_w, dcF_ok, dcE_ok, sSetF_w, stfA_ok, getPl_fd, gplF_i, setPl_fd, splF_i, sFldZ_w, mkB_r, mkB_x, mkA_ok, sMake_w, sFmt_w, i0, i1, l0, l1, e]
/-! equal -/
theorem eqv_all {α : Type} {f : α → D} (h : ∀ x, PyData.eqv (f x).py (f x).py = true) : ∀ xs : List α, PyData.eqvAll (D.pyL (xs.map f)) (D.pyL (xs.map f)) = true
  | [] => by simp [D.pyL, PyData.eqvAll]
  | x :: r => by simp [D.pyL, PyData.eqvAll, h x, eqv_all h r]
theorem plainL_on {α : Type} {n : Nat} {f : α → D} : ∀ xs : List α, (∀ x ∈ xs, (f x).plain n = true) → D.plainL n (xs.map f) = true
  | [], _ => rfl
  | x :: r, h => by simp [D.plainL, h x List.mem_cons_self, plainL_on r fun z hz => h z (List.mem_cons_of_mem _ hz)]
theorem eq_tup {α : Type} {f : α → D} (xs : List α) (hp : ∀ x ∈ xs, (f x).plain 59 = true) (h : ∀ x, PyData.eqv (f x).py (f x).py = true) : gEq (.tup (xs.map f)) (.tup (xs.map f)) = some (.v (.bl true)) := by
  have pl : D.plain 60 (.tup (xs.map f)) = true := by
    show D.plain (59 + 1) (.tup (xs.map f)) = true
    simp only [D.plain]; exact plainL_on xs hp
  show (if D.plain 60 (.tup (xs.map f)) = true ∧ D.plain 60 (.tup (xs.map f)) = true then some (D.eqv (.tup (xs.map f)) (.tup (xs.map f))) else none).map _ = _
  rw [if_pos ⟨pl, pl⟩]
  have : D.eqv (.tup (xs.map f)) (.tup (xs.map f)) = true := by
    unfold D.eqv
    simp only [D.py, PyData.eqv]
    exact eqv_all h xs
  rw [this]; rfl
theorem eq_names {gs : List (List Nat)} (h : ∀ m ∈ gs, Okl m) : gEq (.tup (gs.map sS)) (.tup (gs.map sS)) = some (.v (.bl true)) :=
  eq_tup gs (fun x hx => by simp [sS, D.plain, okl_S (h x hx)]) fun x => by simp [sS, D.py, PyData.eqv]
theorem eq_ways (ws : List (Nat × Nat)) : gEq (.tup (ws.map pD)) (.tup (ws.map pD)) = some (.v (.bl true)) :=
  eq_tup ws (fun x hx => plain_pD (n := 58) x) fun x => by simp [pD, D.py, D.pyL, PyData.eqv, PyData.eqvAll]
theorem web_eq (gs : List (List Nat)) (ws : List (Nat × Nat)) (b1 b2 : List D) (h : ∀ m ∈ gs, Okl m) : sem_Web___eq__ [.v (webD gs ws b1), .v (webD gs ws b2)] = .ret (.v (.bl true)) [.v (webD gs ws b1), .v (webD gs ws b2)] := by
  have ia : gIs (D.isa CS (.own "Web")) (webD gs ws b2) = some (.v (.bl true)) := rfl
  have f1 : ∀ (b : List D) (ρ : LW.Env), fldF "Web" "names" (some (.v (webD gs ws b))) ρ = .ok (.v (.tup (gs.map sS))) ρ := fun b ρ => fldF_v rfl
  have f2 : ∀ (b : List D) (ρ : LW.Env), fldF "Web" "ways" (some (.v (webD gs ws b))) ρ = .ok (.v (.tup (ws.map pD))) ρ := fun b ρ => fldF_v rfl
  unfold sem_Web___eq__
  simp only [runFn_w, LW.argsOk, O.isV, O.d, List.all_cons, List.all_nil, Bool.and_true, Bool.true_and, Bool.and_self, List.length_cons, List.length_nil, List.map_cons, List.map_nil, List.cons_append, List.nil_append, List.replicate_succ, List.replicate_zero, Nat.reduceAdd, Nat.reduceSub, Nat.zero_add, and_self, and_true, true_and, if_true, ite_true, if_false, ite_false, List.getElem?_cons_zero, List.getElem?_cons_succ, List.set_cons_zero, List.set_cons_succ, List.set_nil, Bool.false_eq_true, reduceIte, sVar_w, varF_v, varF_l, varF_k, sFrz_w, frzF_o, sMov_w, movF_o, sC_w, sFz_w, fzF_v, fzF_f, fzF_x, outP_s, opC_s, opB_ok, opB_x, sOp_w, opA_v, opA_f, opA_s, opA_x, rd_v, rd_s, rd_fv, rd_fl, rd_fk, sTB_w, tbF_b, tbF_x, sAndT_w, andT_t, andT_f, sOrT_w, orT_t, orT_f, sNotT_w, notT_ok, sAnd_w, andF_t, andF_f, sOr_w, orF_t, orF_f, sNot_w, notF_ok, sIfE_w, ifE_t, ifE_f, sChn_w, chA_v, chA_s, chB_ok, chB_s, chC_tv, chC_ts, chC_f, chD_ok, sNil_w, consB_ok, consB_x, sCons_w, consA_v, consA_x, sTup_w, tupF_ok, sLst_w, lstF_ok, sC1_w, c1A_ok, c1A_x, c1B_s, sCall_w, callA_ok, callA_x, callB_r, callB_x, sCallM_w, cm0_s, cmA_ok, cmB_s, cmC_r, cmC_x, sSeq_w, seqF_n, seqF_r, seqF_x, seqF_b, seqF_c, sIf_w, ifS_t, ifS_f, ifS_x, sExp_w, expF_ok, expF_x, sRet_w, retF_v, retF_f, retF_x, sSet_w, setF_v, setF_f, setF_x, sPar_w, parF_ok, endF_rf, endF_nf, endF_xf, endF_rt, endF_rt', endF_nt', endF_xt', hSeq_w, seqH_l, seqH_t, hRange1_w, rng1_ok, hEnum_w, enumH_ok, sFor_w, forF_ok, forL_n, forA_s, forB_n, forB_c, forB_b, forB_r, forB_x, gSet_w, sLc_w, lcF_ok, lcE_ok, lcL_n, sYes_w, sFld_w, sSetIx_w, sIxA_s, sIxB_s, sIxC_s, sIxD_s, sIxE_s, getPl_sl, setPl_sl, getS_w, Option.getD_some, sLm_w, lm0_s, lmA_s, lmB_s, lmC_s, sSl_w, slA_v, slA_f, slA_t, slL_s, slH_s, slC_s, oPart_w, oPF_s, oNone_w, sM1_w, m1A_s, m1B_s, m1C_s, lcA_s, lcB_f, lcB_t, lcC_ok, freeO_n, freeO_v, ownOk_n, ownOk_c, wipeE_n, wipeE_c, restE_n, restE_c, sDc_w, dcF_ok, dcE_ok, sSetF_w, stfA_ok, getPl_fd, gplF_i, setPl_fd, splF_i, sFldZ_w, mkB_r, mkB_x, mkA_ok, sMake_w, sFmt_w, ia, f1, f2, eq_names h, eq_ways]
theorem web_ne (gs : List (List Nat)) (ws : List (Nat × Nat)) (b1 b2 : List D) (h : ∀ m ∈ gs, Okl m) : gNeI "Web" sem_Web___eq__ (webD gs ws b1) (webD gs ws b2) = some (.v (.bl false)) := by
  have e := web_eq gs ws b1 b2 h
  show (if ("Web" : Str) = "Web" ∧ ("Web" : Str) = "Web" then (match sem_Web___eq__ [.v (webD gs ws b1), .v (webD gs ws b2)] with
    | .ret (.v (.bl b)) _ => some (P.v (.bl (!b)))
    | _ => none) else none) = _
  rw [if_pos ⟨rfl, rfl⟩, e]
  rfl
theorem fzA_v {i : Nat} {c f : Str} {gs : List (Str × D)} {d : D} {ρ : LW.Env} (e : lookD f gs = some d) : fzA i c f (some (.v (.ins c gs))) ρ = .ok (.v d) ρ := by
  show (if c = c then (match lookD f gs with | some d => Out.ok (P.v d) ρ | none => .no) else .no) = _
  rw [if_pos rfl, e]
theorem same_text (l : List Nat) : sem__law_same 12 [.v (sS l), .v (sS l)] = .ret (.v (.bl true)) [.v (sS l), .v (sS l)] := same_refl 12 _ rfl
theorem same_parts (gs : List (List Nat)) (ws : List (Nat × Nat)) (w : WebOk gs ws) : sem__law_same 12 [.v (.lst [.tup (gs.map sS), .tup (ws.map pD)]), .v (.lst [.tup (gs.map sS), .tup (ws.map pD)])] = .ret (.v (.bl true)) [.v (.lst [.tup (gs.map sS), .tup (ws.map pD)]), .v (.lst [.tup (gs.map sS), .tup (ws.map pD)])] := by
  refine same_refl 12 _ ?_
  have h1 : sameOk 11 (.tup (gs.map sS)) = true := by
    show (decide ((gs.map sS).length ≤ 1000000) && (gs.map sS).all (sameOk 10)) = true
    have := w.ten
    rw [decide_eq_true (by simp; omega), Bool.true_and, List.all_eq_true]
    intro d hd
    obtain ⟨l, _, rfl⟩ := List.mem_map.mp hd
    rfl
  have h2 : sameOk 11 (.tup (ws.map pD)) = true := by
    show (decide ((ws.map pD).length ≤ 1000000) && (ws.map pD).all (sameOk 10)) = true
    have := w.len
    rw [decide_eq_true (by simp; omega), Bool.true_and, List.all_eq_true]
    intro d hd
    obtain ⟨l, _, rfl⟩ := List.mem_map.mp hd
    rfl
  show (decide (2 ≤ 1000000) && (sameOk 11 (.tup (gs.map sS)) && (sameOk 11 (.tup (ws.map pD)) && true))) = true
  rw [h1, h2]; rfl
def lawB : LW.Env → LW.Flow := (sSeq (sSet 3 (sCallM (sem__law_spec) 1 (sCons (sC (.int 10)) (sNil))))
  (sSeq (sPar 4 5 (sCons (sCall (sem__law_made) (sCons (sFrz 3) (sNil))) (sCons (sCall (sem__law_text_of) (sCons (sFrz 3) (sNil))) (sNil))))
  (sSeq (sSet 6 (sCall (sem_read_web) (sCons (sVar 5) (sNil))))
  (sSeq (sIf (sOrT (sNotT (sTB (sCall ((sem__law_same 12)) (sCons (sCall (sem_web_text) (sCons (sVar 4) (sNil))) (sCons (sVar 5) (sNil)))))) (sOrT (sTB (sOp (gNeI "Web" sem_Web___eq__) true (sFrz 6) (sVar 4))) (sTB (sOp gNe true (sCall (sem_web_text) (sCons (sFrz 6) (sNil))) (sVar 5))))) (sRet (sC (.bl false))) (LW.Flow.next))
  (sIf (sNotT (sTB (sCall ((sem__law_same 12)) (sCons (sLst (sCons (sFldZ 6 "Web" "names") (sCons (sFldZ 6 "Web" "ways") (sNil)))) (sCons (sLst (sCons (sC1 gTuple (sOp gIx2 true (sVar 3) (sC (.int 0)))) (sCons (sC1 gTuple (sC1 gSorted (sOp gIx2 true (sVar 3) (sC (.int 1))))) (sNil)))) (sNil)))))) (sRet (sC (.bl false))) (LW.Flow.next))))))
theorem law_turn (a0 : Option O) (p : Pot) (a2 a3 a4 a5 a6 : Option O) : ∃ (p' : Pot) (b3 b4 b5 b6 : Option O), lawB [a0, some p.o, a2, a3, a4, a5, a6] = .next [a0, some p'.o, a2, b3, b4, b5, b6] := by
  obtain ⟨gs, qs, p1, e1, s⟩ := spec p 10 (by omega) (by omega)
  have e1 : sem__law_spec [p.o, .v (.int 10)] = .ret (.f (.l (spD gs qs))) [p1.o, .v (.int 10)] := e1
  have w := s.web
  obtain ⟨b1, e2⟩ := law_made gs qs s
  have e3 := text_of gs qs w
  obtain ⟨b2, e4⟩ := read_web gs (sortP qs) w
  rw [sortP_idem] at e4
  have ho : ∀ m ∈ gs, Okl m := s.nam.okl
  have t1 := web_text gs (sortP qs) b1 w
  have t2 := web_text gs (sortP qs) b2 w
  have ne := gNe_S (textOf gs (sortP qs)) (textOf gs (sortP qs))
  rw [decide_eq_true rfl] at ne
  have i0 : gIx2 (.lst (spD gs qs)) (.int 0) = some (.v (.lst (gs.map sS))) := rfl
  have i1 : gIx2 (.lst (spD gs qs)) (.int 1) = some (.v (.lst (qs.map pD))) := rfl
  have z1 : ∀ ρ : LW.Env, fzA 6 "Web" "names" (some (.v (webD gs (sortP qs) b2))) ρ = .ok (.v (.tup (gs.map sS))) ρ := fun ρ => fzA_v rfl
  have z2 : ∀ ρ : LW.Env, fzA 6 "Web" "ways" (some (.v (webD gs (sortP qs) b2))) ρ = .ok (.v (.tup ((sortP qs).map pD))) ρ := fun ρ => fzA_v rfl
  have od : ∀ b, D.ins "Web" (O.dF (webF gs (sortP qs) b)) = webD gs (sortP qs) b := fun b => rfl
  refine ⟨p1, some (.v (.lst (spD gs qs))), some (.v (webD gs (sortP qs) b1)), some (.v (sS (textOf gs (sortP qs)))), some (.v (webD gs (sortP qs) b2)), ?_⟩
  unfold lawB
  simp only [runFn_w, LW.argsOk, O.isV, O.d, List.all_cons, List.all_nil, Bool.and_true, Bool.true_and, Bool.and_self, List.length_cons, List.length_nil, List.map_cons, List.map_nil, List.cons_append, List.nil_append, List.replicate_succ, List.replicate_zero, Nat.reduceAdd, Nat.reduceSub, Nat.zero_add, and_self, and_true, true_and, if_true, ite_true, if_false, ite_false, List.getElem?_cons_zero, List.getElem?_cons_succ, List.set_cons_zero, List.set_cons_succ, List.set_nil, Bool.false_eq_true, reduceIte, sVar_w, varF_v, varF_l, varF_k, sFrz_w, frzF_o, sMov_w, movF_o, sC_w, sFz_w, fzF_v, fzF_f, fzF_x, outP_s, opC_s, opB_ok, opB_x, sOp_w, opA_v, opA_f, opA_s, opA_x, rd_v, rd_s, rd_fv, rd_fl, rd_fk, sTB_w, tbF_b, tbF_x, sAndT_w, andT_t, andT_f, sOrT_w, orT_t, orT_f, sNotT_w, notT_ok, sAnd_w, andF_t, andF_f, sOr_w, orF_t, orF_f, sNot_w, notF_ok, sIfE_w, ifE_t, ifE_f, sChn_w, chA_v, chA_s, chB_ok, chB_s, chC_tv, chC_ts, chC_f, chD_ok, sNil_w, consB_ok, consB_x, sCons_w, consA_v, consA_x, sTup_w, tupF_ok, sLst_w, lstF_ok, sC1_w, c1A_ok, c1A_x, c1B_s, sCall_w, callA_ok, callA_x, callB_r, callB_x, sCallM_w, cm0_s, cmA_ok, cmB_s, cmC_r, cmC_x, sSeq_w, seqF_n, seqF_r, seqF_x, seqF_b, seqF_c, sIf_w, ifS_t, ifS_f, ifS_x, sExp_w, expF_ok, expF_x, sRet_w, retF_v, retF_f, retF_x, sSet_w, setF_v, setF_f, setF_x, sPar_w, parF_ok, endF_rf, endF_nf, endF_xf, endF_rt, endF_rt', endF_nt', endF_xt', hSeq_w, seqH_l, seqH_t, hRange1_w, rng1_ok, hEnum_w, enumH_ok, sFor_w, forF_ok, forL_n, forA_s, forB_n, forB_c, forB_b, forB_r, forB_x, gSet_w, sLc_w, lcF_ok, lcE_ok, lcL_n, sYes_w, sFld_w, sSetIx_w, sIxA_s, sIxB_s, sIxC_s, sIxD_s, sIxE_s, getPl_sl, setPl_sl, getS_w, Option.getD_some, sLm_w, lm0_s, lmA_s, lmB_s, lmC_s, sSl_w, slA_v, slA_f, slA_t, slL_s, slH_s, slC_s, oPart_w, oPF_s, oNone_w, sM1_w, m1A_s, m1B_s, m1C_s, lcA_s, lcB_f, lcB_t, lcC_ok, freeO_n, freeO_v, ownOk_n, ownOk_c, wipeE_n, wipeE_c, restE_n, restE_c, sDc_w, dcF_ok, dcE_ok, sSetF_w, stfA_ok, getPl_fd, gplF_i, setPl_fd, splF_i, sFldZ_w, mkB_r, mkB_x, mkA_ok, sMake_w, sFmt_w, e1, e2, od, e3, e4, t1, same_text, Bool.not_true, web_ne gs (sortP qs) b2 b1 ho, t2, ne, z1, z2, i0, i1, gTuple, sorted_pairs, same_parts gs (sortP qs) w]
theorem law_loop (a0 : Option O) : ∀ (ds : List D) (p : Pot) (a2 a3 a4 a5 a6 : Option O), ∃ (p' : Pot) (b2 b3 b4 b5 b6 : Option O), forL (gSet 2) lawB ds [a0, some p.o, a2, a3, a4, a5, a6] = .next [a0, some p'.o, b2, b3, b4, b5, b6]
  | [], p, a2, a3, a4, a5, a6 => ⟨p, a2, a3, a4, a5, a6, rfl⟩
  | d :: r, p, a2, a3, a4, a5, a6 => by
    obtain ⟨p1, b3, b4, b5, b6, e⟩ := law_turn a0 p (some (.v d)) a3 a4 a5 a6
    obtain ⟨p2, c2, c3, c4, c5, c6, e2⟩ := law_loop a0 r p1 (some (.v d)) b3 b4 b5 b6
    refine ⟨p2, c2, c3, c4, c5, c6, ?_⟩
    rw [forL_c]
    simp only [runFn_w, LW.argsOk, O.isV, O.d, List.all_cons, List.all_nil, Bool.and_true, Bool.true_and, Bool.and_self, List.length_cons, List.length_nil, List.map_cons, List.map_nil, List.cons_append, List.nil_append, List.replicate_succ, List.replicate_zero, Nat.reduceAdd, Nat.reduceSub, Nat.zero_add, and_self, and_true, true_and, if_true, ite_true, if_false, ite_false, List.getElem?_cons_zero, List.getElem?_cons_succ, List.set_cons_zero, List.set_cons_succ, List.set_nil, Bool.false_eq_true, reduceIte, sVar_w, varF_v, varF_l, varF_k, sFrz_w, frzF_o, sMov_w, movF_o, sC_w, sFz_w, fzF_v, fzF_f, fzF_x, outP_s, opC_s, opB_ok, opB_x, sOp_w, opA_v, opA_f, opA_s, opA_x, rd_v, rd_s, rd_fv, rd_fl, rd_fk, sTB_w, tbF_b, tbF_x, sAndT_w, andT_t, andT_f, sOrT_w, orT_t, orT_f, sNotT_w, notT_ok, sAnd_w, andF_t, andF_f, sOr_w, orF_t, orF_f, sNot_w, notF_ok, sIfE_w, ifE_t, ifE_f, sChn_w, chA_v, chA_s, chB_ok, chB_s, chC_tv, chC_ts, chC_f, chD_ok, sNil_w, consB_ok, consB_x, sCons_w, consA_v, consA_x, sTup_w, tupF_ok, sLst_w, lstF_ok, sC1_w, c1A_ok, c1A_x, c1B_s, sCall_w, callA_ok, callA_x, callB_r, callB_x, sCallM_w, cm0_s, cmA_ok, cmB_s, cmC_r, cmC_x, sSeq_w, seqF_n, seqF_r, seqF_x, seqF_b, seqF_c, sIf_w, ifS_t, ifS_f, ifS_x, sExp_w, expF_ok, expF_x, sRet_w, retF_v, retF_f, retF_x, sSet_w, setF_v, setF_f, setF_x, sPar_w, parF_ok, endF_rf, endF_nf, endF_xf, endF_rt, endF_rt', endF_nt', endF_xt', hSeq_w, seqH_l, seqH_t, hRange1_w, rng1_ok, hEnum_w, enumH_ok, sFor_w, forF_ok, forL_n, forA_s, forB_n, forB_c, forB_b, forB_r, forB_x, gSet_w, sLc_w, lcF_ok, lcE_ok, lcL_n, sYes_w, sFld_w, sSetIx_w, sIxA_s, sIxB_s, sIxC_s, sIxD_s, sIxE_s, getPl_sl, setPl_sl, getS_w, Option.getD_some, sLm_w, lm0_s, lmA_s, lmB_s, lmC_s, sSl_w, slA_v, slA_f, slA_t, slL_s, slH_s, slC_s, oPart_w, oPF_s, oNone_w, sM1_w, m1A_s, m1B_s, m1C_s, lcA_s, lcB_f, lcB_t, lcC_ok, freeO_n, freeO_v, ownOk_n, ownOk_c, wipeE_n, wipeE_c, restE_n, restE_c, sDc_w, dcF_ok, dcE_ok, sSetF_w, stfA_ok, getPl_fd, gplF_i, setPl_fd, splF_i, sFldZ_w, mkB_r, mkB_x, mkA_ok, sMake_w, sFmt_w, e, e2]
theorem keeps02 : LawKeeps sem_law := fun ns hl hb => by
  obtain ⟨p, e1⟩ := pot ns hl
  obtain ⟨p2, c2, c3, c4, c5, c6, e2⟩ := law_loop (some (.v (.lst (ns.map .int)))) (rangeD 0 6) p none none none none none
  refine ⟨[.v (.lst (ns.map .int))], ?_⟩
  unfold lawB at e2
  unfold sem_law
  simp only [runFn_w, LW.argsOk, O.isV, O.d, List.all_cons, List.all_nil, Bool.and_true, Bool.true_and, Bool.and_self, List.length_cons, List.length_nil, List.map_cons, List.map_nil, List.cons_append, List.nil_append, List.replicate_succ, List.replicate_zero, Nat.reduceAdd, Nat.reduceSub, Nat.zero_add, and_self, and_true, true_and, if_true, ite_true, if_false, ite_false, List.getElem?_cons_zero, List.getElem?_cons_succ, List.set_cons_zero, List.set_cons_succ, List.set_nil, Bool.false_eq_true, reduceIte, sVar_w, varF_v, varF_l, varF_k, sFrz_w, frzF_o, sMov_w, movF_o, sC_w, sFz_w, fzF_v, fzF_f, fzF_x, outP_s, opC_s, opB_ok, opB_x, sOp_w, opA_v, opA_f, opA_s, opA_x, rd_v, rd_s, rd_fv, rd_fl, rd_fk, sTB_w, tbF_b, tbF_x, sAndT_w, andT_t, andT_f, sOrT_w, orT_t, orT_f, sNotT_w, notT_ok, sAnd_w, andF_t, andF_f, sOr_w, orF_t, orF_f, sNot_w, notF_ok, sIfE_w, ifE_t, ifE_f, sChn_w, chA_v, chA_s, chB_ok, chB_s, chC_tv, chC_ts, chC_f, chD_ok, sNil_w, consB_ok, consB_x, sCons_w, consA_v, consA_x, sTup_w, tupF_ok, sLst_w, lstF_ok, sC1_w, c1A_ok, c1A_x, c1B_s, sCall_w, callA_ok, callA_x, callB_r, callB_x, sCallM_w, cm0_s, cmA_ok, cmB_s, cmC_r, cmC_x, sSeq_w, seqF_n, seqF_r, seqF_x, seqF_b, seqF_c, sIf_w, ifS_t, ifS_f, ifS_x, sExp_w, expF_ok, expF_x, sRet_w, retF_v, retF_f, retF_x, sSet_w, setF_v, setF_f, setF_x, sPar_w, parF_ok, endF_rf, endF_nf, endF_xf, endF_rt, endF_rt', endF_nt', endF_xt', hSeq_w, seqH_l, seqH_t, hRange1_w, rng1_ok, hEnum_w, enumH_ok, sFor_w, forF_ok, forL_n, forA_s, forB_n, forB_c, forB_b, forB_r, forB_x, gSet_w, sLc_w, lcF_ok, lcE_ok, lcL_n, sYes_w, sFld_w, sSetIx_w, sIxA_s, sIxB_s, sIxC_s, sIxD_s, sIxE_s, getPl_sl, setPl_sl, getS_w, Option.getD_some, sLm_w, lm0_s, lmA_s, lmB_s, lmC_s, sSl_w, slA_v, slA_f, slA_t, slL_s, slH_s, slC_s, oPart_w, oPF_s, oNone_w, sM1_w, m1A_s, m1B_s, m1C_s, lcA_s, lcB_f, lcB_t, lcC_ok, freeO_n, freeO_v, ownOk_n, ownOk_c, wipeE_n, wipeE_c, restE_n, restE_c, sDc_w, dcF_ok, dcE_ok, sSetF_w, stfA_ok, getPl_fd, gplF_i, setPl_fd, splF_i, sFldZ_w, mkB_r, mkB_x, mkA_ok, sMake_w, sFmt_w, e1, show (-1000000 ≤ (6 : Int)) ∧ (6 : Int) ≤ 1000000 from ⟨by omega, by omega⟩, e2]
end SM

namespace K02
open PySem PySem.Spec PyProof.Rows L2 LW SM
def topS (i : Nat) : Stmt := PySem.Challenge.pw_litwebs_k02_whole_texts_of_webs.main.body.getD i (.Pass ⟨0, 0, 0, 0⟩)
structure Adr where
  f_LineReader___init__ : Addr
  d_LineReader___init__ : FuncData
  f_LineReader_takes : Addr
  d_LineReader_takes : FuncData
  f_Web___eq__ : Addr
  d_Web___eq__ : FuncData
  f_Web___init__ : Addr
  d_Web___init__ : FuncData
  f__law_draw : Addr
  d__law_draw : FuncData
  f__law_is_label : Addr
  d__law_is_label : FuncData
  f__law_is_name : Addr
  d__law_is_name : FuncData
  f__law_lines : Addr
  d__law_lines : FuncData
  f__law_made : Addr
  d__law_made : FuncData
  f__law_names : Addr
  d__law_names : FuncData
  f__law_pairs : Addr
  d__law_pairs : FuncData
  f__law_pick : Addr
  d__law_pick : FuncData
  f__law_pot : Addr
  d__law_pot : FuncData
  f__law_same : Addr
  d__law_same : FuncData
  f__law_spec : Addr
  d__law_spec : FuncData
  f__law_text_of : Addr
  d__law_text_of : FuncData
  f__law_word : Addr
  d__law_word : FuncData
  f__law_words : Addr
  d__law_words : FuncData
  f_are_names : Addr
  d_are_names : FuncData
  f_are_pairs_below : Addr
  d_are_pairs_below : FuncData
  f_is_label : Addr
  d_is_label : FuncData
  f_is_listed : Addr
  d_is_listed : FuncData
  f_is_name : Addr
  d_is_name : FuncData
  f_is_number : Addr
  d_is_number : FuncData
  f_is_within : Addr
  d_is_within : FuncData
  f_law : Addr
  d_law : FuncData
  f_number_in : Addr
  d_number_in : FuncData
  f_read_web : Addr
  d_read_web : FuncData
  f_web_text : Addr
  d_web_text : FuncData
  C_LineReader : Addr
  C_Web : Addr
  u_DIGITS : Value
  u_LONGEST : Value
  u_MOST_DIGITS : Value
  u_MOST_PLACES : Value
  u_SIGNS : Value
  a_WORDS : Addr
structure Top (A : Adr) (K : PySem.W.Frag) (mg : Str → Option Value) : Prop where
  F_LineReader___init__ : Fun K "__init__" "LineReader.__init__" (inClass (topS 24) 0) A.f_LineReader___init__ A.d_LineReader___init__
  F_LineReader_takes : Fun K "takes" "LineReader.takes" (inClass (topS 24) 1) A.f_LineReader_takes A.d_LineReader_takes
  F_Web___eq__ : Fun K "__eq__" "Web.__eq__" (inClass (topS 19) 1) A.f_Web___eq__ A.d_Web___eq__
  F_Web___init__ : Fun K "__init__" "Web.__init__" (inClass (topS 19) 0) A.f_Web___init__ A.d_Web___init__
  F__law_draw : Fun K "_law_draw" "_law_draw" (topS 28) A.f__law_draw A.d__law_draw
  F__law_is_label : Fun K "_law_is_label" "_law_is_label" (topS 32) A.f__law_is_label A.d__law_is_label
  F__law_is_name : Fun K "_law_is_name" "_law_is_name" (topS 33) A.f__law_is_name A.d__law_is_name
  F__law_lines : Fun K "_law_lines" "_law_lines" (topS 39) A.f__law_lines A.d__law_lines
  F__law_made : Fun K "_law_made" "_law_made" (topS 38) A.f__law_made A.d__law_made
  F__law_names : Fun K "_law_names" "_law_names" (topS 34) A.f__law_names A.d__law_names
  F__law_pairs : Fun K "_law_pairs" "_law_pairs" (topS 35) A.f__law_pairs A.d__law_pairs
  F__law_pick : Fun K "_law_pick" "_law_pick" (topS 29) A.f__law_pick A.d__law_pick
  F__law_pot : Fun K "_law_pot" "_law_pot" (topS 27) A.f__law_pot A.d__law_pot
  F__law_same : Fun K "_law_same" "_law_same" (topS 30) A.f__law_same A.d__law_same
  F__law_spec : Fun K "_law_spec" "_law_spec" (topS 37) A.f__law_spec A.d__law_spec
  F__law_text_of : Fun K "_law_text_of" "_law_text_of" (topS 40) A.f__law_text_of A.d__law_text_of
  F__law_word : Fun K "_law_word" "_law_word" (topS 31) A.f__law_word A.d__law_word
  F__law_words : Fun K "_law_words" "_law_words" (topS 36) A.f__law_words A.d__law_words
  F_are_names : Fun K "are_names" "are_names" (topS 18) A.f_are_names A.d_are_names
  F_are_pairs_below : Fun K "are_pairs_below" "are_pairs_below" (topS 15) A.f_are_pairs_below A.d_are_pairs_below
  F_is_label : Fun K "is_label" "is_label" (topS 13) A.f_is_label A.d_is_label
  F_is_listed : Fun K "is_listed" "is_listed" (topS 12) A.f_is_listed A.d_is_listed
  F_is_name : Fun K "is_name" "is_name" (topS 14) A.f_is_name A.d_is_name
  F_is_number : Fun K "is_number" "is_number" (topS 10) A.f_is_number A.d_is_number
  F_is_within : Fun K "is_within" "is_within" (topS 11) A.f_is_within A.d_is_within
  F_law : Fun K "law" "law" (topS 41) A.f_law A.d_law
  F_number_in : Fun K "number_in" "number_in" (topS 23) A.f_number_in A.d_number_in
  F_read_web : Fun K "read_web" "read_web" (topS 25) A.f_read_web A.d_read_web
  F_web_text : Fun K "web_text" "web_text" (topS 1) A.f_web_text A.d_web_text
  M_LineReader : Mk K A.C_LineReader A.f_LineReader___init__
  M_Web : Mk K A.C_Web A.f_Web___init__
  b_LineReader___init__ : Binds K A.d_LineReader___init__ ["self"] []
  b_LineReader_takes : Binds K A.d_LineReader_takes ["self", "words"] []
  b_Web___eq__ : Binds K A.d_Web___eq__ ["self", "other"] []
  b_Web___init__ : Binds K A.d_Web___init__ ["self", "names", "ways"] []
  b__law_draw : Binds K A.d__law_draw ["pot", "many"] []
  b__law_is_label : Binds K A.d__law_is_label ["thing"] []
  b__law_is_name : Binds K A.d__law_is_name ["thing"] []
  b__law_lines : Binds K A.d__law_lines ["spec"] []
  b__law_made : Binds K A.d__law_made ["spec"] []
  b__law_names : Binds K A.d__law_names ["pot", "many"] []
  b__law_pairs : Binds K A.d__law_pairs ["many"] []
  b__law_pick : Binds K A.d__law_pick ["pot", "row"] []
  b__law_pot : Binds K A.d__law_pot ["script"] []
  b__law_same : Binds K A.d__law_same ["found", "due"] []
  b__law_spec : Binds K A.d__law_spec ["pot", "most"] []
  b__law_text_of : Binds K A.d__law_text_of ["spec"] []
  b__law_word : Binds K A.d__law_word ["pot"] []
  b__law_words : Binds K A.d__law_words [] []
  b_are_names : Binds K A.d_are_names ["value"] []
  b_are_pairs_below : Binds K A.d_are_pairs_below ["value", "many"] []
  b_is_label : Binds K A.d_is_label ["value"] []
  b_is_listed : Binds K A.d_is_listed ["value"] []
  b_is_name : Binds K A.d_is_name ["value"] []
  b_is_number : Binds K A.d_is_number ["value"] []
  b_is_within : Binds K A.d_is_within ["value", "least", "most"] []
  b_number_in : Binds K A.d_number_in ["word"] []
  b_read_web : Binds K A.d_read_web ["text"] []
  b_web_text : Binds K A.d_web_text ["web"] []
  c_LineReader : ClsOk K mg "LineReader" A.C_LineReader
  c_Web : ClsOk K mg "Web" A.C_Web
  e_Web : OwnEq K A.C_Web A.f_Web___eq__
  g_DIGITS : mg "DIGITS" = some A.u_DIGITS
  g_LONGEST : mg "LONGEST" = some A.u_LONGEST
  g_MOST_DIGITS : mg "MOST_DIGITS" = some A.u_MOST_DIGITS
  g_MOST_PLACES : mg "MOST_PLACES" = some A.u_MOST_PLACES
  g_SIGNS : mg "SIGNS" = some A.u_SIGNS
  g_WORDS : mg "WORDS" = some (.ref A.a_WORDS)
  g__law_draw : mg "_law_draw" = some (.ref A.f__law_draw)
  g__law_is_label : mg "_law_is_label" = some (.ref A.f__law_is_label)
  g__law_is_name : mg "_law_is_name" = some (.ref A.f__law_is_name)
  g__law_lines : mg "_law_lines" = some (.ref A.f__law_lines)
  g__law_made : mg "_law_made" = some (.ref A.f__law_made)
  g__law_names : mg "_law_names" = some (.ref A.f__law_names)
  g__law_pairs : mg "_law_pairs" = some (.ref A.f__law_pairs)
  g__law_pick : mg "_law_pick" = some (.ref A.f__law_pick)
  g__law_pot : mg "_law_pot" = some (.ref A.f__law_pot)
  g__law_same : mg "_law_same" = some (.ref A.f__law_same)
  g__law_spec : mg "_law_spec" = some (.ref A.f__law_spec)
  g__law_text_of : mg "_law_text_of" = some (.ref A.f__law_text_of)
  g__law_word : mg "_law_word" = some (.ref A.f__law_word)
  g__law_words : mg "_law_words" = some (.ref A.f__law_words)
  g_are_names : mg "are_names" = some (.ref A.f_are_names)
  g_are_pairs_below : mg "are_pairs_below" = some (.ref A.f_are_pairs_below)
  g_is_label : mg "is_label" = some (.ref A.f_is_label)
  g_is_listed : mg "is_listed" = some (.ref A.f_is_listed)
  g_is_name : mg "is_name" = some (.ref A.f_is_name)
  g_is_number : mg "is_number" = some (.ref A.f_is_number)
  g_is_within : mg "is_within" = some (.ref A.f_is_within)
  g_number_in : mg "number_in" = some (.ref A.f_number_in)
  g_read_web : mg "read_web" = some (.ref A.f_read_web)
  g_web_text : mg "web_text" = some (.ref A.f_web_text)
  isa2_list_tuple : IsA2 K mg (.type "list") (.type "tuple") (D.isa CS .list) (D.isa CS .tuple)
  isa_Web : IsA K mg (.ref A.C_Web) (D.isa CS (.own "Web"))
  isa_bool : IsA K mg (.type "bool") (D.isa CS .bool)
  isa_int : IsA K mg (.type "int") (D.isa CS .int)
  isa_list : IsA K mg (.type "list") (D.isa CS .list)
  isa_str : IsA K mg (.type "str") (D.isa CS .str)
  isa_tuple : IsA K mg (.type "tuple") (D.isa CS .tuple)
  k_WORDS : KTup K A.a_WORDS ["place", "way", "end"]
  m_LineReader_takes : Meth K A.C_LineReader "takes" A.f_LineReader_takes
  n_LineReader_ended : NoAttr K A.C_LineReader "ended"
  n_LineReader_read_names : NoAttr K A.C_LineReader "read_names"
  n_LineReader_read_ways : NoAttr K A.C_LineReader "read_ways"
  n_Web_beside : NoAttr K A.C_Web "beside"
  n_Web_names : NoAttr K A.C_Web "names"
  n_Web_ways : NoAttr K A.C_Web "ways"
  r_DIGITS : RelV (.str "0123456789") A.u_DIGITS
  r_LONGEST : RelV (.int 8) A.u_LONGEST
  r_MOST_DIGITS : RelV (.int 6) A.u_MOST_DIGITS
  r_MOST_PLACES : RelV (.int 10) A.u_MOST_PLACES
  r_SIGNS : RelV (.str "abcdefghijklmnopqrstuvwxyz") A.u_SIGNS
  z_abs : mg "abs" = none
  z_all : mg "all" = none
  z_bool : mg "bool" = none
  z_enumerate : mg "enumerate" = none
  z_int : mg "int" = none
  z_isinstance : mg "isinstance" = none
  z_len : mg "len" = none
  z_list : mg "list" = none
  z_range : mg "range" = none
  z_sorted : mg "sorted" = none
  z_str : mg "str" = none
  z_tuple : mg "tuple" = none
theorem sc_web_text : FnScope ["web", "lines", "name", "one", "other", "line"] ["web"] (defScope (topS 1)) := ⟨rfl, rfl, rfl, by decide +kernel, rfl, by decide +kernel, by decide +kernel⟩
theorem sc_is_number : FnScope ["value"] ["value"] (defScope (topS 10)) := ⟨rfl, rfl, rfl, by decide +kernel, rfl, by decide +kernel, by decide +kernel⟩
theorem sc_is_within : FnScope ["value", "least", "most"] ["value", "least", "most"] (defScope (topS 11)) := ⟨rfl, rfl, rfl, by decide +kernel, rfl, by decide +kernel, by decide +kernel⟩
theorem sc_is_listed : FnScope ["value"] ["value"] (defScope (topS 12)) := ⟨rfl, rfl, rfl, by decide +kernel, rfl, by decide +kernel, by decide +kernel⟩
theorem sc_Web___eq__ : FnScope ["self", "other"] ["self", "other"] (defScope (inClass (topS 19) 1)) := ⟨rfl, rfl, rfl, by decide +kernel, rfl, by decide +kernel, by decide +kernel⟩
theorem sc_is_label : FnScope ["value"] ["value"] (defScope (topS 13)) := ⟨rfl, rfl, rfl, by decide +kernel, rfl, by decide +kernel, by decide +kernel⟩
theorem sc_is_name : FnScope ["value"] ["value"] (defScope (topS 14)) := ⟨rfl, rfl, rfl, by decide +kernel, rfl, by decide +kernel, by decide +kernel⟩
theorem sc_are_pairs_below : FnScope ["value", "many", "pair"] ["value", "many"] (defScope (topS 15)) := ⟨rfl, rfl, rfl, by decide +kernel, rfl, by decide +kernel, by decide +kernel⟩
theorem sc_are_names : FnScope ["value", "name"] ["value"] (defScope (topS 18)) := ⟨rfl, rfl, rfl, by decide +kernel, rfl, by decide +kernel, by decide +kernel⟩
theorem sc_Web___init__ : FnScope ["self", "names", "ways", "place", "one", "other"] ["self", "names", "ways"] (defScope (inClass (topS 19) 0)) := ⟨rfl, rfl, rfl, by decide +kernel, rfl, by decide +kernel, by decide +kernel⟩
theorem sc_number_in : FnScope ["word"] ["word"] (defScope (topS 23)) := ⟨rfl, rfl, rfl, by decide +kernel, rfl, by decide +kernel, by decide +kernel⟩
theorem sc_LineReader___init__ : FnScope ["self"] ["self"] (defScope (inClass (topS 24) 0)) := ⟨rfl, rfl, rfl, by decide +kernel, rfl, by decide +kernel, by decide +kernel⟩
theorem sc_LineReader_takes : FnScope ["self", "words", "pair"] ["self", "words"] (defScope (inClass (topS 24) 1)) := ⟨rfl, rfl, rfl, by decide +kernel, rfl, by decide +kernel, by decide +kernel⟩
theorem sc_read_web : FnScope ["text", "lines", "reader", "at", "line", "words"] ["text"] (defScope (topS 25)) := ⟨rfl, rfl, rfl, by decide +kernel, rfl, by decide +kernel, by decide +kernel⟩
theorem sc__law_pot : FnScope ["script", "cell"] ["script"] (defScope (topS 27)) := ⟨rfl, rfl, rfl, by decide +kernel, rfl, by decide +kernel, by decide +kernel⟩
theorem sc__law_draw : FnScope ["pot", "many", "found", "cell"] ["pot", "many"] (defScope (topS 28)) := ⟨rfl, rfl, rfl, by decide +kernel, rfl, by decide +kernel, by decide +kernel⟩
theorem sc__law_pick : FnScope ["pot", "row"] ["pot", "row"] (defScope (topS 29)) := ⟨rfl, rfl, rfl, by decide +kernel, rfl, by decide +kernel, by decide +kernel⟩
theorem sc__law_same : FnScope ["found", "due", "k"] ["found", "due"] (defScope (topS 30)) := ⟨rfl, rfl, rfl, by decide +kernel, rfl, by decide +kernel, by decide +kernel⟩
theorem sc__law_words : FnScope [] [] (defScope (topS 36)) := ⟨rfl, rfl, rfl, by decide +kernel, rfl, by decide +kernel, by decide +kernel⟩
theorem sc__law_word : FnScope ["pot", "size", "k"] ["pot"] (defScope (topS 31)) := ⟨rfl, rfl, rfl, by decide +kernel, rfl, by decide +kernel, by decide +kernel⟩
theorem sc__law_is_label : FnScope ["thing", "sign"] ["thing"] (defScope (topS 32)) := ⟨rfl, rfl, rfl, by decide +kernel, rfl, by decide +kernel, by decide +kernel⟩
theorem sc__law_is_name : FnScope ["thing"] ["thing"] (defScope (topS 33)) := ⟨rfl, rfl, rfl, by decide +kernel, rfl, by decide +kernel, by decide +kernel⟩
theorem sc__law_names : FnScope ["pot", "many", "found", "k", "word", "some", "sign", "one"] ["pot", "many"] (defScope (topS 34)) := ⟨rfl, rfl, rfl, by decide +kernel, rfl, by decide +kernel, by decide +kernel⟩
theorem sc__law_pairs : FnScope ["many", "found", "j", "i"] ["many"] (defScope (topS 35)) := ⟨rfl, rfl, rfl, by decide +kernel, rfl, by decide +kernel, by decide +kernel⟩
theorem sc__law_spec : FnScope ["pot", "most", "names", "thick", "pair"] ["pot", "most"] (defScope (topS 37)) := ⟨rfl, rfl, rfl, by decide +kernel, rfl, by decide +kernel, by decide +kernel⟩
theorem sc__law_made : FnScope ["spec"] ["spec"] (defScope (topS 38)) := ⟨rfl, rfl, rfl, by decide +kernel, rfl, by decide +kernel, by decide +kernel⟩
theorem sc__law_lines : FnScope ["spec", "name", "one", "other"] ["spec"] (defScope (topS 39)) := ⟨rfl, rfl, rfl, by decide +kernel, rfl, by decide +kernel, by decide +kernel⟩
theorem sc__law_text_of : FnScope ["spec", "line"] ["spec"] (defScope (topS 40)) := ⟨rfl, rfl, rfl, by decide +kernel, rfl, by decide +kernel, by decide +kernel⟩
theorem sc_law : FnScope ["script", "pot", "turn", "spec", "made", "due", "again"] ["script"] (defScope (topS 41)) := ⟨rfl, rfl, rfl, by decide +kernel, rfl, by decide +kernel, by decide +kernel⟩
section
variable {P : Program} {w : World} {K : PySem.W.Frag} {mg : Str → Option Value} {base : Heap}
theorem ok_web_text {A : Adr} (T : Top A K mg) : FnOk P w K mg base (L2.CX P w) 1 A.f_web_text A.d_web_text ["web"] (spF K mg 1 sem_web_text) :=
  fn_def2 (k := 0) (own := false) T.F_web_text sc_web_text rfl rfl fun cdv A0 outer s H E hr tk hp hu nd =>
  s_cons (s_setLc rfl nd rfl rfl (by decide) (sw_true rfl rfl rfl (by decide +kernel)) (i_seq (e_fldU 0 T.c_Web T.n_Web_names)) (blkOk_by (sc := defScope (topS 1)) (N := ["web", "lines", "name", "one", "other", "line"]) (own := [("name", 2)]) (by decide +kernel)) (show ∀ j, j < 6 → j ∉ [2] → j ∈ ([0, 1, 3, 4, 5] : List Nat) from by decide) (fun _ _ _ _ _ => g_name nd rfl (by first | exact .inl rfl | exact .inr rfl) (by decide)) (fun _ _ _ _ _ => ts_nil) (fun _ _ _ _ _ => e_fstr (.cons (e_str) (.cons (e_fmt (e_var 2)) (.nil)))))
  (s_cons (s_set nd rfl (by first | exact .inl rfl | exact .inr rfl) (by decide) (e_op opd_add op2_D (e_op opd_add op2_D (e_var 1) (e_lc rfl nd (i_seq (e_fldU 0 T.c_Web T.n_Web_ways)) (blkOk_by (sc := defScope (topS 1)) (N := ["web", "lines", "name", "one", "other", "line"]) (own := [("one", 3), ("other", 4)]) (by decide +kernel)) (show ∀ j, j < 6 → j ∉ [3, 4] → j ∈ ([0, 1, 2, 5] : List Nat) from by decide) (fun _ _ _ _ _ => g_tup rfl (g_cons (g_name nd rfl (by first | exact .inl rfl | exact .inr rfl) (by decide)) (g_cons (g_name nd rfl (by first | exact .inl rfl | exact .inr rfl) (by decide)) (g_nil)))) (fun _ _ _ _ _ => ts_nil) (fun _ _ _ _ _ => e_fstr (.cons (e_str) (.cons (e_fmt (e_var 3)) (.cons (e_str) (.cons (e_fmt (e_var 4)) (.nil)))))))) (e_lst (a_cons (e_str) (a_nil)) (len_cons len_nil))))
  (s_one (s_ret (e_m1 PySem.F.slot_str_join PySem.F.type_str_join mt_join m1_join (e_str) (e_lc rfl nd (i_seq (e_frz 1)) (blkOk_by (sc := defScope (topS 1)) (N := ["web", "lines", "name", "one", "other", "line"]) (own := [("line", 5)]) (by decide +kernel)) (show ∀ j, j < 6 → j ∉ [5] → j ∈ ([0, 1, 2, 3, 4] : List Nat) from by decide) (fun _ _ _ _ _ => g_name nd rfl (by first | exact .inl rfl | exact .inr rfl) (by decide)) (fun _ _ _ _ _ => ts_nil) (fun _ _ _ _ _ => e_op opd_add op2_D (e_var 5) (e_str)))))))
theorem ok_is_number {A : Adr} (T : Top A K mg) : FnOk P w K mg base (L2.CX P w) 1 A.f_is_number A.d_is_number ["value"] (spF K mg 1 sem_is_number) :=
  fn_def2 (k := 0) (own := false) T.F_is_number sc_is_number rfl rfl fun cdv A0 outer s H E hr tk hp hu nd =>
  s_one (s_ret (e_and (e_isi (by rfl) T.z_isinstance (e_var 0) (pe_bltn (v := .ty "int") (by rfl) T.z_int bb_int rfl) (.ty _) T.isa_int) (e_one (e_not (e_isi (by rfl) T.z_isinstance (e_var 0) (pe_bltn (v := .ty "bool") (by rfl) T.z_bool bb_bool rfl) (.ty _) T.isa_bool)))))
theorem ok_is_within {A : Adr} (T : Top A K mg) : FnOk P w K mg base (L2.CX P w) 4 A.f_is_within A.d_is_within ["value", "least", "most"] (spF K mg 3 sem_is_within) :=
  fn_def2 (k := 3) (own := false) T.F_is_within sc_is_within rfl rfl fun cdv A0 outer s H E hr tk hp hu nd =>
  s_one (s_ret (e_and (e_call (ok_is_number T) len_is_number (hr.mono (by omega)) tk (by rfl) T.g_is_number T.F_is_number.kp T.b_is_number (a_cons (e_var 0) (a_nil))) (e_one (e_chn opd_le opd_le op2_D op2_D (e_var 1) (e_var 0) (e_var 2)))))
theorem ok_is_listed {A : Adr} (T : Top A K mg) : FnOk P w K mg base (L2.CX P w) 1 A.f_is_listed A.d_is_listed ["value"] (spF K mg 1 sem_is_listed) :=
  fn_def2 (k := 0) (own := false) T.F_is_listed sc_is_listed rfl rfl fun cdv A0 outer s H E hr tk hp hu nd =>
  s_one (s_ret (e_isi2 (by rfl) T.z_isinstance (e_var 0) (pe_bltn (v := .ty "list") (by rfl) T.z_list bb_list rfl) (pe_bltn (v := .ty "tuple") (by rfl) T.z_tuple bb_tuple rfl) (.ty _) (.ty _) T.isa2_list_tuple))
theorem ok_Web___eq__ {A : Adr} (T : Top A K mg) : FnOk P w K mg base (L2.CX P w) 1 A.f_Web___eq__ A.d_Web___eq__ ["self", "other"] (spF K mg 2 sem_Web___eq__) :=
  fn_def2 (k := 0) (own := false) T.F_Web___eq__ sc_Web___eq__ rfl rfl fun cdv A0 outer s H E hr tk hp hu nd =>
  s_one (s_ret (e_and (e_isi (by rfl) T.z_isinstance (e_var 1) (pe_glob (v := .ref A.C_Web) (by rfl) T.c_Web.gl rfl) (.own _) T.isa_Web) (e_and (e_cmp (opd_eq hu) op2_D (e_fldU 0 T.c_Web T.n_Web_names) (e_fldU 1 T.c_Web T.n_Web_names) (nomark _)) (e_one (e_cmp (opd_eq hu) op2_D (e_fldU 0 T.c_Web T.n_Web_ways) (e_fldU 1 T.c_Web T.n_Web_ways) (nomark _))))))
theorem ok_is_label {A : Adr} (T : Top A K mg) : FnOk P w K mg base (L2.CX P w) 1 A.f_is_label A.d_is_label ["value"] (spF K mg 1 sem_is_label) :=
  fn_def2 (k := 0) (own := false) T.F_is_label sc_is_label rfl rfl fun cdv A0 outer s H E hr tk hp hu nd =>
  s_one (s_ret (e_and (e_isi (by rfl) T.z_isinstance (e_var 0) (pe_bltn (v := .ty "str") (by rfl) T.z_str bb_str rfl) (.ty _) T.isa_str) (e_and (e_chn opd_le opd_le op2_D op2_D (e_int) (e_cB1 cd_len2 call1_D (by rfl) T.z_len bb_len (e_var 0)) (e_glob (by rfl) T.g_LONGEST T.r_LONGEST (fun _ => .int _))) (e_one (e_cmp (opd_eq hu) op2_D (e_m1 PySem.F.slot_str_strip PySem.F.type_str_strip mt_stripChars m1_strip (e_var 0) (e_glob (by rfl) T.g_SIGNS T.r_SIGNS (fun _ => .str _))) (e_str) (nomark _))))))
theorem ok_is_name {A : Adr} (T : Top A K mg) : FnOk P w K mg base (L2.CX P w) 4 A.f_is_name A.d_is_name ["value"] (spF K mg 1 sem_is_name) :=
  fn_def2 (k := 3) (own := false) T.F_is_name sc_is_name rfl rfl fun cdv A0 outer s H E hr tk hp hu nd =>
  s_one (s_ret (e_and (e_call (ok_is_label T) len_is_label (hr.mono (by omega)) tk (by rfl) T.g_is_label T.F_is_label.kp T.b_is_label (a_cons (e_var 0) (a_nil))) (e_one (e_cmpC (op_notInC T.k_WORDS hu) (e_var 0) (by rfl) T.g_WORDS))))
theorem ok_are_pairs_below {A : Adr} (T : Top A K mg) : FnOk P w K mg base (L2.CX P w) 7 A.f_are_pairs_below A.d_are_pairs_below ["value", "many"] (spF K mg 2 sem_are_pairs_below) :=
  fn_def2 (k := 6) (own := false) T.F_are_pairs_below sc_are_pairs_below rfl rfl fun cdv A0 outer s H E hr tk hp hu nd =>
  s_cons (s_if (t_not (t_val (e_call (ok_is_listed T) len_is_listed (hr.mono (by omega)) tk (by rfl) T.g_is_listed T.F_is_listed.kp T.b_is_listed (a_cons (e_var 0) (a_nil))))) (s_one (s_ret (e_bl))) (s_nil))
  (s_cons (s_for hp rfl (i_seq (e_var 0)) (g_name nd rfl (by first | exact .inl rfl | exact .inr rfl) (by decide)) (s_cons (s_if (t_w (t_or (t_not (t_val (e_isi (by rfl) T.z_isinstance (e_var 2) (pe_bltn (v := .ty "tuple") (by rfl) T.z_tuple bb_tuple rfl) (.ty _) T.isa_tuple))) (t_or (t_cmp (opd_ne hu) op2_D (e_cB1 cd_len2 call1_D (by rfl) T.z_len bb_len (e_var 2)) (e_int) (nomark _)) (t_or1 (t_not (t_val (e_call (ok_is_within T) len_is_within (hr.mono (by omega)) tk (by rfl) T.g_is_within T.F_is_within.kp T.b_is_within (a_cons (e_ix (ixd_2 hu) op2_D (e_var 2) (e_int) (fun _ _ => rfl)) (a_cons (e_int) (a_cons (e_op opd_sub op2_D (e_var 1) (e_int)) (a_nil))))))))))) (s_one (s_ret (e_bl))) (s_nil))
  (s_one (s_if (t_not (t_val (e_call (ok_is_within T) len_is_within (hr.mono (by omega)) tk (by rfl) T.g_is_within T.F_is_within.kp T.b_is_within (a_cons (e_ix (ixd_2 hu) op2_D (e_var 2) (e_int) (fun _ _ => rfl)) (a_cons (e_int) (a_cons (e_op opd_sub op2_D (e_ix (ixd_2 hu) op2_D (e_var 2) (e_int) (fun _ _ => rfl)) (e_int)) (a_nil))))))) (s_one (s_ret (e_bl))) (s_nil)))))
  (s_one (s_ret (e_cmp (opd_eq hu) op2_D (e_cB1 cd_len2 call1_D (by rfl) T.z_len bb_len (e_dcT rfl nd hu (i_seq (e_var 0)) (blkOk_by (sc := defScope (topS 15)) (N := ["value", "many", "pair"]) (own := [("pair", 2)]) (by decide +kernel)) (show ∀ j, j < 3 → j ∉ [2] → j ∈ ([0, 1] : List Nat) from by decide) (fun _ _ _ _ _ => g_name nd rfl (by first | exact .inl rfl | exact .inr rfl) (by decide)) (fun _ _ _ _ _ => ts_nil) (fun _ _ _ _ _ => e_var 2) (fun _ _ _ _ _ => e_bl))) (e_cB1 cd_len2 call1_D (by rfl) T.z_len bb_len (e_var 0)) (nomark _)))))
theorem ok_are_names {A : Adr} (T : Top A K mg) : FnOk P w K mg base (L2.CX P w) 7 A.f_are_names A.d_are_names ["value"] (spF K mg 1 sem_are_names) :=
  fn_def2 (k := 6) (own := false) T.F_are_names sc_are_names rfl rfl fun cdv A0 outer s H E hr tk hp hu nd =>
  s_cons (s_if (t_w (t_or (t_not (t_val (e_call (ok_is_listed T) len_is_listed (hr.mono (by omega)) tk (by rfl) T.g_is_listed T.F_is_listed.kp T.b_is_listed (a_cons (e_var 0) (a_nil))))) (t_or1 (t_not (t_chn opd_le opd_le op2_D op2_D (e_int) (e_cB1 cd_len2 call1_D (by rfl) T.z_len bb_len (e_var 0)) (e_glob (by rfl) T.g_MOST_PLACES T.r_MOST_PLACES (fun _ => .int _))))))) (s_one (s_ret (e_bl))) (s_nil))
  (s_one (s_ret (e_and (e_cB1 (cd_all rfl) call1_D (by rfl) T.z_all bb_all (e_lc rfl nd (i_seq (e_var 0)) (blkOk_by (sc := defScope (topS 18)) (N := ["value", "name"]) (own := [("name", 1)]) (by decide +kernel)) (show ∀ j, j < 2 → j ∉ [1] → j ∈ ([0] : List Nat) from by decide) (fun _ _ _ _ _ => g_name nd rfl (by first | exact .inl rfl | exact .inr rfl) (by decide)) (fun _ _ _ _ _ => ts_nil) (fun _ _ _ _ _ => e_call (ok_is_name T) len_is_name (hr.mono (by omega)) takes0 (by rfl) T.g_is_name T.F_is_name.kp T.b_is_name (a_cons (e_var 1) (a_nil))))) (e_one (e_cmp (opd_eq hu) op2_D (e_cB1 cd_len2 call1_D (by rfl) T.z_len bb_len (e_dcK rfl nd hu (i_seq (e_var 0)) (blkOk_by (sc := defScope (topS 18)) (N := ["value", "name"]) (own := [("name", 1)]) (by decide +kernel)) (show ∀ j, j < 2 → j ∉ [1] → j ∈ ([0] : List Nat) from by decide) (fun _ _ _ _ _ => g_name nd rfl (by first | exact .inl rfl | exact .inr rfl) (by decide)) (fun _ _ _ _ _ => ts_nil) (fun _ _ _ _ _ => e_var 1) (fun _ _ _ _ _ => e_bl))) (e_cB1 cd_len2 call1_D (by rfl) T.z_len bb_len (e_var 0)) (nomark _))))))
theorem ok_Web___init__ {A : Adr} (T : Top A K mg) : FnOk P w K mg base (L2.CX P w) 10 A.f_Web___init__ A.d_Web___init__ ["self", "names", "ways"] (spF K mg 3 sem_Web___init__) :=
  fn_def2 (k := 9) (own := true) T.F_Web___init__ sc_Web___init__ rfl rfl fun cdv A0 outer s H E hr tk hp hu nd =>
  s_cons (s_if (t_not (t_val (e_call (ok_are_names T) len_are_names (hr.mono (by omega)) tk (by rfl) T.g_are_names T.F_are_names.kp T.b_are_names (a_cons (e_var 1) (a_nil))))) (s_one (s_never)) (s_nil))
  (s_cons (s_if (t_not (t_val (e_call (ok_are_pairs_below T) len_are_pairs_below (hr.mono (by omega)) tk (by rfl) T.g_are_pairs_below T.F_are_pairs_below.kp T.b_are_pairs_below (a_cons (e_var 2) (a_cons (e_cB1 cd_len2 call1_D (by rfl) T.z_len bb_len (e_var 1)) (a_nil)))))) (s_one (s_never)) (s_nil))
  (s_cons (s_setF 0 T.c_Web T.n_Web_names (e_cT1 cd_tuple call1_D (by rfl) T.z_tuple bb_tuple (e_var 1)))
  (s_cons (s_setF 0 T.c_Web T.n_Web_ways (e_cT1 cd_tuple call1_D (by rfl) T.z_tuple bb_tuple (e_cB1 (cd_sorted hu) call1_D (by rfl) T.z_sorted bb_sorted (e_var 2))))
  (s_cons (s_setF 0 T.c_Web T.n_Web_beside (e_lst (a_nil) len_nil))
  (s_one (s_for hp rfl (i_range1 (by rfl) T.z_range (e_cB1 cd_len2 call1_D (by rfl) T.z_len bb_len (e_var 1))) (g_name nd rfl (by first | exact .inl rfl | exact .inr rfl) (by decide)) (s_one (s_expr (e_lm (pl_fld 0 T.c_Web T.n_Web_beside) lm_append PySem.F.slot_list_append PySem.F.type_list_append mt_append (e_cT1 cd_tuple call1_D (by rfl) T.z_tuple bb_tuple (e_cB1 (cd_sorted hu) call1_D (by rfl) T.z_sorted bb_sorted (e_lc rfl nd (i_seq (e_var 2)) (blkOk_by (sc := defScope (inClass (topS 19) 0)) (N := ["self", "names", "ways", "place", "one", "other"]) (own := [("one", 4), ("other", 5)]) (by decide +kernel)) (show ∀ j, j < 6 → j ∉ [4, 5] → j ∈ ([0, 1, 2, 3] : List Nat) from by decide) (fun _ _ _ _ _ => g_tup rfl (g_cons (g_name nd rfl (by first | exact .inl rfl | exact .inr rfl) (by decide)) (g_cons (g_name nd rfl (by first | exact .inl rfl | exact .inr rfl) (by decide)) (g_nil)))) (fun _ _ _ _ _ => ts_one (t_cmp (opd_in2 hu) op2_D (e_var 3) (e_tup (a_cons (e_var 4) (a_cons (e_var 5) (a_nil))) (len_cons (len_cons len_nil))) (by rfl))) (fun _ _ _ _ _ => e_op opd_sub op2_D (e_op opd_add op2_D (e_var 4) (e_var 5)) (e_var 3))))) rfl)))))))))
theorem ok_number_in {A : Adr} (T : Top A K mg) : FnOk P w K mg base (L2.CX P w) 1 A.f_number_in A.d_number_in ["word"] (spF K mg 1 sem_number_in) :=
  fn_def2 (k := 0) (own := false) T.F_number_in sc_number_in rfl rfl fun cdv A0 outer s H E hr tk hp hu nd =>
  s_cons (s_if (t_w (t_or (t_not (t_chn opd_le opd_le op2_D op2_D (e_int) (e_cB1 cd_len2 call1_D (by rfl) T.z_len bb_len (e_var 0)) (e_glob (by rfl) T.g_MOST_DIGITS T.r_MOST_DIGITS (fun _ => .int _)))) (t_or1 (t_cmp (opd_ne hu) op2_D (e_m1 PySem.F.slot_str_strip PySem.F.type_str_strip mt_stripChars m1_strip (e_var 0) (e_glob (by rfl) T.g_DIGITS T.r_DIGITS (fun _ => .str _))) (e_str) (nomark _))))) (s_one (s_ret (e_non))) (s_nil))
  (s_one (s_ret (e_if (t_w (t_and (t_cmp (opd_eq hu) op2_D (e_ix (ixd_2 hu) op2_D (e_var 0) (e_int) (fun _ _ => rfl)) (e_str) (nomark _)) (t_and1 (t_cmp (opd_ne hu) op2_D (e_var 0) (e_str) (nomark _))))) (e_non) (e_cT1 cd_int call1_D (by rfl) T.z_int bb_int (e_var 0)))))
theorem ok_LineReader___init__ {A : Adr} (T : Top A K mg) : FnOk P w K mg base (L2.CX P w) 1 A.f_LineReader___init__ A.d_LineReader___init__ ["self"] (spF K mg 1 sem_LineReader___init__) :=
  fn_def2 (k := 0) (own := true) T.F_LineReader___init__ sc_LineReader___init__ rfl rfl fun cdv A0 outer s H E hr tk hp hu nd =>
  s_cons (s_setF 0 T.c_LineReader T.n_LineReader_read_names (e_lst (a_nil) len_nil))
  (s_cons (s_setF 0 T.c_LineReader T.n_LineReader_read_ways (e_lst (a_nil) len_nil))
  (s_one (s_setF 0 T.c_LineReader T.n_LineReader_ended (e_bl))))
theorem ok_LineReader_takes {A : Adr} (T : Top A K mg) : FnOk P w K mg base (L2.CX P w) 7 A.f_LineReader_takes A.d_LineReader_takes ["self", "words"] (spF K mg 2 sem_LineReader_takes) :=
  fn_def2 (k := 6) (own := true) T.F_LineReader_takes sc_LineReader_takes rfl rfl fun cdv A0 outer s H E hr tk hp hu nd =>
  s_cons (s_if (t_val (e_fldU 0 T.c_LineReader T.n_LineReader_ended)) (s_one (s_ret (e_bl))) (s_nil))
  (s_cons (s_if (t_w (t_and (t_cmp (opd_eq hu) op2_D (e_ix (ixd_2 hu) op2_D (e_var 1) (e_int) (fun _ _ => rfl)) (e_str) (nomark _)) (t_and (t_cmp (opd_eq hu) op2_D (e_cB1 cd_len2 call1_D (by rfl) T.z_len bb_len (e_var 1)) (e_int) (nomark _)) (t_and1 (t_cmp (opd_eq hu) op2_D (e_cB1 cd_len2 call1_D (by rfl) T.z_len bb_len (e_fldU 0 T.c_LineReader T.n_LineReader_read_ways)) (e_int) (nomark _)))))) (s_cons (s_expr (e_lm (pl_fld 0 T.c_LineReader T.n_LineReader_read_names) lm_append PySem.F.slot_list_append PySem.F.type_list_append mt_append (e_ix (ixd_2 hu) op2_D (e_var 1) (e_int) (fun _ _ => rfl)) rfl))
  (s_one (s_ret (e_call (ok_is_name T) len_is_name (hr.mono (by omega)) tk (by rfl) T.g_is_name T.F_is_name.kp T.b_is_name (a_cons (e_ix (ixd_2 hu) op2_D (e_var 1) (e_int) (fun _ _ => rfl)) (a_nil)))))) (s_nil))
  (s_cons (s_if (t_cmp (opd_eq hu) op2_D (e_cB1 cd_len2 call1_D (by rfl) T.z_len bb_len (e_fldU 0 T.c_LineReader T.n_LineReader_read_names)) (e_int) (nomark _)) (s_one (s_ret (e_bl))) (s_nil))
  (s_cons (s_if (t_w (t_and (t_cmp (opd_eq hu) op2_D (e_ix (ixd_2 hu) op2_D (e_var 1) (e_int) (fun _ _ => rfl)) (e_str) (nomark _)) (t_and1 (t_cmp (opd_eq hu) op2_D (e_cB1 cd_len2 call1_D (by rfl) T.z_len bb_len (e_var 1)) (e_int) (nomark _))))) (s_cons (s_set nd rfl (by first | exact .inl rfl | exact .inr rfl) (by decide) (e_tup (a_cons (e_call (ok_number_in T) len_number_in (hr.mono (by omega)) tk (by rfl) T.g_number_in T.F_number_in.kp T.b_number_in (a_cons (e_ix (ixd_2 hu) op2_D (e_var 1) (e_int) (fun _ _ => rfl)) (a_nil))) (a_cons (e_call (ok_number_in T) len_number_in (hr.mono (by omega)) tk (by rfl) T.g_number_in T.F_number_in.kp T.b_number_in (a_cons (e_ix (ixd_2 hu) op2_D (e_var 1) (e_int) (fun _ _ => rfl)) (a_nil))) (a_nil))) (len_cons (len_cons len_nil))))
  (s_cons (s_expr (e_lm (pl_fld 0 T.c_LineReader T.n_LineReader_read_ways) lm_append PySem.F.slot_list_append PySem.F.type_list_append mt_append (e_var 2) rfl))
  (s_one (s_ret (e_cmp (opd_notIn2 hu) op2_D (e_non) (e_var 2) (by rfl)))))) (s_nil))
  (s_cons (s_setF 0 T.c_LineReader T.n_LineReader_ended (e_cmp (opd_eq hu) op2_D (e_var 1) (e_lst (a_cons (e_str) (a_nil)) (len_cons len_nil)) (nomark _)))
  (s_one (s_ret (e_fldZ 0 T.c_LineReader T.n_LineReader_ended)))))))
theorem ok_read_web {A : Adr} (T : Top A K mg) : FnOk P w K mg base (L2.CX P w) 13 A.f_read_web A.d_read_web ["text"] (spF K mg 1 sem_read_web) :=
  fn_def2 (k := 12) (own := false) T.F_read_web sc_read_web rfl rfl fun cdv A0 outer s H E hr tk hp hu nd =>
  s_cons (s_if (t_not (t_val (e_isi (by rfl) T.z_isinstance (e_var 0) (pe_bltn (v := .ty "str") (by rfl) T.z_str bb_str rfl) (.ty _) T.isa_str))) (s_one (s_never)) (s_nil))
  (s_cons (s_set nd rfl (by first | exact .inl rfl | exact .inr rfl) (by decide) (e_m1 PySem.F.slot_str_split PySem.F.type_str_split mt_split m1_split (e_var 0) (e_str)))
  (s_cons (s_set nd rfl (by first | exact .inl rfl | exact .inr rfl) (by decide) (e_make0 T.M_LineReader (ok_LineReader___init__ T) len_LineReader___init__ (hr.mono (by omega)) tk (by rfl) T.c_LineReader.gl T.b_LineReader___init__))
  (s_cons (s_for hp rfl (i_enum (by rfl) T.z_enumerate (e_frz 1)) (g_tup rfl (g_cons (g_name nd rfl (by first | exact .inl rfl | exact .inr rfl) (by decide)) (g_cons (g_name nd rfl (by first | exact .inl rfl | exact .inr rfl) (by decide)) (g_nil)))) (s_one (s_if (t_cmp (opd_eq hu) op2_D (e_var 3) (e_op opd_sub op2_D (e_cB1 cd_len2 call1_D (by rfl) T.z_len bb_len (e_var 1)) (e_int)) (nomark _)) (s_one (s_if (t_cmp (opd_ne hu) op2_D (e_var 4) (e_str) (nomark _)) (s_one (s_never)) (s_nil))) (s_cons (s_set nd rfl (by first | exact .inl rfl | exact .inr rfl) (by decide) (e_m1 PySem.F.slot_str_split PySem.F.type_str_split mt_split m1_split (e_var 4) (e_str)))
  (s_cons (s_if (t_cmp (opd_in2 hu) op2_D (e_str) (e_var 5) (by rfl)) (s_one (s_never)) (s_nil))
  (s_one (s_if (t_not (t_val (e_meth 2 T.c_LineReader T.m_LineReader_takes (ok_LineReader_takes T) len_LineReader_takes (hr.mono (by omega)) tk T.b_LineReader_takes (a_cons (e_frz 5) (a_nil))))) (s_one (s_never)) (s_nil))))))))
  (s_cons (s_if (t_not (t_val (e_fldU 2 T.c_LineReader T.n_LineReader_ended))) (s_one (s_never)) (s_nil))
  (s_one (s_ret (e_make T.M_Web (ok_Web___init__ T) len_Web___init__ (hr.mono (by omega)) tk (by rfl) T.c_Web.gl T.b_Web___init__ (a_cons (e_fldZ 2 T.c_LineReader T.n_LineReader_read_names) (a_cons (e_fldZ 2 T.c_LineReader T.n_LineReader_read_ways) (a_nil))))))))))
theorem ok__law_pot {A : Adr} (T : Top A K mg) : FnOk P w K mg base (L2.CX P w) 1 A.f__law_pot A.d__law_pot ["script"] (spF K mg 1 sem__law_pot) :=
  fn_def2 (k := 0) (own := false) T.F__law_pot sc__law_pot rfl rfl fun cdv A0 outer s H E hr tk hp hu nd =>
  s_one (s_ret (e_lst (a_cons (e_lc rfl nd (i_seq (e_slice (e_var 0) (o_none) (o_some (e_int)))) (blkOk_by (sc := defScope (topS 27)) (N := ["script", "cell"]) (own := [("cell", 1)]) (by decide +kernel)) (show ∀ j, j < 2 → j ∉ [1] → j ∈ ([0] : List Nat) from by decide) (fun _ _ _ _ _ => g_name nd rfl (by first | exact .inl rfl | exact .inr rfl) (by decide)) (fun _ _ _ _ _ => ts_nil) (fun _ _ _ _ _ => e_cB1 cd_abs call1_D (by rfl) T.z_abs bb_abs (e_var 1))) (a_cons (e_int) (a_cons (e_int) (a_cons (e_int) (a_nil))))) (len_cons (len_cons (len_cons (len_cons len_nil))))))
theorem ok__law_draw {A : Adr} (T : Top A K mg) : FnOk P w K mg base (L2.CX P w) 1 A.f__law_draw A.d__law_draw ["pot", "many"] (spF K mg 2 sem__law_draw) :=
  fn_def2 (k := 0) (own := true) T.F__law_draw sc__law_draw rfl rfl fun cdv A0 outer s H E hr tk hp hu nd =>
  s_cons (s_if (t_cmp opd_lt op2_D (e_var 1) (e_int) (nomark _)) (s_one (s_ret (e_int))) (s_nil))
  (s_cons (s_if (t_cmp opd_gt op2_D (e_ix (ixd_2 hu) op2_D (e_var 0) (e_int) (fun _ _ => rfl)) (e_int) (nomark _)) (s_cons (s_set nd rfl (by first | exact .inl rfl | exact .inr rfl) (by decide) (e_op opd_mod op2_D (e_cT1 cd_int call1_D (by rfl) T.z_int bb_int (e_ix (ixd_2 hu) op2_D (e_var 0) (e_int) (fun _ _ => rfl))) (e_var 1)))
  (s_cons (s_setIx (pl_name 0) (e_op opd_div op2_D (e_ix (ixd_2 hu) op2_D (e_var 0) (e_int) (fun _ _ => rfl)) (e_var 1)) (e_int) rfl)
  (s_one (s_ret (e_var 2))))) (s_nil))
  (s_cons (s_set nd rfl (by first | exact .inl rfl | exact .inr rfl) (by decide) (e_int))
  (s_cons (s_if (t_cmp opd_lt op2_D (e_ix (ixd_2 hu) op2_D (e_var 0) (e_int) (fun _ _ => rfl)) (e_cB1 cd_len2 call1_D (by rfl) T.z_len bb_len (e_ix (ixd_2 hu) op2_D (e_var 0) (e_int) (fun _ _ => rfl))) (nomark _)) (s_cons (s_set nd rfl (by first | exact .inl rfl | exact .inr rfl) (by decide) (e_ix (ixd_2 hu) op2_D (e_ix (ixd_2 hu) op2_D (e_var 0) (e_int) (fun _ _ => rfl)) (e_ix (ixd_2 hu) op2_D (e_var 0) (e_int) (fun _ _ => rfl)) (fun _ _ => rfl)))
  (s_cons (s_setIx (pl_name 0) (e_op opd_add op2_D (e_ix (ixd_2 hu) op2_D (e_var 0) (e_int) (fun _ _ => rfl)) (e_int)) (e_int) rfl)
  (s_one (s_if (t_cmp opd_ge op2_D (e_var 3) (e_op opd_pow op2_D (e_int) (e_int)) (nomark _)) (s_cons (s_setIx (pl_name 0) (e_op opd_div op2_D (e_var 3) (e_var 1)) (e_int) rfl)
  (s_one (s_ret (e_op opd_mod op2_D (e_cT1 cd_int call1_D (by rfl) T.z_int bb_int (e_var 3)) (e_var 1))))) (s_nil))))) (s_nil))
  (s_cons (s_setIx (pl_name 0) (e_op opd_mod op2_D (e_cT1 cd_int call1_D (by rfl) T.z_int bb_int (e_op opd_add op2_D (e_op opd_add op2_D (e_op opd_mul op2_D (e_ix (ixd_2 hu) op2_D (e_var 0) (e_int) (fun _ _ => rfl)) (e_int)) (e_var 3)) (e_int))) (e_int)) (e_int) rfl)
  (s_one (s_ret (e_op opd_mod op2_D (e_cT1 cd_int call1_D (by rfl) T.z_int bb_int (e_op opd_add op2_D (e_op opd_div op2_D (e_op opd_mul op2_D (e_ix (ixd_2 hu) op2_D (e_var 0) (e_int) (fun _ _ => rfl)) (e_ix (ixd_2 hu) op2_D (e_var 0) (e_int) (fun _ _ => rfl))) (e_int)) (e_op opd_div op2_D (e_ix (ixd_2 hu) op2_D (e_var 0) (e_int) (fun _ _ => rfl)) (e_int)))) (e_var 1))))))))
theorem ok__law_pick {A : Adr} (T : Top A K mg) : FnOk P w K mg base (L2.CX P w) 4 A.f__law_pick A.d__law_pick ["pot", "row"] (spF K mg 2 sem__law_pick) :=
  fn_def2 (k := 3) (own := true) T.F__law_pick sc__law_pick rfl rfl fun cdv A0 outer s H E hr tk hp hu nd =>
  s_one (s_ret (e_ix (ixd_2 hu) op2_D (e_var 1) (e_callM 0 (ok__law_draw T) len__law_draw (hr.mono (by omega)) tk (by rfl) T.g__law_draw T.F__law_draw.kp T.b__law_draw (a_cons (e_cB1 cd_len2 call1_D (by rfl) T.z_len bb_len (e_var 1)) (a_nil))) (fun _ _ => rfl)))
theorem okS__law_same {A : Adr} (T : Top A K mg) {j : Nat} {S : Fn} (hj : 1 ≤ j) (ih : FnOk P w K mg base (L2.CX P w) j A.f__law_same A.d__law_same ["found", "due"] (spF K mg 2 S)) (hn : ∀ os, S os ≠ .no → os.length = 2) : FnOk P w K mg base (L2.CX P w) (j + 1) A.f__law_same A.d__law_same ["found", "due"] (spF K mg 2 (step__law_same S)) :=
  fn_def2 (k := j) (own := false) T.F__law_same sc__law_same rfl rfl fun cdv A0 outer s H E hr tk hp hu nd =>
  s_cons (s_if (t_w (t_or (t_val (e_isi (by rfl) T.z_isinstance (e_var 1) (pe_bltn (v := .ty "tuple") (by rfl) T.z_tuple bb_tuple rfl) (.ty _) T.isa_tuple)) (t_or1 (t_val (e_isi (by rfl) T.z_isinstance (e_var 1) (pe_bltn (v := .ty "list") (by rfl) T.z_list bb_list rfl) (.ty _) T.isa_list))))) (s_cons (s_if (t_w (t_or (t_cmp (opd_ne hu) op2_D (e_isi (by rfl) T.z_isinstance (e_var 1) (pe_bltn (v := .ty "tuple") (by rfl) T.z_tuple bb_tuple rfl) (.ty _) T.isa_tuple) (e_isi (by rfl) T.z_isinstance (e_var 0) (pe_bltn (v := .ty "tuple") (by rfl) T.z_tuple bb_tuple rfl) (.ty _) T.isa_tuple) (nomark _)) (t_or1 (t_cmp (opd_ne hu) op2_D (e_isi (by rfl) T.z_isinstance (e_var 1) (pe_bltn (v := .ty "list") (by rfl) T.z_list bb_list rfl) (.ty _) T.isa_list) (e_isi (by rfl) T.z_isinstance (e_var 0) (pe_bltn (v := .ty "list") (by rfl) T.z_list bb_list rfl) (.ty _) T.isa_list) (nomark _))))) (s_one (s_ret (e_bl))) (s_nil))
  (s_cons (s_if (t_cmp (opd_ne hu) op2_D (e_cB1 cd_len2 call1_D (by rfl) T.z_len bb_len (e_var 0)) (e_cB1 cd_len2 call1_D (by rfl) T.z_len bb_len (e_var 1)) (nomark _)) (s_one (s_ret (e_bl))) (s_nil))
  (s_one (s_ret (e_cmp (opd_eq hu) op2_D (e_lc rfl nd (i_range1 (by rfl) T.z_range (e_cB1 cd_len2 call1_D (by rfl) T.z_len bb_len (e_var 1))) (blkOk_by (sc := defScope (topS 30)) (N := ["found", "due", "k"]) (own := [("k", 2)]) (by decide +kernel)) (show ∀ j, j < 3 → j ∉ [2] → j ∈ ([0, 1] : List Nat) from by decide) (fun _ _ _ _ _ => g_name nd rfl (by first | exact .inl rfl | exact .inr rfl) (by decide)) (fun _ _ _ _ _ => ts_one (t_not (t_val (e_call ih hn (hr.mono (by omega)) takes0 (by rfl) T.g__law_same T.F__law_same.kp T.b__law_same (a_cons (e_ix (ixd_2 hu) op2_D (e_var 0) (e_var 2) (fun _ _ => rfl)) (a_cons (e_ix (ixd_2 hu) op2_D (e_var 1) (e_var 2) (fun _ _ => rfl)) (a_nil))))))) (fun _ _ _ _ _ => e_var 2)) (e_lst (a_nil) len_nil) (nomark _)))))) (s_nil))
  (s_cons (s_if (t_cmp opd_isN op2_D (e_var 1) (e_non) (nomark _)) (s_one (s_ret (e_cmp opd_isN op2_D (e_var 0) (e_non) (nomark _)))) (s_nil))
  (s_cons (s_if (t_val (e_isi (by rfl) T.z_isinstance (e_var 1) (pe_bltn (v := .ty "str") (by rfl) T.z_str bb_str rfl) (.ty _) T.isa_str)) (s_one (s_ret (e_and (e_isi (by rfl) T.z_isinstance (e_var 0) (pe_bltn (v := .ty "str") (by rfl) T.z_str bb_str rfl) (.ty _) T.isa_str) (e_one (e_cmp (opd_eq hu) op2_D (e_var 0) (e_var 1) (nomark _)))))) (s_nil))
  (s_one (s_ret (e_and (e_isi (by rfl) T.z_isinstance (e_var 0) (pe_bltn (v := .ty "int") (by rfl) T.z_int bb_int rfl) (.ty _) T.isa_int) (e_and (e_cmp (opd_eq hu) op2_D (e_isi (by rfl) T.z_isinstance (e_var 0) (pe_bltn (v := .ty "bool") (by rfl) T.z_bool bb_bool rfl) (.ty _) T.isa_bool) (e_isi (by rfl) T.z_isinstance (e_var 1) (pe_bltn (v := .ty "bool") (by rfl) T.z_bool bb_bool rfl) (.ty _) T.isa_bool) (nomark _)) (e_one (e_cmp (opd_eq hu) op2_D (e_var 0) (e_var 1) (nomark _)))))))))
theorem ok__law_same {A : Adr} (T : Top A K mg) : ∀ k, FnOk P w K mg base (L2.CX P w) (k + 1) A.f__law_same A.d__law_same ["found", "due"] (spF K mg 2 (sem__law_same k))
  | 0 => fn_no T.F__law_same sc__law_same rfl
  | k + 1 => okS__law_same T (by omega) (ok__law_same T k) (len__law_same k)
theorem ok__law_words {A : Adr} (T : Top A K mg) : FnOk P w K mg base (L2.CX P w) 1 A.f__law_words A.d__law_words [] (spF K mg 0 sem__law_words) :=
  fn_def2 (k := 0) (own := false) T.F__law_words sc__law_words rfl rfl fun cdv A0 outer s H E hr tk hp hu nd =>
  s_one (s_ret (e_lst (a_cons (e_str) (a_cons (e_str) (a_cons (e_str) (a_nil)))) (len_cons (len_cons (len_cons len_nil)))))
theorem ok__law_word {A : Adr} (T : Top A K mg) : FnOk P w K mg base (L2.CX P w) 7 A.f__law_word A.d__law_word ["pot"] (spF K mg 1 sem__law_word) :=
  fn_def2 (k := 6) (own := true) T.F__law_word sc__law_word rfl rfl fun cdv A0 outer s H E hr tk hp hu nd =>
  s_cons (s_if (t_cmp (opd_eq hu) op2_D (e_callM 0 (ok__law_draw T) len__law_draw (hr.mono (by omega)) tk (by rfl) T.g__law_draw T.F__law_draw.kp T.b__law_draw (a_cons (e_int) (a_nil))) (e_int) (nomark _)) (s_one (s_ret (e_callM 0 (ok__law_pick T) len__law_pick (hr.mono (by omega)) tk (by rfl) T.g__law_pick T.F__law_pick.kp T.b__law_pick (a_cons (e_call0 (ok__law_words T) len__law_words (hr.mono (by omega)) tk (by rfl) T.g__law_words T.F__law_words.kp T.b__law_words) (a_nil))))) (s_nil))
  (s_cons (s_set nd rfl (by first | exact .inl rfl | exact .inr rfl) (by decide) (e_callM 0 (ok__law_pick T) len__law_pick (hr.mono (by omega)) tk (by rfl) T.g__law_pick T.F__law_pick.kp T.b__law_pick (a_cons (e_lst (a_cons (e_int) (a_cons (e_int) (a_cons (e_int) (a_cons (e_int) (a_cons (e_int) (a_nil)))))) (len_cons (len_cons (len_cons (len_cons (len_cons len_nil)))))) (a_nil))))
  (s_one (s_ret (e_m1 PySem.F.slot_str_join PySem.F.type_str_join mt_join m1_join (e_str) (e_lc rfl nd (i_range1 (by rfl) T.z_range (e_var 1)) (blkOk_by (sc := defScope (topS 31)) (N := ["pot", "size", "k"]) (own := [("k", 2)]) (by decide +kernel)) (show ∀ j, j < 3 → j ∉ [2] → j ∈ ([0, 1] : List Nat) from by decide) (fun _ _ _ _ _ => g_name nd rfl (by first | exact .inl rfl | exact .inr rfl) (by decide)) (fun _ _ _ _ _ => ts_nil) (fun _ _ _ _ _ => e_callM 0 (ok__law_pick T) len__law_pick (hr.mono (by omega)) takes0 (by rfl) T.g__law_pick T.F__law_pick.kp T.b__law_pick (a_cons (e_str) (a_nil))))))))
theorem ok__law_is_label {A : Adr} (T : Top A K mg) : FnOk P w K mg base (L2.CX P w) 1 A.f__law_is_label A.d__law_is_label ["thing"] (spF K mg 1 sem__law_is_label) :=
  fn_def2 (k := 0) (own := false) T.F__law_is_label sc__law_is_label rfl rfl fun cdv A0 outer s H E hr tk hp hu nd =>
  s_cons (s_if (t_w (t_or (t_not (t_val (e_isi (by rfl) T.z_isinstance (e_var 0) (pe_bltn (v := .ty "str") (by rfl) T.z_str bb_str rfl) (.ty _) T.isa_str))) (t_or1 (t_not (t_chn opd_le opd_le op2_D op2_D (e_int) (e_cB1 cd_len2 call1_D (by rfl) T.z_len bb_len (e_var 0)) (e_int)))))) (s_one (s_ret (e_bl))) (s_nil))
  (s_one (s_ret (e_cmp (opd_eq hu) op2_D (e_cB1 cd_len2 call1_D (by rfl) T.z_len bb_len (e_lc rfl nd (i_seq (e_var 0)) (blkOk_by (sc := defScope (topS 32)) (N := ["thing", "sign"]) (own := [("sign", 1)]) (by decide +kernel)) (show ∀ j, j < 2 → j ∉ [1] → j ∈ ([0] : List Nat) from by decide) (fun _ _ _ _ _ => g_name nd rfl (by first | exact .inl rfl | exact .inr rfl) (by decide)) (fun _ _ _ _ _ => ts_one (t_cmp (opd_in2 hu) op2_D (e_var 1) (e_str) (by rfl))) (fun _ _ _ _ _ => e_var 1))) (e_cB1 cd_len2 call1_D (by rfl) T.z_len bb_len (e_var 0)) (nomark _))))
theorem ok__law_is_name {A : Adr} (T : Top A K mg) : FnOk P w K mg base (L2.CX P w) 4 A.f__law_is_name A.d__law_is_name ["thing"] (spF K mg 1 sem__law_is_name) :=
  fn_def2 (k := 3) (own := false) T.F__law_is_name sc__law_is_name rfl rfl fun cdv A0 outer s H E hr tk hp hu nd =>
  s_one (s_ret (e_and (e_call (ok__law_is_label T) len__law_is_label (hr.mono (by omega)) tk (by rfl) T.g__law_is_label T.F__law_is_label.kp T.b__law_is_label (a_cons (e_var 0) (a_nil))) (e_one (e_cmp (opd_notIn2 hu) op2_D (e_var 0) (e_call0 (ok__law_words T) len__law_words (hr.mono (by omega)) tk (by rfl) T.g__law_words T.F__law_words.kp T.b__law_words) (by rfl)))))
theorem ok__law_names {A : Adr} (T : Top A K mg) : FnOk P w K mg base (L2.CX P w) 10 A.f__law_names A.d__law_names ["pot", "many"] (spF K mg 2 sem__law_names) :=
  fn_def2 (k := 9) (own := true) T.F__law_names sc__law_names rfl rfl fun cdv A0 outer s H E hr tk hp hu nd =>
  s_cons (s_set nd rfl (by first | exact .inl rfl | exact .inr rfl) (by decide) (e_lst (a_nil) len_nil))
  (s_cons (s_for hp rfl (i_range1 (by rfl) T.z_range (e_var 1)) (g_name nd rfl (by first | exact .inl rfl | exact .inr rfl) (by decide)) (s_cons (s_set nd rfl (by first | exact .inl rfl | exact .inr rfl) (by decide) (e_slice (e_callM 0 (ok__law_word T) len__law_word (hr.mono (by omega)) tk (by rfl) T.g__law_word T.F__law_word.kp T.b__law_word (a_nil)) (o_none) (o_some (e_int))))
  (s_cons (s_setLc rfl nd rfl rfl (by decide) (sw_true rfl rfl rfl (by decide +kernel)) (i_seq (e_str)) (blkOk_by (sc := defScope (topS 34)) (N := ["pot", "many", "found", "k", "word", "some", "sign", "one"]) (own := [("sign", 6)]) (by decide +kernel)) (show ∀ j, j < 8 → j ∉ [6] → j ∈ ([0, 1, 2, 3, 4, 5, 7] : List Nat) from by decide) (fun _ _ _ _ _ => g_name nd rfl (by first | exact .inl rfl | exact .inr rfl) (by decide)) (fun _ _ _ _ _ => ts_nil) (fun _ _ _ _ _ => e_op opd_add op2_D (e_var 4) (e_var 6)))
  (s_one (s_expr (e_lm (pl_name 2) lm_append PySem.F.slot_list_append PySem.F.type_list_append mt_append (e_ix (ixd_2 hu) op2_D (e_lc rfl nd (i_seq (e_frz 5)) (blkOk_by (sc := defScope (topS 34)) (N := ["pot", "many", "found", "k", "word", "some", "sign", "one"]) (own := [("one", 7)]) (by decide +kernel)) (show ∀ j, j < 8 → j ∉ [7] → j ∈ ([0, 1, 2, 3, 4, 5, 6] : List Nat) from by decide) (fun _ _ _ _ _ => g_name nd rfl (by first | exact .inl rfl | exact .inr rfl) (by decide)) (fun _ _ _ _ _ => ts_one (t_w (t_and (t_cmp (opd_notIn2 hu) op2_D (e_var 7) (e_var 2) (by rfl)) (t_and1 (t_val (e_call (ok__law_is_name T) len__law_is_name (hr.mono (by omega)) takes0 (by rfl) T.g__law_is_name T.F__law_is_name.kp T.b__law_is_name (a_cons (e_var 7) (a_nil)))))))) (fun _ _ _ _ _ => e_var 7)) (e_int) (fun _ _ => rfl)) rfl))))))
  (s_one (s_ret (e_mov 2))))
theorem ok__law_pairs {A : Adr} (T : Top A K mg) : FnOk P w K mg base (L2.CX P w) 1 A.f__law_pairs A.d__law_pairs ["many"] (spF K mg 1 sem__law_pairs) :=
  fn_def2 (k := 0) (own := false) T.F__law_pairs sc__law_pairs rfl rfl fun cdv A0 outer s H E hr tk hp hu nd =>
  s_cons (s_set nd rfl (by first | exact .inl rfl | exact .inr rfl) (by decide) (e_lst (a_nil) len_nil))
  (s_cons (s_for hp rfl (i_range1 (by rfl) T.z_range (e_var 0)) (g_name nd rfl (by first | exact .inl rfl | exact .inr rfl) (by decide)) (s_one (s_set nd rfl (by first | exact .inl rfl | exact .inr rfl) (by decide) (e_op opd_add op2_D (e_var 1) (e_lc rfl nd (i_range1 (by rfl) T.z_range (e_var 2)) (blkOk_by (sc := defScope (topS 35)) (N := ["many", "found", "j", "i"]) (own := [("i", 3)]) (by decide +kernel)) (show ∀ j, j < 4 → j ∉ [3] → j ∈ ([0, 1, 2] : List Nat) from by decide) (fun _ _ _ _ _ => g_name nd rfl (by first | exact .inl rfl | exact .inr rfl) (by decide)) (fun _ _ _ _ _ => ts_nil) (fun _ _ _ _ _ => e_tup (a_cons (e_var 3) (a_cons (e_var 2) (a_nil))) (len_cons (len_cons len_nil))))))))
  (s_one (s_ret (e_mov 1))))
theorem ok__law_spec {A : Adr} (T : Top A K mg) : FnOk P w K mg base (L2.CX P w) 13 A.f__law_spec A.d__law_spec ["pot", "most"] (spF K mg 2 sem__law_spec) :=
  fn_def2 (k := 12) (own := true) T.F__law_spec sc__law_spec rfl rfl fun cdv A0 outer s H E hr tk hp hu nd =>
  s_cons (s_set nd rfl (by first | exact .inl rfl | exact .inr rfl) (by decide) (e_callM 0 (ok__law_names T) len__law_names (hr.mono (by omega)) tk (by rfl) T.g__law_names T.F__law_names.kp T.b__law_names (a_cons (e_op opd_add op2_D (e_int) (e_callM 0 (ok__law_draw T) len__law_draw (hr.mono (by omega)) tk (by rfl) T.g__law_draw T.F__law_draw.kp T.b__law_draw (a_cons (e_var 1) (a_nil)))) (a_nil))))
  (s_cons (s_set nd rfl (by first | exact .inl rfl | exact .inr rfl) (by decide) (e_op opd_add op2_D (e_int) (e_callM 0 (ok__law_draw T) len__law_draw (hr.mono (by omega)) tk (by rfl) T.g__law_draw T.F__law_draw.kp T.b__law_draw (a_cons (e_int) (a_nil)))))
  (s_one (s_ret (e_lst (a_cons (e_frz 2) (a_cons (e_lc rfl nd (i_seq (e_call (ok__law_pairs T) len__law_pairs (hr.mono (by omega)) tk (by rfl) T.g__law_pairs T.F__law_pairs.kp T.b__law_pairs (a_cons (e_cB1 cd_len2 call1_D (by rfl) T.z_len bb_len (e_var 2)) (a_nil)))) (blkOk_by (sc := defScope (topS 37)) (N := ["pot", "most", "names", "thick", "pair"]) (own := [("pair", 4)]) (by decide +kernel)) (show ∀ j, j < 5 → j ∉ [4] → j ∈ ([0, 1, 2, 3] : List Nat) from by decide) (fun _ _ _ _ _ => g_name nd rfl (by first | exact .inl rfl | exact .inr rfl) (by decide)) (fun _ _ _ _ _ => ts_one (t_cmp (opd_eq hu) op2_D (e_callM 0 (ok__law_draw T) len__law_draw (hr.mono (by omega)) takes0 (by rfl) T.g__law_draw T.F__law_draw.kp T.b__law_draw (a_cons (e_var 3) (a_nil))) (e_int) (nomark _))) (fun _ _ _ _ _ => e_var 4)) (a_nil))) (len_cons (len_cons len_nil))))))
theorem ok__law_made {A : Adr} (T : Top A K mg) : FnOk P w K mg base (L2.CX P w) 13 A.f__law_made A.d__law_made ["spec"] (spF K mg 1 sem__law_made) :=
  fn_def2 (k := 12) (own := false) T.F__law_made sc__law_made rfl rfl fun cdv A0 outer s H E hr tk hp hu nd =>
  s_one (s_ret (e_make T.M_Web (ok_Web___init__ T) len_Web___init__ (hr.mono (by omega)) tk (by rfl) T.c_Web.gl T.b_Web___init__ (a_cons (e_cT1 cd_list call1_D (by rfl) T.z_list bb_list (e_ix (ixd_2 hu) op2_D (e_var 0) (e_int) (fun _ _ => rfl))) (a_cons (e_cT1 cd_list call1_D (by rfl) T.z_list bb_list (e_ix (ixd_2 hu) op2_D (e_var 0) (e_int) (fun _ _ => rfl))) (a_nil)))))
theorem ok__law_lines {A : Adr} (T : Top A K mg) : FnOk P w K mg base (L2.CX P w) 1 A.f__law_lines A.d__law_lines ["spec"] (spF K mg 1 sem__law_lines) :=
  fn_def2 (k := 0) (own := false) T.F__law_lines sc__law_lines rfl rfl fun cdv A0 outer s H E hr tk hp hu nd =>
  s_one (s_ret (e_op opd_add op2_D (e_op opd_add op2_D (e_lc rfl nd (i_seq (e_ix (ixd_2 hu) op2_D (e_var 0) (e_int) (fun _ _ => rfl))) (blkOk_by (sc := defScope (topS 39)) (N := ["spec", "name", "one", "other"]) (own := [("name", 1)]) (by decide +kernel)) (show ∀ j, j < 4 → j ∉ [1] → j ∈ ([0, 2, 3] : List Nat) from by decide) (fun _ _ _ _ _ => g_name nd rfl (by first | exact .inl rfl | exact .inr rfl) (by decide)) (fun _ _ _ _ _ => ts_nil) (fun _ _ _ _ _ => e_op opd_add op2_D (e_str) (e_var 1))) (e_lc rfl nd (i_seq (e_cB1 (cd_sorted hu) call1_D (by rfl) T.z_sorted bb_sorted (e_ix (ixd_2 hu) op2_D (e_var 0) (e_int) (fun _ _ => rfl)))) (blkOk_by (sc := defScope (topS 39)) (N := ["spec", "name", "one", "other"]) (own := [("one", 2), ("other", 3)]) (by decide +kernel)) (show ∀ j, j < 4 → j ∉ [2, 3] → j ∈ ([0, 1] : List Nat) from by decide) (fun _ _ _ _ _ => g_tup rfl (g_cons (g_name nd rfl (by first | exact .inl rfl | exact .inr rfl) (by decide)) (g_cons (g_name nd rfl (by first | exact .inl rfl | exact .inr rfl) (by decide)) (g_nil)))) (fun _ _ _ _ _ => ts_nil) (fun _ _ _ _ _ => e_op opd_add op2_D (e_op opd_add op2_D (e_op opd_add op2_D (e_str) (e_cT1 cd_str call1_D (by rfl) T.z_str bb_str (e_var 2))) (e_str)) (e_cT1 cd_str call1_D (by rfl) T.z_str bb_str (e_var 3))))) (e_lst (a_cons (e_str) (a_nil)) (len_cons len_nil))))
theorem ok__law_text_of {A : Adr} (T : Top A K mg) : FnOk P w K mg base (L2.CX P w) 4 A.f__law_text_of A.d__law_text_of ["spec"] (spF K mg 1 sem__law_text_of) :=
  fn_def2 (k := 3) (own := false) T.F__law_text_of sc__law_text_of rfl rfl fun cdv A0 outer s H E hr tk hp hu nd =>
  s_one (s_ret (e_m1 PySem.F.slot_str_join PySem.F.type_str_join mt_join m1_join (e_str) (e_lc rfl nd (i_seq (e_call (ok__law_lines T) len__law_lines (hr.mono (by omega)) tk (by rfl) T.g__law_lines T.F__law_lines.kp T.b__law_lines (a_cons (e_var 0) (a_nil)))) (blkOk_by (sc := defScope (topS 40)) (N := ["spec", "line"]) (own := [("line", 1)]) (by decide +kernel)) (show ∀ j, j < 2 → j ∉ [1] → j ∈ ([0] : List Nat) from by decide) (fun _ _ _ _ _ => g_name nd rfl (by first | exact .inl rfl | exact .inr rfl) (by decide)) (fun _ _ _ _ _ => ts_nil) (fun _ _ _ _ _ => e_op opd_add op2_D (e_var 1) (e_str)))))
theorem ok_law {A : Adr} (T : Top A K mg) : FnOk P w K mg base (L2.CX P w) 16 A.f_law A.d_law ["script"] (spF K mg 1 sem_law) :=
  fn_def2 (k := 15) (own := false) T.F_law sc_law rfl rfl fun cdv A0 outer s H E hr tk hp hu nd =>
  s_cons (s_set nd rfl (by first | exact .inl rfl | exact .inr rfl) (by decide) (e_call (ok__law_pot T) len__law_pot (hr.mono (by omega)) tk (by rfl) T.g__law_pot T.F__law_pot.kp T.b__law_pot (a_cons (e_var 0) (a_nil))))
  (s_cons (s_for hp rfl (i_range1 (by rfl) T.z_range (e_int)) (g_name nd rfl (by first | exact .inl rfl | exact .inr rfl) (by decide)) (s_cons (s_set nd rfl (by first | exact .inl rfl | exact .inr rfl) (by decide) (e_callM 1 (ok__law_spec T) len__law_spec (hr.mono (by omega)) tk (by rfl) T.g__law_spec T.F__law_spec.kp T.b__law_spec (a_cons (e_int) (a_nil))))
  (s_cons (s_par rfl nd rfl rfl (by decide) (by decide) (by decide) rfl rfl (a_cons (e_call (ok__law_made T) len__law_made (hr.mono (by omega)) tk (by rfl) T.g__law_made T.F__law_made.kp T.b__law_made (a_cons (e_frz 3) (a_nil))) (a_cons (e_call (ok__law_text_of T) len__law_text_of (hr.mono (by omega)) tk (by rfl) T.g__law_text_of T.F__law_text_of.kp T.b__law_text_of (a_cons (e_frz 3) (a_nil))) (a_nil))) rfl)
  (s_cons (s_set nd rfl (by first | exact .inl rfl | exact .inr rfl) (by decide) (e_call (ok_read_web T) len_read_web (hr.mono (by omega)) tk (by rfl) T.g_read_web T.F_read_web.kp T.b_read_web (a_cons (e_var 5) (a_nil))))
  (s_cons (s_if (t_w (t_or (t_not (t_val (e_call (ok__law_same T 12) (len__law_same 12) (hr.mono (by omega)) tk (by rfl) T.g__law_same T.F__law_same.kp T.b__law_same (a_cons (e_call (ok_web_text T) len_web_text (hr.mono (by omega)) tk (by rfl) T.g_web_text T.F_web_text.kp T.b_web_text (a_cons (e_var 4) (a_nil))) (a_cons (e_var 5) (a_nil)))))) (t_or (t_cmp (opd_neI T.e_Web T.c_Web.gl (ok_Web___eq__ T) T.b_Web___eq__ (hr.mono (by omega))) op2_D (e_frz 6) (e_var 4) (nomark _)) (t_or1 (t_cmp (opd_ne hu) op2_D (e_call (ok_web_text T) len_web_text (hr.mono (by omega)) tk (by rfl) T.g_web_text T.F_web_text.kp T.b_web_text (a_cons (e_frz 6) (a_nil))) (e_var 5) (nomark _)))))) (s_one (s_ret (e_bl))) (s_nil))
  (s_one (s_if (t_not (t_val (e_call (ok__law_same T 12) (len__law_same 12) (hr.mono (by omega)) tk (by rfl) T.g__law_same T.F__law_same.kp T.b__law_same (a_cons (e_lst (a_cons (e_fldZ 6 T.c_Web T.n_Web_names) (a_cons (e_fldZ 6 T.c_Web T.n_Web_ways) (a_nil))) (len_cons (len_cons len_nil))) (a_cons (e_lst (a_cons (e_cT1 cd_tuple call1_D (by rfl) T.z_tuple bb_tuple (e_ix (ixd_2 hu) op2_D (e_var 3) (e_int) (fun _ _ => rfl))) (a_cons (e_cT1 cd_tuple call1_D (by rfl) T.z_tuple bb_tuple (e_cB1 (cd_sorted hu) call1_D (by rfl) T.z_sorted bb_sorted (e_ix (ixd_2 hu) op2_D (e_var 3) (e_int) (fun _ _ => rfl)))) (a_nil))) (len_cons (len_cons len_nil))) (a_nil)))))) (s_one (s_ret (e_bl))) (s_nil))))))))
  (s_one (s_ret (e_bl))))
end
end K02

namespace K02
open PySem PySem.Spec PyProof.Rows L2 LW SM
section
variable {l : PySem.W.OpenLaw} {w : World} {K : PySem.W.Frag} {h : Heap} {mg : Str → Option Value} {fa : Addr}
theorem mk (X : K.In h) (G : h.Ns mainGlobals mg) (hfa : mg "law" = some (.ref fa))
    {C_Web : Addr}
    {C_LineReader : Addr}
    {f_LineReader___init__ : Addr}
    {oc_LineReader___init__ : Value}
    {kV_LineReader___init__ : Value}
    {dc_LineReader___init__ : Value}
    {pm_LineReader___init__ : Value}
    {cd_LineReader___init__ : Value}
    {ct_LineReader___init__ : Value}
    {od_LineReader___init__ : Option Addr}
    {an_LineReader___init__ : Option Addr}
    {sl_LineReader___init__ : Array (Option Value)}
    {f_LineReader_takes : Addr}
    {oc_LineReader_takes : Value}
    {kV_LineReader_takes : Value}
    {dc_LineReader_takes : Value}
    {pm_LineReader_takes : Value}
    {cd_LineReader_takes : Value}
    {ct_LineReader_takes : Value}
    {od_LineReader_takes : Option Addr}
    {an_LineReader_takes : Option Addr}
    {sl_LineReader_takes : Array (Option Value)}
    {f_Web___eq__ : Addr}
    {oc_Web___eq__ : Value}
    {kV_Web___eq__ : Value}
    {dc_Web___eq__ : Value}
    {pm_Web___eq__ : Value}
    {cd_Web___eq__ : Value}
    {ct_Web___eq__ : Value}
    {od_Web___eq__ : Option Addr}
    {an_Web___eq__ : Option Addr}
    {sl_Web___eq__ : Array (Option Value)}
    {f_Web___init__ : Addr}
    {oc_Web___init__ : Value}
    {kV_Web___init__ : Value}
    {dc_Web___init__ : Value}
    {pm_Web___init__ : Value}
    {cd_Web___init__ : Value}
    {ct_Web___init__ : Value}
    {od_Web___init__ : Option Addr}
    {an_Web___init__ : Option Addr}
    {sl_Web___init__ : Array (Option Value)}
    {f__law_draw : Addr}
    {oc__law_draw : Value}
    {kV__law_draw : Value}
    {dc__law_draw : Value}
    {pm__law_draw : Value}
    {cd__law_draw : Value}
    {ct__law_draw : Value}
    {od__law_draw : Option Addr}
    {an__law_draw : Option Addr}
    {sl__law_draw : Array (Option Value)}
    {f__law_is_label : Addr}
    {oc__law_is_label : Value}
    {kV__law_is_label : Value}
    {dc__law_is_label : Value}
    {pm__law_is_label : Value}
    {cd__law_is_label : Value}
    {ct__law_is_label : Value}
    {od__law_is_label : Option Addr}
    {an__law_is_label : Option Addr}
    {sl__law_is_label : Array (Option Value)}
    {f__law_is_name : Addr}
    {oc__law_is_name : Value}
    {kV__law_is_name : Value}
    {dc__law_is_name : Value}
    {pm__law_is_name : Value}
    {cd__law_is_name : Value}
    {ct__law_is_name : Value}
    {od__law_is_name : Option Addr}
    {an__law_is_name : Option Addr}
    {sl__law_is_name : Array (Option Value)}
    {f__law_lines : Addr}
    {oc__law_lines : Value}
    {kV__law_lines : Value}
    {dc__law_lines : Value}
    {pm__law_lines : Value}
    {cd__law_lines : Value}
    {ct__law_lines : Value}
    {od__law_lines : Option Addr}
    {an__law_lines : Option Addr}
    {sl__law_lines : Array (Option Value)}
    {f__law_made : Addr}
    {oc__law_made : Value}
    {kV__law_made : Value}
    {dc__law_made : Value}
    {pm__law_made : Value}
    {cd__law_made : Value}
    {ct__law_made : Value}
    {od__law_made : Option Addr}
    {an__law_made : Option Addr}
    {sl__law_made : Array (Option Value)}
    {f__law_names : Addr}
    {oc__law_names : Value}
    {kV__law_names : Value}
    {dc__law_names : Value}
    {pm__law_names : Value}
    {cd__law_names : Value}
    {ct__law_names : Value}
    {od__law_names : Option Addr}
    {an__law_names : Option Addr}
    {sl__law_names : Array (Option Value)}
    {f__law_pairs : Addr}
    {oc__law_pairs : Value}
    {kV__law_pairs : Value}
    {dc__law_pairs : Value}
    {pm__law_pairs : Value}
    {cd__law_pairs : Value}
    {ct__law_pairs : Value}
    {od__law_pairs : Option Addr}
    {an__law_pairs : Option Addr}
    {sl__law_pairs : Array (Option Value)}
    {f__law_pick : Addr}
    {oc__law_pick : Value}
    {kV__law_pick : Value}
    {dc__law_pick : Value}
    {pm__law_pick : Value}
    {cd__law_pick : Value}
    {ct__law_pick : Value}
    {od__law_pick : Option Addr}
    {an__law_pick : Option Addr}
    {sl__law_pick : Array (Option Value)}
    {f__law_pot : Addr}
    {oc__law_pot : Value}
    {kV__law_pot : Value}
    {dc__law_pot : Value}
    {pm__law_pot : Value}
    {cd__law_pot : Value}
    {ct__law_pot : Value}
    {od__law_pot : Option Addr}
    {an__law_pot : Option Addr}
    {sl__law_pot : Array (Option Value)}
    {f__law_same : Addr}
    {oc__law_same : Value}
    {kV__law_same : Value}
    {dc__law_same : Value}
    {pm__law_same : Value}
    {cd__law_same : Value}
    {ct__law_same : Value}
    {od__law_same : Option Addr}
    {an__law_same : Option Addr}
    {sl__law_same : Array (Option Value)}
    {f__law_spec : Addr}
    {oc__law_spec : Value}
    {kV__law_spec : Value}
    {dc__law_spec : Value}
    {pm__law_spec : Value}
    {cd__law_spec : Value}
    {ct__law_spec : Value}
    {od__law_spec : Option Addr}
    {an__law_spec : Option Addr}
    {sl__law_spec : Array (Option Value)}
    {f__law_text_of : Addr}
    {oc__law_text_of : Value}
    {kV__law_text_of : Value}
    {dc__law_text_of : Value}
    {pm__law_text_of : Value}
    {cd__law_text_of : Value}
    {ct__law_text_of : Value}
    {od__law_text_of : Option Addr}
    {an__law_text_of : Option Addr}
    {sl__law_text_of : Array (Option Value)}
    {f__law_word : Addr}
    {oc__law_word : Value}
    {kV__law_word : Value}
    {dc__law_word : Value}
    {pm__law_word : Value}
    {cd__law_word : Value}
    {ct__law_word : Value}
    {od__law_word : Option Addr}
    {an__law_word : Option Addr}
    {sl__law_word : Array (Option Value)}
    {f__law_words : Addr}
    {oc__law_words : Value}
    {kV__law_words : Value}
    {dc__law_words : Value}
    {pm__law_words : Value}
    {cd__law_words : Value}
    {ct__law_words : Value}
    {od__law_words : Option Addr}
    {an__law_words : Option Addr}
    {sl__law_words : Array (Option Value)}
    {f_are_names : Addr}
    {oc_are_names : Value}
    {kV_are_names : Value}
    {dc_are_names : Value}
    {pm_are_names : Value}
    {cd_are_names : Value}
    {ct_are_names : Value}
    {od_are_names : Option Addr}
    {an_are_names : Option Addr}
    {sl_are_names : Array (Option Value)}
    {f_are_pairs_below : Addr}
    {oc_are_pairs_below : Value}
    {kV_are_pairs_below : Value}
    {dc_are_pairs_below : Value}
    {pm_are_pairs_below : Value}
    {cd_are_pairs_below : Value}
    {ct_are_pairs_below : Value}
    {od_are_pairs_below : Option Addr}
    {an_are_pairs_below : Option Addr}
    {sl_are_pairs_below : Array (Option Value)}
    {f_is_label : Addr}
    {oc_is_label : Value}
    {kV_is_label : Value}
    {dc_is_label : Value}
    {pm_is_label : Value}
    {cd_is_label : Value}
    {ct_is_label : Value}
    {od_is_label : Option Addr}
    {an_is_label : Option Addr}
    {sl_is_label : Array (Option Value)}
    {f_is_listed : Addr}
    {oc_is_listed : Value}
    {kV_is_listed : Value}
    {dc_is_listed : Value}
    {pm_is_listed : Value}
    {cd_is_listed : Value}
    {ct_is_listed : Value}
    {od_is_listed : Option Addr}
    {an_is_listed : Option Addr}
    {sl_is_listed : Array (Option Value)}
    {f_is_name : Addr}
    {oc_is_name : Value}
    {kV_is_name : Value}
    {dc_is_name : Value}
    {pm_is_name : Value}
    {cd_is_name : Value}
    {ct_is_name : Value}
    {od_is_name : Option Addr}
    {an_is_name : Option Addr}
    {sl_is_name : Array (Option Value)}
    {f_is_number : Addr}
    {oc_is_number : Value}
    {kV_is_number : Value}
    {dc_is_number : Value}
    {pm_is_number : Value}
    {cd_is_number : Value}
    {ct_is_number : Value}
    {od_is_number : Option Addr}
    {an_is_number : Option Addr}
    {sl_is_number : Array (Option Value)}
    {f_is_within : Addr}
    {oc_is_within : Value}
    {kV_is_within : Value}
    {dc_is_within : Value}
    {pm_is_within : Value}
    {cd_is_within : Value}
    {ct_is_within : Value}
    {od_is_within : Option Addr}
    {an_is_within : Option Addr}
    {sl_is_within : Array (Option Value)}
    {f_law : Addr}
    {oc_law : Value}
    {kV_law : Value}
    {dc_law : Value}
    {pm_law : Value}
    {cd_law : Value}
    {ct_law : Value}
    {od_law : Option Addr}
    {an_law : Option Addr}
    {sl_law : Array (Option Value)}
    {f_number_in : Addr}
    {oc_number_in : Value}
    {kV_number_in : Value}
    {dc_number_in : Value}
    {pm_number_in : Value}
    {cd_number_in : Value}
    {ct_number_in : Value}
    {od_number_in : Option Addr}
    {an_number_in : Option Addr}
    {sl_number_in : Array (Option Value)}
    {f_read_web : Addr}
    {oc_read_web : Value}
    {kV_read_web : Value}
    {dc_read_web : Value}
    {pm_read_web : Value}
    {cd_read_web : Value}
    {ct_read_web : Value}
    {od_read_web : Option Addr}
    {an_read_web : Option Addr}
    {sl_read_web : Array (Option Value)}
    {f_web_text : Addr}
    {oc_web_text : Value}
    {kV_web_text : Value}
    {dc_web_text : Value}
    {pm_web_text : Value}
    {cd_web_text : Value}
    {ct_web_text : Value}
    {od_web_text : Option Addr}
    {an_web_text : Option Addr}
    {sl_web_text : Array (Option Value)}
    {t_DIGITS : Tok}
    {t_LONGEST : Tok}
    {t_MOST_DIGITS : Tok}
    {t_MOST_PLACES : Tok}
    {t_SIGNS : Tok}
    {a_WORDS : Addr}
    {dd_WORDS : Option Addr}
    {its_WORDS : Array Value}
    {n_WORDS : Nat}
    {sl_WORDS : Array (Option Value)}
    (a_Web : PySem.W.nsIn K mainGlobals "Web" = some (some (.ref C_Web)))
    (pg_Web : PySem.W.plainGet K C_Web Str.empty = true)
    (hd_Web : PySem.W.hasDictIn K C_Web = true)
    (po_Web : PySem.W.plainOver K C_Web = true)
    (sa_Web : PySem.W.findIn K (.ref C_Web) "__setattr__" = some (some (.builtin "object.__setattr__")))
    (ha_Web : PySem.W.findIn K (.ref C_Web) "__class__" = some (some (.builtin "object.__class__")))
    (hm_Web : PySem.W.mroIn K C_Web (.type "object") = some true)
    (mi_Web_int : PySem.W.mroIn K C_Web (.type "int") = some false)
    (mi_Web_bool : PySem.W.mroIn K C_Web (.type "bool") = some false)
    (mi_Web_str : PySem.W.mroIn K C_Web (.type "str") = some false)
    (mi_Web_tuple : PySem.W.mroIn K C_Web (.type "tuple") = some false)
    (mi_Web_list : PySem.W.mroIn K C_Web (.type "list") = some false)
    (mi_Web_dict : PySem.W.mroIn K C_Web (.type "dict") = some false)
    (a_LineReader : PySem.W.nsIn K mainGlobals "LineReader" = some (some (.ref C_LineReader)))
    (pg_LineReader : PySem.W.plainGet K C_LineReader Str.empty = true)
    (hd_LineReader : PySem.W.hasDictIn K C_LineReader = true)
    (po_LineReader : PySem.W.plainOver K C_LineReader = true)
    (sa_LineReader : PySem.W.findIn K (.ref C_LineReader) "__setattr__" = some (some (.builtin "object.__setattr__")))
    (ha_LineReader : PySem.W.findIn K (.ref C_LineReader) "__class__" = some (some (.builtin "object.__class__")))
    (hm_LineReader : PySem.W.mroIn K C_LineReader (.type "object") = some true)
    (mi_LineReader_int : PySem.W.mroIn K C_LineReader (.type "int") = some false)
    (mi_LineReader_bool : PySem.W.mroIn K C_LineReader (.type "bool") = some false)
    (mi_LineReader_str : PySem.W.mroIn K C_LineReader (.type "str") = some false)
    (mi_LineReader_tuple : PySem.W.mroIn K C_LineReader (.type "tuple") = some false)
    (mi_LineReader_list : PySem.W.mroIn K C_LineReader (.type "list") = some false)
    (mi_LineReader_dict : PySem.W.mroIn K C_LineReader (.type "dict") = some false)
    (no_Lighter : PySem.W.nsIn K mainGlobals "Lighter" = some none)
    (no_House : PySem.W.nsIn K mainGlobals "House" = some none)
    (no_Desk : PySem.W.nsIn K mainGlobals "Desk" = some none)
    (no_Whole : PySem.W.nsIn K mainGlobals "Whole" = some none)
    (no_Dark : PySem.W.nsIn K mainGlobals "Dark" = some none)
    (hn_ : PySem.W.specialIn K (.builtin "object.__class__") "__get__" = some (some (.builtin "getset_descriptor.__get__")))
    (htk_ : PySem.W.takesIn K (.builtin "object.__class__") = some true)
    (a_LineReader___init__ : PySem.W.findIn K (.ref C_LineReader) "__init__" = some (some (.ref f_LineReader___init__)))
    (i_LineReader___init__ : PySem.W.isFn K (.ref f_LineReader___init__) = true)
    (l_LineReader___init__ : K.lookup f_LineReader___init__ = some ⟨oc_LineReader___init__, od_LineReader___init__, .func (PySem.W.fnOf "__init__" "LineReader.__init__" (defArgs (inClass (topS 24) 0)) (defBody (inClass (topS 24) 0)) (defScope (inClass (topS 24) 0)) .none kV_LineReader___init__ dc_LineReader___init__ pm_LineReader___init__ an_LineReader___init__ cd_LineReader___init__ ct_LineReader___init__), sl_LineReader___init__⟩)
    (c_LineReader___init__ : PySem.W.codeIn K cd_LineReader___init__ "LineReader.__init__" = true)
    (k_LineReader___init__ : PySem.W.keepIn K (.ref f_LineReader___init__) = true)
    (a_LineReader_takes : PySem.W.findIn K (.ref C_LineReader) "takes" = some (some (.ref f_LineReader_takes)))
    (i_LineReader_takes : PySem.W.isFn K (.ref f_LineReader_takes) = true)
    (l_LineReader_takes : K.lookup f_LineReader_takes = some ⟨oc_LineReader_takes, od_LineReader_takes, .func (PySem.W.fnOf "takes" "LineReader.takes" (defArgs (inClass (topS 24) 1)) (defBody (inClass (topS 24) 1)) (defScope (inClass (topS 24) 1)) .none kV_LineReader_takes dc_LineReader_takes pm_LineReader_takes an_LineReader_takes cd_LineReader_takes ct_LineReader_takes), sl_LineReader_takes⟩)
    (c_LineReader_takes : PySem.W.codeIn K cd_LineReader_takes "LineReader.takes" = true)
    (k_LineReader_takes : PySem.W.keepIn K (.ref f_LineReader_takes) = true)
    (a_Web___eq__ : PySem.W.findIn K (.ref C_Web) "__eq__" = some (some (.ref f_Web___eq__)))
    (i_Web___eq__ : PySem.W.isFn K (.ref f_Web___eq__) = true)
    (l_Web___eq__ : K.lookup f_Web___eq__ = some ⟨oc_Web___eq__, od_Web___eq__, .func (PySem.W.fnOf "__eq__" "Web.__eq__" (defArgs (inClass (topS 19) 1)) (defBody (inClass (topS 19) 1)) (defScope (inClass (topS 19) 1)) .none kV_Web___eq__ dc_Web___eq__ pm_Web___eq__ an_Web___eq__ cd_Web___eq__ ct_Web___eq__), sl_Web___eq__⟩)
    (c_Web___eq__ : PySem.W.codeIn K cd_Web___eq__ "Web.__eq__" = true)
    (k_Web___eq__ : PySem.W.keepIn K (.ref f_Web___eq__) = true)
    (a_Web___init__ : PySem.W.findIn K (.ref C_Web) "__init__" = some (some (.ref f_Web___init__)))
    (i_Web___init__ : PySem.W.isFn K (.ref f_Web___init__) = true)
    (l_Web___init__ : K.lookup f_Web___init__ = some ⟨oc_Web___init__, od_Web___init__, .func (PySem.W.fnOf "__init__" "Web.__init__" (defArgs (inClass (topS 19) 0)) (defBody (inClass (topS 19) 0)) (defScope (inClass (topS 19) 0)) .none kV_Web___init__ dc_Web___init__ pm_Web___init__ an_Web___init__ cd_Web___init__ ct_Web___init__), sl_Web___init__⟩)
    (c_Web___init__ : PySem.W.codeIn K cd_Web___init__ "Web.__init__" = true)
    (k_Web___init__ : PySem.W.keepIn K (.ref f_Web___init__) = true)
    (a__law_draw : PySem.W.nsIn K mainGlobals "_law_draw" = some (some (.ref f__law_draw)))
    (l__law_draw : K.lookup f__law_draw = some ⟨oc__law_draw, od__law_draw, .func (PySem.W.fnOf "_law_draw" "_law_draw" (defArgs (topS 28)) (defBody (topS 28)) (defScope (topS 28)) .none kV__law_draw dc__law_draw pm__law_draw an__law_draw cd__law_draw ct__law_draw), sl__law_draw⟩)
    (c__law_draw : PySem.W.codeIn K cd__law_draw "_law_draw" = true)
    (k__law_draw : PySem.W.keepIn K (.ref f__law_draw) = true)
    (a__law_is_label : PySem.W.nsIn K mainGlobals "_law_is_label" = some (some (.ref f__law_is_label)))
    (l__law_is_label : K.lookup f__law_is_label = some ⟨oc__law_is_label, od__law_is_label, .func (PySem.W.fnOf "_law_is_label" "_law_is_label" (defArgs (topS 32)) (defBody (topS 32)) (defScope (topS 32)) .none kV__law_is_label dc__law_is_label pm__law_is_label an__law_is_label cd__law_is_label ct__law_is_label), sl__law_is_label⟩)
    (c__law_is_label : PySem.W.codeIn K cd__law_is_label "_law_is_label" = true)
    (k__law_is_label : PySem.W.keepIn K (.ref f__law_is_label) = true)
    (a__law_is_name : PySem.W.nsIn K mainGlobals "_law_is_name" = some (some (.ref f__law_is_name)))
    (l__law_is_name : K.lookup f__law_is_name = some ⟨oc__law_is_name, od__law_is_name, .func (PySem.W.fnOf "_law_is_name" "_law_is_name" (defArgs (topS 33)) (defBody (topS 33)) (defScope (topS 33)) .none kV__law_is_name dc__law_is_name pm__law_is_name an__law_is_name cd__law_is_name ct__law_is_name), sl__law_is_name⟩)
    (c__law_is_name : PySem.W.codeIn K cd__law_is_name "_law_is_name" = true)
    (k__law_is_name : PySem.W.keepIn K (.ref f__law_is_name) = true)
    (a__law_lines : PySem.W.nsIn K mainGlobals "_law_lines" = some (some (.ref f__law_lines)))
    (l__law_lines : K.lookup f__law_lines = some ⟨oc__law_lines, od__law_lines, .func (PySem.W.fnOf "_law_lines" "_law_lines" (defArgs (topS 39)) (defBody (topS 39)) (defScope (topS 39)) .none kV__law_lines dc__law_lines pm__law_lines an__law_lines cd__law_lines ct__law_lines), sl__law_lines⟩)
    (c__law_lines : PySem.W.codeIn K cd__law_lines "_law_lines" = true)
    (k__law_lines : PySem.W.keepIn K (.ref f__law_lines) = true)
    (a__law_made : PySem.W.nsIn K mainGlobals "_law_made" = some (some (.ref f__law_made)))
    (l__law_made : K.lookup f__law_made = some ⟨oc__law_made, od__law_made, .func (PySem.W.fnOf "_law_made" "_law_made" (defArgs (topS 38)) (defBody (topS 38)) (defScope (topS 38)) .none kV__law_made dc__law_made pm__law_made an__law_made cd__law_made ct__law_made), sl__law_made⟩)
    (c__law_made : PySem.W.codeIn K cd__law_made "_law_made" = true)
    (k__law_made : PySem.W.keepIn K (.ref f__law_made) = true)
    (a__law_names : PySem.W.nsIn K mainGlobals "_law_names" = some (some (.ref f__law_names)))
    (l__law_names : K.lookup f__law_names = some ⟨oc__law_names, od__law_names, .func (PySem.W.fnOf "_law_names" "_law_names" (defArgs (topS 34)) (defBody (topS 34)) (defScope (topS 34)) .none kV__law_names dc__law_names pm__law_names an__law_names cd__law_names ct__law_names), sl__law_names⟩)
    (c__law_names : PySem.W.codeIn K cd__law_names "_law_names" = true)
    (k__law_names : PySem.W.keepIn K (.ref f__law_names) = true)
    (a__law_pairs : PySem.W.nsIn K mainGlobals "_law_pairs" = some (some (.ref f__law_pairs)))
    (l__law_pairs : K.lookup f__law_pairs = some ⟨oc__law_pairs, od__law_pairs, .func (PySem.W.fnOf "_law_pairs" "_law_pairs" (defArgs (topS 35)) (defBody (topS 35)) (defScope (topS 35)) .none kV__law_pairs dc__law_pairs pm__law_pairs an__law_pairs cd__law_pairs ct__law_pairs), sl__law_pairs⟩)
    (c__law_pairs : PySem.W.codeIn K cd__law_pairs "_law_pairs" = true)
    (k__law_pairs : PySem.W.keepIn K (.ref f__law_pairs) = true)
    (a__law_pick : PySem.W.nsIn K mainGlobals "_law_pick" = some (some (.ref f__law_pick)))
    (l__law_pick : K.lookup f__law_pick = some ⟨oc__law_pick, od__law_pick, .func (PySem.W.fnOf "_law_pick" "_law_pick" (defArgs (topS 29)) (defBody (topS 29)) (defScope (topS 29)) .none kV__law_pick dc__law_pick pm__law_pick an__law_pick cd__law_pick ct__law_pick), sl__law_pick⟩)
    (c__law_pick : PySem.W.codeIn K cd__law_pick "_law_pick" = true)
    (k__law_pick : PySem.W.keepIn K (.ref f__law_pick) = true)
    (a__law_pot : PySem.W.nsIn K mainGlobals "_law_pot" = some (some (.ref f__law_pot)))
    (l__law_pot : K.lookup f__law_pot = some ⟨oc__law_pot, od__law_pot, .func (PySem.W.fnOf "_law_pot" "_law_pot" (defArgs (topS 27)) (defBody (topS 27)) (defScope (topS 27)) .none kV__law_pot dc__law_pot pm__law_pot an__law_pot cd__law_pot ct__law_pot), sl__law_pot⟩)
    (c__law_pot : PySem.W.codeIn K cd__law_pot "_law_pot" = true)
    (k__law_pot : PySem.W.keepIn K (.ref f__law_pot) = true)
    (a__law_same : PySem.W.nsIn K mainGlobals "_law_same" = some (some (.ref f__law_same)))
    (l__law_same : K.lookup f__law_same = some ⟨oc__law_same, od__law_same, .func (PySem.W.fnOf "_law_same" "_law_same" (defArgs (topS 30)) (defBody (topS 30)) (defScope (topS 30)) .none kV__law_same dc__law_same pm__law_same an__law_same cd__law_same ct__law_same), sl__law_same⟩)
    (c__law_same : PySem.W.codeIn K cd__law_same "_law_same" = true)
    (k__law_same : PySem.W.keepIn K (.ref f__law_same) = true)
    (a__law_spec : PySem.W.nsIn K mainGlobals "_law_spec" = some (some (.ref f__law_spec)))
    (l__law_spec : K.lookup f__law_spec = some ⟨oc__law_spec, od__law_spec, .func (PySem.W.fnOf "_law_spec" "_law_spec" (defArgs (topS 37)) (defBody (topS 37)) (defScope (topS 37)) .none kV__law_spec dc__law_spec pm__law_spec an__law_spec cd__law_spec ct__law_spec), sl__law_spec⟩)
    (c__law_spec : PySem.W.codeIn K cd__law_spec "_law_spec" = true)
    (k__law_spec : PySem.W.keepIn K (.ref f__law_spec) = true)
    (a__law_text_of : PySem.W.nsIn K mainGlobals "_law_text_of" = some (some (.ref f__law_text_of)))
    (l__law_text_of : K.lookup f__law_text_of = some ⟨oc__law_text_of, od__law_text_of, .func (PySem.W.fnOf "_law_text_of" "_law_text_of" (defArgs (topS 40)) (defBody (topS 40)) (defScope (topS 40)) .none kV__law_text_of dc__law_text_of pm__law_text_of an__law_text_of cd__law_text_of ct__law_text_of), sl__law_text_of⟩)
    (c__law_text_of : PySem.W.codeIn K cd__law_text_of "_law_text_of" = true)
    (k__law_text_of : PySem.W.keepIn K (.ref f__law_text_of) = true)
    (a__law_word : PySem.W.nsIn K mainGlobals "_law_word" = some (some (.ref f__law_word)))
    (l__law_word : K.lookup f__law_word = some ⟨oc__law_word, od__law_word, .func (PySem.W.fnOf "_law_word" "_law_word" (defArgs (topS 31)) (defBody (topS 31)) (defScope (topS 31)) .none kV__law_word dc__law_word pm__law_word an__law_word cd__law_word ct__law_word), sl__law_word⟩)
    (c__law_word : PySem.W.codeIn K cd__law_word "_law_word" = true)
    (k__law_word : PySem.W.keepIn K (.ref f__law_word) = true)
    (a__law_words : PySem.W.nsIn K mainGlobals "_law_words" = some (some (.ref f__law_words)))
    (l__law_words : K.lookup f__law_words = some ⟨oc__law_words, od__law_words, .func (PySem.W.fnOf "_law_words" "_law_words" (defArgs (topS 36)) (defBody (topS 36)) (defScope (topS 36)) .none kV__law_words dc__law_words pm__law_words an__law_words cd__law_words ct__law_words), sl__law_words⟩)
    (c__law_words : PySem.W.codeIn K cd__law_words "_law_words" = true)
    (k__law_words : PySem.W.keepIn K (.ref f__law_words) = true)
    (a_are_names : PySem.W.nsIn K mainGlobals "are_names" = some (some (.ref f_are_names)))
    (l_are_names : K.lookup f_are_names = some ⟨oc_are_names, od_are_names, .func (PySem.W.fnOf "are_names" "are_names" (defArgs (topS 18)) (defBody (topS 18)) (defScope (topS 18)) .none kV_are_names dc_are_names pm_are_names an_are_names cd_are_names ct_are_names), sl_are_names⟩)
    (c_are_names : PySem.W.codeIn K cd_are_names "are_names" = true)
    (k_are_names : PySem.W.keepIn K (.ref f_are_names) = true)
    (a_are_pairs_below : PySem.W.nsIn K mainGlobals "are_pairs_below" = some (some (.ref f_are_pairs_below)))
    (l_are_pairs_below : K.lookup f_are_pairs_below = some ⟨oc_are_pairs_below, od_are_pairs_below, .func (PySem.W.fnOf "are_pairs_below" "are_pairs_below" (defArgs (topS 15)) (defBody (topS 15)) (defScope (topS 15)) .none kV_are_pairs_below dc_are_pairs_below pm_are_pairs_below an_are_pairs_below cd_are_pairs_below ct_are_pairs_below), sl_are_pairs_below⟩)
    (c_are_pairs_below : PySem.W.codeIn K cd_are_pairs_below "are_pairs_below" = true)
    (k_are_pairs_below : PySem.W.keepIn K (.ref f_are_pairs_below) = true)
    (a_is_label : PySem.W.nsIn K mainGlobals "is_label" = some (some (.ref f_is_label)))
    (l_is_label : K.lookup f_is_label = some ⟨oc_is_label, od_is_label, .func (PySem.W.fnOf "is_label" "is_label" (defArgs (topS 13)) (defBody (topS 13)) (defScope (topS 13)) .none kV_is_label dc_is_label pm_is_label an_is_label cd_is_label ct_is_label), sl_is_label⟩)
    (c_is_label : PySem.W.codeIn K cd_is_label "is_label" = true)
    (k_is_label : PySem.W.keepIn K (.ref f_is_label) = true)
    (a_is_listed : PySem.W.nsIn K mainGlobals "is_listed" = some (some (.ref f_is_listed)))
    (l_is_listed : K.lookup f_is_listed = some ⟨oc_is_listed, od_is_listed, .func (PySem.W.fnOf "is_listed" "is_listed" (defArgs (topS 12)) (defBody (topS 12)) (defScope (topS 12)) .none kV_is_listed dc_is_listed pm_is_listed an_is_listed cd_is_listed ct_is_listed), sl_is_listed⟩)
    (c_is_listed : PySem.W.codeIn K cd_is_listed "is_listed" = true)
    (k_is_listed : PySem.W.keepIn K (.ref f_is_listed) = true)
    (a_is_name : PySem.W.nsIn K mainGlobals "is_name" = some (some (.ref f_is_name)))
    (l_is_name : K.lookup f_is_name = some ⟨oc_is_name, od_is_name, .func (PySem.W.fnOf "is_name" "is_name" (defArgs (topS 14)) (defBody (topS 14)) (defScope (topS 14)) .none kV_is_name dc_is_name pm_is_name an_is_name cd_is_name ct_is_name), sl_is_name⟩)
    (c_is_name : PySem.W.codeIn K cd_is_name "is_name" = true)
    (k_is_name : PySem.W.keepIn K (.ref f_is_name) = true)
    (a_is_number : PySem.W.nsIn K mainGlobals "is_number" = some (some (.ref f_is_number)))
    (l_is_number : K.lookup f_is_number = some ⟨oc_is_number, od_is_number, .func (PySem.W.fnOf "is_number" "is_number" (defArgs (topS 10)) (defBody (topS 10)) (defScope (topS 10)) .none kV_is_number dc_is_number pm_is_number an_is_number cd_is_number ct_is_number), sl_is_number⟩)
    (c_is_number : PySem.W.codeIn K cd_is_number "is_number" = true)
    (k_is_number : PySem.W.keepIn K (.ref f_is_number) = true)
    (a_is_within : PySem.W.nsIn K mainGlobals "is_within" = some (some (.ref f_is_within)))
    (l_is_within : K.lookup f_is_within = some ⟨oc_is_within, od_is_within, .func (PySem.W.fnOf "is_within" "is_within" (defArgs (topS 11)) (defBody (topS 11)) (defScope (topS 11)) .none kV_is_within dc_is_within pm_is_within an_is_within cd_is_within ct_is_within), sl_is_within⟩)
    (c_is_within : PySem.W.codeIn K cd_is_within "is_within" = true)
    (k_is_within : PySem.W.keepIn K (.ref f_is_within) = true)
    (a_law : PySem.W.nsIn K mainGlobals "law" = some (some (.ref f_law)))
    (l_law : K.lookup f_law = some ⟨oc_law, od_law, .func (PySem.W.fnOf "law" "law" (defArgs (topS 41)) (defBody (topS 41)) (defScope (topS 41)) .none kV_law dc_law pm_law an_law cd_law ct_law), sl_law⟩)
    (c_law : PySem.W.codeIn K cd_law "law" = true)
    (k_law : PySem.W.keepIn K (.ref f_law) = true)
    (a_number_in : PySem.W.nsIn K mainGlobals "number_in" = some (some (.ref f_number_in)))
    (l_number_in : K.lookup f_number_in = some ⟨oc_number_in, od_number_in, .func (PySem.W.fnOf "number_in" "number_in" (defArgs (topS 23)) (defBody (topS 23)) (defScope (topS 23)) .none kV_number_in dc_number_in pm_number_in an_number_in cd_number_in ct_number_in), sl_number_in⟩)
    (c_number_in : PySem.W.codeIn K cd_number_in "number_in" = true)
    (k_number_in : PySem.W.keepIn K (.ref f_number_in) = true)
    (a_read_web : PySem.W.nsIn K mainGlobals "read_web" = some (some (.ref f_read_web)))
    (l_read_web : K.lookup f_read_web = some ⟨oc_read_web, od_read_web, .func (PySem.W.fnOf "read_web" "read_web" (defArgs (topS 25)) (defBody (topS 25)) (defScope (topS 25)) .none kV_read_web dc_read_web pm_read_web an_read_web cd_read_web ct_read_web), sl_read_web⟩)
    (c_read_web : PySem.W.codeIn K cd_read_web "read_web" = true)
    (k_read_web : PySem.W.keepIn K (.ref f_read_web) = true)
    (a_web_text : PySem.W.nsIn K mainGlobals "web_text" = some (some (.ref f_web_text)))
    (l_web_text : K.lookup f_web_text = some ⟨oc_web_text, od_web_text, .func (PySem.W.fnOf "web_text" "web_text" (defArgs (topS 1)) (defBody (topS 1)) (defScope (topS 1)) .none kV_web_text dc_web_text pm_web_text an_web_text cd_web_text ct_web_text), sl_web_text⟩)
    (c_web_text : PySem.W.codeIn K cd_web_text "web_text" = true)
    (k_web_text : PySem.W.keepIn K (.ref f_web_text) = true)
    (mk_LineReader : PySem.W.makesIn K C_LineReader = true)
    (kc_LineReader : PySem.W.keepIn K (.ref C_LineReader) = true)
    (mk_Web : PySem.W.makesIn K C_Web = true)
    (kc_Web : PySem.W.keepIn K (.ref C_Web) = true)
    (ne_Web : PySem.W.findIn K (.ref C_Web) "__ne__" = some (some (.builtin "object.__ne__")))
    (so_Web : PySem.W.subIn K (.ref C_Web) (.type "object") = some true)
    (a_DIGITS : PySem.W.nsIn K mainGlobals "DIGITS" = some (some (.str "0123456789" t_DIGITS)))
    (a_LONGEST : PySem.W.nsIn K mainGlobals "LONGEST" = some (some (.int 8 t_LONGEST)))
    (a_MOST_DIGITS : PySem.W.nsIn K mainGlobals "MOST_DIGITS" = some (some (.int 6 t_MOST_DIGITS)))
    (a_MOST_PLACES : PySem.W.nsIn K mainGlobals "MOST_PLACES" = some (some (.int 10 t_MOST_PLACES)))
    (a_SIGNS : PySem.W.nsIn K mainGlobals "SIGNS" = some (some (.str "abcdefghijklmnopqrstuvwxyz" t_SIGNS)))
    (h_WORDS : PySem.W.nsIn K mainGlobals "WORDS" = some (some (.ref a_WORDS)))
    (ci_Web : PySem.W.isClsIn K C_Web = true)
    (ct_Web : PySem.W.typeIn K (.ref C_Web) = some (.type "type"))
    (mm_Web_Web : PySem.W.mroIn K C_Web (.ref C_Web) = some true)
    (mm_LineReader_Web : PySem.W.mroIn K C_LineReader (.ref C_Web) = some false)
    (lk_WORDS : K.lookup a_WORDS = some ⟨.type "tuple", dd_WORDS, .seq its_WORDS n_WORDS, sl_WORDS⟩)
    (sz_WORDS : its_WORDS.size ≤ sizeLine)
    (ab_WORDS : its_WORDS.toList.map absV = (["place", "way", "end"] : List Str).map fun y => some (.str y))
    (na_LineReader_ended : PySem.W.findIn K (.ref C_LineReader) "ended" = some none)
    (na_LineReader_read_names : PySem.W.findIn K (.ref C_LineReader) "read_names" = some none)
    (na_LineReader_read_ways : PySem.W.findIn K (.ref C_LineReader) "read_ways" = some none)
    (na_Web_beside : PySem.W.findIn K (.ref C_Web) "beside" = some none)
    (na_Web_names : PySem.W.findIn K (.ref C_Web) "names" = some none)
    (na_Web_ways : PySem.W.findIn K (.ref C_Web) "ways" = some none)
    (z_abs : PySem.W.nsIn K mainGlobals "abs" = some none)
    (z_all : PySem.W.nsIn K mainGlobals "all" = some none)
    (z_bool : PySem.W.nsIn K mainGlobals "bool" = some none)
    (z_enumerate : PySem.W.nsIn K mainGlobals "enumerate" = some none)
    (z_int : PySem.W.nsIn K mainGlobals "int" = some none)
    (z_isinstance : PySem.W.nsIn K mainGlobals "isinstance" = some none)
    (z_len : PySem.W.nsIn K mainGlobals "len" = some none)
    (z_list : PySem.W.nsIn K mainGlobals "list" = some none)
    (z_range : PySem.W.nsIn K mainGlobals "range" = some none)
    (z_sorted : PySem.W.nsIn K mainGlobals "sorted" = some none)
    (z_str : PySem.W.nsIn K mainGlobals "str" = some none)
    (z_tuple : PySem.W.nsIn K mainGlobals "tuple" = some none)
    (keeps : LawKeeps sem_law) : ∃ fd : FuncData, (∀ (s : Shared) (v : Value), BindsTo s fd ⟨[v], []⟩ [("script", v)]) ∧ ∀ base : Heap, K.In base → base.Ns mainGlobals mg → FnOk l.prog w K mg base (L2.CX l.prog w) 16 fa fd ["script"] (spL K) := by
  have e := hfa.symm.trans (PySem.W.mg_of X G a_law)
  cases e
  have F_LineReader___init__ := fun_mk (st := (inClass (topS 24) 0)) l_LineReader___init__ c_LineReader___init__ k_LineReader___init__
  have b_LineReader___init__ := F_LineReader___init__.binds (ps := ["self"]) fun _ _ _ _ _ _ us hl => match us, hl with | [_], _ => rfl
  have F_LineReader_takes := fun_mk (st := (inClass (topS 24) 1)) l_LineReader_takes c_LineReader_takes k_LineReader_takes
  have b_LineReader_takes := F_LineReader_takes.binds (ps := ["self", "words"]) fun _ _ _ _ _ _ us hl => match us, hl with | [_, _], _ => rfl
  have F_Web___eq__ := fun_mk (st := (inClass (topS 19) 1)) l_Web___eq__ c_Web___eq__ k_Web___eq__
  have b_Web___eq__ := F_Web___eq__.binds (ps := ["self", "other"]) fun _ _ _ _ _ _ us hl => match us, hl with | [_, _], _ => rfl
  have F_Web___init__ := fun_mk (st := (inClass (topS 19) 0)) l_Web___init__ c_Web___init__ k_Web___init__
  have b_Web___init__ := F_Web___init__.binds (ps := ["self", "names", "ways"]) fun _ _ _ _ _ _ us hl => match us, hl with | [_, _, _], _ => rfl
  have F__law_draw := fun_mk (st := (topS 28)) l__law_draw c__law_draw k__law_draw
  have b__law_draw := F__law_draw.binds (ps := ["pot", "many"]) fun _ _ _ _ _ _ us hl => match us, hl with | [_, _], _ => rfl
  have F__law_is_label := fun_mk (st := (topS 32)) l__law_is_label c__law_is_label k__law_is_label
  have b__law_is_label := F__law_is_label.binds (ps := ["thing"]) fun _ _ _ _ _ _ us hl => match us, hl with | [_], _ => rfl
  have F__law_is_name := fun_mk (st := (topS 33)) l__law_is_name c__law_is_name k__law_is_name
  have b__law_is_name := F__law_is_name.binds (ps := ["thing"]) fun _ _ _ _ _ _ us hl => match us, hl with | [_], _ => rfl
  have F__law_lines := fun_mk (st := (topS 39)) l__law_lines c__law_lines k__law_lines
  have b__law_lines := F__law_lines.binds (ps := ["spec"]) fun _ _ _ _ _ _ us hl => match us, hl with | [_], _ => rfl
  have F__law_made := fun_mk (st := (topS 38)) l__law_made c__law_made k__law_made
  have b__law_made := F__law_made.binds (ps := ["spec"]) fun _ _ _ _ _ _ us hl => match us, hl with | [_], _ => rfl
  have F__law_names := fun_mk (st := (topS 34)) l__law_names c__law_names k__law_names
  have b__law_names := F__law_names.binds (ps := ["pot", "many"]) fun _ _ _ _ _ _ us hl => match us, hl with | [_, _], _ => rfl
  have F__law_pairs := fun_mk (st := (topS 35)) l__law_pairs c__law_pairs k__law_pairs
  have b__law_pairs := F__law_pairs.binds (ps := ["many"]) fun _ _ _ _ _ _ us hl => match us, hl with | [_], _ => rfl
  have F__law_pick := fun_mk (st := (topS 29)) l__law_pick c__law_pick k__law_pick
  have b__law_pick := F__law_pick.binds (ps := ["pot", "row"]) fun _ _ _ _ _ _ us hl => match us, hl with | [_, _], _ => rfl
  have F__law_pot := fun_mk (st := (topS 27)) l__law_pot c__law_pot k__law_pot
  have b__law_pot := F__law_pot.binds (ps := ["script"]) fun _ _ _ _ _ _ us hl => match us, hl with | [_], _ => rfl
  have F__law_same := fun_mk (st := (topS 30)) l__law_same c__law_same k__law_same
  have b__law_same := F__law_same.binds (ps := ["found", "due"]) fun _ _ _ _ _ _ us hl => match us, hl with | [_, _], _ => rfl
  have F__law_spec := fun_mk (st := (topS 37)) l__law_spec c__law_spec k__law_spec
  have b__law_spec := F__law_spec.binds (ps := ["pot", "most"]) fun _ _ _ _ _ _ us hl => match us, hl with | [_, _], _ => rfl
  have F__law_text_of := fun_mk (st := (topS 40)) l__law_text_of c__law_text_of k__law_text_of
  have b__law_text_of := F__law_text_of.binds (ps := ["spec"]) fun _ _ _ _ _ _ us hl => match us, hl with | [_], _ => rfl
  have F__law_word := fun_mk (st := (topS 31)) l__law_word c__law_word k__law_word
  have b__law_word := F__law_word.binds (ps := ["pot"]) fun _ _ _ _ _ _ us hl => match us, hl with | [_], _ => rfl
  have F__law_words := fun_mk (st := (topS 36)) l__law_words c__law_words k__law_words
  have b__law_words := F__law_words.binds (ps := []) fun _ _ _ _ _ _ us hl => match us, hl with | [], _ => rfl
  have F_are_names := fun_mk (st := (topS 18)) l_are_names c_are_names k_are_names
  have b_are_names := F_are_names.binds (ps := ["value"]) fun _ _ _ _ _ _ us hl => match us, hl with | [_], _ => rfl
  have F_are_pairs_below := fun_mk (st := (topS 15)) l_are_pairs_below c_are_pairs_below k_are_pairs_below
  have b_are_pairs_below := F_are_pairs_below.binds (ps := ["value", "many"]) fun _ _ _ _ _ _ us hl => match us, hl with | [_, _], _ => rfl
  have F_is_label := fun_mk (st := (topS 13)) l_is_label c_is_label k_is_label
  have b_is_label := F_is_label.binds (ps := ["value"]) fun _ _ _ _ _ _ us hl => match us, hl with | [_], _ => rfl
  have F_is_listed := fun_mk (st := (topS 12)) l_is_listed c_is_listed k_is_listed
  have b_is_listed := F_is_listed.binds (ps := ["value"]) fun _ _ _ _ _ _ us hl => match us, hl with | [_], _ => rfl
  have F_is_name := fun_mk (st := (topS 14)) l_is_name c_is_name k_is_name
  have b_is_name := F_is_name.binds (ps := ["value"]) fun _ _ _ _ _ _ us hl => match us, hl with | [_], _ => rfl
  have F_is_number := fun_mk (st := (topS 10)) l_is_number c_is_number k_is_number
  have b_is_number := F_is_number.binds (ps := ["value"]) fun _ _ _ _ _ _ us hl => match us, hl with | [_], _ => rfl
  have F_is_within := fun_mk (st := (topS 11)) l_is_within c_is_within k_is_within
  have b_is_within := F_is_within.binds (ps := ["value", "least", "most"]) fun _ _ _ _ _ _ us hl => match us, hl with | [_, _, _], _ => rfl
  have F_law := fun_mk (st := (topS 41)) l_law c_law k_law
  have b_law := F_law.binds (ps := ["script"]) fun _ _ _ _ _ _ us hl => match us, hl with | [_], _ => rfl
  have F_number_in := fun_mk (st := (topS 23)) l_number_in c_number_in k_number_in
  have b_number_in := F_number_in.binds (ps := ["word"]) fun _ _ _ _ _ _ us hl => match us, hl with | [_], _ => rfl
  have F_read_web := fun_mk (st := (topS 25)) l_read_web c_read_web k_read_web
  have b_read_web := F_read_web.binds (ps := ["text"]) fun _ _ _ _ _ _ us hl => match us, hl with | [_], _ => rfl
  have F_web_text := fun_mk (st := (topS 1)) l_web_text c_web_text k_web_text
  have b_web_text := F_web_text.binds (ps := ["web"]) fun _ _ _ _ _ _ us hl => match us, hl with | [_], _ => rfl
  have t_Web : InsT K C_Web := ⟨⟨pg_Web, hd_Web, po_Web, sa_Web⟩, ha_Web, hn_, htk_, hm_Web⟩
  have he_Web : Here K mg "Web" := .of (PySem.W.mg_of X G a_Web) t_Web mi_Web_int mi_Web_bool mi_Web_str mi_Web_tuple mi_Web_list mi_Web_dict
  have t_LineReader : InsT K C_LineReader := ⟨⟨pg_LineReader, hd_LineReader, po_LineReader, sa_LineReader⟩, ha_LineReader, hn_, htk_, hm_LineReader⟩
  have he_LineReader : Here K mg "LineReader" := .of (PySem.W.mg_of X G a_LineReader) t_LineReader mi_LineReader_int mi_LineReader_bool mi_LineReader_str mi_LineReader_tuple mi_LineReader_list mi_LineReader_dict
  have he_Lighter : Here K mg "Lighter" := .no (PySem.W.mg_none_of X G no_Lighter)
  have he_House : Here K mg "House" := .no (PySem.W.mg_none_of X G no_House)
  have he_Desk : Here K mg "Desk" := .no (PySem.W.mg_none_of X G no_Desk)
  have he_Whole : Here K mg "Whole" := .no (PySem.W.mg_none_of X G no_Whole)
  have he_Dark : Here K mg "Dark" := .no (PySem.W.mg_none_of X G no_Dark)
  have AH : AllHere K mg := .mk7 he_Web he_LineReader he_Lighter he_House he_Desk he_Whole he_Dark
  have T : Top { f_LineReader___init__ := f_LineReader___init__, d_LineReader___init__ := _, f_LineReader_takes := f_LineReader_takes, d_LineReader_takes := _, f_Web___eq__ := f_Web___eq__, d_Web___eq__ := _, f_Web___init__ := f_Web___init__, d_Web___init__ := _, f__law_draw := f__law_draw, d__law_draw := _, f__law_is_label := f__law_is_label, d__law_is_label := _, f__law_is_name := f__law_is_name, d__law_is_name := _, f__law_lines := f__law_lines, d__law_lines := _, f__law_made := f__law_made, d__law_made := _, f__law_names := f__law_names, d__law_names := _, f__law_pairs := f__law_pairs, d__law_pairs := _, f__law_pick := f__law_pick, d__law_pick := _, f__law_pot := f__law_pot, d__law_pot := _, f__law_same := f__law_same, d__law_same := _, f__law_spec := f__law_spec, d__law_spec := _, f__law_text_of := f__law_text_of, d__law_text_of := _, f__law_word := f__law_word, d__law_word := _, f__law_words := f__law_words, d__law_words := _, f_are_names := f_are_names, d_are_names := _, f_are_pairs_below := f_are_pairs_below, d_are_pairs_below := _, f_is_label := f_is_label, d_is_label := _, f_is_listed := f_is_listed, d_is_listed := _, f_is_name := f_is_name, d_is_name := _, f_is_number := f_is_number, d_is_number := _, f_is_within := f_is_within, d_is_within := _, f_law := fa, d_law := _, f_number_in := f_number_in, d_number_in := _, f_read_web := f_read_web, d_read_web := _, f_web_text := f_web_text, d_web_text := _, C_LineReader := C_LineReader, C_Web := C_Web, u_DIGITS := .str "0123456789" t_DIGITS, u_LONGEST := .int 8 t_LONGEST, u_MOST_DIGITS := .int 6 t_MOST_DIGITS, u_MOST_PLACES := .int 10 t_MOST_PLACES, u_SIGNS := .str "abcdefghijklmnopqrstuvwxyz" t_SIGNS, a_WORDS := a_WORDS } K mg := {
    F_LineReader___init__ := F_LineReader___init__,
    F_LineReader_takes := F_LineReader_takes,
    F_Web___eq__ := F_Web___eq__,
    F_Web___init__ := F_Web___init__,
    F__law_draw := F__law_draw,
    F__law_is_label := F__law_is_label,
    F__law_is_name := F__law_is_name,
    F__law_lines := F__law_lines,
    F__law_made := F__law_made,
    F__law_names := F__law_names,
    F__law_pairs := F__law_pairs,
    F__law_pick := F__law_pick,
    F__law_pot := F__law_pot,
    F__law_same := F__law_same,
    F__law_spec := F__law_spec,
    F__law_text_of := F__law_text_of,
    F__law_word := F__law_word,
    F__law_words := F__law_words,
    F_are_names := F_are_names,
    F_are_pairs_below := F_are_pairs_below,
    F_is_label := F_is_label,
    F_is_listed := F_is_listed,
    F_is_name := F_is_name,
    F_is_number := F_is_number,
    F_is_within := F_is_within,
    F_law := F_law,
    F_number_in := F_number_in,
    F_read_web := F_read_web,
    F_web_text := F_web_text,
    M_LineReader := ⟨mk_LineReader, a_LineReader___init__, i_LineReader___init__, kc_LineReader⟩,
    M_Web := ⟨mk_Web, a_Web___init__, i_Web___init__, kc_Web⟩,
    b_LineReader___init__ := b_LineReader___init__,
    b_LineReader_takes := b_LineReader_takes,
    b_Web___eq__ := b_Web___eq__,
    b_Web___init__ := b_Web___init__,
    b__law_draw := b__law_draw,
    b__law_is_label := b__law_is_label,
    b__law_is_name := b__law_is_name,
    b__law_lines := b__law_lines,
    b__law_made := b__law_made,
    b__law_names := b__law_names,
    b__law_pairs := b__law_pairs,
    b__law_pick := b__law_pick,
    b__law_pot := b__law_pot,
    b__law_same := b__law_same,
    b__law_spec := b__law_spec,
    b__law_text_of := b__law_text_of,
    b__law_word := b__law_word,
    b__law_words := b__law_words,
    b_are_names := b_are_names,
    b_are_pairs_below := b_are_pairs_below,
    b_is_label := b_is_label,
    b_is_listed := b_is_listed,
    b_is_name := b_is_name,
    b_is_number := b_is_number,
    b_is_within := b_is_within,
    b_number_in := b_number_in,
    b_read_web := b_read_web,
    b_web_text := b_web_text,
    c_LineReader := ⟨PySem.W.mg_of X G a_LineReader, t_LineReader.cls⟩,
    c_Web := ⟨PySem.W.mg_of X G a_Web, t_Web.cls⟩,
    e_Web := ⟨a_Web___eq__, i_Web___eq__, ne_Web, so_Web⟩,
    g_DIGITS := PySem.W.mg_of X G a_DIGITS,
    g_LONGEST := PySem.W.mg_of X G a_LONGEST,
    g_MOST_DIGITS := PySem.W.mg_of X G a_MOST_DIGITS,
    g_MOST_PLACES := PySem.W.mg_of X G a_MOST_PLACES,
    g_SIGNS := PySem.W.mg_of X G a_SIGNS,
    g_WORDS := PySem.W.mg_of X G h_WORDS,
    g__law_draw := PySem.W.mg_of X G a__law_draw,
    g__law_is_label := PySem.W.mg_of X G a__law_is_label,
    g__law_is_name := PySem.W.mg_of X G a__law_is_name,
    g__law_lines := PySem.W.mg_of X G a__law_lines,
    g__law_made := PySem.W.mg_of X G a__law_made,
    g__law_names := PySem.W.mg_of X G a__law_names,
    g__law_pairs := PySem.W.mg_of X G a__law_pairs,
    g__law_pick := PySem.W.mg_of X G a__law_pick,
    g__law_pot := PySem.W.mg_of X G a__law_pot,
    g__law_same := PySem.W.mg_of X G a__law_same,
    g__law_spec := PySem.W.mg_of X G a__law_spec,
    g__law_text_of := PySem.W.mg_of X G a__law_text_of,
    g__law_word := PySem.W.mg_of X G a__law_word,
    g__law_words := PySem.W.mg_of X G a__law_words,
    g_are_names := PySem.W.mg_of X G a_are_names,
    g_are_pairs_below := PySem.W.mg_of X G a_are_pairs_below,
    g_is_label := PySem.W.mg_of X G a_is_label,
    g_is_listed := PySem.W.mg_of X G a_is_listed,
    g_is_name := PySem.W.mg_of X G a_is_name,
    g_is_number := PySem.W.mg_of X G a_is_number,
    g_is_within := PySem.W.mg_of X G a_is_within,
    g_number_in := PySem.W.mg_of X G a_number_in,
    g_read_web := PySem.W.mg_of X G a_read_web,
    g_web_text := PySem.W.mg_of X G a_web_text,
    isa2_list_tuple := isa2_list_tuple AH,
    isa_Web := isa_ownA AH "Web" ci_Web ct_Web (all7 (.inr ⟨C_Web, PySem.W.mg_of X G a_Web, mm_Web_Web, fun _ => rfl⟩) (.inr ⟨C_LineReader, PySem.W.mg_of X G a_LineReader, mm_LineReader_Web, fun z => by rw [z, mm_Web_Web] at mm_LineReader_Web; cases mm_LineReader_Web⟩) (.inl (PySem.W.mg_none_of X G no_Lighter)) (.inl (PySem.W.mg_none_of X G no_House)) (.inl (PySem.W.mg_none_of X G no_Desk)) (.inl (PySem.W.mg_none_of X G no_Whole)) (.inl (PySem.W.mg_none_of X G no_Dark))),
    isa_bool := isa_bool AH,
    isa_int := isa_int AH,
    isa_list := isa_list AH,
    isa_str := isa_str AH,
    isa_tuple := isa_tuple AH,
    k_WORDS := .of lk_WORDS rfl rfl sz_WORDS ab_WORDS,
    m_LineReader_takes := ⟨a_LineReader_takes, i_LineReader_takes, k_LineReader_takes⟩,
    n_LineReader_ended := na_LineReader_ended,
    n_LineReader_read_names := na_LineReader_read_names,
    n_LineReader_read_ways := na_LineReader_read_ways,
    n_Web_beside := na_Web_beside,
    n_Web_names := na_Web_names,
    n_Web_ways := na_Web_ways,
    r_DIGITS := ⟨_, rfl⟩,
    r_LONGEST := ⟨_, rfl⟩,
    r_MOST_DIGITS := ⟨_, rfl⟩,
    r_MOST_PLACES := ⟨_, rfl⟩,
    r_SIGNS := ⟨_, rfl⟩,
    z_abs := PySem.W.mg_none_of X G z_abs,
    z_all := PySem.W.mg_none_of X G z_all,
    z_bool := PySem.W.mg_none_of X G z_bool,
    z_enumerate := PySem.W.mg_none_of X G z_enumerate,
    z_int := PySem.W.mg_none_of X G z_int,
    z_isinstance := PySem.W.mg_none_of X G z_isinstance,
    z_len := PySem.W.mg_none_of X G z_len,
    z_list := PySem.W.mg_none_of X G z_list,
    z_range := PySem.W.mg_none_of X G z_range,
    z_sorted := PySem.W.mg_none_of X G z_sorted,
    z_str := PySem.W.mg_none_of X G z_str,
    z_tuple := PySem.W.mg_none_of X G z_tuple }
  exact ⟨_, fun s v => .of_eq rfl, fun base _ _ => law_ok (ok_law T) keeps⟩
end
theorem keeps : LawKeeps sem_law := SM.keeps02
end K02
open PySem PySem.W PyProof.Rows
theorem PySem.Challenge.cw_litwebs_k02_whole_texts_of_webs_holds : PySem.Challenge.rw_litwebs_k02_whole_texts_of_webs.Holds := by
  w_on; o_law; k_head; (case hw => w_witness2)
  k_fill
  refine LW.walk (l := PySem.Challenge.rw_litwebs_k02_whole_texts_of_webs) (k := 16) rfl rfl ⟨rfl, by decide, by decide⟩ (fun w h Y => PySem.W.kIn_of Y) ?F
  case F =>
    intro w mg fa h KX G hmg
    refine' K02.mk KX G hmg ?a_Web ?pg_Web ?hd_Web ?po_Web ?sa_Web ?ha_Web ?hm_Web ?mi_Web_int ?mi_Web_bool ?mi_Web_str ?mi_Web_tuple ?mi_Web_list ?mi_Web_dict ?a_LineReader ?pg_LineReader ?hd_LineReader ?po_LineReader ?sa_LineReader ?ha_LineReader ?hm_LineReader ?mi_LineReader_int ?mi_LineReader_bool ?mi_LineReader_str ?mi_LineReader_tuple ?mi_LineReader_list ?mi_LineReader_dict ?no_Lighter ?no_House ?no_Desk ?no_Whole ?no_Dark ?hn_ ?htk_ ?a_LineReader___init__ ?i_LineReader___init__ ?l_LineReader___init__ ?c_LineReader___init__ ?k_LineReader___init__ ?a_LineReader_takes ?i_LineReader_takes ?l_LineReader_takes ?c_LineReader_takes ?k_LineReader_takes ?a_Web___eq__ ?i_Web___eq__ ?l_Web___eq__ ?c_Web___eq__ ?k_Web___eq__ ?a_Web___init__ ?i_Web___init__ ?l_Web___init__ ?c_Web___init__ ?k_Web___init__ ?a__law_draw ?l__law_draw ?c__law_draw ?k__law_draw ?a__law_is_label ?l__law_is_label ?c__law_is_label ?k__law_is_label ?a__law_is_name ?l__law_is_name ?c__law_is_name ?k__law_is_name ?a__law_lines ?l__law_lines ?c__law_lines ?k__law_lines ?a__law_made ?l__law_made ?c__law_made ?k__law_made ?a__law_names ?l__law_names ?c__law_names ?k__law_names ?a__law_pairs ?l__law_pairs ?c__law_pairs ?k__law_pairs ?a__law_pick ?l__law_pick ?c__law_pick ?k__law_pick ?a__law_pot ?l__law_pot ?c__law_pot ?k__law_pot ?a__law_same ?l__law_same ?c__law_same ?k__law_same ?a__law_spec ?l__law_spec ?c__law_spec ?k__law_spec ?a__law_text_of ?l__law_text_of ?c__law_text_of ?k__law_text_of ?a__law_word ?l__law_word ?c__law_word ?k__law_word ?a__law_words ?l__law_words ?c__law_words ?k__law_words ?a_are_names ?l_are_names ?c_are_names ?k_are_names ?a_are_pairs_below ?l_are_pairs_below ?c_are_pairs_below ?k_are_pairs_below ?a_is_label ?l_is_label ?c_is_label ?k_is_label ?a_is_listed ?l_is_listed ?c_is_listed ?k_is_listed ?a_is_name ?l_is_name ?c_is_name ?k_is_name ?a_is_number ?l_is_number ?c_is_number ?k_is_number ?a_is_within ?l_is_within ?c_is_within ?k_is_within ?a_law ?l_law ?c_law ?k_law ?a_number_in ?l_number_in ?c_number_in ?k_number_in ?a_read_web ?l_read_web ?c_read_web ?k_read_web ?a_web_text ?l_web_text ?c_web_text ?k_web_text ?mk_LineReader ?kc_LineReader ?mk_Web ?kc_Web ?ne_Web ?so_Web ?a_DIGITS ?a_LONGEST ?a_MOST_DIGITS ?a_MOST_PLACES ?a_SIGNS ?h_WORDS ?ci_Web ?ct_Web ?mm_Web_Web ?mm_LineReader_Web ?lk_WORDS ?sz_WORDS ?ab_WORDS ?na_LineReader_ended ?na_LineReader_read_names ?na_LineReader_read_ways ?na_Web_beside ?na_Web_names ?na_Web_ways ?z_abs ?z_all ?z_bool ?z_enumerate ?z_int ?z_isinstance ?z_len ?z_list ?z_range ?z_sorted ?z_str ?z_tuple K02.keeps
    (case a_Web => k_is)
    (case pg_Web => k_is)
    (case hd_Web => k_is)
    (case po_Web => k_is)
    (case sa_Web => k_is)
    (case ha_Web => k_is)
    (case hm_Web => k_is)
    (case mi_Web_int => k_is)
    (case mi_Web_bool => k_is)
    (case mi_Web_str => k_is)
    (case mi_Web_tuple => k_is)
    (case mi_Web_list => k_is)
    (case mi_Web_dict => k_is)
    (case a_LineReader => k_is)
    (case pg_LineReader => k_is)
    (case hd_LineReader => k_is)
    (case po_LineReader => k_is)
    (case sa_LineReader => k_is)
    (case ha_LineReader => k_is)
    (case hm_LineReader => k_is)
    (case mi_LineReader_int => k_is)
    (case mi_LineReader_bool => k_is)
    (case mi_LineReader_str => k_is)
    (case mi_LineReader_tuple => k_is)
    (case mi_LineReader_list => k_is)
    (case mi_LineReader_dict => k_is)
    (case no_Lighter => k_is)
    (case no_House => k_is)
    (case no_Desk => k_is)
    (case no_Whole => k_is)
    (case no_Dark => k_is)
    (case hn_ => k_is)
    (case htk_ => k_is)
    (case a_LineReader___init__ => k_is)
    (case i_LineReader___init__ => k_is)
    (case l_LineReader___init__ => k_is)
    (case c_LineReader___init__ => k_is)
    (case k_LineReader___init__ => k_is)
    (case a_LineReader_takes => k_is)
    (case i_LineReader_takes => k_is)
    (case l_LineReader_takes => k_is)
    (case c_LineReader_takes => k_is)
    (case k_LineReader_takes => k_is)
    (case a_Web___eq__ => k_is)
    (case i_Web___eq__ => k_is)
    (case l_Web___eq__ => k_is)
    (case c_Web___eq__ => k_is)
    (case k_Web___eq__ => k_is)
    (case a_Web___init__ => k_is)
    (case i_Web___init__ => k_is)
    (case l_Web___init__ => k_is)
    (case c_Web___init__ => k_is)
    (case k_Web___init__ => k_is)
    (case a__law_draw => k_is)
    (case l__law_draw => k_is)
    (case c__law_draw => k_is)
    (case k__law_draw => k_is)
    (case a__law_is_label => k_is)
    (case l__law_is_label => k_is)
    (case c__law_is_label => k_is)
    (case k__law_is_label => k_is)
    (case a__law_is_name => k_is)
    (case l__law_is_name => k_is)
    (case c__law_is_name => k_is)
    (case k__law_is_name => k_is)
    (case a__law_lines => k_is)
    (case l__law_lines => k_is)
    (case c__law_lines => k_is)
    (case k__law_lines => k_is)
    (case a__law_made => k_is)
    (case l__law_made => k_is)
    (case c__law_made => k_is)
    (case k__law_made => k_is)
    (case a__law_names => k_is)
    (case l__law_names => k_is)
    (case c__law_names => k_is)
    (case k__law_names => k_is)
    (case a__law_pairs => k_is)
    (case l__law_pairs => k_is)
    (case c__law_pairs => k_is)
    (case k__law_pairs => k_is)
    (case a__law_pick => k_is)
    (case l__law_pick => k_is)
    (case c__law_pick => k_is)
    (case k__law_pick => k_is)
    (case a__law_pot => k_is)
    (case l__law_pot => k_is)
    (case c__law_pot => k_is)
    (case k__law_pot => k_is)
    (case a__law_same => k_is)
    (case l__law_same => k_is)
    (case c__law_same => k_is)
    (case k__law_same => k_is)
    (case a__law_spec => k_is)
    (case l__law_spec => k_is)
    (case c__law_spec => k_is)
    (case k__law_spec => k_is)
    (case a__law_text_of => k_is)
    (case l__law_text_of => k_is)
    (case c__law_text_of => k_is)
    (case k__law_text_of => k_is)
    (case a__law_word => k_is)
    (case l__law_word => k_is)
    (case c__law_word => k_is)
    (case k__law_word => k_is)
    (case a__law_words => k_is)
    (case l__law_words => k_is)
    (case c__law_words => k_is)
    (case k__law_words => k_is)
    (case a_are_names => k_is)
    (case l_are_names => k_is)
    (case c_are_names => k_is)
    (case k_are_names => k_is)
    (case a_are_pairs_below => k_is)
    (case l_are_pairs_below => k_is)
    (case c_are_pairs_below => k_is)
    (case k_are_pairs_below => k_is)
    (case a_is_label => k_is)
    (case l_is_label => k_is)
    (case c_is_label => k_is)
    (case k_is_label => k_is)
    (case a_is_listed => k_is)
    (case l_is_listed => k_is)
    (case c_is_listed => k_is)
    (case k_is_listed => k_is)
    (case a_is_name => k_is)
    (case l_is_name => k_is)
    (case c_is_name => k_is)
    (case k_is_name => k_is)
    (case a_is_number => k_is)
    (case l_is_number => k_is)
    (case c_is_number => k_is)
    (case k_is_number => k_is)
    (case a_is_within => k_is)
    (case l_is_within => k_is)
    (case c_is_within => k_is)
    (case k_is_within => k_is)
    (case a_law => k_is)
    (case l_law => k_is)
    (case c_law => k_is)
    (case k_law => k_is)
    (case a_number_in => k_is)
    (case l_number_in => k_is)
    (case c_number_in => k_is)
    (case k_number_in => k_is)
    (case a_read_web => k_is)
    (case l_read_web => k_is)
    (case c_read_web => k_is)
    (case k_read_web => k_is)
    (case a_web_text => k_is)
    (case l_web_text => k_is)
    (case c_web_text => k_is)
    (case k_web_text => k_is)
    (case mk_LineReader => k_is)
    (case kc_LineReader => k_is)
    (case mk_Web => k_is)
    (case kc_Web => k_is)
    (case ne_Web => k_is)
    (case so_Web => k_is)
    (case a_DIGITS => k_is)
    (case a_LONGEST => k_is)
    (case a_MOST_DIGITS => k_is)
    (case a_MOST_PLACES => k_is)
    (case a_SIGNS => k_is)
    (case h_WORDS => k_is)
    (case ci_Web => k_is)
    (case ct_Web => k_is)
    (case mm_Web_Web => k_is)
    (case mm_LineReader_Web => k_is)
    (case lk_WORDS => k_is)
    (case sz_WORDS => decide)
    (case ab_WORDS => rfl)
    (case na_LineReader_ended => k_is)
    (case na_LineReader_read_names => k_is)
    (case na_LineReader_read_ways => k_is)
    (case na_Web_beside => k_is)
    (case na_Web_names => k_is)
    (case na_Web_ways => k_is)
    (case z_abs => k_is)
    (case z_all => k_is)
    (case z_bool => k_is)
    (case z_enumerate => k_is)
    (case z_int => k_is)
    (case z_isinstance => k_is)
    (case z_len => k_is)
    (case z_list => k_is)
    (case z_range => k_is)
    (case z_sorted => k_is)
    (case z_str => k_is)
    (case z_tuple => k_is)
