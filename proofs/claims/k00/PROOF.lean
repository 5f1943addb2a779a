import PyProof.Rows.All
import Wide.All
import OpenK.AllK
import Wide.FinOn
import PySem.Challenge.RW_litwebs_k00_errors_alone
import HandS.ForMost
import HandS.Lambda
import KE.KNest
import HandS.ForExc
import HandS.EndBits
import HandS.TupAny
import HandS.Deep
import KE.DataAny
import KE.DataMinMax
import KE.SortData
import HandS.IsInst
import HandS.StrMore
import HandS.FStr
import HandS.DictComp
import HandS.TupLen
import HandS.OwnEq
import HandS.Steps
import PyProof.InstNe
import PyProof.DictFindH
import HandS.Star
import HandS.Conv
import PyProof.ReprRoads
import HandS.ExcInit
import KE.KExcSuper
import HandS.TryMany
import HandS.ExcValue
import HandS.ExcField
import PyProof.ListMulAny
import PyProof.CompUse
import KE.GoesEnum
import HandS.Style
import KE.KDictKeyed
import HandS.TryOnly
import PyProof.NeKinds
import PyProof.Rows.IntBool
import HandS.ExcIs
import HandS.Codes
import KE.KExcLine
import KE.RegKSuper
set_option Elab.async false
set_option linter.all false
set_option maxRecDepth 100000
set_option maxHeartbeats 0
namespace LW
open PySem PySem.Spec PyProof.Rows L2
structure Lam where
  params : Arguments
  body : Expr
  scope : Scope
  qual : Str
  ps : List Str
  cn : List Str
def lamSyn : Nat → Option Lam := fun _ => none
@[irreducible] def lamDefs : List Str := []
def tabs (K : PySem.W.Frag) : List (Addr × Addr) := lamDefs.filterMap (PySem.W.tabIn K)
def TabAt (K : PySem.W.Frag) (P : Addr) (q : Str) : Prop := ∃ nm ∈ lamDefs, ∃ c, PySem.W.tabIn K nm = some (c, P) ∧ q = nm ++ ".<locals>.<lambda>"
theorem TabAt.mem {K : PySem.W.Frag} {P : Addr} {q : Str} (t : TabAt K P q) : P ∈ (tabs K).map (·.2) := by
  obtain ⟨nm, h, c, e, _⟩ := t
  exact List.mem_map.mpr ⟨(c, P), List.mem_filterMap.mpr ⟨nm, h, e⟩, rfl⟩
def TabsB (base : Heap) (K : PySem.W.Frag) (mg : Str → Option Value) : Prop := ∀ p ∈ tabs K, LamX.TabB base mg p.1 p.2
def FnQ (f : Addr) (L : Lam) (cl : List (Str × Addr)) (c : Addr) : HO := .ext fun h => ∃ (od : Option Addr) (sl : Array (Option Value)) (pm ctv : Value),
  h.get? f = some (⟨.type "function", od, .func (PySem.W.kla_fn "<lambda>" L.qual L.params L.body L.scope cl pm (.ref c) ctv), sl⟩ : Obj)
def CellQ (o : Obj) : HO := .frz o (.ext fun _ => True)
structure CloOk (cl : List (Str × Addr)) (cn : List Str) : Prop where
  inj : ∀ x y c, cl.lookup x = some c → cl.lookup y = some c → x = y
  mem : ∀ x c, cl.lookup x = some c → x ∈ cn
open LamX (CodeO TabS)
theorem TabS_upd {H : Hp} {P a : Addr} {q : Str} {u o : HO} (t : TabS H P q) (h : H a = some u) (h1 : ∀ ps, u ≠ .tbl ps) (h2 : ∀ φ, u ≠ .ext φ) : TabS (upd H a o) P q := by
  obtain ⟨ps, e1, e2, e3⟩ := t
  refine ⟨ps, ?_, e2, fun pos cv hc => ?_⟩
  · rw [upd_ne (fun z => by rw [z, h] at e1; exact h1 ps (Option.some.inj e1))]; exact e1
  · obtain ⟨c, g1, g2⟩ := e3 pos cv hc
    refine ⟨c, g1, ?_⟩
    rw [upd_ne (fun z => by
      rw [z, h] at g2
      unfold CodeO at g2
      exact h2 _ (Option.some.inj g2))]
    exact g2
theorem TabS_new {H : Hp} {P a : Addr} {q : Str} {o : HO} (t : TabS H P q) (h : H a = none) : TabS (upd H a o) P q := t.ext fun b u e => by
  rw [upd_ne (ne_of_none e h)]; exact e
def TabsOk (K : PySem.W.Frag) (mg : Str → Option Value) (H : Hp) : Prop := ∀ P q, TabAt K P q → TabS H P q
def Plain (H : Hp) (a : Addr) : Prop := H a = none ∨ ∃ u, H a = some u ∧ (∀ ps, u ≠ .tbl ps) ∧ ∀ φ, u ≠ .ext φ
theorem plain_none {H : Hp} {a : Addr} (h : H a = none) : Plain H a := .inl h
theorem plain_of {H : Hp} {a : Addr} {u : HO} (h : H a = some u) (h1 : ∀ ps, u ≠ .tbl ps := by intro _ z; cases z) (h2 : ∀ φ, u ≠ .ext φ := by intro _ z; cases z) : Plain H a := .inr ⟨u, h, h1, h2⟩
theorem TabS_put {H : Hp} {P a : Addr} {q : Str} {o : HO} (t : TabS H P q) (h : Plain H a) : TabS (upd H a o) P q := by
  rcases h with h | ⟨u, h, h1, h2⟩
  · exact TabS_new t h
  · exact TabS_upd t h h1 h2
theorem TabsOk.put {K : PySem.W.Frag} {mg : Str → Option Value} {H : Hp} {a : Addr} {o : HO} (t : TabsOk K mg H) (h : Plain H a) : TabsOk K mg (upd H a o) := fun P q z => TabS_put (t P q z) h
end LW

namespace LW
open PySem PySem.Spec PyProof.Rows L2
inductive D where
  | non | bl (b : Bool) | int (i : Int) | str (s : Str)
  | tup (ds : List D) | lst (ds : List D) | dct (t : Bool) (kvs : List (D × D))
  | ins (c : Str) (fs : List (Str × D))
  | ex (c : Str) (fs : List (Str × D))
  | fn (x : Str) | lam (n : Nat) (cs : List D)
  | ldc (kvs : List (D × D))
def keyD : Key → D
  | .inl i => .int i
  | .inr x => .str x
def exq (a C : Addr) (d : Option Addr) : HO := .ext fun h => ∃ oe vs, h.get? a = some oe ∧ oe.cls = .ref C ∧ oe.dict = d ∧ oe.data = .fields vs
def TupAt (_K : PySem.W.Frag) (F : Hp) (a : Addr) (xs : List V) : Prop := F a = some (.tup xs)
section
variable (K : PySem.W.Frag) (mg : Str → Option Value) (F : Hp)
mutual
inductive Rep : V → D → Prop where
  | non : Rep .non .non
  | bl (b : Bool) : Rep (.bl b) (.bl b)
  | int (i : Int) : Rep (.int i) (.int i)
  | str (s : Str) : Rep (.str s) (.str s)
  | tup {a : Addr} {xs : List V} {ds : List D} : TupAt K F a xs → RepL xs ds → Rep (.ref a) (.tup ds)
  | lst {a : Addr} {xs : List V} {ds : List D} : SqL K F a xs → RepL xs ds → Rep (.ref a) (.lst ds)
  | dK {a : Addr} {kvs : List (Key × V)} {ds : List (D × D)} : F a = some (.dK kvs) → RepK kvs ds → Rep (.ref a) (.dct false ds)
  | dT {a : Addr} {kvs : List (List Key × V)} {ds : List (D × D)} : F a = some (.dT kvs) → RepT kvs ds → Rep (.ref a) (.dct true ds)
  | ldc {a : Addr} {o : Obj} {kvs : List (Key × V)} {ds : List (D × D)} : F a = some (.frz o (.dK kvs)) → RepK kvs ds → Rep (.ref a) (.ldc ds)
  | ins {a C dx : Addr} {c : Str} {gs : List (Str × V)} {fs : List (Str × D)} : F a = some (.ins C dx gs) → mg c = some (.ref C) → RepF gs fs → Rep (.ref a) (.ins c fs)
  | ex0 {a C : Addr} {d : Option Addr} {c : Str} : F a = some (exq a C d) → mg c = some (.ref C) → Rep (.ref a) (.ex c [])
  | ex {a C dx : Addr} {c : Str} {gs : List (Str × V)} {fs : List (Str × D)} : F a = some (exq a C (some dx)) → mg c = some (.ref C) → F dx = some (.xd gs) → RepF gs fs → Rep (.ref a) (.ex c fs)
  | fn {f : Addr} {x : Str} : mg x = some (.ref f) → Rep (.ref f) (.fn x)
  | lam {f c : Addr} {n : Nat} {L : Lam} {cl : List (Str × Addr)} {ds : List D} : lamSyn n = some L → F f = some (FnQ f L cl c) → F c = some (LamX.CodeO c L.qual) → CloOk cl L.cn → RepC cl L.cn ds → Rep (.ref f) (.lam n ds)
inductive RepC : List (Str × Addr) → List Str → List D → Prop where
  | nil {cl : List (Str × Addr)} : RepC cl [] []
  | cons {cl : List (Str × Addr)} {y : Str} {c : Addr} {o : Obj} {u : Value} {v : V} {d : D} {ys : List Str} {ds : List D} : cl.lookup y = some c → F c = some (CellQ o) → o.data = .cell (some u) → RelV v u → Rep v d → RepC cl ys ds → RepC cl (y :: ys) (d :: ds)
inductive RepL : List V → List D → Prop where
  | nil : RepL [] []
  | cons {x : V} {d : D} {xs : List V} {ds : List D} : Rep x d → RepL xs ds → RepL (x :: xs) (d :: ds)
inductive RepF : List (Str × V) → List (Str × D) → Prop where
  | nil : RepF [] []
  | cons {n : Str} {x : V} {d : D} {xs : List (Str × V)} {ds : List (Str × D)} : Rep x d → RepF xs ds → RepF ((n, x) :: xs) ((n, d) :: ds)
inductive RepK : List (Key × V) → List (D × D) → Prop where
  | nil : RepK [] []
  | cons {n : Key} {x : V} {d : D} {xs : List (Key × V)} {ds : List (D × D)} : Rep x d → RepK xs ds → RepK ((n, x) :: xs) ((keyD n, d) :: ds)
inductive RepT : List (List Key × V) → List (D × D) → Prop where
  | nil : RepT [] []
  | cons {n : List Key} {x : V} {d : D} {xs : List (List Key × V)} {ds : List (D × D)} : Rep x d → RepT xs ds → RepT ((n, x) :: xs) ((.tup (n.map keyD), d) :: ds)
end
end
def Le (F F' : Hp) : Prop := ∀ a o, F a = some o → F' a = some o
theorem Le.refl (F : Hp) : Le F F := fun _ _ h => h
theorem Le.trans {F F1 F2 : Hp} (a : Le F F1) (b : Le F1 F2) : Le F F2 := fun c o h => b c o (a c o h)
theorem Rd.le {F F' : Hp} {a : Addr} {u : HO} (l : Le F F') (r : Rd F a u) : Rd F' a u := by
  rcases r with r | ⟨o, r⟩
  · exact .inl (l _ _ r)
  · exact .inr ⟨o, l _ _ r⟩
theorem SqL_le {K : PySem.W.Frag} {F F' : Hp} {a : Addr} {xs : List V} (l : Le F F') (r : SqL K F a xs) : SqL K F' a xs := by
  rcases r with r | r
  · exact .inl (Rd.le l r)
  · exact .inr r
theorem SqT_le {K : PySem.W.Frag} {F F' : Hp} {a : Addr} {xs : List V} (l : Le F F') (r : SqT K F a xs) : SqT K F' a xs := by
  rcases r with r | r
  · exact .inl (Rd.le l r)
  · exact .inr r
section
variable {K : PySem.W.Frag} {mg : Str → Option Value} {F F' : Hp}
mutual
theorem Rep.mono (l : Le F F') : ∀ {v : V} {d : D}, Rep K mg F v d → Rep K mg F' v d
  | _, _, .non => .non
  | _, _, .bl b => .bl b
  | _, _, .int i => .int i
  | _, _, .str s => .str s
  | _, _, .tup h r => .tup (l _ _ h) (RepL.mono l r)
  | _, _, .lst h r => .lst (SqL_le l h) (RepL.mono l r)
  | _, _, .dK h r => .dK (l _ _ h) (RepK.mono l r)
  | _, _, .dT h r => .dT (l _ _ h) (RepT.mono l r)
  | _, _, .ldc h r => .ldc (l _ _ h) (RepK.mono l r)
  | _, _, .ins h g r => .ins (l _ _ h) g (RepF.mono l r)
  | _, _, .ex0 h g => .ex0 (l _ _ h) g
  | _, _, .ex h g k r => .ex (l _ _ h) g (l _ _ k) (RepF.mono l r)
  | _, _, .fn h => .fn h
  | _, _, .lam h1 h2 h3 h4 r => .lam h1 (l _ _ h2) (l _ _ h3) h4 (RepC.mono l r)
theorem RepC.mono (l : Le F F') : ∀ {cl : List (Str × Addr)} {ys : List Str} {ds : List D}, RepC K mg F cl ys ds → RepC K mg F' cl ys ds
  | _, _, _, .nil => .nil
  | _, _, _, .cons h1 h2 h3 h4 h r => .cons h1 (l _ _ h2) h3 h4 (Rep.mono l h) (RepC.mono l r)
theorem RepL.mono (l : Le F F') : ∀ {v : List V} {d : List D}, RepL K mg F v d → RepL K mg F' v d
  | _, _, .nil => .nil
  | _, _, .cons h r => .cons (Rep.mono l h) (RepL.mono l r)
theorem RepF.mono (l : Le F F') : ∀ {v : List (Str × V)} {d : List (Str × D)}, RepF K mg F v d → RepF K mg F' v d
  | _, _, .nil => .nil
  | _, _, .cons h r => .cons (Rep.mono l h) (RepF.mono l r)
theorem RepK.mono (l : Le F F') : ∀ {v : List (Key × V)} {d : List (D × D)}, RepK K mg F v d → RepK K mg F' v d
  | _, _, .nil => .nil
  | _, _, .cons h r => .cons (Rep.mono l h) (RepK.mono l r)
theorem RepT.mono (l : Le F F') : ∀ {v : List (List Key × V)} {d : List (D × D)}, RepT K mg F v d → RepT K mg F' v d
  | _, _, .nil => .nil
  | _, _, .cons h r => .cons (Rep.mono l h) (RepT.mono l r)
end
theorem RepL.length : ∀ {xs : List V} {ds : List D}, RepL K mg F xs ds → xs.length = ds.length
  | _, _, .nil => rfl
  | _, _, .cons _ r => congrArg (· + 1) r.length
theorem RepL.get : ∀ {xs : List V} {ds : List D} {i : Nat} {d : D}, RepL K mg F xs ds → ds[i]? = some d → ∃ x, xs[i]? = some x ∧ Rep K mg F x d
  | _, _, _, _, .nil, e => by simp at e
  | _, _, 0, _, .cons h _, e => by simp at e; subst e; exact ⟨_, rfl, h⟩
  | _, _, i + 1, d, .cons _ r, e => by
    obtain ⟨x, h1, h2⟩ := RepL.get (i := i) (d := d) r (by simpa using e)
    exact ⟨x, by simpa using h1, h2⟩
theorem RepF.vals : ∀ {gs : List (Str × V)} {fs : List (Str × D)}, RepF K mg F gs fs → RepL K mg F (gs.map fun z => z.2) (fs.map fun z => z.2)
  | _, _, .nil => .nil
  | _, _, .cons h r => .cons h r.vals
theorem RepL.append : ∀ {xs ys : List V} {ds es : List D}, RepL K mg F xs ds → RepL K mg F ys es → RepL K mg F (xs ++ ys) (ds ++ es)
  | _, _, _, _, .nil, s => s
  | _, _, _, _, .cons h r, s => .cons h (r.append s)
theorem RepL.take : ∀ {xs : List V} {ds : List D} (n : Nat), RepL K mg F xs ds → RepL K mg F (xs.take n) (ds.take n)
  | _, _, 0, _ => .nil
  | _, _, _ + 1, .nil => .nil
  | _, _, n + 1, .cons h r => .cons h (r.take n)
theorem RepL.drop : ∀ {xs : List V} {ds : List D} (n : Nat), RepL K mg F xs ds → RepL K mg F (xs.drop n) (ds.drop n)
  | _, _, 0, r => r
  | _, _, _ + 1, .nil => .nil
  | _, _, n + 1, .cons _ r => r.drop n
theorem RepL.set : ∀ {xs : List V} {ds : List D} (n : Nat) {x : V} {d : D}, RepL K mg F xs ds → Rep K mg F x d → RepL K mg F (xs.set n x) (ds.set n d)
  | _, _, _, _, _, .nil, _ => .nil
  | _, _, 0, _, _, .cons _ r, h => .cons h r
  | _, _, n + 1, _, _, .cons h' r, h => .cons h' (r.set n h)
end
inductive O where
  | v (d : D) | l (ds : List D) | k (t : Bool) (kvs : List (D × D)) | i (c : Str) (fs : List (Str × O))
  | m (fs : List (Str × O))
mutual
def O.d : O → D
  | .v d => d
  | .l ds => .lst ds
  | .k t kvs => .dct t kvs
  | .i c fs => .ins c (O.dF fs)
  | .m fs => .lst ((O.dF fs).map fun z => z.2)
def O.dF : List (Str × O) → List (Str × D)
  | [] => []
  | (n, o) :: r => (n, o.d) :: O.dF r
end
abbrev Lab := Addr → Option (List Nat)
section
variable (K : PySem.W.Frag) (mg : Str → Option Value) (F H : Hp) (lab : Lab)
mutual
inductive RepO : List Nat → V → O → Prop where
  | v {p : List Nat} {x : V} {d : D} : Rep K mg F x d → RepO p x (.v d)
  | l {p : List Nat} {a : Addr} {xs : List V} {ds : List D} : lab a = some p → H a = some (.lst xs) → RepL K mg F xs ds → RepO p (.ref a) (.l ds)
  | kK {p : List Nat} {a : Addr} {kvs : List (Key × V)} {ds : List (D × D)} : lab a = some p → H a = some (.dK kvs) → RepK K mg F kvs ds → RepO p (.ref a) (.k false ds)
  | kT {p : List Nat} {a : Addr} {kvs : List (List Key × V)} {ds : List (D × D)} : lab a = some p → H a = some (.dT kvs) → RepT K mg F kvs ds → RepO p (.ref a) (.k true ds)
  | i {p : List Nat} {a C dx : Addr} {c : Str} {gs : List (Str × V)} {fs : List (Str × O)} : lab a = some p → H a = some (.ins C dx gs) → mg c = some (.ref C) → RepOF p 0 gs fs → RepO p (.ref a) (.i c fs)
  | m {p : List Nat} {a : Addr} {gs : List (Str × V)} {fs : List (Str × O)} : lab a = some p → H a = some (.lst (gs.map fun z => z.2)) → RepOF p 0 gs fs → RepO p (.ref a) (.m fs)
inductive RepOF : List Nat → Nat → List (Str × V) → List (Str × O) → Prop where
  | nil {p : List Nat} {j : Nat} : RepOF p j [] []
  | cons {p : List Nat} {j : Nat} {n : Str} {x : V} {o : O} {xs : List (Str × V)} {os : List (Str × O)} : RepO (p ++ [j]) x o → RepOF p (j + 1) xs os → RepOF p j ((n, x) :: xs) ((n, o) :: os)
end
end
section
variable {K : PySem.W.Frag} {mg : Str → Option Value} {F F' H H' : Hp} {lab lab' : Lab}
mutual
theorem RepO.stay (l : Le F F') : ∀ {p q : List Nat} {v : V} {o : O}, (∀ a r, lab a = some (p ++ r) → H' a = H a ∧ lab' a = some (q ++ r)) → RepO K mg F H lab p v o → RepO K mg F' H' lab' q v o
  | p, q, _, _, hk, .v r => .v (r.mono l)
  | p, q, _, _, hk, .l (a := a) h1 h2 r => by
    have z := hk a [] (by rw [List.append_nil]; exact h1)
    rw [List.append_nil] at z
    exact .l z.2 (z.1.trans h2) (r.mono l)
  | p, q, _, _, hk, .kK (a := a) h1 h2 r => by
    have z := hk a [] (by rw [List.append_nil]; exact h1)
    rw [List.append_nil] at z
    exact .kK z.2 (z.1.trans h2) (r.mono l)
  | p, q, _, _, hk, .kT (a := a) h1 h2 r => by
    have z := hk a [] (by rw [List.append_nil]; exact h1)
    rw [List.append_nil] at z
    exact .kT z.2 (z.1.trans h2) (r.mono l)
  | p, q, _, _, hk, .i (a := a) h1 h2 h3 r => by
    have z := hk a [] (by rw [List.append_nil]; exact h1)
    rw [List.append_nil] at z
    exact .i z.2 (z.1.trans h2) h3 (RepOF.stay l (fun j a r e => hk a (j :: r) e) r)
  | p, q, _, _, hk, .m (a := a) h1 h2 r => by
    have z := hk a [] (by rw [List.append_nil]; exact h1)
    rw [List.append_nil] at z
    exact .m z.2 (z.1.trans h2) (RepOF.stay l (fun j a r e => hk a (j :: r) e) r)
theorem RepOF.stay (l : Le F F') : ∀ {p q : List Nat} {j : Nat} {v : List (Str × V)} {o : List (Str × O)}, (∀ i a r, lab a = some (p ++ i :: r) → H' a = H a ∧ lab' a = some (q ++ i :: r)) → RepOF K mg F H lab p j v o → RepOF K mg F' H' lab' q j v o
  | p, q, j, _, _, hk, .nil => .nil
  | p, q, j, _, _, hk, .cons h r => .cons (RepO.stay l (fun a r e => by
      rw [List.append_assoc] at e ⊢
      exact hk j a r e) h) (RepOF.stay l hk r)
end
mutual
theorem RepO.frz (l : Le F F') : ∀ {p : List Nat} {v : V} {o : O}, (∀ a r, lab a = some (p ++ r) → F' a = H a) → RepO K mg F H lab p v o → Rep K mg F' v o.d
  | p, _, _, hk, .v r => r.mono l
  | p, _, _, hk, .l (a := a) h1 h2 r => .lst (SqL.of ((hk a [] (by rw [List.append_nil]; exact h1)).trans h2)) (r.mono l)
  | p, _, _, hk, .kK (a := a) h1 h2 r => .dK ((hk a [] (by rw [List.append_nil]; exact h1)).trans h2) (r.mono l)
  | p, _, _, hk, .kT (a := a) h1 h2 r => .dT ((hk a [] (by rw [List.append_nil]; exact h1)).trans h2) (r.mono l)
  | p, _, _, hk, .i (a := a) h1 h2 h3 r => .ins ((hk a [] (by rw [List.append_nil]; exact h1)).trans h2) h3 (RepOF.frz l (fun j a r e => hk a (j :: r) e) r)
  | p, _, _, hk, .m (a := a) h1 h2 r => .lst (SqL.of ((hk a [] (by rw [List.append_nil]; exact h1)).trans h2)) (RepF.vals (RepOF.frz l (fun j a r e => hk a (j :: r) e) r))
theorem RepOF.frz (l : Le F F') : ∀ {p : List Nat} {j : Nat} {v : List (Str × V)} {o : List (Str × O)}, (∀ i a r, lab a = some (p ++ i :: r) → F' a = H a) → RepOF K mg F H lab p j v o → RepF K mg F' v (O.dF o)
  | p, j, _, _, hk, .nil => .nil
  | p, j, _, _, hk, .cons h r => .cons (RepO.frz l (fun a r e => hk j a r (by rw [List.append_assoc] at e; exact e)) h) (RepOF.frz l hk r)
end
end
end LW

namespace LW
open PySem PySem.Spec PyProof.Rows L2
abbrev Env := List (Option O)
inductive P where
  | v (d : D) | f (o : O) | s (d : D)
def P.d : P → D
  | .v d => d
  | .f o => o.d
  | .s d => d
structure EX where
  c : Str
  fs : List (Str × D)
inductive Out (α : Type) where
  | ok (a : α) (ρ : Env) | exc (x : EX) (ρ : Env) | no
def Out.bind {α β : Type} (m : Out α) (k : α → Env → Out β) : Out β :=
  match m with
  | .ok a ρ => k a ρ
  | .exc x ρ => .exc x ρ
  | .no => .no
@[simp] theorem Out.bind_ok {α β : Type} (a : α) (ρ : Env) (k : α → Env → Out β) : (Out.ok a ρ).bind k = k a ρ := rfl
@[simp] theorem Out.bind_exc {α β : Type} (x : EX) (ρ : Env) (k : α → Env → Out β) : (Out.exc x ρ).bind k = .exc x ρ := rfl
@[simp] theorem Out.bind_no {α β : Type} (k : α → Env → Out β) : (Out.no : Out α).bind k = .no := rfl
def Th (H : Hp) (a : Addr) : Prop := H a ≠ none ∧ ∀ ps, H a ≠ some (.tbl ps)
theorem Th.eq {H H1 : Hp} {a : Addr} (t : Th H a) (e : H1 a = H a) : Th H1 a := by unfold Th; rw [e]; exact t
theorem th_of {H : Hp} {a : Addr} {o : HO} (h : H a = some o) (hn : ∀ ps, o ≠ .tbl ps := by intro _ z; cases z) : Th H a :=
  ⟨by rw [h]; exact (fun z => nomatch z), fun ps z => hn ps (Option.some.inj (h.symm.trans z))⟩
section
variable (K : PySem.W.Frag) (mg : Str → Option Value)
inductive RepS (F H : Hp) : V → D → Prop where
  | v {x : V} {d : D} : Rep K mg F x d → RepS F H x d
  | l {a : Addr} {xs : List V} {ds : List D} : H a = some (.lst xs) → RepL K mg F xs ds → RepS F H (.ref a) (.lst ds)
  | kK {a : Addr} {kvs : List (Key × V)} {ds : List (D × D)} : H a = some (.dK kvs) → RepK K mg F kvs ds → RepS F H (.ref a) (.dct false ds)
  | kT {a : Addr} {kvs : List (List Key × V)} {ds : List (D × D)} : H a = some (.dT kvs) → RepT K mg F kvs ds → RepS F H (.ref a) (.dct true ds)
def RepP (N : Addr → Prop) (F H : Hp) (lab : Lab) (v : V) : P → Prop
  | .v d => Rep K mg F v d
  | .s d => RepS K mg F H v d
  | .f o => ∃ l2 : Lab, RepO K mg F H l2 [] v o ∧ ∀ a p, l2 a = some p → N a ∧ lab a = none ∧ F a = none ∧ Th H a
def RepX (F : Hp) (cls : Value) (d : Option Addr) (x : EX) : Prop :=
  ∃ C, cls = .ref C ∧ mg x.c = some (.ref C) ∧ (x.fs ≠ [] → ∃ dd gs, d = some dd ∧ F dd = some (.xd gs) ∧ RepF K mg F gs x.fs)
end
structure Bas (F H : Hp) (lab : Lab) : Prop where
  le : Le F H
  lf : ∀ a p, lab a = some p → F a = none ∧ Th H a
  nt : ∀ a ps, H a = some (.tbl ps) → F a = none
structure SR (K : PySem.W.Frag) (mg : Str → Option Value) (F H : Hp) (lab : Lab) (σ : L2.St) (ρ : Env) : Prop where
  bas : Bas F H lab
  tb : TabsOk K mg H
  env : ∀ (i : Nat) (o : O), ρ[i]? = some (some o) → ∃ v, σ[i]? = some (some v) ∧ RepO K mg F H lab [i] v o
  len : ρ.length = σ.length
structure BasT (K : PySem.W.Frag) (mg : Str → Option Value) (F H : Hp) (lab : Lab) : Prop extends Bas F H lab where
  tb : TabsOk K mg H
instance {K : PySem.W.Frag} {mg : Str → Option Value} {F H : Hp} {lab : Lab} : CoeOut (BasT K mg F H lab) (Bas F H lab) := ⟨BasT.toBas⟩
theorem SR.bast {K : PySem.W.Frag} {mg : Str → Option Value} {F H : Hp} {lab : Lab} {σ : L2.St} {ρ : Env} (s : SR K mg F H lab σ ρ) : BasT K mg F H lab := ⟨s.bas, s.tb⟩
structure Move (q : Bool) (F H : Hp) (lab : Lab) (F' H' : Hp) (lab' : Lab) : Prop where
  ff : Le F F'
  th : ∀ a, H a ≠ none → H' a ≠ none
  fr : ∀ a, Th H a → (q = true ∨ lab a = none) → H' a = H a ∧ lab' a = lab a ∧ (F a = none → F' a = none)
section
variable {q : Bool} {F H F1 H1 F2 H2 : Hp} {lab lab1 lab2 : Lab}
theorem Move.refl : Move q F H lab F H lab := ⟨Le.refl _, fun _ h => h, fun _ _ _ => ⟨rfl, rfl, fun h => h⟩⟩
theorem Move.trans (a : Move q F H lab F1 H1 lab1) (b : Move q F1 H1 lab1 F2 H2 lab2) : Move q F H lab F2 H2 lab2 :=
  ⟨a.ff.trans b.ff, fun c h => b.th c (a.th c h), fun c h hq => by
    obtain ⟨e1, e2, e3⟩ := a.fr c h hq
    obtain ⟨g1, g2, g3⟩ := b.fr c (h.eq e1) (hq.imp id fun z => e2.trans z)
    exact ⟨g1.trans e1, g2.trans e2, fun z => g3 (e3 z)⟩⟩
theorem Move.weak (q' : Bool) (h : q' = true → q = true) (a : Move q F H lab F1 H1 lab1) : Move q' F H lab F1 H1 lab1 :=
  ⟨a.ff, a.th, fun c hc hq => a.fr c hc (hq.imp h id)⟩
theorem Move.to_false (a : Move q F H lab F1 H1 lab1) : Move false F H lab F1 H1 lab1 := a.weak false fun z => nomatch z
def New (q : Bool) (H : Hp) (lab : Lab) (a : Addr) : Prop := Th H a → (q = true ∨ lab a = none) → False
theorem New.of_none {a : Addr} (h : H a = none) : New q H lab a := fun z _ => z.1 h
theorem New.since {q1 : Bool} {a : Addr} (n : New q1 H1 lab1 a) (m : Move q F H lab F1 H1 lab1) (h : q = true → q1 = true) : New q H lab a := fun h1 h2 => by
  obtain ⟨e1, e2, _⟩ := m.fr a h1 h2
  exact n (h1.eq e1) (h2.imp h fun z => e2.trans z)
theorem New.weak {q1 : Bool} {a : Addr} (n : New q H lab a) (h : q1 = true → q = true) : New q1 H lab a := fun h1 h2 => n h1 (h2.imp h id)
end
theorem nt_put {F H : Hp} {a : Addr} {o : HO} (h : ∀ b ps, H b = some (.tbl ps) → F b = none) (hn : ∀ ps, o ≠ .tbl ps := by intro _ z; cases z) : ∀ b ps, upd H a o b = some (.tbl ps) → F b = none := fun b ps z => by
  by_cases e : b = a
  · subst e; rw [upd_same] at z; exact absurd (Option.some.inj z) (hn ps)
  · rw [upd_ne e] at z; exact h b ps z
structure Grow (K : PySem.W.Frag) (mg : Str → Option Value) (F H F' H' : Hp) : Prop where
  ff : Le F F'
  hh : ∀ a o, H a = some o → (∀ ps, o ≠ .tbl ps) → H' a = some o
  fn : ∀ a, Th H a → F a = none → F' a = none
  le : Le F' H'
  th : ∀ a, H a ≠ none → H' a ≠ none
  nt : (∀ a ps, H a = some (.tbl ps) → F a = none) → ∀ a ps, H' a = some (.tbl ps) → F' a = none
  tb : TabsOk K mg H → TabsOk K mg H'
section
variable {q : Bool} {F H F1 H1 F2 H2 : Hp} {lab lab1 lab2 : Lab} {K : PySem.W.Frag} {mg : Str → Option Value} {σ : L2.St} {ρ ρ1 : Env}
theorem ne_none {H : Hp} {a : Addr} {o : HO} (h : H a = some o) : H a ≠ none := by rw [h]; exact fun z => nomatch z
theorem Grow.eqH (g : Grow K mg F H F1 H1) {a : Addr} (h : Th H a) : H1 a = H a := by
  cases e : H a with
  | none => exact absurd e h.1
  | some o => exact g.hh a o e fun ps z => h.2 ps (e.trans (congrArg some z))
theorem Grow.refl (l : Le F H) : Grow K mg F H F H := ⟨Le.refl _, fun _ _ h _ => h, fun _ _ h => h, l, fun _ h => h, fun h => h, fun h => h⟩
theorem Grow.move (g : Grow K mg F H F1 H1) : Move q F H lab F1 H1 lab := ⟨g.ff, g.th, fun a h _ => ⟨g.eqH h, rfl, g.fn a h⟩⟩
theorem Grow.bas (b : Bas F H lab) (g : Grow K mg F H F1 H1) : Bas F1 H1 lab :=
  ⟨g.le, fun a p h => by
    obtain ⟨h1, h2⟩ := b.lf a p h
    exact ⟨g.fn a h2 h1, h2.eq (g.eqH h2)⟩, g.nt b.nt⟩
theorem Grow.sr (s : SR K mg F H lab σ ρ) (g : Grow K mg F H F1 H1) : SR K mg F1 H1 lab σ ρ :=
  ⟨g.bas s.bas, g.tb s.tb, fun i o h => by
    obtain ⟨v, h1, h2⟩ := s.env i o h
    exact ⟨v, h1, h2.stay g.ff fun a r e => ⟨g.eqH (s.bas.lf a _ e).2, e⟩⟩, s.len⟩
theorem Grow.trans (a : Grow K mg F H F1 H1) (b : Grow K mg F1 H1 F2 H2) : Grow K mg F H F2 H2 :=
  ⟨a.ff.trans b.ff, fun c o h n => b.hh c o (a.hh c o h n) n, fun c h z => b.fn c (h.eq (a.eqH h)) (a.fn c h z), b.le, fun c h => b.th c (a.th c h), fun h => b.nt (a.nt h), fun h => b.tb (a.tb h)⟩
theorem Grow.new (l : Le F H) {p : Addr} {o : HO} (hp : H p = none) (hn : ∀ ps, o ≠ .tbl ps := by intro _ z; cases z) : Grow K mg F H (upd F p o) (upd H p o) := by
  have fp : F p = none := by
    cases e : F p with
    | none => rfl
    | some u => rw [l p u e] at hp; cases hp
  refine ⟨fun a u h => ?_, fun a u h _ => ?_, fun a h z => ?_, fun a u h => ?_, fun a h => ?_, fun h a ps z => ?_, fun t => t.put (plain_none hp)⟩
  · rw [upd_ne (ne_of_none h fp)]; exact h
  · rw [upd_ne (ne_of_none h hp)]; exact h
  · by_cases e : a = p
    · subst e; exact absurd hp h.1
    · rw [upd_ne e]; exact z
  · by_cases e : a = p
    · subst e; rw [upd_same] at h ⊢; exact h
    · rw [upd_ne e] at h ⊢; exact l a u h
  · by_cases e : a = p
    · subst e; exact absurd hp h
    · rw [upd_ne e]; exact h
  · by_cases e : a = p
    · subst e; rw [upd_same] at z; exact absurd (Option.some.inj z) (hn ps)
    · rw [upd_ne e] at z ⊢; exact h a ps z
theorem Grow.own (l : Le F H) {p : Addr} {o : HO} (hp : H p = none) (hn : ∀ ps, o ≠ .tbl ps := by intro _ z; cases z) : Grow K mg F H F (upd H p o) :=
  ⟨Le.refl _, fun a u h _ => by rw [upd_ne (ne_of_none h hp)]; exact h, fun _ _ z => z, fun a u h => by rw [upd_ne (ne_of_none (l a u h) hp)]; exact l a u h, fun a h => by
    by_cases e : a = p
    · subst e; exact absurd hp h
    · rw [upd_ne e]; exact h, fun h => nt_put h hn, fun t => t.put (plain_none hp)⟩
theorem RepS.mono {v : V} {d : D} (l : Le F F1) (k : ∀ a, Th H a → H1 a = H a) (r : RepS K mg F H v d) : RepS K mg F1 H1 v d := by
  cases r with
  | v r => exact .v (r.mono l)
  | l h r => exact .l ((k _ (th_of h)).trans h) (r.mono l)
  | kK h r => exact .kK ((k _ (th_of h)).trans h) (r.mono l)
  | kT h r => exact .kT ((k _ (th_of h)).trans h) (r.mono l)
def P.sure (q : Bool) : P → Bool
  | .s _ => q
  | _ => true
theorem RepP.step {N : Addr → Prop} {v : V} {p : P} (r : RepP K mg N F H lab v p) (m : Move q F H lab F1 H1 lab1) (hs : p.sure q = true) : RepP K mg N F1 H1 lab1 v p := by
  cases p with
  | v d => exact Rep.mono m.ff r
  | s d =>
    have e : q = true := hs
    exact RepS.mono m.ff (fun a h => (m.fr a h (.inl e)).1) r
  | f o =>
    obtain ⟨l2, r, h⟩ := r
    refine ⟨l2, r.stay m.ff fun a p e => ?_, fun a p e => ?_⟩
    · obtain ⟨_, h2, _, h4⟩ := h a _ e
      exact ⟨(m.fr a h4 (.inr h2)).1, e⟩
    · obtain ⟨h1, h2, h3, h4⟩ := h a _ e
      obtain ⟨g1, g2, g3⟩ := m.fr a h4 (.inr h2)
      exact ⟨h1, g2.trans h2, g3 h3, h4.eq g1⟩
theorem RepP.since {N N' : Addr → Prop} {v : V} {p : P} (r : RepP K mg N' F H lab v p) (h : ∀ a, N' a → N a) : RepP K mg N F H lab v p := by
  cases p with
  | v d => exact r
  | s d => exact r
  | f o =>
    obtain ⟨l2, r, k⟩ := r
    exact ⟨l2, r, fun a p e => ⟨h a (k a p e).1, (k a p e).2⟩⟩
def P.rd : P → Option D
  | .v d => some d
  | .s d => some d
  | .f (.v d) => some d
  | .f (.l ds) => some (.lst ds)
  | .f (.k t kvs) => some (.dct t kvs)
  | .f (.i _ _) => none
  | .f (.m _) => none
theorem RepP.rd {N : Addr → Prop} {v : V} {p : P} {d : D} (r : RepP K mg N F H lab v p) (e : p.rd = some d) : RepS K mg F H v d := by
  cases p with
  | v d' => cases e; exact .v r
  | s d' => cases e; exact r
  | f o =>
    obtain ⟨l2, r, _⟩ := r
    cases r with
    | v r => cases e; exact .v r
    | l _ h r => cases e; exact .l h r
    | kK _ h r => cases e; exact .kK h r
    | kT _ h r => cases e; exact .kT h r
    | i _ _ _ _ => cases e
    | m _ _ _ => cases e
theorem RepP.frz {N : Addr → Prop} {v : V} {o : O} (b : Bas F H lab) (r : RepP K mg N F H lab v (.f o)) :
    ∃ F', Le F F' ∧ Bas F' H lab ∧ (∀ a, ¬ N a → F a = none → F' a = none) ∧ Rep K mg F' v o.d := by
  obtain ⟨l2, r, k⟩ := r
  have hl : Le F (fun a => if (l2 a).isSome then H a else F a) := fun a u h => by
    show (if (l2 a).isSome then H a else F a) = some u
    cases e : l2 a with
    | none => exact h
    | some p => exact absurd (k a p e).2.2.1 (ne_none h)
  refine ⟨fun a => if (l2 a).isSome then H a else F a, hl, ⟨fun a u h => ?_, fun a p h => ⟨?_, (b.lf a p h).2⟩, fun a ps h => ?_⟩, fun a h0 h => ?_, r.frz hl fun a p e => ?_⟩
  · have h' : (if (l2 a).isSome then H a else F a) = some u := h
    split at h'
    · exact h'
    · exact b.le a u h'
  · show (if (l2 a).isSome then H a else F a) = none
    cases e : l2 a with
    | none => exact (b.lf a p h).1
    | some p' => rw [(k a p' e).2.1] at h; cases h
  · show (if (l2 a).isSome then H a else F a) = none
    cases e : l2 a with
    | none => exact b.nt a ps h
    | some p' => exact absurd h ((k a p' e).2.2.2.2 ps)
  · show (if (l2 a).isSome then H a else F a) = none
    cases e : l2 a with
    | none => exact h
    | some p => exact absurd (k a p e).1 h0
  · show (if (l2 a).isSome then H a else F a) = H a
    have e' : l2 a = some p := e
    rw [e']; rfl
theorem SR.frzF {F' : Hp} (s : SR K mg F H lab σ ρ) (l : Le F F') (b : Bas F' H lab) : SR K mg F' H lab σ ρ :=
  ⟨b, s.tb, fun i o h => by
    obtain ⟨v, h1, h2⟩ := s.env i o h
    exact ⟨v, h1, h2.stay l fun a r e => ⟨rfl, e⟩⟩, s.len⟩
end
section
variable (K : PySem.W.Frag) (mg : Str → Option Value)
def Meets {α β : Type} (W : WX) (q : Bool) (F H : Hp) (lab : Lab) (σ : L2.St) (rep : Hp → Hp → Lab → β → α → Prop) (m : Out α) (Q : β → Hp → Prop) : Prop :=
  match m with
  | .ok a ρ' => ∀ b F' H' lab', Move q F H lab F' H' lab' → SR K mg F' H' lab' σ ρ' → rep F' H' lab' b a → Q b H'
  | .exc x ρ' => ∀ cls d F' H' lab', Move false F H lab F' H' lab' → SR K mg F' H' lab' σ ρ' → RepX K mg F' cls d x → W cls d σ H'
  | .no => False
def tD (W : WX) (q : Bool) (f : Env → Out P) : TE := fun σ H Q => ∃ ρ F lab, SR K mg F H lab σ ρ ∧ Meets K mg W q F H lab σ (RepP K mg (New q H lab)) (f ρ) Q
def tDT (W : WX) (q : Bool) (f : Env → Out Bool) : TT := fun σ H Q => ∃ ρ F lab, SR K mg F H lab σ ρ ∧ Meets K mg W q F H lab σ (fun _ _ _ b a => b = a) (f ρ) Q
def tDA (W : WX) (q : Bool) (f : Env → Out (List D)) : TA := fun σ H Q => ∃ ρ F lab, SR K mg F H lab σ ρ ∧ Meets K mg W q F H lab σ (fun F' _ _ b a => RepL K mg F' b a) (f ρ) Q
end
def DE (X : Cx) (W : WX) (q : Bool) (e : Expr) (f : Env → Out P) : Prop := PE X e (tD X.K X.mg W q f)
def DT (X : Cx) (W : WX) (q : Bool) (e : Expr) (f : Env → Out Bool) : Prop := PT X e (tDT X.K X.mg W q f)
def DA (X : Cx) (W : WX) (q : Bool) (es : List Expr) (f : Env → Out (List D)) : Prop := PA X es (tDA X.K X.mg W q f)
theorem PE_weak {X : Cx} {e : Expr} {t t' : TE} (h : PE X e t) (k : ∀ σ H Q, t' σ H Q → t σ H Q) : PE X e t' := ⟨fun pins s σ H Q I w => h.run pins s σ H Q I (k σ H Q w)⟩
theorem PT_weak {X : Cx} {e : Expr} {t t' : TT} (h : PT X e t) (k : ∀ σ H Q, t' σ H Q → t σ H Q) : PT X e t' := ⟨fun pins s σ H Q I w => h.run pins s σ H Q I (k σ H Q w)⟩
theorem PA_weak {X : Cx} {e : List Expr} {t t' : TA} (h : PA X e t) (k : ∀ σ H Q, t' σ H Q → t σ H Q) : PA X e t' := ⟨fun pos pins s σ H Q I w => h.run pos pins s σ H Q I (k σ H Q w)⟩
theorem PS_weak {X : Cx} {e : Stmt} {t t' : TS} (h : PS X e t) (k : ∀ D σ H, t' D σ H → t D σ H) : PS X e t' := ⟨fun pins s σ H D I w => h.run pins s σ H D I (k D σ H w)⟩
section
variable {K : PySem.W.Frag} {mg : Str → Option Value} {W : WX} {q q1 : Bool} {F H F1 H1 : Hp} {lab lab1 : Lab} {σ : L2.St} {ρ ρ1 : Env}
variable {α β γ δ : Type} {rep : Hp → Hp → Lab → β → α → Prop} {m : Out α} {Q : β → Hp → Prop}
theorem Meets.imp {Q' : β → Hp → Prop} (h : Meets K mg W q F H lab σ rep m Q) (k : ∀ b H', Q b H' → Q' b H') : Meets K mg W q F H lab σ rep m Q' := by
  cases m with
  | ok a ρ' => exact fun b F' H' lab' mv sr r => k _ _ (h b F' H' lab' mv sr r)
  | exc x ρ' => exact h
  | no => exact h
theorem Meets.weak (hq : q = true → q1 = true) (h : Meets K mg W q F H lab σ rep m Q) : Meets K mg W q1 F H lab σ rep m Q := by
  cases m with
  | ok a ρ' => exact fun b F' H' lab' mv sr r => h b F' H' lab' (mv.weak q hq) sr r
  | exc x ρ' => exact h
  | no => exact h
theorem Meets.seq {rep2 : (Addr → Prop) → Hp → Hp → Lab → δ → γ → Prop} {k : α → Env → Out γ} {Q2 : δ → Hp → Prop} {Q1 : β → Hp → Prop} {qa : Bool}
    (hqa : q = true → qa = true) (since : ∀ N N' F' H' lab' d c, (∀ a, N a → N' a) → rep2 N F' H' lab' d c → rep2 N' F' H' lab' d c)
    (h : Meets K mg W q F H lab σ (rep2 (New q H lab)) (m.bind k) Q2)
    (step : ∀ b a ρ1 F1 H1 lab1, Move qa F H lab F1 H1 lab1 → SR K mg F1 H1 lab1 σ ρ1 → rep F1 H1 lab1 b a → Meets K mg W q F1 H1 lab1 σ (rep2 (New q H1 lab1)) (k a ρ1) Q2 → Q1 b H1) :
    Meets K mg W qa F H lab σ rep m Q1 := by
  cases m with
  | no => exact h
  | exc x ρ' => exact h
  | ok a ρ1 =>
    intro b F1 H1 lab1 mv sr r
    refine step b a ρ1 F1 H1 lab1 mv sr r ?_
    have h' : Meets K mg W q F H lab σ (rep2 (New q H lab)) (k a ρ1) Q2 := h
    cases e : k a ρ1 with
    | no => rw [e] at h'; exact h'
    | exc x ρ2 =>
      rw [e] at h'
      exact fun cls d F2 H2 lab2 mv2 sr2 rx => h' cls d F2 H2 lab2 (mv.to_false.trans mv2) sr2 rx
    | ok c ρ2 =>
      rw [e] at h'
      exact fun b2 F2 H2 lab2 mv2 sr2 rc => h' b2 F2 H2 lab2 ((mv.weak q hqa).trans mv2) sr2 (since _ _ F2 H2 lab2 b2 c (fun a n => n.since (mv.weak q hqa) id) rc)
theorem sinceP (N N' : Addr → Prop) (F' H' : Hp) (lab' : Lab) (d : V) (c : P) (h : ∀ a, N a → N' a) (r : RepP K mg N F' H' lab' d c) : RepP K mg N' F' H' lab' d c := r.since h
theorem Meets.grow {p : P} {v : V} {Q : VK} (h : Meets K mg W q F H lab σ (RepP K mg (New q H lab)) (.ok p ρ) Q) (sr : SR K mg F H lab σ ρ) (g : Grow K mg F H F1 H1) (r : RepP K mg (fun a => H a = none) F1 H1 lab v p) : Q v H1 :=
  h v F1 H1 lab g.move (g.sr sr) (r.since fun a z => .of_none z)
end
end LW

namespace LW
open PySem PySem.Spec PyProof.Rows L2
structure RoomG (k : Nat) (A : Around) : Prop where
  r : L2.Room k A
  g : A.guards = some []
section
variable {j k : Nat} {A : Around}
theorem RoomG.mono (x : RoomG k A) (h : j ≤ k) : RoomG j A := ⟨x.r.mono h, x.g⟩
theorem RoomG.deeper (x : RoomG (k + 1) A) (env : PySem.Env) : RoomG k (A.deeper env) := ⟨x.r.deeper env, x.g⟩
theorem make_guards {C : Addr} {us : List Value} {kw : List (Str × Value)} : (A.under (.builtin "type.__call__" ⟨.ref C :: us, kw⟩)).guards = A.guards := by
  first | rfl | simp [Around.under, Code.guards, Code.isGuard, guardIds, pushGuards]
theorem RoomG.make (x : RoomG (k + 1) A) (C : Addr) (us : List Value) (kw : List (Str × Value)) : RoomG k (A.under (.builtin "type.__call__" ⟨.ref C :: us, kw⟩)) := ⟨x.r.make C us kw, make_guards.trans x.g⟩
theorem RoomG.units (x : RoomG k A) : A.units + 64 < cLine := x.r.units
end
structure FnG (P : Program) (w : World) (K : PySem.W.Frag) (mg : Str → Option Value) (base : Heap) (k : Nat) (f : Addr) (fd : FuncData) (ps : List Str) (sp : Sp) : Prop where
  len : ∀ vs H Q E, sp vs H Q E → vs.length = ps.length
  run : ∀ (A : Around) (outer : List PySem.Env) (s : Shared) (H : Hp) (args : Args) (us : List Value) (vs : List V) (Q : VK) (E : XK), RoomG k A → Env0 P w K mg base A outer s H → BindsTo s fd args (ps.zip us) → Vals vs us → sp vs H Q E →
    codeAny (model P w) A (.call (.ref f) args) (CR (L2.CX P w) outer P w H s Q E) s
section
variable {X : Cx} {W : WX} {k : Nat} {f : Addr} {fd : FuncData} {ps : List Str} {sp : Sp} {x : Str} {p pos : Pos} {e : Expr} {es : List Expr} {t : TA}
theorem land {pins : List (Addr × Obj)} {σ : L2.St} {H : Hp} {s : Shared} {Q : VK} (tk : Takes X W) (I : L2.Inv X pins σ H s) {r : Result} {s' : Shared} (h : CR (L2.CX X.prog X.w) X.stack X.prog X.w H s Q (WE W σ) r s') :
    match r with
    | .ok (.ret u) => EP X pins σ Q u s'
    | .ok _ => False
    | .error u => X.xe u s' := by
  rcases r with e | (_ | _ | _ | u)
  · exact passAt tk σ pins H s e s' I h
  all_goals first | exact h | exact I.after h
theorem run_G {pins : List (Addr × Obj)} {σ : L2.St} {H : Hp} {s : Shared} {Q : VK} {us : List Value} {vs : List V} (F : FnG X.prog X.w X.K X.mg X.base k f fd ps sp) (hr : RoomG k X.A) (hb : Binds X.K fd ps []) (tk : Takes X W)
    (I : L2.Inv X pins σ H s) (r : Vals vs us) (h : sp vs H Q (WE W σ)) : wpAny (model X.prog X.w) X.A (call (.ref f) us) (EP X pins σ Q) X.xe s := by
  have hl : (us ++ []).length = ps.length := by rw [List.append_nil, ← r.length]; exact F.len _ _ _ _ h
  have b : BindsTo s fd ⟨us, []⟩ (ps.zip us) := by simpa using hb s us I.kIn hl
  refine wpAny_call (codeAny_mono (F.run X.A X.stack s H _ us vs Q (WE W σ) hr I.env0 b r h) fun r s' hq => ?_)
  have z := land tk I hq
  rcases r with e | (_ | _ | _ | u)
  · exact z
  all_goals exact z
theorem pe_G (F : FnG X.prog X.w X.K X.mg X.base k f fd ps sp) (hr : RoomG k X.A) (hg : Gl X x) (hm : X.mg x = some (.ref f)) (hk : PySem.W.keepIn X.K (.ref f) = true) (hb : Binds X.K fd ps []) (tk : Takes X W)
    (ha : PA X (e :: es) t) (hdb : (x == ("__debug__" : Str)) = false := by decide) (he : starEach (e :: es) X.env = (false, eval e X.env) :: starEach es X.env := by rfl) (hpl : (backTo pos (starEach es X.env)).any (·.1) = false := by rfl) :
    PE X (.Call (.Name x p) (e :: es) [] pos) (tCallS sp (WE W) t) :=
  ⟨fun pins s σ H Q I h => wpAny_Call_Name_kw (ld_glob I hg hm (PySem.W.callWith_K (h₀ := X.base) I.ok.mod.kin hk (thn (ha.run pos pins s σ H _ I h) fun us s1 ⟨vs, H1, I1, r, q⟩ => ⟨I1.kIn, run_G F hr hb tk I1 r q⟩) he hpl) hdb)⟩
end
end LW

namespace LW
open PySem PySem.Spec PyProof.Rows L2
section
variable {P : Program} {w : World} {K : PySem.W.Frag} {mg : Str → Option Value} {base : Heap} {k : Nat} {f : Addr} {fd : FuncData} {N ps : List Str} {sp : Sp} {x qual : Str} {st : Stmt}
theorem off {scope : Scope} {cdv : Value} {A : Around} {outer : List PySem.Env} {s s' : Shared} {H : Hp} {Q : VK} {E : XK} {fl : PySem.Flow}
    (h : SP (cxOf (L2.CX P w) P w K mg base N qual scope f cdv A outer s H E) [] { nx := fun _ H' => Q .non H', rt := Q } fl s') :
    match fl with
    | .ret u => CE outer P w H s Q u s'
    | .next => CE outer P w H s Q .none s'
    | _ => False := by
  rcases fl with _ | _ | _ | u
  · obtain ⟨σ1, H1, J, q⟩ := h
    exact ⟨.non, H1, J.os, J.bare, J.base, J.hok, rfl, q⟩
  · exact h.elim fun _ ⟨_, _, z⟩ => z
  · exact h.elim fun _ ⟨_, _, z⟩ => z
  · obtain ⟨v, σ1, H1, J, r, q⟩ := h
    exact ⟨v, H1, J.os, J.bare, J.base, J.hok, r, q⟩
theorem par_kinds {scope : Scope} (S : FnScope N ps scope) (n : Nat) (us : List Value) : ∀ y ∈ ps.zip us, scope.names.lookup y.1 = some .local ∨ (scope.names.lookup y.1 = some .cell ∧ ((cellsFrom n scope.names []).lookup y.1).isSome = true) := fun y hy =>
  (S.par y.1 (List.of_mem_zip hy).1).imp id fun q => ⟨q, PySem.W.cellsFrom_some _ _ _ (.inl q)⟩
theorem fn_G (FF : Fun K x qual st f fd) (S : FnScope N ps (defScope st)) (len : ∀ vs H Q E, sp vs H Q E → vs.length = ps.length)
    (hbody : ∀ (cdv : Value) (_ : fd.code = cdv) (A : Around) (outer : List PySem.Env) (s : Shared) (H : Hp) (vs : List V) (Q : VK) (E : XK), RoomG k (A.deeper (envOfC qual (defScope st) s.heap.objs.size f cdv)) → sp vs H Q E →
      ∃ t, PSs (cxOf (L2.CX P w) P w K mg base N qual (defScope st) f cdv A outer s H E) (defBody st) t ∧ t { nx := fun _ H' => Q .non H', rt := Q } (start N vs) H) :
    FnG P w K mg base (k + 1) f fd ps sp := by
  obtain ⟨oc, od, kV, doc, pm, an, cdv, ct, osl, rfl, lk, hcd⟩ := FF.ex
  refine ⟨len, fun A outer s H args us vs Q E hr e0 hb r hsp => ?_⟩
  have old : ∀ b o, base.get? b = some o → s.heap.get? b = some o := fun b o e => (e0.bs b o e).1
  have KX : K.In s.heap := e0.mod.kin.keeps old
  refine codeAny_call_function hr.r.depth (KX _ _ lk) rfl S.co S.gen rfl (PySem.W.codeRec_of KX hcd) (hb _ _ _ _ ?_)
  refine wpAny_newFunctionEnv_cells S.kind (par_kinds S _ us) fun env he s1 hx => ?_
  subst he
  refine ⟨(e0.mod.nolimit.keeps old).keeps hx.toInCall.keep, codeAny_func ?_⟩
  obtain ⟨t, ht, hq⟩ := hbody cdv rfl A outer s H vs Q E (hr.deeper _) hsp
  refine wpAny_mono (ht.run [] s1 (start N vs) H _ (inv_start S hr.r.hd e0 (len _ _ _ _ hsp) r hx) hq) (fun fl s' hs => ?_) fun e s' hs => hs
  have z := off hs
  rcases fl with _ | _ | _ | u
  all_goals first | exact z | exact z.elim
end
end LW

namespace LW
open PySem PySem.Spec PyProof.Rows L2
section
variable {P : Program} {w : World} {K : PySem.W.Frag} {h : Heap} {a : Addr} {vs : List Value} {ns : List Int} {cs : List (Addr × Addr)}
abbrev scrO (vs : List Value) : Obj := { cls := .type "list", data := .seq vs.toArray }
abbrev tabO : Obj := { cls := .none, data := .fields #[] }
structure Empty (K : PySem.W.Frag) (h : Heap) (cs : List (Addr × Addr)) : Prop where
  at_ : ∀ b ∈ cs.map (·.2), h.get? b = some tabO
  nk : ∀ b ∈ cs.map (·.2), K.lookup b = none
  code : ∀ p ∈ cs, PySem.W.CodeHd h p.1 p.2
structure Scr (P : Program) (w : World) (K : PySem.W.Frag) (h : Heap) (a : Addr) (vs : List Value) (ns : List Int) (cs : List (Addr × Addr)) (H : Hp) : Prop where
  only : ∀ b u, H b = some u → (b = a ∧ K.lookup a = none ∧ u = .frz (scrO vs) (.lst (ns.map V.int))) ∨ (b ∈ cs.map (·.2) ∧ u = .tbl #[])
  tab : ∀ b ∈ cs.map (·.2), H b = some (.tbl #[])
  sq : SqL K H a (ns.map V.int)
  ok : HOk P w H h
theorem Empty.ne (E : Empty K h cs) (ha : h.get? a = some (scrO vs)) {b : Addr} (hb : b ∈ cs.map (·.2)) : b ≠ a := fun z => by
  have e := E.at_ b hb
  rw [z, ha] at e
  cases e
theorem scr_at (KX : K.In h) (E : Empty K h cs) (ha : h.get? a = some (scrO vs)) (hi : IntsAre vs ns) (hl : ns.length ≤ sizeLine) : ∃ H, Scr P w K h a vs ns cs H := by
  have rv := vals_ints hi
  have key : ∀ S : Option HO, (∀ u, S = some u → K.lookup a = none ∧ u = .frz (scrO vs) (.lst (ns.map V.int))) → (∀ H : Hp, H a = S → SqL K H a (ns.map V.int)) → ∃ H, Scr P w K h a vs ns cs H := fun S hS hq => by
    refine ⟨fun b => if b ∈ cs.map (·.2) then some (.tbl #[]) else if b = a then S else none, fun b u e => ?_, fun b hb => if_pos hb, hq _ ?_, fun b u e => ?_⟩
    · by_cases hb : b ∈ cs.map (·.2)
      · exact .inr ⟨hb, (Option.some.inj ((if_pos hb).symm.trans e)).symm⟩
      · have e := (if_neg hb).symm.trans e
        by_cases hba : b = a
        · have e := (if_pos hba).symm.trans e
          exact .inl ⟨hba, hS u e⟩
        · cases (if_neg hba).symm.trans e
    · have na : a ∉ cs.map (·.2) := fun z => E.ne ha z rfl
      exact (if_neg na).trans (if_pos rfl)
    · by_cases hb : b ∈ cs.map (·.2)
      · cases (if_pos hb).symm.trans e
        exact E.at_ b hb
      · have e := (if_neg hb).symm.trans e
        by_cases hba : b = a
        · obtain ⟨_, rfl⟩ := hS u ((if_pos hba).symm.trans e)
          subst hba
          exact ⟨ha, by rw [List.length_map]; exact hl, vs, _, rv, ha⟩
        · cases (if_neg hba).symm.trans e
  by_cases hk : K.lookup a = none
  · exact key (some (.frz (scrO vs) (.lst (ns.map V.int)))) (fun u e => ⟨hk, (Option.some.inj e).symm⟩) fun H e => .inl (.inr ⟨scrO vs, e⟩)
  · obtain ⟨o, hk⟩ := Option.ne_none_iff_exists'.mp hk
    cases (KX a o hk).symm.trans ha
    exact key none (fun u e => by cases e) fun H _ => .inr ⟨_, vs.toArray, _, hk, rfl, rfl, rfl, by rw [List.size_toArray, hi.length]; exact hl, by simpa using rv⟩
variable {mg mb : Str → Option Value} {H : Hp}
theorem Scr.free (S : Scr P w K h a vs ns cs H) (E : Empty K h cs) (ha : h.get? a = some (scrO vs)) {b : Addr} {o : Obj} (e : h.get? b = some o) (n : o.data ≠ (scrO vs).data) (n2 : o.data ≠ tabO.data) : H b = none := by
  cases q : H b with
  | none => rfl
  | some u =>
    rcases S.only b u q with ⟨rfl, _, _⟩ | ⟨hb, _⟩
    · cases ha.symm.trans e
      exact absurd rfl n
    · cases (E.at_ b hb).symm.trans e
      exact absurd rfl n2
theorem Scr.nsp (S : Scr P w K h a vs ns cs H) (E : Empty K h cs) (ha : h.get? a = some (scrO vs)) {b : Addr} {m : Str → Option Value} : h.Ns b m → (hidT h H).Ns b m := fun ⟨o, es, ep, e, d, r⟩ =>
  ⟨o, es, ep, hidT_get e (S.free E ha e (by rw [d]; exact fun z => nomatch z) (by rw [d]; exact fun z => nomatch z)), d, r⟩
theorem Scr.kin (S : Scr P w K h a vs ns cs H) (E : Empty K h cs) (KX : K.In h) : K.In (hidT h H) := fun b o e => hidT_get (KX b o e) (by
  cases q : H b with
  | none => rfl
  | some u =>
    rcases S.only b u q with ⟨rfl, k, _⟩ | ⟨hb, _⟩
    · cases k.symm.trans e
    · cases (E.nk b hb).symm.trans e)
theorem Scr.env0 {s : Shared} (S : Scr P w K s.heap a vs ns cs H) (E : Empty K s.heap cs) (ha : s.heap.get? a = some (scrO vs)) (KX : K.In s.heap) (hns : s.heap.Ns mainGlobals mg) (hb : s.heap.Ns builtinsNs mb) (hbb : ∀ x : Str, x ≠ "__name__" → mb x = bootBuiltins x) (hlim : s.heap.NoLimit) (hg : s.gens = #[]) :
    Env0 P w K mg (hidT s.heap H) callerA [] s H :=
  ⟨rfl, ⟨S.kin E KX, S.nsp E ha hns, ⟨mb, S.nsp E ha hb, hbb⟩, (let ⟨mc, h1, h2⟩ := hlim; ⟨mc, S.nsp E ha h1, h2⟩)⟩, fun _ _ e => of_hidT e, Nat.le_of_eq (hidT_size _ _), trivial, fun _ hm => (nomatch hm), S.ok, .of_eq hg⟩
def LinkB (mg : Str → Option Value) (h : Heap) : Prop := ∃ (bm : Addr) (ob : Obj), mg "__builtins__" = some (.ref bm) ∧ bm ≠ builtinsNs ∧ h.get? bm = some ob ∧ ob.cls = .type "module" ∧ ob.dict = some builtinsNs ∧ ob.data = .plain
theorem Scr.codes {s : Shared} (S : Scr P w K s.heap a vs ns cs H) (E : Empty K s.heap cs) (ha : s.heap.get? a = some (scrO vs)) (hns : s.heap.Ns mainGlobals mg) (L : LinkB mg s.heap) : ∀ p ∈ cs, LamX.TabB (hidT s.heap H) mg p.1 p.2 := fun p hp => by
  have hP := E.at_ p.2 (List.mem_map.mpr ⟨p, hp, rfl⟩)
  have nG : mainGlobals ≠ p.2 := fun z => by
    obtain ⟨o, es, ep, e, hd, _⟩ := hns
    rw [z, hP] at e
    cases e
    cases hd
  refine ⟨?_, ?_, nG⟩
  · obtain ⟨o, us, file, tf, flags, tg, inF, text, tt, e1, r1, r2, r3, r⟩ := E.code p hp
    refine ⟨o, us, file, tf, flags, tg, inF, text, tt, hidT_get e1 (S.free E ha e1 (by rw [r2]; exact fun z => nomatch z) (by
      rw [r2]
      intro z
      cases z
      simp at r3)), r1, r2, r3, r⟩
  · obtain ⟨bm, ob, b1, b2, b3, b4, b5, b6⟩ := L
    refine ⟨bm, ob, b1, b2, fun z => ?_, fun z => ?_, hidT_get b3 (S.free E ha b3 (by rw [b6]; exact fun z => nomatch z) (by rw [b6]; exact fun z => nomatch z)), b4, b5, b6⟩
    · obtain ⟨o, es, ep, e, hd, _⟩ := hns
      rw [← z, b3] at e
      cases e
      rw [b6] at hd
      cases hd
    · rw [z, hP] at b3
      cases b3
      cases b6
theorem Scr.old {s s' : Shared} {H' : Hp} (S : Scr P w K s.heap a vs ns cs H) (E : Empty K s.heap cs) (hok : HOk P w H' s'.heap) (un : Un [] [] H H' s.heap s'.heap) : PySem.OldK s.heap s'.heap := by
  have kept : ∀ b o, b ∉ cs.map (·.2) → s.heap.get? b = some o → s'.heap.get? b = some o := fun b o nb e => by
    cases q : H b with
    | none => exact un.keep b o e q (fun z => nomatch z) (fun z => nomatch z)
    | some u =>
      rcases S.only b u q with ⟨rfl, _, rfl⟩ | ⟨hb, _⟩
      · obtain ⟨e1, _⟩ := S.ok b _ q
        obtain ⟨e2, _⟩ := hok b _ (un.frzs b _ _ q)
        cases e1.symm.trans e
        exact e2
      · exact absurd hb nb
  have tabs : ∀ b ∈ cs.map (·.2), ∃ more : Array Value, s'.heap.get? b = some { cls := .none, data := .fields more } := fun b hb => by
    obtain ⟨more, z⟩ := un.tbls b #[] (S.tab b hb)
    exact ⟨_, hok b _ z⟩
  refine ⟨fun b o e => ?_, fun b o e => ?_⟩
  · by_cases hb : b ∈ cs.map (·.2)
    · obtain ⟨more, hm⟩ := tabs b hb
      have ht := E.at_ b hb
      cases ht.symm.trans e
      obtain ⟨p, hp, rfl⟩ := List.mem_map.mp hb
      exact .inr (.inl ⟨((E.code p hp).tab ht).isCodeTable, rfl, #[], more, rfl, by rw [Array.empty_append]; exact hm⟩)
    · exact .inl (kept b o hb e)
  · by_cases hb : b ∈ cs.map (·.2)
    · obtain ⟨more, hm⟩ := tabs b hb
      exact ⟨_, hm⟩
    · exact ⟨o, kept b o hb e⟩
variable {k : Nat} {fa : Addr} {fd : FuncData} {x : Str} {sp : Sp}
theorem call_G {s : Shared} (KX : K.In s.heap) (E : Empty K s.heap cs) (L : LinkB mg s.heap) (hns : s.heap.Ns mainGlobals mg) (hb : s.heap.Ns builtinsNs mb) (hbb : ∀ x : Str, x ≠ "__name__" → mb x = bootBuiltins x) (hlim : s.heap.NoLimit) (hg : s.gens = #[])
    (ha : s.heap.get? a = some (scrO vs)) (hi : IntsAre vs ns) (hl : ns.length ≤ sizeLine) (hr : RoomG k callerA)
    (F : ∀ base : Heap, K.In base → base.Ns mainGlobals mg → (∀ p ∈ cs, LamX.TabB base mg p.1 p.2) → FnG P w K mg base k fa fd [x] sp) (hbind : ∀ (s : Shared) (u : Value), BindsTo s fd ⟨[u], []⟩ [(x, u)])
    (hsp : ∀ H : Hp, (∀ b ∈ cs.map (·.2), H b = some (.tbl #[])) → SqL K H a (ns.map V.int) → sp [.ref a] H (fun v _ => v = .bl true) fun _ _ _ => False) :
    codeAny (model P w) callerA (.call (.ref fa) ⟨[.ref a], []⟩) (fun r s' => r = .ok (.ret (.bool true)) ∧ PySem.OldK s.heap s'.heap ∧ s'.os = s.os ∧ AllBare s'.gens) s := by
  obtain ⟨H, S⟩ := scr_at (P := P) (w := w) KX E ha hi hl
  refine codeAny_mono ((F _ (S.kin E KX) (S.nsp E ha hns) (S.codes E ha hns L)).run callerA [] s H _ [.ref a] [.ref a] _ _ hr (S.env0 E ha KX hns hb hbb hlim hg) (hbind s _) (.cons rfl .nil) (hsp H S.tab S.sq)) fun r s' h => ?_
  rcases r with e | (_ | _ | _ | u)
  · obtain ⟨_, _, _, _, _, _, _, _, _, _, _, _, z⟩ := h
    exact z.elim
  · exact h.elim
  · exact h.elim
  · exact h.elim
  · obtain ⟨v, H', os, bare, un, hok, rv, rfl⟩ := h
    cases rv
    exact ⟨rfl, S.old E hok un, os, bare⟩
end
structure TabK (q : Program) (K : PySem.W.Frag) : Prop where
  all : ∀ nm ∈ lamDefs, ∃ c P d, PySem.W.tabIn K nm = some (c, P) ∧ (recsOf q).find? (fun e => e.name == nm) = some d
  nk : ∀ b ∈ (tabs K).map (·.2), K.lookup b = none
theorem walkG {l : PySem.W.OpenLaw} {k : Nat} {q : Program} {loose : List Str} {XP : (Str → Option Value) → Heap → Prop} {YP : World → Heap → Prop} {d : DefRec} {K : Params → PySem.W.Frag} {sp : World → (Str → Option Value) → Sp} (hn : l.most = some 63) (hdf : d.params.defaults = []) (hr : RoomG k callerA)
    (hY : ∀ (w : World) (h : Heap), YP w h → (K w.params).In h) (hT : ∀ w : World, TabK q (K w.params))
    (F : ∀ (w : World) (mg : Str → Option Value) (fa : Addr) (h : Heap), (K w.params).In h → h.Ns mainGlobals mg → mg d.name = some (.ref fa) →
      ∃ fd : FuncData, (∀ (s : Shared) (u : Value), BindsTo s fd ⟨[u], []⟩ [("script", u)]) ∧ ∀ base : Heap, (K w.params).In base → base.Ns mainGlobals mg → TabsB base (K w.params) mg → FnG l.prog w (K w.params) mg base k fa fd ["script"] (sp w mg))
    (hsp : ∀ (w : World) (mg : Str → Option Value) (H : Hp) (a : Addr) (ns : List Int), ns.length ≤ 63 → (∀ z ∈ ns, Builtin.Int.intBits z ≤ 1048576) → TabsOk (K w.params) mg H → SqL (K w.params) H a (ns.map V.int) → sp w mg [.ref a] H (fun v _ => v = .bl true) fun _ _ _ => False) :
    PySem.W.WalkO q loose XP YP l.row.toRowW d [] (fun f vs => PySem.call f vs) := by
  refine Att.attach_callB hn hdf fun w s₀ s₁ mg mb fa o pm cd doc a vs ns G Y _ _ _ hmg hobj hints hlen hbits hg => ?_
  have KX := hY w _ Y
  obtain ⟨fd, hb, hF⟩ := F w mg fa _ KX G.T.g hmg
  have tb : ∀ p ∈ tabs (K w.params), PySem.W.CodeHd s₁.heap p.1 p.2 ∧ s₁.heap.get? p.2 = some tabO := fun p hp => by
    obtain ⟨nm, hm, e⟩ := List.mem_filterMap.mp hp
    obtain ⟨c, P, d, _, hf⟩ := (hT w).all nm hm
    exact PySem.W.tab_of G.T KX hf e
  have E : Empty (K w.params) s₁.heap (tabs (K w.params)) := ⟨fun b hb => by
    obtain ⟨p, hp, rfl⟩ := List.mem_map.mp hb
    exact (tb p hp).2, (hT w).nk, fun p hp => (tb p hp).1⟩
  exact call_G KX E G.T.bmain G.T.g G.T.b G.T.builtins G.T.nolimit hg hobj hints (by rw [sizeLine_eq]; omega) hr hF hb fun H ht hS => hsp w mg H a ns hlen hbits (fun P q t => .nil (ht P t.mem)) hS
end LW

namespace LW
open PySem PySem.Spec PyProof.Rows L2
section
variable {K : PySem.W.Frag} {mg : Str → Option Value} {F H : Hp} {lab : Lab} {v : V}
theorem RepS.int {i : Int} (r : RepS K mg F H v (.int i)) : v = .int i := by cases r with | v r => cases r; rfl
theorem RepS.bl {i : Bool} (r : RepS K mg F H v (.bl i)) : v = .bl i := by cases r with | v r => cases r; rfl
theorem RepS.str {i : Str} (r : RepS K mg F H v (.str i)) : v = .str i := by cases r with | v r => cases r; rfl
theorem RepS.non (r : RepS K mg F H v .non) : v = .non := by cases r with | v r => cases r; rfl
theorem RepS.tup {ds : List D} (l : Le F H) (r : RepS K mg F H v (.tup ds)) : ∃ a xs, v = .ref a ∧ SqT K H a xs ∧ RepL K mg F xs ds := by
  cases r with | v r => cases r with | tup h r => exact ⟨_, _, rfl, SqT.of (l _ _ h), r⟩
theorem RepS.lst {ds : List D} (l : Le F H) (r : RepS K mg F H v (.lst ds)) : ∃ a xs, v = .ref a ∧ SqL K H a xs ∧ RepL K mg F xs ds := by
  cases r with
  | v r => cases r with | lst h r => exact ⟨_, _, rfl, SqL_le l h, r⟩
  | l h r => exact ⟨_, _, rfl, SqL.of h, r⟩
end
def sVar (i : Nat) (ρ : Env) : Out P := match ρ[i]? with
  | some (some (.v d)) => .ok (.v d) ρ
  | some (some (.l ds)) => .ok (.s (.lst ds)) ρ
  | some (some (.k t kvs)) => .ok (.s (.dct t kvs)) ρ
  | _ => .no
def sFrz (i : Nat) (ρ : Env) : Out P := match ρ[i]? with
  | some (some o) => .ok (.v o.d) (ρ.set i (some (.v o.d)))
  | _ => .no
def sMov (i : Nat) (ρ : Env) : Out P := match ρ[i]? with
  | some (some o) => .ok (.f o) (ρ.set i none)
  | _ => .no
def unlab (lab : Lab) (i : Nat) : Lab := fun a => match lab a with
  | some (j :: r) => if j = i then none else some (j :: r)
  | z => z
def labAt (lab : Lab) (i : Nat) : Lab := fun a => match lab a with
  | some (j :: r) => if j = i then some r else none
  | _ => none
theorem unlab_other {lab : Lab} {i j : Nat} {a : Addr} {r : List Nat} (h : j ≠ i) (e : lab a = some (j :: r)) : unlab lab i a = some (j :: r) := by
  unfold unlab; rw [e]; simp [h]
theorem unlab_none {lab : Lab} {i : Nat} {a : Addr} (e : lab a = none) : unlab lab i a = none := by unfold unlab; rw [e]
theorem unlab_sub {lab : Lab} {i : Nat} {a : Addr} {p : List Nat} (e : unlab lab i a = some p) : lab a = some p ∧ ∀ r, p ≠ i :: r := by
  unfold unlab at e
  split at e
  · rename_i j r h
    split at e
    · cases e
    · rename_i hn
      cases e
      exact ⟨h, fun r' z => by cases z; exact hn rfl⟩
  · rename_i h
    exact ⟨e, fun r z => h i r (e.trans (congrArg some z))⟩
theorem labAt_of {lab : Lab} {i : Nat} {a : Addr} {r : List Nat} (e : lab a = some (i :: r)) : labAt lab i a = some r := by unfold labAt; rw [e]; simp
theorem of_labAt {lab : Lab} {i : Nat} {a : Addr} {r : List Nat} (e : labAt lab i a = some r) : lab a = some (i :: r) := by
  unfold labAt at e
  split at e
  · rename_i j r' h
    split at e
    · rename_i hj
      cases e; subst hj; exact h
    · cases e
  · cases e
theorem unlab_self {lab : Lab} {i : Nat} {a : Addr} {r : List Nat} (e : lab a = some (i :: r)) : unlab lab i a = none := by unfold unlab; rw [e]; simp
section
variable {K : PySem.W.Frag} {mg : Str → Option Value} {F H : Hp} {lab : Lab} {σ : L2.St} {ρ : Env}
theorem SR.slot {i : Nat} {o : O} (sr : SR K mg F H lab σ ρ) (h : ρ[i]? = some (some o)) : ∃ v, σ[i]? = some (some v) ∧ RepO K mg F H lab [i] v o := sr.env i o h
theorem SR.mov {i : Nat} {o : O} (sr : SR K mg F H lab σ ρ) (h : ρ[i]? = some (some o)) {v : V} (hv : σ[i]? = some (some v)) :
    SR K mg F H (unlab lab i) σ (ρ.set i none) ∧ RepP K mg (fun a => lab a ≠ none) F H (unlab lab i) v (.f o) ∧ Move false F H lab F H (unlab lab i) := by
  obtain ⟨v', hv', r⟩ := sr.env i o h
  rw [hv] at hv'; cases hv'
  refine ⟨⟨⟨sr.bas.le, fun a p e => sr.bas.lf a p (unlab_sub e).1, sr.bas.nt⟩, sr.tb, fun j o' hj => ?_, by rw [List.length_set]; exact sr.len⟩, ⟨labAt lab i, r.stay (Le.refl _) fun a p e => ⟨rfl, labAt_of e⟩, fun a p e => ?_⟩, ⟨Le.refl _, fun _ z => z, fun a _ hq => ?_⟩⟩
  · by_cases e : j = i
    · subst e
      by_cases hl : j < ρ.length
      · rw [List.getElem?_set_self hl] at hj; cases hj
      · rw [List.getElem?_eq_none (by rw [List.length_set]; omega)] at hj; cases hj
    · rw [List.getElem?_set_ne (Ne.symm e)] at hj
      obtain ⟨w, h1, h2⟩ := sr.env j o' hj
      exact ⟨w, h1, h2.stay (Le.refl _) fun a r z => ⟨rfl, unlab_other e z⟩⟩
  · have e' := of_labAt e
    obtain ⟨h1, h2⟩ := sr.bas.lf a _ e'
    exact ⟨ne_none_opt e', unlab_self e', h1, h2⟩
  · have e : lab a = none := hq.elim (fun z => nomatch z) id
    exact ⟨rfl, by rw [unlab_none e, e], fun z => z⟩
where
  ne_none_opt {α : Type} {x : Option α} {y : α} (h : x = some y) : x ≠ none := by rw [h]; exact fun z => nomatch z
theorem SR.put {i : Nat} {v : V} {d : D} (sr : SR K mg F H lab σ ρ) (hσ : σ[i]? = some (some v)) (r : Rep K mg F v d) : SR K mg F H lab σ (ρ.set i (some (.v d))) := by
  refine ⟨sr.bas, sr.tb, fun j o hj => ?_, by rw [List.length_set]; exact sr.len⟩
  by_cases e : j = i
  · subst e
    by_cases hl : j < ρ.length
    · rw [List.getElem?_set_self hl] at hj
      cases hj
      exact ⟨v, hσ, .v r⟩
    · rw [List.getElem?_eq_none (by rw [List.length_set]; omega)] at hj; cases hj
  · rw [List.getElem?_set_ne (Ne.symm e)] at hj
    exact sr.env j o hj
end
section
variable {X : Cx} {W : WX}
theorem e_var (i : Nat) {x : Str} {pos : Pos} (hN : X.N[i]? = some x := by rfl) (hv : Vis X.env.scope x := by first | exact Or.inl rfl | exact Or.inr (Or.inl rfl) | exact Or.inr (Or.inr rfl)) (hd : (x == ("__debug__" : Str)) = false := by decide)
    (hcd : (x == ("__classdict__" : Str)) = false := by decide) : DE X W true (.Name x pos) (sVar i) := by
  refine PE_weak (pe_var hN hv hd hcd) fun σ H Q h => ?_
  obtain ⟨ρ, F, lab, sr, m⟩ := h
  unfold sVar at m
  split at m
  · rename_i d e
    obtain ⟨v, h1, r⟩ := sr.env i _ e
    cases r with | v r => exact ⟨v, h1, m v F H lab Move.refl sr r⟩
  · rename_i d e
    obtain ⟨v, h1, r⟩ := sr.env i _ e
    cases r with | l _ h r => exact ⟨_, h1, m _ F H lab Move.refl sr (.l h r)⟩
  · rename_i d e
    obtain ⟨v, h1, r⟩ := sr.env i _ e
    cases r with
    | kK _ h r => exact ⟨_, h1, m _ F H lab Move.refl sr (.kK h r)⟩
    | kT _ h r => exact ⟨_, h1, m _ F H lab Move.refl sr (.kT h r)⟩
  · exact m.elim
theorem e_mov (i : Nat) {x : Str} {pos : Pos} (hN : X.N[i]? = some x := by rfl) (hv : Vis X.env.scope x := by first | exact Or.inl rfl | exact Or.inr (Or.inl rfl) | exact Or.inr (Or.inr rfl)) (hd : (x == ("__debug__" : Str)) = false := by decide)
    (hcd : (x == ("__classdict__" : Str)) = false := by decide) : DE X W false (.Name x pos) (sMov i) := by
  refine PE_weak (pe_var hN hv hd hcd) fun σ H Q h => ?_
  obtain ⟨ρ, F, lab, sr, m⟩ := h
  unfold sMov at m
  split at m
  · rename_i o e
    obtain ⟨v, h1, _⟩ := sr.env i _ e
    obtain ⟨s2, r2, mv⟩ := sr.mov e h1
    exact ⟨v, h1, m v F H _ mv s2 (r2.since fun a z h1 h2 => h2.elim (fun z => nomatch z) z)⟩
  · exact m.elim
theorem e_frz (i : Nat) {x : Str} {pos : Pos} (hN : X.N[i]? = some x := by rfl) (hv : Vis X.env.scope x := by first | exact Or.inl rfl | exact Or.inr (Or.inl rfl) | exact Or.inr (Or.inr rfl)) (hd : (x == ("__debug__" : Str)) = false := by decide)
    (hcd : (x == ("__classdict__" : Str)) = false := by decide) : DE X W false (.Name x pos) (sFrz i) := by
  refine PE_weak (pe_var hN hv hd hcd) fun σ H Q h => ?_
  obtain ⟨ρ, F, lab, sr, m⟩ := h
  unfold sFrz at m
  split at m
  · rename_i o e
    obtain ⟨v, h1, _⟩ := sr.env i _ e
    obtain ⟨s2, r2, mv⟩ := sr.mov e h1
    obtain ⟨F', l, b, k, r⟩ := r2.frz s2.bas
    refine ⟨v, h1, m v F' H (unlab lab i) ⟨l, fun _ z => z, fun a ha hq => ?_⟩ ?_ r⟩
    · obtain ⟨g1, g2, g3⟩ := mv.fr a ha hq
      exact ⟨g1, g2, k a (fun z => z (hq.elim (fun z => nomatch z) id))⟩
    · have s3 := (s2.frzF l b).put h1 r
      rw [List.set_set] at s3
      exact s3
  · exact m.elim
def sC (d : D) (ρ : Env) : Out P := .ok (.v d) ρ
theorem e_const {e : Expr} {v : V} {d : D} (he : PE X e (tC v)) (r : ∀ F, Rep X.K X.mg F v d) : DE X W true e (sC d) := by
  refine PE_weak he fun σ H Q h => ?_
  obtain ⟨ρ, F, lab, sr, m⟩ := h
  exact m v F H lab Move.refl sr (r F)
theorem e_int {i : Int} {j : Nat} {pos : Pos} : DE X W true (.Constant (.int i) j pos) (sC (.int i)) := e_const pe_int fun _ => .int i
theorem e_bl {i : Bool} {j : Nat} {pos : Pos} : DE X W true (.Constant (.bool i) j pos) (sC (.bl i)) := e_const pe_bl fun _ => .bl i
theorem e_non {j : Nat} {pos : Pos} : DE X W true (.Constant .none j pos) (sC .non) := e_const pe_non fun _ => .non
theorem e_str {i : Str} {j : Nat} {pos : Pos} : DE X W true (.Constant (.str i) j pos) (sC (.str i)) := e_const pe_str fun _ => .str i
def P.fz : P → Option D
  | .v d => some d
  | .f o => some o.d
  | .s _ => none
def sFz (f : Env → Out P) (ρ : Env) : Out P := (f ρ).bind fun p ρ' => match p.fz with
  | some d => .ok (.v d) ρ'
  | none => .no
theorem fz_move {K : PySem.W.Frag} {mg : Str → Option Value} {q : Bool} {F0 H0 F H : Hp} {lab0 lab : Lab} {σ : L2.St} {ρ : Env} {p : P} {v : V} {d : D}
    (mv : Move q F0 H0 lab0 F H lab) (sr : SR K mg F H lab σ ρ) (r : RepP K mg (New q H0 lab0) F H lab v p) (e : p.fz = some d) :
    ∃ F', Move q F0 H0 lab0 F' H lab ∧ SR K mg F' H lab σ ρ ∧ Rep K mg F' v d ∧ Le F F' := by
  cases p with
  | v d' => cases e; exact ⟨F, mv, sr, r, Le.refl _⟩
  | s d' => cases e
  | f o =>
    cases e
    obtain ⟨F', l, b, k, r'⟩ := r.frz sr.bas
    refine ⟨F', ⟨mv.ff.trans l, mv.th, fun a ha hq => ?_⟩, sr.frzF l b, r', l⟩
    obtain ⟨g1, g2, g3⟩ := mv.fr a ha hq
    exact ⟨g1, g2, fun z => k a (fun n => n ha hq) (g3 z)⟩
theorem e_fz {q : Bool} {e : Expr} {f : Env → Out P} (he : DE X W q e f) : DE X W q e (sFz f) := by
  refine PE_weak he fun σ H Q h => ?_
  obtain ⟨ρ, F, lab, sr, m⟩ := h
  refine ⟨ρ, F, lab, sr, ?_⟩
  unfold sFz at m
  cases hf : f ρ with
  | no => rw [hf] at m; exact m
  | exc x ρ' => rw [hf] at m; exact m
  | ok p ρ' =>
    rw [hf, Out.bind_ok] at m
    cases hp : p.fz with
    | none => rw [hp] at m; exact m.elim
    | some d =>
      rw [hp] at m
      exact fun v F1 H1 lab1 mv s1 r => let ⟨F', mv', s', r', _⟩ := fz_move mv s1 r hp; m v F' H1 lab1 mv' s' r'
end
def Op2 (K : PySem.W.Frag) (mg : Str → Option Value) (r : R2) (g : D → D → Option P) : Prop :=
  ∀ (v u : V) (x y : D) (p : P) (F H : Hp) (lab : Lab) (Q : VK), BasT K mg F H lab → RepS K mg F H v x → RepS K mg F H u y → g x y = some p →
    (∀ w F' H', Grow K mg F H F' H' → RepP K mg (fun a => H a = none) F' H' lab w p → Q w H') → r v u H Q
def sOp (g : D → D → Option P) (qb : Bool) (fa fb : Env → Out P) (ρ : Env) : Out P := (fa ρ).bind fun p ρ1 => if p.sure qb then (fb ρ1).bind fun p' ρ2 => match p.rd, p'.rd with
  | some x, some y => (match g x y with
    | some z => .ok z ρ2
    | none => .no)
  | _, _ => .no else .no
section
variable {X : Cx} {W : WX} {qa qb : Bool} {a b : Expr} {fa fb : Env → Out P} {g : D → D → Option P} {r : R2} {pos : Pos}
theorem op_read (ho : Op2 X.K X.mg r g) {σ : L2.St} {H : Hp} {Q : VK} (h : tD X.K X.mg W (qa && qb) (sOp g qb fa fb) σ H Q) : tOp r (tD X.K X.mg W qa fa) (tD X.K X.mg W qb fb) σ H Q := by
  obtain ⟨ρ, F, lab, sr, m⟩ := h
  refine ⟨ρ, F, lab, sr, Meets.seq (rep2 := RepP X.K X.mg) (fun z => (Bool.and_eq_true_iff.mp z).1) sinceP m fun x p ρ1 F1 H1 lab1 mv1 sr1 rp m1 => ?_⟩
  split at m1
  · rename_i hs
    refine ⟨ρ1, F1, lab1, sr1, Meets.seq (rep2 := RepP X.K X.mg) (fun z => (Bool.and_eq_true_iff.mp z).2) sinceP m1 fun y p' ρ2 F2 H2 lab2 mv2 sr2 rp' m2 => ?_⟩
    have rp2 := rp.step mv2 hs
    split at m2
    · rename_i x' y' e1 e2
      split at m2
      · rename_i z ez
        exact ho x y x' y' z F2 H2 lab2 Q sr2.bast (rp2.rd e1) (rp'.rd e2) ez fun w F' H' gr rw' => Meets.grow m2 sr2 gr rw'
      · exact m2.elim
    · exact m2.elim
  · exact m1.elim
theorem e_op {op : Operator} (ho : OpR X (binaryOp op) r) (hg : Op2 X.K X.mg r g) (ha : DE X W qa a fa) (hb : DE X W qb b fb) : DE X W (qa && qb) (.BinOp a op b pos) (sOp g qb fa fb) :=
  PE_weak (pe_op ho ha hb) fun σ H Q h => op_read hg h
theorem e_cmp {op : CmpOp} (ho : OpR X (compareOp op) r) (hg : Op2 X.K X.mg r g) (ha : DE X W qa a fa) (hb : DE X W qb b fb) (hm : behindInMarks op b = false) : DE X W (qa && qb) (.Compare a [op] [b] pos) (sOp g qb fa fb) :=
  PE_weak (pe_cmpR ho ha hb hm) fun σ H Q h => op_read hg h
theorem e_ix (hi : IxR X r) (hg : Op2 X.K X.mg r g) (ha : DE X W qa a fa) (hb : DE X W qb b fb) (hs : PlainIx b) : DE X W (qa && qb) (.Subscript a b pos) (sOp g qb fa fb) :=
  PE_weak (pe_ix hi ha hb hs) fun σ H Q h => op_read hg h
def sTB (f : Env → Out P) (ρ : Env) : Out Bool := (f ρ).bind fun p ρ' => match p with
  | .v (.bl k) => .ok k ρ'
  | _ => .no
theorem tb_read {q : Bool} {f : Env → Out P} {σ : L2.St} {H : Hp} {Q : Bool → Hp → Prop} (h : tDT X.K X.mg W q (sTB f) σ H Q) : tD X.K X.mg W q f σ H fun x H1 => ∃ c, x = .bl c ∧ Q c H1 := by
  obtain ⟨ρ, F, lab, sr, m⟩ := h
  refine ⟨ρ, F, lab, sr, ?_⟩
  unfold sTB at m
  cases hf : f ρ with
  | no => rw [hf] at m; exact m
  | exc x ρ' => rw [hf] at m; exact m
  | ok p ρ' =>
    rw [hf, Out.bind_ok] at m
    split at m
    · intro v F1 H1 lab1 mv s1 r
      cases r
      exact ⟨_, rfl, m _ F1 H1 lab1 mv s1 rfl⟩
    · exact m.elim
theorem t_cmp {op : CmpOp} (ho : OpR X (compareOp op) r) (hg : Op2 X.K X.mg r g) (ha : DE X W qa a fa) (hb : DE X W qb b fb) (hm : behindInMarks op b = false) : DT X W (qa && qb) (.Compare a [op] [b] pos) (sTB (sOp g qb fa fb)) :=
  PT_weak (pt_cmpR ho ha hb hm) fun σ H Q h => op_read hg (tb_read h)
theorem t_val {q : Bool} {e : Expr} {f : Env → Out P} (h : DE X W q e f) (he : ∀ whole, isTrue e X.env whole = (do let v ← whole; standAt e.pos; holding [v] (truthy v)) := by intro _; rfl) : DT X W q e (sTB f) :=
  PT_weak (pt_val h he) fun σ H Q h => tb_read h
end
end LW

namespace LW
open PySem PySem.Spec PyProof.Rows L2
section
variable {K : PySem.W.Frag} {mg : Str → Option Value} {W : WX} {q q1 : Bool} {F H F1 H1 : Hp} {lab lab1 : Lab} {σ : L2.St} {ρ ρ1 : Env}
variable {α β γ δ : Type} {rep : (Addr → Prop) → Hp → Hp → Lab → β → α → Prop} {m : Out α} {Q : β → Hp → Prop}
theorem Meets.move (since : ∀ N N' F' H' lab' d c, (∀ a, N a → N' a) → rep N F' H' lab' d c → rep N' F' H' lab' d c)
    (h : Meets K mg W q F H lab σ (rep (New q H lab)) m Q) (mv : Move q F H lab F1 H1 lab1) : Meets K mg W q F1 H1 lab1 σ (rep (New q H1 lab1)) m Q := by
  cases m with
  | no => exact h
  | exc x ρ2 => exact fun cls d F2 H2 lab2 mv2 sr2 rx => h cls d F2 H2 lab2 (mv.to_false.trans mv2) sr2 rx
  | ok c ρ2 => exact fun b2 F2 H2 lab2 mv2 sr2 rc => h b2 F2 H2 lab2 (mv.trans mv2) sr2 (since _ _ F2 H2 lab2 b2 c (fun a n => n.since mv id) rc)
theorem Meets.down {q' : Bool} (hq : q = true → q' = true) (since : ∀ N N' F' H' lab' d c, (∀ a, N a → N' a) → rep N F' H' lab' d c → rep N' F' H' lab' d c)
    (h : Meets K mg W q F H lab σ (rep (New q H lab)) m Q) : Meets K mg W q' F H lab σ (rep (New q' H lab)) m Q := by
  cases m with
  | no => exact h
  | exc x ρ2 => exact h
  | ok c ρ2 => exact fun b2 F2 H2 lab2 mv2 sr2 rc => h b2 F2 H2 lab2 (mv2.weak q hq) sr2 (since _ _ F2 H2 lab2 b2 c (fun a n => n.weak hq) rc)
end
theorem and_l {a b : Bool} (h : (a && b) = true) : a = true := (Bool.and_eq_true_iff.mp h).1
theorem and_r {a b : Bool} (h : (a && b) = true) : b = true := (Bool.and_eq_true_iff.mp h).2
abbrev RB : (Addr → Prop) → Hp → Hp → Lab → Bool → Bool → Prop := fun _ _ _ _ b a => b = a
theorem sinceB (N N' : Addr → Prop) (F' H' : Hp) (lab' : Lab) (d c : Bool) (h : ∀ a, N a → N' a) (r : RB N F' H' lab' d c) : RB N' F' H' lab' d c := r
abbrev RA (K : PySem.W.Frag) (mg : Str → Option Value) : (Addr → Prop) → Hp → Hp → Lab → List V → List D → Prop := fun _ F' _ _ b a => RepL K mg F' b a
theorem sinceA {K : PySem.W.Frag} {mg : Str → Option Value} (N N' : Addr → Prop) (F' H' : Hp) (lab' : Lab) (d : List V) (c : List D) (h : ∀ a, N a → N' a) (r : RA K mg N F' H' lab' d c) : RA K mg N' F' H' lab' d c := r
section
variable {X : Cx} {W : WX} {qa qb : Bool} {a b c : Expr} {rest : List Expr} {pos : Pos}
def DW (X : Cx) (W : WX) (q : Bool) (e : Expr) (f : Env → Out Bool) : Prop := PW X e (tDT X.K X.mg W q f)
theorem t_w {q : Bool} {e : Expr} {f : Env → Out Bool} (h : DW X W q e f) : DT X W q e f := PW.pt h
theorem PW_weak {e : Expr} {t t' : TT} (h : PW X e t) (k : ∀ σ H Q, t' σ H Q → t σ H Q) : PW X e t' := ⟨fun wh pins s σ H Q I w => h.run wh pins s σ H Q I (k σ H Q w)⟩
def sAndT (fa fb : Env → Out Bool) (ρ : Env) : Out Bool := (fa ρ).bind fun k ρ1 => if k = true then fb ρ1 else .ok false ρ1
def sOrT (fa fb : Env → Out Bool) (ρ : Env) : Out Bool := (fa ρ).bind fun k ρ1 => if k = true then .ok true ρ1 else fb ρ1
def sNotT (fa : Env → Out Bool) (ρ : Env) : Out Bool := (fa ρ).bind fun k ρ1 => .ok (!k) ρ1
variable {fa fb : Env → Out Bool}
theorem t_or1 (ha : DT X W qa a fa) : DW X W qa (.BoolOp .Or [a] pos) fa := pw_or1 ha
theorem t_or (ha : DT X W qa a fa) (hb : DW X W qb (.BoolOp .Or (b :: rest) pos) fb) : DW X W (qa && qb) (.BoolOp .Or (a :: b :: rest) pos) (sOrT fa fb) := by
  refine PW_weak (pw_or ha hb) fun σ H Q h => ?_
  obtain ⟨ρ, F, lab, sr, m⟩ := h
  refine ⟨ρ, F, lab, sr, Meets.seq (rep2 := RB) and_l sinceB m fun x k ρ1 F1 H1 lab1 mv1 sr1 rp m1 => ?_⟩
  subst rp
  cases x with
  | true => exact m1 true F1 H1 lab1 Move.refl sr1 rfl
  | false => exact ⟨ρ1, F1, lab1, sr1, Meets.down (rep := RB) and_r sinceB m1⟩
theorem t_not (ha : DT X W qa a fa) : DT X W qa (.UnaryOp .Not a pos) (sNotT fa) := by
  refine PT_weak (pt_not ha) fun σ H Q h => ?_
  obtain ⟨ρ, F, lab, sr, m⟩ := h
  refine ⟨ρ, F, lab, sr, Meets.seq (rep2 := RB) id sinceB m fun x k ρ1 F1 H1 lab1 mv1 sr1 rp m1 => ?_⟩
  subst rp
  exact m1 (!x) F1 H1 lab1 Move.refl sr1 rfl
variable {ga gb gc : Env → Out P}
def sAnd (fa fb : Env → Out P) (ρ : Env) : Out P := (fa ρ).bind fun p ρ1 => match p with
  | .v (.bl true) => fb ρ1
  | .v (.bl false) => .ok (.v (.bl false)) ρ1
  | _ => .no
def sOr (fa fb : Env → Out P) (ρ : Env) : Out P := (fa ρ).bind fun p ρ1 => match p with
  | .v (.bl true) => .ok (.v (.bl true)) ρ1
  | .v (.bl false) => fb ρ1
  | _ => .no
def sNot (fa : Env → Out P) (ρ : Env) : Out P := (fa ρ).bind fun p ρ1 => match p with
  | .v (.bl k) => .ok (.v (.bl (!k))) ρ1
  | _ => .no
def sIfE (t : Env → Out Bool) (fa fb : Env → Out P) (ρ : Env) : Out P := (t ρ).bind fun k ρ1 => if k = true then fa ρ1 else fb ρ1
theorem e_one {op : BoolOp} (h : DE X W qa a ga) : DE X W qa (.BoolOp op [a] pos) ga := pe_one h
theorem e_and (ha : DE X W qa a ga) (hb : DE X W qb (.BoolOp .And (b :: rest) pos) gb) : DE X W (qa && qb) (.BoolOp .And (a :: b :: rest) pos) (sAnd ga gb) := by
  refine PE_weak (pe_and ha hb) fun σ H Q h => ?_
  obtain ⟨ρ, F, lab, sr, m⟩ := h
  refine ⟨ρ, F, lab, sr, Meets.seq (rep2 := RepP X.K X.mg) and_l sinceP m fun x k ρ1 F1 H1 lab1 mv1 sr1 rp m1 => ?_⟩
  split at m1
  · cases rp
    exact ⟨true, rfl, ρ1, F1, lab1, sr1, Meets.down (rep := RepP X.K X.mg) and_r sinceP m1⟩
  · cases rp
    exact ⟨false, rfl, m1 _ F1 H1 lab1 Move.refl sr1 (Rep.bl false)⟩
  · exact m1.elim
theorem e_if {qt : Bool} {t : Env → Out Bool} (hc : DT X W qt c t) (ha : DE X W qa a ga) (hb : DE X W qb b gb) : DE X W (qt && (qa && qb)) (.IfExp c a b pos) (sIfE t ga gb) := by
  refine PE_weak (pe_ifExp hc ha hb) fun σ H Q h => ?_
  obtain ⟨ρ, F, lab, sr, m⟩ := h
  refine ⟨ρ, F, lab, sr, Meets.seq (rep2 := RepP X.K X.mg) (rep := fun _ _ _ b a => b = a) and_l sinceP m fun x k ρ1 F1 H1 lab1 mv1 sr1 rp m1 => ?_⟩
  subst rp
  cases x with
  | true => exact ⟨ρ1, F1, lab1, sr1, Meets.down (rep := RepP X.K X.mg) (fun z => and_l (and_r z)) sinceP m1⟩
  | false => exact ⟨ρ1, F1, lab1, sr1, Meets.down (rep := RepP X.K X.mg) (fun z => and_r (and_r z)) sinceP m1⟩
def sChn (g g' : D → D → Option P) (qb qc : Bool) (fa fb fc : Env → Out P) (ρ : Env) : Out P := (fa ρ).bind fun p ρ1 => if p.sure qb then (fb ρ1).bind fun p' ρ2 => match p.rd, p'.rd with
  | some x, some y => (match g x y with
    | some (.v (.bl true)) => (if p'.sure qc then (fc ρ2).bind fun p'' ρ3 => (match p'.rd, p''.rd with
      | some y', some z => (match g' y' z with
        | some w => .ok w ρ3
        | none => .no)
      | _, _ => .no) else .no)
    | some (.v (.bl false)) => .ok (.v (.bl false)) ρ2
    | _ => .no)
  | _, _ => .no else .no
variable {r r' : R2} {g g' : D → D → Option P} {qc : Bool}
end
def sNil (ρ : Env) : Out (List D) := .ok [] ρ
def sCons (f : Env → Out P) (g : Env → Out (List D)) (ρ : Env) : Out (List D) := (sFz f ρ).bind fun p ρ1 => match p with
  | .v d => (g ρ1).bind fun ds ρ2 => .ok (d :: ds) ρ2
  | _ => .no
section
variable {X : Cx} {W : WX} {qa qb : Bool} {e : Expr} {es : List Expr} {f : Env → Out P} {g : Env → Out (List D)} {pos : Pos}
theorem a_nil : DA X W true [] sNil := by
  refine PA_weak pa_nil fun σ H Q h => ?_
  obtain ⟨ρ, F, lab, sr, m⟩ := h
  exact m [] F H lab Move.refl sr .nil
theorem a_cons (ha : DE X W qa e f) (hr : DA X W qb es g) (hs : starEach (e :: es) X.env = (false, eval e X.env) :: starEach es X.env := by rfl) : DA X W (qa && qb) (e :: es) (sCons f g) := by
  refine PA_weak (pa_cons (e_fz ha) hr hs) fun σ H Q h => ?_
  obtain ⟨ρ, F, lab, sr, m⟩ := h
  refine ⟨ρ, F, lab, sr, Meets.seq (rep2 := RA X.K X.mg) and_l sinceA m fun x p ρ1 F1 H1 lab1 mv1 sr1 rp m1 => ?_⟩
  split at m1
  · rename_i d
    refine ⟨ρ1, F1, lab1, sr1, Meets.seq (rep2 := RA X.K X.mg) and_r sinceA m1 fun xs ds ρ2 F2 H2 lab2 mv2 sr2 rs m2 => ?_⟩
    exact m2 (x :: xs) F2 H2 lab2 Move.refl sr2 (.cons (Rep.mono mv2.ff rp) rs)
  · exact m1.elim
def Len (g : Env → Out (List D)) (n : Nat) : Prop := ∀ ρ ds ρ', g ρ = .ok ds ρ' → ds.length = n
theorem len_nil : Len sNil 0 := fun ρ ds ρ' h => by cases h; rfl
theorem len_cons {n : Nat} (h : Len g n) : Len (sCons f g) (n + 1) := fun ρ ds ρ' e => by
  unfold sCons at e
  cases e1 : sFz f ρ with
  | no => rw [e1] at e; cases e
  | exc _ _ => rw [e1] at e; cases e
  | ok p ρ1 =>
    rw [e1, Out.bind_ok] at e
    split at e
    · cases e2 : g ρ1 with
      | no => rw [e2] at e; cases e
      | exc _ _ => rw [e2] at e; cases e
      | ok ds' ρ2 =>
        rw [e2, Out.bind_ok] at e
        cases e
        exact congrArg (· + 1) (h ρ1 ds' _ e2)
    · cases e
def sTup (g : Env → Out (List D)) (ρ : Env) : Out P := (g ρ).bind fun ds ρ1 => .ok (.v (.tup ds)) ρ1
def sLst (g : Env → Out (List D)) (ρ : Env) : Out P := (g ρ).bind fun ds ρ1 => .ok (.f (.l ds)) ρ1
theorem new_tup {K : PySem.W.Frag} {mg : Str → Option Value} {F H : Hp} {lab : Lab} {xs : List V} {ds : List D} {Q : VK} (l : Le F H) (r : RepL K mg F xs ds)
    (k : ∀ w F' H', Grow K mg F H F' H' → RepP K mg (fun a => H a = none) F' H' lab w (.v (.tup ds)) → Q w H') : ∀ p, H p = none → Q (.ref p) (upd H p (.tup xs)) := fun p hp =>
  k _ _ _ (Grow.new l hp) (Rep.tup upd_same (r.mono (Grow.new (K := K) (mg := mg) (o := .tup xs) l hp).ff))
theorem new_lst {K : PySem.W.Frag} {mg : Str → Option Value} {F H : Hp} {lab : Lab} {xs : List V} {ds : List D} {Q : VK} (b : Bas F H lab) (r : RepL K mg F xs ds)
    (k : ∀ w F' H', Grow K mg F H F' H' → RepP K mg (fun a => H a = none) F' H' lab w (.f (.l ds)) → Q w H') : ∀ p, H p = none → Q (.ref p) (upd H p (.lst xs)) := fun p hp => by
  refine k _ F _ (Grow.own b.le hp) ⟨fun a => if a = p then some [] else none, .l (by simp) upd_same r, fun a z e => ?_⟩
  have ea : a = p := by
    by_cases h : a = p
    · exact h
    · have e' : (if a = p then some ([] : List Nat) else none) = some z := e
      rw [if_neg h] at e'; cases e'
  subst ea
  refine ⟨hp, ?_, ?_, th_of upd_same⟩
  · cases h : lab a with
    | none => rfl
    | some z => exact absurd hp (b.lf a z h).2.1
  · cases h : F a with
    | none => rfl
    | some z => exact absurd hp (ne_none (b.le a z h))
theorem e_tup {x1 : Nat} {n : Nat} (ha : DA X W qa es g) (hn : Len g n) (hz : n ≤ sizeLine := by decide) : DE X W qa (.Tuple es x1 pos) (sTup g) := by
  refine PE_weak (pe_tup ha) fun σ H Q h => ?_
  obtain ⟨ρ, F, lab, sr, m⟩ := h
  refine ⟨ρ, F, lab, sr, ?_⟩
  unfold sTup at m
  cases hg : g ρ with
  | no => rw [hg] at m; exact m
  | exc x ρ' => rw [hg] at m; exact m
  | ok ds ρ1 =>
    rw [hg, Out.bind_ok] at m
    intro xs F1 H1 lab1 mv sr1 r
    have hl : xs.length = n := r.length.trans (hn ρ ds ρ1 hg)
    refine ⟨by rw [hl]; exact hz, new_tup (lab := lab1) sr1.bas.le r fun w F' H' gr rw' => ?_⟩
    exact Meets.grow (Meets.move (rep := RepP X.K X.mg) sinceP m mv) sr1 gr rw'
theorem e_lst {n : Nat} (ha : DA X W qa es g) (hn : Len g n) (hz : n ≤ sizeLine := by decide) : DE X W qa (.List es pos) (sLst g) := by
  refine PE_weak (pe_lst ha) fun σ H Q h => ?_
  obtain ⟨ρ, F, lab, sr, m⟩ := h
  refine ⟨ρ, F, lab, sr, ?_⟩
  unfold sLst at m
  cases hg : g ρ with
  | no => rw [hg] at m; exact m
  | exc x ρ' => rw [hg] at m; exact m
  | ok ds ρ1 =>
    rw [hg, Out.bind_ok] at m
    intro xs F1 H1 lab1 mv sr1 r
    have hl : xs.length = n := r.length.trans (hn ρ ds ρ1 hg)
    refine ⟨by rw [hl]; exact hz, new_lst sr1.bas r fun w F' H' gr rw' => ?_⟩
    exact Meets.grow (Meets.move (rep := RepP X.K X.mg) sinceP m mv) sr1 gr rw'
end
def Call1 (K : PySem.W.Frag) (mg : Str → Option Value) (r : List V → Hp → VK → Prop) (g : D → Option P) : Prop :=
  ∀ (v : V) (x : D) (p : P) (F H : Hp) (lab : Lab) (Q : VK), Bas F H lab → RepS K mg F H v x → g x = some p →
    (∀ w F' H', Grow K mg F H F' H' → RepP K mg (fun a => H a = none) F' H' lab w p → Q w H') → r [v] H Q
def sC1 (g : D → Option P) (f : Env → Out P) (ρ : Env) : Out P := (f ρ).bind fun p ρ1 => match p.rd with
  | some x => (match g x with
    | some z => .ok z ρ1
    | none => .no)
  | none => .no
section
variable {X : Cx} {W : WX} {q qa qb : Bool} {x : Str} {p pos : Pos} {e a b : Expr} {f fa fb : Env → Out P} {id T : String} {r : List V → Hp → VK → Prop} {g : D → Option P} {g2 : D → D → Option P}
theorem c1_read (hg : Call1 X.K X.mg r g) {σ : L2.St} {H : Hp} {Q : VK} (h : tD X.K X.mg W q (sC1 g f) σ H Q) : tCB r (tCons (tD X.K X.mg W q f) tNil) σ H Q := by
  obtain ⟨ρ, F, lab, sr, m⟩ := h
  refine ⟨ρ, F, lab, sr, Meets.seq (rep2 := RepP X.K X.mg) id sinceP m fun v p ρ1 F1 H1 lab1 mv1 sr1 rp m1 => ?_⟩
  split at m1
  · rename_i y hy
    split at m1
    · rename_i z hz
      exact hg v y z F1 H1 lab1 Q sr1.bas (rp.rd hy) hz fun w F' H' gr rw' => Meets.grow m1 sr1 gr rw'
    · exact m1.elim
  · exact m1.elim
theorem e_cB1 (hc : CallR X (.builtin id) r) (hr : Call1 X.K X.mg r g) (hgl : Gl X x) (hm : X.mg x = none) (hv : bootBuiltins x = some (.builtin id)) (ha : DE X W q e f) (hn : x ≠ "__name__" := by decide) (hdb : (x == ("__debug__" : Str)) = false := by decide)
    (he : starEach [e] X.env = [(false, eval e X.env)] := by rfl) : DE X W q (.Call (.Name x p) [e] [] pos) (sC1 g f) :=
  PE_weak (pe_callB (es := []) hc hgl hm hv (pa_cons ha pa_nil he) hn hdb he) fun σ H Q h => c1_read hr h
theorem e_cT1 (hc : CallR X (.type T) r) (hr : Call1 X.K X.mg r g) (hgl : Gl X x) (hm : X.mg x = none) (hv : bootBuiltins x = some (.type T)) (ha : DE X W q e f) (hn : x ≠ "__name__" := by decide) (hdb : (x == ("__debug__" : Str)) = false := by decide)
    (he : starEach [e] X.env = [(false, eval e X.env)] := by rfl) : DE X W q (.Call (.Name x p) [e] [] pos) (sC1 g f) :=
  PE_weak (pe_callTy (es := []) hc hgl hm hv (pa_cons ha pa_nil he) hn hdb he) fun σ H Q h => c1_read hr h
end
end LW

namespace LW
open PySem PySem.Spec PyProof.Rows L2
inductive FR where
  | ret (p : P) (os : List O) | exc (x : EX) (os : List O) | no
abbrev Fn := List O → FR
section
variable (K : PySem.W.Frag) (mg : Str → Option Value)
def FMeets (F H : Hp) (lab : Lab) (vs : List V) (fr : FR) (Q : VK) (E : XK) : Prop :=
  match fr with
  | .ret p os' => ∀ v F' H' lab', Move false F H lab F' H' lab' → SR K mg F' H' lab' (vs.map some) (os'.map some) → RepP K mg (New false H lab) F' H' lab' v p → Q v H'
  | .exc x os' => ∀ cls d F' H' lab', Move false F H lab F' H' lab' → SR K mg F' H' lab' (vs.map some) (os'.map some) → RepX K mg F' cls d x → E cls d H'
  | .no => False
def spF (n : Nat) (S : Fn) : Sp := fun vs H Q E => vs.length = n ∧ ∃ F lab os, SR K mg F H lab (vs.map some) (os.map some) ∧ FMeets K mg F H lab vs (S os) Q E
end
def sCall (S : Fn) (g : Env → Out (List D)) (ρ : Env) : Out P := (g ρ).bind fun ds ρ1 => match S (ds.map .v) with
  | .ret p _ => .ok p ρ1
  | .exc x _ => .exc x ρ1
  | .no => .no
def sCallM (S : Fn) (i : Nat) (g : Env → Out (List D)) (ρ : Env) : Out P := match ρ[i]? with
  | some (some _) => (g ρ).bind fun ds ρ1 => (match ρ1[i]? with
    | some (some o) => (match S (o :: ds.map .v) with
      | .ret p (o' :: _) => .ok p (ρ1.set i (some o'))
      | .exc x (o' :: _) => .exc x (ρ1.set i (some o'))
      | _ => .no)
    | _ => .no)
  | _ => .no
section
variable {K : PySem.W.Frag} {mg : Str → Option Value} {F H : Hp} {lab : Lab} {σ : L2.St} {ρ : Env}
theorem env_vals {σ : L2.St} {xs : List V} {ds : List D} (r : RepL K mg F xs ds) : ∀ (i : Nat) (o : O), ((ds.map O.v).map some)[i]? = some (some o) → ∃ v, (xs.map some)[i]? = some (some v) ∧ RepO K mg F H lab [i] v o := fun i o h => by
  rw [List.getElem?_map, List.getElem?_map] at h
  cases e : ds[i]? with
  | none => rw [e] at h; cases h
  | some d =>
    rw [e] at h; cases h
    obtain ⟨x, h1, h2⟩ := r.get e
    exact ⟨x, by rw [List.getElem?_map, h1]; rfl, .v h2⟩
theorem sr_vals {xs : List V} {ds : List D} (sr : SR K mg F H lab σ ρ) (r : RepL K mg F xs ds) : SR K mg F H (fun _ => none) (xs.map some) ((ds.map O.v).map some) :=
  ⟨⟨sr.bas.le, fun a p h => (nomatch h), sr.bas.nt⟩, sr.tb, env_vals (σ := []) r, by simp [r.length]⟩
theorem sr_valsB {xs : List V} {ds : List D} (b : BasT K mg F H lab) (r : RepL K mg F xs ds) : SR K mg F H (fun _ => none) (xs.map some) ((ds.map O.v).map some) :=
  ⟨⟨b.le, fun a p h => (nomatch h), b.nt⟩, b.tb, env_vals (σ := []) r, by simp [r.length]⟩
theorem back_vals {F' H' : Hp} {lab' : Lab} (sr : SR K mg F H lab σ ρ) (mv : Move false F H (fun _ => none) F' H' lab') (b : Bas F' H' lab') (tb : TabsOk K mg H') (q : Bool) : Move q F H lab F' H' lab ∧ SR K mg F' H' lab σ ρ := by
  have fr := fun a h => mv.fr a h (.inr rfl)
  refine ⟨⟨mv.ff, mv.th, fun a h _ => ⟨(fr a h).1, rfl, (fr a h).2.2⟩⟩, ⟨⟨b.le, fun a p h => ?_, b.nt⟩, tb, fun i o h => ?_, sr.len⟩⟩
  · obtain ⟨h1, h2⟩ := sr.bas.lf a p h
    exact ⟨(fr a h2).2.2 h1, h2.eq (fr a h2).1⟩
  · obtain ⟨v, h1, h2⟩ := sr.env i o h
    exact ⟨v, h1, h2.stay mv.ff fun a r e => ⟨(fr a (sr.bas.lf a _ e).2).1, e⟩⟩
theorem back_ret {F' H' : Hp} {lab' : Lab} {v : V} {p : P} {q : Bool} (sr : SR K mg F H lab σ ρ) (r : RepP K mg (New false H fun _ => none) F' H' lab' v p) : RepP K mg (New q H lab) F' H' lab v p := by
  cases p with
  | v d => exact r
  | s d => exact r
  | f o =>
    obtain ⟨l2, r, k⟩ := r
    refine ⟨l2, r, fun a p e => ?_⟩
    obtain ⟨h1, h2, h3⟩ := k a p e
    refine ⟨fun z _ => h1 z (.inr rfl), ?_, h3⟩
    cases e : lab a with
    | none => rfl
    | some z => exact (h1 (sr.bas.lf a z e).2 (.inr rfl)).elim
def labIn (lab : Lab) (i : Nat) : Lab := fun a => (labAt lab i a).map (0 :: ·)
def labOut (lab lab' : Lab) (i : Nat) : Lab := fun a => match lab' a with
  | some (0 :: r) => some (i :: r)
  | _ => unlab lab i a
theorem labIn_of {i : Nat} {a : Addr} {r : List Nat} (e : lab a = some (i :: r)) : labIn lab i a = some (0 :: r) := by unfold labIn; rw [labAt_of e]; rfl
theorem of_labIn {i : Nat} {a : Addr} {p : List Nat} (e : labIn lab i a = some p) : ∃ r, p = 0 :: r ∧ lab a = some (i :: r) := by
  unfold labIn at e
  cases h : labAt lab i a with
  | none => rw [h] at e; cases e
  | some r => rw [h] at e; cases e; exact ⟨r, rfl, of_labAt h⟩
theorem labIn_none {i : Nat} {a : Addr} (e : ∀ r, lab a ≠ some (i :: r)) : labIn lab i a = none := by
  cases h : labIn lab i a with
  | none => rfl
  | some p => obtain ⟨r, _, h2⟩ := of_labIn h; exact absurd h2 (e r)
theorem sr_in {i : Nat} {o : O} {v : V} {xs : List V} {ds : List D} (sr : SR K mg F H lab σ ρ) (h : ρ[i]? = some (some o)) (hv : σ[i]? = some (some v)) (r : RepL K mg F xs ds) :
    SR K mg F H (labIn lab i) ((v :: xs).map some) ((o :: ds.map O.v).map some) := by
  refine ⟨⟨sr.bas.le, fun a p e => ?_, sr.bas.nt⟩, sr.tb, fun j o' hj => ?_, by simp [r.length]⟩
  · obtain ⟨r', _, e'⟩ := of_labIn e
    exact sr.bas.lf a _ e'
  · cases j with
    | zero =>
      have e : o = o' := by simpa using hj
      subst e
      obtain ⟨v', hv', ro⟩ := sr.env i o h
      rw [hv] at hv'; cases hv'
      exact ⟨v, rfl, ro.stay (Le.refl _) fun a r e => ⟨rfl, labIn_of e⟩⟩
    | succ j =>
      obtain ⟨w, h1, h2⟩ := env_vals (H := H) (lab := labIn lab i) (σ := []) r j o' (by simpa using hj)
      refine ⟨w, by simpa using h1, ?_⟩
      cases o' with
      | v d => cases h2 with | v h2 => exact .v h2
      | _ =>
        simp only [List.map_cons, List.getElem?_cons_succ, List.getElem?_map] at hj
        cases e : ds[j]? <;> (rw [e] at hj; simp at hj)
theorem sr_out {F' H' : Hp} {lab' : Lab} {i : Nat} {o o' : O} {v : V} {vs : List V} {os : List O} (sr : SR K mg F H lab σ ρ) (h : ρ[i]? = some (some o)) (hv : σ[i]? = some (some v))
    (mv : Move false F H (labIn lab i) F' H' lab') (sr' : SR K mg F' H' lab' ((v :: vs).map some) ((o' :: os).map some)) :
    Move false F H lab F' H' (labOut lab lab' i) ∧ SR K mg F' H' (labOut lab lab' i) σ (ρ.set i (some o')) := by
  have fr : ∀ a, Th H a → (∀ r, lab a ≠ some (i :: r)) → H' a = H a ∧ lab' a = none ∧ (F a = none → F' a = none) := fun a h1 h2 => by
    have e := labIn_none h2
    obtain ⟨g1, g2, g3⟩ := mv.fr a h1 (.inr e)
    exact ⟨g1, g2.trans e, g3⟩
  have out : ∀ {a}, lab' a = none → labOut lab lab' i a = unlab lab i a := fun {a} e => by unfold labOut; rw [e]
  refine ⟨⟨mv.ff, mv.th, fun a h1 h2 => ?_⟩, ⟨⟨sr'.bas.le, fun a p e => ?_, sr'.bas.nt⟩, sr'.tb, fun j o2 hj => ?_, by rw [List.length_set]; exact sr.len⟩⟩
  · have e : lab a = none := h2.elim (fun z => nomatch z) id
    obtain ⟨g1, g2, g3⟩ := fr a h1 fun r z => by rw [e] at z; cases z
    exact ⟨g1, by rw [out g2, unlab_none e, e], g3⟩
  · unfold labOut at e
    split at e
    · rename_i r er
      exact sr'.bas.lf a _ er
    · obtain ⟨e1, e2⟩ := unlab_sub e
      obtain ⟨h1, h2⟩ := sr.bas.lf a p e1
      obtain ⟨g1, g2, g3⟩ := fr a h2 fun r z => e2 r (Option.some.inj (e1.symm.trans z))
      exact ⟨g3 h1, h2.eq g1⟩
  · by_cases e : j = i
    · subst e
      by_cases hl : j < ρ.length
      · rw [List.getElem?_set_self hl] at hj
        cases hj
        obtain ⟨w, h1, h2⟩ := sr'.env 0 o' rfl
        have ew : v = w := by simpa using h1
        subst ew
        exact ⟨v, hv, h2.stay (Le.refl _) fun a r e => ⟨rfl, by unfold labOut; rw [show lab' a = some (0 :: r) from e]; rfl⟩⟩
      · rw [List.getElem?_eq_none (by rw [List.length_set]; omega)] at hj; cases hj
    · rw [List.getElem?_set_ne (Ne.symm e)] at hj
      obtain ⟨w, h1, h2⟩ := sr.env j o2 hj
      refine ⟨w, h1, h2.stay mv.ff fun a r z => ?_⟩
      obtain ⟨g1, g2, _⟩ := fr a (sr.bas.lf a _ z).2 fun r' z' => by
        rw [show lab a = some (j :: r) from z] at z'
        exact e (List.cons.inj (Option.some.inj z')).1
      exact ⟨g1, by rw [out g2]; exact unlab_other e z⟩
theorem ret_out {F' H' : Hp} {lab' : Lab} {i : Nat} {v : V} {p : P} (sr : SR K mg F H lab σ ρ) (mv : Move false F H (labIn lab i) F' H' lab') (r : RepP K mg (New false H (labIn lab i)) F' H' lab' v p) :
    RepP K mg (New false H lab) F' H' (labOut lab lab' i) v p := by
  cases p with
  | v d => exact r
  | s d => exact r
  | f o =>
    obtain ⟨l2, r, k⟩ := r
    refine ⟨l2, r, fun a p e => ?_⟩
    obtain ⟨h1, h2, h3⟩ := k a p e
    refine ⟨fun z1 z2 => h1 z1 (z2.imp id fun z => labIn_none fun r' z' => by rw [z] at z'; cases z'), ?_, h3⟩
    unfold labOut
    rw [h2]
    show unlab lab i a = none
    cases e2 : unlab lab i a with
    | none => rfl
    | some p' =>
      obtain ⟨e3, e4⟩ := unlab_sub e2
      exact (h1 (sr.bas.lf a _ e3).2 (.inr (labIn_none fun r' z' => e4 r' (Option.some.inj (e3.symm.trans z'))))).elim
end
section
variable {X : Cx} {W : WX} {q : Bool} {k n : Nat} {f : Addr} {fd : FuncData} {ps : List Str} {S : Fn} {x : Str} {p pos : Pos} {e : Expr} {es : List Expr} {g : Env → Out (List D)}
theorem FMeets.imp {K : PySem.W.Frag} {mg : Str → Option Value} {F H : Hp} {lab : Lab} {vs : List V} {fr : FR} {Q Q' : VK} {E E' : XK} (h : FMeets K mg F H lab vs fr Q E) (h1 : ∀ v H', Q v H' → Q' v H') (h2 : ∀ c d H', E c d H' → E' c d H') : FMeets K mg F H lab vs fr Q' E' := by
  cases fr with
  | no => exact h
  | exc x os => exact fun cls d F' H' lab' mv sr r => h2 _ _ _ (h cls d F' H' lab' mv sr r)
  | ret p os => exact fun v F' H' lab' mv sr r => h1 _ _ (h v F' H' lab' mv sr r)
theorem call_read {vs : List V} {ds : List D} {F H : Hp} {lab : Lab} {σ : L2.St} {ρ : Env} {Q : VK} (hn : ∀ os, S os ≠ .no → os.length = n) (sr : SR X.K X.mg F H lab σ ρ) (r : RepL X.K X.mg F vs ds)
    (m : Meets X.K X.mg W q F H lab σ (RepP X.K X.mg (New q H lab)) (match S (ds.map .v) with | .ret p _ => .ok p ρ | .exc x _ => .exc x ρ | .no => .no) Q) : spF X.K X.mg n S vs H Q (WE W σ) := by
  refine ⟨?_, F, fun _ => none, ds.map .v, sr_vals sr r, ?_⟩
  · rw [r.length]
    have := hn (ds.map .v) (fun z => by rw [z] at m; exact m)
    rw [← this, List.length_map]
  · cases hS : S (ds.map O.v) with
    | no => rw [hS] at m; exact m
    | exc x' os =>
      rw [hS] at m
      exact fun cls d F' H' lab' mv sr' rx => let ⟨a, b⟩ := back_vals sr mv sr'.bas sr'.tb false; m cls d F' H' lab a b rx
    | ret p' os =>
      rw [hS] at m
      exact fun v F' H' lab' mv sr' rp => let ⟨a, b⟩ := back_vals sr mv sr'.bas sr'.tb q; m v F' H' lab a b (back_ret sr rp)
theorem e_call (G : FnG X.prog X.w X.K X.mg X.base k f fd ps (spF X.K X.mg n S)) (hn : ∀ os, S os ≠ .no → os.length = n) (hr : RoomG k X.A) (tk : Takes X W) (hg : Gl X x) (hm : X.mg x = some (.ref f)) (hk : PySem.W.keepIn X.K (.ref f) = true) (hb : Binds X.K fd ps [])
    (ha : DA X W q (e :: es) g) (hdb : (x == ("__debug__" : Str)) = false := by decide) (he : starEach (e :: es) X.env = (false, eval e X.env) :: starEach es X.env := by rfl) (hpl : (backTo pos (starEach es X.env)).any (·.1) = false := by rfl) :
    DE X W q (.Call (.Name x p) (e :: es) [] pos) (sCall S g) := by
  refine PE_weak (pe_G G hr hg hm hk hb tk ha hdb he hpl) fun σ H Q h => ?_
  obtain ⟨ρ, F, lab, sr, m⟩ := h
  refine ⟨ρ, F, lab, sr, Meets.seq (rep2 := RepP X.K X.mg) id sinceP m fun xs ds ρ1 F1 H1 lab1 mv1 sr1 rp m1 => ?_⟩
  exact call_read hn sr1 rp m1
theorem e_callM (i : Nat) {y : Str} {ypos : Pos} (G : FnG X.prog X.w X.K X.mg X.base k f fd ps (spF X.K X.mg n S)) (hn : ∀ os, S os ≠ .no → os.length = n) (hr : RoomG k X.A) (tk : Takes X W) (hg : Gl X x) (hm : X.mg x = some (.ref f)) (hk : PySem.W.keepIn X.K (.ref f) = true) (hb : Binds X.K fd ps [])
    (ha : DA X W q es g) (hN : X.N[i]? = some y := by rfl) (hv : Vis X.env.scope y := by first | exact Or.inl rfl | exact Or.inr (Or.inl rfl) | exact Or.inr (Or.inr rfl)) (hd : (y == ("__debug__" : Str)) = false := by decide)
    (hcd : (y == ("__classdict__" : Str)) = false := by decide) (hdb : (x == ("__debug__" : Str)) = false := by decide) (he : starEach (.Name y ypos :: es) X.env = (false, eval (.Name y ypos) X.env) :: starEach es X.env := by rfl) (hpl : (backTo pos (starEach es X.env)).any (·.1) = false := by rfl) :
    DE X W false (.Call (.Name x p) (.Name y ypos :: es) [] pos) (sCallM S i g) := by
  refine PE_weak (pe_G G hr hg hm hk hb tk (pa_cons (pe_var hN hv hd hcd) ha he) hdb he hpl) fun σ H Q h => ?_
  obtain ⟨ρ, F, lab, sr, m⟩ := h
  unfold sCallM at m
  split at m
  case h_2 => exact m.elim
  rename_i o0 ho0
  obtain ⟨v, hv1, _⟩ := sr.env i o0 ho0
  refine ⟨v, hv1, ρ, F, lab, sr, Meets.seq (q := false) (qa := q) (rep2 := RepP X.K X.mg) (fun z => Bool.noConfusion z) sinceP m fun xs ds ρ1 F1 H1 lab1 mv1 sr1 rp m1 => ?_⟩
  split at m1
  · rename_i o ho
    have hv2 : σ[i]? = some (some v) := hv1
    refine ⟨?_, F1, labIn lab1 i, o :: ds.map .v, sr_in sr1 ho hv2 rp, ?_⟩
    · have := hn (o :: ds.map .v) (fun z => by rw [z] at m1; exact m1)
      rw [← this]; simp [rp.length]
    · cases hS : S (o :: ds.map O.v) with
      | no => rw [hS] at m1; exact m1
      | exc x' os =>
        rw [hS] at m1
        cases os with
        | nil => exact m1.elim
        | cons o' os =>
          exact fun cls d F' H' lab' mv sr' rx => let ⟨a, b⟩ := sr_out sr1 ho hv2 mv sr'; m1 cls d F' H' _ a b rx
      | ret p' os =>
        rw [hS] at m1
        cases os with
        | nil => exact m1.elim
        | cons o' os =>
          exact fun v F' H' lab' mv sr' rp => let ⟨a, b⟩ := sr_out sr1 ho hv2 mv sr'; m1 v F' H' _ a b (ret_out sr1 mv rp)
  · exact m1.elim
end
end LW

namespace LW
open PySem PySem.Spec PyProof.Rows L2
inductive Flow where
  | next (ρ : Env) | ret (p : P) (ρ : Env) | brk (ρ : Env) | cont (ρ : Env) | exc (x : EX) (ρ : Env) | no
structure Keep (ks : List Nat) (σ σ' : L2.St) : Prop where
  at_ : ∀ j ∈ ks, σ'[j]? = σ[j]?
  len : σ'.length = σ.length
theorem Keep.refl {ks : List Nat} {σ : L2.St} : Keep ks σ σ := ⟨fun _ _ => rfl, rfl⟩
theorem Keep.trans {ks : List Nat} {σ σ1 σ2 : L2.St} (a : Keep ks σ σ1) (b : Keep ks σ1 σ2) : Keep ks σ σ2 := ⟨fun j h => (b.at_ j h).trans (a.at_ j h), b.len.trans a.len⟩
theorem Keep.set {ks : List Nat} {σ : L2.St} {i : Nat} {v : Option V} (h : i ∉ ks) : Keep ks σ (σ.set i v) := ⟨fun j hj => by
  rw [List.getElem?_set_ne]
  intro e; subst e; exact h hj, List.length_set⟩
section
variable (K : PySem.W.Frag) (mg : Str → Option Value)
def SMeets (W : WX) (ks : List Nat) (F H : Hp) (lab : Lab) (σ : L2.St) (fl : Flow) (D : Ends) : Prop :=
  match fl with
  | .next ρ' => ∀ σ' F' H' lab', Move false F H lab F' H' lab' → SR K mg F' H' lab' σ' ρ' → Keep ks σ σ' → D.nx σ' H'
  | .brk ρ' => ∀ σ' F' H' lab', Move false F H lab F' H' lab' → SR K mg F' H' lab' σ' ρ' → Keep ks σ σ' → D.bk σ' H'
  | .cont ρ' => ∀ σ' F' H' lab', Move false F H lab F' H' lab' → SR K mg F' H' lab' σ' ρ' → Keep ks σ σ' → D.ct σ' H'
  | .ret p ρ' => ∀ v σ' F' H' lab', Move false F H lab F' H' lab' → SR K mg F' H' lab' σ' ρ' → Keep ks σ σ' → RepP K mg (New false H lab) F' H' lab' v p → D.rt v H'
  | .exc x ρ' => ∀ cls d σ' F' H' lab', Move false F H lab F' H' lab' → SR K mg F' H' lab' σ' ρ' → Keep ks σ σ' → RepX K mg F' cls d x → W cls d σ' H'
  | .no => False
def tDS (W : WX) (ks : List Nat) (g : Env → Flow) : TS := fun D σ H => ∃ ρ F lab, SR K mg F H lab σ ρ ∧ SMeets K mg W ks F H lab σ (g ρ) D
end
def DS (X : Cx) (W : WX) (ks : List Nat) (st : Stmt) (g : Env → Flow) : Prop := PS X st (tDS X.K X.mg W ks g)
def DSs (X : Cx) (W : WX) (ks : List Nat) (st : List Stmt) (g : Env → Flow) : Prop := PSs X st (tDS X.K X.mg W ks g)
theorem PSs_weak {X : Cx} {e : List Stmt} {t t' : TS} (h : PSs X e t) (k : ∀ D σ H, t' D σ H → t D σ H) : PSs X e t' := ⟨fun pins s σ H D I w => h.run pins s σ H D I (k D σ H w)⟩
section
variable {K : PySem.W.Frag} {mg : Str → Option Value} {W : WX} {ks : List Nat} {F H F1 H1 : Hp} {lab lab1 : Lab} {σ σ1 : L2.St} {ρ : Env} {fl : Flow} {D D' : Ends}
theorem SMeets.later (h : SMeets K mg W ks F H lab σ fl D) (mv : Move false F H lab F1 H1 lab1) (kp : Keep ks σ σ1) : SMeets K mg W ks F1 H1 lab1 σ1 fl D := by
  cases fl with
  | no => exact h
  | next ρ' => exact fun σ' F' H' lab' m s k => h σ' F' H' lab' (mv.trans m) s (kp.trans k)
  | brk ρ' => exact fun σ' F' H' lab' m s k => h σ' F' H' lab' (mv.trans m) s (kp.trans k)
  | cont ρ' => exact fun σ' F' H' lab' m s k => h σ' F' H' lab' (mv.trans m) s (kp.trans k)
  | ret p ρ' => exact fun v σ' F' H' lab' m s k r => h v σ' F' H' lab' (mv.trans m) s (kp.trans k) (r.since fun a n => n.since mv id)
  | exc x ρ' => exact fun c d σ' F' H' lab' m s k r => h c d σ' F' H' lab' (mv.trans m) s (kp.trans k) r
def sSeq (g1 g2 : Env → Flow) (ρ : Env) : Flow := match g1 ρ with
  | .next ρ1 => g2 ρ1
  | fl => fl
def flow {α : Type} (m : Out α) (k : α → Env → Flow) : Flow := match m with
  | .ok a ρ => k a ρ
  | .exc x ρ => .exc x ρ
  | .no => .no
@[simp] theorem flow_ok {α : Type} (a : α) (ρ : Env) (k : α → Env → Flow) : flow (.ok a ρ) k = k a ρ := rfl
@[simp] theorem flow_exc {α : Type} (x : EX) (ρ : Env) (k : α → Env → Flow) : flow (.exc x ρ) k = .exc x ρ := rfl
@[simp] theorem flow_no {α : Type} (k : α → Env → Flow) : flow .no k = .no := rfl
theorem SMeets.expr {α β : Type} {q : Bool} {m : Out α} {k : α → Env → Flow} {rep : Hp → Hp → Lab → β → α → Prop} {Q1 : β → Hp → Prop} (h : SMeets K mg W ks F H lab σ (flow m k) D)
    (step : ∀ b a ρ1 F1 H1 lab1, Move q F H lab F1 H1 lab1 → SR K mg F1 H1 lab1 σ ρ1 → rep F1 H1 lab1 b a → SMeets K mg W ks F1 H1 lab1 σ (k a ρ1) D → Q1 b H1) : Meets K mg W q F H lab σ rep m Q1 := by
  cases m with
  | no => exact h
  | exc x ρ' => exact fun cls d F1 H1 lab1 mv sr rx => h cls d σ F1 H1 lab1 mv sr Keep.refl rx
  | ok a ρ1 => exact fun b F1 H1 lab1 mv sr r => step b a ρ1 F1 H1 lab1 mv sr r (SMeets.later h mv.to_false Keep.refl)
end
section
variable {X : Cx} {W : WX} {ks : List Nat} {st : Stmt} {sts rest : List Stmt} {g g1 g2 : Env → Flow} {pos : Pos} {e : Expr} {q : Bool} {f : Env → Out P}
theorem s_nil : DSs X W ks [] Flow.next := PSs_weak pss_nil fun D σ H h => by
  obtain ⟨ρ, F, lab, sr, m⟩ := h
  exact m σ F H lab Move.refl sr Keep.refl
theorem s_cons (h1 : DS X W ks st g1) (h2 : DSs X W ks rest g2) : DSs X W ks (st :: rest) (sSeq g1 g2) := PSs_weak (pss_cons h1 h2) fun D σ H h => by
  obtain ⟨ρ, F, lab, sr, m⟩ := h
  refine ⟨ρ, F, lab, sr, ?_⟩
  unfold sSeq at m
  cases hg : g1 ρ with
  | next ρ1 =>
    rw [hg] at m
    exact fun σ' F' H' lab' mv s k => ⟨ρ1, F', lab', s, SMeets.later m mv k⟩
  | no => rw [hg] at m; exact m
  | brk ρ' => rw [hg] at m; exact m
  | cont ρ' => rw [hg] at m; exact m
  | ret p ρ' => rw [hg] at m; exact m
  | exc x ρ' => rw [hg] at m; exact m
theorem s_one (h1 : DS X W ks st g1) : DSs X W ks [st] g1 := pss_one h1
def sIf (t : Env → Out Bool) (g1 g2 : Env → Flow) (ρ : Env) : Flow := flow (t ρ) fun k ρ1 => if k = true then g1 ρ1 else g2 ρ1
theorem s_if {c : Expr} {a b : List Stmt} {t : Env → Out Bool} (hc : DT X W q c t) (ha : DSs X W ks a g1) (hb : DSs X W ks b g2) : DS X W ks (.If c a b pos) (sIf t g1 g2) := PS_weak (ps_if hc ha hb) fun D σ H h => by
  obtain ⟨ρ, F, lab, sr, m⟩ := h
  refine ⟨ρ, F, lab, sr, SMeets.expr m fun x k ρ1 F1 H1 lab1 mv1 sr1 rp m1 => ?_⟩
  subst rp
  cases x with
  | true => exact ⟨ρ1, F1, lab1, sr1, m1⟩
  | false => exact ⟨ρ1, F1, lab1, sr1, m1⟩
def sExp (f : Env → Out P) (ρ : Env) : Flow := flow (f ρ) fun _ ρ1 => .next ρ1
theorem s_expr (he : DE X W q e f) (hs : swapsWith e none pos.line X.env = pure false := by rfl) : DS X W ks (.Expr e pos) (sExp f) := PS_weak (ps_expr he hs) fun D σ H h => by
  obtain ⟨ρ, F, lab, sr, m⟩ := h
  refine ⟨ρ, F, lab, sr, SMeets.expr m fun x k ρ1 F1 H1 lab1 mv1 sr1 rp m1 => ?_⟩
  exact m1 σ F1 H1 lab1 Move.refl sr1 Keep.refl
def sRet (f : Env → Out P) (ρ : Env) : Flow := flow (f ρ) fun p ρ1 => match p with
  | .s _ => .no
  | p => .ret p ρ1
theorem s_ret (he : DE X W q e f) : DS X W ks (.Return (some e) pos) (sRet f) := PS_weak (ps_ret he) fun D σ H h => by
  obtain ⟨ρ, F, lab, sr, m⟩ := h
  unfold sRet at m
  refine ⟨ρ, F, lab, sr, ?_⟩
  cases hf : f ρ with
  | no => rw [hf] at m; exact m
  | exc x ρ' => rw [hf] at m; exact fun cls d F1 H1 lab1 mv sr rx => m cls d σ F1 H1 lab1 mv sr Keep.refl rx
  | ok p ρ' =>
    rw [hf, flow_ok] at m
    intro v F1 H1 lab1 mv sr1 rp
    cases p with
    | s d => exact m.elim
    | v d => exact m v σ F1 H1 lab1 mv.to_false sr1 Keep.refl rp
    | f o => exact m v σ F1 H1 lab1 mv.to_false sr1 Keep.refl (rp.since fun a n => n.weak fun z => nomatch z)
def labPut (lab l2 : Lab) (i : Nat) : Lab := fun a => match l2 a with
  | some r => some (i :: r)
  | none => lab a
theorem sr_put {K : PySem.W.Frag} {mg : Str → Option Value} {q : Bool} {F0 H0 F H : Hp} {lab0 lab : Lab} {σ : L2.St} {ρ : Env} {i : Nat} {v : V} {o : O} (hi : i < ρ.length) (mv : Move q F0 H0 lab0 F H lab) (sr : SR K mg F H lab σ ρ) (r : RepP K mg (New q H0 lab0) F H lab v (.f o)) :
    ∃ lab', Move q F0 H0 lab0 F H lab' ∧ SR K mg F H lab' (σ.set i (some v)) (ρ.set i (some o)) := by
  obtain ⟨l2, r, k⟩ := r
  have hp : ∀ {a}, l2 a = none → labPut lab l2 i a = lab a := fun {a} e => by unfold labPut; rw [e]
  refine ⟨labPut lab l2 i, ⟨mv.ff, mv.th, fun a h1 h2 => ?_⟩, ⟨⟨sr.bas.le, fun a p e => ?_, sr.bas.nt⟩, sr.tb, fun j o' hj => ?_, by rw [List.length_set, List.length_set]; exact sr.len⟩⟩
  · obtain ⟨g1, g2, g3⟩ := mv.fr a h1 h2
    refine ⟨g1, ?_, g3⟩
    cases e : l2 a with
    | none => rw [hp e]; exact g2
    | some r' => exact ((k a r' e).1 h1 h2).elim
  · unfold labPut at e
    split at e
    · rename_i r' e2
      exact (k a r' e2).2.2
    · exact sr.bas.lf a p e
  · by_cases e : j = i
    · subst e
      rw [List.getElem?_set_self hi] at hj
      cases hj
      exact ⟨v, by rw [List.getElem?_set_self (by rw [← sr.len]; exact hi)], r.stay (Le.refl _) fun a r' e => ⟨rfl, by unfold labPut; rw [show l2 a = some r' from e]; rfl⟩⟩
    · rw [List.getElem?_set_ne (Ne.symm e)] at hj
      obtain ⟨w, h1, h2⟩ := sr.env j o' hj
      refine ⟨w, by rw [List.getElem?_set_ne (Ne.symm e)]; exact h1, h2.stay (Le.refl _) fun a r' z => ⟨rfl, ?_⟩⟩
      cases e2 : l2 a with
      | none => rw [hp e2]; exact z
      | some r2 => exact absurd ((show lab a = some (j :: r') from z).symm.trans (k a r2 e2).2.1) (fun z' => nomatch z')
def sSet (i : Nat) (f : Env → Out P) (ρ : Env) : Flow := flow (f ρ) fun p ρ1 => match p with
  | .v d => .next (ρ1.set i (some (.v d)))
  | .f o => .next (ρ1.set i (some o))
  | .s _ => .no
theorem sr_putv {K : PySem.W.Frag} {mg : Str → Option Value} {F H : Hp} {lab : Lab} {σ : L2.St} {ρ : Env} {i : Nat} {v : V} {d : D} (sr : SR K mg F H lab σ ρ) (r : Rep K mg F v d) : SR K mg F H lab (σ.set i (some v)) (ρ.set i (some (.v d))) := by
  refine ⟨sr.bas, sr.tb, fun j o' hj => ?_, by rw [List.length_set, List.length_set]; exact sr.len⟩
  by_cases e : j = i
  · subst e
    by_cases hl : j < ρ.length
    · rw [List.getElem?_set_self hl] at hj
      cases hj
      exact ⟨v, by rw [List.getElem?_set_self (by rw [← sr.len]; exact hl)], .v r⟩
    · rw [List.getElem?_eq_none (by rw [List.length_set]; omega)] at hj; cases hj
  · rw [List.getElem?_set_ne (Ne.symm e)] at hj
    obtain ⟨w, h1, h2⟩ := sr.env j o' hj
    exact ⟨w, by rw [List.getElem?_set_ne (Ne.symm e)]; exact h1, h2⟩
theorem put_read {i : Nat} {x : Str} (hi : X.N[i]? = some x) (hk : i ∉ ks) {D : Ends} {σ : L2.St} {H : Hp} (hl : σ.length = X.N.length) (h : tDS X.K X.mg W ks (sSet i f) D σ H) : tAsg (tD X.K X.mg W q f) (gName i) D σ H := by
  obtain ⟨ρ, F, lab, sr, m⟩ := h
  have hiρ : i < ρ.length := by
    rw [sr.len, hl]
    exact (List.getElem?_eq_some_iff.mp hi).1
  refine ⟨ρ, F, lab, sr, ?_⟩
  unfold sSet at m
  cases hf : f ρ with
  | no => rw [hf] at m; exact m
  | exc x ρ' => rw [hf] at m; exact fun cls d F1 H1 lab1 mv sr rx => m cls d σ F1 H1 lab1 mv sr Keep.refl rx
  | ok p ρ' =>
    rw [hf, flow_ok] at m
    intro v F1 H1 lab1 mv sr1 rp
    cases p with
    | s d => exact m.elim
    | v d => exact m _ F1 H1 lab1 mv.to_false (sr_putv sr1 rp) (Keep.set hk)
    | f o =>
      have hi1 : i < ρ'.length := by rw [sr1.len, ← sr.len]; exact hiρ
      obtain ⟨lab', mv', sr'⟩ := sr_put hi1 mv sr1 rp
      exact m _ F1 H1 lab' mv'.to_false sr' (Keep.set hk)
theorem s_set {i : Nat} {x : Str} {pos' : Pos} (hN : X.N.Nodup) (hi : X.N[i]? = some x) (hx : Loc X.env.scope x) (hk : i ∉ ks) (he : DE X W q e f) (hs : swapsWith e (some (.Name x pos')) pos.line X.env = pure false := by rfl) (hf : X.fn x = true ∨ X.env.scope.names.lookup x = some .local := by first | exact .inl rfl | exact .inr rfl | assumption) :
    DS X W ks (.Assign [.Name x pos'] e pos) (sSet i f) := by
  refine ⟨fun pins s σ H D I w => (ps_set hN hi hx he hs hf).run pins s σ H D I (put_read hi hk I.len w)⟩
end
def getO (ρ : Env) (j : Nat) : Option O := match ρ[j]? with
  | some z => z
  | none => none
def O.isV : O → Bool
  | .v _ => true
  | _ => false
def argsOk (own : Bool) (os : List O) : Bool := match own, os with
  | true, _ :: r => r.all O.isV
  | true, [] => false
  | false, os => os.all O.isV
def outs (own : Bool) (os : List O) (ρ : Env) : Option (List O) := match own, os with
  | true, _ :: r => (getO ρ 0).map (· :: r)
  | true, [] => none
  | false, os => some os
def runFn (own : Bool) (n m : Nat) (body : Env → Flow) : Fn := fun os => if os.length = n ∧ argsOk own os = true then (match body (os.map some ++ List.replicate (m - n) none) with
  | .next ρ => (match outs own os ρ with | some os' => .ret (.v .non) os' | none => .no)
  | .ret p ρ => (match outs own os ρ with | some os' => .ret p os' | none => .no)
  | .exc x ρ => (match outs own os ρ with | some os' => .exc x os' | none => .no)
  | _ => .no) else .no
theorem runFn_len {own : Bool} {n m : Nat} {body : Env → Flow} (os : List O) (h : runFn own n m body os ≠ .no) : os.length = n := by
  unfold runFn at h
  by_cases e : os.length = n ∧ argsOk own os = true
  · exact e.1
  · rw [if_neg e] at h; exact absurd rfl h
section
variable {P : Program} {w : World} {K : PySem.W.Frag} {mg : Str → Option Value} {base : Heap}
theorem isV_all {os : List O} (h : os.all O.isV = true) {j : Nat} {o : O} (e : os[j]? = some o) : ∃ d, o = .v d := by
  have := List.all_eq_true.mp h o (List.mem_of_getElem? e)
  cases o with
  | v d => exact ⟨d, rfl⟩
  | l _ => cases this
  | k _ _ => cases this
  | i _ _ => cases this
  | m _ => cases this
theorem sr_end {own : Bool} {F H F' H' : Hp} {lab lab' : Lab} {vs : List V} {σ' : L2.St} {ρ' : Env} {os os' : List O} (sr : SR K mg F H lab (vs.map some) (os.map some))
    (hv : argsOk own os = true) (mv : Move false F H lab F' H' lab') (sr' : SR K mg F' H' lab' σ' ρ') (kp : own = true → σ'[0]? = (vs.map some)[0]?)
    (e : outs own os ρ' = some os') : SR K mg F' H' lab' (vs.map some) (os'.map some) := by
  have vals : ∀ (j : Nat) (o : O), os[j]? = some o → (∃ d, o = .v d) → ∃ v, (vs.map some)[j]? = some (some v) ∧ RepO K mg F' H' lab' [j] v o := fun j o h1 h2 => by
    obtain ⟨d, rfl⟩ := h2
    obtain ⟨v, g1, g2⟩ := sr.env j (.v d) (by rw [List.getElem?_map, h1]; rfl)
    cases g2 with | v r => exact ⟨v, g1, .v (r.mono mv.ff)⟩
  have hlen : os.length = vs.length := by have := sr.len; simpa using this
  cases own with
  | false =>
    have e' : some os = some os' := e
    cases e'
    refine ⟨sr'.bas, sr'.tb, fun j o hj => ?_, by simpa using hlen⟩
    have hj' : os[j]? = some o := by
      rw [List.getElem?_map] at hj
      cases e2 : os[j]? with
      | none => rw [e2] at hj; cases hj
      | some z => rw [e2] at hj; simpa using hj
    exact vals j o hj' (isV_all hv hj')
  | true =>
    cases os with
    | nil => cases hv
    | cons o0 r =>
      have e' : (getO ρ' 0).map (· :: r) = some os' := e
      cases ho : getO ρ' 0 with
      | none => rw [ho] at e'; cases e'
      | some o' =>
        rw [ho] at e'
        cases e'
        refine ⟨sr'.bas, sr'.tb, fun j o hj => ?_, by simpa using hlen⟩
        cases j with
        | zero =>
          have eo : o' = o := by simpa using hj
          subst eo
          have hρ : ρ'[0]? = some (some o') := by
            unfold getO at ho
            split at ho
            · rename_i z hz
              rw [hz, ho]
            · cases ho
          obtain ⟨v, g1, g2⟩ := sr'.env 0 o' hρ
          exact ⟨v, by rw [← kp rfl]; exact g1, g2⟩
        | succ j =>
          have hj' : r[j]? = some o := by
            simp only [List.map_cons, List.getElem?_cons_succ, List.getElem?_map] at hj
            cases e2 : r[j]? with
            | none => rw [e2] at hj; cases hj
            | some z => rw [e2] at hj; simpa using hj
          exact vals (j + 1) o (by simpa using hj') (isV_all (show r.all O.isV = true from hv) hj')
def keepOf (own : Bool) : List Nat := if own = true then [0] else []
theorem fn_def {own : Bool} {n m k : Nat} {x qual : Str} {st : Stmt} {f : Addr} {fd : FuncData} {N ps : List Str} {body : Env → Flow} (FF : Fun K x qual st f fd) (S : FnScope N ps (defScope st)) (hn : ps.length = n) (hm : N.length = m)
    (hbody : ∀ (cdv : Value) (_ : fd.code = cdv) (A : Around) (outer : List PySem.Env) (s : Shared) (H : Hp) (E : XK), RoomG k (A.deeper (envOfC qual (defScope st) s.heap.objs.size f cdv)) →
      DSs (cxOf (L2.CX P w) P w K mg base N qual (defScope st) f cdv A outer s H E) (fun cls d _ H' => E cls d H') (keepOf own) (defBody st) body) :
    FnG P w K mg base (k + 1) f fd ps (spF K mg n (runFn own n m body)) := by
  refine fn_G FF S (fun vs H Q E h => h.1.trans hn.symm) fun cdv hcd A outer s H vs Q E hr h => ?_
  obtain ⟨hl, F, lab, os, sr, fm⟩ := h
  refine ⟨_, hbody cdv hcd A outer s H E hr, ?_⟩
  have hos : os.length = n := by have := sr.len; simp at this; omega
  unfold runFn at fm
  by_cases hc : os.length = n ∧ argsOk own os = true
  · rw [if_pos hc] at fm
    have st : L2.start N vs = vs.map some ++ List.replicate (m - n) none := by unfold L2.start; rw [hm, hl]
    have sr0 : SR K mg F H lab (L2.start N vs) (os.map some ++ List.replicate (m - n) none) := by
      rw [st]
      refine ⟨sr.bas, sr.tb, fun j o hj => ?_, by simp [hos, hl]⟩
      by_cases hjl : j < os.length
      · rw [List.getElem?_append_left (by simpa using hjl)] at hj
        obtain ⟨v, h1, h2⟩ := sr.env j o hj
        exact ⟨v, by rw [List.getElem?_append_left (by simp; omega)]; exact h1, h2⟩
      · rw [List.getElem?_append_right (by simp; omega), List.getElem?_replicate] at hj
        split at hj <;> cases hj
    have kp : ∀ {σ' : L2.St}, Keep (keepOf own) (L2.start N vs) σ' → own = true → σ'[0]? = (vs.map some)[0]? := fun {σ'} h z => by
      subst z
      rw [h.at_ 0 (by simp [keepOf]), st, List.getElem?_append_left]
      cases os with
      | nil => cases hc.2
      | cons o r => simp at hos; simp; omega
    refine ⟨_, F, lab, sr0, ?_⟩
    cases hb : body (os.map some ++ List.replicate (m - n) none) with
    | no => rw [hb] at fm; exact fm
    | brk ρ' => rw [hb] at fm; exact fm.elim
    | cont ρ' => rw [hb] at fm; exact fm.elim
    | next ρ' =>
      rw [hb] at fm
      cases ho : outs own os ρ' with
      | none => simp only [ho] at fm; exact fm.elim
      | some os' =>
        simp only [ho] at fm
        exact fun σ' F' H' lab' mv sr' k' => fm _ F' H' lab' mv (sr_end sr hc.2 mv sr' (kp k') ho) Rep.non
    | ret p ρ' =>
      rw [hb] at fm
      cases ho : outs own os ρ' with
      | none => simp only [ho] at fm; exact fm.elim
      | some os' =>
        simp only [ho] at fm
        exact fun v σ' F' H' lab' mv sr' k' rp => fm _ F' H' lab' mv (sr_end sr hc.2 mv sr' (kp k') ho) rp
    | exc x ρ' =>
      rw [hb] at fm
      cases ho : outs own os ρ' with
      | none => simp only [ho] at fm; exact fm.elim
      | some os' =>
        simp only [ho] at fm
        exact fun cls d σ' F' H' lab' mv sr' k' rx => fm _ _ F' H' lab' mv (sr_end sr hc.2 mv sr' (kp k') ho) rx
  · rw [if_neg hc] at fm
    exact fm.elim
end
end LW

namespace LW
open PySem PySem.Spec PyProof.Rows L2
def Walks (K : PySem.W.Frag) (mg : Str → Option Value) (F : Hp) (J : It) (ds : List D) : Prop :=
  ∀ F' H', Le F F' → Le F' H' → (∀ i, ds.length ≤ i → J.stop i H') ∧
    ∀ i d, ds[i]? = some d → J.go i H' ∧ ∀ x H'', J.yld i H' x H'' → ∃ F'', Grow K mg F' H' F'' H'' ∧ Rep K mg F'' x d
section
variable (K : PySem.W.Frag) (mg : Str → Option Value)
def tDI (W : WX) (q : Bool) (h : Env → Out (List D)) : TI := fun σ H R => ∃ ρ F lab, SR K mg F H lab σ ρ ∧ Meets K mg W q F H lab σ (fun F' _ _ J ds => Walks K mg F' J ds ∧ ds.length ≤ sizeLine) (h ρ) R
def tDG (ks : List Nat) (tg : D → Env → Option Env) : TG := fun v σ H Q => ∃ ρ F lab d, SR K mg F H lab σ ρ ∧ Rep K mg F v d ∧ match tg d ρ with
  | some ρ' => ∀ σ' F' H' lab', Move true F H lab F' H' lab' → SR K mg F' H' lab' σ' ρ' → Keep ks σ σ' → Q σ' H'
  | none => False
def tDGs (ks : List Nat) (tg : List D → Env → Option Env) : TGs := fun vs σ H Q => ∃ ρ F lab ds, SR K mg F H lab σ ρ ∧ RepL K mg F vs ds ∧ match tg ds ρ with
  | some ρ' => ∀ σ' F' H' lab', Move true F H lab F' H' lab' → SR K mg F' H' lab' σ' ρ' → Keep ks σ σ' → Q σ' H'
  | none => False
end
def DI (X : Cx) (W : WX) (q : Bool) (tgt iter : Expr) (h : Env → Out (List D)) : Prop := PI X tgt iter (tDI X.K X.mg W q h)
def DG (X : Cx) (ks : List Nat) (e : Expr) (tg : D → Env → Option Env) : Prop := PG X e (tDG X.K X.mg ks tg)
def DGs (X : Cx) (ks : List Nat) (es : List Expr) (tg : List D → Env → Option Env) : Prop := PGs X es (tDGs X.K X.mg ks tg)
theorem PG_weak {X : Cx} {e : Expr} {t t' : TG} (h : PG X e t) (k : ∀ v σ H Q, t' v σ H Q → t v σ H Q) : PG X e t' := ⟨fun pins s σ H v u Q I r w => h.run pins s σ H v u Q I r (k v σ H Q w)⟩
theorem PGs_weak {X : Cx} {e : List Expr} {t t' : TGs} (h : PGs X e t) (k : ∀ v σ H Q, t' v σ H Q → t v σ H Q) : PGs X e t' := ⟨fun pins s σ H v u Q I r w => h.run pins s σ H v u Q I r (k v σ H Q w)⟩
def gSet (i : Nat) (d : D) (ρ : Env) : Option Env := some (ρ.set i (some (.v d)))
def gsNil (ds : List D) (ρ : Env) : Option Env := match ds with
  | [] => some ρ
  | _ => none
def gsCons (t : D → Env → Option Env) (u : List D → Env → Option Env) (ds : List D) (ρ : Env) : Option Env := match ds with
  | d :: r => (match t d ρ with
    | some ρ1 => u r ρ1
    | none => none)
  | [] => none
def gTupD (n : Nat) (u : List D → Env → Option Env) (d : D) (ρ : Env) : Option Env := match d with
  | .tup ds => if ds.length = n then u ds ρ else none
  | _ => none
section
variable {X : Cx} {ks : List Nat} {pos : Pos} {e : Expr} {es : List Expr} {t : D → Env → Option Env} {u : List D → Env → Option Env}
theorem g_name {i : Nat} {x : Str} (hN : X.N.Nodup) (hi : X.N[i]? = some x) (hx : Loc X.env.scope x) (hk : i ∉ ks) (hf : X.fn x = true ∨ X.env.scope.names.lookup x = some .local := by first | exact .inl rfl | exact .inr rfl | assumption) : DG X ks (.Name x pos) (gSet i) := by
  refine PG_weak (pg_name hN hi hx hf) fun v σ H Q h => ?_
  obtain ⟨ρ, F, lab, d, sr, r, m⟩ := h
  exact m _ F H lab Move.refl (sr_putv sr r) (Keep.set hk)
theorem g_nil : DGs X ks [] gsNil := by
  refine PGs_weak pgs_nil fun v σ H Q h => ?_
  obtain ⟨ρ, F, lab, ds, sr, r, m⟩ := h
  cases r with
  | nil => exact ⟨rfl, m _ F H lab Move.refl sr Keep.refl⟩
  | cons _ _ => exact m.elim
theorem g_cons (h1 : DG X ks e t) (h2 : DGs X ks es u) (hs : (assignEach (e :: es) X.env).map (·.2) = assign e X.env :: (assignEach es X.env).map (·.2) := by rfl) : DGs X ks (e :: es) (gsCons t u) := by
  refine PGs_weak (pgs_cons h1 h2 hs) fun v σ H Q h => ?_
  obtain ⟨ρ, F, lab, ds, sr, r, m⟩ := h
  cases r with
  | nil => exact m.elim
  | cons r rs =>
    refine ⟨_, _, rfl, ρ, F, lab, _, sr, r, ?_⟩
    unfold gsCons at m
    simp only at m
    split at m
    · rename_i ρ' e'
      split at e'
      · rename_i ρ1 e1
        exact fun σ' F' H' lab' mv s k => ⟨ρ1, F', lab', _, s, rs.mono mv.ff, by rw [e']; exact fun σ2 F2 H2 lab2 mv2 s2 k2 => m σ2 F2 H2 lab2 (mv.trans mv2) s2 (k.trans k2)⟩
      · cases e'
    · exact m.elim
theorem g_tup {kk n : Nat} (hc : X.calm = true) (h : DGs X ks es u) (hn : (assignEach es X.env).length = n := by rfl) (hst : (assignEach es X.env).findIdx? (·.1) = none := by rfl) : DG X ks (.Tuple es kk pos) (gTupD n u) := by
  refine PG_weak (pg_tup hc h hn hst) fun v σ H Q h => ?_
  obtain ⟨ρ, F, lab, d, sr, r, m⟩ := h
  cases r with
  | tup hq rs =>
    unfold gTupD at m
    simp only at m
    split at m
    · rename_i ρ' e'
      split at e'
      · rename_i hl
        exact ⟨_, _, rfl, SqT.of (sr.bas.le _ _ hq), rs.length.trans hl, ρ, F, lab, _, sr, rs, by rw [e']; exact m⟩
      · cases e'
    · exact m.elim
  | _ => exact m.elim
end
def itemsOf : D → Option (List D)
  | .lst ds => some ds
  | .tup ds => some ds
  | .str s => if s.length ≤ sizeLine then some (s.cps.toList.map fun c => .str ⟨#[c]⟩) else none
  | _ => none
def hSeq (f : Env → Out P) (ρ : Env) : Out (List D) := (sFz f ρ).bind fun p ρ1 => match p with
  | .v d => (match itemsOf d with
    | some ds => .ok ds ρ1
    | none => .no)
  | _ => .no
section
variable {K : PySem.W.Frag} {mg : Str → Option Value} {F : Hp}
theorem walks_list {a : Addr} {xs : List V} {ds : List D} (h : SqL K F a xs) (r : RepL K mg F xs ds) : Walks K mg F (Itl K a) ds := fun F' H' l1 l2 => by
  have hs : SqL K H' a xs := SqL_le (l1.trans l2) h
  refine ⟨fun i hi => ⟨xs, hs, by rw [r.length]; exact hi⟩, fun i d e => ?_⟩
  obtain ⟨x, hx, rx⟩ := r.get e
  refine ⟨⟨xs, x, hs, hx⟩, fun y H'' hy => ?_⟩
  obtain ⟨rfl, hy⟩ := hy
  have := hy xs hs
  rw [hx] at this; cases this
  exact ⟨F', Grow.refl l2, rx.mono l1⟩
theorem walks_tup {a : Addr} {xs : List V} {ds : List D} (h : SqT K F a xs) (r : RepL K mg F xs ds) : Walks K mg F (Itt K a) ds := fun F' H' l1 l2 => by
  have hs : SqT K H' a xs := SqT_le (l1.trans l2) h
  refine ⟨fun i hi => ⟨xs, hs, by rw [r.length]; exact hi⟩, fun i d e => ?_⟩
  obtain ⟨x, hx, rx⟩ := r.get e
  refine ⟨⟨xs, x, hs, hx⟩, fun y H'' hy => ?_⟩
  obtain ⟨rfl, hy⟩ := hy
  have := hy xs hs
  rw [hx] at this; cases this
  exact ⟨F', Grow.refl l2, rx.mono l1⟩
theorem walks_str {x : Str} : Walks K mg F (Its x) (x.cps.toList.map fun c => .str ⟨#[c]⟩) := fun F' H' l1 l2 => by
  refine ⟨fun i hi => by show x.cps.size ≤ i; simpa using hi, fun i d e => ?_⟩
  rw [List.getElem?_map] at e
  cases hc : x.cps.toList[i]? with
  | none => rw [hc] at e; cases e
  | some c =>
    rw [hc] at e
    have ed : D.str ⟨#[c]⟩ = d := Option.some.inj e
    subst ed
    have hc' : x.cps[i]? = some c := by rw [← Array.getElem?_toList]; exact hc
    refine ⟨(Array.getElem?_eq_some_iff.mp hc').1, fun y H'' hy => ?_⟩
    obtain ⟨rfl, c', h1, rfl⟩ := hy
    rw [hc'] at h1; cases h1
    exact ⟨F', Grow.refl l2, .str _⟩
theorem walks_range {lo : Int} {n : Nat} : Walks K mg F (Itr lo n) ((List.range n).map fun i : Nat => .int (lo + i)) := fun F' H' l1 l2 => by
  refine ⟨fun i hi => by show n ≤ i; simpa using hi, fun i d e => ?_⟩
  rw [List.getElem?_map] at e
  by_cases hi : i < n
  · rw [List.getElem?_range hi] at e
    have ed : D.int (lo + (i : Nat)) = d := Option.some.inj e
    subst ed
    refine ⟨hi, fun y H'' hy => ?_⟩
    obtain ⟨rfl, rfl⟩ := hy
    exact ⟨F', Grow.refl l2, .int _⟩
  · rw [List.getElem?_eq_none (by simpa using hi)] at e; cases e
end
section
variable {X : Cx} {W : WX} {q : Bool} {tgt e : Expr} {f : Env → Out P}
theorem tail_of {R : It → Hp → Prop} {F H : Hp} {lab : Lab} {σ : L2.St} {ρ : Env} {q : Bool} {ds : List D} {J : It} (m : Meets X.K X.mg W q F H lab σ (fun F' _ _ J ds => Walks X.K X.mg F' J ds ∧ ds.length ≤ sizeLine) (.ok ds ρ) R)
    (sr : SR X.K X.mg F H lab σ ρ) (w : Walks X.K X.mg F J ds) (hz : ds.length ≤ sizeLine) : R J H := m J F H lab Move.refl sr ⟨w, hz⟩
theorem i_seq (he : DE X W q e f) : DI X W q tgt e (hSeq f) := by
  refine ⟨fun pins s σ H R I h => ?_⟩
  obtain ⟨ρ, F, lab, sr, m⟩ := h
  have he' := e_fz he
  refine thn (he'.run pins s σ H (fun v H1 => ∃ d ρ1 F1 lab1, SR X.K X.mg F1 H1 lab1 σ ρ1 ∧ Rep X.K X.mg F1 v d ∧ Meets X.K X.mg W q F1 H1 lab1 σ (fun F' _ _ J ds => Walks X.K X.mg F' J ds ∧ ds.length ≤ sizeLine) (match itemsOf d with | some ds => .ok ds ρ1 | none => .no) R) I
    ⟨ρ, F, lab, sr, Meets.seq (rep2 := fun _ F' _ _ J ds => Walks X.K X.mg F' J ds ∧ ds.length ≤ sizeLine) id (fun _ _ _ _ _ _ _ _ r => r) m fun v p ρ1 F1 H1 lab1 mv1 sr1 rp m1 => ?_⟩) fun v s1 ⟨x, H1, I1, r1, d, ρ1, F1, lab1, sr1, rd, m1⟩ => ?_
  · cases p with
    | v d => exact ⟨d, ρ1, F1, lab1, sr1, rp, m1⟩
    | f _ => exact m1.elim
    | s _ => exact m1.elim
  · cases rd with
    | lst hq rs =>
      obtain rfl : v = Value.ref _ := r1
      have hq1 : SqL X.K H1 _ _ := SqL_le sr1.bas.le hq
      obtain ⟨its, rv, p, hz⟩ := I1.list hq1
      refine wpAny_pyIter_list p.isList ?_
      refine ⟨s1.heap.objs.size, [s1.heap.objs.size], _, _, H1, rfl, I1.kept (t' := s1.toks) fun b o e => Heap.get?_push_of_some _ e, turn_list _ _, ⟨_, Heap.get?_push_size _ rfl, rfl, rfl⟩, fun b hb => ?_, ?_⟩
      · have e : b = s1.heap.objs.size := by simpa using hb
        subst e
        exact I1.fpOk (Nat.le_refl _) (I1.hok.fresh (Nat.le_refl _))
      · exact tail_of m1 sr1 (walks_list hq rs) (by rw [← rs.length]; exact hz)
    | tup hq rs =>
      obtain rfl : v = Value.ref _ := r1
      obtain ⟨its, rv, p, hz⟩ := I1.tuple (SqT.of (sr1.bas.le _ _ hq))
      refine wpAny_pyIter_tuple (show s1.heap.IsTuple _ its.toArray from p) ?_
      refine ⟨s1.heap.objs.size, [s1.heap.objs.size], _, _, H1, rfl, I1.kept (t' := s1.toks) fun b o e => Heap.get?_push_of_some _ e, turn_tuple _ _, ⟨_, Heap.get?_push_size _ rfl, rfl, rfl⟩, fun b hb => ?_, ?_⟩
      · have e : b = s1.heap.objs.size := by simpa using hb
        subst e
        exact I1.fpOk (Nat.le_refl _) (I1.hok.fresh (Nat.le_refl _))
      · exact tail_of m1 sr1 (walks_tup (SqT.of hq) rs) (by rw [← rs.length]; exact hz)
    | str x =>
      obtain ⟨t, rfl⟩ := r1
      by_cases hz : x.length ≤ sizeLine
      · simp only [itemsOf, if_pos hz] at m1
        have hz' : (x.cps.toList.map fun c => D.str ⟨#[c]⟩).length ≤ sizeLine := by simpa [Str.length] using hz
        have q := tail_of m1 sr1 walks_str hz'
        cases ha : x.cps.all (· < 128)
        · exact wpAny_pyIter_wide ha (pi_one (tk := s1.toks) I1 _ (turn_str _ x t "str_iterator" (.inr rfl)) ⟨_, Heap.get?_push_size _ rfl, rfl, rfl⟩ q)
        · exact wpAny_pyIter_ascii ha (pi_one (tk := s1.toks) I1 _ (turn_str _ x t "str_ascii_iterator" (.inl rfl)) ⟨_, Heap.get?_push_size _ rfl, rfl, rfl⟩ q)
      · simp only [itemsOf, if_neg hz] at m1
        exact m1.elim
    | _ => exact m1.elim
theorem PI_weak {tg iter : Expr} {t t' : TI} (h : PI X tg iter t) (k : ∀ σ H Q, t' σ H Q → t σ H Q) : PI X tg iter t' := ⟨fun pins s σ H R I w => h.run pins s σ H R I (k σ H R w)⟩
def rangeD (a b : Int) : List D := (List.range (b - a).toNat).map fun i : Nat => .int (a + (i : Int))
theorem rangeD_len (a b : Int) : (rangeD a b).length = (b - a).toNat := by simp [rangeD]
theorem rangeD_line {a b : Int} (h1 : -1000000 ≤ a) (h2 : b ≤ 1000000) : (rangeD a b).length ≤ sizeLine := by
  rw [rangeD_len, sizeLine_eq]; omega
def hRange1 (f : Env → Out P) (ρ : Env) : Out (List D) := (f ρ).bind fun p ρ1 => match p with
  | .v (.int n) => if -1000000 ≤ n ∧ n ≤ 1000000 then .ok (rangeD 0 n) ρ1 else .no
  | _ => .no
variable {a b : Expr} {qb : Bool} {g : Env → Out P} {p pos : Pos}
theorem i_range1 (hg : Gl X "range") (hm : X.mg "range" = none) (ha : DE X W q a f) (hs : starEach [a] X.env = [(false, eval a X.env)] := by rfl) : DI X W q tgt (.Call (.Name "range" p) [a] [] pos) (hRange1 f) := by
  refine PI_weak (pi_range1 hg hm (pa_cons ha pa_nil hs) hs) fun σ H R h => ?_
  obtain ⟨ρ, F, lab, sr, m⟩ := h
  refine ⟨ρ, F, lab, sr, Meets.seq (rep2 := fun _ F' _ _ J ds => Walks X.K X.mg F' J ds ∧ ds.length ≤ sizeLine) id (fun _ _ _ _ _ _ _ _ r => r) m fun v p ρ1 F1 H1 lab1 mv1 sr1 rp m1 => ?_⟩
  split at m1
  · rename_i n
    cases rp
    split at m1
    · rename_i hb
      have hw : Walks X.K X.mg F1 (Itr 0 n.toNat) (rangeD 0 n) := by
        unfold rangeD
        rw [show (n - 0).toNat = n.toNat by omega]
        exact walks_range
      exact ⟨n, rfl, by omega, by omega, tail_of m1 sr1 hw (rangeD_line (by omega) hb.2)⟩
    · exact m1.elim
  · exact m1.elim
end
def forL (tg : D → Env → Option Env) (body : Env → Flow) : List D → Env → Flow
  | [], ρ => .next ρ
  | d :: r, ρ => match tg d ρ with
    | none => .no
    | some ρ1 => match body ρ1 with
      | .next ρ2 => forL tg body r ρ2
      | .cont ρ2 => forL tg body r ρ2
      | .brk ρ2 => .next ρ2
      | fl => fl
def sFor (h : Env → Out (List D)) (tg : D → Env → Option Env) (body : Env → Flow) (ρ : Env) : Flow := flow (h ρ) fun ds ρ1 => forL tg body ds ρ1
def whileL (t : Env → Out Bool) (body : Env → Flow) : Nat → Env → Flow
  | 0, _ => .no
  | n + 1, ρ => flow (t ρ) fun k ρ1 => if k = true then (match body ρ1 with
      | .next ρ2 => whileL t body n ρ2
      | .cont ρ2 => whileL t body n ρ2
      | .brk ρ2 => .next ρ2
      | fl => fl) else .next ρ1
section
variable {X : Cx} {W : WX} {ks : List Nat} {q : Bool} {tgt iter c : Expr} {body : List Stmt} {h : Env → Out (List D)} {tg : D → Env → Option Env} {g : Env → Flow} {t : Env → Out Bool} {pos : Pos}
theorem s_for (hp : PassesOwn (model X.prog X.w) X.A X.env X.xe) (hc : X.calm = true) (hi : DI X W q tgt iter h) (hg : DG X ks tgt tg) (hb : DSs X W ks body g) (hs : ∀ x, foldedSetIterable iter X.env x = pure x := by intro _; rfl) : DS X W ks (.For tgt iter body [] pos) (sFor h tg g) := by
  refine PS_weak (ps_for hp hc hi hg hb hs) fun D σ H hh => ?_
  obtain ⟨ρ, F, lab, sr, m⟩ := hh
  refine ⟨ρ, F, lab, sr, SMeets.expr m fun J ds ρ1 F1 H1 lab1 mv1 sr1 rw m1 => ?_⟩
  obtain ⟨wk, _⟩ := rw
  refine ⟨fun i n σ2 H2 => n = ds.length - i ∧ i ≤ ds.length ∧ ∃ ρ2 F2 lab2, SR X.K X.mg F2 H2 lab2 σ2 ρ2 ∧ Le F1 F2 ∧ SMeets X.K X.mg W ks F2 H2 lab2 σ2 (forL tg g (ds.drop i) ρ2) D, ⟨ds.length, by omega, by omega, ρ1, F1, lab1, sr1, Le.refl _, m1⟩, ?_⟩
  rintro i n σ2 H2 ⟨rfl, hi, ρ2, F2, lab2, sr2, l2, m2⟩
  obtain ⟨wstop, wgo⟩ := wk F2 H2 l2 sr2.bas.le
  by_cases hlt : i < ds.length
  · refine .inr ?_
    have hd : ds[i]? = some ds[i] := List.getElem?_eq_getElem hlt
    obtain ⟨go, yl⟩ := wgo i _ hd
    rw [List.drop_eq_getElem_cons hlt] at m2
    unfold forL at m2
    refine ⟨go, fun σ4 H4 => i + 1 ≤ ds.length ∧ ∃ ρ4 F4 lab4, SR X.K X.mg F4 H4 lab4 σ4 ρ4 ∧ Le F1 F4 ∧ SMeets X.K X.mg W ks F4 H4 lab4 σ4 (forL tg g (ds.drop (i + 1)) ρ4) D, fun σ4 H4 ⟨z, r⟩ => ⟨ds.length - (i + 1), by omega, rfl, z, r⟩, fun x H3 hy => ?_⟩
    obtain ⟨F3, gr, rx⟩ := yl x H3 hy
    have m3 := SMeets.later (σ1 := σ2) m2 (gr.move (q := false) (lab := lab2)) Keep.refl
    have sr3 := gr.sr sr2
    refine ⟨ρ2, F3, lab2, _, sr3, rx, ?_⟩
    cases ht : tg ds[i] ρ2 with
    | none => rw [ht] at m3; exact m3
    | some ρ3 =>
      rw [ht] at m3
      intro σ5 F5 H5 lab5 mv5 sr5 k5
      have m5 := SMeets.later m3 mv5.to_false k5
      have l5 : Le F1 F5 := l2.trans (gr.ff.trans mv5.ff)
      refine ⟨ρ3, F5, lab5, sr5, ?_⟩
      simp only at m5
      cases hb : g ρ3 with
      | next ρ6 => rw [hb] at m5; exact fun σ' F' H' lab' mv s k => ⟨hlt, ρ6, F', lab', s, l5.trans mv.ff, SMeets.later m5 mv k⟩
      | cont ρ6 => rw [hb] at m5; exact fun σ' F' H' lab' mv s k => ⟨hlt, ρ6, F', lab', s, l5.trans mv.ff, SMeets.later m5 mv k⟩
      | brk ρ6 => rw [hb] at m5; exact m5
      | ret p ρ6 => rw [hb] at m5; exact m5
      | exc x ρ6 => rw [hb] at m5; exact m5
      | no => rw [hb] at m5; exact m5
  · have e : i = ds.length := by omega
    subst e
    rw [List.drop_length] at m2
    exact .inl ⟨wstop _ (Nat.le_refl _), m2 σ2 F2 H2 lab2 Move.refl sr2 Keep.refl⟩
end
end LW

namespace LW
open PySem PySem.Spec PyProof.Rows L2
abbrev WN : WX := fun _ _ _ _ => False
def wipeE (ρ : Env) : List Nat → Env
  | [] => ρ
  | v :: vs => (wipeE ρ vs).set v none
def getS (ρ : Env) (i : Nat) : Option O := match ρ[i]? with
  | some z => z
  | none => none
def restE (ρ0 ρ : Env) : List Nat → Env
  | [] => ρ
  | v :: vs => (restE ρ0 ρ vs).set v (getS ρ0 v)
def ownOk (ρ : Env) (own : List Nat) : Bool := own.all fun i => match getS ρ i with
  | none => true
  | some (.v _) => true
  | _ => false
def sYes (ρ : Env) : Out Bool := .ok true ρ
def lcL (own : List Nat) (tg : D → Env → Option Env) (t : Env → Out Bool) (f : Env → Out P) : List D → List D → Env → Out (List D)
  | [], acc, ρ => .ok acc ρ
  | d :: r, acc, ρ => match tg d ρ with
    | none => .no
    | some ρ1 => match t ρ1 with
      | .ok false ρ2 => lcL own tg t f r acc (wipeE ρ2 own)
      | .ok true ρ2 => (match sFz f ρ2 with
        | .ok (.v y) ρ3 => lcL own tg t f r (acc ++ [y]) (wipeE ρ3 own)
        | _ => .no)
      | _ => .no
def sLc (own : List Nat) (h : Env → Out (List D)) (tg : D → Env → Option Env) (t : Env → Out Bool) (f : Env → Out P) (ρ : Env) : Out P := (h ρ).bind fun ds ρ1 =>
  if ownOk ρ1 own = true then (lcL own tg t f ds [] (wipeE ρ1 own)).bind fun acc ρ2 => .ok (.f (.l acc)) (restE ρ1 ρ2 own) else .no
section
variable {K : PySem.W.Frag} {mg : Str → Option Value} {F H F1 H1 : Hp} {lab lab1 : Lab} {σ : L2.St} {ρ ρ1 ρ2 : Env}
theorem sr_wipe (sr : SR K mg F H lab σ ρ) : ∀ vs : List Nat, SR K mg F H lab (L2.wipe σ vs) (wipeE ρ vs)
  | [] => sr
  | v :: vs => by
    have s := sr_wipe sr vs
    refine ⟨s.bas, s.tb, fun j o hj => ?_, by unfold wipeE L2.wipe; rw [List.length_set, List.length_set]; exact s.len⟩
    unfold wipeE at hj
    unfold L2.wipe
    by_cases e : j = v
    · subst e
      by_cases hl : j < (wipeE ρ vs).length
      · rw [List.getElem?_set_self hl] at hj; cases hj
      · rw [List.getElem?_eq_none (by rw [List.length_set]; omega)] at hj; cases hj
    · rw [List.getElem?_set_ne (Ne.symm e)] at hj ⊢
      exact s.env j o hj
theorem wipe_get {σ : L2.St} {j : Nat} : ∀ {vs : List Nat}, j ∉ vs → (L2.wipe σ vs)[j]? = σ[j]?
  | [], _ => rfl
  | v :: vs, h => by
    unfold L2.wipe
    rw [List.getElem?_set_ne (fun e => h (by simp [e]))]
    exact wipe_get fun z => h (List.mem_cons_of_mem _ z)
theorem wipe_at {σ : L2.St} {j : Nat} : ∀ {vs : List Nat}, j ∈ vs → (L2.wipe σ vs)[j]? = if j < σ.length then some none else none
  | v :: vs, h => by
    unfold L2.wipe
    by_cases e : v = j
    · subst e
      by_cases hl : v < σ.length
      · rw [if_pos hl, List.getElem?_set_self (by rw [L2.wipe_length]; exact hl)]
      · rw [if_neg hl, List.getElem?_eq_none (by rw [List.length_set, L2.wipe_length]; omega)]
    · rw [List.getElem?_set_ne e]
      exact wipe_at (by rcases List.mem_cons.mp h with z | z; exact absurd z.symm e; exact z)
theorem wipe_eq {σ σ2 : L2.St} {vs ks : List Nat} (hk : ∀ j, j < σ.length → j ∉ vs → j ∈ ks) (k : Keep ks (L2.wipe σ vs) σ2) : L2.wipe σ2 vs = L2.wipe σ vs := by
  have hl : σ2.length = σ.length := k.len.trans (L2.wipe_length σ vs)
  refine List.ext_getElem? fun j => ?_
  by_cases hj : j ∈ vs
  · rw [wipe_at hj, wipe_at hj, hl]
  · rw [wipe_get hj]
    by_cases h : j < σ.length
    · exact k.at_ j (hk j h hj)
    · rw [List.getElem?_eq_none (by omega), List.getElem?_eq_none (by rw [L2.wipe_length]; omega)]
theorem sr_rest (sr0 : SR K mg F1 H1 lab1 σ ρ1) (l : Le F1 F) : ∀ vs : List Nat, (∀ i ∈ vs, ∀ o, ρ1[i]? = some (some o) → ∃ d, o = .v d) → ∀ {us : List Nat}, (∀ i ∈ vs, i ∈ us) →
    SR K mg F H lab (L2.wipe σ us) ρ2 → ∀ j o, (restE ρ1 ρ2 vs)[j]? = some (some o) → ∃ v, σ[j]? = some (some v) ∧ RepO K mg F H lab [j] v o
  | [], _, us, _, sr, j, o, hj => by
    obtain ⟨v, h1, h2⟩ := sr.env j o hj
    exact ⟨v, (L2.wipe_some h1).1, h2⟩
  | v :: vs, hv, us, hu, sr, j, o, hj => by
    unfold restE at hj
    by_cases e : v = j
    · subst e
      by_cases hl : v < (restE ρ1 ρ2 vs).length
      · rw [List.getElem?_set_self hl] at hj
        have hg : getS ρ1 v = some o := Option.some.inj hj
        have h1 : ρ1[v]? = some (some o) := by
          unfold getS at hg
          split at hg
          · rename_i z hz; rw [hz, hg]
          · cases hg
        obtain ⟨d, rfl⟩ := hv v List.mem_cons_self o h1
        obtain ⟨x, g1, g2⟩ := sr0.env v _ h1
        cases g2 with | v r => exact ⟨x, g1, .v (r.mono l)⟩
      · rw [List.getElem?_eq_none (by rw [List.length_set]; omega)] at hj; cases hj
    · rw [List.getElem?_set_ne e] at hj
      exact sr_rest sr0 l vs (fun i hi => hv i (List.mem_cons_of_mem _ hi)) (fun i hi => hu i (List.mem_cons_of_mem _ hi)) sr j o hj
theorem restE_len : ∀ vs : List Nat, (restE ρ1 ρ2 vs).length = ρ2.length
  | [] => rfl
  | v :: vs => by unfold restE; rw [List.length_set]; exact restE_len vs
theorem sr_back (sr0 : SR K mg F1 H1 lab1 σ ρ1) (l : Le F1 F) {vs : List Nat} (ho : ownOk ρ1 vs = true) (sr : SR K mg F H lab (L2.wipe σ vs) ρ2) : SR K mg F H lab σ (restE ρ1 ρ2 vs) := by
  refine ⟨sr.bas, sr.tb, fun j o hj => sr_rest sr0 l vs (fun i hi o h => ?_) (fun i hi => hi) sr j o hj, by rw [restE_len, sr.len, L2.wipe_length]⟩
  have := List.all_eq_true.mp ho i hi
  unfold getS at this
  rw [h] at this
  cases o with
  | v d => exact ⟨d, rfl⟩
  | l _ => cases this
  | k _ _ => cases this
  | i _ _ => cases this
  | m _ => cases this
theorem sr_grow {D0 : Addr} {o : HO} (sr : SR K mg F H lab σ ρ) (h1 : F D0 = none) (h2 : lab D0 = none) (hp : Plain H D0) (hn : ∀ ps, o ≠ .tbl ps := by intro _ z; cases z) : SR K mg F (upd H D0 o) lab σ ρ := by
  refine ⟨⟨fun a u h => ?_, fun a p h => ?_, nt_put sr.bas.nt hn⟩, sr.tb.put hp, fun j o' hj => ?_, sr.len⟩
  · rw [upd_ne (ne_of_none h h1)]; exact sr.bas.le a u h
  · have e : a ≠ D0 := by intro e; subst e; rw [h2] at h; cases h
    exact ⟨(sr.bas.lf a p h).1, (sr.bas.lf a p h).2.eq (upd_ne e)⟩
  · obtain ⟨v, g1, g2⟩ := sr.env j o' hj
    refine ⟨v, g1, g2.stay (Le.refl _) fun a r e => ⟨?_, e⟩⟩
    exact upd_ne (by intro z; subst z; rw [h2] at e; cases e)
end
section
variable {X : Cx} {W : WX} {q qt qe : Bool} {elt tgt iter c : Expr} {ifs : List Expr} {scope : Scope} {own : List (Str × Nat)} {ks : List Nat} {pos : Pos} {h : Env → Out (List D)} {tg : D → Env → Option Env} {t : Env → Out Bool} {f : Env → Out P}
theorem ts_nil : PTs X [] (tDT X.K X.mg WN true sYes) := ⟨fun pins s σ H Q I w => by
  obtain ⟨ρ, F, lab, sr, m⟩ := w
  exact pts_nil.run pins s σ H Q I (m true F H lab Move.refl sr rfl)⟩
def WalksM (K : PySem.W.Frag) (mg : Str → Option Value) (q : Bool) (F H : Hp) (lab : Lab) (J : It) (ds : List D) : Prop :=
  ∀ F' H' lab', Move q F H lab F' H' lab' → Le F' H' → (∀ i, ds.length ≤ i → J.stop i H') ∧
    ∀ i d, ds[i]? = some d → J.go i H' ∧ ∀ x H'', J.yld i H' x H'' → ∃ F'', Grow K mg F' H' F'' H'' ∧ Rep K mg F'' x d
def tDIm (K : PySem.W.Frag) (mg : Str → Option Value) (W : WX) (q qb : Bool) (h : Env → Out (List D)) : TI := fun σ H R => ∃ ρ F lab, SR K mg F H lab σ ρ ∧ Meets K mg W q F H lab σ (fun F' H' lab' J ds => WalksM K mg qb F' H' lab' J ds ∧ ds.length ≤ sizeLine) (h ρ) R
def DIm (X : Cx) (W : WX) (q qb : Bool) (tgt iter : Expr) (h : Env → Out (List D)) : Prop := PI X tgt iter (tDIm X.K X.mg W q qb h)
theorem DI.m {qb : Bool} (hi : DI X W q tgt iter h) : DIm X W q qb tgt iter h := by
  refine PI_weak hi fun σ H R w => ?_
  obtain ⟨ρ, F, lab, sr, m⟩ := w
  refine ⟨ρ, F, lab, sr, ?_⟩
  cases e : h ρ with
  | no => rw [e] at m; exact m
  | exc x ρ' => rw [e] at m; exact m
  | ok ds ρ1 =>
    rw [e] at m
    exact fun J F1 H1 lab1 mv sr1 r => m J F1 H1 lab1 mv sr1 ⟨fun F' H' lab' mv' l => r.1 F' H' mv'.ff l, r.2⟩
theorem lc_read {qb : Bool} (hqb : qb = true → (q && (qt && qe)) = true) (ho : ∀ j, j < X.N.length → j ∉ own.map (·.2) → j ∈ ks) {σ : L2.St} {H : Hp} {Q : VK} (hlen : σ.length = X.N.length) (hh : tD X.K X.mg W (q && (qt && qe)) (sLc (own.map (·.2)) h tg t f) σ H Q) :
    tLc (tDIm X.K X.mg W q qb h) (tDG X.K X.mg ks tg) (tDT X.K X.mg WN qt t) (tD X.K X.mg WN qe (sFz f)) (own.map (·.2)) σ H Q := by
  obtain ⟨ρ, F, lab, sr, m⟩ := hh
  refine ⟨ρ, F, lab, sr, Meets.seq (rep2 := RepP X.K X.mg) and_l sinceP m fun J ds ρ1 F1 H1 lab1 mv1 sr1 rw m1 => ?_⟩
  obtain ⟨wk, hz⟩ := rw
  split at m1
  case isFalse => exact m1.elim
  rename_i hown
  intro D0 hD
  generalize hR : lcL (own.map (·.2)) tg t f ds [] (wipeE ρ1 (own.map (·.2))) = R0 at m1
  have fD : F1 D0 = none := by
    cases e : F1 D0 with
    | none => rfl
    | some u => rw [sr1.bas.le D0 u e] at hD; cases hD
  have lD : lab1 D0 = none := by
    cases e : lab1 D0 with
    | none => rfl
    | some p => exact absurd hD (sr1.bas.lf D0 p e).2.1
  refine ⟨fun i n H2 => n = ds.length - i ∧ i ≤ ds.length ∧ ∃ acc xs ρ2 F2 lab2, SR X.K X.mg F2 H2 lab2 (L2.wipe σ (own.map (·.2))) ρ2 ∧ Move (q && (qt && qe)) F1 H1 lab1 F2 H2 lab2 ∧ H2 D0 = some (.lst xs) ∧ RepL X.K X.mg F2 xs acc ∧ F2 D0 = none ∧ lab2 D0 = none ∧ acc.length ≤ i ∧
      lcL (own.map (·.2)) tg t f (ds.drop i) acc ρ2 = R0, ⟨ds.length, by omega, by omega, [], [], wipeE ρ1 (own.map (·.2)), F1, lab1, ?_, ?_, upd_same, .nil, fD, lD, Nat.le_refl _, by rw [List.drop_zero]; exact hR⟩, ?_⟩
  · exact sr_grow (sr_wipe sr1 _) fD lD (plain_none hD)
  · exact (Grow.own (K := X.K) (mg := X.mg) sr1.bas.le hD).move
  rintro i n H2 ⟨rfl, hi, acc, xs, ρ2, F2, lab2, sr2, mv2, hx, rx, f2, l2, ha, hR2⟩
  obtain ⟨wstop, wgo⟩ := wk F2 H2 lab2 (mv2.weak qb hqb) sr2.bas.le
  by_cases hlt : i < ds.length
  · refine .inr ?_
    obtain ⟨go, yl⟩ := wgo i _ (List.getElem?_eq_getElem hlt)
    rw [List.drop_eq_getElem_cons hlt] at hR2
    unfold lcL at hR2
    have next : ∀ acc' xs' ρ4 F4 H4 lab4 σ4, SR X.K X.mg F4 H4 lab4 σ4 ρ4 → L2.wipe σ4 (own.map (·.2)) = L2.wipe σ (own.map (·.2)) → Move (q && (qt && qe)) F1 H1 lab1 F4 H4 lab4 → RepL X.K X.mg F4 xs' acc' → F4 D0 = none → lab4 D0 = none → acc'.length ≤ i + 1 → H4 D0 = some (.lst xs) →
        lcL (own.map (·.2)) tg t f (ds.drop (i + 1)) acc' (wipeE ρ4 (own.map (·.2))) = R0 → ∃ acc xs ρ2 F2 lab2, SR X.K X.mg F2 (upd H4 D0 (.lst xs')) lab2 (L2.wipe σ (own.map (·.2))) ρ2 ∧ Move (q && (qt && qe)) F1 H1 lab1 F2 (upd H4 D0 (.lst xs')) lab2 ∧ (upd H4 D0 (.lst xs')) D0 = some (.lst xs) ∧ RepL X.K X.mg F2 xs acc ∧ F2 D0 = none ∧ lab2 D0 = none ∧ acc.length ≤ i + 1 ∧
        lcL (own.map (·.2)) tg t f (ds.drop (i + 1)) acc ρ2 = R0 := fun acc' xs' ρ4 F4 H4 lab4 σ4 s4 ew m4 r4 f4 l4 a4 h4 e4 => by
      refine ⟨acc', xs', _, F4, lab4, ?_, ⟨m4.ff, fun a ha => ?_, fun a ha hq => ?_⟩, upd_same, r4, f4, l4, a4, e4⟩
      · have := sr_grow (o := .lst xs') (sr_wipe s4 (own.map (·.2))) f4 l4 (plain_of h4)
        rw [ew] at this
        exact this
      · by_cases e : a = D0
        · subst e; exact absurd hD ha
        · rw [upd_ne e]; exact m4.th a ha
      · have e : a ≠ D0 := fun e => by subst e; exact ha.1 hD
        rw [upd_ne e]; exact m4.fr a ha hq
    refine ⟨go, fun H4 => i + 1 ≤ ds.length ∧ ∃ acc xs ρ2 F2 lab2, SR X.K X.mg F2 H4 lab2 (L2.wipe σ (own.map (·.2))) ρ2 ∧ Move (q && (qt && qe)) F1 H1 lab1 F2 H4 lab2 ∧ H4 D0 = some (.lst xs) ∧ RepL X.K X.mg F2 xs acc ∧ F2 D0 = none ∧ lab2 D0 = none ∧ acc.length ≤ i + 1 ∧
      lcL (own.map (·.2)) tg t f (ds.drop (i + 1)) acc ρ2 = R0, fun H4 ⟨z, r⟩ => ⟨ds.length - (i + 1), by omega, rfl, z, r⟩, fun x H3 hy => ?_⟩
    obtain ⟨F3, gr, rx3⟩ := yl x H3 hy
    have sr3 := gr.sr sr2
    have mv3 : Move (q && (qt && qe)) F1 H1 lab1 F3 H3 lab2 := mv2.trans gr.move
    have hx3 : H3 D0 = some (.lst xs) := gr.hh D0 _ hx (by intro _ z; cases z)
    have f3 : F3 D0 = none := gr.fn D0 (th_of hx) f2
    refine ⟨ρ2, F3, lab2, _, sr3, rx3, ?_⟩
    cases ht : tg ds[i] ρ2 with
    | none => rw [ht] at hR2; simp only at hR2; rw [← hR2] at m1; exact m1
    | some ρ3 =>
      rw [ht] at hR2
      simp only at hR2
      intro σ5 F5 H5 lab5 mv5 sr5 k5
      have ew : L2.wipe σ5 (own.map (·.2)) = L2.wipe σ (own.map (·.2)) := wipe_eq (fun j hj hn => ho j (by omega) hn) k5
      have hx5 : H5 D0 = H3 D0 ∧ lab5 D0 = lab2 D0 ∧ (F3 D0 = none → F5 D0 = none) := mv5.fr D0 (th_of hx3) (.inl rfl)
      have mv5' : Move (q && (qt && qe)) F1 H1 lab1 F5 H5 lab5 := mv3.trans (mv5.weak _ fun _ => rfl)
      refine ⟨ew, ρ3, F5, lab5, sr5, ?_⟩
      cases ht2 : t ρ3 with
      | no => rw [ht2] at hR2; simp only at hR2; rw [← hR2] at m1; exact m1
      | exc x ρ4 => rw [ht2] at hR2; simp only at hR2; rw [← hR2] at m1; exact m1.elim
      | ok b ρ4 =>
        intro b' F6 H6 lab6 mv6 sr6 eb
        subst eb
        have hx6 := mv6.fr D0 (th_of (hx5.1.trans hx3)) (.inr (hx5.2.1.trans l2))
        have mv6' : Move (q && (qt && qe)) F1 H1 lab1 F6 H6 lab6 := mv5'.trans (mv6.weak _ fun z => and_l (and_r z))
        have h6 : H6 D0 = some (.lst xs) := hx6.1.trans (hx5.1.trans hx3)
        have l6 : lab6 D0 = none := hx6.2.1.trans (hx5.2.1.trans l2)
        have f6 : F6 D0 = none := hx6.2.2 (hx5.2.2 f3)
        have r6 : RepL X.K X.mg F6 xs acc := rx.mono (gr.ff.trans (mv5.ff.trans mv6.ff))
        cases b' with
        | false =>
          rw [ht2] at hR2
          simp only at hR2
          refine ⟨hlt, ?_⟩
          have := next acc xs ρ4 F6 H6 lab6 σ5 sr6 ew mv6' r6 f6 l6 (by omega) h6 hR2
          have eu : upd H6 D0 (.lst xs) = H6 := by
            funext a
            by_cases e : a = D0
            · subst e; rw [upd_same, h6]
            · rw [upd_ne e]
          rw [eu] at this
          exact this
        | true =>
          rw [ht2] at hR2
          simp only at hR2
          refine ⟨ρ4, F6, lab6, sr6, ?_⟩
          cases hf : sFz f ρ4 with
          | no => rw [hf] at hR2; simp only at hR2; rw [← hR2] at m1; exact m1
          | exc x ρ5 => rw [hf] at hR2; simp only at hR2; rw [← hR2] at m1; exact m1.elim
          | ok p ρ5 =>
            rw [hf] at hR2
            intro y F7 H7 lab7 mv7 sr7 ry
            have hx7 := mv7.fr D0 (th_of h6) (.inr l6)
            cases p with
            | f o => simp only at hR2; rw [← hR2] at m1; exact m1.elim
            | s d => simp only at hR2; rw [← hR2] at m1; exact m1.elim
            | v d =>
              simp only at hR2
              refine ⟨xs, hx7.1.trans h6, ?_, hlt, ?_⟩
              · rw [rx.length]; omega
              · exact next (acc ++ [d]) (xs ++ [y]) ρ5 F7 H7 lab7 σ5 sr7 ew (mv6'.trans (mv7.weak _ fun z => and_r (and_r z))) ((r6.mono mv7.ff).append (.cons ry .nil)) (hx7.2.2 f6) (hx7.2.1.trans l6) (by simp; omega) (hx7.1.trans h6) hR2
  · have e : i = ds.length := by omega
    subst e
    rw [List.drop_length] at hR2
    refine .inl ⟨wstop _ (Nat.le_refl _), ?_⟩
    have e0 : R0 = .ok acc ρ2 := by rw [← hR2]; rfl
    rw [e0] at m1
    refine m1 (.ref D0) F2 H2 lab2 mv2 (sr_back sr1 mv2.ff hown sr2) ⟨fun a => if a = D0 then some [] else none, .l (by simp) hx rx, fun a z e => ?_⟩
    have ea : a = D0 := by
      by_cases h : a = D0
      · exact h
      · have e' : (if a = D0 then some ([] : List Nat) else none) = some z := e
        rw [if_neg h] at e'; cases e'
    subst ea
    exact ⟨.of_none hD, l2, f2, th_of hx⟩
theorem e_lcM {qb : Bool} (hqb : qb = true → (q && (qt && qe)) = true) (hc : X.calm = true) (hN : X.N.Nodup) (hi : DIm X W q qb tgt iter h) (ok : BlkOk X.N X.env.scope scope own) (ho : ∀ j, j < X.N.length → j ∉ own.map (·.2) → j ∈ ks)
    (hg : ∀ (s : Shared) (H : Hp) (C : Addr) (cl : List (Str × Addr)) (fp : List Addr), DG (X.blk s H scope (compEnvC scope cl C X.env) fp) ks tgt tg)
    (ht : ∀ (s : Shared) (H : Hp) (C : Addr) (cl : List (Str × Addr)) (fp : List Addr), PTs (X.blk s H scope (compEnvC scope cl C X.env) fp) ifs (tDT X.K X.mg WN qt t))
    (he : ∀ (s : Shared) (H : Hp) (C : Addr) (cl : List (Str × Addr)) (fp : List Addr), DE (X.blk s H scope (compEnvC scope cl C X.env) fp) WN qe elt f) (hs : ∀ x, foldedSetIterable iter X.env x = pure x := by intro _; rfl) :
    DE X W (q && (qt && qe)) (.ListComp elt [⟨tgt, iter, ifs, 0⟩] scope pos) (sLc (own.map (·.2)) h tg t f) :=
  ⟨fun pins s σ H Q I w => (pe_lc (own := own) (g := tDG X.K X.mg ks tg) (tt := tDT X.K X.mg WN qt t) (te := tD X.K X.mg WN qe (sFz f)) hc hN hi ok hg ht (fun s H C cl fp => e_fz (he s H C cl fp)) hs).run pins s σ H Q I (lc_read hqb ho I.len w)⟩
theorem e_lc (hc : X.calm = true) (hN : X.N.Nodup) (hi : DI X W q tgt iter h) (ok : BlkOk X.N X.env.scope scope own) (ho : ∀ j, j < X.N.length → j ∉ own.map (·.2) → j ∈ ks)
    (hg : ∀ (s : Shared) (H : Hp) (C : Addr) (cl : List (Str × Addr)) (fp : List Addr), DG (X.blk s H scope (compEnvC scope cl C X.env) fp) ks tgt tg)
    (ht : ∀ (s : Shared) (H : Hp) (C : Addr) (cl : List (Str × Addr)) (fp : List Addr), PTs (X.blk s H scope (compEnvC scope cl C X.env) fp) ifs (tDT X.K X.mg WN qt t))
    (he : ∀ (s : Shared) (H : Hp) (C : Addr) (cl : List (Str × Addr)) (fp : List Addr), DE (X.blk s H scope (compEnvC scope cl C X.env) fp) WN qe elt f) (hs : ∀ x, foldedSetIterable iter X.env x = pure x := by intro _; rfl) :
    DE X W (q && (qt && qe)) (.ListComp elt [⟨tgt, iter, ifs, 0⟩] scope pos) (sLc (own.map (·.2)) h tg t f) :=
  e_lcM (qb := false) (fun z => nomatch z) hc hN hi.m ok ho hg ht he hs
def hSeqS (f : Env → Out P) (ρ : Env) : Out (List D) := (f ρ).bind fun p ρ1 => match p with
  | .s (.lst ds) => if ds.length ≤ sizeLine then .ok ds ρ1 else .no
  | _ => .no
end
end LW

namespace LW
open PySem PySem.Spec PyProof.Rows L2
def Cont (K : PySem.W.Frag) (mg : Str → Option Value) (F H : Hp) (lab : Lab) (p : P) (Q : VK) : Prop := ∀ w F' H', Grow K mg F H F' H' → RepP K mg (fun a => H a = none) F' H' lab w p → Q w H'
def rD (K : PySem.W.Frag) (mg : Str → Option Value) (g : D → D → Option P) : R2 := fun x y H Q => ∃ F lab dx dy p, BasT K mg F H lab ∧ RepS K mg F H x dx ∧ RepS K mg F H y dy ∧ g dx dy = some p ∧ Cont K mg F H lab p Q
def rD1 (K : PySem.W.Frag) (mg : Str → Option Value) (g : D → Option P) : List V → Hp → VK → Prop := fun xs H Q => ∃ F lab x dx p, xs = [x] ∧ Bas F H lab ∧ RepS K mg F H x dx ∧ g dx = some p ∧ Cont K mg F H lab p Q
theorem op2_D {K : PySem.W.Frag} {mg : Str → Option Value} {g : D → D → Option P} : Op2 K mg (rD K mg g) g := fun v u x y p F H lab Q b rx ry e k => ⟨F, lab, x, y, p, b, rx, ry, e, k⟩
theorem call1_D {K : PySem.W.Frag} {mg : Str → Option Value} {g : D → Option P} : Call1 K mg (rD1 K mg g) g := fun v x p F H lab Q b rx e k => ⟨F, lab, v, x, p, rfl, b, rx, e, k⟩
def OpD (X : Cx) (f : Value → Value → Sem Value) (g : D → D → Option P) : Prop := OpR X f (rD X.K X.mg g)
section
variable {K : PySem.W.Frag} {mg : Str → Option Value} {F H : Hp} {lab : Lab} {Q : VK}
theorem Cont.int (b : Bas F H lab) {i : Int} (k : Cont K mg F H lab (.v (.int i)) Q) : Q (.int i) H := k _ F H (Grow.refl b.le) (Rep.int i)
theorem Cont.bl (b : Bas F H lab) {i : Bool} (k : Cont K mg F H lab (.v (.bl i)) Q) : Q (.bl i) H := k _ F H (Grow.refl b.le) (Rep.bl i)
theorem Cont.str (b : Bas F H lab) {i : Str} (k : Cont K mg F H lab (.v (.str i)) Q) : Q (.str i) H := k _ F H (Grow.refl b.le) (Rep.str i)
theorem Cont.non (b : Bas F H lab) (k : Cont K mg F H lab (.v .non) Q) : Q .non H := k _ F H (Grow.refl b.le) Rep.non
theorem Cont.same (b : Bas F H lab) {d : D} {v : V} (r : Rep K mg F v d) (k : Cont K mg F H lab (.v d) Q) : Q v H := k _ F H (Grow.refl b.le) r
theorem Cont.tup (b : Bas F H lab) {xs : List V} {ds : List D} (r : RepL K mg F xs ds) (k : Cont K mg F H lab (.v (.tup ds)) Q) : ∀ p, H p = none → Q (.ref p) (upd H p (.tup xs)) := new_tup (lab := lab) b.le r k
theorem Cont.lst (b : Bas F H lab) {xs : List V} {ds : List D} (r : RepL K mg F xs ds) (k : Cont K mg F H lab (.f (.l ds)) Q) : ∀ p, H p = none → Q (.ref p) (upd H p (.lst xs)) := new_lst b r k
end
def gAdd : D → D → Option P
  | .int i, .int j => some (.v (.int (i + j)))
  | .str x, .str y => if x.length + y.length ≤ sizeLine then some (.v (.str (x ++ y))) else none
  | .lst xs, .lst ys => if xs.length + ys.length ≤ sizeLine then some (.f (.l (xs ++ ys))) else none
  | .tup xs, .tup ys => if xs.length + ys.length ≤ sizeLine then some (.v (.tup (xs ++ ys))) else none
  | _, _ => none
def gMul : D → D → Option P
  | .int i, .int j => if (-(2 ^ 64) < i ∧ i < 2 ^ 64) ∨ (-(2 ^ 64) < j ∧ j < 2 ^ 64) then some (.v (.int (i * j))) else none
  | _, _ => none
def gDiv : D → D → Option P
  | .int i, .int j => if 0 < j ∧ j < 1073741824 then some (.v (.int (i / j))) else none
  | _, _ => none
def gMod : D → D → Option P
  | .int i, .int j => if 0 < j then some (.v (.int (i % j))) else none
  | _, _ => none
def gPow : D → D → Option P
  | .int i, .int j => if 0 ≤ j ∧ j ≤ 1000000 ∧ i.natAbs < 2 ^ 64 then some (.v (.int (i ^ j.toNat))) else none
  | _, _ => none
theorem RepS.rep_tup {K : PySem.W.Frag} {mg : Str → Option Value} {F H : Hp} {v : V} {ds : List D} (r : RepS K mg F H v (.tup ds)) : Rep K mg F v (.tup ds) := by cases r with | v r => exact r
section
variable {X : Cx}
theorem op_catR {pins : List (Addr × Obj)} {s : Shared} {σ : L2.St} {H : Hp} {l b : Addr} {xs ys : List V} {v u : Value} {Q : VK} (I : Inv X pins σ H s) (rx : RelV (.ref l) v) (ry : RelV (.ref b) u) (h1 : SqL X.K H l xs) (h2 : SqL X.K H b ys) (hz : xs.length + ys.length ≤ sizeLine)
    (q : ∀ p, H p = none → Q (.ref p) (upd H p (.lst (xs ++ ys)))) : wpAny (model X.prog X.w) X.A (binaryOp .Add v u) (EP X pins σ Q) X.xe s := by
  cases rx
  cases ry
  obtain ⟨its, r, ⟨⟨cls, dd, data, sl⟩, n, ho, hc, hdd, hd⟩, z⟩ := I.list h1
  obtain ⟨its2, r2, ⟨⟨cls2, dd2, data2, sl2⟩, n2, ho2, hc2, hdd2, hd2⟩, z2⟩ := I.list h2
  simp only at hc hd hc2 hd2
  subst hc hd hc2 hd2
  have hl := r.length
  have hl2 := r2.length
  have ea : its.toArray ++ its2.toArray = (its ++ its2).toArray := by simp
  refine concat_meets ⟨_, ho, rfl⟩ ⟨_, ho2, rfl⟩ noFill_list_add seq_list_add PySem.F.slot_list_add PySem.F.entry_list_add (PySem.F.args_list_add_2 _ _) (list_addW l b its.toArray its2.toArray n n2 dd dd2 sl sl2 (by rw [List.size_toArray, List.size_toArray]; omega)) ⟨ho, ho2, ?_⟩
  rw [ea]
  refine ⟨.ref s.heap.objs.size, _, I.laid (t' := s.toks) (o := .lst (xs ++ ys)) (fun b ob q => Heap.get?_push_of_some _ q) (Nat.le_refl _) ?_, rfl, q _ (I.hok.fresh (Nat.le_refl _))⟩
  exact ⟨by rw [List.length_append]; exact hz, _, _, r.append r2, Heap.get?_push_size _ rfl⟩
theorem opd_add : OpD X (binaryOp .Add) gAdd := by
  intro pins s σ H x y v u Q I rx ry ⟨F, lab, dx, dy, p, b, r1, r2, e, k⟩
  unfold gAdd at e
  split at e
  · cases e; cases r1.int; cases r2.int
    exact op_add pins s σ H _ _ v u Q I rx ry ⟨_, _, rfl, rfl, k.int b⟩
  · split at e
    · cases e; cases r1.str; cases r2.str
      exact op_add_str pins s σ H _ _ v u Q I rx ry ⟨_, _, rfl, rfl, by assumption, k.str b⟩
    · cases e
  · split at e
    · rename_i hz
      cases e
      obtain ⟨a1, xs1, rfl, h1, l1⟩ := r1.lst b.le
      obtain ⟨a2, xs2, rfl, h2, l2⟩ := r2.lst b.le
      exact op_catR I rx ry h1 h2 (by rw [l1.length, l2.length]; exact hz) (k.lst b (l1.append l2))
    · cases e
  · split at e
    · rename_i hz
      cases e
      have g1 := r1.rep_tup
      have g2 := r2.rep_tup
      obtain ⟨a1, xs1, rfl, h1, l1⟩ := r1.tup b.le
      obtain ⟨a2, xs2, rfl, h2, l2⟩ := r2.tup b.le
      refine op_catA pins s σ H _ _ v u Q I rx ry ⟨a1, a2, xs1, xs2, rfl, rfl, h1, h2, by rw [l1.length, l2.length]; exact hz, fun z => ?_, fun _ z => ?_, fun _ _ => k.tup b (l1.append l2)⟩
      · subst z
        cases l1
        exact k.same b g2
      · subst z
        cases l2
        rw [List.append_nil] at k
        exact k.same b g1
    · cases e
  · cases e
theorem opd_mul : OpD X (binaryOp .Mult) gMul := by
  intro pins s σ H x y v u Q I rx ry ⟨F, lab, dx, dy, p, b, r1, r2, e, k⟩
  unfold gMul at e
  split at e
  · split at e
    · cases e; cases r1.int; cases r2.int
      exact op_mul pins s σ H _ _ v u Q I rx ry ⟨_, _, rfl, rfl, by assumption, k.int b⟩
    · cases e
  · cases e
theorem opd_div : OpD X (binaryOp .FloorDiv) gDiv := by
  intro pins s σ H x y v u Q I rx ry ⟨F, lab, dx, dy, p, b, r1, r2, e, k⟩
  unfold gDiv at e
  split at e
  · split at e
    · cases e; cases r1.int; cases r2.int
      exact op_fdiv pins s σ H _ _ v u Q I rx ry ⟨_, _, rfl, rfl, by assumption, k.int b⟩
    · cases e
  · cases e
theorem opd_mod : OpD X (binaryOp .Mod) gMod := by
  intro pins s σ H x y v u Q I rx ry ⟨F, lab, dx, dy, p, b, r1, r2, e, k⟩
  unfold gMod at e
  split at e
  · split at e
    · cases e; cases r1.int; cases r2.int
      exact op_mod pins s σ H _ _ v u Q I rx ry ⟨_, _, rfl, rfl, by assumption, k.int b⟩
    · cases e
  · cases e
theorem opd_pow : OpD X (binaryOp .Pow) gPow := by
  intro pins s σ H x y v u Q I rx ry ⟨F, lab, dx, dy, p, b, r1, r2, e, k⟩
  unfold gPow at e
  split at e
  · split at e
    · cases e; cases r1.int; cases r2.int
      exact op_pow pins s σ H _ _ v u Q I rx ry ⟨_, _, rfl, rfl, by assumption, k.int b⟩
    · cases e
  · cases e
def gNeg : D → Option P
  | .int i => some (.v (.int (-i)))
  | _ => none
def gLt : D → D → Option P
  | .int i, .int j => some (.v (.bl (decide (i < j))))
  | _, _ => none
def gLe : D → D → Option P
  | .int i, .int j => some (.v (.bl (decide (i ≤ j))))
  | _, _ => none
def gGt : D → D → Option P
  | .int i, .int j => some (.v (.bl (decide (j < i))))
  | _, _ => none
def gGe : D → D → Option P
  | .int i, .int j => some (.v (.bl (decide (j ≤ i))))
  | _, _ => none
theorem opd_lt : OpD X (compareOp .Lt) gLt := by
  intro pins s σ H x y v u Q I rx ry ⟨F, lab, dx, dy, p, b, r1, r2, e, k⟩
  unfold gLt at e
  split at e
  · cases e; cases r1.int; cases r2.int
    exact op_lt pins s σ H _ _ v u Q I rx ry ⟨_, _, rfl, rfl, k.bl b⟩
  · cases e
theorem opd_gt : OpD X (compareOp .Gt) gGt := by
  intro pins s σ H x y v u Q I rx ry ⟨F, lab, dx, dy, p, b, r1, r2, e, k⟩
  unfold gGt at e
  split at e
  · cases e; cases r1.int; cases r2.int
    exact op_gt pins s σ H _ _ v u Q I rx ry ⟨_, _, rfl, rfl, k.bl b⟩
  · cases e
theorem opd_ge : OpD X (compareOp .GtE) gGe := by
  intro pins s σ H x y v u Q I rx ry ⟨F, lab, dx, dy, p, b, r1, r2, e, k⟩
  unfold gGe at e
  split at e
  · cases e; cases r1.int; cases r2.int
    exact op_ge pins s σ H _ _ v u Q I rx ry ⟨_, _, rfl, rfl, k.bl b⟩
  · cases e
end
mutual
def D.py : D → PyData
  | .non => .none
  | .bl b => .bool b
  | .int i => .int i
  | .str s => .str s
  | .tup ds => .tuple (D.pyL ds)
  | .lst ds => .list (D.pyL ds)
  | .dct _ _ => .none
  | .ins _ _ => .none
  | .ex _ _ => .none
  | .fn _ => .none
  | .ldc _ => .none
  | .lam _ _ => .none
def D.pyL : List D → List PyData
  | [] => []
  | d :: r => d.py :: D.pyL r
end
mutual
def D.plain : Nat → D → Bool
  | _, .non => true
  | _, .bl _ => true
  | _, .int _ => true
  | _, .str s => PyData.strOk s
  | n + 1, .tup ds => D.plainL n ds
  | n + 1, .lst ds => D.plainL n ds
  | 0, .tup _ => false
  | 0, .lst _ => false
  | _, .dct _ _ => false
  | _, .ins _ _ => false
  | _, .ex _ _ => false
  | _, .fn _ => false
  | _, .ldc _ => false
  | _, .lam _ _ => false
def D.plainL : Nat → List D → Bool
  | _, [] => true
  | n, d :: r => D.plain n d && D.plainL n r
end
mutual
theorem D.plain_lay : ∀ (n : Nat) (d : D), d.plain n = true → d.py.canLay0 = true ∧ d.py.depth ≤ n
  | n, .non, _ => by simp [D.py, PyData.canLay0, PyData.depth]
  | n, .bl _, _ => by simp [D.py, PyData.canLay0, PyData.depth]
  | n, .int _, _ => by simp [D.py, PyData.canLay0, PyData.depth]
  | n, .str _, h => by simpa [D.py, PyData.canLay0, PyData.depth, D.plain] using h
  | n + 1, .tup ds, h => by
    obtain ⟨h1, h2⟩ := D.plain_layL n ds (by simpa [D.plain] using h)
    exact ⟨by simpa [D.py, PyData.canLay0] using h1, by simp only [D.py, PyData.depth]; omega⟩
  | n + 1, .lst ds, h => by
    obtain ⟨h1, h2⟩ := D.plain_layL n ds (by simpa [D.plain] using h)
    exact ⟨by simpa [D.py, PyData.canLay0] using h1, by simp only [D.py, PyData.depth]; omega⟩
  | 0, .tup _, h => by simp [D.plain] at h
  | 0, .lst _, h => by simp [D.plain] at h
  | n, .dct _ _, h => by cases n <;> simp [D.plain] at h
  | n, .ins _ _, h => by cases n <;> simp [D.plain] at h
  | n, .ex _ _, h => by cases n <;> simp [D.plain] at h
  | n, .fn _, h => by cases n <;> simp [D.plain] at h
  | n, .ldc _, h => by cases n <;> simp [D.plain] at h
  | n, .lam _ _, h => by cases n <;> simp [D.plain] at h
theorem D.plain_layL : ∀ (n : Nat) (ds : List D), D.plainL n ds = true → PyData.canLayAll0 (D.pyL ds) = true ∧ PyData.depthAll (D.pyL ds) ≤ n
  | n, [], _ => by simp [D.pyL, PyData.canLayAll0, PyData.depthAll]
  | n, d :: r, h => by
    have h' : d.plain n = true ∧ D.plainL n r = true := by simpa [D.plainL] using h
    obtain ⟨a1, a2⟩ := D.plain_lay n d h'.1
    obtain ⟨b1, b2⟩ := D.plain_layL n r h'.2
    exact ⟨by simp [D.pyL, PyData.canLayAll0, a1, b1], by simp only [D.pyL, PyData.depthAll]; omega⟩
end
theorem D.shaped {d : D} (h : d.plain 60 = true) : SeqAt.shaped d.py = true := by
  obtain ⟨h1, h2⟩ := D.plain_lay 60 d h
  show (d.py.canLay0 && decide (d.py.depth ≤ 64)) = true
  rw [h1, decide_eq_true (by omega)]; rfl
section
variable {K : PySem.W.Frag} {mg : Str → Option Value} {F H : Hp}
mutual
theorem Rep.dp (l : Le F H) : ∀ {n : Nat} {v : V} {d : D}, Rep K mg F v d → d.plain n = true → Dp K H v d.py
  | _, _, _, .non, _ => .non
  | _, _, _, .bl b, _ => .bl b
  | _, _, _, .int i, _ => .int i
  | _, _, _, .str s, _ => .str s
  | n + 1, _, _, .tup h r, p => .tup (SqT.of (l _ _ h)) (RepL.dp l r (n := n) (by simpa [D.plain] using p))
  | n + 1, _, _, .lst h r, p => .lst (SqL_le l h) (RepL.dp l r (n := n) (by simpa [D.plain] using p))
  | 0, _, _, .tup h r, p => by simp [D.plain] at p
  | 0, _, _, .lst h r, p => by simp [D.plain] at p
  | n, _, _, .dK _ _, p => by cases n <;> simp [D.plain] at p
  | n, _, _, .dT _ _, p => by cases n <;> simp [D.plain] at p
  | n, _, _, .ins _ _ _, p => by cases n <;> simp [D.plain] at p
  | n, _, _, .ex0 _ _, p => by cases n <;> simp [D.plain] at p
  | n, _, _, .ex _ _ _ _, p => by cases n <;> simp [D.plain] at p
  | n, _, _, .fn _, p => by cases n <;> simp [D.plain] at p
  | n, _, _, .ldc _ _, p => by cases n <;> simp [D.plain] at p
  | n, _, _, .lam _ _ _ _ _, p => by cases n <;> simp [D.plain] at p
theorem RepL.dp (l : Le F H) : ∀ {n : Nat} {v : List V} {d : List D}, RepL K mg F v d → D.plainL n d = true → DpAll K H v (D.pyL d)
  | _, _, _, .nil, _ => .nil
  | n, _, _, .cons (d := d) (ds := ds) h r, p => by
    have p' : d.plain n = true ∧ D.plainL n ds = true := by simpa [D.plainL] using p
    exact .cons (Rep.dp l h p'.1) (RepL.dp l r p'.2)
end
theorem RepS.dp {n : Nat} {v : V} {d : D} (l : Le F H) (r : RepS K mg F H v d) (p : d.plain n = true) : Dp K H v d.py := by
  cases r with
  | v r => exact r.dp l p
  | l h r =>
    cases n with
    | zero => simp [D.plain] at p
    | succ n => exact .lst (SqL.of h) (RepL.dp l r (n := n) (by simpa [D.plain] using p))
  | kK _ _ => cases n <;> simp [D.plain] at p
  | kT _ _ => cases n <;> simp [D.plain] at p
end
def D.eqv (x y : D) : Bool := PyData.eqv x.py y.py
def D.cmp (x y : D) : Option Bool := match x, y with
  | .str a, .str b => some (decide (a = b))
  | x, y => if x.plain 60 = true ∧ y.plain 60 = true then some (D.eqv x y) else none
def gEq (x y : D) : Option P := (D.cmp x y).map fun k => .v (.bl k)
def gNe (x y : D) : Option P := (D.cmp x y).map fun k => .v (.bl (!k))
section
variable {X : Cx}
theorem opd_eq (hu : X.A.units + 64 < cLine) : OpD X (compareOp .Eq) gEq := by
  intro pins s σ H x y v u Q I rx ry ⟨F, lab, dx, dy, p, b, r1, r2, e, k⟩
  unfold gEq D.cmp at e
  split at e
  · cases e
    cases r1.str
    cases r2.str
    refine op_eq pins s σ H _ _ v u Q I rx ry ⟨rfl, ?_⟩
    have q := k.bl b
    rename_i x y
    have e2 : decide (V.str x = V.str y) = decide (x = y) := by simp
    rw [e2]; exact q
  · split at e
    · rename_i hp
      cases e
      exact op_eqD hu pins s σ H _ _ v u Q I rx ry ⟨_, _, r1.dp b.le hp.1, r2.dp b.le hp.2, D.shaped hp.1, D.shaped hp.2, k.bl b⟩
    · cases e
theorem opd_ne (hu : X.A.units + 64 < cLine) : OpD X (compareOp .NotEq) gNe := by
  intro pins s σ H x y v u Q I rx ry ⟨F, lab, dx, dy, p, b, r1, r2, e, k⟩
  unfold gNe D.cmp at e
  split at e
  · cases e
    cases r1.str
    cases r2.str
    refine op_ne pins s σ H _ _ v u Q I rx ry ⟨rfl, ?_⟩
    have q := k.bl b
    rename_i x y
    have e2 : decide (V.str x = V.str y) = decide (x = y) := by simp
    rw [e2]; exact q
  · split at e
    · rename_i hp
      cases e
      exact op_neD hu pins s σ H _ _ v u Q I rx ry ⟨_, _, r1.dp b.le hp.1, r2.dp b.le hp.2, D.shaped hp.1, D.shaped hp.2, k.bl b⟩
    · cases e
def D.isNon : D → Bool
  | .non => true
  | _ => false
def D.isBl (c : Bool) : D → Bool
  | .bl b => b == c
  | _ => false
def gIsN (x y : D) : Option P := match y with
  | .non => some (.v (.bl x.isNon))
  | .bl c => some (.v (.bl (x.isBl c)))
  | _ => none
theorem RepS.isBl {K : PySem.W.Frag} {mg : Str → Option Value} {F H : Hp} {x : V} {d : D} {v : Value} {c : Bool} (r : RepS K mg F H x d) (rx : RelV x v) : plainIs v (.bool c) = true ∧ (v == .bool c) = d.isBl c := by
  cases r with
  | v r =>
    cases r with
    | non => cases rx; exact ⟨rfl, rfl⟩
    | bl b => cases rx; exact ⟨rfl, by cases b <;> cases c <;> rfl⟩
    | int i => obtain ⟨t, rfl⟩ := rx; exact ⟨rfl, rfl⟩
    | str i => obtain ⟨t, rfl⟩ := rx; exact ⟨rfl, rfl⟩
    | _ => cases rx; exact ⟨rfl, rfl⟩
  | _ => cases rx; exact ⟨rfl, rfl⟩
theorem RepS.isNon {K : PySem.W.Frag} {mg : Str → Option Value} {F H : Hp} {v : V} {d : D} (r : RepS K mg F H v d) : decide (v = .non) = d.isNon := by
  cases r with
  | v r => cases r <;> rfl
  | _ => rfl
end
end LW

namespace LW
open PySem PySem.Spec PyProof.Rows L2
def gIx : D → D → Option P
  | .lst ds, .int i => (atI ds i).map .v
  | .tup ds, .int i => (atI ds i).map .v
  | .str z, .int i => if z.length ≤ sizeLine then (atI z.cps.toList i).map fun c => .v (.str ⟨#[c]⟩) else none
  | _, _ => none
section
variable {K : PySem.W.Frag} {mg : Str → Option Value} {F H : Hp}
theorem RepL.atI {xs : List V} {ds : List D} (r : RepL K mg F xs ds) {i : Int} {d : D} (h : L2.atI ds i = some d) : ∃ x, L2.atI xs i = some x ∧ Rep K mg F x d := by
  unfold L2.atI at h ⊢
  rw [r.length]
  cases e : ixN ds.length i with
  | none => rw [e] at h; cases h
  | some j =>
    rw [e] at h
    exact r.get h
end
def IxD (X : Cx) (g : D → D → Option P) : Prop := IxR X (rD X.K X.mg g)
section
variable {X : Cx}
theorem ixd_seq : IxD X gIx := by
  intro value slice pins s σ H x y v u Q I rx ry ⟨F, lab, dx, dy, p, b, r1, r2, e, k⟩ hs
  unfold gIx at e
  split at e
  · rename_i ds i
    cases r2.int
    obtain ⟨a, xs, rfl, h1, l1⟩ := r1.lst b.le
    cases hd : L2.atI ds i with
    | none => rw [hd] at e; cases e
    | some d =>
      rw [hd] at e; cases e
      obtain ⟨z, hz, rz⟩ := l1.atI hd
      exact ix_list value slice pins s σ H _ _ v u Q I rx ry ⟨a, xs, i, z, rfl, rfl, h1, hz, k.same b rz⟩ hs
  · rename_i ds i
    cases r2.int
    obtain ⟨a, xs, rfl, h1, l1⟩ := r1.tup b.le
    cases hd : L2.atI ds i with
    | none => rw [hd] at e; cases e
    | some d =>
      rw [hd] at e; cases e
      obtain ⟨z, hz, rz⟩ := l1.atI hd
      exact ix_tup value slice pins s σ H _ _ v u Q I rx ry ⟨a, xs, i, z, rfl, rfl, h1, hz, k.same b rz⟩ hs
  · rename_i z i
    cases r2.int
    cases r1.str
    split at e
    · rename_i hl
      cases hd : L2.atI z.cps.toList i with
      | none => rw [hd] at e; cases e
      | some c =>
        rw [hd] at e; cases e
        exact ix_str value slice pins s σ H _ _ v u Q I rx ry ⟨z, i, c, rfl, rfl, hl, hd, k.str b⟩ hs
    · cases e
  · cases e
end
def cutD (xs : List D) (lo hi : Option Int) : List D := (xs.drop (HT.sIx xs.length 0 lo)).take (HT.sIx xs.length xs.length hi - HT.sIx xs.length 0 lo)
def gSl (x : D) (lo hi : Option Int) : Option P := match x with
  | .lst ds => some (.f (.l (cutD ds lo hi)))
  | .tup ds => some (.v (.tup (cutD ds lo hi)))
  | .str z => if z.length ≤ sizeLine then some (.v (.str (cutS z lo hi))) else none
  | _ => none
section
variable {K : PySem.W.Frag} {mg : Str → Option Value} {F H : Hp}
theorem RepL.cut {xs : List V} {ds : List D} (r : RepL K mg F xs ds) (lo hi : Option Int) : RepL K mg F (cutV xs lo hi) (cutD ds lo hi) := by
  unfold cutV cutD
  rw [r.length]
  exact (r.drop _).take _
end
def rSlD (K : PySem.W.Frag) (mg : Str → Option Value) : V → Option Int → Option Int → Hp → VK → Prop := fun x lo hi H Q => ∃ F lab dx p, Bas F H lab ∧ RepS K mg F H x dx ∧ gSl dx lo hi = some p ∧ Cont K mg F H lab p Q
theorem sld_seq {X : Cx} : SlR X (rSlD X.K X.mg) := by
  intro pins s σ H x v vl vu lo hi sl Q I rx hs pl pu ⟨F, lab, dx, p, b, r1, e, k⟩
  unfold gSl at e
  split at e
  · cases e
    obtain ⟨a, xs, rfl, h1, l1⟩ := r1.lst b.le
    exact sl_list pins s σ H _ v vl vu lo hi sl Q I rx hs pl pu ⟨a, xs, rfl, h1, k.lst b (l1.cut lo hi)⟩
  · cases e
    have g1 := r1.rep_tup
    obtain ⟨a, xs, rfl, h1, l1⟩ := r1.tup b.le
    refine sl_tupA pins s σ H _ v vl vu lo hi sl Q I rx hs pl pu ⟨a, xs, rfl, h1, fun hw => ?_, fun _ => k.tup b (l1.cut lo hi)⟩
    rename_i ds
    have e2 : cutD ds lo hi = ds := by
      unfold cutD
      rw [← l1.length, hw.1, hw.2, List.drop_zero, Nat.sub_zero, l1.length, List.take_length]
    rw [e2] at k
    exact k.same b g1
  · split at e
    · rename_i hz
      cases e
      cases r1.str
      exact sl_str pins s σ H _ v vl vu lo hi sl Q I rx hs pl pu ⟨_, rfl, hz, k.str b⟩
    · cases e
  · cases e
def oPart (f : Env → Out P) (ρ : Env) : Out (Option Int) := (f ρ).bind fun p ρ1 => match p with
  | .v (.int i) => .ok (some i) ρ1
  | _ => .no
def oNone (ρ : Env) : Out (Option Int) := .ok none ρ
def sSl (q : Bool) (f : Env → Out P) (lo hi : Env → Out (Option Int)) (ρ : Env) : Out P := (f ρ).bind fun p ρ1 => if p.sure q then (lo ρ1).bind fun l ρ2 => (hi ρ2).bind fun h ρ3 => match p.rd with
  | some x => (match gSl x l h with
    | some z => .ok z ρ3
    | none => .no)
  | none => .no else .no
abbrev RO : (Addr → Prop) → Hp → Hp → Lab → Option Int → Option Int → Prop := fun _ _ _ _ b a => b = a
def tDO (K : PySem.W.Frag) (mg : Str → Option Value) (W : WX) (q : Bool) (f : Env → Out (Option Int)) : TO := fun σ H Q => ∃ ρ F lab, SR K mg F H lab σ ρ ∧ Meets K mg W q F H lab σ (fun _ _ _ b a => b = a) (f ρ) Q
section
variable {X : Cx} {W : WX} {q ql qh : Bool} {e : Expr} {lo hi : Option Expr} {f : Env → Out P} {fl fh : Env → Out (Option Int)} {pos p2 : Pos} {le : Expr}
theorem PO_weak {e : Option Expr} {t t' : TO} (h : PO X e t) (k : ∀ σ H Q, t' σ H Q → t σ H Q) : PO X e t' := ⟨fun pins s σ H Q I w => h.run pins s σ H Q I (k σ H Q w)⟩
def DO (X : Cx) (W : WX) (q : Bool) (e : Option Expr) (f : Env → Out (Option Int)) : Prop := PO X e (tDO X.K X.mg W q f)
theorem o_none : DO X W true none oNone := PO_weak po_none fun σ H Q h => by
  obtain ⟨ρ, F, lab, sr, m⟩ := h
  exact m none F H lab Move.refl sr rfl
theorem o_some (h : DE X W q le f) : DO X W q (some le) (oPart f) := PO_weak (po_some h) fun σ H Q h => by
  obtain ⟨ρ, F, lab, sr, m⟩ := h
  refine ⟨ρ, F, lab, sr, Meets.seq (rep2 := RO) id (fun _ _ _ _ _ _ _ _ r => r) m fun v p ρ1 F1 H1 lab1 mv1 sr1 rp m1 => ?_⟩
  split at m1
  · cases rp
    exact ⟨_, rfl, m1 _ F1 H1 lab1 Move.refl sr1 rfl⟩
  · exact m1.elim
theorem e_slice (he : DE X W q e f) (hl : DO X W ql lo fl) (hh : DO X W qh hi fh) : DE X W (q && (ql && qh)) (.Subscript e (.Slice lo hi none p2) pos) (sSl (ql && qh) f fl fh) := by
  refine PE_weak (pe_slice sld_seq he hl hh) fun σ H Q h => ?_
  obtain ⟨ρ, F, lab, sr, m⟩ := h
  refine ⟨ρ, F, lab, sr, Meets.seq (rep2 := RepP X.K X.mg) and_l sinceP m fun v p ρ1 F1 H1 lab1 mv1 sr1 rp m1 => ?_⟩
  split at m1
  · rename_i hs
    refine ⟨ρ1, F1, lab1, sr1, Meets.seq (rep2 := RepP X.K X.mg) (fun z => and_l (and_r z)) sinceP m1 fun l l' ρ2 F2 H2 lab2 mv2 sr2 el m2 => ?_⟩
    subst el
    refine ⟨ρ2, F2, lab2, sr2, Meets.seq (rep2 := RepP X.K X.mg) (fun z => and_r (and_r z)) sinceP m2 fun h h' ρ3 F3 H3 lab3 mv3 sr3 eh m3 => ?_⟩
    subst eh
    have rp3 : RepP X.K X.mg (New q H lab) F3 H3 lab3 v p := rp.step (q := (ql && qh)) ((mv2.weak _ and_l).trans (mv3.weak _ and_r)) hs
    split at m3
    · rename_i x hx
      split at m3
      · rename_i z hz
        exact ⟨F3, lab3, x, z, sr3.bas, rp3.rd hx, hz, fun w F' H' gr rw' => Meets.grow m3 sr3 gr rw'⟩
      · exact m3.elim
    · exact m3.elim
  · exact m1.elim
end
def inL (x : D) (ds : List D) : Bool := (D.pyL ds).any fun z => PyData.eqv z x.py
def D.mem (x y : D) : Option Bool := match y with
  | .lst ds => if x.plain 59 = true ∧ D.plainL 59 ds = true then some (inL x ds) else none
  | .tup ds => if x.plain 59 = true ∧ D.plainL 59 ds = true then some (inL x ds) else none
  | _ => none
def gNotIn (x y : D) : Option P := (D.mem x y).map fun k => .v (.bl (!k))
section
variable {X : Cx}
theorem opd_notIn (hu : X.A.units + 64 < cLine) : OpD X (compareOp .NotIn) gNotIn := by
  intro pins s σ H x y v u Q I rx ry ⟨F, lab, dx, dy, p, b, r1, r2, e, k⟩
  unfold gNotIn D.mem at e
  split at e
  · split at e
    · rename_i ds hp
      cases e
      have dx' := r1.dp (n := 59) b.le hp.1
      have dy' := r2.dp (n := 60) b.le (show (D.lst ds).plain 60 = true by simpa [D.plain] using hp.2)
      obtain ⟨as, q1⟩ := Dp.reads I _ x v dx' rx
      obtain ⟨bs, q2⟩ := Dp.reads I _ y u dy' ry
      obtain ⟨c1, c2⟩ := D.plain_lay _ _ hp.1
      obtain ⟨c3, c4⟩ := D.plain_layL _ _ hp.2
      refine SeqAt.notIn_list_reads q2 q1 c3 c1 ?_ ⟨.bl _, H, I, rfl, k.bl b⟩
      have := Nat.min_le_right (PyData.depthAll (D.pyL ds)) dx.py.depth
      omega
    · cases e
  · split at e
    · rename_i ds hp
      cases e
      have dx' := r1.dp (n := 59) b.le hp.1
      have dy' := r2.dp (n := 60) b.le (show (D.tup ds).plain 60 = true by simpa [D.plain] using hp.2)
      obtain ⟨as, q1⟩ := Dp.reads I _ x v dx' rx
      obtain ⟨bs, q2⟩ := Dp.reads I _ y u dy' ry
      obtain ⟨c1, c2⟩ := D.plain_lay _ _ hp.1
      obtain ⟨c3, c4⟩ := D.plain_layL _ _ hp.2
      refine SeqAt.notIn_tuple_reads q2 q1 c3 c1 ?_ ⟨.bl _, H, I, rfl, k.bl b⟩
      have := Nat.min_le_right (PyData.depthAll (D.pyL ds)) dx.py.depth
      omega
    · cases e
  · cases e
end
def CallD (X : Cx) (f : Value) (g : D → Option P) : Prop := CallR X f (rD1 X.K X.mg g)
def gLen : D → Option P
  | .lst ds => some (.v (.int ds.length))
  | .tup ds => some (.v (.int ds.length))
  | .str z => if z.length ≤ sizeLine then some (.v (.int z.length)) else none
  | _ => none
def gAbs : D → Option P
  | .int i => some (.v (.int (if i < 0 then -i else i)))
  | _ => none
def gInt : D → Option P
  | .int i => some (.v (.int i))
  | .str z => if z.length ≤ 640 then (PySem.intText? z).map fun n => .v (.int n) else none
  | _ => none
section
variable {X : Cx}
theorem cd_len : CallD X (.builtin "len") gLen := by
  intro pins s σ H xs us Q I r ⟨F, lab, x, dx, p, hx, b, r1, e, k⟩
  subst hx
  unfold gLen at e
  split at e
  · cases e
    obtain ⟨a, ys, rfl, h1, l1⟩ := r1.lst b.le
    exact call_len_seq pins s σ H _ us Q I r ⟨a, ys, rfl, .inl h1, by rw [l1.length]; exact k.int b⟩
  · cases e
    obtain ⟨a, ys, rfl, h1, l1⟩ := r1.tup b.le
    exact call_len_seq pins s σ H _ us Q I r ⟨a, ys, rfl, .inr h1, by rw [l1.length]; exact k.int b⟩
  · split at e
    · rename_i hz
      cases e
      cases r1.str
      exact call_len_str pins s σ H _ us Q I r ⟨_, rfl, hz, k.int b⟩
    · cases e
  · cases e
theorem cd_abs : CallD X (.builtin "abs") gAbs := by
  intro pins s σ H xs us Q I r ⟨F, lab, x, dx, p, hx, b, r1, e, k⟩
  subst hx
  unfold gAbs at e
  split at e
  · cases e; cases r1.int
    exact call_abs pins s σ H _ us Q I r ⟨_, rfl, k.int b⟩
  · cases e
theorem cd_int : CallD X (.type "int") gInt := by
  intro pins s σ H xs us Q I r ⟨F, lab, x, dx, p, hx, b, r1, e, k⟩
  subst hx
  unfold gInt at e
  split at e
  · cases e; cases r1.int
    exact call_int1 pins s σ H _ us Q I r (.inl ⟨_, rfl, k.int b⟩)
  · split at e
    · rename_i z hz
      cases r1.str
      cases ht : PySem.intText? z with
      | none => rw [ht] at e; cases e
      | some n =>
        rw [ht] at e; cases e
        exact call_int_str pins s σ H _ us Q I r ⟨z, n, rfl, ht, hz, k.int b⟩
    · cases e
  · cases e
end
end LW

namespace LW
open PySem PySem.Spec PyProof.Rows L2
inductive Pl where
  | sl (i : Nat) | fd (i : Nat) (c f : Str) | ix (i j : Nat)
def putO (f : Str) (o : O) : List (Str × O) → List (Str × O)
  | [] => [(f, o)]
  | (n, x) :: r => if n = f then (n, o) :: r else (n, x) :: putO f o r
def idxO (f : Str) : List (Str × O) → Nat
  | [] => 0
  | (n, _) :: r => if n = f then 0 else idxO f r + 1
def lookO (f : Str) : List (Str × O) → Option O
  | [] => none
  | (n, x) :: r => if n = f then some x else lookO f r
def putN (o : O) : Nat → List (Str × O) → List (Str × O)
  | _, [] => []
  | 0, (n, _) :: r => (n, o) :: r
  | j + 1, z :: r => z :: putN o j r
def lookN : Nat → List (Str × O) → Option O
  | _, [] => none
  | 0, (_, o) :: _ => some o
  | j + 1, _ :: r => lookN j r
def getPl (ρ : Env) : Pl → Option O
  | .sl i => getS ρ i
  | .fd i c f => match getS ρ i with
    | some (.i c' fs) => if c' = c then lookO f fs else none
    | _ => none
  | .ix i j => match getS ρ i with
    | some (.m fs) => lookN j fs
    | _ => none
def setPl (ρ : Env) (o : O) : Pl → Env
  | .sl i => ρ.set i (some o)
  | .fd i _ f => match getS ρ i with
    | some (.i c fs) => ρ.set i (some (.i c (putO f o fs)))
    | _ => ρ
  | .ix i j => match getS ρ i with
    | some (.m fs) => ρ.set i (some (.m (putN o j fs)))
    | _ => ρ
theorem getS_eq {ρ : Env} {i : Nat} {o : O} (h : getS ρ i = some o) : ρ[i]? = some (some o) := by
  unfold getS at h
  split at h
  · rename_i z hz; rw [hz, h]
  · cases h
def AtPl (mg : Str → Option Value) (σ : L2.St) (H : Hp) (v : V) : Pl → Prop
  | .sl i => σ[i]? = some (some v)
  | .fd i c f => ∃ a C dx gs, σ[i]? = some (some (.ref a)) ∧ H a = some (.ins C dx gs) ∧ mg c = some (.ref C) ∧ gs.lookup f = some v
  | .ix i j => ∃ a xs, σ[i]? = some (some (.ref a)) ∧ H a = some (.lst xs) ∧ xs[j]? = some v
def pathPl (ρ : Env) : Pl → List Nat
  | .sl i => [i]
  | .fd i _ f => match getS ρ i with
    | some (.i _ fs) => [i, idxO f fs]
    | _ => [i]
  | .ix i j => [i, j]
section
variable {K : PySem.W.Frag} {mg : Str → Option Value} {F H F' H' : Hp} {lab lab' : Lab} {σ : L2.St} {ρ : Env}
theorem lookup_cons_ne {f n : Str} {x : V} {xs : List (Str × V)} (h : n ≠ f) : ((n, x) :: xs).lookup f = xs.lookup f := by
  have hb : (f == n) = false := beq_eq_false_iff_ne.mpr (Ne.symm h)
  simp only [List.lookup, hb]
theorem lookup_cons_eq {n : Str} {x : V} {xs : List (Str × V)} : ((n, x) :: xs).lookup n = some x := by simp [List.lookup]
theorem RepOF.look {p : List Nat} {f : Str} : ∀ {j : Nat} {gs : List (Str × V)} {fs : List (Str × O)} {o : O}, RepOF K mg F H lab p j gs fs → lookO f fs = some o →
    ∃ v, gs.lookup f = some v ∧ RepO K mg F H lab (p ++ [j + idxO f fs]) v o
  | _, _, _, _, .nil, h => by cases h
  | j, _, _, o, .cons (n := n) (x := x) r1 r2, h => by
    unfold lookO at h
    unfold idxO
    by_cases e : n = f
    · rw [if_pos e] at h ⊢
      cases h
      subst e
      exact ⟨x, lookup_cons_eq, r1⟩
    · rw [if_neg e] at h ⊢
      obtain ⟨v, h1, h2⟩ := RepOF.look r2 h
      refine ⟨v, by rw [lookup_cons_ne e]; exact h1, ?_⟩
      rw [Nat.add_assoc, Nat.add_comm 1] at h2
      exact h2
theorem RepOF.none {p : List Nat} {f : Str} : ∀ {j : Nat} {gs : List (Str × V)} {fs : List (Str × O)}, RepOF K mg F H lab p j gs fs → lookO f fs = none → gs.lookup f = Option.none
  | _, _, _, .nil, _ => rfl
  | j, _, _, .cons (n := n) (x := x) r1 r2, h => by
    unfold lookO at h
    by_cases e : n = f
    · rw [if_pos e] at h; cases h
    · rw [if_neg e] at h
      rw [lookup_cons_ne e]; exact RepOF.none r2 h
theorem RepOF.len {p : List Nat} : ∀ {j : Nat} {gs : List (Str × V)} {fs : List (Str × O)}, RepOF K mg F H lab p j gs fs → gs.length = fs.length
  | _, _, _, .nil => rfl
  | _, _, _, .cons _ r => congrArg (· + 1) r.len
theorem RepOF.stayFrom {p q : List Nat} (l : Le F F') : ∀ {j : Nat} {gs : List (Str × V)} {fs : List (Str × O)}, (∀ i a r, j ≤ i → lab a = some (p ++ i :: r) → H' a = H a ∧ lab' a = some (q ++ i :: r)) → RepOF K mg F H lab p j gs fs → RepOF K mg F' H' lab' q j gs fs
  | _, _, _, _, .nil => .nil
  | j, _, _, hk, .cons h r => .cons (RepO.stay l (fun a r e => by
      rw [List.append_assoc] at e ⊢
      exact hk j a r (Nat.le_refl _) e) h) (RepOF.stayFrom l (fun i a r z e => hk i a r (by omega) e) r)
theorem RepOF.put {p : List Nat} {f : Str} (l : Le F F') {v : V} {o : O} : ∀ {j : Nat} {gs : List (Str × V)} {fs : List (Str × O)}, RepOF K mg F H lab p j gs fs →
    (∀ i a r, j ≤ i → i ≠ j + idxO f fs → lab a = some (p ++ i :: r) → H' a = H a ∧ lab' a = some (p ++ i :: r)) → RepO K mg F' H' lab' (p ++ [j + idxO f fs]) v o → RepOF K mg F' H' lab' p j (putF f v gs) (putO f o fs)
  | j, _, _, .nil, _, h => .cons (by simpa [idxO] using h) .nil
  | j, _, _, .cons (n := n) (x := x) (o := o0) (xs := xs) (os := os) r1 r2, hk, h => by
    unfold putF putO
    unfold idxO at hk h
    by_cases e : n = f
    · rw [if_pos e] at hk h
      rw [if_pos e, if_pos e]
      exact .cons (by simpa using h) (r2.stayFrom l fun i a r z => hk i a r (by omega) (by omega))
    · rw [if_neg e] at hk h
      rw [if_neg e, if_neg e]
      refine .cons (r1.stay l fun a r z => ?_) (RepOF.put l r2 (fun i a r z1 z2 => hk i a r (by omega) (by omega)) (by rw [Nat.add_assoc, Nat.add_comm 1]; exact h))
      rw [List.append_assoc] at z ⊢
      exact hk j a r (Nat.le_refl _) (by omega) z
theorem RepOF.at {p : List Nat} : ∀ {j k : Nat} {gs : List (Str × V)} {fs : List (Str × O)} {o : O}, RepOF K mg F H lab p j gs fs → lookN k fs = some o →
    ∃ v, (gs.map fun z => z.2)[k]? = some v ∧ RepO K mg F H lab (p ++ [j + k]) v o
  | _, k, _, _, _, .nil, h => by cases k <;> cases h
  | j, 0, _, _, o, .cons (n := n) (x := x) r1 r2, h => by cases h; exact ⟨x, rfl, r1⟩
  | j, k + 1, _, _, o, .cons (n := n) (x := x) r1 r2, h => by
    obtain ⟨v, h1, h2⟩ := RepOF.at (k := k) r2 h
    refine ⟨v, by simpa using h1, ?_⟩
    rw [Nat.add_assoc, Nat.add_comm 1] at h2
    exact h2
theorem RepOF.putN {p : List Nat} (l : Le F F') {v : V} {o : O} : ∀ {j k : Nat} {gs : List (Str × V)} {fs : List (Str × O)}, RepOF K mg F H lab p j gs fs → (gs.map fun z => z.2)[k]? = some v →
    (∀ i a r, j ≤ i → i ≠ j + k → lab a = some (p ++ i :: r) → H' a = H a ∧ lab' a = some (p ++ i :: r)) → RepO K mg F' H' lab' (p ++ [j + k]) v o → RepOF K mg F' H' lab' p j gs (LW.putN o k fs)
  | j, k, _, _, .nil, hv, _, h => by simp at hv
  | j, 0, _, _, .cons (n := n) (x := x) (o := o0) (xs := xs) (os := os) r1 r2, hv, hk, h => by
    cases (show some x = some v from hv)
    exact .cons (by simpa using h) (r2.stayFrom l fun i a r z => hk i a r (by omega) (by omega))
  | j, k + 1, _, _, .cons (n := n) (x := x) (o := o0) (xs := xs) (os := os) r1 r2, hv, hk, h => by
    refine .cons (r1.stay l fun a r z => ?_) (RepOF.putN l r2 (by simpa using hv) (fun i a r z1 z2 => hk i a r (by omega) (by omega)) (by rw [Nat.add_assoc, Nat.add_comm 1]; exact h))
    rw [List.append_assoc] at z ⊢
    exact hk j a r (Nat.le_refl _) (by omega) z
theorem SR.get {p : Pl} {o : O} (sr : SR K mg F H lab σ ρ) (h : getPl ρ p = some o) : ∃ v, AtPl mg σ H v p ∧ RepO K mg F H lab (pathPl ρ p) v o := by
  cases p with
  | sl i => exact sr.env i o (getS_eq h)
  | fd i c0 f =>
    unfold getPl at h
    simp only at h
    split at h
    · rename_i c fs hg
      split at h
      case isFalse => cases h
      rename_i hc
      subst hc
      obtain ⟨v, h1, h2⟩ := sr.env i _ (getS_eq hg)
      cases h2 with
      | i g1 g2 g3 g4 =>
        obtain ⟨w, k1, k2⟩ := g4.look h
        refine ⟨w, ⟨_, _, _, _, h1, g2, g3, k1⟩, ?_⟩
        unfold pathPl
        simp only [hg]
        simpa using k2
    · cases h
  | ix i j =>
    unfold getPl at h
    simp only at h
    split at h
    · rename_i fs hg
      obtain ⟨v, h1, h2⟩ := sr.env i _ (getS_eq hg)
      cases h2 with
      | m g1 g2 g4 =>
        obtain ⟨w, k1, k2⟩ := g4.at h
        exact ⟨w, ⟨_, _, h1, g2, k1⟩, by simpa [pathPl] using k2⟩
    · cases h
theorem putF_same {f : Str} {v : V} : ∀ {gs : List (Str × V)}, gs.lookup f = some v → putF f v gs = gs
  | [], h => by simp [List.lookup] at h
  | (n, x) :: ys, h => by
    unfold putF
    by_cases e : n = f
    · subst e
      rw [if_pos rfl]
      rw [lookup_cons_eq] at h
      cases h; rfl
    · rw [if_neg e]
      rw [lookup_cons_ne e] at h
      rw [putF_same h]
theorem SR.set {p : Pl} {o o' : O} {v : V} {a : Addr} {u : HO} (sr : SR K mg F H lab σ ρ) (h : getPl ρ p = some o) (hv : AtPl mg σ H v p) (ha : lab a = some (pathPl ρ p)) (hl : ∀ C dx gs, H a ≠ some (.ins C dx gs))
    (hp : Plain H a) (r : RepO K mg F (upd H a u) lab (pathPl ρ p) v o') (hn : ∀ ps, u ≠ .tbl ps := by intro _ z; cases z) : SR K mg F (upd H a u) lab σ (setPl ρ o' p) ∧ Move false F H lab F (upd H a u) lab := by
  have hb := sr.bas.lf a _ ha
  have hbas : Bas F (upd H a u) lab := ⟨fun b w e => by rw [upd_ne (ne_of_none e hb.1)]; exact sr.bas.le b w e, fun b q e => by
    obtain ⟨h1, h2⟩ := sr.bas.lf b q e
    refine ⟨h1, ?_⟩
    by_cases z : b = a
    · subst z; exact th_of upd_same hn
    · exact h2.eq (upd_ne z), nt_put sr.bas.nt hn⟩
  have other : ∀ {b q}, lab b = some q → q ≠ pathPl ρ p → upd H a u b = H b := fun {b q} e z => upd_ne (by intro y; subst y; rw [ha] at e; exact z (Option.some.inj e).symm)
  refine ⟨?_, ⟨Le.refl _, fun b z => ?_, fun b h1 h2 => ?_⟩⟩
  · cases p with
    | sl i =>
      refine ⟨hbas, sr.tb.put hp, fun j o2 hj => ?_, by unfold setPl; rw [List.length_set]; exact sr.len⟩
      unfold setPl at hj
      simp only at hj
      by_cases e : j = i
      · subst e
        by_cases hlt : j < ρ.length
        · rw [List.getElem?_set_self hlt] at hj
          cases hj
          exact ⟨v, hv, r⟩
        · rw [List.getElem?_eq_none (by rw [List.length_set]; omega)] at hj; cases hj
      · rw [List.getElem?_set_ne (Ne.symm e)] at hj
        obtain ⟨w, h1, h2⟩ := sr.env j o2 hj
        refine ⟨w, h1, h2.stay (Le.refl _) fun b r' z => ⟨other z ?_, z⟩⟩
        intro y
        exact e (List.cons.inj (show j :: r' = [i] from y)).1
    | fd i c0 f =>
      unfold getPl at h
      simp only at h
      split at h
      case h_2 => cases h
      rename_i c fs hg
      have hpath : pathPl ρ (.fd i c0 f) = [i, idxO f fs] := by unfold pathPl; simp only [hg]
      rw [hpath] at r ha other
      have hset : setPl ρ o' (.fd i c0 f) = ρ.set i (some (.i c (putO f o' fs))) := by unfold setPl; simp only [hg]
      rw [hset]
      refine ⟨hbas, sr.tb.put hp, fun j o2 hj => ?_, by rw [List.length_set]; exact sr.len⟩
      by_cases e : j = i
      · subst e
        by_cases hlt : j < ρ.length
        · rw [List.getElem?_set_self hlt] at hj
          cases hj
          obtain ⟨w, h1, h2⟩ := sr.env j _ (getS_eq hg)
          cases h2 with
          | @i _ a1 C dx c gs fs g1 g2 g3 g4 =>
            obtain ⟨a', C', dx', gs', k1, k2, _, k3⟩ := hv
            rw [h1] at k1
            cases k1
            rw [g2] at k2
            cases k2
            have na : a1 ≠ a := fun z => hl _ _ _ (z ▸ g2)
            have gput := RepOF.put (f := f) (F' := F) (H' := upd H a u) (lab' := lab) (v := v) (o := o') (Le.refl F) g4 (fun i' b r' _ z1 z2 => ⟨other z2 (fun y => z1 (by
              have : i' = idxO f fs := (List.cons.inj (List.cons.inj (show [j] ++ i' :: r' = [j, idxO f fs] from y)).2).1
              omega)), z2⟩) (by simpa using r)
            have same := putF_same k3
            rw [same] at gput
            exact ⟨_, h1, .i g1 ((upd_ne na).trans g2) g3 gput⟩
        · rw [List.getElem?_eq_none (by rw [List.length_set]; omega)] at hj; cases hj
      · rw [List.getElem?_set_ne (Ne.symm e)] at hj
        obtain ⟨w, h1, h2⟩ := sr.env j o2 hj
        refine ⟨w, h1, h2.stay (Le.refl _) fun b r' z => ⟨other z ?_, z⟩⟩
        intro y
        exact e (List.cons.inj (show j :: r' = [i, idxO f fs] from y)).1
    | ix i k =>
      unfold getPl at h
      simp only at h
      split at h
      case h_2 => cases h
      rename_i fs hg
      have hpath : pathPl ρ (.ix i k) = [i, k] := rfl
      rw [hpath] at r ha other
      have hset : setPl ρ o' (.ix i k) = ρ.set i (some (.m (putN o' k fs))) := by unfold setPl; simp only [hg]
      rw [hset]
      refine ⟨hbas, sr.tb.put hp, fun j o2 hj => ?_, by rw [List.length_set]; exact sr.len⟩
      by_cases e : j = i
      · subst e
        by_cases hlt : j < ρ.length
        · rw [List.getElem?_set_self hlt] at hj
          cases hj
          obtain ⟨w, h1, h2⟩ := sr.env j _ (getS_eq hg)
          cases h2 with
          | @m _ a1 gs fs g1 g2 g4 =>
            obtain ⟨a', xs', k1, k2, k3⟩ := hv
            rw [h1] at k1
            cases k1
            rw [g2] at k2
            cases k2
            have na : a1 ≠ a := fun z => by rw [z, ha] at g1; cases g1
            exact ⟨_, h1, .m g1 ((upd_ne na).trans g2) (RepOF.putN (H' := upd H a u) (lab' := lab) (Le.refl F) g4 k3 (fun i' b r' _ z1 z2 => ⟨other z2 (fun y => z1 (by
              have : i' = k := (List.cons.inj (List.cons.inj (show [j] ++ i' :: r' = [j, k] from y)).2).1
              omega)), z2⟩) (by simpa using r))⟩
        · rw [List.getElem?_eq_none (by rw [List.length_set]; omega)] at hj; cases hj
      · rw [List.getElem?_set_ne (Ne.symm e)] at hj
        obtain ⟨w, h1, h2⟩ := sr.env j o2 hj
        refine ⟨w, h1, h2.stay (Le.refl _) fun b r' z => ⟨other z ?_, z⟩⟩
        intro y
        exact e (List.cons.inj (show j :: r' = [i, k] from y)).1
  · by_cases y : b = a
    · subst y; rw [upd_same]; exact fun z => nomatch z
    · rw [upd_ne y]; exact z
  · have e : lab b = none := h2.elim (fun z => nomatch z) id
    have nb : b ≠ a := by intro y; subst y; rw [ha] at e; cases e
    exact ⟨upd_ne nb, rfl, fun z => z⟩
theorem AtPl.inj {p : Pl} {v w : V} (h : AtPl mg σ H v p) (h' : AtPl mg σ H' w p) (k : (∃ i, p = .sl i) ∨ ∀ a, Th H a → H' a = H a) : v = w := by
  cases p with
  | sl i =>
    have h1 : σ[i]? = some (some v) := h
    have h2 : σ[i]? = some (some w) := h'
    rw [h1] at h2; cases h2; rfl
  | fd i c f =>
    obtain ⟨a, C, dx, gs, h1, h2, _, h3⟩ := h
    obtain ⟨a', C', dx', gs', g1, g2, _, g3⟩ := h'
    rw [h1] at g1; cases g1
    rcases k with ⟨_, z⟩ | k
    · cases z
    · rw [k a (th_of h2), h2] at g2
      cases g2
      rw [h3] at g3; cases g3; rfl
  | ix i j =>
    obtain ⟨a, xs, h1, h2, h3⟩ := h
    obtain ⟨a', xs', g1, g2, g3⟩ := h'
    rw [h1] at g1; cases g1
    rcases k with ⟨_, z⟩ | k
    · cases z
    · rw [k a (th_of h2), h2] at g2
      cases g2
      rw [h3] at g3; cases g3; rfl
end
def tPl (mg : Str → Option Value) (p : Pl) : TE := fun σ H Q => ∃ v, AtPl mg σ H v p ∧ Q v H
def PLx (X : Cx) (e : Expr) (p : Pl) : Prop := PE X e (tPl X.mg p)
section
variable {X : Cx}
theorem pl_name (i : Nat) {x : Str} {pos : Pos} (hN : X.N[i]? = some x := by rfl) (hv : Vis X.env.scope x := by first | exact Or.inl rfl | exact Or.inr (Or.inl rfl) | exact Or.inr (Or.inr rfl)) (hd : (x == ("__debug__" : Str)) = false := by decide)
    (hcd : (x == ("__classdict__" : Str)) = false := by decide) : PLx X (.Name x pos) (.sl i) := pe_var hN hv hd hcd
end
def LmR (K : PySem.W.Frag) (mg : Str → Option Value) (r : V → List V → Hp → VK → Prop) (g : List D → D → Option (D × List D)) : Prop :=
  ∀ (a : Addr) (xs : List V) (ds : List D) (x : V) (d : D) (res : D) (ds' : List D) (F H : Hp) (Q : VK), Le F H → H a = some (.lst xs) → RepL K mg F xs ds → Rep K mg F x d → g ds d = some (res, ds') →
    (∀ w xs', Rep K mg F w res → RepL K mg F xs' ds' → Q w (upd H a (.lst xs'))) → r (.ref a) [x] H Q
def sLm (g : List D → D → Option (D × List D)) (p : Pl) (f : Env → Out P) (ρ : Env) : Out P := match getPl ρ p with
  | some (.l _) => (sFz f ρ).bind fun q ρ1 => (match q, getPl ρ1 p with
    | .v d, some (.l ds) => (match g ds d with
      | some (res, ds') => .ok (.v res) (setPl ρ1 (.l ds') p)
      | none => .no)
    | _, _ => .no)
  | _ => .no
def gApp (ds : List D) (d : D) : Option (D × List D) := if ds.length < sizeLine then some (.non, ds ++ [d]) else none
def Pl.quick (p : Pl) (q : Bool) : Bool := match p with
  | .sl _ => true
  | .fd _ _ _ => q
  | .ix _ _ => q
section
variable {X : Cx} {W : WX} {q : Bool} {p : Pl} {o e : Expr} {f : Env → Out P} {g : List D → D → Option (D × List D)} {r : V → List V → Hp → VK → Prop} {name : Str} {id : String} {apos cpos : Pos}
theorem e_lm (hp : PLx X o p) (hr : LmR X.K X.mg r g) (slot : Slot "list" name id) (hty : typeOf (.builtin id) = pure (.type "method_descriptor")) (hm : MtR X id r) (ha : DE X W q e f) (hq : p.quick q = true)
    (hbase : attributeBase o name X.env (eval o X.env) = eval o X.env := by rfl)
    (hfew : ((backTo cpos (starEach [e] X.env)).all (fun x => !x.1) && (backToKw cpos (keywordEach [] X.env)).all (fun x => x.1.isSome)
      && decide (([e] : List Expr).length + ([] : List Keyword).length + (if ([] : List Keyword).isEmpty then 0 else 1) < 30)) = true := by rfl)
    (hline : (apos.endLine == cpos.line) = true := by rfl) (hs : starEach [e] X.env = [(false, eval e X.env)] := by rfl) : DE X W false (.Call (.Attribute o name apos) [e] [] cpos) (sLm g p f) := by
  refine PE_weak (pe_bm PySem.F.plainAttrs_list slot hty hm hp (pa_cons (e_fz ha) pa_nil hs) hbase hfew hline hs rfl) fun σ H Q h => ?_
  obtain ⟨ρ, F, lab, sr, m⟩ := h
  unfold sLm at m
  split at m
  case h_2 => exact m.elim
  rename_i ds0 h0
  obtain ⟨v, hv, r0⟩ := sr.get h0
  cases r0 with
  | @l _ a xs0 _ l0 g0 k0 =>
  refine ⟨.ref a, hv, (show tyV X.K "list" (.ref a) H from .inl ⟨rfl, xs0, .inl (.inl g0)⟩), ρ, F, lab, sr, Meets.seq (q := false) (qa := q) (rep2 := RepP X.K X.mg) (fun z => Bool.noConfusion z) sinceP m fun y p' ρ1 F1 H1 lab1 mv1 sr1 rp m1 => ?_⟩
  split at m1
  case h_2 => exact m1.elim
  rename_i d ds hd
  split at m1
  case h_2 => exact m1.elim
  rename_i res ds' hg
  obtain ⟨v1, hv1, r1⟩ := sr1.get hd
  have ev : V.ref a = v1 := hv.inj hv1 (by
    cases p with
    | sl i => exact .inl ⟨i, rfl⟩
    | fd i c f =>
      have e : q = true := hq
      exact .inr fun b hb => (mv1.fr b hb (.inl e)).1
    | ix i j =>
      have e : q = true := hq
      exact .inr fun b hb => (mv1.fr b hb (.inl e)).1)
  subst ev
  cases r1 with
  | @l _ _ xs _ l1 g1 k1 =>
  refine hr a xs ds y d res ds' F1 H1 Q sr1.bas.le g1 k1 rp hg fun w xs' rw' rl => ?_
  obtain ⟨sr2, mv2⟩ := sr1.set (o' := .l ds') (u := .lst xs') hd hv1 l1 (fun C dx gs z => by rw [g1] at z; cases z) (plain_of g1) (.l l1 upd_same rl)
  exact m1 w F1 _ lab1 mv2 sr2 rw'
theorem lm_append : LmR X.K X.mg rAppend gApp := by
  intro a xs ds x d res ds' F H Q l h rl r e k
  unfold gApp at e
  split at e
  · rename_i hz
    cases e
    exact ⟨a, xs, x, rfl, rfl, h, by rw [rl.length]; exact hz, k .non _ .non (rl.append (.cons r .nil))⟩
  · cases e
end
def sSetIx (p : Pl) (fv fi : Env → Out P) (ρ : Env) : Flow := flow (sFz fv ρ) fun q ρ1 => match q, getPl ρ1 p with
  | .v d, some (.l _) => flow (fi ρ1) fun q2 ρ2 => (match q2, getPl ρ2 p with
    | .v (.int i), some (.l ds) => (match ixN ds.length i with
      | some j => .next (setPl ρ2 (.l (ds.set j d)) p)
      | none => .no)
    | _, _ => .no)
  | _, _ => .no
section
variable {X : Cx} {W : WX} {ks : List Nat} {q qi : Bool} {p : Pl} {o i e : Expr} {f fi : Env → Out P} {pos pos' : Pos}
theorem s_setIx (hp : PLx X o p) (he : DE X W q e f) (hi : DE X W qi i fi) (hq : p.quick qi = true) (hs : swapsWithSole [.Subscript o i pos'] e pos.line X.env = pure false := by rfl) (hw : swappedStores [.Subscript o i pos'] e X.env = pure none := by rfl)
    (h1 : (assignEach [.Subscript o i pos'] X.env).map (·.2) = [assign (.Subscript o i pos') X.env] := by rfl)
    (ha : ∀ v, assign (.Subscript o i pos') X.env v = (do
      let ov ← holding [v] (eval o X.env)
      let iv ← holding [v, ov] (eval i X.env)
      standAt pos'
      holding [v, ov, iv] (setItem ov iv v)
      release [v, ov, iv] []) := by intro _; rfl) : DS X W ks (.Assign [.Subscript o i pos'] e pos) (sSetIx p f fi) := by
  refine PS_weak (ps_asg (e_fz he) (pg_sub hp hi set_list ha) hs hw h1) fun D σ H h => ?_
  obtain ⟨ρ, F, lab, sr, m⟩ := h
  refine ⟨ρ, F, lab, sr, SMeets.expr m fun y p' ρ1 F1 H1 lab1 mv1 sr1 rp m1 => ?_⟩
  split at m1
  case h_2 => exact m1.elim
  rename_i d ds0 h0
  obtain ⟨v, hv, r0⟩ := sr1.get h0
  cases r0 with
  | @l _ a xs0 _ l0 g0 k0 =>
  refine ⟨.ref a, hv, ρ1, F1, lab1, sr1, SMeets.expr m1 fun z p2 ρ2 F2 H2 lab2 mv2 sr2 rp2 m2 => ?_⟩
  split at m2
  case h_2 => exact m2.elim
  rename_i n ds hd
  cases rp2
  split at m2
  case h_2 => exact m2.elim
  rename_i j hj
  obtain ⟨v1, hv1, r1⟩ := sr2.get hd
  have ev : V.ref a = v1 := hv.inj hv1 (by
    cases p with
    | sl i => exact .inl ⟨i, rfl⟩
    | fd i c f =>
      have e : qi = true := hq
      exact .inr fun b hb => (mv2.fr b hb (.inl e)).1
    | ix i j =>
      have e : qi = true := hq
      exact .inr fun b hb => (mv2.fr b hb (.inl e)).1)
  subst ev
  cases r1 with
  | @l _ _ xs _ l1 g1 k1 =>
  refine ⟨a, xs, n, j, rfl, rfl, g1, by rw [k1.length]; exact hj, ?_⟩
  obtain ⟨sr3, mv3⟩ := sr2.set (o' := .l (ds.set j d)) (u := .lst (xs.set j y)) hd hv1 l1 (fun C dx gs z => by rw [g1] at z; cases z) (plain_of g1) (.l l1 upd_same (k1.set j (Rep.mono mv2.ff rp)))
  exact m2 σ F2 _ lab2 mv3 sr3 Keep.refl
end
def lookD (f : Str) : List (Str × D) → Option D
  | [] => none
  | (n, x) :: r => if n = f then some x else lookD f r
theorem RepF.look {K : PySem.W.Frag} {mg : Str → Option Value} {F : Hp} {f : Str} : ∀ {gs : List (Str × V)} {fs : List (Str × D)} {d : D}, RepF K mg F gs fs → lookD f fs = some d → ∃ v, gs.lookup f = some v ∧ Rep K mg F v d
  | _, _, _, .nil, h => by cases h
  | _, _, _, .cons (n := n) (x := x) r1 r2, h => by
    unfold lookD at h
    by_cases e : n = f
    · rw [if_pos e] at h
      cases h; subst e
      exact ⟨x, lookup_cons_eq, r1⟩
    · rw [if_neg e] at h
      obtain ⟨v, h1, h2⟩ := RepF.look r2 h
      exact ⟨v, by rw [lookup_cons_ne e]; exact h1, h2⟩
section
variable {X : Cx} {W : WX} {q : Bool} {c f : Str} {C : Addr} {e o : Expr} {g : Env → Out P} {pos p2 : Pos}
end
end LW

namespace LW
open PySem PySem.Spec PyProof.Rows L2
def sSetF (i : Nat) (c f : Str) (fe : Env → Out P) (ρ : Env) : Flow := flow (fe ρ) fun p ρ1 => match getS ρ1 i with
  | some (.i c' fs) => if c' = c ∧ fs.length < 1000 then (match p with
    | .v d => .next (ρ1.set i (some (.i c (putO f (.v d) fs))))
    | .f o => .next (ρ1.set i (some (.i c (putO f o fs))))
    | .s _ => .no) else .no
  | _ => .no
def P.toO : P → Option O
  | .v d => some (.v d)
  | .f o => some o
  | .s _ => none
section
variable {K : PySem.W.Frag} {mg : Str → Option Value} {q : Bool} {F0 H0 F H : Hp} {lab0 lab : Lab} {σ : L2.St} {ρ : Env}
theorem RepP.own {N : Addr → Prop} {v : V} {p : P} {o : O} (b : Bas F H lab) (r : RepP K mg N F H lab v p) (e : p.toO = some o) :
    ∃ l2 : Lab, RepO K mg F H l2 [] v o ∧ ∀ a p, l2 a = some p → N a ∧ lab a = none ∧ F a = none ∧ Th H a := by
  cases p with
  | v d => cases e; exact ⟨fun _ => none, .v r, fun a p h => nomatch h⟩
  | s d => cases e
  | f o' => cases e; exact r
end
section
variable {X : Cx} {W : WX} {ks : List Nat} {q : Bool} {c f : Str} {C : Addr} {e : Expr} {fe : Env → Out P} {pos p2 p3 : Pos}
end
def sMake (c : Str) (S : Fn) (g : Env → Out (List D)) (ρ : Env) : Out P := (g ρ).bind fun ds ρ1 => match S (.i c [] :: ds.map .v) with
  | .ret (.v .non) (o :: _) => .ok (.f o) ρ1
  | .exc x _ => .exc x ρ1
  | _ => .no
section
variable {X : Cx} {CX : CXT} {k : Nat} {f C : Addr} {fd : FuncData} {ps : List Str} {sp : Sp} {E : L2.St → XK} {x : Str} {p pos : Pos} {e : Expr} {es : List Expr} {t : TA}
end
section
variable {K : PySem.W.Frag} {mg : Str → Option Value} {F H : Hp} {lab : Lab} {σ : L2.St} {ρ : Env} {Q : VK} {W : WX} {S : Fn} {n : Nat} {c : Str} {C : Addr} {vs : List V} {ds : List D} {q : Bool}
end
section
variable {X : Cx} {W : WX} {q : Bool} {k n : Nat} {f C : Addr} {fd : FuncData} {ps : List Str} {S : Fn} {x : Str} {p pos : Pos} {e : Expr} {es : List Expr} {g : Env → Out (List D)}
end
end LW
namespace LW
open PySem PySem.Spec PyProof.Rows L2
section
variable {X : Cx} {CX : CXT} {k : Nat} {f C : Addr} {fd : FuncData} {ps : List Str} {sp : Sp} {E : L2.St → XK} {m : Str} {pos apos : Pos} {o e : Expr} {es : List Expr} {ta : TE} {t : TA}
end
section
variable {X : Cx} {W : WX} {q : Bool} {k n : Nat} {f C : Addr} {fd : FuncData} {ps : List Str} {S : Fn} {c m : Str} {p pos apos : Pos} {e : Expr} {es : List Expr} {g : Env → Out (List D)} {y : Str} {ypos : Pos}
end
end LW

namespace LW
open PySem PySem.Spec PyProof.Rows L2
inductive Tg where
  | int | bool | str | tuple | list | dict | own (c : Str)
def Tg.name : Tg → String
  | .int => "int" | .bool => "bool" | .str => "str" | .tuple => "tuple" | .list => "list" | .dict => "dict" | .own _ => ""
def D.ty : D → String
  | .non => "NoneType" | .bl _ => "bool" | .int _ => "int" | .str _ => "str" | .tup _ => "tuple" | .lst _ => "list" | .dct _ _ => "dict" | .ins _ _ => "" | .ex _ _ => "" | .fn _ => "" | .lam _ _ => "" | .ldc _ => ""
def D.hasTy : D → Bool
  | .ins _ _ => false
  | .ex _ _ => false
  | .fn _ => false
  | .ldc _ => false
  | .lam _ _ => false
  | _ => true
def subTy (a b : String) : Bool := a == b || (a == "bool" && b == "int")
def D.isa (cs : List Str) (g : Tg) (d : D) : Option Bool := match d, g with
  | .ins c _, .own c' => if cs.contains c then some (c == c') else none
  | .ins c _, _ => if cs.contains c then some false else none
  | .ex _ _, _ => none
  | .fn _, _ => none
  | .ldc _, _ => none
  | .lam _ _, _ => none
  | _, .own _ => some false
  | d, g => some (subTy d.ty g.name)
structure InsT (K : PySem.W.Frag) (C : Addr) : Prop where
  cls : Cls K C
  ha : PySem.W.findIn K (.ref C) "__class__" = some (some (.builtin "object.__class__"))
  hn : PySem.W.specialIn K (.builtin "object.__class__") "__get__" = some (some (.builtin "getset_descriptor.__get__"))
  htk : PySem.W.takesIn K (.builtin "object.__class__") = some true
  hm : PySem.W.mroIn K C (.type "object") = some true
section
variable {K : PySem.W.Frag} {mg : Str → Option Value} {F H : Hp} {v : V} {d : D} {cs : List Str}
theorem RepS.ty (l : Le F H) (r : RepS K mg F H v d) (ht : d.hasTy = true) : TyX K H v (.type d.ty) := by
  cases r with
  | v r =>
    cases r with
    | non => exact .base .non
    | bl b => exact .base (.bl b)
    | int i => exact .base (.int i)
    | str s => exact .base (.str s)
    | tup h r =>
      exact .base (.tup (l _ _ h))
    | lst h r =>
      rcases SqL_le l h with (h | ⟨o, h⟩) | ⟨o, its, n, h1, h2, _⟩
      · exact .base (.lst h)
      · exact .base (.frz h)
      · exact .kList h1 h2
    | dK h r => exact .base (.dK (l _ _ h))
    | dT h r => exact .base (.dT (l _ _ h))
    | ins _ _ _ => cases ht
    | ex0 _ _ => cases ht
    | ex _ _ _ _ => cases ht
    | fn _ => cases ht
    | ldc _ _ => cases ht
    | lam _ _ _ _ _ => cases ht
  | l h r => exact .base (.lst h)
  | kK h r => exact .base (.dK h)
  | kT h r => exact .base (.dT h)
end
def gIs (g : D → Option Bool) (d : D) : Option P := (g d).map fun b => .v (.bl b)
def gIs2 (g1 g2 : D → Option Bool) (d : D) : Option P := match g1 d, g2 d with
  | some b1, some b2 => some (.v (.bl (b1 || b2)))
  | _, _ => none
section
variable {X : Cx} {W : WX} {q : Bool} {a b c : Expr} {f : Env → Out P} {g g1 g2 : D → Option Bool} {u u1 u2 : Value} {cv c1 c2 : V} {p pos tpos : Pos} {n1 : Nat}
def M1R (K : PySem.W.Frag) (mg : Str → Option Value) (r : V → List V → Hp → VK → Prop) (g : Str → D → Option P) : Prop :=
  ∀ (a : Str) (v : V) (d : D) (p : P) (F H : Hp) (lab : Lab) (Q : VK), Bas F H lab → RepS K mg F H v d → g a d = some p → Cont K mg F H lab p Q → r (.str a) [v] H Q
def sM1 (g : Str → D → Option P) (fa fb : Env → Out P) (ρ : Env) : Out P := (fa ρ).bind fun p ρ1 => match p with
  | .v (.str a) => (fb ρ1).bind fun p' ρ2 => (match p'.rd with
    | some d => (match g a d with
      | some z => .ok z ρ2
      | none => .no)
    | none => .no)
  | _ => .no
theorem e_m1 {qa qb : Bool} {o e : Expr} {fa fb : Env → Out P} {g : Str → D → Option P} {id : String} {name : Str} {apos pos : Pos} {r : V → List V → Hp → VK → Prop} (slot : Slot "str" name id) (ty : typeOf (.builtin id) = pure (.type "method_descriptor")) (rule : MtR X id r) (hr : M1R X.K X.mg r g)
    (ho : DE X W qa o fa) (he : DE X W qb e fb) (hs : starEach [e] X.env = [(false, eval e X.env)] := by rfl) (hbase : attributeBase o name X.env (eval o X.env) = eval o X.env := by rfl) (hline : (apos.endLine == pos.line) = true := by rfl) :
    DE X W (qa && qb) (.Call (.Attribute o name apos) [e] [] pos) (sM1 g fa fb) :=
  PE_weak (pe_m1 slot ty rule ho he hs hbase hline) fun σ H Q h => by
    obtain ⟨ρ, F, lab, sr, m⟩ := h
    refine ⟨ρ, F, lab, sr, Meets.seq (rep2 := RepP X.K X.mg) and_l sinceP m fun v p ρ1 F1 H1 lab1 mv1 sr1 rp m1 => ?_⟩
    split at m1
    · cases rp
      refine ⟨⟨_, rfl⟩, ρ1, F1, lab1, sr1, Meets.seq (rep2 := RepP X.K X.mg) and_r sinceP m1 fun v p ρ2 F2 H2 lab2 mv2 sr2 rp2 m2 => ?_⟩
      split at m2
      · rename_i d hd
        split at m2
        · rename_i z hz
          exact hr _ v d z F2 H2 lab2 Q sr2.bas (rp2.rd hd) hz fun w F' H' gr rw' => Meets.grow m2 sr2 gr rw'
        · exact m2.elim
      · exact m2.elim
    · exact m1.elim
def gStrip (a : Str) (d : D) : Option P := match d with
  | .str b => if a.length ≤ sizeLine then some (.v (.str (Txt.stripChars a b))) else none
  | _ => none
def gSplit (a : Str) (d : D) : Option P := match d with
  | .str b => if (b.length == 0) = false ∧ a.length + 2 ≤ sizeLine then some (.f (.l ((Txt.split a b).map .str))) else none
  | _ => none
theorem repL_strs {K : PySem.W.Frag} {mg : Str → Option Value} {F : Hp} : ∀ ys : List Str, RepL K mg F (ys.map V.str) (ys.map D.str)
  | [] => .nil
  | y :: r => .cons (.str y) (repL_strs r)
theorem m1_split : M1R X.K X.mg (fun x xs H Q => ∃ a b, x = .str a ∧ xs = [.str b] ∧ (b.length == 0) = false ∧ a.length + 2 ≤ sizeLine ∧ rNewStrs (Txt.split a b) H Q) gSplit := by
  intro a v d p F H lab Q b r e k
  unfold gSplit at e
  split at e
  · split at e
    · rename_i hz
      cases e; cases r.str
      exact ⟨_, _, rfl, rfl, hz.1, hz.2, k.lst b (repL_strs _)⟩
    · cases e
  · cases e
def strsOf : List D → Option (List Str)
  | [] => some []
  | .str s :: r => (strsOf r).map (s :: ·)
  | _ :: _ => none
def seqOf : D → Option (List D)
  | .lst ds => some ds
  | .tup ds => some ds
  | _ => none
def gJoin (a : Str) (d : D) : Option P := match seqOf d with
  | some ds => (match strsOf ds with
    | some ys => if (ys.map (·.length)).sum + ys.length * a.length ≤ 16777216 then some (.v (.str (Txt.join a ys))) else none
    | none => none)
  | none => none
def sFmt (f : Env → Out P) (ρ : Env) : Out P := (f ρ).bind fun p ρ1 => match p with
  | .v (.str y) => if y.length ≤ sizeLine then .ok (.v (.str y)) ρ1 else .no
  | .v (.int i) => if i.natAbs.log2 < 1920 then .ok (.v (.str (toString i))) ρ1 else .no
  | _ => .no
end
end LW

namespace LW
open PySem PySem.Spec PyProof.Rows L2
section
variable {X : Cx} {W : WX} {q : Bool} {k n : Nat} {f : Addr} {fd : FuncData} {ps : List Str} {S : Fn} {x : Str} {p pos : Pos}
end
def sPar (i j : Nat) (g : Env → Out (List D)) (ρ : Env) : Flow := flow (g ρ) fun ds ρ1 => match ds with
  | [a, b] => .next ((ρ1.set i (some (.v a))).set j (some (.v b)))
  | _ => .no
section
variable {X : Cx} {W : WX} {q : Bool} {ks : List Nat}
theorem s_par {i j : Nat} {x y : Str} {a b : Expr} {g : Env → Out (List D)} {px py pt pos : Pos} {kt k2 : Nat} {pt2 : Pos} (hc : X.calm = true) (hN : X.N.Nodup) (hi : X.N[i]? = some x) (hj : X.N[j]? = some y) (hij : i ≠ j) (hki : i ∉ ks) (hkj : j ∉ ks)
    (hx : X.env.scope.names.lookup x = some .local) (hy : X.env.scope.names.lookup y = some .local) (ha : DA X W q [a, b] g)
    (hw : swappedStores [.Tuple [.Name x px, .Name y py] kt pt] (.Tuple [a, b] k2 pt2) X.env = pure (some [x, y]))
    (hs : swapsWithSole [.Tuple [.Name x px, .Name y py] kt pt] (.Tuple [a, b] k2 pt2) pos.line X.env = pure false := by rfl) :
    DS X W ks (.Assign [.Tuple [.Name x px, .Name y py] kt pt] (.Tuple [a, b] k2 pt2) pos) (sPar i j g) := by
  refine PS_weak (ps_par hc hN hi hj hij hx hy ha hw hs) fun D σ H h => ?_
  obtain ⟨ρ, F, lab, sr, m⟩ := h
  refine ⟨ρ, F, lab, sr, SMeets.expr m fun xs ds ρ1 F1 H1 lab1 mv1 sr1 rw m1 => ?_⟩
  split at m1
  · cases rw with
    | cons r1 rr =>
      cases rr with
      | cons r2 rr =>
        cases rr
        exact ⟨_, _, rfl, m1 _ F1 H1 lab1 Move.refl (sr_putv (sr_putv sr1 r1) r2) ((Keep.set hki).trans (Keep.set hkj))⟩
  · exact m1.elim
end
def enumD (ds : List D) : List D := ds.zipIdx.map fun p => .tup [.int (p.2 : Nat), p.1]
theorem enumD_len (ds : List D) : (enumD ds).length = ds.length := by simp [enumD]
theorem enumD_get {ds : List D} {i : Nat} {d : D} (h : ds[i]? = some d) : (enumD ds)[i]? = some (.tup [.int (i : Nat), d]) := by
  simp [enumD, h]
def hEnum (f : Env → Out P) (ρ : Env) : Out (List D) := (sFz f ρ).bind fun p ρ1 => match p with
  | .v (.lst ds) => if ds.length ≤ sizeLine then .ok (enumD ds) ρ1 else .no
  | _ => .no
section
variable {X : Cx} {W : WX} {q : Bool} {e : Expr} {f : Env → Out P} {elts : List Expr} {kk : Nat} {tpos p pos : Pos}
theorem i_enum (hg : Gl X "enumerate") (hm : X.mg "enumerate" = none) (ha : DE X W q e f) (hs : starEach [e] X.env = [(false, eval e X.env)] := by rfl) :
    DI X W q (.Tuple elts kk tpos) (.Call (.Name "enumerate" p) [e] [] pos) (hEnum f) := by
  refine PI_weak (pi_enum hg hm (pa_cons (e_fz ha) pa_nil hs) hs) fun σ H R h => ?_
  obtain ⟨ρ, F, lab, sr, m⟩ := h
  refine ⟨ρ, F, lab, sr, Meets.seq (rep2 := fun _ F' _ _ J ds => Walks X.K X.mg F' J ds ∧ ds.length ≤ sizeLine) id (fun _ _ _ _ _ _ _ _ r => r) m fun v p ρ1 F1 H1 lab1 mv1 sr1 rp m1 => ?_⟩
  split at m1
  · rename_i ds
    split at m1
    case isFalse => exact m1.elim
    rename_i hz
    cases rp with
    | lst hq rs =>
      rename_i a xs
      refine ⟨a, xs, rfl, SqL_le sr1.bas.le hq, tail_of m1 sr1 (fun F' H' l1 l2 => ?_) (by rw [enumD_len]; exact hz)⟩
      have hs : SqL X.K H' a xs := SqL_le (l1.trans l2) hq
      refine ⟨fun i hi => ⟨xs, hs, by rw [rs.length]; rw [enumD_len] at hi; exact hi⟩, fun i d e => ?_⟩
      have hi : i < ds.length := by
        have := (List.getElem?_eq_some_iff.mp e).1
        rwa [enumD_len] at this
      have hd : ds[i]? = some ds[i] := List.getElem?_eq_getElem hi
      rw [enumD_get hd] at e
      cases e
      obtain ⟨x, hx, rx⟩ := rs.get hd
      refine ⟨⟨xs, x, hs, hx⟩, fun y H'' hy => ?_⟩
      obtain ⟨T, x', rfl, hT, rfl, hx'⟩ := hy
      have e2 := hx' xs hs
      rw [hx] at e2; cases e2
      have gr := Grow.new (K := X.K) (mg := X.mg) (o := .tup [.int (i : Nat), x]) l2 hT
      exact ⟨_, gr, .tup upd_same (.cons (.int _) (.cons (rx.mono (l1.trans gr.ff)) .nil))⟩
  · exact m1.elim
end
mutual
def D.keq : D → D → Bool
  | .int a, .int b => a == b
  | .str a, .str b => a == b
  | .tup a, .tup b => keqL a b
  | _, _ => false
def keqL : List D → List D → Bool
  | [], [] => true
  | a :: r, b :: s => a.keq b && keqL r s
  | _, _ => false
end
theorem keq_key (a b : Key) : (keyD a).keq (keyD b) = decide (a = b) := by
  cases a <;> cases b <;> simp [keyD, D.keq] <;> rfl
theorem keqL_key : ∀ a b : List Key, keqL (a.map keyD) (b.map keyD) = decide (a = b)
  | [], [] => rfl
  | [], b :: s => rfl
  | a :: r, [] => rfl
  | a :: r, b :: s => by
    simp only [List.map_cons, keqL, keq_key, keqL_key r s]
    by_cases h1 : a = b <;> by_cases h2 : r = s <;> simp [h1, h2]
def D.key? : D → Option Key
  | .int i => some (.inl i)
  | .str s => some (.inr s)
  | _ => none
def keysOf : List D → Option (List Key)
  | [] => some []
  | d :: r => match d.key?, keysOf r with
    | some k, some ks => some (k :: ks)
    | _, _ => none
theorem key_D {d : D} {k : Key} (h : d.key? = some k) : d = keyD k := by
  cases d <;> simp only [D.key?] at h <;> cases h <;> rfl
theorem keys_D : ∀ {ds : List D} {ks : List Key}, keysOf ds = some ks → ds = ks.map keyD
  | [], ks, h => by cases h; rfl
  | d :: r, ks, h => by
    unfold keysOf at h
    split at h
    · rename_i k ks' h1 h2
      cases h
      rw [key_D h1, keys_D h2]; rfl
    · cases h
def D.keyAt (t : Bool) (k : D) : Bool := match t, k with
  | false, k => k.key?.isSome
  | true, .tup ds => (keysOf ds).isSome
  | true, _ => false
def lookK (k : D) : List (D × D) → Option D
  | [] => none
  | (n, d) :: r => if n.keq k = true then some d else lookK k r
def hasK (k : D) (ds : List (D × D)) : Bool := ds.any fun kv => kv.1.keq k
def setK (k v : D) (ds : List (D × D)) : List (D × D) := if hasK k ds = true then ds.map (fun kv => if kv.1.keq k = true then (kv.1, v) else kv) else ds ++ [(k, v)]
def delK (k : D) (ds : List (D × D)) : List (D × D) := ds.filter fun kv => !kv.1.keq k
section
variable {K : PySem.W.Frag} {mg : Str → Option Value} {F : Hp}
theorem valK : ∀ {kvs : List (Key × V)} {ds : List (D × D)} (k : Key), RepK K mg F kvs ds → (lookK (keyD k) ds = none → valV kvs k = none) ∧ ∀ d, lookK (keyD k) ds = some d → ∃ v, valV kvs k = some v ∧ Rep K mg F v d
  | _, _, k, .nil => ⟨fun _ => rfl, fun d h => by cases h⟩
  | _, _, k, .cons (n := n) h r => by
    unfold lookK
    rw [keq_key]
    by_cases e : n = k
    · rw [if_pos (by simpa using e)]
      refine And.intro (fun z => nomatch z) (fun d z => ?_)
      cases z
      exact ⟨_, valV_pos e, h⟩
    · rw [if_neg (by simpa using e)]
      obtain ⟨h1, h2⟩ := valK k r
      refine And.intro (fun z => ?_) (fun d z => ?_)
      · rw [valV_neg e]; exact h1 z
      · rw [valV_neg e]; exact h2 d z
theorem valT : ∀ {kvs : List (List Key × V)} {ds : List (D × D)} (k : List Key), RepT K mg F kvs ds → (lookK (.tup (k.map keyD)) ds = none → valV kvs k = none) ∧ ∀ d, lookK (.tup (k.map keyD)) ds = some d → ∃ v, valV kvs k = some v ∧ Rep K mg F v d
  | _, _, k, .nil => ⟨fun _ => rfl, fun d h => by cases h⟩
  | _, _, k, .cons (n := n) h r => by
    unfold lookK
    rw [D.keq, keqL_key]
    by_cases e : n = k
    · rw [if_pos (by simpa using e)]
      refine And.intro (fun z => nomatch z) (fun d z => ?_)
      cases z
      exact ⟨_, valV_pos e, h⟩
    · rw [if_neg (by simpa using e)]
      obtain ⟨h1, h2⟩ := valT k r
      refine And.intro (fun z => ?_) (fun d z => ?_)
      · rw [valV_neg e]; exact h1 z
      · rw [valV_neg e]; exact h2 d z
theorem hasK_K : ∀ {kvs : List (Key × V)} {ds : List (D × D)} (k : Key), RepK K mg F kvs ds → hasK (keyD k) ds = kvs.any fun kv => decide (kv.1 = k)
  | _, _, k, .nil => rfl
  | _, _, k, .cons (n := n) h r => by
    have ih := hasK_K k r
    unfold hasK at ih ⊢
    rw [List.any_cons, List.any_cons, ih, keq_key]
theorem hasK_T : ∀ {kvs : List (List Key × V)} {ds : List (D × D)} (k : List Key), RepT K mg F kvs ds → hasK (.tup (k.map keyD)) ds = kvs.any fun kv => decide (kv.1 = k)
  | _, _, k, .nil => rfl
  | _, _, k, .cons (n := n) h r => by
    have ih := hasK_T k r
    unfold hasK at ih ⊢
    rw [List.any_cons, List.any_cons, ih, D.keq, keqL_key]
theorem RepK.snoc : ∀ {kvs : List (Key × V)} {ds : List (D × D)} {k : Key} {v : V} {d : D}, RepK K mg F kvs ds → Rep K mg F v d → RepK K mg F (kvs ++ [(k, v)]) (ds ++ [(keyD k, d)])
  | _, _, _, _, _, .nil, h => .cons h .nil
  | _, _, _, _, _, .cons h' r, h => .cons h' (r.snoc h)
theorem RepT.snoc : ∀ {kvs : List (List Key × V)} {ds : List (D × D)} {k : List Key} {v : V} {d : D}, RepT K mg F kvs ds → Rep K mg F v d → RepT K mg F (kvs ++ [(k, v)]) (ds ++ [(.tup (k.map keyD), d)])
  | _, _, _, _, _, .nil, h => .cons h .nil
  | _, _, _, _, _, .cons h' r, h => .cons h' (r.snoc h)
theorem RepK.repl : ∀ {kvs : List (Key × V)} {ds : List (D × D)} {k : Key} {v : V} {d : D}, RepK K mg F kvs ds → Rep K mg F v d →
    RepK K mg F (kvs.map fun kv => if kv.1 = k then (kv.1, v) else kv) (ds.map fun kv => if kv.1.keq (keyD k) = true then (kv.1, d) else kv)
  | _, _, _, _, _, .nil, _ => .nil
  | _, _, k, v, d, .cons (n := n) h' r, h => by
    have ih := RepK.repl (k := k) r h
    simp only [List.map_cons, keq_key]
    by_cases e : n = k
    · rw [if_pos e, if_pos (by simpa using e)]; exact .cons h ih
    · rw [if_neg e, if_neg (by simpa using e)]; exact .cons h' ih
theorem RepT.repl : ∀ {kvs : List (List Key × V)} {ds : List (D × D)} {k : List Key} {v : V} {d : D}, RepT K mg F kvs ds → Rep K mg F v d →
    RepT K mg F (kvs.map fun kv => if kv.1 = k then (kv.1, v) else kv) (ds.map fun kv => if kv.1.keq (.tup (k.map keyD)) = true then (kv.1, d) else kv)
  | _, _, _, _, _, .nil, _ => .nil
  | _, _, k, v, d, .cons (n := n) h' r, h => by
    have ih := RepT.repl (k := k) r h
    simp only [List.map_cons, D.keq, keqL_key]
    by_cases e : n = k
    · rw [if_pos e, if_pos (by simpa using e)]; exact .cons h ih
    · rw [if_neg e, if_neg (by simpa using e)]; exact .cons h' ih
theorem RepK.put {kvs : List (Key × V)} {ds : List (D × D)} {k : Key} {v : V} {d : D} (r : RepK K mg F kvs ds) (h : Rep K mg F v d) : RepK K mg F (putK kvs k v) (setK (keyD k) d ds) := by
  unfold putK setK
  rw [hasK_K k r]
  split
  · exact r.repl h
  · exact r.snoc h
theorem RepT.put {kvs : List (List Key × V)} {ds : List (D × D)} {k : List Key} {v : V} {d : D} (r : RepT K mg F kvs ds) (h : Rep K mg F v d) : RepT K mg F (putK kvs k v) (setK (.tup (k.map keyD)) d ds) := by
  unfold putK setK
  rw [hasK_T k r]
  split
  · exact r.repl h
  · exact r.snoc h
theorem RepK.drop {k : Key} : ∀ {kvs : List (Key × V)} {ds : List (D × D)}, RepK K mg F kvs ds → RepK K mg F (dropK kvs k) (delK (keyD k) ds)
  | _, _, .nil => .nil
  | _, _, .cons (n := n) h r => by
    have ih := r.drop (k := k)
    unfold dropK delK at ih ⊢
    rw [List.filter_cons, List.filter_cons]
    simp only [keq_key] at ih ⊢
    by_cases e : n = k
    · simp [e]; simpa using ih
    · simp [e]; exact .cons h (by simpa using ih)
theorem RepK.len : ∀ {kvs : List (Key × V)} {ds : List (D × D)}, RepK K mg F kvs ds → kvs.length = ds.length
  | _, _, .nil => rfl
  | _, _, .cons _ r => congrArg (· + 1) r.len
theorem RepT.len : ∀ {kvs : List (List Key × V)} {ds : List (D × D)}, RepT K mg F kvs ds → kvs.length = ds.length
  | _, _, .nil => rfl
  | _, _, .cons _ r => congrArg (· + 1) r.len
theorem RepL.keys : ∀ {xs : List V} {ks : List Key}, RepL K mg F xs (ks.map keyD) → xs = ks.map kV
  | _, [], .nil => rfl
  | _, k :: r, .cons h t => by
    rw [t.keys]
    cases k <;> (cases h; rfl)
theorem Rep.key {v : V} {k : Key} (h : Rep K mg F v (keyD k)) : v = kV k := by cases k <;> (cases h; rfl)
theorem RepS.key {H : Hp} {v : V} {k : Key} (h : RepS K mg F H v (keyD k)) : v = kV k := by
  cases k <;> (cases h with | v h => cases h; rfl)
theorem dget {H : Hp} (l : Le F H) {a v : V} {t : Bool} {ds : List (D × D)} {k : D} (ra : RepS K mg F H a (.dct t ds)) (rk : RepS K mg F H v k) (hk : k.keyAt t = true) :
    ∃ c, a = .ref c ∧ IsD H c ∧ ((lookK k ds = none → DGet H c v none) ∧ ∀ d, lookK k ds = some d → ∃ x, DGet H c v (some x) ∧ Rep K mg F x d) := by
  have go1 : ∀ {c : Addr} {kvs : List (Key × V)} {ds : List (D × D)} {k : D}, H c = some (.dK kvs) → RepK K mg F kvs ds → k.keyAt false = true → RepS K mg F H v k →
      (lookK k ds = none → DGet H c v none) ∧ ∀ d, lookK k ds = some d → ∃ x, DGet H c v (some x) ∧ Rep K mg F x d := fun {c kvs ds k} hc r hk rk => by
    have hk : k.key?.isSome = true := hk
    cases hkk : k.key? with
    | none => rw [hkk] at hk; cases hk
    | some kk =>
      have e := key_D hkk
      subst e
      obtain ⟨h1, h2⟩ := valK kk r
      have ev := rk.key
      subst ev
      refine ⟨fun z => ?_, fun d z => ?_⟩
      · have := DGet.k (k := kk) hc; rw [h1 z] at this; exact this
      · obtain ⟨x, e1, e2⟩ := h2 d z
        have := DGet.k (k := kk) hc; rw [e1] at this; exact ⟨x, this, e2⟩
  have go2 : ∀ {c : Addr} {kvs : List (List Key × V)} {ds : List (D × D)} {k : D}, H c = some (.dT kvs) → RepT K mg F kvs ds → k.keyAt true = true → RepS K mg F H v k →
      (lookK k ds = none → DGet H c v none) ∧ ∀ d, lookK k ds = some d → ∃ x, DGet H c v (some x) ∧ Rep K mg F x d := fun {c kvs ds k} hc r hk rk => by
    cases k with
    | tup es =>
      have hk' : (keysOf es).isSome = true := hk
      cases hkk : keysOf es with
      | none => rw [hkk] at hk'; cases hk'
      | some kk =>
        have e := keys_D hkk
        subst e
        obtain ⟨h1, h2⟩ := valT kk r
        cases rk with
        | v rk =>
          cases rk with
          | tup ht rl =>
            rename_i b xs
            have ex := rl.keys
            subst ex
            have hb : H b = some (.tup (kk.map kV)) := l _ _ ht
            refine ⟨fun z => ?_, fun d z => ?_⟩
            · have := DGet.t (k := kk) hc hb; rw [h1 z] at this; exact this
            · obtain ⟨x, e1, e2⟩ := h2 d z
              have := DGet.t (k := kk) hc hb; rw [e1] at this; exact ⟨x, this, e2⟩
    | _ => cases hk
  cases ra with
  | v ra =>
    cases ra with
    | dK h r => exact ⟨_, rfl, .inl ⟨_, .inl (l _ _ h)⟩, go1 (l _ _ h) r hk rk⟩
    | dT h r => exact ⟨_, rfl, .inr ⟨_, .inl (l _ _ h)⟩, go2 (l _ _ h) r hk rk⟩
  | kK h r => exact ⟨_, rfl, .inl ⟨_, .inl h⟩, go1 h r hk rk⟩
  | kT h r => exact ⟨_, rfl, .inr ⟨_, .inl h⟩, go2 h r hk rk⟩
end
def gInB (x y : D) : Option Bool := match y with
  | .str b => (match x with
    | .str a => (match a.cps.toList with
      | [c] => some (decide (c ∈ b.cps.toList))
      | _ => none)
    | _ => none)
  | .dct t kvs => if x.keyAt t = true then some (lookK x kvs).isSome else none
  | y => D.mem x y
def gIn2 (x y : D) : Option P := (gInB x y).map fun k => .v (.bl k)
def gNotIn2 (x y : D) : Option P := (gInB x y).map fun k => .v (.bl (!k))
def gIx2 (x y : D) : Option P := match x with
  | .dct t kvs => if y.keyAt t = true then (lookK y kvs).map P.v else none
  | x => gIx x y
def gLen2 (x : D) : Option P := match x with
  | .dct _ kvs => some (.v (.int kvs.length))
  | x => gLen x
section
variable {X : Cx}
theorem opd_notIn2 (hu : X.A.units + 64 < cLine) : OpD X (compareOp .NotIn) gNotIn2 := by
  intro pins s σ H x y v u Q I rx ry ⟨F, lab, dx, dy, p, b, r1, r2, e, k⟩
  unfold gNotIn2 gInB at e
  split at e
  · split at e
    · split at e
      · rename_i a l c hc
        cases e; cases r1.str; cases r2.str
        have ha : a = ⟨#[c]⟩ := by
          rcases a with ⟨⟨z⟩⟩
          have hc : z = [c] := hc
          subst hc; rfl
        subst ha
        exact op_notIn_sign pins s σ H _ _ v u Q I rx ry ⟨c, _, rfl, rfl, k.bl b⟩
      · cases e
    · cases e
  · split at e
    · rename_i hk
      cases e
      obtain ⟨c, rfl, _, h1, h2⟩ := dget b.le r2 r1 hk
      cases (show u = Value.ref c from ry)
      cases hl : lookK dx _ with
      | none => rw [hl] at k; exact d_notIn (by omega) I (h1 hl) rx fun s' I' => ⟨.bl true, H, I', rfl, k.bl b⟩
      | some d =>
        obtain ⟨z, g, _⟩ := h2 d hl
        rw [hl] at k
        exact d_notIn (by omega) I g rx fun s' I' => ⟨.bl false, H, I', rfl, k.bl b⟩
    · cases e
  · exact opd_notIn hu pins s σ H x y v u Q I rx ry ⟨F, lab, dx, _, p, b, r1, r2, e, k⟩
theorem ixd_2 (hu : X.A.units + 64 < cLine) : IxD X gIx2 := by
  intro value slice pins s σ H x y v u Q I rx ry ⟨F, lab, dx, dy, p, b, r1, r2, e, k⟩ hs
  unfold gIx2 at e
  split at e
  · split at e
    · rename_i hk
      obtain ⟨c, rfl, _, h1, h2⟩ := dget b.le r1 r2 hk
      cases (show v = Value.ref c from rx)
      cases hl : lookK dy _ with
      | none => rw [hl] at e; cases e
      | some d =>
        rw [hl] at e; cases e
        obtain ⟨z, g, rz⟩ := h2 d hl
        have hT := dict_typeIs I g
        unfold subscriptTail
        refine wpAny_bind ?_
        rw [getitemInPython_of_ne hT.not_modules]
        refine wpAny_bind (wpAny_specialOf hT PySem.F.slot_dict_getitem.lookup ?_)
        have fin : wpAny (model X.prog X.w) X.A (subscripted slice false (.ref c) u) (fun r s₃ => wpAny (model X.prog X.w) X.A (letTemporaryGo value (.ref c) r >>= fun _ => pure r) (EP X pins σ Q) X.xe s₃) X.xe s := by
          rw [hs]
          exact wpAny_operating (wpAny_mono (d_getItem (Q := fun r s₃ => EP X pins σ Q r s₃) (by omega) I g ry fun w' s' I' rw' => ⟨z, H, I', rw', k.same b rz⟩) (fun r s₃ h₃ => wpAny_bind (wpAny_letTemporaryGo (wpAny_pure h₃))) fun _ _ x => x)
        first
          | exact wpAny_pure (wpAny_bind fin)
          | exact wpAny_bind (wpAny_pure (wpAny_bind fin))
          | exact wpAny_bind fin
    · cases e
  · exact ixd_seq value slice pins s σ H x y v u Q I rx ry ⟨F, lab, _, dy, p, b, r1, r2, e, k⟩ hs
theorem cd_len2 : CallD X (.builtin "len") gLen2 := by
  intro pins s σ H xs us Q I r ⟨F, lab, x, dx, p, hx, b, r1, e, k⟩
  unfold gLen2 at e
  split at e
  · subst hx
    cases e
    obtain ⟨u, rfl, rx⟩ := vals1 r
    cases r1 with
    | v ra =>
      cases ra with
      | dK h r' =>
        obtain rfl : u = .ref _ := rx
        rw [← RepK.len r'] at k
        exact d_len I (.inl (b.le _ _ h)) fun t s' I' => ⟨.int _, H, I', ⟨t, rfl⟩, k.int b⟩
      | dT h r' => exact call_len_dT pins s σ H _ _ Q I r ⟨_, _, rfl, b.le _ _ h, by rw [RepT.len r']; exact k.int b⟩
    | kK h r' =>
      obtain rfl : u = .ref _ := rx
      rw [← RepK.len r'] at k
      exact d_len I (.inl h) fun t s' I' => ⟨.int _, H, I', ⟨t, rfl⟩, k.int b⟩
    | kT h r' => exact call_len_dT pins s σ H _ _ Q I r ⟨_, _, rfl, h, by rw [RepT.len r']; exact k.int b⟩
  · exact cd_len pins s σ H xs us Q I r ⟨F, lab, x, _, p, hx, b, r1, e, k⟩
end
end LW

namespace LW
open PySem PySem.Spec PyProof.Rows L2
section
variable {X : Cx}
end
def dcL (t : Bool) (own : List Nat) (tg : D → Env → Option Env) (tt : Env → Out Bool) (fk fv : Env → Out P) : List D → List (D × D) → Env → Out (List (D × D))
  | [], acc, ρ => .ok acc ρ
  | d :: r, acc, ρ => match tg d ρ with
    | none => .no
    | some ρ1 => match tt ρ1 with
      | .ok false ρ2 => dcL t own tg tt fk fv r acc (wipeE ρ2 own)
      | .ok true ρ2 => (match sFz fk ρ2 with
        | .ok (.v k) ρ3 => (match sFz fv ρ3 with
          | .ok (.v y) ρ4 => if k.keyAt t = true then dcL t own tg tt fk fv r (setK k y acc) (wipeE ρ4 own) else .no
          | _ => .no)
        | _ => .no)
      | _ => .no
def sDc (t : Bool) (own : List Nat) (h : Env → Out (List D)) (tg : D → Env → Option Env) (tt : Env → Out Bool) (fk fv : Env → Out P) (ρ : Env) : Out P := (h ρ).bind fun ds ρ1 =>
  if ownOk ρ1 own = true then (dcL t own tg tt fk fv ds [] (wipeE ρ1 own)).bind fun acc ρ2 => .ok (.f (.k t acc)) (restE ρ1 ρ2 own) else .no
section
variable {X : Cx} {W : WX} {q qt qk qe : Bool} {kx vx tgt iter c : Expr} {ifs : List Expr} {scope : Scope} {own : List (Str × Nat)} {ks : List Nat} {pos : Pos} {h : Env → Out (List D)} {tg : D → Env → Option Env} {t : Env → Out Bool} {fk fv : Env → Out P} {tb : Bool} {kd : DKind}
end
end LW

namespace LW
open PySem PySem.Spec PyProof.Rows L2
def sFld (i : Nat) (c f : Str) (ρ : Env) : Out P := match getS ρ i with
  | some (.v (.ins c' fs)) => if c' = c then (match lookD f fs with
    | some d => .ok (.v d) ρ
    | none => .no) else .no
  | some (.i c' fs) => if c' = c then (match lookO f fs with
    | some (.v d) => .ok (.v d) ρ
    | some (.l ds) => .ok (.s (.lst ds)) ρ
    | some (.k t kvs) => .ok (.s (.dct t kvs)) ρ
    | _ => .no) else .no
  | _ => .no
def sFldZ (i : Nat) (c f : Str) (ρ : Env) : Out P := match getS ρ i with
  | some (.v (.ins c' fs)) => if c' = c then (match lookD f fs with
    | some d => .ok (.v d) ρ
    | none => .no) else .no
  | some (.i c' fs) => if c' = c then (match lookO f fs with
    | some o => .ok (.v o.d) (ρ.set i (some (.i c (putO f (.v o.d) fs))))
    | none => .no) else .no
  | _ => .no
section
variable {X : Cx} {W : WX} {c f : Str} {C : Addr} {pos p3 : Pos}
end
section
variable {X : Cx} {W : WX} {k n : Nat} {c : Str} {C f : Addr} {fd : FuncData} {ps : List Str} {S : Fn}
end
end LW

namespace LW
open PySem PySem.Spec PyProof.Rows L2
structure KTup (K : PySem.W.Frag) (c : Addr) (ys : List Str) : Prop where
  sq : ∀ H, SqT K H c (ys.map V.str)
theorem KTup.of {K : PySem.W.Frag} {c : Addr} {ys : List Str} {o : Obj} {its : Array Value} {n : Nat} (h1 : K.lookup c = some o) (h2 : o.cls = .type "tuple") (h3 : o.data = .seq its n) (h4 : its.size ≤ sizeLine) (h5 : its.toList.map absV = ys.map fun y => some (.str y)) : KTup K c ys :=
  ⟨fun H => .inr ⟨o, its, n, h1, h2, h3, h4, by
    generalize its.toList = l at h5
    induction ys generalizing l with
    | nil => cases l with | nil => exact .nil | cons _ _ => cases h5
    | cons y r ih =>
      cases l with
      | nil => cases h5
      | cons u l =>
        simp only [List.map_cons, List.cons.injEq] at h5
        refine .cons ?_ (ih l h5.2)
        have h := h5.1
        cases u <;> simp only [absV] at h <;> cases h
        exact ⟨_, rfl⟩⟩⟩
def gNotInC (ys : List Str) (d : D) : Option P := (D.mem d (.lst (ys.map .str))).map fun k => .v (.bl (!k))
section
variable {X : Cx} {W : WX} {q : Bool} {a : Expr} {f : Env → Out P} {g : Str} {c : Addr} {ys : List Str} {p pos : Pos}
end
end LW

namespace LW
open PySem PySem.Spec PyProof.Rows L2
theorem bb_len : bootBuiltins "len" = some (.builtin "len") := by decide +kernel
theorem bb_int : bootBuiltins "int" = some (.type "int") := by decide +kernel
theorem bb_abs : bootBuiltins "abs" = some (.builtin "abs") := by decide +kernel
theorem bb_repr : bootBuiltins "repr" = some (.builtin "repr") := by decide +kernel
def CS : List Str := ["Web", "LineReader", "Lighter", "House", "Desk", "Whole", "Dark"]
section
variable {P : Program} {w : World} {K : PySem.W.Frag} {mg : Str → Option Value} {base : Heap}
theorem fn_def2 {own : Bool} {n m k : Nat} {x qual : Str} {st : Stmt} {f : Addr} {fd : FuncData} {N ps : List Str} {body : Env → Flow} (FF : Fun K x qual st f fd) (S : FnScope N ps (defScope st)) (hn : ps.length = n) (hm : N.length = m)
    (hbody : ∀ (cdv : Value) (A : Around) (outer : List PySem.Env) (s : Shared) (H : Hp) (E : XK), RoomG k (A.deeper (envOfC qual (defScope st) s.heap.objs.size f cdv)) →
      Takes (cxOf (L2.CX P w) P w K mg base N qual (defScope st) f cdv A outer s H E) (fun cls d _ H' => E cls d H') →
      PassesOwn (model P w) (A.deeper (envOfC qual (defScope st) s.heap.objs.size f cdv)) (cxOf (L2.CX P w) P w K mg base N qual (defScope st) f cdv A outer s H E).env (cxOf (L2.CX P w) P w K mg base N qual (defScope st) f cdv A outer s H E).xe →
      (cxOf (L2.CX P w) P w K mg base N qual (defScope st) f cdv A outer s H E).A.units + 64 < cLine → (cxOf (L2.CX P w) P w K mg base N qual (defScope st) f cdv A outer s H E).N.Nodup →
      DSs (cxOf (L2.CX P w) P w K mg base N qual (defScope st) f cdv A outer s H E) (fun cls d _ H' => E cls d H') (keepOf own) (defBody st) body) :
    FnG P w K mg base (k + 1) f fd ps (spF K mg n (runFn own n m body)) :=
  fn_def FF S hn hm fun cdv _ A outer s H E hr => hbody cdv A outer s H E hr (takes_of rfl rfl rfl rfl) (passes_of (X := cxOf (L2.CX P w) P w K mg base N qual (defScope st) f cdv A outer s H E) rfl) hr.units S.nd
end
section
variable {X : Cx} {W : WX} {q : Bool} {e : Expr} {f : Env → Out P} {pos : Pos}
theorem e_neg (he : DE X W q e f) : DE X W q (.UnaryOp .USub e pos) (sC1 gNeg f) := by
  refine PE_weak (pe_un un_neg he) fun σ H Q h => ?_
  obtain ⟨ρ, F, lab, sr, m⟩ := h
  refine ⟨ρ, F, lab, sr, Meets.seq (rep2 := RepP X.K X.mg) id sinceP m fun v p ρ1 F1 H1 lab1 mv1 sr1 rp m1 => ?_⟩
  split at m1
  · rename_i y hy
    split at m1
    · rename_i z hz
      unfold gNeg at hz
      split at hz
      · cases hz
        have := (rp.rd hy).int
        subst this
        exact ⟨_, rfl, m1 _ F1 H1 lab1 Move.refl sr1 (Rep.int _)⟩
      · cases hz
    · exact m1.elim
  · exact m1.elim
end
end LW

namespace LW
open PySem PySem.Spec PyProof.Rows L2
def kinds : List String := ["int", "bool", "str", "tuple", "list", "dict"]
inductive Here (K : PySem.W.Frag) (mg : Str → Option Value) (c : Str) : Prop where
  | no (h : mg c = none)
  | yes (C : Addr) (h : mg c = some (.ref C)) (t : InsT K C) (m : ∀ n ∈ kinds, PySem.W.mroIn K C (.type n) = some false)
theorem Here.of {K : PySem.W.Frag} {mg : Str → Option Value} {c : Str} {C : Addr} (h : mg c = some (.ref C)) (t : InsT K C) (m1 : PySem.W.mroIn K C (.type "int") = some false) (m2 : PySem.W.mroIn K C (.type "bool") = some false) (m3 : PySem.W.mroIn K C (.type "str") = some false)
    (m4 : PySem.W.mroIn K C (.type "tuple") = some false) (m5 : PySem.W.mroIn K C (.type "list") = some false) (m6 : PySem.W.mroIn K C (.type "dict") = some false) : Here K mg c := .yes C h t fun n hn => by
  simp only [kinds, List.mem_cons, List.not_mem_nil, or_false] at hn
  rcases hn with rfl | rfl | rfl | rfl | rfl | rfl <;> assumption
structure AllHere (K : PySem.W.Frag) (mg : Str → Option Value) : Prop where
  all : ∀ c ∈ CS, Here K mg c
theorem AllHere.mk7 {K : PySem.W.Frag} {mg : Str → Option Value} (h1 : Here K mg "Web") (h2 : Here K mg "LineReader") (h3 : Here K mg "Lighter") (h4 : Here K mg "House") (h5 : Here K mg "Desk") (h6 : Here K mg "Whole") (h7 : Here K mg "Dark") : AllHere K mg := ⟨fun c hc => by
  simp only [CS, List.mem_cons, List.not_mem_nil, or_false] at hc
  rcases hc with rfl | rfl | rfl | rfl | rfl | rfl | rfl <;> assumption⟩
theorem kit_ref {K : PySem.W.Frag} {C : Addr} {T : String} (hm : PySem.W.kitMeta T = true) (h : PySem.W.mroIn K C (.type T) = some false) : PySem.W.kitOne K (.ref C) (.type T) = some false := by
  unfold PySem.W.kitOne
  rw [if_neg (by simp)]
  show (if PySem.W.kitMeta T = true then PySem.W.subIn K (.ref C) (.type T) else none) = some false
  rw [if_pos hm]; exact h
section
variable {K : PySem.W.Frag} {mg : Str → Option Value}
theorem AllHere.get (A : AllHere K mg) {T : String} (hT : T ∈ kinds) (hm : PySem.W.kitMeta T = true) : ∀ c ∈ CS, ∀ C, mg c = some (.ref C) → InsT K C ∧ PySem.W.kitOne K (.ref C) (.type T) = some false := fun c hc C h => by
  rcases A.all c hc with h' | ⟨C', h', t, m⟩
  · rw [h'] at h; cases h
  · rw [h'] at h; cases h
    exact ⟨t, kit_ref hm (m T hT)⟩
theorem kit_refs {C C0 : Addr} {b : Bool} (h : ((PySem.W.clsIn K C0).isSome && PySem.W.typeIn K (.ref C0) == some (.type "type")) = true) (m : PySem.W.mroIn K C (.ref C0) = some b) (hb : C = C0 → b = true) : PySem.W.kitOne K (.ref C) (.ref C0) = some b := by
  unfold PySem.W.kitOne
  by_cases e : C = C0
  · rw [if_pos (by simp [e]), hb e]
  · rw [if_neg (by simp [e])]
    show (if ((PySem.W.clsIn K C0).isSome && PySem.W.typeIn K (.ref C0) == some (.type "type")) = true then PySem.W.subIn K (.ref C) (.ref C0) else none) = some b
    rw [if_pos h]; exact m
end
def spL (K : PySem.W.Frag) (mg : Str → Option Value) : Sp := fun vs H Q _ => ∃ (a : Addr) (ns : List Int), vs = [.ref a] ∧ TabsOk K mg H ∧ SqL K H a (ns.map V.int) ∧ ns.length ≤ 63 ∧ (∀ z ∈ ns, Builtin.Int.intBits z ≤ 1048576) ∧ ∀ H', Q (.bl true) H'
theorem repL_ints {K : PySem.W.Frag} {mg : Str → Option Value} {F : Hp} : ∀ ns : List Int, RepL K mg F (ns.map V.int) (ns.map D.int)
  | [] => .nil
  | n :: r => .cons (.int n) (repL_ints r)
def LawKeeps (S : Fn) : Prop := ∀ ns : List Int, ns.length ≤ 63 → (∀ z ∈ ns, Builtin.Int.intBits z ≤ 1048576) → ∃ os, S [.v (.lst (ns.map .int))] = .ret (.v (.bl true)) os
section
variable {P : Program} {w : World} {K : PySem.W.Frag} {mg : Str → Option Value} {base : Heap}
theorem law_ok {k : Nat} {f : Addr} {fd : FuncData} {S : Fn} (G : FnG P w K mg base k f fd ["script"] (spF K mg 1 S)) (h : LawKeeps S) : FnG P w K mg base k f fd ["script"] (spL K mg) := by
  have key : ∀ vs H Q E, spL K mg vs H Q E → spF K mg 1 S vs H Q E := fun vs H Q E ⟨a, ns, e, tb, hs, hl, hb, q⟩ => by
    subst e
    obtain ⟨os, hS⟩ := h ns hl hb
    have go : ∀ F : Hp, Le F H → (∀ b ps, H b = some (.tbl ps) → F b = none) → SqL K F a (ns.map V.int) → spF K mg 1 S [.ref a] H Q E := fun F hle nt hsq => by
      refine ⟨rfl, F, fun _ => none, [.v (.lst (ns.map .int))], sr_valsB (lab := fun _ => none) (ds := [.lst (ns.map .int)]) ⟨⟨hle, fun a p z => (nomatch z), nt⟩, tb⟩ (.cons (.lst hsq (repL_ints ns)) .nil), ?_⟩
      rw [hS]
      intro v F' H' lab' mv sr rp
      cases rp
      exact q H'
    have one : ∀ u : HO, H a = some u → (∀ ps, u ≠ .tbl ps) → SqL K (fun b => if b = a then H a else none : Hp) a (ns.map V.int) → spF K mg 1 S [.ref a] H Q E := fun u hu hn hsq => by
      refine go _ (fun b o e => ?_) (fun b ps e => ?_) hsq
      · have e' : (if b = a then H a else none) = some o := e
        split at e'
        · rename_i z; rw [z]; exact e'
        · cases e'
      · by_cases z : b = a
        · rw [z, hu] at e
          exact absurd (Option.some.inj e) (hn ps)
        · exact if_neg z
    rcases hs with (z | ⟨o, z⟩) | z
    · exact one _ z (fun _ y => nomatch y) (.inl (.inl ((if_pos rfl).trans z)))
    · exact one _ z (fun _ y => nomatch y) (.inl (.inr ⟨o, (if_pos rfl).trans z⟩))
    · exact go (fun _ => none) (fun _ _ e => nomatch e) (fun _ _ _ => rfl) (.inr z)
  exact ⟨fun vs H Q E z => G.len vs H Q E (key vs H Q E z), fun A outer s H as us vs Q E hr e0 hb r z => G.run A outer s H as us vs Q E hr e0 hb r (key vs H Q E z)⟩
end
theorem walk {l : PySem.W.OpenLaw} {k : Nat} {q : Program} {loose : List Str} {XP : (Str → Option Value) → Heap → Prop} {YP : World → Heap → Prop} {d : DefRec} {K : Params → PySem.W.Frag} (hn : l.most = some 63) (hdf : d.params.defaults = []) (hr : RoomG k callerA)
    (hY : ∀ (w : World) (h : Heap), YP w h → (K w.params).In h) (hT : ∀ w : World, TabK q (K w.params))
    (F : ∀ (w : World) (mg : Str → Option Value) (fa : Addr) (h : Heap), (K w.params).In h → h.Ns mainGlobals mg → mg d.name = some (.ref fa) →
      ∃ fd : FuncData, (∀ (s : Shared) (u : Value), BindsTo s fd ⟨[u], []⟩ [("script", u)]) ∧ ∀ base : Heap, (K w.params).In base → base.Ns mainGlobals mg → TabsB base (K w.params) mg → FnG l.prog w (K w.params) mg base k fa fd ["script"] (spL (K w.params) mg)) :
    PySem.W.WalkO q loose XP YP l.row.toRowW d [] (fun f vs => PySem.call f vs) :=
  walkG (k := k) (sp := fun w mg => spL (K w.params) mg) hn hdf hr hY hT F fun _ _ _ a ns hl hb ht hS => ⟨a, ns, rfl, ht, hS, hl, hb, fun _ => rfl⟩
end LW

namespace LW
open PySem PySem.Spec PyProof.Rows L2
def sAsg (tg : D → Env → Option Env) (f : Env → Out P) (ρ : Env) : Flow := flow (sFz f ρ) fun p ρ1 => match p with
  | .v d => (match tg d ρ1 with
    | some ρ2 => .next ρ2
    | none => .no)
  | _ => .no
section
variable {X : Cx} {W : WX} {ks : List Nat} {q : Bool} {tg e : Expr} {f : Env → Out P} {g : D → Env → Option Env} {pos : Pos}
theorem s_asg (he : DE X W q e f) (hg : DG X ks tg g) (hs : swapsWithSole [tg] e pos.line X.env = pure false := by rfl) (hw : swappedStores [tg] e X.env = pure none := by rfl)
    (h1 : (assignEach [tg] X.env).map (·.2) = [assign tg X.env] := by rfl) : DS X W ks (.Assign [tg] e pos) (sAsg g f) := by
  refine PS_weak (ps_asg (e_fz he) hg hs hw h1) fun D0 σ H h => ?_
  obtain ⟨ρ, F, lab, sr, m⟩ := h
  refine ⟨ρ, F, lab, sr, SMeets.expr m fun v p ρ1 F1 H1 lab1 mv1 sr1 rp m1 => ?_⟩
  split at m1
  · rename_i d
    refine ⟨ρ1, F1, lab1, d, sr1, rp, ?_⟩
    split at m1
    · rename_i ρ2 e2
      have fin : ∀ (σ' : L2.St) (F' H' : Hp) (lab' : Lab), Move true F1 H1 lab1 F' H' lab' → SR X.K X.mg F' H' lab' σ' ρ2 → Keep ks σ σ' → D0.nx σ' H' := fun σ' F' H' lab' mv s k => m1 σ' F' H' lab' mv.to_false s k
      first
        | exact fin
        | (rw [e2]; exact fin)
    · exact m1.elim
  · exact m1.elim
end
end LW

namespace LW
open PySem PySem.Spec PyProof.Rows L2
def starD : D → Option (List D)
  | .tup ds => some ds
  | .lst ds => some ds
  | _ => none
def sStar (f : Env → Out P) (g : Env → Out (List D)) (ρ : Env) : Out (List D) := (sFz f ρ).bind fun p ρ1 => match p with
  | .v d => (match starD d with
    | some es => (g ρ1).bind fun ds ρ2 => .ok (es ++ ds) ρ2
    | none => .no)
  | _ => .no
def sTupV (g : Env → Out (List D)) (ρ : Env) : Out P := (g ρ).bind fun ds ρ1 => if ds.length ≤ sizeLine then .ok (.v (.tup ds)) ρ1 else .no
def sLstV (g : Env → Out (List D)) (ρ : Env) : Out P := (g ρ).bind fun ds ρ1 => if ds.length ≤ sizeLine then .ok (.f (.l ds)) ρ1 else .no
section
variable {X : Cx} {W : WX} {q qa qb : Bool} {e a : Expr} {es : List Expr} {f : Env → Out P} {g : Env → Out (List D)} {p p1 p2 pos : Pos}
def sLRg (f : Env → Out P) (ρ : Env) : Out P := (hRange1 f ρ).bind fun ds ρ1 => .ok (.f (.l ds)) ρ1
end
end LW

namespace LW
open PySem PySem.Spec PyProof.Rows L2
def gRepr (d : D) : Option P := if d.plain 60 = true ∧ d.py.showable = true ∧ d.py.shown.length ≤ sizeLine then some (.v (.str d.py.shown)) else none
section
variable {X : Cx}
theorem cd_repr (hg : X.A.guards = some []) (hu : X.A.units + 64 < cLine) : CallD X (.builtin "repr") gRepr := by
  intro pins s σ H xs us Q I r ⟨F, lab, x, dx, p, hx, b, r1, e, k⟩
  subst hx
  obtain ⟨u, rfl, ru⟩ := vals1 r
  unfold gRepr at e
  split at e
  case isFalse => cases e
  rename_i hc
  obtain ⟨hp, hs, hz⟩ := hc
  cases e
  have kk := k.str b
  have hl := D.plain_lay 60 dx hp
  obtain ⟨as, rd⟩ := Dp.reads I dx.py x u (r1.dp b.le hp) ru
  have nd := PyData.hasDict_of_canLay _ hl.1
  generalize dx.py = y at rd hs hz kk nd hl
  cases rd with
  | none =>
    simp only [PyData.shown] at kk
    exact PySem.P.repr_of_none ⟨.str _, H, I.tok _, ⟨_, rfl⟩, kk⟩
  | bool c =>
    simp only [PyData.shown] at kk
    exact PySem.P.repr_of_bool ⟨.str _, H, I.tok _, ⟨_, rfl⟩, kk⟩
  | int i t =>
    simp only [PyData.shown] at kk
    exact PySem.P.repr_of_int (by simpa [PyData.showable] using hs) ⟨.str _, H, I.tok _, ⟨_, rfl⟩, kk⟩
  | str z t =>
    simp only [PyData.shown] at kk hz
    exact PySem.P.repr_of_str ⟨.str _, H, I.tok _, ⟨_, rfl⟩, kk⟩ hz
  | list h1 h2 h3 h4 =>
    exact repr_of_reads' (.list h1 h2 h3 h4) hs (PyData.noDict_hsm nd) hg (by omega) (fun _ _ e => e) (fun h' u' tk hk => ⟨.str _, H, I.kept hk, ⟨_, rfl⟩, kk⟩) hz
  | tuple h1 h2 h3 h4 =>
    exact repr_of_reads' (.tuple h1 h2 h3 h4) hs (PyData.noDict_hsm nd) hg (by omega) (fun _ _ e => e) (fun h' u' tk hk => ⟨.str _, H, I.kept hk, ⟨_, rfl⟩, kk⟩) hz
  | dict h1 h2 h3 h4 h5 => simp [PyData.hasDict] at nd
end
end LW

namespace LW
open PySem PySem.Spec PyProof.Rows L2
section
variable {K : PySem.W.Frag} {mg : Str → Option Value} {F H : Hp} {lab : Lab} {Q : VK}
theorem new_own {o : O} {u : HO} (b : Bas F H lab) (mk : ∀ (p : Addr) (l2 : Lab), l2 p = some [] → RepO K mg F (upd H p u) l2 [] (.ref p) o)
    (k : ∀ w F' H', Grow K mg F H F' H' → RepP K mg (fun a => H a = none) F' H' lab w (.f o) → Q w H') (hn : ∀ ps, u ≠ .tbl ps := by intro _ z; cases z) : ∀ p, H p = none → Q (.ref p) (upd H p u) := fun p hp => by
  refine k _ F _ (Grow.own b.le hp hn) ⟨fun a => if a = p then some [] else none, mk p _ (by simp), fun a z e => ?_⟩
  by_cases h : a = p
  · subst h
    refine ⟨hp, ?_, ?_, th_of upd_same hn⟩
    · cases q : lab a with
      | none => rfl
      | some z => exact absurd hp (b.lf a z q).2.1
    · cases q : F a with
      | none => rfl
      | some z => exact absurd hp (ne_none (b.le a z q))
  · have e' : (if a = p then some ([] : List Nat) else none) = some z := e
    rw [if_neg h] at e'; cases e'
end
def sDNew (t : Bool) (ρ : Env) : Out P := .ok (.f (.k t [])) ρ
section
variable {X : Cx} {W : WX} {ks : List Nat} {q qi : Bool} {p : Pl} {o i e a b c : Expr} {f fi fa fk fd : Env → Out P} {pos pos' apos cpos : Pos}
theorem e_dnewK : DE X W true (.Dict [] [] pos) (sDNew false) := by
  refine PE_weak pe_dnewK fun σ H Q h => ?_
  obtain ⟨ρ, F, lab, sr, m⟩ := h
  exact new_own (K := X.K) (mg := X.mg) (o := .k false []) sr.bas (fun p l2 e => .kK e upd_same .nil) fun w F' H' gr rw' => Meets.grow m sr gr rw'
end
section
variable {K : PySem.W.Frag} {mg : Str → Option Value} {F H : Hp}
end
section
variable {K : PySem.W.Frag} {mg : Str → Option Value} {F H : Hp}
end
end LW

namespace LW
open PySem PySem.Spec PyProof.Rows L2
section
variable {K : PySem.W.Frag} {mg : Str → Option Value}
end
section
variable {X : Cx} {W : WX} {qa qb : Bool} {ks : List Nat} {fa fb : Env → Out P}
end
end LW

namespace LW
open PySem PySem.Spec PyProof.Rows L2
theorem refsVE_of : ∀ {l : List Value}, PySem.W.excTail HandSPX.veTail l = true → HandSPX.refsVE l = true := by
  intro l
  induction l with
  | nil => intro e; exact e
  | cons a r ih =>
    intro e
    rcases PySem.W.excTail_cases (a :: r) e with ⟨c, r', q, h⟩ | q
    · obtain ⟨rfl, rfl⟩ := List.cons.inj q
      exact ih h
    · rw [q]; rfl
structure OxC (P : Program) (K : PySem.W.Frag) (C fI : Addr) (params : Arguments) (body : List Stmt) (scope : Scope) (fd : FuncData) : Prop where
  ini : PySem.W.excInitIn K C HandSPX.veTail "ValueError.__new__" = true
  iC : PySem.W.findIn K (.ref C) "__init__" = some (some (.ref fI))
  fn : ∃ name qual od dV kV doc pm an cda ct cc osl, fd = PySem.W.ksFn name qual params body scope dV kV doc pm an (.ref cda) ct cc ∧ K.lookup fI = some ⟨.type "function", od, .func fd, osl⟩ ∧ PySem.W.codeIn K (.ref cda) qual = true ∧
    (∃ ccl cdd vs ccs file tf, K.lookup cda = some ⟨ccl, cdd, .fields vs, ccs⟩ ∧ vs[2]? = some (.str file tf) ∧ ((P.main.file : Str) == file) = true) ∧ ∃ cl cld csl, K.lookup cc = some ⟨cl, cld, .cell (some (.ref C)), csl⟩
  sub : PySem.W.mroIn K C (.ref C) = some true
  sup : PySem.W.ks_superIn K C C "__init__" = some (some (.builtin "ValueError.__init__"))
  supn : PySem.W.nsIn K mainGlobals "super" = some none
  stat : PySem.W.nsIn K cStatics "thirdparty.any" = some none
  hB : PySem.W.subIn K (.ref C) (.type "ValueError") = some true
  exC : PySem.W.subIn K (.ref C) (.type "BaseException") = some true
  tyC : PySem.W.typeIn K (.ref C) = some (.type "type")
  kC : PySem.W.keepIn K (.ref C) = true
  sa : PySem.W.findIn K (.ref C) "__setattr__" = some (some (.builtin "object.__setattr__"))
  hd : PySem.W.hasDictIn K C = true
  top : (P.main.scope.names.lookup ("super" : Str)).isSome = false
abbrev supSt (es : List Expr) (p0 p1 p2 p3 p4 : Pos) : Stmt := .Expr (.Call (.Attribute (.Call (.Name "super" p0) [] [] p1) "__init__" p2) es [] p3) p4
abbrev keepSt (f : Str) (p0 p1 p2 p3 : Pos) : Stmt := .Assign [.Attribute (.Name "self" p0) f p1] (.Name f p2) p3
structure OxS (scope : Scope) (ps : List Str) : Prop where
  sup : scope.names.lookup ("super" : Str) = some .globalImplicit
  cls : scope.names.lookup ("__class__" : Str) = some .free
  slf : scope.names.lookup ("self" : Str) = some .local
  par : ∀ p ∈ ps, scope.names.lookup p = some .local
  cel : ∀ x ∈ scope.names, x.2 ≠ .cell
  kind : scope.kind = .function
  co : scope.isCoroutine = false
  gen : scope.isGenerator = false
section
variable {P : Program} {w : World} {K : PySem.W.Frag} {mg : Str → Option Value} {base h₀ : Heap} {C fI x L t : Addr} {params : Arguments} {body : List Stmt} {scope : Scope} {fd : FuncData} {A : Around} {E : Value → Shared → Prop} {s : Shared}
  {m : Str → Option Value} {qual : Str} {cda cc : Addr} {ar : Arg}
theorem ox_super {pl : Sem Bool} {es : List Expr} {us : List Value} {p0 p1 p2 p3 p4 : Pos} {Q : PySem.Flow → Shared → Prop} {oc ccl cl : Value} {od cdd cld : Option Addr} {osl ccs csl : Array (Option Value)} {vs : Array Value} {file : Str} {tf : Tok} {name : Str} {dV kV doc pm ct : Value} {an : Option Addr}
    (T : OxC P K C fI params body scope fd) (S : OxS scope []) (M : L2.Mod K mg base) (hb : ∀ b o, base.get? b = some o → h₀.get? b = some o) (F : Fr h₀ L s.heap m) (N : News h₀ L s.heap [(x, PySem.W.excObj C t none .none)])
    (hfd : fd = PySem.W.ksFn name qual params body scope dV kV doc pm an (.ref cda) ct cc) (hf : K.lookup fI = some ⟨oc, od, .func fd, osl⟩) (hcode : K.lookup cda = some ⟨ccl, cdd, .fields vs, ccs⟩) (hvs : vs[2]? = some (.str file tf)) (hfile : ((P.main.file : Str) == file) = true)
    (hcell : K.lookup cc = some ⟨cl, cld, .cell (some (.ref C)), csl⟩) (hp : (params.posonlyargs ++ params.args).head? = some ar) (har : ar.arg = ("self" : Str)) (hv : m "self" = some (.ref x)) (hus : us.length ≤ sizeLine)
    (hes : ∀ (s1 : Shared) (Q : List Value → Shared → Prop), Fr h₀ L s1.heap m → Q us s1 → wpAny (model P w) A (spliced (backTo p3 (starEach es (PySem.W.ksEnv qual scope L fI (.ref cda) cc)))) Q E s1)
    (h : ∀ t' h', Fr h₀ L h' m → h'.get? x = some (PySem.W.excObj C t' none .none) → Q .next { s with heap := h', toks := s.toks + 1 })
    (he : (es = [] ∧ us = []) ∨ ∃ e r, es = e :: r ∧ starEach es (PySem.W.ksEnv qual scope L fI (.ref cda) cc) = (false, eval e (PySem.W.ksEnv qual scope L fI (.ref cda) cc)) :: starEach r (PySem.W.ksEnv qual scope L fI (.ref cda) cc) ∧ (backTo p3 (starEach r (PySem.W.ksEnv qual scope L fI (.ref cda) cc))).any (·.1) = false) 
    (hev : eval (.Call (.Attribute (.Call (.Name "super" p0) [] [] p1) "__init__" p2) es [] p3) (PySem.W.ksEnv qual scope L fI (.ref cda) cc) = (do
      let ov ← attributeBase (.Call (.Name "super" p0) [] [] p1) "__init__" (PySem.W.ksEnv qual scope L fI (.ref cda) cc) (eval (.Call (.Name "super" p0) [] [] p1) (PySem.W.ksEnv qual scope L fI (.ref cda) cc))
      standAt p2.atName
      let (f, first) ← holding [ov] (getMethod ov "__init__" pl)
      callWith p3 f first (backTo p3 (starEach es (PySem.W.ksEnv qual scope L fI (.ref cda) cc))) []) := by rfl)
    (hsw : swapsWith (.Call (.Attribute (.Call (.Name "super" p0) [] [] p1) "__init__" p2) es [] p3) none p4.line (PySem.W.ksEnv qual scope L fI (.ref cda) cc) = pure false := by rfl) :
    _root_.PySem.wpAt (model P w) A (.func body (PySem.W.ksEnv qual scope L fI (.ref cda) cc)) (exec (supSt es p0 p1 p2 p3 p4) (PySem.W.ksEnv qual scope L fI (.ref cda) cc)) Q E s := by
  have X₀ : K.In h₀ := M.kin.keeps hb
  have X : K.In s.heap := X₀.keeps F.keep
  have I : PySem.W.InstAt s.heap x (PySem.W.excObj C t none .none) C none := .of_exc0 N (.head _)
  obtain ⟨cd, hD, _⟩ := PySem.W.any_some T.hd
  have KF := PySem.W.kxs_ValueError
  subst hfd
  obtain ⟨hh, g, d, tk, os⟩ := s
  obtain ⟨oD, hD1, hD2⟩ : ∃ oD, hh.get? C = some oD ∧ oD.data = .cls cd := by
    unfold PySem.W.clsIn at hD
    split at hD
    · rename_i c d cd' sl ho
      cases hD
      exact ⟨_, X _ _ ho, rfl⟩
    · cases hD
  obtain ⟨mb, B1, B2⟩ := M.blt
  have keepB : ∀ b o, base.get? b = some o → hh.get? b = some o := fun b o e => F.keep b o (hb b o e)
  have hks : (PySem.W.ksEnv qual scope L fI (.ref cda) cc).kindOf "super" = some .globalImplicit := S.sup
  have hkc : (PySem.W.ksEnv qual scope L fI (.ref cda) cc).kindOf "__class__" = some .free := S.cls
  refine PySem.ks_wpAt_Expr_any ?_ (by show (scope.kind == _ && _) = false; rw [S.kind]; rfl) hsw
  refine PySem.ks_wpAt_MethodCall ?_ hev
  refine PySem.ks_wpAt_super_base (env := PySem.W.ksEnv qual scope L fI (.ref cda) cc) hks hkc rfl rfl (X _ _ hf) rfl hp rfl (X _ _ hcode) rfl hvs hfile T.top ?_
  refine PySem.W.ks_loadName_global S.kind hks (Calls.loadGlobal_builtin (env := PySem.W.ksEnv qual scope L fI (.ref cda) cc) (M.glob.keeps keepB) (PySem.W.mg_none_of M.kin M.glob T.supn) (B1.keeps keepB) ((B2 _ (by decide +kernel)).trans (by decide +kernel)) ⟨rfl, ?_⟩)
  refine wpAny_loadName_free S.kind hkc rfl ⟨_, X _ _ hcell, rfl⟩ ?_
  rw [har]
  refine wpAny_loadName_local S.kind S.slf F.ns hv ?_
  refine PySem.ks_wpAny_isType_cls hD1 hD2 ⟨rfl, ?_⟩
  refine PySem.ks_wpAny_call_super hD1 hD2 I.at_ I.cls (fun c e => ?_) (PySem.W.looks_mroIn X T.sub) (fun h1 e1 k1 => ?_)
  · have z := I.no
    unfold PySem.W.notCls at z
    rw [e] at z
    exact Bool.noConfusion z
  obtain ⟨F1, N1, l1⟩ := PySem.W.ks_newsPush (s := ⟨hh, g, d, tk, os⟩) F N rfl e1 k1
  refine PySem.W.kxs_method (C := C) (D := C) (x := x) KF F1 X₀ N1 (.head _) (.of_exc0 N1 (.tail _ (.head _))) T.stat T.sup T.hB rfl fun q h2 F2 N2 l2 => ?_
  have fin : ∀ t' h', Fr h₀ L h' m → News h₀ L h' ((t', PySem.W.excTup us) :: (q, PySem.W.kxs_mw "ValueError.__init__" x) :: (hh.objs.size, PySem.W.ks_superObj C x C) :: (x, PySem.W.excObj C t' none .none) :: []) → Q .next ⟨h', g, d, tk + 1, os⟩ := fun t' h' F3 N3 => h t' h' F3 (N3 (x, PySem.W.excObj C t' none .none) (.tail _ (.tail _ (.tail _ (.head _))))).1
  have xlt : x < hh.objs.size := l1 _ (.head _)
  have qx : q ≠ x := Nat.ne_of_gt (l2 _ (.tail _ (.head _)))
  have callIt : wpAny (model P w) A (call (.ref q) us) (fun _ s' => Q .next s') E ⟨h2, g, d, tk + 1, os⟩ :=
    PySem.W.kxs_call (C := C) (x := x) (t := t) (dv := none) (c2 := .none) F2 X₀ N2 _root_.PySem.F.excBase_ValueError T.ini (.head _) (.tail qx (.tail (Nat.ne_of_gt xlt) (.head fun _ hp => nomatch hp))) hus fun t' h' F3 N3 _ => fin t' h' F3 N3
  rcases he with ⟨rfl, rfl⟩ | ⟨e, r, rfl, he1, he2⟩
  · exact PySem.W.kxs_callWith0 (i := "ValueError.__init__") (x := x) N2 (.head _) callIt
  · exact PySem.W.kxs_callWith1 (i := "ValueError.__init__") (x := x) N2 (.head _) (hes _ _ F2 ⟨(N2 _ (.head _)).1, callIt⟩) he1 he2
theorem OxC.data (T : OxC P K C fI params body scope fd) : ∃ cd, PySem.W.clsIn K C = some cd ∧ HandSPX.refsVE cd.mro = true ∧ cd.hasDict = true := by
  obtain ⟨cd, hD, hd⟩ := PySem.W.any_some T.hd
  refine ⟨cd, hD, ?_, hd⟩
  have q := T.ini
  unfold PySem.W.excInitIn at q
  unfold PySem.W.clsIn at hD
  split at q
  · rename_i dd cd' sl ho
    rw [ho] at hD
    cases hD
    split at q
    · rename_i C' bm k0 k1 k2 k3 n k5 hm hs
      simp only [Bool.and_eq_true, beq_iff_eq, Bool.not_eq_true'] at q
      obtain ⟨_, ht⟩ := q
      rw [hm]
      exact refsVE_of ht
    · cases q
  · cases q
theorem ox_set1 {f : Str} {v : Value} {Q : Unit → Shared → Prop} (T : OxC P K C fI params body scope fd) (X : K.In s.heap) (hx : s.heap.get? x = some (PySem.W.excObj C t none .none)) (hno : PySem.W.findIn K (.ref C) f = some none)
    (h : ∀ h' tk' dx, (∀ b o, b ≠ x → s.heap.get? b = some o → h'.get? b = some o) → s.heap.objs.size ≤ dx → dx ≠ x → h'.get? x = some (PySem.W.excObj C t (some dx) .none) → h'.Ns1 dx (fun y => if y = f then some v else none) → Q () { s with heap := h', toks := tk' }) :
    wpAny (model P w) A (setAttr (.ref x) f v) Q E s := by
  obtain ⟨cd, hD, hm, hd⟩ := T.data
  obtain ⟨hp, g, d, tk, os⟩ := s
  refine PySem.W.set_plain X (ox := PySem.W.excObj C t none .none) (od := none) ⟨hx, rfl, rfl, trivial⟩ T.sa ?_
  exact HandSPX.exc_osa X hx hD hm hd hno fun h' tk' dx k dn dne hx' hn => h h' tk' dx k dn dne hx' hn
theorem ox_set2 {f : Str} {v : Value} {dx : Addr} {m0 : Str → Option Value} {nl : List Str} {Q : Unit → Shared → Prop} (T : OxC P K C fI params body scope fd) (X : K.In s.heap) (hx : s.heap.get? x = some (PySem.W.excObj C t (some dx) .none)) (hns : s.heap.Ns1 dx m0) (hw : Within m0 nl) (hz : nl.length ≤ 1000)
    (hno : PySem.W.findIn K (.ref C) f = some none)
    (h : ∀ h' tk', (∀ b o, b ≠ dx → s.heap.get? b = some o → h'.get? b = some o) → h'.Ns1 dx (fun y => if y = f then some v else m0 y) → Q () { s with heap := h', toks := tk' }) :
    wpAny (model P w) A (setAttr (.ref x) f v) Q E s := by
  obtain ⟨cd, hD, hm, hd⟩ := T.data
  obtain ⟨hp, g, d, tk, os⟩ := s
  obtain ⟨oD, _, _, hoD, _, _⟩ := hns.count hw
  refine PySem.W.set_plain X (ox := PySem.W.excObj C t (some dx) .none) (od := some oD) ⟨hx, rfl, rfl, hoD⟩ T.sa ?_
  exact PySem.OEX.osa_old X hx hns hw hz hD hm hd hno fun h' tk' k hn => h h' tk' k hn
def OxEnd (C x : Addr) (hp : Heap) (m : Option (Str → Option Value)) (g : Array GenState) (d : Drawn) (os : OsState) (R : Result → Shared → Prop) : Prop :=
  ∀ h' tk' t', (∀ b o, hp.get? b = some o → h'.get? b = some o) →
    (match m with
    | none => h'.get? x = some (PySem.W.excObj C t' none .none)
    | some m => ∃ dx, hp.objs.size ≤ dx ∧ dx ≠ x ∧ h'.get? x = some (PySem.W.excObj C t' (some dx) .none) ∧ h'.Ns1 dx m) → R (.ok (.ret .none)) ⟨h', g, d, tk', os⟩
theorem sup_ev {env : PySem.Env} {es : List Expr} {p0 p1 p2 p3 : Pos} (hpos : (p2.endLine == p3.line) = true) (hf : methodCallForm (es.length + ([] : List Keyword).length) (backTo p3 (starEach es env)) (backToKw p3 (keywordEach [] env)) = true) : eval (.Call (.Attribute (.Call (.Name "super" p0) [] [] p1) "__init__" p2) es [] p3) env = (do
      let ov ← attributeBase (.Call (.Name "super" p0) [] [] p1) "__init__" env (eval (.Call (.Name "super" p0) [] [] p1) env)
      standAt p2.atName
      let (f, first) ← holding [ov] (getMethod ov "__init__" (do return (← importBound (.Call (.Name "super" p0) [] [] p1) env).getD true))
      callWith p3 f first (backTo p3 (starEach es env)) []) := by
  rw [eval]
  unfold methodCall methodCallPos calleeOf
  simp only [hf, hpos, Bool.or_true, if_true, pure_bind]
  rfl
theorem ox_run0 {p0 p1 p2 p3 p4  : Pos} {hp : Heap} {g' : Array GenState} {d' : Drawn} {tk : Nat} {os : OsState} {R : Result → Shared → Prop}
    (T : OxC P K C fI params [supSt [] p0 p1 p2 p3 p4] scope fd) (S : OxS scope []) (M : L2.Mod K mg base) (hb : ∀ b o, base.get? b = some o → hp.get? b = some o) (hroom : A.depth < recursionLimit) (hpos : (p2.endLine == p3.line) = true)
    (bind : ∀ (s : Shared) (z  : Value), BindsTo s fd ⟨[z], []⟩ [("self", z)]) (hh : (params.posonlyargs ++ params.args).head? = some ar) (har : ar.arg = ("self" : Str))
    (hq : OxEnd C (hp.objs.size + 1) hp none g' d' os R) :
    codeAny (model P w) A (.call (.ref fI) ⟨[.ref (hp.objs.size + 1)], []⟩) R ⟨(hp.push (PySem.W.kdv_tup [])).push (HandSPX.excO C hp.objs.size), g', d', tk, os⟩ := by
  obtain ⟨name, qual, od, dV, kV, doc, pm, an, cda, ct, cc, osl, hfd, hf, hcd, ⟨ccl, cdd, vs, ccs, file, tf, hcode, hvs, hfile⟩, cl, cld, csl, hcell⟩ := T.fn
  have kk : ∀ b o, hp.get? b = some o → ((hp.push (PySem.W.kdv_tup [])).push (HandSPX.excO C hp.objs.size)).get? b = some o := fun b o e => Heap.get?_push_of_some _ (Heap.get?_push_of_some _ e)
  have hget : ((hp.push (PySem.W.kdv_tup [])).push (HandSPX.excO C hp.objs.size)).get? (hp.objs.size + 1) = some (HandSPX.excO C hp.objs.size) := by heap_get
  have KX : K.In ((hp.push (PySem.W.kdv_tup [])).push (HandSPX.excO C hp.objs.size)) := (M.kin.keeps hb).keeps kk
  have hsz : ((hp.push (PySem.W.kdv_tup [])).push (HandSPX.excO C hp.objs.size)).objs.size = hp.objs.size + 2 := by rw [Heap.size_push, Heap.size_push]
  have hf' := KX _ _ hf
  have bd := bind ⟨(hp.push (PySem.W.kdv_tup [])).push (HandSPX.excO C hp.objs.size), g', d', tk, os⟩ (.ref (hp.objs.size + 1))
  subst hfd
  refine PySem.ks_codeAny_call_defAt (fd := PySem.W.ksFn name qual params _ scope dV kV doc pm an (.ref cda) ct cc) hroom hf' rfl ((M.nolimit.keeps hb).keeps kk) (PySem.W.codeRec_of KX hcd) rfl bd S.cel ?_ (fun h₁ hns hk => ?_) S.co S.gen S.kind
  · intro y hy
    simp only [List.mem_cons, List.not_mem_nil, or_false] at hy
    rcases hy with rfl
    · exact S.slf
  have F0 : Fr hp ((hp.push (PySem.W.kdv_tup [])).push (HandSPX.excO C hp.objs.size)).objs.size h₁ _ := ⟨hns, fun b o e => hk b o (kk b o e), by rw [hsz]; omega⟩
  have N0 : News hp ((hp.push (PySem.W.kdv_tup [])).push (HandSPX.excO C hp.objs.size)).objs.size h₁ [(hp.objs.size + 1, PySem.W.excObj C hp.objs.size none .none)] := fun p hp' => by
    rcases List.mem_cons.mp hp' with rfl | hp'
    · refine ⟨hk _ _ hget, ?_, ?_⟩
      · show hp.objs.size + 1 ≠ _
        rw [hsz]; omega
      · cases z : hp.get? (hp.objs.size + 1) with
        | none => rfl
        | some o => exact absurd (Heap.lt_size z) (Nat.not_lt.mpr (Nat.le_succ _))
    · nomatch hp'
  have ms : List.lookup ("self" : Str) (List.reverse [(("self" : Str), Value.ref (hp.objs.size + 1))]) = some (Value.ref (hp.objs.size + 1)) := by simp [List.lookup]
  refine PySem.ks_wpAt_execs_cons (ox_super (us := []) T (ar := ar) ⟨S.sup, S.cls, S.slf, (fun _ h => nomatch h), S.cel, S.kind, S.co, S.gen⟩ M hb F0 N0 rfl hf hcode hvs hfile hcell hh har ms (Nat.zero_le _) (fun s1 Q F1 hQ => spliced_none hQ) (fun t' h' F1 e1 => ?_) (.inl ⟨rfl, rfl⟩) (sup_ev hpos rfl))
  exact PySem.wpAt_of_wpAny (wpAny_execs_nil (hq h' _ t' (fun b o e => F1.keep b o e) e1))
theorem ox_run1 {f : Str} {u1 : Value} {p0 p1 p2 p3 p4 a0 b0 c0 d0 e0 : Pos} {hp : Heap} {g' : Array GenState} {d' : Drawn} {tk : Nat} {os : OsState} {R : Result → Shared → Prop}
    (T : OxC P K C fI params [supSt [.Name f a0] p0 p1 p2 p3 p4, keepSt f b0 c0 d0 e0] scope fd) (S : OxS scope [f]) (M : L2.Mod K mg base) (hb : ∀ b o, base.get? b = some o → hp.get? b = some o) (hroom : A.depth < recursionLimit) (hpos : (p2.endLine == p3.line) = true)
    (bind : ∀ (s : Shared) (z u1 : Value), BindsTo s fd ⟨[z, u1], []⟩ [("self", z), (f, u1)]) (hh : (params.posonlyargs ++ params.args).head? = some ar) (har : ar.arg = ("self" : Str))
    (hno0 : PySem.W.findIn K (.ref C) f = some none) (hs0 : (("self" : Str) == f) = false) (hd0 : (f == ("__debug__" : Str)) = false)
    (hq : OxEnd C (hp.objs.size + 1) hp (some fun y => if y = f then some u1 else none) g' d' os R) :
    codeAny (model P w) A (.call (.ref fI) ⟨[.ref (hp.objs.size + 1), u1], []⟩) R ⟨(hp.push (PySem.W.kdv_tup [u1])).push (HandSPX.excO C hp.objs.size), g', d', tk, os⟩ := by
  obtain ⟨name, qual, od, dV, kV, doc, pm, an, cda, ct, cc, osl, hfd, hf, hcd, ⟨ccl, cdd, vs, ccs, file, tf, hcode, hvs, hfile⟩, cl, cld, csl, hcell⟩ := T.fn
  have kk : ∀ b o, hp.get? b = some o → ((hp.push (PySem.W.kdv_tup [u1])).push (HandSPX.excO C hp.objs.size)).get? b = some o := fun b o e => Heap.get?_push_of_some _ (Heap.get?_push_of_some _ e)
  have hget : ((hp.push (PySem.W.kdv_tup [u1])).push (HandSPX.excO C hp.objs.size)).get? (hp.objs.size + 1) = some (HandSPX.excO C hp.objs.size) := by heap_get
  have KX : K.In ((hp.push (PySem.W.kdv_tup [u1])).push (HandSPX.excO C hp.objs.size)) := (M.kin.keeps hb).keeps kk
  have hsz : ((hp.push (PySem.W.kdv_tup [u1])).push (HandSPX.excO C hp.objs.size)).objs.size = hp.objs.size + 2 := by rw [Heap.size_push, Heap.size_push]
  have hf' := KX _ _ hf
  have bd := bind ⟨(hp.push (PySem.W.kdv_tup [u1])).push (HandSPX.excO C hp.objs.size), g', d', tk, os⟩ (.ref (hp.objs.size + 1)) u1
  subst hfd
  refine PySem.ks_codeAny_call_defAt (fd := PySem.W.ksFn name qual params _ scope dV kV doc pm an (.ref cda) ct cc) hroom hf' rfl ((M.nolimit.keeps hb).keeps kk) (PySem.W.codeRec_of KX hcd) rfl bd S.cel ?_ (fun h₁ hns hk => ?_) S.co S.gen S.kind
  · intro y hy
    simp only [List.mem_cons, List.not_mem_nil, or_false] at hy
    rcases hy with rfl | rfl
    · exact S.slf
    · exact S.par f (by simp)
  have F0 : Fr hp ((hp.push (PySem.W.kdv_tup [u1])).push (HandSPX.excO C hp.objs.size)).objs.size h₁ _ := ⟨hns, fun b o e => hk b o (kk b o e), by rw [hsz]; omega⟩
  have N0 : News hp ((hp.push (PySem.W.kdv_tup [u1])).push (HandSPX.excO C hp.objs.size)).objs.size h₁ [(hp.objs.size + 1, PySem.W.excObj C hp.objs.size none .none)] := fun p hp' => by
    rcases List.mem_cons.mp hp' with rfl | hp'
    · refine ⟨hk _ _ hget, ?_, ?_⟩
      · show hp.objs.size + 1 ≠ _
        rw [hsz]; omega
      · cases z : hp.get? (hp.objs.size + 1) with
        | none => rfl
        | some o => exact absurd (Heap.lt_size z) (Nat.not_lt.mpr (Nat.le_succ _))
    · nomatch hp'
  have m0 : List.lookup f (List.reverse [(("self" : Str), Value.ref (hp.objs.size + 1)), (f, u1)]) = some u1 := by simp [List.lookup]
  have ms : List.lookup ("self" : Str) (List.reverse [(("self" : Str), Value.ref (hp.objs.size + 1)), (f, u1)]) = some (Value.ref (hp.objs.size + 1)) := by simp [List.lookup, hs0]
  have hl : ∀ {s1 : Shared} {y : Str} {pos : Pos} {v : Value} {E : Value → Shared → Prop} {Q : Value → Shared → Prop} {A : Around}, scope.names.lookup y = some .local → (y == ("__debug__" : Str)) = false → s1.heap.Ns ((hp.push (PySem.W.kdv_tup [u1])).push (HandSPX.excO C hp.objs.size)).objs.size (fun x => List.lookup x (List.reverse [(("self" : Str), Value.ref (hp.objs.size + 1)), (f, u1)])) → List.lookup y (List.reverse [(("self" : Str), Value.ref (hp.objs.size + 1)), (f, u1)]) = some v → Q v s1 →
      wpAny (model P w) A (eval (.Name y pos) (PySem.W.ksEnv qual scope ((hp.push (PySem.W.kdv_tup [u1])).push (HandSPX.excO C hp.objs.size)).objs.size fI (.ref cda) cc)) Q E s1 := fun h1 h2 h3 h4 h5 => wpAny_Name (wpAny_loadName_local S.kind h1 h3 h4 h5) h2
  refine PySem.ks_wpAt_execs_cons (ox_super (us := [u1]) T (ar := ar) ⟨S.sup, S.cls, S.slf, (fun _ h => nomatch h), S.cel, S.kind, S.co, S.gen⟩ M hb F0 N0 rfl hf hcode hvs hfile hcell hh har ms (by rw [sizeLine_eq]; simp) (fun s1 Q F1 hQ => spliced_more (hl (S.par f (by simp)) hd0 F1.ns m0 (spliced_none hQ))) (fun t' h1 F1 e1 => ?_) (.inr ⟨_, _, rfl, rfl, rfl⟩) (sup_ev hpos rfl))
  refine PySem.ks_wpAt_execs_cons (PySem.ks_wpAt_Assign_Attr (PySem.wpAt_of_wpAny (hl (S.par f (by simp)) hd0 F1.ns m0 (hl S.slf rfl F1.ns ms ?_))) (by rfl))
  refine ox_set1 T ((M.kin.keeps hb).keeps F1.keep) e1 hno0 fun h2 tk2 dx k2 dn dne e2 n2 => PySem.wpAt_of_wpAny (wpAny_execs_nil (hq h2 _ t' (fun b o e => k2 b o (fun z => ?_) (F1.keep b o e)) ⟨dx, ?_, dne, e2, n2⟩))
  · subst z
    exact absurd (Heap.lt_size e) (Nat.not_lt.mpr (Nat.le_succ _))
  · exact Nat.le_trans (Nat.le_trans F0.above (Nat.le_of_lt F1.ns.lt)) dn
theorem ox_run2 {f g : Str} {u1 u2 : Value} {p0 p1 p2 p3 p4 a0 b0 c0 d0 e0 a1 b1 c1 d1 e1 : Pos} {hp : Heap} {g' : Array GenState} {d' : Drawn} {tk : Nat} {os : OsState} {R : Result → Shared → Prop}
    (T : OxC P K C fI params [supSt [.Name f a0, .Name g a1] p0 p1 p2 p3 p4, keepSt f b0 c0 d0 e0, keepSt g b1 c1 d1 e1] scope fd) (S : OxS scope [f, g]) (M : L2.Mod K mg base) (hb : ∀ b o, base.get? b = some o → hp.get? b = some o) (hroom : A.depth < recursionLimit) (hpos : (p2.endLine == p3.line) = true)
    (bind : ∀ (s : Shared) (z u1 u2 : Value), BindsTo s fd ⟨[z, u1, u2], []⟩ [("self", z), (f, u1), (g, u2)]) (hh : (params.posonlyargs ++ params.args).head? = some ar) (har : ar.arg = ("self" : Str))
    (hno0 : PySem.W.findIn K (.ref C) f = some none) (hs0 : (("self" : Str) == f) = false) (hd0 : (f == ("__debug__" : Str)) = false) (hno1 : PySem.W.findIn K (.ref C) g = some none) (hs1 : (("self" : Str) == g) = false) (hd1 : (g == ("__debug__" : Str)) = false) (hfg : (f == g) = false)
    (hq : OxEnd C (hp.objs.size + 1) hp (some fun y => if y = g then some u2 else if y = f then some u1 else none) g' d' os R) :
    codeAny (model P w) A (.call (.ref fI) ⟨[.ref (hp.objs.size + 1), u1, u2], []⟩) R ⟨(hp.push (PySem.W.kdv_tup [u1, u2])).push (HandSPX.excO C hp.objs.size), g', d', tk, os⟩ := by
  obtain ⟨name, qual, od, dV, kV, doc, pm, an, cda, ct, cc, osl, hfd, hf, hcd, ⟨ccl, cdd, vs, ccs, file, tf, hcode, hvs, hfile⟩, cl, cld, csl, hcell⟩ := T.fn
  have kk : ∀ b o, hp.get? b = some o → ((hp.push (PySem.W.kdv_tup [u1, u2])).push (HandSPX.excO C hp.objs.size)).get? b = some o := fun b o e => Heap.get?_push_of_some _ (Heap.get?_push_of_some _ e)
  have hget : ((hp.push (PySem.W.kdv_tup [u1, u2])).push (HandSPX.excO C hp.objs.size)).get? (hp.objs.size + 1) = some (HandSPX.excO C hp.objs.size) := by heap_get
  have KX : K.In ((hp.push (PySem.W.kdv_tup [u1, u2])).push (HandSPX.excO C hp.objs.size)) := (M.kin.keeps hb).keeps kk
  have hsz : ((hp.push (PySem.W.kdv_tup [u1, u2])).push (HandSPX.excO C hp.objs.size)).objs.size = hp.objs.size + 2 := by rw [Heap.size_push, Heap.size_push]
  have hf' := KX _ _ hf
  have bd := bind ⟨(hp.push (PySem.W.kdv_tup [u1, u2])).push (HandSPX.excO C hp.objs.size), g', d', tk, os⟩ (.ref (hp.objs.size + 1)) u1 u2
  subst hfd
  refine PySem.ks_codeAny_call_defAt (fd := PySem.W.ksFn name qual params _ scope dV kV doc pm an (.ref cda) ct cc) hroom hf' rfl ((M.nolimit.keeps hb).keeps kk) (PySem.W.codeRec_of KX hcd) rfl bd S.cel ?_ (fun h₁ hns hk => ?_) S.co S.gen S.kind
  · intro y hy
    simp only [List.mem_cons, List.not_mem_nil, or_false] at hy
    rcases hy with rfl | rfl | rfl
    · exact S.slf
    · exact S.par f (by simp)
    · exact S.par g (by simp)
  have F0 : Fr hp ((hp.push (PySem.W.kdv_tup [u1, u2])).push (HandSPX.excO C hp.objs.size)).objs.size h₁ _ := ⟨hns, fun b o e => hk b o (kk b o e), by rw [hsz]; omega⟩
  have N0 : News hp ((hp.push (PySem.W.kdv_tup [u1, u2])).push (HandSPX.excO C hp.objs.size)).objs.size h₁ [(hp.objs.size + 1, PySem.W.excObj C hp.objs.size none .none)] := fun p hp' => by
    rcases List.mem_cons.mp hp' with rfl | hp'
    · refine ⟨hk _ _ hget, ?_, ?_⟩
      · show hp.objs.size + 1 ≠ _
        rw [hsz]; omega
      · cases z : hp.get? (hp.objs.size + 1) with
        | none => rfl
        | some o => exact absurd (Heap.lt_size z) (Nat.not_lt.mpr (Nat.le_succ _))
    · nomatch hp'
  have m0 : List.lookup f (List.reverse [(("self" : Str), Value.ref (hp.objs.size + 1)), (f, u1), (g, u2)]) = some u1 := by simp [List.lookup, hfg]
  have m1 : List.lookup g (List.reverse [(("self" : Str), Value.ref (hp.objs.size + 1)), (f, u1), (g, u2)]) = some u2 := by simp [List.lookup, hfg]
  have ms : List.lookup ("self" : Str) (List.reverse [(("self" : Str), Value.ref (hp.objs.size + 1)), (f, u1), (g, u2)]) = some (Value.ref (hp.objs.size + 1)) := by simp [List.lookup, hs0, hs1]
  have hl : ∀ {s1 : Shared} {y : Str} {pos : Pos} {v : Value} {E : Value → Shared → Prop} {Q : Value → Shared → Prop} {A : Around}, scope.names.lookup y = some .local → (y == ("__debug__" : Str)) = false → s1.heap.Ns ((hp.push (PySem.W.kdv_tup [u1, u2])).push (HandSPX.excO C hp.objs.size)).objs.size (fun x => List.lookup x (List.reverse [(("self" : Str), Value.ref (hp.objs.size + 1)), (f, u1), (g, u2)])) → List.lookup y (List.reverse [(("self" : Str), Value.ref (hp.objs.size + 1)), (f, u1), (g, u2)]) = some v → Q v s1 →
      wpAny (model P w) A (eval (.Name y pos) (PySem.W.ksEnv qual scope ((hp.push (PySem.W.kdv_tup [u1, u2])).push (HandSPX.excO C hp.objs.size)).objs.size fI (.ref cda) cc)) Q E s1 := fun h1 h2 h3 h4 h5 => wpAny_Name (wpAny_loadName_local S.kind h1 h3 h4 h5) h2
  refine PySem.ks_wpAt_execs_cons (ox_super (us := [u1, u2]) T (ar := ar) ⟨S.sup, S.cls, S.slf, (fun _ h => nomatch h), S.cel, S.kind, S.co, S.gen⟩ M hb F0 N0 rfl hf hcode hvs hfile hcell hh har ms (by rw [sizeLine_eq]; simp) (fun s1 Q F1 hQ => spliced_more (hl (S.par f (by simp)) hd0 F1.ns m0 (spliced_more (hl (S.par g (by simp)) hd1 F1.ns m1 (spliced_none hQ))))) (fun t' h1 F1 e1 => ?_) (.inr ⟨_, _, rfl, rfl, rfl⟩) (sup_ev hpos rfl))
  refine PySem.ks_wpAt_execs_cons (PySem.ks_wpAt_Assign_Attr (PySem.wpAt_of_wpAny (hl (S.par f (by simp)) hd0 F1.ns m0 (hl S.slf rfl F1.ns ms ?_))) (by rfl))
  refine ox_set1 T ((M.kin.keeps hb).keeps F1.keep) e1 hno0 fun h2 tk2 dx k2 dn dne e2 n2 => ?_
  have Lx : ((hp.push (PySem.W.kdv_tup [u1, u2])).push (HandSPX.excO C hp.objs.size)).objs.size ≠ hp.objs.size + 1 := by rw [hsz]; omega
  have old : ∀ b o, hp.get? b = some o → h2.get? b = some o := fun b o e => k2 b o (fun z => by
    subst z
    exact absurd (Heap.lt_size e) (Nat.not_lt.mpr (Nat.le_succ _))) (F1.keep b o e)
  have ns2 := F1.ns.at fun o e => k2 _ o Lx e
  have dL : ((hp.push (PySem.W.kdv_tup [u1, u2])).push (HandSPX.excO C hp.objs.size)).objs.size ≠ dx := Nat.ne_of_lt (Nat.lt_of_lt_of_le F1.ns.lt dn)
  have dge : hp.objs.size ≤ dx := Nat.le_trans (Nat.le_trans F0.above (Nat.le_of_lt F1.ns.lt)) dn
  refine PySem.ks_wpAt_execs_cons (PySem.ks_wpAt_Assign_Attr (PySem.wpAt_of_wpAny (hl (S.par g (by simp)) hd1 ns2 m1 (hl S.slf rfl ns2 ms ?_))) (by rfl))
  refine ox_set2 (nl := [f]) T ((M.kin.keeps hb).keeps old) e2 n2 (fun y hy => ?_) (by simp) hno1 fun h3 tk3 k3 n3 => PySem.wpAt_of_wpAny (wpAny_execs_nil (hq h3 _ t' (fun b o e => k3 b o (fun z => ?_) (old b o e)) ⟨dx, dge, dne, k3 _ _ (Ne.symm dne) e2, n3⟩))
  · by_cases z : y = f
    · simp [z]
    · exact absurd (if_neg z) hy
  · subst z
    exact absurd (Heap.lt_size e) (Nat.not_lt.mpr dge)
end
end LW

namespace LW
open PySem PySem.Spec PyProof.Rows L2
def tDMk (K : PySem.W.Frag) (mg : Str → Option Value) (W : WX) (f : Env → Out EX) : L2.St → Hp → XK → Prop := fun σ H Q => ∃ ρ F lab, SR K mg F H lab σ ρ ∧
  Meets K mg W false F H lab σ (fun F' _ _ (b : Value × Option Addr) a => RepX K mg F' b.1 b.2 a) (f ρ) (fun b H' => Q b.1 b.2 H')
def DMk (X : Cx) (W : WX) (e : Expr) (f : Env → Out EX) : Prop := PMk X e (tDMk X.K X.mg W f)
section
variable {X : Cx} {pins : List (Addr × Obj)} {σ : L2.St} {H : Hp} {hp h' : Heap} {g : Array GenState} {d : Drawn} {tk tk' : Nat} {os : OsState} {C fI dx t' : Addr} {Q : XK} {gs : List (Str × V)} {mA : Str → Option Value}
  {params : Arguments} {body : List Stmt} {scope : Scope} {fd : FuncData}
theorem mk_ox (I : L2.Inv X pins σ H ⟨hp, g, d, tk, os⟩) (T : OxC X.prog X.K C fI params body scope fd) (keep : ∀ b o, hp.get? b = some o → h'.get? b = some o) (hx : h'.get? (hp.objs.size + 1) = some (PySem.W.excObj C t' (some dx) .none))
    (dge : hp.objs.size ≤ dx) (dne : dx ≠ hp.objs.size + 1) (hn : h'.Ns1 dx mA) (rel : ∀ f, RelO (gs.lookup f) (mA f)) (q : Q (.ref C) (some dx) (upd H dx (.xd gs))) : MkP X pins σ Q (.ref (hp.objs.size + 1)) ⟨h', g, d, tk', os⟩ := by
  obtain ⟨G, g1, g2⟩ := restrict h' fun b => decide (b ≠ hp.objs.size + 1)
  have gk : ∀ b, b ≠ hp.objs.size + 1 → G.get? b = h'.get? b := fun b hb => g1 b (decide_eq_true hb)
  have ge : G.get? (hp.objs.size + 1) = none := g2 _ (by simp)
  have old : ∀ b o, hp.get? b = some o → G.get? b = some o := fun b o e => by
    rw [gk b fun z => by subst z; exact absurd (Heap.lt_size e) (Nat.not_lt.mpr (Nat.le_succ _))]
    exact keep b o e
  have J : L2.Inv X pins σ (upd H dx (.xd gs)) ⟨G, g, d, tk', os⟩ := I.laid (t' := tk') (a := dx) (o := .xd gs) (h' := G) old dge ⟨mA, hn.at fun o e => (gk dx dne).trans e, rel⟩
  refine ⟨_, _, _, ⟨G, g, d, tk', os⟩, _, .ref C, some dx, rfl, J, fun b o e => ?_, ge, hx, ⟨rfl, rfl⟩, rfl, rfl, ?_, rfl, I.bare, raises_own T.exC T.tyC, q⟩
  · by_cases hb : b = hp.objs.size + 1
    · rw [hb, ge] at e; cases e
    · exact (gk b hb).symm.trans e
  · rw [upd_ne (Ne.symm dne)]
    exact I.hok.fresh (Nat.le_succ _)
theorem mk_ox0 (I : L2.Inv X pins σ H ⟨hp, g, d, tk, os⟩) (T : OxC X.prog X.K C fI params body scope fd) (keep : ∀ b o, hp.get? b = some o → h'.get? b = some o) (hx : h'.get? (hp.objs.size + 1) = some (PySem.W.excObj C t' none .none))
    (q : Q (.ref C) none H) : MkP X pins σ Q (.ref (hp.objs.size + 1)) ⟨h', g, d, tk', os⟩ := by
  refine ⟨_, _, _, ⟨hp, g, d, tk, os⟩, _, .ref C, none, rfl, I, keep, ?_, hx, ⟨rfl, rfl⟩, rfl, rfl, I.hok.fresh (Nat.le_succ _), rfl, I.bare, raises_own T.exC T.tyC, q⟩
  cases z : hp.get? (hp.objs.size + 1) with
  | none => rfl
  | some o => exact absurd (Heap.lt_size z) (Nat.not_lt.mpr (Nat.le_succ _))
end
def OxW (X : Cx) (W : WX) (σ : L2.St) (Q : XK) (k : List D → Env → Out EX) (vs : List V) (H1 : Hp) : Prop := ∃ ds ρ1 F1 lab1, SR X.K X.mg F1 H1 lab1 σ ρ1 ∧ RepL X.K X.mg F1 vs ds ∧
  Meets X.K X.mg W false F1 H1 lab1 σ (fun F' _ _ (b : Value × Option Addr) a => RepX X.K X.mg F' b.1 b.2 a) (k ds ρ1) (fun b H' => Q b.1 b.2 H')
section
variable {X : Cx} {W : WX} {q : Bool} {C fI : Addr} {params : Arguments} {scope : Scope} {fd : FuncData} {ar : Arg} {k : Nat} {x f g : Str} {e : Expr} {es : List Expr} {ga : Env → Out (List D)} {p pos p0 p1 p2 p3 p4 a0 b0 c0 d0 e0 a1 b1 c1 d1 e1 : Pos}
def sMk0 (x : Str) (ρ : Env) : Out EX := .ok ⟨x, []⟩ ρ
def sMk1 (x f : Str) (ga : Env → Out (List D)) (ρ : Env) : Out EX := (ga ρ).bind fun ds ρ1 => match ds with
  | [a] => .ok ⟨x, [(f, a)]⟩ ρ1
  | _ => .no
def sMk2 (x f g : Str) (ga : Env → Out (List D)) (ρ : Env) : Out EX := (ga ρ).bind fun ds ρ1 => match ds with
  | [a, b] => .ok ⟨x, [(g, b), (f, a)]⟩ ρ1
  | _ => .no
theorem ox_call {body : List Stmt} (T : OxC X.prog X.K C fI params body scope fd) {pins : List (Addr × Obj)} {σ : L2.St} {H : Hp} {hp : Heap} {g' : Array GenState} {d : Drawn} {tk : Nat} {os : OsState} {us : List Value} {Q : XK} (I : L2.Inv X pins σ H ⟨hp, g', d, tk, os⟩) (hus : us.length ≤ sizeLine)
    (h : codeAny (model X.prog X.w) (X.A.under (.builtin "type.__call__" ⟨.ref C :: us, []⟩)) (.call (.ref fI) ⟨.ref (hp.objs.size + 1) :: us, []⟩) (PySem.W.InitBack (hp.objs.size + 1) fun r s' => match r with | .ok (.ret v) => MkP X pins σ Q v s' | .ok _ => False | .error e => X.xe e s')
      ⟨(hp.push (PySem.W.kdv_tup us)).push (HandSPX.excO C hp.objs.size), g', d, tk, os⟩) : wpAny (model X.prog X.w) X.A (call (.ref C) us) (MkP X pins σ Q) X.xe ⟨hp, g', d, tk, os⟩ := by
  obtain ⟨nm, N', qn, bs, bm, hdct, sn, sub, ab, col, dd, k0, k1, k2, k3, k5, hC, hT⟩ := PySem.W.excInit_of I.kIn T.ini
  obtain ⟨name, qual, od, dV, kV, doc, pm, an, cda, ct, cc, osl, hfd, hf, _⟩ := T.fn
  refine wpAny_call (HandSPX.call_own _root_.PySem.F.excBase_ValueError hT hC (PySem.W.looks_findIn I.kIn T.iC) (fun self => PySem.W.exc_bind (I.kIn _ _ hf) rfl self) hus (codeAny_mono h fun r s' z => ?_))
  rcases r with x | (v | _ | _ | _) <;> first | exact z | exact z.elim
theorem mk0 (T : OxC X.prog X.K C fI params [supSt [] p0 p1 p2 p3 p4] scope fd) (S : OxS scope []) (hpos : (p2.endLine == p3.line) = true) (hr : RoomG (k + 1) X.A) (hg : Gl X x) (hm : X.mg x = some (.ref C))
    (bind : ∀ (s : Shared) (z : Value), BindsTo s fd ⟨[z], []⟩ [("self", z)]) (hh : (params.posonlyargs ++ params.args).head? = some ar) (har : ar.arg = ("self" : Str)) (hdb : (x == ("__debug__" : Str)) = false := by decide) :
    DMk X W (.Call (.Name x p) [] [] pos) (sMk0 x) := by
  intro pins s σ H Q I h
  obtain ⟨ρ, F, lab, sr, m⟩ := h
  refine wpAny_Call_Name_kw (ld_glob I hg hm ?_ hdb)
  refine PySem.W.callWith_K0 I.kIn T.kC ?_
  obtain ⟨hp, g', dr, tk, os⟩ := s
  refine ox_call T I (Nat.zero_le _) (ox_run0 T S I.ok.mod I.bk (hr.make C [] []).r.depth hpos bind hh har fun h' tk' t' keep hx => ⟨rfl, mk_ox0 I T keep hx ?_⟩)
  exact m (.ref C, none) F H lab Move.refl sr ⟨C, rfl, hm, fun z => absurd rfl z⟩
theorem mk1 (T : OxC X.prog X.K C fI params [supSt [.Name f a0] p0 p1 p2 p3 p4, keepSt f b0 c0 d0 e0] scope fd) (S : OxS scope [f]) (hpos : (p2.endLine == p3.line) = true) (hr : RoomG (k + 1) X.A) (hg : Gl X x) (hm : X.mg x = some (.ref C))
    (bind : ∀ (s : Shared) (z u1 : Value), BindsTo s fd ⟨[z, u1], []⟩ [("self", z), (f, u1)]) (hh : (params.posonlyargs ++ params.args).head? = some ar) (har : ar.arg = ("self" : Str))
    (hno0 : PySem.W.findIn X.K (.ref C) f = some none) (ha : DA X W q (e :: es) ga) (hs0 : (("self" : Str) == f) = false := by decide) (hd0 : (f == ("__debug__" : Str)) = false := by decide)
    (hdb : (x == ("__debug__" : Str)) = false := by decide) (he : starEach (e :: es) X.env = (false, eval e X.env) :: starEach es X.env := by rfl) (hpl : (backTo pos (starEach es X.env)).any (·.1) = false := by rfl) :
    DMk X W (.Call (.Name x p) (e :: es) [] pos) (sMk1 x f ga) := by
  intro pins s σ H Q I h
  obtain ⟨ρ, F, lab, sr, m⟩ := h
  refine wpAny_Call_Name_kw (ld_glob I hg hm ?_ hdb)
  refine PySem.W.callWith_K (h₀ := X.base) I.ok.mod.kin T.kC (thn (ha.run pos pins s σ H (OxW X W σ Q (fun ds ρ1 => match ds with | [a] => .ok ⟨x, [(f, a)]⟩ ρ1 | _ => .no)) I ⟨ρ, F, lab, sr, Meets.seq (rep2 := fun _ F' _ _ (b : Value × Option Addr) a => RepX X.K X.mg F' b.1 b.2 a) (fun z => Bool.noConfusion z) (fun _ _ _ _ _ _ _ _ z => z) m fun xs ds ρ1 F1 H1 lab1 mv1 sr1 rp m1 => ⟨ds, ρ1, F1, lab1, sr1, rp, m1⟩⟩) fun us s1 ⟨vs, H1, I1, r1, hz⟩ => ⟨I1.kIn, ?_⟩) he hpl
  obtain ⟨ds, ρ1, F1, lab1, sr1, rp, m1⟩ := hz
  show wpAny _ _ (call (.ref C) us) _ _ _
  cases rp with
  | nil => exact m1.elim
  | cons ra rr =>
    cases rr with
    | cons _ _ => exact m1.elim
    | nil =>
      cases r1 with
      | cons q1 qr =>
        cases qr
        obtain ⟨hp, g', dr, tk, os⟩ := s1
        refine ox_call T I1 (by rw [sizeLine_eq]; simp) (ox_run1 T S I1.ok.mod I1.bk (hr.make C _ []).r.depth hpos bind hh har hno0 hs0 hd0 fun h' tk' t' keep ⟨dx, dge, dne, hx, hn⟩ => ⟨rfl, mk_ox (gs := [(f, _)]) I1 T keep hx dge dne hn (relO_put (fs := []) q1 fun _ => True.intro) ?_⟩)
        have hd : H1 dx = none := I1.hok.fresh dge
        exact m1 (.ref C, some dx) _ _ lab1 (Grow.new (K := X.K) (mg := X.mg) sr1.bas.le hd).move ((Grow.new (K := X.K) (mg := X.mg) sr1.bas.le hd).sr sr1) ⟨C, rfl, hm, fun _ => ⟨dx, _, rfl, upd_same, .cons (ra.mono (Grow.new (K := X.K) (mg := X.mg) sr1.bas.le hd).ff) .nil⟩⟩
theorem mk2 (T : OxC X.prog X.K C fI params [supSt [.Name f a0, .Name g a1] p0 p1 p2 p3 p4, keepSt f b0 c0 d0 e0, keepSt g b1 c1 d1 e1] scope fd) (S : OxS scope [f, g]) (hpos : (p2.endLine == p3.line) = true) (hr : RoomG (k + 1) X.A) (hg : Gl X x) (hm : X.mg x = some (.ref C))
    (bind : ∀ (s : Shared) (z u1 u2 : Value), BindsTo s fd ⟨[z, u1, u2], []⟩ [("self", z), (f, u1), (g, u2)]) (hh : (params.posonlyargs ++ params.args).head? = some ar) (har : ar.arg = ("self" : Str))
    (hno0 : PySem.W.findIn X.K (.ref C) f = some none) (hno1 : PySem.W.findIn X.K (.ref C) g = some none) (ha : DA X W q (e :: es) ga) (hs0 : (("self" : Str) == f) = false := by decide) (hd0 : (f == ("__debug__" : Str)) = false := by decide) (hs1 : (("self" : Str) == g) = false := by decide) (hd1 : (g == ("__debug__" : Str)) = false := by decide) (hfg : (f == g) = false := by decide)
    (hdb : (x == ("__debug__" : Str)) = false := by decide) (he : starEach (e :: es) X.env = (false, eval e X.env) :: starEach es X.env := by rfl) (hpl : (backTo pos (starEach es X.env)).any (·.1) = false := by rfl) :
    DMk X W (.Call (.Name x p) (e :: es) [] pos) (sMk2 x f g ga) := by
  intro pins s σ H Q I h
  obtain ⟨ρ, F, lab, sr, m⟩ := h
  refine wpAny_Call_Name_kw (ld_glob I hg hm ?_ hdb)
  refine PySem.W.callWith_K (h₀ := X.base) I.ok.mod.kin T.kC (thn (ha.run pos pins s σ H (OxW X W σ Q (fun ds ρ1 => match ds with | [a, b] => .ok ⟨x, [(g, b), (f, a)]⟩ ρ1 | _ => .no)) I ⟨ρ, F, lab, sr, Meets.seq (rep2 := fun _ F' _ _ (b : Value × Option Addr) a => RepX X.K X.mg F' b.1 b.2 a) (fun z => Bool.noConfusion z) (fun _ _ _ _ _ _ _ _ z => z) m fun xs ds ρ1 F1 H1 lab1 mv1 sr1 rp m1 => ⟨ds, ρ1, F1, lab1, sr1, rp, m1⟩⟩) fun us s1 ⟨vs, H1, I1, r1, hz⟩ => ⟨I1.kIn, ?_⟩) he hpl
  obtain ⟨ds, ρ1, F1, lab1, sr1, rp, m1⟩ := hz
  show wpAny _ _ (call (.ref C) us) _ _ _
  cases rp with
  | nil => exact m1.elim
  | cons ra rr =>
    cases rr with
    | nil => exact m1.elim
    | cons rb rr =>
      cases rr with
      | cons _ _ => exact m1.elim
      | nil =>
        cases r1 with
        | cons q1 qr =>
          cases qr with
          | cons q2 qr =>
            cases qr
            obtain ⟨hp, g', dr, tk, os⟩ := s1
            refine ox_call T I1 (by rw [sizeLine_eq]; simp) (ox_run2 T S I1.ok.mod I1.bk (hr.make C _ []).r.depth hpos bind hh har hno0 hs0 hd0 hno1 hs1 hd1 hfg fun h' tk' t' keep ⟨dx, dge, dne, hx, hn⟩ => ⟨rfl, mk_ox (gs := [(g, _), (f, _)]) I1 T keep hx dge dne hn (relO_put (fs := [(f, _)]) q2 (relO_put (fs := []) q1 fun _ => True.intro)) ?_⟩)
            have hd : H1 dx = none := I1.hok.fresh dge
            exact m1 (.ref C, some dx) _ _ lab1 (Grow.new (K := X.K) (mg := X.mg) sr1.bas.le hd).move ((Grow.new (K := X.K) (mg := X.mg) sr1.bas.le hd).sr sr1) ⟨C, rfl, hm, fun _ => ⟨dx, _, rfl, upd_same, .cons (rb.mono (Grow.new (K := X.K) (mg := X.mg) sr1.bas.le hd).ff) (.cons (ra.mono (Grow.new (K := X.K) (mg := X.mg) sr1.bas.le hd).ff) .nil)⟩⟩
end
end LW

namespace LW
open PySem PySem.Spec PyProof.Rows L2
abbrev Cl := Value × Option Nat × TS
def endsAs (i : Option Nat) (D : Ends) : Ends := match i with
  | none => D
  | some i => { nx := fun σ' H' => D.nx (σ'.set i none) H', rt := D.rt, bk := fun σ' H' => D.bk (σ'.set i none) H', ct := fun σ' H' => D.ct (σ'.set i none) H' }
def putAs (i : Option Nat) (a : Addr) (σ : L2.St) : L2.St := match i with
  | none => σ
  | some i => σ.set i (some (.ref a))
def wCl (K : PySem.W.Frag) (Wout : WX) (D : Ends) : List Cl → WX
  | [] => Wout
  | (c, i, ts) :: r => fun cls d σ H => ∃ b, PySem.W.exmOne K cls c = some b ∧ (b = true → ∀ a, H a = none → ∃ C, cls = .ref C ∧ ts (endsAs i D) (putAs i a σ) (upd H a (exq a C d))) ∧ (b = false → wCl K Wout D r cls d σ H)
inductive ClOk (X : Cx) : List ExceptHandler → List Cl → Prop
  | nil : ClOk X [] []
  | only {x : Str} {c : Value} {ts : TS} {b₀ : Stmt} {suite : List Stmt} {np pos' : Pos} {hds : List ExceptHandler} {l : List Cl} (hc : Names X x c)
      (hsu : ∀ (a : Addr) (pn : List (Addr × Obj)), PSs (X.suite a pn) (b₀ :: suite) ts) (r : ClOk X hds l) : ClOk X (.ExceptHandler (some (.Name x np)) none (b₀ :: suite) pos' :: hds) ((c, none, ts) :: l)
  | named {x n : Str} {i : Nat} {c : Value} {ts : TS} {b₀ : Stmt} {suite : List Stmt} {np pos' : Pos} {hds : List ExceptHandler} {l : List Cl} (hc : Names X x c) (hN : X.N.Nodup) (hi : X.N[i]? = some n) (hln : X.env.kindOf n = some .local)
      (hsu : ∀ (a : Addr) (pn : List (Addr × Obj)), PSs (X.suite a pn) (b₀ :: suite) ts) (r : ClOk X hds l) : ClOk X (.ExceptHandler (some (.Name x np)) (some n) (b₀ :: suite) pos' :: hds) ((c, some i, ts) :: l)
section
variable {X : Cx} {pins : List (Addr × Obj)} {σ : L2.St} {H : Hp} {s : Shared}
end
section
variable {X : Cx} {body : List Stmt} {h₀ : ExceptHandler} {hds : List ExceptHandler} {l : List Cl} {pos : Pos} {tb : WX → TS} {Wout : WX}
end
end LW

namespace LW
open PySem PySem.Spec PyProof.Rows L2
def errs : List Str := ["BadWeb", "BadText", "BadNumber", "NoFires", "NoDeed", "NoLabel", "NoPlace", "NoLot", "NoQuestion", "NothingDone"]
def putE (i : Option Nat) (x : EX) (ρ : Env) : Env := match i with
  | none => ρ
  | some i => ρ.set i (some (.v (.ex x.c x.fs)))
def unE (i : Option Nat) (ρ : Env) : Env := match i with
  | none => ρ
  | some i => ρ.set i none
def unAs (i : Option Nat) : Flow → Flow
  | .next ρ => .next (unE i ρ)
  | .brk ρ => .brk (unE i ρ)
  | .cont ρ => .cont (unE i ρ)
  | .ret p ρ => .ret p (unE i ρ)
  | .exc _ _ => .no
  | .no => .no
def sCatch : List (Str × Option Nat × (Env → Flow)) → EX → Env → Flow
  | [], x, ρ => .exc x ρ
  | (c, i, g) :: r, x, ρ => if errs.contains x.c then (if x.c == c then unAs i (g (putE i x ρ)) else sCatch r x ρ) else .no
def WNo : WX := fun _ _ _ _ => False
structure ErrC (X : Cx) (x : Str) (C : Addr) : Prop where
  gl : Gl X x
  dbg : (x == ("__debug__" : Str)) = false
  mg : X.mg x = some (.ref C)
  ex : ∀ y ∈ errs, ∀ C', X.mg y = some (.ref C') → PySem.W.exmOne X.K (.ref C') (.ref C) = some (y == x)
inductive DCl (X : Cx) (ks : List Nat) : List ExceptHandler → List (Str × Option Nat × (Env → Flow)) → Prop
  | nil : DCl X ks [] []
  | only {x : Str} {C : Addr} {g : Env → Flow} {b₀ : Stmt} {suite : List Stmt} {np pos' : Pos} {hds : List ExceptHandler} {l : List (Str × Option Nat × (Env → Flow))} (hc : ErrC X x C)
      (hsu : ∀ (a : Addr) (pn : List (Addr × Obj)), DSs (X.suite a pn) WNo ks (b₀ :: suite) g) (r : DCl X ks hds l) : DCl X ks (.ExceptHandler (some (.Name x np)) none (b₀ :: suite) pos' :: hds) ((x, none, g) :: l)
  | named (i : Nat) {x n : Str} {C : Addr} {g : Env → Flow} {b₀ : Stmt} {suite : List Stmt} {np pos' : Pos} {hds : List ExceptHandler} {l : List (Str × Option Nat × (Env → Flow))} (hc : ErrC X x C) (hN : X.N.Nodup) (hi : X.N[i]? = some n) (hln : X.env.kindOf n = some .local) (hki : i ∉ ks)
      (hsu : ∀ (a : Addr) (pn : List (Addr × Obj)), DSs (X.suite a pn) WNo ks (b₀ :: suite) g) (r : DCl X ks hds l) : DCl X ks (.ExceptHandler (some (.Name x np)) (some n) (b₀ :: suite) pos' :: hds) ((x, some i, g) :: l)
section
variable {K : PySem.W.Frag} {mg : Str → Option Value} {W : WX} {ks : List Nat} {F H F1 H1 : Hp} {lab : Lab} {σ : L2.St} {ρ : Env} {D : Ends} {fl : Flow} {i : Nat}
theorem sr_un (sr : SR K mg F H lab σ ρ) : SR K mg F H lab (σ.set i none) (ρ.set i none) :=
  ⟨sr.bas, sr.tb, fun j o h => by
    by_cases hj : i = j
    · subst hj
      rw [List.getElem?_set] at h
      simp at h
    · rw [List.getElem?_set_ne hj] at h ⊢
      exact sr.env j o h, by rw [List.length_set, List.length_set]; exact sr.len⟩
theorem meets_un (hki : i ∉ ks) {u : Option V} (mv : Move false F H lab F1 H1 lab) (h : SMeets K mg W ks F H lab σ (unAs (some i) fl) D) : SMeets K mg WNo ks F1 H1 lab (σ.set i u) fl (endsAs (some i) D) := by
  have kp : ∀ {σ' : L2.St}, Keep ks (σ.set i u) σ' → Keep ks σ (σ'.set i none) := fun k => (Keep.trans (Keep.set hki) k).trans (Keep.set hki)
  cases fl with
  | no => exact h.elim
  | exc x ρ' => exact h.elim
  | next ρ' => exact fun σ' F' H' lab' m s k => h (σ'.set i none) F' H' lab' (mv.trans m) (sr_un s) (kp k)
  | brk ρ' => exact fun σ' F' H' lab' m s k => h (σ'.set i none) F' H' lab' (mv.trans m) (sr_un s) (kp k)
  | cont ρ' => exact fun σ' F' H' lab' m s k => h (σ'.set i none) F' H' lab' (mv.trans m) (sr_un s) (kp k)
  | ret p ρ' => exact fun v σ' F' H' lab' m s k r => h v (σ'.set i none) F' H' lab' (mv.trans m) (sr_un s) (kp k) (r.since fun a n => n.since mv id)
theorem meets_on (mv : Move false F H lab F1 H1 lab) (h : SMeets K mg W ks F H lab σ (unAs none fl) D) : SMeets K mg WNo ks F1 H1 lab σ fl D := by
  cases fl with
  | no => exact h.elim
  | exc x ρ' => exact h.elim
  | next ρ' => exact SMeets.later (fl := .next ρ') h mv Keep.refl
  | brk ρ' => exact SMeets.later (fl := .brk ρ') h mv Keep.refl
  | cont ρ' => exact SMeets.later (fl := .cont ρ') h mv Keep.refl
  | ret p ρ' => exact SMeets.later (fl := .ret p ρ') h mv Keep.refl
end
theorem DCl.cl {X : Cx} {W : WX} {ks : List Nat} {hds : List ExceptHandler} {hs : List (Str × Option Nat × (Env → Flow))} (h : DCl X ks hds hs) :
    ∃ l, ClOk X hds l ∧ ∀ (D : Ends) (x : EX) (cls : Value) (d : Option Addr) (F H : Hp) (lab : Lab) (σ : L2.St) (ρ : Env), SR X.K X.mg F H lab σ ρ → RepX X.K X.mg F cls d x → SMeets X.K X.mg W ks F H lab σ (sCatch hs x ρ) D → wCl X.K W D l cls d σ H := by
  induction h with
  | nil => exact ⟨[], .nil, fun D x cls d F H lab σ ρ sr rx m => m cls d σ F H lab Move.refl sr Keep.refl rx⟩
  | @only x C g b₀ suite np pos' hds l hc hsu r ih =>
    obtain ⟨l', cl, ih⟩ := ih
    refine ⟨_, .only (c := .ref C) (ts := tDS X.K X.mg WNo ks g) ⟨hc.gl, hc.dbg, .inl hc.mg⟩ hsu cl, fun D y cls d F H lab σ ρ sr rx m => ?_⟩
    have rx' := rx
    obtain ⟨C', rfl, hmg, hfs⟩ := rx'
    simp only [sCatch] at m
    split at m
    · rename_i hin
      refine ⟨_, hc.ex y.c (by simpa using hin) C' hmg, fun hb a na => ⟨C', rfl, ?_⟩, fun hb => ?_⟩
      · rw [if_pos hb] at m
        exact ⟨ρ, _, lab, (Grow.new (K := X.K) (mg := X.mg) sr.bas.le na).sr sr, meets_on (Grow.new (K := X.K) (mg := X.mg) sr.bas.le na).move m⟩
      · rw [if_neg (by rw [hb]; exact Bool.false_ne_true)] at m
        exact ih D y _ d F H lab σ ρ sr rx m
    · exact m.elim
  | @named i x n C g b₀ suite np pos' hds l hc hN hi hln hki hsu r ih =>
    obtain ⟨l', cl, ih⟩ := ih
    refine ⟨_, .named (i := i) (c := .ref C) (ts := tDS X.K X.mg WNo ks g) ⟨hc.gl, hc.dbg, .inl hc.mg⟩ hN hi hln hsu cl, fun D y cls d F H lab σ ρ sr rx m => ?_⟩
    have rx' := rx
    obtain ⟨C', rfl, hmg, hfs⟩ := rx'
    simp only [sCatch] at m
    split at m
    · rename_i hin
      refine ⟨_, hc.ex y.c (by simpa using hin) C' hmg, fun hb a na => ⟨C', rfl, ?_⟩, fun hb => ?_⟩
      · rw [if_pos hb] at m
        have gr := Grow.new (K := X.K) (mg := X.mg) (o := exq a C' d) sr.bas.le na
        have ra : Rep X.K X.mg (upd F a (exq a C' d)) (.ref a) (.ex y.c y.fs) := by
          by_cases hf : y.fs = []
          · rw [hf]; exact .ex0 upd_same hmg
          · obtain ⟨dd, gs, rfl, e, rf⟩ := hfs hf
            exact .ex upd_same hmg (gr.ff _ _ e) (rf.mono gr.ff)
        exact ⟨_, _, lab, sr_putv (gr.sr sr) ra, meets_un hki gr.move m⟩
      · rw [if_neg (by rw [hb]; exact Bool.false_ne_true)] at m
        exact ih D y _ d F H lab σ ρ sr rx m
    · exact m.elim
section
variable {X : Cx} {W : WX} {ks : List Nat} {body : List Stmt} {h₀ : ExceptHandler} {hds : List ExceptHandler} {f : Env → Flow} {hs : List (Str × Option Nat × (Env → Flow))} {pos : Pos}
end
end LW

namespace LW
open PySem PySem.Spec PyProof.Rows L2
section
variable {X : Cx} {W : WX} {q : Bool} {c f : Str} {C : Addr} {e : Expr} {g : Env → Out P} {pos : Pos}
end
end LW

namespace LW
open PySem PySem.Spec PyProof.Rows L2
section
variable {K : PySem.W.Frag} {mg : Str → Option Value} {C C' : Addr}
end
end LW

namespace LW
open PySem PySem.Spec PyProof.Rows L2
theorem RepL.rep {K : PySem.W.Frag} {mg : Str → Option Value} {F : Hp} {xs : List V} {ds : List D} (r : RepL K mg F xs ds) : ∀ n : Nat, RepL K mg F (List.replicate n xs).flatten (List.replicate n ds).flatten
  | 0 => by simpa using (RepL.nil : RepL K mg F [] [])
  | n + 1 => by
    rw [List.replicate_succ, List.replicate_succ, List.flatten_cons, List.flatten_cons]
    exact r.append (RepL.rep r n)
theorem Vals.repl {xs : List V} {us : List Value} (r : Vals xs us) : ∀ n : Nat, Vals (List.replicate n xs).flatten (List.replicate n us).flatten
  | 0 => by simpa using (Paired.nil : Vals [] [])
  | n + 1 => by
    rw [List.replicate_succ, List.replicate_succ, List.flatten_cons, List.flatten_cons]
    exact Vals.append r (Vals.repl r n)
section
variable {X : Cx}
end
end LW

namespace LW
open PySem PySem.Spec PyProof.Rows L2
section
variable {X : Cx}
end
end LW

namespace LW
open PySem PySem.Spec PyProof.Rows L2
section
variable {prog : Program} {w : World} {A : Around} {E : Value → Shared → Prop} {s : Shared}
end
section
variable {X : Cx} {W : WX} {q : Bool} {e : Expr} {f : Env → Out P} {te : TE} {k : Nat} {p1 p2 p3 pos : Pos}
end
end LW

namespace LW
open PySem PySem.Spec PyProof.Rows L2
section
variable {X : Cx}
end
section
variable {X : Cx} {W : WX} {q qt qk qe : Bool} {kx vx tgt iter c : Expr} {ifs : List Expr} {scope : Scope} {own : List (Str × Nat)} {ks ks' : List Nat} {pos : Pos} {h : Env → Out (List D)} {tg : D → Env → Option Env} {t : Env → Out Bool} {fk fv : Env → Out P} {tb : Bool} {kd : DKind}
end
end LW

namespace LW
open PySem PySem.Spec PyProof.Rows L2
section
variable {prog : Program} {w : World} {A : Around} {E : Value → Shared → Prop} {s : Shared}
end
section
variable {X : Cx}
end
end LW

namespace LW
open PySem PySem.Spec PyProof.Rows L2
section
variable {P : Program} {w : World} {A : Around} {E : Value → Shared → Prop} {s : Shared}
end
section
variable {X : Cx} {W : WX} {q : Bool} {e : Expr} {f : Env → Out P} {elts : List Expr} {kk : Nat} {tpos p pos : Pos}
end
end LW

namespace LW
open PySem PySem.Spec PyProof.Rows L2
open LamX (CodeO TabS TabB LamS lamEnv lamCx)
structure Made (H H1 : Hp) (P c' : Addr) (q : Str) : Prop where
  same : H1 = H ∨ ∃ ps more : Array Value, H P = some (.tbl ps) ∧ H c' = none ∧ H1 = upd (upd H P (.tbl (ps ++ more))) c' (CodeO c' q)
  tab : TabS H1 P q
  co : H1 c' = some (CodeO c' q)
section
variable {K : PySem.W.Frag} {mg : Str → Option Value} {F H H1 : Hp} {lab : Lab} {P c' : Addr} {q : Str}
theorem codeO_tbl {c : Addr} {x : Str} (ps : Array Value) : CodeO c x ≠ .tbl ps := fun z => by unfold CodeO at z; cases z
theorem Made.grow (b : Bas F H lab) (hu : ∀ q', TabAt K P q' → q' = q) (m : Made H H1 P c' q) : Grow K mg F H F H1 := by
  rcases m.same with e | ⟨ps, more, hP, hn, e⟩
  · rw [e]; exact Grow.refl b.le
  have nPc : P ≠ c' := ne_of_none hP hn
  have eP : H1 P = some (.tbl (ps ++ more)) := by rw [e, upd_ne nPc, upd_same]
  have eO : ∀ a, a ≠ P → a ≠ c' → H1 a = H a := fun a h1 h2 => by rw [e, upd_ne h2, upd_ne h1]
  have nP : ∀ a o, H a = some o → (∀ qs, o ≠ .tbl qs) → a ≠ P := fun a o h k z => by
    rw [z, hP] at h
    exact k ps (Option.some.inj h).symm
  have fP : F P = none := b.nt P ps hP
  have stay : ∀ a o, H a = some o → (∀ qs, o ≠ .tbl qs) → H1 a = some o := fun a o h k => (eO a (nP a o h k) (ne_of_none h hn)).trans h
  refine ⟨Le.refl _, stay, fun _ _ z => z, fun a o h => ?_, fun a h => ?_, fun hnt a qs h => ?_, fun t P' q' z => ?_⟩
  · have h' := b.le a o h
    exact (eO a (fun z => by rw [z, fP] at h; cases h) (ne_of_none h' hn)).trans h'
  · by_cases h1 : a = P
    · rw [h1, eP]; exact fun z => nomatch z
    by_cases h2 : a = c'
    · rw [h2, m.co]; exact fun z => nomatch z
    rw [eO a h1 h2]; exact h
  · by_cases h1 : a = P
    · rw [h1]; exact fP
    by_cases h2 : a = c'
    · rw [h2, m.co] at h
      exact absurd (Option.some.inj h) (codeO_tbl qs)
    exact hnt a qs ((eO a h1 h2).symm.trans h)
  · by_cases h1 : P' = P
    · rw [h1] at z ⊢
      rw [hu q' z]; exact m.tab
    · obtain ⟨qs, g1, g2, g3⟩ := t P' q' z
      refine ⟨qs, (eO P' h1 (ne_of_none g1 hn)).trans g1, g2, fun pos cv hc => ?_⟩
      obtain ⟨c, k1, k2⟩ := g3 pos cv hc
      exact ⟨c, k1, stay _ _ k2 codeO_tbl⟩
end
section
variable {X : Cx} {pins : List (Addr × Obj)} {σ : L2.St} {H : Hp} {s : Shared} {P c : Addr} {params : Arguments} {body : Expr} {scope : Scope} {pos : Pos}
end
section
variable {K : PySem.W.Frag} {mg : Str → Option Value} {F H : Hp} {lab : Lab} {σ σ' τ : L2.St} {ρ ρ' δ : Env}
end
section
variable {X : Cx} {pins : List (Addr × Obj)} {σ : L2.St} {H : Hp} {s : Shared} {params : Arguments} {body : Expr} {scope sg : Scope} {f c' g : Addr} {W : WX} {k n : Nat} {Ng G : List Str} {a qg : Str} {cdg : Value} {fE : Env → Out P} {Eg : XK} {pn : List (Addr × Obj)} {xe : Value → Shared → Prop} {p1 p2 : Pos}
end
section
variable {X : Cx} {W : WX} {ks : List Nat} {q : Bool} {σ1 : L2.St} {c' : Addr} {qn : Str} {f : Env → Out P} {e : Expr} {pos : Pos} {g1 g2 : Env → Flow} {st : Stmt} {rest : List Stmt}
variable {tb : List Stmt} {h₀ : ExceptHandler} {hds : List ExceptHandler} {gb : Env → Flow} {hs : List (Str × Option Nat × (Env → Flow))}
end
structure LamDef (K : PySem.W.Frag) (nm : Str) (code : Value) (c P : Addr) : Prop where
  mem : nm ∈ lamDefs
  tab : PySem.W.tabIn K nm = some (c, P)
  cd : code = .ref c
  one : ∀ q', TabAt K P q' → q' = nm ++ ".<locals>.<lambda>"
section
variable {K : PySem.W.Frag} {mg : Str → Option Value} {base : Heap} {nm : Str} {code cdv : Value} {c P : Addr}
theorem LamDef.only (h : lamDefs = [nm]) (t : PySem.W.tabIn K nm = some (c, P)) (hc : code = .ref c) : LamDef K nm code c P :=
  ⟨by rw [h]; exact List.mem_singleton.mpr rfl, t, hc, fun q' ⟨n', hm, _, _, e⟩ => by
    rw [h, List.mem_singleton] at hm
    rw [e, hm]⟩
end
theorem tabK_none {q : Program} {K : PySem.W.Frag} (h : lamDefs = []) : TabK q K :=
  ⟨fun x hx => absurd (h ▸ hx : x ∈ ([] : List Str)) (List.not_mem_nil), fun b hb => absurd hb (by
    have e : tabs K = [] := by unfold tabs; rw [h]; rfl
    rw [e]; exact List.not_mem_nil)⟩
section
variable {X : Cx} {W : WX} {k n m : Nat} {x qg a : Str} {g c P : Addr} {fd : FuncData} {st : Stmt} {Ng G : List Str} {params : Arguments} {body : Expr} {scope : Scope} {gb : Env → Flow} {p lpos pos : Pos}
end
end LW

namespace LW
open PySem PySem.Spec PyProof.Rows L2
section
variable {K : PySem.W.Frag} {mg : Str → Option Value} {W : WX} {qa qb : Bool} {ks : List Nat} {fa fb : Env → Out P} {σ : L2.St} {H : Hp} {D : Ends}
end
section
variable {X : Cx} {W : WX} {qa qb : Bool} {ks : List Nat} {fa fb : Env → Out P}
end
end LW

namespace LW
open PySem PySem.Spec PyProof.Rows L2
section
variable {K : PySem.W.Frag} {mg : Str → Option Value} {F H : Hp}
theorem RepK.keys : ∀ {kv : List (Key × V)} {kvs : List (D × D)}, RepK K mg F kv kvs → kvs.map (·.1) = kv.map fun p => keyD p.1
  | _, _, .nil => rfl
  | _, _, .cons _ r => congrArg (_ :: ·) r.keys
end
section
variable {X : Cx} {W : WX}
end
end LW

namespace LW
open PySem PySem.Spec PyProof.Rows L2
section
variable {K : PySem.W.Frag} {mg : Str → Option Value} {F H F' H' : Hp} {lab : Lab} {σ : L2.St} {ρ : Env} {i j : Nat}
end
section
variable {X : Cx} {W : WX} {c c2 x y : Str} {C C2 f : Addr} {fd : FuncData} {k : Nat} {ps : List Str} {S : Fn} {p1 p2 pos : Pos}
end
section
variable {K : PySem.W.Frag} {mg : Str → Option Value} {F H : Hp} {lab : Lab} {σ : L2.St} {ρ : Env} {a b c d : Nat}
end
section
variable {X : Cx} {W : WX} {ks : List Nat}
end
end LW

namespace LW
open PySem PySem.Spec PyProof.Rows L2
section
variable {X : Cx} {W : WX} {q qa qb : Bool} {e a : Expr} {es : List Expr} {f : Env → Out P} {g : Env → Out (List O)} {p p1 p2 pos : Pos}
end
end LW

namespace LW
open PySem PySem.Spec PyProof.Rows L2
section
variable {K : PySem.W.Frag} {mg : Str → Option Value} {F H : Hp}
end
def sPar3 (i j l : Nat) (g : Env → Out (List D)) (ρ : Env) : Flow := flow (g ρ) fun ds ρ1 => match ds with
  | [a, b, c] => .next (((ρ1.set i (some (.v a))).set j (some (.v b))).set l (some (.v c)))
  | _ => .no
section
variable {X : Cx} {W : WX} {q : Bool} {ks : List Nat}
theorem s_par3 {i j l : Nat} {x y z : Str} {a b c : Expr} {g : Env → Out (List D)} {px py pz pt pos : Pos} {kt k2 : Nat} {pt2 : Pos} (hc : X.calm = true) (hN : X.N.Nodup) (hi : X.N[i]? = some x) (hj : X.N[j]? = some y) (hl : X.N[l]? = some z)
    (hij : i ≠ j) (hil : i ≠ l) (hjl : j ≠ l) (hki : i ∉ ks) (hkj : j ∉ ks) (hkl : l ∉ ks)
    (hx : X.env.scope.names.lookup x = some .local) (hy : X.env.scope.names.lookup y = some .local) (hz : X.env.scope.names.lookup z = some .local) (ha : DA X W q [a, b, c] g)
    (hw : swappedStores [.Tuple [.Name x px, .Name y py, .Name z pz] kt pt] (.Tuple [a, b, c] k2 pt2) X.env = pure (some [x, y, z]))
    (hs : swapsWithSole [.Tuple [.Name x px, .Name y py, .Name z pz] kt pt] (.Tuple [a, b, c] k2 pt2) pos.line X.env = pure false := by rfl) :
    DS X W ks (.Assign [.Tuple [.Name x px, .Name y py, .Name z pz] kt pt] (.Tuple [a, b, c] k2 pt2) pos) (sPar3 i j l g) := by
  refine PS_weak (ps_par3 hc hN hi hj hl hij hil hjl hx hy hz ha hw hs) fun D σ H h => ?_
  obtain ⟨ρ, F, lab, sr, m⟩ := h
  refine ⟨ρ, F, lab, sr, SMeets.expr m fun xs ds ρ1 F1 H1 lab1 mv1 sr1 rw m1 => ?_⟩
  split at m1
  · cases rw with
    | cons r1 rr =>
      cases rr with
      | cons r2 rr =>
        cases rr with
        | cons r3 rr =>
          cases rr
          exact ⟨_, _, _, rfl, m1 _ F1 H1 lab1 Move.refl (sr_putv (sr_putv (sr_putv sr1 r1) r2) r3) (((Keep.set hki).trans (Keep.set hkj)).trans (Keep.set hkl))⟩
  · exact m1.elim
end
section
variable {K : PySem.W.Frag} {mg : Str → Option Value} {F H F' H' : Hp} {lab lab' : Lab}
end
section
variable {X : Cx} {W : WX} {ks : List Nat} {q : Bool} {e : Expr} {f : Env → Out P} {pos pos' pc px : Pos}
end
end LW

namespace LW
open PySem PySem.Spec PyProof.Rows L2
section
variable {X : Cx} {ks : List Nat} {es : List Expr} {u : List D → Env → Option Env} {pos : Pos}
end
end LW

namespace LW
open PySem PySem.Spec PyProof.Rows L2
theorem RepL.reverse {K : PySem.W.Frag} {mg : Str → Option Value} {F : Hp} : ∀ {xs : List V} {ds : List D}, RepL K mg F xs ds → RepL K mg F xs.reverse ds.reverse
  | _, _, .nil => .nil
  | _, _, .cons h r => by
    rw [List.reverse_cons, List.reverse_cons]
    exact r.reverse.append (.cons h .nil)
section
variable {X : Cx} {W : WX} {k n : Nat} {c : Str} {C f : Addr} {fd : FuncData} {ps : List Str} {S : Fn}
end
section
variable {X : Cx} {x0 : Str} {c : Addr} {ys : List Str}
theorem KTup.look {K : PySem.W.Frag} {c : Addr} {ys : List Str} (kt : KTup K c ys) : ∃ o, K.lookup c = some o ∧ o.cls = .type "tuple" := by
  rcases kt.sq (fun _ => none) with h | ⟨o, its, n, h1, h2, _⟩
  · rcases h with h | ⟨o, h⟩ <;> cases h
  · exact ⟨o, h1, h2⟩
end
end LW

namespace LW
open PySem PySem.Spec PyProof.Rows L2
section
variable {K : PySem.W.Frag} {mg : Str → Option Value} {F F' H H' : Hp} {lab lab' : Lab}
end
section
variable {K : PySem.W.Frag} {mg : Str → Option Value} {F H : Hp} {lab : Lab} {σ : L2.St} {ρ : Env} {Q : VK} {W : WX} {S : Fn} {n : Nat} {c : Str} {C : Addr} {q : Bool}
end
section
variable {X : Cx} {W : WX} {k n : Nat} {f C : Addr} {fd : FuncData} {ps : List Str} {S : Fn} {x y : Str} {p pos p1 p2 p3 p4 p5 p6 : Pos}
end
end LW

namespace LW
open PySem PySem.Spec PyProof.Rows L2
section
variable {K : PySem.W.Frag} {mg : Str → Option Value} {F H : Hp} {lab : Lab} {σ σ' : L2.St} {ρ : Env}
theorem SR.drop (sr : SR K mg F H lab σ ρ) (k : Nat) (hl : σ'.length = σ.length) (h : ∀ j, j ≠ k → σ'[j]? = σ[j]?) : SR K mg F H lab σ' (ρ.set k none) := by
  refine ⟨sr.bas, sr.tb, fun j o hj => ?_, by rw [List.length_set, hl]; exact sr.len⟩
  by_cases e : j = k
  · subst e
    by_cases hlt : j < ρ.length
    · rw [List.getElem?_set_self hlt] at hj; cases hj
    · rw [List.getElem?_eq_none (by rw [List.length_set]; omega)] at hj; cases hj
  · rw [List.getElem?_set_ne (Ne.symm e)] at hj
    obtain ⟨v, h1, h2⟩ := sr.env j o hj
    exact ⟨v, by rw [h j e]; exact h1, h2⟩
end
section
variable {X : Cx} {W : WX} {ks : List Nat}
end
end LW

namespace LW
open PySem PySem.Spec PyProof.Rows L2
section
variable {X : Cx}
end
end LW

namespace LW
open PySem PySem.Spec PyProof.Rows L2
def sExv (f : Env → Out EX) (ρ : Env) : Out P := (f ρ).bind fun x ρ1 => .ok (.v (.ex x.c x.fs)) ρ1
def sEx1 (c : Str) (f : Env → Out P) (ρ : Env) : Out P := (f ρ).bind fun _ ρ1 => .ok (.v (.ex c [])) ρ1
section
variable {X : Cx} {W : WX} {q : Bool} {e : Expr} {pos : Pos}
theorem e_exv {f : Env → Out EX} (h : DMk X W e f) : DE X W false e (sExv f) := by
  refine ⟨fun pins s σ H Q I hh => ?_⟩
  obtain ⟨ρ, F, lab, sr, m⟩ := hh
  refine wpAny_mono (h pins s σ H (fun cls d H1 => ∃ C, cls = .ref C ∧ ∀ a, H1 a = none → Q (.ref a) (upd H1 a (exq a C d))) I ⟨ρ, F, lab, sr, Meets.seq (rep2 := RepP X.K X.mg) (Q1 := fun (b : Value × Option Addr) H1 => ∃ C, b.1 = .ref C ∧ ∀ a, H1 a = none → Q (.ref a) (upd H1 a (exq a C b.2))) id sinceP m fun b x ρ1 F1 H1 lab1 mv1 sr1 rx m1 => ?_⟩) (fun u s1 hu => ?_) fun _ _ x => x
  · obtain ⟨C, hC, hm, hf⟩ := rx
    refine ⟨C, hC, fun a na => ?_⟩
    have gr := Grow.new (K := X.K) (mg := X.mg) (o := exq a C b.2) sr1.bas.le na
    have ra : Rep X.K X.mg (upd F1 a (exq a C b.2)) (.ref a) (.ex x.c x.fs) := by
      by_cases h0 : x.fs = []
      · rw [h0]; exact .ex0 upd_same hm
      · obtain ⟨dd, gs, e1, e2, e3⟩ := hf h0
        rw [e1] at gr ⊢
        exact .ex upd_same hm (gr.ff _ _ e2) (e3.mono gr.ff)
    exact Meets.grow m1 sr1 gr ra
  · obtain ⟨a, oe, vs, sI, H', cls, d, rfl, J, k, hne, ha, hz, hd, h1, na, os, ag, r, C, hC, q1⟩ := hu
    have J2 := J.landed (B := sI.heap) (s' := { s1 with heap := sI.heap }) (fun b o e _ => e) (fun b o e => e) (fun b o e _ => ⟨o.slots, e⟩) os ag
    have J3 := J2.laidN (t' := s1.toks) (h' := s1.heap) (a := a) (o := exq a C d) k hne na ⟨⟨oe, vs, ha, hz.1.trans hC, hz.2, hd⟩, ⟨_, ha⟩, fun h1 h2 ⟨oe, vs, e1, e2, e3, e4⟩ k => ⟨oe, vs, k _ e1, e2, e3, e4⟩⟩
    exact ⟨.ref a, _, J3, rfl, q1 a na⟩
theorem e_ex1 {C : Addr} {bmB : List Value} {B newId initId : String} {x : Str} {f : Env → Out P} {p : Pos} (F : ExcBaseFacts B newId initId bmB) (hq : PySem.W.excIn X.K C bmB newId = true) (gC : X.mg x = some (.ref C)) (kC : PySem.W.keepIn X.K (.ref C) = true) (hg : Gl X x)
    (he : DE X W q e f) (hs : starEach [e] X.env = (false, eval e X.env) :: starEach [] X.env := by rfl) (hdb : (x == ("__debug__" : Str)) = false := by decide) :
    DE X W q (.Call (.Name x p) [e] [] pos) (sEx1 x f) := by
  refine ⟨fun pins s σ H Q I h => ?_⟩
  obtain ⟨ρ, Fz, lab, sr, m⟩ := h
  refine wpAny_Call_Name_kw (ld_glob I hg gC ?_ hdb)
  refine PySem.W.callWith_K (h₀ := X.base) I.ok.mod.kin kC ?_ hs (by rfl)
  rw [hs]
  show wpAny _ _ (spliced ((false, eval e X.env) :: backTo pos (starEach [] X.env))) _ _ s
  refine Calls.spliced_cons (thn (he.run pins s σ H (fun v H1 => ∀ a, H1 a = none → Q (.ref a) (upd H1 a (exq a C none))) I ⟨ρ, Fz, lab, sr, Meets.seq (rep2 := RepP X.K X.mg) id sinceP m fun v p ρ1 F1 H1 lab1 mv1 sr1 rp m1 => ?_⟩) fun u s1 ⟨v, H1, I1, r1, q1⟩ => ?_)
  · intro a na
    have gr := Grow.new (K := X.K) (mg := X.mg) (o := exq a C none) sr1.bas.le na
    have ra : Rep X.K X.mg (upd F1 a (exq a C none)) (.ref a) (.ex x []) := .ex0 upd_same gC
    exact Meets.grow m1 sr1 gr ra
  · refine Calls.spliced_nil ⟨I1.kIn, ?_⟩
    show wpAny _ _ (call (.ref C) [u]) _ _ _
    obtain ⟨bm, N, nm, qn, bs, hdct, sn, sub, ab, col, dd, k0, k1, k2, k3, k5, mN, hC, hN, hni, T⟩ := exc_obj I1.kIn hq
    refine wpAny_call_exc_subT F T hC hN hni (fun h' a hm => ?_) (by show 1 ≤ sizeLine; rw [sizeLine_eq]; omega)
    have hn : H1 a = none := I1.hok.gone hm.new
    obtain ⟨t, ht, _, _⟩ := hm.there
    exact ⟨.ref a, upd H1 a (exq a C none), I1.laidN hm.keeps hm.new hn ⟨⟨_, _, ht, rfl, rfl, rfl⟩, ⟨_, ht⟩, fun h1 h2 ⟨oe, vs, e1, e2, e3, e4⟩ k => ⟨oe, vs, k _ e1, e2, e3, e4⟩⟩, rfl, q1 a hn⟩
end
section
variable {prog : Program} {w : World} {A : Around} {E : Value → Shared → Prop} {s : Shared} {K : PySem.W.Frag} {x D : Addr} {ox : Obj}
def AtX (h : Heap) (x D : Addr) : Prop := ∃ ox vs, h.get? x = some ox ∧ ox.cls = .ref D ∧ ox.data = .fields vs
theorem AtX.type {M : Model} {h : Heap} (I : AtX h x D) : PySem.W.Looks M h (typeOf (.ref x)) (.ref D) := by
  obtain ⟨ox, vs, h1, h2, _⟩ := I
  exact h2 ▸ (PySem.W.Looks.ld h1).andThen .now
end
end LW
namespace PySem.W
open PySem PySem.Calls PyProof.Rows Builtin Builtin.ObjectAttr Builtin.Getset_descriptor
section
variable {prog : Program} {w : World} {A : Around} {s : Shared} {K : Frag} {x D : Addr} {R : Result → Shared → Prop} {E : Value → Shared → Prop}
theorem lw_looks_find {M : Model} {h : Heap} {a g : Value} (X : K.In h) {name : Str} (ha : findIn K (.ref D) name = some (some a)) (hg : specialIn K a "__get__" = some (some g)) (ht : takesIn K a = some true) : Looks M h (find (.ref x) (.ref D) name) (.bind g a) := by
  have L1 := looks_findIn (M := M) X ha
  have L2 : Looks M h (getOf (some a)) (some g) := looks_specialIn X hg
  have L3 := looks_takesIn (M := M) X ht
  exact L1.andThen (L2.andThen ((show Looks M h (dataDescriptor? (some a) (some g)) (some (g, a)) from L3.andThen .now).andThen (Looks.tag .now)))
theorem lw_class_get {tp : Value} (X : K.In s.heap) (I : LW.AtX s.heap x D) (hm : mroIn K D (.type "object") = some true)
    (h : R (.ok (.ret (.ref D))) s) : codeAny (model prog w) A (.call (.builtin "getset_descriptor.__get__") ⟨[.builtin "object.__class__", .ref x, tp], []⟩) R s := by
  obtain ⟨hh, g, dr, t, os⟩ := s
  have L0 := I.type (M := model prog w)
  have L1 := looks_mroIn (M := model prog w) X hm
  refine codeAny_call_builtin KF.slot_gs.plain KF.entry_gs (KF.slot_gs.check _ _ _ _ _ _ _ _ KF.type_class (KF.args_gs _ _ _) ?_)
  unfold Builtin.«getset_descriptor.__get__» descrGet
  rw [dga_obj]
  refine wpAny_bind (wpAny_pure ?_)
  unfold descrGetter descrCheckInstance descrNameAndClass isInstance
  simp only [KF.owner_class]
  repeat lk
  refine ⟨Code.quiet_builtin _ (by decide +kernel), codeAny_builtin KF.entry_class ?_⟩
  unfold Builtin.«object.__class__» shownTypeOf
  repeat lk
  exact h
theorem lw_kin_class {Q : Option Value → Shared → Prop} (hga : findIn K (.ref D) "__getattribute__" = some (some (.builtin "BaseException.__getattribute__"))) (hgt : findIn K (.ref D) "__getattr__" = some none) (hsub : subIn K (.ref D) (.type "BaseException") = some true)
    (ha : findIn K (.ref D) "__class__" = some (some (.builtin "object.__class__")))
    (hn : specialIn K (.builtin "object.__class__") "__get__" = some (some (.builtin "getset_descriptor.__get__"))) (htk : takesIn K (.builtin "object.__class__") = some true) (hm : mroIn K D (.type "object") = some true)
    (X : K.In s.heap) (I : LW.AtX s.heap x D) (h : Q (some (.ref D)) { s with toks := s.toks + 1 }) : wpAny (model prog w) A (getAttr? (.ref x) "__class__") Q E s := by
  obtain ⟨hp, g, d, t, os⟩ := s
  have L0 := I.type (M := model prog w)
  have L1 := looks_findIn (M := model prog w) X hga
  have L2 := looks_findIn (M := model prog w) X hgt
  have L3 := lw_looks_find (M := model prog w) (x := x) X ha hn htk
  have sub : Looks (model prog w) hp (isInstance (.ref x) (.type "BaseException")) true := L0.andThen (looks_subIn X hsub)
  have hx0 : (false && onTheHeap (Value.builtin "BaseException.__getattribute__")) = false := rfl
  have hx2 : (Value.builtin "BaseException.__getattribute__" == Value.builtin "object.__getattribute__") = false := by decide +kernel
  have hx1 : (onTheHeap (Value.ref D) && Value.builtin "BaseException.__getattribute__" == Value.builtin "object.__getattribute__") = false := by rw [hx2]; rfl
  unfold getAttr? getAttrBy? getAttrBy
  refine wpAny_bind (wpAny_mkText (wpAny_bind (wpAny_attempt (wpAny_holding (wpAny_bind (L0.at (wpAny_bind (L1.at ?_))))))))
  show wpAny _ _ (if (onTheHeap (Value.ref D) && Value.builtin "BaseException.__getattribute__" == Value.builtin "object.__getattribute__") = true then _ else _) _ _ _
  rw [hx1, if_neg Bool.false_ne_true]
  unfold getAttrByItsOwn hookBefore
  refine wpAny_bind ?_
  rw [if_pos (show onTheHeap (Value.ref D) = true from rfl)]
  refine L2.at ?_
  refine wpAny_bind (wpAny_attempt (wpAny_holding ?_))
  unfold callGetattribute
  rw [hx0, if_neg Bool.false_ne_true]
  unfold boundAndCalled
  rw [PySem.F.excAttr_ValueError.ga.bind (.ref x)]
  refine wpAny_bind (wpAny_pure ?_)
  show wpAny _ _ (call (.builtin "BaseException.__getattribute__") [.ref x, .str "__class__" t]) _ _ _
  refine wpAny_call (codeAny_call_builtin PySem.F.excAttr_ValueError.ga.plain PySem.F.entry_bexc_ga ?_)
  refine @check_slot (model prog w) _ _ ⟨hp, g, d, t + 1, os⟩ "BaseException.__getattribute__" "BaseException" "__getattribute__" (.ref x) [.str "__class__" t] [] _ (by decide +kernel) (by decide +kernel) sub (PySem.F.args_bexc_ga (.ref x) (.str "__class__" t)) ?_
  unfold Builtin.«object.__getattribute__»
  refine wpAny_bind (wpAny_of_eq (a := ((Value.ref x : Value), [Value.str "__class__" t])) (by first | rfl | (simp only [slotArgs]; rfl)) ?_)
  refine wpAny_bind (wpAny_pure (wpAny_bind (L0.at (wpAny_bind (L3.at ?_)))))
  show wpAny _ _ (holding [Value.builtin "object.__class__"] (call (.builtin "getset_descriptor.__get__") [.builtin "object.__class__", .ref x, .ref D]) >>= ret) _ _ _
  refine wpAny_bind (wpAny_holding (wpAny_call (lw_class_get (s := ⟨hp, g, d, t + 1, os⟩) X I hm ?_)))
  refine wpAny_pure ?_
  show wpAny _ _ (handedOut (.ref D)) _ _ _
  rw [handedOut_of (v := .ref D) rfl]
  first
    | exact wpAny_pure (wpAny_pure h)
    | exact wpAny_pure h
    | exact wpAny_pure (wpAny_bind (wpAny_pure (wpAny_pure h)))
theorem lw_kitx (C : L2.ExcC K D) : KitX K (.ref x) (.ref D) (fun h => LW.AtX h x D) where
  ty := fun _ _ _ I => I.type
  it := fun _ _ X _ => by
    obtain ⟨cdD, hcD, _⟩ := any_some C.hd
    unfold clsIn at hcD
    split at hcD
    · rename_i c' d' cd' sl' ho
      intro A' Q' E' s' k q
      unfold isType loadHead
      exact wpAny_bind (wpAny_loadPart (k _ _ (X _ _ ho)) (wpAny_pure q))
    · cases hcD
  ne := fun h tp dd its n sl X htp => by
    obtain ⟨cdD, hcD, _⟩ := any_some C.hd
    refine Bool.eq_false_iff.mpr fun q => ?_
    have e : D = tp := Value.ref.inj (beq_iff_eq.mp q)
    subst e
    unfold clsIn at hcD
    split at hcD
    · rename_i c' d' cd' sl' ho
      have z := (X _ _ ho).symm.trans htp
      cases z
    · cases hcD
  ca := fun X I k => lw_kin_class C.hg C.hk C.hs C.ha C.hn C.ht C.hm X I k
end
end PySem.W
namespace LW
open PySem PySem.Spec PyProof.Rows L2
def gIsX (exs ys : List Str) (d : D) : Option P := match d with
  | .ex c _ => if exs.contains c then some (.v (.bl (ys.contains c))) else none
  | _ => none
structure IsX (K : PySem.W.Frag) (mg : Str → Option Value) (u : Value) (exs ys : List Str) : Prop where
  ok : ∀ c ∈ exs, ∀ C, mg c = some (.ref C) → L2.ExcC K C ∧ PySem.W.kitOne K (.ref C) u = some (ys.contains c)
def rIsX (K : PySem.W.Frag) (mg : Str → Option Value) : List V → Hp → VK → Prop := fun xs H Q => ∃ (a C : Addr) (d : Option Addr) (c : V) (u : Value) (b : Bool), xs = [.ref a, c] ∧ ClsV c u ∧ H a = some (exq a C d) ∧ L2.ExcC K C ∧ PySem.W.kitOne K (.ref C) u = some b ∧ Q (.bl b) H
theorem call_isX {X : Cx} : CallR X (.builtin "isinstance") (rIsX X.K X.mg) := by
  intro pins s σ H xs us Q I r h
  obtain ⟨a, C, d, c, u, b, rfl, k, ha, hC, e, q⟩ := h
  obtain ⟨u1, u2, rfl, r1, r2⟩ := vals2 r
  have e2 := k.eq r2
  subst e2
  cases (show u1 = Value.ref a from r1)
  have hx : ObjOk X.prog X.w H s.heap a (exq a C d) := I.hok a _ ha
  obtain ⟨⟨oe, vs, h1, h2, h3, h4⟩, _, _⟩ := hx
  exact PySem.W.kia_one (PySem.W.lw_kitx hC) I.kIn ⟨oe, vs, h1, h2, h4⟩ e (fun z => nomatch z) fun tk => ⟨.bl b, H, I.tok tk, rfl, q⟩
section
variable {X : Cx} {W : WX} {q : Bool} {a b : Expr} {f : Env → Out P} {u : Value} {cv : V} {p pos : Pos} {exs ys : List Str}
theorem e_isX (hgl : Gl X "isinstance") (hm : X.mg "isinstance" = none) (ha : DE X W q a f) (hT : PE X b (tC cv)) (k : ClsV cv u) (hg : IsX X.K X.mg u exs ys) (hv : bootBuiltins "isinstance" = some (.builtin "isinstance") := by decide +kernel)
    (he : starEach [a, b] X.env = (false, eval a X.env) :: starEach [b] X.env := by rfl) (he2 : starEach [b] X.env = [(false, eval b X.env)] := by rfl) (hpl : (backTo pos (starEach [b] X.env)).any (·.1) = false := by rfl) :
    DE X W q (.Call (.Name "isinstance" p) [a, b] [] pos) (sC1 (gIsX exs ys) f) :=
  PE_weak (pe_callB (es := [b]) call_isX hgl hm hv (pa_cons ha (pa_cons hT pa_nil he2) he) (by decide) (by decide) he hpl) fun σ H Q h => by
    obtain ⟨ρ, F, lab, sr, m⟩ := h
    refine ⟨ρ, F, lab, sr, Meets.seq (rep2 := RepP X.K X.mg) id sinceP m fun v p ρ1 F1 H1 lab1 mv1 sr1 rp m1 => ?_⟩
    split at m1
    · rename_i y hy
      unfold gIsX at m1
      cases y with
      | ex c fs =>
        simp only at m1
        by_cases hin : exs.contains c = true
        · rw [if_pos hin] at m1
          have rs := rp.rd hy
          cases rs with
          | v r =>
            have key : ∀ (a C : Addr) (d : Option Addr), v = .ref a → F1 a = some (exq a C d) → X.mg c = some (.ref C) → rIsX X.K X.mg [v, cv] H1 Q := fun a C d hv h1 h2 => by
              subst hv
              obtain ⟨t1, t2⟩ := hg.ok c (by simpa using hin) C h2
              exact ⟨a, C, d, cv, u, _, rfl, k, sr1.bas.le _ _ h1, t1, t2, m1 _ F1 H1 lab1 Move.refl sr1 (Rep.bl _)⟩
            cases r with
            | ex0 h1 h2 => exact key _ _ _ rfl h1 h2
            | ex h1 h2 h3 h4 => exact key _ _ _ rfl h1 h2
        · rw [if_neg hin] at m1; exact m1.elim
      | _ => exact m1.elim
    · exact m1.elim
end
end LW

namespace LW
open PySem PySem.Spec PyProof.Rows L2
def sXfL (cs : List Str) (f : Str) (g : Env → Out P) (ρ : Env) : Out P := (g ρ).bind fun p ρ1 => match p with
  | .v (.ex c' fs) => if cs.contains c' = true then match lookD f fs with
    | some d => .ok (.v d) ρ1
    | none => .no else .no
  | _ => .no
section
variable {X : Cx} {W : WX} {q : Bool} {f : Str} {cs : List Str} {e : Expr} {g : Env → Out P} {pos : Pos}
theorem e_xfL (hT : ∀ c ∈ cs, ∀ C, X.mg c = some (.ref C) → XfC X.K C ∧ PySem.W.findIn X.K (.ref C) f = some none) (he : DE X W q e g) (hb : attributeBase e f X.env (eval e X.env) = eval e X.env := by rfl) : DE X W q (.Attribute e f pos) (sXfL cs f g) := by
  refine ⟨fun pins s σ H Q I h => ?_⟩
  obtain ⟨ρ, F, lab, sr, m⟩ := h
  refine attr_of hb (thn (he.run pins s σ H (fun x H1 => ∃ a C dd gs v, x = .ref a ∧ H1 a = some (exq a C (some dd)) ∧ (XfC X.K C ∧ PySem.W.findIn X.K (.ref C) f = some none) ∧ H1 dd = some (.xd gs) ∧ gs.lookup f = some v ∧ Q v H1) I
    ⟨ρ, F, lab, sr, Meets.seq (rep2 := RepP X.K X.mg) id sinceP m fun v p ρ1 F1 H1 lab1 mv1 sr1 rp m1 => ?_⟩) fun u s1 hh => ?_)
  · split at m1
    case h_2 => exact m1.elim
    split at m1
    case isFalse => exact m1.elim
    rename_i hc
    split at m1
    case h_2 => exact m1.elim
    rename_i d hd
    cases rp with
    | ex0 _ _ => cases hd
    | ex h1 h2 h3 h4 =>
      obtain ⟨v, g1, g2⟩ := h4.look hd
      exact ⟨_, _, _, _, v, rfl, sr1.bas.le _ _ h1, hT _ (by simpa using hc) _ h2, sr1.bas.le _ _ h3, g1, m1 v F1 H1 lab1 Move.refl sr1 g2⟩
  · obtain ⟨x, H1, I1, rx, a, C, dd, gs, v, ex, e1, ⟨T, hno⟩, e2, l, qv⟩ := hh
    subst ex
    obtain rfl : u = Value.ref a := rx
    have hx : ObjOk X.prog X.w H1 s1.heap a (exq a C (some dd)) := I1.hok a _ e1
    obtain ⟨⟨oe, vs, ha, hcl, hdi, hda⟩, _, _⟩ := hx
    have hd : ObjOk X.prog X.w H1 s1.heap dd (.xd gs) := I1.hok dd _ e2
    obtain ⟨mA, hns, hr⟩ := hd
    obtain ⟨od, ho, hl⟩ := lookIn_ns hns
    obtain ⟨w, hw, rw'⟩ := RelO.some_of (v := v) (o := mA f) (by rw [← l]; exact hr f)
    have J : PySem.W.InstAt s1.heap a oe C (some od) := ⟨ha, hcl, by unfold PySem.W.notCls; rw [hda] <;> rfl, by rw [hdi]; exact ho⟩
    exact HandSPX.exc_get I1.kIn J T.ga T.gg T.exC (PySem.W.findObj_own T.hdC hno rfl (by rw [hl, hw])) (handed_of rw') ⟨v, H1, I1.tok _, rw', qv⟩
end
def sDisp1 (k : Str) (f : Env → Out P) (ρ : Env) : Out P := (sFz f ρ).bind fun q ρ1 => match q with
  | .v d => .ok (.f (.k false [(.str k, d)])) ρ1
  | _ => .no
section
variable {X : Cx} {W : WX} {q : Bool} {e : Expr} {f : Env → Out P} {k : Str} {kk : Nat} {p0 pos : Pos}
theorem e_disp1 (he : DE X W q e f) : DE X W q (.Dict [some (.Constant (.str k) kk p0)] [e] pos) (sDisp1 k f) := by
  refine PE_weak (pe_disp (pps_cons pe_str (e_fz he) pps_nil) rfl rfl (by intro z; cases z) (by simp)) fun σ H Q h => ?_
  obtain ⟨ρ, F, lab, sr, m⟩ := h
  intro p hp
  have gr := Grow.own (K := X.K) (mg := X.mg) (F := F) (o := .dK []) sr.bas.le hp
  have lp : lab p = none := by
    cases z : lab p with
    | none => rfl
    | some y => exact absurd hp (sr.bas.lf p y z).2.1
  have fp : F p = none := by
    cases z : F p with
    | none => rfl
    | some y => exact absurd hp (ne_none (sr.bas.le p y z))
  refine ⟨ρ, F, lab, gr.sr sr, ?_⟩
  unfold sDisp1 at m
  cases hf : sFz f ρ with
  | no => rw [hf] at m; exact m
  | exc y ρ1 =>
    rw [hf] at m
    exact fun cls d F1 H1 lab1 mv sr1 rx => m cls d F1 H1 lab1 ((gr.move (q := false) (lab := lab)).trans mv) sr1 rx
  | ok r ρ1 =>
    rw [hf, Out.bind_ok] at m
    intro y F1 H1 lab1 mv1 sr1 rp
    cases r with
    | s d => exact m.elim
    | f o => exact m.elim
    | v d =>
      have th : Th (upd H p (.dK [])) p := th_of upd_same
      obtain ⟨k1, k2, k3⟩ := mv1.fr p th (.inr lp)
      have hp1 : H1 p = some (.dK []) := k1.trans upd_same
      have lp1 : lab1 p = none := k2.trans lp
      have fp1 : F1 p = none := k3 fp
      refine ⟨hp1, [(.inr k, y)], rfl, by simp, ?_⟩
      have gs : SR X.K X.mg F1 (upd H1 p (.dK [(.inr k, y)])) lab1 σ ρ1 := sr_grow sr1 fp1 lp1 (plain_of hp1)
      have mv2 : Move q F H lab F1 (upd H1 p (.dK [(.inr k, y)])) lab1 := ⟨mv1.ff, fun a ha => by
        by_cases ea : a = p
        · subst ea; exact absurd hp ha
        · rw [upd_ne ea]
          exact mv1.th a (by rw [upd_ne ea]; exact ha), fun a ha hq => by
        have ea : a ≠ p := fun z => by subst z; exact ha.1 hp
        have t2 : Th (upd H p (.dK [])) a := ha.eq (upd_ne ea)
        obtain ⟨z1, z2, z3⟩ := mv1.fr a t2 hq
        exact ⟨(upd_ne ea).trans (z1.trans (upd_ne ea)), z2, z3⟩⟩
      have rp2 : RepP X.K X.mg (New q H lab) F1 (upd H1 p (.dK [(.inr k, y)])) lab1 (.ref p) (.f (.k false [(.str k, d)])) := by
        refine ⟨fun a => if a = p then some [] else none, .kK (by simp) upd_same (.cons rp .nil), fun a z e => ?_⟩
        by_cases ea : a = p
        · subst ea
          exact ⟨New.of_none hp, lp1, fp1, th_of upd_same⟩
        · have e' : (if a = p then some ([] : List Nat) else none) = some z := e
          rw [if_neg ea] at e'; cases e'
      exact m _ _ _ _ mv2 gs rp2
end
abbrev EXS : List Str := ["BadWeb", "BadText", "BadNumber", "NoFires", "NoDeed", "NoLabel", "NoPlace", "NoLot", "NoQuestion", "NothingDone", "LightError"]
section
variable {K : PySem.W.Frag} {mg : Str → Option Value}
theorem exB {c : Str} {C0 : Addr} {u : Value} {ys : List Str} {b : Bool} (h : mg c = some (.ref C0)) (E : L2.ExcC K C0) (k : PySem.W.kitOne K (.ref C0) u = some b) (hb : ys.contains c = b) : ∀ C, mg c = some (.ref C) → L2.ExcC K C ∧ PySem.W.kitOne K (.ref C) u = some (ys.contains c) := fun C e => by
  rw [h] at e
  cases e
  rw [hb]
  exact ⟨E, k⟩
theorem kitX_ref {C C0 : Addr} {b : Bool} (h1 : PySem.W.isClsIn K C0 = true) (h2 : PySem.W.typeIn K (.ref C0) = some (.type "type")) (m : PySem.W.mroIn K C (.ref C0) = some b) (hb : C = C0 → b = true) : PySem.W.kitOne K (.ref C) (.ref C0) = some b :=
  kit_refs (by
    have h1 : (PySem.W.clsIn K C0).isSome = true := h1
    rw [h1, h2]; simp) m hb
theorem km_VE : PySem.W.kitMeta "ValueError" = true := by decide +kernel
theorem kitX_ty {C : Addr} {b : Bool} (m : PySem.W.mroIn K C (.type "ValueError") = some b) : PySem.W.kitOne K (.ref C) (.type "ValueError") = some b := by
  unfold PySem.W.kitOne
  rw [if_neg (by simp)]
  show (if PySem.W.kitMeta "ValueError" = true then PySem.W.subIn K (.ref C) (.type "ValueError") else none) = some b
  rw [if_pos km_VE]; exact m
theorem bb_ValueError : bootBuiltins "ValueError" = some (.type "ValueError") := by decide +kernel
theorem xfA {c f : Str} {C0 : Addr} (h : mg c = some (.ref C0)) (T : XfC K C0) (hn : PySem.W.findIn K (.ref C0) f = some none) : ∀ C, mg c = some (.ref C) → XfC K C ∧ PySem.W.findIn K (.ref C) f = some none := fun C e => by
  rw [h] at e
  cases e
  exact ⟨T, hn⟩
end
end LW

namespace LW
open PySem PySem.Spec PyProof.Rows L2
mutual
def flatP : PyData → Bool
  | .none => true
  | .bool _ => true
  | .int _ => true
  | .str _ => true
  | .tuple xs => flatPs xs
  | .list _ => false
  | .dict _ => false
def flatPs : List PyData → Bool
  | [] => true
  | d :: r => flatP d && flatPs r
end
mutual
theorem reads_flat {h : Heap} : ∀ {v : Value} {d : PyData} {as : List Addr}, Reads h v d as → flatP d = true → as = []
  | _, _, _, .none, _ => rfl
  | _, _, _, .bool _, _ => rfl
  | _, _, _, .int _ _, _ => rfl
  | _, _, _, .str _ _, _ => rfl
  | _, _, _, .tuple _ _ _ r, e => readsAll_flat r (by simpa [flatP] using e)
  | _, _, _, .list _ _ _ _, e => by simp [flatP] at e
  | _, _, _, .dict _ _ _ _ _, e => by simp [flatP] at e
theorem readsAll_flat {h : Heap} : ∀ {v : List Value} {d : List PyData} {as : List Addr}, ReadsAll h v d as → flatPs d = true → as = []
  | _, _, _, .nil, _ => rfl
  | _, _, _, .cons (d := d) (ds := ds) r s, e => by
    have e' : flatP d = true ∧ flatPs ds = true := by simpa [flatPs] using e
    rw [reads_flat r e'.1, readsAll_flat s e'.2]; rfl
end
def D.pyX : D → PyData
  | .dct false kvs => .dict (kvs.map fun kv => (kv.1.py, kv.2.py))
  | d => d.py
def D.isD : D → Bool
  | .dct _ _ => true
  | _ => false
def okX (d : D) : Bool := (match d with
  | .dct false kvs => kvs.all fun kv => kv.2.plain 50 && flatP kv.2.py
  | d => d.plain 60) && (decide (d.pyX.depth ≤ 60) && d.pyX.showable)
def gReprX (d : D) : Option P := match d with
  | .lst ds => if ds.any D.isD = true then (if ds.all okX = true ∧ (listText (PyData.shownAll (ds.map D.pyX))).length ≤ sizeLine then some (.v (.str (listText (PyData.shownAll (ds.map D.pyX))))) else none) else gRepr (.lst ds)
  | d => gRepr d
section
variable {X : Cx} {pins : List (Addr × Obj)} {σ : L2.St} {H F : Hp} {s : Shared}
theorem reads_kv (I : L2.Inv X pins σ H s) (l : Le F H) : ∀ {es : List DictEntry} {vs : List (Key × Value)} {kvs : List (Key × V)} {ds : List (D × D)}, Pairs (mixKind X.prog X.w) es vs → KV kvs vs → RepK X.K X.mg F kvs ds → (∀ kv ∈ ds, (kv.2.plain 50 && flatP kv.2.py) = true) →
    ReadsAll s.heap (es.map (·.key)) (ds.map fun kv => kv.1.py) [] ∧ ReadsAll s.heap (es.map (·.val)) (ds.map fun kv => kv.2.py) []
  | _, _, _, _, .nil, k, r, _ => by
    cases k
    cases r
    exact ⟨.nil, .nil⟩
  | _, _, _, _, .cons (e := e) (kv := kv) h1 h2 t, k, r, hd => by
    cases k with
    | cons k1 k2 =>
      cases r with
      | cons r1 r2 =>
        obtain ⟨q1, q2⟩ := reads_kv I l t k2 r2 fun kv hkv => hd kv (List.mem_cons_of_mem _ hkv)
        have hh := hd _ List.mem_cons_self
        rw [Bool.and_eq_true] at hh
        obtain ⟨as, ra⟩ := Dp.reads I _ _ _ ((RepS.v r1).dp l hh.1) k1.2
        have := reads_flat ra hh.2
        subst this
        obtain ⟨e1, e2⟩ := k1
        refine ⟨.cons (as := []) (bs := []) ?_ q1, ?_⟩
        · rw [← e1] at h1
          rcases keyIs_shape h1 with ⟨i, t, a, b⟩ | ⟨x, t, a, b⟩
          · dsimp only at a ⊢; rw [a, b]; exact .int i t
          · dsimp only at a ⊢; rw [a, b]; exact .str x t
        · rw [← h2] at ra
          exact .cons (as := []) (bs := []) ra q2
theorem item_reads (I : L2.Inv X pins σ H s) (l : Le F H) {x : V} {u : Value} {d : D} (r : Rep X.K X.mg F x d) (ru : RelV x u) (h : okX d = true) : ∃ as, Reads s.heap u d.pyX as ∧ (d.pyX.hasDict = true → sysModules ∉ as) := by
  have plain : d.plain 60 = true → d.pyX = d.py → ∃ as, Reads s.heap u d.pyX as ∧ (d.pyX.hasDict = true → sysModules ∉ as) := fun hp e => by
    obtain ⟨as, ra⟩ := Dp.reads I _ _ _ ((RepS.v r).dp l hp) ru
    have nd := PyData.hasDict_of_canLay _ (D.plain_lay 60 d hp).1
    rw [e]
    exact ⟨as, ra, fun z => by rw [nd] at z; cases z⟩
  unfold okX at h
  rw [Bool.and_eq_true] at h
  cases d with
  | dct t kvs =>
    cases t with
    | true =>
      have h1 : (D.dct true kvs).plain 60 = true := h.1
      exact absurd h1 (by simp [D.plain])
    | false =>
      have h1 : (kvs.all fun kv => kv.2.plain 50 && flatP kv.2.py) = true := h.1
      rw [List.all_eq_true] at h1
      cases r with
      | @dK a kv0 _ e rk =>
        cases (show u = Value.ref a from ru)
        obtain ⟨z, hd, vs, rel, o, es, ep, g1, g2, g3, g4, g5, g6⟩ := (show ObjOk X.prog X.w H s.heap a (.dK kv0) from I.hok a _ (l _ _ e))
        obtain ⟨q1, q2⟩ := reads_kv I l g5 rel rk h1
        have m1 : (kvs.map fun kv => (kv.1.py, kv.2.py)).map (·.1) = kvs.map fun kv => kv.1.py := by rw [List.map_map]; rfl
        have m2 : (kvs.map fun kv => (kv.1.py, kv.2.py)).map (·.2) = kvs.map fun kv => kv.2.py := by rw [List.map_map]; rfl
        refine ⟨a :: [] ++ [], .dict g1 g2.1 g3 (by rw [m1]; exact q1) (by rw [m2]; exact q2), fun _ hm => ?_⟩
        simp only [List.append_nil, List.mem_singleton] at hm
        exact absurd hm.symm (beq_eq_false_iff_ne.mp hd)
  | _ => exact plain h.1 rfl
theorem depth_all : ∀ {ds : List D} {m : Nat}, (∀ d ∈ ds, d.pyX.depth ≤ m) → PyData.depthAll (ds.map D.pyX) ≤ m
  | [], _, _ => by simp [PyData.depthAll]
  | d :: r, m, h => by
    have h1 := h d List.mem_cons_self
    have h2 := depth_all (ds := r) (m := m) fun x hx => h x (List.mem_cons_of_mem _ hx)
    simp only [List.map_cons, PyData.depthAll]
    omega
theorem items_K (I : L2.Inv X pins σ H s) (l : Le F H) : ∀ {xs : List V} {us : List Value} {ds : List D}, RepL X.K X.mg F xs ds → Vals xs us → ds.all okX = true → (∀ t ∈ PyData.shownAll (ds.map D.pyX), t.length ≤ sizeLine) →
    (∃ as, ReadsAll s.heap us (ds.map D.pyX) as) ∧ ∃ bs, ReadAtMost s.heap (PyData.depthAll (ds.map D.pyX)) bs ∧ ReprAllK X.prog X.w bs s.heap (PyData.depthAll (ds.map D.pyX)) us (PyData.shownAll (ds.map D.pyX))
  | _, _, _, .nil, rv, _, _ => by
    cases rv
    exact ⟨⟨[], .nil⟩, [], (fun _ h => nomatch h), by simp only [List.map_nil, PyData.shownAll]; exact .nil⟩
  | _, _, _, .cons (d := d) (ds := ds) r rs, rv, h, hz => by
    cases rv with
    | cons ru rt =>
      have h' : okX d = true ∧ ds.all okX = true := by simpa using h
      obtain ⟨⟨as2, ra2⟩, b2, hb2, k2⟩ := items_K I l rs rt h'.2 (fun t ht => hz t (by simp only [List.map_cons, PyData.shownAll]; exact List.mem_cons_of_mem _ ht))
      obtain ⟨as1, ra1, hm1⟩ := item_reads I l r ru h'.1
      have hs : d.pyX.showable = true := by
        have := h'.1
        unfold okX at this
        rw [Bool.and_eq_true, Bool.and_eq_true] at this
        exact this.2.2
      obtain ⟨b1, hb1, k1⟩ := ReprK.of_reads (prog := X.prog) (w := X.w) ra1 hs hm1 (hz _ (by simp only [List.map_cons, PyData.shownAll]; exact List.mem_cons_self ..))
      refine ⟨⟨as1 ++ as2, .cons ra1 ra2⟩, b1 ++ b2, ?_, ?_⟩
      · intro b hm
        simp only [List.map_cons, PyData.depthAll]
        rcases List.mem_append.mp hm with hm | hm
        · obtain ⟨d', as', r', hd'⟩ := hb1 b hm
          exact ⟨d', as', r', Nat.le_trans hd' (Nat.le_max_left _ _)⟩
        · obtain ⟨d', as', r', hd'⟩ := hb2 b hm
          exact ⟨d', as', r', Nat.le_trans hd' (Nat.le_max_right _ _)⟩
      · simp only [List.map_cons, PyData.depthAll, PyData.shownAll]
        exact .cons ((k1.more fun b hb => List.mem_append_left _ hb).level_le (Nat.le_max_left _ _)) (k2.more_le (fun b hb => List.mem_append_right _ hb) (Nat.le_max_right _ _))
theorem cd_reprX (hg : X.A.guards = some []) (hu : X.A.units + 64 < cLine) : CallD X (.builtin "repr") gReprX := by
  intro pins s σ H xs us Q I r ⟨F, lab, x, dx, p, hx, b, r1, e, k⟩
  have old : gRepr dx = some p → _ := fun e => cd_repr hg hu pins s σ H xs us Q I r ⟨F, lab, x, dx, p, hx, b, r1, e, k⟩
  cases dx with
  | lst ds =>
    unfold gReprX at e
    simp only at e
    by_cases hD : ds.any D.isD = true
    · rw [if_pos hD] at e
      split at e
      case isFalse => cases e
      rename_i hc
      obtain ⟨hok, hz⟩ := hc
      cases e
      subst hx
      obtain ⟨u, rfl, ru⟩ := vals1 r
      obtain ⟨a, ys, rfl, h1, l1⟩ := r1.lst b.le
      cases (show u = Value.ref a from ru)
      obtain ⟨its, rv, ⟨o, n, ho, hcl, hd, hdat⟩, _⟩ := I.list h1
      obtain ⟨⟨as, ra⟩, bs, hb, kk⟩ := items_K I b.le l1 rv hok (fun t ht => Nat.le_trans (listText_mem_le ht) hz)
      have hdep : PyData.depthAll (ds.map D.pyX) ≤ 60 := depth_all fun d hd => by
        have := List.all_eq_true.mp hok d hd
        unfold okX at this
        rw [Bool.and_eq_true, Bool.and_eq_true, decide_eq_true_eq] at this
        exact this.2.1
      have rl : Reads s.heap (.ref a) (.list (ds.map D.pyX)) (a :: as) := .list ho hcl hdat ra
      have hna : a ∉ bs := not_mem_of_deeper rl (by simp only [PyData.depth]; omega) hb
      refine call_repr_slot (T := "list") (idr := "list.__repr__") (by omega) ⟨o, ho, hcl⟩ PySem.F.slot_list_repr.toG ?_
      have kt := k.str b
      cases its with
      | nil =>
        cases rv
        cases l1
        simp at hD
      | cons y its =>
        exact call_list_reprK ho hcl hdat hna (by simpa using kk.length_eq) (fun i y e => kk.item i y (by simpa using e)) hg (fun b _ => Clear.nil b) (by show X.A.units + 1 + (PyData.depthAll (ds.map D.pyX) + 1) < cLine; omega) (fun _ _ e => e) (fun h' u tk hk => ⟨_, _, rfl, .str _, H, I.kept hk, ⟨_, rfl⟩, kt⟩) hz
    · rw [if_neg hD] at e
      exact old e
  | _ => exact old e
end
end LW

namespace LW
open PySem L2
variable {α : Type}
section
variable {ρ ρ1 ρ2 : Env} {f fa fb fc : Env → Out P} {t ta tb : Env → Out Bool} {g1 g2 g : Env → Flow} {ga gb : D → D → Option P} {gu : D → Option P} {q qb qc k : Bool} {d : D} {o : O} {p p' : P} {x y : D} {i : Nat} {ar : Env → Out (List D)} {ds es : List D}
def varF (z : Option (Option O)) (ρ : Env) : Out P := match z with
  | some (some (.v d)) => .ok (.v d) ρ
  | some (some (.l ds)) => .ok (.s (.lst ds)) ρ
  | some (some (.k t kvs)) => .ok (.s (.dct t kvs)) ρ
  | _ => .no
theorem y75 : sVar i ρ = varF ρ[i]? ρ := rfl
@[simp] theorem y69 : varF (some (some (.v d))) ρ = .ok (.v d) ρ := rfl
@[simp] theorem y95 : varF (some (some (.l ds))) ρ = .ok (.s (.lst ds)) ρ := rfl
@[simp] theorem y87 {kvs : List (D × D)} : varF (some (some (.k k kvs))) ρ = .ok (.s (.dct k kvs)) ρ := rfl
def frzF (z : Option (Option O)) (i : Nat) (ρ : Env) : Out P := match z with
  | some (some o) => .ok (.v o.d) (ρ.set i (some (.v o.d)))
  | _ => .no
theorem y121 : sFrz i ρ = frzF ρ[i]? i ρ := rfl
@[simp] theorem y133 : frzF (some (some o)) i ρ = .ok (.v o.d) (ρ.set i (some (.v o.d))) := rfl
def movF (z : Option (Option O)) (i : Nat) (ρ : Env) : Out P := match z with
  | some (some o) => .ok (.f o) (ρ.set i none)
  | _ => .no
theorem y68 : sMov i ρ = movF ρ[i]? i ρ := rfl
@[simp] theorem y82 : movF (some (some o)) i ρ = .ok (.f o) (ρ.set i none) := rfl
theorem y208 : sC d ρ = .ok (.v d) ρ := rfl
def fzF (m : Out P) : Out P := m.bind fun p ρ' => match p.fz with
  | some d => .ok (.v d) ρ'
  | none => .no
theorem y165 : sFz f ρ = fzF (f ρ) := rfl
@[simp] theorem y178 : fzF (.ok (.v d) ρ) = .ok (.v d) ρ := rfl
@[simp] theorem y158 : fzF (.ok (.f o) ρ) = .ok (.v o.d) ρ := rfl
@[simp] theorem y166 {e : EX} : fzF (.exc e ρ) = .exc e ρ := rfl
def outP (z : Option P) (ρ : Env) : Out P := match z with
  | some p => .ok p ρ
  | none => .no
@[simp] theorem y105 : outP (some p) ρ = .ok p ρ := rfl
def opC (g : D → D → Option P) (x y : Option D) (ρ : Env) : Out P := match x, y with
  | some x, some y => (match g x y with
    | some z => .ok z ρ
    | none => .no)
  | _, _ => .no
@[simp] theorem y174 : opC ga (some x) (some y) ρ = outP (ga x y) ρ := rfl
def opB (g : D → D → Option P) (p : P) (m : Out P) : Out P := m.bind fun p' ρ2 => opC g p.rd p'.rd ρ2
@[simp] theorem y94 : opB ga p (.ok p' ρ) = opC ga p.rd p'.rd ρ := rfl
@[simp] theorem y152 {e : EX} : opB ga p (.exc e ρ) = .exc e ρ := rfl
def opA (g : D → D → Option P) (qb : Bool) (fb : Env → Out P) (m : Out P) : Out P := m.bind fun p ρ1 => if p.sure qb then opB g p (fb ρ1) else .no
theorem y196 : sOp ga qb fa fb ρ = opA ga qb fb (fa ρ) := rfl
@[simp] theorem y169 : opA ga qb fb (.ok (.v d) ρ) = opB ga (.v d) (fb ρ) := rfl
@[simp] theorem y140 : opA ga qb fb (.ok (.f o) ρ) = opB ga (.f o) (fb ρ) := rfl
@[simp] theorem y181 : opA ga true fb (.ok (.s d) ρ) = opB ga (.s d) (fb ρ) := rfl
@[simp] theorem y160 {e : EX} : opA ga qb fb (.exc e ρ) = .exc e ρ := rfl
@[simp] theorem y207 : (P.v d).rd = some d := rfl
@[simp] theorem y209 : (P.s d).rd = some d := rfl
@[simp] theorem y199 : (P.f (.v d)).rd = some d := rfl
@[simp] theorem y147 : (P.f (.l ds)).rd = some (.lst ds) := rfl
@[simp] theorem y172 {kvs : List (D × D)} : (P.f (.k k kvs)).rd = some (.dct k kvs) := rfl
def tbF (m : Out P) : Out Bool := m.bind fun p ρ' => match p with
  | .v (.bl k) => .ok k ρ'
  | _ => .no
theorem y148 : sTB f ρ = tbF (f ρ) := rfl
@[simp] theorem y176 : tbF (.ok (.v (.bl k)) ρ) = .ok k ρ := rfl
@[simp] theorem y189 {e : EX} : tbF (.exc e ρ) = .exc e ρ := rfl
def andT (tb : Env → Out Bool) (m : Out Bool) : Out Bool := m.bind fun k ρ1 => if k = true then tb ρ1 else .ok false ρ1
theorem y16 : sAndT ta tb ρ = andT tb (ta ρ) := rfl
@[simp] theorem y67 : andT tb (.ok true ρ) = tb ρ := rfl
@[simp] theorem y100 : andT tb (.ok false ρ) = .ok false ρ := rfl
def orT (tb : Env → Out Bool) (m : Out Bool) : Out Bool := m.bind fun k ρ1 => if k = true then .ok true ρ1 else tb ρ1
theorem y99 : sOrT ta tb ρ = orT tb (ta ρ) := rfl
@[simp] theorem y170 : orT tb (.ok true ρ) = .ok true ρ := rfl
@[simp] theorem y141 : orT tb (.ok false ρ) = tb ρ := rfl
def notT (m : Out Bool) : Out Bool := m.bind fun k ρ1 => .ok (!k) ρ1
theorem y37 : sNotT ta ρ = notT (ta ρ) := rfl
@[simp] theorem y60 : notT (.ok k ρ) = .ok (!k) ρ := rfl
def andF (fb : Env → Out P) (m : Out P) : Out P := m.bind fun p ρ1 => match p with
  | .v (.bl true) => fb ρ1
  | .v (.bl false) => .ok (.v (.bl false)) ρ1
  | _ => .no
theorem y62 : sAnd fa fb ρ = andF fb (fa ρ) := rfl
@[simp] theorem y138 : andF fb (.ok (.v (.bl true)) ρ) = fb ρ := rfl
@[simp] theorem y61 : andF fb (.ok (.v (.bl false)) ρ) = .ok (.v (.bl false)) ρ := rfl
def orF (fb : Env → Out P) (m : Out P) : Out P := m.bind fun p ρ1 => match p with
  | .v (.bl true) => .ok (.v (.bl true)) ρ1
  | .v (.bl false) => fb ρ1
  | _ => .no
theorem y153 : sOr fa fb ρ = orF fb (fa ρ) := rfl
@[simp] theorem y203 : orF fb (.ok (.v (.bl true)) ρ) = .ok (.v (.bl true)) ρ := rfl
@[simp] theorem y180 : orF fb (.ok (.v (.bl false)) ρ) = fb ρ := rfl
def notF (m : Out P) : Out P := m.bind fun p ρ1 => match p with
  | .v (.bl k) => .ok (.v (.bl (!k))) ρ1
  | _ => .no
theorem y109 : sNot fa ρ = notF (fa ρ) := rfl
@[simp] theorem y42 : notF (.ok (.v (.bl k)) ρ) = .ok (.v (.bl (!k))) ρ := rfl
def ifE (fa fb : Env → Out P) (m : Out Bool) : Out P := m.bind fun k ρ1 => if k = true then fa ρ1 else fb ρ1
theorem y70 : sIfE t fa fb ρ = ifE fa fb (t ρ) := rfl
@[simp] theorem y206 : ifE fa fb (.ok true ρ) = fa ρ := rfl
@[simp] theorem y204 : ifE fa fb (.ok false ρ) = fb ρ := rfl
def chD (g' : D → D → Option P) (p' : P) (m : Out P) : Out P := m.bind fun p'' ρ3 => opC g' p'.rd p''.rd ρ3
@[simp] theorem y134 : chD ga p (.ok p' ρ) = opC ga p.rd p'.rd ρ := rfl
def chC (g' : D → D → Option P) (qc : Bool) (fc : Env → Out P) (p' : P) (z : Option P) (ρ2 : Env) : Out P := match z with
  | some (.v (.bl true)) => (if p'.sure qc then chD g' p' (fc ρ2) else .no)
  | some (.v (.bl false)) => .ok (.v (.bl false)) ρ2
  | _ => .no
@[simp] theorem y113 : chC gb qc fc (.v d) (some (.v (.bl true))) ρ = chD gb (.v d) (fc ρ) := rfl
@[simp] theorem y107 : chC gb true fc (.s d) (some (.v (.bl true))) ρ = chD gb (.s d) (fc ρ) := rfl
@[simp] theorem y151 : chC gb qc fc p (some (.v (.bl false))) ρ = .ok (.v (.bl false)) ρ := rfl
def chB (g g' : D → D → Option P) (qc : Bool) (fc : Env → Out P) (p : P) (m : Out P) : Out P := m.bind fun p' ρ2 => match p.rd, p'.rd with
  | some x, some y => chC g' qc fc p' (g x y) ρ2
  | _, _ => .no
@[simp] theorem y86 {x y : D} : chB ga gb qc fc (.v x) (.ok (.v y) ρ) = chC gb qc fc (.v y) (ga x y) ρ := rfl
@[simp] theorem y164 {x y : D} : chB ga gb qc fc (.s x) (.ok (.v y) ρ) = chC gb qc fc (.v y) (ga x y) ρ := rfl
def chA (g g' : D → D → Option P) (qb qc : Bool) (fb fc : Env → Out P) (m : Out P) : Out P := m.bind fun p ρ1 => if p.sure qb then chB g g' qc fc p (fb ρ1) else .no
theorem y80 : sChn ga gb qb qc fa fb fc ρ = chA ga gb qb qc fb fc (fa ρ) := rfl
@[simp] theorem y202 : chA ga gb qb qc fb fc (.ok (.v d) ρ) = chB ga gb qc fc (.v d) (fb ρ) := rfl
@[simp] theorem y188 : chA ga gb true qc fb fc (.ok (.s d) ρ) = chB ga gb qc fc (.s d) (fb ρ) := rfl
theorem y129 : sNil ρ = .ok [] ρ := rfl
def consB (d : D) (m : Out (List D)) : Out (List D) := m.bind fun ds ρ2 => .ok (d :: ds) ρ2
@[simp] theorem y11 : consB d (.ok ds ρ) = .ok (d :: ds) ρ := rfl
@[simp] theorem y31 {e : EX} : consB d (.exc e ρ) = .exc e ρ := rfl
def consA (g : Env → Out (List D)) (m : Out P) : Out (List D) := m.bind fun p ρ1 => match p with
  | .v d => consB d (g ρ1)
  | _ => .no
theorem y29 : sCons f ar ρ = consA ar (fzF (f ρ)) := rfl
@[simp] theorem y41 : consA ar (.ok (.v d) ρ) = consB d (ar ρ) := rfl
@[simp] theorem y26 {e : EX} : consA ar (.exc e ρ) = .exc e ρ := rfl
def tupF (m : Out (List D)) : Out P := m.bind fun ds ρ1 => .ok (.v (.tup ds)) ρ1
theorem y106 : sTup ar ρ = tupF (ar ρ) := rfl
@[simp] theorem y13 : tupF (.ok ds ρ) = .ok (.v (.tup ds)) ρ := rfl
def lstF (m : Out (List D)) : Out P := m.bind fun ds ρ1 => .ok (.f (.l ds)) ρ1
theorem y97 : sLst ar ρ = lstF (ar ρ) := rfl
@[simp] theorem y30 : lstF (.ok ds ρ) = .ok (.f (.l ds)) ρ := rfl
def c1B (g : D → Option P) (z : Option D) (ρ : Env) : Out P := match z with
  | some x => outP (g x) ρ
  | none => .no
@[simp] theorem y142 : c1B gu (some x) ρ = outP (gu x) ρ := rfl
def c1A (g : D → Option P) (m : Out P) : Out P := m.bind fun p ρ1 => c1B g p.rd ρ1
theorem y193 : sC1 gu f ρ = c1A gu (f ρ) := by
  unfold sC1 c1A c1B outP
  cases f ρ with
  | ok p ρ1 =>
    simp only [Out.bind_ok]
    try (cases p.rd <;> rfl)
  | _ => rfl
@[simp] theorem y110 : c1A gu (.ok p ρ) = c1B gu p.rd ρ := rfl
@[simp] theorem y173 {e : EX} : c1A gu (.exc e ρ) = .exc e ρ := rfl
variable {S : Fn} {os : List O}
def callB (r : FR) (ρ : Env) : Out P := match r with
  | .ret p _ => .ok p ρ
  | .exc x _ => .exc x ρ
  | .no => .no
@[simp] theorem y15 : callB (.ret p os) ρ = .ok p ρ := rfl
@[simp] theorem y47 {e : EX} : callB (.exc e os) ρ = .exc e ρ := rfl
def callA (S : Fn) (m : Out (List D)) : Out P := m.bind fun ds ρ1 => callB (S (ds.map .v)) ρ1
theorem y34 : sCall S ar ρ = callA S (ar ρ) := rfl
@[simp] theorem y8 : callA S (.ok ds ρ) = callB (S (ds.map .v)) ρ := rfl
@[simp] theorem y55 {e : EX} : callA S (.exc e ρ) = .exc e ρ := rfl
def cmC (i : Nat) (r : FR) (ρ : Env) : Out P := match r with
  | .ret p (o' :: _) => .ok p (ρ.set i (some o'))
  | .exc x (o' :: _) => .exc x (ρ.set i (some o'))
  | _ => .no
@[simp] theorem y163 : cmC i (.ret p (o :: os)) ρ = .ok p (ρ.set i (some o)) := rfl
@[simp] theorem y146 {e : EX} : cmC i (.exc e (o :: os)) ρ = .exc e (ρ.set i (some o)) := rfl
def cmB (S : Fn) (i : Nat) (ds : List D) (z : Option (Option O)) (ρ : Env) : Out P := match z with
  | some (some o) => cmC i (S (o :: ds.map .v)) ρ
  | _ => .no
@[simp] theorem y195 : cmB S i ds (some (some o)) ρ = cmC i (S (o :: ds.map .v)) ρ := rfl
def cmA (S : Fn) (i : Nat) (m : Out (List D)) : Out P := m.bind fun ds ρ1 => cmB S i ds ρ1[i]? ρ1
@[simp] theorem y93 : cmA S i (.ok ds ρ) = cmB S i ds ρ[i]? ρ := rfl
def cm0 (S : Fn) (i : Nat) (g : Env → Out (List D)) (z : Option (Option O)) (ρ : Env) : Out P := match z with
  | some (some _) => cmA S i (g ρ)
  | _ => .no
theorem y9 : sCallM S i ar ρ = cm0 S i ar ρ[i]? ρ := rfl
@[simp] theorem y171 : cm0 S i ar (some (some o)) ρ = cmA S i (ar ρ) := rfl
def seqF (g2 : Env → Flow) (m : Flow) : Flow := match m with
  | .next ρ1 => g2 ρ1
  | fl => fl
theorem y131 : sSeq g1 g2 ρ = seqF g2 (g1 ρ) := rfl
@[simp] theorem y130 : seqF g (.next ρ) = g ρ := rfl
@[simp] theorem y64 : seqF g (.ret p ρ) = .ret p ρ := rfl
@[simp] theorem y103 {e : EX} : seqF g (.exc e ρ) = .exc e ρ := rfl
@[simp] theorem y81 : seqF g (.brk ρ) = .brk ρ := rfl
@[simp] theorem y102 : seqF g (.cont ρ) = .cont ρ := rfl
def ifS (g1 g2 : Env → Flow) (m : Out Bool) : Flow := flow m fun k ρ1 => if k = true then g1 ρ1 else g2 ρ1
theorem y157 : sIf t g1 g2 ρ = ifS g1 g2 (t ρ) := rfl
@[simp] theorem y150 : ifS g1 g2 (.ok true ρ) = g1 ρ := rfl
@[simp] theorem y205 : ifS g1 g2 (.ok false ρ) = g2 ρ := rfl
@[simp] theorem y177 {e : EX} : ifS g1 g2 (.exc e ρ) = .exc e ρ := rfl
def expF (m : Out P) : Flow := flow m fun _ ρ1 => .next ρ1
theorem y96 : sExp f ρ = expF (f ρ) := rfl
@[simp] theorem y49 : expF (.ok p ρ) = .next ρ := rfl
@[simp] theorem y63 {e : EX} : expF (.exc e ρ) = .exc e ρ := rfl
def retF (m : Out P) : Flow := flow m fun p ρ1 => match p with
  | .s _ => .no
  | p => .ret p ρ1
theorem y78 : sRet f ρ = retF (f ρ) := rfl
@[simp] theorem y128 : retF (.ok (.v d) ρ) = .ret (.v d) ρ := rfl
@[simp] theorem y127 : retF (.ok (.f o) ρ) = .ret (.f o) ρ := rfl
@[simp] theorem y74 {e : EX} : retF (.exc e ρ) = .exc e ρ := rfl
def setF (i : Nat) (m : Out P) : Flow := flow m fun p ρ1 => match p with
  | .v d => .next (ρ1.set i (some (.v d)))
  | .f o => .next (ρ1.set i (some o))
  | .s _ => .no
theorem y79 : sSet i f ρ = setF i (f ρ) := rfl
@[simp] theorem y76 : setF i (.ok (.v d) ρ) = .next (ρ.set i (some (.v d))) := rfl
@[simp] theorem y137 : setF i (.ok (.f o) ρ) = .next (ρ.set i (some o)) := rfl
@[simp] theorem y65 {e : EX} : setF i (.exc e ρ) = .exc e ρ := rfl
def parF (i j : Nat) (m : Out (List D)) : Flow := flow m fun ds ρ1 => match ds with
  | [a, b] => .next ((ρ1.set i (some (.v a))).set j (some (.v b)))
  | _ => .no
variable {j : Nat}
theorem y77 : sPar i j ar ρ = parF i j (ar ρ) := rfl
@[simp] theorem y22 : parF i j (.ok [x, y] ρ) = .next ((ρ.set i (some (.v x))).set j (some (.v y))) := rfl
variable {n m : Nat} {body : Env → Flow} {own : Bool} {s : Flow}
def endF (own : Bool) (os : List O) (fl : Flow) : FR := match fl with
  | .next ρ => (match outs own os ρ with | some os' => .ret (.v .non) os' | none => .no)
  | .ret p ρ => (match outs own os ρ with | some os' => .ret p os' | none => .no)
  | .exc x ρ => (match outs own os ρ with | some os' => .exc x os' | none => .no)
  | _ => .no
theorem y50 : runFn own n m body os = if os.length = n ∧ LW.argsOk own os = true then endF own os (body (os.map some ++ List.replicate (m - n) none)) else .no := rfl
@[simp] theorem y46 : endF false os (.ret p ρ) = .ret p os := rfl
@[simp] theorem y23 : endF false os (.next ρ) = .ret (.v .non) os := rfl
@[simp] theorem y17 {e : EX} : endF false os (.exc e ρ) = .exc e os := rfl
variable {r : List O}
@[simp] theorem y38 : endF true (o :: r) (.ret p (some o :: ρ)) = .ret p (o :: r) := rfl
theorem y4 {o' : O} : endF true (o :: r) (.ret p (some o' :: ρ)) = .ret p (o' :: r) := rfl
theorem y5 {o' : O} : endF true (o :: r) (.next (some o' :: ρ)) = .ret (.v .non) (o' :: r) := rfl
theorem y7 {o' : O} {e : EX} : endF true (o :: r) (.exc e (some o' :: ρ)) = .exc e (o' :: r) := rfl
def seqH (m : Out P) : Out (List D) := m.bind fun p ρ1 => match p with
  | .v d => (match itemsOf d with
    | some ds => .ok ds ρ1
    | none => .no)
  | _ => .no
theorem y90 : hSeq f ρ = seqH (fzF (f ρ)) := rfl
@[simp] theorem y136 : seqH (.ok (.v (.lst ds)) ρ) = .ok ds ρ := rfl
@[simp] theorem y135 : seqH (.ok (.v (.tup ds)) ρ) = .ok ds ρ := rfl
theorem seqH_s {z : Str} (h : z.length ≤ sizeLine) : seqH (.ok (.v (.str z)) ρ) = .ok (z.cps.toList.map fun c => .str ⟨#[c]⟩) ρ := by
  have e : itemsOf (.str z) = some (z.cps.toList.map fun c => D.str ⟨#[c]⟩) := if_pos h
  show (match itemsOf (.str z) with | some ds => Out.ok ds ρ | none => .no) = _
  rw [e]
def rng1 (m : Out P) : Out (List D) := m.bind fun p ρ1 => match p with
  | .v (.int n) => if -1000000 ≤ n ∧ n ≤ 1000000 then .ok (rangeD 0 n) ρ1 else .no
  | _ => .no
theorem y0 : hRange1 f ρ = rng1 (f ρ) := rfl
theorem y25 {n : Int} : rng1 (.ok (.v (.int n)) ρ) = if -1000000 ≤ n ∧ n ≤ 1000000 then .ok (rangeD 0 n) ρ else .no := rfl
def enumH (m : Out P) : Out (List D) := m.bind fun p ρ1 => match p with
  | .v (.lst ds) => if ds.length ≤ sizeLine then .ok (enumD ds) ρ1 else .no
  | _ => .no
theorem y58 : hEnum f ρ = enumH (fzF (f ρ)) := rfl
theorem y1 : enumH (.ok (.v (.lst ds)) ρ) = if ds.length ≤ sizeLine then .ok (enumD ds) ρ else .no := rfl
variable {tg : D → Env → Option Env} {h : Env → Out (List D)}
def forB (tg : D → Env → Option Env) (body : Env → Flow) (r : List D) (fl : Flow) : Flow := match fl with
  | .next ρ2 => forL tg body r ρ2
  | .cont ρ2 => forL tg body r ρ2
  | .brk ρ2 => .next ρ2
  | fl => fl
@[simp] theorem y118 : forB tg g ds (.next ρ) = forL tg g ds ρ := rfl
@[simp] theorem y116 : forB tg g ds (.cont ρ) = forL tg g ds ρ := rfl
@[simp] theorem y111 : forB tg g ds (.brk ρ) = .next ρ := rfl
@[simp] theorem y123 : forB tg g ds (.ret p ρ) = .ret p ρ := rfl
@[simp] theorem y91 {e : EX} : forB tg g ds (.exc e ρ) = .exc e ρ := rfl
def forA (tg : D → Env → Option Env) (body : Env → Flow) (r : List D) (z : Option Env) : Flow := match z with
  | none => .no
  | some ρ1 => forB tg body r (body ρ1)
@[simp] theorem y122 : forA tg g ds (some ρ) = forB tg g ds (g ρ) := rfl
theorem forL_c : forL tg g (d :: ds) ρ = forA tg g ds (tg d ρ) := by
  show forL tg g (d :: ds) ρ = _
  unfold forL forA forB
  cases tg d ρ with
  | none => rfl
  | some ρ1 => simp only; try (cases g ρ1 <;> rfl)
@[simp] theorem y124 : forL tg g [] ρ = .next ρ := rfl
def forF (tg : D → Env → Option Env) (body : Env → Flow) (m : Out (List D)) : Flow := flow m fun ds ρ1 => forL tg body ds ρ1
theorem y88 : sFor h tg g ρ = forF tg g (h ρ) := rfl
@[simp] theorem y18 : forF tg g (.ok ds ρ) = forL tg g ds ρ := rfl
@[simp] theorem y72 : gSet i d ρ = some (ρ.set i (some (.v d))) := rfl
variable {ow : List Nat} {acc : List D}
def lcC (own : List Nat) (tg : D → Env → Option Env) (t : Env → Out Bool) (f : Env → Out P) (r acc : List D) (m : Out P) : Out (List D) := match m with
  | .ok (.v y) ρ3 => lcL own tg t f r (acc ++ [y]) (wipeE ρ3 own)
  | _ => .no
@[simp] theorem y83 : lcC ow tg t f ds acc (.ok (.v d) ρ) = lcL ow tg t f ds (acc ++ [d]) (wipeE ρ ow) := rfl
def lcB (own : List Nat) (tg : D → Env → Option Env) (t : Env → Out Bool) (f : Env → Out P) (r acc : List D) (m : Out Bool) : Out (List D) := match m with
  | .ok false ρ2 => lcL own tg t f r acc (wipeE ρ2 own)
  | .ok true ρ2 => lcC own tg t f r acc (sFz f ρ2)
  | _ => .no
@[simp] theorem y167 : lcB ow tg t f ds acc (.ok false ρ) = lcL ow tg t f ds acc (wipeE ρ ow) := rfl
@[simp] theorem y162 : lcB ow tg t f ds acc (.ok true ρ) = lcC ow tg t f ds acc (sFz f ρ) := rfl
def lcA (own : List Nat) (tg : D → Env → Option Env) (t : Env → Out Bool) (f : Env → Out P) (r acc : List D) (z : Option Env) : Out (List D) := match z with
  | none => .no
  | some ρ1 => lcB own tg t f r acc (t ρ1)
@[simp] theorem y159 : lcA ow tg t f ds acc (some ρ) = lcB ow tg t f ds acc (t ρ) := rfl
theorem lcL_c : lcL ow tg t f (d :: ds) acc ρ = lcA ow tg t f ds acc (tg d ρ) := by
  unfold lcL lcA
  cases tg d ρ with
  | none => rfl
  | some ρ1 =>
    simp only
    unfold lcB
    cases t ρ1 with
    | ok b ρ2 => cases b <;> rfl
    | _ => rfl
@[simp] theorem y194 : lcL ow tg t f [] acc ρ = .ok acc ρ := rfl
theorem y125 : sYes ρ = .ok true ρ := rfl
def lcE (own : List Nat) (ρ1 : Env) (m : Out (List D)) : Out P := m.bind fun acc ρ2 => .ok (.f (.l acc)) (restE ρ1 ρ2 own)
@[simp] theorem y117 : lcE ow ρ1 (.ok acc ρ) = .ok (.f (.l acc)) (restE ρ1 ρ ow) := rfl
def lcF (own : List Nat) (tg : D → Env → Option Env) (t : Env → Out Bool) (f : Env → Out P) (m : Out (List D)) : Out P := m.bind fun ds ρ1 => if ownOk ρ1 own = true then lcE own ρ1 (lcL own tg t f ds [] (wipeE ρ1 own)) else .no
theorem y197 : sLc ow h tg t f ρ = lcF ow tg t f (h ρ) := rfl
theorem y112 : lcF ow tg t f (.ok ds ρ) = if ownOk ρ ow = true then lcE ow ρ (lcL ow tg t f ds [] (wipeE ρ ow)) else .no := rfl
def lcMap (φ : D → Option (Option D)) : List D → Option (List D)
  | [] => some []
  | d :: r => match φ d, lcMap φ r with
    | some (some y), some ys => some (y :: ys)
    | some none, some ys => some ys
    | _, _ => none
theorem lcL_map {φ : D → Option (Option D)} {ρ0 : Env} : ∀ {ds acc ys : List D}, (∀ d ∈ ds, ∀ z, φ d = some z → ∃ ρ1 ρ2, tg d ρ0 = some ρ1 ∧ (match z with
      | none => t ρ1 = .ok false ρ2
      | some y => ∃ ρ3, t ρ1 = .ok true ρ3 ∧ sFz f ρ3 = .ok (.v y) ρ2) ∧ wipeE ρ2 ow = ρ0) → lcMap φ ds = some ys → lcL ow tg t f ds acc ρ0 = .ok (acc ++ ys) ρ0
  | [], acc, ys, _, e => by cases e; simp
  | d :: r, acc, ys, hh, e => by
    unfold lcMap at e
    rw [lcL_c]
    split at e
    · rename_i y zs e1 e2
      cases e
      obtain ⟨ρ1, ρ2, h1, ⟨ρ3, h2, h3⟩, h4⟩ := hh d List.mem_cons_self _ e1
      rw [h1, y159, h2, y162, h3, y83, h4, lcL_map (fun d hd => hh d (List.mem_cons_of_mem _ hd)) e2]
      simp
    · rename_i zs e1 e2
      cases e
      obtain ⟨ρ1, ρ2, h1, h2, h4⟩ := hh d List.mem_cons_self _ e1
      rw [h1, y159, h2, y167, h4, lcL_map (fun d hd => hh d (List.mem_cons_of_mem _ hd)) e2]
    · cases e
variable {cl fl : Str}
def fldF (c f : Str) (z : Option O) (ρ : Env) : Out P := match z with
  | some (.v (.ins c' fs)) => if c' = c then (match lookD f fs with
    | some d => .ok (.v d) ρ
    | none => .no) else .no
  | some (.i c' fs) => if c' = c then (match lookO f fs with
    | some (.v d) => .ok (.v d) ρ
    | some (.l ds) => .ok (.s (.lst ds)) ρ
    | some (.k t kvs) => .ok (.s (.dct t kvs)) ρ
    | _ => .no) else .no
  | _ => .no
theorem y114 : sFld i cl fl ρ = fldF cl fl (getS ρ i) ρ := rfl
end
section
variable {ρ ρ1 : Env} {f fi fv : Env → Out P} {p : Pl} {d : D} {o : O} {i j n : Nat} {ds : List D} {x : Int}
def sIxE (p : Pl) (d : D) (ds : List D) (z : Option Nat) (ρ : Env) : Flow := match z with
  | some j => .next (setPl ρ (.l (ds.set j d)) p)
  | none => .no
@[simp] theorem y104 : sIxE p d ds (some j) ρ = .next (setPl ρ (.l (ds.set j d)) p) := rfl
def sIxD (p : Pl) (d : D) (i : Int) (z : Option O) (ρ : Env) : Flow := match z with
  | some (.l ds) => sIxE p d ds (ixN ds.length i) ρ
  | _ => .no
@[simp] theorem y84 : sIxD p d x (some (.l ds)) ρ = sIxE p d ds (ixN ds.length x) ρ := rfl
def sIxC (p : Pl) (d : D) (m : Out P) : Flow := flow m fun q2 ρ2 => match q2 with
  | .v (.int i) => sIxD p d i (getPl ρ2 p) ρ2
  | _ => .no
@[simp] theorem y73 : sIxC p d (.ok (.v (.int x)) ρ) = sIxD p d x (getPl ρ p) ρ := rfl
def sIxB (p : Pl) (fi : Env → Out P) (d : D) (z : Option O) (ρ : Env) : Flow := match z with
  | some (.l _) => sIxC p d (fi ρ)
  | _ => .no
@[simp] theorem y101 : sIxB p fi d (some (.l ds)) ρ = sIxC p d (fi ρ) := rfl
def sIxA (p : Pl) (fi : Env → Out P) (m : Out P) : Flow := flow m fun q ρ1 => match q with
  | .v d => sIxB p fi d (getPl ρ1 p) ρ1
  | _ => .no
@[simp] theorem y126 : sIxA p fi (.ok (.v d) ρ) = sIxB p fi d (getPl ρ p) ρ := rfl
theorem y6 : sSetIx p fv fi ρ = sIxA p fi (fzF (fv ρ)) := by
  show flow (fzF (fv ρ)) _ = flow (fzF (fv ρ)) _
  congr 1
  funext q ρ1
  cases q with
  | v d =>
    simp only
    cases getPl ρ1 p with
    | none => rfl
    | some o =>
      cases o with
      | l ds0 =>
        show flow (fi ρ1) _ = flow (fi ρ1) _
        congr 1
        funext q2 ρ2
        cases q2 with
        | v d2 =>
          cases d2 <;> try rfl
          simp only
          cases getPl ρ2 p with
          | none => rfl
          | some o =>
            cases o <;> try rfl
        | _ => rfl
      | _ => rfl
  | _ => rfl
theorem y12 : getPl ρ (.sl i) = getS ρ i := rfl
theorem y10 : setPl ρ o (.sl i) = ρ.set i (some o) := rfl
theorem y71 : getS ρ i = (ρ[i]?).getD none := by unfold getS; cases ρ[i]? <;> rfl
def lmC (g : List D → D → Option (D × List D)) (p : Pl) (z : Option (D × List D)) (ρ : Env) : Out P := match z with
  | some (res, ds') => .ok (.v res) (setPl ρ (.l ds') p)
  | none => .no
variable {gl : List D → D → Option (D × List D)} {es : List D} {r : D}
@[simp] theorem y200 : lmC gl p (some (r, es)) ρ = .ok (.v r) (setPl ρ (.l es) p) := rfl
def lmB (g : List D → D → Option (D × List D)) (p : Pl) (d : D) (z : Option O) (ρ : Env) : Out P := match z with
  | some (.l ds) => lmC g p (g ds d) ρ
  | _ => .no
@[simp] theorem y192 : lmB gl p d (some (.l ds)) ρ = lmC gl p (gl ds d) ρ := rfl
def lmA (g : List D → D → Option (D × List D)) (p : Pl) (m : Out P) : Out P := m.bind fun q ρ1 => match q with
  | .v d => lmB g p d (getPl ρ1 p) ρ1
  | _ => .no
@[simp] theorem y144 : lmA gl p (.ok (.v d) ρ) = lmB gl p d (getPl ρ p) ρ := rfl
def lm0 (g : List D → D → Option (D × List D)) (p : Pl) (f : Env → Out P) (z : Option O) (ρ : Env) : Out P := match z with
  | some (.l _) => lmA g p (fzF (f ρ))
  | _ => .no
@[simp] theorem y201 : lm0 gl p f (some (.l ds)) ρ = lmA gl p (fzF (f ρ)) := rfl
theorem y198 : sLm gl p f ρ = lm0 gl p f (getPl ρ p) ρ := by
  unfold sLm lm0
  cases getPl ρ p with
  | none => rfl
  | some o =>
    cases o with
    | l ds0 =>
      show (fzF (f ρ)).bind _ = (fzF (f ρ)).bind _
      congr 1
      funext q ρ1
      cases q with
      | v d =>
        simp only
        cases getPl ρ1 p with
        | none => rfl
        | some o => cases o <;> rfl
      | _ => rfl
    | _ => rfl
variable {fl fh : Env → Out (Option Int)} {q : Bool} {lo hi : Option Int} {v : P}
def slC (x : Option D) (lo hi : Option Int) (ρ : Env) : Out P := match x with
  | some x => outP (gSl x lo hi) ρ
  | none => .no
@[simp] theorem y184 : slC (some d) lo hi ρ = outP (gSl d lo hi) ρ := rfl
def slH (v : P) (lo : Option Int) (m : Out (Option Int)) : Out P := m.bind fun h ρ => slC v.rd lo h ρ
@[simp] theorem y179 : slH v lo (.ok hi ρ) = slC v.rd lo hi ρ := rfl
def slL (v : P) (fh : Env → Out (Option Int)) (m : Out (Option Int)) : Out P := m.bind fun l ρ => slH v l (fh ρ)
@[simp] theorem y155 : slL v fh (.ok lo ρ) = slH v lo (fh ρ) := rfl
def slA (q : Bool) (fl fh : Env → Out (Option Int)) (m : Out P) : Out P := m.bind fun p ρ1 => if p.sure q then slL p fh (fl ρ1) else .no
@[simp] theorem y187 : slA q fl fh (.ok (.v d) ρ) = slL (.v d) fh (fl ρ) := rfl
@[simp] theorem y156 : slA q fl fh (.ok (.f o) ρ) = slL (.f o) fh (fl ρ) := rfl
@[simp] theorem y183 : slA true fl fh (.ok (.s d) ρ) = slL (.s d) fh (fl ρ) := rfl
theorem y154 : sSl q f fl fh ρ = slA q fl fh (f ρ) := rfl
def oPF (m : Out P) : Out (Option Int) := m.bind fun p ρ1 => match p with
  | .v (.int i) => .ok (some i) ρ1
  | _ => .no
theorem y35 : oPart f ρ = oPF (f ρ) := rfl
@[simp] theorem y186 : oPF (.ok (.v (.int x)) ρ) = .ok (some x) ρ := rfl
theorem y48 : oNone ρ = .ok none ρ := rfl
variable {gm : Str → D → Option P} {fa fb : Env → Out P} {a : Str}
def m1C (g : Str → D → Option P) (a : Str) (z : Option D) (ρ : Env) : Out P := match z with
  | some d => outP (g a d) ρ
  | none => .no
@[simp] theorem y149 : m1C gm a (some d) ρ = outP (gm a d) ρ := rfl
def m1B (g : Str → D → Option P) (a : Str) (m : Out P) : Out P := m.bind fun p' ρ2 => m1C g a p'.rd ρ2
@[simp] theorem y191 : m1B gm a (.ok v ρ) = m1C gm a v.rd ρ := rfl
def m1A (g : Str → D → Option P) (fb : Env → Out P) (m : Out P) : Out P := m.bind fun p ρ1 => match p with
  | .v (.str a) => m1B g a (fb ρ1)
  | _ => .no
@[simp] theorem y143 : m1A gm fb (.ok (.v (.str a)) ρ) = m1B gm a (fb ρ) := rfl
theorem y145 : sM1 gm fa fb ρ = m1A gm fb (fa ρ) := rfl
theorem ix_nat (h : 0 ≤ x) : gIx2 (.lst ds) (.int x) = (ds[x.toNat]?).map P.v := by
  show (L2.atI ds x).map P.v = _
  unfold L2.atI ixN
  rw [if_pos h]
  by_cases h2 : x < ds.length
  · rw [if_pos h2]; rfl
  · rw [if_neg h2, List.getElem?_eq_none (by omega)]; rfl
end
section
variable {ρ ρ0 : Env} {i : Nat} {r : List Nat} {d : D}
def freeO (z : Option O) : Bool := match z with
  | none => true
  | some (.v _) => true
  | _ => false
@[simp] theorem y19 : freeO none = true := rfl
@[simp] theorem y24 : freeO (some (.v d)) = true := rfl
theorem y53 : ownOk ρ [] = true := rfl
theorem y51 : ownOk ρ (i :: r) = (freeO (getS ρ i) && ownOk ρ r) := rfl
theorem y56 : wipeE ρ [] = ρ := rfl
theorem y36 : wipeE ρ (i :: r) = (wipeE ρ r).set i none := rfl
theorem y28 : restE ρ0 ρ [] = ρ := rfl
theorem y21 : restE ρ0 ρ (i :: r) = (restE ρ0 ρ r).set i (getS ρ0 i) := rfl
end
section
variable {ρ ρ1 ρ2 : Env} {i n : Nat} {ow : List Nat} {d k v : D} {o o' : O} {p : P} {c f m : Str} {fs : List (Str × O)} {fe fa fb : Env → Out P} {ds : List D} {acc : List (D × D)} {tb : Bool} {h : Env → Out (List D)} {tg : D → Env → Option Env} {t : Env → Out Bool} {fk fv : Env → Out P} {S : Fn} {ar : Env → Out (List D)} {os : List O}
def dcE (own : List Nat) (t : Bool) (ρ1 : Env) (m : Out (List (D × D))) : Out P := m.bind fun acc ρ2 => .ok (.f (.k t acc)) (restE ρ1 ρ2 own)
@[simp] theorem y98 : dcE ow tb ρ1 (.ok acc ρ) = .ok (.f (.k tb acc)) (restE ρ1 ρ ow) := rfl
def dcF (tb : Bool) (own : List Nat) (tg : D → Env → Option Env) (t : Env → Out Bool) (fk fv : Env → Out P) (m : Out (List D)) : Out P := m.bind fun ds ρ1 => if ownOk ρ1 own = true then dcE own tb ρ1 (dcL tb own tg t fk fv ds [] (wipeE ρ1 own)) else .no
theorem y161 : sDc tb ow h tg t fk fv ρ = dcF tb ow tg t fk fv (h ρ) := rfl
theorem y108 : dcF tb ow tg t fk fv (.ok ds ρ) = if ownOk ρ ow = true then dcE ow tb ρ (dcL tb ow tg t fk fv ds [] (wipeE ρ ow)) else .no := rfl
def stfB (i : Nat) (c f : Str) (p : P) (z : Option O) (ρ1 : Env) : Flow := match z with
  | some (.i c' fs) => if c' = c ∧ fs.length < 1000 then (match p with
    | .v d => .next (ρ1.set i (some (.i c (putO f (.v d) fs))))
    | .f o => .next (ρ1.set i (some (.i c (putO f o fs))))
    | .s _ => .no) else .no
  | _ => .no
def stfA (i : Nat) (c f : Str) (m : Out P) : Flow := flow m fun p ρ1 => stfB i c f p (getS ρ1 i) ρ1
theorem y57 : sSetF i c f fe ρ = stfA i c f (fe ρ) := rfl
@[simp] theorem y43 : stfA i c f (.ok p ρ) = stfB i c f p (getS ρ i) ρ := rfl
def gplF (c f : Str) (z : Option O) : Option O := match z with
  | some (.i c' fs) => if c' = c then lookO f fs else none
  | _ => none
theorem y3 : getPl ρ (.fd i c f) = gplF c f (getS ρ i) := rfl
theorem y119 : gplF c f (some (.i c fs)) = lookO f fs := if_pos rfl
def splF (i : Nat) (f : Str) (o : O) (z : Option O) (ρ : Env) : Env := match z with
  | some (.i c fs) => ρ.set i (some (.i c (putO f o fs)))
  | _ => ρ
theorem y2 : setPl ρ o (.fd i c f) = splF i f o (getS ρ i) ρ := rfl
@[simp] theorem y120 : splF i f o (some (.i c fs)) ρ = ρ.set i (some (.i c (putO f o fs))) := rfl
def fzA (i : Nat) (c f : Str) (z : Option O) (ρ : Env) : Out P := match z with
  | some (.v (.ins c' fs)) => if c' = c then (match lookD f fs with
    | some d => .ok (.v d) ρ
    | none => .no) else .no
  | some (.i c' fs) => if c' = c then (match lookO f fs with
    | some o => .ok (.v o.d) (ρ.set i (some (.i c (putO f (.v o.d) fs))))
    | none => .no) else .no
  | _ => .no
theorem y33 : sFldZ i c f ρ = fzA i c f (getS ρ i) ρ := rfl
def mkB (r : FR) (ρ : Env) : Out P := match r with
  | .ret (.v .non) (o :: _) => .ok (.f o) ρ
  | .exc x _ => .exc x ρ
  | _ => .no
@[simp] theorem y182 : mkB (.ret (.v .non) (o :: os)) ρ = .ok (.f o) ρ := rfl
@[simp] theorem y185 {e : EX} : mkB (.exc e os) ρ = .exc e ρ := rfl
def mkA (c : Str) (S : Fn) (m : Out (List D)) : Out P := m.bind fun ds ρ1 => mkB (S (.i c [] :: ds.map .v)) ρ1
theorem y40 : sMake c S ar ρ = mkA c S (ar ρ) := rfl
@[simp] theorem y115 : mkA c S (.ok ds ρ) = mkB (S (.i c [] :: ds.map .v)) ρ := rfl
def fmtF (m : Out P) : Out P := m.bind fun p ρ1 => match p with
  | .v (.str y) => if y.length ≤ sizeLine then .ok (.v (.str y)) ρ1 else .no
  | .v (.int i) => if i.natAbs.log2 < 1920 then .ok (.v (.str (toString i))) ρ1 else .no
  | _ => .no
theorem y139 : sFmt fe ρ = fmtF (fe ρ) := rfl
variable {ps : List (Env → Out P)} {z y : Str}
end
section
variable {ρ : Env} {f : Env → Out P} {g : Env → Out (List D)} {tg : D → Env → Option Env} {d : D} {ds es : List D} {c fl : Str} {gs : List (Str × D)}
def appB (es : List D) (m : Out (List D)) : Out (List D) := m.bind fun ds ρ2 => .ok (es ++ ds) ρ2
@[simp] theorem y14 : appB es (.ok ds ρ) = .ok (es ++ ds) ρ := rfl
def starA (g : Env → Out (List D)) (m : Out P) : Out (List D) := m.bind fun p ρ1 => match p with
  | .v d => (match starD d with
    | some es => appB es (g ρ1)
    | none => .no)
  | _ => .no
theorem y27 : sStar f g ρ = starA g (fzF (f ρ)) := rfl
@[simp] theorem y20 : starA g (.ok (.v (.tup es)) ρ) = appB es (g ρ) := rfl
@[simp] theorem y59 : starA g (.ok (.v (.lst es)) ρ) = appB es (g ρ) := rfl
def tupV (m : Out (List D)) : Out P := m.bind fun ds ρ1 => if ds.length ≤ sizeLine then .ok (.v (.tup ds)) ρ1 else .no
theorem y32 : sTupV g ρ = tupV (g ρ) := rfl
theorem y39 : tupV (.ok ds ρ) = if ds.length ≤ sizeLine then .ok (.v (.tup ds)) ρ else .no := rfl
def lstV (m : Out (List D)) : Out P := m.bind fun ds ρ1 => if ds.length ≤ sizeLine then .ok (.f (.l ds)) ρ1 else .no
theorem y54 : sLstV g ρ = lstV (g ρ) := rfl
theorem y45 : lstV (.ok ds ρ) = if ds.length ≤ sizeLine then .ok (.f (.l ds)) ρ else .no := rfl
def lrgF (m : Out (List D)) : Out P := m.bind fun ds ρ1 => .ok (.f (.l ds)) ρ1
theorem y89 : sLRg f ρ = lrgF (hRange1 f ρ) := rfl
@[simp] theorem y44 : lrgF (.ok ds ρ) = .ok (.f (.l ds)) ρ := rfl
def asgE (z : Option Env) : Flow := match z with
  | some ρ2 => .next ρ2
  | none => .no
@[simp] theorem y132 : asgE (some ρ) = .next ρ := rfl
def asgF (tg : D → Env → Option Env) (m : Out P) : Flow := flow m fun p ρ1 => match p with
  | .v d => asgE (tg d ρ1)
  | _ => .no
theorem y66 : sAsg tg f ρ = asgF tg (fzF (f ρ)) := by
  show flow (fzF (f ρ)) _ = flow (fzF (f ρ)) _
  congr 1
@[simp] theorem y85 : asgF tg (.ok (.v d) ρ) = asgE (tg d ρ) := rfl
def seqS (m : Out P) : Out (List D) := m.bind fun p ρ1 => match p with
  | .s (.lst ds) => if ds.length ≤ sizeLine then .ok ds ρ1 else .no
  | _ => .no
theorem y52 : hSeqS f ρ = seqS (f ρ) := rfl
theorem y92 : seqS (.ok (.s (.lst ds)) ρ) = if ds.length ≤ sizeLine then .ok ds ρ else .no := rfl
variable {t : Env → Out Bool} {body : Env → Flow} {n : Nat} {k : Bool}
def whC (t : Env → Out Bool) (body : Env → Flow) (n : Nat) (fl : Flow) : Flow := match fl with
  | .next ρ2 => whileL t body n ρ2
  | .cont ρ2 => whileL t body n ρ2
  | .brk ρ2 => .next ρ2
  | fl => fl
@[simp] theorem y168 : whC t body n (.next ρ) = whileL t body n ρ := rfl
def whB (t : Env → Out Bool) (body : Env → Flow) (n : Nat) (m : Out Bool) : Flow := flow m fun k ρ1 => if k = true then whC t body n (body ρ1) else .next ρ1
@[simp] theorem y175 : whB t body n (.ok true ρ) = whC t body n (body ρ) := rfl
@[simp] theorem y190 : whB t body n (.ok false ρ) = .next ρ := rfl
end
end LW

namespace SM
open PySem LW
def sem__law_pot : Fn := runFn false 1 2 (
  sRet (sLst (sCons (sLc [1] (hSeq (sSl true (sVar 0) (oNone) (oPart (sC (.int 63))))) (gSet 1) (sYes) (sC1 gAbs (sVar 1))) (sCons (sC (.int 0)) (sCons (sC (.int 20011)) (sCons (sC (.int 0)) (sNil)))))))
theorem len__law_pot (os : List O) (h : sem__law_pot os ≠ .no) : os.length = 1 := runFn_len os h
def sem__law_draw : Fn := runFn true 2 4 (
  sSeq (sIf (sTB (sOp gLt true (sVar 1) (sC (.int 2)))) (sRet (sC (.int 0))) (Flow.next))
  (sSeq (sIf (sTB (sOp gGt true (sOp gIx2 true (sVar 0) (sC (.int 3))) (sC (.int 0)))) (sSeq (sSet 2 (sOp gMod true (sC1 gInt (sOp gIx2 true (sVar 0) (sC (.int 3)))) (sVar 1)))
  (sSeq (sSetIx (.sl 0) (sOp gDiv true (sOp gIx2 true (sVar 0) (sC (.int 3))) (sVar 1)) (sC (.int 3)))
  (sRet (sVar 2)))) (Flow.next))
  (sSeq (sSet 3 (sC (.int 0)))
  (sSeq (sIf (sTB (sOp gLt true (sOp gIx2 true (sVar 0) (sC (.int 1))) (sC1 gLen2 (sOp gIx2 true (sVar 0) (sC (.int 0)))))) (sSeq (sSet 3 (sOp gIx2 true (sOp gIx2 true (sVar 0) (sC (.int 0))) (sOp gIx2 true (sVar 0) (sC (.int 1)))))
  (sSeq (sSetIx (.sl 0) (sOp gAdd true (sOp gIx2 true (sVar 0) (sC (.int 1))) (sC (.int 1))) (sC (.int 1)))
  (sIf (sTB (sOp gGe true (sVar 3) (sOp gPow true (sC (.int 10)) (sC (.int 18))))) (sSeq (sSetIx (.sl 0) (sOp gDiv true (sVar 3) (sVar 1)) (sC (.int 3)))
  (sRet (sOp gMod true (sC1 gInt (sVar 3)) (sVar 1)))) (Flow.next)))) (Flow.next))
  (sSeq (sSetIx (.sl 0) (sOp gMod true (sC1 gInt (sOp gAdd true (sOp gAdd true (sOp gMul true (sOp gIx2 true (sVar 0) (sC (.int 2))) (sC (.int 48271))) (sVar 3)) (sC (.int 12345)))) (sC (.int 2147483647))) (sC (.int 2)))
  (sRet (sOp gMod true (sC1 gInt (sOp gAdd true (sOp gDiv true (sOp gMul true (sOp gIx2 true (sVar 0) (sC (.int 2))) (sOp gIx2 true (sVar 0) (sC (.int 2)))) (sC (.int 64))) (sOp gDiv true (sOp gIx2 true (sVar 0) (sC (.int 2))) (sC (.int 7))))) (sVar 1))))))))
theorem len__law_draw (os : List O) (h : sem__law_draw os ≠ .no) : os.length = 2 := runFn_len os h
def sem__law_pick : Fn := runFn true 2 2 (
  sRet (sOp gIx2 false (sVar 1) (sCallM (sem__law_draw) 0 (sCons (sC1 gLen2 (sVar 1)) (sNil)))))
theorem len__law_pick (os : List O) (h : sem__law_pick os ≠ .no) : os.length = 2 := runFn_len os h
def sem__law_thing : Fn := runFn true 1 1 (
  sRet (sCallM (sem__law_pick) 0 (sCons (sLst (sCons (sC .non) (sCons (sC (.bl true)) (sCons (sC (.int 0)) (sCons (sC1 gNeg (sC (.int 3))) (sCons (sOp gPow true (sC (.int 10)) (sC (.int 39))) (sCons (sC (.str "")) (sCons (sC (.str "place")) (sCons (sC (.str "a b")) (sCons (sTup (sNil)) (sCons (sTup (sCons (sC (.int 1)) (sCons (sC (.str "x")) (sNil)))) (sCons (sLst (sNil)) (sCons (sLst (sCons (sC .non) (sNil))) (sCons (sDNew false) (sCons (sDisp1 "a" (sTup (sCons (sC (.int 0)) (sNil)))) (sNil)))))))))))))))) (sNil))))
theorem len__law_thing (os : List O) (h : sem__law_thing os ≠ .no) : os.length = 1 := runFn_len os h
def sem__law_kinds : Fn := runFn false 1 2 (
  sSeq (sSet 1 (sLst (sCons (sC1 (gIsX EXS ["BadNumber"]) (sVar 0)) (sCons (sC1 (gIsX EXS ["BadText"]) (sVar 0)) (sCons (sC1 (gIsX EXS ["BadWeb"]) (sVar 0)) (sNil))))))
  (sSeq (sSet 1 (sOp gAdd true (sVar 1) (sLst (sCons (sC1 (gIsX EXS ["NoDeed"]) (sVar 0)) (sCons (sC1 (gIsX EXS ["NoFires"]) (sVar 0)) (sCons (sC1 (gIsX EXS ["NoLabel"]) (sVar 0)) (sNil)))))))
  (sSeq (sSet 1 (sOp gAdd true (sVar 1) (sLst (sCons (sC1 (gIsX EXS ["NoLot"]) (sVar 0)) (sCons (sC1 (gIsX EXS ["NoPlace"]) (sVar 0)) (sCons (sC1 (gIsX EXS ["NoQuestion"]) (sVar 0)) (sNil)))))))
  (sRet (sOp gAdd true (sVar 1) (sLst (sCons (sC1 (gIsX EXS ["NothingDone"]) (sVar 0)) (sNil))))))))
theorem len__law_kinds (os : List O) (h : sem__law_kinds os ≠ .no) : os.length = 1 := runFn_len os h
def sem__law_rows : Fn := runFn false 2 3 (
  sSeq (sSet 2 (sLst (sCons (sTup (sCons (sExv (sMk1 "BadNumber" "value" (sCons (sVar 0) (sNil)))) (sCons (sC (.str "value")) (sNil)))) (sCons (sTup (sCons (sExv (sMk2 "BadText" "line" "what" (sCons (sVar 0) (sCons (sVar 1) (sNil))))) (sCons (sC (.str "line what")) (sNil)))) (sCons (sTup (sCons (sExv (sMk1 "BadWeb" "what" (sCons (sVar 0) (sNil)))) (sCons (sC (.str "what")) (sNil)))) (sCons (sTup (sCons (sExv (sMk1 "NoDeed" "at" (sCons (sVar 0) (sNil)))) (sCons (sC (.str "at")) (sNil)))) (sCons (sTup (sCons (sExv (sMk1 "NoFires" "at" (sCons (sVar 0) (sNil)))) (sCons (sC (.str "at")) (sNil)))) (sNil))))))))
  (sRet (sOp gAdd false (sFrz 2) (sLst (sCons (sTup (sCons (sExv (sMk1 "NoLabel" "at" (sCons (sVar 0) (sNil)))) (sCons (sC (.str "at")) (sNil)))) (sCons (sTup (sCons (sExv (sMk0 "NoLot")) (sCons (sC (.str "")) (sNil)))) (sCons (sTup (sCons (sExv (sMk0 "NoPlace")) (sCons (sC (.str "")) (sNil)))) (sCons (sTup (sCons (sExv (sMk0 "NoQuestion")) (sCons (sC (.str "")) (sNil)))) (sCons (sTup (sCons (sExv (sMk0 "NothingDone")) (sCons (sC (.str "")) (sNil)))) (sNil))))))))))
theorem len__law_rows (os : List O) (h : sem__law_rows os ≠ .no) : os.length = 2 := runFn_len os h
def sem__law_told_of : Fn := runFn false 2 4 (
  sSeq (sSet 2 (sLst (sNil)))
  (sSeq (sFor (hSeq (sM1 gSplit (sVar 1) (sC (.str " ")))) (gSet 3) (sIf (sTB (sOp gEq true (sVar 3) (sC (.str "at")))) (sExp (sLm gApp (.sl 2) (sXfL ["NoFires", "NoDeed", "NoLabel"] "at" (sVar 0)))) (sIf (sTB (sOp gEq true (sVar 3) (sC (.str "value")))) (sExp (sLm gApp (.sl 2) (sXfL ["BadNumber"] "value" (sVar 0)))) (sIf (sTB (sOp gEq true (sVar 3) (sC (.str "what")))) (sExp (sLm gApp (.sl 2) (sXfL ["BadWeb", "BadText"] "what" (sVar 0)))) (sIf (sTB (sOp gEq true (sVar 3) (sC (.str "line")))) (sExp (sLm gApp (.sl 2) (sXfL ["BadText"] "line" (sVar 0)))) (Flow.next))))))
  (sRet (sMov 2))))
theorem len__law_told_of (os : List O) (h : sem__law_told_of os ≠ .no) : os.length = 2 := runFn_len os h
def sem_law_k00 : Fn := runFn false 1 14 (
  sSeq (sSet 1 (sCall (sem__law_pot) (sCons (sVar 0) (sNil))))
  (sSeq (sPar3 2 3 4 (sCons (sCallM (sem__law_thing) 1 (sNil)) (sCons (sCallM (sem__law_thing) 1 (sNil)) (sCons (sCallM (sem__law_thing) 1 (sNil)) (sNil)))))
  (sSeq (sPar 5 6 (sCons (sCall (sem__law_rows) (sCons (sVar 2) (sCons (sVar 3) (sNil)))) (sCons (sCall (sem__law_rows) (sCons (sVar 4) (sCons (sVar 2) (sNil)))) (sNil))))
  (sSeq (sFor (hEnum (sVar 5)) (gTupD 2 (gsCons (gSet 7) (gsCons (gSet 8) (gsNil)))) (sSeq (sAsg (gTupD 2 (gsCons (gSet 9) (gsCons (gSet 10) (gsNil)))) (sVar 8))
  (sSeq (sSet 11 (sIfE (sTB (sOp gNe true (sVar 10) (sC (.str "")))) (sSl true (sLst (sCons (sVar 2) (sCons (sVar 3) (sNil)))) (oNone) (oPart (sC1 gLen2 (sM1 gSplit (sVar 10) (sC (.str " ")))))) (sLst (sNil))))
  (sSeq (sIf (sOrT (sNotT (sTB (sC1 (gIsX EXS EXS) (sVar 9)))) (sNotT (sTB (sC1 (gIsX EXS EXS) (sVar 9))))) (sRet (sC (.bl false))) (Flow.next))
  (sSeq (sIf (sTB (sOp gNe true (sCall (sem__law_kinds) (sCons (sVar 9) (sNil))) (sLc [13] (hRange1 (sC1 gLen2 (sVar 5))) (gSet 13) (sYes) (sOp gEq true (sVar 13) (sVar 7))))) (sRet (sC (.bl false))) (Flow.next))
  (sSeq (sIf (sTB (sOp gNe true (sC1 gReprX (sCall (sem__law_told_of) (sCons (sVar 9) (sCons (sVar 10) (sNil))))) (sC1 gReprX (sVar 11)))) (sRet (sC (.bl false))) (Flow.next))
  (sIf (sTB (sOp gNe true (sC1 gReprX (sCall (sem__law_told_of) (sCons (sOp gIx2 true (sOp gIx2 true (sVar 6) (sVar 7)) (sC (.int 0))) (sCons (sVar 10) (sNil))))) (sC1 gReprX (sSl true (sLst (sCons (sVar 4) (sCons (sVar 2) (sNil)))) (oNone) (oPart (sC1 gLen2 (sVar 11))))))) (sRet (sC (.bl false))) (Flow.next))))))))
  (sSeq (sSet 12 (sEx1 "LightError" (sC (.str "x"))))
  (sRet (sAnd (sC1 (gIsX EXS EXS) (sVar 12)) (sOp gNotIn2 false (sC (.bl true)) (sCall (sem__law_kinds) (sCons (sFrz 12) (sNil)))))))))))
def sem_is_label : Fn := runFn false 1 1 (
  sRet (sAnd (sC1 (gIs (D.isa CS .str)) (sVar 0)) (sAnd (sChn gLe gLe true true (sC (.int 1)) (sC1 gLen2 (sVar 0)) (sC (.int 8))) (sOp gEq true (sM1 gStrip (sVar 0) (sC (.str "abcdefghijklmnopqrstuvwxyz"))) (sC (.str ""))))))
def sem_is_name : Fn := runFn false 1 1 (
  sRet (sAnd (sCall (sem_is_label) (sCons (sVar 0) (sNil))) (sC1 (gNotInC ["place", "way", "end"]) (sVar 0))))
def sem__law_words : Fn := runFn false 0 0 (
  sRet (sLst (sCons (sC (.str "place")) (sCons (sC (.str "way")) (sCons (sC (.str "end")) (sNil))))))
def sem__law_word : Fn := runFn true 1 3 (
  sSeq (sIf (sTB (sOp gEq true (sCallM (sem__law_draw) 0 (sCons (sC (.int 6)) (sNil))) (sC (.int 0)))) (sRet (sCallM (sem__law_pick) 0 (sCons (sCall (sem__law_words) sNil) (sNil)))) (Flow.next))
  (sSeq (sSet 1 (sCallM (sem__law_pick) 0 (sCons (sLst (sCons (sC (.int 1)) (sCons (sC (.int 2)) (sCons (sC (.int 3)) (sCons (sC (.int 5)) (sCons (sC (.int 8)) (sNil))))))) (sNil))))
  (sRet (sM1 gJoin (sC (.str "")) (sLc [2] (hRange1 (sVar 1)) (gSet 2) (sYes) (sCallM (sem__law_pick) 0 (sCons (sC (.str "abcdefghijklmnopqrstuvwxyz")) (sNil))))))))
def sem__law_is_label : Fn := runFn false 1 2 (
  sSeq (sIf (sOrT (sNotT (sTB (sC1 (gIs (D.isa CS .str)) (sVar 0)))) (sNotT (sTB (sChn gLe gLe true true (sC (.int 1)) (sC1 gLen2 (sVar 0)) (sC (.int 8)))))) (sRet (sC (.bl false))) (Flow.next))
  (sRet (sOp gEq true (sC1 gLen2 (sLc [1] (hSeq (sVar 0)) (gSet 1) (sTB (sOp gIn2 true (sVar 1) (sC (.str "abcdefghijklmnopqrstuvwxyz")))) (sVar 1))) (sC1 gLen2 (sVar 0)))))
def sem__law_is_name : Fn := runFn false 1 1 (
  sRet (sAnd (sCall (sem__law_is_label) (sCons (sVar 0) (sNil))) (sOp gNotIn2 true (sVar 0) (sCall (sem__law_words) sNil))))
def sem__law_names : Fn := runFn true 2 8 (
  sSeq (sSet 2 (sLst (sNil)))
  (sSeq (sFor (hRange1 (sVar 1)) (gSet 3) (sSeq (sSet 4 (sSl true (sCallM (sem__law_word) 0 (sNil)) (oNone) (oPart (sC (.int 7)))))
  (sSeq (sSet 5 (sLc [6] (hSeq (sC (.str "abcdefghijklmnopqrstuvwxyz"))) (gSet 6) (sYes) (sOp gAdd true (sVar 4) (sVar 6))))
  (sExp (sLm gApp (.sl 2) (sOp gIx2 true (sLc [7] (hSeq (sFrz 5)) (gSet 7) (sAndT (sTB (sOp gNotIn2 true (sVar 7) (sVar 2))) (sTB (sCall (sem__law_is_name) (sCons (sVar 7) (sNil))))) (sVar 7)) (sC (.int 0))))))))
  (sRet (sMov 2))))
end SM

namespace SM
open PySem LW L2
structure Pot where
  cs : List Int
  i : Nat
  g : Int
  x : Int
def Pot.o (p : Pot) : O := .l [.lst (p.cs.map .int), .int p.i, .int p.g, .int p.x]
theorem ixN4 : ixN 4 1 = some 1 ∧ ixN 4 2 = some 2 ∧ ixN 4 3 = some 3 := ⟨rfl, rfl, rfl⟩
theorem pot0 {a b c d : D} : gIx2 (.lst [a, b, c, d]) (.int 0) = some (.v a) := rfl
theorem pot1 {a b c d : D} : gIx2 (.lst [a, b, c, d]) (.int 1) = some (.v b) := rfl
theorem pot2 {a b c d : D} : gIx2 (.lst [a, b, c, d]) (.int 2) = some (.v c) := rfl
theorem pot3 {a b c d : D} : gIx2 (.lst [a, b, c, d]) (.int 3) = some (.v d) := rfl
theorem gMul_r {i j : Int} (h : -18446744073709551616 < j ∧ j < 18446744073709551616) : gMul (.int i) (.int j) = some (.v (.int (i * j))) := by
  exact if_pos (.inr (by simpa using h))
theorem gPow18 : gPow (.int 10) (.int 18) = some (.v (.int 1000000000000000000)) := by simp [gPow]
theorem gDiv_c {i : Int} {j : Int} (h : 0 < j ∧ j < 1073741824) : gDiv (.int i) (.int j) = some (.v (.int (i / j))) := if_pos h
theorem gMod_c {i : Int} {j : Int} (h : 0 < j) : gMod (.int i) (.int j) = some (.v (.int (i % j))) := if_pos h
theorem cs_get {cs : List Int} {i : Nat} (h : i < cs.length) : gIx2 (.lst (cs.map .int)) (.int i) = some (.v (.int cs[i])) := by
  rw [ix_nat (by omega), Int.toNat_natCast, List.getElem?_map, List.getElem?_eq_getElem h]; rfl
theorem draw (p : Pot) (many : Int) (hm : many < 1073741824) : ∃ (r : Int) (p' : Pot), sem__law_draw [p.o, .v (.int many)] = .ret (.v (.int r)) [p'.o, .v (.int many)] ∧ (many < 2 → r = 0) ∧ (2 ≤ many → 0 ≤ r ∧ r < many) := by
  obtain ⟨cs, i, g, x⟩ := p
  unfold sem__law_draw
  by_cases h1 : many < 2
  · have h1 := decide_eq_true h1
    refine ⟨0, ⟨cs, i, g, x⟩, ?_, fun _ => rfl, fun h => ?_⟩
    · simp only [y50, LW.argsOk, O.isV, O.d, List.all_cons, List.all_nil, Bool.and_true, Bool.true_and, Bool.and_self, List.length_cons, List.length_nil, List.map_cons, List.map_nil, List.cons_append, List.nil_append, List.replicate_succ, List.replicate_zero, Nat.reduceAdd, Nat.reduceSub, Nat.zero_add, and_self, and_true, true_and, if_true, ite_true, if_false, ite_false, List.getElem?_cons_zero, List.getElem?_cons_succ, List.set_cons_zero, List.set_cons_succ, List.set_nil, Bool.false_eq_true, reduceIte, y75, y69, y95, y87, y121, y133, y68, y82, y208, y165, y178, y158, y166, y105, y174, y94, y152, y196, y169, y140, y181, y160, y207, y209, y199, y147, y172, y148, y176, y189, y16, y67, y100, y99, y170, y141, y37, y60, y62, y138, y61, y153, y203, y180, y109, y42, y70, y206, y204, y80, y202, y188, y86, y164, y113, y107, y151, y134, y129, y11, y31, y29, y41, y26, y106, y13, y97, y30, y193, y110, y173, y142, y34, y8, y55, y15, y47, y9, y171, y93, y195, y163, y146, y131, y130, y64, y103, y81, y102, y157, y150, y205, y177, y96, y49, y63, y78, y128, y127, y74, y79, y76, y137, y65, y77, y22, y46, y23, y17, y38, y4, y5, y7, y90, y136, y135, y0, y25, y58, y1, y88, y18, y124, y122, y118, y116, y111, y123, y91, y72, y197, y112, y117, y194, y125, y114, y6, y126, y101, y73, y84, y104, y12, y10, y71, Option.getD_some, y198, y201, y144, y192, y200, y154, y187, y156, y183, y155, y179, y184, y35, y186, y48, y145, y143, y191, y149, y159, y167, y162, y83, y19, y24, y53, y51, y56, y36, y28, y21, y161, y108, y98, y57, y43, y3, y119, y2, y120, y33, y182, y185, y115, y40, y139, y27, y20, y59, y14, y32, y39, y54, y45, y89, y44, y66, y85, y132, y168, y175, y190, y52, y92, Pot.o, gLt, h1]
    · have := of_decide_eq_true h1; omega
  · have h1' : 0 < many ∧ many < 1073741824 := by omega
    have h1 := decide_eq_false h1
    have em : ∀ z : Int, (many < 2 → z % many = 0) ∧ (2 ≤ many → 0 ≤ z % many ∧ z % many < many) := fun z => ⟨fun h => absurd h (of_decide_eq_false h1), fun _ => ⟨Int.emod_nonneg _ (by omega), Int.emod_lt_of_pos _ h1'.1⟩⟩
    by_cases h2 : x > 0
    · have h2 := decide_eq_true h2
      refine ⟨x % many, ⟨cs, i, g, x / many⟩, ?_, em _⟩
      simp only [y50, LW.argsOk, O.isV, O.d, List.all_cons, List.all_nil, Bool.and_true, Bool.true_and, Bool.and_self, List.length_cons, List.length_nil, List.map_cons, List.map_nil, List.cons_append, List.nil_append, List.replicate_succ, List.replicate_zero, Nat.reduceAdd, Nat.reduceSub, Nat.zero_add, and_self, and_true, true_and, if_true, ite_true, if_false, ite_false, List.getElem?_cons_zero, List.getElem?_cons_succ, List.set_cons_zero, List.set_cons_succ, List.set_nil, Bool.false_eq_true, reduceIte, y75, y69, y95, y87, y121, y133, y68, y82, y208, y165, y178, y158, y166, y105, y174, y94, y152, y196, y169, y140, y181, y160, y207, y209, y199, y147, y172, y148, y176, y189, y16, y67, y100, y99, y170, y141, y37, y60, y62, y138, y61, y153, y203, y180, y109, y42, y70, y206, y204, y80, y202, y188, y86, y164, y113, y107, y151, y134, y129, y11, y31, y29, y41, y26, y106, y13, y97, y30, y193, y110, y173, y142, y34, y8, y55, y15, y47, y9, y171, y93, y195, y163, y146, y131, y130, y64, y103, y81, y102, y157, y150, y205, y177, y96, y49, y63, y78, y128, y127, y74, y79, y76, y137, y65, y77, y22, y46, y23, y17, y38, y4, y5, y7, y90, y136, y135, y0, y25, y58, y1, y88, y18, y124, y122, y118, y116, y111, y123, y91, y72, y197, y112, y117, y194, y125, y114, y6, y126, y101, y73, y84, y104, y12, y10, y71, Option.getD_some, y198, y201, y144, y192, y200, y154, y187, y156, y183, y155, y179, y184, y35, y186, y48, y145, y143, y191, y149, y159, y167, y162, y83, y19, y24, y53, y51, y56, y36, y28, y21, y161, y108, y98, y57, y43, y3, y119, y2, y120, y33, y182, y185, y115, y40, y139, y27, y20, y59, y14, y32, y39, y54, y45, y89, y44, y66, y85, y132, y168, y175, y190, y52, y92, Pot.o, gLt, h1, pot3, gGt, h2, gInt, gMod, gDiv, h1'.1, h1', ixN4]
    · have h2 := decide_eq_false h2
      by_cases h3 : i < cs.length
      · have h3' : decide ((i : Int) < (cs.map D.int).length) = true := by simpa using h3
        by_cases h4 : cs[i] ≥ 1000000000000000000
        · have h4 := decide_eq_true h4
          refine ⟨cs[i] % many, ⟨cs, i + 1, g, cs[i] / many⟩, ?_, em _⟩
          simp only [y50, LW.argsOk, O.isV, O.d, List.all_cons, List.all_nil, Bool.and_true, Bool.true_and, Bool.and_self, List.length_cons, List.length_nil, List.map_cons, List.map_nil, List.cons_append, List.nil_append, List.replicate_succ, List.replicate_zero, Nat.reduceAdd, Nat.reduceSub, Nat.zero_add, and_self, and_true, true_and, if_true, ite_true, if_false, ite_false, List.getElem?_cons_zero, List.getElem?_cons_succ, List.set_cons_zero, List.set_cons_succ, List.set_nil, Bool.false_eq_true, reduceIte, y75, y69, y95, y87, y121, y133, y68, y82, y208, y165, y178, y158, y166, y105, y174, y94, y152, y196, y169, y140, y181, y160, y207, y209, y199, y147, y172, y148, y176, y189, y16, y67, y100, y99, y170, y141, y37, y60, y62, y138, y61, y153, y203, y180, y109, y42, y70, y206, y204, y80, y202, y188, y86, y164, y113, y107, y151, y134, y129, y11, y31, y29, y41, y26, y106, y13, y97, y30, y193, y110, y173, y142, y34, y8, y55, y15, y47, y9, y171, y93, y195, y163, y146, y131, y130, y64, y103, y81, y102, y157, y150, y205, y177, y96, y49, y63, y78, y128, y127, y74, y79, y76, y137, y65, y77, y22, y46, y23, y17, y38, y4, y5, y7, y90, y136, y135, y0, y25, y58, y1, y88, y18, y124, y122, y118, y116, y111, y123, y91, y72, y197, y112, y117, y194, y125, y114, y6, y126, y101, y73, y84, y104, y12, y10, y71, Option.getD_some, y198, y201, y144, y192, y200, y154, y187, y156, y183, y155, y179, y184, y35, y186, y48, y145, y143, y191, y149, y159, y167, y162, y83, y19, y24, y53, y51, y56, y36, y28, y21, y161, y108, y98, y57, y43, y3, y119, y2, y120, y33, y182, y185, y115, y40, y139, y27, y20, y59, y14, y32, y39, y54, y45, y89, y44, y66, y85, y132, y168, y175, y190, y52, y92, Pot.o, gLt, h1, pot3, pot1, pot0, gGt, h2, gInt, gMod, gDiv, h1'.1, h1', ixN4, gLen2, gLen, h3', cs_get h3, gAdd, gGe, gPow18, h4, Int.natCast_add, Int.natCast_one]
        · have h4 := decide_eq_false h4
          generalize hG : (g * 48271 + cs[i] + 12345) % 2147483647 = G
          have b : -18446744073709551616 < G ∧ G < 18446744073709551616 := by omega
          refine ⟨(G * G / 64 + G / 7) % many, ⟨cs, i + 1, G, x⟩, ?_, em _⟩
          simp only [y50, LW.argsOk, O.isV, O.d, List.all_cons, List.all_nil, Bool.and_true, Bool.true_and, Bool.and_self, List.length_cons, List.length_nil, List.map_cons, List.map_nil, List.cons_append, List.nil_append, List.replicate_succ, List.replicate_zero, Nat.reduceAdd, Nat.reduceSub, Nat.zero_add, and_self, and_true, true_and, if_true, ite_true, if_false, ite_false, List.getElem?_cons_zero, List.getElem?_cons_succ, List.set_cons_zero, List.set_cons_succ, List.set_nil, Bool.false_eq_true, reduceIte, y75, y69, y95, y87, y121, y133, y68, y82, y208, y165, y178, y158, y166, y105, y174, y94, y152, y196, y169, y140, y181, y160, y207, y209, y199, y147, y172, y148, y176, y189, y16, y67, y100, y99, y170, y141, y37, y60, y62, y138, y61, y153, y203, y180, y109, y42, y70, y206, y204, y80, y202, y188, y86, y164, y113, y107, y151, y134, y129, y11, y31, y29, y41, y26, y106, y13, y97, y30, y193, y110, y173, y142, y34, y8, y55, y15, y47, y9, y171, y93, y195, y163, y146, y131, y130, y64, y103, y81, y102, y157, y150, y205, y177, y96, y49, y63, y78, y128, y127, y74, y79, y76, y137, y65, y77, y22, y46, y23, y17, y38, y4, y5, y7, y90, y136, y135, y0, y25, y58, y1, y88, y18, y124, y122, y118, y116, y111, y123, y91, y72, y197, y112, y117, y194, y125, y114, y6, y126, y101, y73, y84, y104, y12, y10, y71, Option.getD_some, y198, y201, y144, y192, y200, y154, y187, y156, y183, y155, y179, y184, y35, y186, y48, y145, y143, y191, y149, y159, y167, y162, y83, y19, y24, y53, y51, y56, y36, y28, y21, y161, y108, y98, y57, y43, y3, y119, y2, y120, y33, y182, y185, y115, y40, y139, y27, y20, y59, y14, y32, y39, y54, y45, y89, y44, y66, y85, y132, y168, y175, y190, y52, y92, Pot.o, gLt, h1, pot3, pot2, pot1, pot0, gGt, h2, gInt, gMod_c h1'.1, h1', ixN4, gLen2, gLen, h3', cs_get h3, gAdd, gGe, gPow18, h4, Int.natCast_add, Int.natCast_one,
            gMul_r (i := g) (j := 48271) (by decide), gMod_c (j := 2147483647) (by decide), hG, gMul_r b, gDiv_c (j := 64) (by decide), gDiv_c (j := 7) (by decide)]
      · have h3' : decide ((i : Int) < (cs.map D.int).length) = false := by simpa using h3
        generalize hG : (g * 48271 + 0 + 12345) % 2147483647 = G
        have b : -18446744073709551616 < G ∧ G < 18446744073709551616 := by omega
        refine ⟨(G * G / 64 + G / 7) % many, ⟨cs, i, G, x⟩, ?_, em _⟩
        simp only [y50, LW.argsOk, O.isV, O.d, List.all_cons, List.all_nil, Bool.and_true, Bool.true_and, Bool.and_self, List.length_cons, List.length_nil, List.map_cons, List.map_nil, List.cons_append, List.nil_append, List.replicate_succ, List.replicate_zero, Nat.reduceAdd, Nat.reduceSub, Nat.zero_add, and_self, and_true, true_and, if_true, ite_true, if_false, ite_false, List.getElem?_cons_zero, List.getElem?_cons_succ, List.set_cons_zero, List.set_cons_succ, List.set_nil, Bool.false_eq_true, reduceIte, y75, y69, y95, y87, y121, y133, y68, y82, y208, y165, y178, y158, y166, y105, y174, y94, y152, y196, y169, y140, y181, y160, y207, y209, y199, y147, y172, y148, y176, y189, y16, y67, y100, y99, y170, y141, y37, y60, y62, y138, y61, y153, y203, y180, y109, y42, y70, y206, y204, y80, y202, y188, y86, y164, y113, y107, y151, y134, y129, y11, y31, y29, y41, y26, y106, y13, y97, y30, y193, y110, y173, y142, y34, y8, y55, y15, y47, y9, y171, y93, y195, y163, y146, y131, y130, y64, y103, y81, y102, y157, y150, y205, y177, y96, y49, y63, y78, y128, y127, y74, y79, y76, y137, y65, y77, y22, y46, y23, y17, y38, y4, y5, y7, y90, y136, y135, y0, y25, y58, y1, y88, y18, y124, y122, y118, y116, y111, y123, y91, y72, y197, y112, y117, y194, y125, y114, y6, y126, y101, y73, y84, y104, y12, y10, y71, Option.getD_some, y198, y201, y144, y192, y200, y154, y187, y156, y183, y155, y179, y184, y35, y186, y48, y145, y143, y191, y149, y159, y167, y162, y83, y19, y24, y53, y51, y56, y36, y28, y21, y161, y108, y98, y57, y43, y3, y119, y2, y120, y33, y182, y185, y115, y40, y139, y27, y20, y59, y14, y32, y39, y54, y45, y89, y44, y66, y85, y132, y168, y175, y190, y52, y92, Pot.o, gLt, h1, pot3, pot2, pot1, pot0, gGt, h2, gInt, gMod_c h1'.1, h1', ixN4, gLen2, gLen, h3', gAdd, gGe,
            gMul_r (i := g) (j := 48271) (by decide), gMod_c (j := 2147483647) (by decide), hG, gMul_r b, gDiv_c (j := 64) (by decide), gDiv_c (j := 7) (by decide)]
end SM

namespace SM
open PySem LW L2
theorem lcMap_all {φ : D → Option (Option D)} {ψ : D → D} : ∀ {ds : List D}, (∀ d ∈ ds, φ d = some (some (ψ d))) → lcMap φ ds = some (ds.map ψ)
  | [], _ => rfl
  | d :: r, h => by
    unfold lcMap
    rw [h d List.mem_cons_self, lcMap_all fun x hx => h x (List.mem_cons_of_mem _ hx)]
    rfl
theorem cut_hi (ds : List D) (k : Nat) : cutD ds none (some (k : Int)) = ds.take k := by
  unfold cutD
  rw [HT.sIx_none, HT.sIx_nat]
  simp only [List.drop_zero, Nat.sub_zero]
  by_cases h : k ≤ ds.length
  · rw [Nat.min_eq_left h]
  · rw [Nat.min_eq_right (by omega), List.take_of_length_le (Nat.le_refl _), List.take_of_length_le (by omega)]
theorem pot (ns : List Int) (hz : ns.length ≤ 63) : ∃ p : Pot, sem__law_pot [.v (.lst (ns.map .int))] = .ret (.f p.o) [.v (.lst (ns.map .int))] := by
  unfold sem__law_pot
  let ψ : D → D := fun d => match d with | .int i => .int (if i < 0 then -i else i) | d => d
  have e := lcL_map (ow := [1]) (tg := gSet 1) (t := sYes) (f := sC1 gAbs (sVar 1)) (φ := fun d => some (some (ψ d))) (ρ0 := [some (.v (.lst (ns.map .int))), none]) (ds := (ns.map D.int).take 63) (acc := []) (fun d hd z hz => by
    have : d ∈ ns.map D.int := List.mem_of_mem_take hd
    obtain ⟨i, _, rfl⟩ := List.mem_map.mp this
    cases hz
    refine ⟨_, [some (.v (.lst (ns.map .int))), some (.v (.int i))], rfl, ⟨_, rfl, ?_⟩, rfl⟩
    simp only [y50, LW.argsOk, O.isV, O.d, List.all_cons, List.all_nil, Bool.and_true, Bool.true_and, Bool.and_self, List.length_cons, List.length_nil, List.map_cons, List.map_nil, List.cons_append, List.nil_append, List.replicate_succ, List.replicate_zero, Nat.reduceAdd, Nat.reduceSub, Nat.zero_add, and_self, and_true, true_and, if_true, ite_true, if_false, ite_false, List.getElem?_cons_zero, List.getElem?_cons_succ, List.set_cons_zero, List.set_cons_succ, List.set_nil, Bool.false_eq_true, reduceIte, y75, y69, y95, y87, y121, y133, y68, y82, y208, y165, y178, y158, y166, y105, y174, y94, y152, y196, y169, y140, y181, y160, y207, y209, y199, y147, y172, y148, y176, y189, y16, y67, y100, y99, y170, y141, y37, y60, y62, y138, y61, y153, y203, y180, y109, y42, y70, y206, y204, y80, y202, y188, y86, y164, y113, y107, y151, y134, y129, y11, y31, y29, y41, y26, y106, y13, y97, y30, y193, y110, y173, y142, y34, y8, y55, y15, y47, y9, y171, y93, y195, y163, y146, y131, y130, y64, y103, y81, y102, y157, y150, y205, y177, y96, y49, y63, y78, y128, y127, y74, y79, y76, y137, y65, y77, y22, y46, y23, y17, y38, y4, y5, y7, y90, y136, y135, y0, y25, y58, y1, y88, y18, y124, y122, y118, y116, y111, y123, y91, y72, y197, y112, y117, y194, y125, y114, y6, y126, y101, y73, y84, y104, y12, y10, y71, Option.getD_some, y198, y201, y144, y192, y200, y154, y187, y156, y183, y155, y179, y184, y35, y186, y48, y145, y143, y191, y149, y159, y167, y162, y83, y19, y24, y53, y51, y56, y36, y28, y21, y161, y108, y98, y57, y43, y3, y119, y2, y120, y33, y182, y185, y115, y40, y139, y27, y20, y59, y14, y32, y39, y54, y45, y89, y44, y66, y85, y132, y168, y175, y190, y52, y92, gAbs]; rfl) (lcMap_all fun d _ => rfl)
  refine ⟨⟨((ns.take 63).map fun i => if i < 0 then -i else i), 0, 20011, 0⟩, ?_⟩
  have cut : cutD (ns.map D.int) none (some 63) = (ns.map D.int).take 63 := cut_hi _ 63
  simp only [y50, LW.argsOk, O.isV, O.d, List.all_cons, List.all_nil, Bool.and_true, Bool.true_and, Bool.and_self, List.length_cons, List.length_nil, List.map_cons, List.map_nil, List.cons_append, List.nil_append, List.replicate_succ, List.replicate_zero, Nat.reduceAdd, Nat.reduceSub, Nat.zero_add, and_self, and_true, true_and, if_true, ite_true, if_false, ite_false, List.getElem?_cons_zero, List.getElem?_cons_succ, List.set_cons_zero, List.set_cons_succ, List.set_nil, Bool.false_eq_true, reduceIte, y75, y69, y95, y87, y121, y133, y68, y82, y208, y165, y178, y158, y166, y105, y174, y94, y152, y196, y169, y140, y181, y160, y207, y209, y199, y147, y172, y148, y176, y189, y16, y67, y100, y99, y170, y141, y37, y60, y62, y138, y61, y153, y203, y180, y109, y42, y70, y206, y204, y80, y202, y188, y86, y164, y113, y107, y151, y134, y129, y11, y31, y29, y41, y26, y106, y13, y97, y30, y193, y110, y173, y142, y34, y8, y55, y15, y47, y9, y171, y93, y195, y163, y146, y131, y130, y64, y103, y81, y102, y157, y150, y205, y177, y96, y49, y63, y78, y128, y127, y74, y79, y76, y137, y65, y77, y22, y46, y23, y17, y38, y4, y5, y7, y90, y136, y135, y0, y25, y58, y1, y88, y18, y124, y122, y118, y116, y111, y123, y91, y72, y197, y112, y117, y194, y125, y114, y6, y126, y101, y73, y84, y104, y12, y10, y71, Option.getD_some, y198, y201, y144, y192, y200, y154, y187, y156, y183, y155, y179, y184, y35, y186, y48, y145, y143, y191, y149, y159, y167, y162, y83, y19, y24, y53, y51, y56, y36, y28, y21, y161, y108, y98, y57, y43, y3, y119, y2, y120, y33, y182, y185, y115, y40, y139, y27, y20, y59, y14, y32, y39, y54, y45, y89, y44, y66, y85, y132, y168, y175, y190, y52, y92, gSl, cut, e]
  congr 2
  simp [Pot.o, ψ, List.map_take]
  rfl
theorem pick (p : Pot) (ds : List D) (h : 0 < ds.length) (h2 : ds.length < 1073741824) : ∃ (d : D) (p' : Pot), d ∈ ds ∧ sem__law_pick [p.o, .v (.lst ds)] = .ret (.v d) [p'.o, .v (.lst ds)] := by
  obtain ⟨r, p', e, h0, h1⟩ := draw p (ds.length : Int) (by omega)
  have hr : 0 ≤ r ∧ r < ds.length := by
    by_cases z : (ds.length : Int) < 2
    · rw [h0 z]; omega
    · exact h1 (by omega)
  have hi : r.toNat < ds.length := by omega
  have hg : gIx2 (.lst ds) (.int r) = some (.v ds[r.toNat]) := by
    rw [ix_nat hr.1, List.getElem?_eq_getElem hi]; rfl
  refine ⟨ds[r.toNat], p', List.getElem_mem hi, ?_⟩
  unfold sem__law_pick
  simp only [y50, LW.argsOk, O.isV, O.d, List.all_cons, List.all_nil, Bool.and_true, Bool.true_and, Bool.and_self, List.length_cons, List.length_nil, List.map_cons, List.map_nil, List.cons_append, List.nil_append, List.replicate_succ, List.replicate_zero, Nat.reduceAdd, Nat.reduceSub, Nat.zero_add, and_self, and_true, true_and, if_true, ite_true, if_false, ite_false, List.getElem?_cons_zero, List.getElem?_cons_succ, List.set_cons_zero, List.set_cons_succ, List.set_nil, Bool.false_eq_true, reduceIte, y75, y69, y95, y87, y121, y133, y68, y82, y208, y165, y178, y158, y166, y105, y174, y94, y152, y196, y169, y140, y181, y160, y207, y209, y199, y147, y172, y148, y176, y189, y16, y67, y100, y99, y170, y141, y37, y60, y62, y138, y61, y153, y203, y180, y109, y42, y70, y206, y204, y80, y202, y188, y86, y164, y113, y107, y151, y134, y129, y11, y31, y29, y41, y26, y106, y13, y97, y30, y193, y110, y173, y142, y34, y8, y55, y15, y47, y9, y171, y93, y195, y163, y146, y131, y130, y64, y103, y81, y102, y157, y150, y205, y177, y96, y49, y63, y78, y128, y127, y74, y79, y76, y137, y65, y77, y22, y46, y23, y17, y38, y4, y5, y7, y90, y136, y135, y0, y25, y58, y1, y88, y18, y124, y122, y118, y116, y111, y123, y91, y72, y197, y112, y117, y194, y125, y114, y6, y126, y101, y73, y84, y104, y12, y10, y71, Option.getD_some, y198, y201, y144, y192, y200, y154, y187, y156, y183, y155, y179, y184, y35, y186, y48, y145, y143, y191, y149, y159, y167, y162, y83, y19, y24, y53, y51, y56, y36, y28, y21, y161, y108, y98, y57, y43, y3, y119, y2, y120, y33, y182, y185, y115, y40, y139, y27, y20, y59, y14, y32, y39, y54, y45, y89, y44, y66, y85, y132, y168, y175, y190, y52, y92, gLen2, gLen, e, hg]
def AZ : Str := "abcdefghijklmnopqrstuvwxyz"
def Letter (c : Nat) : Prop := 97 ≤ c ∧ c ≤ 122
theorem az_len : AZ.length = 26 := by decide +kernel
theorem az_list : AZ.cps.toList = (List.range 26).map (· + 97) := by decide +kernel
theorem az_mem {c : Nat} : c ∈ AZ.cps.toList ↔ Letter c := by
  rw [az_list, List.mem_map]
  constructor
  · rintro ⟨a, h, rfl⟩
    have := List.mem_range.mp h
    exact ⟨by omega, by omega⟩
  · intro h
    exact ⟨c - 97, List.mem_range.mpr (by have := h.2; have := h.1; omega), by have := h.1; omega⟩
theorem line_big : 100000 ≤ sizeLine := by rw [sizeLine_eq]; omega
theorem pick_az (p : Pot) : ∃ (c : Nat) (p' : Pot), Letter c ∧ sem__law_pick [p.o, .v (.str AZ)] = .ret (.v (.str ⟨#[c]⟩)) [p'.o, .v (.str AZ)] := by
  obtain ⟨r, p', e, h0, h1⟩ := draw p 26 (by omega)
  have hr := h1 (by omega)
  have hi : r.toNat < AZ.cps.toList.length := by rw [az_list]; simp; omega
  have hg : gIx2 (.str AZ) (.int r) = some (.v (.str ⟨#[AZ.cps.toList[r.toNat]]⟩)) := by
    show (if AZ.length ≤ sizeLine then (L2.atI AZ.cps.toList r).map fun c => P.v (.str ⟨#[c]⟩) else none) = _
    rw [if_pos (by rw [az_len]; have := line_big; omega)]
    unfold L2.atI ixN
    rw [if_pos hr.1, if_pos (by rw [az_list]; simp; omega)]
    simp [List.getElem?_eq_getElem hi]
  have hl : gLen2 (.str AZ) = some (.v (.int 26)) := by
    show (if AZ.length ≤ sizeLine then some (P.v (.int AZ.length)) else none) = _
    rw [if_pos (by rw [az_len]; have := line_big; omega), az_len]; rfl
  refine ⟨_, p', az_mem.mp (List.getElem_mem hi), ?_⟩
  unfold sem__law_pick
  simp only [y50, LW.argsOk, O.isV, O.d, List.all_cons, List.all_nil, Bool.and_true, Bool.true_and, Bool.and_self, List.length_cons, List.length_nil, List.map_cons, List.map_nil, List.cons_append, List.nil_append, List.replicate_succ, List.replicate_zero, Nat.reduceAdd, Nat.reduceSub, Nat.zero_add, and_self, and_true, true_and, if_true, ite_true, if_false, ite_false, List.getElem?_cons_zero, List.getElem?_cons_succ, List.set_cons_zero, List.set_cons_succ, List.set_nil, Bool.false_eq_true, reduceIte, y75, y69, y95, y87, y121, y133, y68, y82, y208, y165, y178, y158, y166, y105, y174, y94, y152, y196, y169, y140, y181, y160, y207, y209, y199, y147, y172, y148, y176, y189, y16, y67, y100, y99, y170, y141, y37, y60, y62, y138, y61, y153, y203, y180, y109, y42, y70, y206, y204, y80, y202, y188, y86, y164, y113, y107, y151, y134, y129, y11, y31, y29, y41, y26, y106, y13, y97, y30, y193, y110, y173, y142, y34, y8, y55, y15, y47, y9, y171, y93, y195, y163, y146, y131, y130, y64, y103, y81, y102, y157, y150, y205, y177, y96, y49, y63, y78, y128, y127, y74, y79, y76, y137, y65, y77, y22, y46, y23, y17, y38, y4, y5, y7, y90, y136, y135, y0, y25, y58, y1, y88, y18, y124, y122, y118, y116, y111, y123, y91, y72, y197, y112, y117, y194, y125, y114, y6, y126, y101, y73, y84, y104, y12, y10, y71, Option.getD_some, y198, y201, y144, y192, y200, y154, y187, y156, y183, y155, y179, y184, y35, y186, y48, y145, y143, y191, y149, y159, y167, y162, y83, y19, y24, y53, y51, y56, y36, y28, y21, y161, y108, y98, y57, y43, y3, y119, y2, y120, y33, y182, y185, y115, y40, y139, y27, y20, y59, y14, y32, y39, y54, y45, y89, y44, y66, y85, y132, y168, y175, y190, y52, y92, hl, e, hg]
def one (c : Nat) : Str := ⟨#[c]⟩
theorem signs (a : Option O) : ∀ (ds : List D) (p : Pot) (acc : List D), ∃ (cs : List Nat) (p' : Pot), (∀ c ∈ cs, Letter c) ∧ cs.length = ds.length ∧
    lcL [2] (gSet 2) sYes (sCallM sem__law_pick 0 (sCons (sC (.str "abcdefghijklmnopqrstuvwxyz")) sNil)) ds acc [some p.o, a, none] = .ok (acc ++ cs.map fun c => .str (one c)) [some p'.o, a, none]
  | [], p, acc => ⟨[], p, by simp, rfl, by simp⟩
  | d :: r, p, acc => by
    obtain ⟨c, p1, hc, e1⟩ := pick_az p
    have e1 : sem__law_pick [p.o, .v (.str "abcdefghijklmnopqrstuvwxyz")] = .ret (.v (.str ⟨#[c]⟩)) [p1.o, .v (.str AZ)] := e1
    obtain ⟨cs, p2, hcs, hl, e2⟩ := signs a r p1 (acc ++ [.str (one c)])
    refine ⟨c :: cs, p2, fun x hx => ?_, by simp [hl], ?_⟩
    · rcases List.mem_cons.mp hx with z | z
      · rw [z]; exact hc
      · exact hcs x z
    · rw [lcL_c]
      simp only [y50, LW.argsOk, O.isV, O.d, List.all_cons, List.all_nil, Bool.and_true, Bool.true_and, Bool.and_self, List.length_cons, List.length_nil, List.map_cons, List.map_nil, List.cons_append, List.nil_append, List.replicate_succ, List.replicate_zero, Nat.reduceAdd, Nat.reduceSub, Nat.zero_add, and_self, and_true, true_and, if_true, ite_true, if_false, ite_false, List.getElem?_cons_zero, List.getElem?_cons_succ, List.set_cons_zero, List.set_cons_succ, List.set_nil, Bool.false_eq_true, reduceIte, y75, y69, y95, y87, y121, y133, y68, y82, y208, y165, y178, y158, y166, y105, y174, y94, y152, y196, y169, y140, y181, y160, y207, y209, y199, y147, y172, y148, y176, y189, y16, y67, y100, y99, y170, y141, y37, y60, y62, y138, y61, y153, y203, y180, y109, y42, y70, y206, y204, y80, y202, y188, y86, y164, y113, y107, y151, y134, y129, y11, y31, y29, y41, y26, y106, y13, y97, y30, y193, y110, y173, y142, y34, y8, y55, y15, y47, y9, y171, y93, y195, y163, y146, y131, y130, y64, y103, y81, y102, y157, y150, y205, y177, y96, y49, y63, y78, y128, y127, y74, y79, y76, y137, y65, y77, y22, y46, y23, y17, y38, y4, y5, y7, y90, y136, y135, y0, y25, y58, y1, y88, y18, y124, y122, y118, y116, y111, y123, y91, y72, y197, y112, y117, y194, y125, y114, y6, y126, y101, y73, y84, y104, y12, y10, y71, Option.getD_some, y198, y201, y144, y192, y200, y154, y187, y156, y183, y155, y179, y184, y35, y186, y48, y145, y143, y191, y149, y159, y167, y162, y83, y19, y24, y53, y51, y56, y36, y28, y21, y161, y108, y98, y57, y43, y3, y119, y2, y120, y33, y182, y185, y115, y40, y139, y27, y20, y59, y14, y32, y39, y54, y45, y89, y44, y66, y85, y132, y168, y175, y190, y52, y92, e1]
      rw [show (Str.mk #[c]) = one c from rfl, e2]
      simp
theorem joinL_nil : ∀ l : List (List Nat), TL.joinL [] l = l.flatten
  | [] => rfl
  | [p] => by simp [TL.joinL]
  | p :: q :: r => by
    show p ++ ([] ++ TL.joinL [] (q :: r)) = _
    rw [joinL_nil (q :: r)]; simp
theorem join_e (l : List (List Nat)) : Txt.join "" (l.map SX.S) = SX.S l.flatten := by
  rw [show ("" : Str) = SX.S [] from rfl, SX.join_S, joinL_nil]
theorem join_one (cs : List Nat) : Txt.join "" (cs.map one) = SX.S cs := by
  have : cs.map one = (cs.map fun c => [c]).map SX.S := by rw [List.map_map]; rfl
  rw [this, join_e]
  congr 1
  clear this
  induction cs with
  | nil => rfl
  | cons c r ih => simp [ih]
theorem strsOf_map : ∀ ys : List Str, strsOf (ys.map .str) = some ys
  | [] => rfl
  | y :: r => by simp [strsOf, strsOf_map r]
theorem gEq_int (a b : Int) : gEq (.int a) (.int b) = some (.v (.bl (decide (a = b)))) := by
  unfold gEq D.cmp
  simp [D.eqv, D.py, D.plain, PyData.eqv]
  rfl
theorem words : sem__law_words [] = .ret (.f (.l [.str "place", .str "way", .str "end"])) [] := by
  unfold sem__law_words
  simp only [y50, LW.argsOk, O.isV, O.d, List.all_cons, List.all_nil, Bool.and_true, Bool.true_and, Bool.and_self, List.length_cons, List.length_nil, List.map_cons, List.map_nil, List.cons_append, List.nil_append, List.replicate_succ, List.replicate_zero, Nat.reduceAdd, Nat.reduceSub, Nat.zero_add, and_self, and_true, true_and, if_true, ite_true, if_false, ite_false, List.getElem?_cons_zero, List.getElem?_cons_succ, List.set_cons_zero, List.set_cons_succ, List.set_nil, Bool.false_eq_true, reduceIte, y75, y69, y95, y87, y121, y133, y68, y82, y208, y165, y178, y158, y166, y105, y174, y94, y152, y196, y169, y140, y181, y160, y207, y209, y199, y147, y172, y148, y176, y189, y16, y67, y100, y99, y170, y141, y37, y60, y62, y138, y61, y153, y203, y180, y109, y42, y70, y206, y204, y80, y202, y188, y86, y164, y113, y107, y151, y134, y129, y11, y31, y29, y41, y26, y106, y13, y97, y30, y193, y110, y173, y142, y34, y8, y55, y15, y47, y9, y171, y93, y195, y163, y146, y131, y130, y64, y103, y81, y102, y157, y150, y205, y177, y96, y49, y63, y78, y128, y127, y74, y79, y76, y137, y65, y77, y22, y46, y23, y17, y38, y4, y5, y7, y90, y136, y135, y0, y25, y58, y1, y88, y18, y124, y122, y118, y116, y111, y123, y91, y72, y197, y112, y117, y194, y125, y114, y6, y126, y101, y73, y84, y104, y12, y10, y71, Option.getD_some, y198, y201, y144, y192, y200, y154, y187, y156, y183, y155, y179, y184, y35, y186, y48, y145, y143, y191, y149, y159, y167, y162, y83, y19, y24, y53, y51, y56, y36, y28, y21, y161, y108, y98, y57, y43, y3, y119, y2, y120, y33, y182, y185, y115, y40, y139, y27, y20, y59, y14, y32, y39, y54, y45, y89, y44, y66, y85, y132, y168, y175, y190, y52, y92]
theorem word (p : Pot) : ∃ (l : List Nat) (p' : Pot), sem__law_word [p.o] = .ret (.v (.str (SX.S l))) [p'.o] ∧ (∀ c ∈ l, Letter c) ∧ l.length ≤ 8 := by
  unfold sem__law_word
  obtain ⟨r, p1, e1, _, _⟩ := draw p 6 (by omega)
  by_cases hr : r = 0
  · have hr := decide_eq_true hr
    obtain ⟨d, p2, hd, e2⟩ := pick p1 [.str "place", .str "way", .str "end"] (by simp) (by simp)
    have hl : ∃ l, d = .str (SX.S l) ∧ (∀ c ∈ l, Letter c) ∧ l.length ≤ 8 := by
      simp only [List.mem_cons, List.not_mem_nil, or_false] at hd
      rcases hd with rfl | rfl | rfl
      · exact ⟨[112, 108, 97, 99, 101], by rfl, by unfold Letter; decide, by decide⟩
      · exact ⟨[119, 97, 121], by rfl, by unfold Letter; decide, by decide⟩
      · exact ⟨[101, 110, 100], by rfl, by unfold Letter; decide, by decide⟩
    obtain ⟨l, rfl, h1, h2⟩ := hl
    refine ⟨l, p2, ?_, h1, h2⟩
    simp only [y50, LW.argsOk, O.isV, O.d, List.all_cons, List.all_nil, Bool.and_true, Bool.true_and, Bool.and_self, List.length_cons, List.length_nil, List.map_cons, List.map_nil, List.cons_append, List.nil_append, List.replicate_succ, List.replicate_zero, Nat.reduceAdd, Nat.reduceSub, Nat.zero_add, and_self, and_true, true_and, if_true, ite_true, if_false, ite_false, List.getElem?_cons_zero, List.getElem?_cons_succ, List.set_cons_zero, List.set_cons_succ, List.set_nil, Bool.false_eq_true, reduceIte, y75, y69, y95, y87, y121, y133, y68, y82, y208, y165, y178, y158, y166, y105, y174, y94, y152, y196, y169, y140, y181, y160, y207, y209, y199, y147, y172, y148, y176, y189, y16, y67, y100, y99, y170, y141, y37, y60, y62, y138, y61, y153, y203, y180, y109, y42, y70, y206, y204, y80, y202, y188, y86, y164, y113, y107, y151, y134, y129, y11, y31, y29, y41, y26, y106, y13, y97, y30, y193, y110, y173, y142, y34, y8, y55, y15, y47, y9, y171, y93, y195, y163, y146, y131, y130, y64, y103, y81, y102, y157, y150, y205, y177, y96, y49, y63, y78, y128, y127, y74, y79, y76, y137, y65, y77, y22, y46, y23, y17, y38, y4, y5, y7, y90, y136, y135, y0, y25, y58, y1, y88, y18, y124, y122, y118, y116, y111, y123, y91, y72, y197, y112, y117, y194, y125, y114, y6, y126, y101, y73, y84, y104, y12, y10, y71, Option.getD_some, y198, y201, y144, y192, y200, y154, y187, y156, y183, y155, y179, y184, y35, y186, y48, y145, y143, y191, y149, y159, y167, y162, y83, y19, y24, y53, y51, y56, y36, y28, y21, y161, y108, y98, y57, y43, y3, y119, y2, y120, y33, y182, y185, y115, y40, y139, y27, y20, y59, y14, y32, y39, y54, y45, y89, y44, y66, y85, y132, y168, y175, y190, y52, y92, e1, gEq_int, hr, words, e2]
  · have hr := decide_eq_false hr
    obtain ⟨d, p2, hd, e2⟩ := pick p1 [.int 1, .int 2, .int 3, .int 5, .int 8] (by simp) (by simp)
    have hk : ∃ k : Nat, d = .int k ∧ k ≤ 8 := by
      simp only [List.mem_cons, List.not_mem_nil, or_false] at hd
      rcases hd with rfl | rfl | rfl | rfl | rfl
      · exact ⟨1, rfl, by omega⟩
      · exact ⟨2, rfl, by omega⟩
      · exact ⟨3, rfl, by omega⟩
      · exact ⟨5, rfl, by omega⟩
      · exact ⟨8, rfl, by omega⟩
    obtain ⟨k, rfl, hk⟩ := hk
    obtain ⟨cs, p3, hc, hl, e3⟩ := signs (some (.v (.int k))) (rangeD 0 k) p2 []
    have hlen : cs.length = k := by rw [hl, rangeD_len]; omega
    refine ⟨cs, p3, ?_, hc, by omega⟩
    have hj : gJoin "" (.lst (cs.map fun c => D.str (one c))) = some (.v (.str (SX.S cs))) := by
      have : (cs.map fun c => D.str (one c)) = (cs.map one).map .str := by rw [List.map_map]; rfl
      unfold gJoin
      simp only [seqOf, this, strsOf_map]
      rw [if_pos, join_one]
      have : ((cs.map one).map (·.length)).sum = cs.length := by
        rw [List.map_map]
        clear this e3 hl hc hlen
        induction cs with
        | nil => rfl
        | cons c r ih =>
          rw [List.map_cons, List.sum_cons, ih, List.length_cons]
          show 1 + r.length = r.length + 1
          omega
      rw [this]
      show cs.length + (cs.map one).length * 0 ≤ 16777216
      omega
    simp only [y50, LW.argsOk, O.isV, O.d, List.all_cons, List.all_nil, Bool.and_true, Bool.true_and, Bool.and_self, List.length_cons, List.length_nil, List.map_cons, List.map_nil, List.cons_append, List.nil_append, List.replicate_succ, List.replicate_zero, Nat.reduceAdd, Nat.reduceSub, Nat.zero_add, and_self, and_true, true_and, if_true, ite_true, if_false, ite_false, List.getElem?_cons_zero, List.getElem?_cons_succ, List.set_cons_zero, List.set_cons_succ, List.set_nil, Bool.false_eq_true, reduceIte, y75, y69, y95, y87, y121, y133, y68, y82, y208, y165, y178, y158, y166, y105, y174, y94, y152, y196, y169, y140, y181, y160, y207, y209, y199, y147, y172, y148, y176, y189, y16, y67, y100, y99, y170, y141, y37, y60, y62, y138, y61, y153, y203, y180, y109, y42, y70, y206, y204, y80, y202, y188, y86, y164, y113, y107, y151, y134, y129, y11, y31, y29, y41, y26, y106, y13, y97, y30, y193, y110, y173, y142, y34, y8, y55, y15, y47, y9, y171, y93, y195, y163, y146, y131, y130, y64, y103, y81, y102, y157, y150, y205, y177, y96, y49, y63, y78, y128, y127, y74, y79, y76, y137, y65, y77, y22, y46, y23, y17, y38, y4, y5, y7, y90, y136, y135, y0, y25, y58, y1, y88, y18, y124, y122, y118, y116, y111, y123, y91, y72, y197, y112, y117, y194, y125, y114, y6, y126, y101, y73, y84, y104, y12, y10, y71, Option.getD_some, y198, y201, y144, y192, y200, y154, y187, y156, y183, y155, y179, y184, y35, y186, y48, y145, y143, y191, y149, y159, y167, y162, y83, y19, y24, y53, y51, y56, y36, y28, y21, y161, y108, y98, y57, y43, y3, y119, y2, y120, y33, y182, y185, y115, y40, y139, y27, y20, y59, y14, y32, y39, y54, y45, y89, y44, y66, y85, y132, y168, y175, y190, y52, y92, e1, gEq_int, hr, e2, show (-1000000 ≤ (k : Int)) ∧ (k : Int) ≤ 1000000 from ⟨by omega, by omega⟩, e3, hj]
end SM

namespace SM
open PySem LW L2
theorem ia_str_str {z : Str} : gIs (D.isa CS .str) (.str z) = some (.v (.bl true)) := rfl
theorem len_str {l : List Nat} (h : l.length ≤ 100000) : gLen2 (.str (SX.S l)) = some (.v (.int l.length)) := by
  show (if (SX.S l).length ≤ sizeLine then some (P.v (.int (SX.S l).length)) else none) = _
  rw [SX.S_len, if_pos (Nat.le_trans h line_big)]
theorem len_lst {ds : List D} : gLen2 (.lst ds) = some (.v (.int ds.length)) := rfl
instance (c : Nat) : Decidable (Letter c) := inferInstanceAs (Decidable (97 ≤ c ∧ c ≤ 122))
theorem in_az (c : Nat) : gIn2 (.str ⟨#[c]⟩) (.str "abcdefghijklmnopqrstuvwxyz") = some (.v (.bl (decide (Letter c)))) := by
  show some (P.v (.bl (decide (c ∈ AZ.cps.toList)))) = _
  congr 3
  exact decide_eq_decide.mpr az_mem
theorem walk_S (l : List Nat) : ((SX.S l).cps.toList.map fun c => D.str ⟨#[c]⟩) = l.map fun c => D.str ⟨#[c]⟩ := rfl
def isLab (l : List Nat) : Bool := decide (1 ≤ l.length) && decide (l.length ≤ 8) && l.all fun c => decide (Letter c)
theorem filter_all {l : List Nat} {f : Nat → Bool} : decide ((l.filter f).length = l.length) = l.all f := by
  induction l with
  | nil => rfl
  | cons c r ih =>
    rw [List.filter_cons, List.all_cons]
    cases hf : f c with
    | true => simp only [if_true, List.length_cons, Bool.true_and, ← ih]; exact decide_eq_decide.mpr (by omega)
    | false =>
      have := List.length_filter_le f r
      simp only [Bool.false_eq_true, if_false, Bool.false_and, List.length_cons, decide_eq_false_iff_not]
      omega
theorem lc_filter {φ : D → Bool} : ∀ ds : List D, lcMap (fun d => if φ d = true then some (some d) else some none) ds = some (ds.filter φ)
  | [] => rfl
  | d :: r => by
    unfold lcMap
    rw [lc_filter r, List.filter_cons]
    cases φ d <;> rfl
theorem law_label (l : List Nat) (h : l.length ≤ 100000) : sem__law_is_label [.v (.str (SX.S l))] = .ret (.v (.bl (isLab l))) [.v (.str (SX.S l))] := by
  unfold sem__law_is_label
  have hz : (SX.S l).length ≤ sizeLine := by rw [SX.S_len]; exact Nat.le_trans h line_big
  by_cases h1 : 1 ≤ l.length
  · have h1' : decide ((1 : Int) ≤ (l.length : Int)) = true := decide_eq_true (by omega)
    by_cases h2 : l.length ≤ 8
    · have h2' : decide ((l.length : Int) ≤ 8) = true := decide_eq_true (by omega)
      let φ : D → Bool := fun d => match d with | .str s => (match s.cps.toList with | [c] => decide (Letter c) | _ => false) | _ => false
      have e := lcL_map (ow := [1]) (tg := gSet 1) (t := sTB (sOp gIn2 true (sVar 1) (sC (.str "abcdefghijklmnopqrstuvwxyz")))) (f := sVar 1) (φ := fun d => if φ d = true then some (some d) else some none)
        (ρ0 := [some (.v (.str (SX.S l))), none]) (ds := l.map fun c => D.str ⟨#[c]⟩) (acc := []) (fun d hd z hz => by
          obtain ⟨c, _, rfl⟩ := List.mem_map.mp hd
          have hφ : φ (.str ⟨#[c]⟩) = decide (Letter c) := rfl
          rw [hφ] at hz
          by_cases hc : Letter c
          · rw [decide_eq_true hc] at hz
            cases hz
            refine ⟨_, [some (.v (.str (SX.S l))), some (.v (.str ⟨#[c]⟩))], rfl, ⟨[some (.v (.str (SX.S l))), some (.v (.str ⟨#[c]⟩))], ?_, ?_⟩, rfl⟩
            · simp only [y50, LW.argsOk, O.isV, O.d, List.all_cons, List.all_nil, Bool.and_true, Bool.true_and, Bool.and_self, List.length_cons, List.length_nil, List.map_cons, List.map_nil, List.cons_append, List.nil_append, List.replicate_succ, List.replicate_zero, Nat.reduceAdd, Nat.reduceSub, Nat.zero_add, and_self, and_true, true_and, if_true, ite_true, if_false, ite_false, List.getElem?_cons_zero, List.getElem?_cons_succ, List.set_cons_zero, List.set_cons_succ, List.set_nil, Bool.false_eq_true, reduceIte, y75, y69, y95, y87, y121, y133, y68, y82, y208, y165, y178, y158, y166, y105, y174, y94, y152, y196, y169, y140, y181, y160, y207, y209, y199, y147, y172, y148, y176, y189, y16, y67, y100, y99, y170, y141, y37, y60, y62, y138, y61, y153, y203, y180, y109, y42, y70, y206, y204, y80, y202, y188, y86, y164, y113, y107, y151, y134, y129, y11, y31, y29, y41, y26, y106, y13, y97, y30, y193, y110, y173, y142, y34, y8, y55, y15, y47, y9, y171, y93, y195, y163, y146, y131, y130, y64, y103, y81, y102, y157, y150, y205, y177, y96, y49, y63, y78, y128, y127, y74, y79, y76, y137, y65, y77, y22, y46, y23, y17, y38, y4, y5, y7, y90, y136, y135, y0, y25, y58, y1, y88, y18, y124, y122, y118, y116, y111, y123, y91, y72, y197, y112, y117, y194, y125, y114, y6, y126, y101, y73, y84, y104, y12, y10, y71, Option.getD_some, y198, y201, y144, y192, y200, y154, y187, y156, y183, y155, y179, y184, y35, y186, y48, y145, y143, y191, y149, y159, y167, y162, y83, y19, y24, y53, y51, y56, y36, y28, y21, y161, y108, y98, y57, y43, y3, y119, y2, y120, y33, y182, y185, y115, y40, y139, y27, y20, y59, y14, y32, y39, y54, y45, y89, y44, y66, y85, y132, y168, y175, y190, y52, y92, in_az, decide_eq_true hc]
            · simp only [y50, LW.argsOk, O.isV, O.d, List.all_cons, List.all_nil, Bool.and_true, Bool.true_and, Bool.and_self, List.length_cons, List.length_nil, List.map_cons, List.map_nil, List.cons_append, List.nil_append, List.replicate_succ, List.replicate_zero, Nat.reduceAdd, Nat.reduceSub, Nat.zero_add, and_self, and_true, true_and, if_true, ite_true, if_false, ite_false, List.getElem?_cons_zero, List.getElem?_cons_succ, List.set_cons_zero, List.set_cons_succ, List.set_nil, Bool.false_eq_true, reduceIte, y75, y69, y95, y87, y121, y133, y68, y82, y208, y165, y178, y158, y166, y105, y174, y94, y152, y196, y169, y140, y181, y160, y207, y209, y199, y147, y172, y148, y176, y189, y16, y67, y100, y99, y170, y141, y37, y60, y62, y138, y61, y153, y203, y180, y109, y42, y70, y206, y204, y80, y202, y188, y86, y164, y113, y107, y151, y134, y129, y11, y31, y29, y41, y26, y106, y13, y97, y30, y193, y110, y173, y142, y34, y8, y55, y15, y47, y9, y171, y93, y195, y163, y146, y131, y130, y64, y103, y81, y102, y157, y150, y205, y177, y96, y49, y63, y78, y128, y127, y74, y79, y76, y137, y65, y77, y22, y46, y23, y17, y38, y4, y5, y7, y90, y136, y135, y0, y25, y58, y1, y88, y18, y124, y122, y118, y116, y111, y123, y91, y72, y197, y112, y117, y194, y125, y114, y6, y126, y101, y73, y84, y104, y12, y10, y71, Option.getD_some, y198, y201, y144, y192, y200, y154, y187, y156, y183, y155, y179, y184, y35, y186, y48, y145, y143, y191, y149, y159, y167, y162, y83, y19, y24, y53, y51, y56, y36, y28, y21, y161, y108, y98, y57, y43, y3, y119, y2, y120, y33, y182, y185, y115, y40, y139, y27, y20, y59, y14, y32, y39, y54, y45, y89, y44, y66, y85, y132, y168, y175, y190, y52, y92]
          · rw [decide_eq_false hc] at hz
            cases hz
            refine ⟨_, [some (.v (.str (SX.S l))), some (.v (.str ⟨#[c]⟩))], rfl, ?_, rfl⟩
            simp only
            simp only [y50, LW.argsOk, O.isV, O.d, List.all_cons, List.all_nil, Bool.and_true, Bool.true_and, Bool.and_self, List.length_cons, List.length_nil, List.map_cons, List.map_nil, List.cons_append, List.nil_append, List.replicate_succ, List.replicate_zero, Nat.reduceAdd, Nat.reduceSub, Nat.zero_add, and_self, and_true, true_and, if_true, ite_true, if_false, ite_false, List.getElem?_cons_zero, List.getElem?_cons_succ, List.set_cons_zero, List.set_cons_succ, List.set_nil, Bool.false_eq_true, reduceIte, y75, y69, y95, y87, y121, y133, y68, y82, y208, y165, y178, y158, y166, y105, y174, y94, y152, y196, y169, y140, y181, y160, y207, y209, y199, y147, y172, y148, y176, y189, y16, y67, y100, y99, y170, y141, y37, y60, y62, y138, y61, y153, y203, y180, y109, y42, y70, y206, y204, y80, y202, y188, y86, y164, y113, y107, y151, y134, y129, y11, y31, y29, y41, y26, y106, y13, y97, y30, y193, y110, y173, y142, y34, y8, y55, y15, y47, y9, y171, y93, y195, y163, y146, y131, y130, y64, y103, y81, y102, y157, y150, y205, y177, y96, y49, y63, y78, y128, y127, y74, y79, y76, y137, y65, y77, y22, y46, y23, y17, y38, y4, y5, y7, y90, y136, y135, y0, y25, y58, y1, y88, y18, y124, y122, y118, y116, y111, y123, y91, y72, y197, y112, y117, y194, y125, y114, y6, y126, y101, y73, y84, y104, y12, y10, y71, Option.getD_some, y198, y201, y144, y192, y200, y154, y187, y156, y183, y155, y179, y184, y35, y186, y48, y145, y143, y191, y149, y159, y167, y162, y83, y19, y24, y53, y51, y56, y36, y28, y21, y161, y108, y98, y57, y43, y3, y119, y2, y120, y33, y182, y185, y115, y40, y139, y27, y20, y59, y14, y32, y39, y54, y45, y89, y44, y66, y85, y132, y168, y175, y190, y52, y92, in_az, decide_eq_false hc]) (lc_filter _)
      have hf : (List.filter φ (l.map fun c => D.str ⟨#[c]⟩)).length = (l.filter fun c => decide (Letter c)).length := by
        rw [List.filter_map, List.length_map]; rfl
      have hn : ((([] : List D) ++ List.filter φ (l.map fun c => D.str ⟨#[c]⟩)).length : Int) = ((l.filter fun c => decide (Letter c)).length : Int) := by rw [List.nil_append, hf]
      have hd : decide (((l.filter fun c => decide (Letter c)).length : Int) = (l.length : Int)) = l.all fun c => decide (Letter c) := by
        rw [← filter_all]; exact decide_eq_decide.mpr (by omega)
      simp only [y50, LW.argsOk, O.isV, O.d, List.all_cons, List.all_nil, Bool.and_true, Bool.true_and, Bool.and_self, List.length_cons, List.length_nil, List.map_cons, List.map_nil, List.cons_append, List.nil_append, List.replicate_succ, List.replicate_zero, Nat.reduceAdd, Nat.reduceSub, Nat.zero_add, and_self, and_true, true_and, if_true, ite_true, if_false, ite_false, List.getElem?_cons_zero, List.getElem?_cons_succ, List.set_cons_zero, List.set_cons_succ, List.set_nil, Bool.false_eq_true, reduceIte, y75, y69, y95, y87, y121, y133, y68, y82, y208, y165, y178, y158, y166, y105, y174, y94, y152, y196, y169, y140, y181, y160, y207, y209, y199, y147, y172, y148, y176, y189, y16, y67, y100, y99, y170, y141, y37, y60, y62, y138, y61, y153, y203, y180, y109, y42, y70, y206, y204, y80, y202, y188, y86, y164, y113, y107, y151, y134, y129, y11, y31, y29, y41, y26, y106, y13, y97, y30, y193, y110, y173, y142, y34, y8, y55, y15, y47, y9, y171, y93, y195, y163, y146, y131, y130, y64, y103, y81, y102, y157, y150, y205, y177, y96, y49, y63, y78, y128, y127, y74, y79, y76, y137, y65, y77, y22, y46, y23, y17, y38, y4, y5, y7, y90, y136, y135, y0, y25, y58, y1, y88, y18, y124, y122, y118, y116, y111, y123, y91, y72, y197, y112, y117, y194, y125, y114, y6, y126, y101, y73, y84, y104, y12, y10, y71, Option.getD_some, y198, y201, y144, y192, y200, y154, y187, y156, y183, y155, y179, y184, y35, y186, y48, y145, y143, y191, y149, y159, y167, y162, y83, y19, y24, y53, y51, y56, y36, y28, y21, y161, y108, y98, y57, y43, y3, y119, y2, y120, y33, y182, y185, y115, y40, y139, y27, y20, y59, y14, y32, y39, y54, y45, y89, y44, y66, y85, y132, y168, y175, y190, y52, y92, ia_str_str, Bool.not_true, len_str h, gLe, h1', h2', seqH_s hz, walk_S, e, len_lst, hn, gEq_int, hd]
      simp [isLab, h1, h2]
      rw [hf]; exact hd
    · have h2' : decide ((l.length : Int) ≤ 8) = false := decide_eq_false (by omega)
      simp only [y50, LW.argsOk, O.isV, O.d, List.all_cons, List.all_nil, Bool.and_true, Bool.true_and, Bool.and_self, List.length_cons, List.length_nil, List.map_cons, List.map_nil, List.cons_append, List.nil_append, List.replicate_succ, List.replicate_zero, Nat.reduceAdd, Nat.reduceSub, Nat.zero_add, and_self, and_true, true_and, if_true, ite_true, if_false, ite_false, List.getElem?_cons_zero, List.getElem?_cons_succ, List.set_cons_zero, List.set_cons_succ, List.set_nil, Bool.false_eq_true, reduceIte, y75, y69, y95, y87, y121, y133, y68, y82, y208, y165, y178, y158, y166, y105, y174, y94, y152, y196, y169, y140, y181, y160, y207, y209, y199, y147, y172, y148, y176, y189, y16, y67, y100, y99, y170, y141, y37, y60, y62, y138, y61, y153, y203, y180, y109, y42, y70, y206, y204, y80, y202, y188, y86, y164, y113, y107, y151, y134, y129, y11, y31, y29, y41, y26, y106, y13, y97, y30, y193, y110, y173, y142, y34, y8, y55, y15, y47, y9, y171, y93, y195, y163, y146, y131, y130, y64, y103, y81, y102, y157, y150, y205, y177, y96, y49, y63, y78, y128, y127, y74, y79, y76, y137, y65, y77, y22, y46, y23, y17, y38, y4, y5, y7, y90, y136, y135, y0, y25, y58, y1, y88, y18, y124, y122, y118, y116, y111, y123, y91, y72, y197, y112, y117, y194, y125, y114, y6, y126, y101, y73, y84, y104, y12, y10, y71, Option.getD_some, y198, y201, y144, y192, y200, y154, y187, y156, y183, y155, y179, y184, y35, y186, y48, y145, y143, y191, y149, y159, y167, y162, y83, y19, y24, y53, y51, y56, y36, y28, y21, y161, y108, y98, y57, y43, y3, y119, y2, y120, y33, y182, y185, y115, y40, y139, y27, y20, y59, y14, y32, y39, y54, y45, y89, y44, y66, y85, y132, y168, y175, y190, y52, y92, ia_str_str, Bool.not_true, Bool.not_false, len_str h, gLe, h1', h2']
      simp [isLab, h2]
  · have h1' : decide ((1 : Int) ≤ (l.length : Int)) = false := decide_eq_false (by omega)
    simp only [y50, LW.argsOk, O.isV, O.d, List.all_cons, List.all_nil, Bool.and_true, Bool.true_and, Bool.and_self, List.length_cons, List.length_nil, List.map_cons, List.map_nil, List.cons_append, List.nil_append, List.replicate_succ, List.replicate_zero, Nat.reduceAdd, Nat.reduceSub, Nat.zero_add, and_self, and_true, true_and, if_true, ite_true, if_false, ite_false, List.getElem?_cons_zero, List.getElem?_cons_succ, List.set_cons_zero, List.set_cons_succ, List.set_nil, Bool.false_eq_true, reduceIte, y75, y69, y95, y87, y121, y133, y68, y82, y208, y165, y178, y158, y166, y105, y174, y94, y152, y196, y169, y140, y181, y160, y207, y209, y199, y147, y172, y148, y176, y189, y16, y67, y100, y99, y170, y141, y37, y60, y62, y138, y61, y153, y203, y180, y109, y42, y70, y206, y204, y80, y202, y188, y86, y164, y113, y107, y151, y134, y129, y11, y31, y29, y41, y26, y106, y13, y97, y30, y193, y110, y173, y142, y34, y8, y55, y15, y47, y9, y171, y93, y195, y163, y146, y131, y130, y64, y103, y81, y102, y157, y150, y205, y177, y96, y49, y63, y78, y128, y127, y74, y79, y76, y137, y65, y77, y22, y46, y23, y17, y38, y4, y5, y7, y90, y136, y135, y0, y25, y58, y1, y88, y18, y124, y122, y118, y116, y111, y123, y91, y72, y197, y112, y117, y194, y125, y114, y6, y126, y101, y73, y84, y104, y12, y10, y71, Option.getD_some, y198, y201, y144, y192, y200, y154, y187, y156, y183, y155, y179, y184, y35, y186, y48, y145, y143, y191, y149, y159, y167, y162, y83, y19, y24, y53, y51, y56, y36, y28, y21, y161, y108, y98, y57, y43, y3, y119, y2, y120, y33, y182, y185, y115, y40, y139, y27, y20, y59, y14, y32, y39, y54, y45, y89, y44, y66, y85, y132, y168, y175, y190, y52, y92, ia_str_str, Bool.not_true, Bool.not_false, len_str h, gLe, h1']
    simp [isLab, h1]
def W3 : List (List Nat) := [[112, 108, 97, 99, 101], [119, 97, 121], [101, 110, 100]]
theorem w3_strs : ([.str "place", .str "way", .str "end"] : List D) = W3.map fun l => D.str (SX.S l) := rfl
theorem plainL_strs {n : Nat} : ∀ ys : List Str, (∀ y ∈ ys, PyData.strOk y = true) → D.plainL n (ys.map .str) = true
  | [], _ => rfl
  | y :: r, h => by
    simp [D.plainL, D.plain, plainL_strs r fun z hz => h z (List.mem_cons_of_mem _ hz), h y List.mem_cons_self]
def Okl (l : List Nat) : Prop := ∀ c ∈ l, c < 1114112
theorem okl_S {l : List Nat} (h : Okl l) : PyData.strOk (SX.S l) = true := by
  unfold PyData.strOk SX.S
  rw [Array.all_eq_true']
  intro x hx
  exact decide_eq_true (h x (by simpa using hx))
theorem okl_let {l : List Nat} (h : ∀ c ∈ l, Letter c) : Okl l := fun c hc => by have := (h c hc).2; omega
theorem inL_strs (s : Str) : ∀ ys : List Str, inL (.str s) (ys.map .str) = decide (s ∈ ys)
  | [] => by simp [inL, D.pyL]
  | y :: r => by
    have ih := inL_strs s r
    unfold inL at ih ⊢
    simp only [List.map_cons, D.pyL, List.any_cons, ih, D.py, PyData.eqv]
    rw [show decide (s ∈ y :: r) = (decide (s = y) || decide (s ∈ r)) by simp only [List.mem_cons, Bool.decide_or]]
    simp only [D.py] at ih
    rw [ih]
    congr 1
    by_cases h : y = s
    · subst h; simp
    · rw [decide_eq_false (fun z => h z.symm)]; exact beq_eq_false_iff_ne.mpr h
theorem mem_strs (s : Str) (ys : List Str) (h1 : PyData.strOk s = true) (h2 : ∀ y ∈ ys, PyData.strOk y = true) : D.mem (.str s) (.lst (ys.map .str)) = some (decide (s ∈ ys)) := by
  show (if D.plain 59 (.str s) = true ∧ D.plainL 59 (ys.map .str) = true then some (inL (.str s) (ys.map .str)) else none) = _
  rw [if_pos ⟨by simp [D.plain, h1], plainL_strs ys h2⟩, inL_strs]
theorem notIn_strs (s : Str) (ys : List Str) (h1 : PyData.strOk s = true) (h2 : ∀ y ∈ ys, PyData.strOk y = true) : gNotIn2 (.str s) (.lst (ys.map .str)) = some (.v (.bl (!decide (s ∈ ys)))) := by
  show (D.mem (.str s) (.lst (ys.map .str))).map _ = _
  rw [mem_strs s ys h1 h2]; rfl
theorem mem_S {l : List Nat} {ls : List (List Nat)} : SX.S l ∈ ls.map SX.S ↔ l ∈ ls := by
  rw [List.mem_map]
  constructor
  · rintro ⟨a, h, e⟩; rw [← SX.S_inj e]; exact h
  · intro h; exact ⟨l, h, rfl⟩
theorem notIn_S (l : List Nat) (ls : List (List Nat)) (h1 : Okl l) (h2 : ∀ m ∈ ls, Okl m) : gNotIn2 (.str (SX.S l)) (.lst (ls.map fun l => .str (SX.S l))) = some (.v (.bl (!decide (l ∈ ls)))) := by
  have := notIn_strs (SX.S l) (ls.map SX.S) (okl_S h1) (fun y hy => by obtain ⟨m, hm, rfl⟩ := List.mem_map.mp hy; exact okl_S (h2 m hm))
  rw [List.map_map] at this
  rw [show (ls.map fun l => D.str (SX.S l)) = ls.map (D.str ∘ SX.S) from rfl, this]
  simp only [mem_S]
def isNam (l : List Nat) : Bool := isLab l && !decide (l ∈ W3)
theorem w3_ok : ∀ m ∈ W3, Okl m := by unfold Okl W3; decide
theorem law_name (l : List Nat) (h : l.length ≤ 100000) (ho : Okl l) : sem__law_is_name [.v (.str (SX.S l))] = .ret (.v (.bl (isNam l))) [.v (.str (SX.S l))] := by
  unfold sem__law_is_name
  have e := law_label l h
  cases hl : isLab l with
  | false =>
    rw [hl] at e
    simp only [y50, LW.argsOk, O.isV, O.d, List.all_cons, List.all_nil, Bool.and_true, Bool.true_and, Bool.and_self, List.length_cons, List.length_nil, List.map_cons, List.map_nil, List.cons_append, List.nil_append, List.replicate_succ, List.replicate_zero, Nat.reduceAdd, Nat.reduceSub, Nat.zero_add, and_self, and_true, true_and, if_true, ite_true, if_false, ite_false, List.getElem?_cons_zero, List.getElem?_cons_succ, List.set_cons_zero, List.set_cons_succ, List.set_nil, Bool.false_eq_true, reduceIte, y75, y69, y95, y87, y121, y133, y68, y82, y208, y165, y178, y158, y166, y105, y174, y94, y152, y196, y169, y140, y181, y160, y207, y209, y199, y147, y172, y148, y176, y189, y16, y67, y100, y99, y170, y141, y37, y60, y62, y138, y61, y153, y203, y180, y109, y42, y70, y206, y204, y80, y202, y188, y86, y164, y113, y107, y151, y134, y129, y11, y31, y29, y41, y26, y106, y13, y97, y30, y193, y110, y173, y142, y34, y8, y55, y15, y47, y9, y171, y93, y195, y163, y146, y131, y130, y64, y103, y81, y102, y157, y150, y205, y177, y96, y49, y63, y78, y128, y127, y74, y79, y76, y137, y65, y77, y22, y46, y23, y17, y38, y4, y5, y7, y90, y136, y135, y0, y25, y58, y1, y88, y18, y124, y122, y118, y116, y111, y123, y91, y72, y197, y112, y117, y194, y125, y114, y6, y126, y101, y73, y84, y104, y12, y10, y71, Option.getD_some, y198, y201, y144, y192, y200, y154, y187, y156, y183, y155, y179, y184, y35, y186, y48, y145, y143, y191, y149, y159, y167, y162, y83, y19, y24, y53, y51, y56, y36, y28, y21, y161, y108, y98, y57, y43, y3, y119, y2, y120, y33, y182, y185, y115, y40, y139, y27, y20, y59, y14, y32, y39, y54, y45, y89, y44, y66, y85, y132, y168, y175, y190, y52, y92, e]
    simp [isNam, hl]
  | true =>
    rw [hl] at e
    simp only [y50, LW.argsOk, O.isV, O.d, List.all_cons, List.all_nil, Bool.and_true, Bool.true_and, Bool.and_self, List.length_cons, List.length_nil, List.map_cons, List.map_nil, List.cons_append, List.nil_append, List.replicate_succ, List.replicate_zero, Nat.reduceAdd, Nat.reduceSub, Nat.zero_add, and_self, and_true, true_and, if_true, ite_true, if_false, ite_false, List.getElem?_cons_zero, List.getElem?_cons_succ, List.set_cons_zero, List.set_cons_succ, List.set_nil, Bool.false_eq_true, reduceIte, y75, y69, y95, y87, y121, y133, y68, y82, y208, y165, y178, y158, y166, y105, y174, y94, y152, y196, y169, y140, y181, y160, y207, y209, y199, y147, y172, y148, y176, y189, y16, y67, y100, y99, y170, y141, y37, y60, y62, y138, y61, y153, y203, y180, y109, y42, y70, y206, y204, y80, y202, y188, y86, y164, y113, y107, y151, y134, y129, y11, y31, y29, y41, y26, y106, y13, y97, y30, y193, y110, y173, y142, y34, y8, y55, y15, y47, y9, y171, y93, y195, y163, y146, y131, y130, y64, y103, y81, y102, y157, y150, y205, y177, y96, y49, y63, y78, y128, y127, y74, y79, y76, y137, y65, y77, y22, y46, y23, y17, y38, y4, y5, y7, y90, y136, y135, y0, y25, y58, y1, y88, y18, y124, y122, y118, y116, y111, y123, y91, y72, y197, y112, y117, y194, y125, y114, y6, y126, y101, y73, y84, y104, y12, y10, y71, Option.getD_some, y198, y201, y144, y192, y200, y154, y187, y156, y183, y155, y179, y184, y35, y186, y48, y145, y143, y191, y149, y159, y167, y162, y83, y19, y24, y53, y51, y56, y36, y28, y21, y161, y108, y98, y57, y43, y3, y119, y2, y120, y33, y182, y185, y115, y40, y139, y27, y20, y59, y14, y32, y39, y54, y45, y89, y44, y66, y85, y132, y168, y175, y190, y52, y92, e, words, w3_strs, notIn_S l W3 ho w3_ok]
    simp [isNam, hl]
theorem pigeon {α : Type} [DecidableEq α] : ∀ (xs ys : List α), xs.Nodup → (∀ x ∈ xs, x ∈ ys) → xs.length ≤ ys.length
  | [], _, _, _ => Nat.zero_le _
  | x :: r, ys, hn, hs => by
    have hx : x ∈ ys := hs x List.mem_cons_self
    have hr : ∀ z ∈ r, z ∈ ys.erase x := fun z hz => by
      have hne : z ≠ x := fun e => (List.nodup_cons.mp hn).1 (e ▸ hz)
      exact (List.mem_erase_of_ne hne).mpr (hs z (List.mem_cons_of_mem _ hz))
    have ih := pigeon r (ys.erase x) (List.nodup_cons.mp hn).2 hr
    rw [List.length_erase_of_mem hx] at ih
    have : 0 < ys.length := List.length_pos_of_mem hx
    rw [List.length_cons]; omega
end SM

namespace SM
open PySem LW L2
def sS (l : List Nat) : D := .str (SX.S l)
def Names (fs : List (List Nat)) : Prop := fs.Nodup ∧ ∀ l ∈ fs, isNam l = true
theorem isNam_let {l : List Nat} (h : isNam l = true) : ∀ c ∈ l, Letter c := fun c hc => by
  unfold isNam isLab at h
  simp only [Bool.and_eq_true, List.all_eq_true, decide_eq_true_eq] at h
  exact h.1.2 c hc
theorem Names.okl {fs : List (List Nat)} (h : Names fs) : ∀ m ∈ fs, Okl m := fun m hm => okl_let (isNam_let (h.2 m hm))
theorem cut7 (l : List Nat) (h : l.length ≤ 100000) : gSl (sS l) none (some 7) = some (.v (sS (l.take 7))) := by
  show (if (SX.S l).length ≤ sizeLine then some (P.v (.str (cutS (SX.S l) none (some 7)))) else none) = _
  rw [if_pos (by rw [SX.S_len]; exact Nat.le_trans h line_big)]
  have : cutS (SX.S l) none (some 7) = SX.S (l.take 7) := by
    rw [C8.cutS_slice, SX.slice_to (by omega)]; rfl
  rw [this]; rfl
theorem add_S {a b : List Nat} (h : a.length + b.length ≤ 100000) : gAdd (sS a) (sS b) = some (.v (sS (a ++ b))) := by
  show (if (SX.S a).length + (SX.S b).length ≤ sizeLine then some (P.v (.str (SX.S a ++ SX.S b))) else none) = _
  rw [SX.S_len, SX.S_len, if_pos (Nat.le_trans h line_big), SX.S_cat]; rfl
def namesBody : LW.Env → LW.Flow :=
  sSeq (sSet 4 (sSl true (sCallM (sem__law_word) 0 (sNil)) (oNone) (oPart (sC (.int 7)))))
  (sSeq (sSet 5 (sLc [6] (hSeq (sC (.str "abcdefghijklmnopqrstuvwxyz"))) (gSet 6) (sYes) (sOp gAdd true (sVar 4) (sVar 6))))
  (sExp (sLm gApp (.sl 2) (sOp gIx2 true (sLc [7] (hSeq (sFrz 5)) (gSet 7) (sAndT (sTB (sOp gNotIn2 true (sVar 7) (sVar 2))) (sTB (sCall (sem__law_is_name) (sCons (sVar 7) (sNil))))) (sVar 7)) (sC (.int 0))))))
theorem az_walk : (AZ.cps.toList.map fun c => D.str ⟨#[c]⟩) = ((List.range 26).map fun i => [i + 97]).map sS := by
  rw [az_list, List.map_map, List.map_map]; rfl
theorem az_line : AZ.length ≤ sizeLine := by rw [az_len]; have := line_big; omega
theorem names_turn (p : Pot) (fs : List (List Nat)) (a1 a3 a4 a5 : Option O) (hn : Names fs) (hl : fs.length ≤ 20) :
    ∃ (l : List Nat) (p' : Pot) (a4' a5' : Option O), namesBody [some p.o, a1, some (.l (fs.map sS)), a3, a4, a5, none, none] = .next [some p'.o, a1, some (.l ((fs ++ [l]).map sS)), a3, a4', a5', none, none] ∧ Names (fs ++ [l]) := by
  obtain ⟨w0, p1, e1, hw, hwl⟩ := word p
  have e1 : sem__law_word [p.o] = .ret (.v (sS w0)) [p1.o] := e1
  generalize hw1 : w0.take 7 = w
  have hwL : ∀ c ∈ w, Letter c := fun c hc => hw c (by rw [← hw1] at hc; exact List.mem_of_mem_take hc)
  have hw7 : w.length ≤ 7 := by rw [← hw1, List.length_take]; omega
  let cands : List (List Nat) := (List.range 26).map fun i => w ++ [i + 97]
  have hcl : ∀ l ∈ cands, l.length ≤ 8 ∧ isLab l = true ∧ Okl l := fun l hm => by
    obtain ⟨i, hi, rfl⟩ := List.mem_map.mp hm
    have hi := List.mem_range.mp hi
    have hL : ∀ c ∈ w ++ [i + 97], Letter c := fun c hc => by
      rcases List.mem_append.mp hc with z | z
      · exact hwL c z
      · rw [List.mem_singleton.mp z]; exact ⟨by omega, by omega⟩
    refine ⟨by simp; omega, ?_, okl_let hL⟩
    unfold isLab
    simp only [Bool.and_eq_true, decide_eq_true_eq, List.all_eq_true]
    exact ⟨⟨by simp, by simp; omega⟩, hL⟩
  have e2 := lcL_map (ow := [6]) (tg := gSet 6) (t := sYes) (f := sOp gAdd true (sVar 4) (sVar 6)) (φ := fun d => match d with | .str s => some (some (sS (w ++ s.cps.toList))) | _ => none)
    (ρ0 := [some p1.o, a1, some (.l (fs.map sS)), a3, some (.v (sS w)), a5, none, none]) (ds := ((List.range 26).map fun i => [i + 97]).map sS) (acc := []) (ys := cands.map sS) (fun d hd z hz => by
      obtain ⟨s, hs, rfl⟩ := List.mem_map.mp hd
      obtain ⟨i, hi, rfl⟩ := List.mem_map.mp hs
      cases hz
      refine ⟨_, [some p1.o, a1, some (.l (fs.map sS)), a3, some (.v (sS w)), a5, some (.v (sS [i + 97])), none], rfl, ⟨_, rfl, ?_⟩, rfl⟩
      simp only [y50, LW.argsOk, O.isV, O.d, List.all_cons, List.all_nil, Bool.and_true, Bool.true_and, Bool.and_self, List.length_cons, List.length_nil, List.map_cons, List.map_nil, List.cons_append, List.nil_append, List.replicate_succ, List.replicate_zero, Nat.reduceAdd, Nat.reduceSub, Nat.zero_add, and_self, and_true, true_and, if_true, ite_true, if_false, ite_false, List.getElem?_cons_zero, List.getElem?_cons_succ, List.set_cons_zero, List.set_cons_succ, List.set_nil, Bool.false_eq_true, reduceIte, y75, y69, y95, y87, y121, y133, y68, y82, y208, y165, y178, y158, y166, y105, y174, y94, y152, y196, y169, y140, y181, y160, y207, y209, y199, y147, y172, y148, y176, y189, y16, y67, y100, y99, y170, y141, y37, y60, y62, y138, y61, y153, y203, y180, y109, y42, y70, y206, y204, y80, y202, y188, y86, y164, y113, y107, y151, y134, y129, y11, y31, y29, y41, y26, y106, y13, y97, y30, y193, y110, y173, y142, y34, y8, y55, y15, y47, y9, y171, y93, y195, y163, y146, y131, y130, y64, y103, y81, y102, y157, y150, y205, y177, y96, y49, y63, y78, y128, y127, y74, y79, y76, y137, y65, y77, y22, y46, y23, y17, y38, y4, y5, y7, y90, y136, y135, y0, y25, y58, y1, y88, y18, y124, y122, y118, y116, y111, y123, y91, y72, y197, y112, y117, y194, y125, y114, y6, y126, y101, y73, y84, y104, y12, y10, y71, Option.getD_some, y198, y201, y144, y192, y200, y154, y187, y156, y183, y155, y179, y184, y35, y186, y48, y145, y143, y191, y149, y159, y167, y162, y83, y19, y24, y53, y51, y56, y36, y28, y21, y161, y108, y98, y57, y43, y3, y119, y2, y120, y33, y182, y185, y115, y40, y139, y27, y20, y59, y14, y32, y39, y54, y45, y89, y44, y66, y85, y132, y168, y175, y190, y52, y92, add_S (a := w) (b := [i + 97]) (by simp; omega)]) (by
      have := lcMap_all (φ := fun d => match d with | .str s => some (some (sS (w ++ s.cps.toList))) | _ => none) (ψ := fun d => match d with | .str s => sS (w ++ s.cps.toList) | d => d) (ds := ((List.range 26).map fun i => [i + 97]).map sS) (fun d hd => by
        obtain ⟨s, hs, rfl⟩ := List.mem_map.mp hd; rfl)
      rw [this, List.map_map, List.map_map, List.map_map]; rfl)
  let good : List Nat → Bool := fun l => !decide (l ∈ fs) && isNam l
  let φ : D → Bool := fun d => match d with | .str s => good s.cps.toList | _ => false
  have e3 := fun (a : Option O) => lcL_map (ow := [7]) (tg := gSet 7) (t := sAndT (sTB (sOp gNotIn2 true (sVar 7) (sVar 2))) (sTB (sCall (sem__law_is_name) (sCons (sVar 7) (sNil))))) (f := sVar 7) (φ := fun d => if φ d = true then some (some d) else some none)
    (ρ0 := [some p1.o, a1, some (.l (fs.map sS)), a3, some (.v (sS w)), a, none, none]) (ds := cands.map sS) (acc := []) (fun d hd z hz => by
      obtain ⟨l, hl, rfl⟩ := List.mem_map.mp hd
      obtain ⟨h8, _, hok⟩ := hcl l hl
      have hφ : φ (sS l) = good l := rfl
      rw [hφ] at hz
      have en : gNotIn2 (sS l) (.lst (fs.map sS)) = some (.v (.bl (!decide (l ∈ fs)))) := notIn_S l fs hok hn.okl
      have el := law_name l (by omega) hok
      have el : sem__law_is_name [.v (sS l)] = .ret (.v (.bl (isNam l))) [.v (sS l)] := el
      by_cases h1 : l ∈ fs
      · have h1' := decide_eq_true h1
        rw [show good l = false by simp [good, h1]] at hz
        cases hz
        refine ⟨_, [some p1.o, a1, some (.l (fs.map sS)), a3, some (.v (sS w)), a, none, some (.v (sS l))], rfl, ?_, rfl⟩
        simp only
        simp only [y50, LW.argsOk, O.isV, O.d, List.all_cons, List.all_nil, Bool.and_true, Bool.true_and, Bool.and_self, List.length_cons, List.length_nil, List.map_cons, List.map_nil, List.cons_append, List.nil_append, List.replicate_succ, List.replicate_zero, Nat.reduceAdd, Nat.reduceSub, Nat.zero_add, and_self, and_true, true_and, if_true, ite_true, if_false, ite_false, List.getElem?_cons_zero, List.getElem?_cons_succ, List.set_cons_zero, List.set_cons_succ, List.set_nil, Bool.false_eq_true, reduceIte, y75, y69, y95, y87, y121, y133, y68, y82, y208, y165, y178, y158, y166, y105, y174, y94, y152, y196, y169, y140, y181, y160, y207, y209, y199, y147, y172, y148, y176, y189, y16, y67, y100, y99, y170, y141, y37, y60, y62, y138, y61, y153, y203, y180, y109, y42, y70, y206, y204, y80, y202, y188, y86, y164, y113, y107, y151, y134, y129, y11, y31, y29, y41, y26, y106, y13, y97, y30, y193, y110, y173, y142, y34, y8, y55, y15, y47, y9, y171, y93, y195, y163, y146, y131, y130, y64, y103, y81, y102, y157, y150, y205, y177, y96, y49, y63, y78, y128, y127, y74, y79, y76, y137, y65, y77, y22, y46, y23, y17, y38, y4, y5, y7, y90, y136, y135, y0, y25, y58, y1, y88, y18, y124, y122, y118, y116, y111, y123, y91, y72, y197, y112, y117, y194, y125, y114, y6, y126, y101, y73, y84, y104, y12, y10, y71, Option.getD_some, y198, y201, y144, y192, y200, y154, y187, y156, y183, y155, y179, y184, y35, y186, y48, y145, y143, y191, y149, y159, y167, y162, y83, y19, y24, y53, y51, y56, y36, y28, y21, y161, y108, y98, y57, y43, y3, y119, y2, y120, y33, y182, y185, y115, y40, y139, y27, y20, y59, y14, y32, y39, y54, y45, y89, y44, y66, y85, y132, y168, y175, y190, y52, y92, en, h1', Bool.not_true]
      · have h1' := decide_eq_false h1
        cases h2 : isNam l with
        | true =>
          rw [show good l = true by simp [good, h1, h2]] at hz
          cases hz
          refine ⟨_, [some p1.o, a1, some (.l (fs.map sS)), a3, some (.v (sS w)), a, none, some (.v (sS l))], rfl, ⟨[some p1.o, a1, some (.l (fs.map sS)), a3, some (.v (sS w)), a, none, some (.v (sS l))], ?_, ?_⟩, rfl⟩
          · simp only [y50, LW.argsOk, O.isV, O.d, List.all_cons, List.all_nil, Bool.and_true, Bool.true_and, Bool.and_self, List.length_cons, List.length_nil, List.map_cons, List.map_nil, List.cons_append, List.nil_append, List.replicate_succ, List.replicate_zero, Nat.reduceAdd, Nat.reduceSub, Nat.zero_add, and_self, and_true, true_and, if_true, ite_true, if_false, ite_false, List.getElem?_cons_zero, List.getElem?_cons_succ, List.set_cons_zero, List.set_cons_succ, List.set_nil, Bool.false_eq_true, reduceIte, y75, y69, y95, y87, y121, y133, y68, y82, y208, y165, y178, y158, y166, y105, y174, y94, y152, y196, y169, y140, y181, y160, y207, y209, y199, y147, y172, y148, y176, y189, y16, y67, y100, y99, y170, y141, y37, y60, y62, y138, y61, y153, y203, y180, y109, y42, y70, y206, y204, y80, y202, y188, y86, y164, y113, y107, y151, y134, y129, y11, y31, y29, y41, y26, y106, y13, y97, y30, y193, y110, y173, y142, y34, y8, y55, y15, y47, y9, y171, y93, y195, y163, y146, y131, y130, y64, y103, y81, y102, y157, y150, y205, y177, y96, y49, y63, y78, y128, y127, y74, y79, y76, y137, y65, y77, y22, y46, y23, y17, y38, y4, y5, y7, y90, y136, y135, y0, y25, y58, y1, y88, y18, y124, y122, y118, y116, y111, y123, y91, y72, y197, y112, y117, y194, y125, y114, y6, y126, y101, y73, y84, y104, y12, y10, y71, Option.getD_some, y198, y201, y144, y192, y200, y154, y187, y156, y183, y155, y179, y184, y35, y186, y48, y145, y143, y191, y149, y159, y167, y162, y83, y19, y24, y53, y51, y56, y36, y28, y21, y161, y108, y98, y57, y43, y3, y119, y2, y120, y33, y182, y185, y115, y40, y139, y27, y20, y59, y14, y32, y39, y54, y45, y89, y44, y66, y85, y132, y168, y175, y190, y52, y92, en, h1', Bool.not_false, el, h2]
          · simp only [y50, LW.argsOk, O.isV, O.d, List.all_cons, List.all_nil, Bool.and_true, Bool.true_and, Bool.and_self, List.length_cons, List.length_nil, List.map_cons, List.map_nil, List.cons_append, List.nil_append, List.replicate_succ, List.replicate_zero, Nat.reduceAdd, Nat.reduceSub, Nat.zero_add, and_self, and_true, true_and, if_true, ite_true, if_false, ite_false, List.getElem?_cons_zero, List.getElem?_cons_succ, List.set_cons_zero, List.set_cons_succ, List.set_nil, Bool.false_eq_true, reduceIte, y75, y69, y95, y87, y121, y133, y68, y82, y208, y165, y178, y158, y166, y105, y174, y94, y152, y196, y169, y140, y181, y160, y207, y209, y199, y147, y172, y148, y176, y189, y16, y67, y100, y99, y170, y141, y37, y60, y62, y138, y61, y153, y203, y180, y109, y42, y70, y206, y204, y80, y202, y188, y86, y164, y113, y107, y151, y134, y129, y11, y31, y29, y41, y26, y106, y13, y97, y30, y193, y110, y173, y142, y34, y8, y55, y15, y47, y9, y171, y93, y195, y163, y146, y131, y130, y64, y103, y81, y102, y157, y150, y205, y177, y96, y49, y63, y78, y128, y127, y74, y79, y76, y137, y65, y77, y22, y46, y23, y17, y38, y4, y5, y7, y90, y136, y135, y0, y25, y58, y1, y88, y18, y124, y122, y118, y116, y111, y123, y91, y72, y197, y112, y117, y194, y125, y114, y6, y126, y101, y73, y84, y104, y12, y10, y71, Option.getD_some, y198, y201, y144, y192, y200, y154, y187, y156, y183, y155, y179, y184, y35, y186, y48, y145, y143, y191, y149, y159, y167, y162, y83, y19, y24, y53, y51, y56, y36, y28, y21, y161, y108, y98, y57, y43, y3, y119, y2, y120, y33, y182, y185, y115, y40, y139, y27, y20, y59, y14, y32, y39, y54, y45, y89, y44, y66, y85, y132, y168, y175, y190, y52, y92]
        | false =>
          rw [show good l = false by simp [good, h1, h2]] at hz
          cases hz
          refine ⟨_, [some p1.o, a1, some (.l (fs.map sS)), a3, some (.v (sS w)), a, none, some (.v (sS l))], rfl, ?_, rfl⟩
          simp only
          simp only [y50, LW.argsOk, O.isV, O.d, List.all_cons, List.all_nil, Bool.and_true, Bool.true_and, Bool.and_self, List.length_cons, List.length_nil, List.map_cons, List.map_nil, List.cons_append, List.nil_append, List.replicate_succ, List.replicate_zero, Nat.reduceAdd, Nat.reduceSub, Nat.zero_add, and_self, and_true, true_and, if_true, ite_true, if_false, ite_false, List.getElem?_cons_zero, List.getElem?_cons_succ, List.set_cons_zero, List.set_cons_succ, List.set_nil, Bool.false_eq_true, reduceIte, y75, y69, y95, y87, y121, y133, y68, y82, y208, y165, y178, y158, y166, y105, y174, y94, y152, y196, y169, y140, y181, y160, y207, y209, y199, y147, y172, y148, y176, y189, y16, y67, y100, y99, y170, y141, y37, y60, y62, y138, y61, y153, y203, y180, y109, y42, y70, y206, y204, y80, y202, y188, y86, y164, y113, y107, y151, y134, y129, y11, y31, y29, y41, y26, y106, y13, y97, y30, y193, y110, y173, y142, y34, y8, y55, y15, y47, y9, y171, y93, y195, y163, y146, y131, y130, y64, y103, y81, y102, y157, y150, y205, y177, y96, y49, y63, y78, y128, y127, y74, y79, y76, y137, y65, y77, y22, y46, y23, y17, y38, y4, y5, y7, y90, y136, y135, y0, y25, y58, y1, y88, y18, y124, y122, y118, y116, y111, y123, y91, y72, y197, y112, y117, y194, y125, y114, y6, y126, y101, y73, y84, y104, y12, y10, y71, Option.getD_some, y198, y201, y144, y192, y200, y154, y187, y156, y183, y155, y179, y184, y35, y186, y48, y145, y143, y191, y149, y159, y167, y162, y83, y19, y24, y53, y51, y56, y36, y28, y21, y161, y108, y98, y57, y43, y3, y119, y2, y120, y33, y182, y185, y115, y40, y139, y27, y20, y59, y14, y32, y39, y54, y45, y89, y44, y66, y85, y132, y168, y175, y190, y52, y92, en, h1', Bool.not_false, el, h2]) (lc_filter _)
  have hff : List.filter φ (cands.map sS) = (cands.filter good).map sS := by rw [List.filter_map]; rfl
  have hne : cands.filter good ≠ [] := fun he => by
    have hall : ∀ l ∈ cands, l ∈ fs ++ W3 := fun l hl => by
      have hg : good l = false := by
        cases hg : good l with
        | false => rfl
        | true => have := List.mem_filter.mpr ⟨hl, hg⟩; rw [he] at this; cases this
      by_cases h1 : l ∈ fs
      · exact List.mem_append_left _ h1
      · refine List.mem_append_right _ ?_
        have h2 := (hcl l hl).2.1
        simp only [good, h1, isNam, h2, decide_false, Bool.not_false, Bool.true_and, Bool.not_eq_false', decide_eq_true_eq] at hg
        exact hg
    have hnd : cands.Nodup := by
      refine List.Pairwise.map _ (fun i j hij he => hij ?_) List.nodup_range
      have := List.append_cancel_left he
      simp at this; exact this
    have := pigeon cands (fs ++ W3) hnd hall
    simp [cands, W3] at this
    omega
  cases hf : cands.filter good with
  | nil => exact absurd hf hne
  | cons l rest =>
    have hl : l ∈ cands ∧ good l = true := List.mem_filter.mp (by rw [hf]; exact List.mem_cons_self)
    have hgl : l ∉ fs ∧ isNam l = true := by
      have := hl.2
      simp only [good, Bool.and_eq_true, Bool.not_eq_true', decide_eq_false_iff_not] at this
      exact this
    have ix : gIx2 (.lst (List.filter φ (cands.map sS))) (.int 0) = some (.v (sS l)) := by
      rw [ix_nat (by omega), hff, hf]; rfl
    have happ : gApp (fs.map sS) (sS l) = some (.non, (fs ++ [l]).map sS) := by
      show (if (fs.map sS).length < sizeLine then some (D.non, fs.map sS ++ [sS l]) else none) = _
      rw [if_pos (by have := line_big; simp; omega)]; simp
    refine ⟨l, p1, some (.v (sS w)), some (.v (.lst (cands.map sS))), ?_, ⟨?_, ?_⟩⟩
    · unfold namesBody
      simp only [y50, LW.argsOk, O.isV, O.d, List.all_cons, List.all_nil, Bool.and_true, Bool.true_and, Bool.and_self, List.length_cons, List.length_nil, List.map_cons, List.map_nil, List.cons_append, List.nil_append, List.replicate_succ, List.replicate_zero, Nat.reduceAdd, Nat.reduceSub, Nat.zero_add, and_self, and_true, true_and, if_true, ite_true, if_false, ite_false, List.getElem?_cons_zero, List.getElem?_cons_succ, List.set_cons_zero, List.set_cons_succ, List.set_nil, Bool.false_eq_true, reduceIte, y75, y69, y95, y87, y121, y133, y68, y82, y208, y165, y178, y158, y166, y105, y174, y94, y152, y196, y169, y140, y181, y160, y207, y209, y199, y147, y172, y148, y176, y189, y16, y67, y100, y99, y170, y141, y37, y60, y62, y138, y61, y153, y203, y180, y109, y42, y70, y206, y204, y80, y202, y188, y86, y164, y113, y107, y151, y134, y129, y11, y31, y29, y41, y26, y106, y13, y97, y30, y193, y110, y173, y142, y34, y8, y55, y15, y47, y9, y171, y93, y195, y163, y146, y131, y130, y64, y103, y81, y102, y157, y150, y205, y177, y96, y49, y63, y78, y128, y127, y74, y79, y76, y137, y65, y77, y22, y46, y23, y17, y38, y4, y5, y7, y90, y136, y135, y0, y25, y58, y1, y88, y18, y124, y122, y118, y116, y111, y123, y91, y72, y197, y112, y117, y194, y125, y114, y6, y126, y101, y73, y84, y104, y12, y10, y71, Option.getD_some, y198, y201, y144, y192, y200, y154, y187, y156, y183, y155, y179, y184, y35, y186, y48, y145, y143, y191, y149, y159, y167, y162, y83, y19, y24, y53, y51, y56, y36, y28, y21, y161, y108, y98, y57, y43, y3, y119, y2, y120, y33, y182, y185, y115, y40, y139, y27, y20, y59, y14, y32, y39, y54, y45, y89, y44, y66, y85, y132, y168, y175, y190, y52, y92, e1, cut7 w0 (by omega), hw1, show seqH (.ok (.v (.str "abcdefghijklmnopqrstuvwxyz")) [some p1.o, a1, some (.l (fs.map sS)), a3, some (.v (sS w)), a5, none, none]) = _ from seqH_s (z := AZ) az_line, az_walk, e2, e3, ix, happ]
    · exact List.nodup_append.mpr ⟨hn.1, by simp, fun a ha b hb => by rw [List.mem_singleton.mp hb]; exact fun e => hgl.1 (e ▸ ha)⟩
    · intro m hm
      rcases List.mem_append.mp hm with z | z
      · exact hn.2 m z
      · rw [List.mem_singleton.mp z]; exact hgl.2
theorem names_loop : ∀ (ds : List D) (p : Pot) (fs : List (List Nat)) (a1 a3 a4 a5 : Option O), Names fs → fs.length + ds.length ≤ 20 →
    ∃ (gs : List (List Nat)) (p' : Pot) (a3' a4' a5' : Option O), forL (gSet 3) namesBody ds [some p.o, a1, some (.l (fs.map sS)), a3, a4, a5, none, none] = .next [some p'.o, a1, some (.l (gs.map sS)), a3', a4', a5', none, none] ∧ Names gs ∧ gs.length = fs.length + ds.length
  | [], p, fs, a1, a3, a4, a5, hn, _ => ⟨fs, p, a3, a4, a5, rfl, hn, rfl⟩
  | d :: r, p, fs, a1, a3, a4, a5, hn, hl => by
    obtain ⟨l, p1, b4, b5, e, hn'⟩ := names_turn p fs a1 (some (.v d)) a4 a5 hn (by simp at hl; omega)
    obtain ⟨gs, p2, c3, c4, c5, e2, h2, h3⟩ := names_loop r p1 (fs ++ [l]) a1 (some (.v d)) b4 b5 hn' (by simp at hl ⊢; omega)
    refine ⟨gs, p2, c3, c4, c5, ?_, h2, by rw [h3]; simp; omega⟩
    rw [forL_c]
    simp only [y50, LW.argsOk, O.isV, O.d, List.all_cons, List.all_nil, Bool.and_true, Bool.true_and, Bool.and_self, List.length_cons, List.length_nil, List.map_cons, List.map_nil, List.cons_append, List.nil_append, List.replicate_succ, List.replicate_zero, Nat.reduceAdd, Nat.reduceSub, Nat.zero_add, and_self, and_true, true_and, if_true, ite_true, if_false, ite_false, List.getElem?_cons_zero, List.getElem?_cons_succ, List.set_cons_zero, List.set_cons_succ, List.set_nil, Bool.false_eq_true, reduceIte, y75, y69, y95, y87, y121, y133, y68, y82, y208, y165, y178, y158, y166, y105, y174, y94, y152, y196, y169, y140, y181, y160, y207, y209, y199, y147, y172, y148, y176, y189, y16, y67, y100, y99, y170, y141, y37, y60, y62, y138, y61, y153, y203, y180, y109, y42, y70, y206, y204, y80, y202, y188, y86, y164, y113, y107, y151, y134, y129, y11, y31, y29, y41, y26, y106, y13, y97, y30, y193, y110, y173, y142, y34, y8, y55, y15, y47, y9, y171, y93, y195, y163, y146, y131, y130, y64, y103, y81, y102, y157, y150, y205, y177, y96, y49, y63, y78, y128, y127, y74, y79, y76, y137, y65, y77, y22, y46, y23, y17, y38, y4, y5, y7, y90, y136, y135, y0, y25, y58, y1, y88, y18, y124, y122, y118, y116, y111, y123, y91, y72, y197, y112, y117, y194, y125, y114, y6, y126, y101, y73, y84, y104, y12, y10, y71, Option.getD_some, y198, y201, y144, y192, y200, y154, y187, y156, y183, y155, y179, y184, y35, y186, y48, y145, y143, y191, y149, y159, y167, y162, y83, y19, y24, y53, y51, y56, y36, y28, y21, y161, y108, y98, y57, y43, y3, y119, y2, y120, y33, y182, y185, y115, y40, y139, y27, y20, y59, y14, y32, y39, y54, y45, y89, y44, y66, y85, y132, y168, y175, y190, y52, y92, e, e2]
theorem names (p : Pot) (n : Nat) (hn : n ≤ 20) : ∃ (gs : List (List Nat)) (p' : Pot), sem__law_names [p.o, .v (.int n)] = .ret (.f (.l (gs.map sS))) [p'.o, .v (.int n)] ∧ Names gs ∧ gs.length = n := by
  obtain ⟨gs, p', a3, a4, a5, e, h1, h2⟩ := names_loop (rangeD 0 n) p [] (some (.v (.int n))) none none none ⟨List.nodup_nil, fun _ h => nomatch h⟩ (by rw [rangeD_len]; simp; omega)
  rw [rangeD_len] at h2
  refine ⟨gs, p', ?_, h1, by simp at h2; omega⟩
  have e : forL (gSet 3) namesBody (rangeD 0 n) [some p.o, some (.v (.int n)), some (.l []), none, none, none, none, none] = _ := e
  unfold namesBody at e
  unfold sem__law_names
  simp only [y50, LW.argsOk, O.isV, O.d, List.all_cons, List.all_nil, Bool.and_true, Bool.true_and, Bool.and_self, List.length_cons, List.length_nil, List.map_cons, List.map_nil, List.cons_append, List.nil_append, List.replicate_succ, List.replicate_zero, Nat.reduceAdd, Nat.reduceSub, Nat.zero_add, and_self, and_true, true_and, if_true, ite_true, if_false, ite_false, List.getElem?_cons_zero, List.getElem?_cons_succ, List.set_cons_zero, List.set_cons_succ, List.set_nil, Bool.false_eq_true, reduceIte, y75, y69, y95, y87, y121, y133, y68, y82, y208, y165, y178, y158, y166, y105, y174, y94, y152, y196, y169, y140, y181, y160, y207, y209, y199, y147, y172, y148, y176, y189, y16, y67, y100, y99, y170, y141, y37, y60, y62, y138, y61, y153, y203, y180, y109, y42, y70, y206, y204, y80, y202, y188, y86, y164, y113, y107, y151, y134, y129, y11, y31, y29, y41, y26, y106, y13, y97, y30, y193, y110, y173, y142, y34, y8, y55, y15, y47, y9, y171, y93, y195, y163, y146, y131, y130, y64, y103, y81, y102, y157, y150, y205, y177, y96, y49, y63, y78, y128, y127, y74, y79, y76, y137, y65, y77, y22, y46, y23, y17, y38, y4, y5, y7, y90, y136, y135, y0, y25, y58, y1, y88, y18, y124, y122, y118, y116, y111, y123, y91, y72, y197, y112, y117, y194, y125, y114, y6, y126, y101, y73, y84, y104, y12, y10, y71, Option.getD_some, y198, y201, y144, y192, y200, y154, y187, y156, y183, y155, y179, y184, y35, y186, y48, y145, y143, y191, y149, y159, y167, y162, y83, y19, y24, y53, y51, y56, y36, y28, y21, y161, y108, y98, y57, y43, y3, y119, y2, y120, y33, y182, y185, y115, y40, y139, y27, y20, y59, y14, y32, y39, y54, y45, y89, y44, y66, y85, y132, y168, y175, y190, y52, y92, show (-1000000 ≤ (n : Int)) ∧ (n : Int) ≤ 1000000 from ⟨by omega, by omega⟩, e]
def pD (q : Nat × Nat) : D := .tup [.int q.1, .int q.2]
def pairsUp : Nat → List (Nat × Nat)
  | 0 => []
  | n + 1 => pairsUp n ++ (List.range n).map fun i => (i, n)
theorem pairsUp_mem {n : Nat} {q : Nat × Nat} : q ∈ pairsUp n ↔ q.1 < q.2 ∧ q.2 < n := by
  induction n with
  | zero => simp [pairsUp]
  | succ n ih =>
    simp only [pairsUp, List.mem_append, ih, List.mem_map, List.mem_range]
    constructor
    · rintro (h | ⟨i, h, rfl⟩)
      · exact ⟨h.1, by omega⟩
      · exact ⟨h, by simp⟩
    · intro ⟨h1, h2⟩
      by_cases h : q.2 < n
      · exact .inl ⟨h1, h⟩
      · refine .inr ⟨q.1, by omega, ?_⟩
        have : q.2 = n := by omega
        rw [← this]
end SM

namespace SM
open PySem LW L2
structure Spec (gs : List (List Nat)) (qs : List (Nat × Nat)) (most : Nat) : Prop where
  nam : Names gs
  one : 1 ≤ gs.length
  most : gs.length ≤ most
  sub : List.Sublist qs (pairsUp gs.length)
theorem Spec.mem {gs : List (List Nat)} {qs : List (Nat × Nat)} {m : Nat} (s : Spec gs qs m) : ∀ q ∈ qs, q.1 < q.2 ∧ q.2 < gs.length := fun q hq => pairsUp_mem.mp (s.sub.subset hq)
end SM

namespace SM
open PySem LW L2
theorem tw_all {g : Nat → Bool} : ∀ {l : List Nat}, (∀ c ∈ l, g c = true) → l.takeWhile g = l
  | [], _ => rfl
  | c :: r, h => by rw [List.takeWhile_cons, if_pos (h c List.mem_cons_self), tw_all fun x hx => h x (List.mem_cons_of_mem _ hx)]
theorem tw_lt {g : Nat → Bool} : ∀ {l : List Nat}, ¬ (∀ c ∈ l, g c = true) → (l.takeWhile g).length < l.length
  | [], h => absurd (fun _ z => nomatch z) h
  | c :: r, h => by
    rw [List.takeWhile_cons]
    split
    · rename_i hc
      have : ¬ ∀ x ∈ r, g x = true := fun z => h fun x hx => by
        rcases List.mem_cons.mp hx with e | e
        · rw [e]; exact hc
        · exact z x e
      have := tw_lt this
      simp; omega
    · simp
theorem tw_drop {g : Nat → Bool} : ∀ {l : List Nat} {c : Nat}, l[(l.takeWhile g).length]? = some c → g c = false
  | [], _, h => by simp at h
  | d :: r, c, h => by
    rw [List.takeWhile_cons] at h
    split at h
    · exact tw_drop (l := r) (by simpa using h)
    · rename_i hd
      simp at h; subst h
      cases e : g d with
      | true => exact absurd e hd
      | false => rfl
theorem strip_iff (l : List Nat) (y : Str) : (Txt.stripChars (SX.S l) y = SX.S []) ↔ ∀ c ∈ l, y.cps.contains c = true := by
  generalize hg : y.cps.contains = g
  have e0 : (Txt.stripChars (SX.S l) y).cps.toList = (l.drop (l.takeWhile g).length).take (l.length - ((l.drop (l.takeWhile g).length).reverse.takeWhile g).length - (l.takeWhile g).length) := by
    unfold Txt.stripChars
    rw [PySem.W.stripBy_eq, hg]
    exact TL.tl_strSub (SX.S l) _ _
  have e1 : (Txt.stripChars (SX.S l) y = SX.S []) ↔ (Txt.stripChars (SX.S l) y).cps.toList = [] := ⟨fun h => by rw [h], fun h => TL.ext_tl h⟩
  rw [e1, e0]
  constructor
  · intro h
    refine Classical.byContradiction fun hn => ?_
    have h1 := tw_lt hn
    have hd : (l.drop (l.takeWhile g).length).length = l.length - (l.takeWhile g).length := List.length_drop
    have hne : ¬ ∀ c ∈ (l.drop (l.takeWhile g).length).reverse, g c = true := fun z => by
      have hc : l[(l.takeWhile g).length]? = some l[(l.takeWhile g).length] := List.getElem?_eq_getElem h1
      have h2 := tw_drop hc
      have : l[(l.takeWhile g).length] ∈ (l.drop (l.takeWhile g).length).reverse := by
        rw [List.mem_reverse]
        refine List.mem_of_getElem? (i := 0) ?_
        rw [List.getElem?_drop]; simpa using hc
      rw [z _ this] at h2; cases h2
    have h3 := tw_lt hne
    rw [List.length_reverse, hd] at h3
    have h4 := congrArg List.length h
    rw [List.length_take, hd] at h4
    simp only [List.length_nil] at h4
    omega
  · intro h
    rw [tw_all h, List.drop_length]; simp
theorem strip_az (l : List Nat) : gEq (.str (Txt.stripChars (SX.S l) AZ)) (.str "") = some (.v (.bl (decide (∀ c ∈ l, Letter c)))) := by
  show some (P.v (.bl (decide (Txt.stripChars (SX.S l) AZ = SX.S [])))) = _
  congr 3
  refine decide_eq_decide.mpr ((strip_iff l AZ).trans ?_)
  constructor
  · intro h c hc
    exact az_mem.mp (by simpa using h c hc)
  · intro h c hc
    simpa using az_mem.mpr (h c hc)
theorem label (l : List Nat) (h : l.length ≤ 100000) : sem_is_label [.v (sS l)] = .ret (.v (.bl (isLab l))) [.v (sS l)] := by
  unfold sem_is_label
  have hz : (SX.S l).length ≤ sizeLine := by rw [SX.S_len]; exact Nat.le_trans h line_big
  have es : gStrip (SX.S l) (.str "abcdefghijklmnopqrstuvwxyz") = some (.v (.str (Txt.stripChars (SX.S l) AZ))) := if_pos hz
  have hall : decide (∀ c ∈ l, Letter c) = l.all fun c => decide (Letter c) := by
    cases e : l.all fun c => decide (Letter c) with
    | true => exact decide_eq_true (by simpa using e)
    | false => exact decide_eq_false (fun z => by rw [List.all_eq_true.mpr (fun c hc => decide_eq_true (z c hc))] at e; cases e)
  unfold sS
  by_cases h1 : 1 ≤ l.length
  · have h1' : decide ((1 : Int) ≤ (l.length : Int)) = true := decide_eq_true (by omega)
    by_cases h2 : l.length ≤ 8
    · have h2' : decide ((l.length : Int) ≤ 8) = true := decide_eq_true (by omega)
      simp only [y50, LW.argsOk, O.isV, O.d, List.all_cons, List.all_nil, Bool.and_true, Bool.true_and, Bool.and_self, List.length_cons, List.length_nil, List.map_cons, List.map_nil, List.cons_append, List.nil_append, List.replicate_succ, List.replicate_zero, Nat.reduceAdd, Nat.reduceSub, Nat.zero_add, and_self, and_true, true_and, if_true, ite_true, if_false, ite_false, List.getElem?_cons_zero, List.getElem?_cons_succ, List.set_cons_zero, List.set_cons_succ, List.set_nil, Bool.false_eq_true, reduceIte, y75, y69, y95, y87, y121, y133, y68, y82, y208, y165, y178, y158, y166, y105, y174, y94, y152, y196, y169, y140, y181, y160, y207, y209, y199, y147, y172, y148, y176, y189, y16, y67, y100, y99, y170, y141, y37, y60, y62, y138, y61, y153, y203, y180, y109, y42, y70, y206, y204, y80, y202, y188, y86, y164, y113, y107, y151, y134, y129, y11, y31, y29, y41, y26, y106, y13, y97, y30, y193, y110, y173, y142, y34, y8, y55, y15, y47, y9, y171, y93, y195, y163, y146, y131, y130, y64, y103, y81, y102, y157, y150, y205, y177, y96, y49, y63, y78, y128, y127, y74, y79, y76, y137, y65, y77, y22, y46, y23, y17, y38, y4, y5, y7, y90, y136, y135, y0, y25, y58, y1, y88, y18, y124, y122, y118, y116, y111, y123, y91, y72, y197, y112, y117, y194, y125, y114, y6, y126, y101, y73, y84, y104, y12, y10, y71, Option.getD_some, y198, y201, y144, y192, y200, y154, y187, y156, y183, y155, y179, y184, y35, y186, y48, y145, y143, y191, y149, y159, y167, y162, y83, y19, y24, y53, y51, y56, y36, y28, y21, y161, y108, y98, y57, y43, y3, y119, y2, y120, y33, y182, y185, y115, y40, y139, y27, y20, y59, y14, y32, y39, y54, y45, y89, y44, y66, y85, y132, y168, y175, y190, y52, y92, ia_str_str, len_str h, gLe, h1', h2', es, strip_az, hall]
      simp [isLab, h1, h2]
    · have h2' : decide ((l.length : Int) ≤ 8) = false := decide_eq_false (by omega)
      simp only [y50, LW.argsOk, O.isV, O.d, List.all_cons, List.all_nil, Bool.and_true, Bool.true_and, Bool.and_self, List.length_cons, List.length_nil, List.map_cons, List.map_nil, List.cons_append, List.nil_append, List.replicate_succ, List.replicate_zero, Nat.reduceAdd, Nat.reduceSub, Nat.zero_add, and_self, and_true, true_and, if_true, ite_true, if_false, ite_false, List.getElem?_cons_zero, List.getElem?_cons_succ, List.set_cons_zero, List.set_cons_succ, List.set_nil, Bool.false_eq_true, reduceIte, y75, y69, y95, y87, y121, y133, y68, y82, y208, y165, y178, y158, y166, y105, y174, y94, y152, y196, y169, y140, y181, y160, y207, y209, y199, y147, y172, y148, y176, y189, y16, y67, y100, y99, y170, y141, y37, y60, y62, y138, y61, y153, y203, y180, y109, y42, y70, y206, y204, y80, y202, y188, y86, y164, y113, y107, y151, y134, y129, y11, y31, y29, y41, y26, y106, y13, y97, y30, y193, y110, y173, y142, y34, y8, y55, y15, y47, y9, y171, y93, y195, y163, y146, y131, y130, y64, y103, y81, y102, y157, y150, y205, y177, y96, y49, y63, y78, y128, y127, y74, y79, y76, y137, y65, y77, y22, y46, y23, y17, y38, y4, y5, y7, y90, y136, y135, y0, y25, y58, y1, y88, y18, y124, y122, y118, y116, y111, y123, y91, y72, y197, y112, y117, y194, y125, y114, y6, y126, y101, y73, y84, y104, y12, y10, y71, Option.getD_some, y198, y201, y144, y192, y200, y154, y187, y156, y183, y155, y179, y184, y35, y186, y48, y145, y143, y191, y149, y159, y167, y162, y83, y19, y24, y53, y51, y56, y36, y28, y21, y161, y108, y98, y57, y43, y3, y119, y2, y120, y33, y182, y185, y115, y40, y139, y27, y20, y59, y14, y32, y39, y54, y45, y89, y44, y66, y85, y132, y168, y175, y190, y52, y92, ia_str_str, len_str h, gLe, h1', h2']
      simp [isLab, h2]
  · have h1' : decide ((1 : Int) ≤ (l.length : Int)) = false := decide_eq_false (by omega)
    simp only [y50, LW.argsOk, O.isV, O.d, List.all_cons, List.all_nil, Bool.and_true, Bool.true_and, Bool.and_self, List.length_cons, List.length_nil, List.map_cons, List.map_nil, List.cons_append, List.nil_append, List.replicate_succ, List.replicate_zero, Nat.reduceAdd, Nat.reduceSub, Nat.zero_add, and_self, and_true, true_and, if_true, ite_true, if_false, ite_false, List.getElem?_cons_zero, List.getElem?_cons_succ, List.set_cons_zero, List.set_cons_succ, List.set_nil, Bool.false_eq_true, reduceIte, y75, y69, y95, y87, y121, y133, y68, y82, y208, y165, y178, y158, y166, y105, y174, y94, y152, y196, y169, y140, y181, y160, y207, y209, y199, y147, y172, y148, y176, y189, y16, y67, y100, y99, y170, y141, y37, y60, y62, y138, y61, y153, y203, y180, y109, y42, y70, y206, y204, y80, y202, y188, y86, y164, y113, y107, y151, y134, y129, y11, y31, y29, y41, y26, y106, y13, y97, y30, y193, y110, y173, y142, y34, y8, y55, y15, y47, y9, y171, y93, y195, y163, y146, y131, y130, y64, y103, y81, y102, y157, y150, y205, y177, y96, y49, y63, y78, y128, y127, y74, y79, y76, y137, y65, y77, y22, y46, y23, y17, y38, y4, y5, y7, y90, y136, y135, y0, y25, y58, y1, y88, y18, y124, y122, y118, y116, y111, y123, y91, y72, y197, y112, y117, y194, y125, y114, y6, y126, y101, y73, y84, y104, y12, y10, y71, Option.getD_some, y198, y201, y144, y192, y200, y154, y187, y156, y183, y155, y179, y184, y35, y186, y48, y145, y143, y191, y149, y159, y167, y162, y83, y19, y24, y53, y51, y56, y36, y28, y21, y161, y108, y98, y57, y43, y3, y119, y2, y120, y33, y182, y185, y115, y40, y139, y27, y20, y59, y14, y32, y39, y54, y45, y89, y44, y66, y85, y132, y168, y175, y190, y52, y92, ia_str_str, len_str h, gLe, h1']
    simp [isLab, h1]
theorem notInC_S (l : List Nat) (ho : Okl l) : gNotInC ["place", "way", "end"] (sS l) = some (.v (.bl (!decide (l ∈ W3)))) := by
  have := notIn_S l W3 ho w3_ok
  exact this
theorem name (l : List Nat) (h : l.length ≤ 100000) (ho : Okl l) : sem_is_name [.v (sS l)] = .ret (.v (.bl (isNam l))) [.v (sS l)] := by
  unfold sem_is_name
  have e := label l h
  cases hl : isLab l with
  | false =>
    rw [hl] at e
    simp only [y50, LW.argsOk, O.isV, O.d, List.all_cons, List.all_nil, Bool.and_true, Bool.true_and, Bool.and_self, List.length_cons, List.length_nil, List.map_cons, List.map_nil, List.cons_append, List.nil_append, List.replicate_succ, List.replicate_zero, Nat.reduceAdd, Nat.reduceSub, Nat.zero_add, and_self, and_true, true_and, if_true, ite_true, if_false, ite_false, List.getElem?_cons_zero, List.getElem?_cons_succ, List.set_cons_zero, List.set_cons_succ, List.set_nil, Bool.false_eq_true, reduceIte, y75, y69, y95, y87, y121, y133, y68, y82, y208, y165, y178, y158, y166, y105, y174, y94, y152, y196, y169, y140, y181, y160, y207, y209, y199, y147, y172, y148, y176, y189, y16, y67, y100, y99, y170, y141, y37, y60, y62, y138, y61, y153, y203, y180, y109, y42, y70, y206, y204, y80, y202, y188, y86, y164, y113, y107, y151, y134, y129, y11, y31, y29, y41, y26, y106, y13, y97, y30, y193, y110, y173, y142, y34, y8, y55, y15, y47, y9, y171, y93, y195, y163, y146, y131, y130, y64, y103, y81, y102, y157, y150, y205, y177, y96, y49, y63, y78, y128, y127, y74, y79, y76, y137, y65, y77, y22, y46, y23, y17, y38, y4, y5, y7, y90, y136, y135, y0, y25, y58, y1, y88, y18, y124, y122, y118, y116, y111, y123, y91, y72, y197, y112, y117, y194, y125, y114, y6, y126, y101, y73, y84, y104, y12, y10, y71, Option.getD_some, y198, y201, y144, y192, y200, y154, y187, y156, y183, y155, y179, y184, y35, y186, y48, y145, y143, y191, y149, y159, y167, y162, y83, y19, y24, y53, y51, y56, y36, y28, y21, y161, y108, y98, y57, y43, y3, y119, y2, y120, y33, y182, y185, y115, y40, y139, y27, y20, y59, y14, y32, y39, y54, y45, y89, y44, y66, y85, y132, y168, y175, y190, y52, y92, e]
    simp [isNam, hl]
  | true =>
    rw [hl] at e
    simp only [y50, LW.argsOk, O.isV, O.d, List.all_cons, List.all_nil, Bool.and_true, Bool.true_and, Bool.and_self, List.length_cons, List.length_nil, List.map_cons, List.map_nil, List.cons_append, List.nil_append, List.replicate_succ, List.replicate_zero, Nat.reduceAdd, Nat.reduceSub, Nat.zero_add, and_self, and_true, true_and, if_true, ite_true, if_false, ite_false, List.getElem?_cons_zero, List.getElem?_cons_succ, List.set_cons_zero, List.set_cons_succ, List.set_nil, Bool.false_eq_true, reduceIte, y75, y69, y95, y87, y121, y133, y68, y82, y208, y165, y178, y158, y166, y105, y174, y94, y152, y196, y169, y140, y181, y160, y207, y209, y199, y147, y172, y148, y176, y189, y16, y67, y100, y99, y170, y141, y37, y60, y62, y138, y61, y153, y203, y180, y109, y42, y70, y206, y204, y80, y202, y188, y86, y164, y113, y107, y151, y134, y129, y11, y31, y29, y41, y26, y106, y13, y97, y30, y193, y110, y173, y142, y34, y8, y55, y15, y47, y9, y171, y93, y195, y163, y146, y131, y130, y64, y103, y81, y102, y157, y150, y205, y177, y96, y49, y63, y78, y128, y127, y74, y79, y76, y137, y65, y77, y22, y46, y23, y17, y38, y4, y5, y7, y90, y136, y135, y0, y25, y58, y1, y88, y18, y124, y122, y118, y116, y111, y123, y91, y72, y197, y112, y117, y194, y125, y114, y6, y126, y101, y73, y84, y104, y12, y10, y71, Option.getD_some, y198, y201, y144, y192, y200, y154, y187, y156, y183, y155, y179, y184, y35, y186, y48, y145, y143, y191, y149, y159, y167, y162, y83, y19, y24, y53, y51, y56, y36, y28, y21, y161, y108, y98, y57, y43, y3, y119, y2, y120, y33, y182, y185, y115, y40, y139, y27, y20, y59, y14, y32, y39, y54, y45, y89, y44, y66, y85, y132, y168, y175, y190, y52, y92, e, notInC_S l ho]
    simp [isNam, hl]
end SM

namespace SM
open PySem LW L2
end SM

namespace SM
open PySem LW L2
end SM

namespace SM
open PySem LW L2
end SM

namespace SM
open PySem LW L2
theorem add_lst {xs ys : List D} (h : xs.length + ys.length ≤ 100000) : gAdd (.lst xs) (.lst ys) = some (.f (.l (xs ++ ys))) := if_pos (Nat.le_trans h line_big)
end SM

namespace SM
open PySem LW L2
end SM

namespace SM
open PySem LW L2
theorem split_sp {a : List Nat} {ps : List (List Nat)} (hl : a.length ≤ 100000) (h : TL.spl [32] 0 [] a = ps) : gSplit (SX.S a) (.str " ") = some (.f (.l (ps.map sS))) := by
  show (if ((" " : Str).length == 0) = false ∧ (SX.S a).length + 2 ≤ sizeLine then some (P.f (.l ((Txt.split (SX.S a) " ").map .str))) else none) = _
  rw [if_pos ⟨rfl, by rw [SX.S_len]; have := line_big; rw [sizeLine_eq] at *; omega⟩]
  rw [show (" " : Str) = SX.S [32] from rfl, SX.split_S (by simp) (by decide), h, List.map_map]
  rfl
end SM

namespace SM
open PySem LW L2
section
variable {ns : List (List Nat)} {qs : List (Nat × Nat)} {e e' : Bool} {ρ : LW.Env}
end
end SM

namespace SM
open PySem LW L2
def item (k : Nat) (a : List Nat) : D := .tup [.int (k : Nat), sS a]
end SM

namespace SM
open PySem LW L2
end SM

namespace SM
open PySem LW L2
section
variable {z : Str} {i : Int} {ds : List D}
theorem i1 : gIs (D.isa CS .tuple) (.str z) = some (.v (.bl false)) := rfl
theorem i2 : gIs (D.isa CS .list) (.str z) = some (.v (.bl false)) := rfl
theorem n2 : gIsN (.int i) .non = some (.v (.bl false)) := rfl
end
end SM

namespace SM
open PySem LW L2
end SM

namespace SM
open PySem LW L2
section
variable {α A Z : Type} {i : Nat} {t : LW.Env → Out Bool} {f : LW.Env → Out P} {body : LW.Env → LW.Flow}
theorem lc_acc (ρ0 : LW.Env) (h : α → D) (b : α → Bool) (g : α → D) (hw : ∀ d, wipeE (ρ0.set i (some (.v d))) [i] = ρ0) : ∀ (xs : List α) (acc : List D),
    (∀ x ∈ xs, t (ρ0.set i (some (.v (h x)))) = .ok (b x) (ρ0.set i (some (.v (h x))))) → (∀ x ∈ xs, b x = true → sFz f (ρ0.set i (some (.v (h x)))) = .ok (.v (g x)) (ρ0.set i (some (.v (h x))))) →
    lcL [i] (gSet i) t f (xs.map h) acc ρ0 = .ok (acc ++ (xs.filter b).map g) ρ0
  | [], acc, _, _ => by simp
  | x :: r, acc, h1, h2 => by
    rw [List.map_cons, lcL_c, y72, y159, h1 x List.mem_cons_self]
    cases e : b x with
    | false =>
      rw [y167, hw, lc_acc ρ0 h b g hw r acc (fun y hy => h1 y (List.mem_cons_of_mem _ hy)) (fun y hy => h2 y (List.mem_cons_of_mem _ hy)), List.filter_cons_of_neg (by simp [e])]
    | true =>
      rw [y162, h2 x List.mem_cons_self e, y83, hw, lc_acc ρ0 h b g hw r _ (fun y hy => h1 y (List.mem_cons_of_mem _ hy)) (fun y hy => h2 y (List.mem_cons_of_mem _ hy)), List.filter_cons_of_pos e]
      simp
theorem lc_on (ρ0 : LW.Env) (h : α → D) (b : α → Bool) (g : α → D) (xs : List α) (hw : ∀ d, wipeE (ρ0.set i (some (.v d))) [i] = ρ0)
    (h1 : ∀ x ∈ xs, t (ρ0.set i (some (.v (h x)))) = .ok (b x) (ρ0.set i (some (.v (h x))))) (h2 : ∀ x ∈ xs, b x = true → sFz f (ρ0.set i (some (.v (h x)))) = .ok (.v (g x)) (ρ0.set i (some (.v (h x))))) :
    lcL [i] (gSet i) t f (xs.map h) [] ρ0 = .ok ((xs.filter b).map g) ρ0 := by rw [lc_acc ρ0 h b g hw xs [] h1 h2]; simp
theorem lc_all (ρ0 : LW.Env) (h : α → D) (g : α → D) (xs : List α) (hw : ∀ d, wipeE (ρ0.set i (some (.v d))) [i] = ρ0)
    (h2 : ∀ x ∈ xs, sFz f (ρ0.set i (some (.v (h x)))) = .ok (.v (g x)) (ρ0.set i (some (.v (h x))))) :
    lcL [i] (gSet i) sYes f (xs.map h) [] ρ0 = .ok (xs.map g) ρ0 := by
  have e := lc_on (t := sYes) ρ0 h (fun _ => true) g xs hw (fun _ _ => rfl) fun x hx _ => h2 x hx
  rw [e, List.filter_eq_self.mpr (fun _ _ => rfl)]
end
theorem bl_dec {p : Prop} (i j : Decidable p) : some (P.v (D.bl (@decide p i))) = some (P.v (D.bl (@decide p j))) := by rw [Subsingleton.elim i j]
theorem bl_ndec {p : Prop} (i j : Decidable p) : some (P.v (D.bl (!@decide p i))) = some (P.v (D.bl (!@decide p j))) := by rw [Subsingleton.elim i j]
structure Enc {α : Type} [DecidableEq α] (k : Nat) (f : α → D) : Prop where
  cmp : ∀ a b, D.cmp (f a) (f b) = if (f a).plain 60 = true ∧ (f b).plain 60 = true then some (D.eqv (f a) (f b)) else none
  pl : ∀ n a, (f a).plain (n + k) = true
  eq : ∀ a b, PyData.eqv (f a).py (f b).py = decide (a = b)
section
variable {α : Type} [DecidableEq α] {k : Nat} {f : α → D}
theorem Enc.gEq (e : Enc k f) (hk : k ≤ 50) (a b : α) [Decidable (a = b)] : LW.gEq (f a) (f b) = some (.v (.bl (decide (a = b)))) := by
  have p : ∀ a, (f a).plain 60 = true := fun a => by have := e.pl (60 - k) a; rwa [show 60 - k + k = 60 by omega] at this
  unfold LW.gEq
  rw [e.cmp, if_pos ⟨p a, p b⟩]
  unfold D.eqv
  rw [e.eq]
  first | exact bl_dec _ _ | exact bl_ndec _ _
theorem Enc.gNe (e : Enc k f) (hk : k ≤ 50) (a b : α) [Decidable (a = b)] : LW.gNe (f a) (f b) = some (.v (.bl (!decide (a = b)))) := by
  have p : ∀ a, (f a).plain 60 = true := fun a => by have := e.pl (60 - k) a; rwa [show 60 - k + k = 60 by omega] at this
  unfold LW.gNe
  rw [e.cmp, if_pos ⟨p a, p b⟩]
  unfold D.eqv
  rw [e.eq]
  first | exact bl_dec _ _ | exact bl_ndec _ _
theorem Enc.plL (e : Enc k f) (n : Nat) : ∀ xs : List α, D.plainL (n + k) (xs.map f) = true
  | [] => rfl
  | x :: r => by simp [D.plainL, e.pl, e.plL n r]
theorem Enc.inL (e : Enc k f) (a : α) : ∀ xs : List α, LW.inL (f a) (xs.map f) = decide (a ∈ xs)
  | [] => by simp [LW.inL, D.pyL]
  | x :: r => by
    have ih := e.inL a r
    unfold LW.inL at ih ⊢
    rw [List.map_cons, show D.pyL (f x :: r.map f) = (f x).py :: D.pyL (r.map f) by simp [D.pyL], List.any_cons, ih, e.eq]
    by_cases h : x = a
    · simp [h]
    · have : ¬ a = x := fun z => h z.symm
      simp [h, this]
theorem Enc.mem (e : Enc k f) (hk : k ≤ 50) (a : α) (xs : List α) : (if (f a).plain 59 = true ∧ D.plainL 59 (xs.map f) = true then some (LW.inL (f a) (xs.map f)) else none) = some (decide (a ∈ xs)) := by
  have p : (f a).plain 59 = true := by have := e.pl (59 - k) a; rwa [show 59 - k + k = 59 by omega] at this
  have q : D.plainL 59 (xs.map f) = true := by have := e.plL (59 - k) xs; rwa [show 59 - k + k = 59 by omega] at this
  rw [if_pos ⟨p, q⟩, e.inL]
theorem Enc.all (e : Enc k f) : ∀ xs ys : List α, PyData.eqvAll (D.pyL (xs.map f)) (D.pyL (ys.map f)) = decide (xs = ys)
  | [], [] => by simp [D.pyL, PyData.eqvAll]
  | [], _ :: _ => by simp [D.pyL, PyData.eqvAll]
  | _ :: _, [] => by simp [D.pyL, PyData.eqvAll]
  | x :: xs, y :: ys => by
    simp only [List.map_cons, D.pyL, PyData.eqvAll, e.eq, e.all xs ys]
    by_cases h : x = y <;> simp [h]
theorem Enc.tup (e : Enc k f) : Enc (k + 1) (fun xs : List α => D.tup (xs.map f)) where
  cmp _ _ := rfl
  pl n xs := by
    show D.plain (n + k + 1) (.tup (xs.map f)) = true
    simp only [D.plain]; exact e.plL n xs
  eq xs ys := by simp only [D.py, PyData.eqv]; exact e.all xs ys
theorem Enc.lst (e : Enc k f) : Enc (k + 1) (fun xs : List α => D.lst (xs.map f)) where
  cmp _ _ := rfl
  pl n xs := by
    show D.plain (n + k + 1) (.lst (xs.map f)) = true
    simp only [D.plain]; exact e.plL n xs
  eq xs ys := by simp only [D.py, PyData.eqv]; exact e.all xs ys
theorem Enc.two {β : Type} [DecidableEq β] {g : β → D} (e : Enc k f) (e' : Enc k g) : Enc (k + 1) (fun q : α × β => D.tup [f q.1, g q.2]) where
  cmp _ _ := rfl
  pl n q := by
    show D.plain (n + k + 1) _ = true
    simp [D.plain, D.plainL, e.pl, e'.pl]
  eq p q := by
    simp only [D.py, D.pyL, PyData.eqv, PyData.eqvAll, e.eq, e'.eq]
    obtain ⟨a, b⟩ := p
    obtain ⟨c, d⟩ := q
    by_cases h1 : a = c <;> by_cases h2 : b = d <;> simp [h1, h2]
theorem Enc.more (e : Enc k f) (j : Nat) : Enc (k + j) f where
  cmp := e.cmp
  pl n a := by rw [show n + (k + j) = n + j + k by omega]; exact e.pl _ a
  eq := e.eq
end
def iN (k : Nat) : D := .int k
section
variable {α : Type} {f : α → D}
end
end SM

namespace SM
open PySem LW L2
section
variable {α : Type} {enc : α → D} {v : D}
end
end SM

namespace SM
open PySem LW L2
structure LT (x : D) (ds : List D) : Prop where
  lt : gIs2 (D.isa CS .list) (D.isa CS .tuple) x = some (.v (.bl true))
  len : gLen2 x = some (.v (.int ds.length))
  sq : ∀ ρ, seqH (.ok (.v x) ρ) = .ok ds ρ
theorem LT.l (ds : List D) : LT (.lst ds) ds := ⟨rfl, rfl, fun _ => rfl⟩
theorem LT.t (ds : List D) : LT (.tup ds) ds := ⟨rfl, rfl, fun _ => rfl⟩
end SM

namespace SM
open PySem LW L2
end SM

namespace SM
open PySem LW L2
theorem plainL_iff {n : Nat} : ∀ {ds : List D}, D.plainL n ds = true ↔ ∀ d ∈ ds, d.plain n = true
  | [] => by simp [D.plainL]
  | d :: r => by simp [D.plainL, plainL_iff (ds := r)]
end SM

namespace SM
open PySem LW L2
end SM

namespace SM
open PySem LW L2
section
variable {ns : List (List Nat)} {qs : List D} {e e' : Bool} {ρ : LW.Env}
def gF (ns : List (List Nat)) (qs : List D) (e : Bool) : List (Str × O) := [("read_names", .l (ns.map sS)), ("read_ways", .l qs), ("ended", .v (.bl e))]
def gO (ns : List (List Nat)) (qs : List D) (e : Bool) : O := .i "LineReader" (gF ns qs e)
end
structure Rd where
  ns : List (List Nat)
  qs : List (Nat × Nat)
  e : Bool
theorem plain_sS {ls : List (List Nat)} {n : Nat} (h : ∀ l ∈ ls, Okl l) : D.plainL n (ls.map sS) = true := plainL_iff.mpr fun d hd => by
  obtain ⟨l, hl, rfl⟩ := List.mem_map.mp hd
  have := okl_S (h l hl)
  cases n <;> simpa [sS, D.plain] using this
theorem appR_ok {ds : List D} {d : D} (h : ds.length ≤ 50000) : gApp ds d = some (.non, ds ++ [d]) := if_pos (by have := line_big; omega)
end SM

namespace SM
open PySem LW L2
section
variable {ns : List (List Nat)} {qs : List (Nat × Nat)} {e : Bool} {w : List Nat} {t : List (List Nat)} {a : Option O}
abbrev eP (ns : List (List Nat)) (qs : List (Nat × Nat)) (e : Bool) (W : List D) (a : Option O) : LW.Env := [some (gO ns (qs.map pD) e), some (.v (.lst W)), a]
end
end SM

namespace SM
open PySem LW L2
section
variable {ns : List (List Nat)} {qs : List (Nat × Nat)} {e : Bool} {w : List Nat} {t : List (List Nat)} {a : Option O}
end
end SM

namespace SM
open PySem LW L2
theorem spl1 (s : Nat) : ∀ (l acc : List Nat), TL.spl [s] 0 acc l ≠ [] ∧ (TL.spl [s] 0 acc l).length ≤ l.length + 1 ∧ ∀ p ∈ TL.spl [s] 0 acc l, p.length ≤ acc.length + l.length ∧ ∀ c ∈ p, c ∈ acc ∨ c ∈ l
  | [], acc => by
    rw [TL.spl_nil]
    refine ⟨by simp, by simp, fun p hp => ?_⟩
    rw [List.mem_singleton] at hp
    subst hp
    exact ⟨by simp, fun c hc => .inl hc⟩
  | c :: r, acc => by
    cases hp : TL.pre [s] (c :: r) with
    | true =>
      rw [TL.spl_hit hp]
      obtain ⟨h1, h2, h3⟩ := spl1 s r []
      refine ⟨by simp, by simp; exact h2, fun p hp => ?_⟩
      rcases List.mem_cons.mp hp with e | e
      · subst e; exact ⟨by simp, fun c hc => .inl hc⟩
      · obtain ⟨g1, g2⟩ := h3 p e
        exact ⟨by simp at g1 ⊢; omega, fun c hc => .inr (List.mem_cons_of_mem _ ((g2 c hc).resolve_left (by simp)))⟩
    | false =>
      rw [TL.spl_miss hp]
      obtain ⟨h1, h2, h3⟩ := spl1 s r (acc ++ [c])
      refine ⟨h1, by simp; omega, fun p hp => ?_⟩
      obtain ⟨g1, g2⟩ := h3 p hp
      refine ⟨by simp at g1 ⊢; omega, fun x hx => ?_⟩
      rcases g2 x hx with z | z
      · rcases List.mem_append.mp z with y | y
        · exact .inl y
        · rw [List.mem_singleton] at y; subst y; exact .inr List.mem_cons_self
      · exact .inr (List.mem_cons_of_mem _ z)
def wsOf (a : List Nat) : List (List Nat) := TL.spl [32] 0 [] a
structure TxOk (a : List Nat) (n : Nat) : Prop where
  ok : Okl a
  len : a.length ≤ n
end SM

namespace SM
open PySem LW L2
end SM

namespace SM
open PySem LW L2
section
variable {x f g : Str} {ga : LW.Env → Out (List D)} {ρ : LW.Env} {a b : D} {e : EX}
end
end SM

namespace SM
open PySem LW L2
end SM

namespace SM
open PySem LW L2
def wt : List (List Nat) → Nat
  | [] => 0
  | w :: r => w.length + 1 + wt r
theorem wt_take : ∀ (n : Nat) (a : List (List Nat)), wt (a.take n) ≤ wt a
  | 0, a => by simp [wt]
  | n + 1, [] => by simp [wt]
  | n + 1, x :: r => by have := wt_take n r; simp [wt]; omega
theorem wt_drop : ∀ (n : Nat) (a : List (List Nat)), wt (a.drop n) ≤ wt a
  | 0, a => by simp
  | n + 1, [] => by simp [wt]
  | n + 1, x :: r => by have := wt_drop n r; simp [wt]; omega
theorem wt_spl (s : Nat) : ∀ (l acc : List Nat), wt (TL.spl [s] 0 acc l) = acc.length + l.length + 1
  | [], acc => by rw [TL.spl_nil]; simp [wt]
  | c :: r, acc => by
    cases hp : TL.pre [s] (c :: r) with
    | true =>
      rw [TL.spl_hit hp]
      have := wt_spl s r []
      simp [wt] at this ⊢; omega
    | false =>
      rw [TL.spl_miss hp]
      have := wt_spl s r (acc ++ [c])
      simp at this ⊢; omega
theorem join_wt (s : Nat) : ∀ a : List (List Nat), (TL.joinL [s] a).length ≤ wt a
  | [] => by simp [TL.joinL]
  | [p] => by simp [TL.joinL, wt]
  | p :: q :: r => by
    have := join_wt s (q :: r)
    simp [TL.joinL, wt] at this ⊢; omega
theorem join_okl (s : Nat) (hs : s < 1114112) : ∀ a : List (List Nat), (∀ w ∈ a, Okl w) → Okl (TL.joinL [s] a)
  | [], _ => fun c h => nomatch h
  | [p], h => by
    show Okl p
    exact h p (by simp)
  | p :: q :: r, h => fun c hc => by
    have ih := join_okl s hs (q :: r) fun w hw => h w (List.mem_cons_of_mem _ hw)
    have hc' : c ∈ p ++ ([s] ++ TL.joinL [s] (q :: r)) := hc
    rcases List.mem_append.mp hc' with z | z
    · exact h p List.mem_cons_self c z
    · rcases List.mem_append.mp z with y | y
      · rw [List.mem_singleton] at y; subst y; exact hs
      · exact ih c y
structure Row (a : List (List Nat)) (n : Nat) : Prop where
  ok : ∀ w ∈ a, Okl w
  wt : wt a ≤ n
theorem Row.take {a : List (List Nat)} {n : Nat} (h : Row a n) (k : Nat) : Row (a.take k) n := ⟨fun w hw => h.ok w (List.mem_of_mem_take hw), Nat.le_trans (wt_take k a) h.wt⟩
theorem Row.drop {a : List (List Nat)} {n : Nat} (h : Row a n) (k : Nat) : Row (a.drop k) n := ⟨fun w hw => h.ok w (List.mem_of_mem_drop hw), Nat.le_trans (wt_drop k a) h.wt⟩
theorem Row.len {a : List (List Nat)} {n : Nat} (h : Row a n) : a.length ≤ n := by
  have : ∀ a : List (List Nat), a.length ≤ SM.wt a := by
    intro a
    induction a with
    | nil => simp
    | cons x r ih => simp [SM.wt]; omega
  exact Nat.le_trans (this a) h.wt
theorem Row.one {w : List Nat} (h : Okl w) : Row [w] (w.length + 1) := ⟨fun x hx => by rw [List.mem_singleton] at hx; subst hx; exact h, by simp [SM.wt]⟩
theorem Row.mono {a : List (List Nat)} {n m : Nat} (h : Row a n) (g : n ≤ m) : Row a m := ⟨h.ok, Nat.le_trans h.wt g⟩
theorem Row.spl {a : List Nat} {n : Nat} (h : TxOk a n) : Row (wsOf a) (n + 1) := by
  obtain ⟨h1, h2, h3⟩ := spl1 32 a []
  refine ⟨fun w hw c hc => h.ok c (((h3 w hw).2 c hc).resolve_left (by simp)), ?_⟩
  have := wt_spl 32 a []
  unfold wsOf
  have := h.len
  simp at *; omega
theorem Row.join {a : List (List Nat)} {n : Nat} (h : Row a n) : TxOk (TL.joinL [32] a) n := ⟨join_okl 32 (by omega) a h.ok, Nat.le_trans (join_wt 32 a) h.wt⟩
end SM

namespace SM
open PySem LW L2
end SM

namespace SM
open PySem LW L2
def par3F (i j l : Nat) (m : Out (List D)) : LW.Flow := flow m fun ds ρ1 => match ds with
  | [a, b, c] => .next (((ρ1.set i (some (.v a))).set j (some (.v b))).set l (some (.v c)))
  | _ => .no
theorem sPar3_w {i j l : Nat} {ar : LW.Env → Out (List D)} {ρ : LW.Env} : sPar3 i j l ar ρ = par3F i j l (ar ρ) := rfl
theorem par3F_ok {i j l : Nat} {a b c : D} {ρ : LW.Env} : par3F i j l (.ok [a, b, c] ρ) = .next (((ρ.set i (some (.v a))).set j (some (.v b))).set l (some (.v c))) := rfl
structure Lns (ls : List (List Nat)) (N n : Nat) : Prop where
  len : ls.length ≤ N
  ok : ∀ l ∈ ls, TxOk l n
theorem TxOk.mono {a : List Nat} {n m : Nat} (h : TxOk a n) (g : n ≤ m) : TxOk a m := ⟨h.ok, Nat.le_trans h.len g⟩
theorem Lns.plain {ls : List (List Nat)} {N n : Nat} (h : Lns ls N n) : D.plainL 59 (ls.map sS) = true := plain_sS fun l hl => (h.ok l hl).ok
end SM

namespace SM
open PySem LW L2
def THINGS : List D := [.non, .bl true, .int 0, .int (-3), .int (10 ^ 39), .str "", .str "place", .str "a b", .tup [], .tup [.int 1, .str "x"], .lst [], .lst [.non], .dct false [], .dct false [(.str "a", .tup [.int 0])]]
def chk (ds : List D) : Bool := if ds.any D.isD = true then ds.all okX && decide ((listText (PyData.shownAll (ds.map D.pyX))).length ≤ 1000) else (D.plain 60 (.lst ds) && (D.lst ds).py.showable) && decide ((D.lst ds).py.shown.length ≤ 1000)
theorem chk_all : ((THINGS.all fun a => THINGS.all fun b => chk [a, b]) && (THINGS.all fun a => chk [a])) = true := by decide +kernel
theorem chk_nil : chk [] = true := by decide +kernel
theorem chk_ok {ds : List D} (h : chk ds = true) : ∃ s : Str, gReprX (.lst ds) = some (.v (.str s)) := by
  unfold chk at h
  by_cases hD : ds.any D.isD = true
  · rw [if_pos hD, Bool.and_eq_true, decide_eq_true_eq] at h
    refine ⟨listText (PyData.shownAll (ds.map D.pyX)), ?_⟩
    show (if ds.any D.isD = true then (if ds.all okX = true ∧ (listText (PyData.shownAll (ds.map D.pyX))).length ≤ sizeLine then some (P.v (.str (listText (PyData.shownAll (ds.map D.pyX))))) else none) else gRepr (.lst ds)) = _
    rw [if_pos hD, if_pos ⟨h.1, Nat.le_trans (by omega) line_big⟩]
  · rw [if_neg hD, Bool.and_eq_true, Bool.and_eq_true, decide_eq_true_eq] at h
    refine ⟨(D.lst ds).py.shown, ?_⟩
    show (if ds.any D.isD = true then _ else gRepr (.lst ds)) = _
    rw [if_neg hD]
    unfold gRepr
    rw [if_pos ⟨h.1.1, h.1.2, Nat.le_trans (by omega) line_big⟩]
theorem g10 : gPow (.int 10) (.int 39) = some (.v (.int (10 ^ 39))) := by kernel_rfl
theorem thing (p : Pot) : ∃ (d : D) (p' : Pot), d ∈ THINGS ∧ sem__law_thing [p.o] = .ret (.v d) [p'.o] := by
  obtain ⟨d, p', hd, e⟩ := pick p THINGS (by simp [THINGS]) (by simp [THINGS])
  refine ⟨d, p', hd, ?_⟩
  have n3 : gNeg (.int 3) = some (.v (.int (-3))) := rfl
  have dn : ∀ ρ : LW.Env, fzF (sDNew false ρ) = .ok (.v (.dct false [])) ρ := fun _ => rfl
  have dd : ∀ ρ : LW.Env, fzF (sDisp1 "a" (sTup (sCons (sC (.int 0)) (sNil))) ρ) = .ok (.v (.dct false [(.str "a", .tup [.int 0])])) ρ := fun _ => rfl
  unfold THINGS at e
  unfold sem__law_thing
  simp only [y50, LW.argsOk, O.isV, O.d, List.all_cons, List.all_nil, Bool.and_true, Bool.true_and, Bool.and_self, List.length_cons, List.length_nil, List.map_cons, List.map_nil, List.cons_append, List.nil_append, List.replicate_succ, List.replicate_zero, Nat.reduceAdd, Nat.reduceSub, Nat.zero_add, and_self, and_true, true_and, if_true, ite_true, if_false, ite_false, List.getElem?_cons_zero, List.getElem?_cons_succ, List.set_cons_zero, List.set_cons_succ, List.set_nil, Bool.false_eq_true, reduceIte, y75, y69, y95, y87, y121, y133, y68, y82, y208, y165, y178, y158, y166, y105, y174, y94, y152, y196, y169, y140, y181, y160, y207, y209, y199, y147, y172, y148, y176, y189, y16, y67, y100, y99, y170, y141, y37, y60, y62, y138, y61, y153, y203, y180, y109, y42, y70, y206, y204, y80, y202, y188, y86, y164, y113, y107, y151, y134, y129, y11, y31, y29, y41, y26, y106, y13, y97, y30, y193, y110, y173, y142, y34, y8, y55, y15, y47, y9, y171, y93, y195, y163, y146, y131, y130, y64, y103, y81, y102, y157, y150, y205, y177, y96, y49, y63, y78, y128, y127, y74, y79, y76, y137, y65, y77, y22, y46, y23, y17, y38, y4, y5, y7, y90, y136, y135, y0, y25, y58, y1, y88, y18, y124, y122, y118, y116, y111, y123, y91, y72, y197, y112, y117, y194, y125, y114, y6, y126, y101, y73, y84, y104, y12, y10, y71, Option.getD_some, y198, y201, y144, y192, y200, y154, y187, y156, y183, y155, y179, y184, y35, y186, y48, y145, y143, y191, y149, y159, y167, y162, y83, y19, y24, y53, y51, y56, y36, y28, y21, y161, y108, y98, y57, y43, y3, y119, y2, y120, y33, y182, y185, y115, y40, y139, y27, y20, y59, y14, y32, y39, y54, y45, y89, y44, y66, y85, y132, y168, y175, y190, y52, y92, n3, g10, dn, dd, e]
def rowsE (a b : D) : List D := [.tup [.ex "BadNumber" [("value", a)], .str "value"], .tup [.ex "BadText" [("what", b), ("line", a)], .str "line what"], .tup [.ex "BadWeb" [("what", a)], .str "what"], .tup [.ex "NoDeed" [("at", a)], .str "at"], .tup [.ex "NoFires" [("at", a)], .str "at"], .tup [.ex "NoLabel" [("at", a)], .str "at"], .tup [.ex "NoLot" [], .str ""], .tup [.ex "NoPlace" [], .str ""], .tup [.ex "NoQuestion" [], .str ""], .tup [.ex "NothingDone" [], .str ""]]
theorem rows_E (a b : D) : sem__law_rows [.v a, .v b] = .ret (.f (.l (rowsE a b))) [.v a, .v b] := by
  have xBadNumber : ∀ z : Option O, sExv (sMk1 "BadNumber" "value" (sCons (sVar 0) (sNil))) [some (.v a), some (.v b), z] = .ok (.v (.ex "BadNumber" [("value", a)])) [some (.v a), some (.v b), z] := fun _ => rfl
  have xBadText : ∀ z : Option O, sExv (sMk2 "BadText" "line" "what" (sCons (sVar 0) (sCons (sVar 1) (sNil)))) [some (.v a), some (.v b), z] = .ok (.v (.ex "BadText" [("what", b), ("line", a)])) [some (.v a), some (.v b), z] := fun _ => rfl
  have xBadWeb : ∀ z : Option O, sExv (sMk1 "BadWeb" "what" (sCons (sVar 0) (sNil))) [some (.v a), some (.v b), z] = .ok (.v (.ex "BadWeb" [("what", a)])) [some (.v a), some (.v b), z] := fun _ => rfl
  have xNoDeed : ∀ z : Option O, sExv (sMk1 "NoDeed" "at" (sCons (sVar 0) (sNil))) [some (.v a), some (.v b), z] = .ok (.v (.ex "NoDeed" [("at", a)])) [some (.v a), some (.v b), z] := fun _ => rfl
  have xNoFires : ∀ z : Option O, sExv (sMk1 "NoFires" "at" (sCons (sVar 0) (sNil))) [some (.v a), some (.v b), z] = .ok (.v (.ex "NoFires" [("at", a)])) [some (.v a), some (.v b), z] := fun _ => rfl
  have xNoLabel : ∀ z : Option O, sExv (sMk1 "NoLabel" "at" (sCons (sVar 0) (sNil))) [some (.v a), some (.v b), z] = .ok (.v (.ex "NoLabel" [("at", a)])) [some (.v a), some (.v b), z] := fun _ => rfl
  have xNoLot : ∀ z : Option O, sExv (sMk0 "NoLot") [some (.v a), some (.v b), z] = .ok (.v (.ex "NoLot" [])) [some (.v a), some (.v b), z] := fun _ => rfl
  have xNoPlace : ∀ z : Option O, sExv (sMk0 "NoPlace") [some (.v a), some (.v b), z] = .ok (.v (.ex "NoPlace" [])) [some (.v a), some (.v b), z] := fun _ => rfl
  have xNoQuestion : ∀ z : Option O, sExv (sMk0 "NoQuestion") [some (.v a), some (.v b), z] = .ok (.v (.ex "NoQuestion" [])) [some (.v a), some (.v b), z] := fun _ => rfl
  have xNothingDone : ∀ z : Option O, sExv (sMk0 "NothingDone") [some (.v a), some (.v b), z] = .ok (.v (.ex "NothingDone" [])) [some (.v a), some (.v b), z] := fun _ => rfl
  have ad : gAdd (.lst [D.tup [.ex "BadNumber" [("value", a)], .str "value"], D.tup [.ex "BadText" [("what", b), ("line", a)], .str "line what"], D.tup [.ex "BadWeb" [("what", a)], .str "what"], D.tup [.ex "NoDeed" [("at", a)], .str "at"], D.tup [.ex "NoFires" [("at", a)], .str "at"]]) (.lst [D.tup [.ex "NoLabel" [("at", a)], .str "at"], D.tup [.ex "NoLot" [], .str ""], D.tup [.ex "NoPlace" [], .str ""], D.tup [.ex "NoQuestion" [], .str ""], D.tup [.ex "NothingDone" [], .str ""]]) = some (.f (.l ([D.tup [.ex "BadNumber" [("value", a)], .str "value"], D.tup [.ex "BadText" [("what", b), ("line", a)], .str "line what"], D.tup [.ex "BadWeb" [("what", a)], .str "what"], D.tup [.ex "NoDeed" [("at", a)], .str "at"], D.tup [.ex "NoFires" [("at", a)], .str "at"]] ++ [D.tup [.ex "NoLabel" [("at", a)], .str "at"], D.tup [.ex "NoLot" [], .str ""], D.tup [.ex "NoPlace" [], .str ""], D.tup [.ex "NoQuestion" [], .str ""], D.tup [.ex "NothingDone" [], .str ""]]))) := add_lst (by simp)
  unfold sem__law_rows
  simp only [y50, LW.argsOk, O.isV, O.d, List.all_cons, List.all_nil, Bool.and_true, Bool.true_and, Bool.and_self, List.length_cons, List.length_nil, List.map_cons, List.map_nil, List.cons_append, List.nil_append, List.replicate_succ, List.replicate_zero, Nat.reduceAdd, Nat.reduceSub, Nat.zero_add, and_self, and_true, true_and, if_true, ite_true, if_false, ite_false, List.getElem?_cons_zero, List.getElem?_cons_succ, List.set_cons_zero, List.set_cons_succ, List.set_nil, Bool.false_eq_true, reduceIte, y75, y69, y95, y87, y121, y133, y68, y82, y208, y165, y178, y158, y166, y105, y174, y94, y152, y196, y169, y140, y181, y160, y207, y209, y199, y147, y172, y148, y176, y189, y16, y67, y100, y99, y170, y141, y37, y60, y62, y138, y61, y153, y203, y180, y109, y42, y70, y206, y204, y80, y202, y188, y86, y164, y113, y107, y151, y134, y129, y11, y31, y29, y41, y26, y106, y13, y97, y30, y193, y110, y173, y142, y34, y8, y55, y15, y47, y9, y171, y93, y195, y163, y146, y131, y130, y64, y103, y81, y102, y157, y150, y205, y177, y96, y49, y63, y78, y128, y127, y74, y79, y76, y137, y65, y77, y22, y46, y23, y17, y38, y4, y5, y7, y90, y136, y135, y0, y25, y58, y1, y88, y18, y124, y122, y118, y116, y111, y123, y91, y72, y197, y112, y117, y194, y125, y114, y6, y126, y101, y73, y84, y104, y12, y10, y71, Option.getD_some, y198, y201, y144, y192, y200, y154, y187, y156, y183, y155, y179, y184, y35, y186, y48, y145, y143, y191, y149, y159, y167, y162, y83, y19, y24, y53, y51, y56, y36, y28, y21, y161, y108, y98, y57, y43, y3, y119, y2, y120, y33, y182, y185, y115, y40, y139, y27, y20, y59, y14, y32, y39, y54, y45, y89, y44, y66, y85, y132, y168, y175, y190, y52, y92, xBadNumber, xBadText, xBadWeb, xNoDeed, xNoFires, xNoLabel, xNoLot, xNoPlace, xNoQuestion, xNothingDone, ad]
  rfl
theorem kinds_BadNumber (fs : List (Str × D)) : sem__law_kinds [.v (.ex "BadNumber" fs)] = .ret (.f (.l [.bl true, .bl false, .bl false, .bl false, .bl false, .bl false, .bl false, .bl false, .bl false, .bl false])) [.v (.ex "BadNumber" fs)] := by
  have g0 : gIsX EXS ["BadNumber"] (.ex "BadNumber" fs) = some (.v (.bl true)) := rfl
  have g1 : gIsX EXS ["BadText"] (.ex "BadNumber" fs) = some (.v (.bl false)) := rfl
  have g2 : gIsX EXS ["BadWeb"] (.ex "BadNumber" fs) = some (.v (.bl false)) := rfl
  have g3 : gIsX EXS ["NoDeed"] (.ex "BadNumber" fs) = some (.v (.bl false)) := rfl
  have g4 : gIsX EXS ["NoFires"] (.ex "BadNumber" fs) = some (.v (.bl false)) := rfl
  have g5 : gIsX EXS ["NoLabel"] (.ex "BadNumber" fs) = some (.v (.bl false)) := rfl
  have g6 : gIsX EXS ["NoLot"] (.ex "BadNumber" fs) = some (.v (.bl false)) := rfl
  have g7 : gIsX EXS ["NoPlace"] (.ex "BadNumber" fs) = some (.v (.bl false)) := rfl
  have g8 : gIsX EXS ["NoQuestion"] (.ex "BadNumber" fs) = some (.v (.bl false)) := rfl
  have g9 : gIsX EXS ["NothingDone"] (.ex "BadNumber" fs) = some (.v (.bl false)) := rfl
  have a1 : gAdd (.lst [.bl true, .bl false, .bl false]) (.lst [.bl false, .bl false, .bl false]) = some (.f (.l [.bl true, .bl false, .bl false, .bl false, .bl false, .bl false])) := add_lst (by simp)
  have a2 : gAdd (.lst [.bl true, .bl false, .bl false, .bl false, .bl false, .bl false]) (.lst [.bl false, .bl false, .bl false]) = some (.f (.l [.bl true, .bl false, .bl false, .bl false, .bl false, .bl false, .bl false, .bl false, .bl false])) := add_lst (by simp)
  have a3 : gAdd (.lst [.bl true, .bl false, .bl false, .bl false, .bl false, .bl false, .bl false, .bl false, .bl false]) (.lst [.bl false]) = some (.f (.l [.bl true, .bl false, .bl false, .bl false, .bl false, .bl false, .bl false, .bl false, .bl false, .bl false])) := add_lst (by simp)
  unfold sem__law_kinds
  simp only [y50, LW.argsOk, O.isV, O.d, List.all_cons, List.all_nil, Bool.and_true, Bool.true_and, Bool.and_self, List.length_cons, List.length_nil, List.map_cons, List.map_nil, List.cons_append, List.nil_append, List.replicate_succ, List.replicate_zero, Nat.reduceAdd, Nat.reduceSub, Nat.zero_add, and_self, and_true, true_and, if_true, ite_true, if_false, ite_false, List.getElem?_cons_zero, List.getElem?_cons_succ, List.set_cons_zero, List.set_cons_succ, List.set_nil, Bool.false_eq_true, reduceIte, y75, y69, y95, y87, y121, y133, y68, y82, y208, y165, y178, y158, y166, y105, y174, y94, y152, y196, y169, y140, y181, y160, y207, y209, y199, y147, y172, y148, y176, y189, y16, y67, y100, y99, y170, y141, y37, y60, y62, y138, y61, y153, y203, y180, y109, y42, y70, y206, y204, y80, y202, y188, y86, y164, y113, y107, y151, y134, y129, y11, y31, y29, y41, y26, y106, y13, y97, y30, y193, y110, y173, y142, y34, y8, y55, y15, y47, y9, y171, y93, y195, y163, y146, y131, y130, y64, y103, y81, y102, y157, y150, y205, y177, y96, y49, y63, y78, y128, y127, y74, y79, y76, y137, y65, y77, y22, y46, y23, y17, y38, y4, y5, y7, y90, y136, y135, y0, y25, y58, y1, y88, y18, y124, y122, y118, y116, y111, y123, y91, y72, y197, y112, y117, y194, y125, y114, y6, y126, y101, y73, y84, y104, y12, y10, y71, Option.getD_some, y198, y201, y144, y192, y200, y154, y187, y156, y183, y155, y179, y184, y35, y186, y48, y145, y143, y191, y149, y159, y167, y162, y83, y19, y24, y53, y51, y56, y36, y28, y21, y161, y108, y98, y57, y43, y3, y119, y2, y120, y33, y182, y185, y115, y40, y139, y27, y20, y59, y14, y32, y39, y54, y45, y89, y44, y66, y85, y132, y168, y175, y190, y52, y92, g0, g1, g2, g3, g4, g5, g6, g7, g8, g9, a1, a2, a3]
theorem kinds_BadText (fs : List (Str × D)) : sem__law_kinds [.v (.ex "BadText" fs)] = .ret (.f (.l [.bl false, .bl true, .bl false, .bl false, .bl false, .bl false, .bl false, .bl false, .bl false, .bl false])) [.v (.ex "BadText" fs)] := by
  have g0 : gIsX EXS ["BadNumber"] (.ex "BadText" fs) = some (.v (.bl false)) := rfl
  have g1 : gIsX EXS ["BadText"] (.ex "BadText" fs) = some (.v (.bl true)) := rfl
  have g2 : gIsX EXS ["BadWeb"] (.ex "BadText" fs) = some (.v (.bl false)) := rfl
  have g3 : gIsX EXS ["NoDeed"] (.ex "BadText" fs) = some (.v (.bl false)) := rfl
  have g4 : gIsX EXS ["NoFires"] (.ex "BadText" fs) = some (.v (.bl false)) := rfl
  have g5 : gIsX EXS ["NoLabel"] (.ex "BadText" fs) = some (.v (.bl false)) := rfl
  have g6 : gIsX EXS ["NoLot"] (.ex "BadText" fs) = some (.v (.bl false)) := rfl
  have g7 : gIsX EXS ["NoPlace"] (.ex "BadText" fs) = some (.v (.bl false)) := rfl
  have g8 : gIsX EXS ["NoQuestion"] (.ex "BadText" fs) = some (.v (.bl false)) := rfl
  have g9 : gIsX EXS ["NothingDone"] (.ex "BadText" fs) = some (.v (.bl false)) := rfl
  have a1 : gAdd (.lst [.bl false, .bl true, .bl false]) (.lst [.bl false, .bl false, .bl false]) = some (.f (.l [.bl false, .bl true, .bl false, .bl false, .bl false, .bl false])) := add_lst (by simp)
  have a2 : gAdd (.lst [.bl false, .bl true, .bl false, .bl false, .bl false, .bl false]) (.lst [.bl false, .bl false, .bl false]) = some (.f (.l [.bl false, .bl true, .bl false, .bl false, .bl false, .bl false, .bl false, .bl false, .bl false])) := add_lst (by simp)
  have a3 : gAdd (.lst [.bl false, .bl true, .bl false, .bl false, .bl false, .bl false, .bl false, .bl false, .bl false]) (.lst [.bl false]) = some (.f (.l [.bl false, .bl true, .bl false, .bl false, .bl false, .bl false, .bl false, .bl false, .bl false, .bl false])) := add_lst (by simp)
  unfold sem__law_kinds
  simp only [y50, LW.argsOk, O.isV, O.d, List.all_cons, List.all_nil, Bool.and_true, Bool.true_and, Bool.and_self, List.length_cons, List.length_nil, List.map_cons, List.map_nil, List.cons_append, List.nil_append, List.replicate_succ, List.replicate_zero, Nat.reduceAdd, Nat.reduceSub, Nat.zero_add, and_self, and_true, true_and, if_true, ite_true, if_false, ite_false, List.getElem?_cons_zero, List.getElem?_cons_succ, List.set_cons_zero, List.set_cons_succ, List.set_nil, Bool.false_eq_true, reduceIte, y75, y69, y95, y87, y121, y133, y68, y82, y208, y165, y178, y158, y166, y105, y174, y94, y152, y196, y169, y140, y181, y160, y207, y209, y199, y147, y172, y148, y176, y189, y16, y67, y100, y99, y170, y141, y37, y60, y62, y138, y61, y153, y203, y180, y109, y42, y70, y206, y204, y80, y202, y188, y86, y164, y113, y107, y151, y134, y129, y11, y31, y29, y41, y26, y106, y13, y97, y30, y193, y110, y173, y142, y34, y8, y55, y15, y47, y9, y171, y93, y195, y163, y146, y131, y130, y64, y103, y81, y102, y157, y150, y205, y177, y96, y49, y63, y78, y128, y127, y74, y79, y76, y137, y65, y77, y22, y46, y23, y17, y38, y4, y5, y7, y90, y136, y135, y0, y25, y58, y1, y88, y18, y124, y122, y118, y116, y111, y123, y91, y72, y197, y112, y117, y194, y125, y114, y6, y126, y101, y73, y84, y104, y12, y10, y71, Option.getD_some, y198, y201, y144, y192, y200, y154, y187, y156, y183, y155, y179, y184, y35, y186, y48, y145, y143, y191, y149, y159, y167, y162, y83, y19, y24, y53, y51, y56, y36, y28, y21, y161, y108, y98, y57, y43, y3, y119, y2, y120, y33, y182, y185, y115, y40, y139, y27, y20, y59, y14, y32, y39, y54, y45, y89, y44, y66, y85, y132, y168, y175, y190, y52, y92, g0, g1, g2, g3, g4, g5, g6, g7, g8, g9, a1, a2, a3]
theorem kinds_BadWeb (fs : List (Str × D)) : sem__law_kinds [.v (.ex "BadWeb" fs)] = .ret (.f (.l [.bl false, .bl false, .bl true, .bl false, .bl false, .bl false, .bl false, .bl false, .bl false, .bl false])) [.v (.ex "BadWeb" fs)] := by
  have g0 : gIsX EXS ["BadNumber"] (.ex "BadWeb" fs) = some (.v (.bl false)) := rfl
  have g1 : gIsX EXS ["BadText"] (.ex "BadWeb" fs) = some (.v (.bl false)) := rfl
  have g2 : gIsX EXS ["BadWeb"] (.ex "BadWeb" fs) = some (.v (.bl true)) := rfl
  have g3 : gIsX EXS ["NoDeed"] (.ex "BadWeb" fs) = some (.v (.bl false)) := rfl
  have g4 : gIsX EXS ["NoFires"] (.ex "BadWeb" fs) = some (.v (.bl false)) := rfl
  have g5 : gIsX EXS ["NoLabel"] (.ex "BadWeb" fs) = some (.v (.bl false)) := rfl
  have g6 : gIsX EXS ["NoLot"] (.ex "BadWeb" fs) = some (.v (.bl false)) := rfl
  have g7 : gIsX EXS ["NoPlace"] (.ex "BadWeb" fs) = some (.v (.bl false)) := rfl
  have g8 : gIsX EXS ["NoQuestion"] (.ex "BadWeb" fs) = some (.v (.bl false)) := rfl
  have g9 : gIsX EXS ["NothingDone"] (.ex "BadWeb" fs) = some (.v (.bl false)) := rfl
  have a1 : gAdd (.lst [.bl false, .bl false, .bl true]) (.lst [.bl false, .bl false, .bl false]) = some (.f (.l [.bl false, .bl false, .bl true, .bl false, .bl false, .bl false])) := add_lst (by simp)
  have a2 : gAdd (.lst [.bl false, .bl false, .bl true, .bl false, .bl false, .bl false]) (.lst [.bl false, .bl false, .bl false]) = some (.f (.l [.bl false, .bl false, .bl true, .bl false, .bl false, .bl false, .bl false, .bl false, .bl false])) := add_lst (by simp)
  have a3 : gAdd (.lst [.bl false, .bl false, .bl true, .bl false, .bl false, .bl false, .bl false, .bl false, .bl false]) (.lst [.bl false]) = some (.f (.l [.bl false, .bl false, .bl true, .bl false, .bl false, .bl false, .bl false, .bl false, .bl false, .bl false])) := add_lst (by simp)
  unfold sem__law_kinds
  simp only [y50, LW.argsOk, O.isV, O.d, List.all_cons, List.all_nil, Bool.and_true, Bool.true_and, Bool.and_self, List.length_cons, List.length_nil, List.map_cons, List.map_nil, List.cons_append, List.nil_append, List.replicate_succ, List.replicate_zero, Nat.reduceAdd, Nat.reduceSub, Nat.zero_add, and_self, and_true, true_and, if_true, ite_true, if_false, ite_false, List.getElem?_cons_zero, List.getElem?_cons_succ, List.set_cons_zero, List.set_cons_succ, List.set_nil, Bool.false_eq_true, reduceIte, y75, y69, y95, y87, y121, y133, y68, y82, y208, y165, y178, y158, y166, y105, y174, y94, y152, y196, y169, y140, y181, y160, y207, y209, y199, y147, y172, y148, y176, y189, y16, y67, y100, y99, y170, y141, y37, y60, y62, y138, y61, y153, y203, y180, y109, y42, y70, y206, y204, y80, y202, y188, y86, y164, y113, y107, y151, y134, y129, y11, y31, y29, y41, y26, y106, y13, y97, y30, y193, y110, y173, y142, y34, y8, y55, y15, y47, y9, y171, y93, y195, y163, y146, y131, y130, y64, y103, y81, y102, y157, y150, y205, y177, y96, y49, y63, y78, y128, y127, y74, y79, y76, y137, y65, y77, y22, y46, y23, y17, y38, y4, y5, y7, y90, y136, y135, y0, y25, y58, y1, y88, y18, y124, y122, y118, y116, y111, y123, y91, y72, y197, y112, y117, y194, y125, y114, y6, y126, y101, y73, y84, y104, y12, y10, y71, Option.getD_some, y198, y201, y144, y192, y200, y154, y187, y156, y183, y155, y179, y184, y35, y186, y48, y145, y143, y191, y149, y159, y167, y162, y83, y19, y24, y53, y51, y56, y36, y28, y21, y161, y108, y98, y57, y43, y3, y119, y2, y120, y33, y182, y185, y115, y40, y139, y27, y20, y59, y14, y32, y39, y54, y45, y89, y44, y66, y85, y132, y168, y175, y190, y52, y92, g0, g1, g2, g3, g4, g5, g6, g7, g8, g9, a1, a2, a3]
theorem kinds_NoDeed (fs : List (Str × D)) : sem__law_kinds [.v (.ex "NoDeed" fs)] = .ret (.f (.l [.bl false, .bl false, .bl false, .bl true, .bl false, .bl false, .bl false, .bl false, .bl false, .bl false])) [.v (.ex "NoDeed" fs)] := by
  have g0 : gIsX EXS ["BadNumber"] (.ex "NoDeed" fs) = some (.v (.bl false)) := rfl
  have g1 : gIsX EXS ["BadText"] (.ex "NoDeed" fs) = some (.v (.bl false)) := rfl
  have g2 : gIsX EXS ["BadWeb"] (.ex "NoDeed" fs) = some (.v (.bl false)) := rfl
  have g3 : gIsX EXS ["NoDeed"] (.ex "NoDeed" fs) = some (.v (.bl true)) := rfl
  have g4 : gIsX EXS ["NoFires"] (.ex "NoDeed" fs) = some (.v (.bl false)) := rfl
  have g5 : gIsX EXS ["NoLabel"] (.ex "NoDeed" fs) = some (.v (.bl false)) := rfl
  have g6 : gIsX EXS ["NoLot"] (.ex "NoDeed" fs) = some (.v (.bl false)) := rfl
  have g7 : gIsX EXS ["NoPlace"] (.ex "NoDeed" fs) = some (.v (.bl false)) := rfl
  have g8 : gIsX EXS ["NoQuestion"] (.ex "NoDeed" fs) = some (.v (.bl false)) := rfl
  have g9 : gIsX EXS ["NothingDone"] (.ex "NoDeed" fs) = some (.v (.bl false)) := rfl
  have a1 : gAdd (.lst [.bl false, .bl false, .bl false]) (.lst [.bl true, .bl false, .bl false]) = some (.f (.l [.bl false, .bl false, .bl false, .bl true, .bl false, .bl false])) := add_lst (by simp)
  have a2 : gAdd (.lst [.bl false, .bl false, .bl false, .bl true, .bl false, .bl false]) (.lst [.bl false, .bl false, .bl false]) = some (.f (.l [.bl false, .bl false, .bl false, .bl true, .bl false, .bl false, .bl false, .bl false, .bl false])) := add_lst (by simp)
  have a3 : gAdd (.lst [.bl false, .bl false, .bl false, .bl true, .bl false, .bl false, .bl false, .bl false, .bl false]) (.lst [.bl false]) = some (.f (.l [.bl false, .bl false, .bl false, .bl true, .bl false, .bl false, .bl false, .bl false, .bl false, .bl false])) := add_lst (by simp)
  unfold sem__law_kinds
  simp only [y50, LW.argsOk, O.isV, O.d, List.all_cons, List.all_nil, Bool.and_true, Bool.true_and, Bool.and_self, List.length_cons, List.length_nil, List.map_cons, List.map_nil, List.cons_append, List.nil_append, List.replicate_succ, List.replicate_zero, Nat.reduceAdd, Nat.reduceSub, Nat.zero_add, and_self, and_true, true_and, if_true, ite_true, if_false, ite_false, List.getElem?_cons_zero, List.getElem?_cons_succ, List.set_cons_zero, List.set_cons_succ, List.set_nil, Bool.false_eq_true, reduceIte, y75, y69, y95, y87, y121, y133, y68, y82, y208, y165, y178, y158, y166, y105, y174, y94, y152, y196, y169, y140, y181, y160, y207, y209, y199, y147, y172, y148, y176, y189, y16, y67, y100, y99, y170, y141, y37, y60, y62, y138, y61, y153, y203, y180, y109, y42, y70, y206, y204, y80, y202, y188, y86, y164, y113, y107, y151, y134, y129, y11, y31, y29, y41, y26, y106, y13, y97, y30, y193, y110, y173, y142, y34, y8, y55, y15, y47, y9, y171, y93, y195, y163, y146, y131, y130, y64, y103, y81, y102, y157, y150, y205, y177, y96, y49, y63, y78, y128, y127, y74, y79, y76, y137, y65, y77, y22, y46, y23, y17, y38, y4, y5, y7, y90, y136, y135, y0, y25, y58, y1, y88, y18, y124, y122, y118, y116, y111, y123, y91, y72, y197, y112, y117, y194, y125, y114, y6, y126, y101, y73, y84, y104, y12, y10, y71, Option.getD_some, y198, y201, y144, y192, y200, y154, y187, y156, y183, y155, y179, y184, y35, y186, y48, y145, y143, y191, y149, y159, y167, y162, y83, y19, y24, y53, y51, y56, y36, y28, y21, y161, y108, y98, y57, y43, y3, y119, y2, y120, y33, y182, y185, y115, y40, y139, y27, y20, y59, y14, y32, y39, y54, y45, y89, y44, y66, y85, y132, y168, y175, y190, y52, y92, g0, g1, g2, g3, g4, g5, g6, g7, g8, g9, a1, a2, a3]
theorem kinds_NoFires (fs : List (Str × D)) : sem__law_kinds [.v (.ex "NoFires" fs)] = .ret (.f (.l [.bl false, .bl false, .bl false, .bl false, .bl true, .bl false, .bl false, .bl false, .bl false, .bl false])) [.v (.ex "NoFires" fs)] := by
  have g0 : gIsX EXS ["BadNumber"] (.ex "NoFires" fs) = some (.v (.bl false)) := rfl
  have g1 : gIsX EXS ["BadText"] (.ex "NoFires" fs) = some (.v (.bl false)) := rfl
  have g2 : gIsX EXS ["BadWeb"] (.ex "NoFires" fs) = some (.v (.bl false)) := rfl
  have g3 : gIsX EXS ["NoDeed"] (.ex "NoFires" fs) = some (.v (.bl false)) := rfl
  have g4 : gIsX EXS ["NoFires"] (.ex "NoFires" fs) = some (.v (.bl true)) := rfl
  have g5 : gIsX EXS ["NoLabel"] (.ex "NoFires" fs) = some (.v (.bl false)) := rfl
  have g6 : gIsX EXS ["NoLot"] (.ex "NoFires" fs) = some (.v (.bl false)) := rfl
  have g7 : gIsX EXS ["NoPlace"] (.ex "NoFires" fs) = some (.v (.bl false)) := rfl
  have g8 : gIsX EXS ["NoQuestion"] (.ex "NoFires" fs) = some (.v (.bl false)) := rfl
  have g9 : gIsX EXS ["NothingDone"] (.ex "NoFires" fs) = some (.v (.bl false)) := rfl
  have a1 : gAdd (.lst [.bl false, .bl false, .bl false]) (.lst [.bl false, .bl true, .bl false]) = some (.f (.l [.bl false, .bl false, .bl false, .bl false, .bl true, .bl false])) := add_lst (by simp)
  have a2 : gAdd (.lst [.bl false, .bl false, .bl false, .bl false, .bl true, .bl false]) (.lst [.bl false, .bl false, .bl false]) = some (.f (.l [.bl false, .bl false, .bl false, .bl false, .bl true, .bl false, .bl false, .bl false, .bl false])) := add_lst (by simp)
  have a3 : gAdd (.lst [.bl false, .bl false, .bl false, .bl false, .bl true, .bl false, .bl false, .bl false, .bl false]) (.lst [.bl false]) = some (.f (.l [.bl false, .bl false, .bl false, .bl false, .bl true, .bl false, .bl false, .bl false, .bl false, .bl false])) := add_lst (by simp)
  unfold sem__law_kinds
  simp only [y50, LW.argsOk, O.isV, O.d, List.all_cons, List.all_nil, Bool.and_true, Bool.true_and, Bool.and_self, List.length_cons, List.length_nil, List.map_cons, List.map_nil, List.cons_append, List.nil_append, List.replicate_succ, List.replicate_zero, Nat.reduceAdd, Nat.reduceSub, Nat.zero_add, and_self, and_true, true_and, if_true, ite_true, if_false, ite_false, List.getElem?_cons_zero, List.getElem?_cons_succ, List.set_cons_zero, List.set_cons_succ, List.set_nil, Bool.false_eq_true, reduceIte, y75, y69, y95, y87, y121, y133, y68, y82, y208, y165, y178, y158, y166, y105, y174, y94, y152, y196, y169, y140, y181, y160, y207, y209, y199, y147, y172, y148, y176, y189, y16, y67, y100, y99, y170, y141, y37, y60, y62, y138, y61, y153, y203, y180, y109, y42, y70, y206, y204, y80, y202, y188, y86, y164, y113, y107, y151, y134, y129, y11, y31, y29, y41, y26, y106, y13, y97, y30, y193, y110, y173, y142, y34, y8, y55, y15, y47, y9, y171, y93, y195, y163, y146, y131, y130, y64, y103, y81, y102, y157, y150, y205, y177, y96, y49, y63, y78, y128, y127, y74, y79, y76, y137, y65, y77, y22, y46, y23, y17, y38, y4, y5, y7, y90, y136, y135, y0, y25, y58, y1, y88, y18, y124, y122, y118, y116, y111, y123, y91, y72, y197, y112, y117, y194, y125, y114, y6, y126, y101, y73, y84, y104, y12, y10, y71, Option.getD_some, y198, y201, y144, y192, y200, y154, y187, y156, y183, y155, y179, y184, y35, y186, y48, y145, y143, y191, y149, y159, y167, y162, y83, y19, y24, y53, y51, y56, y36, y28, y21, y161, y108, y98, y57, y43, y3, y119, y2, y120, y33, y182, y185, y115, y40, y139, y27, y20, y59, y14, y32, y39, y54, y45, y89, y44, y66, y85, y132, y168, y175, y190, y52, y92, g0, g1, g2, g3, g4, g5, g6, g7, g8, g9, a1, a2, a3]
theorem kinds_NoLabel (fs : List (Str × D)) : sem__law_kinds [.v (.ex "NoLabel" fs)] = .ret (.f (.l [.bl false, .bl false, .bl false, .bl false, .bl false, .bl true, .bl false, .bl false, .bl false, .bl false])) [.v (.ex "NoLabel" fs)] := by
  have g0 : gIsX EXS ["BadNumber"] (.ex "NoLabel" fs) = some (.v (.bl false)) := rfl
  have g1 : gIsX EXS ["BadText"] (.ex "NoLabel" fs) = some (.v (.bl false)) := rfl
  have g2 : gIsX EXS ["BadWeb"] (.ex "NoLabel" fs) = some (.v (.bl false)) := rfl
  have g3 : gIsX EXS ["NoDeed"] (.ex "NoLabel" fs) = some (.v (.bl false)) := rfl
  have g4 : gIsX EXS ["NoFires"] (.ex "NoLabel" fs) = some (.v (.bl false)) := rfl
  have g5 : gIsX EXS ["NoLabel"] (.ex "NoLabel" fs) = some (.v (.bl true)) := rfl
  have g6 : gIsX EXS ["NoLot"] (.ex "NoLabel" fs) = some (.v (.bl false)) := rfl
  have g7 : gIsX EXS ["NoPlace"] (.ex "NoLabel" fs) = some (.v (.bl false)) := rfl
  have g8 : gIsX EXS ["NoQuestion"] (.ex "NoLabel" fs) = some (.v (.bl false)) := rfl
  have g9 : gIsX EXS ["NothingDone"] (.ex "NoLabel" fs) = some (.v (.bl false)) := rfl
  have a1 : gAdd (.lst [.bl false, .bl false, .bl false]) (.lst [.bl false, .bl false, .bl true]) = some (.f (.l [.bl false, .bl false, .bl false, .bl false, .bl false, .bl true])) := add_lst (by simp)
  have a2 : gAdd (.lst [.bl false, .bl false, .bl false, .bl false, .bl false, .bl true]) (.lst [.bl false, .bl false, .bl false]) = some (.f (.l [.bl false, .bl false, .bl false, .bl false, .bl false, .bl true, .bl false, .bl false, .bl false])) := add_lst (by simp)
  have a3 : gAdd (.lst [.bl false, .bl false, .bl false, .bl false, .bl false, .bl true, .bl false, .bl false, .bl false]) (.lst [.bl false]) = some (.f (.l [.bl false, .bl false, .bl false, .bl false, .bl false, .bl true, .bl false, .bl false, .bl false, .bl false])) := add_lst (by simp)
  unfold sem__law_kinds
  simp only [y50, LW.argsOk, O.isV, O.d, List.all_cons, List.all_nil, Bool.and_true, Bool.true_and, Bool.and_self, List.length_cons, List.length_nil, List.map_cons, List.map_nil, List.cons_append, List.nil_append, List.replicate_succ, List.replicate_zero, Nat.reduceAdd, Nat.reduceSub, Nat.zero_add, and_self, and_true, true_and, if_true, ite_true, if_false, ite_false, List.getElem?_cons_zero, List.getElem?_cons_succ, List.set_cons_zero, List.set_cons_succ, List.set_nil, Bool.false_eq_true, reduceIte, y75, y69, y95, y87, y121, y133, y68, y82, y208, y165, y178, y158, y166, y105, y174, y94, y152, y196, y169, y140, y181, y160, y207, y209, y199, y147, y172, y148, y176, y189, y16, y67, y100, y99, y170, y141, y37, y60, y62, y138, y61, y153, y203, y180, y109, y42, y70, y206, y204, y80, y202, y188, y86, y164, y113, y107, y151, y134, y129, y11, y31, y29, y41, y26, y106, y13, y97, y30, y193, y110, y173, y142, y34, y8, y55, y15, y47, y9, y171, y93, y195, y163, y146, y131, y130, y64, y103, y81, y102, y157, y150, y205, y177, y96, y49, y63, y78, y128, y127, y74, y79, y76, y137, y65, y77, y22, y46, y23, y17, y38, y4, y5, y7, y90, y136, y135, y0, y25, y58, y1, y88, y18, y124, y122, y118, y116, y111, y123, y91, y72, y197, y112, y117, y194, y125, y114, y6, y126, y101, y73, y84, y104, y12, y10, y71, Option.getD_some, y198, y201, y144, y192, y200, y154, y187, y156, y183, y155, y179, y184, y35, y186, y48, y145, y143, y191, y149, y159, y167, y162, y83, y19, y24, y53, y51, y56, y36, y28, y21, y161, y108, y98, y57, y43, y3, y119, y2, y120, y33, y182, y185, y115, y40, y139, y27, y20, y59, y14, y32, y39, y54, y45, y89, y44, y66, y85, y132, y168, y175, y190, y52, y92, g0, g1, g2, g3, g4, g5, g6, g7, g8, g9, a1, a2, a3]
theorem kinds_NoLot (fs : List (Str × D)) : sem__law_kinds [.v (.ex "NoLot" fs)] = .ret (.f (.l [.bl false, .bl false, .bl false, .bl false, .bl false, .bl false, .bl true, .bl false, .bl false, .bl false])) [.v (.ex "NoLot" fs)] := by
  have g0 : gIsX EXS ["BadNumber"] (.ex "NoLot" fs) = some (.v (.bl false)) := rfl
  have g1 : gIsX EXS ["BadText"] (.ex "NoLot" fs) = some (.v (.bl false)) := rfl
  have g2 : gIsX EXS ["BadWeb"] (.ex "NoLot" fs) = some (.v (.bl false)) := rfl
  have g3 : gIsX EXS ["NoDeed"] (.ex "NoLot" fs) = some (.v (.bl false)) := rfl
  have g4 : gIsX EXS ["NoFires"] (.ex "NoLot" fs) = some (.v (.bl false)) := rfl
  have g5 : gIsX EXS ["NoLabel"] (.ex "NoLot" fs) = some (.v (.bl false)) := rfl
  have g6 : gIsX EXS ["NoLot"] (.ex "NoLot" fs) = some (.v (.bl true)) := rfl
  have g7 : gIsX EXS ["NoPlace"] (.ex "NoLot" fs) = some (.v (.bl false)) := rfl
  have g8 : gIsX EXS ["NoQuestion"] (.ex "NoLot" fs) = some (.v (.bl false)) := rfl
  have g9 : gIsX EXS ["NothingDone"] (.ex "NoLot" fs) = some (.v (.bl false)) := rfl
  have a1 : gAdd (.lst [.bl false, .bl false, .bl false]) (.lst [.bl false, .bl false, .bl false]) = some (.f (.l [.bl false, .bl false, .bl false, .bl false, .bl false, .bl false])) := add_lst (by simp)
  have a2 : gAdd (.lst [.bl false, .bl false, .bl false, .bl false, .bl false, .bl false]) (.lst [.bl true, .bl false, .bl false]) = some (.f (.l [.bl false, .bl false, .bl false, .bl false, .bl false, .bl false, .bl true, .bl false, .bl false])) := add_lst (by simp)
  have a3 : gAdd (.lst [.bl false, .bl false, .bl false, .bl false, .bl false, .bl false, .bl true, .bl false, .bl false]) (.lst [.bl false]) = some (.f (.l [.bl false, .bl false, .bl false, .bl false, .bl false, .bl false, .bl true, .bl false, .bl false, .bl false])) := add_lst (by simp)
  unfold sem__law_kinds
  simp only [y50, LW.argsOk, O.isV, O.d, List.all_cons, List.all_nil, Bool.and_true, Bool.true_and, Bool.and_self, List.length_cons, List.length_nil, List.map_cons, List.map_nil, List.cons_append, List.nil_append, List.replicate_succ, List.replicate_zero, Nat.reduceAdd, Nat.reduceSub, Nat.zero_add, and_self, and_true, true_and, if_true, ite_true, if_false, ite_false, List.getElem?_cons_zero, List.getElem?_cons_succ, List.set_cons_zero, List.set_cons_succ, List.set_nil, Bool.false_eq_true, reduceIte, y75, y69, y95, y87, y121, y133, y68, y82, y208, y165, y178, y158, y166, y105, y174, y94, y152, y196, y169, y140, y181, y160, y207, y209, y199, y147, y172, y148, y176, y189, y16, y67, y100, y99, y170, y141, y37, y60, y62, y138, y61, y153, y203, y180, y109, y42, y70, y206, y204, y80, y202, y188, y86, y164, y113, y107, y151, y134, y129, y11, y31, y29, y41, y26, y106, y13, y97, y30, y193, y110, y173, y142, y34, y8, y55, y15, y47, y9, y171, y93, y195, y163, y146, y131, y130, y64, y103, y81, y102, y157, y150, y205, y177, y96, y49, y63, y78, y128, y127, y74, y79, y76, y137, y65, y77, y22, y46, y23, y17, y38, y4, y5, y7, y90, y136, y135, y0, y25, y58, y1, y88, y18, y124, y122, y118, y116, y111, y123, y91, y72, y197, y112, y117, y194, y125, y114, y6, y126, y101, y73, y84, y104, y12, y10, y71, Option.getD_some, y198, y201, y144, y192, y200, y154, y187, y156, y183, y155, y179, y184, y35, y186, y48, y145, y143, y191, y149, y159, y167, y162, y83, y19, y24, y53, y51, y56, y36, y28, y21, y161, y108, y98, y57, y43, y3, y119, y2, y120, y33, y182, y185, y115, y40, y139, y27, y20, y59, y14, y32, y39, y54, y45, y89, y44, y66, y85, y132, y168, y175, y190, y52, y92, g0, g1, g2, g3, g4, g5, g6, g7, g8, g9, a1, a2, a3]
theorem kinds_NoPlace (fs : List (Str × D)) : sem__law_kinds [.v (.ex "NoPlace" fs)] = .ret (.f (.l [.bl false, .bl false, .bl false, .bl false, .bl false, .bl false, .bl false, .bl true, .bl false, .bl false])) [.v (.ex "NoPlace" fs)] := by
  have g0 : gIsX EXS ["BadNumber"] (.ex "NoPlace" fs) = some (.v (.bl false)) := rfl
  have g1 : gIsX EXS ["BadText"] (.ex "NoPlace" fs) = some (.v (.bl false)) := rfl
  have g2 : gIsX EXS ["BadWeb"] (.ex "NoPlace" fs) = some (.v (.bl false)) := rfl
  have g3 : gIsX EXS ["NoDeed"] (.ex "NoPlace" fs) = some (.v (.bl false)) := rfl
  have g4 : gIsX EXS ["NoFires"] (.ex "NoPlace" fs) = some (.v (.bl false)) := rfl
  have g5 : gIsX EXS ["NoLabel"] (.ex "NoPlace" fs) = some (.v (.bl false)) := rfl
  have g6 : gIsX EXS ["NoLot"] (.ex "NoPlace" fs) = some (.v (.bl false)) := rfl
  have g7 : gIsX EXS ["NoPlace"] (.ex "NoPlace" fs) = some (.v (.bl true)) := rfl
  have g8 : gIsX EXS ["NoQuestion"] (.ex "NoPlace" fs) = some (.v (.bl false)) := rfl
  have g9 : gIsX EXS ["NothingDone"] (.ex "NoPlace" fs) = some (.v (.bl false)) := rfl
  have a1 : gAdd (.lst [.bl false, .bl false, .bl false]) (.lst [.bl false, .bl false, .bl false]) = some (.f (.l [.bl false, .bl false, .bl false, .bl false, .bl false, .bl false])) := add_lst (by simp)
  have a2 : gAdd (.lst [.bl false, .bl false, .bl false, .bl false, .bl false, .bl false]) (.lst [.bl false, .bl true, .bl false]) = some (.f (.l [.bl false, .bl false, .bl false, .bl false, .bl false, .bl false, .bl false, .bl true, .bl false])) := add_lst (by simp)
  have a3 : gAdd (.lst [.bl false, .bl false, .bl false, .bl false, .bl false, .bl false, .bl false, .bl true, .bl false]) (.lst [.bl false]) = some (.f (.l [.bl false, .bl false, .bl false, .bl false, .bl false, .bl false, .bl false, .bl true, .bl false, .bl false])) := add_lst (by simp)
  unfold sem__law_kinds
  simp only [y50, LW.argsOk, O.isV, O.d, List.all_cons, List.all_nil, Bool.and_true, Bool.true_and, Bool.and_self, List.length_cons, List.length_nil, List.map_cons, List.map_nil, List.cons_append, List.nil_append, List.replicate_succ, List.replicate_zero, Nat.reduceAdd, Nat.reduceSub, Nat.zero_add, and_self, and_true, true_and, if_true, ite_true, if_false, ite_false, List.getElem?_cons_zero, List.getElem?_cons_succ, List.set_cons_zero, List.set_cons_succ, List.set_nil, Bool.false_eq_true, reduceIte, y75, y69, y95, y87, y121, y133, y68, y82, y208, y165, y178, y158, y166, y105, y174, y94, y152, y196, y169, y140, y181, y160, y207, y209, y199, y147, y172, y148, y176, y189, y16, y67, y100, y99, y170, y141, y37, y60, y62, y138, y61, y153, y203, y180, y109, y42, y70, y206, y204, y80, y202, y188, y86, y164, y113, y107, y151, y134, y129, y11, y31, y29, y41, y26, y106, y13, y97, y30, y193, y110, y173, y142, y34, y8, y55, y15, y47, y9, y171, y93, y195, y163, y146, y131, y130, y64, y103, y81, y102, y157, y150, y205, y177, y96, y49, y63, y78, y128, y127, y74, y79, y76, y137, y65, y77, y22, y46, y23, y17, y38, y4, y5, y7, y90, y136, y135, y0, y25, y58, y1, y88, y18, y124, y122, y118, y116, y111, y123, y91, y72, y197, y112, y117, y194, y125, y114, y6, y126, y101, y73, y84, y104, y12, y10, y71, Option.getD_some, y198, y201, y144, y192, y200, y154, y187, y156, y183, y155, y179, y184, y35, y186, y48, y145, y143, y191, y149, y159, y167, y162, y83, y19, y24, y53, y51, y56, y36, y28, y21, y161, y108, y98, y57, y43, y3, y119, y2, y120, y33, y182, y185, y115, y40, y139, y27, y20, y59, y14, y32, y39, y54, y45, y89, y44, y66, y85, y132, y168, y175, y190, y52, y92, g0, g1, g2, g3, g4, g5, g6, g7, g8, g9, a1, a2, a3]
theorem kinds_NoQuestion (fs : List (Str × D)) : sem__law_kinds [.v (.ex "NoQuestion" fs)] = .ret (.f (.l [.bl false, .bl false, .bl false, .bl false, .bl false, .bl false, .bl false, .bl false, .bl true, .bl false])) [.v (.ex "NoQuestion" fs)] := by
  have g0 : gIsX EXS ["BadNumber"] (.ex "NoQuestion" fs) = some (.v (.bl false)) := rfl
  have g1 : gIsX EXS ["BadText"] (.ex "NoQuestion" fs) = some (.v (.bl false)) := rfl
  have g2 : gIsX EXS ["BadWeb"] (.ex "NoQuestion" fs) = some (.v (.bl false)) := rfl
  have g3 : gIsX EXS ["NoDeed"] (.ex "NoQuestion" fs) = some (.v (.bl false)) := rfl
  have g4 : gIsX EXS ["NoFires"] (.ex "NoQuestion" fs) = some (.v (.bl false)) := rfl
  have g5 : gIsX EXS ["NoLabel"] (.ex "NoQuestion" fs) = some (.v (.bl false)) := rfl
  have g6 : gIsX EXS ["NoLot"] (.ex "NoQuestion" fs) = some (.v (.bl false)) := rfl
  have g7 : gIsX EXS ["NoPlace"] (.ex "NoQuestion" fs) = some (.v (.bl false)) := rfl
  have g8 : gIsX EXS ["NoQuestion"] (.ex "NoQuestion" fs) = some (.v (.bl true)) := rfl
  have g9 : gIsX EXS ["NothingDone"] (.ex "NoQuestion" fs) = some (.v (.bl false)) := rfl
  have a1 : gAdd (.lst [.bl false, .bl false, .bl false]) (.lst [.bl false, .bl false, .bl false]) = some (.f (.l [.bl false, .bl false, .bl false, .bl false, .bl false, .bl false])) := add_lst (by simp)
  have a2 : gAdd (.lst [.bl false, .bl false, .bl false, .bl false, .bl false, .bl false]) (.lst [.bl false, .bl false, .bl true]) = some (.f (.l [.bl false, .bl false, .bl false, .bl false, .bl false, .bl false, .bl false, .bl false, .bl true])) := add_lst (by simp)
  have a3 : gAdd (.lst [.bl false, .bl false, .bl false, .bl false, .bl false, .bl false, .bl false, .bl false, .bl true]) (.lst [.bl false]) = some (.f (.l [.bl false, .bl false, .bl false, .bl false, .bl false, .bl false, .bl false, .bl false, .bl true, .bl false])) := add_lst (by simp)
  unfold sem__law_kinds
  simp only [y50, LW.argsOk, O.isV, O.d, List.all_cons, List.all_nil, Bool.and_true, Bool.true_and, Bool.and_self, List.length_cons, List.length_nil, List.map_cons, List.map_nil, List.cons_append, List.nil_append, List.replicate_succ, List.replicate_zero, Nat.reduceAdd, Nat.reduceSub, Nat.zero_add, and_self, and_true, true_and, if_true, ite_true, if_false, ite_false, List.getElem?_cons_zero, List.getElem?_cons_succ, List.set_cons_zero, List.set_cons_succ, List.set_nil, Bool.false_eq_true, reduceIte, y75, y69, y95, y87, y121, y133, y68, y82, y208, y165, y178, y158, y166, y105, y174, y94, y152, y196, y169, y140, y181, y160, y207, y209, y199, y147, y172, y148, y176, y189, y16, y67, y100, y99, y170, y141, y37, y60, y62, y138, y61, y153, y203, y180, y109, y42, y70, y206, y204, y80, y202, y188, y86, y164, y113, y107, y151, y134, y129, y11, y31, y29, y41, y26, y106, y13, y97, y30, y193, y110, y173, y142, y34, y8, y55, y15, y47, y9, y171, y93, y195, y163, y146, y131, y130, y64, y103, y81, y102, y157, y150, y205, y177, y96, y49, y63, y78, y128, y127, y74, y79, y76, y137, y65, y77, y22, y46, y23, y17, y38, y4, y5, y7, y90, y136, y135, y0, y25, y58, y1, y88, y18, y124, y122, y118, y116, y111, y123, y91, y72, y197, y112, y117, y194, y125, y114, y6, y126, y101, y73, y84, y104, y12, y10, y71, Option.getD_some, y198, y201, y144, y192, y200, y154, y187, y156, y183, y155, y179, y184, y35, y186, y48, y145, y143, y191, y149, y159, y167, y162, y83, y19, y24, y53, y51, y56, y36, y28, y21, y161, y108, y98, y57, y43, y3, y119, y2, y120, y33, y182, y185, y115, y40, y139, y27, y20, y59, y14, y32, y39, y54, y45, y89, y44, y66, y85, y132, y168, y175, y190, y52, y92, g0, g1, g2, g3, g4, g5, g6, g7, g8, g9, a1, a2, a3]
theorem kinds_NothingDone (fs : List (Str × D)) : sem__law_kinds [.v (.ex "NothingDone" fs)] = .ret (.f (.l [.bl false, .bl false, .bl false, .bl false, .bl false, .bl false, .bl false, .bl false, .bl false, .bl true])) [.v (.ex "NothingDone" fs)] := by
  have g0 : gIsX EXS ["BadNumber"] (.ex "NothingDone" fs) = some (.v (.bl false)) := rfl
  have g1 : gIsX EXS ["BadText"] (.ex "NothingDone" fs) = some (.v (.bl false)) := rfl
  have g2 : gIsX EXS ["BadWeb"] (.ex "NothingDone" fs) = some (.v (.bl false)) := rfl
  have g3 : gIsX EXS ["NoDeed"] (.ex "NothingDone" fs) = some (.v (.bl false)) := rfl
  have g4 : gIsX EXS ["NoFires"] (.ex "NothingDone" fs) = some (.v (.bl false)) := rfl
  have g5 : gIsX EXS ["NoLabel"] (.ex "NothingDone" fs) = some (.v (.bl false)) := rfl
  have g6 : gIsX EXS ["NoLot"] (.ex "NothingDone" fs) = some (.v (.bl false)) := rfl
  have g7 : gIsX EXS ["NoPlace"] (.ex "NothingDone" fs) = some (.v (.bl false)) := rfl
  have g8 : gIsX EXS ["NoQuestion"] (.ex "NothingDone" fs) = some (.v (.bl false)) := rfl
  have g9 : gIsX EXS ["NothingDone"] (.ex "NothingDone" fs) = some (.v (.bl true)) := rfl
  have a1 : gAdd (.lst [.bl false, .bl false, .bl false]) (.lst [.bl false, .bl false, .bl false]) = some (.f (.l [.bl false, .bl false, .bl false, .bl false, .bl false, .bl false])) := add_lst (by simp)
  have a2 : gAdd (.lst [.bl false, .bl false, .bl false, .bl false, .bl false, .bl false]) (.lst [.bl false, .bl false, .bl false]) = some (.f (.l [.bl false, .bl false, .bl false, .bl false, .bl false, .bl false, .bl false, .bl false, .bl false])) := add_lst (by simp)
  have a3 : gAdd (.lst [.bl false, .bl false, .bl false, .bl false, .bl false, .bl false, .bl false, .bl false, .bl false]) (.lst [.bl true]) = some (.f (.l [.bl false, .bl false, .bl false, .bl false, .bl false, .bl false, .bl false, .bl false, .bl false, .bl true])) := add_lst (by simp)
  unfold sem__law_kinds
  simp only [y50, LW.argsOk, O.isV, O.d, List.all_cons, List.all_nil, Bool.and_true, Bool.true_and, Bool.and_self, List.length_cons, List.length_nil, List.map_cons, List.map_nil, List.cons_append, List.nil_append, List.replicate_succ, List.replicate_zero, Nat.reduceAdd, Nat.reduceSub, Nat.zero_add, and_self, and_true, true_and, if_true, ite_true, if_false, ite_false, List.getElem?_cons_zero, List.getElem?_cons_succ, List.set_cons_zero, List.set_cons_succ, List.set_nil, Bool.false_eq_true, reduceIte, y75, y69, y95, y87, y121, y133, y68, y82, y208, y165, y178, y158, y166, y105, y174, y94, y152, y196, y169, y140, y181, y160, y207, y209, y199, y147, y172, y148, y176, y189, y16, y67, y100, y99, y170, y141, y37, y60, y62, y138, y61, y153, y203, y180, y109, y42, y70, y206, y204, y80, y202, y188, y86, y164, y113, y107, y151, y134, y129, y11, y31, y29, y41, y26, y106, y13, y97, y30, y193, y110, y173, y142, y34, y8, y55, y15, y47, y9, y171, y93, y195, y163, y146, y131, y130, y64, y103, y81, y102, y157, y150, y205, y177, y96, y49, y63, y78, y128, y127, y74, y79, y76, y137, y65, y77, y22, y46, y23, y17, y38, y4, y5, y7, y90, y136, y135, y0, y25, y58, y1, y88, y18, y124, y122, y118, y116, y111, y123, y91, y72, y197, y112, y117, y194, y125, y114, y6, y126, y101, y73, y84, y104, y12, y10, y71, Option.getD_some, y198, y201, y144, y192, y200, y154, y187, y156, y183, y155, y179, y184, y35, y186, y48, y145, y143, y191, y149, y159, y167, y162, y83, y19, y24, y53, y51, y56, y36, y28, y21, y161, y108, y98, y57, y43, y3, y119, y2, y120, y33, y182, y185, y115, y40, y139, y27, y20, y59, y14, y32, y39, y54, y45, y89, y44, y66, y85, y132, y168, y175, y190, y52, y92, g0, g1, g2, g3, g4, g5, g6, g7, g8, g9, a1, a2, a3]
theorem kinds_LightError (fs : List (Str × D)) : sem__law_kinds [.v (.ex "LightError" fs)] = .ret (.f (.l [.bl false, .bl false, .bl false, .bl false, .bl false, .bl false, .bl false, .bl false, .bl false, .bl false])) [.v (.ex "LightError" fs)] := by
  have g0 : gIsX EXS ["BadNumber"] (.ex "LightError" fs) = some (.v (.bl false)) := rfl
  have g1 : gIsX EXS ["BadText"] (.ex "LightError" fs) = some (.v (.bl false)) := rfl
  have g2 : gIsX EXS ["BadWeb"] (.ex "LightError" fs) = some (.v (.bl false)) := rfl
  have g3 : gIsX EXS ["NoDeed"] (.ex "LightError" fs) = some (.v (.bl false)) := rfl
  have g4 : gIsX EXS ["NoFires"] (.ex "LightError" fs) = some (.v (.bl false)) := rfl
  have g5 : gIsX EXS ["NoLabel"] (.ex "LightError" fs) = some (.v (.bl false)) := rfl
  have g6 : gIsX EXS ["NoLot"] (.ex "LightError" fs) = some (.v (.bl false)) := rfl
  have g7 : gIsX EXS ["NoPlace"] (.ex "LightError" fs) = some (.v (.bl false)) := rfl
  have g8 : gIsX EXS ["NoQuestion"] (.ex "LightError" fs) = some (.v (.bl false)) := rfl
  have g9 : gIsX EXS ["NothingDone"] (.ex "LightError" fs) = some (.v (.bl false)) := rfl
  have a1 : gAdd (.lst [.bl false, .bl false, .bl false]) (.lst [.bl false, .bl false, .bl false]) = some (.f (.l [.bl false, .bl false, .bl false, .bl false, .bl false, .bl false])) := add_lst (by simp)
  have a2 : gAdd (.lst [.bl false, .bl false, .bl false, .bl false, .bl false, .bl false]) (.lst [.bl false, .bl false, .bl false]) = some (.f (.l [.bl false, .bl false, .bl false, .bl false, .bl false, .bl false, .bl false, .bl false, .bl false])) := add_lst (by simp)
  have a3 : gAdd (.lst [.bl false, .bl false, .bl false, .bl false, .bl false, .bl false, .bl false, .bl false, .bl false]) (.lst [.bl false]) = some (.f (.l [.bl false, .bl false, .bl false, .bl false, .bl false, .bl false, .bl false, .bl false, .bl false, .bl false])) := add_lst (by simp)
  unfold sem__law_kinds
  simp only [y50, LW.argsOk, O.isV, O.d, List.all_cons, List.all_nil, Bool.and_true, Bool.true_and, Bool.and_self, List.length_cons, List.length_nil, List.map_cons, List.map_nil, List.cons_append, List.nil_append, List.replicate_succ, List.replicate_zero, Nat.reduceAdd, Nat.reduceSub, Nat.zero_add, and_self, and_true, true_and, if_true, ite_true, if_false, ite_false, List.getElem?_cons_zero, List.getElem?_cons_succ, List.set_cons_zero, List.set_cons_succ, List.set_nil, Bool.false_eq_true, reduceIte, y75, y69, y95, y87, y121, y133, y68, y82, y208, y165, y178, y158, y166, y105, y174, y94, y152, y196, y169, y140, y181, y160, y207, y209, y199, y147, y172, y148, y176, y189, y16, y67, y100, y99, y170, y141, y37, y60, y62, y138, y61, y153, y203, y180, y109, y42, y70, y206, y204, y80, y202, y188, y86, y164, y113, y107, y151, y134, y129, y11, y31, y29, y41, y26, y106, y13, y97, y30, y193, y110, y173, y142, y34, y8, y55, y15, y47, y9, y171, y93, y195, y163, y146, y131, y130, y64, y103, y81, y102, y157, y150, y205, y177, y96, y49, y63, y78, y128, y127, y74, y79, y76, y137, y65, y77, y22, y46, y23, y17, y38, y4, y5, y7, y90, y136, y135, y0, y25, y58, y1, y88, y18, y124, y122, y118, y116, y111, y123, y91, y72, y197, y112, y117, y194, y125, y114, y6, y126, y101, y73, y84, y104, y12, y10, y71, Option.getD_some, y198, y201, y144, y192, y200, y154, y187, y156, y183, y155, y179, y184, y35, y186, y48, y145, y143, y191, y149, y159, y167, y162, y83, y19, y24, y53, y51, y56, y36, y28, y21, y161, y108, y98, y57, y43, y3, y119, y2, y120, y33, y182, y185, y115, y40, y139, y27, y20, y59, y14, y32, y39, y54, y45, y89, y44, y66, y85, y132, y168, y175, y190, y52, y92, g0, g1, g2, g3, g4, g5, g6, g7, g8, g9, a1, a2, a3]
section
variable {a b : D}
theorem q_e_at : gEq (.str "") (.str "at") = some (.v (.bl false)) := by kernel_rfl
theorem q_e_value : gEq (.str "") (.str "value") = some (.v (.bl false)) := by kernel_rfl
theorem q_e_what : gEq (.str "") (.str "what") = some (.v (.bl false)) := by kernel_rfl
theorem q_e_line : gEq (.str "") (.str "line") = some (.v (.bl false)) := by kernel_rfl
theorem q_at_at : gEq (.str "at") (.str "at") = some (.v (.bl true)) := by kernel_rfl
theorem q_at_value : gEq (.str "at") (.str "value") = some (.v (.bl false)) := by kernel_rfl
theorem q_at_what : gEq (.str "at") (.str "what") = some (.v (.bl false)) := by kernel_rfl
theorem q_at_line : gEq (.str "at") (.str "line") = some (.v (.bl false)) := by kernel_rfl
theorem q_value_at : gEq (.str "value") (.str "at") = some (.v (.bl false)) := by kernel_rfl
theorem q_value_value : gEq (.str "value") (.str "value") = some (.v (.bl true)) := by kernel_rfl
theorem q_value_what : gEq (.str "value") (.str "what") = some (.v (.bl false)) := by kernel_rfl
theorem q_value_line : gEq (.str "value") (.str "line") = some (.v (.bl false)) := by kernel_rfl
theorem q_what_at : gEq (.str "what") (.str "at") = some (.v (.bl false)) := by kernel_rfl
theorem q_what_value : gEq (.str "what") (.str "value") = some (.v (.bl false)) := by kernel_rfl
theorem q_what_what : gEq (.str "what") (.str "what") = some (.v (.bl true)) := by kernel_rfl
theorem q_what_line : gEq (.str "what") (.str "line") = some (.v (.bl false)) := by kernel_rfl
theorem q_line_at : gEq (.str "line") (.str "at") = some (.v (.bl false)) := by kernel_rfl
theorem q_line_value : gEq (.str "line") (.str "value") = some (.v (.bl false)) := by kernel_rfl
theorem q_line_what : gEq (.str "line") (.str "what") = some (.v (.bl false)) := by kernel_rfl
theorem q_line_line : gEq (.str "line") (.str "line") = some (.v (.bl true)) := by kernel_rfl
theorem sp_e : gSplit "" (.str " ") = some (.f (.l [.str ""])) := split_sp (a := []) (ps := [[]]) (by simp) (by rfl)
theorem sp_at : gSplit "at" (.str " ") = some (.f (.l [.str "at"])) := split_sp (a := [97, 116]) (ps := [[97, 116]]) (by simp) (by rfl)
theorem sp_line_what : gSplit "line what" (.str " ") = some (.f (.l [.str "line", .str "what"])) := split_sp (a := [108, 105, 110, 101, 32, 119, 104, 97, 116]) (ps := [[108, 105, 110, 101], [119, 104, 97, 116]]) (by simp) (by rfl)
theorem sp_value : gSplit "value" (.str " ") = some (.f (.l [.str "value"])) := split_sp (a := [118, 97, 108, 117, 101]) (ps := [[118, 97, 108, 117, 101]]) (by simp) (by rfl)
theorem sp_what : gSplit "what" (.str " ") = some (.f (.l [.str "what"])) := split_sp (a := [119, 104, 97, 116]) (ps := [[119, 104, 97, 116]]) (by simp) (by rfl)
theorem told_BadNumber : sem__law_told_of [.v (.ex "BadNumber" [("value", a)]), .v (.str "value")] = .ret (.f (.l [a])) [.v (.ex "BadNumber" [("value", a)]), .v (.str "value")] := by
  have x_value : ∀ y z : Option O, sXfL ["BadNumber"] "value" (sVar 0) [some (.v (.ex "BadNumber" [("value", a)])), some (.v (.str "value")), y, z] = .ok (.v a) [some (.v (.ex "BadNumber" [("value", a)])), some (.v (.str "value")), y, z] := fun _ _ => rfl
  have p1 : gApp [] a = some (.non, [a]) := appR_ok (by simp)
  unfold sem__law_told_of
  simp only [y50, LW.argsOk, O.isV, O.d, List.all_cons, List.all_nil, Bool.and_true, Bool.true_and, Bool.and_self, List.length_cons, List.length_nil, List.map_cons, List.map_nil, List.cons_append, List.nil_append, List.replicate_succ, List.replicate_zero, Nat.reduceAdd, Nat.reduceSub, Nat.zero_add, and_self, and_true, true_and, if_true, ite_true, if_false, ite_false, List.getElem?_cons_zero, List.getElem?_cons_succ, List.set_cons_zero, List.set_cons_succ, List.set_nil, Bool.false_eq_true, reduceIte, y75, y69, y95, y87, y121, y133, y68, y82, y208, y165, y178, y158, y166, y105, y174, y94, y152, y196, y169, y140, y181, y160, y207, y209, y199, y147, y172, y148, y176, y189, y16, y67, y100, y99, y170, y141, y37, y60, y62, y138, y61, y153, y203, y180, y109, y42, y70, y206, y204, y80, y202, y188, y86, y164, y113, y107, y151, y134, y129, y11, y31, y29, y41, y26, y106, y13, y97, y30, y193, y110, y173, y142, y34, y8, y55, y15, y47, y9, y171, y93, y195, y163, y146, y131, y130, y64, y103, y81, y102, y157, y150, y205, y177, y96, y49, y63, y78, y128, y127, y74, y79, y76, y137, y65, y77, y22, y46, y23, y17, y38, y4, y5, y7, y90, y136, y135, y0, y25, y58, y1, y88, y18, y124, y122, y118, y116, y111, y123, y91, y72, y197, y112, y117, y194, y125, y114, y6, y126, y101, y73, y84, y104, y12, y10, y71, Option.getD_some, y198, y201, y144, y192, y200, y154, y187, y156, y183, y155, y179, y184, y35, y186, y48, y145, y143, y191, y149, y159, y167, y162, y83, y19, y24, y53, y51, y56, y36, y28, y21, y161, y108, y98, y57, y43, y3, y119, y2, y120, y33, y182, y185, y115, y40, y139, y27, y20, y59, y14, y32, y39, y54, y45, y89, y44, y66, y85, y132, y168, y175, y190, y52, y92, sp_value, forL_c, q_value_at, q_value_value, q_value_what, q_value_line, x_value, p1]
theorem told_BadText : sem__law_told_of [.v (.ex "BadText" [("what", b), ("line", a)]), .v (.str "line what")] = .ret (.f (.l [a, b])) [.v (.ex "BadText" [("what", b), ("line", a)]), .v (.str "line what")] := by
  have x_line : ∀ y z : Option O, sXfL ["BadText"] "line" (sVar 0) [some (.v (.ex "BadText" [("what", b), ("line", a)])), some (.v (.str "line what")), y, z] = .ok (.v a) [some (.v (.ex "BadText" [("what", b), ("line", a)])), some (.v (.str "line what")), y, z] := fun _ _ => rfl
  have x_what : ∀ y z : Option O, sXfL ["BadWeb", "BadText"] "what" (sVar 0) [some (.v (.ex "BadText" [("what", b), ("line", a)])), some (.v (.str "line what")), y, z] = .ok (.v b) [some (.v (.ex "BadText" [("what", b), ("line", a)])), some (.v (.str "line what")), y, z] := fun _ _ => rfl
  have p1 : gApp [] a = some (.non, [a]) := appR_ok (by simp)
  have p2 : gApp [a] b = some (.non, [a, b]) := appR_ok (by simp)
  unfold sem__law_told_of
  simp only [y50, LW.argsOk, O.isV, O.d, List.all_cons, List.all_nil, Bool.and_true, Bool.true_and, Bool.and_self, List.length_cons, List.length_nil, List.map_cons, List.map_nil, List.cons_append, List.nil_append, List.replicate_succ, List.replicate_zero, Nat.reduceAdd, Nat.reduceSub, Nat.zero_add, and_self, and_true, true_and, if_true, ite_true, if_false, ite_false, List.getElem?_cons_zero, List.getElem?_cons_succ, List.set_cons_zero, List.set_cons_succ, List.set_nil, Bool.false_eq_true, reduceIte, y75, y69, y95, y87, y121, y133, y68, y82, y208, y165, y178, y158, y166, y105, y174, y94, y152, y196, y169, y140, y181, y160, y207, y209, y199, y147, y172, y148, y176, y189, y16, y67, y100, y99, y170, y141, y37, y60, y62, y138, y61, y153, y203, y180, y109, y42, y70, y206, y204, y80, y202, y188, y86, y164, y113, y107, y151, y134, y129, y11, y31, y29, y41, y26, y106, y13, y97, y30, y193, y110, y173, y142, y34, y8, y55, y15, y47, y9, y171, y93, y195, y163, y146, y131, y130, y64, y103, y81, y102, y157, y150, y205, y177, y96, y49, y63, y78, y128, y127, y74, y79, y76, y137, y65, y77, y22, y46, y23, y17, y38, y4, y5, y7, y90, y136, y135, y0, y25, y58, y1, y88, y18, y124, y122, y118, y116, y111, y123, y91, y72, y197, y112, y117, y194, y125, y114, y6, y126, y101, y73, y84, y104, y12, y10, y71, Option.getD_some, y198, y201, y144, y192, y200, y154, y187, y156, y183, y155, y179, y184, y35, y186, y48, y145, y143, y191, y149, y159, y167, y162, y83, y19, y24, y53, y51, y56, y36, y28, y21, y161, y108, y98, y57, y43, y3, y119, y2, y120, y33, y182, y185, y115, y40, y139, y27, y20, y59, y14, y32, y39, y54, y45, y89, y44, y66, y85, y132, y168, y175, y190, y52, y92, sp_line_what, forL_c, q_line_at, q_line_value, q_line_what, q_line_line, q_what_at, q_what_value, q_what_what, q_what_line, x_line, x_what, p1, p2]
theorem told_BadWeb : sem__law_told_of [.v (.ex "BadWeb" [("what", a)]), .v (.str "what")] = .ret (.f (.l [a])) [.v (.ex "BadWeb" [("what", a)]), .v (.str "what")] := by
  have x_what : ∀ y z : Option O, sXfL ["BadWeb", "BadText"] "what" (sVar 0) [some (.v (.ex "BadWeb" [("what", a)])), some (.v (.str "what")), y, z] = .ok (.v a) [some (.v (.ex "BadWeb" [("what", a)])), some (.v (.str "what")), y, z] := fun _ _ => rfl
  have p1 : gApp [] a = some (.non, [a]) := appR_ok (by simp)
  unfold sem__law_told_of
  simp only [y50, LW.argsOk, O.isV, O.d, List.all_cons, List.all_nil, Bool.and_true, Bool.true_and, Bool.and_self, List.length_cons, List.length_nil, List.map_cons, List.map_nil, List.cons_append, List.nil_append, List.replicate_succ, List.replicate_zero, Nat.reduceAdd, Nat.reduceSub, Nat.zero_add, and_self, and_true, true_and, if_true, ite_true, if_false, ite_false, List.getElem?_cons_zero, List.getElem?_cons_succ, List.set_cons_zero, List.set_cons_succ, List.set_nil, Bool.false_eq_true, reduceIte, y75, y69, y95, y87, y121, y133, y68, y82, y208, y165, y178, y158, y166, y105, y174, y94, y152, y196, y169, y140, y181, y160, y207, y209, y199, y147, y172, y148, y176, y189, y16, y67, y100, y99, y170, y141, y37, y60, y62, y138, y61, y153, y203, y180, y109, y42, y70, y206, y204, y80, y202, y188, y86, y164, y113, y107, y151, y134, y129, y11, y31, y29, y41, y26, y106, y13, y97, y30, y193, y110, y173, y142, y34, y8, y55, y15, y47, y9, y171, y93, y195, y163, y146, y131, y130, y64, y103, y81, y102, y157, y150, y205, y177, y96, y49, y63, y78, y128, y127, y74, y79, y76, y137, y65, y77, y22, y46, y23, y17, y38, y4, y5, y7, y90, y136, y135, y0, y25, y58, y1, y88, y18, y124, y122, y118, y116, y111, y123, y91, y72, y197, y112, y117, y194, y125, y114, y6, y126, y101, y73, y84, y104, y12, y10, y71, Option.getD_some, y198, y201, y144, y192, y200, y154, y187, y156, y183, y155, y179, y184, y35, y186, y48, y145, y143, y191, y149, y159, y167, y162, y83, y19, y24, y53, y51, y56, y36, y28, y21, y161, y108, y98, y57, y43, y3, y119, y2, y120, y33, y182, y185, y115, y40, y139, y27, y20, y59, y14, y32, y39, y54, y45, y89, y44, y66, y85, y132, y168, y175, y190, y52, y92, sp_what, forL_c, q_what_at, q_what_value, q_what_what, q_what_line, x_what, p1]
theorem told_NoDeed : sem__law_told_of [.v (.ex "NoDeed" [("at", a)]), .v (.str "at")] = .ret (.f (.l [a])) [.v (.ex "NoDeed" [("at", a)]), .v (.str "at")] := by
  have x_at : ∀ y z : Option O, sXfL ["NoFires", "NoDeed", "NoLabel"] "at" (sVar 0) [some (.v (.ex "NoDeed" [("at", a)])), some (.v (.str "at")), y, z] = .ok (.v a) [some (.v (.ex "NoDeed" [("at", a)])), some (.v (.str "at")), y, z] := fun _ _ => rfl
  have p1 : gApp [] a = some (.non, [a]) := appR_ok (by simp)
  unfold sem__law_told_of
  simp only [y50, LW.argsOk, O.isV, O.d, List.all_cons, List.all_nil, Bool.and_true, Bool.true_and, Bool.and_self, List.length_cons, List.length_nil, List.map_cons, List.map_nil, List.cons_append, List.nil_append, List.replicate_succ, List.replicate_zero, Nat.reduceAdd, Nat.reduceSub, Nat.zero_add, and_self, and_true, true_and, if_true, ite_true, if_false, ite_false, List.getElem?_cons_zero, List.getElem?_cons_succ, List.set_cons_zero, List.set_cons_succ, List.set_nil, Bool.false_eq_true, reduceIte, y75, y69, y95, y87, y121, y133, y68, y82, y208, y165, y178, y158, y166, y105, y174, y94, y152, y196, y169, y140, y181, y160, y207, y209, y199, y147, y172, y148, y176, y189, y16, y67, y100, y99, y170, y141, y37, y60, y62, y138, y61, y153, y203, y180, y109, y42, y70, y206, y204, y80, y202, y188, y86, y164, y113, y107, y151, y134, y129, y11, y31, y29, y41, y26, y106, y13, y97, y30, y193, y110, y173, y142, y34, y8, y55, y15, y47, y9, y171, y93, y195, y163, y146, y131, y130, y64, y103, y81, y102, y157, y150, y205, y177, y96, y49, y63, y78, y128, y127, y74, y79, y76, y137, y65, y77, y22, y46, y23, y17, y38, y4, y5, y7, y90, y136, y135, y0, y25, y58, y1, y88, y18, y124, y122, y118, y116, y111, y123, y91, y72, y197, y112, y117, y194, y125, y114, y6, y126, y101, y73, y84, y104, y12, y10, y71, Option.getD_some, y198, y201, y144, y192, y200, y154, y187, y156, y183, y155, y179, y184, y35, y186, y48, y145, y143, y191, y149, y159, y167, y162, y83, y19, y24, y53, y51, y56, y36, y28, y21, y161, y108, y98, y57, y43, y3, y119, y2, y120, y33, y182, y185, y115, y40, y139, y27, y20, y59, y14, y32, y39, y54, y45, y89, y44, y66, y85, y132, y168, y175, y190, y52, y92, sp_at, forL_c, q_at_at, q_at_value, q_at_what, q_at_line, x_at, p1]
theorem told_NoFires : sem__law_told_of [.v (.ex "NoFires" [("at", a)]), .v (.str "at")] = .ret (.f (.l [a])) [.v (.ex "NoFires" [("at", a)]), .v (.str "at")] := by
  have x_at : ∀ y z : Option O, sXfL ["NoFires", "NoDeed", "NoLabel"] "at" (sVar 0) [some (.v (.ex "NoFires" [("at", a)])), some (.v (.str "at")), y, z] = .ok (.v a) [some (.v (.ex "NoFires" [("at", a)])), some (.v (.str "at")), y, z] := fun _ _ => rfl
  have p1 : gApp [] a = some (.non, [a]) := appR_ok (by simp)
  unfold sem__law_told_of
  simp only [y50, LW.argsOk, O.isV, O.d, List.all_cons, List.all_nil, Bool.and_true, Bool.true_and, Bool.and_self, List.length_cons, List.length_nil, List.map_cons, List.map_nil, List.cons_append, List.nil_append, List.replicate_succ, List.replicate_zero, Nat.reduceAdd, Nat.reduceSub, Nat.zero_add, and_self, and_true, true_and, if_true, ite_true, if_false, ite_false, List.getElem?_cons_zero, List.getElem?_cons_succ, List.set_cons_zero, List.set_cons_succ, List.set_nil, Bool.false_eq_true, reduceIte, y75, y69, y95, y87, y121, y133, y68, y82, y208, y165, y178, y158, y166, y105, y174, y94, y152, y196, y169, y140, y181, y160, y207, y209, y199, y147, y172, y148, y176, y189, y16, y67, y100, y99, y170, y141, y37, y60, y62, y138, y61, y153, y203, y180, y109, y42, y70, y206, y204, y80, y202, y188, y86, y164, y113, y107, y151, y134, y129, y11, y31, y29, y41, y26, y106, y13, y97, y30, y193, y110, y173, y142, y34, y8, y55, y15, y47, y9, y171, y93, y195, y163, y146, y131, y130, y64, y103, y81, y102, y157, y150, y205, y177, y96, y49, y63, y78, y128, y127, y74, y79, y76, y137, y65, y77, y22, y46, y23, y17, y38, y4, y5, y7, y90, y136, y135, y0, y25, y58, y1, y88, y18, y124, y122, y118, y116, y111, y123, y91, y72, y197, y112, y117, y194, y125, y114, y6, y126, y101, y73, y84, y104, y12, y10, y71, Option.getD_some, y198, y201, y144, y192, y200, y154, y187, y156, y183, y155, y179, y184, y35, y186, y48, y145, y143, y191, y149, y159, y167, y162, y83, y19, y24, y53, y51, y56, y36, y28, y21, y161, y108, y98, y57, y43, y3, y119, y2, y120, y33, y182, y185, y115, y40, y139, y27, y20, y59, y14, y32, y39, y54, y45, y89, y44, y66, y85, y132, y168, y175, y190, y52, y92, sp_at, forL_c, q_at_at, q_at_value, q_at_what, q_at_line, x_at, p1]
theorem told_NoLabel : sem__law_told_of [.v (.ex "NoLabel" [("at", a)]), .v (.str "at")] = .ret (.f (.l [a])) [.v (.ex "NoLabel" [("at", a)]), .v (.str "at")] := by
  have x_at : ∀ y z : Option O, sXfL ["NoFires", "NoDeed", "NoLabel"] "at" (sVar 0) [some (.v (.ex "NoLabel" [("at", a)])), some (.v (.str "at")), y, z] = .ok (.v a) [some (.v (.ex "NoLabel" [("at", a)])), some (.v (.str "at")), y, z] := fun _ _ => rfl
  have p1 : gApp [] a = some (.non, [a]) := appR_ok (by simp)
  unfold sem__law_told_of
  simp only [y50, LW.argsOk, O.isV, O.d, List.all_cons, List.all_nil, Bool.and_true, Bool.true_and, Bool.and_self, List.length_cons, List.length_nil, List.map_cons, List.map_nil, List.cons_append, List.nil_append, List.replicate_succ, List.replicate_zero, Nat.reduceAdd, Nat.reduceSub, Nat.zero_add, and_self, and_true, true_and, if_true, ite_true, if_false, ite_false, List.getElem?_cons_zero, List.getElem?_cons_succ, List.set_cons_zero, List.set_cons_succ, List.set_nil, Bool.false_eq_true, reduceIte, y75, y69, y95, y87, y121, y133, y68, y82, y208, y165, y178, y158, y166, y105, y174, y94, y152, y196, y169, y140, y181, y160, y207, y209, y199, y147, y172, y148, y176, y189, y16, y67, y100, y99, y170, y141, y37, y60, y62, y138, y61, y153, y203, y180, y109, y42, y70, y206, y204, y80, y202, y188, y86, y164, y113, y107, y151, y134, y129, y11, y31, y29, y41, y26, y106, y13, y97, y30, y193, y110, y173, y142, y34, y8, y55, y15, y47, y9, y171, y93, y195, y163, y146, y131, y130, y64, y103, y81, y102, y157, y150, y205, y177, y96, y49, y63, y78, y128, y127, y74, y79, y76, y137, y65, y77, y22, y46, y23, y17, y38, y4, y5, y7, y90, y136, y135, y0, y25, y58, y1, y88, y18, y124, y122, y118, y116, y111, y123, y91, y72, y197, y112, y117, y194, y125, y114, y6, y126, y101, y73, y84, y104, y12, y10, y71, Option.getD_some, y198, y201, y144, y192, y200, y154, y187, y156, y183, y155, y179, y184, y35, y186, y48, y145, y143, y191, y149, y159, y167, y162, y83, y19, y24, y53, y51, y56, y36, y28, y21, y161, y108, y98, y57, y43, y3, y119, y2, y120, y33, y182, y185, y115, y40, y139, y27, y20, y59, y14, y32, y39, y54, y45, y89, y44, y66, y85, y132, y168, y175, y190, y52, y92, sp_at, forL_c, q_at_at, q_at_value, q_at_what, q_at_line, x_at, p1]
theorem told_NoLot : sem__law_told_of [.v (.ex "NoLot" []), .v (.str "")] = .ret (.f (.l [])) [.v (.ex "NoLot" []), .v (.str "")] := by
  unfold sem__law_told_of
  simp only [y50, LW.argsOk, O.isV, O.d, List.all_cons, List.all_nil, Bool.and_true, Bool.true_and, Bool.and_self, List.length_cons, List.length_nil, List.map_cons, List.map_nil, List.cons_append, List.nil_append, List.replicate_succ, List.replicate_zero, Nat.reduceAdd, Nat.reduceSub, Nat.zero_add, and_self, and_true, true_and, if_true, ite_true, if_false, ite_false, List.getElem?_cons_zero, List.getElem?_cons_succ, List.set_cons_zero, List.set_cons_succ, List.set_nil, Bool.false_eq_true, reduceIte, y75, y69, y95, y87, y121, y133, y68, y82, y208, y165, y178, y158, y166, y105, y174, y94, y152, y196, y169, y140, y181, y160, y207, y209, y199, y147, y172, y148, y176, y189, y16, y67, y100, y99, y170, y141, y37, y60, y62, y138, y61, y153, y203, y180, y109, y42, y70, y206, y204, y80, y202, y188, y86, y164, y113, y107, y151, y134, y129, y11, y31, y29, y41, y26, y106, y13, y97, y30, y193, y110, y173, y142, y34, y8, y55, y15, y47, y9, y171, y93, y195, y163, y146, y131, y130, y64, y103, y81, y102, y157, y150, y205, y177, y96, y49, y63, y78, y128, y127, y74, y79, y76, y137, y65, y77, y22, y46, y23, y17, y38, y4, y5, y7, y90, y136, y135, y0, y25, y58, y1, y88, y18, y124, y122, y118, y116, y111, y123, y91, y72, y197, y112, y117, y194, y125, y114, y6, y126, y101, y73, y84, y104, y12, y10, y71, Option.getD_some, y198, y201, y144, y192, y200, y154, y187, y156, y183, y155, y179, y184, y35, y186, y48, y145, y143, y191, y149, y159, y167, y162, y83, y19, y24, y53, y51, y56, y36, y28, y21, y161, y108, y98, y57, y43, y3, y119, y2, y120, y33, y182, y185, y115, y40, y139, y27, y20, y59, y14, y32, y39, y54, y45, y89, y44, y66, y85, y132, y168, y175, y190, y52, y92, sp_e, forL_c, q_e_at, q_e_value, q_e_what, q_e_line]
theorem told_NoPlace : sem__law_told_of [.v (.ex "NoPlace" []), .v (.str "")] = .ret (.f (.l [])) [.v (.ex "NoPlace" []), .v (.str "")] := by
  unfold sem__law_told_of
  simp only [y50, LW.argsOk, O.isV, O.d, List.all_cons, List.all_nil, Bool.and_true, Bool.true_and, Bool.and_self, List.length_cons, List.length_nil, List.map_cons, List.map_nil, List.cons_append, List.nil_append, List.replicate_succ, List.replicate_zero, Nat.reduceAdd, Nat.reduceSub, Nat.zero_add, and_self, and_true, true_and, if_true, ite_true, if_false, ite_false, List.getElem?_cons_zero, List.getElem?_cons_succ, List.set_cons_zero, List.set_cons_succ, List.set_nil, Bool.false_eq_true, reduceIte, y75, y69, y95, y87, y121, y133, y68, y82, y208, y165, y178, y158, y166, y105, y174, y94, y152, y196, y169, y140, y181, y160, y207, y209, y199, y147, y172, y148, y176, y189, y16, y67, y100, y99, y170, y141, y37, y60, y62, y138, y61, y153, y203, y180, y109, y42, y70, y206, y204, y80, y202, y188, y86, y164, y113, y107, y151, y134, y129, y11, y31, y29, y41, y26, y106, y13, y97, y30, y193, y110, y173, y142, y34, y8, y55, y15, y47, y9, y171, y93, y195, y163, y146, y131, y130, y64, y103, y81, y102, y157, y150, y205, y177, y96, y49, y63, y78, y128, y127, y74, y79, y76, y137, y65, y77, y22, y46, y23, y17, y38, y4, y5, y7, y90, y136, y135, y0, y25, y58, y1, y88, y18, y124, y122, y118, y116, y111, y123, y91, y72, y197, y112, y117, y194, y125, y114, y6, y126, y101, y73, y84, y104, y12, y10, y71, Option.getD_some, y198, y201, y144, y192, y200, y154, y187, y156, y183, y155, y179, y184, y35, y186, y48, y145, y143, y191, y149, y159, y167, y162, y83, y19, y24, y53, y51, y56, y36, y28, y21, y161, y108, y98, y57, y43, y3, y119, y2, y120, y33, y182, y185, y115, y40, y139, y27, y20, y59, y14, y32, y39, y54, y45, y89, y44, y66, y85, y132, y168, y175, y190, y52, y92, sp_e, forL_c, q_e_at, q_e_value, q_e_what, q_e_line]
theorem told_NoQuestion : sem__law_told_of [.v (.ex "NoQuestion" []), .v (.str "")] = .ret (.f (.l [])) [.v (.ex "NoQuestion" []), .v (.str "")] := by
  unfold sem__law_told_of
  simp only [y50, LW.argsOk, O.isV, O.d, List.all_cons, List.all_nil, Bool.and_true, Bool.true_and, Bool.and_self, List.length_cons, List.length_nil, List.map_cons, List.map_nil, List.cons_append, List.nil_append, List.replicate_succ, List.replicate_zero, Nat.reduceAdd, Nat.reduceSub, Nat.zero_add, and_self, and_true, true_and, if_true, ite_true, if_false, ite_false, List.getElem?_cons_zero, List.getElem?_cons_succ, List.set_cons_zero, List.set_cons_succ, List.set_nil, Bool.false_eq_true, reduceIte, y75, y69, y95, y87, y121, y133, y68, y82, y208, y165, y178, y158, y166, y105, y174, y94, y152, y196, y169, y140, y181, y160, y207, y209, y199, y147, y172, y148, y176, y189, y16, y67, y100, y99, y170, y141, y37, y60, y62, y138, y61, y153, y203, y180, y109, y42, y70, y206, y204, y80, y202, y188, y86, y164, y113, y107, y151, y134, y129, y11, y31, y29, y41, y26, y106, y13, y97, y30, y193, y110, y173, y142, y34, y8, y55, y15, y47, y9, y171, y93, y195, y163, y146, y131, y130, y64, y103, y81, y102, y157, y150, y205, y177, y96, y49, y63, y78, y128, y127, y74, y79, y76, y137, y65, y77, y22, y46, y23, y17, y38, y4, y5, y7, y90, y136, y135, y0, y25, y58, y1, y88, y18, y124, y122, y118, y116, y111, y123, y91, y72, y197, y112, y117, y194, y125, y114, y6, y126, y101, y73, y84, y104, y12, y10, y71, Option.getD_some, y198, y201, y144, y192, y200, y154, y187, y156, y183, y155, y179, y184, y35, y186, y48, y145, y143, y191, y149, y159, y167, y162, y83, y19, y24, y53, y51, y56, y36, y28, y21, y161, y108, y98, y57, y43, y3, y119, y2, y120, y33, y182, y185, y115, y40, y139, y27, y20, y59, y14, y32, y39, y54, y45, y89, y44, y66, y85, y132, y168, y175, y190, y52, y92, sp_e, forL_c, q_e_at, q_e_value, q_e_what, q_e_line]
theorem told_NothingDone : sem__law_told_of [.v (.ex "NothingDone" []), .v (.str "")] = .ret (.f (.l [])) [.v (.ex "NothingDone" []), .v (.str "")] := by
  unfold sem__law_told_of
  simp only [y50, LW.argsOk, O.isV, O.d, List.all_cons, List.all_nil, Bool.and_true, Bool.true_and, Bool.and_self, List.length_cons, List.length_nil, List.map_cons, List.map_nil, List.cons_append, List.nil_append, List.replicate_succ, List.replicate_zero, Nat.reduceAdd, Nat.reduceSub, Nat.zero_add, and_self, and_true, true_and, if_true, ite_true, if_false, ite_false, List.getElem?_cons_zero, List.getElem?_cons_succ, List.set_cons_zero, List.set_cons_succ, List.set_nil, Bool.false_eq_true, reduceIte, y75, y69, y95, y87, y121, y133, y68, y82, y208, y165, y178, y158, y166, y105, y174, y94, y152, y196, y169, y140, y181, y160, y207, y209, y199, y147, y172, y148, y176, y189, y16, y67, y100, y99, y170, y141, y37, y60, y62, y138, y61, y153, y203, y180, y109, y42, y70, y206, y204, y80, y202, y188, y86, y164, y113, y107, y151, y134, y129, y11, y31, y29, y41, y26, y106, y13, y97, y30, y193, y110, y173, y142, y34, y8, y55, y15, y47, y9, y171, y93, y195, y163, y146, y131, y130, y64, y103, y81, y102, y157, y150, y205, y177, y96, y49, y63, y78, y128, y127, y74, y79, y76, y137, y65, y77, y22, y46, y23, y17, y38, y4, y5, y7, y90, y136, y135, y0, y25, y58, y1, y88, y18, y124, y122, y118, y116, y111, y123, y91, y72, y197, y112, y117, y194, y125, y114, y6, y126, y101, y73, y84, y104, y12, y10, y71, Option.getD_some, y198, y201, y144, y192, y200, y154, y187, y156, y183, y155, y179, y184, y35, y186, y48, y145, y143, y191, y149, y159, y167, y162, y83, y19, y24, y53, y51, y56, y36, y28, y21, y161, y108, y98, y57, y43, y3, y119, y2, y120, y33, y182, y185, y115, y40, y139, y27, y20, y59, y14, y32, y39, y54, y45, y89, y44, y66, y85, y132, y168, y175, y190, y52, y92, sp_e, forL_c, q_e_at, q_e_value, q_e_what, q_e_line]
end
def turn00 : LW.Env → LW.Flow := sSeq (sAsg (gTupD 2 (gsCons (gSet 9) (gsCons (gSet 10) (gsNil)))) (sVar 8))
  (sSeq (sSet 11 (sIfE (sTB (sOp gNe true (sVar 10) (sC (.str "")))) (sSl true (sLst (sCons (sVar 2) (sCons (sVar 3) (sNil)))) (oNone) (oPart (sC1 gLen2 (sM1 gSplit (sVar 10) (sC (.str " ")))))) (sLst (sNil))))
  (sSeq (sIf (sOrT (sNotT (sTB (sC1 (gIsX EXS EXS) (sVar 9)))) (sNotT (sTB (sC1 (gIsX EXS EXS) (sVar 9))))) (sRet (sC (.bl false))) (LW.Flow.next))
  (sSeq (sIf (sTB (sOp gNe true (sCall (sem__law_kinds) (sCons (sVar 9) (sNil))) (sLc [13] (hRange1 (sC1 gLen2 (sVar 5))) (gSet 13) (sYes) (sOp gEq true (sVar 13) (sVar 7))))) (sRet (sC (.bl false))) (LW.Flow.next))
  (sSeq (sIf (sTB (sOp gNe true (sC1 gReprX (sCall (sem__law_told_of) (sCons (sVar 9) (sCons (sVar 10) (sNil))))) (sC1 gReprX (sVar 11)))) (sRet (sC (.bl false))) (LW.Flow.next))
  (sIf (sTB (sOp gNe true (sC1 gReprX (sCall (sem__law_told_of) (sCons (sOp gIx2 true (sOp gIx2 true (sVar 6) (sVar 7)) (sC (.int 0))) (sCons (sVar 10) (sNil))))) (sC1 gReprX (sSl true (sLst (sCons (sVar 4) (sCons (sVar 2) (sNil)))) (oNone) (oPart (sC1 gLen2 (sVar 11))))))) (sRet (sC (.bl false))) (LW.Flow.next))))))
def tg00 : D → LW.Env → Option LW.Env := gTupD 2 (gsCons (gSet 7) (gsCons (gSet 8) (gsNil)))
end SM

namespace SM
open PySem LW L2
theorem forL_step {tg : D → LW.Env → Option LW.Env} {body : LW.Env → LW.Flow} {d : D} {r : List D} {ρ ρ1 ρ2 : LW.Env} (h1 : tg d ρ = some ρ1) (h2 : body ρ1 = .next ρ2) : forL tg body (d :: r) ρ = forL tg body r ρ2 := by
  rw [forL_c, h1, y122, h2]; rfl
theorem seq_nn {f g : LW.Env → LW.Flow} {ρ ρ1 : LW.Env} (h : f ρ = .next ρ1) : sSeq f g ρ = g ρ1 := by rw [y131, h]; rfl
theorem ne_strS (s : Str) : gNe (.str s) (.str s) = some (.v (.bl false)) := by
  show some (P.v (.bl (!decide (s = s)))) = _
  rw [decide_eq_true rfl]; rfl
section
variable {a b c : D} {p : Pot} {x0 a7 a8 a9 a10 a11 a12 : Option O}
theorem turn_BadNumber (h1 : ∃ s : Str, gReprX (.lst [a]) = some (.v (.str s))) (h2 : ∃ s : Str, gReprX (.lst [c]) = some (.v (.str s))) : turn00 [x0, some p.o, some (.v a), some (.v b), some (.v c), some (.v (.lst (rowsE a b))), some (.v (.lst (rowsE c a))), some (.v (.int 0)), some (.v (.tup [.ex "BadNumber" [("value", a)], .str "value"])), a9, a10, a11, a12, none] = .next [x0, some p.o, some (.v a), some (.v b), some (.v c), some (.v (.lst (rowsE a b))), some (.v (.lst (rowsE c a))), some (.v (.int 0)), some (.v (.tup [.ex "BadNumber" [("value", a)], .str "value"])), some (.v (.ex "BadNumber" [("value", a)])), some (.v (.str "value")), some (.l [a]), a12, none] := by
  obtain ⟨s1, h1⟩ := h1
  obtain ⟨s2, h2⟩ := h2
  have s0 : sAsg (gTupD 2 (gsCons (gSet 9) (gsCons (gSet 10) (gsNil)))) (sVar 8) [x0, some p.o, some (.v a), some (.v b), some (.v c), some (.v (.lst (rowsE a b))), some (.v (.lst (rowsE c a))), some (.v (.int 0)), some (.v (.tup [.ex "BadNumber" [("value", a)], .str "value"])), a9, a10, a11, a12, none] = .next [x0, some p.o, some (.v a), some (.v b), some (.v c), some (.v (.lst (rowsE a b))), some (.v (.lst (rowsE c a))), some (.v (.int 0)), some (.v (.tup [.ex "BadNumber" [("value", a)], .str "value"])), some (.v (.ex "BadNumber" [("value", a)])), some (.v (.str "value")), a11, a12, none] := rfl
  have e1 : gNe (.str "value") (.str "") = some (.v (.bl true)) := by kernel_rfl
  have c1 : gSl (.lst [a, b]) none (some 1) = some (.f (.l [a])) := rfl
  have c2 : gSl (.lst [c, a]) none (some 1) = some (.f (.l [c])) := rfl
  have g1 : gIsX EXS EXS (.ex "BadNumber" [("value", a)]) = some (.v (.bl true)) := rfl
  have l1 : gLen2 (.lst (rowsE a b)) = some (.v (.int 10)) := rfl
  have l2 : gLen2 (.lst [a]) = some (.v (.int 1)) := rfl
  have l3 : gLen2 (.lst [.str "value"]) = some (.v (.int 1)) := rfl
  have r10 : (-1000000 : Int) ≤ 10 ∧ (10 : Int) ≤ 1000000 := ⟨by omega, by omega⟩
  have e13 := lc_all (i := 13) (f := sOp gEq true (sVar 13) (sVar 7)) [x0, some p.o, some (.v a), some (.v b), some (.v c), some (.v (.lst (rowsE a b))), some (.v (.lst (rowsE c a))), some (.v (.int 0)), some (.v (.tup [.ex "BadNumber" [("value", a)], .str "value"])), some (.v (.ex "BadNumber" [("value", a)])), some (.v (.str "value")), some (.l [a]), a12, none] iN (fun i : Nat => D.bl (decide ((i : Int) = 0))) (List.range 10) (fun _ => rfl) (fun x _ => by
    have q : gEq (iN x) (.int 0) = some (.v (.bl (decide ((x : Int) = 0)))) := gEq_int _ _
    simp only [y50, LW.argsOk, O.isV, O.d, List.all_cons, List.all_nil, Bool.and_true, Bool.true_and, Bool.and_self, List.length_cons, List.length_nil, List.map_cons, List.map_nil, List.cons_append, List.nil_append, List.replicate_succ, List.replicate_zero, Nat.reduceAdd, Nat.reduceSub, Nat.zero_add, and_self, and_true, true_and, if_true, ite_true, if_false, ite_false, List.getElem?_cons_zero, List.getElem?_cons_succ, List.set_cons_zero, List.set_cons_succ, List.set_nil, Bool.false_eq_true, reduceIte, y75, y69, y95, y87, y121, y133, y68, y82, y208, y165, y178, y158, y166, y105, y174, y94, y152, y196, y169, y140, y181, y160, y207, y209, y199, y147, y172, y148, y176, y189, y16, y67, y100, y99, y170, y141, y37, y60, y62, y138, y61, y153, y203, y180, y109, y42, y70, y206, y204, y80, y202, y188, y86, y164, y113, y107, y151, y134, y129, y11, y31, y29, y41, y26, y106, y13, y97, y30, y193, y110, y173, y142, y34, y8, y55, y15, y47, y9, y171, y93, y195, y163, y146, y131, y130, y64, y103, y81, y102, y157, y150, y205, y177, y96, y49, y63, y78, y128, y127, y74, y79, y76, y137, y65, y77, y22, y46, y23, y17, y38, y4, y5, y7, y90, y136, y135, y0, y25, y58, y1, y88, y18, y124, y122, y118, y116, y111, y123, y91, y72, y197, y112, y117, y194, y125, y114, y6, y126, y101, y73, y84, y104, y12, y10, y71, Option.getD_some, y198, y201, y144, y192, y200, y154, y187, y156, y183, y155, y179, y184, y35, y186, y48, y145, y143, y191, y149, y159, y167, y162, y83, y19, y24, y53, y51, y56, y36, y28, y21, y161, y108, y98, y57, y43, y3, y119, y2, y120, y33, y182, y185, y115, y40, y139, y27, y20, y59, y14, y32, y39, y54, y45, y89, y44, y66, y85, y132, y168, y175, y190, y52, y92, q])
  have hm : (List.range 10).map (fun i : Nat => D.bl (decide ((i : Int) = 0))) = [.bl true, .bl false, .bl false, .bl false, .bl false, .bl false, .bl false, .bl false, .bl false, .bl false] := rfl
  rw [hm] at e13
  have e13 : lcL [13] (gSet 13) sYes (sOp gEq true (sVar 13) (sVar 7)) (rangeD 0 10) [] [x0, some p.o, some (.v a), some (.v b), some (.v c), some (.v (.lst (rowsE a b))), some (.v (.lst (rowsE c a))), some (.v (.int 0)), some (.v (.tup [.ex "BadNumber" [("value", a)], .str "value"])), some (.v (.ex "BadNumber" [("value", a)])), some (.v (.str "value")), some (.l [a]), a12, none] = .ok [.bl true, .bl false, .bl false, .bl false, .bl false, .bl false, .bl false, .bl false, .bl false, .bl false] [x0, some p.o, some (.v a), some (.v b), some (.v c), some (.v (.lst (rowsE a b))), some (.v (.lst (rowsE c a))), some (.v (.int 0)), some (.v (.tup [.ex "BadNumber" [("value", a)], .str "value"])), some (.v (.ex "BadNumber" [("value", a)])), some (.v (.str "value")), some (.l [a]), a12, none] := e13
  have nb : gNe (.lst [.bl true, .bl false, .bl false, .bl false, .bl false, .bl false, .bl false, .bl false, .bl false, .bl false]) (.lst [.bl true, .bl false, .bl false, .bl false, .bl false, .bl false, .bl false, .bl false, .bl false, .bl false]) = some (.v (.bl false)) := by kernel_rfl
  have i1 : gIx2 (.lst (rowsE c a)) (.int 0) = some (.v (.tup [.ex "BadNumber" [("value", c)], .str "value"])) := rfl
  have i2 : gIx2 (.tup [.ex "BadNumber" [("value", c)], .str "value"]) (.int 0) = some (.v (.ex "BadNumber" [("value", c)])) := rfl
  have t1 := told_BadNumber (a := a)
  have t2 := told_BadNumber (a := c)
  generalize rowsE a b = R1 at *
  generalize rowsE c a = R2 at *
  unfold turn00
  rw [seq_nn s0]
  simp only [y50, LW.argsOk, O.isV, O.d, List.all_cons, List.all_nil, Bool.and_true, Bool.true_and, Bool.and_self, List.length_cons, List.length_nil, List.map_cons, List.map_nil, List.cons_append, List.nil_append, List.replicate_succ, List.replicate_zero, Nat.reduceAdd, Nat.reduceSub, Nat.zero_add, and_self, and_true, true_and, if_true, ite_true, if_false, ite_false, List.getElem?_cons_zero, List.getElem?_cons_succ, List.set_cons_zero, List.set_cons_succ, List.set_nil, Bool.false_eq_true, reduceIte, y75, y69, y95, y87, y121, y133, y68, y82, y208, y165, y178, y158, y166, y105, y174, y94, y152, y196, y169, y140, y181, y160, y207, y209, y199, y147, y172, y148, y176, y189, y16, y67, y100, y99, y170, y141, y37, y60, y62, y138, y61, y153, y203, y180, y109, y42, y70, y206, y204, y80, y202, y188, y86, y164, y113, y107, y151, y134, y129, y11, y31, y29, y41, y26, y106, y13, y97, y30, y193, y110, y173, y142, y34, y8, y55, y15, y47, y9, y171, y93, y195, y163, y146, y131, y130, y64, y103, y81, y102, y157, y150, y205, y177, y96, y49, y63, y78, y128, y127, y74, y79, y76, y137, y65, y77, y22, y46, y23, y17, y38, y4, y5, y7, y90, y136, y135, y0, y25, y58, y1, y88, y18, y124, y122, y118, y116, y111, y123, y91, y72, y197, y112, y117, y194, y125, y114, y6, y126, y101, y73, y84, y104, y12, y10, y71, Option.getD_some, y198, y201, y144, y192, y200, y154, y187, y156, y183, y155, y179, y184, y35, y186, y48, y145, y143, y191, y149, y159, y167, y162, y83, y19, y24, y53, y51, y56, y36, y28, y21, y161, y108, y98, y57, y43, y3, y119, y2, y120, y33, y182, y185, y115, y40, y139, y27, y20, y59, y14, y32, y39, y54, y45, y89, y44, y66, y85, y132, y168, y175, y190, y52, y92, e1, sp_value, l3, c1, g1, Bool.not_true, kinds_BadNumber, l1, r10, e13, nb, t1, h1, ne_strS, i1, i2, t2, l2, c2, h2]
theorem turn_BadText (h1 : ∃ s : Str, gReprX (.lst [a, b]) = some (.v (.str s))) (h2 : ∃ s : Str, gReprX (.lst [c, a]) = some (.v (.str s))) : turn00 [x0, some p.o, some (.v a), some (.v b), some (.v c), some (.v (.lst (rowsE a b))), some (.v (.lst (rowsE c a))), some (.v (.int 1)), some (.v (.tup [.ex "BadText" [("what", b), ("line", a)], .str "line what"])), a9, a10, a11, a12, none] = .next [x0, some p.o, some (.v a), some (.v b), some (.v c), some (.v (.lst (rowsE a b))), some (.v (.lst (rowsE c a))), some (.v (.int 1)), some (.v (.tup [.ex "BadText" [("what", b), ("line", a)], .str "line what"])), some (.v (.ex "BadText" [("what", b), ("line", a)])), some (.v (.str "line what")), some (.l [a, b]), a12, none] := by
  obtain ⟨s1, h1⟩ := h1
  obtain ⟨s2, h2⟩ := h2
  have s0 : sAsg (gTupD 2 (gsCons (gSet 9) (gsCons (gSet 10) (gsNil)))) (sVar 8) [x0, some p.o, some (.v a), some (.v b), some (.v c), some (.v (.lst (rowsE a b))), some (.v (.lst (rowsE c a))), some (.v (.int 1)), some (.v (.tup [.ex "BadText" [("what", b), ("line", a)], .str "line what"])), a9, a10, a11, a12, none] = .next [x0, some p.o, some (.v a), some (.v b), some (.v c), some (.v (.lst (rowsE a b))), some (.v (.lst (rowsE c a))), some (.v (.int 1)), some (.v (.tup [.ex "BadText" [("what", b), ("line", a)], .str "line what"])), some (.v (.ex "BadText" [("what", b), ("line", a)])), some (.v (.str "line what")), a11, a12, none] := rfl
  have e1 : gNe (.str "line what") (.str "") = some (.v (.bl true)) := by kernel_rfl
  have c1 : gSl (.lst [a, b]) none (some 2) = some (.f (.l [a, b])) := rfl
  have c2 : gSl (.lst [c, a]) none (some 2) = some (.f (.l [c, a])) := rfl
  have g1 : gIsX EXS EXS (.ex "BadText" [("what", b), ("line", a)]) = some (.v (.bl true)) := rfl
  have l1 : gLen2 (.lst (rowsE a b)) = some (.v (.int 10)) := rfl
  have l2 : gLen2 (.lst [a, b]) = some (.v (.int 2)) := rfl
  have l3 : gLen2 (.lst [.str "line", .str "what"]) = some (.v (.int 2)) := rfl
  have r10 : (-1000000 : Int) ≤ 10 ∧ (10 : Int) ≤ 1000000 := ⟨by omega, by omega⟩
  have e13 := lc_all (i := 13) (f := sOp gEq true (sVar 13) (sVar 7)) [x0, some p.o, some (.v a), some (.v b), some (.v c), some (.v (.lst (rowsE a b))), some (.v (.lst (rowsE c a))), some (.v (.int 1)), some (.v (.tup [.ex "BadText" [("what", b), ("line", a)], .str "line what"])), some (.v (.ex "BadText" [("what", b), ("line", a)])), some (.v (.str "line what")), some (.l [a, b]), a12, none] iN (fun i : Nat => D.bl (decide ((i : Int) = 1))) (List.range 10) (fun _ => rfl) (fun x _ => by
    have q : gEq (iN x) (.int 1) = some (.v (.bl (decide ((x : Int) = 1)))) := gEq_int _ _
    simp only [y50, LW.argsOk, O.isV, O.d, List.all_cons, List.all_nil, Bool.and_true, Bool.true_and, Bool.and_self, List.length_cons, List.length_nil, List.map_cons, List.map_nil, List.cons_append, List.nil_append, List.replicate_succ, List.replicate_zero, Nat.reduceAdd, Nat.reduceSub, Nat.zero_add, and_self, and_true, true_and, if_true, ite_true, if_false, ite_false, List.getElem?_cons_zero, List.getElem?_cons_succ, List.set_cons_zero, List.set_cons_succ, List.set_nil, Bool.false_eq_true, reduceIte, y75, y69, y95, y87, y121, y133, y68, y82, y208, y165, y178, y158, y166, y105, y174, y94, y152, y196, y169, y140, y181, y160, y207, y209, y199, y147, y172, y148, y176, y189, y16, y67, y100, y99, y170, y141, y37, y60, y62, y138, y61, y153, y203, y180, y109, y42, y70, y206, y204, y80, y202, y188, y86, y164, y113, y107, y151, y134, y129, y11, y31, y29, y41, y26, y106, y13, y97, y30, y193, y110, y173, y142, y34, y8, y55, y15, y47, y9, y171, y93, y195, y163, y146, y131, y130, y64, y103, y81, y102, y157, y150, y205, y177, y96, y49, y63, y78, y128, y127, y74, y79, y76, y137, y65, y77, y22, y46, y23, y17, y38, y4, y5, y7, y90, y136, y135, y0, y25, y58, y1, y88, y18, y124, y122, y118, y116, y111, y123, y91, y72, y197, y112, y117, y194, y125, y114, y6, y126, y101, y73, y84, y104, y12, y10, y71, Option.getD_some, y198, y201, y144, y192, y200, y154, y187, y156, y183, y155, y179, y184, y35, y186, y48, y145, y143, y191, y149, y159, y167, y162, y83, y19, y24, y53, y51, y56, y36, y28, y21, y161, y108, y98, y57, y43, y3, y119, y2, y120, y33, y182, y185, y115, y40, y139, y27, y20, y59, y14, y32, y39, y54, y45, y89, y44, y66, y85, y132, y168, y175, y190, y52, y92, q])
  have hm : (List.range 10).map (fun i : Nat => D.bl (decide ((i : Int) = 1))) = [.bl false, .bl true, .bl false, .bl false, .bl false, .bl false, .bl false, .bl false, .bl false, .bl false] := rfl
  rw [hm] at e13
  have e13 : lcL [13] (gSet 13) sYes (sOp gEq true (sVar 13) (sVar 7)) (rangeD 0 10) [] [x0, some p.o, some (.v a), some (.v b), some (.v c), some (.v (.lst (rowsE a b))), some (.v (.lst (rowsE c a))), some (.v (.int 1)), some (.v (.tup [.ex "BadText" [("what", b), ("line", a)], .str "line what"])), some (.v (.ex "BadText" [("what", b), ("line", a)])), some (.v (.str "line what")), some (.l [a, b]), a12, none] = .ok [.bl false, .bl true, .bl false, .bl false, .bl false, .bl false, .bl false, .bl false, .bl false, .bl false] [x0, some p.o, some (.v a), some (.v b), some (.v c), some (.v (.lst (rowsE a b))), some (.v (.lst (rowsE c a))), some (.v (.int 1)), some (.v (.tup [.ex "BadText" [("what", b), ("line", a)], .str "line what"])), some (.v (.ex "BadText" [("what", b), ("line", a)])), some (.v (.str "line what")), some (.l [a, b]), a12, none] := e13
  have nb : gNe (.lst [.bl false, .bl true, .bl false, .bl false, .bl false, .bl false, .bl false, .bl false, .bl false, .bl false]) (.lst [.bl false, .bl true, .bl false, .bl false, .bl false, .bl false, .bl false, .bl false, .bl false, .bl false]) = some (.v (.bl false)) := by kernel_rfl
  have i1 : gIx2 (.lst (rowsE c a)) (.int 1) = some (.v (.tup [.ex "BadText" [("what", a), ("line", c)], .str "line what"])) := rfl
  have i2 : gIx2 (.tup [.ex "BadText" [("what", a), ("line", c)], .str "line what"]) (.int 0) = some (.v (.ex "BadText" [("what", a), ("line", c)])) := rfl
  have t1 := told_BadText (a := a) (b := b)
  have t2 := told_BadText (a := c) (b := a)
  generalize rowsE a b = R1 at *
  generalize rowsE c a = R2 at *
  unfold turn00
  rw [seq_nn s0]
  simp only [y50, LW.argsOk, O.isV, O.d, List.all_cons, List.all_nil, Bool.and_true, Bool.true_and, Bool.and_self, List.length_cons, List.length_nil, List.map_cons, List.map_nil, List.cons_append, List.nil_append, List.replicate_succ, List.replicate_zero, Nat.reduceAdd, Nat.reduceSub, Nat.zero_add, and_self, and_true, true_and, if_true, ite_true, if_false, ite_false, List.getElem?_cons_zero, List.getElem?_cons_succ, List.set_cons_zero, List.set_cons_succ, List.set_nil, Bool.false_eq_true, reduceIte, y75, y69, y95, y87, y121, y133, y68, y82, y208, y165, y178, y158, y166, y105, y174, y94, y152, y196, y169, y140, y181, y160, y207, y209, y199, y147, y172, y148, y176, y189, y16, y67, y100, y99, y170, y141, y37, y60, y62, y138, y61, y153, y203, y180, y109, y42, y70, y206, y204, y80, y202, y188, y86, y164, y113, y107, y151, y134, y129, y11, y31, y29, y41, y26, y106, y13, y97, y30, y193, y110, y173, y142, y34, y8, y55, y15, y47, y9, y171, y93, y195, y163, y146, y131, y130, y64, y103, y81, y102, y157, y150, y205, y177, y96, y49, y63, y78, y128, y127, y74, y79, y76, y137, y65, y77, y22, y46, y23, y17, y38, y4, y5, y7, y90, y136, y135, y0, y25, y58, y1, y88, y18, y124, y122, y118, y116, y111, y123, y91, y72, y197, y112, y117, y194, y125, y114, y6, y126, y101, y73, y84, y104, y12, y10, y71, Option.getD_some, y198, y201, y144, y192, y200, y154, y187, y156, y183, y155, y179, y184, y35, y186, y48, y145, y143, y191, y149, y159, y167, y162, y83, y19, y24, y53, y51, y56, y36, y28, y21, y161, y108, y98, y57, y43, y3, y119, y2, y120, y33, y182, y185, y115, y40, y139, y27, y20, y59, y14, y32, y39, y54, y45, y89, y44, y66, y85, y132, y168, y175, y190, y52, y92, e1, sp_line_what, l3, c1, g1, Bool.not_true, kinds_BadText, l1, r10, e13, nb, t1, h1, ne_strS, i1, i2, t2, l2, c2, h2]
theorem turn_BadWeb (h1 : ∃ s : Str, gReprX (.lst [a]) = some (.v (.str s))) (h2 : ∃ s : Str, gReprX (.lst [c]) = some (.v (.str s))) : turn00 [x0, some p.o, some (.v a), some (.v b), some (.v c), some (.v (.lst (rowsE a b))), some (.v (.lst (rowsE c a))), some (.v (.int 2)), some (.v (.tup [.ex "BadWeb" [("what", a)], .str "what"])), a9, a10, a11, a12, none] = .next [x0, some p.o, some (.v a), some (.v b), some (.v c), some (.v (.lst (rowsE a b))), some (.v (.lst (rowsE c a))), some (.v (.int 2)), some (.v (.tup [.ex "BadWeb" [("what", a)], .str "what"])), some (.v (.ex "BadWeb" [("what", a)])), some (.v (.str "what")), some (.l [a]), a12, none] := by
  obtain ⟨s1, h1⟩ := h1
  obtain ⟨s2, h2⟩ := h2
  have s0 : sAsg (gTupD 2 (gsCons (gSet 9) (gsCons (gSet 10) (gsNil)))) (sVar 8) [x0, some p.o, some (.v a), some (.v b), some (.v c), some (.v (.lst (rowsE a b))), some (.v (.lst (rowsE c a))), some (.v (.int 2)), some (.v (.tup [.ex "BadWeb" [("what", a)], .str "what"])), a9, a10, a11, a12, none] = .next [x0, some p.o, some (.v a), some (.v b), some (.v c), some (.v (.lst (rowsE a b))), some (.v (.lst (rowsE c a))), some (.v (.int 2)), some (.v (.tup [.ex "BadWeb" [("what", a)], .str "what"])), some (.v (.ex "BadWeb" [("what", a)])), some (.v (.str "what")), a11, a12, none] := rfl
  have e1 : gNe (.str "what") (.str "") = some (.v (.bl true)) := by kernel_rfl
  have c1 : gSl (.lst [a, b]) none (some 1) = some (.f (.l [a])) := rfl
  have c2 : gSl (.lst [c, a]) none (some 1) = some (.f (.l [c])) := rfl
  have g1 : gIsX EXS EXS (.ex "BadWeb" [("what", a)]) = some (.v (.bl true)) := rfl
  have l1 : gLen2 (.lst (rowsE a b)) = some (.v (.int 10)) := rfl
  have l2 : gLen2 (.lst [a]) = some (.v (.int 1)) := rfl
  have l3 : gLen2 (.lst [.str "what"]) = some (.v (.int 1)) := rfl
  have r10 : (-1000000 : Int) ≤ 10 ∧ (10 : Int) ≤ 1000000 := ⟨by omega, by omega⟩
  have e13 := lc_all (i := 13) (f := sOp gEq true (sVar 13) (sVar 7)) [x0, some p.o, some (.v a), some (.v b), some (.v c), some (.v (.lst (rowsE a b))), some (.v (.lst (rowsE c a))), some (.v (.int 2)), some (.v (.tup [.ex "BadWeb" [("what", a)], .str "what"])), some (.v (.ex "BadWeb" [("what", a)])), some (.v (.str "what")), some (.l [a]), a12, none] iN (fun i : Nat => D.bl (decide ((i : Int) = 2))) (List.range 10) (fun _ => rfl) (fun x _ => by
    have q : gEq (iN x) (.int 2) = some (.v (.bl (decide ((x : Int) = 2)))) := gEq_int _ _
    simp only [y50, LW.argsOk, O.isV, O.d, List.all_cons, List.all_nil, Bool.and_true, Bool.true_and, Bool.and_self, List.length_cons, List.length_nil, List.map_cons, List.map_nil, List.cons_append, List.nil_append, List.replicate_succ, List.replicate_zero, Nat.reduceAdd, Nat.reduceSub, Nat.zero_add, and_self, and_true, true_and, if_true, ite_true, if_false, ite_false, List.getElem?_cons_zero, List.getElem?_cons_succ, List.set_cons_zero, List.set_cons_succ, List.set_nil, Bool.false_eq_true, reduceIte, y75, y69, y95, y87, y121, y133, y68, y82, y208, y165, y178, y158, y166, y105, y174, y94, y152, y196, y169, y140, y181, y160, y207, y209, y199, y147, y172, y148, y176, y189, y16, y67, y100, y99, y170, y141, y37, y60, y62, y138, y61, y153, y203, y180, y109, y42, y70, y206, y204, y80, y202, y188, y86, y164, y113, y107, y151, y134, y129, y11, y31, y29, y41, y26, y106, y13, y97, y30, y193, y110, y173, y142, y34, y8, y55, y15, y47, y9, y171, y93, y195, y163, y146, y131, y130, y64, y103, y81, y102, y157, y150, y205, y177, y96, y49, y63, y78, y128, y127, y74, y79, y76, y137, y65, y77, y22, y46, y23, y17, y38, y4, y5, y7, y90, y136, y135, y0, y25, y58, y1, y88, y18, y124, y122, y118, y116, y111, y123, y91, y72, y197, y112, y117, y194, y125, y114, y6, y126, y101, y73, y84, y104, y12, y10, y71, Option.getD_some, y198, y201, y144, y192, y200, y154, y187, y156, y183, y155, y179, y184, y35, y186, y48, y145, y143, y191, y149, y159, y167, y162, y83, y19, y24, y53, y51, y56, y36, y28, y21, y161, y108, y98, y57, y43, y3, y119, y2, y120, y33, y182, y185, y115, y40, y139, y27, y20, y59, y14, y32, y39, y54, y45, y89, y44, y66, y85, y132, y168, y175, y190, y52, y92, q])
  have hm : (List.range 10).map (fun i : Nat => D.bl (decide ((i : Int) = 2))) = [.bl false, .bl false, .bl true, .bl false, .bl false, .bl false, .bl false, .bl false, .bl false, .bl false] := rfl
  rw [hm] at e13
  have e13 : lcL [13] (gSet 13) sYes (sOp gEq true (sVar 13) (sVar 7)) (rangeD 0 10) [] [x0, some p.o, some (.v a), some (.v b), some (.v c), some (.v (.lst (rowsE a b))), some (.v (.lst (rowsE c a))), some (.v (.int 2)), some (.v (.tup [.ex "BadWeb" [("what", a)], .str "what"])), some (.v (.ex "BadWeb" [("what", a)])), some (.v (.str "what")), some (.l [a]), a12, none] = .ok [.bl false, .bl false, .bl true, .bl false, .bl false, .bl false, .bl false, .bl false, .bl false, .bl false] [x0, some p.o, some (.v a), some (.v b), some (.v c), some (.v (.lst (rowsE a b))), some (.v (.lst (rowsE c a))), some (.v (.int 2)), some (.v (.tup [.ex "BadWeb" [("what", a)], .str "what"])), some (.v (.ex "BadWeb" [("what", a)])), some (.v (.str "what")), some (.l [a]), a12, none] := e13
  have nb : gNe (.lst [.bl false, .bl false, .bl true, .bl false, .bl false, .bl false, .bl false, .bl false, .bl false, .bl false]) (.lst [.bl false, .bl false, .bl true, .bl false, .bl false, .bl false, .bl false, .bl false, .bl false, .bl false]) = some (.v (.bl false)) := by kernel_rfl
  have i1 : gIx2 (.lst (rowsE c a)) (.int 2) = some (.v (.tup [.ex "BadWeb" [("what", c)], .str "what"])) := rfl
  have i2 : gIx2 (.tup [.ex "BadWeb" [("what", c)], .str "what"]) (.int 0) = some (.v (.ex "BadWeb" [("what", c)])) := rfl
  have t1 := told_BadWeb (a := a)
  have t2 := told_BadWeb (a := c)
  generalize rowsE a b = R1 at *
  generalize rowsE c a = R2 at *
  unfold turn00
  rw [seq_nn s0]
  simp only [y50, LW.argsOk, O.isV, O.d, List.all_cons, List.all_nil, Bool.and_true, Bool.true_and, Bool.and_self, List.length_cons, List.length_nil, List.map_cons, List.map_nil, List.cons_append, List.nil_append, List.replicate_succ, List.replicate_zero, Nat.reduceAdd, Nat.reduceSub, Nat.zero_add, and_self, and_true, true_and, if_true, ite_true, if_false, ite_false, List.getElem?_cons_zero, List.getElem?_cons_succ, List.set_cons_zero, List.set_cons_succ, List.set_nil, Bool.false_eq_true, reduceIte, y75, y69, y95, y87, y121, y133, y68, y82, y208, y165, y178, y158, y166, y105, y174, y94, y152, y196, y169, y140, y181, y160, y207, y209, y199, y147, y172, y148, y176, y189, y16, y67, y100, y99, y170, y141, y37, y60, y62, y138, y61, y153, y203, y180, y109, y42, y70, y206, y204, y80, y202, y188, y86, y164, y113, y107, y151, y134, y129, y11, y31, y29, y41, y26, y106, y13, y97, y30, y193, y110, y173, y142, y34, y8, y55, y15, y47, y9, y171, y93, y195, y163, y146, y131, y130, y64, y103, y81, y102, y157, y150, y205, y177, y96, y49, y63, y78, y128, y127, y74, y79, y76, y137, y65, y77, y22, y46, y23, y17, y38, y4, y5, y7, y90, y136, y135, y0, y25, y58, y1, y88, y18, y124, y122, y118, y116, y111, y123, y91, y72, y197, y112, y117, y194, y125, y114, y6, y126, y101, y73, y84, y104, y12, y10, y71, Option.getD_some, y198, y201, y144, y192, y200, y154, y187, y156, y183, y155, y179, y184, y35, y186, y48, y145, y143, y191, y149, y159, y167, y162, y83, y19, y24, y53, y51, y56, y36, y28, y21, y161, y108, y98, y57, y43, y3, y119, y2, y120, y33, y182, y185, y115, y40, y139, y27, y20, y59, y14, y32, y39, y54, y45, y89, y44, y66, y85, y132, y168, y175, y190, y52, y92, e1, sp_what, l3, c1, g1, Bool.not_true, kinds_BadWeb, l1, r10, e13, nb, t1, h1, ne_strS, i1, i2, t2, l2, c2, h2]
theorem turn_NoDeed (h1 : ∃ s : Str, gReprX (.lst [a]) = some (.v (.str s))) (h2 : ∃ s : Str, gReprX (.lst [c]) = some (.v (.str s))) : turn00 [x0, some p.o, some (.v a), some (.v b), some (.v c), some (.v (.lst (rowsE a b))), some (.v (.lst (rowsE c a))), some (.v (.int 3)), some (.v (.tup [.ex "NoDeed" [("at", a)], .str "at"])), a9, a10, a11, a12, none] = .next [x0, some p.o, some (.v a), some (.v b), some (.v c), some (.v (.lst (rowsE a b))), some (.v (.lst (rowsE c a))), some (.v (.int 3)), some (.v (.tup [.ex "NoDeed" [("at", a)], .str "at"])), some (.v (.ex "NoDeed" [("at", a)])), some (.v (.str "at")), some (.l [a]), a12, none] := by
  obtain ⟨s1, h1⟩ := h1
  obtain ⟨s2, h2⟩ := h2
  have s0 : sAsg (gTupD 2 (gsCons (gSet 9) (gsCons (gSet 10) (gsNil)))) (sVar 8) [x0, some p.o, some (.v a), some (.v b), some (.v c), some (.v (.lst (rowsE a b))), some (.v (.lst (rowsE c a))), some (.v (.int 3)), some (.v (.tup [.ex "NoDeed" [("at", a)], .str "at"])), a9, a10, a11, a12, none] = .next [x0, some p.o, some (.v a), some (.v b), some (.v c), some (.v (.lst (rowsE a b))), some (.v (.lst (rowsE c a))), some (.v (.int 3)), some (.v (.tup [.ex "NoDeed" [("at", a)], .str "at"])), some (.v (.ex "NoDeed" [("at", a)])), some (.v (.str "at")), a11, a12, none] := rfl
  have e1 : gNe (.str "at") (.str "") = some (.v (.bl true)) := by kernel_rfl
  have c1 : gSl (.lst [a, b]) none (some 1) = some (.f (.l [a])) := rfl
  have c2 : gSl (.lst [c, a]) none (some 1) = some (.f (.l [c])) := rfl
  have g1 : gIsX EXS EXS (.ex "NoDeed" [("at", a)]) = some (.v (.bl true)) := rfl
  have l1 : gLen2 (.lst (rowsE a b)) = some (.v (.int 10)) := rfl
  have l2 : gLen2 (.lst [a]) = some (.v (.int 1)) := rfl
  have l3 : gLen2 (.lst [.str "at"]) = some (.v (.int 1)) := rfl
  have r10 : (-1000000 : Int) ≤ 10 ∧ (10 : Int) ≤ 1000000 := ⟨by omega, by omega⟩
  have e13 := lc_all (i := 13) (f := sOp gEq true (sVar 13) (sVar 7)) [x0, some p.o, some (.v a), some (.v b), some (.v c), some (.v (.lst (rowsE a b))), some (.v (.lst (rowsE c a))), some (.v (.int 3)), some (.v (.tup [.ex "NoDeed" [("at", a)], .str "at"])), some (.v (.ex "NoDeed" [("at", a)])), some (.v (.str "at")), some (.l [a]), a12, none] iN (fun i : Nat => D.bl (decide ((i : Int) = 3))) (List.range 10) (fun _ => rfl) (fun x _ => by
    have q : gEq (iN x) (.int 3) = some (.v (.bl (decide ((x : Int) = 3)))) := gEq_int _ _
    simp only [y50, LW.argsOk, O.isV, O.d, List.all_cons, List.all_nil, Bool.and_true, Bool.true_and, Bool.and_self, List.length_cons, List.length_nil, List.map_cons, List.map_nil, List.cons_append, List.nil_append, List.replicate_succ, List.replicate_zero, Nat.reduceAdd, Nat.reduceSub, Nat.zero_add, and_self, and_true, true_and, if_true, ite_true, if_false, ite_false, List.getElem?_cons_zero, List.getElem?_cons_succ, List.set_cons_zero, List.set_cons_succ, List.set_nil, Bool.false_eq_true, reduceIte, y75, y69, y95, y87, y121, y133, y68, y82, y208, y165, y178, y158, y166, y105, y174, y94, y152, y196, y169, y140, y181, y160, y207, y209, y199, y147, y172, y148, y176, y189, y16, y67, y100, y99, y170, y141, y37, y60, y62, y138, y61, y153, y203, y180, y109, y42, y70, y206, y204, y80, y202, y188, y86, y164, y113, y107, y151, y134, y129, y11, y31, y29, y41, y26, y106, y13, y97, y30, y193, y110, y173, y142, y34, y8, y55, y15, y47, y9, y171, y93, y195, y163, y146, y131, y130, y64, y103, y81, y102, y157, y150, y205, y177, y96, y49, y63, y78, y128, y127, y74, y79, y76, y137, y65, y77, y22, y46, y23, y17, y38, y4, y5, y7, y90, y136, y135, y0, y25, y58, y1, y88, y18, y124, y122, y118, y116, y111, y123, y91, y72, y197, y112, y117, y194, y125, y114, y6, y126, y101, y73, y84, y104, y12, y10, y71, Option.getD_some, y198, y201, y144, y192, y200, y154, y187, y156, y183, y155, y179, y184, y35, y186, y48, y145, y143, y191, y149, y159, y167, y162, y83, y19, y24, y53, y51, y56, y36, y28, y21, y161, y108, y98, y57, y43, y3, y119, y2, y120, y33, y182, y185, y115, y40, y139, y27, y20, y59, y14, y32, y39, y54, y45, y89, y44, y66, y85, y132, y168, y175, y190, y52, y92, q])
  have hm : (List.range 10).map (fun i : Nat => D.bl (decide ((i : Int) = 3))) = [.bl false, .bl false, .bl false, .bl true, .bl false, .bl false, .bl false, .bl false, .bl false, .bl false] := rfl
  rw [hm] at e13
  have e13 : lcL [13] (gSet 13) sYes (sOp gEq true (sVar 13) (sVar 7)) (rangeD 0 10) [] [x0, some p.o, some (.v a), some (.v b), some (.v c), some (.v (.lst (rowsE a b))), some (.v (.lst (rowsE c a))), some (.v (.int 3)), some (.v (.tup [.ex "NoDeed" [("at", a)], .str "at"])), some (.v (.ex "NoDeed" [("at", a)])), some (.v (.str "at")), some (.l [a]), a12, none] = .ok [.bl false, .bl false, .bl false, .bl true, .bl false, .bl false, .bl false, .bl false, .bl false, .bl false] [x0, some p.o, some (.v a), some (.v b), some (.v c), some (.v (.lst (rowsE a b))), some (.v (.lst (rowsE c a))), some (.v (.int 3)), some (.v (.tup [.ex "NoDeed" [("at", a)], .str "at"])), some (.v (.ex "NoDeed" [("at", a)])), some (.v (.str "at")), some (.l [a]), a12, none] := e13
  have nb : gNe (.lst [.bl false, .bl false, .bl false, .bl true, .bl false, .bl false, .bl false, .bl false, .bl false, .bl false]) (.lst [.bl false, .bl false, .bl false, .bl true, .bl false, .bl false, .bl false, .bl false, .bl false, .bl false]) = some (.v (.bl false)) := by kernel_rfl
  have i1 : gIx2 (.lst (rowsE c a)) (.int 3) = some (.v (.tup [.ex "NoDeed" [("at", c)], .str "at"])) := rfl
  have i2 : gIx2 (.tup [.ex "NoDeed" [("at", c)], .str "at"]) (.int 0) = some (.v (.ex "NoDeed" [("at", c)])) := rfl
  have t1 := told_NoDeed (a := a)
  have t2 := told_NoDeed (a := c)
  generalize rowsE a b = R1 at *
  generalize rowsE c a = R2 at *
  unfold turn00
  rw [seq_nn s0]
  simp only [y50, LW.argsOk, O.isV, O.d, List.all_cons, List.all_nil, Bool.and_true, Bool.true_and, Bool.and_self, List.length_cons, List.length_nil, List.map_cons, List.map_nil, List.cons_append, List.nil_append, List.replicate_succ, List.replicate_zero, Nat.reduceAdd, Nat.reduceSub, Nat.zero_add, and_self, and_true, true_and, if_true, ite_true, if_false, ite_false, List.getElem?_cons_zero, List.getElem?_cons_succ, List.set_cons_zero, List.set_cons_succ, List.set_nil, Bool.false_eq_true, reduceIte, y75, y69, y95, y87, y121, y133, y68, y82, y208, y165, y178, y158, y166, y105, y174, y94, y152, y196, y169, y140, y181, y160, y207, y209, y199, y147, y172, y148, y176, y189, y16, y67, y100, y99, y170, y141, y37, y60, y62, y138, y61, y153, y203, y180, y109, y42, y70, y206, y204, y80, y202, y188, y86, y164, y113, y107, y151, y134, y129, y11, y31, y29, y41, y26, y106, y13, y97, y30, y193, y110, y173, y142, y34, y8, y55, y15, y47, y9, y171, y93, y195, y163, y146, y131, y130, y64, y103, y81, y102, y157, y150, y205, y177, y96, y49, y63, y78, y128, y127, y74, y79, y76, y137, y65, y77, y22, y46, y23, y17, y38, y4, y5, y7, y90, y136, y135, y0, y25, y58, y1, y88, y18, y124, y122, y118, y116, y111, y123, y91, y72, y197, y112, y117, y194, y125, y114, y6, y126, y101, y73, y84, y104, y12, y10, y71, Option.getD_some, y198, y201, y144, y192, y200, y154, y187, y156, y183, y155, y179, y184, y35, y186, y48, y145, y143, y191, y149, y159, y167, y162, y83, y19, y24, y53, y51, y56, y36, y28, y21, y161, y108, y98, y57, y43, y3, y119, y2, y120, y33, y182, y185, y115, y40, y139, y27, y20, y59, y14, y32, y39, y54, y45, y89, y44, y66, y85, y132, y168, y175, y190, y52, y92, e1, sp_at, l3, c1, g1, Bool.not_true, kinds_NoDeed, l1, r10, e13, nb, t1, h1, ne_strS, i1, i2, t2, l2, c2, h2]
theorem turn_NoFires (h1 : ∃ s : Str, gReprX (.lst [a]) = some (.v (.str s))) (h2 : ∃ s : Str, gReprX (.lst [c]) = some (.v (.str s))) : turn00 [x0, some p.o, some (.v a), some (.v b), some (.v c), some (.v (.lst (rowsE a b))), some (.v (.lst (rowsE c a))), some (.v (.int 4)), some (.v (.tup [.ex "NoFires" [("at", a)], .str "at"])), a9, a10, a11, a12, none] = .next [x0, some p.o, some (.v a), some (.v b), some (.v c), some (.v (.lst (rowsE a b))), some (.v (.lst (rowsE c a))), some (.v (.int 4)), some (.v (.tup [.ex "NoFires" [("at", a)], .str "at"])), some (.v (.ex "NoFires" [("at", a)])), some (.v (.str "at")), some (.l [a]), a12, none] := by
  obtain ⟨s1, h1⟩ := h1
  obtain ⟨s2, h2⟩ := h2
  have s0 : sAsg (gTupD 2 (gsCons (gSet 9) (gsCons (gSet 10) (gsNil)))) (sVar 8) [x0, some p.o, some (.v a), some (.v b), some (.v c), some (.v (.lst (rowsE a b))), some (.v (.lst (rowsE c a))), some (.v (.int 4)), some (.v (.tup [.ex "NoFires" [("at", a)], .str "at"])), a9, a10, a11, a12, none] = .next [x0, some p.o, some (.v a), some (.v b), some (.v c), some (.v (.lst (rowsE a b))), some (.v (.lst (rowsE c a))), some (.v (.int 4)), some (.v (.tup [.ex "NoFires" [("at", a)], .str "at"])), some (.v (.ex "NoFires" [("at", a)])), some (.v (.str "at")), a11, a12, none] := rfl
  have e1 : gNe (.str "at") (.str "") = some (.v (.bl true)) := by kernel_rfl
  have c1 : gSl (.lst [a, b]) none (some 1) = some (.f (.l [a])) := rfl
  have c2 : gSl (.lst [c, a]) none (some 1) = some (.f (.l [c])) := rfl
  have g1 : gIsX EXS EXS (.ex "NoFires" [("at", a)]) = some (.v (.bl true)) := rfl
  have l1 : gLen2 (.lst (rowsE a b)) = some (.v (.int 10)) := rfl
  have l2 : gLen2 (.lst [a]) = some (.v (.int 1)) := rfl
  have l3 : gLen2 (.lst [.str "at"]) = some (.v (.int 1)) := rfl
  have r10 : (-1000000 : Int) ≤ 10 ∧ (10 : Int) ≤ 1000000 := ⟨by omega, by omega⟩
  have e13 := lc_all (i := 13) (f := sOp gEq true (sVar 13) (sVar 7)) [x0, some p.o, some (.v a), some (.v b), some (.v c), some (.v (.lst (rowsE a b))), some (.v (.lst (rowsE c a))), some (.v (.int 4)), some (.v (.tup [.ex "NoFires" [("at", a)], .str "at"])), some (.v (.ex "NoFires" [("at", a)])), some (.v (.str "at")), some (.l [a]), a12, none] iN (fun i : Nat => D.bl (decide ((i : Int) = 4))) (List.range 10) (fun _ => rfl) (fun x _ => by
    have q : gEq (iN x) (.int 4) = some (.v (.bl (decide ((x : Int) = 4)))) := gEq_int _ _
    simp only [y50, LW.argsOk, O.isV, O.d, List.all_cons, List.all_nil, Bool.and_true, Bool.true_and, Bool.and_self, List.length_cons, List.length_nil, List.map_cons, List.map_nil, List.cons_append, List.nil_append, List.replicate_succ, List.replicate_zero, Nat.reduceAdd, Nat.reduceSub, Nat.zero_add, and_self, and_true, true_and, if_true, ite_true, if_false, ite_false, List.getElem?_cons_zero, List.getElem?_cons_succ, List.set_cons_zero, List.set_cons_succ, List.set_nil, Bool.false_eq_true, reduceIte, y75, y69, y95, y87, y121, y133, y68, y82, y208, y165, y178, y158, y166, y105, y174, y94, y152, y196, y169, y140, y181, y160, y207, y209, y199, y147, y172, y148, y176, y189, y16, y67, y100, y99, y170, y141, y37, y60, y62, y138, y61, y153, y203, y180, y109, y42, y70, y206, y204, y80, y202, y188, y86, y164, y113, y107, y151, y134, y129, y11, y31, y29, y41, y26, y106, y13, y97, y30, y193, y110, y173, y142, y34, y8, y55, y15, y47, y9, y171, y93, y195, y163, y146, y131, y130, y64, y103, y81, y102, y157, y150, y205, y177, y96, y49, y63, y78, y128, y127, y74, y79, y76, y137, y65, y77, y22, y46, y23, y17, y38, y4, y5, y7, y90, y136, y135, y0, y25, y58, y1, y88, y18, y124, y122, y118, y116, y111, y123, y91, y72, y197, y112, y117, y194, y125, y114, y6, y126, y101, y73, y84, y104, y12, y10, y71, Option.getD_some, y198, y201, y144, y192, y200, y154, y187, y156, y183, y155, y179, y184, y35, y186, y48, y145, y143, y191, y149, y159, y167, y162, y83, y19, y24, y53, y51, y56, y36, y28, y21, y161, y108, y98, y57, y43, y3, y119, y2, y120, y33, y182, y185, y115, y40, y139, y27, y20, y59, y14, y32, y39, y54, y45, y89, y44, y66, y85, y132, y168, y175, y190, y52, y92, q])
  have hm : (List.range 10).map (fun i : Nat => D.bl (decide ((i : Int) = 4))) = [.bl false, .bl false, .bl false, .bl false, .bl true, .bl false, .bl false, .bl false, .bl false, .bl false] := rfl
  rw [hm] at e13
  have e13 : lcL [13] (gSet 13) sYes (sOp gEq true (sVar 13) (sVar 7)) (rangeD 0 10) [] [x0, some p.o, some (.v a), some (.v b), some (.v c), some (.v (.lst (rowsE a b))), some (.v (.lst (rowsE c a))), some (.v (.int 4)), some (.v (.tup [.ex "NoFires" [("at", a)], .str "at"])), some (.v (.ex "NoFires" [("at", a)])), some (.v (.str "at")), some (.l [a]), a12, none] = .ok [.bl false, .bl false, .bl false, .bl false, .bl true, .bl false, .bl false, .bl false, .bl false, .bl false] [x0, some p.o, some (.v a), some (.v b), some (.v c), some (.v (.lst (rowsE a b))), some (.v (.lst (rowsE c a))), some (.v (.int 4)), some (.v (.tup [.ex "NoFires" [("at", a)], .str "at"])), some (.v (.ex "NoFires" [("at", a)])), some (.v (.str "at")), some (.l [a]), a12, none] := e13
  have nb : gNe (.lst [.bl false, .bl false, .bl false, .bl false, .bl true, .bl false, .bl false, .bl false, .bl false, .bl false]) (.lst [.bl false, .bl false, .bl false, .bl false, .bl true, .bl false, .bl false, .bl false, .bl false, .bl false]) = some (.v (.bl false)) := by kernel_rfl
  have i1 : gIx2 (.lst (rowsE c a)) (.int 4) = some (.v (.tup [.ex "NoFires" [("at", c)], .str "at"])) := rfl
  have i2 : gIx2 (.tup [.ex "NoFires" [("at", c)], .str "at"]) (.int 0) = some (.v (.ex "NoFires" [("at", c)])) := rfl
  have t1 := told_NoFires (a := a)
  have t2 := told_NoFires (a := c)
  generalize rowsE a b = R1 at *
  generalize rowsE c a = R2 at *
  unfold turn00
  rw [seq_nn s0]
  simp only [y50, LW.argsOk, O.isV, O.d, List.all_cons, List.all_nil, Bool.and_true, Bool.true_and, Bool.and_self, List.length_cons, List.length_nil, List.map_cons, List.map_nil, List.cons_append, List.nil_append, List.replicate_succ, List.replicate_zero, Nat.reduceAdd, Nat.reduceSub, Nat.zero_add, and_self, and_true, true_and, if_true, ite_true, if_false, ite_false, List.getElem?_cons_zero, List.getElem?_cons_succ, List.set_cons_zero, List.set_cons_succ, List.set_nil, Bool.false_eq_true, reduceIte, y75, y69, y95, y87, y121, y133, y68, y82, y208, y165, y178, y158, y166, y105, y174, y94, y152, y196, y169, y140, y181, y160, y207, y209, y199, y147, y172, y148, y176, y189, y16, y67, y100, y99, y170, y141, y37, y60, y62, y138, y61, y153, y203, y180, y109, y42, y70, y206, y204, y80, y202, y188, y86, y164, y113, y107, y151, y134, y129, y11, y31, y29, y41, y26, y106, y13, y97, y30, y193, y110, y173, y142, y34, y8, y55, y15, y47, y9, y171, y93, y195, y163, y146, y131, y130, y64, y103, y81, y102, y157, y150, y205, y177, y96, y49, y63, y78, y128, y127, y74, y79, y76, y137, y65, y77, y22, y46, y23, y17, y38, y4, y5, y7, y90, y136, y135, y0, y25, y58, y1, y88, y18, y124, y122, y118, y116, y111, y123, y91, y72, y197, y112, y117, y194, y125, y114, y6, y126, y101, y73, y84, y104, y12, y10, y71, Option.getD_some, y198, y201, y144, y192, y200, y154, y187, y156, y183, y155, y179, y184, y35, y186, y48, y145, y143, y191, y149, y159, y167, y162, y83, y19, y24, y53, y51, y56, y36, y28, y21, y161, y108, y98, y57, y43, y3, y119, y2, y120, y33, y182, y185, y115, y40, y139, y27, y20, y59, y14, y32, y39, y54, y45, y89, y44, y66, y85, y132, y168, y175, y190, y52, y92, e1, sp_at, l3, c1, g1, Bool.not_true, kinds_NoFires, l1, r10, e13, nb, t1, h1, ne_strS, i1, i2, t2, l2, c2, h2]
theorem turn_NoLabel (h1 : ∃ s : Str, gReprX (.lst [a]) = some (.v (.str s))) (h2 : ∃ s : Str, gReprX (.lst [c]) = some (.v (.str s))) : turn00 [x0, some p.o, some (.v a), some (.v b), some (.v c), some (.v (.lst (rowsE a b))), some (.v (.lst (rowsE c a))), some (.v (.int 5)), some (.v (.tup [.ex "NoLabel" [("at", a)], .str "at"])), a9, a10, a11, a12, none] = .next [x0, some p.o, some (.v a), some (.v b), some (.v c), some (.v (.lst (rowsE a b))), some (.v (.lst (rowsE c a))), some (.v (.int 5)), some (.v (.tup [.ex "NoLabel" [("at", a)], .str "at"])), some (.v (.ex "NoLabel" [("at", a)])), some (.v (.str "at")), some (.l [a]), a12, none] := by
  obtain ⟨s1, h1⟩ := h1
  obtain ⟨s2, h2⟩ := h2
  have s0 : sAsg (gTupD 2 (gsCons (gSet 9) (gsCons (gSet 10) (gsNil)))) (sVar 8) [x0, some p.o, some (.v a), some (.v b), some (.v c), some (.v (.lst (rowsE a b))), some (.v (.lst (rowsE c a))), some (.v (.int 5)), some (.v (.tup [.ex "NoLabel" [("at", a)], .str "at"])), a9, a10, a11, a12, none] = .next [x0, some p.o, some (.v a), some (.v b), some (.v c), some (.v (.lst (rowsE a b))), some (.v (.lst (rowsE c a))), some (.v (.int 5)), some (.v (.tup [.ex "NoLabel" [("at", a)], .str "at"])), some (.v (.ex "NoLabel" [("at", a)])), some (.v (.str "at")), a11, a12, none] := rfl
  have e1 : gNe (.str "at") (.str "") = some (.v (.bl true)) := by kernel_rfl
  have c1 : gSl (.lst [a, b]) none (some 1) = some (.f (.l [a])) := rfl
  have c2 : gSl (.lst [c, a]) none (some 1) = some (.f (.l [c])) := rfl
  have g1 : gIsX EXS EXS (.ex "NoLabel" [("at", a)]) = some (.v (.bl true)) := rfl
  have l1 : gLen2 (.lst (rowsE a b)) = some (.v (.int 10)) := rfl
  have l2 : gLen2 (.lst [a]) = some (.v (.int 1)) := rfl
  have l3 : gLen2 (.lst [.str "at"]) = some (.v (.int 1)) := rfl
  have r10 : (-1000000 : Int) ≤ 10 ∧ (10 : Int) ≤ 1000000 := ⟨by omega, by omega⟩
  have e13 := lc_all (i := 13) (f := sOp gEq true (sVar 13) (sVar 7)) [x0, some p.o, some (.v a), some (.v b), some (.v c), some (.v (.lst (rowsE a b))), some (.v (.lst (rowsE c a))), some (.v (.int 5)), some (.v (.tup [.ex "NoLabel" [("at", a)], .str "at"])), some (.v (.ex "NoLabel" [("at", a)])), some (.v (.str "at")), some (.l [a]), a12, none] iN (fun i : Nat => D.bl (decide ((i : Int) = 5))) (List.range 10) (fun _ => rfl) (fun x _ => by
    have q : gEq (iN x) (.int 5) = some (.v (.bl (decide ((x : Int) = 5)))) := gEq_int _ _
    simp only [y50, LW.argsOk, O.isV, O.d, List.all_cons, List.all_nil, Bool.and_true, Bool.true_and, Bool.and_self, List.length_cons, List.length_nil, List.map_cons, List.map_nil, List.cons_append, List.nil_append, List.replicate_succ, List.replicate_zero, Nat.reduceAdd, Nat.reduceSub, Nat.zero_add, and_self, and_true, true_and, if_true, ite_true, if_false, ite_false, List.getElem?_cons_zero, List.getElem?_cons_succ, List.set_cons_zero, List.set_cons_succ, List.set_nil, Bool.false_eq_true, reduceIte, y75, y69, y95, y87, y121, y133, y68, y82, y208, y165, y178, y158, y166, y105, y174, y94, y152, y196, y169, y140, y181, y160, y207, y209, y199, y147, y172, y148, y176, y189, y16, y67, y100, y99, y170, y141, y37, y60, y62, y138, y61, y153, y203, y180, y109, y42, y70, y206, y204, y80, y202, y188, y86, y164, y113, y107, y151, y134, y129, y11, y31, y29, y41, y26, y106, y13, y97, y30, y193, y110, y173, y142, y34, y8, y55, y15, y47, y9, y171, y93, y195, y163, y146, y131, y130, y64, y103, y81, y102, y157, y150, y205, y177, y96, y49, y63, y78, y128, y127, y74, y79, y76, y137, y65, y77, y22, y46, y23, y17, y38, y4, y5, y7, y90, y136, y135, y0, y25, y58, y1, y88, y18, y124, y122, y118, y116, y111, y123, y91, y72, y197, y112, y117, y194, y125, y114, y6, y126, y101, y73, y84, y104, y12, y10, y71, Option.getD_some, y198, y201, y144, y192, y200, y154, y187, y156, y183, y155, y179, y184, y35, y186, y48, y145, y143, y191, y149, y159, y167, y162, y83, y19, y24, y53, y51, y56, y36, y28, y21, y161, y108, y98, y57, y43, y3, y119, y2, y120, y33, y182, y185, y115, y40, y139, y27, y20, y59, y14, y32, y39, y54, y45, y89, y44, y66, y85, y132, y168, y175, y190, y52, y92, q])
  have hm : (List.range 10).map (fun i : Nat => D.bl (decide ((i : Int) = 5))) = [.bl false, .bl false, .bl false, .bl false, .bl false, .bl true, .bl false, .bl false, .bl false, .bl false] := rfl
  rw [hm] at e13
  have e13 : lcL [13] (gSet 13) sYes (sOp gEq true (sVar 13) (sVar 7)) (rangeD 0 10) [] [x0, some p.o, some (.v a), some (.v b), some (.v c), some (.v (.lst (rowsE a b))), some (.v (.lst (rowsE c a))), some (.v (.int 5)), some (.v (.tup [.ex "NoLabel" [("at", a)], .str "at"])), some (.v (.ex "NoLabel" [("at", a)])), some (.v (.str "at")), some (.l [a]), a12, none] = .ok [.bl false, .bl false, .bl false, .bl false, .bl false, .bl true, .bl false, .bl false, .bl false, .bl false] [x0, some p.o, some (.v a), some (.v b), some (.v c), some (.v (.lst (rowsE a b))), some (.v (.lst (rowsE c a))), some (.v (.int 5)), some (.v (.tup [.ex "NoLabel" [("at", a)], .str "at"])), some (.v (.ex "NoLabel" [("at", a)])), some (.v (.str "at")), some (.l [a]), a12, none] := e13
  have nb : gNe (.lst [.bl false, .bl false, .bl false, .bl false, .bl false, .bl true, .bl false, .bl false, .bl false, .bl false]) (.lst [.bl false, .bl false, .bl false, .bl false, .bl false, .bl true, .bl false, .bl false, .bl false, .bl false]) = some (.v (.bl false)) := by kernel_rfl
  have i1 : gIx2 (.lst (rowsE c a)) (.int 5) = some (.v (.tup [.ex "NoLabel" [("at", c)], .str "at"])) := rfl
  have i2 : gIx2 (.tup [.ex "NoLabel" [("at", c)], .str "at"]) (.int 0) = some (.v (.ex "NoLabel" [("at", c)])) := rfl
  have t1 := told_NoLabel (a := a)
  have t2 := told_NoLabel (a := c)
  generalize rowsE a b = R1 at *
  generalize rowsE c a = R2 at *
  unfold turn00
  rw [seq_nn s0]
  simp only [y50, LW.argsOk, O.isV, O.d, List.all_cons, List.all_nil, Bool.and_true, Bool.true_and, Bool.and_self, List.length_cons, List.length_nil, List.map_cons, List.map_nil, List.cons_append, List.nil_append, List.replicate_succ, List.replicate_zero, Nat.reduceAdd, Nat.reduceSub, Nat.zero_add, and_self, and_true, true_and, if_true, ite_true, if_false, ite_false, List.getElem?_cons_zero, List.getElem?_cons_succ, List.set_cons_zero, List.set_cons_succ, List.set_nil, Bool.false_eq_true, reduceIte, y75, y69, y95, y87, y121, y133, y68, y82, y208, y165, y178, y158, y166, y105, y174, y94, y152, y196, y169, y140, y181, y160, y207, y209, y199, y147, y172, y148, y176, y189, y16, y67, y100, y99, y170, y141, y37, y60, y62, y138, y61, y153, y203, y180, y109, y42, y70, y206, y204, y80, y202, y188, y86, y164, y113, y107, y151, y134, y129, y11, y31, y29, y41, y26, y106, y13, y97, y30, y193, y110, y173, y142, y34, y8, y55, y15, y47, y9, y171, y93, y195, y163, y146, y131, y130, y64, y103, y81, y102, y157, y150, y205, y177, y96, y49, y63, y78, y128, y127, y74, y79, y76, y137, y65, y77, y22, y46, y23, y17, y38, y4, y5, y7, y90, y136, y135, y0, y25, y58, y1, y88, y18, y124, y122, y118, y116, y111, y123, y91, y72, y197, y112, y117, y194, y125, y114, y6, y126, y101, y73, y84, y104, y12, y10, y71, Option.getD_some, y198, y201, y144, y192, y200, y154, y187, y156, y183, y155, y179, y184, y35, y186, y48, y145, y143, y191, y149, y159, y167, y162, y83, y19, y24, y53, y51, y56, y36, y28, y21, y161, y108, y98, y57, y43, y3, y119, y2, y120, y33, y182, y185, y115, y40, y139, y27, y20, y59, y14, y32, y39, y54, y45, y89, y44, y66, y85, y132, y168, y175, y190, y52, y92, e1, sp_at, l3, c1, g1, Bool.not_true, kinds_NoLabel, l1, r10, e13, nb, t1, h1, ne_strS, i1, i2, t2, l2, c2, h2]
theorem turn_NoLot (h1 : ∃ s : Str, gReprX (.lst []) = some (.v (.str s))) (h2 : ∃ s : Str, gReprX (.lst []) = some (.v (.str s))) : turn00 [x0, some p.o, some (.v a), some (.v b), some (.v c), some (.v (.lst (rowsE a b))), some (.v (.lst (rowsE c a))), some (.v (.int 6)), some (.v (.tup [.ex "NoLot" [], .str ""])), a9, a10, a11, a12, none] = .next [x0, some p.o, some (.v a), some (.v b), some (.v c), some (.v (.lst (rowsE a b))), some (.v (.lst (rowsE c a))), some (.v (.int 6)), some (.v (.tup [.ex "NoLot" [], .str ""])), some (.v (.ex "NoLot" [])), some (.v (.str "")), some (.l []), a12, none] := by
  obtain ⟨s1, h1⟩ := h1
  obtain ⟨s2, h2⟩ := h2
  have s0 : sAsg (gTupD 2 (gsCons (gSet 9) (gsCons (gSet 10) (gsNil)))) (sVar 8) [x0, some p.o, some (.v a), some (.v b), some (.v c), some (.v (.lst (rowsE a b))), some (.v (.lst (rowsE c a))), some (.v (.int 6)), some (.v (.tup [.ex "NoLot" [], .str ""])), a9, a10, a11, a12, none] = .next [x0, some p.o, some (.v a), some (.v b), some (.v c), some (.v (.lst (rowsE a b))), some (.v (.lst (rowsE c a))), some (.v (.int 6)), some (.v (.tup [.ex "NoLot" [], .str ""])), some (.v (.ex "NoLot" [])), some (.v (.str "")), a11, a12, none] := rfl
  have e1 : gNe (.str "") (.str "") = some (.v (.bl false)) := by kernel_rfl
  have c1 : gSl (.lst [a, b]) none (some 1) = some (.f (.l [a])) := rfl
  have c2 : gSl (.lst [c, a]) none (some 0) = some (.f (.l [])) := rfl
  have g1 : gIsX EXS EXS (.ex "NoLot" []) = some (.v (.bl true)) := rfl
  have l1 : gLen2 (.lst (rowsE a b)) = some (.v (.int 10)) := rfl
  have l2 : gLen2 (.lst []) = some (.v (.int 0)) := rfl
  have l3 : gLen2 (.lst [.str ""]) = some (.v (.int 1)) := rfl
  have r10 : (-1000000 : Int) ≤ 10 ∧ (10 : Int) ≤ 1000000 := ⟨by omega, by omega⟩
  have e13 := lc_all (i := 13) (f := sOp gEq true (sVar 13) (sVar 7)) [x0, some p.o, some (.v a), some (.v b), some (.v c), some (.v (.lst (rowsE a b))), some (.v (.lst (rowsE c a))), some (.v (.int 6)), some (.v (.tup [.ex "NoLot" [], .str ""])), some (.v (.ex "NoLot" [])), some (.v (.str "")), some (.l []), a12, none] iN (fun i : Nat => D.bl (decide ((i : Int) = 6))) (List.range 10) (fun _ => rfl) (fun x _ => by
    have q : gEq (iN x) (.int 6) = some (.v (.bl (decide ((x : Int) = 6)))) := gEq_int _ _
    simp only [y50, LW.argsOk, O.isV, O.d, List.all_cons, List.all_nil, Bool.and_true, Bool.true_and, Bool.and_self, List.length_cons, List.length_nil, List.map_cons, List.map_nil, List.cons_append, List.nil_append, List.replicate_succ, List.replicate_zero, Nat.reduceAdd, Nat.reduceSub, Nat.zero_add, and_self, and_true, true_and, if_true, ite_true, if_false, ite_false, List.getElem?_cons_zero, List.getElem?_cons_succ, List.set_cons_zero, List.set_cons_succ, List.set_nil, Bool.false_eq_true, reduceIte, y75, y69, y95, y87, y121, y133, y68, y82, y208, y165, y178, y158, y166, y105, y174, y94, y152, y196, y169, y140, y181, y160, y207, y209, y199, y147, y172, y148, y176, y189, y16, y67, y100, y99, y170, y141, y37, y60, y62, y138, y61, y153, y203, y180, y109, y42, y70, y206, y204, y80, y202, y188, y86, y164, y113, y107, y151, y134, y129, y11, y31, y29, y41, y26, y106, y13, y97, y30, y193, y110, y173, y142, y34, y8, y55, y15, y47, y9, y171, y93, y195, y163, y146, y131, y130, y64, y103, y81, y102, y157, y150, y205, y177, y96, y49, y63, y78, y128, y127, y74, y79, y76, y137, y65, y77, y22, y46, y23, y17, y38, y4, y5, y7, y90, y136, y135, y0, y25, y58, y1, y88, y18, y124, y122, y118, y116, y111, y123, y91, y72, y197, y112, y117, y194, y125, y114, y6, y126, y101, y73, y84, y104, y12, y10, y71, Option.getD_some, y198, y201, y144, y192, y200, y154, y187, y156, y183, y155, y179, y184, y35, y186, y48, y145, y143, y191, y149, y159, y167, y162, y83, y19, y24, y53, y51, y56, y36, y28, y21, y161, y108, y98, y57, y43, y3, y119, y2, y120, y33, y182, y185, y115, y40, y139, y27, y20, y59, y14, y32, y39, y54, y45, y89, y44, y66, y85, y132, y168, y175, y190, y52, y92, q])
  have hm : (List.range 10).map (fun i : Nat => D.bl (decide ((i : Int) = 6))) = [.bl false, .bl false, .bl false, .bl false, .bl false, .bl false, .bl true, .bl false, .bl false, .bl false] := rfl
  rw [hm] at e13
  have e13 : lcL [13] (gSet 13) sYes (sOp gEq true (sVar 13) (sVar 7)) (rangeD 0 10) [] [x0, some p.o, some (.v a), some (.v b), some (.v c), some (.v (.lst (rowsE a b))), some (.v (.lst (rowsE c a))), some (.v (.int 6)), some (.v (.tup [.ex "NoLot" [], .str ""])), some (.v (.ex "NoLot" [])), some (.v (.str "")), some (.l []), a12, none] = .ok [.bl false, .bl false, .bl false, .bl false, .bl false, .bl false, .bl true, .bl false, .bl false, .bl false] [x0, some p.o, some (.v a), some (.v b), some (.v c), some (.v (.lst (rowsE a b))), some (.v (.lst (rowsE c a))), some (.v (.int 6)), some (.v (.tup [.ex "NoLot" [], .str ""])), some (.v (.ex "NoLot" [])), some (.v (.str "")), some (.l []), a12, none] := e13
  have nb : gNe (.lst [.bl false, .bl false, .bl false, .bl false, .bl false, .bl false, .bl true, .bl false, .bl false, .bl false]) (.lst [.bl false, .bl false, .bl false, .bl false, .bl false, .bl false, .bl true, .bl false, .bl false, .bl false]) = some (.v (.bl false)) := by kernel_rfl
  have i1 : gIx2 (.lst (rowsE c a)) (.int 6) = some (.v (.tup [.ex "NoLot" [], .str ""])) := rfl
  have i2 : gIx2 (.tup [.ex "NoLot" [], .str ""]) (.int 0) = some (.v (.ex "NoLot" [])) := rfl
  have t1 := told_NoLot 
  have t2 := told_NoLot 
  generalize rowsE a b = R1 at *
  generalize rowsE c a = R2 at *
  unfold turn00
  rw [seq_nn s0]
  simp only [y50, LW.argsOk, O.isV, O.d, List.all_cons, List.all_nil, Bool.and_true, Bool.true_and, Bool.and_self, List.length_cons, List.length_nil, List.map_cons, List.map_nil, List.cons_append, List.nil_append, List.replicate_succ, List.replicate_zero, Nat.reduceAdd, Nat.reduceSub, Nat.zero_add, and_self, and_true, true_and, if_true, ite_true, if_false, ite_false, List.getElem?_cons_zero, List.getElem?_cons_succ, List.set_cons_zero, List.set_cons_succ, List.set_nil, Bool.false_eq_true, reduceIte, y75, y69, y95, y87, y121, y133, y68, y82, y208, y165, y178, y158, y166, y105, y174, y94, y152, y196, y169, y140, y181, y160, y207, y209, y199, y147, y172, y148, y176, y189, y16, y67, y100, y99, y170, y141, y37, y60, y62, y138, y61, y153, y203, y180, y109, y42, y70, y206, y204, y80, y202, y188, y86, y164, y113, y107, y151, y134, y129, y11, y31, y29, y41, y26, y106, y13, y97, y30, y193, y110, y173, y142, y34, y8, y55, y15, y47, y9, y171, y93, y195, y163, y146, y131, y130, y64, y103, y81, y102, y157, y150, y205, y177, y96, y49, y63, y78, y128, y127, y74, y79, y76, y137, y65, y77, y22, y46, y23, y17, y38, y4, y5, y7, y90, y136, y135, y0, y25, y58, y1, y88, y18, y124, y122, y118, y116, y111, y123, y91, y72, y197, y112, y117, y194, y125, y114, y6, y126, y101, y73, y84, y104, y12, y10, y71, Option.getD_some, y198, y201, y144, y192, y200, y154, y187, y156, y183, y155, y179, y184, y35, y186, y48, y145, y143, y191, y149, y159, y167, y162, y83, y19, y24, y53, y51, y56, y36, y28, y21, y161, y108, y98, y57, y43, y3, y119, y2, y120, y33, y182, y185, y115, y40, y139, y27, y20, y59, y14, y32, y39, y54, y45, y89, y44, y66, y85, y132, y168, y175, y190, y52, y92, e1, sp_e, l3, c1, g1, Bool.not_true, kinds_NoLot, l1, r10, e13, nb, t1, h1, ne_strS, i1, i2, t2, l2, c2, h2]
theorem turn_NoPlace (h1 : ∃ s : Str, gReprX (.lst []) = some (.v (.str s))) (h2 : ∃ s : Str, gReprX (.lst []) = some (.v (.str s))) : turn00 [x0, some p.o, some (.v a), some (.v b), some (.v c), some (.v (.lst (rowsE a b))), some (.v (.lst (rowsE c a))), some (.v (.int 7)), some (.v (.tup [.ex "NoPlace" [], .str ""])), a9, a10, a11, a12, none] = .next [x0, some p.o, some (.v a), some (.v b), some (.v c), some (.v (.lst (rowsE a b))), some (.v (.lst (rowsE c a))), some (.v (.int 7)), some (.v (.tup [.ex "NoPlace" [], .str ""])), some (.v (.ex "NoPlace" [])), some (.v (.str "")), some (.l []), a12, none] := by
  obtain ⟨s1, h1⟩ := h1
  obtain ⟨s2, h2⟩ := h2
  have s0 : sAsg (gTupD 2 (gsCons (gSet 9) (gsCons (gSet 10) (gsNil)))) (sVar 8) [x0, some p.o, some (.v a), some (.v b), some (.v c), some (.v (.lst (rowsE a b))), some (.v (.lst (rowsE c a))), some (.v (.int 7)), some (.v (.tup [.ex "NoPlace" [], .str ""])), a9, a10, a11, a12, none] = .next [x0, some p.o, some (.v a), some (.v b), some (.v c), some (.v (.lst (rowsE a b))), some (.v (.lst (rowsE c a))), some (.v (.int 7)), some (.v (.tup [.ex "NoPlace" [], .str ""])), some (.v (.ex "NoPlace" [])), some (.v (.str "")), a11, a12, none] := rfl
  have e1 : gNe (.str "") (.str "") = some (.v (.bl false)) := by kernel_rfl
  have c1 : gSl (.lst [a, b]) none (some 1) = some (.f (.l [a])) := rfl
  have c2 : gSl (.lst [c, a]) none (some 0) = some (.f (.l [])) := rfl
  have g1 : gIsX EXS EXS (.ex "NoPlace" []) = some (.v (.bl true)) := rfl
  have l1 : gLen2 (.lst (rowsE a b)) = some (.v (.int 10)) := rfl
  have l2 : gLen2 (.lst []) = some (.v (.int 0)) := rfl
  have l3 : gLen2 (.lst [.str ""]) = some (.v (.int 1)) := rfl
  have r10 : (-1000000 : Int) ≤ 10 ∧ (10 : Int) ≤ 1000000 := ⟨by omega, by omega⟩
  have e13 := lc_all (i := 13) (f := sOp gEq true (sVar 13) (sVar 7)) [x0, some p.o, some (.v a), some (.v b), some (.v c), some (.v (.lst (rowsE a b))), some (.v (.lst (rowsE c a))), some (.v (.int 7)), some (.v (.tup [.ex "NoPlace" [], .str ""])), some (.v (.ex "NoPlace" [])), some (.v (.str "")), some (.l []), a12, none] iN (fun i : Nat => D.bl (decide ((i : Int) = 7))) (List.range 10) (fun _ => rfl) (fun x _ => by
    have q : gEq (iN x) (.int 7) = some (.v (.bl (decide ((x : Int) = 7)))) := gEq_int _ _
    simp only [y50, LW.argsOk, O.isV, O.d, List.all_cons, List.all_nil, Bool.and_true, Bool.true_and, Bool.and_self, List.length_cons, List.length_nil, List.map_cons, List.map_nil, List.cons_append, List.nil_append, List.replicate_succ, List.replicate_zero, Nat.reduceAdd, Nat.reduceSub, Nat.zero_add, and_self, and_true, true_and, if_true, ite_true, if_false, ite_false, List.getElem?_cons_zero, List.getElem?_cons_succ, List.set_cons_zero, List.set_cons_succ, List.set_nil, Bool.false_eq_true, reduceIte, y75, y69, y95, y87, y121, y133, y68, y82, y208, y165, y178, y158, y166, y105, y174, y94, y152, y196, y169, y140, y181, y160, y207, y209, y199, y147, y172, y148, y176, y189, y16, y67, y100, y99, y170, y141, y37, y60, y62, y138, y61, y153, y203, y180, y109, y42, y70, y206, y204, y80, y202, y188, y86, y164, y113, y107, y151, y134, y129, y11, y31, y29, y41, y26, y106, y13, y97, y30, y193, y110, y173, y142, y34, y8, y55, y15, y47, y9, y171, y93, y195, y163, y146, y131, y130, y64, y103, y81, y102, y157, y150, y205, y177, y96, y49, y63, y78, y128, y127, y74, y79, y76, y137, y65, y77, y22, y46, y23, y17, y38, y4, y5, y7, y90, y136, y135, y0, y25, y58, y1, y88, y18, y124, y122, y118, y116, y111, y123, y91, y72, y197, y112, y117, y194, y125, y114, y6, y126, y101, y73, y84, y104, y12, y10, y71, Option.getD_some, y198, y201, y144, y192, y200, y154, y187, y156, y183, y155, y179, y184, y35, y186, y48, y145, y143, y191, y149, y159, y167, y162, y83, y19, y24, y53, y51, y56, y36, y28, y21, y161, y108, y98, y57, y43, y3, y119, y2, y120, y33, y182, y185, y115, y40, y139, y27, y20, y59, y14, y32, y39, y54, y45, y89, y44, y66, y85, y132, y168, y175, y190, y52, y92, q])
  have hm : (List.range 10).map (fun i : Nat => D.bl (decide ((i : Int) = 7))) = [.bl false, .bl false, .bl false, .bl false, .bl false, .bl false, .bl false, .bl true, .bl false, .bl false] := rfl
  rw [hm] at e13
  have e13 : lcL [13] (gSet 13) sYes (sOp gEq true (sVar 13) (sVar 7)) (rangeD 0 10) [] [x0, some p.o, some (.v a), some (.v b), some (.v c), some (.v (.lst (rowsE a b))), some (.v (.lst (rowsE c a))), some (.v (.int 7)), some (.v (.tup [.ex "NoPlace" [], .str ""])), some (.v (.ex "NoPlace" [])), some (.v (.str "")), some (.l []), a12, none] = .ok [.bl false, .bl false, .bl false, .bl false, .bl false, .bl false, .bl false, .bl true, .bl false, .bl false] [x0, some p.o, some (.v a), some (.v b), some (.v c), some (.v (.lst (rowsE a b))), some (.v (.lst (rowsE c a))), some (.v (.int 7)), some (.v (.tup [.ex "NoPlace" [], .str ""])), some (.v (.ex "NoPlace" [])), some (.v (.str "")), some (.l []), a12, none] := e13
  have nb : gNe (.lst [.bl false, .bl false, .bl false, .bl false, .bl false, .bl false, .bl false, .bl true, .bl false, .bl false]) (.lst [.bl false, .bl false, .bl false, .bl false, .bl false, .bl false, .bl false, .bl true, .bl false, .bl false]) = some (.v (.bl false)) := by kernel_rfl
  have i1 : gIx2 (.lst (rowsE c a)) (.int 7) = some (.v (.tup [.ex "NoPlace" [], .str ""])) := rfl
  have i2 : gIx2 (.tup [.ex "NoPlace" [], .str ""]) (.int 0) = some (.v (.ex "NoPlace" [])) := rfl
  have t1 := told_NoPlace 
  have t2 := told_NoPlace 
  generalize rowsE a b = R1 at *
  generalize rowsE c a = R2 at *
  unfold turn00
  rw [seq_nn s0]
  simp only [y50, LW.argsOk, O.isV, O.d, List.all_cons, List.all_nil, Bool.and_true, Bool.true_and, Bool.and_self, List.length_cons, List.length_nil, List.map_cons, List.map_nil, List.cons_append, List.nil_append, List.replicate_succ, List.replicate_zero, Nat.reduceAdd, Nat.reduceSub, Nat.zero_add, and_self, and_true, true_and, if_true, ite_true, if_false, ite_false, List.getElem?_cons_zero, List.getElem?_cons_succ, List.set_cons_zero, List.set_cons_succ, List.set_nil, Bool.false_eq_true, reduceIte, y75, y69, y95, y87, y121, y133, y68, y82, y208, y165, y178, y158, y166, y105, y174, y94, y152, y196, y169, y140, y181, y160, y207, y209, y199, y147, y172, y148, y176, y189, y16, y67, y100, y99, y170, y141, y37, y60, y62, y138, y61, y153, y203, y180, y109, y42, y70, y206, y204, y80, y202, y188, y86, y164, y113, y107, y151, y134, y129, y11, y31, y29, y41, y26, y106, y13, y97, y30, y193, y110, y173, y142, y34, y8, y55, y15, y47, y9, y171, y93, y195, y163, y146, y131, y130, y64, y103, y81, y102, y157, y150, y205, y177, y96, y49, y63, y78, y128, y127, y74, y79, y76, y137, y65, y77, y22, y46, y23, y17, y38, y4, y5, y7, y90, y136, y135, y0, y25, y58, y1, y88, y18, y124, y122, y118, y116, y111, y123, y91, y72, y197, y112, y117, y194, y125, y114, y6, y126, y101, y73, y84, y104, y12, y10, y71, Option.getD_some, y198, y201, y144, y192, y200, y154, y187, y156, y183, y155, y179, y184, y35, y186, y48, y145, y143, y191, y149, y159, y167, y162, y83, y19, y24, y53, y51, y56, y36, y28, y21, y161, y108, y98, y57, y43, y3, y119, y2, y120, y33, y182, y185, y115, y40, y139, y27, y20, y59, y14, y32, y39, y54, y45, y89, y44, y66, y85, y132, y168, y175, y190, y52, y92, e1, sp_e, l3, c1, g1, Bool.not_true, kinds_NoPlace, l1, r10, e13, nb, t1, h1, ne_strS, i1, i2, t2, l2, c2, h2]
theorem turn_NoQuestion (h1 : ∃ s : Str, gReprX (.lst []) = some (.v (.str s))) (h2 : ∃ s : Str, gReprX (.lst []) = some (.v (.str s))) : turn00 [x0, some p.o, some (.v a), some (.v b), some (.v c), some (.v (.lst (rowsE a b))), some (.v (.lst (rowsE c a))), some (.v (.int 8)), some (.v (.tup [.ex "NoQuestion" [], .str ""])), a9, a10, a11, a12, none] = .next [x0, some p.o, some (.v a), some (.v b), some (.v c), some (.v (.lst (rowsE a b))), some (.v (.lst (rowsE c a))), some (.v (.int 8)), some (.v (.tup [.ex "NoQuestion" [], .str ""])), some (.v (.ex "NoQuestion" [])), some (.v (.str "")), some (.l []), a12, none] := by
  obtain ⟨s1, h1⟩ := h1
  obtain ⟨s2, h2⟩ := h2
  have s0 : sAsg (gTupD 2 (gsCons (gSet 9) (gsCons (gSet 10) (gsNil)))) (sVar 8) [x0, some p.o, some (.v a), some (.v b), some (.v c), some (.v (.lst (rowsE a b))), some (.v (.lst (rowsE c a))), some (.v (.int 8)), some (.v (.tup [.ex "NoQuestion" [], .str ""])), a9, a10, a11, a12, none] = .next [x0, some p.o, some (.v a), some (.v b), some (.v c), some (.v (.lst (rowsE a b))), some (.v (.lst (rowsE c a))), some (.v (.int 8)), some (.v (.tup [.ex "NoQuestion" [], .str ""])), some (.v (.ex "NoQuestion" [])), some (.v (.str "")), a11, a12, none] := rfl
  have e1 : gNe (.str "") (.str "") = some (.v (.bl false)) := by kernel_rfl
  have c1 : gSl (.lst [a, b]) none (some 1) = some (.f (.l [a])) := rfl
  have c2 : gSl (.lst [c, a]) none (some 0) = some (.f (.l [])) := rfl
  have g1 : gIsX EXS EXS (.ex "NoQuestion" []) = some (.v (.bl true)) := rfl
  have l1 : gLen2 (.lst (rowsE a b)) = some (.v (.int 10)) := rfl
  have l2 : gLen2 (.lst []) = some (.v (.int 0)) := rfl
  have l3 : gLen2 (.lst [.str ""]) = some (.v (.int 1)) := rfl
  have r10 : (-1000000 : Int) ≤ 10 ∧ (10 : Int) ≤ 1000000 := ⟨by omega, by omega⟩
  have e13 := lc_all (i := 13) (f := sOp gEq true (sVar 13) (sVar 7)) [x0, some p.o, some (.v a), some (.v b), some (.v c), some (.v (.lst (rowsE a b))), some (.v (.lst (rowsE c a))), some (.v (.int 8)), some (.v (.tup [.ex "NoQuestion" [], .str ""])), some (.v (.ex "NoQuestion" [])), some (.v (.str "")), some (.l []), a12, none] iN (fun i : Nat => D.bl (decide ((i : Int) = 8))) (List.range 10) (fun _ => rfl) (fun x _ => by
    have q : gEq (iN x) (.int 8) = some (.v (.bl (decide ((x : Int) = 8)))) := gEq_int _ _
    simp only [y50, LW.argsOk, O.isV, O.d, List.all_cons, List.all_nil, Bool.and_true, Bool.true_and, Bool.and_self, List.length_cons, List.length_nil, List.map_cons, List.map_nil, List.cons_append, List.nil_append, List.replicate_succ, List.replicate_zero, Nat.reduceAdd, Nat.reduceSub, Nat.zero_add, and_self, and_true, true_and, if_true, ite_true, if_false, ite_false, List.getElem?_cons_zero, List.getElem?_cons_succ, List.set_cons_zero, List.set_cons_succ, List.set_nil, Bool.false_eq_true, reduceIte, y75, y69, y95, y87, y121, y133, y68, y82, y208, y165, y178, y158, y166, y105, y174, y94, y152, y196, y169, y140, y181, y160, y207, y209, y199, y147, y172, y148, y176, y189, y16, y67, y100, y99, y170, y141, y37, y60, y62, y138, y61, y153, y203, y180, y109, y42, y70, y206, y204, y80, y202, y188, y86, y164, y113, y107, y151, y134, y129, y11, y31, y29, y41, y26, y106, y13, y97, y30, y193, y110, y173, y142, y34, y8, y55, y15, y47, y9, y171, y93, y195, y163, y146, y131, y130, y64, y103, y81, y102, y157, y150, y205, y177, y96, y49, y63, y78, y128, y127, y74, y79, y76, y137, y65, y77, y22, y46, y23, y17, y38, y4, y5, y7, y90, y136, y135, y0, y25, y58, y1, y88, y18, y124, y122, y118, y116, y111, y123, y91, y72, y197, y112, y117, y194, y125, y114, y6, y126, y101, y73, y84, y104, y12, y10, y71, Option.getD_some, y198, y201, y144, y192, y200, y154, y187, y156, y183, y155, y179, y184, y35, y186, y48, y145, y143, y191, y149, y159, y167, y162, y83, y19, y24, y53, y51, y56, y36, y28, y21, y161, y108, y98, y57, y43, y3, y119, y2, y120, y33, y182, y185, y115, y40, y139, y27, y20, y59, y14, y32, y39, y54, y45, y89, y44, y66, y85, y132, y168, y175, y190, y52, y92, q])
  have hm : (List.range 10).map (fun i : Nat => D.bl (decide ((i : Int) = 8))) = [.bl false, .bl false, .bl false, .bl false, .bl false, .bl false, .bl false, .bl false, .bl true, .bl false] := rfl
  rw [hm] at e13
  have e13 : lcL [13] (gSet 13) sYes (sOp gEq true (sVar 13) (sVar 7)) (rangeD 0 10) [] [x0, some p.o, some (.v a), some (.v b), some (.v c), some (.v (.lst (rowsE a b))), some (.v (.lst (rowsE c a))), some (.v (.int 8)), some (.v (.tup [.ex "NoQuestion" [], .str ""])), some (.v (.ex "NoQuestion" [])), some (.v (.str "")), some (.l []), a12, none] = .ok [.bl false, .bl false, .bl false, .bl false, .bl false, .bl false, .bl false, .bl false, .bl true, .bl false] [x0, some p.o, some (.v a), some (.v b), some (.v c), some (.v (.lst (rowsE a b))), some (.v (.lst (rowsE c a))), some (.v (.int 8)), some (.v (.tup [.ex "NoQuestion" [], .str ""])), some (.v (.ex "NoQuestion" [])), some (.v (.str "")), some (.l []), a12, none] := e13
  have nb : gNe (.lst [.bl false, .bl false, .bl false, .bl false, .bl false, .bl false, .bl false, .bl false, .bl true, .bl false]) (.lst [.bl false, .bl false, .bl false, .bl false, .bl false, .bl false, .bl false, .bl false, .bl true, .bl false]) = some (.v (.bl false)) := by kernel_rfl
  have i1 : gIx2 (.lst (rowsE c a)) (.int 8) = some (.v (.tup [.ex "NoQuestion" [], .str ""])) := rfl
  have i2 : gIx2 (.tup [.ex "NoQuestion" [], .str ""]) (.int 0) = some (.v (.ex "NoQuestion" [])) := rfl
  have t1 := told_NoQuestion 
  have t2 := told_NoQuestion 
  generalize rowsE a b = R1 at *
  generalize rowsE c a = R2 at *
  unfold turn00
  rw [seq_nn s0]
  simp only [y50, LW.argsOk, O.isV, O.d, List.all_cons, List.all_nil, Bool.and_true, Bool.true_and, Bool.and_self, List.length_cons, List.length_nil, List.map_cons, List.map_nil, List.cons_append, List.nil_append, List.replicate_succ, List.replicate_zero, Nat.reduceAdd, Nat.reduceSub, Nat.zero_add, and_self, and_true, true_and, if_true, ite_true, if_false, ite_false, List.getElem?_cons_zero, List.getElem?_cons_succ, List.set_cons_zero, List.set_cons_succ, List.set_nil, Bool.false_eq_true, reduceIte, y75, y69, y95, y87, y121, y133, y68, y82, y208, y165, y178, y158, y166, y105, y174, y94, y152, y196, y169, y140, y181, y160, y207, y209, y199, y147, y172, y148, y176, y189, y16, y67, y100, y99, y170, y141, y37, y60, y62, y138, y61, y153, y203, y180, y109, y42, y70, y206, y204, y80, y202, y188, y86, y164, y113, y107, y151, y134, y129, y11, y31, y29, y41, y26, y106, y13, y97, y30, y193, y110, y173, y142, y34, y8, y55, y15, y47, y9, y171, y93, y195, y163, y146, y131, y130, y64, y103, y81, y102, y157, y150, y205, y177, y96, y49, y63, y78, y128, y127, y74, y79, y76, y137, y65, y77, y22, y46, y23, y17, y38, y4, y5, y7, y90, y136, y135, y0, y25, y58, y1, y88, y18, y124, y122, y118, y116, y111, y123, y91, y72, y197, y112, y117, y194, y125, y114, y6, y126, y101, y73, y84, y104, y12, y10, y71, Option.getD_some, y198, y201, y144, y192, y200, y154, y187, y156, y183, y155, y179, y184, y35, y186, y48, y145, y143, y191, y149, y159, y167, y162, y83, y19, y24, y53, y51, y56, y36, y28, y21, y161, y108, y98, y57, y43, y3, y119, y2, y120, y33, y182, y185, y115, y40, y139, y27, y20, y59, y14, y32, y39, y54, y45, y89, y44, y66, y85, y132, y168, y175, y190, y52, y92, e1, sp_e, l3, c1, g1, Bool.not_true, kinds_NoQuestion, l1, r10, e13, nb, t1, h1, ne_strS, i1, i2, t2, l2, c2, h2]
theorem turn_NothingDone (h1 : ∃ s : Str, gReprX (.lst []) = some (.v (.str s))) (h2 : ∃ s : Str, gReprX (.lst []) = some (.v (.str s))) : turn00 [x0, some p.o, some (.v a), some (.v b), some (.v c), some (.v (.lst (rowsE a b))), some (.v (.lst (rowsE c a))), some (.v (.int 9)), some (.v (.tup [.ex "NothingDone" [], .str ""])), a9, a10, a11, a12, none] = .next [x0, some p.o, some (.v a), some (.v b), some (.v c), some (.v (.lst (rowsE a b))), some (.v (.lst (rowsE c a))), some (.v (.int 9)), some (.v (.tup [.ex "NothingDone" [], .str ""])), some (.v (.ex "NothingDone" [])), some (.v (.str "")), some (.l []), a12, none] := by
  obtain ⟨s1, h1⟩ := h1
  obtain ⟨s2, h2⟩ := h2
  have s0 : sAsg (gTupD 2 (gsCons (gSet 9) (gsCons (gSet 10) (gsNil)))) (sVar 8) [x0, some p.o, some (.v a), some (.v b), some (.v c), some (.v (.lst (rowsE a b))), some (.v (.lst (rowsE c a))), some (.v (.int 9)), some (.v (.tup [.ex "NothingDone" [], .str ""])), a9, a10, a11, a12, none] = .next [x0, some p.o, some (.v a), some (.v b), some (.v c), some (.v (.lst (rowsE a b))), some (.v (.lst (rowsE c a))), some (.v (.int 9)), some (.v (.tup [.ex "NothingDone" [], .str ""])), some (.v (.ex "NothingDone" [])), some (.v (.str "")), a11, a12, none] := rfl
  have e1 : gNe (.str "") (.str "") = some (.v (.bl false)) := by kernel_rfl
  have c1 : gSl (.lst [a, b]) none (some 1) = some (.f (.l [a])) := rfl
  have c2 : gSl (.lst [c, a]) none (some 0) = some (.f (.l [])) := rfl
  have g1 : gIsX EXS EXS (.ex "NothingDone" []) = some (.v (.bl true)) := rfl
  have l1 : gLen2 (.lst (rowsE a b)) = some (.v (.int 10)) := rfl
  have l2 : gLen2 (.lst []) = some (.v (.int 0)) := rfl
  have l3 : gLen2 (.lst [.str ""]) = some (.v (.int 1)) := rfl
  have r10 : (-1000000 : Int) ≤ 10 ∧ (10 : Int) ≤ 1000000 := ⟨by omega, by omega⟩
  have e13 := lc_all (i := 13) (f := sOp gEq true (sVar 13) (sVar 7)) [x0, some p.o, some (.v a), some (.v b), some (.v c), some (.v (.lst (rowsE a b))), some (.v (.lst (rowsE c a))), some (.v (.int 9)), some (.v (.tup [.ex "NothingDone" [], .str ""])), some (.v (.ex "NothingDone" [])), some (.v (.str "")), some (.l []), a12, none] iN (fun i : Nat => D.bl (decide ((i : Int) = 9))) (List.range 10) (fun _ => rfl) (fun x _ => by
    have q : gEq (iN x) (.int 9) = some (.v (.bl (decide ((x : Int) = 9)))) := gEq_int _ _
    simp only [y50, LW.argsOk, O.isV, O.d, List.all_cons, List.all_nil, Bool.and_true, Bool.true_and, Bool.and_self, List.length_cons, List.length_nil, List.map_cons, List.map_nil, List.cons_append, List.nil_append, List.replicate_succ, List.replicate_zero, Nat.reduceAdd, Nat.reduceSub, Nat.zero_add, and_self, and_true, true_and, if_true, ite_true, if_false, ite_false, List.getElem?_cons_zero, List.getElem?_cons_succ, List.set_cons_zero, List.set_cons_succ, List.set_nil, Bool.false_eq_true, reduceIte, y75, y69, y95, y87, y121, y133, y68, y82, y208, y165, y178, y158, y166, y105, y174, y94, y152, y196, y169, y140, y181, y160, y207, y209, y199, y147, y172, y148, y176, y189, y16, y67, y100, y99, y170, y141, y37, y60, y62, y138, y61, y153, y203, y180, y109, y42, y70, y206, y204, y80, y202, y188, y86, y164, y113, y107, y151, y134, y129, y11, y31, y29, y41, y26, y106, y13, y97, y30, y193, y110, y173, y142, y34, y8, y55, y15, y47, y9, y171, y93, y195, y163, y146, y131, y130, y64, y103, y81, y102, y157, y150, y205, y177, y96, y49, y63, y78, y128, y127, y74, y79, y76, y137, y65, y77, y22, y46, y23, y17, y38, y4, y5, y7, y90, y136, y135, y0, y25, y58, y1, y88, y18, y124, y122, y118, y116, y111, y123, y91, y72, y197, y112, y117, y194, y125, y114, y6, y126, y101, y73, y84, y104, y12, y10, y71, Option.getD_some, y198, y201, y144, y192, y200, y154, y187, y156, y183, y155, y179, y184, y35, y186, y48, y145, y143, y191, y149, y159, y167, y162, y83, y19, y24, y53, y51, y56, y36, y28, y21, y161, y108, y98, y57, y43, y3, y119, y2, y120, y33, y182, y185, y115, y40, y139, y27, y20, y59, y14, y32, y39, y54, y45, y89, y44, y66, y85, y132, y168, y175, y190, y52, y92, q])
  have hm : (List.range 10).map (fun i : Nat => D.bl (decide ((i : Int) = 9))) = [.bl false, .bl false, .bl false, .bl false, .bl false, .bl false, .bl false, .bl false, .bl false, .bl true] := rfl
  rw [hm] at e13
  have e13 : lcL [13] (gSet 13) sYes (sOp gEq true (sVar 13) (sVar 7)) (rangeD 0 10) [] [x0, some p.o, some (.v a), some (.v b), some (.v c), some (.v (.lst (rowsE a b))), some (.v (.lst (rowsE c a))), some (.v (.int 9)), some (.v (.tup [.ex "NothingDone" [], .str ""])), some (.v (.ex "NothingDone" [])), some (.v (.str "")), some (.l []), a12, none] = .ok [.bl false, .bl false, .bl false, .bl false, .bl false, .bl false, .bl false, .bl false, .bl false, .bl true] [x0, some p.o, some (.v a), some (.v b), some (.v c), some (.v (.lst (rowsE a b))), some (.v (.lst (rowsE c a))), some (.v (.int 9)), some (.v (.tup [.ex "NothingDone" [], .str ""])), some (.v (.ex "NothingDone" [])), some (.v (.str "")), some (.l []), a12, none] := e13
  have nb : gNe (.lst [.bl false, .bl false, .bl false, .bl false, .bl false, .bl false, .bl false, .bl false, .bl false, .bl true]) (.lst [.bl false, .bl false, .bl false, .bl false, .bl false, .bl false, .bl false, .bl false, .bl false, .bl true]) = some (.v (.bl false)) := by kernel_rfl
  have i1 : gIx2 (.lst (rowsE c a)) (.int 9) = some (.v (.tup [.ex "NothingDone" [], .str ""])) := rfl
  have i2 : gIx2 (.tup [.ex "NothingDone" [], .str ""]) (.int 0) = some (.v (.ex "NothingDone" [])) := rfl
  have t1 := told_NothingDone 
  have t2 := told_NothingDone 
  generalize rowsE a b = R1 at *
  generalize rowsE c a = R2 at *
  unfold turn00
  rw [seq_nn s0]
  simp only [y50, LW.argsOk, O.isV, O.d, List.all_cons, List.all_nil, Bool.and_true, Bool.true_and, Bool.and_self, List.length_cons, List.length_nil, List.map_cons, List.map_nil, List.cons_append, List.nil_append, List.replicate_succ, List.replicate_zero, Nat.reduceAdd, Nat.reduceSub, Nat.zero_add, and_self, and_true, true_and, if_true, ite_true, if_false, ite_false, List.getElem?_cons_zero, List.getElem?_cons_succ, List.set_cons_zero, List.set_cons_succ, List.set_nil, Bool.false_eq_true, reduceIte, y75, y69, y95, y87, y121, y133, y68, y82, y208, y165, y178, y158, y166, y105, y174, y94, y152, y196, y169, y140, y181, y160, y207, y209, y199, y147, y172, y148, y176, y189, y16, y67, y100, y99, y170, y141, y37, y60, y62, y138, y61, y153, y203, y180, y109, y42, y70, y206, y204, y80, y202, y188, y86, y164, y113, y107, y151, y134, y129, y11, y31, y29, y41, y26, y106, y13, y97, y30, y193, y110, y173, y142, y34, y8, y55, y15, y47, y9, y171, y93, y195, y163, y146, y131, y130, y64, y103, y81, y102, y157, y150, y205, y177, y96, y49, y63, y78, y128, y127, y74, y79, y76, y137, y65, y77, y22, y46, y23, y17, y38, y4, y5, y7, y90, y136, y135, y0, y25, y58, y1, y88, y18, y124, y122, y118, y116, y111, y123, y91, y72, y197, y112, y117, y194, y125, y114, y6, y126, y101, y73, y84, y104, y12, y10, y71, Option.getD_some, y198, y201, y144, y192, y200, y154, y187, y156, y183, y155, y179, y184, y35, y186, y48, y145, y143, y191, y149, y159, y167, y162, y83, y19, y24, y53, y51, y56, y36, y28, y21, y161, y108, y98, y57, y43, y3, y119, y2, y120, y33, y182, y185, y115, y40, y139, y27, y20, y59, y14, y32, y39, y54, y45, y89, y44, y66, y85, y132, y168, y175, y190, y52, y92, e1, sp_e, l3, c1, g1, Bool.not_true, kinds_NothingDone, l1, r10, e13, nb, t1, h1, ne_strS, i1, i2, t2, l2, c2, h2]
end
def lA0k : LW.Env → LW.Flow := sSet 1 (sCall (sem__law_pot) (sCons (sVar 0) (sNil)))
def lA1k : LW.Env → LW.Flow := sPar3 2 3 4 (sCons (sCallM (sem__law_thing) 1 (sNil)) (sCons (sCallM (sem__law_thing) 1 (sNil)) (sCons (sCallM (sem__law_thing) 1 (sNil)) (sNil))))
def lA2k : LW.Env → LW.Flow := sPar 5 6 (sCons (sCall (sem__law_rows) (sCons (sVar 2) (sCons (sVar 3) (sNil)))) (sCons (sCall (sem__law_rows) (sCons (sVar 4) (sCons (sVar 2) (sNil)))) (sNil)))
def lA4k : LW.Env → LW.Flow := sSet 12 (sEx1 "LightError" (sC (.str "x")))
def lA5k : LW.Env → LW.Flow := sRet (sAnd (sC1 (gIsX EXS EXS) (sVar 12)) (sOp gNotIn2 false (sC (.bl true)) (sCall (sem__law_kinds) (sCons (sFrz 12) (sNil)))))
section
variable {a b c : D} {p : Pot} {x0 : Option O}
theorem loop00 (ha : a ∈ THINGS) (hb : b ∈ THINGS) (hc : c ∈ THINGS) (a12 : Option O) : forL tg00 turn00 (enumD (rowsE a b)) [x0, some p.o, some (.v a), some (.v b), some (.v c), some (.v (.lst (rowsE a b))), some (.v (.lst (rowsE c a))), none, none, none, none, none, a12, none] = .next [x0, some p.o, some (.v a), some (.v b), some (.v c), some (.v (.lst (rowsE a b))), some (.v (.lst (rowsE c a))), some (.v (.int 9)), some (.v (.tup [.ex "NothingDone" [], .str ""])), some (.v (.ex "NothingDone" [])), some (.v (.str "")), some (.l []), a12, none] := by
  have ch := chk_all
  rw [Bool.and_eq_true, List.all_eq_true, List.all_eq_true] at ch
  have two : ∀ x ∈ THINGS, ∀ y ∈ THINGS, ∃ s : Str, gReprX (.lst [x, y]) = some (.v (.str s)) := fun x hx y hy => chk_ok (List.all_eq_true.mp (ch.1 x hx) y hy)
  have one : ∀ x ∈ THINGS, ∃ s : Str, gReprX (.lst [x]) = some (.v (.str s)) := fun x hx => chk_ok (ch.2 x hx)
  have none' : ∃ s : Str, gReprX (.lst []) = some (.v (.str s)) := chk_ok chk_nil
  have hen : enumD (rowsE a b) = [.tup [.int 0, .tup [.ex "BadNumber" [("value", a)], .str "value"]], .tup [.int 1, .tup [.ex "BadText" [("what", b), ("line", a)], .str "line what"]], .tup [.int 2, .tup [.ex "BadWeb" [("what", a)], .str "what"]], .tup [.int 3, .tup [.ex "NoDeed" [("at", a)], .str "at"]], .tup [.int 4, .tup [.ex "NoFires" [("at", a)], .str "at"]], .tup [.int 5, .tup [.ex "NoLabel" [("at", a)], .str "at"]], .tup [.int 6, .tup [.ex "NoLot" [], .str ""]], .tup [.int 7, .tup [.ex "NoPlace" [], .str ""]], .tup [.int 8, .tup [.ex "NoQuestion" [], .str ""]], .tup [.int 9, .tup [.ex "NothingDone" [], .str ""]]] := rfl
  rw [hen]
  rw [forL_step (by rfl) (turn_BadNumber (one a ha) (one c hc))]
  rw [forL_step (by rfl) (turn_BadText (two a ha b hb) (two c hc a ha))]
  rw [forL_step (by rfl) (turn_BadWeb (one a ha) (one c hc))]
  rw [forL_step (by rfl) (turn_NoDeed (one a ha) (one c hc))]
  rw [forL_step (by rfl) (turn_NoFires (one a ha) (one c hc))]
  rw [forL_step (by rfl) (turn_NoLabel (one a ha) (one c hc))]
  rw [forL_step (by rfl) (turn_NoLot none' none')]
  rw [forL_step (by rfl) (turn_NoPlace none' none')]
  rw [forL_step (by rfl) (turn_NoQuestion none' none')]
  rw [forL_step (by rfl) (turn_NothingDone none' none')]
  rfl
end
theorem keeps00 : LawKeeps sem_law_k00 := fun ns hl hb => by
  obtain ⟨p0, e0⟩ := pot ns hl
  obtain ⟨a, p1, ha, e1⟩ := thing p0
  obtain ⟨b, p2, hb, e2⟩ := thing p1
  obtain ⟨c, p3, hc, e3⟩ := thing p2
  have s0 : lA0k [some (.v (.lst (ns.map .int))), none, none, none, none, none, none, none, none, none, none, none, none, none] = .next [some (.v (.lst (ns.map .int))), some p0.o, none, none, none, none, none, none, none, none, none, none, none, none] := by
    unfold lA0k
    simp only [y50, LW.argsOk, O.isV, O.d, List.all_cons, List.all_nil, Bool.and_true, Bool.true_and, Bool.and_self, List.length_cons, List.length_nil, List.map_cons, List.map_nil, List.cons_append, List.nil_append, List.replicate_succ, List.replicate_zero, Nat.reduceAdd, Nat.reduceSub, Nat.zero_add, and_self, and_true, true_and, if_true, ite_true, if_false, ite_false, List.getElem?_cons_zero, List.getElem?_cons_succ, List.set_cons_zero, List.set_cons_succ, List.set_nil, Bool.false_eq_true, reduceIte, y75, y69, y95, y87, y121, y133, y68, y82, y208, y165, y178, y158, y166, y105, y174, y94, y152, y196, y169, y140, y181, y160, y207, y209, y199, y147, y172, y148, y176, y189, y16, y67, y100, y99, y170, y141, y37, y60, y62, y138, y61, y153, y203, y180, y109, y42, y70, y206, y204, y80, y202, y188, y86, y164, y113, y107, y151, y134, y129, y11, y31, y29, y41, y26, y106, y13, y97, y30, y193, y110, y173, y142, y34, y8, y55, y15, y47, y9, y171, y93, y195, y163, y146, y131, y130, y64, y103, y81, y102, y157, y150, y205, y177, y96, y49, y63, y78, y128, y127, y74, y79, y76, y137, y65, y77, y22, y46, y23, y17, y38, y4, y5, y7, y90, y136, y135, y0, y25, y58, y1, y88, y18, y124, y122, y118, y116, y111, y123, y91, y72, y197, y112, y117, y194, y125, y114, y6, y126, y101, y73, y84, y104, y12, y10, y71, Option.getD_some, y198, y201, y144, y192, y200, y154, y187, y156, y183, y155, y179, y184, y35, y186, y48, y145, y143, y191, y149, y159, y167, y162, y83, y19, y24, y53, y51, y56, y36, y28, y21, y161, y108, y98, y57, y43, y3, y119, y2, y120, y33, y182, y185, y115, y40, y139, y27, y20, y59, y14, y32, y39, y54, y45, y89, y44, y66, y85, y132, y168, y175, y190, y52, y92, e0]
  have s1 : lA1k [some (.v (.lst (ns.map .int))), some p0.o, none, none, none, none, none, none, none, none, none, none, none, none] = .next [some (.v (.lst (ns.map .int))), some p3.o, some (.v a), some (.v b), some (.v c), none, none, none, none, none, none, none, none, none] := by
    unfold lA1k
    rw [sPar3_w]
    simp only [y50, LW.argsOk, O.isV, O.d, List.all_cons, List.all_nil, Bool.and_true, Bool.true_and, Bool.and_self, List.length_cons, List.length_nil, List.map_cons, List.map_nil, List.cons_append, List.nil_append, List.replicate_succ, List.replicate_zero, Nat.reduceAdd, Nat.reduceSub, Nat.zero_add, and_self, and_true, true_and, if_true, ite_true, if_false, ite_false, List.getElem?_cons_zero, List.getElem?_cons_succ, List.set_cons_zero, List.set_cons_succ, List.set_nil, Bool.false_eq_true, reduceIte, y75, y69, y95, y87, y121, y133, y68, y82, y208, y165, y178, y158, y166, y105, y174, y94, y152, y196, y169, y140, y181, y160, y207, y209, y199, y147, y172, y148, y176, y189, y16, y67, y100, y99, y170, y141, y37, y60, y62, y138, y61, y153, y203, y180, y109, y42, y70, y206, y204, y80, y202, y188, y86, y164, y113, y107, y151, y134, y129, y11, y31, y29, y41, y26, y106, y13, y97, y30, y193, y110, y173, y142, y34, y8, y55, y15, y47, y9, y171, y93, y195, y163, y146, y131, y130, y64, y103, y81, y102, y157, y150, y205, y177, y96, y49, y63, y78, y128, y127, y74, y79, y76, y137, y65, y77, y22, y46, y23, y17, y38, y4, y5, y7, y90, y136, y135, y0, y25, y58, y1, y88, y18, y124, y122, y118, y116, y111, y123, y91, y72, y197, y112, y117, y194, y125, y114, y6, y126, y101, y73, y84, y104, y12, y10, y71, Option.getD_some, y198, y201, y144, y192, y200, y154, y187, y156, y183, y155, y179, y184, y35, y186, y48, y145, y143, y191, y149, y159, y167, y162, y83, y19, y24, y53, y51, y56, y36, y28, y21, y161, y108, y98, y57, y43, y3, y119, y2, y120, y33, y182, y185, y115, y40, y139, y27, y20, y59, y14, y32, y39, y54, y45, y89, y44, y66, y85, y132, y168, y175, y190, y52, y92, e1, e2, e3, par3F_ok]
  have s2 : lA2k [some (.v (.lst (ns.map .int))), some p3.o, some (.v a), some (.v b), some (.v c), none, none, none, none, none, none, none, none, none] = .next [some (.v (.lst (ns.map .int))), some p3.o, some (.v a), some (.v b), some (.v c), some (.v (.lst (rowsE a b))), some (.v (.lst (rowsE c a))), none, none, none, none, none, none, none] := by
    unfold lA2k
    simp only [y50, LW.argsOk, O.isV, O.d, List.all_cons, List.all_nil, Bool.and_true, Bool.true_and, Bool.and_self, List.length_cons, List.length_nil, List.map_cons, List.map_nil, List.cons_append, List.nil_append, List.replicate_succ, List.replicate_zero, Nat.reduceAdd, Nat.reduceSub, Nat.zero_add, and_self, and_true, true_and, if_true, ite_true, if_false, ite_false, List.getElem?_cons_zero, List.getElem?_cons_succ, List.set_cons_zero, List.set_cons_succ, List.set_nil, Bool.false_eq_true, reduceIte, y75, y69, y95, y87, y121, y133, y68, y82, y208, y165, y178, y158, y166, y105, y174, y94, y152, y196, y169, y140, y181, y160, y207, y209, y199, y147, y172, y148, y176, y189, y16, y67, y100, y99, y170, y141, y37, y60, y62, y138, y61, y153, y203, y180, y109, y42, y70, y206, y204, y80, y202, y188, y86, y164, y113, y107, y151, y134, y129, y11, y31, y29, y41, y26, y106, y13, y97, y30, y193, y110, y173, y142, y34, y8, y55, y15, y47, y9, y171, y93, y195, y163, y146, y131, y130, y64, y103, y81, y102, y157, y150, y205, y177, y96, y49, y63, y78, y128, y127, y74, y79, y76, y137, y65, y77, y22, y46, y23, y17, y38, y4, y5, y7, y90, y136, y135, y0, y25, y58, y1, y88, y18, y124, y122, y118, y116, y111, y123, y91, y72, y197, y112, y117, y194, y125, y114, y6, y126, y101, y73, y84, y104, y12, y10, y71, Option.getD_some, y198, y201, y144, y192, y200, y154, y187, y156, y183, y155, y179, y184, y35, y186, y48, y145, y143, y191, y149, y159, y167, y162, y83, y19, y24, y53, y51, y56, y36, y28, y21, y161, y108, y98, y57, y43, y3, y119, y2, y120, y33, y182, y185, y115, y40, y139, y27, y20, y59, y14, y32, y39, y54, y45, y89, y44, y66, y85, y132, y168, y175, y190, y52, y92, rows_E]
  have e4 := loop00 (p := p3) (x0 := some (.v (.lst (ns.map .int)))) ha hb hc none
  have hen : (rowsE a b).length ≤ sizeLine := Nat.le_trans (show 10 ≤ 100000 by omega) line_big
  have s3 : (sFor (hEnum (sVar 5)) tg00 turn00) [some (.v (.lst (ns.map .int))), some p3.o, some (.v a), some (.v b), some (.v c), some (.v (.lst (rowsE a b))), some (.v (.lst (rowsE c a))), none, none, none, none, none, none, none] = .next [some (.v (.lst (ns.map .int))), some p3.o, some (.v a), some (.v b), some (.v c), some (.v (.lst (rowsE a b))), some (.v (.lst (rowsE c a))), some (.v (.int 9)), some (.v (.tup [.ex "NothingDone" [], .str ""])), some (.v (.ex "NothingDone" [])), some (.v (.str "")), some (.l []), none, none] := by
    generalize rowsE a b = R1 at *
    generalize rowsE c a = R2 at *
    simp only [y50, LW.argsOk, O.isV, O.d, List.all_cons, List.all_nil, Bool.and_true, Bool.true_and, Bool.and_self, List.length_cons, List.length_nil, List.map_cons, List.map_nil, List.cons_append, List.nil_append, List.replicate_succ, List.replicate_zero, Nat.reduceAdd, Nat.reduceSub, Nat.zero_add, and_self, and_true, true_and, if_true, ite_true, if_false, ite_false, List.getElem?_cons_zero, List.getElem?_cons_succ, List.set_cons_zero, List.set_cons_succ, List.set_nil, Bool.false_eq_true, reduceIte, y75, y69, y95, y87, y121, y133, y68, y82, y208, y165, y178, y158, y166, y105, y174, y94, y152, y196, y169, y140, y181, y160, y207, y209, y199, y147, y172, y148, y176, y189, y16, y67, y100, y99, y170, y141, y37, y60, y62, y138, y61, y153, y203, y180, y109, y42, y70, y206, y204, y80, y202, y188, y86, y164, y113, y107, y151, y134, y129, y11, y31, y29, y41, y26, y106, y13, y97, y30, y193, y110, y173, y142, y34, y8, y55, y15, y47, y9, y171, y93, y195, y163, y146, y131, y130, y64, y103, y81, y102, y157, y150, y205, y177, y96, y49, y63, y78, y128, y127, y74, y79, y76, y137, y65, y77, y22, y46, y23, y17, y38, y4, y5, y7, y90, y136, y135, y0, y25, y58, y1, y88, y18, y124, y122, y118, y116, y111, y123, y91, y72, y197, y112, y117, y194, y125, y114, y6, y126, y101, y73, y84, y104, y12, y10, y71, Option.getD_some, y198, y201, y144, y192, y200, y154, y187, y156, y183, y155, y179, y184, y35, y186, y48, y145, y143, y191, y149, y159, y167, y162, y83, y19, y24, y53, y51, y56, y36, y28, y21, y161, y108, y98, y57, y43, y3, y119, y2, y120, y33, y182, y185, y115, y40, y139, y27, y20, y59, y14, y32, y39, y54, y45, y89, y44, y66, y85, y132, y168, y175, y190, y52, y92, hen, e4]
  have s4 : lA4k [some (.v (.lst (ns.map .int))), some p3.o, some (.v a), some (.v b), some (.v c), some (.v (.lst (rowsE a b))), some (.v (.lst (rowsE c a))), some (.v (.int 9)), some (.v (.tup [.ex "NothingDone" [], .str ""])), some (.v (.ex "NothingDone" [])), some (.v (.str "")), some (.l []), none, none] = .next [some (.v (.lst (ns.map .int))), some p3.o, some (.v a), some (.v b), some (.v c), some (.v (.lst (rowsE a b))), some (.v (.lst (rowsE c a))), some (.v (.int 9)), some (.v (.tup [.ex "NothingDone" [], .str ""])), some (.v (.ex "NothingDone" [])), some (.v (.str "")), some (.l []), some (.v (.ex "LightError" [])), none] := by
    have x : ∀ ρ : LW.Env, sEx1 "LightError" (sC (.str "x")) ρ = .ok (.v (.ex "LightError" [])) ρ := fun _ => rfl
    unfold lA4k
    simp only [y50, LW.argsOk, O.isV, O.d, List.all_cons, List.all_nil, Bool.and_true, Bool.true_and, Bool.and_self, List.length_cons, List.length_nil, List.map_cons, List.map_nil, List.cons_append, List.nil_append, List.replicate_succ, List.replicate_zero, Nat.reduceAdd, Nat.reduceSub, Nat.zero_add, and_self, and_true, true_and, if_true, ite_true, if_false, ite_false, List.getElem?_cons_zero, List.getElem?_cons_succ, List.set_cons_zero, List.set_cons_succ, List.set_nil, Bool.false_eq_true, reduceIte, y75, y69, y95, y87, y121, y133, y68, y82, y208, y165, y178, y158, y166, y105, y174, y94, y152, y196, y169, y140, y181, y160, y207, y209, y199, y147, y172, y148, y176, y189, y16, y67, y100, y99, y170, y141, y37, y60, y62, y138, y61, y153, y203, y180, y109, y42, y70, y206, y204, y80, y202, y188, y86, y164, y113, y107, y151, y134, y129, y11, y31, y29, y41, y26, y106, y13, y97, y30, y193, y110, y173, y142, y34, y8, y55, y15, y47, y9, y171, y93, y195, y163, y146, y131, y130, y64, y103, y81, y102, y157, y150, y205, y177, y96, y49, y63, y78, y128, y127, y74, y79, y76, y137, y65, y77, y22, y46, y23, y17, y38, y4, y5, y7, y90, y136, y135, y0, y25, y58, y1, y88, y18, y124, y122, y118, y116, y111, y123, y91, y72, y197, y112, y117, y194, y125, y114, y6, y126, y101, y73, y84, y104, y12, y10, y71, Option.getD_some, y198, y201, y144, y192, y200, y154, y187, y156, y183, y155, y179, y184, y35, y186, y48, y145, y143, y191, y149, y159, y167, y162, y83, y19, y24, y53, y51, y56, y36, y28, y21, y161, y108, y98, y57, y43, y3, y119, y2, y120, y33, y182, y185, y115, y40, y139, y27, y20, y59, y14, y32, y39, y54, y45, y89, y44, y66, y85, y132, y168, y175, y190, y52, y92, x]
  have s5 : lA5k [some (.v (.lst (ns.map .int))), some p3.o, some (.v a), some (.v b), some (.v c), some (.v (.lst (rowsE a b))), some (.v (.lst (rowsE c a))), some (.v (.int 9)), some (.v (.tup [.ex "NothingDone" [], .str ""])), some (.v (.ex "NothingDone" [])), some (.v (.str "")), some (.l []), some (.v (.ex "LightError" [])), none] = .ret (.v (.bl true)) [some (.v (.lst (ns.map .int))), some p3.o, some (.v a), some (.v b), some (.v c), some (.v (.lst (rowsE a b))), some (.v (.lst (rowsE c a))), some (.v (.int 9)), some (.v (.tup [.ex "NothingDone" [], .str ""])), some (.v (.ex "NothingDone" [])), some (.v (.str "")), some (.l []), some (.v (.ex "LightError" [])), none] := by
    have g : gIsX EXS EXS (.ex "LightError" []) = some (.v (.bl true)) := rfl
    have q : gNotIn2 (.bl true) (.lst [.bl false, .bl false, .bl false, .bl false, .bl false, .bl false, .bl false, .bl false, .bl false, .bl false]) = some (.v (.bl true)) := by kernel_rfl
    unfold lA5k
    simp only [y50, LW.argsOk, O.isV, O.d, List.all_cons, List.all_nil, Bool.and_true, Bool.true_and, Bool.and_self, List.length_cons, List.length_nil, List.map_cons, List.map_nil, List.cons_append, List.nil_append, List.replicate_succ, List.replicate_zero, Nat.reduceAdd, Nat.reduceSub, Nat.zero_add, and_self, and_true, true_and, if_true, ite_true, if_false, ite_false, List.getElem?_cons_zero, List.getElem?_cons_succ, List.set_cons_zero, List.set_cons_succ, List.set_nil, Bool.false_eq_true, reduceIte, y75, y69, y95, y87, y121, y133, y68, y82, y208, y165, y178, y158, y166, y105, y174, y94, y152, y196, y169, y140, y181, y160, y207, y209, y199, y147, y172, y148, y176, y189, y16, y67, y100, y99, y170, y141, y37, y60, y62, y138, y61, y153, y203, y180, y109, y42, y70, y206, y204, y80, y202, y188, y86, y164, y113, y107, y151, y134, y129, y11, y31, y29, y41, y26, y106, y13, y97, y30, y193, y110, y173, y142, y34, y8, y55, y15, y47, y9, y171, y93, y195, y163, y146, y131, y130, y64, y103, y81, y102, y157, y150, y205, y177, y96, y49, y63, y78, y128, y127, y74, y79, y76, y137, y65, y77, y22, y46, y23, y17, y38, y4, y5, y7, y90, y136, y135, y0, y25, y58, y1, y88, y18, y124, y122, y118, y116, y111, y123, y91, y72, y197, y112, y117, y194, y125, y114, y6, y126, y101, y73, y84, y104, y12, y10, y71, Option.getD_some, y198, y201, y144, y192, y200, y154, y187, y156, y183, y155, y179, y184, y35, y186, y48, y145, y143, y191, y149, y159, y167, y162, y83, y19, y24, y53, y51, y56, y36, y28, y21, y161, y108, y98, y57, y43, y3, y119, y2, y120, y33, y182, y185, y115, y40, y139, y27, y20, y59, y14, y32, y39, y54, y45, y89, y44, y66, y85, y132, y168, y175, y190, y52, y92, g, kinds_LightError, q]
  have st : sem_law_k00 [.v (.lst (ns.map .int))] = endF false [.v (.lst (ns.map .int))] ((sSeq lA0k (sSeq lA1k (sSeq lA2k (sSeq (sFor (hEnum (sVar 5)) tg00 turn00) (sSeq lA4k lA5k))))) [some (.v (.lst (ns.map .int))), none, none, none, none, none, none, none, none, none, none, none, none, none]) := rfl
  refine ⟨[.v (.lst (ns.map .int))], ?_⟩
  rw [st, seq_nn s0, seq_nn s1, seq_nn s2, seq_nn s3, seq_nn s4, s5]
  rfl
end SM

namespace K00
open PySem PySem.Spec PyProof.Rows L2 LW SM
def topS (i : Nat) : Stmt := PySem.Challenge.pw_litwebs_k00_errors_alone.main.body.getD i (.Pass ⟨0, 0, 0, 0⟩)
structure Adr where
  f__law_draw : Addr
  d__law_draw : FuncData
  f__law_kinds : Addr
  d__law_kinds : FuncData
  f__law_pick : Addr
  d__law_pick : FuncData
  f__law_pot : Addr
  d__law_pot : FuncData
  f__law_rows : Addr
  d__law_rows : FuncData
  f__law_thing : Addr
  d__law_thing : FuncData
  f__law_told_of : Addr
  d__law_told_of : FuncData
  f_law : Addr
  d_law : FuncData
  C_BadNumber : Addr
  f_BadNumber___init__ : Addr
  d_BadNumber___init__ : FuncData
  C_BadText : Addr
  f_BadText___init__ : Addr
  d_BadText___init__ : FuncData
  C_BadWeb : Addr
  f_BadWeb___init__ : Addr
  d_BadWeb___init__ : FuncData
  C_NoDeed : Addr
  f_NoDeed___init__ : Addr
  d_NoDeed___init__ : FuncData
  C_NoFires : Addr
  f_NoFires___init__ : Addr
  d_NoFires___init__ : FuncData
  C_NoLabel : Addr
  f_NoLabel___init__ : Addr
  d_NoLabel___init__ : FuncData
  C_NoLot : Addr
  f_NoLot___init__ : Addr
  d_NoLot___init__ : FuncData
  C_NoPlace : Addr
  f_NoPlace___init__ : Addr
  d_NoPlace___init__ : FuncData
  C_NoQuestion : Addr
  f_NoQuestion___init__ : Addr
  d_NoQuestion___init__ : FuncData
  C_NothingDone : Addr
  f_NothingDone___init__ : Addr
  d_NothingDone___init__ : FuncData
  C_LightError : Addr
structure Top (A : Adr) (P : Program) (K : PySem.W.Frag) (mg : Str → Option Value) : Prop where
  F__law_draw : Fun K "_law_draw" "_law_draw" (topS 14) A.f__law_draw A.d__law_draw
  F__law_kinds : Fun K "_law_kinds" "_law_kinds" (topS 17) A.f__law_kinds A.d__law_kinds
  F__law_pick : Fun K "_law_pick" "_law_pick" (topS 15) A.f__law_pick A.d__law_pick
  F__law_pot : Fun K "_law_pot" "_law_pot" (topS 13) A.f__law_pot A.d__law_pot
  F__law_rows : Fun K "_law_rows" "_law_rows" (topS 18) A.f__law_rows A.d__law_rows
  F__law_thing : Fun K "_law_thing" "_law_thing" (topS 16) A.f__law_thing A.d__law_thing
  F__law_told_of : Fun K "_law_told_of" "_law_told_of" (topS 19) A.f__law_told_of A.d__law_told_of
  F_law : Fun K "law" "law" (topS 20) A.f_law A.d_law
  b__law_draw : Binds K A.d__law_draw ["pot", "many"] []
  b__law_kinds : Binds K A.d__law_kinds ["error"] []
  b__law_pick : Binds K A.d__law_pick ["pot", "row"] []
  b__law_pot : Binds K A.d__law_pot ["script"] []
  b__law_rows : Binds K A.d__law_rows ["a", "b"] []
  b__law_thing : Binds K A.d__law_thing ["pot"] []
  b__law_told_of : Binds K A.d__law_told_of ["error", "words"] []
  g__law_draw : mg "_law_draw" = some (.ref A.f__law_draw)
  g__law_kinds : mg "_law_kinds" = some (.ref A.f__law_kinds)
  g__law_pick : mg "_law_pick" = some (.ref A.f__law_pick)
  g__law_pot : mg "_law_pot" = some (.ref A.f__law_pot)
  g__law_rows : mg "_law_rows" = some (.ref A.f__law_rows)
  g__law_thing : mg "_law_thing" = some (.ref A.f__law_thing)
  g__law_told_of : mg "_law_told_of" = some (.ref A.f__law_told_of)
  xb_BadNumber : ∀ (s : Shared) (z u1 : Value), BindsTo s A.d_BadNumber___init__ ⟨[z, u1], []⟩ [("self", z), ("value", u1)]
  xb_BadText : ∀ (s : Shared) (z u1 u2 : Value), BindsTo s A.d_BadText___init__ ⟨[z, u1, u2], []⟩ [("self", z), ("line", u1), ("what", u2)]
  xb_BadWeb : ∀ (s : Shared) (z u1 : Value), BindsTo s A.d_BadWeb___init__ ⟨[z, u1], []⟩ [("self", z), ("what", u1)]
  xb_NoDeed : ∀ (s : Shared) (z u1 : Value), BindsTo s A.d_NoDeed___init__ ⟨[z, u1], []⟩ [("self", z), ("at", u1)]
  xb_NoFires : ∀ (s : Shared) (z u1 : Value), BindsTo s A.d_NoFires___init__ ⟨[z, u1], []⟩ [("self", z), ("at", u1)]
  xb_NoLabel : ∀ (s : Shared) (z u1 : Value), BindsTo s A.d_NoLabel___init__ ⟨[z, u1], []⟩ [("self", z), ("at", u1)]
  xb_NoLot : ∀ (s : Shared) (z  : Value), BindsTo s A.d_NoLot___init__ ⟨[z], []⟩ [("self", z)]
  xb_NoPlace : ∀ (s : Shared) (z  : Value), BindsTo s A.d_NoPlace___init__ ⟨[z], []⟩ [("self", z)]
  xb_NoQuestion : ∀ (s : Shared) (z  : Value), BindsTo s A.d_NoQuestion___init__ ⟨[z], []⟩ [("self", z)]
  xb_NothingDone : ∀ (s : Shared) (z  : Value), BindsTo s A.d_NothingDone___init__ ⟨[z], []⟩ [("self", z)]
  xg_BadNumber : mg "BadNumber" = some (.ref A.C_BadNumber)
  xg_BadText : mg "BadText" = some (.ref A.C_BadText)
  xg_BadWeb : mg "BadWeb" = some (.ref A.C_BadWeb)
  xg_NoDeed : mg "NoDeed" = some (.ref A.C_NoDeed)
  xg_NoFires : mg "NoFires" = some (.ref A.C_NoFires)
  xg_NoLabel : mg "NoLabel" = some (.ref A.C_NoLabel)
  xg_NoLot : mg "NoLot" = some (.ref A.C_NoLot)
  xg_NoPlace : mg "NoPlace" = some (.ref A.C_NoPlace)
  xg_NoQuestion : mg "NoQuestion" = some (.ref A.C_NoQuestion)
  xg_NothingDone : mg "NothingDone" = some (.ref A.C_NothingDone)
  xn_BadNumber_value : NoAttr K A.C_BadNumber "value"
  xn_BadText_line : NoAttr K A.C_BadText "line"
  xn_BadText_what : NoAttr K A.C_BadText "what"
  xn_BadWeb_what : NoAttr K A.C_BadWeb "what"
  xn_NoDeed_at : NoAttr K A.C_NoDeed "at"
  xn_NoFires_at : NoAttr K A.C_NoFires "at"
  xn_NoLabel_at : NoAttr K A.C_NoLabel "at"
  xo_BadNumber : OxC P K A.C_BadNumber A.f_BadNumber___init__ (defArgs (inClass (topS 4) 0)) (defBody (inClass (topS 4) 0)) (defScope (inClass (topS 4) 0)) A.d_BadNumber___init__
  xo_BadText : OxC P K A.C_BadText A.f_BadText___init__ (defArgs (inClass (topS 3) 0)) (defBody (inClass (topS 3) 0)) (defScope (inClass (topS 3) 0)) A.d_BadText___init__
  xo_BadWeb : OxC P K A.C_BadWeb A.f_BadWeb___init__ (defArgs (inClass (topS 2) 0)) (defBody (inClass (topS 2) 0)) (defScope (inClass (topS 2) 0)) A.d_BadWeb___init__
  xo_NoDeed : OxC P K A.C_NoDeed A.f_NoDeed___init__ (defArgs (inClass (topS 8) 0)) (defBody (inClass (topS 8) 0)) (defScope (inClass (topS 8) 0)) A.d_NoDeed___init__
  xo_NoFires : OxC P K A.C_NoFires A.f_NoFires___init__ (defArgs (inClass (topS 7) 0)) (defBody (inClass (topS 7) 0)) (defScope (inClass (topS 7) 0)) A.d_NoFires___init__
  xo_NoLabel : OxC P K A.C_NoLabel A.f_NoLabel___init__ (defArgs (inClass (topS 9) 0)) (defBody (inClass (topS 9) 0)) (defScope (inClass (topS 9) 0)) A.d_NoLabel___init__
  xo_NoLot : OxC P K A.C_NoLot A.f_NoLot___init__ (defArgs (inClass (topS 6) 0)) (defBody (inClass (topS 6) 0)) (defScope (inClass (topS 6) 0)) A.d_NoLot___init__
  xo_NoPlace : OxC P K A.C_NoPlace A.f_NoPlace___init__ (defArgs (inClass (topS 5) 0)) (defBody (inClass (topS 5) 0)) (defScope (inClass (topS 5) 0)) A.d_NoPlace___init__
  xo_NoQuestion : OxC P K A.C_NoQuestion A.f_NoQuestion___init__ (defArgs (inClass (topS 10) 0)) (defBody (inClass (topS 10) 0)) (defScope (inClass (topS 10) 0)) A.d_NoQuestion___init__
  xo_NothingDone : OxC P K A.C_NothingDone A.f_NothingDone___init__ (defArgs (inClass (topS 11) 0)) (defBody (inClass (topS 11) 0)) (defScope (inClass (topS 11) 0)) A.d_NothingDone___init__
  yf_at : ∀ c ∈ (["NoFires", "NoDeed", "NoLabel"] : List Str), ∀ C, mg c = some (.ref C) → XfC K C ∧ PySem.W.findIn K (.ref C) "at" = some none
  yf_line : ∀ c ∈ (["BadText"] : List Str), ∀ C, mg c = some (.ref C) → XfC K C ∧ PySem.W.findIn K (.ref C) "line" = some none
  yf_value : ∀ c ∈ (["BadNumber"] : List Str), ∀ C, mg c = some (.ref C) → XfC K C ∧ PySem.W.findIn K (.ref C) "value" = some none
  yf_what : ∀ c ∈ (["BadWeb", "BadText"] : List Str), ∀ C, mg c = some (.ref C) → XfC K C ∧ PySem.W.findIn K (.ref C) "what" = some none
  yg_BadNumber : mg "BadNumber" = some (.ref A.C_BadNumber)
  yg_BadText : mg "BadText" = some (.ref A.C_BadText)
  yg_BadWeb : mg "BadWeb" = some (.ref A.C_BadWeb)
  yg_LightError : mg "LightError" = some (.ref A.C_LightError)
  yg_NoDeed : mg "NoDeed" = some (.ref A.C_NoDeed)
  yg_NoFires : mg "NoFires" = some (.ref A.C_NoFires)
  yg_NoLabel : mg "NoLabel" = some (.ref A.C_NoLabel)
  yg_NoLot : mg "NoLot" = some (.ref A.C_NoLot)
  yg_NoPlace : mg "NoPlace" = some (.ref A.C_NoPlace)
  yg_NoQuestion : mg "NoQuestion" = some (.ref A.C_NoQuestion)
  yg_NothingDone : mg "NothingDone" = some (.ref A.C_NothingDone)
  yi_BadNumber : IsX K mg (.ref A.C_BadNumber) EXS ["BadNumber"]
  yi_BadText : IsX K mg (.ref A.C_BadText) EXS ["BadText"]
  yi_BadWeb : IsX K mg (.ref A.C_BadWeb) EXS ["BadWeb"]
  yi_LightError : IsX K mg (.ref A.C_LightError) EXS EXS
  yi_NoDeed : IsX K mg (.ref A.C_NoDeed) EXS ["NoDeed"]
  yi_NoFires : IsX K mg (.ref A.C_NoFires) EXS ["NoFires"]
  yi_NoLabel : IsX K mg (.ref A.C_NoLabel) EXS ["NoLabel"]
  yi_NoLot : IsX K mg (.ref A.C_NoLot) EXS ["NoLot"]
  yi_NoPlace : IsX K mg (.ref A.C_NoPlace) EXS ["NoPlace"]
  yi_NoQuestion : IsX K mg (.ref A.C_NoQuestion) EXS ["NoQuestion"]
  yi_NothingDone : IsX K mg (.ref A.C_NothingDone) EXS ["NothingDone"]
  yi_ValueError : IsX K mg (.type "ValueError") EXS EXS
  yk_LightError : PySem.W.keepIn K (.ref A.C_LightError) = true
  yw_LightError : PySem.W.excIn K A.C_LightError [.type "ValueError", .type "Exception", .type "BaseException", .type "object"] "ValueError.__new__" = true
  z_ValueError : mg "ValueError" = none
  z_abs : mg "abs" = none
  z_enumerate : mg "enumerate" = none
  z_int : mg "int" = none
  z_isinstance : mg "isinstance" = none
  z_len : mg "len" = none
  z_range : mg "range" = none
  z_repr : mg "repr" = none
theorem sc__law_pot : FnScope ["script", "cell"] ["script"] (defScope (topS 13)) := ⟨rfl, rfl, rfl, by decide +kernel, rfl, by decide +kernel, by decide +kernel⟩
theorem sc__law_draw : FnScope ["pot", "many", "found", "cell"] ["pot", "many"] (defScope (topS 14)) := ⟨rfl, rfl, rfl, by decide +kernel, rfl, by decide +kernel, by decide +kernel⟩
theorem sc__law_pick : FnScope ["pot", "row"] ["pot", "row"] (defScope (topS 15)) := ⟨rfl, rfl, rfl, by decide +kernel, rfl, by decide +kernel, by decide +kernel⟩
theorem sc__law_thing : FnScope ["pot"] ["pot"] (defScope (topS 16)) := ⟨rfl, rfl, rfl, by decide +kernel, rfl, by decide +kernel, by decide +kernel⟩
theorem sc__law_kinds : FnScope ["error", "found"] ["error"] (defScope (topS 17)) := ⟨rfl, rfl, rfl, by decide +kernel, rfl, by decide +kernel, by decide +kernel⟩
theorem sc__law_rows : FnScope ["a", "b", "rows"] ["a", "b"] (defScope (topS 18)) := ⟨rfl, rfl, rfl, by decide +kernel, rfl, by decide +kernel, by decide +kernel⟩
theorem sc__law_told_of : FnScope ["error", "words", "found", "word"] ["error", "words"] (defScope (topS 19)) := ⟨rfl, rfl, rfl, by decide +kernel, rfl, by decide +kernel, by decide +kernel⟩
theorem sc_law : FnScope ["script", "pot", "a", "b", "c", "rows", "later", "at", "row", "error", "words", "due", "alone", "k"] ["script"] (defScope (topS 20)) := ⟨rfl, rfl, rfl, by decide +kernel, rfl, by decide +kernel, by decide +kernel⟩
theorem xs_BadNumber : OxS (defScope (inClass (topS 4) 0)) ["value"] := ⟨rfl, rfl, rfl, by decide +kernel, by decide +kernel, rfl, rfl, rfl⟩
theorem xs_BadText : OxS (defScope (inClass (topS 3) 0)) ["line", "what"] := ⟨rfl, rfl, rfl, by decide +kernel, by decide +kernel, rfl, rfl, rfl⟩
theorem xs_BadWeb : OxS (defScope (inClass (topS 2) 0)) ["what"] := ⟨rfl, rfl, rfl, by decide +kernel, by decide +kernel, rfl, rfl, rfl⟩
theorem xs_NoDeed : OxS (defScope (inClass (topS 8) 0)) ["at"] := ⟨rfl, rfl, rfl, by decide +kernel, by decide +kernel, rfl, rfl, rfl⟩
theorem xs_NoFires : OxS (defScope (inClass (topS 7) 0)) ["at"] := ⟨rfl, rfl, rfl, by decide +kernel, by decide +kernel, rfl, rfl, rfl⟩
theorem xs_NoLabel : OxS (defScope (inClass (topS 9) 0)) ["at"] := ⟨rfl, rfl, rfl, by decide +kernel, by decide +kernel, rfl, rfl, rfl⟩
theorem xs_NoLot : OxS (defScope (inClass (topS 6) 0)) [] := ⟨rfl, rfl, rfl, by decide +kernel, by decide +kernel, rfl, rfl, rfl⟩
theorem xs_NoPlace : OxS (defScope (inClass (topS 5) 0)) [] := ⟨rfl, rfl, rfl, by decide +kernel, by decide +kernel, rfl, rfl, rfl⟩
theorem xs_NoQuestion : OxS (defScope (inClass (topS 10) 0)) [] := ⟨rfl, rfl, rfl, by decide +kernel, by decide +kernel, rfl, rfl, rfl⟩
theorem xs_NothingDone : OxS (defScope (inClass (topS 11) 0)) [] := ⟨rfl, rfl, rfl, by decide +kernel, by decide +kernel, rfl, rfl, rfl⟩
section
variable {P : Program} {w : World} {K : PySem.W.Frag} {mg : Str → Option Value} {base : Heap}
theorem ok__law_pot {A : Adr} (T : Top A P K mg) : FnG P w K mg base 1 A.f__law_pot A.d__law_pot ["script"] (spF K mg 1 sem__law_pot) :=
  fn_def2 (k := 0) (own := false) T.F__law_pot sc__law_pot rfl rfl fun cdv A0 outer s H E hr tk hp hu nd =>
  s_one (s_ret (e_lst (a_cons (e_lc rfl nd (i_seq (e_slice (e_var 0) (o_none) (o_some (e_int)))) (blkOk_by (sc := defScope (topS 13)) (N := ["script", "cell"]) (own := [("cell", 1)]) (by decide +kernel)) (show ∀ j, j < 2 → j ∉ [1] → j ∈ ([0] : List Nat) from by decide) (fun _ _ _ _ _ => g_name nd rfl (by first | exact .inl rfl | exact .inr rfl) (by decide)) (fun _ _ _ _ _ => ts_nil) (fun _ _ _ _ _ => e_cB1 cd_abs call1_D (by rfl) T.z_abs bb_abs (e_var 1))) (a_cons (e_int) (a_cons (e_int) (a_cons (e_int) (a_nil))))) (len_cons (len_cons (len_cons (len_cons len_nil))))))
theorem ok__law_draw {A : Adr} (T : Top A P K mg) : FnG P w K mg base 1 A.f__law_draw A.d__law_draw ["pot", "many"] (spF K mg 2 sem__law_draw) :=
  fn_def2 (k := 0) (own := true) T.F__law_draw sc__law_draw rfl rfl fun cdv A0 outer s H E hr tk hp hu nd =>
  s_cons (s_if (t_cmp opd_lt op2_D (e_var 1) (e_int) (nomark _)) (s_one (s_ret (e_int))) (s_nil))
  (s_cons (s_if (t_cmp opd_gt op2_D (e_ix (ixd_2 (by exact hu)) op2_D (e_var 0) (e_int) (fun _ _ => rfl)) (e_int) (nomark _)) (s_cons (s_set nd rfl (by first | exact .inl rfl | exact .inr rfl) (by decide) (e_op opd_mod op2_D (e_cT1 cd_int call1_D (by rfl) T.z_int bb_int (e_ix (ixd_2 (by exact hu)) op2_D (e_var 0) (e_int) (fun _ _ => rfl))) (e_var 1)))
  (s_cons (s_setIx (pl_name 0) (e_op opd_div op2_D (e_ix (ixd_2 (by exact hu)) op2_D (e_var 0) (e_int) (fun _ _ => rfl)) (e_var 1)) (e_int) rfl)
  (s_one (s_ret (e_var 2))))) (s_nil))
  (s_cons (s_set nd rfl (by first | exact .inl rfl | exact .inr rfl) (by decide) (e_int))
  (s_cons (s_if (t_cmp opd_lt op2_D (e_ix (ixd_2 (by exact hu)) op2_D (e_var 0) (e_int) (fun _ _ => rfl)) (e_cB1 cd_len2 call1_D (by rfl) T.z_len bb_len (e_ix (ixd_2 (by exact hu)) op2_D (e_var 0) (e_int) (fun _ _ => rfl))) (nomark _)) (s_cons (s_set nd rfl (by first | exact .inl rfl | exact .inr rfl) (by decide) (e_ix (ixd_2 (by exact hu)) op2_D (e_ix (ixd_2 (by exact hu)) op2_D (e_var 0) (e_int) (fun _ _ => rfl)) (e_ix (ixd_2 (by exact hu)) op2_D (e_var 0) (e_int) (fun _ _ => rfl)) (fun _ _ => rfl)))
  (s_cons (s_setIx (pl_name 0) (e_op opd_add op2_D (e_ix (ixd_2 (by exact hu)) op2_D (e_var 0) (e_int) (fun _ _ => rfl)) (e_int)) (e_int) rfl)
  (s_one (s_if (t_cmp opd_ge op2_D (e_var 3) (e_op opd_pow op2_D (e_int) (e_int)) (nomark _)) (s_cons (s_setIx (pl_name 0) (e_op opd_div op2_D (e_var 3) (e_var 1)) (e_int) rfl)
  (s_one (s_ret (e_op opd_mod op2_D (e_cT1 cd_int call1_D (by rfl) T.z_int bb_int (e_var 3)) (e_var 1))))) (s_nil))))) (s_nil))
  (s_cons (s_setIx (pl_name 0) (e_op opd_mod op2_D (e_cT1 cd_int call1_D (by rfl) T.z_int bb_int (e_op opd_add op2_D (e_op opd_add op2_D (e_op opd_mul op2_D (e_ix (ixd_2 (by exact hu)) op2_D (e_var 0) (e_int) (fun _ _ => rfl)) (e_int)) (e_var 3)) (e_int))) (e_int)) (e_int) rfl)
  (s_one (s_ret (e_op opd_mod op2_D (e_cT1 cd_int call1_D (by rfl) T.z_int bb_int (e_op opd_add op2_D (e_op opd_div op2_D (e_op opd_mul op2_D (e_ix (ixd_2 (by exact hu)) op2_D (e_var 0) (e_int) (fun _ _ => rfl)) (e_ix (ixd_2 (by exact hu)) op2_D (e_var 0) (e_int) (fun _ _ => rfl))) (e_int)) (e_op opd_div op2_D (e_ix (ixd_2 (by exact hu)) op2_D (e_var 0) (e_int) (fun _ _ => rfl)) (e_int)))) (e_var 1))))))))
theorem ok__law_pick {A : Adr} (T : Top A P K mg) : FnG P w K mg base 4 A.f__law_pick A.d__law_pick ["pot", "row"] (spF K mg 2 sem__law_pick) :=
  fn_def2 (k := 3) (own := true) T.F__law_pick sc__law_pick rfl rfl fun cdv A0 outer s H E hr tk hp hu nd =>
  s_one (s_ret (e_ix (ixd_2 (by exact hu)) op2_D (e_var 1) (e_callM 0 (ok__law_draw T) len__law_draw (hr.mono (by omega)) tk (by rfl) T.g__law_draw T.F__law_draw.kp T.b__law_draw (a_cons (e_cB1 cd_len2 call1_D (by rfl) T.z_len bb_len (e_var 1)) (a_nil))) (fun _ _ => rfl)))
theorem ok__law_thing {A : Adr} (T : Top A P K mg) : FnG P w K mg base 7 A.f__law_thing A.d__law_thing ["pot"] (spF K mg 1 sem__law_thing) :=
  fn_def2 (k := 6) (own := true) T.F__law_thing sc__law_thing rfl rfl fun cdv A0 outer s H E hr tk hp hu nd =>
  s_one (s_ret (e_callM 0 (ok__law_pick T) len__law_pick (hr.mono (by omega)) tk (by rfl) T.g__law_pick T.F__law_pick.kp T.b__law_pick (a_cons (e_lst (a_cons (e_non) (a_cons (e_bl) (a_cons (e_int) (a_cons (e_neg (e_int)) (a_cons (e_op opd_pow op2_D (e_int) (e_int)) (a_cons (e_str) (a_cons (e_str) (a_cons (e_str) (a_cons (e_tup (a_nil) len_nil) (a_cons (e_tup (a_cons (e_int) (a_cons (e_str) (a_nil))) (len_cons (len_cons len_nil))) (a_cons (e_lst (a_nil) len_nil) (a_cons (e_lst (a_cons (e_non) (a_nil)) (len_cons len_nil)) (a_cons (e_dnewK) (a_cons (e_disp1 (e_tup (a_cons (e_int) (a_nil)) (len_cons len_nil))) (a_nil))))))))))))))) (len_cons (len_cons (len_cons (len_cons (len_cons (len_cons (len_cons (len_cons (len_cons (len_cons (len_cons (len_cons (len_cons (len_cons len_nil))))))))))))))) (a_nil))))
theorem ok__law_kinds {A : Adr} (T : Top A P K mg) : FnG P w K mg base 1 A.f__law_kinds A.d__law_kinds ["error"] (spF K mg 1 sem__law_kinds) :=
  fn_def2 (k := 0) (own := false) T.F__law_kinds sc__law_kinds rfl rfl fun cdv A0 outer s H E hr tk hp hu nd =>
  s_cons (s_set nd rfl (by first | exact .inl rfl | exact .inr rfl) (by decide) (e_lst (a_cons (e_isX (by rfl) T.z_isinstance (e_var 0) (pe_glob (v := .ref A.C_BadNumber) (by rfl) T.yg_BadNumber rfl) (.own _) T.yi_BadNumber) (a_cons (e_isX (by rfl) T.z_isinstance (e_var 0) (pe_glob (v := .ref A.C_BadText) (by rfl) T.yg_BadText rfl) (.own _) T.yi_BadText) (a_cons (e_isX (by rfl) T.z_isinstance (e_var 0) (pe_glob (v := .ref A.C_BadWeb) (by rfl) T.yg_BadWeb rfl) (.own _) T.yi_BadWeb) (a_nil)))) (len_cons (len_cons (len_cons len_nil)))))
  (s_cons (s_set nd rfl (by first | exact .inl rfl | exact .inr rfl) (by decide) (e_op opd_add op2_D (e_var 1) (e_lst (a_cons (e_isX (by rfl) T.z_isinstance (e_var 0) (pe_glob (v := .ref A.C_NoDeed) (by rfl) T.yg_NoDeed rfl) (.own _) T.yi_NoDeed) (a_cons (e_isX (by rfl) T.z_isinstance (e_var 0) (pe_glob (v := .ref A.C_NoFires) (by rfl) T.yg_NoFires rfl) (.own _) T.yi_NoFires) (a_cons (e_isX (by rfl) T.z_isinstance (e_var 0) (pe_glob (v := .ref A.C_NoLabel) (by rfl) T.yg_NoLabel rfl) (.own _) T.yi_NoLabel) (a_nil)))) (len_cons (len_cons (len_cons len_nil))))))
  (s_cons (s_set nd rfl (by first | exact .inl rfl | exact .inr rfl) (by decide) (e_op opd_add op2_D (e_var 1) (e_lst (a_cons (e_isX (by rfl) T.z_isinstance (e_var 0) (pe_glob (v := .ref A.C_NoLot) (by rfl) T.yg_NoLot rfl) (.own _) T.yi_NoLot) (a_cons (e_isX (by rfl) T.z_isinstance (e_var 0) (pe_glob (v := .ref A.C_NoPlace) (by rfl) T.yg_NoPlace rfl) (.own _) T.yi_NoPlace) (a_cons (e_isX (by rfl) T.z_isinstance (e_var 0) (pe_glob (v := .ref A.C_NoQuestion) (by rfl) T.yg_NoQuestion rfl) (.own _) T.yi_NoQuestion) (a_nil)))) (len_cons (len_cons (len_cons len_nil))))))
  (s_one (s_ret (e_op opd_add op2_D (e_var 1) (e_lst (a_cons (e_isX (by rfl) T.z_isinstance (e_var 0) (pe_glob (v := .ref A.C_NothingDone) (by rfl) T.yg_NothingDone rfl) (.own _) T.yi_NothingDone) (a_nil)) (len_cons len_nil)))))))
theorem ok__law_rows {A : Adr} (T : Top A P K mg) : FnG P w K mg base 2 A.f__law_rows A.d__law_rows ["a", "b"] (spF K mg 2 sem__law_rows) :=
  fn_def2 (k := 1) (own := false) T.F__law_rows sc__law_rows rfl rfl fun cdv A0 outer s H E hr tk hp hu nd =>
  s_cons (s_set nd rfl (by first | exact .inl rfl | exact .inr rfl) (by decide) (e_lst (a_cons (e_tup (a_cons (e_exv (X := cxOf (L2.CX P w) P w K mg base ["a", "b", "rows"] "_law_rows" (defScope (topS 18)) A.f__law_rows cdv A0 outer s H E) (mk1 (k := 0) (by exact T.xo_BadNumber) (by exact xs_BadNumber) (by rfl) (by exact hr.mono (by decide)) (by rfl) (by exact T.xg_BadNumber) (by exact T.xb_BadNumber) (by rfl) (by rfl) (by exact T.xn_BadNumber_value) (a_cons (e_var 0) (a_nil)))) (a_cons (e_str) (a_nil))) (len_cons (len_cons len_nil))) (a_cons (e_tup (a_cons (e_exv (X := cxOf (L2.CX P w) P w K mg base ["a", "b", "rows"] "_law_rows" (defScope (topS 18)) A.f__law_rows cdv A0 outer s H E) (mk2 (k := 0) (by exact T.xo_BadText) (by exact xs_BadText) (by rfl) (by exact hr.mono (by decide)) (by rfl) (by exact T.xg_BadText) (by exact T.xb_BadText) (by rfl) (by rfl) (by exact T.xn_BadText_line) (by exact T.xn_BadText_what) (a_cons (e_var 0) (a_cons (e_var 1) (a_nil))))) (a_cons (e_str) (a_nil))) (len_cons (len_cons len_nil))) (a_cons (e_tup (a_cons (e_exv (X := cxOf (L2.CX P w) P w K mg base ["a", "b", "rows"] "_law_rows" (defScope (topS 18)) A.f__law_rows cdv A0 outer s H E) (mk1 (k := 0) (by exact T.xo_BadWeb) (by exact xs_BadWeb) (by rfl) (by exact hr.mono (by decide)) (by rfl) (by exact T.xg_BadWeb) (by exact T.xb_BadWeb) (by rfl) (by rfl) (by exact T.xn_BadWeb_what) (a_cons (e_var 0) (a_nil)))) (a_cons (e_str) (a_nil))) (len_cons (len_cons len_nil))) (a_cons (e_tup (a_cons (e_exv (X := cxOf (L2.CX P w) P w K mg base ["a", "b", "rows"] "_law_rows" (defScope (topS 18)) A.f__law_rows cdv A0 outer s H E) (mk1 (k := 0) (by exact T.xo_NoDeed) (by exact xs_NoDeed) (by rfl) (by exact hr.mono (by decide)) (by rfl) (by exact T.xg_NoDeed) (by exact T.xb_NoDeed) (by rfl) (by rfl) (by exact T.xn_NoDeed_at) (a_cons (e_var 0) (a_nil)))) (a_cons (e_str) (a_nil))) (len_cons (len_cons len_nil))) (a_cons (e_tup (a_cons (e_exv (X := cxOf (L2.CX P w) P w K mg base ["a", "b", "rows"] "_law_rows" (defScope (topS 18)) A.f__law_rows cdv A0 outer s H E) (mk1 (k := 0) (by exact T.xo_NoFires) (by exact xs_NoFires) (by rfl) (by exact hr.mono (by decide)) (by rfl) (by exact T.xg_NoFires) (by exact T.xb_NoFires) (by rfl) (by rfl) (by exact T.xn_NoFires_at) (a_cons (e_var 0) (a_nil)))) (a_cons (e_str) (a_nil))) (len_cons (len_cons len_nil))) (a_nil)))))) (len_cons (len_cons (len_cons (len_cons (len_cons len_nil)))))))
  (s_one (s_ret (e_op opd_add op2_D (e_frz 2) (e_lst (a_cons (e_tup (a_cons (e_exv (X := cxOf (L2.CX P w) P w K mg base ["a", "b", "rows"] "_law_rows" (defScope (topS 18)) A.f__law_rows cdv A0 outer s H E) (mk1 (k := 0) (by exact T.xo_NoLabel) (by exact xs_NoLabel) (by rfl) (by exact hr.mono (by decide)) (by rfl) (by exact T.xg_NoLabel) (by exact T.xb_NoLabel) (by rfl) (by rfl) (by exact T.xn_NoLabel_at) (a_cons (e_var 0) (a_nil)))) (a_cons (e_str) (a_nil))) (len_cons (len_cons len_nil))) (a_cons (e_tup (a_cons (e_exv (X := cxOf (L2.CX P w) P w K mg base ["a", "b", "rows"] "_law_rows" (defScope (topS 18)) A.f__law_rows cdv A0 outer s H E) (mk0 (k := 0) (by exact T.xo_NoLot) (by exact xs_NoLot) (by rfl) (by exact hr.mono (by decide)) (by rfl) (by exact T.xg_NoLot) (by exact T.xb_NoLot) (by rfl) (by rfl))) (a_cons (e_str) (a_nil))) (len_cons (len_cons len_nil))) (a_cons (e_tup (a_cons (e_exv (X := cxOf (L2.CX P w) P w K mg base ["a", "b", "rows"] "_law_rows" (defScope (topS 18)) A.f__law_rows cdv A0 outer s H E) (mk0 (k := 0) (by exact T.xo_NoPlace) (by exact xs_NoPlace) (by rfl) (by exact hr.mono (by decide)) (by rfl) (by exact T.xg_NoPlace) (by exact T.xb_NoPlace) (by rfl) (by rfl))) (a_cons (e_str) (a_nil))) (len_cons (len_cons len_nil))) (a_cons (e_tup (a_cons (e_exv (X := cxOf (L2.CX P w) P w K mg base ["a", "b", "rows"] "_law_rows" (defScope (topS 18)) A.f__law_rows cdv A0 outer s H E) (mk0 (k := 0) (by exact T.xo_NoQuestion) (by exact xs_NoQuestion) (by rfl) (by exact hr.mono (by decide)) (by rfl) (by exact T.xg_NoQuestion) (by exact T.xb_NoQuestion) (by rfl) (by rfl))) (a_cons (e_str) (a_nil))) (len_cons (len_cons len_nil))) (a_cons (e_tup (a_cons (e_exv (X := cxOf (L2.CX P w) P w K mg base ["a", "b", "rows"] "_law_rows" (defScope (topS 18)) A.f__law_rows cdv A0 outer s H E) (mk0 (k := 0) (by exact T.xo_NothingDone) (by exact xs_NothingDone) (by rfl) (by exact hr.mono (by decide)) (by rfl) (by exact T.xg_NothingDone) (by exact T.xb_NothingDone) (by rfl) (by rfl))) (a_cons (e_str) (a_nil))) (len_cons (len_cons len_nil))) (a_nil)))))) (len_cons (len_cons (len_cons (len_cons (len_cons len_nil)))))))))
theorem ok__law_told_of {A : Adr} (T : Top A P K mg) : FnG P w K mg base 1 A.f__law_told_of A.d__law_told_of ["error", "words"] (spF K mg 2 sem__law_told_of) :=
  fn_def2 (k := 0) (own := false) T.F__law_told_of sc__law_told_of rfl rfl fun cdv A0 outer s H E hr tk hp hu nd =>
  s_cons (s_set nd rfl (by first | exact .inl rfl | exact .inr rfl) (by decide) (e_lst (a_nil) len_nil))
  (s_cons (s_for hp rfl (i_seq (e_m1 PySem.F.slot_str_split PySem.F.type_str_split mt_split m1_split (e_var 1) (e_str))) (g_name nd rfl (by first | exact .inl rfl | exact .inr rfl) (by decide)) (s_one (s_if (t_cmp (opd_eq (by exact hu)) op2_D (e_var 3) (e_str) (nomark _)) (s_one (s_expr (e_lm (pl_name 2) lm_append PySem.F.slot_list_append PySem.F.type_list_append mt_append (e_xfL T.yf_at (e_var 0)) rfl))) (s_one (s_if (t_cmp (opd_eq (by exact hu)) op2_D (e_var 3) (e_str) (nomark _)) (s_one (s_expr (e_lm (pl_name 2) lm_append PySem.F.slot_list_append PySem.F.type_list_append mt_append (e_xfL T.yf_value (e_var 0)) rfl))) (s_one (s_if (t_cmp (opd_eq (by exact hu)) op2_D (e_var 3) (e_str) (nomark _)) (s_one (s_expr (e_lm (pl_name 2) lm_append PySem.F.slot_list_append PySem.F.type_list_append mt_append (e_xfL T.yf_what (e_var 0)) rfl))) (s_one (s_if (t_cmp (opd_eq (by exact hu)) op2_D (e_var 3) (e_str) (nomark _)) (s_one (s_expr (e_lm (pl_name 2) lm_append PySem.F.slot_list_append PySem.F.type_list_append mt_append (e_xfL T.yf_line (e_var 0)) rfl))) (s_nil))))))))))
  (s_one (s_ret (e_mov 2))))
theorem ok_law {A : Adr} (T : Top A P K mg) : FnG P w K mg base 10 A.f_law A.d_law ["script"] (spF K mg 1 sem_law_k00) :=
  fn_def2 (k := 9) (own := false) T.F_law sc_law rfl rfl fun cdv A0 outer s H E hr tk hp hu nd =>
  s_cons (s_set nd rfl (by first | exact .inl rfl | exact .inr rfl) (by decide) (e_call (ok__law_pot T) len__law_pot (hr.mono (by omega)) tk (by rfl) T.g__law_pot T.F__law_pot.kp T.b__law_pot (a_cons (e_var 0) (a_nil))))
  (s_cons (s_par3 rfl nd rfl rfl rfl (by decide) (by decide) (by decide) (by decide) (by decide) (by decide) rfl rfl rfl (a_cons (e_callM 1 (ok__law_thing T) len__law_thing (hr.mono (by omega)) tk (by rfl) T.g__law_thing T.F__law_thing.kp T.b__law_thing (a_nil)) (a_cons (e_callM 1 (ok__law_thing T) len__law_thing (hr.mono (by omega)) tk (by rfl) T.g__law_thing T.F__law_thing.kp T.b__law_thing (a_nil)) (a_cons (e_callM 1 (ok__law_thing T) len__law_thing (hr.mono (by omega)) tk (by rfl) T.g__law_thing T.F__law_thing.kp T.b__law_thing (a_nil)) (a_nil)))) rfl)
  (s_cons (s_par rfl nd rfl rfl (by decide) (by decide) (by decide) rfl rfl (a_cons (e_call (ok__law_rows T) len__law_rows (hr.mono (by omega)) tk (by rfl) T.g__law_rows T.F__law_rows.kp T.b__law_rows (a_cons (e_var 2) (a_cons (e_var 3) (a_nil)))) (a_cons (e_call (ok__law_rows T) len__law_rows (hr.mono (by omega)) tk (by rfl) T.g__law_rows T.F__law_rows.kp T.b__law_rows (a_cons (e_var 4) (a_cons (e_var 2) (a_nil)))) (a_nil))) rfl)
  (s_cons (s_for hp rfl (i_enum (by rfl) T.z_enumerate (e_var 5)) (g_tup rfl (g_cons (g_name nd rfl (by first | exact .inl rfl | exact .inr rfl) (by decide)) (g_cons (g_name nd rfl (by first | exact .inl rfl | exact .inr rfl) (by decide)) (g_nil)))) (s_cons (s_asg (e_var 8) (g_tup rfl (g_cons (g_name nd rfl (by first | exact .inl rfl | exact .inr rfl) (by decide)) (g_cons (g_name nd rfl (by first | exact .inl rfl | exact .inr rfl) (by decide)) (g_nil)))))
  (s_cons (s_set nd rfl (by first | exact .inl rfl | exact .inr rfl) (by decide) (e_if (t_cmp (opd_ne (by exact hu)) op2_D (e_var 10) (e_str) (nomark _)) (e_slice (e_lst (a_cons (e_var 2) (a_cons (e_var 3) (a_nil))) (len_cons (len_cons len_nil))) (o_none) (o_some (e_cB1 cd_len2 call1_D (by rfl) T.z_len bb_len (e_m1 PySem.F.slot_str_split PySem.F.type_str_split mt_split m1_split (e_var 10) (e_str))))) (e_lst (a_nil) len_nil)))
  (s_cons (s_if (t_w (t_or (t_not (t_val (e_isX (by rfl) T.z_isinstance (e_var 9) (pe_glob (v := .ref A.C_LightError) (by rfl) T.yg_LightError rfl) (.own _) T.yi_LightError))) (t_or1 (t_not (t_val (e_isX (by rfl) T.z_isinstance (e_var 9) (pe_bltn (v := .ty "ValueError") (by rfl) T.z_ValueError bb_ValueError rfl) (.ty _) T.yi_ValueError)))))) (s_one (s_ret (e_bl))) (s_nil))
  (s_cons (s_if (t_cmp (opd_ne (by exact hu)) op2_D (e_call (ok__law_kinds T) len__law_kinds (hr.mono (by omega)) tk (by rfl) T.g__law_kinds T.F__law_kinds.kp T.b__law_kinds (a_cons (e_var 9) (a_nil))) (e_lc rfl nd (i_range1 (by rfl) T.z_range (e_cB1 cd_len2 call1_D (by rfl) T.z_len bb_len (e_var 5))) (blkOk_by (sc := defScope (topS 20)) (N := ["script", "pot", "a", "b", "c", "rows", "later", "at", "row", "error", "words", "due", "alone", "k"]) (own := [("k", 13)]) (by decide +kernel)) (show ∀ j, j < 14 → j ∉ [13] → j ∈ ([0, 1, 2, 3, 4, 5, 6, 7, 8, 9, 10, 11, 12] : List Nat) from by decide) (fun _ _ _ _ _ => g_name nd rfl (by first | exact .inl rfl | exact .inr rfl) (by decide)) (fun _ _ _ _ _ => ts_nil) (fun _ _ _ _ _ => e_cmp (opd_eq (by exact hu)) op2_D (e_var 13) (e_var 7) (nomark _))) (nomark _)) (s_one (s_ret (e_bl))) (s_nil))
  (s_cons (s_if (t_cmp (opd_ne (by exact hu)) op2_D (e_cB1 (cd_reprX (by exact hr.g) (by exact hu)) call1_D (by rfl) T.z_repr bb_repr (e_call (ok__law_told_of T) len__law_told_of (hr.mono (by omega)) tk (by rfl) T.g__law_told_of T.F__law_told_of.kp T.b__law_told_of (a_cons (e_var 9) (a_cons (e_var 10) (a_nil))))) (e_cB1 (cd_reprX (by exact hr.g) (by exact hu)) call1_D (by rfl) T.z_repr bb_repr (e_var 11)) (nomark _)) (s_one (s_ret (e_bl))) (s_nil))
  (s_one (s_if (t_cmp (opd_ne (by exact hu)) op2_D (e_cB1 (cd_reprX (by exact hr.g) (by exact hu)) call1_D (by rfl) T.z_repr bb_repr (e_call (ok__law_told_of T) len__law_told_of (hr.mono (by omega)) tk (by rfl) T.g__law_told_of T.F__law_told_of.kp T.b__law_told_of (a_cons (e_ix (ixd_2 (by exact hu)) op2_D (e_ix (ixd_2 (by exact hu)) op2_D (e_var 6) (e_var 7) (fun _ _ => rfl)) (e_int) (fun _ _ => rfl)) (a_cons (e_var 10) (a_nil))))) (e_cB1 (cd_reprX (by exact hr.g) (by exact hu)) call1_D (by rfl) T.z_repr bb_repr (e_slice (e_lst (a_cons (e_var 4) (a_cons (e_var 2) (a_nil))) (len_cons (len_cons len_nil))) (o_none) (o_some (e_cB1 cd_len2 call1_D (by rfl) T.z_len bb_len (e_var 11))))) (nomark _)) (s_one (s_ret (e_bl))) (s_nil)))))))))
  (s_cons (s_set nd rfl (by first | exact .inl rfl | exact .inr rfl) (by decide) (e_ex1 PySem.F.excBase_ValueError T.yw_LightError T.yg_LightError T.yk_LightError (by rfl) (e_str)))
  (s_one (s_ret (e_and (e_isX (by rfl) T.z_isinstance (e_var 12) (pe_bltn (v := .ty "ValueError") (by rfl) T.z_ValueError bb_ValueError rfl) (.ty _) T.yi_ValueError) (e_one (e_cmp (opd_notIn2 (by exact hu)) op2_D (e_bl) (e_call (ok__law_kinds T) len__law_kinds (hr.mono (by omega)) tk (by rfl) T.g__law_kinds T.F__law_kinds.kp T.b__law_kinds (a_cons (e_frz 12) (a_nil))) (by rfl))))))))))
end
end K00

namespace K00
open PySem PySem.Spec PyProof.Rows L2 LW SM
theorem lam_is : LW.lamDefs = ([] : List Str) := by unfold LW.lamDefs; rfl
section
variable {l : PySem.W.OpenLaw} {w : World} {K : PySem.W.Frag} {h : Heap} {mg : Str → Option Value} {fa : Addr}
theorem mk (X : K.In h) (G : h.Ns mainGlobals mg) (hfa : mg "law" = some (.ref fa))
    {f__law_draw : Addr}
    {oc__law_draw : Value}
    {kV__law_draw : Value}
    {dc__law_draw : Value}
    {pm__law_draw : Value}
    {ct__law_draw : Value}
    {cd__law_draw : Value}
    {od__law_draw : Option Addr}
    {an__law_draw : Option Addr}
    {sl__law_draw : Array (Option Value)}
    {f__law_kinds : Addr}
    {oc__law_kinds : Value}
    {kV__law_kinds : Value}
    {dc__law_kinds : Value}
    {pm__law_kinds : Value}
    {ct__law_kinds : Value}
    {cd__law_kinds : Value}
    {od__law_kinds : Option Addr}
    {an__law_kinds : Option Addr}
    {sl__law_kinds : Array (Option Value)}
    {f__law_pick : Addr}
    {oc__law_pick : Value}
    {kV__law_pick : Value}
    {dc__law_pick : Value}
    {pm__law_pick : Value}
    {ct__law_pick : Value}
    {cd__law_pick : Value}
    {od__law_pick : Option Addr}
    {an__law_pick : Option Addr}
    {sl__law_pick : Array (Option Value)}
    {f__law_pot : Addr}
    {oc__law_pot : Value}
    {kV__law_pot : Value}
    {dc__law_pot : Value}
    {pm__law_pot : Value}
    {ct__law_pot : Value}
    {cd__law_pot : Value}
    {od__law_pot : Option Addr}
    {an__law_pot : Option Addr}
    {sl__law_pot : Array (Option Value)}
    {f__law_rows : Addr}
    {oc__law_rows : Value}
    {kV__law_rows : Value}
    {dc__law_rows : Value}
    {pm__law_rows : Value}
    {ct__law_rows : Value}
    {cd__law_rows : Value}
    {od__law_rows : Option Addr}
    {an__law_rows : Option Addr}
    {sl__law_rows : Array (Option Value)}
    {f__law_thing : Addr}
    {oc__law_thing : Value}
    {kV__law_thing : Value}
    {dc__law_thing : Value}
    {pm__law_thing : Value}
    {ct__law_thing : Value}
    {cd__law_thing : Value}
    {od__law_thing : Option Addr}
    {an__law_thing : Option Addr}
    {sl__law_thing : Array (Option Value)}
    {f__law_told_of : Addr}
    {oc__law_told_of : Value}
    {kV__law_told_of : Value}
    {dc__law_told_of : Value}
    {pm__law_told_of : Value}
    {ct__law_told_of : Value}
    {cd__law_told_of : Value}
    {od__law_told_of : Option Addr}
    {an__law_told_of : Option Addr}
    {sl__law_told_of : Array (Option Value)}
    {f_law : Addr}
    {oc_law : Value}
    {kV_law : Value}
    {dc_law : Value}
    {pm_law : Value}
    {ct_law : Value}
    {cd_law : Value}
    {od_law : Option Addr}
    {an_law : Option Addr}
    {sl_law : Array (Option Value)}
    {C_BadWeb : Addr}
    {C_BadText : Addr}
    {C_BadNumber : Addr}
    {C_NoFires : Addr}
    {C_NoDeed : Addr}
    {C_NoLabel : Addr}
    {C_NoPlace : Addr}
    {C_NoLot : Addr}
    {C_NoQuestion : Addr}
    {C_NothingDone : Addr}
    {f_BadNumber___init__ : Addr}
    {kV_BadNumber___init__ : Value}
    {dc_BadNumber___init__ : Value}
    {pm_BadNumber___init__ : Value}
    {ct_BadNumber___init__ : Value}
    {cl_BadNumber___init__ : Value}
    {ccl_BadNumber___init__ : Value}
    {od_BadNumber___init__ : Option Addr}
    {an_BadNumber___init__ : Option Addr}
    {cdd_BadNumber___init__ : Option Addr}
    {cld_BadNumber___init__ : Option Addr}
    {sl_BadNumber___init__ : Array (Option Value)}
    {ccs_BadNumber___init__ : Array (Option Value)}
    {csl_BadNumber___init__ : Array (Option Value)}
    {cda_BadNumber___init__ : Addr}
    {cc_BadNumber___init__ : Addr}
    {vs_BadNumber___init__ : Array Value}
    {fi_BadNumber___init__ : Str}
    {tf_BadNumber___init__ : Tok}
    {f_BadText___init__ : Addr}
    {kV_BadText___init__ : Value}
    {dc_BadText___init__ : Value}
    {pm_BadText___init__ : Value}
    {ct_BadText___init__ : Value}
    {cl_BadText___init__ : Value}
    {ccl_BadText___init__ : Value}
    {od_BadText___init__ : Option Addr}
    {an_BadText___init__ : Option Addr}
    {cdd_BadText___init__ : Option Addr}
    {cld_BadText___init__ : Option Addr}
    {sl_BadText___init__ : Array (Option Value)}
    {ccs_BadText___init__ : Array (Option Value)}
    {csl_BadText___init__ : Array (Option Value)}
    {cda_BadText___init__ : Addr}
    {cc_BadText___init__ : Addr}
    {vs_BadText___init__ : Array Value}
    {fi_BadText___init__ : Str}
    {tf_BadText___init__ : Tok}
    {f_BadWeb___init__ : Addr}
    {kV_BadWeb___init__ : Value}
    {dc_BadWeb___init__ : Value}
    {pm_BadWeb___init__ : Value}
    {ct_BadWeb___init__ : Value}
    {cl_BadWeb___init__ : Value}
    {ccl_BadWeb___init__ : Value}
    {od_BadWeb___init__ : Option Addr}
    {an_BadWeb___init__ : Option Addr}
    {cdd_BadWeb___init__ : Option Addr}
    {cld_BadWeb___init__ : Option Addr}
    {sl_BadWeb___init__ : Array (Option Value)}
    {ccs_BadWeb___init__ : Array (Option Value)}
    {csl_BadWeb___init__ : Array (Option Value)}
    {cda_BadWeb___init__ : Addr}
    {cc_BadWeb___init__ : Addr}
    {vs_BadWeb___init__ : Array Value}
    {fi_BadWeb___init__ : Str}
    {tf_BadWeb___init__ : Tok}
    {f_NoDeed___init__ : Addr}
    {kV_NoDeed___init__ : Value}
    {dc_NoDeed___init__ : Value}
    {pm_NoDeed___init__ : Value}
    {ct_NoDeed___init__ : Value}
    {cl_NoDeed___init__ : Value}
    {ccl_NoDeed___init__ : Value}
    {od_NoDeed___init__ : Option Addr}
    {an_NoDeed___init__ : Option Addr}
    {cdd_NoDeed___init__ : Option Addr}
    {cld_NoDeed___init__ : Option Addr}
    {sl_NoDeed___init__ : Array (Option Value)}
    {ccs_NoDeed___init__ : Array (Option Value)}
    {csl_NoDeed___init__ : Array (Option Value)}
    {cda_NoDeed___init__ : Addr}
    {cc_NoDeed___init__ : Addr}
    {vs_NoDeed___init__ : Array Value}
    {fi_NoDeed___init__ : Str}
    {tf_NoDeed___init__ : Tok}
    {f_NoFires___init__ : Addr}
    {kV_NoFires___init__ : Value}
    {dc_NoFires___init__ : Value}
    {pm_NoFires___init__ : Value}
    {ct_NoFires___init__ : Value}
    {cl_NoFires___init__ : Value}
    {ccl_NoFires___init__ : Value}
    {od_NoFires___init__ : Option Addr}
    {an_NoFires___init__ : Option Addr}
    {cdd_NoFires___init__ : Option Addr}
    {cld_NoFires___init__ : Option Addr}
    {sl_NoFires___init__ : Array (Option Value)}
    {ccs_NoFires___init__ : Array (Option Value)}
    {csl_NoFires___init__ : Array (Option Value)}
    {cda_NoFires___init__ : Addr}
    {cc_NoFires___init__ : Addr}
    {vs_NoFires___init__ : Array Value}
    {fi_NoFires___init__ : Str}
    {tf_NoFires___init__ : Tok}
    {f_NoLabel___init__ : Addr}
    {kV_NoLabel___init__ : Value}
    {dc_NoLabel___init__ : Value}
    {pm_NoLabel___init__ : Value}
    {ct_NoLabel___init__ : Value}
    {cl_NoLabel___init__ : Value}
    {ccl_NoLabel___init__ : Value}
    {od_NoLabel___init__ : Option Addr}
    {an_NoLabel___init__ : Option Addr}
    {cdd_NoLabel___init__ : Option Addr}
    {cld_NoLabel___init__ : Option Addr}
    {sl_NoLabel___init__ : Array (Option Value)}
    {ccs_NoLabel___init__ : Array (Option Value)}
    {csl_NoLabel___init__ : Array (Option Value)}
    {cda_NoLabel___init__ : Addr}
    {cc_NoLabel___init__ : Addr}
    {vs_NoLabel___init__ : Array Value}
    {fi_NoLabel___init__ : Str}
    {tf_NoLabel___init__ : Tok}
    {f_NoLot___init__ : Addr}
    {kV_NoLot___init__ : Value}
    {dc_NoLot___init__ : Value}
    {pm_NoLot___init__ : Value}
    {ct_NoLot___init__ : Value}
    {cl_NoLot___init__ : Value}
    {ccl_NoLot___init__ : Value}
    {od_NoLot___init__ : Option Addr}
    {an_NoLot___init__ : Option Addr}
    {cdd_NoLot___init__ : Option Addr}
    {cld_NoLot___init__ : Option Addr}
    {sl_NoLot___init__ : Array (Option Value)}
    {ccs_NoLot___init__ : Array (Option Value)}
    {csl_NoLot___init__ : Array (Option Value)}
    {cda_NoLot___init__ : Addr}
    {cc_NoLot___init__ : Addr}
    {vs_NoLot___init__ : Array Value}
    {fi_NoLot___init__ : Str}
    {tf_NoLot___init__ : Tok}
    {f_NoPlace___init__ : Addr}
    {kV_NoPlace___init__ : Value}
    {dc_NoPlace___init__ : Value}
    {pm_NoPlace___init__ : Value}
    {ct_NoPlace___init__ : Value}
    {cl_NoPlace___init__ : Value}
    {ccl_NoPlace___init__ : Value}
    {od_NoPlace___init__ : Option Addr}
    {an_NoPlace___init__ : Option Addr}
    {cdd_NoPlace___init__ : Option Addr}
    {cld_NoPlace___init__ : Option Addr}
    {sl_NoPlace___init__ : Array (Option Value)}
    {ccs_NoPlace___init__ : Array (Option Value)}
    {csl_NoPlace___init__ : Array (Option Value)}
    {cda_NoPlace___init__ : Addr}
    {cc_NoPlace___init__ : Addr}
    {vs_NoPlace___init__ : Array Value}
    {fi_NoPlace___init__ : Str}
    {tf_NoPlace___init__ : Tok}
    {f_NoQuestion___init__ : Addr}
    {kV_NoQuestion___init__ : Value}
    {dc_NoQuestion___init__ : Value}
    {pm_NoQuestion___init__ : Value}
    {ct_NoQuestion___init__ : Value}
    {cl_NoQuestion___init__ : Value}
    {ccl_NoQuestion___init__ : Value}
    {od_NoQuestion___init__ : Option Addr}
    {an_NoQuestion___init__ : Option Addr}
    {cdd_NoQuestion___init__ : Option Addr}
    {cld_NoQuestion___init__ : Option Addr}
    {sl_NoQuestion___init__ : Array (Option Value)}
    {ccs_NoQuestion___init__ : Array (Option Value)}
    {csl_NoQuestion___init__ : Array (Option Value)}
    {cda_NoQuestion___init__ : Addr}
    {cc_NoQuestion___init__ : Addr}
    {vs_NoQuestion___init__ : Array Value}
    {fi_NoQuestion___init__ : Str}
    {tf_NoQuestion___init__ : Tok}
    {f_NothingDone___init__ : Addr}
    {kV_NothingDone___init__ : Value}
    {dc_NothingDone___init__ : Value}
    {pm_NothingDone___init__ : Value}
    {ct_NothingDone___init__ : Value}
    {cl_NothingDone___init__ : Value}
    {ccl_NothingDone___init__ : Value}
    {od_NothingDone___init__ : Option Addr}
    {an_NothingDone___init__ : Option Addr}
    {cdd_NothingDone___init__ : Option Addr}
    {cld_NothingDone___init__ : Option Addr}
    {sl_NothingDone___init__ : Array (Option Value)}
    {ccs_NothingDone___init__ : Array (Option Value)}
    {csl_NothingDone___init__ : Array (Option Value)}
    {cda_NothingDone___init__ : Addr}
    {cc_NothingDone___init__ : Addr}
    {vs_NothingDone___init__ : Array Value}
    {fi_NothingDone___init__ : Str}
    {tf_NothingDone___init__ : Tok}
    {C_LightError : Addr}
    (no_Web : PySem.W.nsIn K mainGlobals "Web" = some none)
    (no_LineReader : PySem.W.nsIn K mainGlobals "LineReader" = some none)
    (no_Lighter : PySem.W.nsIn K mainGlobals "Lighter" = some none)
    (no_House : PySem.W.nsIn K mainGlobals "House" = some none)
    (no_Desk : PySem.W.nsIn K mainGlobals "Desk" = some none)
    (no_Whole : PySem.W.nsIn K mainGlobals "Whole" = some none)
    (no_Dark : PySem.W.nsIn K mainGlobals "Dark" = some none)
    (a__law_draw : PySem.W.nsIn K mainGlobals "_law_draw" = some (some (.ref f__law_draw)))
    (l__law_draw : K.lookup f__law_draw = some ⟨oc__law_draw, od__law_draw, .func (PySem.W.fnOf "_law_draw" "_law_draw" (defArgs (topS 14)) (defBody (topS 14)) (defScope (topS 14)) .none kV__law_draw dc__law_draw pm__law_draw an__law_draw cd__law_draw ct__law_draw), sl__law_draw⟩)
    (c__law_draw : PySem.W.codeIn K cd__law_draw "_law_draw" = true)
    (k__law_draw : PySem.W.keepIn K (.ref f__law_draw) = true)
    (a__law_kinds : PySem.W.nsIn K mainGlobals "_law_kinds" = some (some (.ref f__law_kinds)))
    (l__law_kinds : K.lookup f__law_kinds = some ⟨oc__law_kinds, od__law_kinds, .func (PySem.W.fnOf "_law_kinds" "_law_kinds" (defArgs (topS 17)) (defBody (topS 17)) (defScope (topS 17)) .none kV__law_kinds dc__law_kinds pm__law_kinds an__law_kinds cd__law_kinds ct__law_kinds), sl__law_kinds⟩)
    (c__law_kinds : PySem.W.codeIn K cd__law_kinds "_law_kinds" = true)
    (k__law_kinds : PySem.W.keepIn K (.ref f__law_kinds) = true)
    (a__law_pick : PySem.W.nsIn K mainGlobals "_law_pick" = some (some (.ref f__law_pick)))
    (l__law_pick : K.lookup f__law_pick = some ⟨oc__law_pick, od__law_pick, .func (PySem.W.fnOf "_law_pick" "_law_pick" (defArgs (topS 15)) (defBody (topS 15)) (defScope (topS 15)) .none kV__law_pick dc__law_pick pm__law_pick an__law_pick cd__law_pick ct__law_pick), sl__law_pick⟩)
    (c__law_pick : PySem.W.codeIn K cd__law_pick "_law_pick" = true)
    (k__law_pick : PySem.W.keepIn K (.ref f__law_pick) = true)
    (a__law_pot : PySem.W.nsIn K mainGlobals "_law_pot" = some (some (.ref f__law_pot)))
    (l__law_pot : K.lookup f__law_pot = some ⟨oc__law_pot, od__law_pot, .func (PySem.W.fnOf "_law_pot" "_law_pot" (defArgs (topS 13)) (defBody (topS 13)) (defScope (topS 13)) .none kV__law_pot dc__law_pot pm__law_pot an__law_pot cd__law_pot ct__law_pot), sl__law_pot⟩)
    (c__law_pot : PySem.W.codeIn K cd__law_pot "_law_pot" = true)
    (k__law_pot : PySem.W.keepIn K (.ref f__law_pot) = true)
    (a__law_rows : PySem.W.nsIn K mainGlobals "_law_rows" = some (some (.ref f__law_rows)))
    (l__law_rows : K.lookup f__law_rows = some ⟨oc__law_rows, od__law_rows, .func (PySem.W.fnOf "_law_rows" "_law_rows" (defArgs (topS 18)) (defBody (topS 18)) (defScope (topS 18)) .none kV__law_rows dc__law_rows pm__law_rows an__law_rows cd__law_rows ct__law_rows), sl__law_rows⟩)
    (c__law_rows : PySem.W.codeIn K cd__law_rows "_law_rows" = true)
    (k__law_rows : PySem.W.keepIn K (.ref f__law_rows) = true)
    (a__law_thing : PySem.W.nsIn K mainGlobals "_law_thing" = some (some (.ref f__law_thing)))
    (l__law_thing : K.lookup f__law_thing = some ⟨oc__law_thing, od__law_thing, .func (PySem.W.fnOf "_law_thing" "_law_thing" (defArgs (topS 16)) (defBody (topS 16)) (defScope (topS 16)) .none kV__law_thing dc__law_thing pm__law_thing an__law_thing cd__law_thing ct__law_thing), sl__law_thing⟩)
    (c__law_thing : PySem.W.codeIn K cd__law_thing "_law_thing" = true)
    (k__law_thing : PySem.W.keepIn K (.ref f__law_thing) = true)
    (a__law_told_of : PySem.W.nsIn K mainGlobals "_law_told_of" = some (some (.ref f__law_told_of)))
    (l__law_told_of : K.lookup f__law_told_of = some ⟨oc__law_told_of, od__law_told_of, .func (PySem.W.fnOf "_law_told_of" "_law_told_of" (defArgs (topS 19)) (defBody (topS 19)) (defScope (topS 19)) .none kV__law_told_of dc__law_told_of pm__law_told_of an__law_told_of cd__law_told_of ct__law_told_of), sl__law_told_of⟩)
    (c__law_told_of : PySem.W.codeIn K cd__law_told_of "_law_told_of" = true)
    (k__law_told_of : PySem.W.keepIn K (.ref f__law_told_of) = true)
    (a_law : PySem.W.nsIn K mainGlobals "law" = some (some (.ref f_law)))
    (l_law : K.lookup f_law = some ⟨oc_law, od_law, .func (PySem.W.fnOf "law" "law" (defArgs (topS 20)) (defBody (topS 20)) (defScope (topS 20)) .none kV_law dc_law pm_law an_law cd_law ct_law), sl_law⟩)
    (c_law : PySem.W.codeIn K cd_law "law" = true)
    (k_law : PySem.W.keepIn K (.ref f_law) = true)
    (a_BadWeb : PySem.W.nsIn K mainGlobals "BadWeb" = some (some (.ref C_BadWeb)))
    (a_BadText : PySem.W.nsIn K mainGlobals "BadText" = some (some (.ref C_BadText)))
    (a_BadNumber : PySem.W.nsIn K mainGlobals "BadNumber" = some (some (.ref C_BadNumber)))
    (a_NoFires : PySem.W.nsIn K mainGlobals "NoFires" = some (some (.ref C_NoFires)))
    (a_NoDeed : PySem.W.nsIn K mainGlobals "NoDeed" = some (some (.ref C_NoDeed)))
    (a_NoLabel : PySem.W.nsIn K mainGlobals "NoLabel" = some (some (.ref C_NoLabel)))
    (a_NoPlace : PySem.W.nsIn K mainGlobals "NoPlace" = some (some (.ref C_NoPlace)))
    (a_NoLot : PySem.W.nsIn K mainGlobals "NoLot" = some (some (.ref C_NoLot)))
    (a_NoQuestion : PySem.W.nsIn K mainGlobals "NoQuestion" = some (some (.ref C_NoQuestion)))
    (a_NothingDone : PySem.W.nsIn K mainGlobals "NothingDone" = some (some (.ref C_NothingDone)))
    (xB_BadNumber : PySem.W.subIn K (.ref C_BadNumber) (.type "BaseException") = some true)
    (xY_BadNumber : PySem.W.typeIn K (.ref C_BadNumber) = some (.type "type"))
    (xD_BadNumber : PySem.W.hasDictIn K C_BadNumber = true)
    (xi_BadNumber : PySem.W.excInitIn K C_BadNumber HandSPX.veTail "ValueError.__new__" = true)
    (xf_BadNumber : PySem.W.findIn K (.ref C_BadNumber) "__init__" = some (some (.ref f_BadNumber___init__)))
    (xl_BadNumber : K.lookup f_BadNumber___init__ = some ⟨.type "function", od_BadNumber___init__, .func (PySem.W.ksFn "__init__" "BadNumber.__init__" (defArgs (inClass (topS 4) 0)) (defBody (inClass (topS 4) 0)) (defScope (inClass (topS 4) 0)) .none kV_BadNumber___init__ dc_BadNumber___init__ pm_BadNumber___init__ an_BadNumber___init__ (.ref cda_BadNumber___init__) ct_BadNumber___init__ cc_BadNumber___init__), sl_BadNumber___init__⟩)
    (xc_BadNumber : PySem.W.codeIn K (.ref cda_BadNumber___init__) "BadNumber.__init__" = true)
    (xk_BadNumber : K.lookup cda_BadNumber___init__ = some ⟨ccl_BadNumber___init__, cdd_BadNumber___init__, .fields vs_BadNumber___init__, ccs_BadNumber___init__⟩)
    (xv_BadNumber : vs_BadNumber___init__[2]? = some (.str fi_BadNumber___init__ tf_BadNumber___init__))
    (xp_BadNumber : ((l.prog.main.file : Str) == fi_BadNumber___init__) = true)
    (xe_BadNumber : K.lookup cc_BadNumber___init__ = some ⟨cl_BadNumber___init__, cld_BadNumber___init__, .cell (some (.ref C_BadNumber)), csl_BadNumber___init__⟩)
    (xm_BadNumber : PySem.W.mroIn K C_BadNumber (.ref C_BadNumber) = some true)
    (xq_BadNumber : PySem.W.ks_superIn K C_BadNumber C_BadNumber "__init__" = some (some (.builtin "ValueError.__init__")))
    (xsup : PySem.W.nsIn K mainGlobals "super" = some none)
    (xsta : PySem.W.nsIn K cStatics "thirdparty.any" = some none)
    (xh_top : (l.prog.main.scope.names.lookup ("super" : Str)).isSome = false)
    (xV_BadNumber : PySem.W.subIn K (.ref C_BadNumber) (.type "ValueError") = some true)
    (xK_BadNumber : PySem.W.keepIn K (.ref C_BadNumber) = true)
    (xS_BadNumber : PySem.W.findIn K (.ref C_BadNumber) "__setattr__" = some (some (.builtin "object.__setattr__")))
    (xB_BadText : PySem.W.subIn K (.ref C_BadText) (.type "BaseException") = some true)
    (xY_BadText : PySem.W.typeIn K (.ref C_BadText) = some (.type "type"))
    (xD_BadText : PySem.W.hasDictIn K C_BadText = true)
    (xi_BadText : PySem.W.excInitIn K C_BadText HandSPX.veTail "ValueError.__new__" = true)
    (xf_BadText : PySem.W.findIn K (.ref C_BadText) "__init__" = some (some (.ref f_BadText___init__)))
    (xl_BadText : K.lookup f_BadText___init__ = some ⟨.type "function", od_BadText___init__, .func (PySem.W.ksFn "__init__" "BadText.__init__" (defArgs (inClass (topS 3) 0)) (defBody (inClass (topS 3) 0)) (defScope (inClass (topS 3) 0)) .none kV_BadText___init__ dc_BadText___init__ pm_BadText___init__ an_BadText___init__ (.ref cda_BadText___init__) ct_BadText___init__ cc_BadText___init__), sl_BadText___init__⟩)
    (xc_BadText : PySem.W.codeIn K (.ref cda_BadText___init__) "BadText.__init__" = true)
    (xk_BadText : K.lookup cda_BadText___init__ = some ⟨ccl_BadText___init__, cdd_BadText___init__, .fields vs_BadText___init__, ccs_BadText___init__⟩)
    (xv_BadText : vs_BadText___init__[2]? = some (.str fi_BadText___init__ tf_BadText___init__))
    (xp_BadText : ((l.prog.main.file : Str) == fi_BadText___init__) = true)
    (xe_BadText : K.lookup cc_BadText___init__ = some ⟨cl_BadText___init__, cld_BadText___init__, .cell (some (.ref C_BadText)), csl_BadText___init__⟩)
    (xm_BadText : PySem.W.mroIn K C_BadText (.ref C_BadText) = some true)
    (xq_BadText : PySem.W.ks_superIn K C_BadText C_BadText "__init__" = some (some (.builtin "ValueError.__init__")))
    (xV_BadText : PySem.W.subIn K (.ref C_BadText) (.type "ValueError") = some true)
    (xK_BadText : PySem.W.keepIn K (.ref C_BadText) = true)
    (xS_BadText : PySem.W.findIn K (.ref C_BadText) "__setattr__" = some (some (.builtin "object.__setattr__")))
    (xB_BadWeb : PySem.W.subIn K (.ref C_BadWeb) (.type "BaseException") = some true)
    (xY_BadWeb : PySem.W.typeIn K (.ref C_BadWeb) = some (.type "type"))
    (xD_BadWeb : PySem.W.hasDictIn K C_BadWeb = true)
    (xi_BadWeb : PySem.W.excInitIn K C_BadWeb HandSPX.veTail "ValueError.__new__" = true)
    (xf_BadWeb : PySem.W.findIn K (.ref C_BadWeb) "__init__" = some (some (.ref f_BadWeb___init__)))
    (xl_BadWeb : K.lookup f_BadWeb___init__ = some ⟨.type "function", od_BadWeb___init__, .func (PySem.W.ksFn "__init__" "BadWeb.__init__" (defArgs (inClass (topS 2) 0)) (defBody (inClass (topS 2) 0)) (defScope (inClass (topS 2) 0)) .none kV_BadWeb___init__ dc_BadWeb___init__ pm_BadWeb___init__ an_BadWeb___init__ (.ref cda_BadWeb___init__) ct_BadWeb___init__ cc_BadWeb___init__), sl_BadWeb___init__⟩)
    (xc_BadWeb : PySem.W.codeIn K (.ref cda_BadWeb___init__) "BadWeb.__init__" = true)
    (xk_BadWeb : K.lookup cda_BadWeb___init__ = some ⟨ccl_BadWeb___init__, cdd_BadWeb___init__, .fields vs_BadWeb___init__, ccs_BadWeb___init__⟩)
    (xv_BadWeb : vs_BadWeb___init__[2]? = some (.str fi_BadWeb___init__ tf_BadWeb___init__))
    (xp_BadWeb : ((l.prog.main.file : Str) == fi_BadWeb___init__) = true)
    (xe_BadWeb : K.lookup cc_BadWeb___init__ = some ⟨cl_BadWeb___init__, cld_BadWeb___init__, .cell (some (.ref C_BadWeb)), csl_BadWeb___init__⟩)
    (xm_BadWeb : PySem.W.mroIn K C_BadWeb (.ref C_BadWeb) = some true)
    (xq_BadWeb : PySem.W.ks_superIn K C_BadWeb C_BadWeb "__init__" = some (some (.builtin "ValueError.__init__")))
    (xV_BadWeb : PySem.W.subIn K (.ref C_BadWeb) (.type "ValueError") = some true)
    (xK_BadWeb : PySem.W.keepIn K (.ref C_BadWeb) = true)
    (xS_BadWeb : PySem.W.findIn K (.ref C_BadWeb) "__setattr__" = some (some (.builtin "object.__setattr__")))
    (xB_NoDeed : PySem.W.subIn K (.ref C_NoDeed) (.type "BaseException") = some true)
    (xY_NoDeed : PySem.W.typeIn K (.ref C_NoDeed) = some (.type "type"))
    (xD_NoDeed : PySem.W.hasDictIn K C_NoDeed = true)
    (xi_NoDeed : PySem.W.excInitIn K C_NoDeed HandSPX.veTail "ValueError.__new__" = true)
    (xf_NoDeed : PySem.W.findIn K (.ref C_NoDeed) "__init__" = some (some (.ref f_NoDeed___init__)))
    (xl_NoDeed : K.lookup f_NoDeed___init__ = some ⟨.type "function", od_NoDeed___init__, .func (PySem.W.ksFn "__init__" "NoDeed.__init__" (defArgs (inClass (topS 8) 0)) (defBody (inClass (topS 8) 0)) (defScope (inClass (topS 8) 0)) .none kV_NoDeed___init__ dc_NoDeed___init__ pm_NoDeed___init__ an_NoDeed___init__ (.ref cda_NoDeed___init__) ct_NoDeed___init__ cc_NoDeed___init__), sl_NoDeed___init__⟩)
    (xc_NoDeed : PySem.W.codeIn K (.ref cda_NoDeed___init__) "NoDeed.__init__" = true)
    (xk_NoDeed : K.lookup cda_NoDeed___init__ = some ⟨ccl_NoDeed___init__, cdd_NoDeed___init__, .fields vs_NoDeed___init__, ccs_NoDeed___init__⟩)
    (xv_NoDeed : vs_NoDeed___init__[2]? = some (.str fi_NoDeed___init__ tf_NoDeed___init__))
    (xp_NoDeed : ((l.prog.main.file : Str) == fi_NoDeed___init__) = true)
    (xe_NoDeed : K.lookup cc_NoDeed___init__ = some ⟨cl_NoDeed___init__, cld_NoDeed___init__, .cell (some (.ref C_NoDeed)), csl_NoDeed___init__⟩)
    (xm_NoDeed : PySem.W.mroIn K C_NoDeed (.ref C_NoDeed) = some true)
    (xq_NoDeed : PySem.W.ks_superIn K C_NoDeed C_NoDeed "__init__" = some (some (.builtin "ValueError.__init__")))
    (xV_NoDeed : PySem.W.subIn K (.ref C_NoDeed) (.type "ValueError") = some true)
    (xK_NoDeed : PySem.W.keepIn K (.ref C_NoDeed) = true)
    (xS_NoDeed : PySem.W.findIn K (.ref C_NoDeed) "__setattr__" = some (some (.builtin "object.__setattr__")))
    (xB_NoFires : PySem.W.subIn K (.ref C_NoFires) (.type "BaseException") = some true)
    (xY_NoFires : PySem.W.typeIn K (.ref C_NoFires) = some (.type "type"))
    (xD_NoFires : PySem.W.hasDictIn K C_NoFires = true)
    (xi_NoFires : PySem.W.excInitIn K C_NoFires HandSPX.veTail "ValueError.__new__" = true)
    (xf_NoFires : PySem.W.findIn K (.ref C_NoFires) "__init__" = some (some (.ref f_NoFires___init__)))
    (xl_NoFires : K.lookup f_NoFires___init__ = some ⟨.type "function", od_NoFires___init__, .func (PySem.W.ksFn "__init__" "NoFires.__init__" (defArgs (inClass (topS 7) 0)) (defBody (inClass (topS 7) 0)) (defScope (inClass (topS 7) 0)) .none kV_NoFires___init__ dc_NoFires___init__ pm_NoFires___init__ an_NoFires___init__ (.ref cda_NoFires___init__) ct_NoFires___init__ cc_NoFires___init__), sl_NoFires___init__⟩)
    (xc_NoFires : PySem.W.codeIn K (.ref cda_NoFires___init__) "NoFires.__init__" = true)
    (xk_NoFires : K.lookup cda_NoFires___init__ = some ⟨ccl_NoFires___init__, cdd_NoFires___init__, .fields vs_NoFires___init__, ccs_NoFires___init__⟩)
    (xv_NoFires : vs_NoFires___init__[2]? = some (.str fi_NoFires___init__ tf_NoFires___init__))
    (xp_NoFires : ((l.prog.main.file : Str) == fi_NoFires___init__) = true)
    (xe_NoFires : K.lookup cc_NoFires___init__ = some ⟨cl_NoFires___init__, cld_NoFires___init__, .cell (some (.ref C_NoFires)), csl_NoFires___init__⟩)
    (xm_NoFires : PySem.W.mroIn K C_NoFires (.ref C_NoFires) = some true)
    (xq_NoFires : PySem.W.ks_superIn K C_NoFires C_NoFires "__init__" = some (some (.builtin "ValueError.__init__")))
    (xV_NoFires : PySem.W.subIn K (.ref C_NoFires) (.type "ValueError") = some true)
    (xK_NoFires : PySem.W.keepIn K (.ref C_NoFires) = true)
    (xS_NoFires : PySem.W.findIn K (.ref C_NoFires) "__setattr__" = some (some (.builtin "object.__setattr__")))
    (xB_NoLabel : PySem.W.subIn K (.ref C_NoLabel) (.type "BaseException") = some true)
    (xY_NoLabel : PySem.W.typeIn K (.ref C_NoLabel) = some (.type "type"))
    (xD_NoLabel : PySem.W.hasDictIn K C_NoLabel = true)
    (xi_NoLabel : PySem.W.excInitIn K C_NoLabel HandSPX.veTail "ValueError.__new__" = true)
    (xf_NoLabel : PySem.W.findIn K (.ref C_NoLabel) "__init__" = some (some (.ref f_NoLabel___init__)))
    (xl_NoLabel : K.lookup f_NoLabel___init__ = some ⟨.type "function", od_NoLabel___init__, .func (PySem.W.ksFn "__init__" "NoLabel.__init__" (defArgs (inClass (topS 9) 0)) (defBody (inClass (topS 9) 0)) (defScope (inClass (topS 9) 0)) .none kV_NoLabel___init__ dc_NoLabel___init__ pm_NoLabel___init__ an_NoLabel___init__ (.ref cda_NoLabel___init__) ct_NoLabel___init__ cc_NoLabel___init__), sl_NoLabel___init__⟩)
    (xc_NoLabel : PySem.W.codeIn K (.ref cda_NoLabel___init__) "NoLabel.__init__" = true)
    (xk_NoLabel : K.lookup cda_NoLabel___init__ = some ⟨ccl_NoLabel___init__, cdd_NoLabel___init__, .fields vs_NoLabel___init__, ccs_NoLabel___init__⟩)
    (xv_NoLabel : vs_NoLabel___init__[2]? = some (.str fi_NoLabel___init__ tf_NoLabel___init__))
    (xp_NoLabel : ((l.prog.main.file : Str) == fi_NoLabel___init__) = true)
    (xe_NoLabel : K.lookup cc_NoLabel___init__ = some ⟨cl_NoLabel___init__, cld_NoLabel___init__, .cell (some (.ref C_NoLabel)), csl_NoLabel___init__⟩)
    (xm_NoLabel : PySem.W.mroIn K C_NoLabel (.ref C_NoLabel) = some true)
    (xq_NoLabel : PySem.W.ks_superIn K C_NoLabel C_NoLabel "__init__" = some (some (.builtin "ValueError.__init__")))
    (xV_NoLabel : PySem.W.subIn K (.ref C_NoLabel) (.type "ValueError") = some true)
    (xK_NoLabel : PySem.W.keepIn K (.ref C_NoLabel) = true)
    (xS_NoLabel : PySem.W.findIn K (.ref C_NoLabel) "__setattr__" = some (some (.builtin "object.__setattr__")))
    (xB_NoLot : PySem.W.subIn K (.ref C_NoLot) (.type "BaseException") = some true)
    (xY_NoLot : PySem.W.typeIn K (.ref C_NoLot) = some (.type "type"))
    (xD_NoLot : PySem.W.hasDictIn K C_NoLot = true)
    (xi_NoLot : PySem.W.excInitIn K C_NoLot HandSPX.veTail "ValueError.__new__" = true)
    (xf_NoLot : PySem.W.findIn K (.ref C_NoLot) "__init__" = some (some (.ref f_NoLot___init__)))
    (xl_NoLot : K.lookup f_NoLot___init__ = some ⟨.type "function", od_NoLot___init__, .func (PySem.W.ksFn "__init__" "NoLot.__init__" (defArgs (inClass (topS 6) 0)) (defBody (inClass (topS 6) 0)) (defScope (inClass (topS 6) 0)) .none kV_NoLot___init__ dc_NoLot___init__ pm_NoLot___init__ an_NoLot___init__ (.ref cda_NoLot___init__) ct_NoLot___init__ cc_NoLot___init__), sl_NoLot___init__⟩)
    (xc_NoLot : PySem.W.codeIn K (.ref cda_NoLot___init__) "NoLot.__init__" = true)
    (xk_NoLot : K.lookup cda_NoLot___init__ = some ⟨ccl_NoLot___init__, cdd_NoLot___init__, .fields vs_NoLot___init__, ccs_NoLot___init__⟩)
    (xv_NoLot : vs_NoLot___init__[2]? = some (.str fi_NoLot___init__ tf_NoLot___init__))
    (xp_NoLot : ((l.prog.main.file : Str) == fi_NoLot___init__) = true)
    (xe_NoLot : K.lookup cc_NoLot___init__ = some ⟨cl_NoLot___init__, cld_NoLot___init__, .cell (some (.ref C_NoLot)), csl_NoLot___init__⟩)
    (xm_NoLot : PySem.W.mroIn K C_NoLot (.ref C_NoLot) = some true)
    (xq_NoLot : PySem.W.ks_superIn K C_NoLot C_NoLot "__init__" = some (some (.builtin "ValueError.__init__")))
    (xV_NoLot : PySem.W.subIn K (.ref C_NoLot) (.type "ValueError") = some true)
    (xK_NoLot : PySem.W.keepIn K (.ref C_NoLot) = true)
    (xS_NoLot : PySem.W.findIn K (.ref C_NoLot) "__setattr__" = some (some (.builtin "object.__setattr__")))
    (xB_NoPlace : PySem.W.subIn K (.ref C_NoPlace) (.type "BaseException") = some true)
    (xY_NoPlace : PySem.W.typeIn K (.ref C_NoPlace) = some (.type "type"))
    (xD_NoPlace : PySem.W.hasDictIn K C_NoPlace = true)
    (xi_NoPlace : PySem.W.excInitIn K C_NoPlace HandSPX.veTail "ValueError.__new__" = true)
    (xf_NoPlace : PySem.W.findIn K (.ref C_NoPlace) "__init__" = some (some (.ref f_NoPlace___init__)))
    (xl_NoPlace : K.lookup f_NoPlace___init__ = some ⟨.type "function", od_NoPlace___init__, .func (PySem.W.ksFn "__init__" "NoPlace.__init__" (defArgs (inClass (topS 5) 0)) (defBody (inClass (topS 5) 0)) (defScope (inClass (topS 5) 0)) .none kV_NoPlace___init__ dc_NoPlace___init__ pm_NoPlace___init__ an_NoPlace___init__ (.ref cda_NoPlace___init__) ct_NoPlace___init__ cc_NoPlace___init__), sl_NoPlace___init__⟩)
    (xc_NoPlace : PySem.W.codeIn K (.ref cda_NoPlace___init__) "NoPlace.__init__" = true)
    (xk_NoPlace : K.lookup cda_NoPlace___init__ = some ⟨ccl_NoPlace___init__, cdd_NoPlace___init__, .fields vs_NoPlace___init__, ccs_NoPlace___init__⟩)
    (xv_NoPlace : vs_NoPlace___init__[2]? = some (.str fi_NoPlace___init__ tf_NoPlace___init__))
    (xp_NoPlace : ((l.prog.main.file : Str) == fi_NoPlace___init__) = true)
    (xe_NoPlace : K.lookup cc_NoPlace___init__ = some ⟨cl_NoPlace___init__, cld_NoPlace___init__, .cell (some (.ref C_NoPlace)), csl_NoPlace___init__⟩)
    (xm_NoPlace : PySem.W.mroIn K C_NoPlace (.ref C_NoPlace) = some true)
    (xq_NoPlace : PySem.W.ks_superIn K C_NoPlace C_NoPlace "__init__" = some (some (.builtin "ValueError.__init__")))
    (xV_NoPlace : PySem.W.subIn K (.ref C_NoPlace) (.type "ValueError") = some true)
    (xK_NoPlace : PySem.W.keepIn K (.ref C_NoPlace) = true)
    (xS_NoPlace : PySem.W.findIn K (.ref C_NoPlace) "__setattr__" = some (some (.builtin "object.__setattr__")))
    (xB_NoQuestion : PySem.W.subIn K (.ref C_NoQuestion) (.type "BaseException") = some true)
    (xY_NoQuestion : PySem.W.typeIn K (.ref C_NoQuestion) = some (.type "type"))
    (xD_NoQuestion : PySem.W.hasDictIn K C_NoQuestion = true)
    (xi_NoQuestion : PySem.W.excInitIn K C_NoQuestion HandSPX.veTail "ValueError.__new__" = true)
    (xf_NoQuestion : PySem.W.findIn K (.ref C_NoQuestion) "__init__" = some (some (.ref f_NoQuestion___init__)))
    (xl_NoQuestion : K.lookup f_NoQuestion___init__ = some ⟨.type "function", od_NoQuestion___init__, .func (PySem.W.ksFn "__init__" "NoQuestion.__init__" (defArgs (inClass (topS 10) 0)) (defBody (inClass (topS 10) 0)) (defScope (inClass (topS 10) 0)) .none kV_NoQuestion___init__ dc_NoQuestion___init__ pm_NoQuestion___init__ an_NoQuestion___init__ (.ref cda_NoQuestion___init__) ct_NoQuestion___init__ cc_NoQuestion___init__), sl_NoQuestion___init__⟩)
    (xc_NoQuestion : PySem.W.codeIn K (.ref cda_NoQuestion___init__) "NoQuestion.__init__" = true)
    (xk_NoQuestion : K.lookup cda_NoQuestion___init__ = some ⟨ccl_NoQuestion___init__, cdd_NoQuestion___init__, .fields vs_NoQuestion___init__, ccs_NoQuestion___init__⟩)
    (xv_NoQuestion : vs_NoQuestion___init__[2]? = some (.str fi_NoQuestion___init__ tf_NoQuestion___init__))
    (xp_NoQuestion : ((l.prog.main.file : Str) == fi_NoQuestion___init__) = true)
    (xe_NoQuestion : K.lookup cc_NoQuestion___init__ = some ⟨cl_NoQuestion___init__, cld_NoQuestion___init__, .cell (some (.ref C_NoQuestion)), csl_NoQuestion___init__⟩)
    (xm_NoQuestion : PySem.W.mroIn K C_NoQuestion (.ref C_NoQuestion) = some true)
    (xq_NoQuestion : PySem.W.ks_superIn K C_NoQuestion C_NoQuestion "__init__" = some (some (.builtin "ValueError.__init__")))
    (xV_NoQuestion : PySem.W.subIn K (.ref C_NoQuestion) (.type "ValueError") = some true)
    (xK_NoQuestion : PySem.W.keepIn K (.ref C_NoQuestion) = true)
    (xS_NoQuestion : PySem.W.findIn K (.ref C_NoQuestion) "__setattr__" = some (some (.builtin "object.__setattr__")))
    (xB_NothingDone : PySem.W.subIn K (.ref C_NothingDone) (.type "BaseException") = some true)
    (xY_NothingDone : PySem.W.typeIn K (.ref C_NothingDone) = some (.type "type"))
    (xD_NothingDone : PySem.W.hasDictIn K C_NothingDone = true)
    (xi_NothingDone : PySem.W.excInitIn K C_NothingDone HandSPX.veTail "ValueError.__new__" = true)
    (xf_NothingDone : PySem.W.findIn K (.ref C_NothingDone) "__init__" = some (some (.ref f_NothingDone___init__)))
    (xl_NothingDone : K.lookup f_NothingDone___init__ = some ⟨.type "function", od_NothingDone___init__, .func (PySem.W.ksFn "__init__" "NothingDone.__init__" (defArgs (inClass (topS 11) 0)) (defBody (inClass (topS 11) 0)) (defScope (inClass (topS 11) 0)) .none kV_NothingDone___init__ dc_NothingDone___init__ pm_NothingDone___init__ an_NothingDone___init__ (.ref cda_NothingDone___init__) ct_NothingDone___init__ cc_NothingDone___init__), sl_NothingDone___init__⟩)
    (xc_NothingDone : PySem.W.codeIn K (.ref cda_NothingDone___init__) "NothingDone.__init__" = true)
    (xk_NothingDone : K.lookup cda_NothingDone___init__ = some ⟨ccl_NothingDone___init__, cdd_NothingDone___init__, .fields vs_NothingDone___init__, ccs_NothingDone___init__⟩)
    (xv_NothingDone : vs_NothingDone___init__[2]? = some (.str fi_NothingDone___init__ tf_NothingDone___init__))
    (xp_NothingDone : ((l.prog.main.file : Str) == fi_NothingDone___init__) = true)
    (xe_NothingDone : K.lookup cc_NothingDone___init__ = some ⟨cl_NothingDone___init__, cld_NothingDone___init__, .cell (some (.ref C_NothingDone)), csl_NothingDone___init__⟩)
    (xm_NothingDone : PySem.W.mroIn K C_NothingDone (.ref C_NothingDone) = some true)
    (xq_NothingDone : PySem.W.ks_superIn K C_NothingDone C_NothingDone "__init__" = some (some (.builtin "ValueError.__init__")))
    (xV_NothingDone : PySem.W.subIn K (.ref C_NothingDone) (.type "ValueError") = some true)
    (xK_NothingDone : PySem.W.keepIn K (.ref C_NothingDone) = true)
    (xS_NothingDone : PySem.W.findIn K (.ref C_NothingDone) "__setattr__" = some (some (.builtin "object.__setattr__")))
    (xna_BadNumber_value : PySem.W.findIn K (.ref C_BadNumber) "value" = some none)
    (xna_BadText_line : PySem.W.findIn K (.ref C_BadText) "line" = some none)
    (xna_BadText_what : PySem.W.findIn K (.ref C_BadText) "what" = some none)
    (xna_BadWeb_what : PySem.W.findIn K (.ref C_BadWeb) "what" = some none)
    (xna_NoDeed_at : PySem.W.findIn K (.ref C_NoDeed) "at" = some none)
    (xna_NoFires_at : PySem.W.findIn K (.ref C_NoFires) "at" = some none)
    (xna_NoLabel_at : PySem.W.findIn K (.ref C_NoLabel) "at" = some none)
    (yga_NoFires : PySem.W.findIn K (.ref C_NoFires) "__getattribute__" = some (some (.builtin "BaseException.__getattribute__")))
    (ygg_NoFires : PySem.W.findIn K (.ref C_NoFires) "__getattr__" = some none)
    (ybs_NoFires : PySem.W.subIn K (.ref C_NoFires) (.type "BaseException") = some true)
    (yhd_NoFires : PySem.W.hasDictIn K C_NoFires = true)
    (yha_NoFires : PySem.W.findIn K (.ref C_NoFires) "__class__" = some (some (.builtin "object.__class__")))
    (yhm_NoFires : PySem.W.mroIn K C_NoFires (.type "object") = some true)
    (yhn_ : PySem.W.specialIn K (.builtin "object.__class__") "__get__" = some (some (.builtin "getset_descriptor.__get__")))
    (yht_ : PySem.W.takesIn K (.builtin "object.__class__") = some true)
    (yga_NoDeed : PySem.W.findIn K (.ref C_NoDeed) "__getattribute__" = some (some (.builtin "BaseException.__getattribute__")))
    (ygg_NoDeed : PySem.W.findIn K (.ref C_NoDeed) "__getattr__" = some none)
    (ybs_NoDeed : PySem.W.subIn K (.ref C_NoDeed) (.type "BaseException") = some true)
    (yhd_NoDeed : PySem.W.hasDictIn K C_NoDeed = true)
    (yha_NoDeed : PySem.W.findIn K (.ref C_NoDeed) "__class__" = some (some (.builtin "object.__class__")))
    (yhm_NoDeed : PySem.W.mroIn K C_NoDeed (.type "object") = some true)
    (yga_NoLabel : PySem.W.findIn K (.ref C_NoLabel) "__getattribute__" = some (some (.builtin "BaseException.__getattribute__")))
    (ygg_NoLabel : PySem.W.findIn K (.ref C_NoLabel) "__getattr__" = some none)
    (ybs_NoLabel : PySem.W.subIn K (.ref C_NoLabel) (.type "BaseException") = some true)
    (yhd_NoLabel : PySem.W.hasDictIn K C_NoLabel = true)
    (yha_NoLabel : PySem.W.findIn K (.ref C_NoLabel) "__class__" = some (some (.builtin "object.__class__")))
    (yhm_NoLabel : PySem.W.mroIn K C_NoLabel (.type "object") = some true)
    (yga_BadText : PySem.W.findIn K (.ref C_BadText) "__getattribute__" = some (some (.builtin "BaseException.__getattribute__")))
    (ygg_BadText : PySem.W.findIn K (.ref C_BadText) "__getattr__" = some none)
    (ybs_BadText : PySem.W.subIn K (.ref C_BadText) (.type "BaseException") = some true)
    (yhd_BadText : PySem.W.hasDictIn K C_BadText = true)
    (yha_BadText : PySem.W.findIn K (.ref C_BadText) "__class__" = some (some (.builtin "object.__class__")))
    (yhm_BadText : PySem.W.mroIn K C_BadText (.type "object") = some true)
    (yga_BadNumber : PySem.W.findIn K (.ref C_BadNumber) "__getattribute__" = some (some (.builtin "BaseException.__getattribute__")))
    (ygg_BadNumber : PySem.W.findIn K (.ref C_BadNumber) "__getattr__" = some none)
    (ybs_BadNumber : PySem.W.subIn K (.ref C_BadNumber) (.type "BaseException") = some true)
    (yhd_BadNumber : PySem.W.hasDictIn K C_BadNumber = true)
    (yha_BadNumber : PySem.W.findIn K (.ref C_BadNumber) "__class__" = some (some (.builtin "object.__class__")))
    (yhm_BadNumber : PySem.W.mroIn K C_BadNumber (.type "object") = some true)
    (yga_BadWeb : PySem.W.findIn K (.ref C_BadWeb) "__getattribute__" = some (some (.builtin "BaseException.__getattribute__")))
    (ygg_BadWeb : PySem.W.findIn K (.ref C_BadWeb) "__getattr__" = some none)
    (ybs_BadWeb : PySem.W.subIn K (.ref C_BadWeb) (.type "BaseException") = some true)
    (yhd_BadWeb : PySem.W.hasDictIn K C_BadWeb = true)
    (yha_BadWeb : PySem.W.findIn K (.ref C_BadWeb) "__class__" = some (some (.builtin "object.__class__")))
    (yhm_BadWeb : PySem.W.mroIn K C_BadWeb (.type "object") = some true)
    (a_LightError : PySem.W.nsIn K mainGlobals "LightError" = some (some (.ref C_LightError)))
    (yc_BadNumber : PySem.W.isClsIn K C_BadNumber = true)
    (yt_BadNumber : PySem.W.typeIn K (.ref C_BadNumber) = some (.type "type"))
    (ym_BadNumber_BadNumber : PySem.W.mroIn K C_BadNumber (.ref C_BadNumber) = some true)
    (ym_BadWeb_BadNumber : PySem.W.mroIn K C_BadWeb (.ref C_BadNumber) = some false)
    (ym_BadText_BadNumber : PySem.W.mroIn K C_BadText (.ref C_BadNumber) = some false)
    (ym_NoFires_BadNumber : PySem.W.mroIn K C_NoFires (.ref C_BadNumber) = some false)
    (ym_NoDeed_BadNumber : PySem.W.mroIn K C_NoDeed (.ref C_BadNumber) = some false)
    (ym_NoLabel_BadNumber : PySem.W.mroIn K C_NoLabel (.ref C_BadNumber) = some false)
    (yga_NoPlace : PySem.W.findIn K (.ref C_NoPlace) "__getattribute__" = some (some (.builtin "BaseException.__getattribute__")))
    (ygg_NoPlace : PySem.W.findIn K (.ref C_NoPlace) "__getattr__" = some none)
    (ybs_NoPlace : PySem.W.subIn K (.ref C_NoPlace) (.type "BaseException") = some true)
    (yhd_NoPlace : PySem.W.hasDictIn K C_NoPlace = true)
    (yha_NoPlace : PySem.W.findIn K (.ref C_NoPlace) "__class__" = some (some (.builtin "object.__class__")))
    (yhm_NoPlace : PySem.W.mroIn K C_NoPlace (.type "object") = some true)
    (ym_NoPlace_BadNumber : PySem.W.mroIn K C_NoPlace (.ref C_BadNumber) = some false)
    (yga_NoLot : PySem.W.findIn K (.ref C_NoLot) "__getattribute__" = some (some (.builtin "BaseException.__getattribute__")))
    (ygg_NoLot : PySem.W.findIn K (.ref C_NoLot) "__getattr__" = some none)
    (ybs_NoLot : PySem.W.subIn K (.ref C_NoLot) (.type "BaseException") = some true)
    (yhd_NoLot : PySem.W.hasDictIn K C_NoLot = true)
    (yha_NoLot : PySem.W.findIn K (.ref C_NoLot) "__class__" = some (some (.builtin "object.__class__")))
    (yhm_NoLot : PySem.W.mroIn K C_NoLot (.type "object") = some true)
    (ym_NoLot_BadNumber : PySem.W.mroIn K C_NoLot (.ref C_BadNumber) = some false)
    (yga_NoQuestion : PySem.W.findIn K (.ref C_NoQuestion) "__getattribute__" = some (some (.builtin "BaseException.__getattribute__")))
    (ygg_NoQuestion : PySem.W.findIn K (.ref C_NoQuestion) "__getattr__" = some none)
    (ybs_NoQuestion : PySem.W.subIn K (.ref C_NoQuestion) (.type "BaseException") = some true)
    (yhd_NoQuestion : PySem.W.hasDictIn K C_NoQuestion = true)
    (yha_NoQuestion : PySem.W.findIn K (.ref C_NoQuestion) "__class__" = some (some (.builtin "object.__class__")))
    (yhm_NoQuestion : PySem.W.mroIn K C_NoQuestion (.type "object") = some true)
    (ym_NoQuestion_BadNumber : PySem.W.mroIn K C_NoQuestion (.ref C_BadNumber) = some false)
    (yga_NothingDone : PySem.W.findIn K (.ref C_NothingDone) "__getattribute__" = some (some (.builtin "BaseException.__getattribute__")))
    (ygg_NothingDone : PySem.W.findIn K (.ref C_NothingDone) "__getattr__" = some none)
    (ybs_NothingDone : PySem.W.subIn K (.ref C_NothingDone) (.type "BaseException") = some true)
    (yhd_NothingDone : PySem.W.hasDictIn K C_NothingDone = true)
    (yha_NothingDone : PySem.W.findIn K (.ref C_NothingDone) "__class__" = some (some (.builtin "object.__class__")))
    (yhm_NothingDone : PySem.W.mroIn K C_NothingDone (.type "object") = some true)
    (ym_NothingDone_BadNumber : PySem.W.mroIn K C_NothingDone (.ref C_BadNumber) = some false)
    (yga_LightError : PySem.W.findIn K (.ref C_LightError) "__getattribute__" = some (some (.builtin "BaseException.__getattribute__")))
    (ygg_LightError : PySem.W.findIn K (.ref C_LightError) "__getattr__" = some none)
    (ybs_LightError : PySem.W.subIn K (.ref C_LightError) (.type "BaseException") = some true)
    (yhd_LightError : PySem.W.hasDictIn K C_LightError = true)
    (yha_LightError : PySem.W.findIn K (.ref C_LightError) "__class__" = some (some (.builtin "object.__class__")))
    (yhm_LightError : PySem.W.mroIn K C_LightError (.type "object") = some true)
    (ym_LightError_BadNumber : PySem.W.mroIn K C_LightError (.ref C_BadNumber) = some false)
    (yc_BadText : PySem.W.isClsIn K C_BadText = true)
    (yt_BadText : PySem.W.typeIn K (.ref C_BadText) = some (.type "type"))
    (ym_BadText_BadText : PySem.W.mroIn K C_BadText (.ref C_BadText) = some true)
    (ym_BadWeb_BadText : PySem.W.mroIn K C_BadWeb (.ref C_BadText) = some false)
    (ym_BadNumber_BadText : PySem.W.mroIn K C_BadNumber (.ref C_BadText) = some false)
    (ym_NoFires_BadText : PySem.W.mroIn K C_NoFires (.ref C_BadText) = some false)
    (ym_NoDeed_BadText : PySem.W.mroIn K C_NoDeed (.ref C_BadText) = some false)
    (ym_NoLabel_BadText : PySem.W.mroIn K C_NoLabel (.ref C_BadText) = some false)
    (ym_NoPlace_BadText : PySem.W.mroIn K C_NoPlace (.ref C_BadText) = some false)
    (ym_NoLot_BadText : PySem.W.mroIn K C_NoLot (.ref C_BadText) = some false)
    (ym_NoQuestion_BadText : PySem.W.mroIn K C_NoQuestion (.ref C_BadText) = some false)
    (ym_NothingDone_BadText : PySem.W.mroIn K C_NothingDone (.ref C_BadText) = some false)
    (ym_LightError_BadText : PySem.W.mroIn K C_LightError (.ref C_BadText) = some false)
    (yc_BadWeb : PySem.W.isClsIn K C_BadWeb = true)
    (yt_BadWeb : PySem.W.typeIn K (.ref C_BadWeb) = some (.type "type"))
    (ym_BadWeb_BadWeb : PySem.W.mroIn K C_BadWeb (.ref C_BadWeb) = some true)
    (ym_BadText_BadWeb : PySem.W.mroIn K C_BadText (.ref C_BadWeb) = some false)
    (ym_BadNumber_BadWeb : PySem.W.mroIn K C_BadNumber (.ref C_BadWeb) = some false)
    (ym_NoFires_BadWeb : PySem.W.mroIn K C_NoFires (.ref C_BadWeb) = some false)
    (ym_NoDeed_BadWeb : PySem.W.mroIn K C_NoDeed (.ref C_BadWeb) = some false)
    (ym_NoLabel_BadWeb : PySem.W.mroIn K C_NoLabel (.ref C_BadWeb) = some false)
    (ym_NoPlace_BadWeb : PySem.W.mroIn K C_NoPlace (.ref C_BadWeb) = some false)
    (ym_NoLot_BadWeb : PySem.W.mroIn K C_NoLot (.ref C_BadWeb) = some false)
    (ym_NoQuestion_BadWeb : PySem.W.mroIn K C_NoQuestion (.ref C_BadWeb) = some false)
    (ym_NothingDone_BadWeb : PySem.W.mroIn K C_NothingDone (.ref C_BadWeb) = some false)
    (ym_LightError_BadWeb : PySem.W.mroIn K C_LightError (.ref C_BadWeb) = some false)
    (yc_LightError : PySem.W.isClsIn K C_LightError = true)
    (yt_LightError : PySem.W.typeIn K (.ref C_LightError) = some (.type "type"))
    (ym_LightError_LightError : PySem.W.mroIn K C_LightError (.ref C_LightError) = some true)
    (ym_BadWeb_LightError : PySem.W.mroIn K C_BadWeb (.ref C_LightError) = some true)
    (ym_BadText_LightError : PySem.W.mroIn K C_BadText (.ref C_LightError) = some true)
    (ym_BadNumber_LightError : PySem.W.mroIn K C_BadNumber (.ref C_LightError) = some true)
    (ym_NoFires_LightError : PySem.W.mroIn K C_NoFires (.ref C_LightError) = some true)
    (ym_NoDeed_LightError : PySem.W.mroIn K C_NoDeed (.ref C_LightError) = some true)
    (ym_NoLabel_LightError : PySem.W.mroIn K C_NoLabel (.ref C_LightError) = some true)
    (ym_NoPlace_LightError : PySem.W.mroIn K C_NoPlace (.ref C_LightError) = some true)
    (ym_NoLot_LightError : PySem.W.mroIn K C_NoLot (.ref C_LightError) = some true)
    (ym_NoQuestion_LightError : PySem.W.mroIn K C_NoQuestion (.ref C_LightError) = some true)
    (ym_NothingDone_LightError : PySem.W.mroIn K C_NothingDone (.ref C_LightError) = some true)
    (yc_NoDeed : PySem.W.isClsIn K C_NoDeed = true)
    (yt_NoDeed : PySem.W.typeIn K (.ref C_NoDeed) = some (.type "type"))
    (ym_NoDeed_NoDeed : PySem.W.mroIn K C_NoDeed (.ref C_NoDeed) = some true)
    (ym_BadWeb_NoDeed : PySem.W.mroIn K C_BadWeb (.ref C_NoDeed) = some false)
    (ym_BadText_NoDeed : PySem.W.mroIn K C_BadText (.ref C_NoDeed) = some false)
    (ym_BadNumber_NoDeed : PySem.W.mroIn K C_BadNumber (.ref C_NoDeed) = some false)
    (ym_NoFires_NoDeed : PySem.W.mroIn K C_NoFires (.ref C_NoDeed) = some false)
    (ym_NoLabel_NoDeed : PySem.W.mroIn K C_NoLabel (.ref C_NoDeed) = some false)
    (ym_NoPlace_NoDeed : PySem.W.mroIn K C_NoPlace (.ref C_NoDeed) = some false)
    (ym_NoLot_NoDeed : PySem.W.mroIn K C_NoLot (.ref C_NoDeed) = some false)
    (ym_NoQuestion_NoDeed : PySem.W.mroIn K C_NoQuestion (.ref C_NoDeed) = some false)
    (ym_NothingDone_NoDeed : PySem.W.mroIn K C_NothingDone (.ref C_NoDeed) = some false)
    (ym_LightError_NoDeed : PySem.W.mroIn K C_LightError (.ref C_NoDeed) = some false)
    (yc_NoFires : PySem.W.isClsIn K C_NoFires = true)
    (yt_NoFires : PySem.W.typeIn K (.ref C_NoFires) = some (.type "type"))
    (ym_NoFires_NoFires : PySem.W.mroIn K C_NoFires (.ref C_NoFires) = some true)
    (ym_BadWeb_NoFires : PySem.W.mroIn K C_BadWeb (.ref C_NoFires) = some false)
    (ym_BadText_NoFires : PySem.W.mroIn K C_BadText (.ref C_NoFires) = some false)
    (ym_BadNumber_NoFires : PySem.W.mroIn K C_BadNumber (.ref C_NoFires) = some false)
    (ym_NoDeed_NoFires : PySem.W.mroIn K C_NoDeed (.ref C_NoFires) = some false)
    (ym_NoLabel_NoFires : PySem.W.mroIn K C_NoLabel (.ref C_NoFires) = some false)
    (ym_NoPlace_NoFires : PySem.W.mroIn K C_NoPlace (.ref C_NoFires) = some false)
    (ym_NoLot_NoFires : PySem.W.mroIn K C_NoLot (.ref C_NoFires) = some false)
    (ym_NoQuestion_NoFires : PySem.W.mroIn K C_NoQuestion (.ref C_NoFires) = some false)
    (ym_NothingDone_NoFires : PySem.W.mroIn K C_NothingDone (.ref C_NoFires) = some false)
    (ym_LightError_NoFires : PySem.W.mroIn K C_LightError (.ref C_NoFires) = some false)
    (yc_NoLabel : PySem.W.isClsIn K C_NoLabel = true)
    (yt_NoLabel : PySem.W.typeIn K (.ref C_NoLabel) = some (.type "type"))
    (ym_NoLabel_NoLabel : PySem.W.mroIn K C_NoLabel (.ref C_NoLabel) = some true)
    (ym_BadWeb_NoLabel : PySem.W.mroIn K C_BadWeb (.ref C_NoLabel) = some false)
    (ym_BadText_NoLabel : PySem.W.mroIn K C_BadText (.ref C_NoLabel) = some false)
    (ym_BadNumber_NoLabel : PySem.W.mroIn K C_BadNumber (.ref C_NoLabel) = some false)
    (ym_NoFires_NoLabel : PySem.W.mroIn K C_NoFires (.ref C_NoLabel) = some false)
    (ym_NoDeed_NoLabel : PySem.W.mroIn K C_NoDeed (.ref C_NoLabel) = some false)
    (ym_NoPlace_NoLabel : PySem.W.mroIn K C_NoPlace (.ref C_NoLabel) = some false)
    (ym_NoLot_NoLabel : PySem.W.mroIn K C_NoLot (.ref C_NoLabel) = some false)
    (ym_NoQuestion_NoLabel : PySem.W.mroIn K C_NoQuestion (.ref C_NoLabel) = some false)
    (ym_NothingDone_NoLabel : PySem.W.mroIn K C_NothingDone (.ref C_NoLabel) = some false)
    (ym_LightError_NoLabel : PySem.W.mroIn K C_LightError (.ref C_NoLabel) = some false)
    (yc_NoLot : PySem.W.isClsIn K C_NoLot = true)
    (yt_NoLot : PySem.W.typeIn K (.ref C_NoLot) = some (.type "type"))
    (ym_NoLot_NoLot : PySem.W.mroIn K C_NoLot (.ref C_NoLot) = some true)
    (ym_BadWeb_NoLot : PySem.W.mroIn K C_BadWeb (.ref C_NoLot) = some false)
    (ym_BadText_NoLot : PySem.W.mroIn K C_BadText (.ref C_NoLot) = some false)
    (ym_BadNumber_NoLot : PySem.W.mroIn K C_BadNumber (.ref C_NoLot) = some false)
    (ym_NoFires_NoLot : PySem.W.mroIn K C_NoFires (.ref C_NoLot) = some false)
    (ym_NoDeed_NoLot : PySem.W.mroIn K C_NoDeed (.ref C_NoLot) = some false)
    (ym_NoLabel_NoLot : PySem.W.mroIn K C_NoLabel (.ref C_NoLot) = some false)
    (ym_NoPlace_NoLot : PySem.W.mroIn K C_NoPlace (.ref C_NoLot) = some false)
    (ym_NoQuestion_NoLot : PySem.W.mroIn K C_NoQuestion (.ref C_NoLot) = some false)
    (ym_NothingDone_NoLot : PySem.W.mroIn K C_NothingDone (.ref C_NoLot) = some false)
    (ym_LightError_NoLot : PySem.W.mroIn K C_LightError (.ref C_NoLot) = some false)
    (yc_NoPlace : PySem.W.isClsIn K C_NoPlace = true)
    (yt_NoPlace : PySem.W.typeIn K (.ref C_NoPlace) = some (.type "type"))
    (ym_NoPlace_NoPlace : PySem.W.mroIn K C_NoPlace (.ref C_NoPlace) = some true)
    (ym_BadWeb_NoPlace : PySem.W.mroIn K C_BadWeb (.ref C_NoPlace) = some false)
    (ym_BadText_NoPlace : PySem.W.mroIn K C_BadText (.ref C_NoPlace) = some false)
    (ym_BadNumber_NoPlace : PySem.W.mroIn K C_BadNumber (.ref C_NoPlace) = some false)
    (ym_NoFires_NoPlace : PySem.W.mroIn K C_NoFires (.ref C_NoPlace) = some false)
    (ym_NoDeed_NoPlace : PySem.W.mroIn K C_NoDeed (.ref C_NoPlace) = some false)
    (ym_NoLabel_NoPlace : PySem.W.mroIn K C_NoLabel (.ref C_NoPlace) = some false)
    (ym_NoLot_NoPlace : PySem.W.mroIn K C_NoLot (.ref C_NoPlace) = some false)
    (ym_NoQuestion_NoPlace : PySem.W.mroIn K C_NoQuestion (.ref C_NoPlace) = some false)
    (ym_NothingDone_NoPlace : PySem.W.mroIn K C_NothingDone (.ref C_NoPlace) = some false)
    (ym_LightError_NoPlace : PySem.W.mroIn K C_LightError (.ref C_NoPlace) = some false)
    (yc_NoQuestion : PySem.W.isClsIn K C_NoQuestion = true)
    (yt_NoQuestion : PySem.W.typeIn K (.ref C_NoQuestion) = some (.type "type"))
    (ym_NoQuestion_NoQuestion : PySem.W.mroIn K C_NoQuestion (.ref C_NoQuestion) = some true)
    (ym_BadWeb_NoQuestion : PySem.W.mroIn K C_BadWeb (.ref C_NoQuestion) = some false)
    (ym_BadText_NoQuestion : PySem.W.mroIn K C_BadText (.ref C_NoQuestion) = some false)
    (ym_BadNumber_NoQuestion : PySem.W.mroIn K C_BadNumber (.ref C_NoQuestion) = some false)
    (ym_NoFires_NoQuestion : PySem.W.mroIn K C_NoFires (.ref C_NoQuestion) = some false)
    (ym_NoDeed_NoQuestion : PySem.W.mroIn K C_NoDeed (.ref C_NoQuestion) = some false)
    (ym_NoLabel_NoQuestion : PySem.W.mroIn K C_NoLabel (.ref C_NoQuestion) = some false)
    (ym_NoPlace_NoQuestion : PySem.W.mroIn K C_NoPlace (.ref C_NoQuestion) = some false)
    (ym_NoLot_NoQuestion : PySem.W.mroIn K C_NoLot (.ref C_NoQuestion) = some false)
    (ym_NothingDone_NoQuestion : PySem.W.mroIn K C_NothingDone (.ref C_NoQuestion) = some false)
    (ym_LightError_NoQuestion : PySem.W.mroIn K C_LightError (.ref C_NoQuestion) = some false)
    (yc_NothingDone : PySem.W.isClsIn K C_NothingDone = true)
    (yt_NothingDone : PySem.W.typeIn K (.ref C_NothingDone) = some (.type "type"))
    (ym_NothingDone_NothingDone : PySem.W.mroIn K C_NothingDone (.ref C_NothingDone) = some true)
    (ym_BadWeb_NothingDone : PySem.W.mroIn K C_BadWeb (.ref C_NothingDone) = some false)
    (ym_BadText_NothingDone : PySem.W.mroIn K C_BadText (.ref C_NothingDone) = some false)
    (ym_BadNumber_NothingDone : PySem.W.mroIn K C_BadNumber (.ref C_NothingDone) = some false)
    (ym_NoFires_NothingDone : PySem.W.mroIn K C_NoFires (.ref C_NothingDone) = some false)
    (ym_NoDeed_NothingDone : PySem.W.mroIn K C_NoDeed (.ref C_NothingDone) = some false)
    (ym_NoLabel_NothingDone : PySem.W.mroIn K C_NoLabel (.ref C_NothingDone) = some false)
    (ym_NoPlace_NothingDone : PySem.W.mroIn K C_NoPlace (.ref C_NothingDone) = some false)
    (ym_NoLot_NothingDone : PySem.W.mroIn K C_NoLot (.ref C_NothingDone) = some false)
    (ym_NoQuestion_NothingDone : PySem.W.mroIn K C_NoQuestion (.ref C_NothingDone) = some false)
    (ym_LightError_NothingDone : PySem.W.mroIn K C_LightError (.ref C_NothingDone) = some false)
    (ym_BadWeb_ValueError : PySem.W.mroIn K C_BadWeb (.type "ValueError") = some true)
    (ym_BadText_ValueError : PySem.W.mroIn K C_BadText (.type "ValueError") = some true)
    (ym_BadNumber_ValueError : PySem.W.mroIn K C_BadNumber (.type "ValueError") = some true)
    (ym_NoFires_ValueError : PySem.W.mroIn K C_NoFires (.type "ValueError") = some true)
    (ym_NoDeed_ValueError : PySem.W.mroIn K C_NoDeed (.type "ValueError") = some true)
    (ym_NoLabel_ValueError : PySem.W.mroIn K C_NoLabel (.type "ValueError") = some true)
    (ym_NoPlace_ValueError : PySem.W.mroIn K C_NoPlace (.type "ValueError") = some true)
    (ym_NoLot_ValueError : PySem.W.mroIn K C_NoLot (.type "ValueError") = some true)
    (ym_NoQuestion_ValueError : PySem.W.mroIn K C_NoQuestion (.type "ValueError") = some true)
    (ym_NothingDone_ValueError : PySem.W.mroIn K C_NothingDone (.type "ValueError") = some true)
    (ym_LightError_ValueError : PySem.W.mroIn K C_LightError (.type "ValueError") = some true)
    (yk_LightError : PySem.W.keepIn K (.ref C_LightError) = true)
    (yw_LightError : PySem.W.excIn K C_LightError [.type "ValueError", .type "Exception", .type "BaseException", .type "object"] "ValueError.__new__" = true)
    (z_ValueError : PySem.W.nsIn K mainGlobals "ValueError" = some none)
    (z_abs : PySem.W.nsIn K mainGlobals "abs" = some none)
    (z_enumerate : PySem.W.nsIn K mainGlobals "enumerate" = some none)
    (z_int : PySem.W.nsIn K mainGlobals "int" = some none)
    (z_isinstance : PySem.W.nsIn K mainGlobals "isinstance" = some none)
    (z_len : PySem.W.nsIn K mainGlobals "len" = some none)
    (z_range : PySem.W.nsIn K mainGlobals "range" = some none)
    (z_repr : PySem.W.nsIn K mainGlobals "repr" = some none)
    (keeps : LawKeeps sem_law_k00) : ∃ fd : FuncData, (∀ (s : Shared) (v : Value), BindsTo s fd ⟨[v], []⟩ [("script", v)]) ∧ ∀ base : Heap, K.In base → base.Ns mainGlobals mg → TabsB base K mg → FnG l.prog w K mg base 10 fa fd ["script"] (spL K mg) := by
  have e := hfa.symm.trans (PySem.W.mg_of X G a_law)
  cases e
  have F__law_draw := fun_mk (st := (topS 14)) l__law_draw c__law_draw k__law_draw
  have b__law_draw := F__law_draw.binds (ps := ["pot", "many"]) fun _ _ _ _ _ _ us hl => match us, hl with | [_, _], _ => rfl
  have F__law_kinds := fun_mk (st := (topS 17)) l__law_kinds c__law_kinds k__law_kinds
  have b__law_kinds := F__law_kinds.binds (ps := ["error"]) fun _ _ _ _ _ _ us hl => match us, hl with | [_], _ => rfl
  have F__law_pick := fun_mk (st := (topS 15)) l__law_pick c__law_pick k__law_pick
  have b__law_pick := F__law_pick.binds (ps := ["pot", "row"]) fun _ _ _ _ _ _ us hl => match us, hl with | [_, _], _ => rfl
  have F__law_pot := fun_mk (st := (topS 13)) l__law_pot c__law_pot k__law_pot
  have b__law_pot := F__law_pot.binds (ps := ["script"]) fun _ _ _ _ _ _ us hl => match us, hl with | [_], _ => rfl
  have F__law_rows := fun_mk (st := (topS 18)) l__law_rows c__law_rows k__law_rows
  have b__law_rows := F__law_rows.binds (ps := ["a", "b"]) fun _ _ _ _ _ _ us hl => match us, hl with | [_, _], _ => rfl
  have F__law_thing := fun_mk (st := (topS 16)) l__law_thing c__law_thing k__law_thing
  have b__law_thing := F__law_thing.binds (ps := ["pot"]) fun _ _ _ _ _ _ us hl => match us, hl with | [_], _ => rfl
  have F__law_told_of := fun_mk (st := (topS 19)) l__law_told_of c__law_told_of k__law_told_of
  have b__law_told_of := F__law_told_of.binds (ps := ["error", "words"]) fun _ _ _ _ _ _ us hl => match us, hl with | [_, _], _ => rfl
  have F_law := fun_mk (st := (topS 20)) l_law c_law k_law
  have b_law := F_law.binds (ps := ["script"]) fun _ _ _ _ _ _ us hl => match us, hl with | [_], _ => rfl
  have he_Web : Here K mg "Web" := .no (PySem.W.mg_none_of X G no_Web)
  have he_LineReader : Here K mg "LineReader" := .no (PySem.W.mg_none_of X G no_LineReader)
  have he_Lighter : Here K mg "Lighter" := .no (PySem.W.mg_none_of X G no_Lighter)
  have he_House : Here K mg "House" := .no (PySem.W.mg_none_of X G no_House)
  have he_Desk : Here K mg "Desk" := .no (PySem.W.mg_none_of X G no_Desk)
  have he_Whole : Here K mg "Whole" := .no (PySem.W.mg_none_of X G no_Whole)
  have he_Dark : Here K mg "Dark" := .no (PySem.W.mg_none_of X G no_Dark)
  have X_BadNumber : OxC l.prog K C_BadNumber f_BadNumber___init__ (defArgs (inClass (topS 4) 0)) (defBody (inClass (topS 4) 0)) (defScope (inClass (topS 4) 0)) _ := ⟨xi_BadNumber, xf_BadNumber, ⟨_, _, _, _, _, _, _, _, _, _, _, _, rfl, xl_BadNumber, xc_BadNumber, ⟨_, _, _, _, _, _, xk_BadNumber, xv_BadNumber, xp_BadNumber⟩, _, _, _, xe_BadNumber⟩, xm_BadNumber, xq_BadNumber, xsup, xsta, xV_BadNumber, xB_BadNumber, xY_BadNumber, xK_BadNumber, xS_BadNumber, xD_BadNumber, xh_top⟩
  have X_BadText : OxC l.prog K C_BadText f_BadText___init__ (defArgs (inClass (topS 3) 0)) (defBody (inClass (topS 3) 0)) (defScope (inClass (topS 3) 0)) _ := ⟨xi_BadText, xf_BadText, ⟨_, _, _, _, _, _, _, _, _, _, _, _, rfl, xl_BadText, xc_BadText, ⟨_, _, _, _, _, _, xk_BadText, xv_BadText, xp_BadText⟩, _, _, _, xe_BadText⟩, xm_BadText, xq_BadText, xsup, xsta, xV_BadText, xB_BadText, xY_BadText, xK_BadText, xS_BadText, xD_BadText, xh_top⟩
  have X_BadWeb : OxC l.prog K C_BadWeb f_BadWeb___init__ (defArgs (inClass (topS 2) 0)) (defBody (inClass (topS 2) 0)) (defScope (inClass (topS 2) 0)) _ := ⟨xi_BadWeb, xf_BadWeb, ⟨_, _, _, _, _, _, _, _, _, _, _, _, rfl, xl_BadWeb, xc_BadWeb, ⟨_, _, _, _, _, _, xk_BadWeb, xv_BadWeb, xp_BadWeb⟩, _, _, _, xe_BadWeb⟩, xm_BadWeb, xq_BadWeb, xsup, xsta, xV_BadWeb, xB_BadWeb, xY_BadWeb, xK_BadWeb, xS_BadWeb, xD_BadWeb, xh_top⟩
  have X_NoDeed : OxC l.prog K C_NoDeed f_NoDeed___init__ (defArgs (inClass (topS 8) 0)) (defBody (inClass (topS 8) 0)) (defScope (inClass (topS 8) 0)) _ := ⟨xi_NoDeed, xf_NoDeed, ⟨_, _, _, _, _, _, _, _, _, _, _, _, rfl, xl_NoDeed, xc_NoDeed, ⟨_, _, _, _, _, _, xk_NoDeed, xv_NoDeed, xp_NoDeed⟩, _, _, _, xe_NoDeed⟩, xm_NoDeed, xq_NoDeed, xsup, xsta, xV_NoDeed, xB_NoDeed, xY_NoDeed, xK_NoDeed, xS_NoDeed, xD_NoDeed, xh_top⟩
  have X_NoFires : OxC l.prog K C_NoFires f_NoFires___init__ (defArgs (inClass (topS 7) 0)) (defBody (inClass (topS 7) 0)) (defScope (inClass (topS 7) 0)) _ := ⟨xi_NoFires, xf_NoFires, ⟨_, _, _, _, _, _, _, _, _, _, _, _, rfl, xl_NoFires, xc_NoFires, ⟨_, _, _, _, _, _, xk_NoFires, xv_NoFires, xp_NoFires⟩, _, _, _, xe_NoFires⟩, xm_NoFires, xq_NoFires, xsup, xsta, xV_NoFires, xB_NoFires, xY_NoFires, xK_NoFires, xS_NoFires, xD_NoFires, xh_top⟩
  have X_NoLabel : OxC l.prog K C_NoLabel f_NoLabel___init__ (defArgs (inClass (topS 9) 0)) (defBody (inClass (topS 9) 0)) (defScope (inClass (topS 9) 0)) _ := ⟨xi_NoLabel, xf_NoLabel, ⟨_, _, _, _, _, _, _, _, _, _, _, _, rfl, xl_NoLabel, xc_NoLabel, ⟨_, _, _, _, _, _, xk_NoLabel, xv_NoLabel, xp_NoLabel⟩, _, _, _, xe_NoLabel⟩, xm_NoLabel, xq_NoLabel, xsup, xsta, xV_NoLabel, xB_NoLabel, xY_NoLabel, xK_NoLabel, xS_NoLabel, xD_NoLabel, xh_top⟩
  have X_NoLot : OxC l.prog K C_NoLot f_NoLot___init__ (defArgs (inClass (topS 6) 0)) (defBody (inClass (topS 6) 0)) (defScope (inClass (topS 6) 0)) _ := ⟨xi_NoLot, xf_NoLot, ⟨_, _, _, _, _, _, _, _, _, _, _, _, rfl, xl_NoLot, xc_NoLot, ⟨_, _, _, _, _, _, xk_NoLot, xv_NoLot, xp_NoLot⟩, _, _, _, xe_NoLot⟩, xm_NoLot, xq_NoLot, xsup, xsta, xV_NoLot, xB_NoLot, xY_NoLot, xK_NoLot, xS_NoLot, xD_NoLot, xh_top⟩
  have X_NoPlace : OxC l.prog K C_NoPlace f_NoPlace___init__ (defArgs (inClass (topS 5) 0)) (defBody (inClass (topS 5) 0)) (defScope (inClass (topS 5) 0)) _ := ⟨xi_NoPlace, xf_NoPlace, ⟨_, _, _, _, _, _, _, _, _, _, _, _, rfl, xl_NoPlace, xc_NoPlace, ⟨_, _, _, _, _, _, xk_NoPlace, xv_NoPlace, xp_NoPlace⟩, _, _, _, xe_NoPlace⟩, xm_NoPlace, xq_NoPlace, xsup, xsta, xV_NoPlace, xB_NoPlace, xY_NoPlace, xK_NoPlace, xS_NoPlace, xD_NoPlace, xh_top⟩
  have X_NoQuestion : OxC l.prog K C_NoQuestion f_NoQuestion___init__ (defArgs (inClass (topS 10) 0)) (defBody (inClass (topS 10) 0)) (defScope (inClass (topS 10) 0)) _ := ⟨xi_NoQuestion, xf_NoQuestion, ⟨_, _, _, _, _, _, _, _, _, _, _, _, rfl, xl_NoQuestion, xc_NoQuestion, ⟨_, _, _, _, _, _, xk_NoQuestion, xv_NoQuestion, xp_NoQuestion⟩, _, _, _, xe_NoQuestion⟩, xm_NoQuestion, xq_NoQuestion, xsup, xsta, xV_NoQuestion, xB_NoQuestion, xY_NoQuestion, xK_NoQuestion, xS_NoQuestion, xD_NoQuestion, xh_top⟩
  have X_NothingDone : OxC l.prog K C_NothingDone f_NothingDone___init__ (defArgs (inClass (topS 11) 0)) (defBody (inClass (topS 11) 0)) (defScope (inClass (topS 11) 0)) _ := ⟨xi_NothingDone, xf_NothingDone, ⟨_, _, _, _, _, _, _, _, _, _, _, _, rfl, xl_NothingDone, xc_NothingDone, ⟨_, _, _, _, _, _, xk_NothingDone, xv_NothingDone, xp_NothingDone⟩, _, _, _, xe_NothingDone⟩, xm_NothingDone, xq_NothingDone, xsup, xsta, xV_NothingDone, xB_NothingDone, xY_NothingDone, xK_NothingDone, xS_NothingDone, xD_NothingDone, xh_top⟩
  have AH : AllHere K mg := .mk7 he_Web he_LineReader he_Lighter he_House he_Desk he_Whole he_Dark
  have E_NoFires : L2.ExcC K C_NoFires := ⟨yga_NoFires, ygg_NoFires, ybs_NoFires, yhd_NoFires, yha_NoFires, yhn_, yht_, yhm_NoFires⟩
  have E_NoDeed : L2.ExcC K C_NoDeed := ⟨yga_NoDeed, ygg_NoDeed, ybs_NoDeed, yhd_NoDeed, yha_NoDeed, yhn_, yht_, yhm_NoDeed⟩
  have E_NoLabel : L2.ExcC K C_NoLabel := ⟨yga_NoLabel, ygg_NoLabel, ybs_NoLabel, yhd_NoLabel, yha_NoLabel, yhn_, yht_, yhm_NoLabel⟩
  have E_BadText : L2.ExcC K C_BadText := ⟨yga_BadText, ygg_BadText, ybs_BadText, yhd_BadText, yha_BadText, yhn_, yht_, yhm_BadText⟩
  have E_BadNumber : L2.ExcC K C_BadNumber := ⟨yga_BadNumber, ygg_BadNumber, ybs_BadNumber, yhd_BadNumber, yha_BadNumber, yhn_, yht_, yhm_BadNumber⟩
  have E_BadWeb : L2.ExcC K C_BadWeb := ⟨yga_BadWeb, ygg_BadWeb, ybs_BadWeb, yhd_BadWeb, yha_BadWeb, yhn_, yht_, yhm_BadWeb⟩
  have E_NoPlace : L2.ExcC K C_NoPlace := ⟨yga_NoPlace, ygg_NoPlace, ybs_NoPlace, yhd_NoPlace, yha_NoPlace, yhn_, yht_, yhm_NoPlace⟩
  have E_NoLot : L2.ExcC K C_NoLot := ⟨yga_NoLot, ygg_NoLot, ybs_NoLot, yhd_NoLot, yha_NoLot, yhn_, yht_, yhm_NoLot⟩
  have E_NoQuestion : L2.ExcC K C_NoQuestion := ⟨yga_NoQuestion, ygg_NoQuestion, ybs_NoQuestion, yhd_NoQuestion, yha_NoQuestion, yhn_, yht_, yhm_NoQuestion⟩
  have E_NothingDone : L2.ExcC K C_NothingDone := ⟨yga_NothingDone, ygg_NothingDone, ybs_NothingDone, yhd_NothingDone, yha_NothingDone, yhn_, yht_, yhm_NothingDone⟩
  have E_LightError : L2.ExcC K C_LightError := ⟨yga_LightError, ygg_LightError, ybs_LightError, yhd_LightError, yha_LightError, yhn_, yht_, yhm_LightError⟩
  have T : Top { f__law_draw := f__law_draw, d__law_draw := _, f__law_kinds := f__law_kinds, d__law_kinds := _, f__law_pick := f__law_pick, d__law_pick := _, f__law_pot := f__law_pot, d__law_pot := _, f__law_rows := f__law_rows, d__law_rows := _, f__law_thing := f__law_thing, d__law_thing := _, f__law_told_of := f__law_told_of, d__law_told_of := _, f_law := fa, d_law := _, C_BadNumber := C_BadNumber, f_BadNumber___init__ := f_BadNumber___init__, d_BadNumber___init__ := PySem.W.ksFn "__init__" "BadNumber.__init__" (defArgs (inClass (topS 4) 0)) (defBody (inClass (topS 4) 0)) (defScope (inClass (topS 4) 0)) .none kV_BadNumber___init__ dc_BadNumber___init__ pm_BadNumber___init__ an_BadNumber___init__ (.ref cda_BadNumber___init__) ct_BadNumber___init__ cc_BadNumber___init__, C_BadText := C_BadText, f_BadText___init__ := f_BadText___init__, d_BadText___init__ := PySem.W.ksFn "__init__" "BadText.__init__" (defArgs (inClass (topS 3) 0)) (defBody (inClass (topS 3) 0)) (defScope (inClass (topS 3) 0)) .none kV_BadText___init__ dc_BadText___init__ pm_BadText___init__ an_BadText___init__ (.ref cda_BadText___init__) ct_BadText___init__ cc_BadText___init__, C_BadWeb := C_BadWeb, f_BadWeb___init__ := f_BadWeb___init__, d_BadWeb___init__ := PySem.W.ksFn "__init__" "BadWeb.__init__" (defArgs (inClass (topS 2) 0)) (defBody (inClass (topS 2) 0)) (defScope (inClass (topS 2) 0)) .none kV_BadWeb___init__ dc_BadWeb___init__ pm_BadWeb___init__ an_BadWeb___init__ (.ref cda_BadWeb___init__) ct_BadWeb___init__ cc_BadWeb___init__, C_NoDeed := C_NoDeed, f_NoDeed___init__ := f_NoDeed___init__, d_NoDeed___init__ := PySem.W.ksFn "__init__" "NoDeed.__init__" (defArgs (inClass (topS 8) 0)) (defBody (inClass (topS 8) 0)) (defScope (inClass (topS 8) 0)) .none kV_NoDeed___init__ dc_NoDeed___init__ pm_NoDeed___init__ an_NoDeed___init__ (.ref cda_NoDeed___init__) ct_NoDeed___init__ cc_NoDeed___init__, C_NoFires := C_NoFires, f_NoFires___init__ := f_NoFires___init__, d_NoFires___init__ := PySem.W.ksFn "__init__" "NoFires.__init__" (defArgs (inClass (topS 7) 0)) (defBody (inClass (topS 7) 0)) (defScope (inClass (topS 7) 0)) .none kV_NoFires___init__ dc_NoFires___init__ pm_NoFires___init__ an_NoFires___init__ (.ref cda_NoFires___init__) ct_NoFires___init__ cc_NoFires___init__, C_NoLabel := C_NoLabel, f_NoLabel___init__ := f_NoLabel___init__, d_NoLabel___init__ := PySem.W.ksFn "__init__" "NoLabel.__init__" (defArgs (inClass (topS 9) 0)) (defBody (inClass (topS 9) 0)) (defScope (inClass (topS 9) 0)) .none kV_NoLabel___init__ dc_NoLabel___init__ pm_NoLabel___init__ an_NoLabel___init__ (.ref cda_NoLabel___init__) ct_NoLabel___init__ cc_NoLabel___init__, C_NoLot := C_NoLot, f_NoLot___init__ := f_NoLot___init__, d_NoLot___init__ := PySem.W.ksFn "__init__" "NoLot.__init__" (defArgs (inClass (topS 6) 0)) (defBody (inClass (topS 6) 0)) (defScope (inClass (topS 6) 0)) .none kV_NoLot___init__ dc_NoLot___init__ pm_NoLot___init__ an_NoLot___init__ (.ref cda_NoLot___init__) ct_NoLot___init__ cc_NoLot___init__, C_NoPlace := C_NoPlace, f_NoPlace___init__ := f_NoPlace___init__, d_NoPlace___init__ := PySem.W.ksFn "__init__" "NoPlace.__init__" (defArgs (inClass (topS 5) 0)) (defBody (inClass (topS 5) 0)) (defScope (inClass (topS 5) 0)) .none kV_NoPlace___init__ dc_NoPlace___init__ pm_NoPlace___init__ an_NoPlace___init__ (.ref cda_NoPlace___init__) ct_NoPlace___init__ cc_NoPlace___init__, C_NoQuestion := C_NoQuestion, f_NoQuestion___init__ := f_NoQuestion___init__, d_NoQuestion___init__ := PySem.W.ksFn "__init__" "NoQuestion.__init__" (defArgs (inClass (topS 10) 0)) (defBody (inClass (topS 10) 0)) (defScope (inClass (topS 10) 0)) .none kV_NoQuestion___init__ dc_NoQuestion___init__ pm_NoQuestion___init__ an_NoQuestion___init__ (.ref cda_NoQuestion___init__) ct_NoQuestion___init__ cc_NoQuestion___init__, C_NothingDone := C_NothingDone, f_NothingDone___init__ := f_NothingDone___init__, d_NothingDone___init__ := PySem.W.ksFn "__init__" "NothingDone.__init__" (defArgs (inClass (topS 11) 0)) (defBody (inClass (topS 11) 0)) (defScope (inClass (topS 11) 0)) .none kV_NothingDone___init__ dc_NothingDone___init__ pm_NothingDone___init__ an_NothingDone___init__ (.ref cda_NothingDone___init__) ct_NothingDone___init__ cc_NothingDone___init__, C_LightError := C_LightError } l.prog K mg := {
    F__law_draw := F__law_draw,
    F__law_kinds := F__law_kinds,
    F__law_pick := F__law_pick,
    F__law_pot := F__law_pot,
    F__law_rows := F__law_rows,
    F__law_thing := F__law_thing,
    F__law_told_of := F__law_told_of,
    F_law := F_law,
    b__law_draw := b__law_draw,
    b__law_kinds := b__law_kinds,
    b__law_pick := b__law_pick,
    b__law_pot := b__law_pot,
    b__law_rows := b__law_rows,
    b__law_thing := b__law_thing,
    b__law_told_of := b__law_told_of,
    g__law_draw := PySem.W.mg_of X G a__law_draw,
    g__law_kinds := PySem.W.mg_of X G a__law_kinds,
    g__law_pick := PySem.W.mg_of X G a__law_pick,
    g__law_pot := PySem.W.mg_of X G a__law_pot,
    g__law_rows := PySem.W.mg_of X G a__law_rows,
    g__law_thing := PySem.W.mg_of X G a__law_thing,
    g__law_told_of := PySem.W.mg_of X G a__law_told_of,
    xb_BadNumber := fun s z u0 => .of_eq rfl,
    xb_BadText := fun s z u0 u1 => .of_eq rfl,
    xb_BadWeb := fun s z u0 => .of_eq rfl,
    xb_NoDeed := fun s z u0 => .of_eq rfl,
    xb_NoFires := fun s z u0 => .of_eq rfl,
    xb_NoLabel := fun s z u0 => .of_eq rfl,
    xb_NoLot := fun s z => .of_eq rfl,
    xb_NoPlace := fun s z => .of_eq rfl,
    xb_NoQuestion := fun s z => .of_eq rfl,
    xb_NothingDone := fun s z => .of_eq rfl,
    xg_BadNumber := PySem.W.mg_of X G a_BadNumber,
    xg_BadText := PySem.W.mg_of X G a_BadText,
    xg_BadWeb := PySem.W.mg_of X G a_BadWeb,
    xg_NoDeed := PySem.W.mg_of X G a_NoDeed,
    xg_NoFires := PySem.W.mg_of X G a_NoFires,
    xg_NoLabel := PySem.W.mg_of X G a_NoLabel,
    xg_NoLot := PySem.W.mg_of X G a_NoLot,
    xg_NoPlace := PySem.W.mg_of X G a_NoPlace,
    xg_NoQuestion := PySem.W.mg_of X G a_NoQuestion,
    xg_NothingDone := PySem.W.mg_of X G a_NothingDone,
    xn_BadNumber_value := xna_BadNumber_value,
    xn_BadText_line := xna_BadText_line,
    xn_BadText_what := xna_BadText_what,
    xn_BadWeb_what := xna_BadWeb_what,
    xn_NoDeed_at := xna_NoDeed_at,
    xn_NoFires_at := xna_NoFires_at,
    xn_NoLabel_at := xna_NoLabel_at,
    xo_BadNumber := X_BadNumber,
    xo_BadText := X_BadText,
    xo_BadWeb := X_BadWeb,
    xo_NoDeed := X_NoDeed,
    xo_NoFires := X_NoFires,
    xo_NoLabel := X_NoLabel,
    xo_NoLot := X_NoLot,
    xo_NoPlace := X_NoPlace,
    xo_NoQuestion := X_NoQuestion,
    xo_NothingDone := X_NothingDone,
    yf_at := List.forall_mem_cons.mpr ⟨xfA (PySem.W.mg_of X G a_NoFires) ⟨yga_NoFires, ygg_NoFires, ybs_NoFires, yhd_NoFires⟩ xna_NoFires_at, List.forall_mem_cons.mpr ⟨xfA (PySem.W.mg_of X G a_NoDeed) ⟨yga_NoDeed, ygg_NoDeed, ybs_NoDeed, yhd_NoDeed⟩ xna_NoDeed_at, List.forall_mem_cons.mpr ⟨xfA (PySem.W.mg_of X G a_NoLabel) ⟨yga_NoLabel, ygg_NoLabel, ybs_NoLabel, yhd_NoLabel⟩ xna_NoLabel_at, fun _ h => nomatch h⟩⟩⟩,
    yf_line := List.forall_mem_cons.mpr ⟨xfA (PySem.W.mg_of X G a_BadText) ⟨yga_BadText, ygg_BadText, ybs_BadText, yhd_BadText⟩ xna_BadText_line, fun _ h => nomatch h⟩,
    yf_value := List.forall_mem_cons.mpr ⟨xfA (PySem.W.mg_of X G a_BadNumber) ⟨yga_BadNumber, ygg_BadNumber, ybs_BadNumber, yhd_BadNumber⟩ xna_BadNumber_value, fun _ h => nomatch h⟩,
    yf_what := List.forall_mem_cons.mpr ⟨xfA (PySem.W.mg_of X G a_BadWeb) ⟨yga_BadWeb, ygg_BadWeb, ybs_BadWeb, yhd_BadWeb⟩ xna_BadWeb_what, List.forall_mem_cons.mpr ⟨xfA (PySem.W.mg_of X G a_BadText) ⟨yga_BadText, ygg_BadText, ybs_BadText, yhd_BadText⟩ xna_BadText_what, fun _ h => nomatch h⟩⟩,
    yg_BadNumber := PySem.W.mg_of X G a_BadNumber,
    yg_BadText := PySem.W.mg_of X G a_BadText,
    yg_BadWeb := PySem.W.mg_of X G a_BadWeb,
    yg_LightError := PySem.W.mg_of X G a_LightError,
    yg_NoDeed := PySem.W.mg_of X G a_NoDeed,
    yg_NoFires := PySem.W.mg_of X G a_NoFires,
    yg_NoLabel := PySem.W.mg_of X G a_NoLabel,
    yg_NoLot := PySem.W.mg_of X G a_NoLot,
    yg_NoPlace := PySem.W.mg_of X G a_NoPlace,
    yg_NoQuestion := PySem.W.mg_of X G a_NoQuestion,
    yg_NothingDone := PySem.W.mg_of X G a_NothingDone,
    yi_BadNumber := ⟨List.forall_mem_cons.mpr ⟨exB (PySem.W.mg_of X G a_BadWeb) E_BadWeb (kitX_ref yc_BadNumber yt_BadNumber ym_BadWeb_BadNumber (fun z => by rw [z, ym_BadNumber_BadNumber] at ym_BadWeb_BadNumber; cases ym_BadWeb_BadNumber)) (by decide), List.forall_mem_cons.mpr ⟨exB (PySem.W.mg_of X G a_BadText) E_BadText (kitX_ref yc_BadNumber yt_BadNumber ym_BadText_BadNumber (fun z => by rw [z, ym_BadNumber_BadNumber] at ym_BadText_BadNumber; cases ym_BadText_BadNumber)) (by decide), List.forall_mem_cons.mpr ⟨exB (PySem.W.mg_of X G a_BadNumber) E_BadNumber (kitX_ref yc_BadNumber yt_BadNumber ym_BadNumber_BadNumber (fun _ => rfl)) (by decide), List.forall_mem_cons.mpr ⟨exB (PySem.W.mg_of X G a_NoFires) E_NoFires (kitX_ref yc_BadNumber yt_BadNumber ym_NoFires_BadNumber (fun z => by rw [z, ym_BadNumber_BadNumber] at ym_NoFires_BadNumber; cases ym_NoFires_BadNumber)) (by decide), List.forall_mem_cons.mpr ⟨exB (PySem.W.mg_of X G a_NoDeed) E_NoDeed (kitX_ref yc_BadNumber yt_BadNumber ym_NoDeed_BadNumber (fun z => by rw [z, ym_BadNumber_BadNumber] at ym_NoDeed_BadNumber; cases ym_NoDeed_BadNumber)) (by decide), List.forall_mem_cons.mpr ⟨exB (PySem.W.mg_of X G a_NoLabel) E_NoLabel (kitX_ref yc_BadNumber yt_BadNumber ym_NoLabel_BadNumber (fun z => by rw [z, ym_BadNumber_BadNumber] at ym_NoLabel_BadNumber; cases ym_NoLabel_BadNumber)) (by decide), List.forall_mem_cons.mpr ⟨exB (PySem.W.mg_of X G a_NoPlace) E_NoPlace (kitX_ref yc_BadNumber yt_BadNumber ym_NoPlace_BadNumber (fun z => by rw [z, ym_BadNumber_BadNumber] at ym_NoPlace_BadNumber; cases ym_NoPlace_BadNumber)) (by decide), List.forall_mem_cons.mpr ⟨exB (PySem.W.mg_of X G a_NoLot) E_NoLot (kitX_ref yc_BadNumber yt_BadNumber ym_NoLot_BadNumber (fun z => by rw [z, ym_BadNumber_BadNumber] at ym_NoLot_BadNumber; cases ym_NoLot_BadNumber)) (by decide), List.forall_mem_cons.mpr ⟨exB (PySem.W.mg_of X G a_NoQuestion) E_NoQuestion (kitX_ref yc_BadNumber yt_BadNumber ym_NoQuestion_BadNumber (fun z => by rw [z, ym_BadNumber_BadNumber] at ym_NoQuestion_BadNumber; cases ym_NoQuestion_BadNumber)) (by decide), List.forall_mem_cons.mpr ⟨exB (PySem.W.mg_of X G a_NothingDone) E_NothingDone (kitX_ref yc_BadNumber yt_BadNumber ym_NothingDone_BadNumber (fun z => by rw [z, ym_BadNumber_BadNumber] at ym_NothingDone_BadNumber; cases ym_NothingDone_BadNumber)) (by decide), List.forall_mem_cons.mpr ⟨exB (PySem.W.mg_of X G a_LightError) E_LightError (kitX_ref yc_BadNumber yt_BadNumber ym_LightError_BadNumber (fun z => by rw [z, ym_BadNumber_BadNumber] at ym_LightError_BadNumber; cases ym_LightError_BadNumber)) (by decide), fun _ h => nomatch h⟩⟩⟩⟩⟩⟩⟩⟩⟩⟩⟩⟩,
    yi_BadText := ⟨List.forall_mem_cons.mpr ⟨exB (PySem.W.mg_of X G a_BadWeb) E_BadWeb (kitX_ref yc_BadText yt_BadText ym_BadWeb_BadText (fun z => by rw [z, ym_BadText_BadText] at ym_BadWeb_BadText; cases ym_BadWeb_BadText)) (by decide), List.forall_mem_cons.mpr ⟨exB (PySem.W.mg_of X G a_BadText) E_BadText (kitX_ref yc_BadText yt_BadText ym_BadText_BadText (fun _ => rfl)) (by decide), List.forall_mem_cons.mpr ⟨exB (PySem.W.mg_of X G a_BadNumber) E_BadNumber (kitX_ref yc_BadText yt_BadText ym_BadNumber_BadText (fun z => by rw [z, ym_BadText_BadText] at ym_BadNumber_BadText; cases ym_BadNumber_BadText)) (by decide), List.forall_mem_cons.mpr ⟨exB (PySem.W.mg_of X G a_NoFires) E_NoFires (kitX_ref yc_BadText yt_BadText ym_NoFires_BadText (fun z => by rw [z, ym_BadText_BadText] at ym_NoFires_BadText; cases ym_NoFires_BadText)) (by decide), List.forall_mem_cons.mpr ⟨exB (PySem.W.mg_of X G a_NoDeed) E_NoDeed (kitX_ref yc_BadText yt_BadText ym_NoDeed_BadText (fun z => by rw [z, ym_BadText_BadText] at ym_NoDeed_BadText; cases ym_NoDeed_BadText)) (by decide), List.forall_mem_cons.mpr ⟨exB (PySem.W.mg_of X G a_NoLabel) E_NoLabel (kitX_ref yc_BadText yt_BadText ym_NoLabel_BadText (fun z => by rw [z, ym_BadText_BadText] at ym_NoLabel_BadText; cases ym_NoLabel_BadText)) (by decide), List.forall_mem_cons.mpr ⟨exB (PySem.W.mg_of X G a_NoPlace) E_NoPlace (kitX_ref yc_BadText yt_BadText ym_NoPlace_BadText (fun z => by rw [z, ym_BadText_BadText] at ym_NoPlace_BadText; cases ym_NoPlace_BadText)) (by decide), List.forall_mem_cons.mpr ⟨exB (PySem.W.mg_of X G a_NoLot) E_NoLot (kitX_ref yc_BadText yt_BadText ym_NoLot_BadText (fun z => by rw [z, ym_BadText_BadText] at ym_NoLot_BadText; cases ym_NoLot_BadText)) (by decide), List.forall_mem_cons.mpr ⟨exB (PySem.W.mg_of X G a_NoQuestion) E_NoQuestion (kitX_ref yc_BadText yt_BadText ym_NoQuestion_BadText (fun z => by rw [z, ym_BadText_BadText] at ym_NoQuestion_BadText; cases ym_NoQuestion_BadText)) (by decide), List.forall_mem_cons.mpr ⟨exB (PySem.W.mg_of X G a_NothingDone) E_NothingDone (kitX_ref yc_BadText yt_BadText ym_NothingDone_BadText (fun z => by rw [z, ym_BadText_BadText] at ym_NothingDone_BadText; cases ym_NothingDone_BadText)) (by decide), List.forall_mem_cons.mpr ⟨exB (PySem.W.mg_of X G a_LightError) E_LightError (kitX_ref yc_BadText yt_BadText ym_LightError_BadText (fun z => by rw [z, ym_BadText_BadText] at ym_LightError_BadText; cases ym_LightError_BadText)) (by decide), fun _ h => nomatch h⟩⟩⟩⟩⟩⟩⟩⟩⟩⟩⟩⟩,
    yi_BadWeb := ⟨List.forall_mem_cons.mpr ⟨exB (PySem.W.mg_of X G a_BadWeb) E_BadWeb (kitX_ref yc_BadWeb yt_BadWeb ym_BadWeb_BadWeb (fun _ => rfl)) (by decide), List.forall_mem_cons.mpr ⟨exB (PySem.W.mg_of X G a_BadText) E_BadText (kitX_ref yc_BadWeb yt_BadWeb ym_BadText_BadWeb (fun z => by rw [z, ym_BadWeb_BadWeb] at ym_BadText_BadWeb; cases ym_BadText_BadWeb)) (by decide), List.forall_mem_cons.mpr ⟨exB (PySem.W.mg_of X G a_BadNumber) E_BadNumber (kitX_ref yc_BadWeb yt_BadWeb ym_BadNumber_BadWeb (fun z => by rw [z, ym_BadWeb_BadWeb] at ym_BadNumber_BadWeb; cases ym_BadNumber_BadWeb)) (by decide), List.forall_mem_cons.mpr ⟨exB (PySem.W.mg_of X G a_NoFires) E_NoFires (kitX_ref yc_BadWeb yt_BadWeb ym_NoFires_BadWeb (fun z => by rw [z, ym_BadWeb_BadWeb] at ym_NoFires_BadWeb; cases ym_NoFires_BadWeb)) (by decide), List.forall_mem_cons.mpr ⟨exB (PySem.W.mg_of X G a_NoDeed) E_NoDeed (kitX_ref yc_BadWeb yt_BadWeb ym_NoDeed_BadWeb (fun z => by rw [z, ym_BadWeb_BadWeb] at ym_NoDeed_BadWeb; cases ym_NoDeed_BadWeb)) (by decide), List.forall_mem_cons.mpr ⟨exB (PySem.W.mg_of X G a_NoLabel) E_NoLabel (kitX_ref yc_BadWeb yt_BadWeb ym_NoLabel_BadWeb (fun z => by rw [z, ym_BadWeb_BadWeb] at ym_NoLabel_BadWeb; cases ym_NoLabel_BadWeb)) (by decide), List.forall_mem_cons.mpr ⟨exB (PySem.W.mg_of X G a_NoPlace) E_NoPlace (kitX_ref yc_BadWeb yt_BadWeb ym_NoPlace_BadWeb (fun z => by rw [z, ym_BadWeb_BadWeb] at ym_NoPlace_BadWeb; cases ym_NoPlace_BadWeb)) (by decide), List.forall_mem_cons.mpr ⟨exB (PySem.W.mg_of X G a_NoLot) E_NoLot (kitX_ref yc_BadWeb yt_BadWeb ym_NoLot_BadWeb (fun z => by rw [z, ym_BadWeb_BadWeb] at ym_NoLot_BadWeb; cases ym_NoLot_BadWeb)) (by decide), List.forall_mem_cons.mpr ⟨exB (PySem.W.mg_of X G a_NoQuestion) E_NoQuestion (kitX_ref yc_BadWeb yt_BadWeb ym_NoQuestion_BadWeb (fun z => by rw [z, ym_BadWeb_BadWeb] at ym_NoQuestion_BadWeb; cases ym_NoQuestion_BadWeb)) (by decide), List.forall_mem_cons.mpr ⟨exB (PySem.W.mg_of X G a_NothingDone) E_NothingDone (kitX_ref yc_BadWeb yt_BadWeb ym_NothingDone_BadWeb (fun z => by rw [z, ym_BadWeb_BadWeb] at ym_NothingDone_BadWeb; cases ym_NothingDone_BadWeb)) (by decide), List.forall_mem_cons.mpr ⟨exB (PySem.W.mg_of X G a_LightError) E_LightError (kitX_ref yc_BadWeb yt_BadWeb ym_LightError_BadWeb (fun z => by rw [z, ym_BadWeb_BadWeb] at ym_LightError_BadWeb; cases ym_LightError_BadWeb)) (by decide), fun _ h => nomatch h⟩⟩⟩⟩⟩⟩⟩⟩⟩⟩⟩⟩,
    yi_LightError := ⟨List.forall_mem_cons.mpr ⟨exB (PySem.W.mg_of X G a_BadWeb) E_BadWeb (kitX_ref yc_LightError yt_LightError ym_BadWeb_LightError (fun _ => rfl)) (by decide), List.forall_mem_cons.mpr ⟨exB (PySem.W.mg_of X G a_BadText) E_BadText (kitX_ref yc_LightError yt_LightError ym_BadText_LightError (fun _ => rfl)) (by decide), List.forall_mem_cons.mpr ⟨exB (PySem.W.mg_of X G a_BadNumber) E_BadNumber (kitX_ref yc_LightError yt_LightError ym_BadNumber_LightError (fun _ => rfl)) (by decide), List.forall_mem_cons.mpr ⟨exB (PySem.W.mg_of X G a_NoFires) E_NoFires (kitX_ref yc_LightError yt_LightError ym_NoFires_LightError (fun _ => rfl)) (by decide), List.forall_mem_cons.mpr ⟨exB (PySem.W.mg_of X G a_NoDeed) E_NoDeed (kitX_ref yc_LightError yt_LightError ym_NoDeed_LightError (fun _ => rfl)) (by decide), List.forall_mem_cons.mpr ⟨exB (PySem.W.mg_of X G a_NoLabel) E_NoLabel (kitX_ref yc_LightError yt_LightError ym_NoLabel_LightError (fun _ => rfl)) (by decide), List.forall_mem_cons.mpr ⟨exB (PySem.W.mg_of X G a_NoPlace) E_NoPlace (kitX_ref yc_LightError yt_LightError ym_NoPlace_LightError (fun _ => rfl)) (by decide), List.forall_mem_cons.mpr ⟨exB (PySem.W.mg_of X G a_NoLot) E_NoLot (kitX_ref yc_LightError yt_LightError ym_NoLot_LightError (fun _ => rfl)) (by decide), List.forall_mem_cons.mpr ⟨exB (PySem.W.mg_of X G a_NoQuestion) E_NoQuestion (kitX_ref yc_LightError yt_LightError ym_NoQuestion_LightError (fun _ => rfl)) (by decide), List.forall_mem_cons.mpr ⟨exB (PySem.W.mg_of X G a_NothingDone) E_NothingDone (kitX_ref yc_LightError yt_LightError ym_NothingDone_LightError (fun _ => rfl)) (by decide), List.forall_mem_cons.mpr ⟨exB (PySem.W.mg_of X G a_LightError) E_LightError (kitX_ref yc_LightError yt_LightError ym_LightError_LightError (fun _ => rfl)) (by decide), fun _ h => nomatch h⟩⟩⟩⟩⟩⟩⟩⟩⟩⟩⟩⟩,
    yi_NoDeed := ⟨List.forall_mem_cons.mpr ⟨exB (PySem.W.mg_of X G a_BadWeb) E_BadWeb (kitX_ref yc_NoDeed yt_NoDeed ym_BadWeb_NoDeed (fun z => by rw [z, ym_NoDeed_NoDeed] at ym_BadWeb_NoDeed; cases ym_BadWeb_NoDeed)) (by decide), List.forall_mem_cons.mpr ⟨exB (PySem.W.mg_of X G a_BadText) E_BadText (kitX_ref yc_NoDeed yt_NoDeed ym_BadText_NoDeed (fun z => by rw [z, ym_NoDeed_NoDeed] at ym_BadText_NoDeed; cases ym_BadText_NoDeed)) (by decide), List.forall_mem_cons.mpr ⟨exB (PySem.W.mg_of X G a_BadNumber) E_BadNumber (kitX_ref yc_NoDeed yt_NoDeed ym_BadNumber_NoDeed (fun z => by rw [z, ym_NoDeed_NoDeed] at ym_BadNumber_NoDeed; cases ym_BadNumber_NoDeed)) (by decide), List.forall_mem_cons.mpr ⟨exB (PySem.W.mg_of X G a_NoFires) E_NoFires (kitX_ref yc_NoDeed yt_NoDeed ym_NoFires_NoDeed (fun z => by rw [z, ym_NoDeed_NoDeed] at ym_NoFires_NoDeed; cases ym_NoFires_NoDeed)) (by decide), List.forall_mem_cons.mpr ⟨exB (PySem.W.mg_of X G a_NoDeed) E_NoDeed (kitX_ref yc_NoDeed yt_NoDeed ym_NoDeed_NoDeed (fun _ => rfl)) (by decide), List.forall_mem_cons.mpr ⟨exB (PySem.W.mg_of X G a_NoLabel) E_NoLabel (kitX_ref yc_NoDeed yt_NoDeed ym_NoLabel_NoDeed (fun z => by rw [z, ym_NoDeed_NoDeed] at ym_NoLabel_NoDeed; cases ym_NoLabel_NoDeed)) (by decide), List.forall_mem_cons.mpr ⟨exB (PySem.W.mg_of X G a_NoPlace) E_NoPlace (kitX_ref yc_NoDeed yt_NoDeed ym_NoPlace_NoDeed (fun z => by rw [z, ym_NoDeed_NoDeed] at ym_NoPlace_NoDeed; cases ym_NoPlace_NoDeed)) (by decide), List.forall_mem_cons.mpr ⟨exB (PySem.W.mg_of X G a_NoLot) E_NoLot (kitX_ref yc_NoDeed yt_NoDeed ym_NoLot_NoDeed (fun z => by rw [z, ym_NoDeed_NoDeed] at ym_NoLot_NoDeed; cases ym_NoLot_NoDeed)) (by decide), List.forall_mem_cons.mpr ⟨exB (PySem.W.mg_of X G a_NoQuestion) E_NoQuestion (kitX_ref yc_NoDeed yt_NoDeed ym_NoQuestion_NoDeed (fun z => by rw [z, ym_NoDeed_NoDeed] at ym_NoQuestion_NoDeed; cases ym_NoQuestion_NoDeed)) (by decide), List.forall_mem_cons.mpr ⟨exB (PySem.W.mg_of X G a_NothingDone) E_NothingDone (kitX_ref yc_NoDeed yt_NoDeed ym_NothingDone_NoDeed (fun z => by rw [z, ym_NoDeed_NoDeed] at ym_NothingDone_NoDeed; cases ym_NothingDone_NoDeed)) (by decide), List.forall_mem_cons.mpr ⟨exB (PySem.W.mg_of X G a_LightError) E_LightError (kitX_ref yc_NoDeed yt_NoDeed ym_LightError_NoDeed (fun z => by rw [z, ym_NoDeed_NoDeed] at ym_LightError_NoDeed; cases ym_LightError_NoDeed)) (by decide), fun _ h => nomatch h⟩⟩⟩⟩⟩⟩⟩⟩⟩⟩⟩⟩,
    yi_NoFires := ⟨List.forall_mem_cons.mpr ⟨exB (PySem.W.mg_of X G a_BadWeb) E_BadWeb (kitX_ref yc_NoFires yt_NoFires ym_BadWeb_NoFires (fun z => by rw [z, ym_NoFires_NoFires] at ym_BadWeb_NoFires; cases ym_BadWeb_NoFires)) (by decide), List.forall_mem_cons.mpr ⟨exB (PySem.W.mg_of X G a_BadText) E_BadText (kitX_ref yc_NoFires yt_NoFires ym_BadText_NoFires (fun z => by rw [z, ym_NoFires_NoFires] at ym_BadText_NoFires; cases ym_BadText_NoFires)) (by decide), List.forall_mem_cons.mpr ⟨exB (PySem.W.mg_of X G a_BadNumber) E_BadNumber (kitX_ref yc_NoFires yt_NoFires ym_BadNumber_NoFires (fun z => by rw [z, ym_NoFires_NoFires] at ym_BadNumber_NoFires; cases ym_BadNumber_NoFires)) (by decide), List.forall_mem_cons.mpr ⟨exB (PySem.W.mg_of X G a_NoFires) E_NoFires (kitX_ref yc_NoFires yt_NoFires ym_NoFires_NoFires (fun _ => rfl)) (by decide), List.forall_mem_cons.mpr ⟨exB (PySem.W.mg_of X G a_NoDeed) E_NoDeed (kitX_ref yc_NoFires yt_NoFires ym_NoDeed_NoFires (fun z => by rw [z, ym_NoFires_NoFires] at ym_NoDeed_NoFires; cases ym_NoDeed_NoFires)) (by decide), List.forall_mem_cons.mpr ⟨exB (PySem.W.mg_of X G a_NoLabel) E_NoLabel (kitX_ref yc_NoFires yt_NoFires ym_NoLabel_NoFires (fun z => by rw [z, ym_NoFires_NoFires] at ym_NoLabel_NoFires; cases ym_NoLabel_NoFires)) (by decide), List.forall_mem_cons.mpr ⟨exB (PySem.W.mg_of X G a_NoPlace) E_NoPlace (kitX_ref yc_NoFires yt_NoFires ym_NoPlace_NoFires (fun z => by rw [z, ym_NoFires_NoFires] at ym_NoPlace_NoFires; cases ym_NoPlace_NoFires)) (by decide), List.forall_mem_cons.mpr ⟨exB (PySem.W.mg_of X G a_NoLot) E_NoLot (kitX_ref yc_NoFires yt_NoFires ym_NoLot_NoFires (fun z => by rw [z, ym_NoFires_NoFires] at ym_NoLot_NoFires; cases ym_NoLot_NoFires)) (by decide), List.forall_mem_cons.mpr ⟨exB (PySem.W.mg_of X G a_NoQuestion) E_NoQuestion (kitX_ref yc_NoFires yt_NoFires ym_NoQuestion_NoFires (fun z => by rw [z, ym_NoFires_NoFires] at ym_NoQuestion_NoFires; cases ym_NoQuestion_NoFires)) (by decide), List.forall_mem_cons.mpr ⟨exB (PySem.W.mg_of X G a_NothingDone) E_NothingDone (kitX_ref yc_NoFires yt_NoFires ym_NothingDone_NoFires (fun z => by rw [z, ym_NoFires_NoFires] at ym_NothingDone_NoFires; cases ym_NothingDone_NoFires)) (by decide), List.forall_mem_cons.mpr ⟨exB (PySem.W.mg_of X G a_LightError) E_LightError (kitX_ref yc_NoFires yt_NoFires ym_LightError_NoFires (fun z => by rw [z, ym_NoFires_NoFires] at ym_LightError_NoFires; cases ym_LightError_NoFires)) (by decide), fun _ h => nomatch h⟩⟩⟩⟩⟩⟩⟩⟩⟩⟩⟩⟩,
    yi_NoLabel := ⟨List.forall_mem_cons.mpr ⟨exB (PySem.W.mg_of X G a_BadWeb) E_BadWeb (kitX_ref yc_NoLabel yt_NoLabel ym_BadWeb_NoLabel (fun z => by rw [z, ym_NoLabel_NoLabel] at ym_BadWeb_NoLabel; cases ym_BadWeb_NoLabel)) (by decide), List.forall_mem_cons.mpr ⟨exB (PySem.W.mg_of X G a_BadText) E_BadText (kitX_ref yc_NoLabel yt_NoLabel ym_BadText_NoLabel (fun z => by rw [z, ym_NoLabel_NoLabel] at ym_BadText_NoLabel; cases ym_BadText_NoLabel)) (by decide), List.forall_mem_cons.mpr ⟨exB (PySem.W.mg_of X G a_BadNumber) E_BadNumber (kitX_ref yc_NoLabel yt_NoLabel ym_BadNumber_NoLabel (fun z => by rw [z, ym_NoLabel_NoLabel] at ym_BadNumber_NoLabel; cases ym_BadNumber_NoLabel)) (by decide), List.forall_mem_cons.mpr ⟨exB (PySem.W.mg_of X G a_NoFires) E_NoFires (kitX_ref yc_NoLabel yt_NoLabel ym_NoFires_NoLabel (fun z => by rw [z, ym_NoLabel_NoLabel] at ym_NoFires_NoLabel; cases ym_NoFires_NoLabel)) (by decide), List.forall_mem_cons.mpr ⟨exB (PySem.W.mg_of X G a_NoDeed) E_NoDeed (kitX_ref yc_NoLabel yt_NoLabel ym_NoDeed_NoLabel (fun z => by rw [z, ym_NoLabel_NoLabel] at ym_NoDeed_NoLabel; cases ym_NoDeed_NoLabel)) (by decide), List.forall_mem_cons.mpr ⟨exB (PySem.W.mg_of X G a_NoLabel) E_NoLabel (kitX_ref yc_NoLabel yt_NoLabel ym_NoLabel_NoLabel (fun _ => rfl)) (by decide), List.forall_mem_cons.mpr ⟨exB (PySem.W.mg_of X G a_NoPlace) E_NoPlace (kitX_ref yc_NoLabel yt_NoLabel ym_NoPlace_NoLabel (fun z => by rw [z, ym_NoLabel_NoLabel] at ym_NoPlace_NoLabel; cases ym_NoPlace_NoLabel)) (by decide), List.forall_mem_cons.mpr ⟨exB (PySem.W.mg_of X G a_NoLot) E_NoLot (kitX_ref yc_NoLabel yt_NoLabel ym_NoLot_NoLabel (fun z => by rw [z, ym_NoLabel_NoLabel] at ym_NoLot_NoLabel; cases ym_NoLot_NoLabel)) (by decide), List.forall_mem_cons.mpr ⟨exB (PySem.W.mg_of X G a_NoQuestion) E_NoQuestion (kitX_ref yc_NoLabel yt_NoLabel ym_NoQuestion_NoLabel (fun z => by rw [z, ym_NoLabel_NoLabel] at ym_NoQuestion_NoLabel; cases ym_NoQuestion_NoLabel)) (by decide), List.forall_mem_cons.mpr ⟨exB (PySem.W.mg_of X G a_NothingDone) E_NothingDone (kitX_ref yc_NoLabel yt_NoLabel ym_NothingDone_NoLabel (fun z => by rw [z, ym_NoLabel_NoLabel] at ym_NothingDone_NoLabel; cases ym_NothingDone_NoLabel)) (by decide), List.forall_mem_cons.mpr ⟨exB (PySem.W.mg_of X G a_LightError) E_LightError (kitX_ref yc_NoLabel yt_NoLabel ym_LightError_NoLabel (fun z => by rw [z, ym_NoLabel_NoLabel] at ym_LightError_NoLabel; cases ym_LightError_NoLabel)) (by decide), fun _ h => nomatch h⟩⟩⟩⟩⟩⟩⟩⟩⟩⟩⟩⟩,
    yi_NoLot := ⟨List.forall_mem_cons.mpr ⟨exB (PySem.W.mg_of X G a_BadWeb) E_BadWeb (kitX_ref yc_NoLot yt_NoLot ym_BadWeb_NoLot (fun z => by rw [z, ym_NoLot_NoLot] at ym_BadWeb_NoLot; cases ym_BadWeb_NoLot)) (by decide), List.forall_mem_cons.mpr ⟨exB (PySem.W.mg_of X G a_BadText) E_BadText (kitX_ref yc_NoLot yt_NoLot ym_BadText_NoLot (fun z => by rw [z, ym_NoLot_NoLot] at ym_BadText_NoLot; cases ym_BadText_NoLot)) (by decide), List.forall_mem_cons.mpr ⟨exB (PySem.W.mg_of X G a_BadNumber) E_BadNumber (kitX_ref yc_NoLot yt_NoLot ym_BadNumber_NoLot (fun z => by rw [z, ym_NoLot_NoLot] at ym_BadNumber_NoLot; cases ym_BadNumber_NoLot)) (by decide), List.forall_mem_cons.mpr ⟨exB (PySem.W.mg_of X G a_NoFires) E_NoFires (kitX_ref yc_NoLot yt_NoLot ym_NoFires_NoLot (fun z => by rw [z, ym_NoLot_NoLot] at ym_NoFires_NoLot; cases ym_NoFires_NoLot)) (by decide), List.forall_mem_cons.mpr ⟨exB (PySem.W.mg_of X G a_NoDeed) E_NoDeed (kitX_ref yc_NoLot yt_NoLot ym_NoDeed_NoLot (fun z => by rw [z, ym_NoLot_NoLot] at ym_NoDeed_NoLot; cases ym_NoDeed_NoLot)) (by decide), List.forall_mem_cons.mpr ⟨exB (PySem.W.mg_of X G a_NoLabel) E_NoLabel (kitX_ref yc_NoLot yt_NoLot ym_NoLabel_NoLot (fun z => by rw [z, ym_NoLot_NoLot] at ym_NoLabel_NoLot; cases ym_NoLabel_NoLot)) (by decide), List.forall_mem_cons.mpr ⟨exB (PySem.W.mg_of X G a_NoPlace) E_NoPlace (kitX_ref yc_NoLot yt_NoLot ym_NoPlace_NoLot (fun z => by rw [z, ym_NoLot_NoLot] at ym_NoPlace_NoLot; cases ym_NoPlace_NoLot)) (by decide), List.forall_mem_cons.mpr ⟨exB (PySem.W.mg_of X G a_NoLot) E_NoLot (kitX_ref yc_NoLot yt_NoLot ym_NoLot_NoLot (fun _ => rfl)) (by decide), List.forall_mem_cons.mpr ⟨exB (PySem.W.mg_of X G a_NoQuestion) E_NoQuestion (kitX_ref yc_NoLot yt_NoLot ym_NoQuestion_NoLot (fun z => by rw [z, ym_NoLot_NoLot] at ym_NoQuestion_NoLot; cases ym_NoQuestion_NoLot)) (by decide), List.forall_mem_cons.mpr ⟨exB (PySem.W.mg_of X G a_NothingDone) E_NothingDone (kitX_ref yc_NoLot yt_NoLot ym_NothingDone_NoLot (fun z => by rw [z, ym_NoLot_NoLot] at ym_NothingDone_NoLot; cases ym_NothingDone_NoLot)) (by decide), List.forall_mem_cons.mpr ⟨exB (PySem.W.mg_of X G a_LightError) E_LightError (kitX_ref yc_NoLot yt_NoLot ym_LightError_NoLot (fun z => by rw [z, ym_NoLot_NoLot] at ym_LightError_NoLot; cases ym_LightError_NoLot)) (by decide), fun _ h => nomatch h⟩⟩⟩⟩⟩⟩⟩⟩⟩⟩⟩⟩,
    yi_NoPlace := ⟨List.forall_mem_cons.mpr ⟨exB (PySem.W.mg_of X G a_BadWeb) E_BadWeb (kitX_ref yc_NoPlace yt_NoPlace ym_BadWeb_NoPlace (fun z => by rw [z, ym_NoPlace_NoPlace] at ym_BadWeb_NoPlace; cases ym_BadWeb_NoPlace)) (by decide), List.forall_mem_cons.mpr ⟨exB (PySem.W.mg_of X G a_BadText) E_BadText (kitX_ref yc_NoPlace yt_NoPlace ym_BadText_NoPlace (fun z => by rw [z, ym_NoPlace_NoPlace] at ym_BadText_NoPlace; cases ym_BadText_NoPlace)) (by decide), List.forall_mem_cons.mpr ⟨exB (PySem.W.mg_of X G a_BadNumber) E_BadNumber (kitX_ref yc_NoPlace yt_NoPlace ym_BadNumber_NoPlace (fun z => by rw [z, ym_NoPlace_NoPlace] at ym_BadNumber_NoPlace; cases ym_BadNumber_NoPlace)) (by decide), List.forall_mem_cons.mpr ⟨exB (PySem.W.mg_of X G a_NoFires) E_NoFires (kitX_ref yc_NoPlace yt_NoPlace ym_NoFires_NoPlace (fun z => by rw [z, ym_NoPlace_NoPlace] at ym_NoFires_NoPlace; cases ym_NoFires_NoPlace)) (by decide), List.forall_mem_cons.mpr ⟨exB (PySem.W.mg_of X G a_NoDeed) E_NoDeed (kitX_ref yc_NoPlace yt_NoPlace ym_NoDeed_NoPlace (fun z => by rw [z, ym_NoPlace_NoPlace] at ym_NoDeed_NoPlace; cases ym_NoDeed_NoPlace)) (by decide), List.forall_mem_cons.mpr ⟨exB (PySem.W.mg_of X G a_NoLabel) E_NoLabel (kitX_ref yc_NoPlace yt_NoPlace ym_NoLabel_NoPlace (fun z => by rw [z, ym_NoPlace_NoPlace] at ym_NoLabel_NoPlace; cases ym_NoLabel_NoPlace)) (by decide), List.forall_mem_cons.mpr ⟨exB (PySem.W.mg_of X G a_NoPlace) E_NoPlace (kitX_ref yc_NoPlace yt_NoPlace ym_NoPlace_NoPlace (fun _ => rfl)) (by decide), List.forall_mem_cons.mpr ⟨exB (PySem.W.mg_of X G a_NoLot) E_NoLot (kitX_ref yc_NoPlace yt_NoPlace ym_NoLot_NoPlace (fun z => by rw [z, ym_NoPlace_NoPlace] at ym_NoLot_NoPlace; cases ym_NoLot_NoPlace)) (by decide), List.forall_mem_cons.mpr ⟨exB (PySem.W.mg_of X G a_NoQuestion) E_NoQuestion (kitX_ref yc_NoPlace yt_NoPlace ym_NoQuestion_NoPlace (fun z => by rw [z, ym_NoPlace_NoPlace] at ym_NoQuestion_NoPlace; cases ym_NoQuestion_NoPlace)) (by decide), List.forall_mem_cons.mpr ⟨exB (PySem.W.mg_of X G a_NothingDone) E_NothingDone (kitX_ref yc_NoPlace yt_NoPlace ym_NothingDone_NoPlace (fun z => by rw [z, ym_NoPlace_NoPlace] at ym_NothingDone_NoPlace; cases ym_NothingDone_NoPlace)) (by decide), List.forall_mem_cons.mpr ⟨exB (PySem.W.mg_of X G a_LightError) E_LightError (kitX_ref yc_NoPlace yt_NoPlace ym_LightError_NoPlace (fun z => by rw [z, ym_NoPlace_NoPlace] at ym_LightError_NoPlace; cases ym_LightError_NoPlace)) (by decide), fun _ h => nomatch h⟩⟩⟩⟩⟩⟩⟩⟩⟩⟩⟩⟩,
    yi_NoQuestion := ⟨List.forall_mem_cons.mpr ⟨exB (PySem.W.mg_of X G a_BadWeb) E_BadWeb (kitX_ref yc_NoQuestion yt_NoQuestion ym_BadWeb_NoQuestion (fun z => by rw [z, ym_NoQuestion_NoQuestion] at ym_BadWeb_NoQuestion; cases ym_BadWeb_NoQuestion)) (by decide), List.forall_mem_cons.mpr ⟨exB (PySem.W.mg_of X G a_BadText) E_BadText (kitX_ref yc_NoQuestion yt_NoQuestion ym_BadText_NoQuestion (fun z => by rw [z, ym_NoQuestion_NoQuestion] at ym_BadText_NoQuestion; cases ym_BadText_NoQuestion)) (by decide), List.forall_mem_cons.mpr ⟨exB (PySem.W.mg_of X G a_BadNumber) E_BadNumber (kitX_ref yc_NoQuestion yt_NoQuestion ym_BadNumber_NoQuestion (fun z => by rw [z, ym_NoQuestion_NoQuestion] at ym_BadNumber_NoQuestion; cases ym_BadNumber_NoQuestion)) (by decide), List.forall_mem_cons.mpr ⟨exB (PySem.W.mg_of X G a_NoFires) E_NoFires (kitX_ref yc_NoQuestion yt_NoQuestion ym_NoFires_NoQuestion (fun z => by rw [z, ym_NoQuestion_NoQuestion] at ym_NoFires_NoQuestion; cases ym_NoFires_NoQuestion)) (by decide), List.forall_mem_cons.mpr ⟨exB (PySem.W.mg_of X G a_NoDeed) E_NoDeed (kitX_ref yc_NoQuestion yt_NoQuestion ym_NoDeed_NoQuestion (fun z => by rw [z, ym_NoQuestion_NoQuestion] at ym_NoDeed_NoQuestion; cases ym_NoDeed_NoQuestion)) (by decide), List.forall_mem_cons.mpr ⟨exB (PySem.W.mg_of X G a_NoLabel) E_NoLabel (kitX_ref yc_NoQuestion yt_NoQuestion ym_NoLabel_NoQuestion (fun z => by rw [z, ym_NoQuestion_NoQuestion] at ym_NoLabel_NoQuestion; cases ym_NoLabel_NoQuestion)) (by decide), List.forall_mem_cons.mpr ⟨exB (PySem.W.mg_of X G a_NoPlace) E_NoPlace (kitX_ref yc_NoQuestion yt_NoQuestion ym_NoPlace_NoQuestion (fun z => by rw [z, ym_NoQuestion_NoQuestion] at ym_NoPlace_NoQuestion; cases ym_NoPlace_NoQuestion)) (by decide), List.forall_mem_cons.mpr ⟨exB (PySem.W.mg_of X G a_NoLot) E_NoLot (kitX_ref yc_NoQuestion yt_NoQuestion ym_NoLot_NoQuestion (fun z => by rw [z, ym_NoQuestion_NoQuestion] at ym_NoLot_NoQuestion; cases ym_NoLot_NoQuestion)) (by decide), List.forall_mem_cons.mpr ⟨exB (PySem.W.mg_of X G a_NoQuestion) E_NoQuestion (kitX_ref yc_NoQuestion yt_NoQuestion ym_NoQuestion_NoQuestion (fun _ => rfl)) (by decide), List.forall_mem_cons.mpr ⟨exB (PySem.W.mg_of X G a_NothingDone) E_NothingDone (kitX_ref yc_NoQuestion yt_NoQuestion ym_NothingDone_NoQuestion (fun z => by rw [z, ym_NoQuestion_NoQuestion] at ym_NothingDone_NoQuestion; cases ym_NothingDone_NoQuestion)) (by decide), List.forall_mem_cons.mpr ⟨exB (PySem.W.mg_of X G a_LightError) E_LightError (kitX_ref yc_NoQuestion yt_NoQuestion ym_LightError_NoQuestion (fun z => by rw [z, ym_NoQuestion_NoQuestion] at ym_LightError_NoQuestion; cases ym_LightError_NoQuestion)) (by decide), fun _ h => nomatch h⟩⟩⟩⟩⟩⟩⟩⟩⟩⟩⟩⟩,
    yi_NothingDone := ⟨List.forall_mem_cons.mpr ⟨exB (PySem.W.mg_of X G a_BadWeb) E_BadWeb (kitX_ref yc_NothingDone yt_NothingDone ym_BadWeb_NothingDone (fun z => by rw [z, ym_NothingDone_NothingDone] at ym_BadWeb_NothingDone; cases ym_BadWeb_NothingDone)) (by decide), List.forall_mem_cons.mpr ⟨exB (PySem.W.mg_of X G a_BadText) E_BadText (kitX_ref yc_NothingDone yt_NothingDone ym_BadText_NothingDone (fun z => by rw [z, ym_NothingDone_NothingDone] at ym_BadText_NothingDone; cases ym_BadText_NothingDone)) (by decide), List.forall_mem_cons.mpr ⟨exB (PySem.W.mg_of X G a_BadNumber) E_BadNumber (kitX_ref yc_NothingDone yt_NothingDone ym_BadNumber_NothingDone (fun z => by rw [z, ym_NothingDone_NothingDone] at ym_BadNumber_NothingDone; cases ym_BadNumber_NothingDone)) (by decide), List.forall_mem_cons.mpr ⟨exB (PySem.W.mg_of X G a_NoFires) E_NoFires (kitX_ref yc_NothingDone yt_NothingDone ym_NoFires_NothingDone (fun z => by rw [z, ym_NothingDone_NothingDone] at ym_NoFires_NothingDone; cases ym_NoFires_NothingDone)) (by decide), List.forall_mem_cons.mpr ⟨exB (PySem.W.mg_of X G a_NoDeed) E_NoDeed (kitX_ref yc_NothingDone yt_NothingDone ym_NoDeed_NothingDone (fun z => by rw [z, ym_NothingDone_NothingDone] at ym_NoDeed_NothingDone; cases ym_NoDeed_NothingDone)) (by decide), List.forall_mem_cons.mpr ⟨exB (PySem.W.mg_of X G a_NoLabel) E_NoLabel (kitX_ref yc_NothingDone yt_NothingDone ym_NoLabel_NothingDone (fun z => by rw [z, ym_NothingDone_NothingDone] at ym_NoLabel_NothingDone; cases ym_NoLabel_NothingDone)) (by decide), List.forall_mem_cons.mpr ⟨exB (PySem.W.mg_of X G a_NoPlace) E_NoPlace (kitX_ref yc_NothingDone yt_NothingDone ym_NoPlace_NothingDone (fun z => by rw [z, ym_NothingDone_NothingDone] at ym_NoPlace_NothingDone; cases ym_NoPlace_NothingDone)) (by decide), List.forall_mem_cons.mpr ⟨exB (PySem.W.mg_of X G a_NoLot) E_NoLot (kitX_ref yc_NothingDone yt_NothingDone ym_NoLot_NothingDone (fun z => by rw [z, ym_NothingDone_NothingDone] at ym_NoLot_NothingDone; cases ym_NoLot_NothingDone)) (by decide), List.forall_mem_cons.mpr ⟨exB (PySem.W.mg_of X G a_NoQuestion) E_NoQuestion (kitX_ref yc_NothingDone yt_NothingDone ym_NoQuestion_NothingDone (fun z => by rw [z, ym_NothingDone_NothingDone] at ym_NoQuestion_NothingDone; cases ym_NoQuestion_NothingDone)) (by decide), List.forall_mem_cons.mpr ⟨exB (PySem.W.mg_of X G a_NothingDone) E_NothingDone (kitX_ref yc_NothingDone yt_NothingDone ym_NothingDone_NothingDone (fun _ => rfl)) (by decide), List.forall_mem_cons.mpr ⟨exB (PySem.W.mg_of X G a_LightError) E_LightError (kitX_ref yc_NothingDone yt_NothingDone ym_LightError_NothingDone (fun z => by rw [z, ym_NothingDone_NothingDone] at ym_LightError_NothingDone; cases ym_LightError_NothingDone)) (by decide), fun _ h => nomatch h⟩⟩⟩⟩⟩⟩⟩⟩⟩⟩⟩⟩,
    yi_ValueError := ⟨List.forall_mem_cons.mpr ⟨exB (PySem.W.mg_of X G a_BadWeb) E_BadWeb (kitX_ty ym_BadWeb_ValueError) (by decide), List.forall_mem_cons.mpr ⟨exB (PySem.W.mg_of X G a_BadText) E_BadText (kitX_ty ym_BadText_ValueError) (by decide), List.forall_mem_cons.mpr ⟨exB (PySem.W.mg_of X G a_BadNumber) E_BadNumber (kitX_ty ym_BadNumber_ValueError) (by decide), List.forall_mem_cons.mpr ⟨exB (PySem.W.mg_of X G a_NoFires) E_NoFires (kitX_ty ym_NoFires_ValueError) (by decide), List.forall_mem_cons.mpr ⟨exB (PySem.W.mg_of X G a_NoDeed) E_NoDeed (kitX_ty ym_NoDeed_ValueError) (by decide), List.forall_mem_cons.mpr ⟨exB (PySem.W.mg_of X G a_NoLabel) E_NoLabel (kitX_ty ym_NoLabel_ValueError) (by decide), List.forall_mem_cons.mpr ⟨exB (PySem.W.mg_of X G a_NoPlace) E_NoPlace (kitX_ty ym_NoPlace_ValueError) (by decide), List.forall_mem_cons.mpr ⟨exB (PySem.W.mg_of X G a_NoLot) E_NoLot (kitX_ty ym_NoLot_ValueError) (by decide), List.forall_mem_cons.mpr ⟨exB (PySem.W.mg_of X G a_NoQuestion) E_NoQuestion (kitX_ty ym_NoQuestion_ValueError) (by decide), List.forall_mem_cons.mpr ⟨exB (PySem.W.mg_of X G a_NothingDone) E_NothingDone (kitX_ty ym_NothingDone_ValueError) (by decide), List.forall_mem_cons.mpr ⟨exB (PySem.W.mg_of X G a_LightError) E_LightError (kitX_ty ym_LightError_ValueError) (by decide), fun _ h => nomatch h⟩⟩⟩⟩⟩⟩⟩⟩⟩⟩⟩⟩,
    yk_LightError := yk_LightError,
    yw_LightError := yw_LightError,
    z_ValueError := PySem.W.mg_none_of X G z_ValueError,
    z_abs := PySem.W.mg_none_of X G z_abs,
    z_enumerate := PySem.W.mg_none_of X G z_enumerate,
    z_int := PySem.W.mg_none_of X G z_int,
    z_isinstance := PySem.W.mg_none_of X G z_isinstance,
    z_len := PySem.W.mg_none_of X G z_len,
    z_range := PySem.W.mg_none_of X G z_range,
    z_repr := PySem.W.mg_none_of X G z_repr }
  exact ⟨_, fun s v => .of_eq rfl, fun base _ _ B => law_ok (ok_law T) keeps⟩
end
theorem keeps : LawKeeps sem_law_k00 := SM.keeps00
end K00
open PySem PySem.W PyProof.Rows
theorem PySem.Challenge.cw_litwebs_k00_errors_alone_holds : PySem.Challenge.rw_litwebs_k00_errors_alone.Holds := by
  w_on; o_law; k_head; (case hw => w_witness2)
  k_fill
  refine LW.walk (l := PySem.Challenge.rw_litwebs_k00_errors_alone) (k := 10) rfl rfl ⟨⟨rfl, by decide, by decide⟩, rfl⟩ (fun w h Y => by first | exact PySem.W.kIn_of Y | exact PySem.W.km_in_of Y) ?hT ?F
  case hT => exact fun w => LW.tabK_none K00.lam_is
  case F =>
    intro w mg fa h KX G hmg
    refine' K00.mk KX G hmg ?no_Web ?no_LineReader ?no_Lighter ?no_House ?no_Desk ?no_Whole ?no_Dark ?a__law_draw ?l__law_draw ?c__law_draw ?k__law_draw ?a__law_kinds ?l__law_kinds ?c__law_kinds ?k__law_kinds ?a__law_pick ?l__law_pick ?c__law_pick ?k__law_pick ?a__law_pot ?l__law_pot ?c__law_pot ?k__law_pot ?a__law_rows ?l__law_rows ?c__law_rows ?k__law_rows ?a__law_thing ?l__law_thing ?c__law_thing ?k__law_thing ?a__law_told_of ?l__law_told_of ?c__law_told_of ?k__law_told_of ?a_law ?l_law ?c_law ?k_law ?a_BadWeb ?a_BadText ?a_BadNumber ?a_NoFires ?a_NoDeed ?a_NoLabel ?a_NoPlace ?a_NoLot ?a_NoQuestion ?a_NothingDone ?xB_BadNumber ?xY_BadNumber ?xD_BadNumber ?xi_BadNumber ?xf_BadNumber ?xl_BadNumber ?xc_BadNumber ?xk_BadNumber ?xv_BadNumber ?xp_BadNumber ?xe_BadNumber ?xm_BadNumber ?xq_BadNumber ?xsup ?xsta ?xh_top ?xV_BadNumber ?xK_BadNumber ?xS_BadNumber ?xB_BadText ?xY_BadText ?xD_BadText ?xi_BadText ?xf_BadText ?xl_BadText ?xc_BadText ?xk_BadText ?xv_BadText ?xp_BadText ?xe_BadText ?xm_BadText ?xq_BadText ?xV_BadText ?xK_BadText ?xS_BadText ?xB_BadWeb ?xY_BadWeb ?xD_BadWeb ?xi_BadWeb ?xf_BadWeb ?xl_BadWeb ?xc_BadWeb ?xk_BadWeb ?xv_BadWeb ?xp_BadWeb ?xe_BadWeb ?xm_BadWeb ?xq_BadWeb ?xV_BadWeb ?xK_BadWeb ?xS_BadWeb ?xB_NoDeed ?xY_NoDeed ?xD_NoDeed ?xi_NoDeed ?xf_NoDeed ?xl_NoDeed ?xc_NoDeed ?xk_NoDeed ?xv_NoDeed ?xp_NoDeed ?xe_NoDeed ?xm_NoDeed ?xq_NoDeed ?xV_NoDeed ?xK_NoDeed ?xS_NoDeed ?xB_NoFires ?xY_NoFires ?xD_NoFires ?xi_NoFires ?xf_NoFires ?xl_NoFires ?xc_NoFires ?xk_NoFires ?xv_NoFires ?xp_NoFires ?xe_NoFires ?xm_NoFires ?xq_NoFires ?xV_NoFires ?xK_NoFires ?xS_NoFires ?xB_NoLabel ?xY_NoLabel ?xD_NoLabel ?xi_NoLabel ?xf_NoLabel ?xl_NoLabel ?xc_NoLabel ?xk_NoLabel ?xv_NoLabel ?xp_NoLabel ?xe_NoLabel ?xm_NoLabel ?xq_NoLabel ?xV_NoLabel ?xK_NoLabel ?xS_NoLabel ?xB_NoLot ?xY_NoLot ?xD_NoLot ?xi_NoLot ?xf_NoLot ?xl_NoLot ?xc_NoLot ?xk_NoLot ?xv_NoLot ?xp_NoLot ?xe_NoLot ?xm_NoLot ?xq_NoLot ?xV_NoLot ?xK_NoLot ?xS_NoLot ?xB_NoPlace ?xY_NoPlace ?xD_NoPlace ?xi_NoPlace ?xf_NoPlace ?xl_NoPlace ?xc_NoPlace ?xk_NoPlace ?xv_NoPlace ?xp_NoPlace ?xe_NoPlace ?xm_NoPlace ?xq_NoPlace ?xV_NoPlace ?xK_NoPlace ?xS_NoPlace ?xB_NoQuestion ?xY_NoQuestion ?xD_NoQuestion ?xi_NoQuestion ?xf_NoQuestion ?xl_NoQuestion ?xc_NoQuestion ?xk_NoQuestion ?xv_NoQuestion ?xp_NoQuestion ?xe_NoQuestion ?xm_NoQuestion ?xq_NoQuestion ?xV_NoQuestion ?xK_NoQuestion ?xS_NoQuestion ?xB_NothingDone ?xY_NothingDone ?xD_NothingDone ?xi_NothingDone ?xf_NothingDone ?xl_NothingDone ?xc_NothingDone ?xk_NothingDone ?xv_NothingDone ?xp_NothingDone ?xe_NothingDone ?xm_NothingDone ?xq_NothingDone ?xV_NothingDone ?xK_NothingDone ?xS_NothingDone ?xna_BadNumber_value ?xna_BadText_line ?xna_BadText_what ?xna_BadWeb_what ?xna_NoDeed_at ?xna_NoFires_at ?xna_NoLabel_at ?yga_NoFires ?ygg_NoFires ?ybs_NoFires ?yhd_NoFires ?yha_NoFires ?yhm_NoFires ?yhn_ ?yht_ ?yga_NoDeed ?ygg_NoDeed ?ybs_NoDeed ?yhd_NoDeed ?yha_NoDeed ?yhm_NoDeed ?yga_NoLabel ?ygg_NoLabel ?ybs_NoLabel ?yhd_NoLabel ?yha_NoLabel ?yhm_NoLabel ?yga_BadText ?ygg_BadText ?ybs_BadText ?yhd_BadText ?yha_BadText ?yhm_BadText ?yga_BadNumber ?ygg_BadNumber ?ybs_BadNumber ?yhd_BadNumber ?yha_BadNumber ?yhm_BadNumber ?yga_BadWeb ?ygg_BadWeb ?ybs_BadWeb ?yhd_BadWeb ?yha_BadWeb ?yhm_BadWeb ?a_LightError ?yc_BadNumber ?yt_BadNumber ?ym_BadNumber_BadNumber ?ym_BadWeb_BadNumber ?ym_BadText_BadNumber ?ym_NoFires_BadNumber ?ym_NoDeed_BadNumber ?ym_NoLabel_BadNumber ?yga_NoPlace ?ygg_NoPlace ?ybs_NoPlace ?yhd_NoPlace ?yha_NoPlace ?yhm_NoPlace ?ym_NoPlace_BadNumber ?yga_NoLot ?ygg_NoLot ?ybs_NoLot ?yhd_NoLot ?yha_NoLot ?yhm_NoLot ?ym_NoLot_BadNumber ?yga_NoQuestion ?ygg_NoQuestion ?ybs_NoQuestion ?yhd_NoQuestion ?yha_NoQuestion ?yhm_NoQuestion ?ym_NoQuestion_BadNumber ?yga_NothingDone ?ygg_NothingDone ?ybs_NothingDone ?yhd_NothingDone ?yha_NothingDone ?yhm_NothingDone ?ym_NothingDone_BadNumber ?yga_LightError ?ygg_LightError ?ybs_LightError ?yhd_LightError ?yha_LightError ?yhm_LightError ?ym_LightError_BadNumber ?yc_BadText ?yt_BadText ?ym_BadText_BadText ?ym_BadWeb_BadText ?ym_BadNumber_BadText ?ym_NoFires_BadText ?ym_NoDeed_BadText ?ym_NoLabel_BadText ?ym_NoPlace_BadText ?ym_NoLot_BadText ?ym_NoQuestion_BadText ?ym_NothingDone_BadText ?ym_LightError_BadText ?yc_BadWeb ?yt_BadWeb ?ym_BadWeb_BadWeb ?ym_BadText_BadWeb ?ym_BadNumber_BadWeb ?ym_NoFires_BadWeb ?ym_NoDeed_BadWeb ?ym_NoLabel_BadWeb ?ym_NoPlace_BadWeb ?ym_NoLot_BadWeb ?ym_NoQuestion_BadWeb ?ym_NothingDone_BadWeb ?ym_LightError_BadWeb ?yc_LightError ?yt_LightError ?ym_LightError_LightError ?ym_BadWeb_LightError ?ym_BadText_LightError ?ym_BadNumber_LightError ?ym_NoFires_LightError ?ym_NoDeed_LightError ?ym_NoLabel_LightError ?ym_NoPlace_LightError ?ym_NoLot_LightError ?ym_NoQuestion_LightError ?ym_NothingDone_LightError ?yc_NoDeed ?yt_NoDeed ?ym_NoDeed_NoDeed ?ym_BadWeb_NoDeed ?ym_BadText_NoDeed ?ym_BadNumber_NoDeed ?ym_NoFires_NoDeed ?ym_NoLabel_NoDeed ?ym_NoPlace_NoDeed ?ym_NoLot_NoDeed ?ym_NoQuestion_NoDeed ?ym_NothingDone_NoDeed ?ym_LightError_NoDeed ?yc_NoFires ?yt_NoFires ?ym_NoFires_NoFires ?ym_BadWeb_NoFires ?ym_BadText_NoFires ?ym_BadNumber_NoFires ?ym_NoDeed_NoFires ?ym_NoLabel_NoFires ?ym_NoPlace_NoFires ?ym_NoLot_NoFires ?ym_NoQuestion_NoFires ?ym_NothingDone_NoFires ?ym_LightError_NoFires ?yc_NoLabel ?yt_NoLabel ?ym_NoLabel_NoLabel ?ym_BadWeb_NoLabel ?ym_BadText_NoLabel ?ym_BadNumber_NoLabel ?ym_NoFires_NoLabel ?ym_NoDeed_NoLabel ?ym_NoPlace_NoLabel ?ym_NoLot_NoLabel ?ym_NoQuestion_NoLabel ?ym_NothingDone_NoLabel ?ym_LightError_NoLabel ?yc_NoLot ?yt_NoLot ?ym_NoLot_NoLot ?ym_BadWeb_NoLot ?ym_BadText_NoLot ?ym_BadNumber_NoLot ?ym_NoFires_NoLot ?ym_NoDeed_NoLot ?ym_NoLabel_NoLot ?ym_NoPlace_NoLot ?ym_NoQuestion_NoLot ?ym_NothingDone_NoLot ?ym_LightError_NoLot ?yc_NoPlace ?yt_NoPlace ?ym_NoPlace_NoPlace ?ym_BadWeb_NoPlace ?ym_BadText_NoPlace ?ym_BadNumber_NoPlace ?ym_NoFires_NoPlace ?ym_NoDeed_NoPlace ?ym_NoLabel_NoPlace ?ym_NoLot_NoPlace ?ym_NoQuestion_NoPlace ?ym_NothingDone_NoPlace ?ym_LightError_NoPlace ?yc_NoQuestion ?yt_NoQuestion ?ym_NoQuestion_NoQuestion ?ym_BadWeb_NoQuestion ?ym_BadText_NoQuestion ?ym_BadNumber_NoQuestion ?ym_NoFires_NoQuestion ?ym_NoDeed_NoQuestion ?ym_NoLabel_NoQuestion ?ym_NoPlace_NoQuestion ?ym_NoLot_NoQuestion ?ym_NothingDone_NoQuestion ?ym_LightError_NoQuestion ?yc_NothingDone ?yt_NothingDone ?ym_NothingDone_NothingDone ?ym_BadWeb_NothingDone ?ym_BadText_NothingDone ?ym_BadNumber_NothingDone ?ym_NoFires_NothingDone ?ym_NoDeed_NothingDone ?ym_NoLabel_NothingDone ?ym_NoPlace_NothingDone ?ym_NoLot_NothingDone ?ym_NoQuestion_NothingDone ?ym_LightError_NothingDone ?ym_BadWeb_ValueError ?ym_BadText_ValueError ?ym_BadNumber_ValueError ?ym_NoFires_ValueError ?ym_NoDeed_ValueError ?ym_NoLabel_ValueError ?ym_NoPlace_ValueError ?ym_NoLot_ValueError ?ym_NoQuestion_ValueError ?ym_NothingDone_ValueError ?ym_LightError_ValueError ?yk_LightError ?yw_LightError ?z_ValueError ?z_abs ?z_enumerate ?z_int ?z_isinstance ?z_len ?z_range ?z_repr K00.keeps
    (case no_Web => k_is)
    (case no_LineReader => k_is)
    (case no_Lighter => k_is)
    (case no_House => k_is)
    (case no_Desk => k_is)
    (case no_Whole => k_is)
    (case no_Dark => k_is)
    (case a__law_draw => k_is)
    (case l__law_draw => k_is)
    (case c__law_draw => k_is)
    (case k__law_draw => k_is)
    (case a__law_kinds => k_is)
    (case l__law_kinds => k_is)
    (case c__law_kinds => k_is)
    (case k__law_kinds => k_is)
    (case a__law_pick => k_is)
    (case l__law_pick => k_is)
    (case c__law_pick => k_is)
    (case k__law_pick => k_is)
    (case a__law_pot => k_is)
    (case l__law_pot => k_is)
    (case c__law_pot => k_is)
    (case k__law_pot => k_is)
    (case a__law_rows => k_is)
    (case l__law_rows => k_is)
    (case c__law_rows => k_is)
    (case k__law_rows => k_is)
    (case a__law_thing => k_is)
    (case l__law_thing => k_is)
    (case c__law_thing => k_is)
    (case k__law_thing => k_is)
    (case a__law_told_of => k_is)
    (case l__law_told_of => k_is)
    (case c__law_told_of => k_is)
    (case k__law_told_of => k_is)
    (case a_law => k_is)
    (case l_law => k_is)
    (case c_law => k_is)
    (case k_law => k_is)
    (case a_BadWeb => k_is)
    (case a_BadText => k_is)
    (case a_BadNumber => k_is)
    (case a_NoFires => k_is)
    (case a_NoDeed => k_is)
    (case a_NoLabel => k_is)
    (case a_NoPlace => k_is)
    (case a_NoLot => k_is)
    (case a_NoQuestion => k_is)
    (case a_NothingDone => k_is)
    (case xB_BadNumber => k_is)
    (case xY_BadNumber => k_is)
    (case xD_BadNumber => k_is)
    (case xi_BadNumber => kx_is)
    (case xf_BadNumber => k_is)
    (case xl_BadNumber => k_is)
    (case xc_BadNumber => k_is)
    (case xk_BadNumber => k_is)
    (case xv_BadNumber => first | rfl | decide +kernel)
    (case xp_BadNumber => first | rfl | decide +kernel)
    (case xe_BadNumber => k_is)
    (case xm_BadNumber => k_is)
    (case xq_BadNumber => ks_is)
    (case xsup => k_is)
    (case xsta => k_is)
    (case xh_top => first | rfl | decide +kernel)
    (case xV_BadNumber => k_is)
    (case xK_BadNumber => k_is)
    (case xS_BadNumber => k_is)
    (case xB_BadText => k_is)
    (case xY_BadText => k_is)
    (case xD_BadText => k_is)
    (case xi_BadText => kx_is)
    (case xf_BadText => k_is)
    (case xl_BadText => k_is)
    (case xc_BadText => k_is)
    (case xk_BadText => k_is)
    (case xv_BadText => first | rfl | decide +kernel)
    (case xp_BadText => first | rfl | decide +kernel)
    (case xe_BadText => k_is)
    (case xm_BadText => k_is)
    (case xq_BadText => ks_is)
    (case xV_BadText => k_is)
    (case xK_BadText => k_is)
    (case xS_BadText => k_is)
    (case xB_BadWeb => k_is)
    (case xY_BadWeb => k_is)
    (case xD_BadWeb => k_is)
    (case xi_BadWeb => kx_is)
    (case xf_BadWeb => k_is)
    (case xl_BadWeb => k_is)
    (case xc_BadWeb => k_is)
    (case xk_BadWeb => k_is)
    (case xv_BadWeb => first | rfl | decide +kernel)
    (case xp_BadWeb => first | rfl | decide +kernel)
    (case xe_BadWeb => k_is)
    (case xm_BadWeb => k_is)
    (case xq_BadWeb => ks_is)
    (case xV_BadWeb => k_is)
    (case xK_BadWeb => k_is)
    (case xS_BadWeb => k_is)
    (case xB_NoDeed => k_is)
    (case xY_NoDeed => k_is)
    (case xD_NoDeed => k_is)
    (case xi_NoDeed => kx_is)
    (case xf_NoDeed => k_is)
    (case xl_NoDeed => k_is)
    (case xc_NoDeed => k_is)
    (case xk_NoDeed => k_is)
    (case xv_NoDeed => first | rfl | decide +kernel)
    (case xp_NoDeed => first | rfl | decide +kernel)
    (case xe_NoDeed => k_is)
    (case xm_NoDeed => k_is)
    (case xq_NoDeed => ks_is)
    (case xV_NoDeed => k_is)
    (case xK_NoDeed => k_is)
    (case xS_NoDeed => k_is)
    (case xB_NoFires => k_is)
    (case xY_NoFires => k_is)
    (case xD_NoFires => k_is)
    (case xi_NoFires => kx_is)
    (case xf_NoFires => k_is)
    (case xl_NoFires => k_is)
    (case xc_NoFires => k_is)
    (case xk_NoFires => k_is)
    (case xv_NoFires => first | rfl | decide +kernel)
    (case xp_NoFires => first | rfl | decide +kernel)
    (case xe_NoFires => k_is)
    (case xm_NoFires => k_is)
    (case xq_NoFires => ks_is)
    (case xV_NoFires => k_is)
    (case xK_NoFires => k_is)
    (case xS_NoFires => k_is)
    (case xB_NoLabel => k_is)
    (case xY_NoLabel => k_is)
    (case xD_NoLabel => k_is)
    (case xi_NoLabel => kx_is)
    (case xf_NoLabel => k_is)
    (case xl_NoLabel => k_is)
    (case xc_NoLabel => k_is)
    (case xk_NoLabel => k_is)
    (case xv_NoLabel => first | rfl | decide +kernel)
    (case xp_NoLabel => first | rfl | decide +kernel)
    (case xe_NoLabel => k_is)
    (case xm_NoLabel => k_is)
    (case xq_NoLabel => ks_is)
    (case xV_NoLabel => k_is)
    (case xK_NoLabel => k_is)
    (case xS_NoLabel => k_is)
    (case xB_NoLot => k_is)
    (case xY_NoLot => k_is)
    (case xD_NoLot => k_is)
    (case xi_NoLot => kx_is)
    (case xf_NoLot => k_is)
    (case xl_NoLot => k_is)
    (case xc_NoLot => k_is)
    (case xk_NoLot => k_is)
    (case xv_NoLot => first | rfl | decide +kernel)
    (case xp_NoLot => first | rfl | decide +kernel)
    (case xe_NoLot => k_is)
    (case xm_NoLot => k_is)
    (case xq_NoLot => ks_is)
    (case xV_NoLot => k_is)
    (case xK_NoLot => k_is)
    (case xS_NoLot => k_is)
    (case xB_NoPlace => k_is)
    (case xY_NoPlace => k_is)
    (case xD_NoPlace => k_is)
    (case xi_NoPlace => kx_is)
    (case xf_NoPlace => k_is)
    (case xl_NoPlace => k_is)
    (case xc_NoPlace => k_is)
    (case xk_NoPlace => k_is)
    (case xv_NoPlace => first | rfl | decide +kernel)
    (case xp_NoPlace => first | rfl | decide +kernel)
    (case xe_NoPlace => k_is)
    (case xm_NoPlace => k_is)
    (case xq_NoPlace => ks_is)
    (case xV_NoPlace => k_is)
    (case xK_NoPlace => k_is)
    (case xS_NoPlace => k_is)
    (case xB_NoQuestion => k_is)
    (case xY_NoQuestion => k_is)
    (case xD_NoQuestion => k_is)
    (case xi_NoQuestion => kx_is)
    (case xf_NoQuestion => k_is)
    (case xl_NoQuestion => k_is)
    (case xc_NoQuestion => k_is)
    (case xk_NoQuestion => k_is)
    (case xv_NoQuestion => first | rfl | decide +kernel)
    (case xp_NoQuestion => first | rfl | decide +kernel)
    (case xe_NoQuestion => k_is)
    (case xm_NoQuestion => k_is)
    (case xq_NoQuestion => ks_is)
    (case xV_NoQuestion => k_is)
    (case xK_NoQuestion => k_is)
    (case xS_NoQuestion => k_is)
    (case xB_NothingDone => k_is)
    (case xY_NothingDone => k_is)
    (case xD_NothingDone => k_is)
    (case xi_NothingDone => kx_is)
    (case xf_NothingDone => k_is)
    (case xl_NothingDone => k_is)
    (case xc_NothingDone => k_is)
    (case xk_NothingDone => k_is)
    (case xv_NothingDone => first | rfl | decide +kernel)
    (case xp_NothingDone => first | rfl | decide +kernel)
    (case xe_NothingDone => k_is)
    (case xm_NothingDone => k_is)
    (case xq_NothingDone => ks_is)
    (case xV_NothingDone => k_is)
    (case xK_NothingDone => k_is)
    (case xS_NothingDone => k_is)
    (case xna_BadNumber_value => k_is)
    (case xna_BadText_line => k_is)
    (case xna_BadText_what => k_is)
    (case xna_BadWeb_what => k_is)
    (case xna_NoDeed_at => k_is)
    (case xna_NoFires_at => k_is)
    (case xna_NoLabel_at => k_is)
    (case yga_NoFires => k_is)
    (case ygg_NoFires => k_is)
    (case ybs_NoFires => k_is)
    (case yhd_NoFires => k_is)
    (case yha_NoFires => k_is)
    (case yhm_NoFires => k_is)
    (case yhn_ => k_is)
    (case yht_ => k_is)
    (case yga_NoDeed => k_is)
    (case ygg_NoDeed => k_is)
    (case ybs_NoDeed => k_is)
    (case yhd_NoDeed => k_is)
    (case yha_NoDeed => k_is)
    (case yhm_NoDeed => k_is)
    (case yga_NoLabel => k_is)
    (case ygg_NoLabel => k_is)
    (case ybs_NoLabel => k_is)
    (case yhd_NoLabel => k_is)
    (case yha_NoLabel => k_is)
    (case yhm_NoLabel => k_is)
    (case yga_BadText => k_is)
    (case ygg_BadText => k_is)
    (case ybs_BadText => k_is)
    (case yhd_BadText => k_is)
    (case yha_BadText => k_is)
    (case yhm_BadText => k_is)
    (case yga_BadNumber => k_is)
    (case ygg_BadNumber => k_is)
    (case ybs_BadNumber => k_is)
    (case yhd_BadNumber => k_is)
    (case yha_BadNumber => k_is)
    (case yhm_BadNumber => k_is)
    (case yga_BadWeb => k_is)
    (case ygg_BadWeb => k_is)
    (case ybs_BadWeb => k_is)
    (case yhd_BadWeb => k_is)
    (case yha_BadWeb => k_is)
    (case yhm_BadWeb => k_is)
    (case a_LightError => k_is)
    (case yc_BadNumber => k_is)
    (case yt_BadNumber => k_is)
    (case ym_BadNumber_BadNumber => k_is)
    (case ym_BadWeb_BadNumber => k_is)
    (case ym_BadText_BadNumber => k_is)
    (case ym_NoFires_BadNumber => k_is)
    (case ym_NoDeed_BadNumber => k_is)
    (case ym_NoLabel_BadNumber => k_is)
    (case yga_NoPlace => k_is)
    (case ygg_NoPlace => k_is)
    (case ybs_NoPlace => k_is)
    (case yhd_NoPlace => k_is)
    (case yha_NoPlace => k_is)
    (case yhm_NoPlace => k_is)
    (case ym_NoPlace_BadNumber => k_is)
    (case yga_NoLot => k_is)
    (case ygg_NoLot => k_is)
    (case ybs_NoLot => k_is)
    (case yhd_NoLot => k_is)
    (case yha_NoLot => k_is)
    (case yhm_NoLot => k_is)
    (case ym_NoLot_BadNumber => k_is)
    (case yga_NoQuestion => k_is)
    (case ygg_NoQuestion => k_is)
    (case ybs_NoQuestion => k_is)
    (case yhd_NoQuestion => k_is)
    (case yha_NoQuestion => k_is)
    (case yhm_NoQuestion => k_is)
    (case ym_NoQuestion_BadNumber => k_is)
    (case yga_NothingDone => k_is)
    (case ygg_NothingDone => k_is)
    (case ybs_NothingDone => k_is)
    (case yhd_NothingDone => k_is)
    (case yha_NothingDone => k_is)
    (case yhm_NothingDone => k_is)
    (case ym_NothingDone_BadNumber => k_is)
    (case yga_LightError => k_is)
    (case ygg_LightError => k_is)
    (case ybs_LightError => k_is)
    (case yhd_LightError => k_is)
    (case yha_LightError => k_is)
    (case yhm_LightError => k_is)
    (case ym_LightError_BadNumber => k_is)
    (case yc_BadText => k_is)
    (case yt_BadText => k_is)
    (case ym_BadText_BadText => k_is)
    (case ym_BadWeb_BadText => k_is)
    (case ym_BadNumber_BadText => k_is)
    (case ym_NoFires_BadText => k_is)
    (case ym_NoDeed_BadText => k_is)
    (case ym_NoLabel_BadText => k_is)
    (case ym_NoPlace_BadText => k_is)
    (case ym_NoLot_BadText => k_is)
    (case ym_NoQuestion_BadText => k_is)
    (case ym_NothingDone_BadText => k_is)
    (case ym_LightError_BadText => k_is)
    (case yc_BadWeb => k_is)
    (case yt_BadWeb => k_is)
    (case ym_BadWeb_BadWeb => k_is)
    (case ym_BadText_BadWeb => k_is)
    (case ym_BadNumber_BadWeb => k_is)
    (case ym_NoFires_BadWeb => k_is)
    (case ym_NoDeed_BadWeb => k_is)
    (case ym_NoLabel_BadWeb => k_is)
    (case ym_NoPlace_BadWeb => k_is)
    (case ym_NoLot_BadWeb => k_is)
    (case ym_NoQuestion_BadWeb => k_is)
    (case ym_NothingDone_BadWeb => k_is)
    (case ym_LightError_BadWeb => k_is)
    (case yc_LightError => k_is)
    (case yt_LightError => k_is)
    (case ym_LightError_LightError => k_is)
    (case ym_BadWeb_LightError => k_is)
    (case ym_BadText_LightError => k_is)
    (case ym_BadNumber_LightError => k_is)
    (case ym_NoFires_LightError => k_is)
    (case ym_NoDeed_LightError => k_is)
    (case ym_NoLabel_LightError => k_is)
    (case ym_NoPlace_LightError => k_is)
    (case ym_NoLot_LightError => k_is)
    (case ym_NoQuestion_LightError => k_is)
    (case ym_NothingDone_LightError => k_is)
    (case yc_NoDeed => k_is)
    (case yt_NoDeed => k_is)
    (case ym_NoDeed_NoDeed => k_is)
    (case ym_BadWeb_NoDeed => k_is)
    (case ym_BadText_NoDeed => k_is)
    (case ym_BadNumber_NoDeed => k_is)
    (case ym_NoFires_NoDeed => k_is)
    (case ym_NoLabel_NoDeed => k_is)
    (case ym_NoPlace_NoDeed => k_is)
    (case ym_NoLot_NoDeed => k_is)
    (case ym_NoQuestion_NoDeed => k_is)
    (case ym_NothingDone_NoDeed => k_is)
    (case ym_LightError_NoDeed => k_is)
    (case yc_NoFires => k_is)
    (case yt_NoFires => k_is)
    (case ym_NoFires_NoFires => k_is)
    (case ym_BadWeb_NoFires => k_is)
    (case ym_BadText_NoFires => k_is)
    (case ym_BadNumber_NoFires => k_is)
    (case ym_NoDeed_NoFires => k_is)
    (case ym_NoLabel_NoFires => k_is)
    (case ym_NoPlace_NoFires => k_is)
    (case ym_NoLot_NoFires => k_is)
    (case ym_NoQuestion_NoFires => k_is)
    (case ym_NothingDone_NoFires => k_is)
    (case ym_LightError_NoFires => k_is)
    (case yc_NoLabel => k_is)
    (case yt_NoLabel => k_is)
    (case ym_NoLabel_NoLabel => k_is)
    (case ym_BadWeb_NoLabel => k_is)
    (case ym_BadText_NoLabel => k_is)
    (case ym_BadNumber_NoLabel => k_is)
    (case ym_NoFires_NoLabel => k_is)
    (case ym_NoDeed_NoLabel => k_is)
    (case ym_NoPlace_NoLabel => k_is)
    (case ym_NoLot_NoLabel => k_is)
    (case ym_NoQuestion_NoLabel => k_is)
    (case ym_NothingDone_NoLabel => k_is)
    (case ym_LightError_NoLabel => k_is)
    (case yc_NoLot => k_is)
    (case yt_NoLot => k_is)
    (case ym_NoLot_NoLot => k_is)
    (case ym_BadWeb_NoLot => k_is)
    (case ym_BadText_NoLot => k_is)
    (case ym_BadNumber_NoLot => k_is)
    (case ym_NoFires_NoLot => k_is)
    (case ym_NoDeed_NoLot => k_is)
    (case ym_NoLabel_NoLot => k_is)
    (case ym_NoPlace_NoLot => k_is)
    (case ym_NoQuestion_NoLot => k_is)
    (case ym_NothingDone_NoLot => k_is)
    (case ym_LightError_NoLot => k_is)
    (case yc_NoPlace => k_is)
    (case yt_NoPlace => k_is)
    (case ym_NoPlace_NoPlace => k_is)
    (case ym_BadWeb_NoPlace => k_is)
    (case ym_BadText_NoPlace => k_is)
    (case ym_BadNumber_NoPlace => k_is)
    (case ym_NoFires_NoPlace => k_is)
    (case ym_NoDeed_NoPlace => k_is)
    (case ym_NoLabel_NoPlace => k_is)
    (case ym_NoLot_NoPlace => k_is)
    (case ym_NoQuestion_NoPlace => k_is)
    (case ym_NothingDone_NoPlace => k_is)
    (case ym_LightError_NoPlace => k_is)
    (case yc_NoQuestion => k_is)
    (case yt_NoQuestion => k_is)
    (case ym_NoQuestion_NoQuestion => k_is)
    (case ym_BadWeb_NoQuestion => k_is)
    (case ym_BadText_NoQuestion => k_is)
    (case ym_BadNumber_NoQuestion => k_is)
    (case ym_NoFires_NoQuestion => k_is)
    (case ym_NoDeed_NoQuestion => k_is)
    (case ym_NoLabel_NoQuestion => k_is)
    (case ym_NoPlace_NoQuestion => k_is)
    (case ym_NoLot_NoQuestion => k_is)
    (case ym_NothingDone_NoQuestion => k_is)
    (case ym_LightError_NoQuestion => k_is)
    (case yc_NothingDone => k_is)
    (case yt_NothingDone => k_is)
    (case ym_NothingDone_NothingDone => k_is)
    (case ym_BadWeb_NothingDone => k_is)
    (case ym_BadText_NothingDone => k_is)
    (case ym_BadNumber_NothingDone => k_is)
    (case ym_NoFires_NothingDone => k_is)
    (case ym_NoDeed_NothingDone => k_is)
    (case ym_NoLabel_NothingDone => k_is)
    (case ym_NoPlace_NothingDone => k_is)
    (case ym_NoLot_NothingDone => k_is)
    (case ym_NoQuestion_NothingDone => k_is)
    (case ym_LightError_NothingDone => k_is)
    (case ym_BadWeb_ValueError => k_is)
    (case ym_BadText_ValueError => k_is)
    (case ym_BadNumber_ValueError => k_is)
    (case ym_NoFires_ValueError => k_is)
    (case ym_NoDeed_ValueError => k_is)
    (case ym_NoLabel_ValueError => k_is)
    (case ym_NoPlace_ValueError => k_is)
    (case ym_NoLot_ValueError => k_is)
    (case ym_NoQuestion_ValueError => k_is)
    (case ym_NothingDone_ValueError => k_is)
    (case ym_LightError_ValueError => k_is)
    (case yk_LightError => k_is)
    (case yw_LightError => k_exc)
    (case z_ValueError => k_is)
    (case z_abs => k_is)
    (case z_enumerate => k_is)
    (case z_int => k_is)
    (case z_isinstance => k_is)
    (case z_len => k_is)
    (case z_range => k_is)
    (case z_repr => k_is)
