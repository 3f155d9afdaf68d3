import PyProof.Rows.All
import Wide.All
import OpenK.AllK
import Wide.FinOn
import HandS.ForMost
import HandS.Deep
import HandS.Flow
import HandS.Style
import HandS.Conv
import HandS.Defaults
import HandS.TupAny
import HandS.TupMul
import HandS.Star
import HandS.IsInst
import HandS.Zip
import HandS.SortOrd
import HandS.NoneIn
import HandS.More
import KE.KDictCopyH
import KE.KDictSum
import HandS.SortRule
import PyProof.ReprRoads
import PyProof.ReprReads
import KE.KDictDisplayH
import HandS.Ends
import PyProof.ReprBulk
import PySem.Challenge.RW_turnsthatfit_k60_pair_papers_judged
set_option Elab.async false
set_option linter.all false
set_option maxRecDepth 100000
/-! DL0: plain data over the hand layer: worlds, what stands for what, slots. -/
namespace DL
open PySem PySem.Spec L2
open PyProof.Rows hiding St

abbrev D := PyData
abbrev Sr := Option (Addr × Addr)
def inSr (sr : Sr) (a : Addr) : Prop := ∃ p c, sr = some (p, c) ∧ (a = p ∨ a = c)
/-- the source of draws: a dict at p, its list of cells at c -/
def SrcAt (H : Hp) (p c : Addr) : Prop := p ≠ c ∧ ∃ (cells : List Int) (l m t : Int),
  H p = some (.dK [(.inr "cells", .ref c), (.inr "left", .int l), (.inr "mixed", .int m), (.inr "turn", .int t)]) ∧
  H c = some (.lst (cells.map V.int)) ∧ cells.length ≤ 1000
/-- G: what never changes any more, a part of H -/
structure Wd (sr : Sr) (G H : Hp) : Prop where
  sub : ∀ a o, G a = some o → H a = some o
  src : ∀ p c, sr = some (p, c) → SrcAt H p c ∧ G p = none ∧ G c = none
  tup : ∀ a xs, H a = some (.tup xs) → G a = some (.tup xs)
structure Le (sr : Sr) (G H G' H' : Hp) : Prop where
  wd : Wd sr G' H'
  keep : ∀ a o, H a = some o → ¬ inSr sr a → H' a = some o
  fro : ∀ a o, H a = some o → G' a = G a

section
variable {sr : Sr} {G H G1 H1 G2 H2 : Hp} {a p : Addr} {o : HO}
theorem Wd.gn (w : Wd sr G H) (h : H a = none) : G a = none := by
  cases e : G a with
  | none => rfl
  | some o => rw [w.sub a o e] at h; cases h
theorem Wd.srG (w : Wd sr G H) (h : inSr sr a) : G a = none := by
  obtain ⟨p, c, e, h⟩ := h
  obtain ⟨_, h1, h2⟩ := w.src p c e
  rcases h with rfl | rfl
  · exact h1
  · exact h2
theorem Wd.srH (w : Wd sr G H) (h : inSr sr a) : ∃ o, H a = some o := by
  obtain ⟨p, c, e, h⟩ := h
  obtain ⟨⟨_, cells, l, m, t, h1, h2, _⟩, _, _⟩ := w.src p c e
  rcases h with rfl | rfl
  · exact ⟨_, h1⟩
  · exact ⟨_, h2⟩
theorem Wd.nosr (w : Wd sr G H) (h : H a = none) : ¬ inSr sr a := fun q => by
  obtain ⟨o, e⟩ := w.srH q
  rw [h] at e; cases e
theorem Le.refl (w : Wd sr G H) : Le sr G H G H := ⟨w, fun _ _ h _ => h, fun _ _ _ => rfl⟩
theorem Le.trans (w : Wd sr G H) (x : Le sr G H G1 H1) (y : Le sr G1 H1 G2 H2) : Le sr G H G2 H2 where
  wd := y.wd
  keep := fun a o h n => y.keep a o (x.keep a o h n) n
  fro := fun a o h => by
    by_cases n : inSr sr a
    · rw [y.wd.srG n, w.srG n]
    · rw [y.fro a o (x.keep a o h n), x.fro a o h]
theorem Le.gsub (w : Wd sr G H) (x : Le sr G H G1 H1) : ∀ a o, G a = some o → G1 a = some o := fun a o h => by
  rw [x.fro a o (w.sub a o h)]; exact h
theorem Le.free (x : Le sr G H G1 H1) (w : Wd sr G H) (h : H1 a = none) : H a = none := by
  cases e : H a with
  | none => rfl
  | some o =>
    by_cases n : inSr sr a
    · obtain ⟨o', e'⟩ := x.wd.srH n
      rw [h] at e'; cases e'
    · rw [x.keep a o e n] at h; cases h
/-- a new object, never changed any more -/
theorem Le.newF (w : Wd sr G H) (h : H p = none) : Le sr G H (upd G p o) (upd H p o) where
  wd := ⟨fun a u e => by
    by_cases q : a = p
    · subst q; rw [upd_same] at e ⊢; exact e
    · rw [upd_ne q] at e ⊢; exact w.sub a u e, fun a c e => by
    obtain ⟨⟨ne, cells, l, m, t, h1, h2, hl⟩, g1, g2⟩ := w.src a c e
    have n1 : a ≠ p := fun q => by subst q; rw [h] at h1; cases h1
    have n2 : c ≠ p := fun q => by subst q; rw [h] at h2; cases h2
    exact ⟨⟨ne, cells, l, m, t, by rw [upd_ne n1]; exact h1, by rw [upd_ne n2]; exact h2, hl⟩, by rw [upd_ne n1]; exact g1, by rw [upd_ne n2]; exact g2⟩, fun a xs e => by
    by_cases q : a = p
    · subst q; rw [upd_same] at e ⊢; exact e
    · rw [upd_ne q] at e ⊢; exact w.tup a xs e⟩
  keep := fun a u e _ => by rw [upd_ne (fun q => by subst q; rw [h] at e; cases e)]; exact e
  fro := fun a u e => by rw [upd_ne (fun q => by subst q; rw [h] at e; cases e)]
/-- a new object that may be written -/
theorem Le.newO (w : Wd sr G H) (h : H p = none) (ho : ∀ xs, o ≠ .tup xs := by intro _ h; cases h) : Le sr G H G (upd H p o) where
  wd := ⟨fun a u e => by
    have q : a ≠ p := fun q => by subst q; rw [w.gn h] at e; cases e
    rw [upd_ne q]; exact w.sub a u e, fun a c e => by
    obtain ⟨⟨ne, cells, l, m, t, h1, h2, hl⟩, g1, g2⟩ := w.src a c e
    have n1 : a ≠ p := fun q => by subst q; rw [h] at h1; cases h1
    have n2 : c ≠ p := fun q => by subst q; rw [h] at h2; cases h2
    exact ⟨⟨ne, cells, l, m, t, by rw [upd_ne n1]; exact h1, by rw [upd_ne n2]; exact h2, hl⟩, g1, g2⟩, fun a xs e => by
    by_cases q : a = p
    · subst q; rw [upd_same] at e; exact absurd (Option.some.inj e) (ho xs)
    · rw [upd_ne q] at e; exact w.tup a xs e⟩
  keep := fun a u e _ => by rw [upd_ne (fun q => by subst q; rw [h] at e; cases e)]; exact e
  fro := fun a u e => rfl
end

/-! ### what stands for what -/
def kD : Key → D
  | .inl i => .int i
  | .inr x => .str x
mutual
inductive Rp (K : PySem.W.Frag) (G : Hp) : V → D → Prop
  | non : Rp K G .non .none
  | bl (b : Bool) : Rp K G (.bl b) (.bool b)
  | int (i : Int) : Rp K G (.int i) (.int i)
  | str (x : Str) : Rp K G (.str x) (.str x)
  | lst {a : Addr} {xs : List V} {ds : List D} : G a = some (.lst xs) → RpA K G xs ds → Rp K G (.ref a) (.list ds)
  | tup {a : Addr} {xs : List V} {ds : List D} : G a = some (.tup xs) → RpA K G xs ds → Rp K G (.ref a) (.tuple ds)
  | dK {a : Addr} {kvs : List (Key × V)} {es : List (D × D)} : G a = some (.dK kvs) → RpK K G kvs es → Rp K G (.ref a) (.dict es)
  | dT {a : Addr} {kvs : List (List Key × V)} {es : List (D × D)} : G a = some (.dT kvs) → RpT K G kvs es → Rp K G (.ref a) (.dict es)
inductive RpA (K : PySem.W.Frag) (G : Hp) : List V → List D → Prop
  | nil : RpA K G [] []
  | cons {v : V} {vs : List V} {d : D} {ds : List D} : Rp K G v d → RpA K G vs ds → RpA K G (v :: vs) (d :: ds)
inductive RpK (K : PySem.W.Frag) (G : Hp) : List (Key × V) → List (D × D) → Prop
  | nil : RpK K G [] []
  | cons {k : Key} {v : V} {vs : List (Key × V)} {d : D} {ds : List (D × D)} : Rp K G v d → RpK K G vs ds → RpK K G ((k, v) :: vs) ((kD k, d) :: ds)
inductive RpT (K : PySem.W.Frag) (G : Hp) : List (List Key × V) → List (D × D) → Prop
  | nil : RpT K G [] []
  | cons {k : List Key} {v : V} {vs : List (List Key × V)} {d : D} {ds : List (D × D)} : Rp K G v d → RpT K G vs ds → RpT K G ((k, v) :: vs) ((.tuple (k.map kD), d) :: ds)
end
section
variable {K : PySem.W.Frag} {G G' : Hp}
theorem SqL.sub {a : Addr} {xs : List V} (s : ∀ a o, G a = some o → G' a = some o) (h : SqL K G a xs) : SqL K G' a xs := by
  rcases h with (h | ⟨o, h⟩) | h
  · exact .inl (.inl (s _ _ h))
  · exact .inl (.inr ⟨o, s _ _ h⟩)
  · exact .inr h
theorem SqT.sub {a : Addr} {xs : List V} (s : ∀ a o, G a = some o → G' a = some o) (h : SqT K G a xs) : SqT K G' a xs := by
  rcases h with (h | ⟨o, h⟩) | h
  · exact .inl (.inl (s _ _ h))
  · exact .inl (.inr ⟨o, s _ _ h⟩)
  · exact .inr h
mutual
theorem Rp.sub (s : ∀ a o, G a = some o → G' a = some o) : ∀ {v : V} {d : D}, Rp K G v d → Rp K G' v d
  | _, _, .non => .non
  | _, _, .bl b => .bl b
  | _, _, .int i => .int i
  | _, _, .str x => .str x
  | _, _, .lst h r => .lst (s _ _ h) (RpA.sub s r)
  | _, _, .tup h r => .tup (s _ _ h) (RpA.sub s r)
  | _, _, .dK h r => .dK (s _ _ h) (RpK.sub s r)
  | _, _, .dT h r => .dT (s _ _ h) (RpT.sub s r)
theorem RpA.sub (s : ∀ a o, G a = some o → G' a = some o) : ∀ {v : List V} {d : List D}, RpA K G v d → RpA K G' v d
  | _, _, .nil => .nil
  | _, _, .cons h r => .cons (Rp.sub s h) (RpA.sub s r)
theorem RpK.sub (s : ∀ a o, G a = some o → G' a = some o) : ∀ {v : List (Key × V)} {d : List (D × D)}, RpK K G v d → RpK K G' v d
  | _, _, .nil => .nil
  | _, _, .cons h r => .cons (Rp.sub s h) (RpK.sub s r)
theorem RpT.sub (s : ∀ a o, G a = some o → G' a = some o) : ∀ {v : List (List Key × V)} {d : List (D × D)}, RpT K G v d → RpT K G' v d
  | _, _, .nil => .nil
  | _, _, .cons h r => .cons (Rp.sub s h) (RpT.sub s r)
end
theorem RpA.length : ∀ {v : List V} {d : List D}, RpA K G v d → v.length = d.length
  | _, _, .nil => rfl
  | _, _, .cons _ r => by rw [List.length_cons, List.length_cons, RpA.length r]
theorem RpA.get : ∀ {v : List V} {d : List D} {i : Nat} {x : D}, RpA K G v d → d[i]? = some x → ∃ u, v[i]? = some u ∧ Rp K G u x
  | _, _, _, _, .nil, e => by simp at e
  | _, _, 0, _, .cons h r, e => by
    have e' := Option.some.inj (show some _ = some _ from e)
    subst e'
    exact ⟨_, rfl, h⟩
  | _, _, i + 1, _, .cons h r, e => by
    obtain ⟨u, e1, e2⟩ := RpA.get (i := i) r (by simpa using e)
    exact ⟨u, by simpa using e1, e2⟩
theorem RpA.get' : ∀ {v : List V} {d : List D} {i : Nat} {u : V}, RpA K G v d → v[i]? = some u → ∃ x, d[i]? = some x ∧ Rp K G u x
  | _, _, _, _, .nil, e => by simp at e
  | _, _, 0, _, .cons h r, e => by
    have e' := Option.some.inj (show some _ = some _ from e)
    subst e'
    exact ⟨_, rfl, h⟩
  | _, _, i + 1, _, .cons h r, e => by
    obtain ⟨u, e1, e2⟩ := RpA.get' (i := i) r (by simpa using e)
    exact ⟨u, by simpa using e1, e2⟩
theorem RpA.append : ∀ {v w : List V} {d e : List D}, RpA K G v d → RpA K G w e → RpA K G (v ++ w) (d ++ e)
  | _, _, _, _, .nil, s => s
  | _, _, _, _, .cons h r, s => .cons h (RpA.append r s)
theorem RpA.take : ∀ {v : List V} {d : List D} (n : Nat), RpA K G v d → RpA K G (v.take n) (d.take n)
  | _, _, 0, _ => .nil
  | _, _, _ + 1, .nil => .nil
  | _, _, n + 1, .cons h r => .cons h (RpA.take n r)
theorem RpA.drop : ∀ {v : List V} {d : List D} (n : Nat), RpA K G v d → RpA K G (v.drop n) (d.drop n)
  | _, _, 0, r => r
  | _, _, _ + 1, .nil => .nil
  | _, _, n + 1, .cons h r => RpA.drop n r
theorem RpA.set {u : V} {x : D} (q : Rp K G u x) : ∀ {v : List V} {d : List D} (n : Nat), RpA K G v d → RpA K G (v.set n u) (d.set n x)
  | _, _, _, .nil => .nil
  | _, _, 0, .cons _ r => .cons q r
  | _, _, n + 1, .cons h r => .cons h (RpA.set q n r)
theorem RpA.reverse : ∀ {v : List V} {d : List D}, RpA K G v d → RpA K G v.reverse d.reverse
  | _, _, .nil => .nil
  | _, _, .cons h r => by
    rw [List.reverse_cons, List.reverse_cons]
    exact RpA.append (RpA.reverse r) (.cons h .nil)
mutual
/-- no dict within -/
def nod : D → Bool
  | .list ds => nodA ds
  | .tuple ds => nodA ds
  | .dict _ => false
  | .none => true
  | .bool _ => true
  | .int _ => true
  | .str _ => true
def nodA : List D → Bool
  | [] => true
  | d :: ds => nod d && nodA ds
end
mutual
theorem Rp.dp : ∀ {v : V} {d : D}, Rp K G v d → nod d = true → Dp K G v d
  | _, _, .non, _ => .non
  | _, _, .bl b, _ => .bl b
  | _, _, .int i, _ => .int i
  | _, _, .str x, _ => .str x
  | _, _, .lst h r, q => .lst (.inl (.inl h)) (Rp.dpA r (by simpa only [nod] using q))
  | _, _, .tup h r, q => .tup (.inl (.inl h)) (Rp.dpA r (by simpa only [nod] using q))
  | _, _, .dK _ _, q => by simp only [nod] at q; cases q
  | _, _, .dT _ _, q => by simp only [nod] at q; cases q
theorem Rp.dpA : ∀ {v : List V} {d : List D}, RpA K G v d → nodA d = true → DpAll K G v d
  | _, _, .nil, _ => .nil
  | _, _, .cons h r, q => by
    simp only [nodA, Bool.and_eq_true] at q
    exact .cons (Rp.dp h q.1) (Rp.dpA r q.2)
end
end
/-! constants of the written part -/
mutual
inductive Rk (K : PySem.W.Frag) : V → D → Prop
  | non : Rk K .non .none
  | bl (b : Bool) : Rk K (.bl b) (.bool b)
  | int (i : Int) : Rk K (.int i) (.int i)
  | str (x : Str) : Rk K (.str x) (.str x)
  | tup {a : Addr} {o : Obj} {its : Array Value} {n : Nat} {xs : List V} {ds : List D} : K.lookup a = some o → o.cls = .type "tuple" → o.data = .seq its n → its.size ≤ sizeLine → Vals xs its.toList → RkA K xs ds → Rk K (.ref a) (.tuple ds)
inductive RkA (K : PySem.W.Frag) : List V → List D → Prop
  | nil : RkA K [] []
  | cons {v : V} {vs : List V} {d : D} {ds : List D} : Rk K v d → RkA K vs ds → RkA K (v :: vs) (d :: ds)
end
mutual
theorem Rk.dp {K : PySem.W.Frag} {H : Hp} : ∀ {v : V} {d : D}, Rk K v d → Dp K H v d
  | _, _, .non => .non
  | _, _, .bl b => .bl b
  | _, _, .int i => .int i
  | _, _, .str x => .str x
  | _, _, .tup h1 h2 h3 h4 h5 r => .tup (.inr ⟨_, _, _, h1, h2, h3, h4, h5⟩) (RkA.dp r)
theorem RkA.dp {K : PySem.W.Frag} {H : Hp} : ∀ {v : List V} {d : List D}, RkA K v d → DpAll K H v d
  | _, _, .nil => .nil
  | _, _, .cons h r => .cons (Rk.dp h) (RkA.dp r)
end
theorem RkA.length {K : PySem.W.Frag} : ∀ {v : List V} {d : List D}, RkA K v d → v.length = d.length
  | _, _, .nil => rfl
  | _, _, .cons _ r => by rw [List.length_cons, List.length_cons, RkA.length r]
theorem RkA.get {K : PySem.W.Frag} : ∀ {v : List V} {d : List D} {i : Nat} {x : D}, RkA K v d → d[i]? = some x → ∃ u, v[i]? = some u ∧ Rk K u x
  | _, _, _, _, .nil, e => by simp at e
  | _, _, 0, _, .cons h r, e => by
    have e' := Option.some.inj (show some _ = some _ from e)
    subst e'
    exact ⟨_, rfl, h⟩
  | _, _, i + 1, _, .cons h r, e => by
    obtain ⟨u, e1, e2⟩ := RkA.get (i := i) r (by simpa using e)
    exact ⟨u, by simpa using e1, e2⟩
end DL
/-! DL1: slots, readings of expressions. -/
namespace DL
open PySem PySem.Spec L2
open PyProof.Rows hiding St

inductive Slot where
  | un
  | d (x : D)
  | b (x : D)
  | ol (xs : List D)
  | od (t : Bool) (es : List (D × D))
  | oll (xss : List (List D))
  | src
abbrev En := List Slot
/-- what a dict that may be written holds -/
def DcR (K : PySem.W.Frag) (G : Hp) : Bool → HO → List (D × D) → Prop
  | false, .dK kvs, es => RpK K G kvs es
  | true, .dT kvs, es => RpT K G kvs es
  | _, _, _ => False
/-! ### readable: plain data, a list that may still be written, a constant of the written part -/
inductive Rr (K : PySem.W.Frag) (sr : Sr) (G H : Hp) : V → D → Prop
  | fz {v : V} {d : D} : Rp K G v d → Rr K sr G H v d
  | ol {p : Addr} {vs : List V} {ds : List D} : ¬ inSr sr p → H p = some (.lst vs) → RpA K G vs ds → Rr K sr G H (.ref p) (.list ds)
  | kc {v : V} {d : D} : Rk K v d → Rr K sr G H v d
/-- the same without constants -/
inductive Rw (K : PySem.W.Frag) (sr : Sr) (G H : Hp) : V → D → Prop
  | fz {v : V} {d : D} : Rp K G v d → Rw K sr G H v d
  | ol {p : Addr} {vs : List V} {ds : List D} : ¬ inSr sr p → H p = some (.lst vs) → RpA K G vs ds → Rw K sr G H (.ref p) (.list ds)
theorem Rw.r {K : PySem.W.Frag} {sr : Sr} {G H : Hp} {v : V} {d : D} (r : Rw K sr G H v d) : Rr K sr G H v d := by
  cases r with
  | fz r => exact .fz r
  | ol a b c => exact .ol a b c
theorem Rr.le {K : PySem.W.Frag} {sr : Sr} {G H G1 H1 : Hp} {v : V} {d : D} (r : Rr K sr G H v d) (w : Wd sr G H) (l : Le sr G H G1 H1) : Rr K sr G1 H1 v d := by
  cases r with
  | fz r => exact .fz (Rp.sub (l.gsub w) r)
  | ol h1 h2 h3 => exact .ol h1 (l.keep _ _ h2 h1) (RpA.sub (l.gsub w) h3)
  | kc r => exact .kc r
theorem Rw.le {K : PySem.W.Frag} {sr : Sr} {G H G1 H1 : Hp} {v : V} {d : D} (r : Rw K sr G H v d) (w : Wd sr G H) (l : Le sr G H G1 H1) : Rw K sr G1 H1 v d := by
  cases r with
  | fz r => exact .fz (Rp.sub (l.gsub w) r)
  | ol h1 h2 h3 => exact .ol h1 (l.keep _ _ h2 h1) (RpA.sub (l.gsub w) h3)
/-- borrowed: what stood readable at the entry -/
inductive RrB (K : PySem.W.Frag) (sr : Sr) (H0 G : Hp) : V → D → Prop
  | fz {v : V} {d : D} : Rp K G v d → RrB K sr H0 G v d
  | ol {p : Addr} {vs : List V} {ds : List D} : ¬ inSr sr p → H0 p = some (.lst vs) → RpA K G vs ds → RrB K sr H0 G (.ref p) (.list ds)
  | kc {v : V} {d : D} : Rk K v d → RrB K sr H0 G v d
theorem RrB.sub {K : PySem.W.Frag} {sr : Sr} {H0 G G1 : Hp} {v : V} {d : D} (r : RrB K sr H0 G v d) (s : ∀ a o, G a = some o → G1 a = some o) : RrB K sr H0 G1 v d := by
  cases r with
  | fz r => exact .fz (Rp.sub s r)
  | ol h1 h2 h3 => exact .ol h1 h2 (RpA.sub s h3)
  | kc r => exact .kc r
theorem RrB.r {K : PySem.W.Frag} {sr : Sr} {G0 H0 G H : Hp} {v : V} {d : D} (r : RrB K sr H0 G v d) (l : Le sr G0 H0 G H) : Rr K sr G H v d := by
  cases r with
  | fz r => exact .fz r
  | ol h1 h2 h3 => exact .ol h1 (l.keep _ _ h2 h1) h3
  | kc r => exact .kc r
/-- an inner list of a list of lists -/
def InnR (K : PySem.W.Frag) (sr : Sr) (H0 G H : Hp) (ow : Addr → Option Nat) (i : Nat) (p q : Addr) (xs : List D) : Prop :=
  q ≠ p ∧ ow q = some i ∧ H0 q = none ∧ G q = none ∧ ¬ inSr sr q ∧ ∃ vs, H q = some (.lst vs) ∧ RpA K G vs xs
theorem pair_imp {α β : Type} {R R' : α → β → Prop} (h : ∀ a b, R a b → R' a b) : ∀ {l : List α} {m : List β}, Paired R l m → Paired R' l m
  | _, _, .nil => .nil
  | _, _, .cons a t => .cons (h _ _ a) (pair_imp h t)
def SlotR (K : PySem.W.Frag) (sr : Sr) (H0 G H : Hp) (ow : Addr → Option Nat) (i : Nat) : Slot → Option (Option V) → Prop
  | .un, _ => True
  | .d x, v => ∃ u, v = some (some u) ∧ Rp K G u x
  | .b x, v => ∃ u, v = some (some u) ∧ RrB K sr H0 G u x
  | .ol xs, v => ∃ p vs, v = some (some (.ref p)) ∧ ow p = some i ∧ H0 p = none ∧ G p = none ∧ ¬ inSr sr p ∧ H p = some (.lst vs) ∧ RpA K G vs xs
  | .od t es, v => ∃ p o, v = some (some (.ref p)) ∧ ow p = some i ∧ H0 p = none ∧ G p = none ∧ ¬ inSr sr p ∧ H p = some o ∧ DcR K G t o es
  | .oll xss, v => ∃ p ps, v = some (some (.ref p)) ∧ ow p = some i ∧ H0 p = none ∧ G p = none ∧ ¬ inSr sr p ∧ H p = some (.lst (ps.map V.ref)) ∧ ps.Nodup ∧ Paired (InnR K sr H0 G H ow i p) ps xss
  | .src, v => ∃ p c, sr = some (p, c) ∧ v = some (some (.ref p))
structure ER (K : PySem.W.Frag) (sr : Sr) (G0 H0 G H : Hp) (ρ : En) (σ : St) : Prop where
  w0 : Wd sr G0 H0
  le : Le sr G0 H0 G H
  len : σ.length = ρ.length
  ow : ∃ ow : Addr → Option Nat, ∀ (i : Nat) (s : Slot), ρ[i]? = some s → SlotR K sr H0 G H ow i s σ[i]?
theorem DcR.sub {K : PySem.W.Frag} {G G' : Hp} (s : ∀ a o, G a = some o → G' a = some o) : ∀ {t : Bool} {o : HO} {es : List (D × D)}, DcR K G t o es → DcR K G' t o es
  | false, .dK kvs, es, h => RpK.sub s h
  | true, .dT kvs, es, h => RpT.sub s h
  | false, .lst _, _, h => h.elim
  | true, .lst _, _, h => h.elim
  | false, .tup _, _, h => h.elim
  | true, .tup _, _, h => h.elim
  | true, .dK _, _, h => h.elim
  | false, .dT _, _, h => h.elim
  | false, .set _ _, _, h => h.elim
  | true, .set _ _, _, h => h.elim
  | false, .ins _ _ _, _, h => h.elim
  | true, .ins _ _ _, _, h => h.elim
  | false, .own _, _, h => h.elim
  | true, .own _, _, h => h.elim
  | false, .xd _, _, h => h.elim
  | true, .xd _, _, h => h.elim
  | false, .met _ _, _, h => h.elim
  | true, .met _ _, _, h => h.elim
  | false, .rng _ _, _, h => h.elim
  | true, .rng _ _, _, h => h.elim
  | false, .frz _ _, _, h => h.elim
  | true, .frz _ _, _, h => h.elim
  | false, .tbl _, _, h => h.elim
  | true, .tbl _, _, h => h.elim
  | false, .ext _, _, h => h.elim
  | true, .ext _, _, h => h.elim
section
variable {K : PySem.W.Frag} {sr : Sr} {G0 H0 G H G1 H1 : Hp} {ρ : En} {σ : St}
theorem ER.wd (e : ER K sr G0 H0 G H ρ σ) : Wd sr G H := e.le.wd
theorem ER.le' (e : ER K sr G0 H0 G H ρ σ) (l : Le sr G H G1 H1) : ER K sr G0 H0 G1 H1 ρ σ := by
  obtain ⟨w0, le, len, ow, h⟩ := e
  have gs := l.gsub le.wd
  refine ⟨w0, Le.trans w0 le l, len, ow, fun i s hs => ?_⟩
  have q := h i s hs
  cases s with
  | un => exact True.intro
  | d x =>
    obtain ⟨u, e1, r⟩ := q
    exact ⟨u, e1, Rp.sub gs r⟩
  | b x =>
    obtain ⟨u, e1, r⟩ := q
    exact ⟨u, e1, r.sub gs⟩
  | ol xs =>
    obtain ⟨p, vs, e1, e2, e3, e4, e5, e6, r⟩ := q
    exact ⟨p, vs, e1, e2, e3, by rw [l.fro p _ e6]; exact e4, e5, l.keep p _ e6 e5, RpA.sub gs r⟩
  | od t es =>
    obtain ⟨p, o, e1, e2, e3, e4, e5, e6, r⟩ := q
    exact ⟨p, o, e1, e2, e3, by rw [l.fro p _ e6]; exact e4, e5, l.keep p _ e6 e5, DcR.sub gs r⟩
  | oll xss =>
    obtain ⟨p, ps, e1, e2, e3, e4, e5, e6, nd, r⟩ := q
    refine ⟨p, ps, e1, e2, e3, by rw [l.fro p _ e6]; exact e4, e5, l.keep p _ e6 e5, nd, pair_imp (fun b xs z => ?_) r⟩
    obtain ⟨b1, b2, b3, b4, b5, vs, b6, b7⟩ := z
    exact ⟨b1, b2, b3, by rw [l.fro b _ b6]; exact b4, b5, vs, l.keep b _ b6 b5, RpA.sub gs b7⟩
  | src => exact q
theorem ER.idx (e : ER K sr G0 H0 G H ρ σ) {i : Nat} {s : Slot} (hs : ρ[i]? = some s) : i < σ.length := by
  rw [e.len]; exact (List.getElem?_eq_some_iff.mp hs).1
/-- a slot takes plain data -/
theorem ER.set (e : ER K sr G0 H0 G H ρ σ) {i : Nat} {v : V} {d : D} (r : Rp K G v d) (hi : i < ρ.length) : ER K sr G0 H0 G H (ρ.set i (.d d)) (σ.set i (some v)) := by
  obtain ⟨w0, le, len, ow, h⟩ := e
  refine ⟨w0, le, by rw [List.length_set, List.length_set]; exact len, ow, fun j s hs => ?_⟩
  by_cases q : i = j
  · subst q
    rw [List.getElem?_set_self hi] at hs
    cases hs
    exact ⟨v, by rw [List.getElem?_set_self (by rw [len]; exact hi)], r⟩
  · rw [List.getElem?_set_ne q] at hs
    rw [List.getElem?_set_ne q]
    exact h j s hs
/-- a slot is forgotten -/
theorem ER.un (e : ER K sr G0 H0 G H ρ σ) (i : Nat) (v : Option V) : ER K sr G0 H0 G H (ρ.set i .un) (σ.set i v) := by
  obtain ⟨w0, le, len, ow, h⟩ := e
  refine ⟨w0, le, by rw [List.length_set, List.length_set]; exact len, ow, fun j s hs => ?_⟩
  by_cases q : i = j
  · subst q
    by_cases hi : i < ρ.length
    · rw [List.getElem?_set_self hi] at hs
      cases hs
      exact True.intro
    · rw [List.getElem?_eq_none (by rw [List.length_set]; omega)] at hs
      cases hs
  · rw [List.getElem?_set_ne q] at hs
    rw [List.getElem?_set_ne q]
    exact h j s hs
end

/-- new, seen by nobody yet -/
inductive Fresh (K : PySem.W.Frag) (G H : Hp) (p : Addr) : D → Prop
  | ol {vs : List V} {ds : List D} : G p = none → H p = some (.lst vs) → RpA K G vs ds → Fresh K G H p (.list ds)
section
variable {K : PySem.W.Frag} {sr : Sr} {G0 H0 G H G1 H1 : Hp} {ρ : En} {σ : St}
/-- what is wanted of a value that stands for d -/
def Kd (K : PySem.W.Frag) (sr : Sr) (G H : Hp) (Q : VK) (d : D) : Prop := ∀ v G' H', Le sr G H G' H' → Rp K G' v d → Q v H'
def Kw (K : PySem.W.Frag) (sr : Sr) (G H : Hp) (Q : VK) (d : D) : Prop := ∀ v G' H', Le sr G H G' H' → Rw K sr G' H' v d → Q v H'
def Kr (K : PySem.W.Frag) (sr : Sr) (G H : Hp) (Q : VK) (d : D) : Prop := ∀ v G' H', Le sr G H G' H' → Rr K sr G' H' v d → Q v H'
def Kf (K : PySem.W.Frag) (sr : Sr) (G H : Hp) (Q : VK) (d : D) : Prop := ∀ p G' H', Le sr G H G' H' → H p = none → Fresh K G' H' p d → Q (.ref p) H'
theorem Kd.le {Q : VK} {d : D} (w : Wd sr G H) (l : Le sr G H G1 H1) (k : Kd K sr G H Q d) : Kd K sr G1 H1 Q d := fun v G' H' l' r => k v G' H' (Le.trans w l l') r
theorem Kr.le {Q : VK} {d : D} (w : Wd sr G H) (l : Le sr G H G1 H1) (k : Kr K sr G H Q d) : Kr K sr G1 H1 Q d := fun v G' H' l' r => k v G' H' (Le.trans w l l') r
theorem Kw.le {Q : VK} {d : D} (w : Wd sr G H) (l : Le sr G H G1 H1) (k : Kw K sr G H Q d) : Kw K sr G1 H1 Q d := fun v G' H' l' r => k v G' H' (Le.trans w l l') r
theorem Kf.le {Q : VK} {d : D} (w : Wd sr G H) (l : Le sr G H G1 H1) (k : Kf K sr G H Q d) : Kf K sr G1 H1 Q d := fun p G' H' l' n f => k p G' H' (Le.trans w l l') (l.free w n) f
theorem Kr.d {Q : VK} {d : D} (k : Kr K sr G H Q d) : Kd K sr G H Q d := fun v G' H' l r => k v G' H' l (.fz r)
theorem Kr.w {Q : VK} {d : D} (k : Kr K sr G H Q d) : Kw K sr G H Q d := fun v G' H' l r => k v G' H' l r.r
theorem Kw.d {Q : VK} {d : D} (k : Kw K sr G H Q d) : Kd K sr G H Q d := fun v G' H' l r => k v G' H' l (.fz r)
theorem Kw.f {Q : VK} {d : D} (w : Wd sr G H) (k : Kw K sr G H Q d) : Kf K sr G H Q d := fun p G' H' l n f => k _ G' H' l (by
  cases f with
  | ol h1 h2 h3 => exact .ol (w.nosr n) h2 h3)
theorem Kr.f {Q : VK} {d : D} (w : Wd sr G H) (k : Kr K sr G H Q d) : Kf K sr G H Q d := fun p G' H' l n f => k _ G' H' l (by
  cases f with
  | ol h1 h2 h3 => exact .ol (w.nosr n) h2 h3)
/-- freezing what is new -/
theorem frz_le {p : Addr} {o : HO} (w : Wd sr G H) (l : Le sr G H G1 H1) (n : H p = none) (g : G1 p = none) (h : H1 p = some o) : Le sr G H (upd G1 p o) H1 ∧ ∀ a u, G1 a = some u → upd G1 p o a = some u := by
  refine ⟨⟨⟨fun a u e => ?_, fun a c e => ?_, fun a xs e => ?_⟩, l.keep, fun a u e => ?_⟩, fun a u e => ?_⟩
  · by_cases q : a = p
    · subst q; rw [upd_same] at e; cases e; exact h
    · rw [upd_ne q] at e; exact l.wd.sub a u e
  · obtain ⟨s1, g1, g2⟩ := l.wd.src a c e
    have na : a ≠ p := fun q => w.nosr n ⟨a, c, e, .inl q.symm⟩
    have nc : c ≠ p := fun q => w.nosr n ⟨a, c, e, .inr q.symm⟩
    exact ⟨s1, by rw [upd_ne na]; exact g1, by rw [upd_ne nc]; exact g2⟩
  · by_cases q : a = p
    · subst q; rw [upd_same]; rw [h] at e; exact e
    · rw [upd_ne q]; exact l.wd.tup a xs e
  · rw [upd_ne (fun q => by subst q; rw [n] at e; cases e)]; exact l.fro a u e
  · rw [upd_ne (fun q => by subst q; rw [g] at e; cases e)]; exact e
theorem Kd.f {Q : VK} {d : D} (w : Wd sr G H) (k : Kd K sr G H Q d) : Kf K sr G H Q d := fun p G' H' l n f => by
  cases f with
  | ol h1 h2 h3 =>
    obtain ⟨l2, s2⟩ := frz_le w l n h1 h2
    exact k _ _ H' l2 (.lst upd_same (RpA.sub s2 h3))
end

/-! ### readings of expressions -/
abbrev DT := En → (D → Prop) → Prop
abbrev Mono (t : DT) : Prop := ∀ ρ Q Q', (∀ d, Q d → Q' d) → t ρ Q → t ρ Q'
structure Rd (K : PySem.W.Frag) (te : TE) (t : DT) : Prop where
  mono : Mono t
  rd : ∀ sr G0 H0 G H ρ σ Q, ER K sr G0 H0 G H ρ σ → t ρ (Kd K sr G H Q) → te σ H Q
structure RdR (K : PySem.W.Frag) (te : TE) (t : DT) : Prop where
  mono : Mono t
  rd : ∀ sr G0 H0 G H ρ σ Q, ER K sr G0 H0 G H ρ σ → t ρ (Kr K sr G H Q) → te σ H Q
structure RdW (K : PySem.W.Frag) (te : TE) (t : DT) : Prop where
  mono : Mono t
  rd : ∀ sr G0 H0 G H ρ σ Q, ER K sr G0 H0 G H ρ σ → t ρ (Kw K sr G H Q) → te σ H Q
structure RdF (K : PySem.W.Frag) (te : TE) (t : DT) : Prop where
  mono : Mono t
  rd : ∀ sr G0 H0 G H ρ σ Q, ER K sr G0 H0 G H ρ σ → t ρ (Kf K sr G H Q) → te σ H Q
section
variable {K : PySem.W.Frag} {te ta tb : TE} {t a b : DT}
theorem Rd.r (h : Rd K te t) : RdR K te t := ⟨h.mono, fun sr G0 H0 G H ρ σ Q e q => h.rd sr G0 H0 G H ρ σ Q e (h.mono _ _ _ (fun d k => k.d) q)⟩
theorem Rd.w (h : Rd K te t) : RdW K te t := ⟨h.mono, fun sr G0 H0 G H ρ σ Q e q => h.rd sr G0 H0 G H ρ σ Q e (h.mono _ _ _ (fun d k => k.d) q)⟩
theorem RdW.r (h : RdW K te t) : RdR K te t := ⟨h.mono, fun sr G0 H0 G H ρ σ Q e q => h.rd sr G0 H0 G H ρ σ Q e (h.mono _ _ _ (fun d k => k.w) q)⟩
theorem RdF.w (h : RdF K te t) : RdW K te t := ⟨h.mono, fun sr G0 H0 G H ρ σ Q e q => h.rd sr G0 H0 G H ρ σ Q e (h.mono _ _ _ (fun d k => k.f e.wd) q)⟩
theorem RdF.d (h : RdF K te t) : Rd K te t := ⟨h.mono, fun sr G0 H0 G H ρ σ Q e q => h.rd sr G0 H0 G H ρ σ Q e (h.mono _ _ _ (fun d k => k.f e.wd) q)⟩
theorem RdF.r (h : RdF K te t) : RdR K te t := ⟨h.mono, fun sr G0 H0 G H ρ σ Q e q => h.rd sr G0 H0 G H ρ σ Q e (h.mono _ _ _ (fun d k => k.f e.wd) q)⟩
end
structure DE (X : Cx) (e : Expr) (te : TE) (t : DT) : Prop where
  pe : PE X e te
  rd : Rd X.K te t
structure DR (X : Cx) (e : Expr) (te : TE) (t : DT) : Prop where
  pe : PE X e te
  rd : RdR X.K te t
structure DW (X : Cx) (e : Expr) (te : TE) (t : DT) : Prop where
  pe : PE X e te
  rd : RdW X.K te t
structure DF (X : Cx) (e : Expr) (te : TE) (t : DT) : Prop where
  pe : PE X e te
  rd : RdF X.K te t
theorem DE.r {X : Cx} {e : Expr} {te : TE} {t : DT} (h : DE X e te t) : DR X e te t := ⟨h.pe, h.rd.r⟩
theorem DE.w {X : Cx} {e : Expr} {te : TE} {t : DT} (h : DE X e te t) : DW X e te t := ⟨h.pe, h.rd.w⟩
theorem DW.r {X : Cx} {e : Expr} {te : TE} {t : DT} (h : DW X e te t) : DR X e te t := ⟨h.pe, h.rd.r⟩
theorem DF.w {X : Cx} {e : Expr} {te : TE} {t : DT} (h : DF X e te t) : DW X e te t := ⟨h.pe, h.rd.w⟩
theorem DF.r {X : Cx} {e : Expr} {te : TE} {t : DT} (h : DF X e te t) : DR X e te t := ⟨h.pe, h.rd.r⟩
theorem DF.d {X : Cx} {e : Expr} {te : TE} {t : DT} (h : DF X e te t) : DE X e te t := ⟨h.pe, h.rd.d⟩

/-! names and constants -/
def dVar (i : Nat) : DT := fun ρ Q => match ρ[i]? with
  | some (.d x) => Q x
  | _ => False
def wVar (i : Nat) : DT := fun ρ Q => match ρ[i]? with
  | some (.d x) => Q x
  | some (.ol xs) => Q (.list xs)
  | _ => False
def rVar (i : Nat) : DT := fun ρ Q => match ρ[i]? with
  | some (.d x) => Q x
  | some (.ol xs) => Q (.list xs)
  | some (.b x) => Q x
  | _ => False
def dC (d : D) : DT := fun _ Q => Q d
section
variable {K : PySem.W.Frag}
theorem rd_var (i : Nat) : Rd K (tVar i) (dVar i) := by
  refine ⟨fun ρ Q Q' h q => ?_, fun sr G0 H0 G H ρ σ Q e q => ?_⟩
  · unfold dVar at q ⊢
    split at q
    · rename_i x e; exact h _ q
    · exact q.elim
  · unfold dVar at q
    split at q
    · rename_i x es
      obtain ⟨ow, hw⟩ := e.ow
      obtain ⟨u, e1, r⟩ := hw i _ es
      exact ⟨u, e1, q u G H (Le.refl e.wd) r⟩
    · exact q.elim
theorem rw_var (i : Nat) : RdW K (tVar i) (wVar i) := by
  refine ⟨fun ρ Q Q' h q => ?_, fun sr G0 H0 G H ρ σ Q e q => ?_⟩
  · unfold wVar at q ⊢
    split at q
    · exact h _ q
    · exact h _ q
    · exact q.elim
  · unfold wVar at q
    obtain ⟨ow, hw⟩ := e.ow
    split at q
    · rename_i x es
      obtain ⟨u, e1, r⟩ := hw i _ es
      exact ⟨u, e1, q u G H (Le.refl e.wd) (.fz r)⟩
    · rename_i x es
      obtain ⟨p, vs, e1, e2, e3, e4, e5, e6, r⟩ := hw i _ es
      exact ⟨.ref p, e1, q _ G H (Le.refl e.wd) (.ol e5 e6 r)⟩
    · exact q.elim
theorem rr_var (i : Nat) : RdR K (tVar i) (rVar i) := by
  refine ⟨fun ρ Q Q' h q => ?_, fun sr G0 H0 G H ρ σ Q e q => ?_⟩
  · unfold rVar at q ⊢
    split at q
    · exact h _ q
    · exact h _ q
    · exact h _ q
    · exact q.elim
  · unfold rVar at q
    obtain ⟨ow, hw⟩ := e.ow
    split at q
    · rename_i x es
      obtain ⟨u, e1, r⟩ := hw i _ es
      exact ⟨u, e1, q u G H (Le.refl e.wd) (.fz r)⟩
    · rename_i x es
      obtain ⟨p, vs, e1, e2, e3, e4, e5, e6, r⟩ := hw i _ es
      exact ⟨.ref p, e1, q _ G H (Le.refl e.wd) (.ol e5 e6 r)⟩
    · rename_i x es
      obtain ⟨u, e1, r⟩ := hw i _ es
      exact ⟨u, e1, q u G H (Le.refl e.wd) (r.r e.le)⟩
    · exact q.elim
theorem rd_c {v : V} {d : D} (r : ∀ G, Rp K G v d) : Rd K (tC v) (dC d) :=
  ⟨fun ρ Q Q' h q => h _ q, fun sr G0 H0 G H ρ σ Q e q => q v G H (Le.refl e.wd) (r G)⟩
end

/-! two-place operations -/
abbrev K2 := D → D → (D → Prop) → Prop
abbrev Mono2 (k : K2) : Prop := ∀ d e Q Q', (∀ z, Q z → Q' z) → k d e Q → k d e Q'
structure RO (K : PySem.W.Frag) (r : R2) (k : K2) : Prop where
  mono : Mono2 k
  ro : ∀ sr G H x y d e Q, Wd sr G H → Rr K sr G H x d → Rr K sr G H y e → k d e (Kd K sr G H Q) → r x y H Q
structure ROF (K : PySem.W.Frag) (r : R2) (k : K2) : Prop where
  mono : Mono2 k
  ro : ∀ sr G H x y d e Q, Wd sr G H → Rr K sr G H x d → Rr K sr G H y e → k d e (Kf K sr G H Q) → r x y H Q
structure ROw (K : PySem.W.Frag) (r : R2) (k : K2) : Prop where
  mono : Mono2 k
  ro : ∀ sr G H x y d e Q, Wd sr G H → Rw K sr G H x d → Rw K sr G H y e → k d e (Kd K sr G H Q) → r x y H Q
def dOp (k : K2) (a b : DT) : DT := fun ρ Q => a ρ fun x => b ρ fun y => k x y Q
section
variable {K : PySem.W.Frag} {r r' : R2} {k k' : K2} {ta tb : TE} {a b : DT}
theorem ROF.d (h : ROF K r k) : RO K r k := ⟨h.mono, fun sr G H x y d e Q w rx ry q => h.ro sr G H x y d e Q w rx ry (h.mono _ _ _ _ (fun z z' => z'.f w) q)⟩
theorem dOp_mono (hk : Mono2 k) (ha : Mono a) (hb : Mono b) : Mono (dOp k a b) := fun ρ Q Q' h q => ha ρ _ _ (fun x q => hb ρ _ _ (fun y q => hk _ _ _ _ h q) q) q
theorem rd_op (ho : RO K r k) (ha : RdR K ta a) (hb : RdR K tb b) : Rd K (tOp r ta tb) (dOp k a b) := by
  refine ⟨dOp_mono ho.mono ha.mono hb.mono, fun sr G0 H0 G H ρ σ Q e q => ?_⟩
  refine ha.rd sr G0 H0 G H ρ σ _ e (ha.mono _ _ _ (fun x q v G1 H1 l1 r1 => ?_) q)
  refine hb.rd sr G0 H0 G1 H1 ρ σ _ (e.le' l1) (hb.mono _ _ _ (fun y q u G2 H2 l2 r2 => ?_) q)
  have w1 := l1.wd
  refine ho.ro sr G2 H2 v u x y Q l2.wd (r1.le w1 l2) r2 (ho.mono _ _ _ _ (fun z k => ?_) q)
  exact Kd.le e.wd (Le.trans e.wd l1 l2) k
theorem rf_op (ho : ROF K r k) (ha : RdR K ta a) (hb : RdR K tb b) : RdF K (tOp r ta tb) (dOp k a b) := by
  refine ⟨dOp_mono ho.mono ha.mono hb.mono, fun sr G0 H0 G H ρ σ Q e q => ?_⟩
  refine ha.rd sr G0 H0 G H ρ σ _ e (ha.mono _ _ _ (fun x q v G1 H1 l1 r1 => ?_) q)
  refine hb.rd sr G0 H0 G1 H1 ρ σ _ (e.le' l1) (hb.mono _ _ _ (fun y q u G2 H2 l2 r2 => ?_) q)
  have w1 := l1.wd
  refine ho.ro sr G2 H2 v u x y Q l2.wd (r1.le w1 l2) r2 (ho.mono _ _ _ _ (fun z k => ?_) q)
  exact Kf.le e.wd (Le.trans e.wd l1 l2) k
theorem rd_opw (ho : ROw K r k) (ha : RdW K ta a) (hb : RdW K tb b) : Rd K (tOp r ta tb) (dOp k a b) := by
  refine ⟨dOp_mono ho.mono ha.mono hb.mono, fun sr G0 H0 G H ρ σ Q e q => ?_⟩
  refine ha.rd sr G0 H0 G H ρ σ _ e (ha.mono _ _ _ (fun x q v G1 H1 l1 r1 => ?_) q)
  refine hb.rd sr G0 H0 G1 H1 ρ σ _ (e.le' l1) (hb.mono _ _ _ (fun y q u G2 H2 l2 r2 => ?_) q)
  have w1 := l1.wd
  refine ho.ro sr G2 H2 v u x y Q l2.wd (r1.le w1 l2) r2 (ho.mono _ _ _ _ (fun z k => ?_) q)
  exact Kd.le e.wd (Le.trans e.wd l1 l2) k
theorem RO.or (h : RO K r k) (h' : RO K r' k') : RO K (fun x y H Q => r x y H Q ∨ r' x y H Q) (fun d e Q => k d e Q ∨ k' d e Q) :=
  ⟨fun d e Q Q' m q => q.elim (fun q => .inl (h.mono _ _ _ _ m q)) fun q => .inr (h'.mono _ _ _ _ m q),
   fun sr G H x y d e Q w rx ry q => q.elim (fun q => .inl (h.ro _ _ _ _ _ _ _ _ w rx ry q)) fun q => .inr (h'.ro _ _ _ _ _ _ _ _ w rx ry q)⟩
theorem RO.weak (h : RO K r k) (m : Mono2 k') (i : ∀ d e Q, k' d e Q → k d e Q) : RO K r k' := ⟨m, fun sr G H x y d e Q w rx ry q => h.ro sr G H x y d e Q w rx ry (i _ _ _ q)⟩
end
section
variable {K : PySem.W.Frag} {sr : Sr} {G H : Hp}
theorem Rr.int {x : V} {i : Int} (r : Rr K sr G H x (.int i)) : x = .int i := by
  cases r with
  | fz r => cases r; rfl
  | kc r => cases r; rfl
theorem Rr.bl {x : V} {i : Bool} (r : Rr K sr G H x (.bool i)) : x = .bl i := by
  cases r with
  | fz r => cases r; rfl
  | kc r => cases r; rfl
theorem Rr.str {x : V} {i : Str} (r : Rr K sr G H x (.str i)) : x = .str i := by
  cases r with
  | fz r => cases r; rfl
  | kc r => cases r; rfl
theorem Rr.non {x : V} (r : Rr K sr G H x .none) : x = .non := by
  cases r with
  | fz r => cases r; rfl
  | kc r => cases r; rfl
theorem Rw.tup {x : V} {ds : List D} (r : Rw K sr G H x (.tuple ds)) : ∃ a xs, x = .ref a ∧ G a = some (.tup xs) ∧ RpA K G xs ds := by
  cases r with
  | fz r => cases r with
    | tup h r => exact ⟨_, _, rfl, h, r⟩
theorem Rr.tup {x : V} {ds : List D} (r : Rr K sr G H x (.tuple ds)) (w : Wd sr G H) : ∃ a xs, x = .ref a ∧ SqT K H a xs ∧ xs.length = ds.length ∧ (RpA K G xs ds ∨ RkA K xs ds) := by
  cases r with
  | fz r => cases r with
    | tup h r => exact ⟨_, _, rfl, .inl (.inl (w.sub _ _ h)), r.length, .inl r⟩
  | kc r => cases r with
    | tup h1 h2 h3 h4 h5 r => exact ⟨_, _, rfl, .inr ⟨_, _, _, h1, h2, h3, h4, h5⟩, r.length, .inr r⟩
theorem Rr.lst {x : V} {ds : List D} (r : Rr K sr G H x (.list ds)) (w : Wd sr G H) : ∃ a xs, x = .ref a ∧ H a = some (.lst xs) ∧ RpA K G xs ds := by
  cases r with
  | fz r => cases r with
    | lst h r => exact ⟨_, _, rfl, w.sub _ _ h, r⟩
  | ol h1 h2 h3 => exact ⟨_, _, rfl, h2, h3⟩
  | kc r => cases r
/-- as the layer's own data, in the whole heap -/
theorem Rr.dp {x : V} {d : D} (r : Rr K sr G H x d) (w : Wd sr G H) (n : nod d = true) : Dp K H x d := by
  cases r with
  | fz r => exact Rp.dp (Rp.sub w.sub r) n
  | ol h1 h2 h3 => exact .lst (.inl (.inl h2)) (Rp.dpA (RpA.sub w.sub h3) (by simpa only [nod] using n))
  | kc r => exact r.dp
end
/-- ints -/
def kI (C : Int → Int → Prop) (g : Int → Int → D) : K2 := fun d e Q => match d, e with
  | .int i, .int j => C i j ∧ Q (g i j)
  | _, _ => False
theorem kI_mono {C : Int → Int → Prop} {g : Int → Int → D} : Mono2 (kI C g) := fun d e Q Q' m q => by
  unfold kI at q ⊢
  split at q
  · exact ⟨q.1, m _ q.2⟩
  · exact q.elim
section
variable {K : PySem.W.Frag}
theorem ro_I {C : Int → Int → Prop} {g : Int → Int → V} {g' : Int → Int → D} (hg : ∀ i j G, Rp K G (g i j) (g' i j)) : RO K (rI C g) (kI C g') := by
  refine ⟨kI_mono, fun sr G H x y d e Q w rx ry q => ?_⟩
  unfold kI at q
  split at q
  · rename_i i j
    exact ⟨i, j, rx.int, ry.int, q.1, q.2 _ _ _ (Le.refl w) (hg i j G)⟩
  · exact q.elim
theorem ro_I0 {g : Int → Int → V} {g' : Int → Int → D} (hg : ∀ i j G, Rp K G (g i j) (g' i j)) : RO K (rI0 g) (kI (fun _ _ => True) g') := by
  refine ⟨kI_mono, fun sr G H x y d e Q w rx ry q => ?_⟩
  unfold kI at q
  split at q
  · rename_i i j
    exact ⟨i, j, rx.int, ry.int, q.2 _ _ _ (Le.refl w) (hg i j G)⟩
  · exact q.elim
end
end DL
/-! DL2: operators, tests, displays, subscripts, slices. -/
namespace DL
open PySem PySem.Spec L2
open PyProof.Rows hiding St

theorem slEq : sizeLine = 16777216 := sizeLine_eq
section
variable {K : PySem.W.Frag} {sr : Sr} {G H : Hp}
/-- a new plain tuple -/
theorem Kd.tup {Q : VK} {xs : List V} {ds : List D} (w : Wd sr G H) (r : RpA K G xs ds) (k : Kd K sr G H Q (.tuple ds)) : ∀ p, H p = none → Q (.ref p) (upd H p (.tup xs)) := fun p n => by
  have l := Le.newF (o := .tup xs) w n
  exact k _ _ _ l (.tup upd_same (RpA.sub (l.gsub w) r))
theorem Kf.lst {Q : VK} {xs : List V} {ds : List D} (w : Wd sr G H) (r : RpA K G xs ds) (k : Kf K sr G H Q (.list ds)) : ∀ p, H p = none → Q (.ref p) (upd H p (.lst xs)) := fun p n =>
  k _ _ _ (Le.newO (o := .lst xs) w n) n (.ol (w.gn n) upd_same r)
theorem Kd.lst {Q : VK} {xs : List V} {ds : List D} (w : Wd sr G H) (r : RpA K G xs ds) (k : Kd K sr G H Q (.list ds)) : ∀ p, H p = none → Q (.ref p) (upd H p (.lst xs)) := Kf.lst w r (k.f w)
theorem Kd.now {Q : VK} {v : V} {d : D} (w : Wd sr G H) (r : Rp K G v d) (k : Kd K sr G H Q d) : Q v H := k v G H (Le.refl w) r
end

/-! + -/
def rAdd (K : PySem.W.Frag) : R2 := fun x y H Q => rI0 (fun i j => .int (i + j)) x y H Q ∨ rCatA K x y H Q ∨ rCat x y H Q ∨ ∃ i j, x = .str i ∧ y = .str j ∧ i.length + j.length ≤ sizeLine ∧ Q (.str (i ++ j)) H
theorem op_addU {X : Cx} : OpR X (binaryOp .Add) (rAdd X.K) := op_add.or (op_catA.or (op_cat.or op_add_str))
def kAdd : K2 := fun d e Q => match d, e with
  | .int i, .int j => Q (.int (i + j))
  | .tuple a, .tuple b => a.length + b.length ≤ 16777216 ∧ Q (.tuple (a ++ b))
  | .list a, .list b => a.length + b.length ≤ 16777216 ∧ Q (.list (a ++ b))
  | .str a, .str b => a.length + b.length ≤ 16777216 ∧ Q (.str (a ++ b))
  | _, _ => False
def kCat : K2 := fun d e Q => match d, e with
  | .list a, .list b => a.length + b.length ≤ 16777216 ∧ Q (.list (a ++ b))
  | _, _ => False
section
variable {K : PySem.W.Frag}
theorem ro_cat : ROF K rCat kCat := by
  refine ⟨fun d e Q Q' m q => ?_, fun sr G H x y d e Q w rx ry q => ?_⟩
  · unfold kCat at q ⊢
    split at q
    · exact ⟨q.1, m _ q.2⟩
    · exact q.elim
  · unfold kCat at q
    split at q
    · rename_i a b
      obtain ⟨p, xs, e1, h1, r1⟩ := rx.lst w
      obtain ⟨p2, ys, e2, h2, r2⟩ := ry.lst w
      refine ⟨p, p2, xs, ys, e1, e2, h1, h2, by rw [slEq, r1.length, r2.length]; exact q.1, Kf.lst w (r1.append r2) q.2⟩
    · exact q.elim
theorem ro_add : ROw K (rAdd K) kAdd := by
  refine ⟨fun d e Q Q' m q => ?_, fun sr G H x y d e Q w rx ry q => ?_⟩
  · unfold kAdd at q ⊢
    split at q
    · exact m _ q
    · exact ⟨q.1, m _ q.2⟩
    · exact ⟨q.1, m _ q.2⟩
    · exact ⟨q.1, m _ q.2⟩
    · exact q.elim
  · unfold kAdd at q
    split at q
    · rename_i i j
      exact .inl ⟨i, j, rx.r.int, ry.r.int, Kd.now w (.int _) q⟩
    · rename_i a b
      obtain ⟨p, xs, e1, h1, r1⟩ := rx.tup
      obtain ⟨p2, ys, e2, h2, r2⟩ := ry.tup
      subst e1 e2
      refine .inr (.inl ⟨p, p2, xs, ys, rfl, rfl, .inl (.inl (w.sub _ _ h1)), .inl (.inl (w.sub _ _ h2)), by rw [slEq, r1.length, r2.length]; exact q.1, fun z => ?_, fun _ z => ?_, fun _ _ => Kd.tup w (r1.append r2) q.2⟩)
      · subst z
        cases r1
        exact Kd.now w (.tup h2 r2) q.2
      · subst z
        cases r2
        have q2 := q.2
        rw [List.append_nil] at q2
        exact Kd.now w (.tup h1 r1) q2
    · exact .inr (.inr (.inl (ro_cat.d.ro sr G H x y _ _ Q w rx.r ry.r q)))
    · rename_i a b
      exact .inr (.inr (.inr ⟨a, b, rx.r.str, ry.r.str, by rw [slEq]; exact q.1, Kd.now w (.str _) q.2⟩))
    · exact q.elim
theorem ro_sub : RO K (rI0 fun i j => .int (i - j)) (kI (fun _ _ => True) fun i j => .int (i - j)) := ro_I0 fun _ _ _ => .int _
theorem ro_mul : RO K (rI CMul fun i j => .int (i * j)) (kI CMul fun i j => .int (i * j)) := ro_I fun _ _ _ => .int _
theorem ro_fdiv : RO K (rI CDivN fun i j => .int (i.fdiv j)) (kI CDivN fun i j => .int (i.fdiv j)) := ro_I fun _ _ _ => .int _
theorem ro_mod : RO K (rI (fun _ j => j ≠ 0) fun i j => .int (i.fmod j)) (kI (fun _ j => j ≠ 0) fun i j => .int (i.fmod j)) := ro_I fun _ _ _ => .int _
theorem ro_lt : RO K (rI0 fun i j => .bl (decide (i < j))) (kI (fun _ _ => True) fun i j => .bool (decide (i < j))) := ro_I0 fun _ _ _ => .bl _
theorem ro_le : RO K (rI0 fun i j => .bl (decide (i ≤ j))) (kI (fun _ _ => True) fun i j => .bool (decide (i ≤ j))) := ro_I0 fun _ _ _ => .bl _
theorem ro_gt : RO K (rI0 fun i j => .bl (decide (j < i))) (kI (fun _ _ => True) fun i j => .bool (decide (j < i))) := ro_I0 fun _ _ _ => .bl _
theorem ro_ge : RO K (rI0 fun i j => .bl (decide (j ≤ i))) (kI (fun _ _ => True) fun i j => .bool (decide (j ≤ i))) := ro_I0 fun _ _ _ => .bl _
end
mutual
theorem nod_of : ∀ d : D, d.canLay0 = true → nod d = true
  | .none, _ => rfl
  | .bool _, _ => rfl
  | .int _, _ => rfl
  | .str _, _ => rfl
  | .list xs, h => by simp only [nod]; exact nodA_of xs (by simpa only [PyData.canLay0] using h)
  | .tuple xs, h => by simp only [nod]; exact nodA_of xs (by simpa only [PyData.canLay0] using h)
  | .dict _, h => by simp [PyData.canLay0] at h
theorem nodA_of : ∀ ds : List D, PyData.canLayAll0 ds = true → nodA ds = true
  | [], _ => rfl
  | d :: ds, h => by
    simp only [PyData.canLayAll0, Bool.and_eq_true] at h
    simp only [nodA, nod_of d h.1, nodA_of ds h.2, Bool.and_self]
end
theorem nod_sh {d : D} (h : SeqAt.shaped d = true) : nod d = true := nod_of d (SeqAt.canLay_of_shaped h)
def kEq : K2 := fun d e Q => (SeqAt.shaped d = true ∧ SeqAt.shaped e = true) ∧ Q (.bool (PyData.eqv d e))
def kNe : K2 := fun d e Q => (SeqAt.shaped d = true ∧ SeqAt.shaped e = true) ∧ Q (.bool (!PyData.eqv d e))
section
variable {K : PySem.W.Frag}
theorem ro_eq : RO K (rEqD K) kEq := ⟨fun d e Q Q' m q => ⟨q.1, m _ q.2⟩, fun sr G H x y d e Q w rx ry q =>
  ⟨d, e, rx.dp w (nod_sh q.1.1), ry.dp w (nod_sh q.1.2), q.1.1, q.1.2, Kd.now w (.bl _) q.2⟩⟩
theorem ro_ne : RO K (rNeD K) kNe := ⟨fun d e Q Q' m q => ⟨q.1, m _ q.2⟩, fun sr G H x y d e Q w rx ry q =>
  ⟨d, e, rx.dp w (nod_sh q.1.1), ry.dp w (nod_sh q.1.2), q.1.1, q.1.2, Kd.now w (.bl _) q.2⟩⟩
end
/-! is None -/
def isNone : D → Bool
  | .none => true
  | _ => false
def kIsN : K2 := fun d e Q => match e with
  | .none => Q (.bool (isNone d))
  | _ => False
def kNotN : K2 := fun d e Q => match e with
  | .none => Q (.bool (!isNone d))
  | _ => False
section
variable {K : PySem.W.Frag} {sr : Sr} {G H : Hp}
theorem isNone_of {x : V} {d : D} (r : Rr K sr G H x d) : decide (x = .non) = isNone d := by
  cases r with
  | fz r => cases r <;> rfl
  | ol => rfl
  | kc r => cases r <;> rfl
theorem ro_isN : RO K (fun x y H Q => y = .non ∧ Q (.bl (decide (x = .non))) H) kIsN := by
  refine ⟨fun d e Q Q' m q => ?_, fun sr G H x y d e Q w rx ry q => ?_⟩
  · unfold kIsN at q ⊢
    split at q
    · exact m _ q
    · exact q.elim
  · unfold kIsN at q
    split at q
    · refine ⟨ry.non, ?_⟩
      rw [isNone_of rx]
      exact Kd.now w (.bl _) q
    · exact q.elim
theorem ro_notN : RO K (fun x y H Q => y = .non ∧ Q (.bl (!decide (x = .non))) H) kNotN := by
  refine ⟨fun d e Q Q' m q => ?_, fun sr G H x y d e Q w rx ry q => ?_⟩
  · unfold kNotN at q ⊢
    split at q
    · exact m _ q
    · exact q.elim
  · unfold kNotN at q
    split at q
    · refine ⟨ry.non, ?_⟩
      rw [isNone_of rx]
      exact Kd.now w (.bl _) q
    · exact q.elim
end
/-! in, not in: lists, tuples of data -/
def rInT (K : PySem.W.Frag) : R2 := fun x y H Q => ∃ d ds, Dp K H x d ∧ Dp K H y (.tuple ds) ∧ SeqAt.shaped d = true ∧ SeqAt.shaped (.tuple ds) = true ∧ Q (.bl (ds.any fun z => PyData.eqv z d)) H
def rNotInT (K : PySem.W.Frag) : R2 := fun x y H Q => ∃ d ds, Dp K H x d ∧ Dp K H y (.tuple ds) ∧ SeqAt.shaped d = true ∧ SeqAt.shaped (.tuple ds) = true ∧ Q (.bl (!ds.any fun z => PyData.eqv z d)) H
section
variable {X : Cx}
theorem room_inT {A : Around} {d : PyData} {ds : List PyData} (sd : SeqAt.shaped d = true) (hu : A.units + 65 < cLine) : A.units + 1 + min (PyData.depthAll ds) d.depth < cLine := by
  have h1 := SeqAt.depth_of_shaped sd
  have h2 : min (PyData.depthAll ds) d.depth ≤ d.depth := Nat.min_le_right _ _
  omega
theorem op_inT (hu : X.A.units + 65 < cLine) : OpR X (compareOp .In) (rInT X.K) := by
  intro pins s σ H x y v u Q I rx ry h
  obtain ⟨d, ds, hd, he, sd, se, q⟩ := h
  obtain ⟨as, r1⟩ := Dp.reads I d x v hd rx
  obtain ⟨bs, r2⟩ := Dp.reads I (.tuple ds) y u he ry
  exact SeqAt.in_tuple_reads r2 r1 (by simpa only [PyData.canLay0] using SeqAt.canLay_of_shaped se) (SeqAt.canLay_of_shaped sd) (room_inT sd hu) ⟨.bl _, H, I, rfl, q⟩
theorem op_notInT (hu : X.A.units + 65 < cLine) : OpR X (compareOp .NotIn) (rNotInT X.K) := by
  intro pins s σ H x y v u Q I rx ry h
  obtain ⟨d, ds, hd, he, sd, se, q⟩ := h
  obtain ⟨as, r1⟩ := Dp.reads I d x v hd rx
  obtain ⟨bs, r2⟩ := Dp.reads I (.tuple ds) y u he ry
  exact SeqAt.notIn_tuple_reads r2 r1 (by simpa only [PyData.canLay0] using SeqAt.canLay_of_shaped se) (SeqAt.canLay_of_shaped sd) (room_inT sd hu) ⟨.bl _, H, I, rfl, q⟩
end
def rIn2 (K : PySem.W.Frag) : R2 := fun x y H Q => rInD K x y H Q ∨ rInT K x y H Q
def rNotIn2 (K : PySem.W.Frag) : R2 := fun x y H Q => rNotInD K x y H Q ∨ rNotInT K x y H Q
theorem op_in2 {X : Cx} (hu : X.A.units + 65 < cLine) : OpR X (compareOp .In) (rIn2 X.K) := (op_inD hu).or (op_inT hu)
theorem op_notIn2 {X : Cx} (hu : X.A.units + 65 < cLine) : OpR X (compareOp .NotIn) (rNotIn2 X.K) := (op_notInD hu).or (op_notInT hu)
def kIn : K2 := fun d e Q => match e with
  | .list ds => (SeqAt.shaped d = true ∧ SeqAt.shaped (.list ds) = true) ∧ Q (.bool (ds.any fun z => PyData.eqv z d))
  | .tuple ds => (SeqAt.shaped d = true ∧ SeqAt.shaped (.tuple ds) = true) ∧ Q (.bool (ds.any fun z => PyData.eqv z d))
  | _ => False
def kNotIn : K2 := fun d e Q => match e with
  | .list ds => (SeqAt.shaped d = true ∧ SeqAt.shaped (.list ds) = true) ∧ Q (.bool (!ds.any fun z => PyData.eqv z d))
  | .tuple ds => (SeqAt.shaped d = true ∧ SeqAt.shaped (.tuple ds) = true) ∧ Q (.bool (!ds.any fun z => PyData.eqv z d))
  | _ => False
section
variable {K : PySem.W.Frag}
theorem ro_in : RO K (rIn2 K) kIn := by
  refine ⟨fun d e Q Q' m q => ?_, fun sr G H x y d e Q w rx ry q => ?_⟩
  · unfold kIn at q ⊢
    split at q
    · exact ⟨q.1, m _ q.2⟩
    · exact ⟨q.1, m _ q.2⟩
    · exact q.elim
  · unfold kIn at q
    split at q
    · rename_i ds
      exact .inl ⟨d, ds, rx.dp w (nod_sh q.1.1), ry.dp w (nod_sh q.1.2), q.1.1, q.1.2, Kd.now w (.bl _) q.2⟩
    · rename_i ds
      exact .inr ⟨d, ds, rx.dp w (nod_sh q.1.1), ry.dp w (nod_sh q.1.2), q.1.1, q.1.2, Kd.now w (.bl _) q.2⟩
    · exact q.elim
theorem ro_notIn : RO K (rNotIn2 K) kNotIn := by
  refine ⟨fun d e Q Q' m q => ?_, fun sr G H x y d e Q w rx ry q => ?_⟩
  · unfold kNotIn at q ⊢
    split at q
    · exact ⟨q.1, m _ q.2⟩
    · exact ⟨q.1, m _ q.2⟩
    · exact q.elim
  · unfold kNotIn at q
    split at q
    · rename_i ds
      exact .inl ⟨d, ds, rx.dp w (nod_sh q.1.1), ry.dp w (nod_sh q.1.2), q.1.1, q.1.2, Kd.now w (.bl _) q.2⟩
    · rename_i ds
      exact .inr ⟨d, ds, rx.dp w (nod_sh q.1.1), ry.dp w (nod_sh q.1.2), q.1.1, q.1.2, Kd.now w (.bl _) q.2⟩
    · exact q.elim
end
/-! subscripts -/
def rIxU (K : PySem.W.Frag) : R2 := fun x y H Q => rIxL K x y H Q ∨ rIxT K x y H Q ∨ rIxS x y H Q
theorem ix_u {X : Cx} : IxR X (rIxU X.K) := ix_seq
def kIx : K2 := fun d e Q => match d, e with
  | .list ds, .int i => (match atI ds i with | some x => Q x | none => False)
  | .tuple ds, .int i => (match atI ds i with | some x => Q x | none => False)
  | .str z, .int i => z.length ≤ 16777216 ∧ (match atI z.cps.toList i with | some c => Q (.str ⟨#[c]⟩) | none => False)
  | _, _ => False
section
variable {K : PySem.W.Frag} {G : Hp}
theorem RpA.atI {xs : List V} {ds : List D} {i : Int} {x : D} (r : RpA K G xs ds) (h : atI ds i = some x) : ∃ u, L2.atI xs i = some u ∧ Rp K G u x := by
  unfold L2.atI at h ⊢
  rw [r.length]
  cases e : ixN ds.length i with
  | none => rw [e] at h; cases h
  | some j =>
    rw [e] at h
    exact r.get h
theorem ro_ix : ROw K (rIxU K) kIx := by
  refine ⟨fun d e Q Q' m q => ?_, fun sr G H x y d e Q w rx ry q => ?_⟩
  · unfold kIx at q ⊢
    split at q
    · split at q
      · exact m _ q
      · exact q.elim
    · split at q
      · exact m _ q
      · exact q.elim
    · refine ⟨q.1, ?_⟩
      have q2 := q.2
      split at q2
      · exact m _ q2
      · exact q2.elim
    · exact q.elim
  · unfold kIx at q
    split at q
    · rename_i ds i
      split at q
      · rename_i z hz
        obtain ⟨p, xs, e1, h1, r1⟩ := rx.r.lst w
        obtain ⟨u, hu, ru⟩ := r1.atI hz
        exact .inl ⟨p, xs, i, u, e1, ry.r.int, .inl (.inl h1), hu, Kd.now w ru q⟩
      · exact q.elim
    · rename_i ds i
      split at q
      · rename_i z hz
        obtain ⟨p, xs, e1, h1, r1⟩ := rx.tup
        obtain ⟨u, hu, ru⟩ := r1.atI hz
        exact .inr (.inl ⟨p, xs, i, u, e1, ry.r.int, .inl (.inl (w.sub _ _ h1)), hu, Kd.now w ru q⟩)
      · exact q.elim
    · rename_i z i
      obtain ⟨q1, q⟩ := q
      split at q
      · rename_i c hz
        exact .inr (.inr ⟨z, i, c, rx.r.str, ry.r.int, by rw [slEq]; exact q1, hz, Kd.now w (.str _) q⟩)
      · exact q.elim
    · exact q.elim
/-- an item that is no object -/
def scal' : D → Bool
  | .none => true
  | .bool _ => true
  | .int _ => true
  | .str _ => true
  | _ => false
def kIxS : K2 := fun d e Q => match d, e with
  | .list ds, .int i => (match atI ds i with | some x => scal' x = true ∧ Q x | none => False)
  | .tuple ds, .int i => (match atI ds i with | some x => scal' x = true ∧ Q x | none => False)
  | _, _ => False
theorem Rk.sc {v : V} {d : D} (r : Rk K v d) (h : scal' d = true) : Rp K G v d := by
  cases r with
  | non => exact .non
  | bl b => exact .bl b
  | int i => exact .int i
  | str x => exact .str x
  | tup => cases h
theorem RkA.atI {xs : List V} {ds : List D} {i : Int} {x : D} (r : RkA K xs ds) (h : atI ds i = some x) : ∃ u, L2.atI xs i = some u ∧ Rk K u x := by
  unfold L2.atI at h ⊢
  rw [r.length]
  cases e : ixN ds.length i with
  | none => rw [e] at h; cases h
  | some j =>
    rw [e] at h
    exact r.get h
theorem ro_ixS : RO K (rIxU K) kIxS := by
  refine ⟨fun d e Q Q' m q => ?_, fun sr G H x y d e Q w rx ry q => ?_⟩
  · unfold kIxS at q ⊢
    split at q
    · split at q
      · exact ⟨q.1, m _ q.2⟩
      · exact q.elim
    · split at q
      · exact ⟨q.1, m _ q.2⟩
      · exact q.elim
    · exact q.elim
  · unfold kIxS at q
    split at q
    · rename_i ds i
      split at q
      · rename_i z hz
        obtain ⟨p, xs, e1, h1, r1⟩ := rx.lst w
        obtain ⟨u, hu, ru⟩ := r1.atI hz
        exact .inl ⟨p, xs, i, u, e1, ry.int, .inl (.inl h1), hu, Kd.now w ru q.2⟩
      · exact q.elim
    · rename_i ds i
      split at q
      · rename_i z hz
        obtain ⟨p, xs, e1, h1, hl, r1⟩ := rx.tup w
        rcases r1 with r1 | r1
        · obtain ⟨u, hu, ru⟩ := r1.atI hz
          exact .inr (.inl ⟨p, xs, i, u, e1, ry.int, h1, hu, Kd.now w ru q.2⟩)
        · obtain ⟨u, hu, ru⟩ := r1.atI hz
          exact .inr (.inl ⟨p, xs, i, u, e1, ry.int, h1, hu, Kd.now w (ru.sc q.1) q.2⟩)
      · exact q.elim
    · exact q.elim
end
end DL
/-! DL3: unary, truth, tests, arguments, displays, slices, calls. -/
namespace DL
open PySem PySem.Spec L2
open PyProof.Rows hiding St

/-! one-place operations -/
def dUn (k : D → (D → Prop) → Prop) (a : DT) : DT := fun ρ Q => a ρ fun x => k x Q
def kNeg : D → (D → Prop) → Prop := fun d Q => match d with
  | .int i => Q (.int (-i))
  | _ => False
section
variable {K : PySem.W.Frag} {te ta tb : TE} {t a b : DT}
theorem rd_neg (ha : RdR K ta a) : Rd K (tUn (rU fun i => .int (-i)) ta) (dUn kNeg a) := by
  have km : ∀ d Q Q', (∀ z, Q z → Q' z) → kNeg d Q → kNeg d Q' := fun d Q Q' m q => by
    unfold kNeg at q ⊢
    split at q
    · exact m _ q
    · exact q.elim
  refine ⟨fun ρ Q Q' m q => ha.mono ρ _ _ (fun x q => km _ _ _ m q) q, fun sr G0 H0 G H ρ σ Q e q => ?_⟩
  refine ha.rd sr G0 H0 G H ρ σ _ e (ha.mono _ _ _ (fun x q v G1 H1 l1 r1 => ?_) q)
  unfold kNeg at q
  split at q
  · rename_i i
    exact ⟨i, r1.int, q _ G1 H1 l1 (.int _)⟩
  · exact q.elim
end
/-! truth -/
def kTru : D → (Bool → Prop) → Prop := fun d Q => match d with
  | .none => Q false
  | .bool b => Q b
  | .int i => Q (i != 0)
  | .str y => y.length ≤ 16777216 ∧ Q ((y.length : Int) != 0)
  | .list xs => Q (!xs.isEmpty)
  | .tuple xs => Q (!xs.isEmpty)
  | .dict _ => False
theorem kTru_mono {d : D} {Q Q' : Bool → Prop} (m : ∀ b, Q b → Q' b) (q : kTru d Q) : kTru d Q' := by
  unfold kTru at q ⊢
  split at q
  · exact m _ q
  · exact m _ q
  · exact m _ q
  · exact ⟨q.1, m _ q.2⟩
  · exact m _ q
  · exact m _ q
  · exact q.elim
section
variable {K : PySem.W.Frag} {sr : Sr} {G H : Hp}
theorem isE {xs : List V} {ds : List D} (r : xs.length = ds.length) : (!xs.isEmpty) = !ds.isEmpty := by
  cases xs <;> cases ds <;> first | rfl | (simp at r)
theorem kTru_ok {x : V} {d : D} {Q : Bool → Prop} (w : Wd sr G H) (r : Rr K sr G H x d) (q : kTru d Q) : ∃ k, TruV K x H k ∧ Q k := by
  unfold kTru at q
  split at q
  · rw [r.non]; exact ⟨_, rfl, q⟩
  · rw [r.bl]; exact ⟨_, rfl, q⟩
  · rw [r.int]; exact ⟨_, rfl, q⟩
  · rw [r.str]; exact ⟨_, ⟨by rw [slEq]; exact q.1, rfl⟩, q.2⟩
  · obtain ⟨a, xs, e, h, ra⟩ := r.lst w
    subst e
    exact ⟨_, .inl ⟨xs, .inl (.inl h), (isE ra.length).symm⟩, q⟩
  · obtain ⟨a, xs, e, h, hl, _⟩ := r.tup w
    subst e
    exact ⟨_, .inr (.inl ⟨xs, h, (isE hl).symm⟩), q⟩
  · exact q.elim
end

/-! tests -/
abbrev BT := En → (Bool → Prop) → Prop
def Kt (sr : Sr) (G H : Hp) (Q : Bool → Hp → Prop) (b : Bool) : Prop := ∀ G' H', Le sr G H G' H' → Q b H'
theorem Kt.le {sr : Sr} {G H G1 H1 : Hp} {Q : Bool → Hp → Prop} {b : Bool} (w : Wd sr G H) (l : Le sr G H G1 H1) (k : Kt sr G H Q b) : Kt sr G1 H1 Q b := fun G' H' l' => k G' H' (Le.trans w l l')
structure RT (K : PySem.W.Frag) (tt : TT) (t : BT) : Prop where
  mono : ∀ ρ Q Q', (∀ b, Q b → Q' b) → t ρ Q → t ρ Q'
  rt : ∀ sr G0 H0 G H ρ σ Q, ER K sr G0 H0 G H ρ σ → t ρ (Kt sr G H Q) → tt σ H Q
structure DTst (X : Cx) (e : Expr) (tt : TT) (t : BT) : Prop where
  pt : PT X e tt
  rd : RT X.K tt t
def bT (t : DT) : BT := fun ρ Q => t ρ fun d => match d with
  | .bool b => Q b
  | _ => False
def bTru (t : DT) : BT := fun ρ Q => t ρ fun d => kTru d Q
def bAnd (a b : BT) : BT := fun ρ Q => a ρ fun x => if x = true then b ρ Q else Q false
def bOr (a b : BT) : BT := fun ρ Q => a ρ fun x => if x = true then Q true else b ρ Q
def bNot (a : BT) : BT := fun ρ Q => a ρ fun x => Q (!x)
section
variable {K : PySem.W.Frag} {te ta tb : TE} {t a b : DT} {tA tB' : TT} {x y : BT}
theorem rt_test (h : Rd K te t) : RT K (tTest te) (bT t) := by
  refine ⟨fun ρ Q Q' m q => h.mono ρ _ _ (fun d q => ?_) q, fun sr G0 H0 G H ρ σ Q e q => ?_⟩
  · split at q
    · exact m _ q
    · exact q.elim
  · refine h.rd sr G0 H0 G H ρ σ _ e (h.mono _ _ _ (fun d q v G1 H1 l1 r1 => ?_) q)
    split at q
    · cases r1
      exact ⟨_, rfl, q G1 H1 l1⟩
    · exact q.elim
theorem rt_val (h : Rd K te t) : RT K (tB te) (bT t) := rt_test h
theorem rt_tru (h : RdR K te t) : RT K (fun σ H Q => te σ H fun x H' => ∃ k, TruV K x H' k ∧ Q k H') (bTru t) := by
  refine ⟨fun ρ Q Q' m q => h.mono ρ _ _ (fun d q => kTru_mono m q) q, fun sr G0 H0 G H ρ σ Q e q => ?_⟩
  refine h.rd sr G0 H0 G H ρ σ _ e (h.mono _ _ _ (fun d q v G1 H1 l1 r1 => ?_) q)
  exact kTru_ok l1.wd r1 (kTru_mono (fun b k => k G1 H1 l1) q)
theorem rt_and (h1 : RT K tA x) (h2 : RT K tB' y) : RT K (tAnd tA tB') (bAnd x y) := by
  refine ⟨fun ρ Q Q' m q => h1.mono ρ _ _ (fun d q => ?_) q, fun sr G0 H0 G H ρ σ Q e q => ?_⟩
  · split at q
    · rename_i hd
      rw [if_pos hd]; exact h2.mono _ _ _ m q
    · rename_i hd
      rw [if_neg hd]; exact m _ q
  · refine h1.rt sr G0 H0 G H ρ σ _ e (h1.mono _ _ _ (fun d q G1 H1 l1 => ?_) q)
    split at q
    · rename_i hd
      rw [if_pos hd]
      exact h2.rt sr G0 H0 G1 H1 ρ σ _ (e.le' l1) (h2.mono _ _ _ (fun b k => k.le e.wd l1) q)
    · rename_i hd
      rw [if_neg hd]
      exact q G1 H1 l1
theorem rt_or (h1 : RT K tA x) (h2 : RT K tB' y) : RT K (tOr tA tB') (bOr x y) := by
  refine ⟨fun ρ Q Q' m q => h1.mono ρ _ _ (fun d q => ?_) q, fun sr G0 H0 G H ρ σ Q e q => ?_⟩
  · split at q
    · rename_i hd
      rw [if_pos hd]; exact m _ q
    · rename_i hd
      rw [if_neg hd]; exact h2.mono _ _ _ m q
  · refine h1.rt sr G0 H0 G H ρ σ _ e (h1.mono _ _ _ (fun d q G1 H1 l1 => ?_) q)
    split at q
    · rename_i hd
      rw [if_pos hd]
      exact q G1 H1 l1
    · rename_i hd
      rw [if_neg hd]
      exact h2.rt sr G0 H0 G1 H1 ρ σ _ (e.le' l1) (h2.mono _ _ _ (fun b k => k.le e.wd l1) q)
theorem rt_not (h1 : RT K tA x) : RT K (tNot tA) (bNot x) :=
  ⟨fun ρ Q Q' m q => h1.mono ρ _ _ (fun d q => m _ q) q, fun sr G0 H0 G H ρ σ Q e q => h1.rt sr G0 H0 G H ρ σ _ e q⟩
end
/-- bool ops as values, by truth -/
def dAnd (a b : DT) : DT := fun ρ Q => a ρ fun x => kTru x fun k => if k = true then b ρ Q else Q x
def dOr (a b : DT) : DT := fun ρ Q => a ρ fun x => kTru x fun k => if k = true then Q x else b ρ Q
def dNot (a : DT) : DT := fun ρ Q => a ρ fun x => kTru x fun k => Q (.bool (!k))
def dIf (c : BT) (a b : DT) : DT := fun ρ Q => c ρ fun k => if k = true then a ρ Q else b ρ Q
section
variable {K : PySem.W.Frag} {te ta tb : TE} {t a b : DT} {tA : TT} {x : BT}
theorem rd_and (h1 : Rd K ta a) (h2 : Rd K tb b) : Rd K (tAndT K ta tb) (dAnd a b) := by
  refine ⟨fun ρ Q Q' m q => h1.mono ρ _ _ (fun d q => kTru_mono (fun k q => ?_) q) q, fun sr G0 H0 G H ρ σ Q e q => ?_⟩
  · split at q
    · rename_i hd
      rw [if_pos hd]; exact h2.mono _ _ _ m q
    · rename_i hd
      rw [if_neg hd]; exact m _ q
  · refine h1.rd sr G0 H0 G H ρ σ _ e (h1.mono _ _ _ (fun d q v G1 H1 l1 r1 => ?_) q)
    refine kTru_ok l1.wd (.fz r1) (kTru_mono (fun k q => ?_) q)
    split at q
    · rename_i hd
      rw [if_pos hd]
      exact h2.rd sr G0 H0 G1 H1 ρ σ _ (e.le' l1) (h2.mono _ _ _ (fun b k => k.le e.wd l1) q)
    · rename_i hd
      rw [if_neg hd]
      exact q v G1 H1 l1 r1
theorem rd_or (h1 : Rd K ta a) (h2 : Rd K tb b) : Rd K (tOrT K ta tb) (dOr a b) := by
  refine ⟨fun ρ Q Q' m q => h1.mono ρ _ _ (fun d q => kTru_mono (fun k q => ?_) q) q, fun sr G0 H0 G H ρ σ Q e q => ?_⟩
  · split at q
    · rename_i hd
      rw [if_pos hd]; exact m _ q
    · rename_i hd
      rw [if_neg hd]; exact h2.mono _ _ _ m q
  · refine h1.rd sr G0 H0 G H ρ σ _ e (h1.mono _ _ _ (fun d q v G1 H1 l1 r1 => ?_) q)
    refine kTru_ok l1.wd (.fz r1) (kTru_mono (fun k q => ?_) q)
    split at q
    · rename_i hd
      rw [if_pos hd]
      exact q v G1 H1 l1 r1
    · rename_i hd
      rw [if_neg hd]
      exact h2.rd sr G0 H0 G1 H1 ρ σ _ (e.le' l1) (h2.mono _ _ _ (fun b k => k.le e.wd l1) q)
theorem rd_not (h1 : RdR K ta a) : Rd K (tNotT K ta) (dNot a) := by
  refine ⟨fun ρ Q Q' m q => h1.mono ρ _ _ (fun d q => kTru_mono (fun k q => m _ q) q) q, fun sr G0 H0 G H ρ σ Q e q => ?_⟩
  refine h1.rd sr G0 H0 G H ρ σ _ e (h1.mono _ _ _ (fun d q v G1 H1 l1 r1 => ?_) q)
  exact kTru_ok l1.wd r1 (kTru_mono (fun k q => q _ G1 H1 l1 (.bl _)) q)
theorem rd_if (hc : RT K tA x) (h1 : Rd K ta a) (h2 : Rd K tb b) : Rd K (tIf tA ta tb) (dIf x a b) := by
  refine ⟨fun ρ Q Q' m q => hc.mono ρ _ _ (fun k q => ?_) q, fun sr G0 H0 G H ρ σ Q e q => ?_⟩
  · split at q
    · rename_i hd
      rw [if_pos hd]; exact h1.mono _ _ _ m q
    · rename_i hd
      rw [if_neg hd]; exact h2.mono _ _ _ m q
  · refine hc.rt sr G0 H0 G H ρ σ _ e (hc.mono _ _ _ (fun d q G1 H1 l1 => ?_) q)
    split at q
    · rename_i hd
      rw [if_pos hd]
      exact h1.rd sr G0 H0 G1 H1 ρ σ _ (e.le' l1) (h1.mono _ _ _ (fun b k => k.le e.wd l1) q)
    · rename_i hd
      rw [if_neg hd]
      exact h2.rd sr G0 H0 G1 H1 ρ σ _ (e.le' l1) (h2.mono _ _ _ (fun b k => k.le e.wd l1) q)
theorem rf_if (hc : RT K tA x) (h1 : RdF K ta a) (h2 : RdF K tb b) : RdF K (tIf tA ta tb) (dIf x a b) := by
  refine ⟨fun ρ Q Q' m q => hc.mono ρ _ _ (fun k q => ?_) q, fun sr G0 H0 G H ρ σ Q e q => ?_⟩
  · split at q
    · rename_i hd
      rw [if_pos hd]; exact h1.mono _ _ _ m q
    · rename_i hd
      rw [if_neg hd]; exact h2.mono _ _ _ m q
  · refine hc.rt sr G0 H0 G H ρ σ _ e (hc.mono _ _ _ (fun d q G1 H1 l1 => ?_) q)
    split at q
    · rename_i hd
      rw [if_pos hd]
      exact h1.rd sr G0 H0 G1 H1 ρ σ _ (e.le' l1) (h1.mono _ _ _ (fun b k => k.le e.wd l1) q)
    · rename_i hd
      rw [if_neg hd]
      exact h2.rd sr G0 H0 G1 H1 ρ σ _ (e.le' l1) (h2.mono _ _ _ (fun b k => k.le e.wd l1) q)
end

/-! ### arguments: what an argument is to stand for is told by R -/
abbrev RelX (α : Type) := Sr → Hp → Hp → V → α → Prop
def Stab {α : Type} (R : RelX α) : Prop := ∀ {sr : Sr} {G H G1 H1 : Hp} {v : V} {x : α}, Wd sr G H → Le sr G H G1 H1 → R sr G H v x → R sr G1 H1 v x
def PR (K : PySem.W.Frag) : RelX D := fun _ G _ v d => Rp K G v d
def RR (K : PySem.W.Frag) : RelX D := fun sr G H v d => Rr K sr G H v d
def SR (K : PySem.W.Frag) : RelX Slot := fun sr G H v s => match s with
  | .d x => Rp K G v x
  | .b x => Rr K sr G H v x
  | .src => ∃ p c, sr = some (p, c) ∧ v = .ref p
  | _ => False
theorem PR.stab {K : PySem.W.Frag} : Stab (PR K) := fun w l r => Rp.sub (l.gsub w) r
theorem RR.stab {K : PySem.W.Frag} : Stab (RR K) := fun w l r => Rr.le r w l
theorem SR.stab {K : PySem.W.Frag} : Stab (SR K) := fun {sr G H G1 H1 v x} w l r => by
  cases x with
  | d x => exact Rp.sub (l.gsub w) r
  | b x => exact Rr.le r w l
  | src => exact r
  | _ => exact r.elim
structure RX {α : Type} (K : PySem.W.Frag) (R : RelX α) (te : TE) (t : En → (α → Prop) → Prop) : Prop where
  mono : ∀ ρ Q Q', (∀ d, Q d → Q' d) → t ρ Q → t ρ Q'
  rd : ∀ sr G0 H0 G H ρ σ Q, ER K sr G0 H0 G H ρ σ → t ρ (fun x => ∀ v G' H', Le sr G H G' H' → R sr G' H' v x → Q v H') → te σ H Q
structure RA {α : Type} (K : PySem.W.Frag) (R : RelX α) (ta : TA) (a : En → (List α → Prop) → Prop) : Prop where
  mono : ∀ ρ Q Q', (∀ d, Q d → Q' d) → a ρ Q → a ρ Q'
  rd : ∀ sr G0 H0 G H ρ σ Q, ER K sr G0 H0 G H ρ σ → a ρ (fun xs => ∀ vs G' H', Le sr G H G' H' → Paired (R sr G' H') vs xs → Q vs H') → ta σ H Q
theorem Rd.x {K : PySem.W.Frag} {te : TE} {t : DT} (h : Rd K te t) : RX K (PR K) te t := ⟨h.mono, h.rd⟩
theorem RdR.x {K : PySem.W.Frag} {te : TE} {t : DT} (h : RdR K te t) : RX K (RR K) te t := ⟨h.mono, h.rd⟩
def sD (t : DT) : En → (Slot → Prop) → Prop := fun ρ Q => t ρ fun d => Q (.d d)
def sB (t : DT) : En → (Slot → Prop) → Prop := fun ρ Q => t ρ fun d => Q (.b d)
def sVar (i : Nat) : En → (Slot → Prop) → Prop := fun ρ Q => match ρ[i]? with
  | some .src => Q .src
  | _ => False
theorem Rd.s {K : PySem.W.Frag} {te : TE} {t : DT} (h : Rd K te t) : RX K (SR K) te (sD t) := ⟨fun ρ Q Q' m q => h.mono ρ _ _ (fun d q => m _ q) q, fun sr G0 H0 G H ρ σ Q e q => h.rd sr G0 H0 G H ρ σ Q e q⟩
theorem RdR.b {K : PySem.W.Frag} {te : TE} {t : DT} (h : RdR K te t) : RX K (SR K) te (sB t) := ⟨fun ρ Q Q' m q => h.mono ρ _ _ (fun d q => m _ q) q, fun sr G0 H0 G H ρ σ Q e q => h.rd sr G0 H0 G H ρ σ Q e q⟩
theorem rs_var {K : PySem.W.Frag} (i : Nat) : RX K (SR K) (tVar i) (sVar i) := by
  refine ⟨fun ρ Q Q' m q => ?_, fun sr G0 H0 G H ρ σ Q e q => ?_⟩
  · unfold sVar at q ⊢
    split at q
    · exact m _ q
    · exact q.elim
  · unfold sVar at q
    split at q
    · rename_i es
      obtain ⟨ow, hw⟩ := e.ow
      obtain ⟨p, c, e1, e2⟩ := hw i _ es
      exact ⟨.ref p, e2, q _ G H (Le.refl e.wd) ⟨p, c, e1, rfl⟩⟩
    · exact q.elim
def aNil {α : Type} : En → (List α → Prop) → Prop := fun _ Q => Q []
def aCons {α : Type} (t : En → (α → Prop) → Prop) (a : En → (List α → Prop) → Prop) : En → (List α → Prop) → Prop := fun ρ Q => t ρ fun x => a ρ fun xs => Q (x :: xs)
section
variable {α : Type} {K : PySem.W.Frag} {R : RelX α} {te : TE} {ta : TA} {t : En → (α → Prop) → Prop} {a : En → (List α → Prop) → Prop}
theorem Paired.stab (s : Stab R) {sr : Sr} {G H G1 H1 : Hp} (w : Wd sr G H) (l : Le sr G H G1 H1) : ∀ {vs : List V} {xs : List α}, Paired (R sr G H) vs xs → Paired (R sr G1 H1) vs xs
  | _, _, .nil => .nil
  | _, _, .cons r q => .cons (s w l r) (Paired.stab s w l q)
theorem ra_nil : RA K R tNil aNil := ⟨fun ρ Q Q' m q => m _ q, fun sr G0 H0 G H ρ σ Q e q => q [] G H (Le.refl e.wd) .nil⟩
theorem ra_cons (s : Stab R) (h1 : RX K R te t) (h2 : RA K R ta a) : RA K R (tCons te ta) (aCons t a) := by
  refine ⟨fun ρ Q Q' m q => h1.mono ρ _ _ (fun x q => h2.mono ρ _ _ (fun xs q => m _ q) q) q, fun sr G0 H0 G H ρ σ Q e q => ?_⟩
  refine h1.rd sr G0 H0 G H ρ σ _ e (h1.mono _ _ _ (fun x q v G1 H1 l1 r1 => ?_) q)
  refine h2.rd sr G0 H0 G1 H1 ρ σ _ (e.le' l1) (h2.mono _ _ _ (fun xs q vs G2 H2 l2 r2 => ?_) q)
  exact q (v :: vs) G2 H2 (Le.trans e.wd l1 l2) (.cons (s l1.wd l2 r1) r2)
end
theorem RpA.of {K : PySem.W.Frag} {sr : Sr} {G H : Hp} : ∀ {vs : List V} {xs : List D}, Paired (PR K sr G H) vs xs → RpA K G vs xs
  | _, _, .nil => .nil
  | _, _, .cons r q => .cons r (RpA.of q)
theorem RpA.to {K : PySem.W.Frag} {sr : Sr} {G H : Hp} : ∀ {vs : List V} {xs : List D}, RpA K G vs xs → Paired (PR K sr G H) vs xs
  | _, _, .nil => .nil
  | _, _, .cons r q => .cons r (RpA.to q)
/-! displays -/
abbrev AT := En → (List D → Prop) → Prop
def aStar (t : DT) (a : AT) : AT := fun ρ Q => t ρ fun d => match d with
  | .list xs => a ρ fun ys => Q (xs ++ ys)
  | .tuple xs => a ρ fun ys => Q (xs ++ ys)
  | _ => False
def dTup (a : AT) : DT := fun ρ Q => a ρ fun ds => ds.length ≤ 16777216 ∧ Q (.tuple ds)
def dLst (a : AT) : DT := fun ρ Q => a ρ fun ds => ds.length ≤ 16777216 ∧ Q (.list ds)
section
variable {K : PySem.W.Frag} {te : TE} {ta : TA} {t : DT} {a : AT}
theorem ra_star (h1 : RdW K te t) (h2 : RA K (PR K) ta a) : RA K (PR K) (StX.tStar K te ta) (aStar t a) := by
  refine ⟨fun ρ Q Q' m q => h1.mono ρ _ _ (fun d q => ?_) q, fun sr G0 H0 G H ρ σ Q e q => ?_⟩
  · split at q
    · exact h2.mono ρ _ _ (fun xs q => m _ q) q
    · exact h2.mono ρ _ _ (fun xs q => m _ q) q
    · exact q.elim
  · refine h1.rd sr G0 H0 G H ρ σ _ e (h1.mono _ _ _ (fun x q v G1 H1 l1 r1 => ?_) q)
    split at q
    · obtain ⟨p, xs, e1, h, ra⟩ := r1.r.lst l1.wd
      refine ⟨p, xs, e1, .inr (.inl (.inl h)), h2.rd sr G0 H0 G1 H1 ρ σ _ (e.le' l1) (h2.mono _ _ _ (fun ys q vs G2 H2 l2 r2 => ?_) q)⟩
      exact q (xs ++ vs) G2 H2 (Le.trans e.wd l1 l2) ((RpA.append (RpA.sub (l2.gsub l1.wd) ra) (RpA.of r2)).to)
    · obtain ⟨p, xs, e1, h, ra⟩ := r1.tup
      refine ⟨p, xs, e1, .inl (.inl (.inl (l1.wd.sub _ _ h))), h2.rd sr G0 H0 G1 H1 ρ σ _ (e.le' l1) (h2.mono _ _ _ (fun ys q vs G2 H2 l2 r2 => ?_) q)⟩
      exact q (xs ++ vs) G2 H2 (Le.trans e.wd l1 l2) ((RpA.append (RpA.sub (l2.gsub l1.wd) ra) (RpA.of r2)).to)
    · exact q.elim
theorem rd_tup (h : RA K (PR K) ta a) : Rd K (tTup ta) (dTup a) := by
  refine ⟨fun ρ Q Q' m q => h.mono ρ _ _ (fun d q => ⟨q.1, m _ q.2⟩) q, fun sr G0 H0 G H ρ σ Q e q => ?_⟩
  refine h.rd sr G0 H0 G H ρ σ _ e (h.mono _ _ _ (fun xs q vs G1 H1 l1 r1 => ?_) q)
  have ra := RpA.of r1
  exact ⟨by rw [slEq, ra.length]; exact q.1, Kd.tup l1.wd ra (q.2.le e.wd l1)⟩
theorem rf_lst (h : RA K (PR K) ta a) : RdF K (tLst ta) (dLst a) := by
  refine ⟨fun ρ Q Q' m q => h.mono ρ _ _ (fun d q => ⟨q.1, m _ q.2⟩) q, fun sr G0 H0 G H ρ σ Q e q => ?_⟩
  refine h.rd sr G0 H0 G H ρ σ _ e (h.mono _ _ _ (fun xs q vs G1 H1 l1 r1 => ?_) q)
  have ra := RpA.of r1
  exact ⟨by rw [slEq, ra.length]; exact q.1, Kf.lst l1.wd ra (q.2.le e.wd l1)⟩
end

/-! calls of built-ins -/
structure RC (K : PySem.W.Frag) (r : List V → Hp → VK → Prop) (k : List D → (D → Prop) → Prop) : Prop where
  mono : ∀ ds Q Q', (∀ z, Q z → Q' z) → k ds Q → k ds Q'
  rc : ∀ sr G H vs ds Q, Wd sr G H → Paired (RR K sr G H) vs ds → k ds (Kd K sr G H Q) → r vs H Q
structure RCF (K : PySem.W.Frag) (r : List V → Hp → VK → Prop) (k : List D → (D → Prop) → Prop) : Prop where
  mono : ∀ ds Q Q', (∀ z, Q z → Q' z) → k ds Q → k ds Q'
  rc : ∀ sr G H vs ds Q, Wd sr G H → Paired (RR K sr G H) vs ds → k ds (Kf K sr G H Q) → r vs H Q
def dCB (k : List D → (D → Prop) → Prop) (a : AT) : DT := fun ρ Q => a ρ fun ds => k ds Q
section
variable {K : PySem.W.Frag} {r : List V → Hp → VK → Prop} {k : List D → (D → Prop) → Prop} {ta : TA} {a : AT}
theorem RCF.d (h : RCF K r k) : RC K r k := ⟨h.mono, fun sr G H vs ds Q w rx q => h.rc sr G H vs ds Q w rx (h.mono _ _ _ (fun z z' => z'.f w) q)⟩
theorem rd_cb (hc : RC K r k) (h : RA K (RR K) ta a) : Rd K (tCB r ta) (dCB k a) := by
  refine ⟨fun ρ Q Q' m q => h.mono ρ _ _ (fun d q => hc.mono _ _ _ m q) q, fun sr G0 H0 G H ρ σ Q e q => ?_⟩
  refine h.rd sr G0 H0 G H ρ σ _ e (h.mono _ _ _ (fun xs q vs G1 H1 l1 r1 => ?_) q)
  exact hc.rc sr G1 H1 vs xs Q l1.wd r1 (hc.mono _ _ _ (fun z k => k.le e.wd l1) q)
theorem rf_cb (hc : RCF K r k) (h : RA K (RR K) ta a) : RdF K (tCB r ta) (dCB k a) := by
  refine ⟨fun ρ Q Q' m q => h.mono ρ _ _ (fun d q => hc.mono _ _ _ m q) q, fun sr G0 H0 G H ρ σ Q e q => ?_⟩
  refine h.rd sr G0 H0 G H ρ σ _ e (h.mono _ _ _ (fun xs q vs G1 H1 l1 r1 => ?_) q)
  exact hc.rc sr G1 H1 vs xs Q l1.wd r1 (hc.mono _ _ _ (fun z k => k.le e.wd l1) q)
end
/-! calls of defs -/
abbrev Pm := List Slot → (D → Prop) → Prop
def MonoP (P : Pm) : Prop := ∀ xs Q Q', (∀ d, Q d → Q' d) → P xs Q → P xs Q'
def spD (K : PySem.W.Frag) (n : Nat) (P : Pm) : Sp := fun vs H Q _ => vs.length = n ∧ ∃ sr G xs, Wd sr G H ∧ Paired (SR K sr G H) vs xs ∧ P xs (Kd K sr G H Q)
def dCall (n : Nat) (P : Pm) (a : En → (List Slot → Prop) → Prop) : DT := fun ρ Q => a ρ fun xs => xs.length = n ∧ P xs Q
section
variable {K : PySem.W.Frag} {P : Pm} {ta : TA} {a : En → (List Slot → Prop) → Prop} {n : Nat}
theorem rd_call (hP : MonoP P) (h : RA K (SR K) ta a) : Rd K (tCall (spD K n P) [] E0 ta) (dCall n P a) := by
  refine ⟨fun ρ Q Q' m q => h.mono ρ _ _ (fun d q => ⟨q.1, hP _ _ _ m q.2⟩) q, fun sr G0 H0 G H ρ σ Q e q => ?_⟩
  refine h.rd sr G0 H0 G H ρ σ _ e (h.mono _ _ _ (fun xs q vs G1 H1 l1 r1 => ?_) q)
  rw [List.append_nil]
  exact ⟨(Paired.length r1).trans q.1, sr, G1, xs, l1.wd, r1, hP _ _ _ (fun d k => k.le e.wd l1) q.2⟩
/-- the same, what comes back may be a constant -/
def spB (K : PySem.W.Frag) (n : Nat) (P : Pm) : Sp := fun vs H Q _ => vs.length = n ∧ ∃ sr G xs, Wd sr G H ∧ Paired (SR K sr G H) vs xs ∧ P xs (Kr K sr G H Q)
theorem rr_call (hP : MonoP P) (h : RA K (SR K) ta a) : RdR K (tCall (spB K n P) [] E0 ta) (dCall n P a) := by
  refine ⟨fun ρ Q Q' m q => h.mono ρ _ _ (fun d q => ⟨q.1, hP _ _ _ m q.2⟩) q, fun sr G0 H0 G H ρ σ Q e q => ?_⟩
  refine h.rd sr G0 H0 G H ρ σ _ e (h.mono _ _ _ (fun xs q vs G1 H1 l1 r1 => ?_) q)
  rw [List.append_nil]
  exact ⟨(Paired.length r1).trans q.1, sr, G1, xs, l1.wd, r1, hP _ _ _ (fun d k => k.le e.wd l1) q.2⟩
/-- a scalar that may come from a constant is plain -/
def dSc (t : DT) : DT := fun ρ Q => t ρ fun d => scal' d = true ∧ Q d
theorem Rr.sc {sr : Sr} {G H : Hp} {v : V} {d : D} (r : Rr K sr G H v d) (h : scal' d = true) : Rp K G v d := by
  cases r with
  | fz r => exact r
  | ol => cases h
  | kc r => exact r.sc h
theorem rd_sc {te : TE} {t : DT} (h : RdR K te t) : Rd K te (dSc t) :=
  ⟨fun ρ Q Q' m q => h.mono ρ _ _ (fun d q => ⟨q.1, m _ q.2⟩) q, fun sr G0 H0 G H ρ σ Q e q => h.rd sr G0 H0 G H ρ σ Q e (h.mono _ _ _ (fun d q v G' H' l r => q.2 v G' H' l (r.sc q.1)) q)⟩
end
end DL
/-! DL4: statements. -/
namespace DL
open PySem PySem.Spec L2
open PyProof.Rows hiding St

structure PEn where
  nx : En → Prop
  rt : D → Prop
  bk : En → Prop := fun _ => False
  ct : En → Prop := fun _ => False
abbrev ST := PEn → En → Prop
def SubG (G G' : Hp) : Prop := ∀ a o, G a = some o → G' a = some o
theorem SubG.refl (G : Hp) : SubG G G := fun _ _ h => h
theorem SubG.trans {G G1 G2 : Hp} (a : SubG G G1) (b : SubG G1 G2) : SubG G G2 := fun x o h => b x o (a x o h)
structure Fits (K : PySem.W.Frag) (sr : Sr) (G0 H0 G : Hp) (Z : Ends) (E : PEn) : Prop where
  nx : ∀ ρ' σ' G' H', SubG G G' → ER K sr G0 H0 G' H' ρ' σ' → E.nx ρ' → Z.nx σ' H'
  rt : ∀ v d G' H', Le sr G0 H0 G' H' → Rp K G' v d → E.rt d → Z.rt v H'
  bk : ∀ ρ' σ' G' H', SubG G G' → ER K sr G0 H0 G' H' ρ' σ' → E.bk ρ' → Z.bk σ' H'
  ct : ∀ ρ' σ' G' H', SubG G G' → ER K sr G0 H0 G' H' ρ' σ' → E.ct ρ' → Z.ct σ' H'
structure ImpE (E E' : PEn) : Prop where
  nx : ∀ ρ, E.nx ρ → E'.nx ρ
  rt : ∀ d, E.rt d → E'.rt d
  bk : ∀ ρ, E.bk ρ → E'.bk ρ
  ct : ∀ ρ, E.ct ρ → E'.ct ρ
structure Rs (K : PySem.W.Frag) (ts : TS) (T : ST) : Prop where
  mono : ∀ E E' ρ, ImpE E E' → T E ρ → T E' ρ
  rs : ∀ sr G0 H0 G H ρ σ Z E, ER K sr G0 H0 G H ρ σ → T E ρ → Fits K sr G0 H0 G Z E → ts Z σ H
theorem Fits.sub {K : PySem.W.Frag} {sr : Sr} {G0 H0 G G1 : Hp} {Z : Ends} {E : PEn} (f : Fits K sr G0 H0 G Z E) (s : SubG G G1) : Fits K sr G0 H0 G1 Z E :=
  ⟨fun ρ σ G' H' h => f.nx ρ σ G' H' (s.trans h), f.rt, fun ρ σ G' H' h => f.bk ρ σ G' H' (s.trans h), fun ρ σ G' H' h => f.ct ρ σ G' H' (s.trans h)⟩
theorem Le.subG {sr : Sr} {G H G1 H1 : Hp} (l : Le sr G H G1 H1) (w : Wd sr G H) : SubG G G1 := l.gsub w

def sSeq (t u : ST) : ST := fun E ρ => t { E with nx := u E } ρ
def sNext : ST := fun E ρ => E.nx ρ
def sRet (t : DT) : ST := fun E ρ => t ρ E.rt
def sRetN : ST := fun E _ => E.rt .none
def sIf (c : BT) (t u : ST) : ST := fun E ρ => c ρ fun k => if k = true then t E ρ else u E ρ
def sDrop (t : DT) : ST := fun E ρ => t ρ fun _ => E.nx ρ
section
variable {K : PySem.W.Frag} {ts us : TS} {T U : ST} {te : TE} {t : DT} {tc : TT} {c : BT}
theorem rs_next : Rs K tNext sNext := ⟨fun E E' ρ i q => i.nx _ q, fun sr G0 H0 G H ρ σ Z E e q f => f.nx ρ σ G H (SubG.refl G) e q⟩
theorem rs_seq (h1 : Rs K ts T) (h2 : Rs K us U) : Rs K (tSeq ts us) (sSeq T U) := by
  refine ⟨fun E E' ρ i q => h1.mono { E with nx := U E } { E' with nx := U E' } ρ ⟨fun ρ q => h2.mono E E' ρ i q, i.rt, i.bk, i.ct⟩ q, fun sr G0 H0 G H ρ σ Z E e q f => ?_⟩
  exact h1.rs sr G0 H0 G H ρ σ _ _ e q ⟨fun ρ' σ' G' H' s e' q' => h2.rs sr G0 H0 G' H' ρ' σ' Z E e' q' (f.sub s), f.rt, f.bk, f.ct⟩
theorem rs_ret (h : Rd K te t) : Rs K (tRet te) (sRet t) :=
  ⟨fun E E' ρ i q => h.mono ρ _ _ i.rt q, fun sr G0 H0 G H ρ σ Z E e q f => h.rd sr G0 H0 G H ρ σ _ e (h.mono _ _ _ (fun d q v G' H' l r => f.rt v d G' H' (Le.trans e.w0 e.le l) r q) q)⟩
theorem rs_retN : Rs K tRetN sRetN := ⟨fun E E' ρ i q => i.rt _ q, fun sr G0 H0 G H ρ σ Z E e q f => f.rt .non .none G H e.le .non q⟩
theorem rs_if (hc : RT K tc c) (h1 : Rs K ts T) (h2 : Rs K us U) : Rs K (tIfS tc ts us) (sIf c T U) := by
  refine ⟨fun E E' ρ i q => hc.mono ρ _ _ (fun k q => ?_) q, fun sr G0 H0 G H ρ σ Z E e q f => ?_⟩
  · split at q
    · rename_i hd
      rw [if_pos hd]; exact h1.mono _ _ _ i q
    · rename_i hd
      rw [if_neg hd]; exact h2.mono _ _ _ i q
  · refine hc.rt sr G0 H0 G H ρ σ _ e (hc.mono _ _ _ (fun k q G1 H1 l1 => ?_) q)
    split at q
    · rename_i hd
      rw [if_pos hd]
      exact h1.rs sr G0 H0 G1 H1 ρ σ Z E (e.le' l1) q (f.sub (l1.subG e.wd))
    · rename_i hd
      rw [if_neg hd]
      exact h2.rs sr G0 H0 G1 H1 ρ σ Z E (e.le' l1) q (f.sub (l1.subG e.wd))
theorem rs_drop (h : RdR K te t) : Rs K (tDrop te) (sDrop t) :=
  ⟨fun E E' ρ i q => h.mono ρ _ _ (fun _ q => i.nx _ q) q, fun sr G0 H0 G H ρ σ Z E e q f => h.rd sr G0 H0 G H ρ σ _ e (h.mono _ _ _ (fun d q v G' H' l r => f.nx ρ σ G' H' (l.subG e.wd) (e.le' l) q) q)⟩
end

/-! targets -/
abbrev GT := D → En → (En → Prop) → Prop
abbrev GTs := List D → En → (En → Prop) → Prop
def Kg (K : PySem.W.Frag) (sr : Sr) (G0 H0 G H : Hp) (ix : List Nat) (σ : St) (Q : St → Hp → Prop) (ρ' : En) : Prop :=
  ∀ σ', ER K sr G0 H0 G H ρ' σ' → σ'.length = σ.length → (∀ j, j ∉ ix → σ'[j]? = σ[j]?) → Q σ' H
structure Rg (K : PySem.W.Frag) (ix : List Nat) (g : TG) (t : GT) : Prop where
  mono : ∀ d ρ Q Q', (∀ ρ, Q ρ → Q' ρ) → t d ρ Q → t d ρ Q'
  rg : ∀ sr G0 H0 G H ρ σ v d Q, ER K sr G0 H0 G H ρ σ → Rp K G v d → t d ρ (Kg K sr G0 H0 G H ix σ Q) → g v σ H Q
structure Rgs (K : PySem.W.Frag) (ix : List Nat) (g : TGs) (t : GTs) : Prop where
  mono : ∀ d ρ Q Q', (∀ ρ, Q ρ → Q' ρ) → t d ρ Q → t d ρ Q'
  rg : ∀ sr G0 H0 G H ρ σ v d Q, ER K sr G0 H0 G H ρ σ → RpA K G v d → t d ρ (Kg K sr G0 H0 G H ix σ Q) → g v σ H Q
theorem ER.set' {K : PySem.W.Frag} {sr : Sr} {G0 H0 G H : Hp} {ρ : En} {σ : St} (e : ER K sr G0 H0 G H ρ σ) {i : Nat} {v : V} {d : D} (r : Rp K G v d) : ER K sr G0 H0 G H (ρ.set i (.d d)) (σ.set i (some v)) := by
  by_cases hi : i < ρ.length
  · exact e.set r hi
  · rw [List.set_eq_of_length_le (by omega), List.set_eq_of_length_le (by rw [e.len]; omega)]; exact e
def gtName (i : Nat) : GT := fun d ρ Q => Q (ρ.set i (.d d))
def gtNil : GTs := fun ds ρ Q => ds = [] ∧ Q ρ
def gtCons (t : GT) (u : GTs) : GTs := fun ds ρ Q => match ds with
  | d :: r => t d ρ fun ρ' => u r ρ' Q
  | [] => False
def gtTup (n : Nat) (t : GTs) : GT := fun d ρ Q => match d with
  | .tuple ds => ds.length = n ∧ t ds ρ Q
  | .list ds => ds.length = n ∧ t ds ρ Q
  | _ => False
/-- a tuple or a list to several targets -/
def gSeqU (K : PySem.W.Frag) (n : Nat) (t : TGs) : TG := fun v σ H Q => gTup K n t v σ H Q ∨ gUnl K n t v σ H Q
theorem pg_seqU {X : Cx} {es : List Expr} {k : Nat} {t : TGs} {n : Nat} {pos : Pos} (hc : X.calm = true) (h : PGs X es t)
    (hn : (assignEach es X.env).length = n := by rfl) (hst : (assignEach es X.env).findIdx? (·.1) = none := by rfl) : PG X (.Tuple es k pos) (gSeqU X.K n t) := by
  refine ⟨fun pins s σ H v u Q I r hw => ?_⟩
  rcases hw with hw | hw
  · exact (pg_tup hc h hn hst).run pins s σ H v u Q I r hw
  · exact (pg_unl hc h hn hst).run pins s σ H v u Q I r hw
section
variable {K : PySem.W.Frag} {ix iy : List Nat} {g : TG} {gs : TGs} {t : GT} {ts : GTs}
theorem rg_name (i : Nat) : Rg K [i] (gName i) (gtName i) := by
  refine ⟨fun d ρ Q Q' m q => m _ q, fun sr G0 H0 G H ρ σ v d Q e r q => ?_⟩
  exact q _ (e.set' r) (List.length_set ..) fun j hj => List.getElem?_set_ne (by intro z; subst z; exact hj (by simp))
theorem rgs_nil : Rgs K [] gNil gtNil := by
  refine ⟨fun d ρ Q Q' m q => ⟨q.1, m _ q.2⟩, fun sr G0 H0 G H ρ σ v d Q e r q => ?_⟩
  obtain ⟨rfl, q⟩ := q
  cases r
  exact ⟨rfl, q σ e rfl fun _ _ => rfl⟩
theorem rgs_cons (h1 : Rg K ix g t) (h2 : Rgs K iy gs ts) : Rgs K (ix ++ iy) (gCons g gs) (gtCons t ts) := by
  refine ⟨fun d ρ Q Q' m q => ?_, fun sr G0 H0 G H ρ σ v d Q e r q => ?_⟩
  · unfold gtCons at q ⊢
    cases d with
    | nil => exact q.elim
    | cons x r => exact h1.mono _ _ _ _ (fun ρ q => h2.mono _ _ _ _ m q) q
  · unfold gtCons at q
    cases r with
    | nil => exact q.elim
    | cons r rr =>
      refine ⟨_, _, rfl, h1.rg sr G0 H0 G H ρ σ _ _ _ e r (h1.mono _ _ _ _ (fun ρ' q σ' e' hl hj => ?_) q)⟩
      refine h2.rg sr G0 H0 G H ρ' σ' _ _ _ e' rr (h2.mono _ _ _ _ (fun ρ2 q σ2 e2 hl2 hj2 => ?_) q)
      exact q σ2 e2 (hl2.trans hl) fun j hj' => (hj2 j fun z => hj' (List.mem_append_right _ z)).trans (hj j fun z => hj' (List.mem_append_left _ z))
theorem rg_tup {n : Nat} (h : Rgs K ix gs ts) : Rg K ix (gSeqU K n gs) (gtTup n ts) := by
  refine ⟨fun d ρ Q Q' m q => ?_, fun sr G0 H0 G H ρ σ v d Q e r q => ?_⟩
  · unfold gtTup at q ⊢
    split at q
    · exact ⟨q.1, h.mono _ _ _ _ m q.2⟩
    · exact ⟨q.1, h.mono _ _ _ _ m q.2⟩
    · exact q.elim
  · unfold gtTup at q
    split at q
    · cases r with
      | tup hs ra => exact .inl ⟨_, _, rfl, .inl (.inl (e.wd.sub _ _ hs)), by rw [ra.length]; exact q.1, h.rg sr G0 H0 G H ρ σ _ _ Q e ra q.2⟩
    · cases r with
      | lst hs ra => exact .inr ⟨_, _, rfl, .inl (.inl (e.wd.sub _ _ hs)), by rw [ra.length]; exact q.1, h.rg sr G0 H0 G H ρ σ _ _ Q e ra q.2⟩
    · exact q.elim
end

/-! assignments -/
def sAsg (t : DT) (g : GT) : ST := fun E ρ => t ρ fun d => g d ρ E.nx
def ownD (i : Nat) (ρ : En) (Q : En → Prop) (d : D) : Prop := match d with
  | .list xs => Q (ρ.set i (.ol xs))
  | _ => False
theorem ownD_mono {i : Nat} {ρ : En} {Q Q' : En → Prop} {d : D} (m : ∀ ρ, Q ρ → Q' ρ) (q : ownD i ρ Q d) : ownD i ρ Q' d := by
  unfold ownD at q ⊢
  split at q
  · exact m _ q
  · exact q.elim
def sAsgO (i : Nat) (t : DT) : ST := fun E ρ => t ρ (ownD i ρ E.nx)
section
variable {K : PySem.W.Frag} {sr : Sr} {G0 H0 G H G1 H1 : Hp} {ρ : En} {σ : St} {te : TE} {t : DT} {g : TG} {gt : GT} {ix : List Nat}
/-- the slots that stay, behind a growth and a new owner -/
theorem ER.setO (e : ER K sr G0 H0 G H ρ σ) (l : Le sr G H G1 H1) {p : Addr} (n : H p = none) {i : Nat} {s : Slot}
    (hs : s = .un ∨ (∃ xs vs, s = .ol xs ∧ G1 p = none ∧ H1 p = some (.lst vs) ∧ RpA K G1 vs xs) ∨ (∃ t es o, s = .od t es ∧ G1 p = none ∧ H1 p = some o ∧ DcR K G1 t o es)) :
    ER K sr G0 H0 G1 H1 (ρ.set i s) (σ.set i (some (.ref p))) := by
  obtain ⟨w0, le, len, ow, h⟩ := e
  have gs := l.gsub le.wd
  refine ⟨w0, Le.trans w0 le l, by rw [List.length_set, List.length_set]; exact len, fun a => if a = p then some i else ow a, fun j z hz => ?_⟩
  have n0 : H0 p = none := le.free w0 n
  by_cases q : i = j
  · subst q
    by_cases hi : i < ρ.length
    · rw [List.getElem?_set_self hi] at hz
      cases hz
      rw [List.getElem?_set_self (by rw [len]; exact hi)]
      rcases hs with rfl | ⟨xs, vs, rfl, g1, h1, r⟩ | ⟨t, es, o, rfl, g1, h1, r⟩
      · exact True.intro
      · exact ⟨p, vs, rfl, if_pos rfl, n0, g1, le.wd.nosr n, h1, r⟩
      · exact ⟨p, o, rfl, if_pos rfl, n0, g1, le.wd.nosr n, h1, r⟩
    · rw [List.getElem?_eq_none (by rw [List.length_set]; omega)] at hz
      cases hz
  · rw [List.getElem?_set_ne q] at hz
    rw [List.getElem?_set_ne q]
    have q' := h j z hz
    cases z with
    | un => exact True.intro
    | d x =>
      obtain ⟨u, e1, r⟩ := q'
      exact ⟨u, e1, Rp.sub gs r⟩
    | b x =>
      obtain ⟨u, e1, r⟩ := q'
      exact ⟨u, e1, r.sub gs⟩
    | ol xs =>
      obtain ⟨a, vs, e1, e2, e3, e4, e5, e6, r⟩ := q'
      have na : a ≠ p := fun z => by subst z; rw [n] at e6; cases e6
      exact ⟨a, vs, e1, (by show (if a = p then some i else ow a) = some j; rw [if_neg na]; exact e2), e3, by rw [l.fro a _ e6]; exact e4, e5, l.keep a _ e6 e5, RpA.sub gs r⟩
    | od t es =>
      obtain ⟨a, o, e1, e2, e3, e4, e5, e6, r⟩ := q'
      have na : a ≠ p := fun z => by subst z; rw [n] at e6; cases e6
      exact ⟨a, o, e1, (by show (if a = p then some i else ow a) = some j; rw [if_neg na]; exact e2), e3, by rw [l.fro a _ e6]; exact e4, e5, l.keep a _ e6 e5, DcR.sub gs r⟩
    | oll xss =>
      obtain ⟨a, ps, e1, e2, e3, e4, e5, e6, nd, r⟩ := q'
      have na : a ≠ p := fun z => by subst z; rw [n] at e6; cases e6
      refine ⟨a, ps, e1, (by show (if a = p then some i else ow a) = some j; rw [if_neg na]; exact e2), e3, by rw [l.fro a _ e6]; exact e4, e5, l.keep a _ e6 e5, nd, pair_imp (fun b xs z => ?_) r⟩
      obtain ⟨b1, b2, b3, b4, b5, vs, b6, b7⟩ := z
      have nb : b ≠ p := fun z => by subst z; rw [n] at b6; cases b6
      exact ⟨b1, (by show (if b = p then some i else ow b) = some j; rw [if_neg nb]; exact b2), b3, by rw [l.fro b _ b6]; exact b4, b5, vs, l.keep b _ b6 b5, RpA.sub gs b7⟩
    | src => exact q'
theorem ER.setF (e : ER K sr G0 H0 G H ρ σ) (l : Le sr G H G1 H1) {p : Addr} (n : H p = none) {i : Nat} {d : D} (f : Fresh K G1 H1 p d) {E : PEn} {Z : Ends} (fit : Fits K sr G0 H0 G Z E)
    (q : ownD i ρ E.nx d) : Z.nx (σ.set i (some (.ref p))) H1 := by
  cases f with
  | ol h1 h2 h3 => exact fit.nx _ _ G1 H1 (l.subG e.wd) (e.setO l n (.inr (.inl ⟨_, _, rfl, h1, h2, h3⟩))) q
theorem rs_asg (h : Rd K te t) (hg : Rg K ix g gt) : Rs K (tAsg te g) (sAsg t gt) := by
  refine ⟨fun E E' ρ i q => h.mono ρ _ _ (fun d q => hg.mono _ _ _ _ i.nx q) q, fun sr G0 H0 G H ρ σ Z E e q f => ?_⟩
  refine h.rd sr G0 H0 G H ρ σ _ e (h.mono _ _ _ (fun d q v G1 H1 l r => ?_) q)
  exact hg.rg sr G0 H0 G1 H1 ρ σ v d _ (e.le' l) r (hg.mono _ _ _ _ (fun ρ' q σ' e' _ _ => f.nx ρ' σ' G1 H1 (l.subG e.wd) e' q) q)
theorem rs_asgO (i : Nat) (h : RdF K te t) : Rs K (tAsg te (gName i)) (sAsgO i t) := by
  refine ⟨fun E E' ρ m q => h.mono ρ _ _ (fun d q => ownD_mono m.nx q) q, fun sr G0 H0 G H ρ σ Z E e q f => ?_⟩
  exact h.rd sr G0 H0 G H ρ σ _ e (h.mono _ _ _ (fun d q p G1 H1 l n fr => e.setF l n fr f q) q)
end
/-! the ghost step: a slot's list or dict is written no more -/
def fz (i : Nat) (ρ : En) : En := match ρ[i]? with
  | some (.ol xs) => ρ.set i (.d (.list xs))
  | some (.od _ es) => ρ.set i (.d (.dict es))
  | some (.oll xss) => ρ.set i (.d (.list (xss.map .list)))
  | _ => ρ
def sFz (i : Nat) (T : ST) : ST := fun E ρ => T E (fz i ρ)
section
variable {K : PySem.W.Frag} {sr : Sr} {G0 H0 G H G1 H1 : Hp} {ρ : En} {σ : St} {ts : TS} {T : ST}
/-- one owned thing frozen -/
theorem ER.frz1 (e : ER K sr G0 H0 G H ρ σ) {i : Nat} {p : Addr} {o : HO} {d : D} (n0 : H0 p = none) (g : G p = none) (ns : ¬ inSr sr p) (hp : H p = some o) (hσ : σ[i]? = some (some (.ref p)))
    (hr : ∀ G', G' p = some o → SubG G G' → Rp K G' (.ref p) d) (hown : ∀ (ow : Addr → Option Nat), (∀ (i : Nat) (s : Slot), ρ[i]? = some s → SlotR K sr H0 G H ow i s σ[i]?) → ow p = some i) :
    ER K sr G0 H0 (upd G p o) H (ρ.set i (.d d)) σ ∧ SubG G (upd G p o) := by
  have s2 : SubG G (upd G p o) := fun a u q => by rw [upd_ne (fun z => by subst z; rw [g] at q; cases q)]; exact q
  refine ⟨?_, s2⟩
  obtain ⟨w0, le, len, ow, h⟩ := e
  have hw := hown ow h
  refine ⟨w0, ⟨⟨fun a u q => ?_, fun a c q => ?_, fun a xs q => ?_⟩, le.keep, fun a u q => ?_⟩, by rw [List.length_set]; exact len, ow, fun j z hz => ?_⟩
  · by_cases z : a = p
    · subst z; rw [upd_same] at q; cases q; exact hp
    · rw [upd_ne z] at q; exact le.wd.sub a u q
  · obtain ⟨s1, g1, g2⟩ := le.wd.src a c q
    have na : a ≠ p := fun z => ns ⟨a, c, q, .inl z.symm⟩
    have nc : c ≠ p := fun z => ns ⟨a, c, q, .inr z.symm⟩
    exact ⟨s1, by rw [upd_ne na]; exact g1, by rw [upd_ne nc]; exact g2⟩
  · by_cases z : a = p
    · subst z; rw [upd_same]; rw [hp] at q; exact q
    · rw [upd_ne z]; exact le.wd.tup a xs q
  · rw [upd_ne (fun z => by subst z; rw [n0] at q; cases q)]; exact le.fro a u q
  · by_cases q : i = j
    · subst q
      by_cases hi : i < ρ.length
      · rw [List.getElem?_set_self hi] at hz
        cases hz
        exact ⟨_, hσ, hr _ upd_same s2⟩
      · rw [List.getElem?_eq_none (by rw [List.length_set]; omega)] at hz
        cases hz
    · rw [List.getElem?_set_ne q] at hz
      have q' := h j z hz
      cases z with
      | un => exact True.intro
      | d x =>
        obtain ⟨u, e1, r⟩ := q'
        exact ⟨u, e1, Rp.sub s2 r⟩
      | b x =>
        obtain ⟨u, e1, r⟩ := q'
        exact ⟨u, e1, r.sub s2⟩
      | ol xs =>
        obtain ⟨a, vs, e1, e2, e3, e4, e5, e6, r⟩ := q'
        have na : a ≠ p := fun z => by subst z; rw [hw] at e2; exact q (Option.some.inj e2)
        exact ⟨a, vs, e1, e2, e3, by rw [upd_ne na]; exact e4, e5, e6, RpA.sub s2 r⟩
      | od t es =>
        obtain ⟨a, u, e1, e2, e3, e4, e5, e6, r⟩ := q'
        have na : a ≠ p := fun z => by subst z; rw [hw] at e2; exact q (Option.some.inj e2)
        exact ⟨a, u, e1, e2, e3, by rw [upd_ne na]; exact e4, e5, e6, DcR.sub s2 r⟩
      | oll xss =>
        obtain ⟨a, ps, e1, e2, e3, e4, e5, e6, nd, r⟩ := q'
        have na : a ≠ p := fun z => by subst z; rw [hw] at e2; exact q (Option.some.inj e2)
        refine ⟨a, ps, e1, e2, e3, by rw [upd_ne na]; exact e4, e5, e6, nd, pair_imp (fun b xs z => ?_) r⟩
        obtain ⟨b1, b2, b3, b4, b5, vs, b6, b7⟩ := z
        have nb : b ≠ p := fun z => by subst z; rw [hw] at b2; exact q (Option.some.inj b2)
        exact ⟨b1, b2, b3, by rw [upd_ne nb]; exact b4, b5, vs, b6, RpA.sub s2 b7⟩
      | src => exact q'
/-- several owned things frozen: those of S, all of slot i -/
theorem ER.frzM (e : ER K sr G0 H0 G H ρ σ) {i : Nat} {S : Addr → Prop} [DecidablePred S] {d : D} (n0 : ∀ a, S a → H0 a = none ∧ G a = none ∧ ¬ inSr sr a ∧ ∃ o, H a = some o)
    (hr : ∀ G', (∀ a, S a → G' a = H a) → SubG G G' → ∃ u, σ[i]? = some (some u) ∧ Rp K G' u d) (hown : ∀ (ow : Addr → Option Nat), (∀ (i : Nat) (s : Slot), ρ[i]? = some s → SlotR K sr H0 G H ow i s σ[i]?) → ∀ a, S a → ow a = some i) :
    ER K sr G0 H0 (fun a => if S a then H a else G a) H (ρ.set i (.d d)) σ ∧ SubG G (fun a => if S a then H a else G a) := by
  have s2 : SubG G (fun a => if S a then H a else G a) := fun a u q => by
    have na : ¬ S a := fun z => by rw [(n0 a z).2.1] at q; cases q
    show (if S a then H a else G a) = some u
    rw [if_neg na]; exact q
  refine ⟨?_, s2⟩
  obtain ⟨w0, le, len, ow, h⟩ := e
  have hw := hown ow h
  have nS : ∀ {a : Addr}, ¬ S a → (if S a then H a else G a) = G a := fun z => if_neg z
  refine ⟨w0, ⟨⟨fun a u q => ?_, fun a c q => ?_, fun a xs q => ?_⟩, le.keep, fun a u q => ?_⟩, by rw [List.length_set]; exact len, ow, fun j z hz => ?_⟩
  · skip
    by_cases z : S a
    · rw [if_pos z] at q; exact q
    · rw [if_neg z] at q; exact le.wd.sub a u q
  · obtain ⟨s1, g1, g2⟩ := le.wd.src a c q
    have na : ¬ S a := fun z => (n0 a z).2.2.1 ⟨a, c, q, .inl rfl⟩
    have nc : ¬ S c := fun z => (n0 c z).2.2.1 ⟨a, c, q, .inr rfl⟩
    exact ⟨s1, by rw [if_neg na]; exact g1, by rw [if_neg nc]; exact g2⟩
  · skip
    by_cases z : S a
    · rw [if_pos z]; exact q
    · rw [if_neg z]; exact le.wd.tup a xs q
  · skip
    rw [if_neg (fun z => by rw [(n0 a z).1] at q; cases q)]; exact le.fro a u q
  · by_cases q : i = j
    · subst q
      by_cases hi : i < ρ.length
      · rw [List.getElem?_set_self hi] at hz
        cases hz
        exact hr _ (fun a z => if_pos z) s2
      · rw [List.getElem?_eq_none (by rw [List.length_set]; omega)] at hz
        cases hz
    · rw [List.getElem?_set_ne q] at hz
      have q' := h j z hz
      cases z with
      | un => exact True.intro
      | d x =>
        obtain ⟨u, e1, r⟩ := q'
        exact ⟨u, e1, Rp.sub s2 r⟩
      | b x =>
        obtain ⟨u, e1, r⟩ := q'
        exact ⟨u, e1, r.sub s2⟩
      | ol xs =>
        obtain ⟨a, vs, e1, e2, e3, e4, e5, e6, r⟩ := q'
        have na : ¬ S a := fun z => by rw [hw a z] at e2; exact q (Option.some.inj e2)
        exact ⟨a, vs, e1, e2, e3, (nS na).trans e4, e5, e6, RpA.sub s2 r⟩
      | od t es =>
        obtain ⟨a, u, e1, e2, e3, e4, e5, e6, r⟩ := q'
        have na : ¬ S a := fun z => by rw [hw a z] at e2; exact q (Option.some.inj e2)
        exact ⟨a, u, e1, e2, e3, (nS na).trans e4, e5, e6, DcR.sub s2 r⟩
      | oll xss =>
        obtain ⟨a, ps, e1, e2, e3, e4, e5, e6, nd, r⟩ := q'
        have na : ¬ S a := fun z => by rw [hw a z] at e2; exact q (Option.some.inj e2)
        refine ⟨a, ps, e1, e2, e3, (nS na).trans e4, e5, e6, nd, pair_imp (fun b xs z => ?_) r⟩
        obtain ⟨b1, b2, b3, b4, b5, vs, b6, b7⟩ := z
        have nb : ¬ S b := fun z => by rw [hw b z] at b2; exact q (Option.some.inj b2)
        exact ⟨b1, b2, b3, (nS nb).trans b4, b5, vs, b6, RpA.sub s2 b7⟩
      | src => exact q'
theorem pair_mem {α β : Type} {R : α → β → Prop} {x : α} : ∀ {l : List α} {m : List β}, Paired R l m → x ∈ l → ∃ y, R x y
  | _, _, .nil, h => by simp at h
  | _, _, .cons (a := a) r t, h => by
    rcases List.mem_cons.mp h with e | h
    · subst e; exact ⟨_, r⟩
    · exact pair_mem t h
theorem inn_all {ow : Addr → Option Nat} {i : Nat} {p : Addr} {G' : Hp} : ∀ {ps : List Addr} {xss : List (List D)}, Paired (InnR K sr H0 G H ow i p) ps xss → (∀ a ∈ ps, G' a = H a) → SubG G G' → RpA K G' (ps.map V.ref) (xss.map .list)
  | _, _, .nil, _, _ => .nil
  | _, _, .cons r t, h, s => by
    obtain ⟨b1, b2, b3, b4, b5, vs, b6, b7⟩ := r
    exact .cons (.lst ((h _ List.mem_cons_self).trans b6) (RpA.sub s b7)) (inn_all t (fun a z => h a (List.mem_cons_of_mem _ z)) s)
theorem ER.frz (e : ER K sr G0 H0 G H ρ σ) (i : Nat) : ∃ G', SubG G G' ∧ ER K sr G0 H0 G' H (fz i ρ) σ := by
  unfold fz
  have e' := e
  obtain ⟨w0, le, len, ow, h⟩ := e'
  split
  · rename_i xs hs
    obtain ⟨p, vs, e1, e2, e3, e4, e5, e6, r⟩ := h i _ hs
    obtain ⟨a, b⟩ := e.frz1 (i := i) (d := .list xs) e3 e4 e5 e6 e1 (fun G' q s => .lst q (RpA.sub s r)) fun ow' h' => by
      obtain ⟨p', vs', e1', e2', _⟩ := h' i _ hs
      rw [e1] at e1'
      cases e1'
      exact e2'
    exact ⟨_, b, a⟩
  · rename_i t es hs
    obtain ⟨p, o, e1, e2, e3, e4, e5, e6, r⟩ := h i _ hs
    obtain ⟨a, b⟩ := e.frz1 (i := i) (d := .dict es) e3 e4 e5 e6 e1 (fun G' q s => by
      cases t with
      | false =>
        cases o with
        | dK kvs => exact .dK q (RpK.sub s r)
        | _ => exact r.elim
      | true =>
        cases o with
        | dT kvs => exact .dT q (RpT.sub s r)
        | _ => exact r.elim) fun ow' h' => by
      obtain ⟨p', vs', e1', e2', _⟩ := h' i _ hs
      rw [e1] at e1'
      cases e1'
      exact e2'
    exact ⟨_, b, a⟩
  · rename_i xss hs
    obtain ⟨p, ps, e1, e2, e3, e4, e5, e6, nd, r⟩ := h i _ hs
    obtain ⟨a, b⟩ := e.frzM (i := i) (S := fun a => a = p ∨ a ∈ ps) (d := .list (xss.map .list)) (fun a ha => by
      rcases ha with rfl | ha
      · exact ⟨e3, e4, e5, _, e6⟩
      · obtain ⟨xs, b1, b2, b3, b4, b5, vs, b6, b7⟩ := pair_mem r ha
        exact ⟨b3, b4, b5, _, b6⟩)
      (fun G' hG s => ⟨_, e1, .lst ((hG p (.inl rfl)).trans e6) (inn_all r (fun a z => hG a (.inr z)) s)⟩) (fun ow' h' a ha => by
      obtain ⟨p', ps', e1', e2', e3', e4', e5', e6', nd', r'⟩ := h' i _ hs
      rw [e1] at e1'
      cases e1'
      rcases ha with rfl | ha
      · exact e2'
      · have hp : ps' = ps := by
          rw [e6] at e6'
          have z : ps.map V.ref = ps'.map V.ref := by simpa using e6'
          exact (List.map_inj_right (fun x y h => by cases h; rfl)).mp z.symm
        subst hp
        obtain ⟨xs, b1, b2, _⟩ := pair_mem r' ha
        exact b2)
    exact ⟨_, b, a⟩
  · exact ⟨G, SubG.refl G, e⟩
theorem rs_fz (i : Nat) (h : Rs K ts T) : Rs K ts (sFz i T) := by
  refine ⟨fun E E' ρ m q => h.mono _ _ _ m q, fun sr G0 H0 G H ρ σ Z E e q f => ?_⟩
  obtain ⟨G', s, e'⟩ := e.frz i
  exact h.rs sr G0 H0 G' H _ σ Z E e' q (f.sub s)
end
end DL
/-! DL5: what is walked, for, while, list comprehensions. -/
namespace DL
open PySem PySem.Spec L2
open PyProof.Rows hiding St

def ItR (K : PySem.W.Frag) (sr : Sr) (G : Hp) (J : It) (ds : List D) : Prop :=
  ∀ G2 H2, SubG G G2 → Wd sr G2 H2 → (∀ i, ds.length ≤ i → J.stop i H2) ∧
    ∀ i d, ds[i]? = some d → J.go i H2 ∧ ∀ x H3, J.yld i H2 x H3 → ∃ G3, Le sr G2 H2 G3 H3 ∧ Rp K G3 x d
abbrev IT := En → (List D → Prop) → Prop
abbrev IE := En → (List D → En → Prop) → Prop
structure Ri (K : PySem.W.Frag) (wi : TI) (ti : IT) : Prop where
  mono : ∀ ρ Q Q', (∀ d, Q d → Q' d) → ti ρ Q → ti ρ Q'
  ri : ∀ sr G0 H0 G H ρ σ R, ER K sr G0 H0 G H ρ σ → ti ρ (fun ds => ∀ J G' H', Le sr G H G' H' → ItR K sr G' J ds → R J H') → wi σ H R
structure RiE (K : PySem.W.Frag) (wi : TI) (ti : IE) : Prop where
  mono : ∀ ρ Q Q', (∀ d ρ, Q d ρ → Q' d ρ) → ti ρ Q → ti ρ Q'
  ri : ∀ sr G0 H0 G H ρ σ R, ER K sr G0 H0 G H ρ σ → ti ρ (fun ds ρ' => ∀ J G' H', SubG G G' → ER K sr G0 H0 G' H' ρ' σ → ItR K sr G' J ds → R J H') → wi σ H R
def ieOf (ti : IT) : IE := fun ρ Q => ti ρ fun ds => Q ds ρ
theorem Ri.e {K : PySem.W.Frag} {wi : TI} {ti : IT} (h : Ri K wi ti) : RiE K wi (ieOf ti) :=
  ⟨fun ρ Q Q' m q => h.mono ρ _ _ (fun ds q => m _ _ q) q, fun sr G0 H0 G H ρ σ R e q => h.ri sr G0 H0 G H ρ σ R e (h.mono _ _ _ (fun ds q J G' H' l i => q J G' H' (l.subG e.wd) (e.le' l) i) q)⟩
/-! a list or a tuple -/
def iSeqU (K : PySem.W.Frag) (tl : TE) : TI := fun σ H R => tl σ H fun x H1 => (∃ a, x = .ref a ∧ (∃ xs, SqL K H1 a xs) ∧ R (Itl K a) H1) ∨ ∃ a, x = .ref a ∧ (∃ xs, SqT K H1 a xs) ∧ R (Itt K a) H1
theorem pi_seqU {X : Cx} {tg l : Expr} {tl : TE} (hl : PE X l tl) : PI X tg l (iSeqU X.K tl) := by
  refine ⟨fun pins s σ H R I h => ?_⟩
  refine thn (hl.run pins s σ H _ I h) fun v s1 ⟨x, H1, I1, r1, q1⟩ => ?_
  rcases q1 with ⟨a, e, ⟨xs, hq⟩, q⟩ | ⟨a, e, ⟨xs, hq⟩, q⟩
  · subst e
    cases r1
    obtain ⟨its, rv, p, hz⟩ := I1.list hq
    refine wpAny_pyIter_list p.isList ?_
    refine ⟨s1.heap.objs.size, [s1.heap.objs.size], _, _, H1, rfl, I1.kept (t' := s1.toks) fun b o e => Heap.get?_push_of_some _ e, turn_list a _, ⟨_, Heap.get?_push_size _ rfl, rfl, rfl⟩, fun b hb => ?_, q⟩
    have e : b = s1.heap.objs.size := by simpa using hb
    subst e
    exact I1.fpOk (Nat.le_refl _) (I1.hok.fresh (Nat.le_refl _))
  · subst e
    cases r1
    obtain ⟨its, rv, p, hz⟩ := I1.tuple hq
    refine wpAny_pyIter_tuple (show s1.heap.IsTuple a its.toArray from p) ?_
    refine ⟨s1.heap.objs.size, [s1.heap.objs.size], _, _, H1, rfl, I1.kept (t' := s1.toks) fun b o e => Heap.get?_push_of_some _ e, turn_tuple a _, ⟨_, Heap.get?_push_size _ rfl, rfl, rfl⟩, fun b hb => ?_, q⟩
    have e : b = s1.heap.objs.size := by simpa using hb
    subst e
    exact I1.fpOk (Nat.le_refl _) (I1.hok.fresh (Nat.le_refl _))
def iSeq (t : DT) : IT := fun ρ Q => t ρ fun d => match d with
  | .list ds => Q ds
  | .tuple ds => Q ds
  | _ => False
section
variable {K : PySem.W.Frag} {te : TE} {t : DT}
theorem sql_one {H : Hp} {a : Addr} {xs ys : List V} (h : H a = some (.lst xs)) (nk : ∀ o its n, K.lookup a = some o → o.cls = .type "list" → o.data = .seq its n → False) : SqL K H a ys → ys = xs := fun q => by
  rcases q with (q | ⟨o, q⟩) | ⟨o, its, n, k, c, _, d, _⟩
  · rw [h] at q; cases q; rfl
  · rw [h] at q; cases q
  · exact (nk o its n k c d).elim
theorem ir_list {sr : Sr} {G : Hp} {a : Addr} {xs : List V} {ds : List D} (h : G a = some (.lst xs)) (r : RpA K G xs ds) : ItR K sr G (Itl K a) ds := fun G2 H2 s w => by
  have h2 : SqL K H2 a xs := .inl (.inl (w.sub _ _ (s _ _ h)))
  refine ⟨fun i hi => ⟨xs, h2, by rw [r.length]; exact hi⟩, fun i d hd => ?_⟩
  obtain ⟨u, e1, e2⟩ := r.get hd
  refine ⟨⟨xs, u, h2, e1⟩, fun x H3 y => ?_⟩
  obtain ⟨rfl, y⟩ := y
  have ex := y xs h2
  rw [e1] at ex
  cases ex
  exact ⟨G2, Le.refl w, Rp.sub s e2⟩
theorem ir_tup {sr : Sr} {G : Hp} {a : Addr} {xs : List V} {ds : List D} (h : G a = some (.tup xs)) (r : RpA K G xs ds) : ItR K sr G (Itt K a) ds := fun G2 H2 s w => by
  have h2 : SqT K H2 a xs := .inl (.inl (w.sub _ _ (s _ _ h)))
  refine ⟨fun i hi => ⟨xs, h2, by rw [r.length]; exact hi⟩, fun i d hd => ?_⟩
  obtain ⟨u, e1, e2⟩ := r.get hd
  refine ⟨⟨xs, u, h2, e1⟩, fun x H3 y => ?_⟩
  obtain ⟨rfl, y⟩ := y
  have ex := y xs h2
  rw [e1] at ex
  cases ex
  exact ⟨G2, Le.refl w, Rp.sub s e2⟩
theorem ri_seq (h : Rd K te t) : Ri K (iSeqU K te) (iSeq t) := by
  refine ⟨fun ρ Q Q' m q => h.mono ρ _ _ (fun d q => ?_) q, fun sr G0 H0 G H ρ σ R e q => ?_⟩
  · split at q
    · exact m _ q
    · exact m _ q
    · exact q.elim
  · refine h.rd sr G0 H0 G H ρ σ _ e (h.mono _ _ _ (fun d q v G1 H1 l r => ?_) q)
    split at q
    · cases r with
      | lst hs ra => exact .inl ⟨_, rfl, ⟨_, .inl (.inl (l.wd.sub _ _ hs))⟩, q _ G1 H1 l (ir_list hs ra)⟩
    · cases r with
      | tup hs ra => exact .inr ⟨_, rfl, ⟨_, .inl (.inl (l.wd.sub _ _ hs))⟩, q _ G1 H1 l (ir_tup hs ra)⟩
    · exact q.elim
end
/-! ranges -/
def rngD (lo : Int) (n : Nat) : List D := (List.range n).map fun i => .int (lo + (i : Nat))
theorem ir_rng {K : PySem.W.Frag} {sr : Sr} {G : Hp} {lo : Int} {n : Nat} : ItR K sr G (Itr lo n) (rngD lo n) := fun G2 H2 s w => by
  refine ⟨fun i hi => by unfold rngD at hi; simp at hi; exact hi, fun i d hd => ?_⟩
  unfold rngD at hd
  rw [List.getElem?_map] at hd
  by_cases hi : i < n
  · rw [List.getElem?_range hi] at hd
    cases hd
    refine ⟨hi, fun x H3 y => ?_⟩
    obtain ⟨rfl, rfl⟩ := y
    exact ⟨G2, Le.refl w, .int _⟩
  · rw [List.getElem?_eq_none (by simp; omega)] at hd
    cases hd
def iRg1 (a : AT) : IT := fun ρ Q => a ρ fun ds => match ds with
  | [.int j] => (-(2 ^ 62) ≤ j ∧ j < 2 ^ 62) ∧ Q (rngD 0 j.toNat)
  | _ => False
def iRg2 (a : AT) : IT := fun ρ Q => a ρ fun ds => match ds with
  | [.int i, .int j] => (-(2 ^ 62) ≤ i ∧ i < 2 ^ 62 ∧ -(2 ^ 62) ≤ j ∧ j < 2 ^ 62) ∧ Q (rngD i (j - i).toNat)
  | _ => False
section
variable {K : PySem.W.Frag} {ta : TA} {a : AT}
theorem ri_rng1 (h : RA K (RR K) ta a) : Ri K (iRng1 ta) (iRg1 a) := by
  refine ⟨fun ρ Q Q' m q => h.mono ρ _ _ (fun d q => ?_) q, fun sr G0 H0 G H ρ σ R e q => ?_⟩
  · split at q
    · exact ⟨q.1, m _ q.2⟩
    · exact q.elim
  · refine h.rd sr G0 H0 G H ρ σ _ e (h.mono _ _ _ (fun d q vs G1 H1 l r => ?_) q)
    split at q
    · rename_i j
      cases r with
      | cons r1 r2 =>
        cases r2
        exact ⟨j, by rw [Rr.int r1], q.1.1, q.1.2, q.2 _ G1 H1 l ir_rng⟩
    · exact q.elim
theorem ri_rng2 (h : RA K (RR K) ta a) : Ri K (iRng2 ta) (iRg2 a) := by
  refine ⟨fun ρ Q Q' m q => h.mono ρ _ _ (fun d q => ?_) q, fun sr G0 H0 G H ρ σ R e q => ?_⟩
  · split at q
    · exact ⟨q.1, m _ q.2⟩
    · exact q.elim
  · refine h.rd sr G0 H0 G H ρ σ _ e (h.mono _ _ _ (fun d q vs G1 H1 l r => ?_) q)
    split at q
    · rename_i i j
      cases r with
      | cons r1 r2 =>
        cases r2 with
        | cons r2 r3 =>
          cases r3
          exact ⟨i, j, by rw [Rr.int r1, Rr.int r2], q.1, q.2 _ G1 H1 l ir_rng⟩
    · exact q.elim
end
/-! enumerate, zip over lists -/
def enumD (ds : List D) : List D := ds.mapIdx fun i d => .tuple [.int (i : Nat), d]
def zipD (as bs : List D) : List D := List.zipWith (fun a b => .tuple [a, b]) as bs
theorem ir_enum {K : PySem.W.Frag} {sr : Sr} {G : Hp} {a : Addr} {xs : List V} {ds : List D} (h : G a = some (.lst xs)) (r : RpA K G xs ds) : ItR K sr G (Ite K a) (enumD ds) := fun G2 H2 s w => by
  have h2 : SqL K H2 a xs := .inl (.inl (w.sub _ _ (s _ _ h)))
  refine ⟨fun i hi => ⟨xs, h2, by unfold enumD at hi; rw [List.length_mapIdx] at hi; rw [r.length]; exact hi⟩, fun i d hd => ?_⟩
  unfold enumD at hd
  rw [List.getElem?_mapIdx] at hd
  cases e : ds[i]? with
  | none => rw [e] at hd; cases hd
  | some z =>
    rw [e] at hd
    cases hd
    obtain ⟨u, e1, e2⟩ := r.get e
    refine ⟨⟨xs, u, h2, e1⟩, fun x H3 y => ?_⟩
    obtain ⟨T, v, rfl, nT, rfl, y⟩ := y
    have ex := y xs h2
    rw [e1] at ex
    cases ex
    have l := Le.newF (o := .tup [.int (i : Nat), u]) w nT
    exact ⟨_, l, .tup upd_same (.cons (.int _) (.cons (Rp.sub (SubG.trans s (l.gsub w)) e2) .nil))⟩
theorem ir_zip {K : PySem.W.Frag} {sr : Sr} {G : Hp} {a b : Addr} {xs ys : List V} {ds es : List D} (h : G a = some (.lst xs)) (r : RpA K G xs ds) (h' : G b = some (.lst ys)) (r' : RpA K G ys es) : ItR K sr G (Itz K a b) (zipD ds es) := fun G2 H2 s w => by
  have h2 : SqL K H2 a xs := .inl (.inl (w.sub _ _ (s _ _ h)))
  have h3 : SqL K H2 b ys := .inl (.inl (w.sub _ _ (s _ _ h')))
  refine ⟨fun i hi => ⟨xs, ys, h2, h3, by unfold zipD at hi; rw [List.length_zipWith] at hi; rw [r.length, r'.length]; omega⟩, fun i d hd => ?_⟩
  unfold zipD at hd
  rw [List.getElem?_zipWith] at hd
  cases e : ds[i]? with
  | none => rw [e] at hd; cases hd
  | some z =>
    cases e' : es[i]? with
    | none => rw [e, e'] at hd; cases hd
    | some z' =>
      rw [e, e'] at hd
      cases hd
      obtain ⟨u, e1, e2⟩ := r.get e
      obtain ⟨u', e1', e2'⟩ := r'.get e'
      refine ⟨⟨xs, ys, u, u', h2, h3, e1, e1'⟩, fun x H3 y => ?_⟩
      obtain ⟨T, v, v', rfl, nT, rfl, y, y'⟩ := y
      have ex := y xs h2
      rw [e1] at ex
      cases ex
      have ex' := y' ys h3
      rw [e1'] at ex'
      cases ex'
      have l := Le.newF (o := .tup [u, u']) w nT
      exact ⟨_, l, .tup upd_same (.cons (Rp.sub (SubG.trans s (l.gsub w)) e2) (.cons (Rp.sub (SubG.trans s (l.gsub w)) e2') .nil))⟩
def iEn (a : AT) : IT := fun ρ Q => a ρ fun ds => match ds with
  | [.list xs] => Q (enumD xs)
  | _ => False
def iZp (a : AT) : IT := fun ρ Q => a ρ fun ds => match ds with
  | [.list xs, .list ys] => Q (zipD xs ys)
  | _ => False
section
variable {K : PySem.W.Frag} {ta : TA} {a : AT}
theorem ri_enum (h : RA K (PR K) ta a) : Ri K (iEnum K ta) (iEn a) := by
  refine ⟨fun ρ Q Q' m q => h.mono ρ _ _ (fun d q => ?_) q, fun sr G0 H0 G H ρ σ R e q => ?_⟩
  · split at q
    · exact m _ q
    · exact q.elim
  · refine h.rd sr G0 H0 G H ρ σ _ e (h.mono _ _ _ (fun d q vs G1 H1 l r => ?_) q)
    split at q
    · cases RpA.of r with
      | cons r1 r2 =>
        cases r2
        cases r1 with
        | lst hs ra => exact ⟨_, _, rfl, .inl (.inl (l.wd.sub _ _ hs)), q _ G1 H1 l (ir_enum hs ra)⟩
    · exact q.elim
theorem ri_zip (h : RA K (PR K) ta a) : Ri K (iZip K ta) (iZp a) := by
  refine ⟨fun ρ Q Q' m q => h.mono ρ _ _ (fun d q => ?_) q, fun sr G0 H0 G H ρ σ R e q => ?_⟩
  · split at q
    · exact m _ q
    · exact q.elim
  · refine h.rd sr G0 H0 G H ρ σ _ e (h.mono _ _ _ (fun d q vs G1 H1 l r => ?_) q)
    split at q
    · cases RpA.of r with
      | cons r1 r2 =>
        cases r2 with
        | cons r2 r3 =>
          cases r3
          cases r1 with
          | lst hs ra =>
            cases r2 with
            | lst hs' ra' => exact ⟨_, _, _, _, rfl, .inl (.inl (l.wd.sub _ _ hs)), .inl (.inl (l.wd.sub _ _ hs')), q _ G1 H1 l (ir_zip hs ra hs' ra')⟩
    · exact q.elim
end

/-! for -/
def forD (tg : GT) (tb : ST) (E : PEn) : List D → En → Prop
  | [], ρ => E.nx ρ
  | d :: ds, ρ => tg d ρ fun ρ1 => tb { nx := forD tg tb E ds, ct := forD tg tb E ds, bk := E.nx, rt := E.rt } ρ1
def sFor (ti : IE) (tg : GT) (tb : ST) : ST := fun E ρ => ti ρ fun ds ρ' => forD tg tb E ds ρ'
section
variable {K : PySem.W.Frag} {wi : TI} {ti : IE} {g : TG} {gt : GT} {ix : List Nat} {tb : TS} {T : ST}
theorem forD_mono (hg : Rg K ix g gt) (hb : Rs K tb T) {E E' : PEn} (i : ImpE E E') : ∀ ds ρ, forD gt T E ds ρ → forD gt T E' ds ρ
  | [], ρ, q => i.nx _ q
  | d :: ds, ρ, q => hg.mono d ρ _ _ (fun ρ1 q => hb.mono { nx := forD gt T E ds, ct := forD gt T E ds, bk := E.nx, rt := E.rt } { nx := forD gt T E' ds, ct := forD gt T E' ds, bk := E'.nx, rt := E'.rt } ρ1 ⟨forD_mono hg hb i ds, i.rt, i.nx, forD_mono hg hb i ds⟩ q) q
theorem rs_for (hi : RiE K wi ti) (hg : Rg K ix g gt) (hb : Rs K tb T) : Rs K (tFor wi g tb) (sFor ti gt T) := by
  refine ⟨fun E E' ρ m q => hi.mono ρ _ _ (fun ds ρ' q => forD_mono hg hb m ds ρ' q) q, fun sr G0 H0 G H ρ σ Z E e q f => ?_⟩
  refine hi.ri sr G0 H0 G H ρ σ _ e (hi.mono _ _ _ (fun ds ρ1 q J G1 H1 s1 e1 it => ?_) q)
  refine ⟨fun i m σ' H' => ∃ G' ρ', SubG G1 G' ∧ ER K sr G0 H0 G' H' ρ' σ' ∧ forD gt T E (ds.drop i) ρ' ∧ m = ds.length - i, ⟨_, G1, ρ1, SubG.refl _, e1, q, rfl⟩, fun i m σ' H' hW => ?_⟩
  obtain ⟨G', ρ', s', e', q', rfl⟩ := hW
  obtain ⟨j1, j2⟩ := it G' H' s' e'.wd
  by_cases hi' : i < ds.length
  · have hd : ds[i]? = some ds[i] := List.getElem?_eq_getElem hi'
    have hdrop : ds.drop i = ds[i] :: ds.drop (i + 1) := List.drop_eq_getElem_cons hi'
    rw [hdrop] at q'
    obtain ⟨go, step⟩ := j2 i _ hd
    refine .inr ⟨go, fun σ2 H2 => ∃ G2 ρ2, SubG G1 G2 ∧ ER K sr G0 H0 G2 H2 ρ2 σ2 ∧ forD gt T E (ds.drop (i + 1)) ρ2, fun σ2 H2 hN => ?_, fun x H2 y => ?_⟩
    · obtain ⟨G2, ρ2, a, b, c⟩ := hN
      exact ⟨ds.length - (i + 1), by omega, G2, ρ2, a, b, c, rfl⟩
    · obtain ⟨G3, l3, r3⟩ := step x H2 y
      have e3 := e'.le' l3
      refine hg.rg sr G0 H0 G3 H2 ρ' σ' x _ _ e3 r3 (hg.mono _ _ _ _ (fun ρ2 q2 σ2 e2 _ _ => ?_) q')
      have s3 : SubG G1 G3 := s'.trans (l3.subG e'.wd)
      refine hb.rs sr G0 H0 G3 H2 ρ2 σ2 _ _ e2 q2 ⟨fun ρ4 σ4 G4 H4 s4 e4 q4 => ⟨G4, ρ4, s3.trans s4, e4, q4⟩, f.rt, fun ρ4 σ4 G4 H4 s4 e4 q4 => f.nx ρ4 σ4 G4 H4 (s1.trans (s3.trans s4)) e4 q4, fun ρ4 σ4 G4 H4 s4 e4 q4 => ⟨G4, ρ4, s3.trans s4, e4, q4⟩⟩
  · refine .inl ⟨j1 i (by omega), ?_⟩
    rw [List.drop_eq_nil_of_le (by omega)] at q'
    exact f.nx ρ' σ' G' H' (s1.trans s') e' q'
end
/-! while -/
def whD (c : BT) (tb : ST) (E : PEn) : Nat → En → Prop
  | 0, _ => False
  | n + 1, ρ => c ρ fun k => if k = true then tb { nx := whD c tb E n, ct := whD c tb E n, bk := E.nx, rt := E.rt } ρ else E.nx ρ
def sWh (c : BT) (tb : ST) : ST := fun E ρ => ∃ n, whD c tb E n ρ
section
variable {K : PySem.W.Frag} {tc : TT} {c : BT} {tb : TS} {T : ST}
theorem whD_mono (hc : RT K tc c) (hb : Rs K tb T) {E E' : PEn} (i : ImpE E E') : ∀ n ρ, whD c T E n ρ → whD c T E' n ρ
  | 0, ρ, q => q
  | n + 1, ρ, q => hc.mono ρ _ _ (fun k q => by
    split at q
    · rename_i hk
      rw [if_pos hk]
      exact hb.mono { nx := whD c T E n, ct := whD c T E n, bk := E.nx, rt := E.rt } { nx := whD c T E' n, ct := whD c T E' n, bk := E'.nx, rt := E'.rt } ρ ⟨whD_mono hc hb i n, i.rt, i.nx, whD_mono hc hb i n⟩ q
    · rename_i hk
      rw [if_neg hk]
      exact i.nx _ q) q
theorem rs_while (hc : RT K tc c) (hb : Rs K tb T) : Rs K (tWhile tc tb) (sWh c T) := by
  refine ⟨fun E E' ρ m q => let ⟨n, q⟩ := q; ⟨n, whD_mono hc hb m n ρ q⟩, fun sr G0 H0 G H ρ σ Z E e q f => ?_⟩
  obtain ⟨n, q⟩ := q
  refine ⟨fun m σ' H' => ∃ G' ρ', SubG G G' ∧ ER K sr G0 H0 G' H' ρ' σ' ∧ whD c T E m ρ', ⟨n, G, ρ, SubG.refl _, e, q⟩, fun m σ' H' hW => ?_⟩
  obtain ⟨G', ρ', s', e', q'⟩ := hW
  cases m with
  | zero => exact q'.elim
  | succ m =>
    refine hc.rt sr G0 H0 G' H' ρ' σ' _ e' (hc.mono _ _ _ (fun k q G1 H1 l1 => ?_) q')
    split at q
    · rename_i hk
      rw [if_pos hk]
      refine ⟨fun σ2 H2 => ∃ G2 ρ2, SubG G G2 ∧ ER K sr G0 H0 G2 H2 ρ2 σ2 ∧ whD c T E m ρ2, fun σ2 H2 hN => ?_, ?_⟩
      · obtain ⟨G2, ρ2, a, b, d⟩ := hN
        exact ⟨m, Nat.lt_succ_self m, G2, ρ2, a, b, d⟩
      · have s1 : SubG G G1 := s'.trans (l1.subG e'.wd)
        exact hb.rs sr G0 H0 G1 H1 ρ' σ' _ _ (e'.le' l1) q ⟨fun ρ4 σ4 G4 H4 s4 e4 q4 => ⟨G4, ρ4, s1.trans s4, e4, q4⟩, f.rt, fun ρ4 σ4 G4 H4 s4 e4 q4 => f.nx ρ4 σ4 G4 H4 (s1.trans s4) e4 q4, fun ρ4 σ4 G4 H4 s4 e4 q4 => ⟨G4, ρ4, s1.trans s4, e4, q4⟩⟩
    · rename_i hk
      rw [if_neg hk]
      exact f.nx ρ' σ' G1 H1 (s'.trans (l1.subG e'.wd)) (e'.le' l1) q
end

/-! list comprehensions -/
def wipeE (ρ : En) : List Nat → En
  | [] => ρ
  | i :: is => (wipeE ρ is).set i .un
def lcD (tg : GT) (tt : BT) (t : DT) (ρ : En) : List D → List D → (List D → Prop) → Prop
  | [], acc, Q => Q acc
  | d :: ds, acc, Q => tg d ρ fun ρ1 => tt ρ1 fun b => if b = true then t ρ1 fun y => lcD tg tt t ρ ds (acc ++ [y]) Q else lcD tg tt t ρ ds acc Q
def dLc (ti : IT) (tg : GT) (tt : BT) (t : DT) (vs : List Nat) : DT := fun ρ Q => ti ρ fun ds => ds.length ≤ 16777216 ∧ lcD tg tt t (wipeE ρ vs) ds [] fun ys => Q (.list ys)
def bYes : BT := fun _ Q => Q true
section
variable {K : PySem.W.Frag} {sr : Sr} {G0 H0 G H G1 H1 : Hp} {ρ : En} {σ : St}
theorem rt_yes : RT K tYes bYes := ⟨fun ρ Q Q' m q => m _ q, fun sr G0 H0 G H ρ σ Q e q => q G H (Le.refl e.wd)⟩
theorem ER.wipe (e : ER K sr G0 H0 G H ρ σ) : ∀ vs, ER K sr G0 H0 G H (wipeE ρ vs) (L2.wipe σ vs)
  | [] => e
  | i :: is => (ER.wipe e is).un i none
theorem wipe_get (σ : St) (j : Nat) : ∀ (is : List Nat), (wipe σ is)[j]? = if j ∈ is then (if j < σ.length then some none else none) else σ[j]?
  | [] => by simp [wipe]
  | i :: is => by
    show ((wipe σ is).set i none)[j]? = _
    by_cases q : j = i
    · subst q
      rw [if_pos List.mem_cons_self]
      by_cases hl : j < σ.length
      · rw [if_pos hl, List.getElem?_set_self (by rw [wipe_length]; exact hl)]
      · rw [if_neg hl, List.getElem?_eq_none (by rw [List.length_set, wipe_length]; omega)]
    · rw [List.getElem?_set_ne (Ne.symm q), wipe_get σ j is]
      by_cases h : j ∈ is
      · rw [if_pos h, if_pos (List.mem_cons_of_mem _ h)]
      · rw [if_neg h, if_neg (by simp [q, h])]
theorem wipe_eq {σ σ' : St} {ix vs : List Nat} (hl : σ'.length = σ.length) (hj : ∀ j, j ∉ ix → σ'[j]? = σ[j]?) (hs : ∀ j ∈ ix, j ∈ vs) : wipe σ' vs = wipe σ vs := by
  apply List.ext_getElem?
  intro j
  rw [wipe_get, wipe_get, hl]
  by_cases h : j ∈ vs
  · rw [if_pos h, if_pos h]
  · rw [if_neg h, if_neg h]
    exact hj j fun z => h (hs j z)
theorem wipe_wipe (σ : St) (vs : List Nat) : wipe (wipe σ vs) vs = wipe σ vs := by
  apply List.ext_getElem?
  intro j
  rw [wipe_get, wipe_length, wipe_get]
  by_cases h : j ∈ vs
  · rw [if_pos h, if_pos h]
  · rw [if_neg h, if_neg h]
/-- the list that grows is written -/
theorem Le.wr (l : Le sr G H G1 H1) {p : Addr} {o : HO} (n : H p = none) (w : Wd sr G H) (g : G1 p = none) (ho : ∀ xs, o ≠ .tup xs := by intro _ h; cases h) : Le sr G H G1 (upd H1 p o) where
  wd := ⟨fun a u e => by rw [upd_ne (fun z => by subst z; rw [g] at e; cases e)]; exact l.wd.sub a u e, fun a c e => by
    obtain ⟨⟨ne, cells, x, m, t, h1, h2, hl⟩, g1, g2⟩ := l.wd.src a c e
    have na : a ≠ p := fun z => w.nosr n ⟨a, c, e, .inl z.symm⟩
    have nc : c ≠ p := fun z => w.nosr n ⟨a, c, e, .inr z.symm⟩
    exact ⟨⟨ne, cells, x, m, t, by rw [upd_ne na]; exact h1, by rw [upd_ne nc]; exact h2, hl⟩, g1, g2⟩, fun a xs e => by
    by_cases q : a = p
    · subst q; rw [upd_same] at e; exact absurd (Option.some.inj e) (ho xs)
    · rw [upd_ne q] at e; exact l.wd.tup a xs e⟩
  keep := fun a u e ns => by rw [upd_ne (fun z => by subst z; rw [n] at e; cases e)]; exact l.keep a u e ns
  fro := l.fro
variable {wi : TI} {ti : IT} {g : TG} {gt : GT} {ix vs : List Nat} {tt : TT} {bt : BT} {te : TE} {t : DT}
theorem lcD_mono (hg : Rg K ix g gt) (ht : RT K tt bt) (he : Rd K te t) (ρ : En) : ∀ (ds acc : List D) (Q Q' : List D → Prop), (∀ ys, Q ys → Q' ys) → lcD gt bt t ρ ds acc Q → lcD gt bt t ρ ds acc Q'
  | [], acc, Q, Q', m, q => m _ q
  | d :: ds, acc, Q, Q', m, q => hg.mono d ρ _ _ (fun ρ1 q => ht.mono ρ1 _ _ (fun b q => by
    split at q
    · rename_i hb
      rw [if_pos hb]
      exact he.mono ρ1 _ _ (fun y q => lcD_mono hg ht he ρ ds _ Q Q' m q) q
    · rename_i hb
      rw [if_neg hb]
      exact lcD_mono hg ht he ρ ds _ Q Q' m q) q) q
theorem rf_lc (hi : Ri K wi ti) (hg : Rg K ix g gt) (ht : RT K tt bt) (he : Rd K te t) (hs : ∀ j ∈ ix, j ∈ vs) : RdF K (tLc wi g tt te vs) (dLc ti gt bt t vs) := by
  refine ⟨fun ρ Q Q' m q => hi.mono ρ _ _ (fun ds q => ⟨q.1, lcD_mono hg ht he _ _ _ _ _ (fun ys q => m _ q) q.2⟩) q, fun sr G0 H0 G H ρ σ Q e q => ?_⟩
  refine hi.ri sr G0 H0 G H ρ σ _ e (hi.mono _ _ _ (fun ds q J G1 H1 l1 it P nP => ?_) q)
  obtain ⟨hds, q⟩ := q
  have w1 := l1.wd
  have e1 := (e.le' l1).wipe vs
  refine ⟨fun i m H' => ∃ G' acc ys, Le sr G1 H1 G' H' ∧ G' P = none ∧ H' P = some (.lst acc) ∧ RpA K G' acc ys ∧ ys.length ≤ i ∧ lcD gt bt t (wipeE ρ vs) (ds.drop i) ys (fun ys => Kf K sr G H Q (.list ys)) ∧ m = ds.length - i,
    ⟨_, G1, [], [], Le.newO w1 nP, w1.gn nP, upd_same, .nil, Nat.le_refl _, q, rfl⟩, fun i m H' hW => ?_⟩
  obtain ⟨G', acc, ys, l', gP, hP, ra, hlen, q', rfl⟩ := hW
  obtain ⟨j1, j2⟩ := it G' H' (l'.subG w1) l'.wd
  by_cases hi' : i < ds.length
  · have hd : ds[i]? = some ds[i] := List.getElem?_eq_getElem hi'
    rw [List.drop_eq_getElem_cons hi'] at q'
    obtain ⟨go, step⟩ := j2 i _ hd
    refine .inr ⟨go, fun H2 => ∃ G2 acc ys, Le sr G1 H1 G2 H2 ∧ G2 P = none ∧ H2 P = some (.lst acc) ∧ RpA K G2 acc ys ∧ ys.length ≤ i + 1 ∧ lcD gt bt t (wipeE ρ vs) (ds.drop (i + 1)) ys (fun ys => Kf K sr G H Q (.list ys)), fun H2 hN => ?_, fun x H2 y => ?_⟩
    · obtain ⟨G2, a2, y2, a, b, c, d, f, g⟩ := hN
      exact ⟨ds.length - (i + 1), by omega, G2, a2, y2, a, b, c, d, f, g, rfl⟩
    · obtain ⟨G3, l3, r3⟩ := step x H2 y
      have nsP : ¬ inSr sr P := w1.nosr nP
      have l13 := Le.trans w1 l' l3
      have e3 := e1.le' l13
      refine hg.rg sr G0 H0 G3 H2 _ _ x _ _ e3 r3 (hg.mono _ _ _ _ (fun ρ2 q2 σ2 e2 hl2 hj2 => ?_) q')
      refine ⟨(wipe_eq hl2 hj2 hs).trans (wipe_wipe _ _), ?_⟩
      refine ht.rt sr G0 H0 G3 H2 ρ2 σ2 _ e2 (ht.mono _ _ _ (fun b q4 G4 H4 l4 => ?_) q2)
      have l14 := Le.trans w1 l13 l4
      have gP3 : G3 P = none := by rw [l3.fro P _ hP]; exact gP
      have hP3 : H2 P = some (.lst acc) := l3.keep P _ hP nsP
      have gP4 : G4 P = none := by rw [l4.fro P _ hP3]; exact gP3
      have hP4 : H4 P = some (.lst acc) := l4.keep P _ hP3 nsP
      have ra4 : RpA K G4 acc ys := RpA.sub (SubG.trans (l3.subG l'.wd) (l4.subG l3.wd)) ra
      split at q4
      · rename_i hb
        dsimp only
        rw [if_pos hb]
        refine he.rd sr G0 H0 G4 H4 ρ2 σ2 _ (e2.le' l4) (he.mono _ _ _ (fun d q5 v G5 H5 l5 r5 => ?_) q4)
        have hP5 : H5 P = some (.lst acc) := l5.keep P _ hP4 nsP
        have gP5 : G5 P = none := by rw [l5.fro P _ hP4]; exact gP4
        have ra5 : RpA K G5 acc ys := RpA.sub (l5.subG l4.wd) ra4
        refine ⟨acc, hP5, by rw [slEq, ra.length]; omega, G5, acc ++ [v], ys ++ [d], Le.wr (Le.trans w1 l14 l5) nP w1 gP5, gP5, upd_same, ra5.append (.cons r5 .nil), by rw [List.length_append, List.length_singleton]; omega, q5⟩
      · rename_i hb
        dsimp only
        rw [if_neg hb]
        exact ⟨G4, acc, ys, l14, gP4, hP4, ra4, by omega, q4⟩
  · refine .inl ⟨j1 i (by omega), ?_⟩
    rw [List.drop_eq_nil_of_le (by omega)] at q'
    exact q' P G' H' (Le.trans e.wd l1 l') (l1.free e.wd nP) (.ol gP hP ra)
end
end DL
/-! DL6: lists and dicts that are written; a def by its body. -/
namespace DL
open PySem PySem.Spec L2
open PyProof.Rows hiding St

section
variable {K : PySem.W.Frag} {sr : Sr} {G0 H0 G H G1 H1 : Hp} {ρ : En} {σ : St}
/-- what a slot owns is written -/
theorem ER.wr (e : ER K sr G0 H0 G H ρ σ) {i : Nat} {p : Addr} {o' : HO} {s s' : Slot} (hs : ρ[i]? = some s) (hp : σ[i]? = some (some (.ref p)))
    (hown : ∀ ow : Addr → Option Nat, SlotR K sr H0 G H ow i s σ[i]? → ow p = some i ∧ H0 p = none ∧ G p = none ∧ ¬ inSr sr p ∧ ∃ o, H p = some o)
    (hn : (∃ ys vs, s' = .ol ys ∧ o' = .lst vs ∧ RpA K G vs ys) ∨ (∃ t es, s' = .od t es ∧ DcR K G t o' es)) : ER K sr G0 H0 G (upd H p o') (ρ.set i s') σ := by
  obtain ⟨w0, le, len, ow, h⟩ := e
  obtain ⟨w1, n0, gp, ns, o, ho⟩ := hown ow (h i s hs)
  have hot : ∀ xs, o' ≠ .tup xs := fun xs z => by
    subst z
    rcases hn with ⟨ys, vs, _, z, _⟩ | ⟨t, es, _, r⟩
    · cases z
    · cases t <;> exact r.elim
  refine ⟨w0, Le.wr le n0 w0 gp hot, by rw [List.length_set]; exact len, ow, fun j z hz => ?_⟩
  by_cases q : i = j
  · subst q
    have hi : i < ρ.length := (List.getElem?_eq_some_iff.mp hs).1
    rw [List.getElem?_set_self hi] at hz
    cases hz
    rcases hn with ⟨ys, vs, rfl, rfl, r⟩ | ⟨t, es, rfl, r⟩
    · exact ⟨p, vs, hp, w1, n0, gp, ns, upd_same, r⟩
    · exact ⟨p, o', hp, w1, n0, gp, ns, upd_same, r⟩
  · rw [List.getElem?_set_ne q] at hz
    have q' := h j z hz
    cases z with
    | un => exact True.intro
    | d x => exact q'
    | b x => exact q'
    | ol xs =>
      obtain ⟨a, vs, e1, e2, e3, e4, e5, e6, r⟩ := q'
      have na : a ≠ p := fun z => by subst z; rw [w1] at e2; exact q (Option.some.inj e2)
      exact ⟨a, vs, e1, e2, e3, e4, e5, by rw [upd_ne na]; exact e6, r⟩
    | od t es =>
      obtain ⟨a, u, e1, e2, e3, e4, e5, e6, r⟩ := q'
      have na : a ≠ p := fun z => by subst z; rw [w1] at e2; exact q (Option.some.inj e2)
      exact ⟨a, u, e1, e2, e3, e4, e5, by rw [upd_ne na]; exact e6, r⟩
    | oll xss =>
      obtain ⟨a, ps, e1, e2, e3, e4, e5, e6, nd, r⟩ := q'
      have na : a ≠ p := fun z => by subst z; rw [w1] at e2; exact q (Option.some.inj e2)
      refine ⟨a, ps, e1, e2, e3, e4, e5, by rw [upd_ne na]; exact e6, nd, pair_imp (fun b xs z => ?_) r⟩
      obtain ⟨b1, b2, b3, b4, b5, vs, b6, b7⟩ := z
      have nb : b ≠ p := fun z => by subst z; rw [w1] at b2; exact q (Option.some.inj b2)
      exact ⟨b1, b2, b3, b4, b5, vs, by rw [upd_ne nb]; exact b6, b7⟩
    | src => exact q'
theorem ER.wrL (e : ER K sr G0 H0 G H ρ σ) {i : Nat} {p : Addr} {xs : List D} (hs : ρ[i]? = some (.ol xs)) (hp : σ[i]? = some (some (.ref p))) {ys : List D} {vs : List V} (r : RpA K G vs ys) :
    ER K sr G0 H0 G (upd H p (.lst vs)) (ρ.set i (.ol ys)) σ := e.wr hs hp (fun ow h => by
  obtain ⟨p', vs', e1, e2, e3, e4, e5, e6, _⟩ := h
  rw [hp] at e1
  cases e1
  exact ⟨e2, e3, e4, e5, _, e6⟩) (.inl ⟨ys, vs, rfl, rfl, r⟩)
theorem ER.wrD (e : ER K sr G0 H0 G H ρ σ) {i : Nat} {p : Addr} {t t' : Bool} {xs : List (D × D)} (hs : ρ[i]? = some (.od t xs)) (hp : σ[i]? = some (some (.ref p))) {ys : List (D × D)} {o : HO} (r : DcR K G t' o ys) :
    ER K sr G0 H0 G (upd H p o) (ρ.set i (.od t' ys)) σ := e.wr hs hp (fun ow h => by
  obtain ⟨p', vs', e1, e2, e3, e4, e5, e6, _⟩ := h
  rw [hp] at e1
  cases e1
  exact ⟨e2, e3, e4, e5, _, e6⟩) (.inr ⟨t', ys, rfl, r⟩)
/-- what a slot that owns a list tells -/
theorem ER.atL (e : ER K sr G0 H0 G H ρ σ) {i : Nat} {xs : List D} (hs : ρ[i]? = some (.ol xs)) : ∃ p vs, σ[i]? = some (some (.ref p)) ∧ H p = some (.lst vs) ∧ RpA K G vs xs ∧ ¬ inSr sr p := by
  obtain ⟨ow, h⟩ := e.ow
  obtain ⟨p, vs, e1, e2, e3, e4, e5, e6, r⟩ := h i _ hs
  exact ⟨p, vs, e1, e6, r, e5⟩
theorem ER.atD (e : ER K sr G0 H0 G H ρ σ) {i : Nat} {t : Bool} {xs : List (D × D)} (hs : ρ[i]? = some (.od t xs)) : ∃ p o, σ[i]? = some (some (.ref p)) ∧ H p = some o ∧ DcR K G t o xs ∧ ¬ inSr sr p := by
  obtain ⟨ow, h⟩ := e.ow
  obtain ⟨p, vs, e1, e2, e3, e4, e5, e6, r⟩ := h i _ hs
  exact ⟨p, vs, e1, e6, r, e5⟩
end

/-! x.append(e), x.extend(e), x.pop(), x[k] = e -/
def sAppend (i : Nat) (t : DT) : ST := fun E ρ => match ρ[i]? with
  | some (.ol xs) => t ρ fun d => xs.length < 16777216 ∧ E.nx (ρ.set i (.ol (xs ++ [d])))
  | _ => False
def sExtend (i : Nat) (t : DT) : ST := fun E ρ => match ρ[i]? with
  | some (.ol xs) => t ρ fun d => match d with
    | .list ys => xs.length + ys.length ≤ 16777216 ∧ E.nx (ρ.set i (.ol (xs ++ ys)))
    | _ => False
  | _ => False
def sPop (i : Nat) : ST := fun E ρ => match ρ[i]? with
  | some (.ol xs) => xs ≠ [] ∧ E.nx (ρ.set i (.ol xs.dropLast))
  | _ => False
def sSetL (i : Nat) (t k : DT) : ST := fun E ρ => t ρ fun d => match ρ[i]? with
  | some (.ol xs) => k ρ fun z => match z with
    | .int z => (match ixN xs.length z with | some j => E.nx (ρ.set i (.ol (xs.set j d))) | none => False)
    | _ => False
  | _ => False
section
variable {K : PySem.W.Frag} {te tk : TE} {t k : DT}
theorem rs_append (i : Nat) (h : Rd K te t) : Rs K (tDrop (tBM K "list" rAppend (tVar i) (tCons te tNil))) (sAppend i t) := by
  refine ⟨fun E E' ρ m q => ?_, fun sr G0 H0 G H ρ σ Z E e q f => ?_⟩
  · unfold sAppend at q ⊢
    split at q
    · exact h.mono ρ _ _ (fun d q => ⟨q.1, m.nx _ q.2⟩) q
    · exact q.elim
  · unfold sAppend at q
    split at q
    · rename_i xs hs
      obtain ⟨p, vs, hp, hH, r, ns⟩ := e.atL hs
      refine ⟨.ref p, hp, .inl ⟨rfl, vs, .inl (.inl hH)⟩, ?_⟩
      refine h.rd sr G0 H0 G H ρ σ _ e (h.mono _ _ _ (fun d q v G1 H1 l1 r1 => ?_) q)
      have e1 := e.le' l1
      obtain ⟨p', vs', hp', hH', r', ns'⟩ := e1.atL hs
      rw [hp] at hp'
      cases hp'
      refine ⟨p, vs', v, rfl, rfl, hH', by rw [slEq, r'.length]; exact q.1, ?_⟩
      exact f.nx _ σ G1 _ (l1.subG e.wd) (e1.wrL hs hp (r'.append (.cons r1 .nil))) q.2
    · exact q.elim
theorem rs_extend (i : Nat) (h : RdR K te t) : Rs K (tDrop (tBM K "list" rExtend (tVar i) (tCons te tNil))) (sExtend i t) := by
  refine ⟨fun E E' ρ m q => ?_, fun sr G0 H0 G H ρ σ Z E e q f => ?_⟩
  · unfold sExtend at q ⊢
    split at q
    · refine h.mono ρ _ _ (fun d q => ?_) q
      split at q
      · exact ⟨q.1, m.nx _ q.2⟩
      · exact q.elim
    · exact q.elim
  · unfold sExtend at q
    split at q
    · rename_i xs hs
      obtain ⟨p, vs, hp, hH, r, ns⟩ := e.atL hs
      refine ⟨.ref p, hp, .inl ⟨rfl, vs, .inl (.inl hH)⟩, ?_⟩
      refine h.rd sr G0 H0 G H ρ σ _ e (h.mono _ _ _ (fun d q v G1 H1 l1 r1 => ?_) q)
      split at q
      · have e1 := e.le' l1
        obtain ⟨p', vs', hp', hH', r', ns'⟩ := e1.atL hs
        rw [hp] at hp'
        cases hp'
        obtain ⟨b, zs, eb, hb, rb⟩ := r1.lst l1.wd
        refine ⟨p, b, vs', zs, rfl, by rw [eb], hH', hb, by rw [slEq, r'.length, rb.length]; exact q.1, ?_⟩
        exact f.nx _ σ G1 _ (l1.subG e.wd) (e1.wrL hs hp (r'.append rb)) q.2
      · exact q.elim
    · exact q.elim
theorem RpA.last {G : Hp} {vs : List V} {xs : List D} (r : RpA K G vs xs) (h : xs ≠ []) : ∃ y, vs[vs.length - 1]? = some y ∧ Rp K G y (xs.getLast h) := by
  have hl := r.length
  have hx : 0 < xs.length := List.length_pos_iff.mpr h
  have e : xs[xs.length - 1]? = some (xs.getLast h) := by rw [List.getLast_eq_getElem h]; exact List.getElem?_eq_getElem (by omega)
  rw [hl]
  exact r.get e
theorem RpA.dropLast {G : Hp} {vs : List V} {xs : List D} (r : RpA K G vs xs) : RpA K G vs.dropLast xs.dropLast := by
  rw [List.dropLast_eq_take, List.dropLast_eq_take, r.length]
  exact r.take _
theorem rs_pop (i : Nat) : Rs K (tDrop (tBM0 K "list" rPop (tVar i))) (sPop i) := by
  refine ⟨fun E E' ρ m q => ?_, fun sr G0 H0 G H ρ σ Z E e q f => ?_⟩
  · unfold sPop at q ⊢
    split at q
    · exact ⟨q.1, m.nx _ q.2⟩
    · exact q.elim
  · unfold sPop at q
    split at q
    · rename_i xs hs
      obtain ⟨p, vs, hp, hH, r, ns⟩ := e.atL hs
      obtain ⟨y, hy, ry⟩ := r.last q.1
      refine ⟨.ref p, hp, .inl ⟨rfl, vs, .inl (.inl hH)⟩, p, vs, y, rfl, rfl, hH, hy, ?_⟩
      exact f.nx _ σ G _ (SubG.refl _) (e.wrL hs hp r.dropLast) q.2
    · exact q.elim
/-- for .. in x.pop() -/
def ieP (i : Nat) : IE := fun ρ Q => match ρ[i]? with
  | some (.ol xs) => (match xs.getLast? with
    | some (.list ds) => Q ds (ρ.set i (.ol xs.dropLast))
    | some (.tuple ds) => Q ds (ρ.set i (.ol xs.dropLast))
    | _ => False)
  | _ => False
theorem ri_pop (i : Nat) : RiE K (iSeqU K (tBM0 K "list" rPop (tVar i))) (ieP i) := by
  refine ⟨fun ρ Q Q' m q => ?_, fun sr G0 H0 G H ρ σ R e q => ?_⟩
  · unfold ieP at q ⊢
    split at q
    · split at q
      · exact m _ _ q
      · exact m _ _ q
      · exact q.elim
    · exact q.elim
  · unfold ieP at q
    split at q
    · rename_i xs hs
      obtain ⟨p, vs, hp, hH, r, ns⟩ := e.atL hs
      have pop : ∀ ds, xs.getLast? = some ds → ∃ h, xs.getLast h = ds := fun ds h => by
        have hx : xs ≠ [] := fun z => by subst z; cases h
        exact ⟨hx, by rw [List.getLast?_eq_some_getLast hx] at h; exact Option.some.inj h⟩
      split at q
      · rename_i ds hd
        obtain ⟨hx, ed⟩ := pop _ hd
        obtain ⟨y, hy, ry⟩ := r.last hx
        rw [ed] at ry
        have e1 := e.wrL hs hp r.dropLast
        refine ⟨.ref p, hp, .inl ⟨rfl, vs, .inl (.inl hH)⟩, p, vs, y, rfl, rfl, hH, hy, ?_⟩
        cases ry with
        | lst h2 ra => exact .inl ⟨_, rfl, ⟨_, .inl (.inl (e1.wd.sub _ _ h2))⟩, q _ G _ (SubG.refl _) e1 (ir_list h2 ra)⟩
      · rename_i ds hd
        obtain ⟨hx, ed⟩ := pop _ hd
        obtain ⟨y, hy, ry⟩ := r.last hx
        rw [ed] at ry
        have e1 := e.wrL hs hp r.dropLast
        refine ⟨.ref p, hp, .inl ⟨rfl, vs, .inl (.inl hH)⟩, p, vs, y, rfl, rfl, hH, hy, ?_⟩
        cases ry with
        | tup h2 ra => exact .inr ⟨_, rfl, ⟨_, .inl (.inl (e1.wd.sub _ _ h2))⟩, q _ G _ (SubG.refl _) e1 (ir_tup h2 ra)⟩
      · exact q.elim
    · exact q.elim
theorem rs_setL (i : Nat) (h : Rd K te t) (hk : RdR K tk k) : Rs K (tAsg te (gSub (tVar i) tk rSetL)) (sSetL i t k) := by
  refine ⟨fun E E' ρ m q => h.mono ρ _ _ (fun d q => ?_) q, fun sr G0 H0 G H ρ σ Z E e q f => ?_⟩
  · split at q
    · refine hk.mono ρ _ _ (fun z q => ?_) q
      split at q
      · split at q
        · exact m.nx _ q
        · exact q.elim
      · exact q.elim
    · exact q.elim
  · refine h.rd sr G0 H0 G H ρ σ _ e (h.mono _ _ _ (fun d q v G1 H1 l1 r1 => ?_) q)
    have e1 := e.le' l1
    split at q
    · rename_i xs hs
      obtain ⟨p, vs, hp, hH, r, ns⟩ := e1.atL hs
      refine ⟨.ref p, hp, ?_⟩
      refine hk.rd sr G0 H0 G1 H1 ρ σ _ e1 (hk.mono _ _ _ (fun z q u G2 H2 l2 r2 => ?_) q)
      have e2 := e1.le' l2
      obtain ⟨p', vs', hp', hH', r', ns'⟩ := e2.atL hs
      rw [hp] at hp'
      cases hp'
      split at q
      · rename_i z
        split at q
        · rename_i j hj
          refine ⟨p, vs', z, j, rfl, r2.int, hH', by rw [r'.length]; exact hj, ?_⟩
          exact f.nx _ σ G2 _ ((l1.subG e.wd).trans (l2.subG l1.wd)) (e2.wrL hs hp (r'.set (Rp.sub (l2.gsub l1.wd) r1) j)) q
        · exact q.elim
      · exact q.elim
    · exact q.elim
end

/-! ### dicts: keys ints and texts, or tuples of them -/
def toK : D → Option Key
  | .int i => some (.inl i)
  | .str x => some (.inr x)
  | _ => none
def toKs : List D → Option (List Key)
  | [] => some []
  | d :: ds => match toK d, toKs ds with
    | some k, some ks => some (k :: ks)
    | _, _ => none
def toKT : D → Option (List Key)
  | .tuple ds => toKs ds
  | _ => none
theorem toK_kD (k : Key) : toK (kD k) = some k := by cases k <;> rfl
theorem toK_of : ∀ {d : D} {k : Key}, toK d = some k → d = kD k
  | .int i, k, h => by cases h; rfl
  | .str x, k, h => by cases h; rfl
theorem toKs_of : ∀ {ds : List D} {ks : List Key}, toKs ds = some ks → ds = ks.map kD
  | [], ks, h => by cases h; rfl
  | d :: ds, ks, h => by
    unfold toKs at h
    split at h
    · rename_i k ks' h1 h2
      cases h
      rw [toK_of h1, toKs_of h2]; rfl
    · cases h
theorem toKT_of {d : D} {ks : List Key} (h : toKT d = some ks) : d = .tuple (ks.map kD) := by
  cases d with
  | tuple ds => rw [toKs_of (show toKs ds = some ks from h)]
  | _ => cases h
theorem kD_inj {a b : Key} (h : kD a = kD b) : a = b := by
  have := congrArg toK h
  rw [toK_kD, toK_kD] at this
  exact Option.some.inj this
/-- the entry of a key -/
def getD' (es : List (D × D)) (k : D) : Option D := (es.find? fun p => PyData.eqv p.1 k).map (·.2)
def putD' (es : List (D × D)) (k v : D) : List (D × D) := if es.any (fun p => PyData.eqv p.1 k) = true then es.map (fun p => if PyData.eqv p.1 k = true then (p.1, v) else p) else es ++ [(k, v)]
theorem eqv_kD (a b : Key) : PyData.eqv (kD a) (kD b) = decide (a = b) := by
  cases a with
  | inl i =>
    cases b with
    | inl j =>
      show PyData.eqv (.int i) (.int j) = _
      simp only [PyData.eqv]
      rw [key_ll]
    | inr y => show PyData.eqv (.int i) (.str y) = _; simp only [PyData.eqv]; rw [key_lr]
  | inr x =>
    cases b with
    | inl j => show PyData.eqv (.str x) (.int j) = _; simp only [PyData.eqv]; rw [key_rl]
    | inr y =>
      show PyData.eqv (.str x) (.str y) = _
      simp only [PyData.eqv]
      rw [key_rr]
      by_cases e : x = y
      · subst e; simp
      · rw [decide_eq_false e]; exact beq_eq_false_iff_ne.mpr e
theorem eqvAll_kD : ∀ as bs : List Key, PyData.eqvAll (as.map kD) (bs.map kD) = decide (as = bs)
  | [], [] => by simp [PyData.eqvAll]
  | [], b :: bs => by simp [PyData.eqvAll]
  | a :: as, [] => by simp [PyData.eqvAll]
  | a :: as, b :: bs => by
    rw [List.map_cons, List.map_cons, PyData.eqvAll, eqv_kD, eqvAll_kD as bs]
    by_cases h : a = b
    · by_cases h2 : as = bs
      · subst h h2; simp
      · simp [h, h2]
    · simp [h]
theorem eqv_kT (as bs : List Key) : PyData.eqv (.tuple (as.map kD)) (.tuple (bs.map kD)) = decide (as = bs) := by
  simp only [PyData.eqv]; exact eqvAll_kD as bs
section
variable {K : PySem.W.Frag} {G : Hp}
/-- the same find, the same put -/
theorem RpK.get (k : Key) : ∀ {kvs : List (Key × V)} {es : List (D × D)}, RpK K G kvs es → (∃ v d, valV kvs k = some v ∧ getD' es (kD k) = some d ∧ Rp K G v d) ∨ (valV kvs k = none ∧ getD' es (kD k) = none)
  | _, _, .nil => .inr ⟨rfl, rfl⟩
  | _, _, .cons (k := k') (v := v) (vs := vs) (d := d) (ds := ds) r t => by
    by_cases h : k' = k
    · subst h
      refine .inl ⟨v, d, valV_pos (p := (k', v)) rfl, ?_, r⟩
      unfold getD'
      rw [List.find?_cons, show PyData.eqv (kD k') (kD k') = true by rw [eqv_kD]; exact decide_eq_true rfl]
      rfl
    · rw [valV_neg (p := (k', v)) (r := vs) h]
      have e : getD' ((kD k', d) :: ds) (kD k) = getD' ds (kD k) := by
        unfold getD'
        rw [List.find?_cons, show PyData.eqv (kD k') (kD k) = false by rw [eqv_kD]; exact decide_eq_false h]
      rw [e]
      exact RpK.get k t
theorem RpT.get (k : List Key) : ∀ {kvs : List (List Key × V)} {es : List (D × D)}, RpT K G kvs es → (∃ v d, valV kvs k = some v ∧ getD' es (.tuple (k.map kD)) = some d ∧ Rp K G v d) ∨ (valV kvs k = none ∧ getD' es (.tuple (k.map kD)) = none)
  | _, _, .nil => .inr ⟨rfl, rfl⟩
  | _, _, .cons (k := k') (v := v) (vs := vs) (d := d) (ds := ds) r t => by
    by_cases h : k' = k
    · subst h
      refine .inl ⟨v, d, valV_pos (p := (k', v)) rfl, ?_, r⟩
      unfold getD'
      rw [List.find?_cons, show PyData.eqv (.tuple (k'.map kD)) (.tuple (k'.map kD)) = true by rw [eqv_kT]; exact decide_eq_true rfl]
      rfl
    · rw [valV_neg (p := (k', v)) (r := vs) h]
      have e : getD' ((.tuple (k'.map kD), d) :: ds) (.tuple (k.map kD)) = getD' ds (.tuple (k.map kD)) := by
        unfold getD'
        rw [List.find?_cons, show PyData.eqv (.tuple (k'.map kD)) (.tuple (k.map kD)) = false by rw [eqv_kT]; exact decide_eq_false h]
      rw [e]
      exact RpT.get k t
theorem RpK.any (k : Key) : ∀ {kvs : List (Key × V)} {es : List (D × D)}, RpK K G kvs es → (kvs.any fun p => decide (p.1 = k)) = es.any fun p => PyData.eqv p.1 (kD k)
  | _, _, .nil => rfl
  | _, _, .cons r t => by rw [List.any_cons, List.any_cons, RpK.any k t, eqv_kD]
theorem RpT.any (k : List Key) : ∀ {kvs : List (List Key × V)} {es : List (D × D)}, RpT K G kvs es → (kvs.any fun p => decide (p.1 = k)) = es.any fun p => PyData.eqv p.1 (.tuple (k.map kD))
  | _, _, .nil => rfl
  | _, _, .cons r t => by rw [List.any_cons, List.any_cons, RpT.any k t, eqv_kT]
theorem RpK.map (k : Key) {v : V} {d : D} (q : Rp K G v d) : ∀ {kvs : List (Key × V)} {es : List (D × D)}, RpK K G kvs es → RpK K G (kvs.map fun p => if p.1 = k then (p.1, v) else p) (es.map fun p => if PyData.eqv p.1 (kD k) = true then (p.1, d) else p)
  | _, _, .nil => .nil
  | _, _, .cons (k := k') r t => by
    rw [List.map_cons, List.map_cons, eqv_kD]
    by_cases h : k' = k
    · rw [if_pos h, if_pos (decide_eq_true h)]; exact .cons q (RpK.map k q t)
    · rw [if_neg h, if_neg (by rw [decide_eq_false h]; decide)]; exact .cons r (RpK.map k q t)
theorem RpT.map (k : List Key) {v : V} {d : D} (q : Rp K G v d) : ∀ {kvs : List (List Key × V)} {es : List (D × D)}, RpT K G kvs es → RpT K G (kvs.map fun p => if p.1 = k then (p.1, v) else p) (es.map fun p => if PyData.eqv p.1 (.tuple (k.map kD)) = true then (p.1, d) else p)
  | _, _, .nil => .nil
  | _, _, .cons (k := k') r t => by
    rw [List.map_cons, List.map_cons, eqv_kT]
    by_cases h : k' = k
    · rw [if_pos h, if_pos (decide_eq_true h)]; exact .cons q (RpT.map k q t)
    · rw [if_neg h, if_neg (by rw [decide_eq_false h]; decide)]; exact .cons r (RpT.map k q t)
theorem RpK.snoc (k : Key) {v : V} {d : D} (q : Rp K G v d) : ∀ {kvs : List (Key × V)} {es : List (D × D)}, RpK K G kvs es → RpK K G (kvs ++ [(k, v)]) (es ++ [(kD k, d)])
  | _, _, .nil => .cons q .nil
  | _, _, .cons r t => .cons r (RpK.snoc k q t)
theorem RpT.snoc (k : List Key) {v : V} {d : D} (q : Rp K G v d) : ∀ {kvs : List (List Key × V)} {es : List (D × D)}, RpT K G kvs es → RpT K G (kvs ++ [(k, v)]) (es ++ [(.tuple (k.map kD), d)])
  | _, _, .nil => .cons q .nil
  | _, _, .cons r t => .cons r (RpT.snoc k q t)
theorem RpK.put (k : Key) {v : V} {d : D} (q : Rp K G v d) {kvs : List (Key × V)} {es : List (D × D)} (r : RpK K G kvs es) : RpK K G (putK kvs k v) (putD' es (kD k) d) := by
  unfold putK putD'
  rw [r.any k]
  split
  · exact r.map k q
  · exact r.snoc k q
theorem RpT.put (k : List Key) {v : V} {d : D} (q : Rp K G v d) {kvs : List (List Key × V)} {es : List (D × D)} (r : RpT K G kvs es) : RpT K G (putK kvs k v) (putD' es (.tuple (k.map kD)) d) := by
  unfold putK putD'
  rw [r.any k]
  split
  · exact r.map k q
  · exact r.snoc k q
theorem RpK.length : ∀ {kvs : List (Key × V)} {es : List (D × D)}, RpK K G kvs es → kvs.length = es.length
  | _, _, .nil => rfl
  | _, _, .cons _ r => by rw [List.length_cons, List.length_cons, RpK.length r]
theorem RpT.length : ∀ {kvs : List (List Key × V)} {es : List (D × D)}, RpT K G kvs es → kvs.length = es.length
  | _, _, .nil => rfl
  | _, _, .cons _ r => by rw [List.length_cons, List.length_cons, RpT.length r]
/-- a tuple key stands in the heap: by its address -/
theorem tup_key {v : V} {ks : List Key} (r : Rp K G v (.tuple (ks.map kD))) : ∃ b, v = .ref b ∧ G b = some (.tup (ks.map kV)) := by
  cases r with
  | tup h ra =>
    rename_i a xs
    refine ⟨a, rfl, ?_⟩
    have ex : xs = ks.map kV := by
      clear h
      induction ks generalizing xs with
      | nil => cases ra; rfl
      | cons k ks ih =>
        cases ra with
        | cons r1 r2 =>
          rw [List.map_cons, ← ih r2]
          cases k with
          | inl i => cases r1; rfl
          | inr x => cases r1; rfl
    rw [← ex]
    exact h
theorem kD_key {v : V} {k : Key} (r : Rp K G v (kD k)) : v = kV k := by
  cases k with
  | inl i => cases r; rfl
  | inr x => cases r; rfl
end
end DL
/-! DL7: dicts at names, sorted of their keys; a def by its body. -/
namespace DL
open PySem PySem.Spec L2
open PyProof.Rows hiding St

def keyOk (t : Bool) (d : D) : Bool := match t with
  | false => (toK d).isSome
  | true => (toKT d).isSome
def sNewD (t : Bool) (i : Nat) : ST := fun E ρ => E.nx (ρ.set i (.od t []))
def sPut (i : Nat) (v k : DT) : ST := fun E ρ => v ρ fun d => match ρ[i]? with
  | some (.od t es) => k ρ fun kd => (keyOk t kd = true ∧ es.length < 16777216) ∧ E.nx (ρ.set i (.od t (putD' es kd d)))
  | _ => False
def dGet2 (i : Nat) (k z : DT) : DT := fun ρ Q => match ρ[i]? with
  | some (.od t es) => k ρ fun kd => z ρ fun zd => keyOk t kd = true ∧ Q ((getD' es kd).getD zd)
  | _ => False
def dGet1 (i : Nat) (k : DT) : DT := fun ρ Q => match ρ[i]? with
  | some (.od t es) => k ρ fun kd => keyOk t kd = true ∧ Q ((getD' es kd).getD .none)
  | _ => False
def dGet (i : Nat) (k : DT) : DT := fun ρ Q => match ρ[i]? with
  | some (.od t es) => k ρ fun kd => keyOk t kd = true ∧ (match getD' es kd with | some v => Q v | none => False)
  | _ => False
def dInD (k : DT) (i : Nat) : DT := fun ρ Q => match ρ[i]? with
  | some (.od t es) => k ρ fun kd => keyOk t kd = true ∧ Q (.bool (getD' es kd).isSome)
  | _ => False
def dNotInD (k : DT) (i : Nat) : DT := fun ρ Q => match ρ[i]? with
  | some (.od t es) => k ρ fun kd => keyOk t kd = true ∧ Q (.bool (!(getD' es kd).isSome))
  | _ => False
section
variable {K : PySem.W.Frag} {sr : Sr} {G0 H0 G H : Hp} {ρ : En} {σ : St} {tk tv tz : TE} {k v z : DT}
theorem rs_newDK (i : Nat) : Rs K (tAsg tDNewK (gName i)) (sNewD false i) :=
  ⟨fun E E' ρ m q => m.nx _ q, fun sr G0 H0 G H ρ σ Z E e q f p n =>
    f.nx _ _ G _ (SubG.refl _) (e.setO (Le.newO (o := .dK []) e.wd n) n (.inr (.inr ⟨false, [], _, rfl, e.wd.gn n, upd_same, .nil⟩))) q⟩
theorem rs_newDT (i : Nat) : Rs K (tAsg tDNewT (gName i)) (sNewD true i) :=
  ⟨fun E E' ρ m q => m.nx _ q, fun sr G0 H0 G H ρ σ Z E e q f p n =>
    f.nx _ _ G _ (SubG.refl _) (e.setO (Le.newO (o := .dT []) e.wd n) n (.inr (.inr ⟨true, [], _, rfl, e.wd.gn n, upd_same, .nil⟩))) q⟩
/-- what a dict answers -/
theorem dcr_get {t : Bool} {o : HO} {es : List (D × D)} {p : Addr} {kd : D} {y : V} (r : DcR K G t o es) (hp : H p = some o) (w : Wd sr G H) (ok : keyOk t kd = true) (ry : Rp K G y kd) :
    (∃ v d, DGet H p y (some v) ∧ getD' es kd = some d ∧ Rp K G v d) ∨ (DGet H p y none ∧ getD' es kd = none) := by
  cases t with
  | false =>
    cases o with
    | dK kvs =>
      obtain ⟨k, hk⟩ := Option.isSome_iff_exists.mp (show (toK kd).isSome = true from ok)
      have e := toK_of hk
      subst e
      have ey := kD_key ry
      subst ey
      rcases RpK.get k (show RpK K G kvs es from r) with ⟨v, d, h1, h2, h3⟩ | ⟨h1, h2⟩
      · exact .inl ⟨v, d, by rw [← h1]; exact DGet.k hp, h2, h3⟩
      · exact .inr ⟨by rw [← h1]; exact DGet.k hp, h2⟩
    | _ => exact r.elim
  | true =>
    cases o with
    | dT kvs =>
      obtain ⟨k, hk⟩ := Option.isSome_iff_exists.mp (show (toKT kd).isSome = true from ok)
      have e := toKT_of hk
      subst e
      obtain ⟨b, ey, hb⟩ := tup_key ry
      subst ey
      rcases RpT.get k (show RpT K G kvs es from r) with ⟨v, d, h1, h2, h3⟩ | ⟨h1, h2⟩
      · exact .inl ⟨v, d, by rw [← h1]; exact DGet.t hp (w.sub _ _ hb), h2, h3⟩
      · exact .inr ⟨by rw [← h1]; exact DGet.t hp (w.sub _ _ hb), h2⟩
    | _ => exact r.elim
theorem isD_of {t : Bool} {o : HO} {es : List (D × D)} {p : Addr} (r : DcR K G t o es) (hp : H p = some o) : IsD H p := by
  cases t with
  | false =>
    cases o with
    | dK kvs => exact .inl ⟨kvs, .inl hp⟩
    | _ => exact r.elim
  | true =>
    cases o with
    | dT kvs => exact .inr ⟨kvs, .inl hp⟩
    | _ => exact r.elim
theorem rd_get2 (i : Nat) (hk : Rd K tk k) (hz : Rd K tz z) : Rd K (tDGet2 (tVar i) tk tz) (dGet2 i k z) := by
  refine ⟨fun ρ Q Q' m q => ?_, fun sr G0 H0 G H ρ σ Q e q => ?_⟩
  · unfold dGet2 at q ⊢
    split at q
    · exact hk.mono ρ _ _ (fun kd q => hz.mono ρ _ _ (fun zd q => ⟨q.1, m _ q.2⟩) q) q
    · exact q.elim
  · unfold dGet2 at q
    split at q
    · rename_i t es hs
      obtain ⟨p, o, hp, hH, r, ns⟩ := e.atD hs
      refine ⟨.ref p, hp, p, rfl, isD_of r hH, ?_⟩
      refine hk.rd sr G0 H0 G H ρ σ _ e (hk.mono _ _ _ (fun kd q y G1 H1 l1 r1 => ?_) q)
      have e1 := e.le' l1
      refine hz.rd sr G0 H0 G1 H1 ρ σ _ e1 (hz.mono _ _ _ (fun zd q x G2 H2 l2 r2 => ?_) q)
      have e2 := e1.le' l2
      obtain ⟨p', o', hp', hH', r', ns'⟩ := e2.atD hs
      rw [hp] at hp'
      cases hp'
      have l12 := Le.trans e.wd l1 l2
      rcases dcr_get r' hH' e2.wd q.1 (Rp.sub (l2.gsub l1.wd) r1) with ⟨v, d, h1, h2, h3⟩ | ⟨h1, h2⟩
      · refine ⟨some v, h1, ?_⟩
        have q2 := q.2
        rw [h2] at q2
        exact q2 v G2 H2 l12 h3
      · refine ⟨none, h1, ?_⟩
        have q2 := q.2
        rw [h2] at q2
        exact q2 x G2 H2 l12 r2
    · exact q.elim
theorem rd_get1 (i : Nat) (hk : Rd K tk k) : Rd K (tDGet1 (tVar i) tk) (dGet1 i k) := by
  refine ⟨fun ρ Q Q' m q => ?_, fun sr G0 H0 G H ρ σ Q e q => ?_⟩
  · unfold dGet1 at q ⊢
    split at q
    · exact hk.mono ρ _ _ (fun kd q => ⟨q.1, m _ q.2⟩) q
    · exact q.elim
  · unfold dGet1 at q
    split at q
    · rename_i t es hs
      obtain ⟨p, o, hp, hH, r, ns⟩ := e.atD hs
      refine ⟨.ref p, hp, p, rfl, isD_of r hH, ?_⟩
      refine hk.rd sr G0 H0 G H ρ σ _ e (hk.mono _ _ _ (fun kd q y G1 H1 l1 r1 => ?_) q)
      have e1 := e.le' l1
      obtain ⟨p', o', hp', hH', r', ns'⟩ := e1.atD hs
      rw [hp] at hp'
      cases hp'
      rcases dcr_get r' hH' e1.wd q.1 r1 with ⟨v, d, h1, h2, h3⟩ | ⟨h1, h2⟩
      · refine ⟨some v, h1, ?_⟩
        have q2 := q.2
        rw [h2] at q2
        exact q2 v G1 H1 l1 h3
      · refine ⟨none, h1, ?_⟩
        have q2 := q.2
        rw [h2] at q2
        exact q2 .non G1 H1 l1 .non
    · exact q.elim
theorem rd_get (i : Nat) (hk : Rd K tk k) : Rd K (tDGet (tVar i) tk) (dGet i k) := by
  refine ⟨fun ρ Q Q' m q => ?_, fun sr G0 H0 G H ρ σ Q e q => ?_⟩
  · unfold dGet at q ⊢
    split at q
    · refine hk.mono ρ _ _ (fun kd q => ⟨q.1, ?_⟩) q
      have q2 := q.2
      split at q2
      · exact m _ q2
      · exact q2.elim
    · exact q.elim
  · unfold dGet at q
    split at q
    · rename_i t es hs
      obtain ⟨p, o, hp, hH, r, ns⟩ := e.atD hs
      refine ⟨.ref p, hp, ?_⟩
      refine hk.rd sr G0 H0 G H ρ σ _ e (hk.mono _ _ _ (fun kd q y G1 H1 l1 r1 => ?_) q)
      have e1 := e.le' l1
      obtain ⟨p', o', hp', hH', r', ns'⟩ := e1.atD hs
      rw [hp] at hp'
      cases hp'
      have q2 := q.2
      rcases dcr_get r' hH' e1.wd q.1 r1 with ⟨v, d, h1, h2, h3⟩ | ⟨h1, h2⟩
      · rw [h2] at q2
        exact ⟨p, v, rfl, h1, q2 v G1 H1 l1 h3⟩
      · rw [h2] at q2
        exact q2.elim
    · exact q.elim
theorem rd_inD (i : Nat) (hk : Rd K tk k) : Rd K (tDIn tk (tVar i)) (dInD k i) := by
  refine ⟨fun ρ Q Q' m q => ?_, fun sr G0 H0 G H ρ σ Q e q => ?_⟩
  · unfold dInD at q ⊢
    split at q
    · exact hk.mono ρ _ _ (fun kd q => ⟨q.1, m _ q.2⟩) q
    · exact q.elim
  · unfold dInD at q
    split at q
    · rename_i t es hs
      refine hk.rd sr G0 H0 G H ρ σ _ e (hk.mono _ _ _ (fun kd q y G1 H1 l1 r1 => ?_) q)
      have e1 := e.le' l1
      obtain ⟨p, o, hp, hH, r, ns⟩ := e1.atD hs
      refine ⟨.ref p, hp, ?_⟩
      have q2 := q.2
      rcases dcr_get r hH e1.wd q.1 r1 with ⟨v, d, h1, h2, h3⟩ | ⟨h1, h2⟩
      · rw [h2] at q2
        exact ⟨p, some v, rfl, h1, q2 _ G1 H1 l1 (.bl _)⟩
      · rw [h2] at q2
        exact ⟨p, none, rfl, h1, q2 _ G1 H1 l1 (.bl _)⟩
    · exact q.elim
theorem rd_notInD (i : Nat) (hk : Rd K tk k) : Rd K (tDNotIn tk (tVar i)) (dNotInD k i) := by
  refine ⟨fun ρ Q Q' m q => ?_, fun sr G0 H0 G H ρ σ Q e q => ?_⟩
  · unfold dNotInD at q ⊢
    split at q
    · exact hk.mono ρ _ _ (fun kd q => ⟨q.1, m _ q.2⟩) q
    · exact q.elim
  · unfold dNotInD at q
    split at q
    · rename_i t es hs
      refine hk.rd sr G0 H0 G H ρ σ _ e (hk.mono _ _ _ (fun kd q y G1 H1 l1 r1 => ?_) q)
      have e1 := e.le' l1
      obtain ⟨p, o, hp, hH, r, ns⟩ := e1.atD hs
      refine ⟨.ref p, hp, ?_⟩
      have q2 := q.2
      rcases dcr_get r hH e1.wd q.1 r1 with ⟨v, d, h1, h2, h3⟩ | ⟨h1, h2⟩
      · rw [h2] at q2
        exact ⟨p, some v, rfl, h1, q2 _ G1 H1 l1 (.bl _)⟩
      · rw [h2] at q2
        exact ⟨p, none, rfl, h1, q2 _ G1 H1 l1 (.bl _)⟩
    · exact q.elim
theorem rs_put (i : Nat) (hv : Rd K tv v) (hk : Rd K tk k) : Rs K (sDPut (tVar i) tk tv) (sPut i v k) := by
  refine ⟨fun E E' ρ m q => hv.mono ρ _ _ (fun d q => ?_) q, fun sr G0 H0 G H ρ σ Z E e q f => ?_⟩
  · split at q
    · exact hk.mono ρ _ _ (fun kd q => ⟨q.1, m.nx _ q.2⟩) q
    · exact q.elim
  · refine hv.rd sr G0 H0 G H ρ σ _ e (hv.mono _ _ _ (fun d q x G1 H1 l1 r1 => ?_) q)
    have e1 := e.le' l1
    split at q
    · rename_i t es hs
      obtain ⟨p, o, hp, hH, r, ns⟩ := e1.atD hs
      refine ⟨.ref p, hp, ?_⟩
      refine hk.rd sr G0 H0 G1 H1 ρ σ _ e1 (hk.mono _ _ _ (fun kd q y G2 H2 l2 r2 => ?_) q)
      have e2 := e1.le' l2
      obtain ⟨p', o', hp', hH', r', ns'⟩ := e2.atD hs
      rw [hp] at hp'
      cases hp'
      obtain ⟨⟨ok, hz⟩, q⟩ := q
      have r1' := Rp.sub (l2.gsub l1.wd) r1
      have s2 := (l1.subG e.wd).trans (l2.subG l1.wd)
      cases t with
      | false =>
        cases o' with
        | dK kvs =>
          obtain ⟨kk, hk'⟩ := Option.isSome_iff_exists.mp (show (toK kd).isSome = true from ok)
          have ee := toK_of hk'
          subst ee
          have ey := kD_key r2
          subst ey
          have rr : RpK K G2 kvs es := r'
          exact ⟨p, _, rfl, DPut.k hH' (by rw [slEq, rr.length]; exact hz), f.nx _ σ G2 _ s2 (e2.wrD (t' := false) hs hp (show DcR K G2 false (.dK (putK kvs kk x)) _ from rr.put kk r1')) q⟩
        | _ => exact r'.elim
      | true =>
        cases o' with
        | dT kvs =>
          obtain ⟨kk, hk'⟩ := Option.isSome_iff_exists.mp (show (toKT kd).isSome = true from ok)
          have ee := toKT_of hk'
          subst ee
          obtain ⟨b, ey, hb⟩ := tup_key r2
          subst ey
          have rr : RpT K G2 kvs es := r'
          exact ⟨p, _, rfl, DPut.t hH' (e2.wd.sub _ _ hb) (by rw [slEq, rr.length]; exact hz), f.nx _ σ G2 _ s2 (e2.wrD (t' := true) hs hp (show DcR K G2 true (.dT (putK kvs kk x)) _ from rr.put kk r1')) q⟩
        | _ => exact r'.elim
    · exact q.elim
end

/-! ### a def by its body -/
section
variable {P : Program} {w : World} {K : PySem.W.Frag} {mg : Str → Option Value} {base : Heap}
theorem ER.start {sr : Sr} {G H : Hp} {vs : List V} {xs : List Slot} (wd : Wd sr G H) (r : Paired (SR K sr G H) vs xs) (N : List Str) (hN : vs.length ≤ N.length) :
    ER K sr G H G H (xs ++ List.replicate (N.length - xs.length) .un) (L2.start N vs) := by
  have hl : vs.length = xs.length := Paired.length r
  refine ⟨wd, Le.refl wd, ?_, fun _ => none, fun i s hs => ?_⟩
  · unfold L2.start
    rw [List.length_append, List.length_append, List.length_map, List.length_replicate, List.length_replicate, hl]
  · by_cases hi : i < xs.length
    · rw [List.getElem?_append_left hi] at hs
      unfold L2.start
      rw [List.getElem?_append_left (by rw [List.length_map]; omega), List.getElem?_map]
      have key : ∀ {vs : List V} {xs : List Slot} {i : Nat} {s : Slot}, Paired (SR K sr G H) vs xs → xs[i]? = some s → ∃ v, vs[i]? = some v ∧ SR K sr G H v s := by
        intro vs xs i s r
        induction r generalizing i with
        | nil => intro h; simp at h
        | cons a b ih =>
          intro h
          cases i with
          | zero => cases h; exact ⟨_, rfl, a⟩
          | succ i => exact ih (by simpa using h)
      obtain ⟨v, hv, rv⟩ := key r hs
      rw [hv]
      cases s with
      | un => exact True.intro
      | d x => exact ⟨v, rfl, rv⟩
      | b x =>
        refine ⟨v, rfl, ?_⟩
        have rv' : Rr K sr G H v x := rv
        cases rv' with
        | fz h => exact .fz h
        | ol h1 h2 h3 => exact .ol h1 h2 h3
        | kc h => exact .kc h
      | ol ys => exact rv.elim
      | od t es => exact rv.elim
      | oll xss => exact rv.elim
      | src =>
        obtain ⟨p, c, e1, e2⟩ := rv
        exact ⟨p, c, e1, by rw [e2]; rfl⟩
    · rw [List.getElem?_append_right (by omega)] at hs
      rw [List.getElem?_replicate] at hs
      split at hs
      · cases hs; exact True.intro
      · cases hs
/-- how a body ends -/
def endE (Q : D → Prop) : PEn := { nx := fun _ => Q .none, rt := Q }
theorem okD {x qual : Str} {st : Stmt} {f : Addr} {fd : FuncData} {N ps : List Str} {k : Nat} {R : Pm} (F : Fun K x qual st f fd) (S : FnScope N ps (defScope st))
    (hbody : ∀ (cdv : Value) (A : Around) (outer : List Env) (s : Shared) (H : Hp) (E : XK), Room k (A.deeper (envOfC qual (defScope st) s.heap.objs.size f cdv)) →
      ∃ ts T, PSs (cxOf CX0 P w K mg base N qual (defScope st) f cdv A outer s H E).nox (defBody st) ts ∧ Rs K ts T ∧
        ∀ xs Q, xs.length = ps.length → R xs Q → T (endE Q) (xs ++ List.replicate (N.length - xs.length) .un)) :
    FnOk P w K mg base CX0 (k + 1) f fd ps (spD K ps.length R) := by
  refine F.ok S (fun vs H Q E h => h.1) (fun cdv A outer s H vs Q E hr h => ?_)
  obtain ⟨hl, sr, G, xs, wd, r, q⟩ := h
  obtain ⟨ts, T, h1, h2, h3⟩ := hbody cdv A outer s H E hr
  have hpl : ps.length ≤ N.length := by have := congrArg List.length S.pre; rw [List.length_take] at this; omega
  refine ⟨ts, h1, ?_⟩
  have e0 := ER.start wd r N (by omega)
  exact h2.rs sr G H G H _ _ _ _ e0 (h3 xs _ ((Paired.length r).symm.trans hl) q) ⟨fun ρ' σ' G' H' s e q => q .non G' H' e.le .non, fun v d G' H' l r q => q v G' H' l r, fun _ _ _ _ _ _ q => q, fun _ _ _ _ _ _ q => q⟩
end
end DL
/-! DL8: promises of defs where no repr is under way (Around.guards is told to be empty). -/
namespace DL
open PySem PySem.Spec L2
open PyProof.Rows hiding St

abbrev SpG := List V → Hp → VK → Prop
structure FnG (P : Program) (w : World) (K : PySem.W.Frag) (mg : Str → Option Value) (base : Heap) (k : Nat) (f : Addr) (fd : FuncData) (ps : List Str) (sp : SpG) : Prop where
  len : ∀ vs H Q, sp vs H Q → vs.length = ps.length
  run : ∀ (A : Around) (outer : List Env) (s : Shared) (H : Hp) (args : Args) (us : List Value) (vs : List V) (Q : VK), Room k A → A.guards = some [] → Env0 P w K mg base A outer s H →
    BindsTo s fd args (ps.zip us) → Vals vs us → sp vs H Q → codeAny (model P w) A (.call (.ref f) args) (CR CX0 outer P w H s Q E0) s
theorem FnG.up {P : Program} {w : World} {K : PySem.W.Frag} {mg : Str → Option Value} {base : Heap} {j k : Nat} {f : Addr} {fd : FuncData} {ps : List Str} {sp : SpG}
    (F : FnG P w K mg base j f fd ps sp) (h : j ≤ k) : FnG P w K mg base k f fd ps sp :=
  ⟨F.len, fun A o s H a us vs Q hr => F.run A o s H a us vs Q (hr.mono h)⟩
/-- a def called by its name -/
def tCallG (sp : SpG) (t : TA) : TE := fun σ H Q => t σ H fun vs H1 => sp vs H1 Q
section
variable {X : Cx} {k : Nat} {f : Addr} {fd : FuncData} {ps : List Str} {sp : SpG}
theorem runG {pins : List (Addr × Obj)} {σ : St} {H : Hp} {s : Shared} {Q : VK} {us : List Value} {vs : List V} (F : FnG X.prog X.w X.K X.mg X.base k f fd ps sp) (room : Room k X.A) (gd : X.A.guards = some [])
    (bd : Binds X.K fd ps []) (I : Inv X pins σ H s) (rv : Vals vs us) (q : sp vs H Q) : wpAny (model X.prog X.w) X.A (call (.ref f) us) (EP X pins σ Q) X.xe s := by
  have n : (us ++ []).length = ps.length := by rw [List.append_nil, ← rv.length]; exact F.len _ _ _ q
  have b := bd s us I.kIn n
  rw [List.append_nil] at b
  refine wpAny_call (codeAny_mono (F.run X.A X.stack s H ⟨us, []⟩ us vs Q room gd I.env0 b rv q) fun r s' z => ?_)
  match r, z with
  | .error e, z => exact (show False from z).elim
  | .ok (.ret u), z => exact I.after z
  | .ok .next, z => exact (show False from z).elim
  | .ok .brk, z => exact (show False from z).elim
  | .ok .cont, z => exact (show False from z).elim
theorem pe_callG {x : Str} {p pos : Pos} {e : Expr} {es : List Expr} {t : TA} (F : FnG X.prog X.w X.K X.mg X.base k f fd ps sp) (room : Room k X.A) (gd : X.A.guards = some []) (gx : Gl X x) (mx : X.mg x = some (.ref f))
    (kp : PySem.W.keepIn X.K (.ref f) = true) (bd : Binds X.K fd ps []) (as : PA X (e :: es) t) (ndb : (x == ("__debug__" : Str)) = false := by decide)
    (st1 : starEach (e :: es) X.env = (false, eval e X.env) :: starEach es X.env := by rfl) (st2 : (backTo pos (starEach es X.env)).any (·.1) = false := by rfl) : PE X (.Call (.Name x p) (e :: es) [] pos) (tCallG sp t) :=
  ⟨fun pins s σ H Q I q => wpAny_Call_Name_kw (ld_glob I gx mx
    (PySem.W.callWith_K (h₀ := X.base) I.ok.mod.kin kp (thn (as.run pos pins s σ H _ I q) fun us s1 z => by
      obtain ⟨vs, H1, I1, rv, q1⟩ := z
      exact ⟨I1.kIn, runG F room gd bd I1 rv q1⟩) st1 st2) ndb)⟩
end
section
variable {P : Program} {w : World} {K : PySem.W.Frag} {mg : Str → Option Value} {base : Heap}
/-- a def of the text by its body, with empty guards at hand -/
theorem Fun.okG {x qual : Str} {st : Stmt} {f : Addr} {fd : FuncData} {N ps : List Str} {k : Nat} {sp : SpG} (F : Fun K x qual st f fd) (S : FnScope N ps (defScope st)) (len : ∀ vs H Q, sp vs H Q → vs.length = ps.length)
    (hbody : ∀ (cdv : Value) (A : Around) (outer : List Env) (s : Shared) (H : Hp) (vs : List V) (Q : VK), Room k (A.deeper (envOfC qual (defScope st) s.heap.objs.size f cdv)) → (A.deeper (envOfC qual (defScope st) s.heap.objs.size f cdv)).guards = some [] → sp vs H Q →
      ∃ t, PSs (cxOf CX0 P w K mg base N qual (defScope st) f cdv A outer s H E0).nox (defBody st) t ∧ t { nx := fun _ H' => Q .non H', rt := Q } (start N vs) H) : FnG P w K mg base (k + 1) f fd ps sp := by
  obtain ⟨oc, od, kV, doc, pm, an, cdv, ct, osl, rfl, lk, hcd⟩ := F.ex
  refine ⟨len, fun A outer s H args us vs Q hr gd e0 hb r hsp => ?_⟩
  -- the same def promises this one call, whatever the guards: the promise speaks of A
  have G : ∀ vs' H' Q' (E' : XK), (vs' = vs ∧ H' = H ∧ Q' = Q ∧ E' = E0) → vs'.length = ps.length := fun vs' H' Q' E' z => by rw [z.1]; exact len _ _ _ hsp
  have hl := len _ _ _ hsp
  have KX : K.In s.heap := e0.mod.kin.keeps fun b o q => (e0.bs b o q).1
  have kinds : ∀ y ∈ ps.zip us, (defScope st).names.lookup y.1 = some .local ∨ ((defScope st).names.lookup y.1 = some .cell ∧ ((cellsFrom (s.heap.objs.size + 1) (defScope st).names []).lookup y.1).isSome = true) := fun y hy =>
    (S.par y.1 (List.of_mem_zip hy).1).elim .inl fun q => .inr ⟨q, PySem.W.cellsFrom_some _ _ _ (.inl q)⟩
  refine codeAny_call_function hr.depth (KX _ _ lk) rfl S.co S.gen rfl (PySem.W.codeRec_of KX hcd) (hb _ _ _ _ (wpAny_newFunctionEnv_cells S.kind kinds fun env he s1 x => ?_))
  subst he
  refine ⟨(e0.mod.nolimit.keeps fun b o q => (e0.bs b o q).1).keeps x.toInCall.keep, codeAny_func ?_⟩
  obtain ⟨t, ht, hq⟩ := hbody cdv A outer s H vs Q (hr.deeper _) gd hsp
  have I : Inv (cxOf CX0 P w K mg base N qual (defScope st) f cdv A outer s H E0) [] (start N vs) H s1 := inv_start S hr.hd e0 hl r x
  refine wpAny_mono (ht.nox.run [] s1 (start N vs) H _ I hq) (fun fl s' z => ?_) fun e s' z => z
  have fin : ∀ {σ' : St} {H' : Hp} {v : V} {u : Value}, Inv (cxOf CX0 P w K mg base N qual (defScope st) f cdv A outer s H E0) [] σ' H' s' → RelV v u → Q v H' → CE outer P w H s Q u s' :=
    fun J rv q => ⟨_, _, J.os, J.bare, J.base, J.hok, rv, q⟩
  match fl, z with
  | .ret u, ⟨v, σ', H', J, rv, q⟩ => exact fin J rv q
  | .next, ⟨σ', H', J, q⟩ => exact fin (v := V.non) (u := Value.none) J rfl q
  | .brk, ⟨_, _, _, q⟩ => exact (show False from q).elim
  | .cont, ⟨_, _, _, q⟩ => exact (show False from q).elim

/-! the promises of this layer -/
def spG (K : PySem.W.Frag) (n : Nat) (P : Pm) : SpG := fun vs H Q => vs.length = n ∧ ∃ sr G xs, Wd sr G H ∧ Paired (SR K sr G H) vs xs ∧ P xs (Kd K sr G H Q)
/-- the same, what comes back may be a constant -/
def spGB (K : PySem.W.Frag) (n : Nat) (P : Pm) : SpG := fun vs H Q => vs.length = n ∧ ∃ sr G xs, Wd sr G H ∧ Paired (SR K sr G H) vs xs ∧ P xs (Kr K sr G H Q)
section
variable {R : Pm} {ta : TA} {a : En → (List Slot → Prop) → Prop} {n : Nat}
theorem rd_callG (hP : MonoP R) (h : RA K (SR K) ta a) : Rd K (tCallG (spG K n R) ta) (dCall n R a) := by
  refine ⟨fun ρ Q Q' m q => h.mono ρ _ _ (fun d q => ⟨q.1, hP _ _ _ m q.2⟩) q, fun sr G0 H0 G H ρ σ Q e q => ?_⟩
  refine h.rd sr G0 H0 G H ρ σ _ e (h.mono _ _ _ (fun xs q vs G1 H1 l1 r1 => ?_) q)
  exact ⟨(Paired.length r1).trans q.1, sr, G1, xs, l1.wd, r1, hP _ _ _ (fun d k => k.le e.wd l1) q.2⟩
theorem rr_callG (hP : MonoP R) (h : RA K (SR K) ta a) : RdR K (tCallG (spGB K n R) ta) (dCall n R a) := by
  refine ⟨fun ρ Q Q' m q => h.mono ρ _ _ (fun d q => ⟨q.1, hP _ _ _ m q.2⟩) q, fun sr G0 H0 G H ρ σ Q e q => ?_⟩
  refine h.rd sr G0 H0 G H ρ σ _ e (h.mono _ _ _ (fun xs q vs G1 H1 l1 r1 => ?_) q)
  exact ⟨(Paired.length r1).trans q.1, sr, G1, xs, l1.wd, r1, hP _ _ _ (fun d k => k.le e.wd l1) q.2⟩
end
theorem okG {x qual : Str} {st : Stmt} {f : Addr} {fd : FuncData} {N ps : List Str} {k : Nat} {R : Pm} (F : Fun K x qual st f fd) (S : FnScope N ps (defScope st))
    (hbody : ∀ (X : Cx), X.prog = P → X.w = w → X.K = K → X.mg = mg → X.base = base → X.N = N → X.env.scope = defScope st → X.calm = true → (∀ y, X.fn y = true) → Room k X.A → X.A.guards = some [] → PassesOwn (model X.prog X.w) X.A X.env X.xe →
      ∃ ts T, PSs X (defBody st) ts ∧ Rs K ts T ∧ ∀ xs Q, xs.length = ps.length → R xs Q → T (endE Q) (xs ++ List.replicate (N.length - xs.length) .un)) :
    FnG P w K mg base (k + 1) f fd ps (spG K ps.length R) := by
  refine Fun.okG F S (fun vs H Q h => h.1) (fun cdv A outer s H vs Q hr gd h => ?_)
  obtain ⟨hl, sr, G, xs, wd, r, q⟩ := h
  obtain ⟨ts, T, h1, h2, h3⟩ := hbody (cxOf CX0 P w K mg base N qual (defScope st) f cdv A outer s H E0).nox rfl rfl rfl rfl rfl rfl rfl rfl (fun _ => rfl) hr gd PassesOwn.never
  have hpl : ps.length ≤ N.length := by have := congrArg List.length S.pre; rw [List.length_take] at this; omega
  refine ⟨ts, h1, ?_⟩
  have e0 := ER.start wd r N (by omega)
  exact h2.rs sr G H G H _ _ _ _ e0 (h3 xs _ ((Paired.length r).symm.trans hl) q) ⟨fun ρ' σ' G' H' s e q => q .non G' H' e.le .non, fun v d G' H' l r q => q v G' H' l r, fun _ _ _ _ _ _ q => q, fun _ _ _ _ _ _ q => q⟩
end
end DL
/-! DL9: sorted of a dict whose keys are pairs of ints. -/
namespace DL
open PySem PySem.Spec L2
open PyProof.Rows hiding St

/-! sorted pairs, plainly -/
def insP (x : Int × Int) : List (Int × Int) → List (Int × Int)
  | [] => [x]
  | y :: r => if SrtO.lexB y x = true then y :: insP x r else x :: y :: r
def sortP : List (Int × Int) → List (Int × Int)
  | [] => []
  | x :: r => insP x (sortP r)
theorem insP_perm (x : Int × Int) : ∀ l, (insP x l).Perm (x :: l)
  | [] => List.Perm.refl _
  | y :: r => by
    unfold insP
    split
    · exact ((insP_perm x r).cons y).trans (List.Perm.swap x y r)
    · exact List.Perm.refl _
theorem sortP_perm : ∀ l, (sortP l).Perm l
  | [] => List.Perm.refl _
  | x :: r => (insP_perm x (sortP r)).trans ((sortP_perm r).cons x)
theorem lexB_total {p q : Int × Int} (h1 : SrtO.lexB p q = false) (h2 : SrtO.lexB q p = false) : p = q := by
  rw [SrtO.lexB_no] at h1 h2
  obtain ⟨a, b⟩ := p
  obtain ⟨c, d⟩ := q
  simp only at h1 h2
  have : a = c := by omega
  subst this
  have : b = d := by omega
  subst this
  rfl
theorem lexB_asym {p q : Int × Int} (h : SrtO.lexB p q = true) : SrtO.lexB q p = false := by
  rw [SrtO.lexB_iff] at h
  rw [SrtO.lexB_no]
  omega
theorem lexB_tr {p q r : Int × Int} (h : SrtO.lexB q p = false) (h2 : SrtO.lexB r q = false) : SrtO.lexB r p = false := by
  rw [SrtO.lexB_no] at *
  omega
abbrev SortedP (l : List (Int × Int)) : Prop := l.Pairwise fun x y => SrtO.lexB y x = false
theorem insP_sorted (x : Int × Int) : ∀ l, SortedP l → SortedP (insP x l)
  | [], _ => List.pairwise_singleton _ _
  | y :: r, h => by
    have hy := List.pairwise_cons.mp h
    unfold insP
    split
    · rename_i hl
      refine List.pairwise_cons.mpr ⟨fun z hz => ?_, insP_sorted x r hy.2⟩
      rcases List.mem_cons.mp ((insP_perm x r).mem_iff.mp hz) with e | e
      · subst e; exact lexB_asym hl
      · exact hy.1 z e
    · rename_i hl
      have hl' : SrtO.lexB y x = false := by simpa using hl
      refine List.pairwise_cons.mpr ⟨fun z hz => ?_, h⟩
      rcases List.mem_cons.mp hz with e | e
      · subst e; exact hl'
      · exact lexB_tr hl' (hy.1 z e)
theorem sortP_sorted : ∀ l, SortedP (sortP l)
  | [] => List.Pairwise.nil
  | x :: r => insP_sorted x _ (sortP_sorted r)
theorem sortP_uniq {l m : List (Int × Int)} (hl : SortedP l) (hm : SortedP m) (p : l.Perm m) : l = m := by
  induction l generalizing m with
  | nil => exact (List.nil_perm.mp p).symm ▸ rfl
  | cons a l ih =>
    cases m with
    | nil => exact absurd p.length_eq (by simp)
    | cons b m =>
      have h1 := List.pairwise_cons.mp hl
      have h2 := List.pairwise_cons.mp hm
      have e : a = b := by
        rcases List.mem_cons.mp (p.mem_iff.mp (List.mem_cons_self (a := a) (l := l))) with e | e
        · exact e
        · rcases List.mem_cons.mp (p.mem_iff.mpr (List.mem_cons_self (a := b) (l := m))) with e' | e'
          · exact e'.symm
          · exact lexB_total (h2.1 a e |> fun z => by
              have z2 := h1.1 b e'
              exact z2 |> fun _ => by
                exact (h2.1 a e) |> fun q => by
                  cases hh : SrtO.lexB a b with
                  | false => rfl
                  | true => rw [hh] at q; cases q) (h1.1 b e')
      subst e
      rw [ih h1.2 h2.2 (List.Perm.cons_inv p)]

/-! the rule -/
def pairH (H : Hp) : Value → Int × Int
  | .ref b => match H b with
    | some (.tup [.int i, .int j]) => (i, j)
    | _ => (0, 0)
  | _ => (0, 0)
theorem pairH_ref {H : Hp} {b : Addr} {k : Int × Int} (h : H b = some (.tup [.int k.1, .int k.2])) : pairH H (.ref b) = k := by
  show (match H b with | some (.tup [.int i, .int j]) => (i, j) | _ => (0, 0)) = k
  rw [h]
def rSortedDT : List V → Hp → VK → Prop := fun xs H Q => ∃ (d : Addr) (kvs : List (List Key × V)) (ks : List (Int × Int)), xs = [V.ref d] ∧ L2.Rd H d (.dT kvs) ∧ kvs.map (·.1) = ks.map (fun p => [Sum.inl p.1, Sum.inl p.2]) ∧
  ∀ p bs, H p = none → Paired (fun (k : Int × Int) b => H b = some (.tup [.int k.1, .int k.2])) (sortP ks) bs → Q (.ref p) (upd H p (.lst (bs.map V.ref)))
section
variable {X : Cx}
theorem cr_sortedDT (hc : X.calm = true) : CallR X (.builtin "sorted") rSortedDT := by
  intro pins s σ H xs us Q I r h
  obtain ⟨d, kvs, ks, rfl, hd, hks, q⟩ := h
  obtain ⟨u, rfl, rx⟩ := r.one
  cases rx
  obtain ⟨z, hs, zs, pr, o, es, ep, ho, hx, hdt, he, hn⟩ := (show ObjOk X.prog X.w H s.heap d (.dT kvs) from hd.ok I.hok)
  have l1 : es.size = zs.length := size_of_entries he
  have l2 : kvs.length = zs.length := Paired.length pr
  have h16 : es.size ≤ sizeLine := by omega
  have hkl : kvs.length = ks.length := by have e := congrArg List.length hks; simpa using e
  refine Calls.call_function_entry PyProof.Rows.kind_sorted PyProof.Rows.plain_sorted PyProof.Rows.entry_sorted (PyProof.Rows.args_sorted1 _) ?_
  unfold Builtin.«sorted»
  refine wpAny_bind (m := checkCount "sorted" 1 1 _) (wpAny_pure ?_)
  refine wpAny_bind (PySem.W.kdu_collect (A := X.A.in1) (kdl_raw hs hx hdt) (I.ok.hd hc) ho h16 fun h' tk acc' kp it => ?_)
  have ea : acc'.toList = (zs.map fun x => x.2.1).map Value.ref := by
    rw [List.map_map]
    have hl : acc'.toList.length = zs.length := by rw [Array.length_toList, it.1]; exact l1
    apply List.ext_getElem?
    intro j
    rw [List.getElem?_map]
    cases hj : acc'.toList[j]? with
    | none =>
      have h1 := List.getElem?_eq_none_iff.mp hj
      rw [List.getElem?_eq_none (by omega)]
      rfl
    | some v =>
      obtain ⟨en, hen, hv⟩ := it.2 j v (by rw [← Array.getElem?_toList]; exact hj)
      have qe := entry_at he j
      rw [hen] at qe
      cases hb : zs[j]? with
      | none => rw [hb] at qe; exact nomatch (show some en = none from qe)
      | some b =>
        rw [hb] at qe
        have e2 : en = entryOfKey (tupleKind (mixKind X.prog X.w)) b := Option.some.inj qe
        rw [hv, e2]
        rfl
  have ik : IsKeys H kvs (zs.map fun x => x.2.1) := isKeys_of pr
  generalize (zs.map fun x => x.2.1) = bs at ea ik
  have pb : Paired (fun (k : Int × Int) b => H b = some (.tup [.int k.1, .int k.2])) ks bs := by
    clear ea hd hkl q l2 pr h16 l1 z
    induction ik generalizing ks with
    | nil => cases ks with
      | nil => exact .nil
      | cons a l => exact absurd hks (by simp)
    | cons a t ih => cases ks with
      | nil => exact absurd hks (by simp)
      | cons k l =>
        simp only [List.map_cons, List.cons.injEq] at hks
        refine .cons ?_ (ih l hks.2)
        rw [a, hks.1]; rfl
  have I1 : Inv X pins σ H { s with heap := h', toks := tk } := I.kept kp
  have hal : acc'.toList.length = ks.length := by rw [Array.length_toList, it.1]; omega
  have hz : acc'.toList.length ≤ sizeLine := by rw [Array.length_toList, it.1]; exact h16
  refine wpAny_bind (wpAny_newList ?_ hz)
  have hoL : (h'.push (seqObj "list" acc'.toList.toArray 0)).get? h'.objs.size = some (seqObj "list" acc'.toList.toArray 0) := Heap.get?_push_size _ rfl
  show wpAny _ _ _ _ _ { s with heap := h'.push (seqObj "list" acc'.toList.toArray 0), toks := tk }
  have hpair : ∀ (b : Addr) (k : Int × Int), H b = some (.tup [.int k.1, .int k.2]) → Srt.IsPair h' (.ref b) k.1 k.2 := fun b k hb => by
    obtain ⟨_, its2, r2, o, ho, hc, n, hd⟩ := I1.hok _ _ hb
    obtain ⟨u1, u2, rfl, ri, rj⟩ := vals2 r2
    obtain ⟨t1, rfl⟩ := ri
    obtain ⟨t2, rfl⟩ := rj
    exact ⟨b, o, t1, t2, n, rfl, ho, hc, hd⟩
  have hmem : ∀ v ∈ acc'.toList, ∃ b, v = .ref b ∧ H b = some (.tup [.int (pairH H v).1, .int (pairH H v).2]) := fun v hv => by
    rw [ea] at hv
    obtain ⟨b, hb, rfl⟩ := List.mem_map.mp hv
    obtain ⟨k, hk⟩ : ∃ k : Int × Int, H b = some (.tup [.int k.1, .int k.2]) := by
      clear hal hkl hks q ea hv ik
      induction pb with
      | nil => cases hb
      | cons a t ih =>
        rcases List.mem_cons.mp hb with e | e
        · subst e; exact ⟨_, a⟩
        · exact ih e
    refine ⟨b, rfl, ?_⟩
    have : pairH H (.ref b) = k := pairH_ref hk
    rw [this]; exact hk
  refine wpAny_bind (wpAny_holding (wpAny_call_entry PyProof.Rows.slot_list_sort ⟨_, hoL, rfl⟩ PyProof.Rows.entry_list_sort
    (SrtO.list_sort_ord (SrtO.swo_lex (pairH H)) hoL hz (fun h2 => SrtO.pairs_sortableO (by omega) (fun v hv => ?_) fun o e => ?_) fun out g1 g2 => ⟨_, rfl, ?_⟩) (PyProof.Rows.args_list_sort _)))
  · obtain ⟨b, rfl, hb⟩ := hmem v hv
    exact (hpair b _ hb).keeps fun b o e _ => Heap.get?_push_of_some _ e
  · have e' : some o = some (seqObj "list" acc'.toList.toArray 0) := e.symm.trans hoL
    cases e'
    intro c
    exact absurd (Value.type.inj c) (by decide)
  obtain ⟨e', he'⟩ := PyProof.Rows.sortedHeap_at (vs := acc'.toList) (out := out.toArray) hoL
  -- the sorted ones are refs of pairs
  have hperm := g2.perm
  obtain ⟨cs, ec, pc⟩ : ∃ cs : List Addr, out = cs.map Value.ref ∧ Paired (fun (k : Int × Int) b => H b = some (.tup [.int k.1, .int k.2])) (out.map (pairH H)) cs := by
    have hm : ∀ v ∈ out, ∃ b, v = .ref b ∧ H b = some (.tup [.int (pairH H v).1, .int (pairH H v).2]) := fun v hv => hmem v (hperm.mem_iff.mp hv)
    clear hperm g1 g2 he' e'
    induction out with
    | nil => exact ⟨[], rfl, .nil⟩
    | cons v l ih =>
      obtain ⟨b, e, hb⟩ := hm v List.mem_cons_self
      obtain ⟨cs, e2, p2⟩ := ih fun v hv => hm v (List.mem_cons_of_mem _ hv)
      exact ⟨b :: cs, by rw [e, e2]; rfl, .cons hb p2⟩
  have ek : acc'.toList.map (pairH H) = ks := by
    rw [ea]
    clear hal hkl hks q ea ik hmem hz
    induction pb with
    | nil => rfl
    | cons a t ih =>
      rw [List.map_cons, List.map_cons, ih]
      congr 1
      exact pairH_ref a
  have es : out.map (pairH H) = sortP ks := by
    refine sortP_uniq (List.pairwise_map.mpr g1) (sortP_sorted _) (((hperm.map _).trans ?_).trans (sortP_perm ks).symm)
    rw [ek]
  rw [es] at pc
  refine wpAny_pure ⟨_, rfl, .ref h'.objs.size, upd H h'.objs.size (.lst (cs.map V.ref)), I1.laid (t' := tk) (fun b u e => ?_) (Nat.le_refl _)
    (show ObjOk X.prog X.w _ _ _ (.lst (cs.map V.ref)) from ⟨?_, out, e', by rw [ec]; exact vals_refs _, he'⟩), rfl, q _ cs (I1.hok.fresh (Nat.le_refl _)) pc⟩
  · have hb : b < h'.objs.size := Heap.lt_size e
    rw [PyProof.Rows.sortedHeap_old (Nat.ne_of_lt hb) (by rw [size_push']; exact Nat.lt_succ_of_lt hb)]
    exact Heap.get?_push_of_some _ e
  · rw [List.length_map, ← List.length_map (f := Value.ref) (as := cs), ← ec, hperm.length_eq]; exact hz
end
end DL
/-! DL10: slices, built-ins. -/
namespace DL
open PySem PySem.Spec L2
open PyProof.Rows hiding St

/-! ### slices -/
def cut {α : Type} (xs : List α) (lo hi : Option Int) : List α := (xs.drop (HT.sIx xs.length 0 lo)).take (HT.sIx xs.length xs.length hi - HT.sIx xs.length 0 lo)
theorem RpA.cut {K : PySem.W.Frag} {G : Hp} {vs : List V} {ds : List D} (r : RpA K G vs ds) (lo hi : Option Int) : RpA K G (cutV vs lo hi) (cut ds lo hi) := by
  unfold cutV DL.cut
  rw [r.length]
  exact (r.drop _).take _
abbrev PT' := En → (Option Int → Prop) → Prop
structure RPt (to : TO) (t : PT') (K : PySem.W.Frag) : Prop where
  mono : ∀ ρ Q Q', (∀ o, Q o → Q' o) → t ρ Q → t ρ Q'
  rd : ∀ sr G0 H0 G H ρ σ (Q : Option Int → Hp → Prop), ER K sr G0 H0 G H ρ σ → t ρ (fun o => ∀ G' H', Le sr G H G' H' → Q o H') → to σ H Q
def pNo : PT' := fun _ Q => Q none
def pSo (t : DT) : PT' := fun ρ Q => t ρ fun d => match d with
  | .int i => Q (some i)
  | _ => False
def kSl : D → Option Int → Option Int → (D → Prop) → Prop := fun d lo hi Q => match d with
  | .list xs => Q (.list (cut xs lo hi))
  | .tuple xs => Q (.tuple (cut xs lo hi))
  | .str z => z.length ≤ 16777216 ∧ Q (.str (cutS z lo hi))
  | _ => False
def kSlL : D → Option Int → Option Int → (D → Prop) → Prop := fun d lo hi Q => match d with
  | .list xs => Q (.list (cut xs lo hi))
  | _ => False
def dSl (k : D → Option Int → Option Int → (D → Prop) → Prop) (t : DT) (a b : PT') : DT := fun ρ Q => t ρ fun x => a ρ fun l => b ρ fun u => k x l u Q
def rSlU (K : PySem.W.Frag) : V → Option Int → Option Int → Hp → VK → Prop := fun x lo hi H Q => rSlL K x lo hi H Q ∨ rSlA K x lo hi H Q ∨ rSlS x lo hi H Q
theorem sl_u {X : Cx} : SlR X (rSlU X.K) := by
  intro pins s σ H x v vl vu lo hi sl Q I rx hs pl pu h
  rcases h with h | h | h
  · exact sl_list pins s σ H x v vl vu lo hi sl Q I rx hs pl pu h
  · exact sl_tupA pins s σ H x v vl vu lo hi sl Q I rx hs pl pu h
  · exact sl_str pins s σ H x v vl vu lo hi sl Q I rx hs pl pu h
section
variable {K : PySem.W.Frag} {te : TE} {t : DT} {tl th : TO} {a b : PT'}
theorem rp_no : RPt tNoPart pNo K := ⟨fun ρ Q Q' m q => m _ q, fun sr G0 H0 G H ρ σ Q e q => q G H (Le.refl e.wd)⟩
theorem rp_so (h : RdR K te t) : RPt (tPart te) (pSo t) K := by
  refine ⟨fun ρ Q Q' m q => h.mono ρ _ _ (fun d q => ?_) q, fun sr G0 H0 G H ρ σ Q e q => ?_⟩
  · split at q
    · exact m _ q
    · exact q.elim
  · refine h.rd sr G0 H0 G H ρ σ _ e (h.mono _ _ _ (fun d q v G1 H1 l1 r1 => ?_) q)
    split at q
    · exact ⟨_, r1.int, q G1 H1 l1⟩
    · exact q.elim
theorem kSl_mono {d : D} {lo hi : Option Int} {Q Q' : D → Prop} (m : ∀ d, Q d → Q' d) (q : kSl d lo hi Q) : kSl d lo hi Q' := by
  unfold kSl at q ⊢
  split at q
  · exact m _ q
  · exact m _ q
  · exact ⟨q.1, m _ q.2⟩
  · exact q.elim
theorem kSlL_mono {d : D} {lo hi : Option Int} {Q Q' : D → Prop} (m : ∀ d, Q d → Q' d) (q : kSlL d lo hi Q) : kSlL d lo hi Q' := by
  unfold kSlL at q ⊢
  split at q
  · exact m _ q
  · exact q.elim
theorem rd_sl (h : RdW K te t) (ha : RPt tl a K) (hb : RPt th b K) : Rd K (tSl (rSlU K) te tl th) (dSl kSl t a b) := by
  refine ⟨fun ρ Q Q' m q => h.mono ρ _ _ (fun d q => ha.mono ρ _ _ (fun l q => hb.mono ρ _ _ (fun u q => kSl_mono m q) q) q) q, fun sr G0 H0 G H ρ σ Q e q => ?_⟩
  refine h.rd sr G0 H0 G H ρ σ _ e (h.mono _ _ _ (fun x q v G1 H1 l1 r1 => ?_) q)
  refine ha.rd sr G0 H0 G1 H1 ρ σ _ (e.le' l1) (ha.mono _ _ _ (fun lo q G2 H2 l2 => ?_) q)
  refine hb.rd sr G0 H0 G2 H2 ρ σ _ ((e.le' l1).le' l2) (hb.mono _ _ _ (fun hi q G3 H3 l3 => ?_) q)
  have l13 := Le.trans l1.wd l2 l3
  have l03 := Le.trans e.wd l1 l13
  have r3 := r1.le l1.wd l13
  have w3 := l3.wd
  unfold kSl at q
  split at q
  · rename_i xs
    obtain ⟨p, vs, e1, h1, ra⟩ := r3.r.lst w3
    exact .inl ⟨p, vs, e1, .inl (.inl h1), Kd.lst w3 (ra.cut lo hi) (q.le e.wd l03)⟩
  · rename_i xs
    obtain ⟨p, vs, e1, h1, ra⟩ := r3.tup
    have rc := ra.cut lo hi
    refine .inr (.inl ⟨p, vs, e1, .inl (.inl (w3.sub _ _ h1)), fun z => ?_, fun _ => Kd.tup w3 rc (q.le e.wd l03)⟩)
    refine q _ G3 H3 l03 ?_
    have ec : cutV vs lo hi = vs := by
      unfold cutV
      rw [z.1, z.2, List.drop_zero, Nat.sub_zero, List.take_length]
    rw [ec] at rc
    exact .tup h1 rc
  · exact .inr (.inr ⟨_, r3.r.str, by rw [slEq]; exact q.1, Kd.now w3 (.str _) (q.2.le e.wd l03)⟩)
  · exact q.elim
theorem rf_sl (h : RdR K te t) (ha : RPt tl a K) (hb : RPt th b K) : RdF K (tSl (rSlU K) te tl th) (dSl kSlL t a b) := by
  refine ⟨fun ρ Q Q' m q => h.mono ρ _ _ (fun d q => ha.mono ρ _ _ (fun l q => hb.mono ρ _ _ (fun u q => kSlL_mono m q) q) q) q, fun sr G0 H0 G H ρ σ Q e q => ?_⟩
  refine h.rd sr G0 H0 G H ρ σ _ e (h.mono _ _ _ (fun x q v G1 H1 l1 r1 => ?_) q)
  refine ha.rd sr G0 H0 G1 H1 ρ σ _ (e.le' l1) (ha.mono _ _ _ (fun lo q G2 H2 l2 => ?_) q)
  refine hb.rd sr G0 H0 G2 H2 ρ σ _ ((e.le' l1).le' l2) (hb.mono _ _ _ (fun hi q G3 H3 l3 => ?_) q)
  have l13 := Le.trans l1.wd l2 l3
  have l03 := Le.trans e.wd l1 l13
  have r3 := r1.le l1.wd l13
  have w3 := l3.wd
  unfold kSlL at q
  split at q
  · rename_i xs
    obtain ⟨p, vs, e1, h1, ra⟩ := r3.lst w3
    exact .inl ⟨p, vs, e1, .inl (.inl h1), Kf.lst w3 (ra.cut lo hi) (q.le e.wd l03)⟩
  · exact q.elim
end
/-! x[::-1] -/
theorem fmap_congr {f g : Nat → Option Value} : ∀ (l : List Nat), (∀ k ∈ l, f k = g k) → l.filterMap f = l.filterMap g
  | [], _ => rfl
  | k :: l, h => by
    rw [List.filterMap_cons, List.filterMap_cons, h k List.mem_cons_self, fmap_congr l fun j hj => h j (List.mem_cons_of_mem _ hj)]
theorem revRange (n : Nat) (xs : Array Value) (h : xs.size = n) : ((List.range n).filterMap fun (k : Nat) => xs[(((n : Int) - 1) + (k : Int) * -1).toNat]?).toArray = xs.toList.reverse.toArray := by
  have e : ((List.range n).filterMap fun (k : Nat) => xs[(((n : Int) - 1) + (k : Int) * -1).toNat]?) = (List.range n).filterMap fun k => xs.toList.reverse[k]? := by
    refine fmap_congr _ fun k hk => ?_
    have hk' : k < n := List.mem_range.mp hk
    have e1 : (((n : Int) - 1) + (k : Int) * -1).toNat = n - 1 - k := by omega
    rw [e1, List.getElem?_reverse (by rw [Array.length_toList]; omega), Array.length_toList, h, Array.getElem?_toList]
  rw [e]
  have key : ∀ (l : List Value) (m : Nat), (List.range m).filterMap (fun k => l[k]?) = l.take m := by
    intro l m
    induction m with
    | zero => simp
    | succ m ih =>
      rw [List.range_succ, List.filterMap_append, ih, List.take_add_one]
      congr 1
      try (simp only [List.filterMap_cons, List.filterMap_nil]; cases l[m]? <;> rfl)
  rw [key, List.take_of_length_le (by rw [List.length_reverse, Array.length_toList]; omega)]
section
variable {prog : Program} {w : World} {A : Around} {E : Value → Shared → Prop} {s : Shared}
theorem sliceApplied_rev {sl : Addr} {vl vu vs : Value} {n : Nat} {Q : Int × Int × Nat → Shared → Prop} (hs : s.heap.IsSliceOf sl vl vu vs) (pl : IsPart vl none) (pu : IsPart vu none) (ps : IsPart vs (some (-1)))
    (h : Q ((n : Int) - 1, -1, n) s) : wpAny (model prog w) A (Builtin.Slice.sliceApplied (.ref sl) (pure (n : Int))) Q E s := by
  obtain ⟨os, hos, hcs, hds⟩ := id hs
  unfold Builtin.Slice.sliceApplied Builtin.Slice.sliceFields
  refine wpAny_bind (wpAny_bind (wpAny_field hos hds (x := vl) rfl (wpAny_bind (wpAny_field hos hds (x := vu) rfl (wpAny_bind (wpAny_field hos hds (x := vs) rfl (wpAny_pure ?_)))))))
  refine wpAny_bind (HT.slicePart_ ps ?_)
  show wpAny _ _ (if ((-1 : Int) == 0) = true then _ else _) _ _ s
  rw [if_neg (by decide)]
  refine wpAny_bind (HT.slicePart_ pl (wpAny_bind (HT.slicePart_ pu (wpAny_bind (wpAny_pure ?_)))))
  show wpAny _ _ (match Builtin.Slice.sliceAdjust none none (-1) (n : Int) with | (lo, hi) => pure (lo, (-1 : Int), Builtin.Slice.slicePlaces lo hi (-1))) _ _ s
  have ea : Builtin.Slice.sliceAdjust none none (-1) (n : Int) = ((n : Int) - 1, -1) := by
    first | rfl | simp [Builtin.Slice.sliceAdjust]
  rw [ea]
  have ep : Builtin.Slice.slicePlaces ((n : Int) - 1) (-1) (-1) = n := by
    unfold Builtin.Slice.slicePlaces
    rw [if_neg (by decide)]
    by_cases h0 : (n : Int) - 1 > -1
    · rw [if_pos h0]
      have : ((n : Int) - 1 - -1 - 1) / (- -1) = (n : Int) - 1 := by
        rw [show (- -1 : Int) = 1 by decide, Int.ediv_one]; omega
      rw [this]; omega
    · rw [if_neg h0]; omega
  show wpAny _ _ (pure ((n : Int) - 1, (-1 : Int), Builtin.Slice.slicePlaces ((n : Int) - 1) (-1) (-1))) _ _ s
  rw [ep]
  exact wpAny_pure h
theorem getItem_tuple_rev {t sl : Addr} {items : Array Value} {vl vu vs : Value} {Q : Value → Shared → Prop} (ht : IsTup s.heap t items) (hs : s.heap.IsSliceOf sl vl vu vs) (pl : IsPart vl none) (pu : IsPart vu none) (ps : IsPart vs (some (-1)))
    (h : Q (.ref s.heap.objs.size) { s with heap := s.heap.push { cls := .type "tuple", data := .seq items.toList.reverse.toArray } })
    (hsz : items.size ≤ sizeLine) : wpAny (model prog w) A (getItem (.ref t) (.ref sl)) Q E s := by
  have hz : sizeOk (.seq items.toList.reverse.toArray) := by
    show items.toList.reverse.toArray.size ≤ sizeLine
    rw [List.size_toArray, List.length_reverse, Array.length_toList]; exact hsz
  obtain ⟨os, hos, hcs, hds⟩ := id hs
  have hTs : s.TypeIs (.ref sl) "slice" := ⟨os, hos, hcs⟩
  unfold getItem
  try with_reducible refine wpAny_holding ?_
  first | refine wpAny_bind (wpAny_pure ?_) | skip
  refine wpAny_bind (wpAny_sequenceKey ht.typeIs (by decide) ?_)
  refine wpAny_bind (wpAny_callSpecial?_slot (name := Str.ofString "__getitem__") ht.typeIs PyProof.Rows.slot_tuple_getitem
    (wpAny_call_entry PyProof.Rows.slot_tuple_getitem ht.typeIs entry_tuple_getitem ?_ (args_tuple_getitem _ _)))
  show wpAny _ _ (Builtin.Tuple.tupleItemsOf (.ref t) >>= _) _ _ s
  refine wpAny_bind (tupleItemsOf_ ht ?_)
  refine wpAny_bind (wpAny_typeOf hTs ?_)
  rw [if_pos (by decide)]
  refine wpAny_bind (sliceApplied_rev hs pl pu ps ?_)
  have hno : ¬ ((((items.size : Int) - 1) == 0 && (-1 : Int) == 1 && items.size == items.size) = true) := by
    intro q
    rw [Bool.and_eq_true, Bool.and_eq_true] at q
    exact absurd q.1.2 (by decide)
  show wpAny _ _ (if (((items.size : Int) - 1) == 0 && (-1 : Int) == 1 && items.size == items.size) = true then _ else _) _ _ s
  rw [if_neg hno, revRange items.size items rfl]
  first
    | exact wpAny_bind (m := Builtin.Tuple.tupleExact _) (wpAny_newObj_type (wpAny_pure ⟨_, rfl, wpAny_pure h⟩) hz)
    | exact wpAny_bind (m := Builtin.Tuple.tupleExact _) (wpAny_newObj_type (wpAny_bind (wpAny_pure (wpAny_pure ⟨_, rfl, wpAny_pure h⟩))) hz)
    | exact wpAny_bind (wpAny_bind (m := Builtin.Tuple.tupleExact _) (wpAny_newObj_type (wpAny_pure (wpAny_pure ⟨_, rfl, wpAny_pure h⟩)) hz))
    | exact wpAny_bind (wpAny_bind (m := Builtin.Tuple.tupleExact _) (wpAny_newObj_type (wpAny_pure ⟨_, rfl, wpAny_pure h⟩) hz))
end
def tRevU (K : PySem.W.Frag) (te : TE) : TE := fun σ H Q => te σ H fun x H1 => (∃ a xs, x = .ref a ∧ SqL K H1 a xs ∧ ∀ p, H1 p = none → Q (.ref p) (upd H1 p (.lst xs.reverse))) ∨
  ∃ a xs, x = .ref a ∧ SqT K H1 a xs ∧ ∀ p, H1 p = none → Q (.ref p) (upd H1 p (.tup xs.reverse))
section
variable {X : Cx}
theorem pe_revU {e : Expr} {te : TE} {k : Nat} {p1 p2 p3 pos : Pos} (he : PE X e te) : PE X (.Subscript e (.Slice none none (some (.UnaryOp .USub (.Constant (.int 1) k p1) p2)) p3) pos) (tRevU X.K te) := by
  refine ⟨fun pins s σ H Q I h => ?_⟩
  refine Subscript_ (thn (he.run pins s σ H _ I h) fun v s1 ⟨x, H1, I1, r1, q1⟩ => ?_)
  have hst : PO X (some (.UnaryOp .USub (.Constant (.int 1) k p1) p2)) (tPart (tUn (rU fun i => .int (-i)) (tC (.int 1)))) := po_some (pe_un un_neg pe_int)
  refine wpAny_Slice (thn (po_none.run pins s1 σ H1 (fun o H2 => o = none ∧ H2 = H1) I1 ⟨rfl, rfl⟩) fun vl s2 ⟨l, H2, I2, pl, el, e2⟩ => ?_)
  subst el e2
  refine thn (po_none.run pins s2 σ H2 (fun o H3 => o = none ∧ H3 = H2) I2 ⟨rfl, rfl⟩) fun vu s3 ⟨u, H3, I3, pu, eu, e3⟩ => ?_
  subst eu e3
  refine thn (hst.run pins s3 σ H3 (fun o H4 => o = some (-1) ∧ H4 = H3) I3 ⟨1, rfl, -1, rfl, rfl, rfl⟩) fun vs s4 ⟨o, H4, I4, ps, eo, e4⟩ => ?_
  subst eo e4
  have I5 : Inv X pins σ H4 { s4 with heap := s4.heap.push { cls := .type "slice", data := .fields #[vl, vu, vs] } } := I4.kept (t' := s4.toks) fun b ob q => Heap.get?_push_of_some _ q
  rcases q1 with ⟨a, xs, ex, hx, q⟩ | ⟨a, xs, ex, hx, q⟩
  · subst ex
    cases r1
    obtain ⟨its, r, ht, hz⟩ := I5.list hx
    have hlen := r.length
    show wpAny (model X.prog X.w) X.A (subscriptTail e (.Slice none none (some (.UnaryOp .USub (.Constant (.int 1) k p1) p2)) p3) (.ref a) (.ref s4.heap.objs.size)) (EP X pins σ Q) X.xe { s4 with heap := s4.heap.push { cls := .type "slice", data := .fields #[vl, vu, vs] } }
    refine tail_any (ops := [.ref a, .ref s4.heap.objs.size]) ht.isList.typeIs (PySem.slot_list_getitem.lookup) ?_ (by with_unfolding_all rfl)
    refine wpAny_getItem_list_slice ht.isList (Heap.IsSliceOf.new _ vl vu vs) pl pu ps (by decide) ?_ (by rw [List.size_toArray]; omega)
    rw [PySem.W.krv_pick]
    refine ⟨.ref _, _, I5.laid (t' := s4.toks) (o := .lst xs.reverse) (fun b ob q => Heap.get?_push_of_some _ q) (Nat.le_refl _) ?_, rfl, q _ (I5.hok.fresh (Nat.le_refl _))⟩
    exact ⟨by rw [List.length_reverse]; exact hz, _, 0, r.reverse, Heap.get?_push_size _ rfl⟩
  · subst ex
    cases r1
    obtain ⟨its, r, ht, hz⟩ := I5.tuple hx
    have hlen := r.length
    show wpAny (model X.prog X.w) X.A (subscriptTail e (.Slice none none (some (.UnaryOp .USub (.Constant (.int 1) k p1) p2)) p3) (.ref a) (.ref s4.heap.objs.size)) (EP X pins σ Q) X.xe { s4 with heap := s4.heap.push { cls := .type "slice", data := .fields #[vl, vu, vs] } }
    have hT : IsTup { s4 with heap := s4.heap.push { cls := .type "slice", data := .fields #[vl, vu, vs] } }.heap a its.toArray := ht
    refine tail_any (ops := [.ref a, .ref s4.heap.objs.size]) hT.typeIs (PyProof.Rows.slot_tuple_getitem.lookup) ?_ (by with_unfolding_all rfl)
    refine getItem_tuple_rev hT (Heap.IsSliceOf.new _ vl vu vs) pl pu ps ?_ (by rw [List.size_toArray]; omega)
    refine ⟨.ref _, _, I5.laid (t' := s4.toks) (o := .tup xs.reverse) (fun b ob q => Heap.get?_push_of_some _ q) (Nat.le_refl _) ?_, rfl, q _ (I5.hok.fresh (Nat.le_refl _))⟩
    exact ⟨by rw [List.length_reverse]; exact hz, _, r.reverse, _, Heap.get?_push_size _ rfl, rfl, _, by simp; rfl⟩
end
def kRev : D → (D → Prop) → Prop := fun d Q => match d with
  | .list xs => Q (.list xs.reverse)
  | .tuple xs => Q (.tuple xs.reverse)
  | _ => False
def kRevL : D → (D → Prop) → Prop := fun d Q => match d with
  | .list xs => Q (.list xs.reverse)
  | _ => False
section
variable {K : PySem.W.Frag} {te : TE} {t : DT}
theorem rd_rev (h : RdW K te t) : Rd K (tRevU K te) (dUn kRev t) := by
  refine ⟨fun ρ Q Q' m q => h.mono ρ _ _ (fun d q => ?_) q, fun sr G0 H0 G H ρ σ Q e q => ?_⟩
  · unfold kRev at q ⊢
    split at q
    · exact m _ q
    · exact m _ q
    · exact q.elim
  · refine h.rd sr G0 H0 G H ρ σ _ e (h.mono _ _ _ (fun x q v G1 H1 l1 r1 => ?_) q)
    unfold kRev at q
    split at q
    · obtain ⟨p, vs, e1, h1, ra⟩ := r1.r.lst l1.wd
      exact .inl ⟨p, vs, e1, .inl (.inl h1), Kd.lst l1.wd ra.reverse (q.le e.wd l1)⟩
    · obtain ⟨p, vs, e1, h1, ra⟩ := r1.tup
      exact .inr ⟨p, vs, e1, .inl (.inl (l1.wd.sub _ _ h1)), Kd.tup l1.wd ra.reverse (q.le e.wd l1)⟩
    · exact q.elim
theorem rf_rev (h : RdR K te t) : RdF K (tRevU K te) (dUn kRevL t) := by
  refine ⟨fun ρ Q Q' m q => h.mono ρ _ _ (fun d q => ?_) q, fun sr G0 H0 G H ρ σ Q e q => ?_⟩
  · unfold kRevL at q ⊢
    split at q
    · exact m _ q
    · exact q.elim
  · refine h.rd sr G0 H0 G H ρ σ _ e (h.mono _ _ _ (fun x q v G1 H1 l1 r1 => ?_) q)
    unfold kRevL at q
    split at q
    · obtain ⟨p, vs, e1, h1, ra⟩ := r1.lst l1.wd
      exact .inl ⟨p, vs, e1, .inl (.inl h1), Kf.lst l1.wd ra.reverse (q.le e.wd l1)⟩
    · exact q.elim
end
end DL
/-! DL11: built-ins. -/
namespace DL
open PySem PySem.Spec L2
open PyProof.Rows hiding St

/-! len, abs, int, max, min of two -/
def kLen : List D → (D → Prop) → Prop := fun ds Q => match ds with
  | [.list xs] => Q (.int xs.length)
  | [.tuple xs] => Q (.int xs.length)
  | [.str z] => z.length ≤ 16777216 ∧ Q (.int z.length)
  | _ => False
def kI1 (g : Int → Int) : List D → (D → Prop) → Prop := fun ds Q => match ds with
  | [.int i] => Q (.int (g i))
  | _ => False
def kI2 (g : Int → Int → Int) : List D → (D → Prop) → Prop := fun ds Q => match ds with
  | [.int i, .int j] => Q (.int (g i j))
  | _ => False
abbrev absI (i : Int) : Int := if i < 0 then -i else i
abbrev max2I (i j : Int) : Int := if j > i then j else i
abbrev min2I (i j : Int) : Int := if j < i then j else i
section
variable {K : PySem.W.Frag} {sr : Sr} {G H : Hp}
theorem pr1 {α β : Type} {R : α → β → Prop} {vs : List α} {x : β} (h : Paired R vs [x]) : ∃ v, vs = [v] ∧ R v x := by
  cases h with
  | cons a t => cases t; exact ⟨_, rfl, a⟩
theorem pr2 {α β : Type} {R : α → β → Prop} {vs : List α} {x y : β} (h : Paired R vs [x, y]) : ∃ v u, vs = [v, u] ∧ R v x ∧ R u y := by
  cases h with
  | cons a t => cases t with
    | cons b t => cases t; exact ⟨_, _, rfl, a, b⟩
theorem rc_len : RC K (fun xs H Q => ∃ x n, xs = [x] ∧ LenV K x H n ∧ Q (.int n) H) kLen := by
  refine ⟨fun ds Q Q' m q => ?_, fun sr G H vs ds Q w rx q => ?_⟩
  · unfold kLen at q ⊢
    split at q
    · exact m _ q
    · exact m _ q
    · exact ⟨q.1, m _ q.2⟩
    · exact q.elim
  · unfold kLen at q
    split at q
    · obtain ⟨v, rfl, r⟩ := pr1 rx
      obtain ⟨p, xs, e, h, ra⟩ := (show Rr K sr G H v _ from r).lst w
      subst e
      exact ⟨_, _, rfl, .inl ⟨xs, .inl (.inl h), rfl⟩, by rw [ra.length]; exact Kd.now w (.int _) q⟩
    · obtain ⟨v, rfl, r⟩ := pr1 rx
      obtain ⟨p, xs, e, h, hl, _⟩ := (show Rr K sr G H v _ from r).tup w
      subst e
      exact ⟨_, _, rfl, .inr ⟨xs, h, rfl⟩, by rw [hl]; exact Kd.now w (.int _) q⟩
    · obtain ⟨v, rfl, r⟩ := pr1 rx
      have e := (show Rr K sr G H v _ from r).str
      subst e
      exact ⟨_, _, rfl, ⟨by rw [slEq]; exact q.1, rfl⟩, Kd.now w (.int _) q.2⟩
    · exact q.elim
theorem rc_i1 {g : Int → Int} : RC K (fun xs H Q => ∃ i, xs = [.int i] ∧ Q (.int (g i)) H) (kI1 g) := by
  refine ⟨fun ds Q Q' m q => ?_, fun sr G H vs ds Q w rx q => ?_⟩
  · unfold kI1 at q ⊢
    split at q
    · exact m _ q
    · exact q.elim
  · unfold kI1 at q
    split at q
    · obtain ⟨v, rfl, r⟩ := pr1 rx
      have e := (show Rr K sr G H v _ from r).int
      subst e
      exact ⟨_, rfl, Kd.now w (.int _) q⟩
    · exact q.elim
theorem rc_i2 {g : Int → Int → Int} : RC K (fun xs H Q => ∃ i j, xs = [.int i, .int j] ∧ Q (.int (g i j)) H) (kI2 g) := by
  refine ⟨fun ds Q Q' m q => ?_, fun sr G H vs ds Q w rx q => ?_⟩
  · unfold kI2 at q ⊢
    split at q
    · exact m _ q
    · exact q.elim
  · unfold kI2 at q
    split at q
    · obtain ⟨v, u, rfl, r, r'⟩ := pr2 rx
      have e := (show Rr K sr G H v _ from r).int
      have e' := (show Rr K sr G H u _ from r').int
      subst e e'
      exact ⟨_, _, rfl, Kd.now w (.int _) q⟩
    · exact q.elim
/-- int(x) -/
def kInt : List D → (D → Prop) → Prop := fun ds Q => match ds with
  | [.int i] => Q (.int i)
  | [.bool k] => Q (.int (if k then 1 else 0))
  | _ => False
theorem rc_int : RC K (fun xs H Q => (∃ i, xs = [.int i] ∧ Q (.int i) H) ∨ ∃ k, xs = [.bl k] ∧ Q (.int (if k then 1 else 0)) H) kInt := by
  refine ⟨fun ds Q Q' m q => ?_, fun sr G H vs ds Q w rx q => ?_⟩
  · unfold kInt at q ⊢
    split at q
    · exact m _ q
    · exact m _ q
    · exact q.elim
  · unfold kInt at q
    split at q
    · obtain ⟨v, rfl, r⟩ := pr1 rx
      have e := (show Rr K sr G H v _ from r).int
      subst e
      exact .inl ⟨_, rfl, Kd.now w (.int _) q⟩
    · obtain ⟨v, rfl, r⟩ := pr1 rx
      have e := (show Rr K sr G H v _ from r).bl
      subst e
      exact .inr ⟨_, rfl, Kd.now w (.int _) q⟩
    · exact q.elim
end
/-! list(x), tuple(x) -/
def kLst : D → (D → Prop) → Prop := fun d Q => match d with
  | .list xs => Q (.list xs)
  | .tuple xs => Q (.list xs)
  | _ => False
def kTupO : D → (D → Prop) → Prop := fun d Q => match d with
  | .list xs => Q (.tuple xs)
  | .tuple xs => Q (.tuple xs)
  | _ => False
section
variable {K : PySem.W.Frag} {te : TE} {t : DT}
theorem rf_list (h : RdW K te t) : RdF K (tCB (fun xs H Q => ∃ p ys, xs = [.ref p] ∧ (SqL K H p ys ∨ SqT K H p ys) ∧ ∀ l, H l = none → Q (.ref l) (upd H l (.lst ys))) (tCons te tNil)) (dUn kLst t) := by
  refine ⟨fun ρ Q Q' m q => h.mono ρ _ _ (fun d q => ?_) q, fun sr G0 H0 G H ρ σ Q e q => ?_⟩
  · unfold kLst at q ⊢
    split at q
    · exact m _ q
    · exact m _ q
    · exact q.elim
  · refine h.rd sr G0 H0 G H ρ σ _ e (h.mono _ _ _ (fun x q v G1 H1 l1 r1 => ?_) q)
    unfold kLst at q
    split at q
    · obtain ⟨p, vs, e1, h1, ra⟩ := r1.r.lst l1.wd
      subst e1
      exact ⟨p, vs, rfl, .inl (.inl (.inl h1)), Kf.lst l1.wd ra (q.le e.wd l1)⟩
    · obtain ⟨p, vs, e1, h1, ra⟩ := r1.tup
      subst e1
      exact ⟨p, vs, rfl, .inr (.inl (.inl (l1.wd.sub _ _ h1))), Kf.lst l1.wd ra (q.le e.wd l1)⟩
    · exact q.elim
theorem rd_tupO (h : RdW K te t) : Rd K (tThen te (kTup K)) (dUn kTupO t) := by
  refine ⟨fun ρ Q Q' m q => h.mono ρ _ _ (fun d q => ?_) q, fun sr G0 H0 G H ρ σ Q e q => ?_⟩
  · unfold kTupO at q ⊢
    split at q
    · exact m _ q
    · exact m _ q
    · exact q.elim
  · refine h.rd sr G0 H0 G H ρ σ _ e (h.mono _ _ _ (fun x q v G1 H1 l1 r1 => ?_) q)
    unfold kTupO at q
    split at q
    · obtain ⟨p, vs, e1, h1, ra⟩ := r1.r.lst l1.wd
      subst e1
      exact .inl ⟨p, vs, rfl, .inl (.inl h1), Kd.tup l1.wd ra (q.le e.wd l1)⟩
    · obtain ⟨p, vs, e1, h1, ra⟩ := r1.tup
      subst e1
      exact .inr ⟨p, vs, rfl, .inl (.inl (l1.wd.sub _ _ h1)), q _ G1 H1 l1 (.tup h1 ra)⟩
    · exact q.elim
end

/-! isinstance -/
def tyN : D → String
  | .none => "NoneType"
  | .bool _ => "bool"
  | .int _ => "int"
  | .str _ => "str"
  | .list _ => "list"
  | .tuple _ => "tuple"
  | .dict _ => "dict"
def isiD (a b : String) : Bool := (a == b) || (a == "bool" && b == "int")
theorem kit_tab {d : D} {b : String} (hb : b ∈ ["int", "bool", "str", "tuple", "list", "dict"]) : kitB (tyN d) b = some (isiD (tyN d) b) := by
  have key : ∀ a ∈ ["NoneType", "bool", "int", "str", "list", "tuple", "dict"], ∀ b ∈ ["int", "bool", "str", "tuple", "list", "dict"], kitB a b = some (isiD a b) := by decide +kernel
  exact key _ (by cases d <;> simp [tyN]) b hb
def dIsi (b : String) (t : DT) : DT := fun ρ Q => t ρ fun d => Q (.bool (isiD (tyN d) b))
section
variable {K : PySem.W.Frag} {sr : Sr} {G H : Hp} {te : TE} {t : DT}
theorem Rr.ty {v : V} {d : D} (w : Wd sr G H) (r : Rr K sr G H v d) : TyX K H v (.type (tyN d)) := by
  cases r with
  | fz r =>
    cases r with
    | non => exact .base .non
    | bl b => exact .base (.bl b)
    | int i => exact .base (.int i)
    | str x => exact .base (.str x)
    | lst h r => exact .base (.lst (w.sub _ _ h))
    | tup h r => exact .base (.tup (w.sub _ _ h))
    | dK h r => exact .base (.dK (w.sub _ _ h))
    | dT h r => exact .base (.dT (w.sub _ _ h))
  | ol h1 h2 h3 => exact .base (.lst h2)
  | kc r =>
    cases r with
    | non => exact .base .non
    | bl b => exact .base (.bl b)
    | int i => exact .base (.int i)
    | str x => exact .base (.str x)
    | tup h1 h2 h3 h4 h5 r => exact .kTuple h1 h2
theorem rd_isi (b : String) (hb : b ∈ ["int", "bool", "str", "tuple", "list", "dict"]) (h : RdR K te t) : Rd K (tCB (rIsi K) (tCons te (tCons (tC (.ty b)) tNil))) (dIsi b t) := by
  refine ⟨fun ρ Q Q' m q => h.mono ρ _ _ (fun d q => m _ q) q, fun sr G0 H0 G H ρ σ Q e q => ?_⟩
  refine h.rd sr G0 H0 G H ρ σ _ e (h.mono _ _ _ (fun x q v G1 H1 l1 r1 => ?_) q)
  exact ⟨v, .ty b, _, _, _, rfl, .ty b, r1.ty l1.wd, kit_ty (kit_tab hb), q _ G1 H1 l1 (.bl _)⟩
end

/-! repr -/
mutual
/-- no list, dicts are empty -/
def nol : D → Bool
  | .list _ => false
  | .tuple ds => nolA ds
  | .dict es => es.isEmpty
  | .none => true
  | .bool _ => true
  | .int _ => true
  | .str _ => true
def nolA : List D → Bool
  | [] => true
  | d :: ds => nol d && nolA ds
end
/-- may be shown -/
def rOk (n : Nat) (d : D) : Prop := (nod d = true ∨ nol d = true) ∧ d.showable = true ∧ d.depth ≤ 60 ∧ d.shown.length ≤ 16777216
mutual
theorem nod_hasDict : ∀ d : D, nod d = true → d.hasDict = false
  | .none, _ => rfl
  | .bool _, _ => rfl
  | .int _, _ => rfl
  | .str _, _ => rfl
  | .list ds, h => by simp only [PyData.hasDict]; exact nodA_hasDict ds (by simpa only [nod] using h)
  | .tuple ds, h => by simp only [PyData.hasDict]; exact nodA_hasDict ds (by simpa only [nod] using h)
  | .dict _, h => by simp [nod] at h
theorem nodA_hasDict : ∀ ds : List D, nodA ds = true → PyData.hasDictAll ds = false
  | [], _ => rfl
  | d :: ds, h => by
    simp only [nodA, Bool.and_eq_true] at h
    simp only [PyData.hasDictAll, nod_hasDict d h.1, nodA_hasDict ds h.2, Bool.or_self]
end
section
variable {X : Cx} {pins : List (Addr × Obj)} {σ : St} {H : Hp} {s : Shared}
mutual
theorem nol_reads (I : Inv X pins σ H s) : ∀ {v : V} {d : D} {u : Value}, Rp X.K H v d → nol d = true → RelV v u → ∃ as, Reads s.heap u d as ∧ sysModules ∉ as
  | _, _, _, .non, _, r => by cases r; exact ⟨_, Reads.none, by simp⟩
  | _, _, _, .bl b, _, r => by cases r; exact ⟨_, Reads.bool b, by simp⟩
  | _, _, _, .int i, _, r => by obtain ⟨t, rfl⟩ := r; exact ⟨_, Reads.int i t, by simp⟩
  | _, _, _, .str x, _, r => by obtain ⟨t, rfl⟩ := r; exact ⟨_, Reads.str x t, by simp⟩
  | _, _, _, .lst h ra, n, r => by simp [nol] at n
  | _, _, _, .tup h ra, n, r => by
    cases r
    obtain ⟨its, rv, ⟨o, ho, hc, n', hd⟩, _⟩ := I.tuple (.inl (.inl h))
    obtain ⟨as, hr, hs⟩ := nol_readsA I ra (by simpa only [nol] using n) rv
    exact ⟨_, Reads.tuple ho hc hd hr, hs⟩
  | _, _, _, .dK (kvs := kvs) h ra, n, r => by
    cases r
    cases ra with
    | cons _ _ => simp [nol] at n
    | nil =>
      obtain ⟨z, lo, vs, rel, o, es, ep, ho, hx, hdt, hk, hp, _⟩ := dk_rd I.hok (.inl h)
      have e0 : vs = [] := by cases rel; rfl
      subst e0
      have e1 : es.toList = [] := by
        clear hk hdt
        generalize es.toList = l at hp
        cases hp; rfl
      refine ⟨_, Reads.dict (kvs := []) (as := []) (bs := []) ho hx.1 hdt (by rw [e1]; exact .nil) (by rw [e1]; exact .nil), ?_⟩
      simp only [List.append_nil, List.mem_singleton]
      intro q
      rw [q] at lo
      simp at lo
  | _, _, _, .dT (kvs := kvs) h ra, n, r => by
    cases r
    cases ra with
    | cons _ _ => simp [nol] at n
    | nil =>
      obtain ⟨z, lo, xs, pr, o, es, ep, ho, hx, hdt, he, _⟩ := (show ObjOk X.prog X.w H s.heap _ (.dT []) from I.hok _ _ h)
      cases pr
      have e1 : es.toList = [] := he
      refine ⟨_, Reads.dict (kvs := []) (as := []) (bs := []) ho hx.1 hdt (by rw [e1]; exact .nil) (by rw [e1]; exact .nil), ?_⟩
      simp only [List.append_nil, List.mem_singleton]
      intro q
      rw [q] at lo
      simp at lo
theorem nol_readsA (I : Inv X pins σ H s) : ∀ {vs : List V} {ds : List D} {us : List Value}, RpA X.K H vs ds → nolA ds = true → Vals vs us → ∃ as, ReadsAll s.heap us ds as ∧ sysModules ∉ as
  | _, _, _, .nil, _, r => by cases r; exact ⟨_, .nil, by simp⟩
  | _, _, _, .cons h1 h2, n, r => by
    simp only [nolA, Bool.and_eq_true] at n
    cases r with
    | cons r1 r2 =>
      obtain ⟨as, q1, s1⟩ := nol_reads I h1 n.1 r1
      obtain ⟨bs, q2, s2⟩ := nol_readsA I h2 n.2 r2
      exact ⟨_, .cons q1 q2, fun z => (List.mem_append.mp z).elim s1 s2⟩
end
end
/-- what repr is asked -/
def rRepr (K : PySem.W.Frag) : List V → Hp → VK → Prop := fun xs H Q => ∃ (sr : Sr) (G : Hp) (x : V) (d : D), xs = [x] ∧ Wd sr G H ∧ Rr K sr G H x d ∧ rOk 0 d ∧ Q (.str d.shown) H
theorem call_repr {X : Cx} (hg : X.A.guards = some []) (hu : X.A.units + 64 < cLine) : CallR X (.builtin "repr") (rRepr X.K) := by
  intro pins s σ H xs us Q I r h
  obtain ⟨sr, G, x, d, rfl, w, rx, ⟨hn, hs, hd, hz⟩, q⟩ := h
  obtain ⟨u, rfl, ru⟩ := vals1 r
  have fin : ∀ (h' : Heap) (t : Tok) (tk : Nat), (∀ b o, s.heap.get? b = some o → h'.get? b = some o) → EP X pins σ Q (.str d.shown t) { s with heap := h', toks := tk } := fun h' t tk kp =>
    ⟨.str d.shown, H, I.kept (t' := tk) kp, ⟨_, rfl⟩, q⟩
  have fin0 : ∀ (t : Tok), EP X pins σ Q (.str d.shown t) { s with toks := s.toks + 1 } := fun t => ⟨.str d.shown, H, I.tok _, ⟨_, rfl⟩, q⟩
  have hz' : d.shown.length ≤ sizeLine := by rw [slEq]; exact hz
  have reads : ∃ as, Reads s.heap u d as ∧ (d.hasDict = true → sysModules ∉ as) := by
    rcases hn with hn | hn
    · obtain ⟨as, hr⟩ := Dp.reads I d x u (rx.dp w hn) ru
      exact ⟨as, hr, PyData.noDict_hsm (nod_hasDict d hn)⟩
    · cases rx with
      | fz rx =>
        obtain ⟨as, hr, z⟩ := nol_reads I (Rp.sub w.sub rx) hn ru
        exact ⟨as, hr, fun _ => z⟩
      | ol => simp [nol] at hn
      | kc rx =>
        have hn' : nod d = true ∨ True := .inr trivial
        obtain ⟨as, hr⟩ := Dp.reads I d x u rx.dp ru
        refine ⟨as, hr, fun hh => ?_⟩
        have nd : ∀ {v : V} {d : D}, Rk X.K v d → d.hasDict = false := by
          intro v d r
          exact Rk.rec (motive_1 := fun v d _ => d.hasDict = false) (motive_2 := fun v d _ => PyData.hasDictAll d = false) rfl (fun _ => rfl) (fun _ => rfl) (fun _ => rfl)
            (fun _ _ _ _ _ _ ih => by simpa only [PyData.hasDict] using ih) rfl (fun _ _ a b => by simp only [PyData.hasDictAll, a, b, Bool.or_self]) r
        rw [nd rx] at hh; cases hh
  obtain ⟨as, hr, hsm⟩ := reads
  cases x with
  | ref a =>
    obtain rfl : u = Value.ref a := ru
    exact repr_of_reads' hr hs hsm hg (by omega) (fun _ _ e => e) (fun h' t tk kp => fin h' t tk kp) hz'
  | non =>
    obtain rfl : u = Value.none := ru
    cases hr
    exact P.repr_of_none (fin0 _)
  | bl b =>
    obtain rfl : u = Value.bool b := ru
    cases hr
    exact P.repr_of_bool (fin0 _)
  | int i =>
    obtain ⟨t, rfl⟩ := ru
    cases hr
    exact P.repr_of_int (by simpa [PyData.showable] using hs) (fin0 _)
  | str z =>
    obtain ⟨t, rfl⟩ := ru
    cases hr
    exact P.repr_of_str (fin0 _) hz'
  | _ => cases rx with
    | fz r => cases r
    | kc r => cases r
def dRepr (t : DT) : DT := fun ρ Q => t ρ fun d => rOk 0 d ∧ Q (.str d.shown)
theorem rd_repr {K : PySem.W.Frag} {te : TE} {t : DT} (h : RdR K te t) : Rd K (tCB (rRepr K) (tCons te tNil)) (dRepr t) := by
  refine ⟨fun ρ Q Q' m q => h.mono ρ _ _ (fun d q => ⟨q.1, m _ q.2⟩) q, fun sr G0 H0 G H ρ σ Q e q => ?_⟩
  refine h.rd sr G0 H0 G H ρ σ _ e (h.mono _ _ _ (fun x q v G1 H1 l1 r1 => ?_) q)
  exact ⟨sr, G1, v, x, rfl, l1.wd, r1, q.1, q.2 _ G1 H1 l1 (.str _)⟩
end DL
/-! DL12: dict displays with tuple keys, sorted of a dict at a name, several names at once. -/
namespace DL
open PySem PySem.Spec L2
open PyProof.Rows hiding St

def putAll : List (List Key × V) → List (List Key × Addr × V) → List (List Key × V)
  | kvs, [] => kvs
  | kvs, x :: r => putAll (putK kvs x.1 x.2.2) r
def tDispT (trs : List (TE × TE)) : TE := fun σ H Q => ∀ p, H p = none → tPairs trs σ (upd H p (.dT [])) fun ps H2 => H2 p = some (.dT []) ∧
  ∃ kbv : List (List Key × Addr × V), ps = kbv.map (fun x => (V.ref x.2.1, x.2.2)) ∧ (∀ x ∈ kbv, H2 x.2.1 = some (.tup (x.1.map kV))) ∧ kbv.length ≤ 15 ∧ Q (.ref p) (upd H2 p (.dT (putAll [] kbv)))
section
variable {P : Program} {w : World}
theorem putAll_len : ∀ (kbv : List (List Key × Addr × V)) (kvs : List (List Key × V)), (putAll kvs kbv).length ≤ kvs.length + kbv.length
  | [], kvs => Nat.le_refl _
  | x :: r, kvs => by
    have h1 := putAll_len r (putK kvs x.1 x.2.2)
    have h2 := length_putK kvs x.1 x.2.2
    show (putAll (putK kvs x.1 x.2.2) r).length ≤ _
    rw [List.length_cons]; omega
theorem carriesT {X : Cx} {pins : List (Addr × Obj)} {σ : St} {H : Hp} {s : Shared} (I : Inv X pins σ H s) : ∀ {kbv : List (List Key × Addr × V)} {ws : List (Value × Value)}, VV (kbv.map fun x => (V.ref x.2.1, x.2.2)) ws → (∀ x ∈ kbv, H x.2.1 = some (.tup (x.1.map kV))) →
    ∃ rs : List (List Key × Addr × Value), CarriesH (tupleKind (mixKind X.prog X.w)) s.heap ws rs ∧ Paired (fun (x : List Key × Addr × V) (y : List Key × Addr × Value) => x.1 = y.1 ∧ x.2.1 = y.2.1 ∧ RelV x.2.2 y.2.2) kbv rs
  | [], ws, r, _ => by cases r; exact ⟨[], trivial, .nil⟩
  | x :: l, ws, r, h => by
    cases r with
    | cons a t =>
      obtain ⟨rs, c, pr⟩ := carriesT I t fun y hy => h y (List.mem_cons_of_mem _ hy)
      rename_i w ws'
      obtain ⟨w1, w2⟩ := w
      obtain ⟨a1, a2⟩ := a
      obtain rfl : w1 = Value.ref x.2.1 := a1
      exact ⟨(x.1, x.2.1, w2) :: rs, ⟨rfl, rfl, key_of I.hok (h x List.mem_cons_self), c⟩, .cons ⟨rfl, rfl, a2⟩ pr⟩
theorem KT.putAll {H : Hp} : ∀ {kbv : List (List Key × Addr × V)} {rs : List (List Key × Addr × Value)} {kvs : List (List Key × V)} {xs : List (List Key × Addr × Value)}, KT H kvs xs → Paired (fun (x : List Key × Addr × V) (y : List Key × Addr × Value) => x.1 = y.1 ∧ x.2.1 = y.2.1 ∧ RelV x.2.2 y.2.2) kbv rs →
    (∀ x ∈ kbv, H x.2.1 = some (.tup (x.1.map kV))) → KT H (DL.putAll kvs kbv) (storedAllH xs rs)
  | [], _, kvs, xs, k, r, _ => by cases r; exact k
  | x :: l, _, kvs, xs, k, r, h => by
    cases r with
    | cons a t =>
      rename_i y ys
      obtain ⟨y1, y2, y3⟩ := y
      obtain ⟨e1, e2, e3⟩ := a
      have e1' : x.1 = y1 := e1
      have e2' : x.2.1 = y2 := e2
      subst e1' e2'
      show KT H (DL.putAll (putK kvs x.1 x.2.2) l) (storedAllH (storedH xs x.1 x.2.1 y3) ys)
      exact KT.putAll (L2.KT.put k x.1 (h x List.mem_cons_self) e3) t fun z hz => h z (List.mem_cons_of_mem _ hz)
end
theorem pe_dispT {X : Cx} {pos : Pos} {keys : List (Option Expr)} {values : List Expr} {trs : List (TE × TE)} (hu : X.A.units + 1 < cLine) (h : PPs X pos keys values trs) (hall : keys.all (·.isSome) = true) (hl : keys.length = values.length) (h0 : keys ≠ [])
    (h15 : keys.length ≤ 15) : PE X (.Dict keys values pos) (tDispT trs) := by
  refine ⟨fun pins s σ H Q I q => ?_⟩
  have hn := I.hok.fresh (Nat.le_refl s.heap.objs.size)
  have I1 := I.laid (a := s.heap.objs.size) (o := .dT []) (h' := s.heap.push { cls := .type "dict", data := .dict #[] }) (t' := s.toks) (fun _ _ q => Heap.get?_push_of_some _ q) (Nat.le_refl _) (dt_empty s.heap I.big)
  have hpn := pairTrees_length keys values X.env pos hall hl
  rw [arm_eval_Dict, zip_pairTrees keys values X.env pos hall hl, dictDisplay_pairs (pairTrees keys values X.env pos) (fun e => by rw [e] at hpn; exact h0 (List.length_eq_zero_iff.mp hpn.symm)) (by rw [hpn]; omega)]
  refine wpAny_bind (wpAny_standAt (wpAny_bind (wpAny_subDictH (knd := tupleKind (mixKind X.prog X.w)) (Q := fun d s' => wpAny (model X.prog X.w) X.A (pure (Value.ref d)) (EP X pins σ Q) X.xe s') (show X.A.units < cLine by omega) (by rw [hpn]; exact h15)
    (thn (h.run pins _ σ _ _ I1 (q _ hn)) fun ws s2 z => ?_))))
  obtain ⟨ps, H2, I2, rel, e, kbv, ep, hk, lk, q2⟩ := z
  subst ep
  obtain ⟨rs, c, pr⟩ := carriesT I2 rel hk
  obtain ⟨z, hd, xs0, r0, dd⟩ := dt_of I2.hok e
  cases r0
  refine ⟨rs, c, dd, fun h' tk dd' hs => wpAny_pure ⟨.ref s.heap.objs.size, upd H2 s.heap.objs.size (.dT (putAll [] kbv)), ?_, rfl, q2⟩⟩
  obtain ⟨o, es, ep, hq, h2, h3, h4, _, h5⟩ := dd'
  have kt : KT H2 (putAll [] kbv) (storedAllH [] rs) := KT.putAll .nil pr hk
  refine d_write I2 (by rw [e]; exact True.intro) hs ⟨o, hq⟩ ⟨?_, hd, _, kt.keeps fun c ys ec => ?_, o, es, ep, hq, h2, h3, h4, h5⟩
  · have := putAll_len kbv []
    rw [List.length_nil] at this
    rw [sizeLine_eq]; omega
  · rw [upd_ne (ne_of ec e (fun z => nomatch z))]
    exact ec

/-! pairs, plainly -/
abbrev PsT := En → (List (D × D) → Prop) → Prop
def psNil : PsT := fun _ Q => Q []
def psCons (k v : DT) (r : PsT) : PsT := fun ρ Q => k ρ fun x => v ρ fun y => r ρ fun ps => Q ((x, y) :: ps)
structure RPs (K : PySem.W.Frag) (trs : List (TE × TE)) (t : PsT) : Prop where
  mono : ∀ ρ Q Q', (∀ ps, Q ps → Q' ps) → t ρ Q → t ρ Q'
  rd : ∀ sr G0 H0 G H ρ σ Q, ER K sr G0 H0 G H ρ σ → t ρ (fun es => ∀ ps G' H', Le sr G H G' H' → Paired (fun (p : V × V) (e : D × D) => Rp K G' p.1 e.1 ∧ Rp K G' p.2 e.2) ps es → Q ps H') → tPairs trs σ H Q
section
variable {K : PySem.W.Frag} {tk tv : TE} {k v : DT} {trs : List (TE × TE)} {t : PsT}
theorem rps_nil : RPs K [] psNil := ⟨fun ρ Q Q' m q => m _ q, fun sr G0 H0 G H ρ σ Q e q => q [] G H (Le.refl e.wd) .nil⟩
theorem rps_cons (hk : Rd K tk k) (hv : Rd K tv v) (h : RPs K trs t) : RPs K ((tk, tv) :: trs) (psCons k v t) := by
  refine ⟨fun ρ Q Q' m q => hk.mono ρ _ _ (fun x q => hv.mono ρ _ _ (fun y q => h.mono ρ _ _ (fun ps q => m _ q) q) q) q, fun sr G0 H0 G H ρ σ Q e q => ?_⟩
  refine hk.rd sr G0 H0 G H ρ σ _ e (hk.mono _ _ _ (fun x q u G1 H1 l1 r1 => ?_) q)
  refine hv.rd sr G0 H0 G1 H1 ρ σ _ (e.le' l1) (hv.mono _ _ _ (fun y q u2 G2 H2 l2 r2 => ?_) q)
  refine h.rd sr G0 H0 G2 H2 ρ σ _ ((e.le' l1).le' l2) (h.mono _ _ _ (fun es q ps G3 H3 l3 r3 => ?_) q)
  have l23 := Le.trans l1.wd l2 l3
  exact q _ G3 H3 (Le.trans e.wd l1 l23) (.cons ⟨Rp.sub (l23.gsub l1.wd) r1, Rp.sub (l3.gsub l2.wd) r2⟩ r3)
end
/-- the entries of a display -/
def putAllD : List (D × D) → List (D × D) → List (D × D)
  | es, [] => es
  | es, (k, v) :: r => putAllD (putD' es k v) r
def sDispT (i : Nat) (t : PsT) : ST := fun E ρ => t ρ fun es => (es.all (fun p => keyOk true p.1) = true ∧ es.length ≤ 15) ∧ E.nx (ρ.set i (.od true (putAllD [] es)))
section
variable {K : PySem.W.Frag} {sr : Sr} {G0 H0 G H G1 H1 : Hp} {ρ : En} {σ : St} {tk tv : TE} {k v : DT} {trs : List (TE × TE)} {t : PsT}
theorem RpT.putAll {G : Hp} : ∀ {kbv : List (List Key × Addr × V)} {es : List (D × D)} {kvs : List (List Key × V)} {fs : List (D × D)}, RpT K G kvs fs →
    Paired (fun (x : List Key × Addr × V) (e : D × D) => e.1 = .tuple (x.1.map kD) ∧ Rp K G x.2.2 e.2) kbv es → RpT K G (DL.putAll kvs kbv) (putAllD fs es)
  | [], _, kvs, fs, r, p => by cases p; exact r
  | x :: l, _, kvs, fs, r, p => by
    cases p with
    | cons a t =>
      rename_i e es
      obtain ⟨e1, e2⟩ := e
      obtain ⟨h1, h2⟩ := a
      have h1' : e1 = .tuple (x.1.map kD) := h1
      subst h1'
      show RpT K G (DL.putAll (putK kvs x.1 x.2.2) l) (putAllD (putD' fs (.tuple (x.1.map kD)) e2) es)
      exact RpT.putAll (r.put x.1 h2) t
theorem kbv_of {G : Hp} : ∀ {ps : List (V × V)} {es : List (D × D)}, Paired (fun (p : V × V) (e : D × D) => Rp K G p.1 e.1 ∧ Rp K G p.2 e.2) ps es → es.all (fun p => keyOk true p.1) = true →
    ∃ kbv : List (List Key × Addr × V), ps = kbv.map (fun x => (V.ref x.2.1, x.2.2)) ∧ (∀ x ∈ kbv, G x.2.1 = some (.tup (x.1.map kV))) ∧ Paired (fun (x : List Key × Addr × V) (e : D × D) => e.1 = .tuple (x.1.map kD) ∧ Rp K G x.2.2 e.2) kbv es
  | _, _, .nil, _ => ⟨[], rfl, by simp, .nil⟩
  | _, _, .cons (a := p) (b := e) a t, h => by
    simp only [List.all_cons, Bool.and_eq_true] at h
    obtain ⟨kbv, e1, e2, e3⟩ := kbv_of t h.2
    obtain ⟨kk, hk'⟩ := Option.isSome_iff_exists.mp (show (toKT e.1).isSome = true from h.1)
    have ee := toKT_of hk'
    have a1 := a.1
    rw [ee] at a1
    obtain ⟨b, ey, hb⟩ := tup_key a1
    obtain ⟨p1, p2⟩ := p
    have ey' : p1 = .ref b := ey
    subst ey'
    exact ⟨(kk, b, p2) :: kbv, by rw [e1]; rfl, fun x hx => (List.mem_cons.mp hx).elim (fun z => by subst z; exact hb) (e2 x), .cons ⟨ee, a.2⟩ e3⟩
theorem rs_dispT (i : Nat) (h : RPs K trs t) : Rs K (tAsg (tDispT trs) (gName i)) (sDispT i t) := by
  refine ⟨fun E E' ρ m q => h.mono ρ _ _ (fun es q => ⟨q.1, m.nx _ q.2⟩) q, fun sr G0 H0 G H ρ σ Z E e q f p n => ?_⟩
  have l0 : Le sr G H G (upd H p (.dT [])) := Le.newO e.wd n
  refine h.rd sr G0 H0 G _ ρ σ _ (e.le' l0) (h.mono _ _ _ (fun es q ps G2 H2 l2 r2 => ?_) q)
  obtain ⟨⟨ok, hl⟩, q⟩ := q
  have ns : ¬ inSr sr p := e.wd.nosr n
  have hp2 : H2 p = some (.dT []) := l2.keep p _ upd_same ns
  have gp2 : G2 p = none := by rw [l2.fro p _ upd_same]; exact e.wd.gn n
  obtain ⟨kbv, e1, e2, e3⟩ := kbv_of r2 ok
  have hlen : kbv.length ≤ 15 := by rw [Paired.length e3]; exact hl
  refine ⟨hp2, kbv, e1, fun x hx => l2.wd.sub _ _ (e2 x hx), hlen, ?_⟩
  have l02 := Le.trans e.wd l0 l2
  have l3 : Le sr G H G2 (upd H2 p (.dT (putAll [] kbv))) := Le.wr l02 n e.wd gp2
  exact f.nx _ _ G2 _ (l3.subG e.wd) (e.setO l3 n (.inr (.inr ⟨true, _, _, rfl, gp2, upd_same, show DcR K G2 true (.dT (putAll [] kbv)) (putAllD [] es) from RpT.putAll .nil e3⟩))) q
end

/-! sorted(d), d at a name, its keys pairs of ints -/
def pairD (p : Int × Int) : D := .tuple [.int p.1, .int p.2]
def toP : D → Option (Int × Int)
  | .tuple [.int i, .int j] => some (i, j)
  | _ => none
def toPs : List D → Option (List (Int × Int))
  | [] => some []
  | d :: r => match toP d, toPs r with
    | some p, some ps => some (p :: ps)
    | _, _ => none
theorem toP_of {d : D} {p : Int × Int} (h : toP d = some p) : d = pairD p := by
  unfold toP at h
  split at h
  · cases h; rfl
  · cases h
theorem toPs_of : ∀ {ds : List D} {ps : List (Int × Int)}, toPs ds = some ps → ds = ps.map pairD
  | [], ps, h => by cases h; rfl
  | d :: r, ps, h => by
    unfold toPs at h
    split at h
    · rename_i p ps' h1 h2
      cases h
      rw [toP_of h1, toPs_of h2]; rfl
    · cases h
theorem toPs_map : ∀ ps : List (Int × Int), toPs (ps.map pairD) = some ps
  | [] => rfl
  | p :: r => by
    show (match toP (pairD p), toPs (r.map pairD) with | some p, some ps => some (p :: ps) | _, _ => none) = _
    rw [toPs_map r]; rfl
def dSortD (i : Nat) : DT := fun ρ Q => match ρ[i]? with
  | some (.od true es) => (match toPs (es.map (·.1)) with
    | some ps => Q (.list ((sortP ps).map pairD))
    | none => False)
  | _ => False
section
variable {K : PySem.W.Frag}
theorem rpt_keys {G : Hp} : ∀ {kvs : List (List Key × V)} {es : List (D × D)} {ps : List (Int × Int)}, RpT K G kvs es → es.map (·.1) = ps.map pairD → kvs.map (·.1) = ps.map (fun p => [Sum.inl p.1, Sum.inl p.2])
  | _, _, [], .nil, _ => rfl
  | _, _, _ :: _, .nil, h => by simp at h
  | _, _, [], .cons _ _, h => by simp at h
  | _, _, p :: ps, .cons (k := k) _ t, h => by
    simp only [List.map_cons, List.cons.injEq] at h
    rw [List.map_cons, List.map_cons, rpt_keys t h.2]
    congr 1
    have h1 : PyData.tuple (k.map kD) = pairD p := h.1
    have h2 := congrArg toKT h1
    have h3 : toKs (k.map kD) = some k := by
      clear h h1 h2
      induction k with
      | nil => rfl
      | cons a l ih =>
        show (match toK (kD a), toKs (l.map kD) with | some k, some ks => some (k :: ks) | _, _ => none) = _
        rw [toK_kD, ih]
    have h4 : toKT (.tuple (k.map kD)) = some k := h3
    rw [h4] at h2
    exact Option.some.inj h2
theorem rf_sortD (i : Nat) : RdF K (tCB rSortedDT (tCons (tVar i) tNil)) (dSortD i) := by
  refine ⟨fun ρ Q Q' m q => ?_, fun sr G0 H0 G H ρ σ Q e q => ?_⟩
  · unfold dSortD at q ⊢
    split at q
    · split at q
      · exact m _ q
      · exact q.elim
    · exact q.elim
  · unfold dSortD at q
    split at q
    · rename_i es hs
      split at q
      · rename_i ps hps
        have ek := toPs_of hps
        obtain ⟨p, o, hp, hH, r, ns⟩ := e.atD hs
        cases o with
        | dT kvs =>
          have r' : RpT K G kvs es := r
          refine ⟨.ref p, hp, p, kvs, ps, rfl, .inl hH, rpt_keys r' ek, fun z bs nz pb => ?_⟩
          have ra : RpA K G (bs.map V.ref) ((sortP ps).map pairD) := by
            clear hps ek
            generalize sortP ps = l at pb
            induction pb with
            | nil => exact .nil
            | cons a t ih => exact .cons (.tup (e.wd.tup _ _ a) (.cons (.int _) (.cons (.int _) .nil))) ih
          exact Kf.lst e.wd ra q z nz
        | _ => exact r.elim
      · exact q.elim
    · exact q.elim
end

/-! several names at once -/
def sPar (i j : Nat) (a : AT) : ST := fun E ρ => a ρ fun ds => match ds with
  | [x, y] => E.nx ((ρ.set i (.d x)).set j (.d y))
  | _ => False
def sPar3 (i j l : Nat) (a : AT) : ST := fun E ρ => a ρ fun ds => match ds with
  | [x, y, z] => E.nx (((ρ.set i (.d x)).set j (.d y)).set l (.d z))
  | _ => False
/-- the first a new list -/
def sParL (i j : Nat) (t u : DT) : ST := fun E ρ => t ρ fun d => u ρ fun y => match d with
  | .list xs => E.nx ((ρ.set i (.ol xs)).set j (.d y))
  | _ => False
/-- constants or plain -/
inductive Rc (K : PySem.W.Frag) (G : Hp) : V → D → Prop
  | fz {v : V} {d : D} : Rp K G v d → Rc K G v d
  | kc {v : V} {d : D} : Rk K v d → Rc K G v d
def Kc (K : PySem.W.Frag) (sr : Sr) (G H : Hp) (Q : VK) (d : D) : Prop := ∀ v G' H', Le sr G H G' H' → Rc K G' v d → Q v H'
structure RdC (K : PySem.W.Frag) (te : TE) (t : DT) : Prop where
  mono : Mono t
  rd : ∀ sr G0 H0 G H ρ σ Q, ER K sr G0 H0 G H ρ σ → t ρ (Kc K sr G H Q) → te σ H Q
def sParB (i j : Nat) (t u : DT) : ST := fun E ρ => t ρ fun x => u ρ fun y => E.nx ((ρ.set i (.b x)).set j (.b y))
/-- x, y = {}, e: the dict's keys ints and texts, or tuples of them -/
def sParD (k : Bool) (i j : Nat) (u : DT) : ST := fun E ρ => u ρ fun y => E.nx ((ρ.set i (.od k [])).set j (.d y))
section
variable {K : PySem.W.Frag} {te tu : TE} {t u : DT} {ta : TA} {a : AT}
theorem Rc.r {sr : Sr} {G H : Hp} {v : V} {d : D} (r : Rc K G v d) : Rr K sr G H v d := by
  cases r with
  | fz r => exact .fz r
  | kc r => exact .kc r
theorem Rc.sub {G G1 : Hp} {v : V} {d : D} (r : Rc K G v d) (s : SubG G G1) : Rc K G1 v d := by
  cases r with
  | fz r => exact .fz (Rp.sub s r)
  | kc r => exact .kc r
theorem Rc.b {sr : Sr} {H0 G : Hp} {v : V} {d : D} (r : Rc K G v d) : RrB K sr H0 G v d := by
  cases r with
  | fz r => exact .fz r
  | kc r => exact .kc r
theorem Kr.c {sr : Sr} {G H : Hp} {Q : VK} {d : D} (k : Kr K sr G H Q d) : Kc K sr G H Q d := fun v G' H' l r => k v G' H' l r.r
theorem RdC.r (h : RdC K te t) : RdR K te t := ⟨h.mono, fun sr G0 H0 G H ρ σ Q e q => h.rd sr G0 H0 G H ρ σ Q e (h.mono _ _ _ (fun d k => k.c) q)⟩
theorem Rd.c (h : Rd K te t) : RdC K te t := ⟨h.mono, fun sr G0 H0 G H ρ σ Q e q => h.rd sr G0 H0 G H ρ σ Q e (h.mono _ _ _ (fun d k v G' H' l r => k v G' H' l (.fz r)) q)⟩
theorem ER.setB {sr : Sr} {G0 H0 G H : Hp} {ρ : En} {σ : St} (e : ER K sr G0 H0 G H ρ σ) {i : Nat} {v : V} {d : D} (r : Rc K G v d) : ER K sr G0 H0 G H (ρ.set i (.b d)) (σ.set i (some v)) := by
  obtain ⟨w0, le, len, ow, h⟩ := e
  refine ⟨w0, le, by rw [List.length_set, List.length_set]; exact len, ow, fun j s hs => ?_⟩
  by_cases q : i = j
  · subst q
    by_cases hi : i < ρ.length
    · rw [List.getElem?_set_self hi] at hs
      cases hs
      rw [List.getElem?_set_self (by rw [len]; exact hi)]
      exact ⟨v, rfl, r.b⟩
    · rw [List.getElem?_eq_none (by rw [List.length_set]; omega)] at hs
      cases hs
  · rw [List.getElem?_set_ne q] at hs
    rw [List.getElem?_set_ne q]
    exact h j s hs
theorem rs_par (i j : Nat) (h : RA K (PR K) ta a) : Rs K (tPar i j ta) (sPar i j a) := by
  refine ⟨fun E E' ρ m q => h.mono ρ _ _ (fun ds q => ?_) q, fun sr G0 H0 G H ρ σ Z E e q f => ?_⟩
  · split at q
    · exact m.nx _ q
    · exact q.elim
  · refine h.rd sr G0 H0 G H ρ σ _ e (h.mono _ _ _ (fun ds q vs G1 H1 l1 r1 => ?_) q)
    split at q
    · obtain ⟨v, w, rfl, r, r'⟩ := pr2 r1
      exact ⟨v, w, rfl, f.nx _ _ G1 H1 (l1.subG e.wd) (((e.le' l1).set' r).set' r') q⟩
    · exact q.elim
theorem pr3 {α β : Type} {R : α → β → Prop} {vs : List α} {x y z : β} (h : Paired R vs [x, y, z]) : ∃ v u w, vs = [v, u, w] ∧ R v x ∧ R u y ∧ R w z := by
  cases h with
  | cons a t => obtain ⟨u, w, rfl, b, c⟩ := pr2 t; exact ⟨_, _, _, rfl, a, b, c⟩
theorem rs_par3 (i j l : Nat) (h : RA K (PR K) ta a) : Rs K (tPar3 i j l ta) (sPar3 i j l a) := by
  refine ⟨fun E E' ρ m q => h.mono ρ _ _ (fun ds q => ?_) q, fun sr G0 H0 G H ρ σ Z E e q f => ?_⟩
  · split at q
    · exact m.nx _ q
    · exact q.elim
  · refine h.rd sr G0 H0 G H ρ σ _ e (h.mono _ _ _ (fun ds q vs G1 H1 l1 r1 => ?_) q)
    split at q
    · obtain ⟨v, w, x, rfl, r, r', r''⟩ := pr3 r1
      exact ⟨v, w, x, rfl, f.nx _ _ G1 H1 (l1.subG e.wd) ((((e.le' l1).set' r).set' r').set' r'') q⟩
    · exact q.elim
theorem rs_parL (i j : Nat) (h : RdF K te t) (h2 : Rd K tu u) : Rs K (tPar i j (tCons te (tCons tu tNil))) (sParL i j t u) := by
  refine ⟨fun E E' ρ m q => h.mono ρ _ _ (fun d q => h2.mono ρ _ _ (fun y q => ?_) q) q, fun sr G0 H0 G H ρ σ Z E e q f => ?_⟩
  · split at q
    · exact m.nx _ q
    · exact q.elim
  · refine h.rd sr G0 H0 G H ρ σ _ e (h.mono _ _ _ (fun d q p G1 H1 l1 n fr => ?_) q)
    refine h2.rd sr G0 H0 G1 H1 ρ σ _ (e.le' l1) (h2.mono _ _ _ (fun y q v G2 H2 l2 r2 => ?_) q)
    cases fr with
    | ol g1 h1 ra =>
      have ns : ¬ inSr sr p := e.wd.nosr n
      have l12 := Le.trans e.wd l1 l2
      have e2 := e.setO (i := i) l12 n (.inr (.inl ⟨_, _, rfl, (by rw [l2.fro p _ h1]; exact g1), l2.keep p _ h1 ns, RpA.sub (l2.gsub l1.wd) ra⟩))
      exact ⟨.ref p, v, rfl, f.nx _ _ G2 H2 (l12.subG e.wd) (e2.set' r2) q⟩
theorem rs_parB (i j : Nat) (h : RdC K te t) (h2 : RdC K tu u) : Rs K (tPar i j (tCons te (tCons tu tNil))) (sParB i j t u) := by
  refine ⟨fun E E' ρ m q => h.mono ρ _ _ (fun d q => h2.mono ρ _ _ (fun y q => m.nx _ q) q) q, fun sr G0 H0 G H ρ σ Z E e q f => ?_⟩
  refine h.rd sr G0 H0 G H ρ σ _ e (h.mono _ _ _ (fun d q v G1 H1 l1 r1 => ?_) q)
  refine h2.rd sr G0 H0 G1 H1 ρ σ _ (e.le' l1) (h2.mono _ _ _ (fun y q v2 G2 H2 l2 r2 => ?_) q)
  have l12 := Le.trans e.wd l1 l2
  exact ⟨v, v2, rfl, f.nx _ _ G2 H2 (l12.subG e.wd) (((e.le' l12).setB (r1.sub (l2.gsub l1.wd))).setB r2) q⟩
theorem rs_parD (k : Bool) (i j : Nat) (h2 : Rd K tu u) : Rs K (tAsg (tTup (tCons (if k then tDNewT else tDNewK) (tCons tu tNil))) (gSeqU K 2 (gCons (gName i) (gCons (gName j) gNil)))) (sParD k i j u) := by
  refine ⟨fun E E' ρ m q => h2.mono ρ _ _ (fun y q => m.nx _ q) q, fun sr G0 H0 G H ρ σ Z E e q f => ?_⟩
  have main : ∀ p o, H p = none → (∀ xs, o ≠ HO.tup xs) → (∀ G', DcR K G' k o []) → tu σ (upd H p o) fun x H1 => [V.ref p, x].length ≤ sizeLine ∧ ∀ T, H1 T = none → gSeqU K 2 (gCons (gName i) (gCons (gName j) gNil)) (.ref T) σ (upd H1 T (.tup [V.ref p, x])) fun σ' H' => Z.nx σ' H' := by
    intro p o n ho hd
    have l0 : Le sr G H G (upd H p o) := Le.newO e.wd n ho
    refine h2.rd sr G0 H0 G _ ρ σ _ (e.le' l0) (h2.mono _ _ _ (fun y q v G1 H1 l1 r1 => ⟨(by show 2 ≤ sizeLine; decide), fun T nT => ?_⟩) q)
    have ns : ¬ inSr sr p := e.wd.nosr n
    have hp1 : H1 p = some o := l1.keep p _ upd_same ns
    have gp1 : G1 p = none := by rw [l1.fro p _ upd_same]; exact e.wd.gn n
    have l2 : Le sr G1 H1 (upd G1 T (.tup [V.ref p, v])) (upd H1 T (.tup [V.ref p, v])) := Le.newF l1.wd nT
    have l01 := Le.trans e.wd l0 l1
    have l02 := Le.trans e.wd l01 l2
    have np : p ≠ T := fun z => by subst z; rw [hp1] at nT; cases nT
    have e2 := e.setO (i := i) (s := .od k []) l02 n (.inr (.inr ⟨k, [], o, rfl, by rw [upd_ne np]; exact gp1, by rw [upd_ne np]; exact hp1, hd _⟩))
    refine .inl ⟨T, [V.ref p, v], rfl, .inl (.inl upd_same), rfl, _, _, rfl, _, _, rfl, ?_⟩
    exact ⟨rfl, f.nx _ _ _ _ (l02.subG e.wd) (e2.set' (Rp.sub (l2.gsub l1.wd) r1)) q⟩
  cases k with
  | false => exact fun p n => main p _ n (fun _ h => by cases h) (fun _ => .nil)
  | true => exact fun p n => main p _ n (fun _ h => by cases h) (fun _ => .nil)
end
end DL
/-! DL13: one rule for each construct of the text: its derivation and its reading together. -/
namespace DL
open PySem PySem.Spec L2
open PyProof.Rows hiding St

structure DPw (X : Cx) (e : Expr) (tt : TT) (t : BT) : Prop where
  pw : PW X e tt
  rd : RT X.K tt t
structure DC (X : Cx) (e : Expr) (te : TE) (t : DT) : Prop where
  pe : PE X e te
  rd : RdC X.K te t
structure DA {α : Type} (X : Cx) (R : RelX α) (es : List Expr) (ta : TA) (a : En → (List α → Prop) → Prop) : Prop where
  pa : PA X es ta
  rd : RA X.K R ta a
structure DI (X : Cx) (tg e : Expr) (wi : TI) (t : IT) : Prop where
  pi : PI X tg e wi
  rd : Ri X.K wi t
structure DIE (X : Cx) (tg e : Expr) (wi : TI) (t : IE) : Prop where
  pi : PI X tg e wi
  rd : RiE X.K wi t
structure DG (X : Cx) (e : Expr) (ix : List Nat) (g : TG) (t : GT) : Prop where
  pg : PG X e g
  rd : Rg X.K ix g t
structure DGs (X : Cx) (es : List Expr) (ix : List Nat) (g : TGs) (t : GTs) : Prop where
  pg : PGs X es g
  rd : Rgs X.K ix g t
structure DS (X : Cx) (st : Stmt) (ts : TS) (T : ST) : Prop where
  ps : PS X st ts
  rd : Rs X.K ts T
structure DSs (X : Cx) (sts : List Stmt) (ts : TS) (T : ST) : Prop where
  ps : PSs X sts ts
  rd : Rs X.K ts T
structure DO (X : Cx) (e : Option Expr) (to : TO) (t : PT') : Prop where
  po : PO X e to
  rd : RPt to t X.K
structure DPs (X : Cx) (pos : Pos) (keys : List (Option Expr)) (values : List Expr) (trs : List (TE × TE)) (t : PsT) : Prop where
  pp : PPs X pos keys values trs
  rd : RPs X.K trs t
structure DTs (X : Cx) (ifs : List Expr) (tt : TT) (t : BT) : Prop where
  pt : PTs X ifs tt
  rd : RT X.K tt t
theorem DC.r {X : Cx} {e : Expr} {te : TE} {t : DT} (h : DC X e te t) : DR X e te t := ⟨h.pe, h.rd.r⟩
theorem DE.c {X : Cx} {e : Expr} {te : TE} {t : DT} (h : DE X e te t) : DC X e te t := ⟨h.pe, h.rd.c⟩
section
variable {X : Cx} {a b e f c : Expr} {es : List Expr} {pos p p1 p2 p3 pos' apos cpos tpos : Pos} {ta tb te th : TE} {x y t u : DT} {k : Nat}
/-! names, constants -/
theorem de_var (i : Nat) {n : Str} (hN : X.N[i]? = some n := by rfl) (hv : Vis X.env.scope n := by first | exact Or.inl rfl | exact Or.inr (Or.inl rfl) | exact Or.inr (Or.inr rfl)) (hd : (n == ("__debug__" : Str)) = false := by decide)
    (hcd : (n == ("__classdict__" : Str)) = false := by decide) : DE X (.Name n pos) (tVar i) (dVar i) := ⟨pe_var hN hv hd hcd, rd_var i⟩
theorem dw_var (i : Nat) {n : Str} (hN : X.N[i]? = some n := by rfl) (hv : Vis X.env.scope n := by first | exact Or.inl rfl | exact Or.inr (Or.inl rfl) | exact Or.inr (Or.inr rfl)) (hd : (n == ("__debug__" : Str)) = false := by decide)
    (hcd : (n == ("__classdict__" : Str)) = false := by decide) : DW X (.Name n pos) (tVar i) (wVar i) := ⟨pe_var hN hv hd hcd, rw_var i⟩
theorem dr_var (i : Nat) {n : Str} (hN : X.N[i]? = some n := by rfl) (hv : Vis X.env.scope n := by first | exact Or.inl rfl | exact Or.inr (Or.inl rfl) | exact Or.inr (Or.inr rfl)) (hd : (n == ("__debug__" : Str)) = false := by decide)
    (hcd : (n == ("__classdict__" : Str)) = false := by decide) : DR X (.Name n pos) (tVar i) (rVar i) := ⟨pe_var hN hv hd hcd, rr_var i⟩
theorem de_int {i : Int} {j : Nat} : DE X (.Constant (.int i) j pos) (tC (.int i)) (dC (.int i)) := ⟨pe_int, rd_c fun _ => .int _⟩
theorem de_bl {i : Bool} {j : Nat} : DE X (.Constant (.bool i) j pos) (tC (.bl i)) (dC (.bool i)) := ⟨pe_bl, rd_c fun _ => .bl _⟩
theorem de_non {j : Nat} : DE X (.Constant .none j pos) (tC .non) (dC .none) := ⟨pe_non, rd_c fun _ => .non⟩
theorem de_str {z : Str} {j : Nat} : DE X (.Constant (.str z) j pos) (tC (.str z)) (dC (.str z)) := ⟨pe_str, rd_c fun _ => .str _⟩
theorem dr_glob {n : Str} {v : V} {d : D} {w : Value} (g : Gl X n) (hm : X.mg n = some w) (r : RelV v w) (q : Rk X.K v d) (hd : (n == ("__debug__" : Str)) = false := by decide) : DR X (.Name n pos) (tC v) (dC d) :=
  ⟨pe_glob g hm r hd, ⟨fun ρ Q Q' h q => h _ q, fun sr G0 H0 G H ρ σ Q e z => z v G H (Le.refl e.wd) (.kc q)⟩⟩
/-! operators -/
theorem de_add {K : PySem.W.Frag} (h1 : DW X a ta x) (h2 : DW X b tb y) (hK : X.K = K := by rfl) : DE X (.BinOp a .Add b pos) (tOp (rAdd K) ta tb) (dOp kAdd x y) := by
  subst hK
  exact ⟨pe_op op_addU h1.pe h2.pe, rd_opw ro_add h1.rd h2.rd⟩
theorem df_cat (h1 : DR X a ta x) (h2 : DR X b tb y) : DF X (.BinOp a .Add b pos) (tOp rCat ta tb) (dOp kCat x y) := ⟨pe_op op_cat h1.pe h2.pe, rf_op ro_cat h1.rd h2.rd⟩
def kSub : K2 := kI (fun _ _ => True) fun i j => .int (i - j)
def kMul : K2 := kI CMul fun i j => .int (i * j)
def kDiv : K2 := kI CDivN fun i j => .int (i.fdiv j)
def kMod : K2 := kI (fun _ j => j ≠ 0) fun i j => .int (i.fmod j)
def kLt : K2 := kI (fun _ _ => True) fun i j => .bool (decide (i < j))
def kLe : K2 := kI (fun _ _ => True) fun i j => .bool (decide (i ≤ j))
def kGt : K2 := kI (fun _ _ => True) fun i j => .bool (decide (j < i))
def kGe : K2 := kI (fun _ _ => True) fun i j => .bool (decide (j ≤ i))
theorem de_sub (h1 : DR X a ta x) (h2 : DR X b tb y) : DE X (.BinOp a .Sub b pos) (tOp (rI0 fun i j => .int (i - j)) ta tb) (dOp kSub x y) := ⟨pe_op op_sub h1.pe h2.pe, rd_op ro_sub h1.rd h2.rd⟩
theorem de_mul (h1 : DR X a ta x) (h2 : DR X b tb y) : DE X (.BinOp a .Mult b pos) (tOp (rI CMul fun i j => .int (i * j)) ta tb) (dOp kMul x y) := ⟨pe_op op_mul h1.pe h2.pe, rd_op ro_mul h1.rd h2.rd⟩
theorem de_fdiv (h1 : DR X a ta x) (h2 : DR X b tb y) : DE X (.BinOp a .FloorDiv b pos) (tOp (rI CDivN fun i j => .int (i.fdiv j)) ta tb) (dOp kDiv x y) := ⟨pe_op op_fdivN h1.pe h2.pe, rd_op ro_fdiv h1.rd h2.rd⟩
theorem de_mod (h1 : DR X a ta x) (h2 : DR X b tb y) : DE X (.BinOp a .Mod b pos) (tOp (rI (fun _ j => j ≠ 0) fun i j => .int (i.fmod j)) ta tb) (dOp kMod x y) := ⟨pe_op op_modN h1.pe h2.pe, rd_op ro_mod h1.rd h2.rd⟩
theorem de_neg (h1 : DR X a ta x) : DE X (.UnaryOp .USub a pos) (tUn (rU fun i => .int (-i)) ta) (dUn kNeg x) := ⟨pe_un un_neg h1.pe, rd_neg h1.rd⟩
theorem hu65 {A : Around} {k : Nat} (hr : Room k A) : A.units + 65 < cLine := by have := hr.un; omega
theorem hu64 {A : Around} {k : Nat} (hr : Room k A) : A.units + 64 < cLine := by have := hr.un; omega
/-! comparisons: as values, as tests -/
def hm' (op : CmpOp) (b : Expr) : Prop := behindInMarks op b = false
section
variable {kk : Nat}
theorem de_lt (h1 : DR X a ta x) (h2 : DR X b tb y) (hm : behindInMarks .Lt b = false := by exact nomark _) : DE X (.Compare a [.Lt] [b] pos) (tOp (rI0 fun i j => .bl (decide (i < j))) ta tb) (dOp kLt x y) := ⟨pe_cmpR op_lt h1.pe h2.pe hm, rd_op ro_lt h1.rd h2.rd⟩
theorem de_le (h1 : DR X a ta x) (h2 : DR X b tb y) (hm : behindInMarks .LtE b = false := by exact nomark _) : DE X (.Compare a [.LtE] [b] pos) (tOp (rI0 fun i j => .bl (decide (i ≤ j))) ta tb) (dOp kLe x y) := ⟨pe_cmpR op_le h1.pe h2.pe hm, rd_op ro_le h1.rd h2.rd⟩
theorem de_gt (h1 : DR X a ta x) (h2 : DR X b tb y) (hm : behindInMarks .Gt b = false := by exact nomark _) : DE X (.Compare a [.Gt] [b] pos) (tOp (rI0 fun i j => .bl (decide (j < i))) ta tb) (dOp kGt x y) := ⟨pe_cmpR op_gt h1.pe h2.pe hm, rd_op ro_gt h1.rd h2.rd⟩
theorem de_ge (h1 : DR X a ta x) (h2 : DR X b tb y) (hm : behindInMarks .GtE b = false := by exact nomark _) : DE X (.Compare a [.GtE] [b] pos) (tOp (rI0 fun i j => .bl (decide (j ≤ i))) ta tb) (dOp kGe x y) := ⟨pe_cmpR op_ge h1.pe h2.pe hm, rd_op ro_ge h1.rd h2.rd⟩
theorem de_eq {K : PySem.W.Frag} (hr : Room kk X.A) (h1 : DR X a ta x) (h2 : DR X b tb y) (hm : behindInMarks .Eq b = false := by exact nomark _) (hK : X.K = K := by rfl) : DE X (.Compare a [.Eq] [b] pos) (tOp (rEqD K) ta tb) (dOp kEq x y) := by
  subst hK
  exact ⟨pe_cmpR (op_eqD (hu64 hr)) h1.pe h2.pe hm, rd_op ro_eq h1.rd h2.rd⟩
theorem de_ne {K : PySem.W.Frag} (hr : Room kk X.A) (h1 : DR X a ta x) (h2 : DR X b tb y) (hm : behindInMarks .NotEq b = false := by exact nomark _) (hK : X.K = K := by rfl) : DE X (.Compare a [.NotEq] [b] pos) (tOp (rNeD K) ta tb) (dOp kNe x y) := by
  subst hK
  exact ⟨pe_cmpR (op_neD (hu64 hr)) h1.pe h2.pe hm, rd_op ro_ne h1.rd h2.rd⟩
theorem de_in {K : PySem.W.Frag} (hr : Room kk X.A) (h1 : DR X a ta x) (h2 : DR X b tb y) (hm : behindInMarks .In b = false := by first | rfl | with_unfolding_all rfl) (hK : X.K = K := by rfl) : DE X (.Compare a [.In] [b] pos) (tOp (rIn2 K) ta tb) (dOp kIn x y) := by
  subst hK
  exact ⟨pe_cmpR (op_in2 (hu65 hr)) h1.pe h2.pe hm, rd_op ro_in h1.rd h2.rd⟩
theorem de_notIn {K : PySem.W.Frag} (hr : Room kk X.A) (h1 : DR X a ta x) (h2 : DR X b tb y) (hm : behindInMarks .NotIn b = false := by first | rfl | with_unfolding_all rfl) (hK : X.K = K := by rfl) : DE X (.Compare a [.NotIn] [b] pos) (tOp (rNotIn2 K) ta tb) (dOp kNotIn x y) := by
  subst hK
  exact ⟨pe_cmpR (op_notIn2 (hu65 hr)) h1.pe h2.pe hm, rd_op ro_notIn h1.rd h2.rd⟩
theorem de_isN (h1 : DR X a ta x) (h2 : DR X b tb y) (hm : behindInMarks .Is b = false := by exact nomark _) : DE X (.Compare a [.Is] [b] pos) (tOp (fun x y H Q => y = .non ∧ Q (.bl (decide (x = .non))) H) ta tb) (dOp kIsN x y) := ⟨pe_cmpR op_isN h1.pe h2.pe hm, rd_op ro_isN h1.rd h2.rd⟩
theorem de_notN (h1 : DR X a ta x) (h2 : DR X b tb y) (hm : behindInMarks .IsNot b = false := by exact nomark _) : DE X (.Compare a [.IsNot] [b] pos) (tOp (fun x y H Q => y = .non ∧ Q (.bl (!decide (x = .non))) H) ta tb) (dOp kNotN x y) := ⟨pe_cmpR op_notN h1.pe h2.pe hm, rd_op ro_notN h1.rd h2.rd⟩
theorem dt_lt (h1 : DR X a ta x) (h2 : DR X b tb y) (hm : behindInMarks .Lt b = false := by exact nomark _) : DTst X (.Compare a [.Lt] [b] pos) (tTest (tOp (rI0 fun i j => .bl (decide (i < j))) ta tb)) (bT (dOp kLt x y)) := ⟨pt_cmpR op_lt h1.pe h2.pe hm, rt_test (rd_op ro_lt h1.rd h2.rd)⟩
theorem dt_le (h1 : DR X a ta x) (h2 : DR X b tb y) (hm : behindInMarks .LtE b = false := by exact nomark _) : DTst X (.Compare a [.LtE] [b] pos) (tTest (tOp (rI0 fun i j => .bl (decide (i ≤ j))) ta tb)) (bT (dOp kLe x y)) := ⟨pt_cmpR op_le h1.pe h2.pe hm, rt_test (rd_op ro_le h1.rd h2.rd)⟩
theorem dt_gt (h1 : DR X a ta x) (h2 : DR X b tb y) (hm : behindInMarks .Gt b = false := by exact nomark _) : DTst X (.Compare a [.Gt] [b] pos) (tTest (tOp (rI0 fun i j => .bl (decide (j < i))) ta tb)) (bT (dOp kGt x y)) := ⟨pt_cmpR op_gt h1.pe h2.pe hm, rt_test (rd_op ro_gt h1.rd h2.rd)⟩
theorem dt_ge (h1 : DR X a ta x) (h2 : DR X b tb y) (hm : behindInMarks .GtE b = false := by exact nomark _) : DTst X (.Compare a [.GtE] [b] pos) (tTest (tOp (rI0 fun i j => .bl (decide (j ≤ i))) ta tb)) (bT (dOp kGe x y)) := ⟨pt_cmpR op_ge h1.pe h2.pe hm, rt_test (rd_op ro_ge h1.rd h2.rd)⟩
theorem dt_eq {K : PySem.W.Frag} (hr : Room kk X.A) (h1 : DR X a ta x) (h2 : DR X b tb y) (hm : behindInMarks .Eq b = false := by exact nomark _) (hK : X.K = K := by rfl) : DTst X (.Compare a [.Eq] [b] pos) (tTest (tOp (rEqD K) ta tb)) (bT (dOp kEq x y)) := by
  subst hK
  exact ⟨pt_cmpR (op_eqD (hu64 hr)) h1.pe h2.pe hm, rt_test (rd_op ro_eq h1.rd h2.rd)⟩
theorem dt_ne {K : PySem.W.Frag} (hr : Room kk X.A) (h1 : DR X a ta x) (h2 : DR X b tb y) (hm : behindInMarks .NotEq b = false := by exact nomark _) (hK : X.K = K := by rfl) : DTst X (.Compare a [.NotEq] [b] pos) (tTest (tOp (rNeD K) ta tb)) (bT (dOp kNe x y)) := by
  subst hK
  exact ⟨pt_cmpR (op_neD (hu64 hr)) h1.pe h2.pe hm, rt_test (rd_op ro_ne h1.rd h2.rd)⟩
theorem dt_in {K : PySem.W.Frag} (hr : Room kk X.A) (h1 : DR X a ta x) (h2 : DR X b tb y) (hm : behindInMarks .In b = false := by first | rfl | with_unfolding_all rfl) (hK : X.K = K := by rfl) : DTst X (.Compare a [.In] [b] pos) (tTest (tOp (rIn2 K) ta tb)) (bT (dOp kIn x y)) := by
  subst hK
  exact ⟨pt_cmpR (op_in2 (hu65 hr)) h1.pe h2.pe hm, rt_test (rd_op ro_in h1.rd h2.rd)⟩
theorem dt_notIn {K : PySem.W.Frag} (hr : Room kk X.A) (h1 : DR X a ta x) (h2 : DR X b tb y) (hm : behindInMarks .NotIn b = false := by first | rfl | with_unfolding_all rfl) (hK : X.K = K := by rfl) : DTst X (.Compare a [.NotIn] [b] pos) (tTest (tOp (rNotIn2 K) ta tb)) (bT (dOp kNotIn x y)) := by
  subst hK
  exact ⟨pt_cmpR (op_notIn2 (hu65 hr)) h1.pe h2.pe hm, rt_test (rd_op ro_notIn h1.rd h2.rd)⟩
theorem dt_isN (h1 : DR X a ta x) (h2 : DR X b tb y) (hm : behindInMarks .Is b = false := by exact nomark _) : DTst X (.Compare a [.Is] [b] pos) (tTest (tOp (fun x y H Q => y = .non ∧ Q (.bl (decide (x = .non))) H) ta tb)) (bT (dOp kIsN x y)) := ⟨pt_cmpR op_isN h1.pe h2.pe hm, rt_test (rd_op ro_isN h1.rd h2.rd)⟩
theorem dt_notN (h1 : DR X a ta x) (h2 : DR X b tb y) (hm : behindInMarks .IsNot b = false := by exact nomark _) : DTst X (.Compare a [.IsNot] [b] pos) (tTest (tOp (fun x y H Q => y = .non ∧ Q (.bl (!decide (x = .non))) H) ta tb)) (bT (dOp kNotN x y)) := ⟨pt_cmpR op_notN h1.pe h2.pe hm, rt_test (rd_op ro_notN h1.rd h2.rd)⟩
end
theorem dt_val (h : DE X e te t) (he : ∀ whole, isTrue e X.env whole = (do let v ← whole; standAt e.pos; holding [v] (truthy v)) := by intro _; rfl) : DTst X e (tB te) (bT t) := ⟨pt_val h.pe he, rt_val h.rd⟩
theorem dt_tru {K : PySem.W.Frag} (h : DR X e te t) (he : ∀ whole, isTrue e X.env whole = (do let v ← whole; standAt e.pos; holding [v] (truthy v)) := by intro _; rfl) (hK : X.K = K := by rfl) : DTst X e (fun σ H Q => te σ H fun x H' => ∃ k, TruV K x H' k ∧ Q k H') (bTru t) := by
  subst hK
  exact ⟨pt_truth h.pe he, rt_tru h.rd⟩
theorem dt_not {tA : TT} {z : BT} (h : DTst X a tA z) : DTst X (.UnaryOp .Not a pos) (tNot tA) (bNot z) := ⟨pt_not h.pt, rt_not h.rd⟩
theorem dw_and1 {tA : TT} {z : BT} (h : DTst X a tA z) : DPw X (.BoolOp .And [a] pos) tA z := ⟨pw_and1 h.pt, h.rd⟩
theorem dw_or1 {tA : TT} {z : BT} (h : DTst X a tA z) : DPw X (.BoolOp .Or [a] pos) tA z := ⟨pw_or1 h.pt, h.rd⟩
theorem dw_and {tA tB' : TT} {z w : BT} {rest : List Expr} (h : DTst X a tA z) (h2 : DPw X (.BoolOp .And (b :: rest) pos) tB' w) : DPw X (.BoolOp .And (a :: b :: rest) pos) (tAnd tA tB') (bAnd z w) := ⟨pw_and h.pt h2.pw, rt_and h.rd h2.rd⟩
theorem dw_or {tA tB' : TT} {z w : BT} {rest : List Expr} (h : DTst X a tA z) (h2 : DPw X (.BoolOp .Or (b :: rest) pos) tB' w) : DPw X (.BoolOp .Or (a :: b :: rest) pos) (tOr tA tB') (bOr z w) := ⟨pw_or h.pt h2.pw, rt_or h.rd h2.rd⟩
theorem dt_pw {tA : TT} {z : BT} (h : DPw X e tA z) : DTst X e tA z := ⟨h.pw.pt, h.rd⟩
/-! bool ops as values -/
theorem de_one {op : BoolOp} (h : DE X a ta x) : DE X (.BoolOp op [a] pos) ta x := ⟨pe_one h.pe, h.rd⟩
theorem de_andV {K : PySem.W.Frag} {rest : List Expr} (h : DE X a ta x) (h2 : DE X (.BoolOp .And (b :: rest) pos) tb y) (hK : X.K = K := by rfl) : DE X (.BoolOp .And (a :: b :: rest) pos) (tAndT K ta tb) (dAnd x y) := by
  subst hK
  exact ⟨pe_andT h.pe h2.pe, rd_and h.rd h2.rd⟩
theorem de_orV {K : PySem.W.Frag} {rest : List Expr} (h : DE X a ta x) (h2 : DE X (.BoolOp .Or (b :: rest) pos) tb y) (hK : X.K = K := by rfl) : DE X (.BoolOp .Or (a :: b :: rest) pos) (tOrT K ta tb) (dOr x y) := by
  subst hK
  exact ⟨pe_orT h.pe h2.pe, rd_or h.rd h2.rd⟩
theorem de_notV {K : PySem.W.Frag} (h : DR X a ta x) (hK : X.K = K := by rfl) : DE X (.UnaryOp .Not a pos) (tNotT K ta) (dNot x) := by
  subst hK
  exact ⟨pe_notT h.pe, rd_not h.rd⟩
theorem de_if {tc : TT} {z : BT} (hc : DTst X c tc z) (h : DE X a ta x) (h2 : DE X b tb y) : DE X (.IfExp c a b pos) (tIf tc ta tb) (dIf z x y) := ⟨pe_ifExp hc.pt h.pe h2.pe, rd_if hc.rd h.rd h2.rd⟩
theorem df_if {tc : TT} {z : BT} (hc : DTst X c tc z) (h : DF X a ta x) (h2 : DF X b tb y) : DF X (.IfExp c a b pos) (tIf tc ta tb) (dIf z x y) := ⟨pe_ifExp hc.pt h.pe h2.pe, rf_if hc.rd h.rd h2.rd⟩
/-! subscripts, slices -/
theorem de_ix {K : PySem.W.Frag} (h1 : DW X a ta x) (h2 : DW X b tb y) (hs : PlainIx b := by exact fun _ _ => rfl) (hK : X.K = K := by rfl) : DE X (.Subscript a b pos) (tOp (rIxU K) ta tb) (dOp kIx x y) := by
  subst hK
  exact ⟨pe_ix ix_u h1.pe h2.pe hs, rd_opw ro_ix h1.rd h2.rd⟩
theorem de_ixS {K : PySem.W.Frag} (h1 : DR X a ta x) (h2 : DR X b tb y) (hs : PlainIx b := by exact fun _ _ => rfl) (hK : X.K = K := by rfl) : DE X (.Subscript a b pos) (tOp (rIxU K) ta tb) (dOp kIxS x y) := by
  subst hK
  exact ⟨pe_ix ix_u h1.pe h2.pe hs, rd_op ro_ixS h1.rd h2.rd⟩
theorem do_no : DO X none tNoPart pNo := ⟨po_none, rp_no⟩
theorem do_so (h : DR X e te t) : DO X (some e) (tPart te) (pSo t) := ⟨po_some h.pe, rp_so h.rd⟩
theorem de_sl {K : PySem.W.Frag} {lo hi : Option Expr} {tl th : TO} {l u : PT'} (h : DW X e te t) (hl : DO X lo tl l) (hh : DO X hi th u) (hK : X.K = K := by rfl) : DE X (.Subscript e (.Slice lo hi none p2) pos) (tSl (rSlU K) te tl th) (dSl kSl t l u) := by
  subst hK
  exact ⟨pe_slice sl_u h.pe hl.po hh.po, rd_sl h.rd hl.rd hh.rd⟩
theorem df_sl {K : PySem.W.Frag} {lo hi : Option Expr} {tl th : TO} {l u : PT'} (h : DR X e te t) (hl : DO X lo tl l) (hh : DO X hi th u) (hK : X.K = K := by rfl) : DF X (.Subscript e (.Slice lo hi none p2) pos) (tSl (rSlU K) te tl th) (dSl kSlL t l u) := by
  subst hK
  exact ⟨pe_slice sl_u h.pe hl.po hh.po, rf_sl h.rd hl.rd hh.rd⟩
theorem de_rev {K : PySem.W.Frag} (h : DW X e te t) (hK : X.K = K := by rfl) : DE X (.Subscript e (.Slice none none (some (.UnaryOp .USub (.Constant (.int 1) k p1) p2)) p3) pos) (tRevU K te) (dUn kRev t) := by
  subst hK
  exact ⟨pe_revU h.pe, rd_rev h.rd⟩
theorem df_rev {K : PySem.W.Frag} (h : DR X e te t) (hK : X.K = K := by rfl) : DF X (.Subscript e (.Slice none none (some (.UnaryOp .USub (.Constant (.int 1) k p1) p2)) p3) pos) (tRevU K te) (dUn kRevL t) := by
  subst hK
  exact ⟨pe_revU h.pe, rf_rev h.rd⟩
/-! arguments, displays -/
variable {ts : TA} {s : AT}
theorem da_nil {α : Type} {R : RelX α} : DA X R [] tNil (aNil (α := α)) := ⟨pa_nil, ra_nil⟩
theorem da_cons (h : DE X e te t) (h2 : DA X (PR X.K) es ts s) (hs : starEach (e :: es) X.env = (false, eval e X.env) :: starEach es X.env := by rfl) : DA X (PR X.K) (e :: es) (tCons te ts) (aCons t s) := ⟨pa_cons h.pe h2.pa hs, ra_cons PR.stab h.rd.x h2.rd⟩
theorem da_consR (h : DR X e te t) (h2 : DA X (RR X.K) es ts s) (hs : starEach (e :: es) X.env = (false, eval e X.env) :: starEach es X.env := by rfl) : DA X (RR X.K) (e :: es) (tCons te ts) (aCons t s) := ⟨pa_cons h.pe h2.pa hs, ra_cons RR.stab h.rd.x h2.rd⟩
theorem da_star {K : PySem.W.Frag} (h : DW X e te t) (h2 : DA X (PR X.K) es ts s) (hs : starEach (.Starred e p :: es) X.env = (true, eval e X.env) :: starEach es X.env := by rfl) (hK : X.K = K := by rfl) : DA X (PR X.K) (.Starred e p :: es) (StX.tStar K te ts) (aStar t s) := by
  subst hK
  exact ⟨StX.pa_star h.pe h2.pa hs, ra_star h.rd h2.rd⟩
variable {ss : En → (List Slot → Prop) → Prop}
theorem da_d (h : DE X e te t) (h2 : DA X (SR X.K) es ts ss) (hs : starEach (e :: es) X.env = (false, eval e X.env) :: starEach es X.env := by rfl) : DA X (SR X.K) (e :: es) (tCons te ts) (aCons (sD t) ss) := ⟨pa_cons h.pe h2.pa hs, ra_cons SR.stab h.rd.s h2.rd⟩
theorem da_b (h : DR X e te t) (h2 : DA X (SR X.K) es ts ss) (hs : starEach (e :: es) X.env = (false, eval e X.env) :: starEach es X.env := by rfl) : DA X (SR X.K) (e :: es) (tCons te ts) (aCons (sB t) ss) := ⟨pa_cons h.pe h2.pa hs, ra_cons SR.stab h.rd.b h2.rd⟩
theorem da_s (i : Nat) {n : Str} (h2 : DA X (SR X.K) es ts ss) (hN : X.N[i]? = some n := by rfl) (hv : Vis X.env.scope n := by first | exact Or.inl rfl | exact Or.inr (Or.inl rfl) | exact Or.inr (Or.inr rfl)) (hd : (n == ("__debug__" : Str)) = false := by decide)
    (hcd : (n == ("__classdict__" : Str)) = false := by decide) (hs : starEach (.Name n pos :: es) X.env = (false, eval (.Name n pos) X.env) :: starEach es X.env := by rfl) : DA X (SR X.K) (.Name n pos :: es) (tCons (tVar i) ts) (aCons (sVar i) ss) := ⟨pa_cons (pe_var hN hv hd hcd) h2.pa hs, ra_cons SR.stab (rs_var i) h2.rd⟩
theorem de_tup {x1 : Nat} (h : DA X (PR X.K) es ts s) : DE X (.Tuple es x1 pos) (tTup ts) (dTup s) := ⟨pe_tup h.pa, rd_tup h.rd⟩
theorem df_lst (h : DA X (PR X.K) es ts s) : DF X (.List es pos) (tLst ts) (dLst s) := ⟨pe_lst h.pa, rf_lst h.rd⟩
/-! calls -/
structure DCal (P : Program) (w : World) (K : PySem.W.Frag) (mg : Str → Option Value) (base : Heap) (k : Nat) (n : Str) (sp : SpG) : Prop where
  ex : ∃ f fd ps, FnG P w K mg base k f fd ps sp ∧ mg n = some (.ref f) ∧ PySem.W.keepIn K (.ref f) = true ∧ Binds K fd ps []
theorem DCal.up {P : Program} {w : World} {K : PySem.W.Frag} {mg : Str → Option Value} {base : Heap} {j k : Nat} {n : Str} {sp : SpG} (c : DCal P w K mg base j n sp) (h : j ≤ k) : DCal P w K mg base k n sp := by
  obtain ⟨f, fd, ps, F, r⟩ := c.ex
  exact ⟨f, fd, ps, F.up h, r⟩
variable {n : Str} {m j kc : Nat} {R : Pm}
theorem de_call {P : Program} {w : World} {K : PySem.W.Frag} {mg : Str → Option Value} {base : Heap} (c : DCal P w K mg base kc n (spG K m R)) (mono : MonoP R) (room : Room j X.A) (lv : kc ≤ j) (gd : X.A.guards = some []) (as : DA X (SR K) (e :: es) ts ss) (hP : X.prog = P := by rfl) (hw : X.w = w := by rfl) (hK : X.K = K := by rfl) (hmg : X.mg = mg := by rfl) (hb : X.base = base := by rfl) (gx : Gl X n := by rfl) (ndb : (n == ("__debug__" : Str)) = false := by decide)
    (st1 : starEach (e :: es) X.env = (false, eval e X.env) :: starEach es X.env := by rfl) (st2 : (backTo pos (starEach es X.env)).any (·.1) = false := by rfl) : DE X (.Call (.Name n p) (e :: es) [] pos) (tCallG (spG K m R) ts) (dCall m R ss) := by
  subst hP hw hK hmg hb
  obtain ⟨f, fd, ps, F, mx, kp, bd⟩ := c.ex
  exact ⟨pe_callG F (room.mono lv) gd gx mx kp bd as.pa ndb st1 st2, rd_callG mono as.rd⟩
theorem dr_callB (c : DCal X.prog X.w X.K X.mg X.base kc n (spGB X.K m R)) (mono : MonoP R) (room : Room j X.A) (lv : kc ≤ j) (gd : X.A.guards = some []) (as : DA X (SR X.K) (e :: es) ts ss) (gx : Gl X n := by rfl) (ndb : (n == ("__debug__" : Str)) = false := by decide)
    (st1 : starEach (e :: es) X.env = (false, eval e X.env) :: starEach es X.env := by rfl) (st2 : (backTo pos (starEach es X.env)).any (·.1) = false := by rfl) : DR X (.Call (.Name n p) (e :: es) [] pos) (tCallG (spGB X.K m R) ts) (dCall m R ss) := by
  obtain ⟨f, fd, ps, F, mx, kp, bd⟩ := c.ex
  exact ⟨pe_callG F (room.mono lv) gd gx mx kp bd as.pa ndb st1 st2, rr_callG mono as.rd⟩
section
variable (hm : X.mg n = none)
theorem de_len {K : PySem.W.Frag} (hm : X.mg "len" = none) (as : DA X (RR X.K) (e :: es) ts s) (hg : Gl X "len" := by rfl) (he : starEach (e :: es) X.env = (false, eval e X.env) :: starEach es X.env := by rfl) (hpl : (backTo pos (starEach es X.env)).any (·.1) = false := by rfl) (hK : X.K = K := by rfl) :
    DE X (.Call (.Name "len" p) (e :: es) [] pos) (tCB (fun xs H Q => ∃ x n, xs = [x] ∧ LenV K x H n ∧ Q (.int n) H) ts) (dCB kLen s) := by
  subst hK
  exact ⟨pe_callB call_len hg hm boot_len as.pa (by decide) (by decide) he hpl, rd_cb rc_len as.rd⟩
theorem de_abs (hm : X.mg "abs" = none) (as : DA X (RR X.K) (e :: es) ts s) (hg : Gl X "abs" := by rfl) (he : starEach (e :: es) X.env = (false, eval e X.env) :: starEach es X.env := by rfl) (hpl : (backTo pos (starEach es X.env)).any (·.1) = false := by rfl) :
    DE X (.Call (.Name "abs" p) (e :: es) [] pos) (tCB (fun xs H Q => ∃ i, xs = [.int i] ∧ Q (.int (if i < 0 then -i else i)) H) ts) (dCB (kI1 absI) s) := ⟨pe_callB call_abs hg hm boot_abs as.pa (by decide) (by decide) he hpl, rd_cb rc_i1 as.rd⟩
theorem de_max2 (hm : X.mg "max" = none) (hc : X.calm = true) (as : DA X (RR X.K) (e :: es) ts s) (hg : Gl X "max" := by rfl) (he : starEach (e :: es) X.env = (false, eval e X.env) :: starEach es X.env := by rfl) (hpl : (backTo pos (starEach es X.env)).any (·.1) = false := by rfl) :
    DE X (.Call (.Name "max" p) (e :: es) [] pos) (tCB (fun xs H Q => ∃ i j, xs = [.int i, .int j] ∧ Q (.int (if j > i then j else i)) H) ts) (dCB (kI2 max2I) s) := ⟨pe_callB (call_max2 hc) hg hm boot_max as.pa (by decide) (by decide) he hpl, rd_cb rc_i2 as.rd⟩
theorem de_int1 (hm : X.mg "int" = none) (as : DA X (RR X.K) (e :: es) ts s) (hg : Gl X "int" := by rfl) (he : starEach (e :: es) X.env = (false, eval e X.env) :: starEach es X.env := by rfl) (hpl : (backTo pos (starEach es X.env)).any (·.1) = false := by rfl) :
    DE X (.Call (.Name "int" p) (e :: es) [] pos) (tCB (fun xs H Q => (∃ i, xs = [.int i] ∧ Q (.int i) H) ∨ ∃ k, xs = [.bl k] ∧ Q (.int (if k then 1 else 0)) H) ts) (dCB kInt s) := ⟨pe_callTy call_int1 hg hm boot_int as.pa (by decide) (by decide) he hpl, rd_cb rc_int as.rd⟩
theorem de_repr {K : PySem.W.Frag} (hm : X.mg "repr" = none) {kk : Nat} (room : Room kk X.A) (gd : X.A.guards = some []) (h : DR X e te t) (hg : Gl X "repr" := by rfl) (he : starEach [e] X.env = (false, eval e X.env) :: starEach [] X.env := by rfl) (hpl : (backTo pos (starEach [] X.env)).any (·.1) = false := by rfl) (hK : X.K = K := by rfl) :
    DE X (.Call (.Name "repr" p) [e] [] pos) (tCB (rRepr K) (tCons te tNil)) (dRepr t) := by
  subst hK
  exact ⟨pe_callB (call_repr gd (hu64 room)) hg hm boot_repr (pa_cons h.pe pa_nil he) (by decide) (by decide) he hpl, rd_repr h.rd⟩
theorem df_list {K : PySem.W.Frag} (hm : X.mg "list" = none) (h : DW X e te t) (hg : Gl X "list" := by rfl) (he : starEach [e] X.env = (false, eval e X.env) :: starEach [] X.env := by rfl) (hpl : (backTo pos (starEach [] X.env)).any (·.1) = false := by rfl) (hK : X.K = K := by rfl) :
    DF X (.Call (.Name "list" p) [e] [] pos) (tCB (fun xs H Q => ∃ p ys, xs = [.ref p] ∧ (SqL K H p ys ∨ SqT K H p ys) ∧ ∀ l, H l = none → Q (.ref l) (upd H l (.lst ys))) (tCons te tNil)) (dUn kLst t) := by
  subst hK
  exact ⟨pe_callTy call_list_of hg hm boot_list (pa_cons h.pe pa_nil he) (by decide) (by decide) he hpl, rf_list h.rd⟩
theorem de_tuple {K : PySem.W.Frag} (hm : X.mg "tuple" = none) (h : DW X e te t) (hg : Gl X "tuple" := by rfl) (he : starEach [e] X.env = (false, eval e X.env) :: starEach [] X.env := by rfl) (hK : X.K = K := by rfl) :
    DE X (.Call (.Name "tuple" p) [e] [] pos) (tThen te (kTup K)) (dUn kTupO t) := by
  subst hK
  exact ⟨pe_tupleOf hg hm h.pe he, rd_tupO h.rd⟩
theorem de_isi {K : PySem.W.Frag} (cl : Str) (b : String) (hb : b ∈ ["int", "bool", "str", "tuple", "list", "dict"]) (bt : bootBuiltins cl = some (.type b)) (hm : X.mg "isinstance" = none) (hm2 : X.mg cl = none) (h : DR X e te t) (hg : Gl X "isinstance" := by rfl) (hg2 : Gl X cl := by rfl)
    (hn : cl ≠ "__name__" := by decide) (hd : (cl == ("__debug__" : Str)) = false := by decide) (he : starEach [e, .Name cl p2] X.env = (false, eval e X.env) :: starEach [.Name cl p2] X.env := by rfl) (he2 : starEach [.Name cl p2] X.env = (false, eval (.Name cl p2) X.env) :: starEach [] X.env := by rfl)
    (hpl : (backTo pos (starEach [.Name cl p2] X.env)).any (·.1) = false := by rfl) (hK : X.K = K := by rfl) :
    DE X (.Call (.Name "isinstance" p) [e, .Name cl p2] [] pos) (tCB (rIsi K) (tCons te (tCons (tC (.ty b)) tNil))) (dIsi b t) := by
  subst hK
  exact ⟨pe_callB call_isi hg hm boot_isinstance (pa_cons h.pe (pa_cons (pe_bltn hg2 hm2 bt (show RelV (.ty b) (.type b) from rfl) hn hd) pa_nil he2) he) (by decide) (by decide) he hpl, rd_isi b hb h.rd⟩
theorem df_sortD (i : Nat) {nm : Str} (hm : X.mg "sorted" = none) (hc : X.calm = true) (hN : X.N[i]? = some nm := by rfl) (hv : Vis X.env.scope nm := by first | exact Or.inl rfl | exact Or.inr (Or.inl rfl) | exact Or.inr (Or.inr rfl)) (hg : Gl X "sorted" := by rfl) (hd : (nm == ("__debug__" : Str)) = false := by decide)
    (hcd : (nm == ("__classdict__" : Str)) = false := by decide) (he : starEach [.Name nm p2] X.env = (false, eval (.Name nm p2) X.env) :: starEach [] X.env := by rfl) (hpl : (backTo pos (starEach [] X.env)).any (·.1) = false := by rfl) :
    DF X (.Call (.Name "sorted" p) [.Name nm p2] [] pos) (tCB rSortedDT (tCons (tVar i) tNil)) (dSortD i) :=
  ⟨pe_callB (cr_sortedDT hc) hg hm boot_sorted (pa_cons (pe_var hN hv hd hcd) pa_nil he) (by decide) (by decide) he hpl, rf_sortD i⟩
end
/-! dicts at names -/
theorem de_get2 (i : Nat) {nm : Str} {kk : Nat} (room : Room kk X.A) (h1 : DE X e te t) (h2 : DE X f tb u) (m : M2 X (.Name nm p1) "get" apos e f cpos := by exact ⟨rfl, rfl, rfl, rfl⟩) (hN : X.N[i]? = some nm := by rfl)
    (hv : Vis X.env.scope nm := by first | exact Or.inl rfl | exact Or.inr (Or.inl rfl) | exact Or.inr (Or.inr rfl)) (hd : (nm == ("__debug__" : Str)) = false := by decide) (hcd : (nm == ("__classdict__" : Str)) = false := by decide) :
    DE X (.Call (.Attribute (.Name nm p1) "get" apos) [e, f] [] cpos) (tDGet2 (tVar i) te tb) (dGet2 i t u) := ⟨pe_dget2 (hu_of room) (pe_var hN hv hd hcd) h1.pe h2.pe m, rd_get2 i h1.rd h2.rd⟩
theorem de_get (i : Nat) {nm : Str} {kk : Nat} (room : Room kk X.A) (h1 : DE X e te t) (hs : NoSl e := by exact fun _ _ => rfl) (hN : X.N[i]? = some nm := by rfl)
    (hv : Vis X.env.scope nm := by first | exact Or.inl rfl | exact Or.inr (Or.inl rfl) | exact Or.inr (Or.inr rfl)) (hd : (nm == ("__debug__" : Str)) = false := by decide) (hcd : (nm == ("__classdict__" : Str)) = false := by decide) :
    DE X (.Subscript (.Name nm p1) e pos) (tDGet (tVar i) te) (dGet i t) := ⟨pe_dget (hu_of room) (pe_var hN hv hd hcd) h1.pe hs, rd_get i h1.rd⟩
/-! what is walked -/
variable {tg : Expr} {wi : TI} {it : IT}
theorem di_seq {K : PySem.W.Frag} (h : DE X e te t) (hK : X.K = K := by rfl) : DI X tg e (iSeqU K te) (iSeq t) := by
  subst hK
  exact ⟨pi_seqU h.pe, ri_seq h.rd⟩
theorem di_e {ie : IT} (h : DI X tg e wi ie) : DIE X tg e wi (ieOf ie) := ⟨h.pi, h.rd.e⟩
end
end DL
/-! DL14: walks, comprehensions, targets, statements, a def. -/
namespace DL
open PySem PySem.Spec L2
open PyProof.Rows hiding St

section
variable {X : Cx} {a b e f c tg : Expr} {es : List Expr} {pos p p1 p2 p3 pos' apos cpos tpos : Pos} {ta tb te th : TE} {x y t u : DT} {k : Nat} {ts : TA} {s : AT}
theorem di_rng1 (hm : X.mg "range" = none) (h : DA X (RR X.K) [a] ts s) (hg : Gl X "range" := by rfl) (hs : starEach [a] X.env = [(false, eval a X.env)] := by rfl) : DI X tg (.Call (.Name "range" p) [a] [] pos) (iRng1 ts) (iRg1 s) := ⟨pi_range1 hg hm h.pa hs, ri_rng1 h.rd⟩
theorem di_rng2 (hm : X.mg "range" = none) (h : DA X (RR X.K) [a, b] ts s) (hg : Gl X "range" := by rfl) (hs : starEach [a, b] X.env = [(false, eval a X.env), (false, eval b X.env)] := by rfl) (hs2 : starEach [b] X.env = [(false, eval b X.env)] := by rfl) : DI X tg (.Call (.Name "range" p) [a, b] [] pos) (iRng2 ts) (iRg2 s) := ⟨pi_range2 hg hm h.pa hs hs2, ri_rng2 h.rd⟩
theorem die_pop (i : Nat) {n : Str} (hN : X.N[i]? = some n := by rfl) (hv : Vis X.env.scope n := by first | exact Or.inl rfl | exact Or.inr (Or.inl rfl) | exact Or.inr (Or.inr rfl)) (hd : (n == ("__debug__" : Str)) = false := by decide)
    (hcd : (n == ("__classdict__" : Str)) = false := by decide) (hbase : attributeBase (.Name n p1) "pop" X.env (eval (.Name n p1) X.env) = eval (.Name n p1) X.env := by rfl) (hline : (apos.endLine == cpos.line) = true := by rfl) :
    DIE X tg (.Call (.Attribute (.Name n p1) "pop" apos) [] [] cpos) (iSeqU X.K (tBM0 X.K "list" rPop (tVar i))) (ieP i) :=
  ⟨pi_seqU (pe_bm0 PySem.F.plainAttrs_list PySem.F.slot_list_pop PySem.F.type_list_pop mt_pop (pe_var hN hv hd hcd) hbase hline), ri_pop i⟩
/-! targets -/
theorem dg_name (i : Nat) {n : Str} (hN : X.N.Nodup) (hi : X.N[i]? = some n := by rfl) (hx : Loc X.env.scope n := by first | exact Or.inl rfl | exact Or.inr rfl) (hf : X.fn n = true ∨ X.env.scope.names.lookup n = some .local := by first | exact .inl rfl | exact .inr rfl) : DG X (.Name n pos) [i] (gName i) (gtName i) := ⟨pg_name hN hi hx hf, rg_name i⟩
variable {ix iy : List Nat} {g : TG} {gs : TGs} {gt : GT} {gts : GTs}
theorem dgs_nil : DGs X [] [] gNil gtNil := ⟨pgs_nil, rgs_nil⟩
theorem dgs_cons (h1 : DG X e ix g gt) (h2 : DGs X es iy gs gts) (hs : (assignEach (e :: es) X.env).map (·.2) = assign e X.env :: (assignEach es X.env).map (·.2) := by rfl) : DGs X (e :: es) (ix ++ iy) (gCons g gs) (gtCons gt gts) := ⟨pgs_cons h1.pg h2.pg hs, rgs_cons h1.rd h2.rd⟩
theorem dg_tup {K : PySem.W.Frag} {n : Nat} (hc : X.calm = true) (h : DGs X es ix gs gts) (hn : (assignEach es X.env).length = n := by rfl) (hst : (assignEach es X.env).findIdx? (·.1) = none := by rfl) (hK : X.K = K := by rfl) : DG X (.Tuple es k pos) ix (gSeqU K n gs) (gtTup n gts) := by
  subst hK
  exact ⟨pg_seqU hc h.pg hn hst, rg_tup h.rd⟩
/-! comprehensions -/
theorem dts_nil : DTs X [] tYes bYes := ⟨pts_nil, rt_yes⟩
theorem dts_one {tt : TT} {bt : BT} (h : DTst X c tt bt) : DTs X [c] tt bt := ⟨pts_one h.pt, h.rd⟩
theorem df_lc {elt iter : Expr} {ifs : List Expr} {scope : Scope} (own : List (Str × Nat)) {wi : TI} {it : IT} {tt : TT} {bt : BT} (hc : X.calm = true) (hN : X.N.Nodup) (hi : DI X tg iter wi it) (ok : BlkOk X.N X.env.scope scope own)
    (hg : ∀ (s : Shared) (H : Hp) (C : Addr) (cl : List (Str × Addr)) (fp : List Addr), DG (X.blk s H scope (compEnvC scope cl C X.env) fp) tg ix g gt)
    (ht : ∀ (s : Shared) (H : Hp) (C : Addr) (cl : List (Str × Addr)) (fp : List Addr), DTs (X.blk s H scope (compEnvC scope cl C X.env) fp) ifs tt bt)
    (he : ∀ (s : Shared) (H : Hp) (C : Addr) (cl : List (Str × Addr)) (fp : List Addr), DE (X.blk s H scope (compEnvC scope cl C X.env) fp) elt te t)
    (s0 : Shared) (H0 : Hp) (hv : ∀ j ∈ ix, j ∈ own.map (·.2) := by decide) (hs : ∀ x, foldedSetIterable iter X.env x = pure x := by intro _; rfl) :
    DF X (.ListComp elt [⟨tg, iter, ifs, 0⟩] scope pos) (tLc wi g tt te (own.map (·.2))) (dLc it gt bt t (own.map (·.2))) :=
  ⟨pe_lc hc hN hi.pi ok (fun s H C cl fp => (hg s H C cl fp).pg) (fun s H C cl fp => (ht s H C cl fp).pt) (fun s H C cl fp => (he s H C cl fp).pe) hs,
    rf_lc hi.rd (hg s0 H0 0 [] []).rd (ht s0 H0 0 [] []).rd (he s0 H0 0 [] []).rd hv⟩
/-! statements -/
variable {st : Stmt} {sts rest : List Stmt} {q r : TS} {T U : ST}
theorem dss_nil : DSs X [] tNext sNext := ⟨pss_nil, rs_next⟩
theorem dss_one (h : DS X st q T) : DSs X [st] q T := ⟨pss_one h.ps, h.rd⟩
theorem dss_cons (h : DS X st q T) (h2 : DSs X rest r U) : DSs X (st :: rest) (tSeq q r) (sSeq T U) := ⟨pss_cons h.ps h2.ps, rs_seq h.rd h2.rd⟩
theorem dss_fz (i : Nat) (h : DSs X sts q T) : DSs X sts q (sFz i T) := ⟨h.ps, rs_fz i h.rd⟩
theorem ds_ret (h : DE X e te t) : DS X (.Return (some e) pos) (tRet te) (sRet t) := ⟨ps_ret h.pe, rs_ret h.rd⟩
theorem ds_retN : DS X (.Return none pos) tRetN sRetN := ⟨ps_retN, rs_retN⟩
theorem ds_if {tc : TT} {z : BT} {as bs : List Stmt} (hc : DTst X c tc z) (h : DSs X as q T) (h2 : DSs X bs r U) : DS X (.If c as bs pos) (tIfS tc q r) (sIf z T U) := ⟨ps_if hc.pt h.ps h2.ps, rs_if hc.rd h.rd h2.rd⟩
theorem ds_set (i : Nat) {n : Str} (hN : X.N.Nodup) (he : DE X e te t) (hi : X.N[i]? = some n := by rfl) (hx : Loc X.env.scope n := by first | exact Or.inl rfl | exact Or.inr rfl) (hs : swapsWith e (some (.Name n pos')) pos.line X.env = pure false := by rfl)
    (hf : X.fn n = true ∨ X.env.scope.names.lookup n = some .local := by first | exact .inl rfl | exact .inr rfl) : DS X (.Assign [.Name n pos'] e pos) (tAsg te (gName i)) (sAsg t (gtName i)) := ⟨ps_set hN hi hx he.pe hs hf, rs_asg he.rd (rg_name i)⟩
theorem ds_setO (i : Nat) {n : Str} (hN : X.N.Nodup) (he : DF X e te t) (hi : X.N[i]? = some n := by rfl) (hx : Loc X.env.scope n := by first | exact Or.inl rfl | exact Or.inr rfl) (hs : swapsWith e (some (.Name n pos')) pos.line X.env = pure false := by rfl)
    (hf : X.fn n = true ∨ X.env.scope.names.lookup n = some .local := by first | exact .inl rfl | exact .inr rfl) : DS X (.Assign [.Name n pos'] e pos) (tAsg te (gName i)) (sAsgO i t) := ⟨ps_set hN hi hx he.pe hs hf, rs_asgO i he.rd⟩
theorem ds_newD (k : Bool) (i : Nat) {n : Str} (hN : X.N.Nodup) (hi : X.N[i]? = some n := by rfl) (hx : Loc X.env.scope n := by first | exact Or.inl rfl | exact Or.inr rfl) (hs : swapsWith (.Dict [] [] p) (some (.Name n pos')) pos.line X.env = pure false := by rfl)
    (hf : X.fn n = true ∨ X.env.scope.names.lookup n = some .local := by first | exact .inl rfl | exact .inr rfl) : DS X (.Assign [.Name n pos'] (.Dict [] [] p) pos) (tAsg (if k then tDNewT else tDNewK) (gName i)) (sNewD k i) :=
  match k with
  | false => ⟨ps_set hN hi hx pe_dnewK hs hf, rs_newDK i⟩
  | true => ⟨ps_set hN hi hx pe_dnewT hs hf, rs_newDT i⟩
theorem ds_asg (he : DE X e te t) (hg : DG X tg ix g gt) (hs : swapsWithSole [tg] e pos.line X.env = pure false := by rfl) (hw : swappedStores [tg] e X.env = pure none := by rfl) (h1 : (assignEach [tg] X.env).map (·.2) = [assign tg X.env] := by rfl) :
    DS X (.Assign [tg] e pos) (tAsg te g) (sAsg t gt) := ⟨ps_asg he.pe hg.pg hs hw h1, rs_asg he.rd hg.rd⟩
/-- x = [..] on one line -/
theorem ds_setLc (i : Nat) {n : Str} {elt iter : Expr} {ifs : List Expr} {scope : Scope} (own : List (Str × Nat)) {wi : TI} {it : IT} {tt : TT} {bt : BT} (hc : X.calm = true) (hN : X.N.Nodup) (hi : DI X tg iter wi it) (ok : BlkOk X.N X.env.scope scope own)
    (hg : ∀ (s : Shared) (H : Hp) (C : Addr) (cl : List (Str × Addr)) (fp : List Addr), DG (X.blk s H scope (compEnvC scope cl C X.env) fp) tg ix g gt)
    (ht : ∀ (s : Shared) (H : Hp) (C : Addr) (cl : List (Str × Addr)) (fp : List Addr), DTs (X.blk s H scope (compEnvC scope cl C X.env) fp) ifs tt bt)
    (he : ∀ (s : Shared) (H : Hp) (C : Addr) (cl : List (Str × Addr)) (fp : List Addr), DE (X.blk s H scope (compEnvC scope cl C X.env) fp) elt te t)
    (s0 : Shared) (H0 : Hp) (hsw : swapsWith (.ListComp elt [⟨tg, iter, ifs, 0⟩] scope pos) (some (.Name n pos')) p.line X.env = pure true) (hy : X.N[i]? = some n := by rfl) (hyl : X.env.scope.names.lookup n = some .local := by rfl) (hv : ∀ j ∈ ix, j ∈ own.map (·.2) := by decide) (hs : ∀ x, foldedSetIterable iter X.env x = pure x := by intro _; rfl) :
    DS X (.Assign [.Name n pos'] (.ListComp elt [⟨tg, iter, ifs, 0⟩] scope pos) p) (tAsg (tLc wi g tt te (own.map (·.2))) (gName i)) (sAsgO i (dLc it gt bt t (own.map (·.2)))) :=
  ⟨ps_setLc hc hN hy hyl hsw hi.pi ok (fun s H C cl fp => (hg s H C cl fp).pg) (fun s H C cl fp => (ht s H C cl fp).pt) (fun s H C cl fp => (he s H C cl fp).pe) hs,
    rs_asgO i (rf_lc hi.rd (hg s0 H0 0 [] []).rd (ht s0 H0 0 [] []).rd (he s0 H0 0 [] []).rd hv)⟩
section
variable {i j l : Nat} {n m o : Str} {px py pz pt pt2 : Pos} {kt k2 : Nat}
theorem ds_par (i j : Nat) (hc : X.calm = true) (hN : X.N.Nodup) (h : DA X (PR X.K) [a, b] ts s) (hij : i ≠ j := by decide) (hi : X.N[i]? = some n := by rfl) (hj : X.N[j]? = some m := by rfl) (hx : X.env.scope.names.lookup n = some .local := by rfl) (hy : X.env.scope.names.lookup m = some .local := by rfl)
    (hw : swappedStores [.Tuple [.Name n px, .Name m py] kt pt] (.Tuple [a, b] k2 pt2) X.env = pure (some [n, m]) := by rfl) (hs : swapsWithSole [.Tuple [.Name n px, .Name m py] kt pt] (.Tuple [a, b] k2 pt2) pos.line X.env = pure false := by rfl) :
    DS X (.Assign [.Tuple [.Name n px, .Name m py] kt pt] (.Tuple [a, b] k2 pt2) pos) (tPar i j ts) (sPar i j s) := ⟨ps_par hc hN hi hj hij hx hy h.pa hw hs, rs_par i j h.rd⟩
theorem ds_parL (i j : Nat) (hc : X.calm = true) (hN : X.N.Nodup) (h : DF X a ta x) (h2 : DE X b tb y) (hs1 : starEach [a, b] X.env = (false, eval a X.env) :: starEach [b] X.env := by rfl) (hs2 : starEach [b] X.env = (false, eval b X.env) :: starEach [] X.env := by rfl)
    (hij : i ≠ j := by decide) (hi : X.N[i]? = some n := by rfl) (hj : X.N[j]? = some m := by rfl) (hx : X.env.scope.names.lookup n = some .local := by rfl) (hy : X.env.scope.names.lookup m = some .local := by rfl)
    (hw : swappedStores [.Tuple [.Name n px, .Name m py] kt pt] (.Tuple [a, b] k2 pt2) X.env = pure (some [n, m]) := by rfl) (hs : swapsWithSole [.Tuple [.Name n px, .Name m py] kt pt] (.Tuple [a, b] k2 pt2) pos.line X.env = pure false := by rfl) :
    DS X (.Assign [.Tuple [.Name n px, .Name m py] kt pt] (.Tuple [a, b] k2 pt2) pos) (tPar i j (tCons ta (tCons tb tNil))) (sParL i j x y) := ⟨ps_par hc hN hi hj hij hx hy (pa_cons h.pe (pa_cons h2.pe pa_nil hs2) hs1) hw hs, rs_parL i j h.rd h2.rd⟩
theorem ds_parB (i j : Nat) (hc : X.calm = true) (hN : X.N.Nodup) (h : DC X a ta x) (h2 : DC X b tb y) (hs1 : starEach [a, b] X.env = (false, eval a X.env) :: starEach [b] X.env := by rfl) (hs2 : starEach [b] X.env = (false, eval b X.env) :: starEach [] X.env := by rfl)
    (hij : i ≠ j := by decide) (hi : X.N[i]? = some n := by rfl) (hj : X.N[j]? = some m := by rfl) (hx : X.env.scope.names.lookup n = some .local := by rfl) (hy : X.env.scope.names.lookup m = some .local := by rfl)
    (hw : swappedStores [.Tuple [.Name n px, .Name m py] kt pt] (.Tuple [a, b] k2 pt2) X.env = pure (some [n, m]) := by rfl) (hs : swapsWithSole [.Tuple [.Name n px, .Name m py] kt pt] (.Tuple [a, b] k2 pt2) pos.line X.env = pure false := by rfl) :
    DS X (.Assign [.Tuple [.Name n px, .Name m py] kt pt] (.Tuple [a, b] k2 pt2) pos) (tPar i j (tCons ta (tCons tb tNil))) (sParB i j x y) := ⟨ps_par hc hN hi hj hij hx hy (pa_cons h.pe (pa_cons h2.pe pa_nil hs2) hs1) hw hs, rs_parB i j h.rd h2.rd⟩
theorem ds_par3 (i j l : Nat) (hc : X.calm = true) (hN : X.N.Nodup) (h : DA X (PR X.K) [a, b, c] ts s) (hij : i ≠ j := by decide) (hil : i ≠ l := by decide) (hjl : j ≠ l := by decide) (hi : X.N[i]? = some n := by rfl) (hj : X.N[j]? = some m := by rfl) (hl : X.N[l]? = some o := by rfl)
    (hx : X.env.scope.names.lookup n = some .local := by rfl) (hy : X.env.scope.names.lookup m = some .local := by rfl) (hz : X.env.scope.names.lookup o = some .local := by rfl)
    (hw : swappedStores [.Tuple [.Name n px, .Name m py, .Name o pz] kt pt] (.Tuple [a, b, c] k2 pt2) X.env = pure (some [n, m, o]) := by rfl) (hs : swapsWithSole [.Tuple [.Name n px, .Name m py, .Name o pz] kt pt] (.Tuple [a, b, c] k2 pt2) pos.line X.env = pure false := by rfl) :
    DS X (.Assign [.Tuple [.Name n px, .Name m py, .Name o pz] kt pt] (.Tuple [a, b, c] k2 pt2) pos) (tPar3 i j l ts) (sPar3 i j l s) := ⟨ps_par3 hc hN hi hj hl hij hil hjl hx hy hz h.pa hw hs, rs_par3 i j l h.rd⟩
theorem ds_parD (k : Bool) (i j : Nat) (hc : X.calm = true) (hN : X.N.Nodup) (h2 : DE X b tb y) (hs1 : starEach [.Dict [] [] p, b] X.env = (false, eval (.Dict [] [] p) X.env) :: starEach [b] X.env := by rfl) (hs2 : starEach [b] X.env = (false, eval b X.env) :: starEach [] X.env := by rfl)
    (hi : X.N[i]? = some n := by rfl) (hj : X.N[j]? = some m := by rfl) (hx : Loc X.env.scope n := by first | exact Or.inl rfl | exact Or.inr rfl) (hy : Loc X.env.scope m := by first | exact Or.inl rfl | exact Or.inr rfl)
    (hfx : X.fn n = true ∨ X.env.scope.names.lookup n = some .local := by first | exact .inl rfl | exact .inr rfl) (hfy : X.fn m = true ∨ X.env.scope.names.lookup m = some .local := by first | exact .inl rfl | exact .inr rfl)
    (hg1 : (assignEach [.Name n px, .Name m py] X.env).map (·.2) = assign (.Name n px) X.env :: (assignEach [.Name m py] X.env).map (·.2) := by rfl) (hg2 : (assignEach [.Name m py] X.env).map (·.2) = assign (.Name m py) X.env :: (assignEach [] X.env).map (·.2) := by rfl)
    (hn : (assignEach [.Name n px, .Name m py] X.env).length = 2 := by rfl) (hst : (assignEach [.Name n px, .Name m py] X.env).findIdx? (·.1) = none := by rfl)
    (hs : swapsWithSole [.Tuple [.Name n px, .Name m py] kt pt] (.Tuple [.Dict [] [] p, b] k2 pt2) pos.line X.env = pure false := by rfl) (hw : swappedStores [.Tuple [.Name n px, .Name m py] kt pt] (.Tuple [.Dict [] [] p, b] k2 pt2) X.env = pure none := by rfl)
    (h1 : (assignEach [.Tuple [.Name n px, .Name m py] kt pt] X.env).map (·.2) = [assign (.Tuple [.Name n px, .Name m py] kt pt) X.env] := by rfl) :
    DS X (.Assign [.Tuple [.Name n px, .Name m py] kt pt] (.Tuple [.Dict [] [] p, b] k2 pt2) pos) (tAsg (tTup (tCons (if k then tDNewT else tDNewK) (tCons tb tNil))) (gSeqU X.K 2 (gCons (gName i) (gCons (gName j) gNil)))) (sParD k i j y) :=
  ⟨ps_asg (pe_tup (pa_cons (match k with | false => pe_dnewK | true => pe_dnewT) (pa_cons h2.pe pa_nil hs2) hs1)) (pg_seqU hc (pgs_cons (pg_name hN hi hx hfx) (pgs_cons (pg_name hN hj hy hfy) pgs_nil hg2) hg1) hn hst) hs hw h1, rs_parD k i j h2.rd⟩
end
theorem ds_for {iter : Expr} {body : List Stmt} {wi : TI} {ie : IE} (hp : PassesOwn (model X.prog X.w) X.A X.env X.xe) (hc : X.calm = true) (hi : DIE X tg iter wi ie) (hg : DG X tg ix g gt) (hb : DSs X body q T) (hs : ∀ x, foldedSetIterable iter X.env x = pure x := by intro _; rfl) :
    DS X (.For tg iter body [] pos) (tFor wi g q) (sFor ie gt T) := ⟨ps_for hp hc hi.pi hg.pg hb.ps hs, rs_for hi.rd hg.rd hb.rd⟩
theorem ds_while {tc : TT} {z : BT} {body : List Stmt} (hp : PassesOwn (model X.prog X.w) X.A X.env X.xe) (hc : DTst X c tc z) (hb : DSs X body q T) : DS X (.While c body [] pos) (tWhile tc q) (sWh z T) := ⟨ps_while hp hc.pt hb.ps, rs_while hc.rd hb.rd⟩
theorem ds_append (i : Nat) {n : Str} (h : DE X e te t) (hN : X.N[i]? = some n := by rfl) (hv : Vis X.env.scope n := by first | exact Or.inl rfl | exact Or.inr (Or.inl rfl) | exact Or.inr (Or.inr rfl)) (hd : (n == ("__debug__" : Str)) = false := by decide) (hcd : (n == ("__classdict__" : Str)) = false := by decide)
    (hbase : attributeBase (.Name n p1) "append" X.env (eval (.Name n p1) X.env) = eval (.Name n p1) X.env := by rfl)
    (hfew : ((backTo cpos (starEach [e] X.env)).all (fun x => !x.1) && (backToKw cpos (keywordEach [] X.env)).all (fun x => x.1.isSome) && decide (([e] : List Expr).length + ([] : List Keyword).length + (if ([] : List Keyword).isEmpty then 0 else 1) < 30)) = true := by rfl)
    (hline : (apos.endLine == cpos.line) = true := by rfl) (hs : starEach [e] X.env = (false, eval e X.env) :: starEach [] X.env := by rfl) (hplain : (backTo cpos (starEach [] X.env)).any (·.1) = false := by rfl)
    (hsw : swapsWith (.Call (.Attribute (.Name n p1) "append" apos) [e] [] cpos) none pos.line X.env = pure false := by rfl) :
    DS X (.Expr (.Call (.Attribute (.Name n p1) "append" apos) [e] [] cpos) pos) (tDrop (tBM X.K "list" rAppend (tVar i) (tCons te tNil))) (sAppend i t) :=
  ⟨ps_expr (pe_bm PySem.F.plainAttrs_list PySem.F.slot_list_append PySem.F.type_list_append mt_append (pe_var hN hv hd hcd) (pa_cons h.pe pa_nil hs) hbase hfew hline hs hplain) hsw, rs_append i h.rd⟩
theorem ds_extend (i : Nat) {n : Str} (h : DR X e te t) (hN : X.N[i]? = some n := by rfl) (hv : Vis X.env.scope n := by first | exact Or.inl rfl | exact Or.inr (Or.inl rfl) | exact Or.inr (Or.inr rfl)) (hd : (n == ("__debug__" : Str)) = false := by decide) (hcd : (n == ("__classdict__" : Str)) = false := by decide)
    (hbase : attributeBase (.Name n p1) "extend" X.env (eval (.Name n p1) X.env) = eval (.Name n p1) X.env := by rfl)
    (hfew : ((backTo cpos (starEach [e] X.env)).all (fun x => !x.1) && (backToKw cpos (keywordEach [] X.env)).all (fun x => x.1.isSome) && decide (([e] : List Expr).length + ([] : List Keyword).length + (if ([] : List Keyword).isEmpty then 0 else 1) < 30)) = true := by rfl)
    (hline : (apos.endLine == cpos.line) = true := by rfl) (hs : starEach [e] X.env = (false, eval e X.env) :: starEach [] X.env := by rfl) (hplain : (backTo cpos (starEach [] X.env)).any (·.1) = false := by rfl)
    (hsw : swapsWith (.Call (.Attribute (.Name n p1) "extend" apos) [e] [] cpos) none pos.line X.env = pure false := by rfl) :
    DS X (.Expr (.Call (.Attribute (.Name n p1) "extend" apos) [e] [] cpos) pos) (tDrop (tBM X.K "list" rExtend (tVar i) (tCons te tNil))) (sExtend i t) :=
  ⟨ps_expr (pe_bm PySem.F.plainAttrs_list PySem.F.slot_list_extend PySem.F.type_list_extend mt_extend (pe_var hN hv hd hcd) (pa_cons h.pe pa_nil hs) hbase hfew hline hs hplain) hsw, rs_extend i h.rd⟩
theorem ds_put (i : Nat) {n : Str} {kk : Nat} (room : Room kk X.A) (hv' : DE X e te t) (hk : DE X a ta x) (hs : swapsWith e (some (.Subscript (.Name n p1) a pos')) pos.line X.env = pure false := by rfl) (hN : X.N[i]? = some n := by rfl) (hv : Vis X.env.scope n := by first | exact Or.inl rfl | exact Or.inr (Or.inl rfl) | exact Or.inr (Or.inr rfl))
    (hd : (n == ("__debug__" : Str)) = false := by decide) (hcd : (n == ("__classdict__" : Str)) = false := by decide) : DS X (.Assign [.Subscript (.Name n p1) a pos'] e pos) (sDPut (tVar i) ta te) (sPut i t x) := ⟨ps_dput (hu_of room) (pe_var hN hv hd hcd) hk.pe hv'.pe hs, rs_put i hv'.rd hk.rd⟩
variable {keys : List (Option Expr)} {values : List Expr} {trs : List (TE × TE)} {ps : PsT}
theorem dps_nil : DPs X pos [] [] [] psNil := ⟨pps_nil, rps_nil⟩
theorem dps_cons (hk : DE X a ta x) (hv : DE X b tb y) (h : DPs X pos keys values trs ps) : DPs X pos (some a :: keys) (b :: values) ((ta, tb) :: trs) (psCons x y ps) := ⟨pps_cons hk.pe hv.pe h.pp, rps_cons hk.rd hv.rd h.rd⟩
theorem ds_dispT (i : Nat) {n : Str} {kk : Nat} (room : Room kk X.A) (hN : X.N.Nodup) (h : DPs X p keys values trs ps) (hall : keys.all (·.isSome) = true := by rfl) (hl : keys.length = values.length := by rfl) (h0 : keys ≠ [] := by exact List.cons_ne_nil _ _) (h15 : keys.length ≤ 15 := by exact of_decide_eq_true rfl)
    (hi : X.N[i]? = some n := by rfl) (hx : Loc X.env.scope n := by first | exact Or.inl rfl | exact Or.inr rfl) (hs : swapsWith (.Dict keys values p) (some (.Name n pos')) pos.line X.env = pure false := by rfl)
    (hf : X.fn n = true ∨ X.env.scope.names.lookup n = some .local := by first | exact .inl rfl | exact .inr rfl) : DS X (.Assign [.Name n pos'] (.Dict keys values p) pos) (tAsg (tDispT trs) (gName i)) (sDispT i ps) :=
  ⟨ps_set hN hi hx (pe_dispT (hu_of room) h.pp hall hl h0 h15) hs hf, rs_dispT i h.rd⟩
end
/-! a def -/
section
variable {P : Program} {w : World} {K : PySem.W.Frag} {mg : Str → Option Value} {base : Heap}
/-- the def's body read as T -/
def WkT (P : Program) (w : World) (K : PySem.W.Frag) (mg : Str → Option Value) (base : Heap) (k : Nat) (N : List Str) (qual : Str) (st : Stmt) (T : ST) : Prop :=
  ∀ (f : Addr) (cdv : Value) (A : Around) (outer : List Env) (s : Shared) (H : Hp), Room k (A.deeper (envOfC qual (defScope st) s.heap.objs.size f cdv)) → (A.deeper (envOfC qual (defScope st) s.heap.objs.size f cdv)).guards = some [] →
    ∃ ts, DSs (cxOf CX0 P w K mg base N qual (defScope st) f cdv A outer s H E0).nox (defBody st) ts T
theorem WkT.ok {x qual : Str} {st : Stmt} {f : Addr} {fd : FuncData} {N ps : List Str} {k : Nat} {R : Pm} {T : ST} (W : WkT P w K mg base k N qual st T) (F : Fun K x qual st f fd) (S : FnScope N ps (defScope st))
    (hp : ∀ xs Q, xs.length = ps.length → R xs Q → T (endE Q) (xs ++ List.replicate (N.length - xs.length) .un)) : FnG P w K mg base (k + 1) f fd ps (spG K ps.length R) := by
  refine Fun.okG F S (fun vs H Q h => h.1) (fun cdv A outer s H vs Q hr gd h => ?_)
  obtain ⟨hl, sr, G, xs, wd, r, q⟩ := h
  obtain ⟨ts, hD⟩ := W f cdv A outer s H hr gd
  have hpl : ps.length ≤ N.length := by have := congrArg List.length S.pre; rw [List.length_take] at this; omega
  refine ⟨ts, hD.ps, ?_⟩
  have e0 := ER.start wd r N (by omega)
  exact hD.rd.rs sr G H G H _ _ _ _ e0 (hp xs _ ((Paired.length r).symm.trans hl) q) ⟨fun ρ' σ' G' H' s e q => q .non G' H' e.le .non, fun v d G' H' l r q => q v G' H' l r, fun _ _ _ _ _ _ q => q, fun _ _ _ _ _ _ q => q⟩
/-- a def of the top, by its name -/
structure FDef (K : PySem.W.Frag) (mg : Str → Option Value) (x : Str) (st : Stmt) (ps : List Str) : Prop where
  ex : ∃ f fd, Fun K x x st f fd ∧ mg x = some (.ref f) ∧ Binds K fd ps []
theorem WkT.cal {x : Str} {st : Stmt} {N ps : List Str} {k : Nat} {R : Pm} {T : ST} (W : WkT P w K mg base k N x st T) (D : FDef K mg x st ps) (S : FnScope N ps (defScope st))
    (hp : ∀ xs Q, xs.length = ps.length → R xs Q → T (endE Q) (xs ++ List.replicate (N.length - xs.length) .un)) : DCal P w K mg base (k + 1) x (spG K ps.length R) := by
  obtain ⟨f, fd, F, hm, hb⟩ := D.ex
  exact ⟨f, fd, ps, W.ok F S hp, hm, F.kp, hb⟩
end
end DL
/-! DL15: constants walked, what comes back a constant, min of a list. -/
namespace DL
open PySem PySem.Spec L2
open PyProof.Rows hiding St

def iSeqC (t : DT) : IT := fun ρ Q => t ρ fun d => match d with
  | .tuple ds => ds.all scal' = true ∧ Q ds
  | _ => False
section
variable {K : PySem.W.Frag} {te : TE} {t : DT}
theorem RkA.rp {G : Hp} : ∀ {xs : List V} {ds : List D}, RkA K xs ds → ds.all scal' = true → RpA K G xs ds
  | _, _, .nil, _ => .nil
  | _, _, .cons a b, h => by
    simp only [List.all_cons, Bool.and_eq_true] at h
    exact .cons (a.sc h.1) (RkA.rp b h.2)
theorem ir_tupK {sr : Sr} {G : Hp} {a : Addr} {xs : List V} {ds : List D} (h : ∀ H : Hp, SqT K H a xs) (r : RpA K G xs ds) : ItR K sr G (Itt K a) ds := fun G2 H2 s w => by
  have h2 : SqT K H2 a xs := h H2
  refine ⟨fun i hi => ⟨xs, h2, by rw [r.length]; exact hi⟩, fun i d hd => ?_⟩
  obtain ⟨u, e1, e2⟩ := r.get hd
  refine ⟨⟨xs, u, h2, e1⟩, fun x H3 y => ?_⟩
  obtain ⟨rfl, y⟩ := y
  have ex := y xs h2
  rw [e1] at ex
  cases ex
  exact ⟨G2, Le.refl w, Rp.sub s e2⟩
theorem ri_seqC (h : RdR K te t) : Ri K (iSeqU K te) (iSeqC t) := by
  refine ⟨fun ρ Q Q' m q => h.mono ρ _ _ (fun d q => ?_) q, fun sr G0 H0 G H ρ σ R e q => ?_⟩
  · split at q
    · exact ⟨q.1, m _ q.2⟩
    · exact q.elim
  · refine h.rd sr G0 H0 G H ρ σ _ e (h.mono _ _ _ (fun d q v G1 H1 l r => ?_) q)
    split at q
    · cases r with
      | fz r => cases r with
        | tup hs ra => exact .inr ⟨_, rfl, ⟨_, .inl (.inl (l.wd.sub _ _ hs))⟩, q.2 _ G1 H1 l (ir_tup hs ra)⟩
      | kc r => cases r with
        | tup h1 h2 h3 h4 h5 ra => exact .inr ⟨_, rfl, ⟨_, .inr ⟨_, _, _, h1, h2, h3, h4, h5⟩⟩, q.2 _ G1 H1 l (ir_tupK (fun _ => .inr ⟨_, _, _, h1, h2, h3, h4, h5⟩) (ra.rp q.1))⟩
    · exact q.elim
/-- what comes back is plain or a constant -/
def spGC (K : PySem.W.Frag) (n : Nat) (P : Pm) : SpG := fun vs H Q => vs.length = n ∧ ∃ sr G xs, Wd sr G H ∧ Paired (SR K sr G H) vs xs ∧ P xs (Kc K sr G H Q)
theorem Kc.le {sr : Sr} {G H G1 H1 : Hp} {Q : VK} {d : D} (w : Wd sr G H) (l : Le sr G H G1 H1) (k : Kc K sr G H Q d) : Kc K sr G1 H1 Q d := fun v G' H' l' r => k v G' H' (Le.trans w l l') r
theorem rc_callG {R : Pm} {ta : TA} {a : En → (List Slot → Prop) → Prop} {n : Nat} (hP : MonoP R) (h : RA K (SR K) ta a) : RdC K (tCallG (spGC K n R) ta) (dCall n R a) := by
  refine ⟨fun ρ Q Q' m q => h.mono ρ _ _ (fun d q => ⟨q.1, hP _ _ _ m q.2⟩) q, fun sr G0 H0 G H ρ σ Q e q => ?_⟩
  refine h.rd sr G0 H0 G H ρ σ _ e (h.mono _ _ _ (fun xs q vs G1 H1 l1 r1 => ?_) q)
  exact ⟨(Paired.length r1).trans q.1, sr, G1, xs, l1.wd, r1, hP _ _ _ (fun d k => k.le e.wd l1) q.2⟩
/-- min of a list of ints -/
def toInts : List D → Option (List Int)
  | [] => some []
  | .int i :: r => (toInts r).map (i :: ·)
  | _ :: _ => none
def minL : List Int → Option Int
  | [] => none
  | [i] => some i
  | i :: r => (minL r).map fun j => if j < i then j else i
def kMinL : List D → (D → Prop) → Prop := fun ds Q => match ds with
  | [.list xs] => (match toInts xs with
    | some ns => (match minL ns with
      | some m => Q (.int m)
      | none => False)
    | none => False)
  | _ => False
theorem toInts_of : ∀ {ds : List D} {ns : List Int}, toInts ds = some ns → ds = ns.map PyData.int
  | [], ns, h => by cases h; rfl
  | .int i :: r, ns, h => by
    unfold toInts at h
    cases e : toInts r with
    | none => rw [e] at h; cases h
    | some l =>
      rw [e] at h
      cases h
      rw [toInts_of e]; rfl
  | .none :: r, ns, h => by cases h
  | .bool _ :: r, ns, h => by cases h
  | .str _ :: r, ns, h => by cases h
  | .list _ :: r, ns, h => by cases h
  | .tuple _ :: r, ns, h => by cases h
  | .dict _ :: r, ns, h => by cases h
theorem minL_of : ∀ {ns : List Int} {m : Int}, minL ns = some m → m ∈ ns ∧ ∀ y ∈ ns, m ≤ y
  | [], m, h => by cases h
  | [i], m, h => by cases h; simp
  | i :: j :: r, m, h => by
    unfold minL at h
    cases e : minL (j :: r) with
    | none => rw [e] at h; cases h
    | some k =>
      rw [e] at h
      have h' : (if k < i then k else i) = m := Option.some.inj h
      obtain ⟨h1, h2⟩ := minL_of e
      subst h'
      refine ⟨?_, fun y hy => ?_⟩
      · split
        · exact List.mem_cons_of_mem _ h1
        · exact List.mem_cons_self
      · rcases List.mem_cons.mp hy with rfl | hy
        · split <;> omega
        · have := h2 y hy
          split <;> omega
theorem ints_rp {G : Hp} : ∀ {vs : List V} {ns : List Int}, RpA K G vs (ns.map PyData.int) → vs = ns.map V.int
  | _, [], .nil => rfl
  | _, i :: r, .cons a b => by cases a; rw [ints_rp b]; rfl
theorem rc_minL : RC K (rMin K) kMinL := by
  refine ⟨fun ds Q Q' m q => ?_, fun sr G H vs ds Q w rx q => ?_⟩
  · unfold kMinL at q ⊢
    split at q
    · split at q
      · split at q
        · exact m _ q
        · exact q.elim
      · exact q.elim
    · exact q.elim
  · unfold kMinL at q
    split at q
    · rename_i xs
      split at q
      · rename_i ns e1
        split at q
        · rename_i m e2
          obtain ⟨v, rfl, r⟩ := pr1 rx
          obtain ⟨p, vs, e, h, ra⟩ := (show Rr K sr G H v _ from r).lst w
          rw [toInts_of e1] at ra
          have ev := ints_rp ra
          obtain ⟨h1, h2⟩ := minL_of e2
          refine ⟨p, ns, by rw [e], by rw [← ev]; exact .inl (.inl h), List.length_pos_iff.mpr (List.ne_nil_of_mem h1), fun m' h1' h2' => ?_⟩
          have em : m' = m := by have a := h2' m h1; have b := h2 m' h1'; omega
          rw [em]
          exact Kd.now w (.int _) q
        · exact q.elim
      · exact q.elim
    · exact q.elim
end
section
variable {X : Cx} {a b e f c tg : Expr} {es : List Expr} {pos p : Pos} {te : TE} {t : DT} {ts : TA} {s : AT} {ss : En → (List Slot → Prop) → Prop}
theorem di_seqC {K : PySem.W.Frag} (h : DR X e te t) (hK : X.K = K := by rfl) : DI X tg e (iSeqU K te) (iSeqC t) := by
  subst hK
  exact ⟨pi_seqU h.pe, ri_seqC h.rd⟩
theorem dc_callC {n : Str} {m j kc : Nat} {R : Pm} {P : Program} {w : World} {K : PySem.W.Frag} {mg : Str → Option Value} {base : Heap} (c : DCal P w K mg base kc n (spGC K m R)) (mono : MonoP R) (room : Room j X.A) (lv : kc ≤ j) (gd : X.A.guards = some []) (as : DA X (SR K) (e :: es) ts ss) (hP : X.prog = P := by rfl) (hw : X.w = w := by rfl) (hK : X.K = K := by rfl) (hmg : X.mg = mg := by rfl) (hb : X.base = base := by rfl) (gx : Gl X n := by rfl) (ndb : (n == ("__debug__" : Str)) = false := by decide)
    (st1 : starEach (e :: es) X.env = (false, eval e X.env) :: starEach es X.env := by rfl) (st2 : (backTo pos (starEach es X.env)).any (·.1) = false := by rfl) : DC X (.Call (.Name n p) (e :: es) [] pos) (tCallG (spGC K m R) ts) (dCall m R ss) := by
  subst hP hw hK hmg hb
  obtain ⟨f, fd, ps, F, mx, kp, bd⟩ := c.ex
  exact ⟨pe_callG F (room.mono lv) gd gx mx kp bd as.pa ndb st1 st2, rc_callG mono as.rd⟩
theorem de_minL {K : PySem.W.Frag} (hm : X.mg "min" = none) (hc : X.calm = true) (as : DA X (RR X.K) (e :: es) ts s) (hg : Gl X "min" := by rfl) (he : starEach (e :: es) X.env = (false, eval e X.env) :: starEach es X.env := by rfl) (hpl : (backTo pos (starEach es X.env)).any (·.1) = false := by rfl) (hK : X.K = K := by rfl) :
    DE X (.Call (.Name "min" p) (e :: es) [] pos) (tCB (rMin K) ts) (dCB kMinL s) := by
  subst hK
  exact ⟨pe_callB (cr_min hc) hg hm boot_min as.pa (by decide) (by decide) he hpl, rd_cb rc_minL as.rd⟩
end
theorem de_dict0 {X : Cx} {pos : Pos} : DE X (.Dict [] [] pos) tDNewK (dC (.dict [])) := ⟨pe_dnewK, ⟨fun ρ Q Q' m q => m _ q, fun sr G0 H0 G H ρ σ Q e q p n =>
  q _ _ _ (Le.newF (o := .dK []) e.wd n) (.dK upd_same .nil)⟩⟩
/-! promises, in one form: inputs, what is asked of them, what comes back -/
def RI {I : Type} (enc : I → List Slot) (pre : I → Prop) (post : I → D → Prop) : Pm := fun xs Q => ∃ i, xs = enc i ∧ pre i ∧ ∀ d, post i d → Q d
theorem ri_mono {I : Type} {enc : I → List Slot} {pre : I → Prop} {post : I → D → Prop} : MonoP (RI enc pre post) := fun xs Q Q' m q => let ⟨i, e, h, q⟩ := q; ⟨i, e, h, fun d hd => m _ (q d hd)⟩
theorem ri_use {I : Type} {enc : I → List Slot} {pre : I → Prop} {post : I → D → Prop} {Q : D → Prop} (i : I) {xs : List Slot} (hx : xs = enc i) (h : pre i) (q : ∀ d, post i d → Q d) : RI enc pre post xs Q := ⟨i, hx, h, q⟩
end DL
/-! DL16: texts compared, whatever their signs. -/
namespace DL
open PySem PySem.Spec L2
open PyProof.Rows hiding St

def kEqS : K2 := fun d e Q => match d, e with
  | .str a, .str b => Q (.bool (decide (a = b)))
  | _, _ => False
def kNeS : K2 := fun d e Q => match d, e with
  | .str a, .str b => Q (.bool (!decide (a = b)))
  | _, _ => False
def toStrs : List D → Option (List Str)
  | [] => some []
  | .str a :: r => (toStrs r).map (a :: ·)
  | _ :: _ => none
theorem toStrs_of : ∀ {ds : List D} {ss : List Str}, toStrs ds = some ss → ds = ss.map PyData.str
  | [], ss, h => by cases h; rfl
  | .str a :: r, ss, h => by
    unfold toStrs at h
    cases e : toStrs r with
    | none => rw [e] at h; cases h
    | some l =>
      rw [e] at h
      cases h
      rw [toStrs_of e]; rfl
  | .none :: _, _, h => by cases h
  | .bool _ :: _, _, h => by cases h
  | .int _ :: _, _, h => by cases h
  | .list _ :: _, _, h => by cases h
  | .tuple _ :: _, _, h => by cases h
  | .dict _ :: _, _, h => by cases h
theorem toStrs_map : ∀ ss : List Str, toStrs (ss.map PyData.str) = some ss
  | [] => rfl
  | a :: r => by
    show (toStrs (r.map PyData.str)).map (a :: ·) = _
    rw [toStrs_map r]; rfl
def kInS (neg : Bool) : K2 := fun d e Q => match d, e with
  | .str a, .list ds => (match toStrs ds with | some ss => Q (.bool (if neg then !decide (a ∈ ss) else decide (a ∈ ss))) | none => False)
  | .str a, .tuple ds => (match toStrs ds with | some ss => Q (.bool (if neg then !decide (a ∈ ss) else decide (a ∈ ss))) | none => False)
  | _, _ => False
section
variable {K : PySem.W.Frag}
theorem dstr (a b : Str) : decide (V.str a = V.str b) = decide (a = b) := by
  by_cases h : a = b
  · subst h; simp
  · rw [decide_eq_false h]; exact decide_eq_false fun z => h (V.str.inj z)
theorem ro_eqS : RO K rEq kEqS := by
  refine ⟨fun d e Q Q' m q => ?_, fun sr G H x y d e Q w rx ry q => ?_⟩
  · unfold kEqS at q ⊢
    split at q
    · exact m _ q
    · exact q.elim
  · unfold kEqS at q
    split at q
    · have e1 := rx.str
      have e2 := ry.str
      subst e1 e2
      refine ⟨rfl, ?_⟩
      rw [dstr]
      exact Kd.now w (.bl _) q
    · exact q.elim
theorem ro_neS : RO K rNe kNeS := by
  refine ⟨fun d e Q Q' m q => ?_, fun sr G H x y d e Q w rx ry q => ?_⟩
  · unfold kNeS at q ⊢
    split at q
    · exact m _ q
    · exact q.elim
  · unfold kNeS at q
    split at q
    · have e1 := rx.str
      have e2 := ry.str
      subst e1 e2
      refine ⟨rfl, ?_⟩
      rw [dstr]
      exact Kd.now w (.bl _) q
    · exact q.elim
theorem strs_rp {G : Hp} : ∀ {vs : List V} {ss : List Str}, RpA K G vs (ss.map PyData.str) → vs = ss.map V.str
  | _, [], .nil => rfl
  | _, i :: r, .cons a b => by cases a; rw [strs_rp b]; rfl
theorem strs_rk : ∀ {vs : List V} {ss : List Str}, RkA K vs (ss.map PyData.str) → vs = ss.map V.str
  | _, [], .nil => rfl
  | _, i :: r, .cons a b => by cases a; rw [strs_rk b]; rfl
theorem inV_strs (a : Str) : ∀ ss : List Str, inV (.str a) (ss.map V.str) = decide (a ∈ ss) ∧ (ss.map V.str).all flatV = true
  | [] => ⟨by simp [inV], rfl⟩
  | b :: r => by
    obtain ⟨h1, h2⟩ := inV_strs a r
    refine ⟨?_, by rw [List.map_cons, List.all_cons, h2]; rfl⟩
    unfold inV at h1 ⊢
    rw [List.map_cons, List.any_cons, h1]
    show ((b == a) || decide (a ∈ r)) = _
    by_cases h : b = a
    · subst h; simp
    · have h' : ¬ a = b := fun z => h z.symm
      have e : (b == a) = false := beq_eq_false_iff_ne.mpr h
      rw [e]; simp [h']
theorem ro_inS (neg : Bool) : RO K (rIn K neg) (kInS neg) := by
  refine ⟨fun d e Q Q' m q => ?_, fun sr G H x y d e Q w rx ry q => ?_⟩
  · unfold kInS at q ⊢
    split at q
    · split at q
      · exact m _ q
      · exact q.elim
    · split at q
      · exact m _ q
      · exact q.elim
    · exact q.elim
  · unfold kInS at q
    split at q
    · split at q
      · rename_i ss hss
        have e1 := rx.str
        subst e1
        obtain ⟨p, xs, e2, h, ra⟩ := ry.lst w
        rw [toStrs_of hss] at ra
        have e3 := strs_rp ra
        subst e3
        obtain ⟨i1, i2⟩ := inV_strs _ ss
        refine ⟨p, _, e2, .inl (.inl (.inl h)), rfl, i2, ?_⟩
        rw [i1]
        exact Kd.now w (.bl _) q
      · exact q.elim
    · split at q
      · rename_i ss hss
        have e1 := rx.str
        subst e1
        obtain ⟨p, xs, e2, h, hl, ra⟩ := ry.tup w
        rw [toStrs_of hss] at ra
        have e3 : xs = ss.map V.str := ra.elim strs_rp strs_rk
        subst e3
        obtain ⟨i1, i2⟩ := inV_strs _ ss
        refine ⟨p, _, e2, .inr h, rfl, i2, ?_⟩
        rw [i1]
        exact Kd.now w (.bl _) q
      · exact q.elim
    · exact q.elim
end
section
variable {X : Cx} {a b : Expr} {pos : Pos} {ta tb : TE} {x y : DT}
theorem de_eqS (h1 : DR X a ta x) (h2 : DR X b tb y) (hm : behindInMarks .Eq b = false := by exact nomark _) : DE X (.Compare a [.Eq] [b] pos) (tOp rEq ta tb) (dOp kEqS x y) := ⟨pe_cmpR op_eq h1.pe h2.pe hm, rd_op ro_eqS h1.rd h2.rd⟩
theorem de_neS (h1 : DR X a ta x) (h2 : DR X b tb y) (hm : behindInMarks .NotEq b = false := by exact nomark _) : DE X (.Compare a [.NotEq] [b] pos) (tOp rNe ta tb) (dOp kNeS x y) := ⟨pe_cmpR op_ne h1.pe h2.pe hm, rd_op ro_neS h1.rd h2.rd⟩
theorem dt_eqS (h1 : DR X a ta x) (h2 : DR X b tb y) (hm : behindInMarks .Eq b = false := by exact nomark _) : DTst X (.Compare a [.Eq] [b] pos) (tTest (tOp rEq ta tb)) (bT (dOp kEqS x y)) := ⟨pt_cmpR op_eq h1.pe h2.pe hm, rt_test (rd_op ro_eqS h1.rd h2.rd)⟩
theorem dt_neS (h1 : DR X a ta x) (h2 : DR X b tb y) (hm : behindInMarks .NotEq b = false := by exact nomark _) : DTst X (.Compare a [.NotEq] [b] pos) (tTest (tOp rNe ta tb)) (bT (dOp kNeS x y)) := ⟨pt_cmpR op_ne h1.pe h2.pe hm, rt_test (rd_op ro_neS h1.rd h2.rd)⟩
theorem de_inS {K : PySem.W.Frag} (h1 : DR X a ta x) (h2 : DR X b tb y) (hm : behindInMarks .In b = false := by first | rfl | with_unfolding_all rfl) (hK : X.K = K := by rfl) : DE X (.Compare a [.In] [b] pos) (tOp (rIn K false) ta tb) (dOp (kInS false) x y) := by
  subst hK
  exact ⟨pe_cmpR op_in_seq h1.pe h2.pe hm, rd_op (ro_inS false) h1.rd h2.rd⟩
theorem de_notInS {K : PySem.W.Frag} (h1 : DR X a ta x) (h2 : DR X b tb y) (hm : behindInMarks .NotIn b = false := by first | rfl | with_unfolding_all rfl) (hK : X.K = K := by rfl) : DE X (.Compare a [.NotIn] [b] pos) (tOp (rIn K true) ta tb) (dOp (kInS true) x y) := by
  subst hK
  exact ⟨pe_cmpR op_notIn_seq h1.pe h2.pe hm, rd_op (ro_inS true) h1.rd h2.rd⟩
theorem dt_inS {K : PySem.W.Frag} (h1 : DR X a ta x) (h2 : DR X b tb y) (hm : behindInMarks .In b = false := by first | rfl | with_unfolding_all rfl) (hK : X.K = K := by rfl) : DTst X (.Compare a [.In] [b] pos) (tTest (tOp (rIn K false) ta tb)) (bT (dOp (kInS false) x y)) := by
  subst hK
  exact ⟨pt_cmpR op_in_seq h1.pe h2.pe hm, rt_test (rd_op (ro_inS false) h1.rd h2.rd)⟩
theorem dt_notInS {K : PySem.W.Frag} (h1 : DR X a ta x) (h2 : DR X b tb y) (hm : behindInMarks .NotIn b = false := by first | rfl | with_unfolding_all rfl) (hK : X.K = K := by rfl) : DTst X (.Compare a [.NotIn] [b] pos) (tTest (tOp (rIn K true) ta tb)) (bT (dOp (kInS true) x y)) := by
  subst hK
  exact ⟨pt_cmpR op_notIn_seq h1.pe h2.pe hm, rt_test (rd_op (ro_inS true) h1.rd h2.rd)⟩
end
end DL
/-! DL17: the source of draws. -/
namespace DL
open PySem PySem.Spec L2
open PyProof.Rows hiding St

def srcD (c : Addr) (l m t : Int) : List (Key × V) := [(.inr "cells", .ref c), (.inr "left", .int l), (.inr "mixed", .int m), (.inr "turn", .int t)]
def srcH (H : Hp) (p c : Addr) (cells : List Int) (l m t : Int) : Hp := upd (upd H p (.dK (srcD c l m t))) c (.lst (cells.map V.int))
theorem sk1 {a b : Str} (h : decide (a = b) = false) : decide ((Sum.inr a : Key) = Sum.inr b) = false := decide_eq_false fun z => of_decide_eq_false h (Sum.inr.inj z)
theorem key_c {c : Addr} {l m t : Int} : valV (srcD c l m t) (.inr "cells") = some (.ref c) := by
  unfold valV srcD
  rw [List.find?_cons, decide_eq_true rfl]; rfl
theorem key_l {c : Addr} {l m t : Int} : valV (srcD c l m t) (.inr "left") = some (.int l) := by
  unfold valV srcD
  rw [List.find?_cons, sk1 (by decide +kernel), List.find?_cons, decide_eq_true rfl]; rfl
theorem key_m {c : Addr} {l m t : Int} : valV (srcD c l m t) (.inr "mixed") = some (.int m) := by
  unfold valV srcD
  rw [List.find?_cons, sk1 (by decide +kernel), List.find?_cons, sk1 (by decide +kernel), List.find?_cons, decide_eq_true rfl]; rfl
theorem key_t {c : Addr} {l m t : Int} : valV (srcD c l m t) (.inr "turn") = some (.int t) := by
  unfold valV srcD
  rw [List.find?_cons, sk1 (by decide +kernel), List.find?_cons, sk1 (by decide +kernel), List.find?_cons, sk1 (by decide +kernel), List.find?_cons, decide_eq_true rfl]; rfl
theorem sne {a b : Str} (h : decide (a = b) = false) : ¬ (Sum.inr a : Key) = Sum.inr b := fun z => of_decide_eq_false h (Sum.inr.inj z)
theorem put_l {c : Addr} {l m t l' : Int} : putK (srcD c l m t) (.inr "left") (.int l') = srcD c l' m t := by
  unfold putK srcD
  simp only [List.any_cons, decide_true, Bool.true_or, Bool.or_true, if_true, List.map_cons, List.map_nil]
  rw [if_neg (sne (by decide +kernel)), if_neg (sne (by decide +kernel)), if_neg (sne (by decide +kernel))]
theorem put_m {c : Addr} {l m t m' : Int} : putK (srcD c l m t) (.inr "mixed") (.int m') = srcD c l m' t := by
  unfold putK srcD
  simp only [List.any_cons, decide_true, Bool.true_or, Bool.or_true, if_true, List.map_cons, List.map_nil]
  rw [if_neg (sne (by decide +kernel)), if_neg (sne (by decide +kernel)), if_neg (sne (by decide +kernel))]
theorem put_t {c : Addr} {l m t t' : Int} : putK (srcD c l m t) (.inr "turn") (.int t') = srcD c l m t' := by
  unfold putK srcD
  simp only [List.any_cons, decide_true, Bool.true_or, Bool.or_true, if_true, List.map_cons, List.map_nil]
  rw [if_neg (sne (by decide +kernel)), if_neg (sne (by decide +kernel)), if_neg (sne (by decide +kernel))]
section
variable {H : Hp} {p c : Addr} {cells : List Int} {l m t : Int} (ne : p ≠ c)
include ne
theorem src_p : srcH H p c cells l m t p = some (.dK (srcD c l m t)) := by
  unfold srcH
  rw [upd_ne ne, upd_same]
omit ne in
theorem src_c : srcH H p c cells l m t c = some (.lst (cells.map V.int)) := by
  unfold srcH
  rw [upd_same]
omit ne in
theorem src_o {a : Addr} (h1 : a ≠ p) (h2 : a ≠ c) : srcH H p c cells l m t a = H a := by
  unfold srcH
  rw [upd_ne h2, upd_ne h1]
theorem src_put {l' m' t' : Int} : upd (srcH H p c cells l m t) p (.dK (srcD c l' m' t')) = srcH H p c cells l' m' t' := by
  funext a
  by_cases h1 : a = p
  · subst h1; rw [upd_same, src_p ne]
  · rw [upd_ne h1]
    by_cases h2 : a = c
    · subst h2; rw [src_c, src_c]
    · rw [src_o h1 h2, src_o h1 h2]
omit ne in
theorem src_pop {cs : List Int} : upd (srcH H p c cells l m t) c (.lst (cs.map V.int)) = srcH H p c cs l m t := by
  unfold srcH
  rw [upd_upd]
theorem src_self {cells : List Int} {l m t : Int} (h1 : H p = some (.dK (srcD c l m t))) (h2 : H c = some (.lst (cells.map V.int))) : H = srcH H p c cells l m t := by
  funext a
  by_cases q1 : a = p
  · subst q1; rw [src_p ne, h1]
  · by_cases q2 : a = c
    · subst q2; rw [src_c, h2]
    · rw [src_o q1 q2]
end
theorem Le.src {G H : Hp} {p c : Addr} (w : Wd (some (p, c)) G H) {cells : List Int} {l m t : Int} (hz : cells.length ≤ 1000) : Le (some (p, c)) G H G (srcH H p c cells l m t) := by
  obtain ⟨⟨ne, _, _, _, _, _, _, _⟩, g1, g2⟩ := w.src p c rfl
  refine ⟨⟨fun a o e => ?_, fun a b e => ?_, fun a xs e => ?_⟩, fun a o e n => ?_, fun a o e => rfl⟩
  · have n1 : a ≠ p := fun z => by subst z; rw [g1] at e; cases e
    have n2 : a ≠ c := fun z => by subst z; rw [g2] at e; cases e
    rw [src_o n1 n2]; exact w.sub a o e
  · cases e
    exact ⟨⟨ne, cells, l, m, t, src_p ne, src_c, hz⟩, g1, g2⟩
  · have n1 : a ≠ p := fun z => by subst z; rw [src_p ne] at e; cases e
    have n2 : a ≠ c := fun z => by subst z; rw [src_c] at e; cases e
    rw [src_o n1 n2] at e
    exact w.tup a xs e
  · have n1 : a ≠ p := fun z => n ⟨p, c, rfl, .inl z⟩
    have n2 : a ≠ c := fun z => n ⟨p, c, rfl, .inr z⟩
    rw [src_o n1 n2]; exact e

/-! ### _law_pick -/
abbrev dgS (x : Str) : TE := tDGet (tVar 0) (tC (.str x))
abbrev rAbs1 : List V → Hp → VK → Prop := fun xs H Q => ∃ i j, xs = [.int i, .int j] ∧ Q (.int (if j > i then j else i)) H
abbrev rInt1 : List V → Hp → VK → Prop := fun xs H Q => (∃ i, xs = [.int i] ∧ Q (.int i) H) ∨ ∃ k, xs = [.bl k] ∧ Q (.int (if k then 1 else 0)) H
abbrev rLenL (K : PySem.W.Frag) : List V → Hp → VK → Prop := fun xs H Q => ∃ x n, xs = [x] ∧ LenV K x H n ∧ Q (.int n) H
abbrev tI (i : Int) : TE := tC (.int i)
abbrev tMx : TE := tCB rAbs1 (tCons (tI 1) (tCons (tVar 1) tNil))
abbrev mAdd (a b : TE) : TE := tOp (rI0 fun i j => .int (i + j)) a b
abbrev mMul (a b : TE) : TE := tOp (rI CMul fun i j => .int (i * j)) a b
abbrev mMod (a b : TE) : TE := tOp (rI (fun _ j => j ≠ 0) fun i j => .int (i.fmod j)) a b
abbrev mDiv (a b : TE) : TE := tOp (rI CDivN fun i j => .int (i.fdiv j)) a b
abbrev cLt (a b : TE) : TT := tTest (tOp (rI0 fun i j => .bl (decide (i < j))) a b)
abbrev cGt (a b : TE) : TT := tTest (tOp (rI0 fun i j => .bl (decide (j < i))) a b)
def tPickW (K : PySem.W.Frag) : TS := tWhile (tAnd (cGt (tVar 1) (tI 1)) (tAnd (cLt (dgS "left") (tI 2)) (cGt (tCB (rLenL K) (tCons (dgS "cells") tNil)) (tI 0)))) (sDPut (tVar 0) (tC (.str "left")) (tBM0 K "list" rPop (dgS "cells")))
def tPickR : TS := tIfS (tOr (cLt (tVar 1) (tI 2)) (cGt (tVar 2) (tI 1))) (tSeq (sDPut (tVar 0) (tC (.str "left")) (mDiv (tVar 2) tMx)) (tRet (mMod (tCB rInt1 (tCons (tVar 2) tNil)) tMx))) tNext
def tPickM : TS := tSeq (sDPut (tVar 0) (tC (.str "turn")) (mAdd (dgS "turn") (tI 1)))
  (tSeq (tAsg (mMod (tCB rInt1 (tCons (mAdd (dgS "mixed") (mMul (dgS "turn") (tI 104729))) tNil)) (tI 998244353)) (gName 3))
  (tSeq (tAsg (mMod (tCB rInt1 (tCons (mAdd (mMul (tVar 3) (tVar 3)) (mMul (dgS "turn") (tI 17))) tNil)) (tI 2147483647)) (gName 3))
  (tSeq (sDPut (tVar 0) (tC (.str "mixed")) (tVar 3))
  (tRet (mMod (tCB rInt1 (tCons (mDiv (tVar 3) (tI 16)) tNil)) (tVar 1))))))
def tPick (K : PySem.W.Frag) : TS := tSeq (tPickW K) (tSeq (tAsg (dgS "left") (gName 2)) (tSeq tPickR tPickM))
section
variable {K : PySem.W.Frag} {H : Hp} {p c : Addr}
theorem dg_l {cells : List Int} {l m t : Int} (ne : p ≠ c) {σ : St} (h0 : σ[0]? = some (some (.ref p))) {Q : VK} (q : Q (.int l) (srcH H p c cells l m t)) : dgS "left" σ (srcH H p c cells l m t) Q :=
  ⟨_, h0, p, .int l, rfl, by rw [← key_l (c := c) (m := m) (t := t)]; exact DGet.k (k := .inr "left") (src_p ne), q⟩
theorem dg_c {cells : List Int} {l m t : Int} (ne : p ≠ c) {σ : St} (h0 : σ[0]? = some (some (.ref p))) {Q : VK} (q : Q (.ref c) (srcH H p c cells l m t)) : dgS "cells" σ (srcH H p c cells l m t) Q :=
  ⟨_, h0, p, .ref c, rfl, by rw [← key_c (c := c) (l := l) (m := m) (t := t)]; exact DGet.k (k := .inr "cells") (src_p ne), q⟩
theorem dg_m {cells : List Int} {l m t : Int} (ne : p ≠ c) {σ : St} (h0 : σ[0]? = some (some (.ref p))) {Q : VK} (q : Q (.int m) (srcH H p c cells l m t)) : dgS "mixed" σ (srcH H p c cells l m t) Q :=
  ⟨_, h0, p, .int m, rfl, by rw [← key_m (c := c) (l := l) (t := t)]; exact DGet.k (k := .inr "mixed") (src_p ne), q⟩
theorem dg_t {cells : List Int} {l m t : Int} (ne : p ≠ c) {σ : St} (h0 : σ[0]? = some (some (.ref p))) {Q : VK} (q : Q (.int t) (srcH H p c cells l m t)) : dgS "turn" σ (srcH H p c cells l m t) Q :=
  ⟨_, h0, p, .int t, rfl, by rw [← key_t (c := c) (l := l) (m := m)]; exact DGet.k (k := .inr "turn") (src_p ne), q⟩
theorem line4 {c : Addr} {l m t : Int} : (srcD c l m t).length < sizeLine := by rw [slEq]; show 4 < 16777216; decide
theorem dp_l {cells : List Int} {l m t l' : Int} (ne : p ≠ c) : DPut (srcH H p c cells l m t) p (.str "left") (.int l') (srcH H p c cells l' m t) := by
  have := DPut.k (k := .inr "left") (v := .int l') (src_p (H := H) (cells := cells) (l := l) (m := m) (t := t) ne) line4
  rw [put_l, src_put ne] at this
  exact this
theorem dp_m {cells : List Int} {l m t m' : Int} (ne : p ≠ c) : DPut (srcH H p c cells l m t) p (.str "mixed") (.int m') (srcH H p c cells l m' t) := by
  have := DPut.k (k := .inr "mixed") (v := .int m') (src_p (H := H) (cells := cells) (l := l) (m := m) (t := t) ne) line4
  rw [put_m, src_put ne] at this
  exact this
theorem dp_t {cells : List Int} {l m t t' : Int} (ne : p ≠ c) : DPut (srcH H p c cells l m t) p (.str "turn") (.int t') (srcH H p c cells l m t') := by
  have := DPut.k (k := .inr "turn") (v := .int t') (src_p (H := H) (cells := cells) (l := l) (m := m) (t := t) ne) line4
  rw [put_t, src_put ne] at this
  exact this
theorem iteB {c : Bool} {A B : Prop} (h1 : c = true → A) (h0 : c = false → B) : if c = true then A else B := by
  cases c with
  | true => rw [if_pos rfl]; exact h1 rfl
  | false => rw [if_neg (by decide)]; exact h0 rfl
/-- a draw -/
theorem pick_ok {G : Hp} {many : Int} {Z : Ends} (w : Wd (some (p, c)) G H) (hm : many < 1073741824)
    (q : ∀ k G' H', Le (some (p, c)) G H G' H' → 0 ≤ k → (k = 0 ∨ k < many) → Z.rt (.int k) H') : tPick K Z [some (.ref p), some (.int many), none, none] H := by
  obtain ⟨⟨ne, cells0, l0, m0, t0, h1, h2, hz⟩, _, _⟩ := w.src p c rfl
  have eH : H = srcH H p c cells0 l0 m0 t0 := src_self ne h1 h2
  have fin : ∀ (cells : List Int) (l m t k : Int), cells.length ≤ 1000 → 0 ≤ k → (k = 0 ∨ k < many) → Z.rt (.int k) (srcH H p c cells l m t) := fun cells l m t k hc h0 h => q k G _ (Le.src w hc) h0 h
  clear q
  refine ⟨fun n σ H' => σ = [some (.ref p), some (.int many), none, none] ∧ ∃ cells l, cells.length = n ∧ cells.length ≤ 1000 ∧ H' = srcH H p c cells l m0 t0, ⟨cells0.length, rfl, cells0, l0, rfl, hz, eH⟩, fun n σ H' hW => ?_⟩
  obtain ⟨rfl, cells, l, rfl, hc, rfl⟩ := hW
  -- what stands behind the loop
  have after : tSeq (tAsg (dgS "left") (gName 2)) (tSeq tPickR tPickM) Z [some (.ref p), some (.int many), none, none] (srcH H p c cells l m0 t0) := by
    refine dg_l ne rfl ?_
    show tSeq tPickR tPickM Z [some (.ref p), some (.int many), some (.int l), none] _
    have retL : (many < 2 ∨ 1 < l) → tSeq (sDPut (tVar 0) (tC (.str "left")) (mDiv (tVar 2) tMx)) (tRet (mMod (tCB rInt1 (tCons (tVar 2) tNil)) tMx)) { Z with nx := tPickM Z } [some (.ref p), some (.int many), some (.int l), none] (srcH H p c cells l m0 t0) := fun _ => by
      have mx1 : 1 ≤ (if many > 1 then many else 1) := by split <;> omega
      have mx2 : (if many > 1 then many else 1) < 1073741824 := by split <;> omega
      refine ⟨.int l, rfl, .int many, rfl, 1, many, rfl, l, _, rfl, rfl, ⟨by omega, by omega⟩, .ref p, rfl, p, _, rfl, dp_l ne, ?_⟩
      refine ⟨.int l, rfl, .inl ⟨l, rfl, .int many, rfl, 1, many, rfl, l, _, rfl, rfl, by omega, ?_⟩⟩
      have r1 := Int.fmod_nonneg_of_pos l (b := if many > 1 then many else 1) (by omega)
      have r2 := Int.fmod_lt_of_pos l (b := if many > 1 then many else 1) (by omega)
      refine fin _ _ _ _ _ hc r1 ?_
      by_cases hh : many > 1
      · rw [if_pos hh] at r2 ⊢; exact .inr r2
      · rw [if_neg hh] at r1 r2 ⊢; exact .inl (by omega)
    have mixM : 2 ≤ many → ∀ l, tPickM Z [some (.ref p), some (.int many), some (.int l), none] (srcH H p c cells l m0 t0) := fun h2 l => by
      refine dg_t ne rfl ⟨t0, 1, rfl, rfl, .ref p, rfl, p, _, rfl, dp_t ne, ?_⟩
      refine dg_m ne rfl (dg_t ne rfl ⟨t0 + 1, 104729, rfl, rfl, .inr ⟨by omega, by omega⟩, m0, _, rfl, rfl, .inl ⟨_, rfl, _, 998244353, rfl, rfl, by omega, ?_⟩⟩)
      show tSeq _ _ _ [some (.ref p), some (.int many), some (.int l), some (.int ((m0 + (t0 + 1) * 104729).fmod 998244353))] _
      generalize hx : (m0 + (t0 + 1) * 104729).fmod 998244353 = x
      have x1 : 0 ≤ x := by rw [← hx]; exact Int.fmod_nonneg_of_pos _ (by omega)
      have x2 : x < 998244353 := by rw [← hx]; exact Int.fmod_lt_of_pos _ (by omega)
      refine ⟨.int x, rfl, .int x, rfl, x, x, rfl, rfl, .inl ⟨by omega, by omega⟩, dg_t ne rfl ⟨t0 + 1, 17, rfl, rfl, .inr ⟨by omega, by omega⟩, _, _, rfl, rfl, .inl ⟨_, rfl, _, 2147483647, rfl, rfl, by omega, ?_⟩⟩⟩
      show tSeq _ _ _ [some (.ref p), some (.int many), some (.int l), some (.int ((x * x + (t0 + 1) * 17).fmod 2147483647))] _
      generalize hy : (x * x + (t0 + 1) * 17).fmod 2147483647 = y
      refine ⟨.int y, rfl, .ref p, rfl, p, _, rfl, dp_m ne, ?_⟩
      refine ⟨.int y, rfl, y, 16, rfl, rfl, ⟨by omega, by omega⟩, .inl ⟨_, rfl, .int many, rfl, _, many, rfl, rfl, by omega, ?_⟩⟩
      exact fin _ _ _ _ _ hc (Int.fmod_nonneg_of_pos _ (by omega)) (.inr (Int.fmod_lt_of_pos _ (by omega)))
    refine ⟨.int many, rfl, many, 2, rfl, rfl, _, rfl, iteB (fun h => ?_) fun h => ?_⟩
    · exact retL (.inl (of_decide_eq_true h))
    · have hm2 : 2 ≤ many := by have := of_decide_eq_false h; omega
      refine ⟨.int l, rfl, l, 1, rfl, rfl, _, rfl, iteB (fun h => ?_) fun h => ?_⟩
      · exact retL (.inr (of_decide_eq_true h))
      · exact mixM hm2 l
  refine ⟨.int many, rfl, many, 1, rfl, rfl, _, rfl, iteB (fun h => ?_) fun h => iteB (fun z => nomatch z) fun _ => after⟩
  refine dg_l ne rfl ⟨l, 2, rfl, rfl, _, rfl, iteB (fun h => ?_) fun h => iteB (fun z => nomatch z) fun _ => after⟩
  refine dg_c ne rfl ⟨.ref c, cells.length, rfl, .inl ⟨_, .inl (.inl src_c), by rw [List.length_map]⟩, (cells.length : Int), 0, rfl, rfl, _, rfl, iteB (fun h => ?_) fun h => after⟩
  have hl : 0 < cells.length := by have := of_decide_eq_true h; omega
  have hne : cells ≠ [] := List.length_pos_iff.mp hl
  refine ⟨fun σ' H' => σ' = [some (.ref p), some (.int many), none, none] ∧ ∃ cells' l, cells'.length < cells.length ∧ H' = srcH H p c cells' l m0 t0, fun σ' H' hN => ?_, ?_⟩
  · obtain ⟨e, cells', l', hlt, e2⟩ := hN
    exact ⟨cells'.length, hlt, e, cells', l', rfl, by omega, e2⟩
  · refine dg_c ne rfl ⟨.inl ⟨rfl, _, .inl (.inl src_c)⟩, c, _, .int (cells.getLast hne), rfl, rfl, src_c, ?_, .ref p, rfl, p, srcH H p c cells.dropLast (cells.getLast hne) m0 t0, rfl, ?_, rfl, cells.dropLast, cells.getLast hne, ?_, rfl⟩
    · rw [List.length_map, List.getElem?_map]
      have : cells[cells.length - 1]? = some (cells.getLast hne) := by
        rw [List.getLast_eq_getElem hne]; exact List.getElem?_eq_getElem (by omega)
      rw [this]; rfl
    · rw [← List.map_dropLast, src_pop]
      exact dp_l ne
    · rw [List.length_dropLast]; omega
end
end DL
/-! DL18: a def walked by hand; the draw's derivation. -/
namespace DL
open PySem PySem.Spec L2
open PyProof.Rows hiding St

section
variable {P : Program} {w : World} {K : PySem.W.Frag} {mg : Str → Option Value} {base : Heap}
def WkH (P : Program) (w : World) (K : PySem.W.Frag) (mg : Str → Option Value) (base : Heap) (k : Nat) (N : List Str) (qual : Str) (st : Stmt) (ts : TS) : Prop :=
  ∀ (f : Addr) (cdv : Value) (A : Around) (outer : List Env) (s : Shared) (H : Hp), Room k (A.deeper (envOfC qual (defScope st) s.heap.objs.size f cdv)) → (A.deeper (envOfC qual (defScope st) s.heap.objs.size f cdv)).guards = some [] →
    PSs (cxOf CX0 P w K mg base N qual (defScope st) f cdv A outer s H E0).nox (defBody st) ts
theorem WkH.cal {x : Str} {st : Stmt} {N ps : List Str} {k : Nat} {sp : SpG} {ts : TS} (W : WkH P w K mg base k N x st ts) (D : FDef K mg x st ps) (S : FnScope N ps (defScope st)) (len : ∀ vs H Q, sp vs H Q → vs.length = ps.length)
    (sem : ∀ vs H Q, sp vs H Q → ts { nx := fun _ H' => Q .non H', rt := Q } (L2.start N vs) H) : DCal P w K mg base (k + 1) x sp := by
  obtain ⟨f, fd, F, hm, hb⟩ := D.ex
  refine ⟨f, fd, ps, Fun.okG F S len (fun cdv A outer s H vs Q hr gd h => ?_), hm, F.kp, hb⟩
  exact ⟨ts, W f cdv A outer s H hr gd, sem vs H Q h⟩
end
/-- what a draw promises -/
def PickR : Pm := RI (I := Int) (fun i => [.src, .d (.int i)]) (fun i => i < 1073741824) (fun i d => ∃ k : Int, d = .int k ∧ 0 ≤ k ∧ (k = 0 ∨ k < i))
theorem pick_sem {K : PySem.W.Frag} {N : List Str} (hN : N.length = 4) (vs : List V) (H : Hp) (Q : VK) (h : spG K 2 PickR vs H Q) : tPick K { nx := fun _ H' => Q .non H', rt := Q } (L2.start N vs) H := by
  obtain ⟨hl, sr, G, xs, wd, r, i, rfl, hi, q⟩ := h
  obtain ⟨v, u, rfl, r1, r2⟩ := pr2 r
  obtain ⟨p, c, e1, e2⟩ := r1
  subst e1 e2
  have e3 : u = .int i := by
    have : Rp K G u (.int i) := r2
    cases this; rfl
  subst e3
  have e : L2.start N [V.ref p, .int i] = [some (.ref p), some (.int i), none, none] := by
    unfold L2.start
    rw [hN]; rfl
  rw [e]
  exact pick_ok wd hi fun k G' H' l h0 hk => q (.int k) ⟨k, rfl, h0, hk⟩ (.int k) G' H' l (.int k)
end DL
/-! DL19: the source is made of the script. -/
namespace DL
open PySem PySem.Spec L2
open PyProof.Rows hiding St

abbrev rAbsI : List V → Hp → VK → Prop := fun xs H Q => ∃ i, xs = [.int i] ∧ Q (.int (if i < 0 then -i else i)) H
def tSrcF (K : PySem.W.Frag) : TS := tFor (iList K (tVar 0)) (gName 2) (tAsg (mMod (tCB rInt1 (tCons (mAdd (mAdd (mMul (tVar 1) (tI 69069)) (mMul (tVar 2) (tI 31))) (tI 5)) tNil)) (tI 2147483629)) (gName 1))
def tSrcC (K : PySem.W.Frag) : TE := tRevL K (tLc (iList K (tVar 0)) (gName 2) tYes (tCB rAbsI (tCons (tVar 2) tNil)) [2])
def tSrcD (K : PySem.W.Frag) : TE := tDisp [(tC (.str "cells"), tSrcC K), (tC (.str "left"), tI 1), (tC (.str "mixed"), tVar 1), (tC (.str "turn"), tI 0)]
def tSrc (K : PySem.W.Frag) : TS := tSeq (tAsg (tI 11) (gName 1)) (tSeq (tSrcF K) (tRet (tSrcD K)))
/-- the promise: a new dict, its list new, nothing else touched, no new tuple -/
def spSrc (K : PySem.W.Frag) : SpG := fun vs H Q => ∃ (a : Addr) (ns : List Int), vs = [.ref a] ∧ SqL K H a (ns.map V.int) ∧ ns.length ≤ 1000 ∧
  ∀ p c H' (m : Int), H p = none → H c = none → p ≠ c → H' p = some (.dK (srcD c 1 m 0)) → H' c = some (.lst ((ns.map fun i => if i < 0 then -i else i).reverse.map V.int)) → (∀ b o, H b = some o → H' b = some o) →
    (∀ b xs, H' b = some (.tup xs) → H b = some (.tup xs)) → Q (.ref p) H'
theorem merge4 {c : Addr} {m : Int} : mergeK [] [(.inr "cells", .ref c), (.inr "left", .int 1), (.inr "mixed", .int m), (.inr "turn", .int 0)] = srcD c 1 m 0 := by
  unfold mergeK srcD
  simp only [List.foldl_cons, List.foldl_nil]
  have p1 : putK ([] : List (Key × V)) (.inr "cells") (.ref c) = [(.inr "cells", .ref c)] := by unfold putK; rfl
  rw [p1]
  have p2 : putK [((.inr "cells" : Key), V.ref c)] (.inr "left") (.int 1) = [(.inr "cells", .ref c), (.inr "left", .int 1)] := by
    unfold putK
    simp only [List.any_cons, List.any_nil, sk1 (show decide (("cells" : Str) = "left") = false by decide +kernel), Bool.or_false]
    rfl
  rw [p2]
  have p3 : putK [((.inr "cells" : Key), V.ref c), (.inr "left", .int 1)] (.inr "mixed") (.int m) = [(.inr "cells", .ref c), (.inr "left", .int 1), (.inr "mixed", .int m)] := by
    unfold putK
    simp only [List.any_cons, List.any_nil, sk1 (show decide (("cells" : Str) = "mixed") = false by decide +kernel), sk1 (show decide (("left" : Str) = "mixed") = false by decide +kernel), Bool.or_false]
    rfl
  rw [p3]
  unfold putK
  simp only [List.any_cons, List.any_nil, sk1 (show decide (("cells" : Str) = "turn") = false by decide +kernel), sk1 (show decide (("left" : Str) = "turn") = false by decide +kernel), sk1 (show decide (("mixed" : Str) = "turn") = false by decide +kernel), Bool.or_false]
  rfl
section
variable {K : PySem.W.Frag} {H : Hp} {a : Addr} {ns : List Int}
theorem sql_ne {H : Hp} {a b : Addr} {xs : List V} {o : HO} (h : SqL K H a xs) (n : H b = none) : SqL K (upd H b o) a xs := by
  rcases h with (h | ⟨u, h⟩) | h
  · exact .inl (.inl (by rw [upd_ne (fun z => by subst z; rw [h] at n; cases n)]; exact h))
  · exact .inl (.inr ⟨u, by rw [upd_ne (fun z => by subst z; rw [h] at n; cases n)]; exact h⟩)
  · exact .inr h
theorem src_ok {Z : Ends} (hS : SqL K H a (ns.map V.int)) (hz : ns.length ≤ 1000)
    (q : ∀ p c H' (m : Int), H p = none → H c = none → p ≠ c → H' p = some (.dK (srcD c 1 m 0)) → H' c = some (.lst ((ns.map fun i => if i < 0 then -i else i).reverse.map V.int)) → (∀ b o, H b = some o → H' b = some o) →
      (∀ b xs, H' b = some (.tup xs) → H b = some (.tup xs)) → Z.rt (.ref p) H') : tSrc K Z [some (.ref a), none, none] H := by
  show tSrcF K { Z with nx := tRet (tSrcD K) Z } [some (.ref a), some (.int 11), none] H
  refine ⟨.ref a, rfl, a, rfl, ⟨_, hS⟩, fun i m σ H' => ∃ (x : Int) (s2 : Option V), σ = [some (.ref a), some (.int x), s2] ∧ H' = H ∧ m = ns.length - i, ⟨_, 11, none, rfl, rfl, rfl⟩, fun i m σ H' hW => ?_⟩
  obtain ⟨x, s2, rfl, rfl, rfl⟩ := hW
  by_cases hi : i < ns.length
  · have g : (ns.map V.int)[i]? = some (.int ns[i]) := by rw [List.getElem?_map, List.getElem?_eq_getElem hi]; rfl
    refine .inr ⟨⟨_, _, hS, g⟩, fun σ' H2 => (∃ (x : Int) (s2 : Option V), σ' = [some (.ref a), some (.int x), s2]) ∧ H2 = H', fun σ' H2 hN => ?_, fun v H2 hy => ?_⟩
    · obtain ⟨⟨x', s2', e1⟩, e2⟩ := hN
      exact ⟨ns.length - (i + 1), by omega, x', s2', e1, e2, rfl⟩
    · obtain ⟨rfl, fv⟩ := hy
      have ev : v = .int ns[i] := Option.some.inj ((fv _ hS).symm.trans g)
      subst ev
      refine ⟨.int x, rfl, x, 69069, rfl, rfl, .inr ⟨by omega, by omega⟩, .int ns[i], rfl, ns[i], 31, rfl, rfl, .inr ⟨by omega, by omega⟩, _, _, rfl, rfl, _, 5, rfl, rfl, .inl ⟨_, rfl, _, 2147483629, rfl, rfl, by omega, ?_⟩⟩
      exact ⟨⟨_, _, rfl⟩, rfl⟩
  · refine .inl ⟨⟨_, hS, by rw [List.length_map]; omega⟩, ?_⟩
    -- the display
    intro p np
    have hS1 := sql_ne (o := .dK []) hS np
    refine ⟨.ref a, rfl, a, rfl, ⟨_, hS1⟩, fun D nD => ?_⟩
    have nD' : H' D = none := by
      by_cases z : D = p
      · subst z; exact np
      · rw [upd_ne z] at nD; exact nD
    have pD : p ≠ D := fun z => by subst z; rw [upd_same] at nD; cases nD
    refine ⟨fun i m H2 => H2 = upd (upd H' p (.dK [])) D (.lst ((ns.take i).map fun i => V.int (if i < 0 then -i else i))) ∧ m = ns.length - i, ⟨_, rfl, rfl⟩, fun i m H2 hW => ?_⟩
    obtain ⟨rfl, rfl⟩ := hW
    have hS2 := fun o => sql_ne (o := o) hS1 nD
    by_cases hi' : i < ns.length
    · have g : (ns.map V.int)[i]? = some (.int ns[i]) := by rw [List.getElem?_map, List.getElem?_eq_getElem hi']; rfl
      refine .inr ⟨⟨_, _, hS2 _, g⟩, fun H3 => H3 = upd (upd H' p (.dK [])) D (.lst ((ns.take (i + 1)).map fun i => V.int (if i < 0 then -i else i))), fun H3 hN => ⟨ns.length - (i + 1), by omega, hN, rfl⟩, fun v H3 hy => ?_⟩
      obtain ⟨rfl, fv⟩ := hy
      have ev : v = .int ns[i] := Option.some.inj ((fv _ (hS2 _)).symm.trans g)
      subst ev
      refine ⟨rfl, ?_⟩
      dsimp only [tYes]
      rw [if_pos (rfl : true = true)]
      refine ⟨.int ns[i], rfl, ns[i], rfl, _, upd_same, ?_, ?_⟩
      · rw [List.length_map, List.length_take, slEq]; omega
      · rw [upd_upd, List.take_add_one, List.getElem?_eq_getElem hi', List.map_append]; rfl
    · refine .inl ⟨⟨_, hS2 _, by rw [List.length_map]; omega⟩, ?_⟩
      rw [List.take_of_length_le (by omega)]
      refine ⟨D, _, rfl, .inl (.inl upd_same), fun c nc => ?_⟩
      have nc1 : c ≠ D := fun z => by subst z; rw [upd_same] at nc; cases nc
      rw [upd_ne nc1] at nc
      have nc2 : c ≠ p := fun z => by subst z; rw [upd_same] at nc; cases nc
      rw [upd_ne nc2] at nc
      refine ⟨.int x, rfl, ?_, [(.inr "cells", .ref c), (.inr "left", .int 1), (.inr "mixed", .int x), (.inr "turn", .int 0)], rfl, (by show 4 ≤ 15; decide), ?_⟩
      · rw [upd_ne nc2.symm, upd_ne pD, upd_same]
      · rw [merge4]
        refine q p c _ x np nc nc2.symm upd_same ?_ (fun b o hb => ?_) fun b xs hb => ?_
        · rw [upd_ne nc2, upd_same, ← List.map_reverse, ← List.map_reverse, List.map_map]; rfl
        · have b1 : b ≠ p := fun z => by subst z; rw [np] at hb; cases hb
          have b2 : b ≠ c := fun z => by subst z; rw [nc] at hb; cases hb
          have b3 : b ≠ D := fun z => by subst z; rw [nD'] at hb; cases hb
          rw [upd_ne b1, upd_ne b2, upd_ne b3, upd_ne b1]; exact hb
        · have b1 : b ≠ p := fun z => by subst z; rw [upd_same] at hb; cases hb
          rw [upd_ne b1] at hb
          have b2 : b ≠ c := fun z => by subst z; rw [upd_same] at hb; cases hb
          rw [upd_ne b2] at hb
          have b3 : b ≠ D := fun z => by subst z; rw [upd_same] at hb; cases hb
          rw [upd_ne b3, upd_ne b1] at hb
          exact hb
end
end DL
/-! DL20: the law's own call, from a promise with empty guards. -/
namespace DL
open PySem PySem.Spec L2
open PyProof.Rows hiding St

/-- what the law's def promises of its script -/
def spLaw (K : PySem.W.Frag) : SpG := fun vs H Q => ∃ (a : Addr) (ns : List Int), vs = [.ref a] ∧ ns.length ≤ 63 ∧ Only H ∧ SqL K H a (ns.map V.int) ∧ ∀ H', Q (.bl true) H'
section
variable {P : Program} {w : World} {K : PySem.W.Frag} {mg mb : Str → Option Value} {k : Nat} {fa a : Addr} {fd : FuncData} {x : Str} {s₁ : Shared} {us : List Value} {ns : List Int}
/-- the heap that tracks the script alone -/
def scrH (o : Obj) (a : Addr) (ns : List Int) : Hp := fun b => if b = a then some (.frz o (.lst (ns.map V.int))) else none
theorem law_run {H : Hp} (KX : K.In s₁.heap) (hns : s₁.heap.Ns mainGlobals mg) (hb : s₁.heap.Ns builtinsNs mb) (hbb : ∀ x : Str, x ≠ "__name__" → mb x = bootBuiltins x) (hlim : s₁.heap.NoLimit) (hg : s₁.gens = #[])
    (obj : s₁.heap.get? a = some { cls := .type "list", data := .seq us.toArray }) (room : Room k callerA)
    (F : ∀ base : Heap, K.In base → base.Ns mainGlobals mg → FnG P w K mg base k fa fd [x] (spLaw K)) (bind : ∀ (s : Shared) (u : Value), BindsTo s fd ⟨[u], []⟩ [(x, u)])
    (only : Only H) (hS : SqL K H a (ns.map V.int)) (hl : ns.length ≤ 63) (hok : HOk P w H s₁.heap) (atA : ∀ b, H b ≠ none → b = a) (notK : H a ≠ none → K.lookup a = none) :
    codeAny (model P w) callerA (.call (.ref fa) ⟨[.ref a], []⟩) (fun r s' => r = .ok (.ret (.bool true)) ∧ OldK s₁.heap s'.heap ∧ s'.os = s₁.os ∧ AllBare s'.gens) s₁ := by
  -- what is no list is not tracked
  have seen : ∀ {b : Addr} {o : Obj} {es : Array DictEntry} {ep : Nat}, s₁.heap.get? b = some o → o.data = .dict es ep → H b = none := by
    intro b o es ep e d
    by_cases q : H b = none
    · exact q
    · have eb := atA b q
      subst eb
      rw [obj] at e
      cases e
      exact nomatch (show Data.seq us.toArray _ = Data.dict es ep from d)
  have spaces : ∀ {b : Addr} {m : Str → Option Value}, s₁.heap.Ns b m → (hidT s₁.heap H).Ns b m := by
    rintro b m ⟨o, es, ep, e, d, r⟩
    exact ⟨o, es, ep, hidT_get e (seen e d), d, r⟩
  have part : K.In (hidT s₁.heap H) := by
    intro b o e
    refine hidT_get (KX b o e) ?_
    by_cases q : H b = none
    · exact q
    · have eb := atA b q
      subst eb
      rw [notK q] at e
      cases e
  obtain ⟨ml, l1, l2⟩ := hlim
  have modl : Mod K mg (hidT s₁.heap H) := ⟨part, spaces hns, ⟨mb, spaces hb, hbb⟩, ml, spaces l1, l2⟩
  have env : Env0 P w K mg (hidT s₁.heap H) callerA [] s₁ H :=
    ⟨rfl, modl, fun b o e => of_hidT e, Nat.le_of_eq (hidT_size _ _), trivial, fun b hb => absurd (show b ∈ ([] : List Addr) from hb) (by simp), hok, .of_eq hg⟩
  have told := (F _ part (spaces hns)).run callerA [] s₁ H ⟨[.ref a], []⟩ [.ref a] [.ref a] (fun v _ => v = .bl true) room rfl env (bind s₁ (.ref a)) (.cons rfl .nil) ⟨a, ns, rfl, hl, only, hS, fun _ => rfl⟩
  refine codeAny_mono told fun r s' z => ?_
  match r, z with
  | .error e, z => exact (show False from z).elim
  | .ok .next, z => exact (show False from z).elim
  | .ok .brk, z => exact (show False from z).elim
  | .ok .cont, z => exact (show False from z).elim
  | .ok (.ret u), ⟨v, H', os, bare, un, hok', rv, q⟩ =>
    have q' : v = .bl true := q
    subst q'
    have eu : u = Value.bool true := rv
    subst eu
    refine ⟨rfl, OldK.of_keep fun b o e => ?_, os, bare⟩
    by_cases q : H b = none
    · exact un.keep b o e q (by intro z; exact absurd (show b ∈ ([] : List Addr) from z) (by simp)) (by simp)
    · rcases only b with z | ⟨ob, xs, z⟩
      · exact absurd z q
      · have g1 := (hok b _ z).1
        have g2 := (hok' b _ (un.frzs b ob _ z)).1
        rw [e] at g1
        cases g1
        exact g2
theorem law_callG (KX : K.In s₁.heap) (hns : s₁.heap.Ns mainGlobals mg) (hb : s₁.heap.Ns builtinsNs mb) (hbb : ∀ x : Str, x ≠ "__name__" → mb x = bootBuiltins x) (hlim : s₁.heap.NoLimit) (hg : s₁.gens = #[])
    (obj : s₁.heap.get? a = some { cls := .type "list", data := .seq us.toArray }) (are : IntsAre us ns) (hl : ns.length ≤ 63) (room : Room k callerA)
    (F : ∀ base : Heap, K.In base → base.Ns mainGlobals mg → FnG P w K mg base k fa fd [x] (spLaw K)) (bind : ∀ (s : Shared) (u : Value), BindsTo s fd ⟨[u], []⟩ [(x, u)]) :
    codeAny (model P w) callerA (.call (.ref fa) ⟨[.ref a], []⟩) (fun r s' => r = .ok (.ret (.bool true)) ∧ OldK s₁.heap s'.heap ∧ s'.os = s₁.os ∧ AllBare s'.gens) s₁ := by
  have rv := vals_ints are
  have same := are.length
  by_cases hk : K.lookup a = none
  · have at1 : scrH { cls := .type "list", data := .seq us.toArray } a ns a = some (.frz { cls := .type "list", data := .seq us.toArray } (.lst (ns.map V.int))) := if_pos rfl
    have at0 : ∀ b, b ≠ a → scrH { cls := .type "list", data := .seq us.toArray } a ns b = none := fun b h => if_neg h
    refine law_run (H := scrH { cls := .type "list", data := .seq us.toArray } a ns) KX hns hb hbb hlim hg obj room F bind (fun b => ?_) (.inl (.inr ⟨_, at1⟩)) hl (fun b u z => ?_) (fun b z => ?_) fun _ => hk
    · by_cases q : b = a
      · subst q; exact .inr ⟨_, _, at1⟩
      · exact .inl (at0 b q)
    · by_cases q : b = a
      · subst q
        rw [at1] at z
        cases z
        refine ⟨obj, by rw [List.length_map, slEq]; omega, us, _, rv, obj⟩
      · rw [at0 b q] at z; cases z
    · by_cases q : b = a
      · exact q
      · exact absurd (at0 b q) z
  · obtain ⟨o, e⟩ := Option.ne_none_iff_exists'.mp hk
    have e2 := KX a o e
    rw [obj] at e2
    cases e2
    exact law_run (H := fun _ => none) KX hns hb hbb hlim hg obj room F bind (fun _ => .inl rfl) (.inr ⟨_, us.toArray, _, e, rfl, rfl, rfl, by rw [List.size_toArray, same, slEq]; omega, by simpa using rv⟩) hl
      (fun b u z => nomatch (show (none : Option HO) = some u from z)) (fun b z => absurd rfl z) fun z => absurd rfl z
end
/-- what k_head leaves of a law, from its promise -/
theorem walk_ofG {l : PySem.W.OpenLaw} {k : Nat} {q : Program} {loose : List Str} {XP : (Str → Option Value) → Heap → Prop} {YP : World → Heap → Prop} {d : DefRec} {K : Params → PySem.W.Frag} {x : Str}
    (most : l.most = some 63) (nodef : d.params.defaults = []) (room : Room k callerA) (inK : ∀ (w : World) (h : Heap), YP w h → (K w.params).In h)
    (F : ∀ (w : World) (mg : Str → Option Value) (fa : Addr) (h : Heap), (K w.params).In h → h.Ns mainGlobals mg → mg d.name = some (.ref fa) →
      ∃ fd : FuncData, (∀ (s : Shared) (u : Value), BindsTo s fd ⟨[u], []⟩ [(x, u)]) ∧ ∀ base : Heap, (K w.params).In base → base.Ns mainGlobals mg → FnG l.prog w (K w.params) mg base k fa fd [x] (spLaw (K w.params))) :
    PySem.W.WalkO q loose XP YP l.row.toRowW d [] (fun f vs => PySem.call f vs) := by
  refine Att.attach_call most nodef fun w s₀ s₁ mg mb fa o pm cd doc a vs ns G Y ho hd hcd hmg hobj hints hlen hg => ?_
  have KX := inK w _ Y
  obtain ⟨fd, hb, hF⟩ := F w mg fa _ KX G.T.g hmg
  exact law_callG KX G.T.g G.T.b G.T.builtins G.T.nolimit hg hobj hints hlen room hF hb
end DL
/-! DL21: NAME.get(part), NAME a dict of the written part whose keys are tuples. -/
namespace DL
open PySem PySem.Spec L2
open PyProof.Rows hiding St

def tKGet (xs : List (List Key × Addr × Value)) (ty : TE) : TE := fun σ H Q => ty σ H fun y H1 => ∃ b ks v, y = .ref b ∧ H1 b = some (.tup (ks.map kV)) ∧ RelV v (((atKey xs ks).map (·.2)).getD .none) ∧ Q v H1
section
variable {X : Cx} {e : Expr} {p1 apos cpos : Pos} {ty : TE} {nm : Str} {aC : Addr} {xs : List (List Key × Addr × Value)}
theorem pe_kget (hu : X.A.units + 1 < cLine) (D : ∀ h : Heap, X.K.In h → h.DictOfH (tupleKind (mixKind X.prog X.w)) aC xs) (lo : (aC == sysModules) = false) (g : Gl X nm) (hm : X.mg nm = some (.ref aC)) (he : PE X e ty) (m : M1 X (.Name nm p1) "get" apos e cpos)
    (hd : (nm == ("__debug__" : Str)) = false := by decide) : PE X (.Call (.Attribute (.Name nm p1) "get" apos) [e] [] cpos) (tKGet xs ty) := by
  have base : PE X (.Name nm p1) (tC (.ref aC)) := pe_glob g hm (show RelV (.ref aC) (.ref aC) from rfl) hd
  refine ⟨fun pins s σ H Q I h => ?_⟩
  refine wpAny_Call_method m.base m.few m.line PySem.F.plainAttrs_dict PySem.F.slot_dict_get PySem.F.type_dict_get (thn (base.run pins s σ H (fun x H' => x = .ref aC ∧ H' = H) I ⟨rfl, rfl⟩) fun o s1 z => ?_)
  obtain ⟨x, H1, I1, rx, e1, e2⟩ := z
  subst e1 e2
  obtain rfl : o = Value.ref aC := rx
  obtain ⟨ob, es, ep, h1, h2, h3, h4, h5, h6⟩ := D _ I1.kIn
  refine ⟨⟨ob, h1, h2.1⟩, fun b q => ?_, ?_⟩
  · cases q
    exact ⟨ob, h1, h2.2.1⟩
  rw [m.trees]
  refine Calls.callWith_builtin rfl (Calls.evalArgs_plain (Calls.spliced_cons (thn (he.run pins s1 σ H1 _ I1 h) fun iv s2 z => Calls.spliced_nil ?_)))
  obtain ⟨y, H2, I2, ry, b, ks, v, ey, hb, rv, q⟩ := z
  subst ey
  obtain rfl : iv = Value.ref b := ry
  have dd := D _ I2.kIn
  obtain ⟨ob2, _, _, g1, g2, _⟩ := id dd
  exact call_meetsIn PySem.F.slot_dict_get ⟨ob2, g1, g2.1⟩ PySem.F.entry_dict_get (PySem.F.args_dict_get_2 _ _) (meetsH_dict_get (tupleKind (mixKind X.prog X.w)) aC b lo)
    ⟨tupleKind_room_in1 hu, ks, xs, key_of I2.hok hb, dd, v, H2, I2.tok _, rv, q⟩
end
/-- the reading: part's entry in a table of constants -/
def dKGet (tab : List Key → Option D) (t : DT) : DT := fun ρ Q => t ρ fun d => match toKT d with
  | some ks => Q ((tab ks).getD .none)
  | none => False
theorem rc_kget {K : PySem.W.Frag} {te : TE} {t : DT} {xs : List (List Key × Addr × Value)} {tab : List Key → Option D} (h : Rd K te t)
    (ht : ∀ ks, ∃ v, RelV v (((atKey xs ks).map (·.2)).getD .none) ∧ Rk K v ((tab ks).getD .none)) : RdC K (tKGet xs te) (dKGet tab t) := by
  refine ⟨fun ρ Q Q' m q => h.mono ρ _ _ (fun d q => ?_) q, fun sr G0 H0 G H ρ σ Q e q => ?_⟩
  · split at q
    · exact m _ q
    · exact q.elim
  · refine h.rd sr G0 H0 G H ρ σ _ e (h.mono _ _ _ (fun d q v G1 H1 l1 r1 => ?_) q)
    split at q
    · rename_i ks hk
      have ee := toKT_of hk
      subst ee
      obtain ⟨b, ey, hb⟩ := tup_key r1
      subst ey
      obtain ⟨v, hv, rk⟩ := ht ks
      exact ⟨b, ks, v, rfl, l1.wd.sub _ _ hb, hv, q v G1 H1 l1 (.kc rk)⟩
    · exact q.elim
theorem dc_kget {X : Cx} {e : Expr} {p1 apos cpos : Pos} {te : TE} {t : DT} {nm : Str} {aC : Addr} {xs : List (List Key × Addr × Value)} {tab : List Key → Option D} {kk : Nat} (room : Room kk X.A)
    (D : ∀ h : Heap, X.K.In h → h.DictOfH (tupleKind (mixKind X.prog X.w)) aC xs) (lo : (aC == sysModules) = false) (hm : X.mg nm = some (.ref aC)) (h : DE X e te t)
    (ht : ∀ ks, ∃ v, RelV v (((atKey xs ks).map (·.2)).getD .none) ∧ Rk X.K v ((tab ks).getD .none)) (g : Gl X nm := by rfl) (m : M1 X (.Name nm p1) "get" apos e cpos := by exact ⟨rfl, rfl, rfl, rfl⟩) (hd : (nm == ("__debug__" : Str)) = false := by decide) :
    DC X (.Call (.Attribute (.Name nm p1) "get" apos) [e] [] cpos) (tKGet xs te) (dKGet tab t) := ⟨pe_kget (hu_of room) D lo g hm h.pe m hd, rc_kget h.rd ht⟩
/-! a def that gives back a constant or something plain: one return -/
section
variable {P : Program} {w : World} {K : PySem.W.Frag} {mg : Str → Option Value} {base : Heap}
theorem ret_calC {x : Str} {st : Stmt} {N ps : List Str} {k : Nat} {R : Pm} {e : Expr} {pos : Pos} {te : TE} {t : DT} (hst : defBody st = [.Return (some e) pos])
    (W : ∀ (f : Addr) (cdv : Value) (A : Around) (outer : List Env) (s : Shared) (H : Hp), Room k (A.deeper (envOfC x (defScope st) s.heap.objs.size f cdv)) → DC (cxOf CX0 P w K mg base N x (defScope st) f cdv A outer s H E0).nox e te t)
    (D : FDef K mg x st ps) (S : FnScope N ps (defScope st)) (hp : ∀ xs Q, xs.length = ps.length → R xs Q → t (xs ++ List.replicate (N.length - xs.length) .un) Q) : DCal P w K mg base (k + 1) x (spGC K ps.length R) := by
  obtain ⟨f, fd, F, hm, hb⟩ := D.ex
  refine ⟨f, fd, ps, Fun.okG F S (fun vs H Q h => h.1) (fun cdv A outer s H vs Q hr gd h => ?_), hm, F.kp, hb⟩
  obtain ⟨hl, sr, G, xs, wd, r, q⟩ := h
  have hD := W f cdv A outer s H hr
  have hpl : ps.length ≤ N.length := by have := congrArg List.length S.pre; rw [List.length_take] at this; omega
  rw [hst]
  refine ⟨_, pss_one (ps_ret hD.pe), ?_⟩
  have e0 := ER.start wd r N (by omega)
  exact hD.rd.rd sr G H G H _ _ _ e0 (hp xs _ ((Paired.length r).symm.trans hl) q)
end
end DL
/-! DL22: a list of own lists (under way). -/
namespace DL
open PySem PySem.Spec L2
open PyProof.Rows hiding St

section
variable {K : PySem.W.Frag} {sr : Sr} {G0 H0 G H : Hp} {ρ : En} {σ : St}
theorem ER.atLL (e : ER K sr G0 H0 G H ρ σ) {i : Nat} {xss : List (List D)} (hs : ρ[i]? = some (.oll xss)) : ∃ (ow : Addr → Option Nat) (p : Addr) (ps : List Addr), σ[i]? = some (some (.ref p)) ∧ H p = some (.lst (ps.map V.ref)) ∧ ¬ inSr sr p ∧ ps.Nodup ∧ Paired (InnR K sr H0 G H ow i p) ps xss := by
  obtain ⟨ow, h⟩ := e.ow
  obtain ⟨p, ps, e1, e2, e3, e4, e5, e6, nd, r⟩ := h i _ hs
  exact ⟨ow, p, ps, e1, e6, e5, nd, r⟩
theorem pair_get {α β : Type} {R : α → β → Prop} : ∀ {l : List α} {m : List β} {k : Nat} {y : β}, Paired R l m → m[k]? = some y → ∃ x, l[k]? = some x ∧ R x y
  | _, _, _, _, .nil, h => by simp at h
  | _, _, 0, _, .cons a t, h => by
    have h' := Option.some.inj (show some _ = some _ from h)
    subst h'
    exact ⟨_, rfl, a⟩
  | _, _, k + 1, _, .cons a t, h => by
    obtain ⟨x, h1, h2⟩ := pair_get (k := k) t (by simpa using h)
    exact ⟨x, by simpa using h1, h2⟩
theorem pair_but {α β : Type} {R R' : α → β → Prop} {x : α} : ∀ {l : List α} {m : List β}, Paired R l m → ¬ x ∈ l → (∀ a b, a ≠ x → R a b → R' a b) → Paired R' l m
  | _, _, .nil, _, _ => .nil
  | _, _, .cons a t, n, hi => .cons (hi _ _ (fun e => n (e ▸ List.mem_cons_self)) a) (pair_but t (fun z => n (List.mem_cons_of_mem _ z)) hi)
theorem pair_set {α β : Type} {R R' : α → β → Prop} : ∀ {l : List α} {m : List β} {k : Nat} {x : α} {y : β}, Paired R l m → l.Nodup → l[k]? = some x → (∀ a b, a ≠ x → R a b → R' a b) → R' x y → Paired R' l (m.set k y)
  | _, _, _, _, _, .nil, _, h, _, _ => by simp at h
  | _, _, 0, _, _, .cons a t, nd, h, hi, hx => by
    have h' := Option.some.inj (show some _ = some _ from h)
    subst h'
    exact .cons hx (pair_but t (List.nodup_cons.mp nd).1 hi)
  | _, _, k + 1, x, _, .cons (a := a0) (l₁ := l1) a t, nd, h, hi, hx => by
    have nd' := List.nodup_cons.mp nd
    have h' : l1[k]? = some x := by simpa using h
    exact .cons (hi _ _ (fun e => nd'.1 (e ▸ List.mem_of_getElem? h')) a) (pair_set t nd'.2 h' hi hx)
theorem pair_at {α β : Type} {R : α → β → Prop} : ∀ {l : List α} {m : List β} {k : Nat} {x : α}, Paired R l m → l[k]? = some x → ∃ y, m[k]? = some y ∧ R x y
  | _, _, _, _, .nil, h => by simp at h
  | _, _, 0, _, .cons a t, h => by
    have h' := Option.some.inj (show some _ = some _ from h)
    subst h'
    exact ⟨_, rfl, a⟩
  | _, _, k + 1, _, .cons a t, h => by
    obtain ⟨x, h1, h2⟩ := pair_at (k := k) t (by simpa using h)
    exact ⟨x, by simpa using h1, h2⟩
theorem refs_inj : ∀ {ps qs : List Addr}, ps.map V.ref = qs.map V.ref → ps = qs
  | [], [], _ => rfl
  | [], _ :: _, h => by simp at h
  | _ :: _, [], h => by simp at h
  | a :: r, b :: t, h => by
    simp only [List.map_cons, List.cons.injEq, V.ref.injEq] at h
    rw [h.1, refs_inj h.2]
theorem ER.setLL (e : ER K sr G0 H0 G H ρ σ) {G1 H1 : Hp} (l : Le sr G H G1 H1) {p : Addr} {ps : List Addr} (n : H p = none) (g : G1 p = none) (h1 : H1 p = some (.lst (ps.map V.ref))) (nd1 : ps.Nodup)
    (hp : ∀ q ∈ ps, q ≠ p ∧ H q = none ∧ G1 q = none ∧ H1 q = some (.lst [])) {i : Nat} : ER K sr G0 H0 G1 H1 (ρ.set i (.oll (ps.map fun _ => []))) (σ.set i (some (.ref p))) := by
  obtain ⟨w0, le, len, ow, h⟩ := e
  have gs := l.gsub le.wd
  have no : ∀ {a : Addr} {o : HO}, H a = some o → ¬ (a = p ∨ a ∈ ps) := fun {a o} ho z => by
    rcases z with rfl | z
    · rw [n] at ho; cases ho
    · rw [(hp a z).2.1] at ho; cases ho
  refine ⟨w0, Le.trans w0 le l, by rw [List.length_set, List.length_set]; exact len, fun a => if a = p ∨ a ∈ ps then some i else ow a, fun j z hz => ?_⟩
  by_cases q : i = j
  · subst q
    by_cases hi : i < ρ.length
    · rw [List.getElem?_set_self hi] at hz
      cases hz
      rw [List.getElem?_set_self (by rw [len]; exact hi)]
      refine ⟨p, ps, rfl, if_pos (.inl rfl), le.free w0 n, g, le.wd.nosr n, h1, nd1, ?_⟩
      have key : ∀ qs : List Addr, (∀ q ∈ qs, q ∈ ps) → Paired (InnR K sr H0 G1 H1 (fun a => if a = p ∨ a ∈ ps then some i else ow a) i p) qs (qs.map fun _ => []) := by
        intro qs
        induction qs with
        | nil => intro _; exact .nil
        | cons a r ih =>
          intro hq
          obtain ⟨a1, a2, a3, a4⟩ := hp a (hq a List.mem_cons_self)
          exact .cons ⟨a1, if_pos (.inr (hq a List.mem_cons_self)), le.free w0 a2, a3, le.wd.nosr a2, [], a4, .nil⟩ (ih fun q z => hq q (List.mem_cons_of_mem _ z))
      exact key ps fun q z => z
    · rw [List.getElem?_eq_none (by rw [List.length_set]; omega)] at hz
      cases hz
  · rw [List.getElem?_set_ne q] at hz
    rw [List.getElem?_set_ne q]
    have q' := h j z hz
    cases z with
    | un => exact True.intro
    | d x =>
      obtain ⟨u, e1, r⟩ := q'
      exact ⟨u, e1, Rp.sub gs r⟩
    | b x =>
      obtain ⟨u, e1, r⟩ := q'
      exact ⟨u, e1, r.sub gs⟩
    | ol xs =>
      obtain ⟨a, vs, e1, e2, e3, e4, e5, e6, r⟩ := q'
      exact ⟨a, vs, e1, (if_neg (no e6)).trans e2, e3, by rw [l.fro a _ e6]; exact e4, e5, l.keep a _ e6 e5, RpA.sub gs r⟩
    | od t es =>
      obtain ⟨a, o, e1, e2, e3, e4, e5, e6, r⟩ := q'
      exact ⟨a, o, e1, (if_neg (no e6)).trans e2, e3, by rw [l.fro a _ e6]; exact e4, e5, l.keep a _ e6 e5, DcR.sub gs r⟩
    | oll xss =>
      obtain ⟨a, qs, e1, e2, e3, e4, e5, e6, nd, r⟩ := q'
      refine ⟨a, qs, e1, (if_neg (no e6)).trans e2, e3, by rw [l.fro a _ e6]; exact e4, e5, l.keep a _ e6 e5, nd, pair_imp (fun b xs z => ?_) r⟩
      obtain ⟨b1, b2, b3, b4, b5, vs, b6, b7⟩ := z
      exact ⟨b1, (if_neg (no b6)).trans b2, b3, by rw [l.fro b _ b6]; exact b4, b5, vs, l.keep b _ b6 b5, RpA.sub gs b7⟩
    | src => exact q'
end
/-! x = [[] for k in ..] -/
def sNewLL (i : Nat) (ti : IT) : ST := fun E ρ => ti ρ fun ds => ds.length ≤ 16777216 ∧ E.nx (ρ.set i (.oll (ds.map fun _ => [])))
section
variable {K : PySem.W.Frag} {wi : TI} {ti : IT}
theorem rs_newLL (i j : Nat) (hi : Ri K wi ti) : Rs K (tAsg (tLc wi (gName j) tYes (tLst tNil) [j]) (gName i)) (sNewLL i ti) := by
  refine ⟨fun E E' ρ m q => hi.mono ρ _ _ (fun ds q => ⟨q.1, m.nx _ q.2⟩) q, fun sr G0 H0 G H ρ σ Z E e q f => ?_⟩
  refine hi.ri sr G0 H0 G H ρ σ _ e (hi.mono _ _ _ (fun ds q J G1 H1 l1 it P nP => ?_) q)
  obtain ⟨hds, q⟩ := q
  have w1 := l1.wd
  have e1 := e.le' l1
  refine ⟨fun k m H' => ∃ (G' : Hp) (ps : List Addr), Le sr G1 H1 G' H' ∧ G' P = none ∧ H' P = some (.lst (ps.map V.ref)) ∧ ps.Nodup ∧ (∀ q ∈ ps, q ≠ P ∧ H1 q = none ∧ G' q = none ∧ H' q = some (.lst [])) ∧ ps.length = k ∧ k ≤ ds.length ∧ m = ds.length - k,
    ⟨_, G1, [], Le.newO w1 nP, w1.gn nP, upd_same, List.nodup_nil, fun q h => (List.not_mem_nil h).elim, rfl, Nat.zero_le _, rfl⟩, fun k m H' hW => ?_⟩
  obtain ⟨G', ps, l', gP, hP, nd, hp, hl, hk, rfl⟩ := hW
  obtain ⟨j1, j2⟩ := it G' H' (l'.subG w1) l'.wd
  by_cases hi' : k < ds.length
  · have hd : ds[k]? = some ds[k] := List.getElem?_eq_getElem hi'
    obtain ⟨go, step⟩ := j2 k _ hd
    refine .inr ⟨go, fun H2 => ∃ (G2 : Hp) (ps : List Addr), Le sr G1 H1 G2 H2 ∧ G2 P = none ∧ H2 P = some (.lst (ps.map V.ref)) ∧ ps.Nodup ∧ (∀ q ∈ ps, q ≠ P ∧ H1 q = none ∧ G2 q = none ∧ H2 q = some (.lst [])) ∧ ps.length = k + 1, fun H2 hN => ?_, fun x H2 y => ?_⟩
    · obtain ⟨G2, ps2, a, b, c, d, f, g⟩ := hN
      exact ⟨ds.length - (k + 1), by omega, G2, ps2, a, b, c, d, f, g, by omega, rfl⟩
    · obtain ⟨G3, l3, r3⟩ := step x H2 y
      have nsP : ¬ inSr sr P := w1.nosr nP
      have l13 := Le.trans w1 l' l3
      have e3 := (e1.wipe [j]).le' l13
      refine (rg_name j).rg sr G0 H0 G3 H2 _ _ x _ _ e3 r3 (fun σ2 e2 hl2 hj2 => ?_)
      refine ⟨(wipe_eq hl2 hj2 (fun _ z => z)).trans (wipe_wipe _ _), ?_⟩
      have hP3 : H2 P = some (.lst (ps.map V.ref)) := l3.keep P _ hP nsP
      have gP3 : G3 P = none := by rw [l3.fro P _ hP]; exact gP
      show ([] : List V).length ≤ sizeLine ∧ ∀ p, H2 p = none → _
      refine ⟨Nat.zero_le _, fun p np => ?_⟩
      have nPp : P ≠ p := fun z => by subst z; rw [np] at hP3; cases hP3
      have lw := Le.newO (o := .lst []) l3.wd np
      refine ⟨ps.map V.ref, by rw [upd_ne nPp]; exact hP3, by rw [List.length_map, slEq]; omega, G3, ps ++ [p], Le.wr (Le.trans w1 l13 lw) nP w1 gP3, gP3, by rw [upd_same, List.map_append]; rfl, ?_, fun q hq => ?_, by rw [List.length_append, List.length_singleton, hl]⟩
      · refine List.nodup_append.mpr ⟨nd, (by simp), fun a ha b hb z => ?_⟩
        rw [List.mem_singleton] at hb
        subst hb z
        have := l3.keep a _ (hp a ha).2.2.2 (w1.nosr (hp a ha).2.1)
        rw [np] at this; cases this
      · rcases List.mem_append.mp hq with hq | hq
        · obtain ⟨a1, a2, a3, a4⟩ := hp q hq
          have hq2 := l3.keep q _ a4 (w1.nosr a2)
          have nqp : q ≠ p := fun z => by subst z; rw [np] at hq2; cases hq2
          exact ⟨a1, a2, by rw [l3.fro q _ a4]; exact a3, by rw [upd_ne a1, upd_ne nqp]; exact hq2⟩
        · rw [List.mem_singleton] at hq
          subst hq
          exact ⟨fun z => nPp z.symm, l13.free w1 np, l3.wd.gn np, by rw [upd_ne (fun z => nPp z.symm), upd_same]⟩
  · refine .inl ⟨j1 k (by omega), ?_⟩
    have hm : (ps.map fun _ => ([] : List D)) = ds.map fun _ => [] := by
      rw [List.map_const', List.map_const']; congr 1; omega
    have e2 := e1.setLL (i := i) l' nP gP hP nd hp
    rw [hm] at e2
    exact f.nx _ _ G' H' ((l1.subG e.wd).trans (l'.subG w1)) e2 q
end
/-! x[k].append(e) -/
def sAppendLL (i : Nat) (k t : DT) : ST := fun E ρ => match ρ[i]? with
  | some (.oll xss) => k ρ fun z => match z with
    | .int z => (match ixN xss.length z with
      | some j => (match xss[j]? with
        | some xs => t ρ fun d => xs.length < 16777216 ∧ E.nx (ρ.set i (.oll (xss.set j (xs ++ [d]))))
        | none => False)
      | none => False)
    | _ => False
  | _ => False
section
variable {K : PySem.W.Frag} {sr : Sr} {G0 H0 G H : Hp} {ρ : En} {σ : St}
theorem ER.wrLL (e : ER K sr G0 H0 G H ρ σ) {i j : Nat} {xss : List (List D)} {p : Addr} {ps : List Addr} {q : Addr} {ys : List D} {vs : List V} (hs : ρ[i]? = some (.oll xss)) (hp : σ[i]? = some (some (.ref p))) (hH : H p = some (.lst (ps.map V.ref))) (hj : ps[j]? = some q) (r : RpA K G vs ys) :
    ER K sr G0 H0 G (upd H q (.lst vs)) (ρ.set i (.oll (xss.set j ys))) σ := by
  obtain ⟨w0, le, len, ow, h⟩ := e
  obtain ⟨p', ps', e1, e2, e3, e4, e5, e6, nd, rr⟩ := h i _ hs
  rw [hp] at e1
  cases e1
  rw [hH] at e6
  have ee : ps = ps' := refs_inj (by simpa using e6)
  subst ee
  obtain ⟨ys0, hy0, b1, b2, b3, b4, b5, vs0, b6, b7⟩ := pair_at rr hj
  refine ⟨w0, Le.wr le b3 w0 b4, by rw [List.length_set]; exact len, ow, fun j' z hz => ?_⟩
  by_cases hij : i = j'
  · subst hij
    have hi : i < ρ.length := (List.getElem?_eq_some_iff.mp hs).1
    rw [List.getElem?_set_self hi] at hz
    cases hz
    refine ⟨p, ps, hp, e2, e3, e4, e5, by rw [upd_ne (fun z => b1 z.symm)]; exact hH, nd, pair_set rr nd hj (fun a b na ra => ?_) ⟨b1, b2, b3, b4, b5, vs, upd_same, r⟩⟩
    obtain ⟨c1, c2, c3, c4, c5, us, c6, c7⟩ := ra
    exact ⟨c1, c2, c3, c4, c5, us, by rw [upd_ne na]; exact c6, c7⟩
  · rw [List.getElem?_set_ne hij] at hz
    have q' := h j' z hz
    cases z with
    | un => exact True.intro
    | d x => exact q'
    | b x => exact q'
    | ol xs =>
      obtain ⟨a, us, a1, a2, a3, a4, a5, a6, a7⟩ := q'
      have na : a ≠ q := fun z => by subst z; rw [b2] at a2; exact hij (Option.some.inj a2)
      exact ⟨a, us, a1, a2, a3, a4, a5, by rw [upd_ne na]; exact a6, a7⟩
    | od t es =>
      obtain ⟨a, us, a1, a2, a3, a4, a5, a6, a7⟩ := q'
      have na : a ≠ q := fun z => by subst z; rw [b2] at a2; exact hij (Option.some.inj a2)
      exact ⟨a, us, a1, a2, a3, a4, a5, by rw [upd_ne na]; exact a6, a7⟩
    | oll yss =>
      obtain ⟨a, qs, a1, a2, a3, a4, a5, a6, nd', rr'⟩ := q'
      have na : a ≠ q := fun z => by subst z; rw [b2] at a2; exact hij (Option.some.inj a2)
      refine ⟨a, qs, a1, a2, a3, a4, a5, by rw [upd_ne na]; exact a6, nd', pair_imp (fun b xs z => ?_) rr'⟩
      obtain ⟨c1, c2, c3, c4, c5, us, c6, c7⟩ := z
      have nb : b ≠ q := fun z => by subst z; rw [b2] at c2; exact hij (Option.some.inj c2)
      exact ⟨c1, c2, c3, c4, c5, us, by rw [upd_ne nb]; exact c6, c7⟩
    | src => exact q'
theorem rs_appendLL {te tk : TE} {t k : DT} (i : Nat) (hk : RdR K tk k) (h : Rd K te t) : Rs K (tDrop (tBM K "list" rAppend (tOp (rIxU K) (tVar i) tk) (tCons te tNil))) (sAppendLL i k t) := by
  refine ⟨fun E E' ρ m q => ?_, fun sr G0 H0 G H ρ σ Z E e q f => ?_⟩
  · unfold sAppendLL at q ⊢
    split at q
    · refine hk.mono ρ _ _ (fun z q => ?_) q
      split at q
      · split at q
        · split at q
          · exact h.mono ρ _ _ (fun d q => ⟨q.1, m.nx _ q.2⟩) q
          · exact q.elim
        · exact q.elim
      · exact q.elim
    · exact q.elim
  · unfold sAppendLL at q
    split at q
    · rename_i xss hs
      obtain ⟨ow, p, ps, hp, hH, ns, nd, rr⟩ := e.atLL hs
      refine ⟨.ref p, hp, ?_⟩
      refine hk.rd sr G0 H0 G H ρ σ _ e (hk.mono _ _ _ (fun z q u G1 H1 l1 r1 => ?_) q)
      have e1 := e.le' l1
      have s1 := l1.subG e.wd
      split at q
      · rename_i z
        split at q
        · rename_i j hj
          split at q
          · rename_i xs hx
            obtain ⟨ow1, p1, ps1, hp1, hH1, ns1, nd1, rr1⟩ := e1.atLL hs
            rw [hp] at hp1
            cases hp1
            obtain ⟨a, ha, b1, b2, b3, b4, b5, vs, b6, b7⟩ := pair_get rr1 hx
            have hat : atI (ps1.map V.ref) z = some (V.ref a) := by
              unfold atI
              rw [List.length_map, Paired.length rr1, hj]
              show (ps1.map V.ref)[j]? = _
              rw [List.getElem?_map, ha]; rfl
            refine .inl ⟨p, ps1.map V.ref, z, .ref a, rfl, r1.int, .inl (.inl hH1), hat, .inl ⟨rfl, vs, .inl (.inl b6)⟩, ?_⟩
            refine h.rd sr G0 H0 G1 H1 ρ σ _ e1 (h.mono _ _ _ (fun d q v G2 H2 l2 r2 => ?_) q)
            have e2 := e1.le' l2
            have hA : H2 a = some (.lst vs) := l2.keep a _ b6 b5
            have hP2 : H2 p = some (.lst (ps1.map V.ref)) := l2.keep p _ hH1 ns1
            exact ⟨a, vs, v, rfl, rfl, hA, by rw [slEq, b7.length]; exact q.1, f.nx _ σ G2 _ (s1.trans (l2.subG l1.wd)) (e2.wrLL hs hp hP2 ha ((RpA.sub (l2.gsub l1.wd) b7).append (.cons r2 .nil))) q.2⟩
          · exact q.elim
        · exact q.elim
      · exact q.elim
    · exact q.elim
end
section
variable {X : Cx} {e a tg iter : Expr} {te tk : TE} {t k : DT} {p p1 p2 p3 pos pos' apos cpos : Pos} {n : Str}
theorem ds_newLL (i j : Nat) {scope : Scope} (own : List (Str × Nat)) {wi : TI} {it : IT} (hc : X.calm = true) (hN : X.N.Nodup) (hi : DI X tg iter wi it) (ok : BlkOk X.N X.env.scope scope own)
    (hg : ∀ (s : Shared) (H : Hp) (C : Addr) (cl : List (Str × Addr)) (fp : List Addr), PG (X.blk s H scope (compEnvC scope cl C X.env) fp) tg (gName j))
    (hsw : swapsWith (.ListComp (.List [] p1) [⟨tg, iter, [], 0⟩] scope pos) (some (.Name n pos')) p.line X.env = pure true) (hown : own.map (·.2) = [j] := by rfl) (hy : X.N[i]? = some n := by rfl) (hyl : X.env.scope.names.lookup n = some .local := by rfl) (hs : ∀ x, foldedSetIterable iter X.env x = pure x := by intro _; rfl) :
    DS X (.Assign [.Name n pos'] (.ListComp (.List [] p1) [⟨tg, iter, [], 0⟩] scope pos) p) (tAsg (tLc wi (gName j) tYes (tLst tNil) [j]) (gName i)) (sNewLL i it) :=
  ⟨by
    have := ps_setLc hc hN hy hyl hsw hi.pi ok hg (fun s H C cl fp => pts_nil) (fun s H C cl fp => pe_lst pa_nil) hs
    rw [hown] at this
    exact this, rs_newLL i j hi.rd⟩
theorem ds_newLLc (i j : Nat) {scope : Scope} (own : List (Str × Nat)) {wi : TI} {it : IT} (hc : X.calm = true) (hN : X.N.Nodup) (hi : DI X tg iter wi it) (ok : BlkOk X.N X.env.scope scope own)
    (hg : ∀ (s : Shared) (H : Hp) (C : Addr) (cl : List (Str × Addr)) (fp : List Addr), PG (X.blk s H scope (compEnvC scope cl C X.env) fp) tg (gName j))
    (hown : own.map (·.2) = [j] := by rfl) (hy : X.N[i]? = some n := by rfl) (hx : Loc X.env.scope n := by first | exact Or.inl rfl | exact Or.inr rfl) (hs : ∀ x, foldedSetIterable iter X.env x = pure x := by intro _; rfl)
    (hsw : swapsWith (.ListComp (.List [] p1) [⟨tg, iter, [], 0⟩] scope pos) (some (.Name n pos')) p.line X.env = pure false := by rfl) (hf : X.fn n = true ∨ X.env.scope.names.lookup n = some .local := by first | exact .inl rfl | exact .inr rfl) :
    DS X (.Assign [.Name n pos'] (.ListComp (.List [] p1) [⟨tg, iter, [], 0⟩] scope pos) p) (tAsg (tLc wi (gName j) tYes (tLst tNil) [j]) (gName i)) (sNewLL i it) :=
  ⟨by
    have := ps_set hN hy hx (pe_lc (own := own) hc hN hi.pi ok hg (fun s H C cl fp => pts_nil) (fun s H C cl fp => pe_lst pa_nil) hs) hsw hf
    rw [hown] at this
    exact this, rs_newLL i j hi.rd⟩
theorem ds_appendLL (i : Nat) (hk : DR X a tk k) (h : DE X e te t) (hix : PlainIx a := by exact fun _ _ => rfl) (hN : X.N[i]? = some n := by rfl) (hv : Vis X.env.scope n := by first | exact Or.inl rfl | exact Or.inr (Or.inl rfl) | exact Or.inr (Or.inr rfl)) (hd : (n == ("__debug__" : Str)) = false := by decide) (hcd : (n == ("__classdict__" : Str)) = false := by decide)
    (hbase : attributeBase (.Subscript (.Name n p1) a p2) "append" X.env (eval (.Subscript (.Name n p1) a p2) X.env) = eval (.Subscript (.Name n p1) a p2) X.env := by rfl)
    (hfew : ((backTo cpos (starEach [e] X.env)).all (fun x => !x.1) && (backToKw cpos (keywordEach [] X.env)).all (fun x => x.1.isSome) && decide (([e] : List Expr).length + ([] : List Keyword).length + (if ([] : List Keyword).isEmpty then 0 else 1) < 30)) = true := by rfl)
    (hline : (apos.endLine == cpos.line) = true := by rfl) (hs : starEach [e] X.env = (false, eval e X.env) :: starEach [] X.env := by rfl) (hplain : (backTo cpos (starEach [] X.env)).any (·.1) = false := by rfl)
    (hsw : swapsWith (.Call (.Attribute (.Subscript (.Name n p1) a p2) "append" apos) [e] [] cpos) none pos.line X.env = pure false := by rfl) :
    DS X (.Expr (.Call (.Attribute (.Subscript (.Name n p1) a p2) "append" apos) [e] [] cpos) pos) (tDrop (tBM X.K "list" rAppend (tOp (rIxU X.K) (tVar i) tk) (tCons te tNil))) (sAppendLL i k t) :=
  ⟨ps_expr (pe_bm PySem.F.plainAttrs_list PySem.F.slot_list_append PySem.F.type_list_append mt_append (pe_ix ix_u (pe_var hN hv hd hcd) hk.pe hix) (pa_cons h.pe pa_nil hs) hbase hfew hline hs hplain) hsw, rs_appendLL i hk.rd h.rd⟩
end
end DL
/-! CosK: a table of the written part: keys and values pairs of ints. -/
namespace DL
open PySem PySem.Spec L2
open PyProof.Rows hiding St

/-- a pair of ints of the written part -/
def TupK (K : PySem.W.Frag) (a : Addr) (p : Int × Int) : Prop := ∃ od u1 u2 n sl, K.lookup a = some ⟨.type "tuple", od, .seq #[.int p.1 u1, .int p.2 u2] n, sl⟩
def kyP (p : Int × Int) : List Key := [.inl p.1, .inl p.2]
theorem TupK.rk {K : PySem.W.Frag} {a : Addr} {p : Int × Int} (h : TupK K a p) : Rk K (.ref a) (pairD p) := by
  obtain ⟨od, u1, u2, n, sl, l⟩ := h
  exact .tup (xs := [.int p.1, .int p.2]) l rfl rfl (by rw [slEq]; show 2 ≤ 16777216; decide) (.cons ⟨_, rfl⟩ (.cons ⟨_, rfl⟩ .nil)) (.cons (.int _) (.cons (.int _) .nil))
theorem TupK.key {P : Program} {w : World} {K : PySem.W.Frag} {h : Heap} {a : Addr} {p : Int × Int} (t : TupK K a p) (X : K.In h) : (tupleKind (mixKind P w)).is h (kyP p) a := by
  obtain ⟨od, u1, u2, n, sl, l⟩ := t
  have r : Vals ((kyP p).map kV) [.int p.1 u1, .int p.2 u2] := .cons ⟨_, rfl⟩ (.cons ⟨_, rfl⟩ .nil)
  exact ⟨_, _, n, X a _ l, rfl, rfl, by simpa using items_are r⟩
/-- a table: entries (hash, key, value) -/
structure TabK (K : PySem.W.Frag) (aC : Addr) (tab : List ((Int × Int) × (Int × Int))) : Prop where
  ex : ∃ (es : Array DictEntry) (n : Nat) (ab : List (Addr × Addr)), K.lookup aC = some ⟨.type "dict", none, .dict es n, #[]⟩ ∧ ab.length = tab.length ∧
    (∀ (P : Program) (w : World), es.toList = (List.zipWith (fun (p : (Int × Int) × (Int × Int)) (x : Addr × Addr) => (⟨(tupleKind (mixKind P w)).hash (kyP p.1), .ref x.1, .ref x.2⟩ : DictEntry)) tab ab)) ∧
    (∀ (i : Nat) p x, tab[i]? = some p → ab[i]? = some x → TupK K x.1 p.1 ∧ TupK K x.2 p.2)
  lo : (aC == sysModules) = false
def tabXs (tab : List ((Int × Int) × (Int × Int))) (ab : List (Addr × Addr)) : List (List Key × Addr × Value) := List.zipWith (fun p x => (kyP p.1, x.1, Value.ref x.2)) tab ab
def tabD (tab : List ((Int × Int) × (Int × Int))) (ks : List Key) : Option D := (tab.find? fun p => decide (kyP p.1 = ks)).map fun p => pairD p.2
theorem TabK.dict {K : PySem.W.Frag} {aC : Addr} {tab : List ((Int × Int) × (Int × Int))} (t : TabK K aC tab) (nd : (tab.map fun p => kyP p.1).Nodup) : ∃ xs, (∀ (P : Program) (w : World) (h : Heap), K.In h → h.DictOfH (tupleKind (mixKind P w)) aC xs) ∧
    ∀ ks, ∃ v, RelV v (((atKey xs ks).map (·.2)).getD .none) ∧ Rk K v ((tabD tab ks).getD .none) := by
  obtain ⟨es, n, ab, l, hl, he, ht⟩ := t.ex
  refine ⟨tabXs tab ab, fun P w h X => ⟨_, es, n, X aC _ l, ⟨rfl, rfl, rfl⟩, rfl, ?_, fun x hx => ?_, ?_⟩, fun ks => ?_⟩
  · rw [he P w]
    unfold tabXs
    rw [List.map_zipWith]; rfl
  · unfold tabXs at hx
    obtain ⟨i, hi⟩ := List.mem_iff_getElem?.mp hx
    rw [List.getElem?_zipWith] at hi
    cases e1 : tab[i]? with
    | none => rw [e1] at hi; cases hi
    | some p =>
      cases e2 : ab[i]? with
      | none => rw [e1, e2] at hi; cases hi
      | some y =>
        rw [e1, e2] at hi
        cases hi
        exact (ht i p y e1 e2).1.key X
  · have e : (tabXs tab ab).map (·.1) = tab.map fun p => kyP p.1 := by
      unfold tabXs
      rw [List.map_zipWith]
      clear he ht l nd t
      induction tab generalizing ab with
      | nil => rfl
      | cons a r ih =>
        cases ab with
        | nil => exact absurd hl (by simp)
        | cons x y => rw [List.zipWith_cons_cons, List.map_cons, ih y (by simpa using hl)]
    rw [e]; exact nd
  · clear he nd l t
    induction tab generalizing ab with
    | nil => exact ⟨.non, rfl, .non⟩
    | cons a r ih =>
      cases ab with
      | nil => exact absurd hl (by simp)
      | cons x y =>
        unfold tabXs atKey tabD
        rw [List.zipWith_cons_cons, List.find?_cons, List.find?_cons]
        by_cases q : kyP a.1 = ks
        · rw [decide_eq_true q]
          exact ⟨.ref x.2, rfl, (ht 0 a x rfl rfl).2.rk⟩
        · rw [decide_eq_false q]
          exact ih y (by simpa using hl) fun i p z e1 e2 => ht (i + 1) p z (by simpa using e1) (by simpa using e2)
end DL
/-! S0: fractions and parts as rational numbers: what the defs of turnparts compute. -/
namespace TP
open PySem PySem.Spec L2 DL
open PyProof.Rows hiding St

def qP (x : Rat) : Int × Int := (x.num, (x.den : Int))
def qD (x : Rat) : D := .tuple [.int x.num, .int (x.den : Int)]
theorem qD_pair (x : Rat) : qD x = pairD (qP x) := rfl
/-- what is left of the whole ones -/
def fr (x : Rat) : Rat := mkRat (x.num.fmod (x.den : Int)) x.den
def innerDiv : Nat → Int → Int → Int
  | 0, q, _ => q
  | n + 1, q, p => if q.fmod p = 0 then innerDiv n (q.fdiv p) p else q
def primesGo : Nat → Int → Int → List Int → Int × List Int
  | 0, q, _, f => (q, f)
  | n + 1, q, p, f => if p * p ≤ q then (if q.fmod p = 0 then primesGo n (innerDiv q.toNat q p) (p + 1) (f ++ [p]) else primesGo n q (p + 1) f) else (q, f)
def primesOf (q : Int) : List Int := if 1 < (primesGo q.toNat q 2 []).1 then (primesGo q.toNat q 2 []).2 ++ [(primesGo q.toNat q 2 []).1] else (primesGo q.toNat q 2 []).2
def invGo : Nat → Int → Int → Int → Int → Int
  | 0, _, _, u, _ => u
  | n + 1, one, other, u, v => if 0 < other then invGo n other (one - one.fdiv other * other) v (u - one.fdiv other * v) else u
def invBy (a m : Int) : Int := (invGo m.toNat (a.fmod m) m 1 0).fmod m
def ppGo : Nat → Int → Int → Int → Int × Int
  | 0, r, _, w => (r, w)
  | n + 1, r, p, w => if r.fmod p = 0 then ppGo n (r.fdiv p) p (w * p) else (r, w)
def primePart (s : Rat) (p : Int) : Rat := fr (Rat.divInt (s.num * invBy (ppGo s.den s.den p 1).1 (ppGo s.den s.den p 1).2) (ppGo s.den s.den p 1).2)
def loose (s : Rat) (p : Int) : Bool := decide ((p - 1) * (primePart s p).den ≤ (primePart s p).num * p)
def loosePrimes (s : Rat) : List Int := (primesOf s.den).filter (loose s)
def partsRound (s : Rat) (p : Int) : List Rat := (List.range (p - 1).toNat).map fun (i : Nat) => fr (s + fr (Rat.divInt (1 + (i : Int)) p))

/-! ### promises -/
def R_common_divisor : Pm := RI (I := Int × Int) (fun i => [.d (.int i.1), .d (.int i.2)]) (fun _ => True) (fun i d => d = .int (Int.gcd i.1 i.2))
theorem mono_common_divisor : MonoP R_common_divisor := ri_mono
def R_fraction_of : Pm := RI (I := Int × Int) (fun i => [.d (.int i.1), .d (.int i.2)]) (fun i => i.2 ≠ 0 ∧ i.2.natAbs < 1073741824) (fun i d => d = qD (Rat.divInt i.1 i.2))
theorem mono_fraction_of : MonoP R_fraction_of := ri_mono
def R_fraction_sum : Pm := RI (I := Rat × Rat) (fun i => [.b (qD i.1), .b (qD i.2)]) (fun i => i.1.den * i.2.den < 1073741824) (fun i d => d = qD (i.1 + i.2))
theorem mono_fraction_sum : MonoP R_fraction_sum := ri_mono
def R_fraction_times : Pm := RI (I := Rat × Rat) (fun i => [.b (qD i.1), .b (qD i.2)]) (fun i => i.1.den * i.2.den < 1073741824 ∧ i.1.num.natAbs < 1073741824) (fun i d => d = qD (i.1 * i.2))
theorem mono_fraction_times : MonoP R_fraction_times := ri_mono
def R_fraction_turned : Pm := RI (I := Rat) (fun i => [.d (qD i)]) (fun _ => True) (fun i d => d = qD (-i))
theorem mono_fraction_turned : MonoP R_fraction_turned := ri_mono
def R_part_of : Pm := RI (I := Int × Int) (fun i => [.d (.int i.1), .d (.int i.2)]) (fun i => i.2 ≠ 0 ∧ i.2.natAbs < 1073741824) (fun i d => d = qD (fr (Rat.divInt i.1 i.2)))
theorem mono_part_of : MonoP R_part_of := ri_mono
def R_part_sum : Pm := RI (I := Rat × Rat) (fun i => [.d (qD i.1), .d (qD i.2)]) (fun i => i.1.den * i.2.den < 1073741824) (fun i d => d = qD (fr (i.1 + i.2)))
theorem mono_part_sum : MonoP R_part_sum := ri_mono
def R_part_turned : Pm := RI (I := Rat) (fun i => [.d (qD i)]) (fun i => i.den < 1073741824) (fun i d => d = qD (fr (-i)))
theorem mono_part_turned : MonoP R_part_turned := ri_mono
def R_primes_of : Pm := RI (I := Int) (fun i => [.d (.int i)]) (fun i => 1 ≤ i ∧ i < 32768) (fun i d => d = .tuple ((primesOf i).map PyData.int))
theorem mono_primes_of : MonoP R_primes_of := ri_mono
def R_inverse_by : Pm := RI (I := Int × Int) (fun i => [.d (.int i.1), .d (.int i.2)]) (fun i => 1 ≤ i.2 ∧ i.2 < 1073741824) (fun i d => d = .int (invBy i.1 i.2))
theorem mono_inverse_by : MonoP R_inverse_by := ri_mono
def R_prime_part : Pm := RI (I := Rat × Int) (fun i => [.d (qD i.1), .d (.int i.2)]) (fun i => i.1.den < 32768 ∧ 2 ≤ i.2 ∧ i.2 < 32768) (fun i d => d = qD (primePart i.1 i.2))
theorem mono_prime_part : MonoP R_prime_part := ri_mono
def R_loose_primes : Pm := RI (I := Rat) (fun i => [.d (qD i)]) (fun i => i.den < 32768) (fun i d => d = .list ((loosePrimes i).map PyData.int))
theorem mono_loose_primes : MonoP R_loose_primes := ri_mono
def R_parts_round : Pm := RI (I := Rat × Int) (fun i => [.d (qD i.1), .d (.int i.2)]) (fun i => i.1.den < 32768 ∧ 1 ≤ i.2 ∧ i.2 < 32768) (fun i d => d = .list ((partsRound i.1 i.2).map qD))
theorem mono_parts_round : MonoP R_parts_round := ri_mono
end TP
/-! T0: the readings of turnparts (printed by gen/emit.py). -/
namespace TP
open PySem PySem.Spec L2 DL
open PyProof.Rows hiding St
def T_common_divisor : ST :=
  (sSeq (sPar 0 1 (aCons (dCB (kI1 absI) (aCons (dVar 0) aNil)) (aCons (dCB (kI1 absI) (aCons (dVar 1) aNil)) aNil)))
  (sSeq (sWh (bT (dOp kGt (dVar 1) (dC (.int 0))))
  (sPar 0 1 (aCons (dVar 1) (aCons (dOp kMod (dVar 0) (dVar 1)) aNil))))
  (sRet (dVar 0))))
def T_fraction_of : ST :=
  (sSeq (sAsg (dIf (bT (dOp kGt (dVar 1) (dC (.int 0)))) (dCall 2 R_common_divisor (aCons (sD (dVar 0)) (aCons (sD (dVar 1)) aNil))) (dUn kNeg (dCall 2 R_common_divisor (aCons (sD (dVar 0)) (aCons (sD (dVar 1)) aNil))))) (gtName 2))
  (sRet (dTup (aCons (dOp kDiv (dVar 0) (dVar 2)) (aCons (dOp kDiv (dVar 1) (dVar 2)) aNil)))))
def T_fraction_sum : ST :=
  (sRet (dCall 2 R_fraction_of (aCons (sD (dOp kAdd (dOp kMul (dOp kIxS (rVar 0) (dC (.int 0))) (dOp kIxS (rVar 1) (dC (.int 1)))) (dOp kMul (dOp kIxS (rVar 1) (dC (.int 0))) (dOp kIxS (rVar 0) (dC (.int 1)))))) (aCons (sD (dOp kMul (dOp kIxS (rVar 0) (dC (.int 1))) (dOp kIxS (rVar 1) (dC (.int 1))))) aNil))))
def T_fraction_times : ST :=
  (sRet (dCall 2 R_fraction_of (aCons (sD (dOp kMul (dOp kIxS (rVar 0) (dC (.int 0))) (dOp kIxS (rVar 1) (dC (.int 0))))) (aCons (sD (dOp kMul (dOp kIxS (rVar 0) (dC (.int 1))) (dOp kIxS (rVar 1) (dC (.int 1))))) aNil))))
def T_fraction_turned : ST :=
  (sRet (dTup (aCons (dUn kNeg (dOp kIx (dVar 0) (dC (.int 0)))) (aCons (dOp kIx (dVar 0) (dC (.int 1))) aNil))))
def T_part_of : ST :=
  (sSeq (sAsg (dCall 2 R_fraction_of (aCons (sD (dVar 0)) (aCons (sD (dVar 1)) aNil))) (gtTup 2 (gtCons (gtName 2) (gtCons (gtName 3) gtNil))))
  (sRet (dCall 2 R_fraction_of (aCons (sD (dOp kMod (dVar 2) (dVar 3))) (aCons (sD (dVar 3)) aNil)))))
def T_part_sum : ST :=
  (sRet (dCall 2 R_part_of (aCons (sD (dOp kAdd (dOp kMul (dOp kIx (dVar 0) (dC (.int 0))) (dOp kIx (dVar 1) (dC (.int 1)))) (dOp kMul (dOp kIx (dVar 1) (dC (.int 0))) (dOp kIx (dVar 0) (dC (.int 1)))))) (aCons (sD (dOp kMul (dOp kIx (dVar 0) (dC (.int 1))) (dOp kIx (dVar 1) (dC (.int 1))))) aNil))))
def T_part_turned : ST :=
  (sRet (dCall 2 R_part_of (aCons (sD (dUn kNeg (dOp kIx (dVar 0) (dC (.int 0))))) (aCons (sD (dOp kIx (dVar 0) (dC (.int 1)))) aNil))))
def T_primes_of : ST :=
  (sSeq (sParL 1 2 (dLst aNil) (dC (.int 2)))
  (sSeq (sWh (bT (dOp kLe (dOp kMul (dVar 2) (dVar 2)) (dVar 0)))
  (sSeq (sIf (bT (dOp kEq (dOp kMod (dVar 0) (dVar 2)) (dC (.int 0)))) (sSeq (sAppend 1 (dVar 2))
  (sWh (bT (dOp kEq (dOp kMod (dVar 0) (dVar 2)) (dC (.int 0))))
  (sAsg (dOp kDiv (dVar 0) (dVar 2)) (gtName 0)))) sNext)
  (sAsg (dOp kAdd (dVar 2) (dC (.int 1))) (gtName 2))))
  (sFz 1 (sRet (dUn kTupO (dIf (bT (dOp kGt (dVar 0) (dC (.int 1)))) (dLst (aStar (dVar 1) (aCons (dVar 0) aNil))) (dVar 1)))))))
def T_inverse_by : ST :=
  (sSeq (sAsg (dTup (aCons (dOp kMod (dVar 0) (dVar 1)) (aCons (dVar 1) (aCons (dC (.int 1)) (aCons (dC (.int 0)) aNil))))) (gtTup 4 (gtCons (gtName 2) (gtCons (gtName 3) (gtCons (gtName 4) (gtCons (gtName 5) gtNil))))))
  (sSeq (sWh (bT (dOp kGt (dVar 3) (dC (.int 0))))
  (sSeq (sAsg (dOp kDiv (dVar 2) (dVar 3)) (gtName 6))
  (sAsg (dTup (aCons (dVar 3) (aCons (dOp kSub (dVar 2) (dOp kMul (dVar 6) (dVar 3))) (aCons (dVar 5) (aCons (dOp kSub (dVar 4) (dOp kMul (dVar 6) (dVar 5))) aNil))))) (gtTup 4 (gtCons (gtName 2) (gtCons (gtName 3) (gtCons (gtName 4) (gtCons (gtName 5) gtNil))))))))
  (sRet (dOp kMod (dVar 4) (dVar 1)))))
def T_prime_part : ST :=
  (sSeq (sPar 2 3 (aCons (dOp kIx (dVar 0) (dC (.int 1))) (aCons (dC (.int 1)) aNil)))
  (sSeq (sWh (bT (dOp kEq (dOp kMod (dVar 2) (dVar 1)) (dC (.int 0))))
  (sPar 2 3 (aCons (dOp kDiv (dVar 2) (dVar 1)) (aCons (dOp kMul (dVar 3) (dVar 1)) aNil))))
  (sRet (dCall 2 R_part_of (aCons (sD (dOp kMul (dOp kIx (dVar 0) (dC (.int 0))) (dCall 2 R_inverse_by (aCons (sD (dVar 2)) (aCons (sD (dVar 3)) aNil))))) (aCons (sD (dVar 3)) aNil))))))
def T_loose_primes : ST :=
  (sSeq (sAsgO 1 (dLst aNil))
  (sSeq (sFor (ieOf (iSeq (dCall 1 R_primes_of (aCons (sD (dOp kIx (dVar 0) (dC (.int 1)))) aNil)))) (gtName 2)
  (sSeq (sAsg (dCall 2 R_prime_part (aCons (sD (dVar 0)) (aCons (sD (dVar 2)) aNil))) (gtTup 2 (gtCons (gtName 3) (gtCons (gtName 4) gtNil))))
  (sIf (bT (dOp kGe (dOp kMul (dVar 3) (dVar 2)) (dOp kMul (dOp kSub (dVar 2) (dC (.int 1))) (dVar 4)))) (sAppend 1 (dVar 2)) sNext)))
  (sFz 1 (sRet (dVar 1)))))
def T_parts_round : ST :=
  (sRet (dLc (iRg2 (aCons (dC (.int 1)) (aCons (dVar 1) aNil))) (gtName 2) bYes (dCall 2 R_part_sum (aCons (sD (dVar 0)) (aCons (sD (dCall 2 R_part_of (aCons (sD (dVar 2)) (aCons (sD (dVar 1)) aNil)))) aNil))) [2]))
end TP
/-! P0: the readings of turnparts keep their promises. -/
namespace TP
open PySem PySem.Spec L2 DL
open PyProof.Rows hiding St
theorem at2_0 {α : Type} (x y : α) : atI [x, y] 0 = some x := rfl
theorem at2_1 {α : Type} (x y : α) : atI [x, y] 1 = some y := rfl
local macro_rules | `(tactic| walk_at "dl") => `(tactic| dsimp only [sSeq, sPar, sPar3, sParL, sParB, sParD, sNext, sRet, sRetN, sIf, sAsg, sAsgO, ownD, sFz, fz, sAppend, sExtend, sPut, sNewD, sDispT, psNil, psCons, endE,
  aCons, aNil, aStar, dVar, wVar, rVar, dC, dOp, dUn, dIf, dAnd, dOr, dNot, dTup, dLst, dCB, dCall, dLc, dSl, dRepr, dIsi, dGet, dGet2, dSortD, pNo, pSo, sD, sB, sVar, iSeq, iSeqC, iRg1, iRg2, ieOf, ieP,
  bT, bTru, bAnd, bOr, bNot, bYes, gtName, gtTup, gtCons, gtNil, kTru, kI, kI1, kI2, kInt, kLen, kSub, kMul, kDiv, kMod, kLt, kLe, kGt, kGe, kEq, kNe, kAdd, kCat, kIn, kNotIn, kIsN, kNotN, kIx, kIxS, kNeg, kTupO, kLst, kRev, kRevL, kSl, kSlL, kMinL, isNone,
  wipeE, List.getElem?_cons_zero, List.getElem?_cons_succ, List.set_cons_zero, List.set_cons_succ, List.length_cons, List.length_nil, List.cons_append, List.nil_append, List.replicate_succ, List.replicate_zero, Nat.sub_self, List.append_nil])
local macro_rules | `(tactic| walk_at "at") => `(tactic| dsimp only [qD, at2_0, at2_1])
theorem gcd_step {x y : Int} (hx : 0 ≤ x) (hy : 0 < y) : Int.gcd y (x.fmod y) = Int.gcd x y := by
  obtain ⟨m, rfl⟩ := Int.eq_ofNat_of_zero_le hx
  obtain ⟨n, rfl⟩ := Int.eq_ofNat_of_zero_le (Int.le_of_lt hy)
  rw [← Int.ofNat_fmod, Int.gcd_natCast_natCast, Int.gcd_natCast_natCast, Nat.gcd_comm m n, Nat.gcd_rec n m, Nat.gcd_comm]
  
theorem gcd_loop (E : PEn) (P : Int → Prop) (hE : ∀ x y, P x → E.nx [.d (.int x), .d (.int y)]) : ∀ (n : Nat) (x y : Int), 0 ≤ x → 0 ≤ y → y.toNat < n → P (Int.gcd x y) →
    whD (bT (dOp kGt (dVar 1) (dC (.int 0)))) (sPar 0 1 (aCons (dVar 1) (aCons (dOp kMod (dVar 0) (dVar 1)) aNil))) E n [.d (.int x), .d (.int y)]
  | 0, x, y, _, _, h, _ => absurd h (Nat.not_lt_zero _)
  | n + 1, x, y, hx, hy, h, q => by
    unfold whD
    walk_at "dl"
    refine ⟨trivial, ?_⟩
    by_cases h0 : 0 < y
    · rw [decide_eq_true h0, if_pos rfl]
      refine ⟨by omega, ?_⟩
      refine gcd_loop E P hE n y (x.fmod y) hy (Int.fmod_nonneg_of_pos _ h0) ?_ ?_
      · have := Int.fmod_lt_of_pos x h0
        omega
      · rw [gcd_step hx h0]; exact q
    · rw [decide_eq_false h0, if_neg (by decide)]
      have : y = 0 := by omega
      subst this
      refine hE x 0 ?_
      have e : ((Int.gcd x 0 : Nat) : Int) = x := by rw [Int.gcd_zero_right]; omega
      rw [e] at q
      exact q
theorem absI_gcd (a b : Int) : Int.gcd (absI a) (absI b) = Int.gcd a b := by
  have e : ∀ z : Int, (absI z).natAbs = z.natAbs := fun z => by unfold absI; split <;> omega
  unfold Int.gcd
  rw [e, e]
theorem absI_nn (a : Int) : 0 ≤ absI a := by unfold absI; split <;> omega
theorem p_common_divisor : ∀ xs Q, xs.length = 2 → R_common_divisor xs Q → T_common_divisor (endE Q) (xs ++ List.replicate (2 - xs.length) .un) := by
  intro xs Q hl h
  obtain ⟨⟨a, b⟩, rfl, -, q⟩ := h
  show T_common_divisor (endE Q) [.d (.int a), .d (.int b)]
  unfold T_common_divisor
  walk_at "dl"
  refine ⟨_, gcd_loop _ (fun z => Q (.int z)) (fun x y h => h) ((absI b).toNat + 1) (absI a) (absI b) (absI_nn a) (absI_nn b) (Nat.lt_succ_self _) ?_⟩
  rw [absI_gcd]
  exact q _ rfl
/-! fractions -/
theorem fof_pos {p q : Int} (h : 0 < q) : p.fdiv (Int.gcd p q) = (Rat.divInt p q).num ∧ q.fdiv (Int.gcd p q) = ((Rat.divInt p q).den : Int) := by
  have g0 : 0 < Int.gcd p q := Int.gcd_pos_of_ne_zero_right p (by omega)
  rw [Rat.num_divInt, Rat.den_divInt, if_neg (by omega), Int.sign_eq_one_of_pos h, Int.one_mul, Int.gcd_comm q p]
  constructor
  · rw [Int.fdiv_eq_ediv_of_nonneg _ (by omega)]
  · rw [Int.fdiv_eq_ediv_of_nonneg _ (by omega), Int.natCast_ediv]
    congr 1
    omega
theorem fof_neg {p q : Int} (h : q < 0) : p.fdiv (-(Int.gcd p q : Int)) = (Rat.divInt p q).num ∧ q.fdiv (-(Int.gcd p q : Int)) = ((Rat.divInt p q).den : Int) := by
  have e : Rat.divInt p q = Rat.divInt (-p) (-q) := by rw [Rat.neg_divInt_neg]
  have eg : Int.gcd p q = Int.gcd (-p) (-q) := by rw [Int.gcd_neg, Int.neg_gcd]
  obtain ⟨h1, h2⟩ := fof_pos (p := -p) (q := -q) (by omega)
  rw [e, ← h1, ← h2, ← eg]
  constructor
  · rw [← Int.neg_fdiv_neg, Int.neg_neg]
  · rw [← Int.neg_fdiv_neg, Int.neg_neg]
theorem p_fraction_of : ∀ xs Q, xs.length = 2 → R_fraction_of xs Q → T_fraction_of (endE Q) (xs ++ List.replicate (3 - xs.length) .un) := by
  intro xs Q hl h
  obtain ⟨⟨p, q⟩, rfl, ⟨h0, hb⟩, k⟩ := h
  show T_fraction_of (endE Q) [.d (.int p), .d (.int q), .un]
  unfold T_fraction_of
  walk_at "dl"
  simp only at h0 hb k
  have gle : Int.gcd p q ≤ q.natAbs := Int.gcd_le_natAbs_right p h0
  have g0 : 0 < Int.gcd p q := Int.gcd_pos_of_ne_zero_right p h0
  refine ⟨trivial, ?_⟩
  by_cases hq : 0 < q
  · rw [decide_eq_true hq, if_pos rfl]
    refine ⟨rfl, (p, q), rfl, trivial, fun d hd => ?_⟩
    subst hd
    dsimp only
    obtain ⟨h1, h2⟩ := fof_pos (p := p) hq
    refine ⟨⟨by omega, by omega⟩, ⟨by omega, by omega⟩, by decide, ?_⟩
    rw [h1, h2]
    exact k _ rfl
  · rw [decide_eq_false hq, if_neg (by decide)]
    refine ⟨rfl, (p, q), rfl, trivial, fun d hd => ?_⟩
    subst hd
    dsimp only
    obtain ⟨h1, h2⟩ := fof_neg (p := p) (q := q) (by omega)
    refine ⟨⟨by omega, by omega⟩, ⟨by omega, by omega⟩, by decide, ?_⟩
    rw [h1, h2]
    exact k _ rfl

theorem den_pos (x : Rat) : 0 < (x.den : Int) := by have := Rat.den_pos x; omega
theorem mul_small {a b n : Nat} (h : a * b < n) (hb : 0 < b) : a < n := Nat.lt_of_le_of_lt (Nat.le_mul_of_pos_right a hb) h
theorem cm_l {i j : Int} (h : i.natAbs < 1073741824) : CMul i j := .inl ⟨by omega, by omega⟩
theorem cm_r {i j : Int} (h : j.natAbs < 1073741824) : CMul i j := .inr ⟨by omega, by omega⟩
theorem p_fraction_sum : ∀ xs Q, xs.length = 2 → R_fraction_sum xs Q → T_fraction_sum (endE Q) (xs ++ List.replicate (2 - xs.length) .un) := by
  intro xs Q hl h
  obtain ⟨⟨x, y⟩, rfl, hb, k⟩ := h
  show T_fraction_sum (endE Q) [.b (qD x), .b (qD y)]
  unfold T_fraction_sum
  walk_at "dl"
  walk_at "at"
  have d1 : x.den < 1073741824 := mul_small hb (Rat.den_pos y)
  have d2 : y.den < 1073741824 := mul_small (Nat.mul_comm _ _ ▸ hb) (Rat.den_pos x)
  have dd : (x.den : Int) * (y.den : Int) = ((x.den * y.den : Nat) : Int) := by rw [Int.natCast_mul]
  have dp : 0 < x.den * y.den := Nat.mul_pos (Rat.den_pos x) (Rat.den_pos y)
  refine ⟨rfl, rfl, cm_r (by omega), rfl, rfl, cm_r (by omega), rfl, rfl, cm_r (by omega), rfl, (_, _), rfl, ⟨?_, ?_⟩, fun d hd => ?_⟩
  · dsimp only; rw [dd]; omega
  · dsimp only; rw [dd]; dsimp only at hb; omega
  · subst hd
    dsimp only
    rw [dd, Rat.divInt_ofNat, ← Rat.add_def']
    exact k _ rfl
theorem p_fraction_times : ∀ xs Q, xs.length = 2 → R_fraction_times xs Q → T_fraction_times (endE Q) (xs ++ List.replicate (2 - xs.length) .un) := by
  intro xs Q hl h
  obtain ⟨⟨x, y⟩, rfl, ⟨hb, hn⟩, k⟩ := h
  show T_fraction_times (endE Q) [.b (qD x), .b (qD y)]
  unfold T_fraction_times
  walk_at "dl"
  walk_at "at"
  have d1 : x.den < 1073741824 := mul_small hb (Rat.den_pos y)
  have dd : (x.den : Int) * (y.den : Int) = ((x.den * y.den : Nat) : Int) := by rw [Int.natCast_mul]
  have dp : 0 < x.den * y.den := Nat.mul_pos (Rat.den_pos x) (Rat.den_pos y)
  refine ⟨rfl, rfl, cm_l hn, rfl, rfl, cm_l (by omega), rfl, (_, _), rfl, ⟨?_, ?_⟩, fun d hd => ?_⟩
  · dsimp only; rw [dd]; omega
  · dsimp only; rw [dd]; dsimp only at hb; omega
  · subst hd
    dsimp only
    rw [dd, Rat.divInt_ofNat, ← Rat.mul_def']
    exact k _ rfl
theorem p_fraction_turned : ∀ xs Q, xs.length = 1 → R_fraction_turned xs Q → T_fraction_turned (endE Q) (xs ++ List.replicate (1 - xs.length) .un) := by
  intro xs Q hl h
  obtain ⟨x, rfl, -, k⟩ := h
  show T_fraction_turned (endE Q) [.d (qD x)]
  unfold T_fraction_turned
  walk_at "dl"
  walk_at "at"
  exact ⟨by decide, k _ rfl⟩
theorem p_part_of : ∀ xs Q, xs.length = 2 → R_part_of xs Q → T_part_of (endE Q) (xs ++ List.replicate (4 - xs.length) .un) := by
  intro xs Q hl h
  obtain ⟨⟨p, q⟩, rfl, ⟨h0, hb⟩, k⟩ := h
  show T_part_of (endE Q) [.d (.int p), .d (.int q), .un, .un]
  unfold T_part_of
  walk_at "dl"
  refine ⟨rfl, (p, q), rfl, ⟨h0, hb⟩, fun d hd => ?_⟩
  subst hd
  walk_at "at"
  have hd : (Rat.divInt p q).den ≤ q.natAbs := by
    rw [Rat.den_divInt, if_neg h0]
    exact Nat.div_le_self _ _
  have hp := Rat.den_pos (Rat.divInt p q)
  dsimp only at h0 hb
  have hne : ((Rat.divInt p q).den : Int) ≠ 0 := by omega
  have hlt : ((Rat.divInt p q).den : Int).natAbs < 1073741824 := by omega
  refine ⟨rfl, rfl, by omega, rfl, (_, _), rfl, ⟨hne, hlt⟩, fun d hd => ?_⟩
  subst hd
  dsimp only
  rw [Rat.divInt_ofNat]
  exact k _ rfl
theorem p_part_sum : ∀ xs Q, xs.length = 2 → R_part_sum xs Q → T_part_sum (endE Q) (xs ++ List.replicate (2 - xs.length) .un) := by
  intro xs Q hl h
  obtain ⟨⟨x, y⟩, rfl, hb, k⟩ := h
  show T_part_sum (endE Q) [.d (qD x), .d (qD y)]
  unfold T_part_sum
  walk_at "dl"
  walk_at "at"
  have d1 : x.den < 1073741824 := mul_small hb (Rat.den_pos y)
  have d2 : y.den < 1073741824 := mul_small (Nat.mul_comm _ _ ▸ hb) (Rat.den_pos x)
  have dd : (x.den : Int) * (y.den : Int) = ((x.den * y.den : Nat) : Int) := by rw [Int.natCast_mul]
  have dp : 0 < x.den * y.den := Nat.mul_pos (Rat.den_pos x) (Rat.den_pos y)
  refine ⟨cm_r (by omega), cm_r (by omega), cm_r (by omega), rfl, (_, _), rfl, ⟨?_, ?_⟩, fun d hd => ?_⟩
  · dsimp only; rw [dd]; omega
  · dsimp only; rw [dd]; dsimp only at hb; omega
  · subst hd
    dsimp only
    rw [dd, Rat.divInt_ofNat, ← Rat.add_def']
    exact k _ rfl
theorem p_part_turned : ∀ xs Q, xs.length = 1 → R_part_turned xs Q → T_part_turned (endE Q) (xs ++ List.replicate (1 - xs.length) .un) := by
  intro xs Q hl h
  obtain ⟨x, rfl, hb, k⟩ := h
  show T_part_turned (endE Q) [.d (qD x)]
  unfold T_part_turned
  walk_at "dl"
  walk_at "at"
  have hp := Rat.den_pos x
  have hne : (x.den : Int) ≠ 0 := by omega
  have hlt : (x.den : Int).natAbs < 1073741824 := by omega
  refine ⟨rfl, (_, _), rfl, ⟨hne, hlt⟩, fun d hd => ?_⟩
  subst hd
  dsimp only
  rw [← Rat.neg_num, ← Rat.neg_den, Rat.num_divInt_den]
  exact k _ rfl

/-! tests -/
theorem iteC {c : Bool} {A B : Prop} (h1 : c = true → A) (h0 : c = false → B) : if c = true then A else B := by
  cases c with
  | true => rw [if_pos rfl]; exact h1 rfl
  | false => rw [if_neg (by decide)]; exact h0 rfl
theorem iteTr {c : Bool} {A B : Prop} (h : c = true) (a : A) : if c = true then A else B := by rw [if_pos h]; exact a
theorem iteFa {c : Bool} {A B : Prop} (h : c = false) (b : B) : if c = true then A else B := by rw [if_neg (by rw [h]; decide)]; exact b
theorem eqvI (i j : Int) : PyData.eqv (.int i) (.int j) = decide (i = j) := by
  simp only [PyData.eqv]
  by_cases h : i = j
  · subst h; simp
  · rw [decide_eq_false h]; exact beq_eq_false_iff_ne.mpr h
/-! primes_of -/
theorem fdiv_down {p q : Int} (hp : 2 ≤ p) (h : 1 ≤ q) (h0 : q.fmod p = 0) : 1 ≤ q.fdiv p ∧ q.fdiv p < q := by
  have dv : p ∣ q := Int.dvd_of_fmod_eq_zero h0
  have e : q.fdiv p = q / p := Int.fdiv_eq_ediv_of_nonneg _ (by omega)
  rw [e]
  obtain ⟨c, hc⟩ := dv
  have hc1 : 1 ≤ c := by
    rcases Int.lt_or_le c 1 with h | h
    · exfalso
      have : p * c ≤ 0 := Int.mul_nonpos_of_nonneg_of_nonpos (by omega) (by omega)
      omega
    · exact h
  rw [hc, Int.mul_ediv_cancel_left _ (by omega)]
  refine ⟨hc1, ?_⟩
  have : 2 * c ≤ p * c := Int.mul_le_mul_of_nonneg_right hp (by omega)
  omega
theorem inner_loop (E : PEn) (f : List D) (p : Int) (hp : 2 ≤ p) (hp2 : p < 1073741824) : ∀ (n : Nat) (q : Int), 1 ≤ q → q.toNat ≤ n → E.nx [.d (.int (innerDiv n q p)), .ol f, .d (.int p)] →
    whD (bT (dOp kEq (dOp kMod (dVar 0) (dVar 2)) (dC (.int 0)))) (sAsg (dOp kDiv (dVar 0) (dVar 2)) (gtName 0)) E (n + 1) [.d (.int q), .ol f, .d (.int p)]
  | 0, q, h1, hn, _ => by omega
  | n + 1, q, h1, hn, k => by
    unfold whD
    walk_at "dl"
    refine ⟨by omega, ⟨rfl, rfl⟩, ?_⟩
    unfold innerDiv at k
    by_cases h0 : q.fmod p = 0
    · rw [if_pos h0] at k
      obtain ⟨a, b⟩ := fdiv_down hp h1 h0
      refine iteTr (by rw [eqvI, h0]; rfl) ⟨⟨by omega, by omega⟩, ?_⟩
      exact inner_loop E f p hp hp2 n (q.fdiv p) a (by omega) k
    · rw [if_neg h0] at k
      exact iteFa (by rw [eqvI]; exact decide_eq_false h0) k
theorem innerDiv_pos {p : Int} (hp : 2 ≤ p) : ∀ (n : Nat) (q : Int), 1 ≤ q → 1 ≤ innerDiv n q p ∧ innerDiv n q p ≤ q
  | 0, q, h => ⟨h, Int.le_refl _⟩
  | n + 1, q, h => by
    unfold innerDiv
    split
    · rename_i h0
      obtain ⟨a, b⟩ := fdiv_down hp h h0
      obtain ⟨a', b'⟩ := innerDiv_pos hp n (q.fdiv p) a
      exact ⟨a', by omega⟩
    · exact ⟨h, Int.le_refl _⟩
theorem p_le_sq {p q : Int} (hp : 2 ≤ p) (h : p * p ≤ q) : p + p ≤ q := by
  have : 2 * p ≤ p * p := Int.mul_le_mul_of_nonneg_right hp (by omega)
  omega
theorem outer_loop (E : PEn) : ∀ (n : Nat) (q p : Int) (f : List Int), 2 ≤ p → p ≤ 40000 → 1 ≤ q → q < 32768 → (q - p + 2).toNat ≤ n + 1 → f.length + n ≤ 40000 →
    (∀ p', E.nx [.d (.int (primesGo n q p f).1), .ol ((primesGo n q p f).2.map PyData.int), .d (.int p')]) →
    whD (bT (dOp kLe (dOp kMul (dVar 2) (dVar 2)) (dVar 0))) (sSeq (sIf (bT (dOp kEq (dOp kMod (dVar 0) (dVar 2)) (dC (.int 0)))) (sSeq (sAppend 1 (dVar 2))
  (sWh (bT (dOp kEq (dOp kMod (dVar 0) (dVar 2)) (dC (.int 0))))
  (sAsg (dOp kDiv (dVar 0) (dVar 2)) (gtName 0)))) sNext)
  (sAsg (dOp kAdd (dVar 2) (dC (.int 1))) (gtName 2))) E (n + 1) [.d (.int q), .ol (f.map PyData.int), .d (.int p)]
  | n, q, p, f, hp, hP, h1, hq, hn, hf, k => by
    unfold whD
    walk_at "dl"
    by_cases hpp : p * p ≤ q
    · have hs := p_le_sq hp hpp
      refine ⟨cm_l (by omega), trivial, iteTr (decide_eq_true hpp) ?_⟩
      cases n with
      | zero => omega
      | succ n =>
        unfold primesGo at k
        rw [if_pos hpp] at k
        refine ⟨by omega, ⟨rfl, rfl⟩, ?_⟩
        by_cases h0 : q.fmod p = 0
        · rw [if_pos h0] at k
          obtain ⟨a, b⟩ := innerDiv_pos hp q.toNat q h1
          refine iteTr (by rw [eqvI, h0]; rfl) ⟨by rw [List.length_map]; omega, q.toNat + 1, ?_⟩
          refine inner_loop _ _ p hp (by omega) q.toNat q h1 (Nat.le_refl _) ?_
          walk_at "dl"
          have e : f.map PyData.int ++ [PyData.int p] = (f ++ [p]).map PyData.int := by rw [List.map_append]; rfl
          rw [e]
          exact outer_loop E n _ (p + 1) (f ++ [p]) (by omega) (by omega) a (by omega) (by omega) (by rw [List.length_append, List.length_singleton]; omega) k
        · rw [if_neg h0] at k
          refine iteFa (by rw [eqvI]; exact decide_eq_false h0) ?_
          exact outer_loop E n q (p + 1) f (by omega) (by omega) h1 hq (by omega) (by omega) k
    · refine ⟨?_, trivial, iteFa (decide_eq_false hpp) ?_⟩
      · exact cm_l (by omega)
      · cases n with
        | zero => exact k p
        | succ n =>
          unfold primesGo at k
          rw [if_neg hpp] at k
          exact k p

theorem primesGo_len : ∀ (n : Nat) (q p : Int) (f : List Int), (primesGo n q p f).2.length ≤ f.length + n
  | 0, q, p, f => Nat.le_refl _
  | n + 1, q, p, f => by
    unfold primesGo
    split
    · split
      · have := primesGo_len n (innerDiv q.toNat q p) (p + 1) (f ++ [p])
        rw [List.length_append, List.length_singleton] at this
        omega
      · have := primesGo_len n q (p + 1) f
        omega
    · show f.length ≤ _
      omega
theorem p_primes_of : ∀ xs Q, xs.length = 1 → R_primes_of xs Q → T_primes_of (endE Q) (xs ++ List.replicate (3 - xs.length) .un) := by
  intro xs Q hl h
  obtain ⟨q, rfl, ⟨h1, h2⟩, k⟩ := h
  show T_primes_of (endE Q) [.d (.int q), .un, .un]
  unfold T_primes_of
  walk_at "dl"
  refine ⟨by decide, q.toNat + 1, ?_⟩
  have hlen := primesGo_len q.toNat q 2 []
  rw [List.length_nil] at hlen
  refine outer_loop _ q.toNat q 2 [] (by omega) (by omega) h1 h2 (by omega) (by rw [List.length_nil]; omega) fun p' => ?_
  walk_at "dl"
  refine ⟨trivial, iteC (fun h => ?_) fun h => ?_⟩
  · have h' := of_decide_eq_true h
    refine ⟨by rw [List.length_append, List.length_map, List.length_singleton]; omega, k _ ?_⟩
    dsimp only
    unfold primesOf
    rw [if_pos h', List.map_append]
    rfl
  · have h' := of_decide_eq_false h
    refine k _ ?_
    dsimp only
    unfold primesOf
    rw [if_neg h']
/-! inverse_by -/
theorem one_mod {a b : Int} : a - a.fdiv b * b = a.fmod b := by rw [Int.fmod_def, Int.mul_comm]
theorem fdiv_nn {a b : Int} (ha : 0 ≤ a) (hb : 0 < b) : 0 ≤ a.fdiv b ∧ a.fdiv b ≤ a := by
  rw [Int.fdiv_eq_ediv_of_nonneg _ (by omega)]
  exact ⟨Int.ediv_nonneg ha (by omega), Int.ediv_le_self _ ha⟩
theorem inv_loop (E : PEn) (a m : Slot) : ∀ (n : Nat) (one other u v : Int) (s6 : Slot), 0 ≤ one → one < 1073741824 → 0 ≤ other → other < 1073741824 → other.toNat ≤ n →
    (∀ o' x' v' s', E.nx [a, m, .d (.int o'), .d (.int x'), .d (.int (invGo n one other u v)), .d (.int v'), s']) →
    whD (bT (dOp kGt (dVar 3) (dC (.int 0)))) (sSeq (sAsg (dOp kDiv (dVar 2) (dVar 3)) (gtName 6))
  (sAsg (dTup (aCons (dVar 3) (aCons (dOp kSub (dVar 2) (dOp kMul (dVar 6) (dVar 3))) (aCons (dVar 5) (aCons (dOp kSub (dVar 4) (dOp kMul (dVar 6) (dVar 5))) aNil))))) (gtTup 4 (gtCons (gtName 2) (gtCons (gtName 3) (gtCons (gtName 4) (gtCons (gtName 5) gtNil))))))) E (n + 1)
      [a, m, .d (.int one), .d (.int other), .d (.int u), .d (.int v), s6]
  | n, one, other, u, v, s6, h1, h2, h3, h4, hn, k => by
    unfold whD
    walk_at "dl"
    refine ⟨trivial, ?_⟩
    by_cases h0 : 0 < other
    · cases n with
      | zero => omega
      | succ n =>
        unfold invGo at k
        rw [if_pos h0] at k
        obtain ⟨b1, b2⟩ := fdiv_nn h1 h0
        refine iteTr (decide_eq_true h0) ⟨⟨by omega, by omega⟩, cm_l (by omega), trivial, cm_l (by omega), trivial, by decide, rfl, rfl, ?_⟩
        have r1 := Int.fmod_nonneg_of_pos one h0
        have r2 := Int.fmod_lt_of_pos one h0
        rw [← one_mod] at r1 r2
        exact inv_loop E a m n other (one - one.fdiv other * other) v (u - one.fdiv other * v) _ h3 h4 r1 (by omega) (by omega) k
    · refine iteFa (decide_eq_false h0) ?_
      cases n with
      | zero => exact k one other v s6
      | succ n =>
        unfold invGo at k
        rw [if_neg h0] at k
        exact k one other v s6
theorem p_inverse_by : ∀ xs Q, xs.length = 2 → R_inverse_by xs Q → T_inverse_by (endE Q) (xs ++ List.replicate (7 - xs.length) .un) := by
  intro xs Q hl h
  obtain ⟨⟨a, m⟩, rfl, ⟨h1, h2⟩, k⟩ := h
  show T_inverse_by (endE Q) [.d (.int a), .d (.int m), .un, .un, .un, .un, .un]
  dsimp only at h1 h2 k
  unfold T_inverse_by
  walk_at "dl"
  have r1 := Int.fmod_nonneg_of_pos a (b := m) (by omega)
  have r2 := Int.fmod_lt_of_pos a (b := m) (by omega)
  refine ⟨by omega, by decide, rfl, rfl, m.toNat + 1, ?_⟩
  refine inv_loop _ _ _ m.toNat (a.fmod m) m 1 0 .un r1 (by omega) (by omega) h2 (Nat.le_refl _) fun o' x' v' s' => ?_
  walk_at "dl"
  exact ⟨by omega, k _ rfl⟩
theorem invBy_rng {a m : Int} (h : 1 ≤ m) : 0 ≤ invBy a m ∧ invBy a m < m := ⟨Int.fmod_nonneg_of_pos _ (by omega), Int.fmod_lt_of_pos _ (by omega)⟩
/-! prime_part -/
theorem ppGo_inv (p : Int) (hp : 2 ≤ p) : ∀ (n : Nat) (r w : Int), 1 ≤ r → 1 ≤ w → 1 ≤ (ppGo n r p w).1 ∧ 1 ≤ (ppGo n r p w).2 ∧ (ppGo n r p w).1 * (ppGo n r p w).2 = r * w
  | 0, r, w, h1, h2 => ⟨h1, h2, rfl⟩
  | n + 1, r, w, h1, h2 => by
    unfold ppGo
    split
    · rename_i h0
      obtain ⟨a, b⟩ := fdiv_down hp h1 h0
      have hw : 1 ≤ w * p := by
        have : w * 1 ≤ w * p := Int.mul_le_mul_of_nonneg_left (by omega) (by omega)
        omega
      obtain ⟨c, d, e⟩ := ppGo_inv p hp n (r.fdiv p) (w * p) a hw
      refine ⟨c, d, e.trans ?_⟩
      have hr : r.fdiv p * p = r := Int.fdiv_mul_cancel (Int.dvd_of_fmod_eq_zero h0)
      rw [Int.mul_comm w p, ← Int.mul_assoc, hr]
    · exact ⟨h1, h2, rfl⟩
theorem pp_loop (E : PEn) (s : Slot) (p : Int) (hp : 2 ≤ p) (hp2 : p < 32768) : ∀ (n : Nat) (r w : Int), 1 ≤ r → 1 ≤ w → r.toNat ≤ n →
    E.nx [s, .d (.int p), .d (.int (ppGo n r p w).1), .d (.int (ppGo n r p w).2)] →
    whD (bT (dOp kEq (dOp kMod (dVar 2) (dVar 1)) (dC (.int 0)))) (sPar 2 3 (aCons (dOp kDiv (dVar 2) (dVar 1)) (aCons (dOp kMul (dVar 3) (dVar 1)) aNil))) E (n + 1) [s, .d (.int p), .d (.int r), .d (.int w)]
  | n, r, w, h1, h2, hn, k => by
    unfold whD
    walk_at "dl"
    refine ⟨by omega, ⟨rfl, rfl⟩, ?_⟩
    by_cases h0 : r.fmod p = 0
    · cases n with
      | zero => omega
      | succ n =>
        unfold ppGo at k
        rw [if_pos h0] at k
        obtain ⟨a, b⟩ := fdiv_down hp h1 h0
        have hw : 1 ≤ w * p := by
          have : w * 1 ≤ w * p := Int.mul_le_mul_of_nonneg_left (by omega) (by omega)
          omega
        refine iteTr (by rw [eqvI, h0]; rfl) ⟨⟨by omega, by omega⟩, cm_r (by omega), ?_⟩
        exact pp_loop E s p hp hp2 n (r.fdiv p) (w * p) a hw (by omega) k
    · refine iteFa (by rw [eqvI]; exact decide_eq_false h0) ?_
      cases n with
      | zero => exact k
      | succ n =>
        unfold ppGo at k
        rw [if_neg h0] at k
        exact k
theorem p_prime_part : ∀ xs Q, xs.length = 2 → R_prime_part xs Q → T_prime_part (endE Q) (xs ++ List.replicate (4 - xs.length) .un) := by
  intro xs Q hl h
  obtain ⟨⟨s, p⟩, rfl, ⟨h1, h2, h3⟩, k⟩ := h
  show T_prime_part (endE Q) [.d (qD s), .d (.int p), .un, .un]
  dsimp only at h1 h2 h3 k
  unfold T_prime_part
  walk_at "dl"
  walk_at "at"
  have hp := Rat.den_pos s
  obtain ⟨a, b, e⟩ := ppGo_inv p h2 s.den s.den 1 (by omega) (by omega)
  rw [Int.mul_one] at e
  have hw : (ppGo s.den s.den p 1).2 ≤ s.den := by
    have t : 1 * (ppGo s.den s.den p 1).2 ≤ (ppGo s.den s.den p 1).1 * (ppGo s.den s.den p 1).2 := Int.mul_le_mul_of_nonneg_right a (by omega)
    rw [e] at t
    omega
  refine ⟨s.den + 1, pp_loop _ _ p h2 h3 s.den s.den 1 (by omega) (by omega) (by omega) ?_⟩
  walk_at "dl"
  refine ⟨rfl, (_, _), rfl, ⟨b, by omega⟩, fun d hd => ?_⟩
  subst hd
  dsimp only
  obtain ⟨i1, i2⟩ := invBy_rng (a := (ppGo s.den s.den p 1).1) b
  have hne : (ppGo s.den s.den p 1).2 ≠ 0 := by omega
  have hlt : (ppGo s.den s.den p 1).2.natAbs < 1073741824 := by omega
  exact ⟨cm_r (by omega), rfl, (_, _), rfl, ⟨hne, hlt⟩, k⟩

/-! loose_primes -/
theorem primesGo_mem : ∀ (n : Nat) (q p : Int) (f : List Int) (B : Int), 2 ≤ p → 1 ≤ q → q ≤ B → (∀ z ∈ f, 2 ≤ z ∧ z ≤ B) → 1 ≤ (primesGo n q p f).1 ∧ (primesGo n q p f).1 ≤ B ∧ ∀ z ∈ (primesGo n q p f).2, 2 ≤ z ∧ z ≤ B
  | 0, q, p, f, B, hp, h1, hB, hf => ⟨h1, hB, hf⟩
  | n + 1, q, p, f, B, hp, h1, hB, hf => by
    unfold primesGo
    split
    · rename_i hpp
      have hs := p_le_sq hp hpp
      split
      · obtain ⟨a, b⟩ := innerDiv_pos hp q.toNat q h1
        refine primesGo_mem n _ _ _ B (by omega) a (by omega) fun z hz => ?_
        rcases List.mem_append.mp hz with h | h
        · exact hf z h
        · rw [List.mem_singleton.mp h]; exact ⟨hp, by omega⟩
      · exact primesGo_mem n _ _ _ B (by omega) h1 hB hf
    · exact ⟨h1, hB, hf⟩
theorem primesOf_mem {q z : Int} (h : 1 ≤ q) (hz : z ∈ primesOf q) : 2 ≤ z ∧ z ≤ q := by
  obtain ⟨a, b, c⟩ := primesGo_mem q.toNat q 2 [] q (by omega) h (Int.le_refl _) (by simp)
  unfold primesOf at hz
  split at hz
  · rename_i h1
    rcases List.mem_append.mp hz with h | h
    · exact c z h
    · rw [List.mem_singleton.mp h]; exact ⟨by omega, b⟩
  · exact c z hz
theorem primesOf_len (q : Int) (h : 1 ≤ q) (h2 : q < 32768) : (primesOf q).length ≤ 32768 := by
  have hlen := primesGo_len q.toNat q 2 []
  rw [List.length_nil] at hlen
  unfold primesOf
  split
  · rw [List.length_append, List.length_singleton]; omega
  · omega
theorem fr_den (x : Rat) : (fr x).den ≤ x.den := by
  unfold fr
  rw [Rat.den_mkRat]
  split
  · have := Rat.den_pos x; omega
  · exact Nat.div_le_self _ _
theorem loose_loop (E : PEn) (s : Rat) (hs : s.den < 32768) : ∀ (ps f : List Int) (s2 s3 s4 : Slot), (∀ p ∈ ps, 2 ≤ p ∧ p < 32768) → f.length + ps.length ≤ 100000 →
    (∀ s2 s3 s4, E.nx [.d (qD s), .ol ((f ++ ps.filter (loose s)).map PyData.int), s2, s3, s4]) →
    forD (gtName 2) (sSeq (sAsg (dCall 2 R_prime_part (aCons (sD (dVar 0)) (aCons (sD (dVar 2)) aNil))) (gtTup 2 (gtCons (gtName 3) (gtCons (gtName 4) gtNil))))
  (sIf (bT (dOp kGe (dOp kMul (dVar 3) (dVar 2)) (dOp kMul (dOp kSub (dVar 2) (dC (.int 1))) (dVar 4)))) (sAppend 1 (dVar 2)) sNext)) E (ps.map PyData.int) [.d (qD s), .ol (f.map PyData.int), s2, s3, s4]
  | [], f, s2, s3, s4, hp, hl, k => by
    have := k s2 s3 s4
    rw [List.filter_nil, List.append_nil] at this
    exact this
  | p :: ps, f, s2, s3, s4, hp, hl, k => by
    rw [List.map_cons]
    unfold forD
    walk_at "dl"
    obtain ⟨p1, p2⟩ := hp p List.mem_cons_self
    refine ⟨rfl, (s, p), rfl, ⟨hs, p1, p2⟩, fun d hd => ?_⟩
    subst hd
    walk_at "at"
    rw [List.length_cons] at hl
    have hps : ∀ p ∈ ps, 2 ≤ p ∧ p < 32768 := fun z hz => hp z (List.mem_cons_of_mem _ hz)
    have dt := Rat.den_pos (primePart s p)
    refine ⟨rfl, rfl, cm_r (by omega), trivial, cm_l (by omega), trivial, iteC (fun h => ?_) fun h => ?_⟩
    · have e : f.map PyData.int ++ [PyData.int p] = (f ++ [p]).map PyData.int := by rw [List.map_append]; rfl
      rw [e]
      refine ⟨by rw [List.length_map]; omega, ?_⟩
      refine loose_loop E s hs ps (f ++ [p]) _ _ _ hps (by rw [List.length_append, List.length_singleton]; omega) fun s2 s3 s4 => ?_
      have := k s2 s3 s4
      rw [List.filter_cons_of_pos (show loose s p = true from h)] at this
      rw [List.append_assoc]
      exact this
    · refine loose_loop E s hs ps f _ _ _ hps (by omega) fun s2 s3 s4 => ?_
      have := k s2 s3 s4
      rw [List.filter_cons_of_neg (by rw [show loose s p = false from h]; decide)] at this
      exact this
theorem p_loose_primes : ∀ xs Q, xs.length = 1 → R_loose_primes xs Q → T_loose_primes (endE Q) (xs ++ List.replicate (5 - xs.length) .un) := by
  intro xs Q hl h
  obtain ⟨s, rfl, h1, k⟩ := h
  show T_loose_primes (endE Q) [.d (qD s), .un, .un, .un, .un]
  unfold T_loose_primes
  walk_at "dl"
  have hp := Rat.den_pos s
  refine ⟨by decide, ?_⟩
  walk_at "at"
  refine ⟨rfl, (s.den : Int), rfl, ⟨by omega, by omega⟩, fun d hd => ?_⟩
  subst hd
  dsimp only
  have hm : ∀ p ∈ primesOf s.den, 2 ≤ p ∧ p < 32768 := fun p hp' => by
    have := primesOf_mem (q := s.den) (by omega) hp'
    omega
  refine loose_loop _ s h1 _ [] _ _ _ hm ?_ fun s2 s3 s4 => ?_
  · have := primesOf_len s.den (by omega) (by omega)
    rw [List.length_nil]; omega
  · rw [List.nil_append]
    exact k _ rfl
/-! comprehensions -/
theorem lc_fm {tg : GT} {tt : BT} {t : DT} {ρ : En} {α : Type} {enc : α → D} {p : α → Bool} {res : α → D} (Q : List D → Prop) : ∀ (l : List α) (acc : List D),
    (∀ a ∈ l, ∀ (X : D → Prop) (Y : Prop), (p a = true → X (res a)) → (p a = false → Y) → tg (enc a) ρ fun ρ1 => tt ρ1 fun b => if b = true then t ρ1 X else Y) →
    Q (acc ++ (l.filter p).map res) → lcD tg tt t ρ (l.map enc) acc Q
  | [], acc, _, q => by rw [List.filter_nil, List.map_nil, List.append_nil] at q; exact q
  | a :: l, acc, h, q => by
    rw [List.map_cons]
    unfold lcD
    have hl : ∀ a ∈ l, _ := fun a ha => h a (List.mem_cons_of_mem _ ha)
    refine h a List.mem_cons_self _ _ (fun e => ?_) fun e => ?_
    · refine lc_fm Q l _ hl ?_
      rw [List.filter_cons_of_pos e, List.map_cons] at q
      rw [List.append_assoc]
      exact q
    · refine lc_fm Q l _ hl ?_
      rw [List.filter_cons_of_neg (by rw [e]; decide)] at q
      exact q
theorem lc_map {tg : GT} {t : DT} {ρ : En} {α : Type} {enc : α → D} {res : α → D} (Q : List D → Prop) (l : List α) (acc : List D)
    (h : ∀ a ∈ l, ∀ X : D → Prop, X (res a) → tg (enc a) ρ fun ρ1 => t ρ1 X) (q : Q (acc ++ l.map res)) : lcD tg bYes t ρ (l.map enc) acc Q := by
  refine lc_fm (res := res) (p := fun _ => true) Q l acc (fun a ha X Y h1 _ => ?_) ?_
  · exact h a ha X (h1 rfl)
  · have e : l.filter (fun _ => true) = l := List.filter_eq_self.mpr fun _ _ => rfl
    rw [e]; exact q
/-! parts_round -/
theorem p_parts_round : ∀ xs Q, xs.length = 2 → R_parts_round xs Q → T_parts_round (endE Q) (xs ++ List.replicate (3 - xs.length) .un) := by
  intro xs Q hl h
  obtain ⟨⟨s, p⟩, rfl, ⟨h1, h2, h3⟩, k⟩ := h
  show T_parts_round (endE Q) [.d (qD s), .d (.int p), .un]
  dsimp only at h1 h2 h3 k
  unfold T_parts_round
  walk_at "dl"
  refine ⟨⟨by omega, by omega, by omega, by omega⟩, by unfold rngD; rw [List.length_map, List.length_range]; omega, ?_⟩
  unfold rngD
  refine lc_map (α := Nat) (enc := fun i => .int (1 + (i : Int))) (res := fun i => qD (fr (s + fr (Rat.divInt (1 + (i : Int)) p)))) _ _ [] (fun i hi X q => ?_) ?_
  · have hi' := List.mem_range.mp hi
    walk_at "dl"
    have hne : p ≠ 0 := by omega
    have hlt : p.natAbs < 1073741824 := by omega
    refine ⟨rfl, (_, _), rfl, ⟨hne, hlt⟩, fun d hd => ?_⟩
    subst hd
    dsimp only
    have dd : (Rat.divInt (1 + (i : Int)) p).den ≤ p.natAbs := by
      rw [Rat.den_divInt, if_neg hne]
      exact Nat.div_le_self _ _
    have d2 := fr_den (Rat.divInt (1 + (i : Int)) p)
    have d3 : s.den * (fr (Rat.divInt (1 + (i : Int)) p)).den < 1073741824 := by
      have : s.den * (fr (Rat.divInt (1 + (i : Int)) p)).den ≤ 32767 * 32767 := Nat.mul_le_mul (by omega) (by omega)
      omega
    refine ⟨rfl, (_, _), rfl, d3, fun d hd => ?_⟩
    subst hd
    exact q
  · refine k _ ?_
    unfold partsRound
    rw [List.nil_append, List.map_map]
    rfl
end TP
/-! S1: pairs of cosines, numbers as sums over parts: what the defs compute. -/
namespace TP
open PySem PySem.Spec L2 DL
open PyProof.Rows hiding St

/-! numbers -/
abbrev Nm := List (Rat × Rat)
def eD (e : Rat × Rat) : D := .tuple [qD e.1, qD e.2]
def tD (l : Nm) : D := .tuple (l.map eD)
def lD (l : Nm) : D := .list (l.map eD)
def insQ (x : Rat) : List Rat → List Rat
  | [] => [x]
  | y :: r => if SrtO.lexB (qP y) (qP x) = true then y :: insQ x r else x :: y :: r
def sortQ : List Rat → List Rat
  | [] => []
  | x :: r => insQ x (sortQ r)
def getQ (es : Nm) (k : Rat) : Option Rat := (es.find? fun p => decide (p.1 = k)).map (·.2)
def putQ (es : Nm) (k v : Rat) : Nm := if es.any (fun p => decide (p.1 = k)) = true then es.map (fun p => if decide (p.1 = k) = true then (p.1, v) else p) else es ++ [(k, v)]
def accQ (es : Nm) (e : Rat × Rat) : Nm := putQ es e.1 ((getQ es e.1).getD 0 + e.2)
def numDict (l : Nm) : Nm := l.foldl accQ []
def valQ (es : Nm) (k : Rat) : Rat := (getQ es k).getD 0
def numOf (l : Nm) : Nm := ((sortQ ((numDict l).map (·.1))).filter fun k => decide (valQ (numDict l) k ≠ 0)).map fun k => (k, valQ (numDict l) k)
def roundAll (p : Int) (here : Nm) : Nm := here.flatMap fun e => (partsRound e.1 p).map fun x => (x, -e.2)
def formGo (ps : List Int) (here : Nm) : Nm := ps.foldl (fun h p => roundAll p h) here
def formOne (e : Rat × Rat) : Nm := formGo (loosePrimes e.1) [e]
def numForm (l : Nm) : Nm := numOf (l.flatMap formOne)
def toldQ (l : Nm) : D := match numForm l with
  | [] => qD 0
  | [(k, x)] => if k = 0 then qD x else .none
  | _ => .none
def cosNum (s : Rat) : Nm := numOf [(s, mkRat 1 2), (fr (-s), mkRat 1 2)]
def often (c : Rat) (l : Nm) : Nm := numOf (l.map fun e => (e.1, c * e.2))
def formLen (s : Rat) : Nat := (loosePrimes s).foldl (fun n p => n * (p - 1).toNat) 1
def bothNum (a b u v : Rat) : Nm := numOf (often a (cosNum u) ++ often b (cosNum v))
def pairNum (a b c u v : Rat) : Nm := numForm (numOf (bothNum a b u v ++ numOf [(0, -c)]))
/-! kinds -/
def cosTab (s : Rat) : Option Rat :=
  if s = 0 then some 1 else if s = mkRat 1 2 then some (-1) else if s = mkRat 1 3 then some (mkRat (-1) 2) else if s = mkRat 2 3 then some (mkRat (-1) 2) else if s = mkRat 1 4 then some 0 else if s = mkRat 3 4 then some 0
  else if s = mkRat 1 6 then some (mkRat 1 2) else if s = mkRat 5 6 then some (mkRat 1 2) else none
def cosD (s : Rat) : D := match cosTab s with
  | some x => qD x
  | none => .none
def lineB (a b u v : Rat) : Bool := if b = -a then decide (v = u) || decide (v = fr (-u)) else decide (b = a) && (decide (fr (v + mkRat 1 2) = u) || decide (fr (v + mkRat 1 2) = fr (-u)))
def folded (s : Rat) : Rat := if 2 * s.num ≤ (s.den : Int) then s else fr (-s)
def bothK (x y : Rat) : List (Int × Int) := if x = y then [qP x] else sortP [qP x, qP y]
def fiveB (a b c u v : Rat) : Bool := if ¬ (b = a ∨ b = -a) then false else
  if c = mkRat 1 2 * a then decide (bothK (folded u) (folded (if b = a then v else fr (v + mkRat 1 2))) = [(1, 10), (3, 10)])
  else decide (c = mkRat (-1) 2 * a) && decide (bothK (folded u) (folded (if b = a then v else fr (v + mkRat 1 2))) = [(1, 5), (2, 5)])
inductive Kd' where
  | fractions
  | line
  | five
  deriving DecidableEq
def fracB (a b c u v : Rat) : Bool := match cosTab u, cosTab v with
  | some x, some y => decide (a * x + b * y = c)
  | _, _ => false
def kindOf (a b c u v : Rat) : Option Kd' := if fracB a b c u v = true then some .fractions
  else if (decide (c = 0) && lineB a b u v) = true then some .line else if fiveB a b c u v = true then some .five else none
def kStr : Kd' → Str
  | .fractions => "fractions"
  | .line => "line"
  | .five => "five"
def kindD : Option Kd' → D
  | some k => .str (kStr k)
  | none => .none
def paperD (a b c u v : Rat) : D := match kindOf a b c u v with
  | some k => .tuple [.str "fits", .str (kStr k)]
  | none => .tuple [.str "off", tD (pairNum a b c u v)]
/-! promises -/
def smQ (x : Rat) : Prop := x.den ≤ 100 ∧ x.num.natAbs < 1073741824
def R_pair_sum : Pm := RI (I := Rat × Rat × Rat × Rat) (fun i => [.d (qD i.1), .d (qD i.2.1), .b (qD i.2.2.1), .b (qD i.2.2.2)]) (fun i => smQ i.1 ∧ smQ i.2.1 ∧ smQ i.2.2.1 ∧ smQ i.2.2.2) (fun i d => d = qD (i.1 * i.2.2.1 + i.2.1 * i.2.2.2))
theorem mono_pair_sum : MonoP R_pair_sum := ri_mono
def R_is_line_pair : Pm := RI (I := Rat × Rat × Rat × Rat) (fun i => [.d (qD i.1), .d (qD i.2.1), .d (qD i.2.2.1), .d (qD i.2.2.2)]) (fun i => i.2.2.1.den < 10000 ∧ i.2.2.2.den < 10000) (fun i d => d = .bool (lineB i.1 i.2.1 i.2.2.1 i.2.2.2))
theorem mono_is_line_pair : MonoP R_is_line_pair := ri_mono
def R_folded_part : Pm := RI (I := Rat) (fun i => [.d (qD i)]) (fun i => i.den < 1073741824) (fun i d => d = qD (folded i))
theorem mono_folded_part : MonoP R_folded_part := ri_mono
def R_is_five_pair : Pm := RI (I := Rat × Rat × Rat × Rat × Rat) (fun i => [.d (qD i.1), .d (qD i.2.1), .d (qD i.2.2.1), .d (qD i.2.2.2.1), .d (qD i.2.2.2.2)]) (fun i => smQ i.1 ∧ i.2.2.2.1.den < 10000 ∧ i.2.2.2.2.den < 10000) (fun i d => d = .bool (fiveB i.1 i.2.1 i.2.2.1 i.2.2.2.1 i.2.2.2.2))
theorem mono_is_five_pair : MonoP R_is_five_pair := ri_mono
def R_cosine_fraction : Pm := RI (I := Rat) (fun i => [.d (qD i)]) (fun _ => True) (fun i d => d = cosD i)
theorem mono_cosine_fraction : MonoP R_cosine_fraction := ri_mono
def R_pair_kind : Pm := RI (I := Rat × Rat × Rat × Rat × Rat) (fun i => [.d (qD i.1), .d (qD i.2.1), .d (qD i.2.2.1), .d (qD i.2.2.2.1), .d (qD i.2.2.2.2)]) (fun i => smQ i.1 ∧ smQ i.2.1 ∧ i.2.2.2.1.den < 10000 ∧ i.2.2.2.2.den < 10000)
  (fun i d => d = kindD (kindOf i.1 i.2.1 i.2.2.1 i.2.2.2.1 i.2.2.2.2))
theorem mono_pair_kind : MonoP R_pair_kind := ri_mono
def dOk (l : Nm) : Prop := l.length ≤ 1000000 ∧ ∃ B : Nat, 0 < B ∧ B < 32768 ∧ ∀ e ∈ l, e.2.den ∣ B
def R_number_of : Pm := RI (I := Bool × Nm) (fun i => [.d (if i.1 = true then tD i.2 else lD i.2)]) (fun i => dOk i.2) (fun i d => d = tD (numOf i.2))
theorem mono_number_of : MonoP R_number_of := ri_mono
def R_number_sum : Pm := RI (I := Nm × Nm) (fun i => [.d (tD i.1), .d (tD i.2)]) (fun i => dOk (i.1 ++ i.2)) (fun i d => d = tD (numOf (i.1 ++ i.2)))
theorem mono_number_sum : MonoP R_number_sum := ri_mono
def R_number_often : Pm := RI (I := Rat × Nm) (fun i => [.d (qD i.1), .d (tD i.2)]) (fun i => smQ i.1 ∧ (∀ e ∈ i.2, e.2.den < 10000) ∧ dOk (i.2.map fun e => (e.1, i.1 * e.2))) (fun i d => d = tD (often i.1 i.2))
theorem mono_number_often : MonoP R_number_often := ri_mono
def fOk (l : Nm) : Prop := l.length ≤ 1000 ∧ (∃ B : Nat, 0 < B ∧ B < 32768 ∧ ∀ e ∈ l, e.2.den ∣ B) ∧ ∀ e ∈ l, e.1.den < 32768 ∧ formLen e.1 ≤ 1000
def R_number_form : Pm := RI (I := Nm) (fun i => [.d (tD i)]) fOk (fun i d => d = tD (numForm i))
theorem mono_number_form : MonoP R_number_form := ri_mono
def R_fraction_told : Pm := RI (I := Nm) (fun i => [.d (tD i)]) fOk (fun i d => d = toldQ i)
theorem mono_fraction_told : MonoP R_fraction_told := ri_mono
def R_cos_number : Pm := RI (I := Rat) (fun i => [.d (qD i)]) (fun i => i.den < 1073741824) (fun i d => d = tD (cosNum i))
theorem mono_cos_number : MonoP R_cos_number := ri_mono
end TP
/-! T1: the readings of cosinepairs and rootnumbers (printed by emit.py). -/
namespace TP
open PySem PySem.Spec L2 DL
open PyProof.Rows hiding St
def T_pair_sum : ST :=
  (sRet (dCall 2 R_fraction_sum (aCons (sB (dCall 2 R_fraction_times (aCons (sB (dVar 0)) (aCons (sB (rVar 2)) aNil)))) (aCons (sB (dCall 2 R_fraction_times (aCons (sB (dVar 1)) (aCons (sB (rVar 3)) aNil)))) aNil))))
def T_is_line_pair : ST :=
  (sSeq (sIf (bT (dOp kEq (dVar 1) (dCall 1 R_fraction_turned (aCons (sD (dVar 0)) aNil)))) (sRet (dOp kIn (dVar 3) (dTup (aCons (dVar 2) (aCons (dCall 1 R_part_turned (aCons (sD (dVar 2)) aNil)) aNil))))) sNext)
  (sRet (dAnd (dOp kEq (dVar 1) (dVar 0)) (dOp kIn (dCall 2 R_part_sum (aCons (sD (dVar 3)) (aCons (sD (dTup (aCons (dC (.int 1)) (aCons (dC (.int 2)) aNil)))) aNil))) (dTup (aCons (dVar 2) (aCons (dCall 1 R_part_turned (aCons (sD (dVar 2)) aNil)) aNil)))))))
def T_folded_part : ST :=
  (sRet (dIf (bT (dOp kLe (dOp kMul (dC (.int 2)) (dOp kIx (dVar 0) (dC (.int 0)))) (dOp kIx (dVar 0) (dC (.int 1))))) (dVar 0) (dCall 1 R_part_turned (aCons (sD (dVar 0)) aNil))))
def T_is_five_pair : ST :=
  (sSeq (sIf (bT (dOp kNotIn (dVar 1) (dTup (aCons (dVar 0) (aCons (dCall 1 R_fraction_turned (aCons (sD (dVar 0)) aNil)) aNil))))) (sRet (dC (.bool false))) sNext)
  (sSeq (sDispT 5 (psCons (dCall 1 R_folded_part (aCons (sD (dVar 3)) aNil)) (dC (.bool true)) (psCons (dCall 1 R_folded_part (aCons (sD (dIf (bT (dOp kEq (dVar 1) (dVar 0))) (dVar 4) (dCall 2 R_part_sum (aCons (sD (dVar 4)) (aCons (sD (dTup (aCons (dC (.int 1)) (aCons (dC (.int 2)) aNil)))) aNil))))) aNil)) (dC (.bool true)) psNil)))
  (sSeq (sIf (bT (dOp kEq (dVar 2) (dCall 2 R_fraction_times (aCons (sB (dTup (aCons (dC (.int 1)) (aCons (dC (.int 2)) aNil)))) (aCons (sB (dVar 0)) aNil))))) (sRet (dOp kEq (dSortD 5) (dLst (aCons (dTup (aCons (dC (.int 1)) (aCons (dC (.int 10)) aNil))) (aCons (dTup (aCons (dC (.int 3)) (aCons (dC (.int 10)) aNil))) aNil))))) sNext)
  (sRet (dAnd (dOp kEq (dVar 2) (dCall 2 R_fraction_times (aCons (sB (dTup (aCons (dUn kNeg (dC (.int 1))) (aCons (dC (.int 2)) aNil)))) (aCons (sB (dVar 0)) aNil)))) (dOp kEq (dSortD 5) (dLst (aCons (dTup (aCons (dC (.int 1)) (aCons (dC (.int 5)) aNil))) (aCons (dTup (aCons (dC (.int 2)) (aCons (dC (.int 5)) aNil))) aNil)))))))))
def T_pair_kind : ST :=
  (sSeq (sParB 5 6 (dCall 1 R_cosine_fraction (aCons (sD (dVar 3)) aNil)) (dCall 1 R_cosine_fraction (aCons (sD (dVar 4)) aNil)))
  (sSeq (sIf (bAnd (bT (dOp kNotN (rVar 5) (dC .none))) (bAnd (bT (dOp kNotN (rVar 6) (dC .none))) (bT (dOp kEq (dCall 4 R_pair_sum (aCons (sD (dVar 0)) (aCons (sD (dVar 1)) (aCons (sB (rVar 5)) (aCons (sB (rVar 6)) aNil))))) (dVar 2))))) (sRet (dC (.str "fractions"))) sNext)
  (sSeq (sIf (bAnd (bT (dOp kEq (dVar 2) (dTup (aCons (dC (.int 0)) (aCons (dC (.int 1)) aNil))))) (bT (dCall 4 R_is_line_pair (aCons (sD (dVar 0)) (aCons (sD (dVar 1)) (aCons (sD (dVar 3)) (aCons (sD (dVar 4)) aNil))))))) (sRet (dC (.str "line"))) sNext)
  (sRet (dIf (bT (dCall 5 R_is_five_pair (aCons (sD (dVar 0)) (aCons (sD (dVar 1)) (aCons (sD (dVar 2)) (aCons (sD (dVar 3)) (aCons (sD (dVar 4)) aNil))))))) (dC (.str "five")) (dC .none))))))
def T_number_of : ST :=
  (sSeq (sNewD true 1)
  (sSeq (sFor (ieOf (iSeq (dVar 0))) (gtTup 2 (gtCons (gtName 2) (gtCons (gtName 3) gtNil)))
  (sPut 1 (dCall 2 R_fraction_sum (aCons (sB (dGet2 1 (dVar 2) (dTup (aCons (dC (.int 0)) (aCons (dC (.int 1)) aNil))))) (aCons (sB (dVar 3)) aNil))) (dVar 2)))
  (sRet (dUn kTupO (dLc (iSeq (dSortD 1)) (gtName 2) (bT (dOp kNe (dOp kIx (dGet 1 (dVar 2)) (dC (.int 0))) (dC (.int 0)))) (dTup (aCons (dVar 2) (aCons (dGet 1 (dVar 2)) aNil))) [2])))))
def T_number_sum : ST :=
  (sRet (dCall 1 R_number_of (aCons (sD (dLst (aStar (dVar 0) (aStar (dVar 1) aNil)))) aNil)))
def T_number_often : ST :=
  (sRet (dCall 1 R_number_of (aCons (sD (dLc (iSeq (dVar 1)) (gtTup 2 (gtCons (gtName 2) (gtCons (gtName 3) gtNil))) bYes (dTup (aCons (dVar 2) (aCons (dCall 2 R_fraction_times (aCons (sB (dVar 0)) (aCons (sB (dVar 3)) aNil))) aNil))) [2, 3])) aNil)))
def T_number_form : ST :=
  (sSeq (sAsgO 1 (dLst aNil))
  (sSeq (sFor (ieOf (iSeq (dVar 0))) (gtTup 2 (gtCons (gtName 2) (gtCons (gtName 3) gtNil)))
  (sSeq (sAsg (dLst (aCons (dTup (aCons (dVar 2) (aCons (dVar 3) aNil))) aNil)) (gtName 4))
  (sSeq (sFor (ieOf (iSeq (dCall 1 R_loose_primes (aCons (sD (dVar 2)) aNil)))) (gtName 5)
  (sSeq (sAsgO 6 (dLst aNil))
  (sSeq (sFor (ieOf (iSeq (dVar 4))) (gtTup 2 (gtCons (gtName 7) (gtCons (gtName 8) gtNil)))
  (sExtend 6 (dLc (iSeq (dCall 2 R_parts_round (aCons (sD (dVar 7)) (aCons (sD (dVar 5)) aNil)))) (gtName 9) bYes (dTup (aCons (dVar 9) (aCons (dCall 1 R_fraction_turned (aCons (sD (dVar 8)) aNil)) aNil))) [9])))
  (sAsg (dUn kLst (wVar 6)) (gtName 4)))))
  (sExtend 1 (dVar 4)))))
  (sFz 1 (sRet (dCall 1 R_number_of (aCons (sD (dVar 1)) aNil))))))
def T_fraction_told : ST :=
  (sSeq (sAsg (dCall 1 R_number_form (aCons (sD (dVar 0)) aNil)) (gtName 1))
  (sSeq (sIf (bT (dOp kEq (dVar 1) (dTup aNil))) (sRet (dTup (aCons (dC (.int 0)) (aCons (dC (.int 1)) aNil)))) sNext)
  (sRet (dIf (bAnd (bT (dOp kEq (dCB kLen (aCons (dVar 1) aNil)) (dC (.int 1)))) (bT (dOp kEq (dOp kIx (dOp kIx (dVar 1) (dC (.int 0))) (dC (.int 0))) (dTup (aCons (dC (.int 0)) (aCons (dC (.int 1)) aNil)))))) (dOp kIx (dOp kIx (dVar 1) (dC (.int 0))) (dC (.int 1))) (dC .none)))))
def T_cos_number : ST :=
  (sRet (dCall 1 R_number_of (aCons (sD (dLst (aCons (dTup (aCons (dVar 0) (aCons (dTup (aCons (dC (.int 1)) (aCons (dC (.int 2)) aNil))) aNil))) (aCons (dTup (aCons (dCall 1 R_part_turned (aCons (sD (dVar 0)) aNil)) (aCons (dTup (aCons (dC (.int 1)) (aCons (dC (.int 2)) aNil))) aNil))) aNil)))) aNil)))
end TP
/-! P1: the readings of cosinepairs and rootnumbers keep their promises. -/
namespace TP
open PySem PySem.Spec L2 DL
open PyProof.Rows hiding St
local macro_rules | `(tactic| walk_at "dl") => `(tactic| dsimp only [sSeq, sPar, sPar3, sParL, sParB, sParD, sNext, sRet, sRetN, sIf, sAsg, sAsgO, ownD, sFz, fz, sAppend, sExtend, sPut, sNewD, sDispT, psNil, psCons, endE,
  aCons, aNil, aStar, dVar, wVar, rVar, dC, dOp, dUn, dIf, dAnd, dOr, dNot, dTup, dLst, dCB, dCall, dLc, dSl, dRepr, dIsi, dGet, dGet2, dSortD, pNo, pSo, sD, sB, sVar, iSeq, iSeqC, iRg1, iRg2, ieOf, ieP,
  bT, bTru, bAnd, bOr, bNot, bYes, gtName, gtTup, gtCons, gtNil, kTru, kI, kI1, kI2, kInt, kLen, kSub, kMul, kDiv, kMod, kLt, kLe, kGt, kGe, kEq, kNe, kAdd, kCat, kIn, kNotIn, kIsN, kNotN, kIx, kIxS, kNeg, kTupO, kLst, kRev, kRevL, kSl, kSlL, kMinL, isNone,
  wipeE, List.getElem?_cons_zero, List.getElem?_cons_succ, List.set_cons_zero, List.set_cons_succ, List.length_cons, List.length_nil, List.cons_append, List.nil_append, List.replicate_succ, List.replicate_zero, Nat.sub_self, List.append_nil])
local macro_rules | `(tactic| walk_at "at") => `(tactic| dsimp only [qD, at2_0, at2_1])
theorem eqvQ (x y : Rat) : PyData.eqv (qD x) (qD y) = decide (x = y) := by
  have e := eqv_kT [.inl x.num, .inl (x.den : Int)] [.inl y.num, .inl (y.den : Int)]
  rw [show PyData.eqv (qD x) (qD y) = _ from e]
  by_cases h : x = y
  · subst h; rw [decide_eq_true rfl, decide_eq_true rfl]
  · rw [decide_eq_false h]
    refine decide_eq_false fun z => h ?_
    simp only [List.cons.injEq, Sum.inl.injEq, and_true] at z
    exact Rat.ext z.1 (by omega)
theorem shQ (x : Rat) : SeqAt.shaped (qD x) = true := rfl
theorem anyQ (l : List Rat) (x : Rat) : ((l.map qD).any fun z => PyData.eqv z (qD x)) = decide (x ∈ l) := by
  induction l with
  | nil => rfl
  | cons a l ih =>
    rw [List.map_cons, List.any_cons, eqvQ, ih]
    by_cases h : a = x
    · subst h; simp
    · have : ¬ x = a := fun z => h z.symm
      simp [h, this]
theorem den_mul_le (x y : Rat) : (x * y).den ≤ x.den * y.den := by
  rw [Rat.mul_def', Rat.den_mkRat]
  split
  · have := Rat.den_pos x; have := Rat.den_pos y; have := Nat.mul_pos (Rat.den_pos x) (Rat.den_pos y); omega
  · exact Nat.div_le_self _ _
theorem p_pair_sum : ∀ xs Q, xs.length = 4 → R_pair_sum xs Q → T_pair_sum (endE Q) (xs ++ List.replicate (4 - xs.length) .un) := by
  intro xs Q hl h
  obtain ⟨⟨a, b, x, y⟩, rfl, ⟨h1, h2, h3, h4⟩, k⟩ := h
  show T_pair_sum (endE Q) [.d (qD a), .d (qD b), .b (qD x), .b (qD y)]
  dsimp only at h1 h2 h3 h4 k
  unfold T_pair_sum
  walk_at "dl"
  have m1 : a.den * x.den ≤ 100 * 100 := Nat.mul_le_mul h1.1 h3.1
  have m2 : b.den * y.den ≤ 100 * 100 := Nat.mul_le_mul h2.1 h4.1
  refine ⟨rfl, (a, x), rfl, ⟨by dsimp only; omega, h1.2⟩, fun d hd => ?_⟩
  subst hd
  refine ⟨rfl, (b, y), rfl, ⟨by dsimp only; omega, h2.2⟩, fun d hd => ?_⟩
  subst hd
  refine ⟨rfl, (a * x, b * y), rfl, ?_, fun d hd => ?_⟩
  · have n1 := den_mul_le a x
    have n2 := den_mul_le b y
    have : (a * x).den * (b * y).den ≤ 10000 * 10000 := Nat.mul_le_mul (by omega) (by omega)
    dsimp only
    omega
  · subst hd
    exact k _ rfl
theorem half_D : (PyData.tuple [PyData.int 1, PyData.int 2]) = qD (mkRat 1 2) := rfl
theorem p_is_line_pair : ∀ xs Q, xs.length = 4 → R_is_line_pair xs Q → T_is_line_pair (endE Q) (xs ++ List.replicate (4 - xs.length) .un) := by
  intro xs Q hl h
  obtain ⟨⟨a, b, u, v⟩, rfl, ⟨h1, h2⟩, k⟩ := h
  show T_is_line_pair (endE Q) [.d (qD a), .d (qD b), .d (qD u), .d (qD v)]
  dsimp only at h1 h2 k
  unfold T_is_line_pair
  walk_at "dl"
  have inU : ∀ x : Rat, ([qD u, qD (fr (-u))].any fun z => PyData.eqv z (qD x)) = (decide (x = u) || decide (x = fr (-u))) := fun x => by
    have := anyQ [u, fr (-u)] x
    rw [show [qD u, qD (fr (-u))] = [u, fr (-u)].map qD from rfl, this]
    simp
  refine ⟨rfl, a, rfl, trivial, fun d hd => ?_⟩
  subst hd
  refine ⟨⟨rfl, rfl⟩, ?_⟩
  by_cases hb : b = -a
  · refine iteTr (by rw [eqvQ]; exact decide_eq_true hb) ⟨rfl, u, rfl, by dsimp only; omega, fun d hd => ?_⟩
    subst hd
    refine ⟨by decide, ⟨rfl, rfl⟩, ?_⟩
    rw [inU]
    refine k _ ?_
    unfold lineB
    rw [if_pos hb]
  · refine iteFa (by rw [eqvQ]; exact decide_eq_false hb) ⟨⟨rfl, rfl⟩, ?_⟩
    rw [eqvQ]
    by_cases hba : b = a
    · refine iteTr (decide_eq_true hba) ⟨by decide, rfl, (v, mkRat 1 2), rfl, ?_, fun d hd => ?_⟩
      · have : (mkRat 1 2).den = 2 := rfl
        dsimp only
        rw [this]; omega
      · subst hd
        refine ⟨rfl, u, rfl, by dsimp only; omega, fun d hd => ?_⟩
        subst hd
        refine ⟨by decide, ⟨rfl, rfl⟩, ?_⟩
        dsimp only
        rw [inU]
        refine k _ ?_
        unfold lineB
        rw [if_neg hb, decide_eq_true hba, Bool.true_and]
    · refine iteFa (decide_eq_false hba) (k _ ?_)
      unfold lineB
      rw [if_neg hb, decide_eq_false hba, Bool.false_and]
theorem p_folded_part : ∀ xs Q, xs.length = 1 → R_folded_part xs Q → T_folded_part (endE Q) (xs ++ List.replicate (1 - xs.length) .un) := by
  intro xs Q hl h
  obtain ⟨u, rfl, h1, k⟩ := h
  show T_folded_part (endE Q) [.d (qD u)]
  unfold T_folded_part
  walk_at "dl"
  walk_at "at"
  refine ⟨cm_l (by omega), trivial, ?_⟩
  by_cases h : 2 * u.num ≤ (u.den : Int)
  · refine iteTr (decide_eq_true h) (k _ ?_)
    dsimp only
    unfold folded
    rw [if_pos h]; rfl
  · refine iteFa (decide_eq_false h) ⟨rfl, u, rfl, h1, fun d hd => k d ?_⟩
    subst hd
    unfold folded
    rw [if_neg h]

/-! dicts whose keys are fractions -/
def eE (es : Nm) : List (D × D) := es.map fun e => (qD e.1, qD e.2)
theorem okQ (x : Rat) : keyOk true (qD x) = true := rfl
theorem getE (es : Nm) (k : Rat) : getD' (eE es) (qD k) = (getQ es k).map qD := by
  unfold getD' getQ eE
  induction es with
  | nil => rfl
  | cons a l ih =>
    rw [List.map_cons, List.find?_cons, List.find?_cons, eqvQ]
    cases h : decide (a.1 = k) with
    | true => rfl
    | false => exact ih
theorem putE (es : Nm) (k v : Rat) : putD' (eE es) (qD k) (qD v) = eE (putQ es k v) := by
  have e1 : ((eE es).any fun p => PyData.eqv p.1 (qD k)) = es.any fun p => decide (p.1 = k) := by
    unfold eE
    rw [List.any_map]
    congr 1
    funext p
    exact eqvQ p.1 k
  unfold putD' putQ
  rw [e1]
  by_cases h : (es.any fun p => decide (p.1 = k)) = true
  · rw [if_pos h, if_pos h]
    unfold eE
    rw [List.map_map, List.map_map]
    apply List.map_congr_left
    intro p _
    show (if PyData.eqv (qD p.1) (qD k) = true then (qD p.1, qD v) else (qD p.1, qD p.2)) = ((qD (if decide (p.1 = k) = true then (p.1, v) else p).1, qD (if decide (p.1 = k) = true then (p.1, v) else p).2) : D × D)
    rw [eqvQ]
    by_cases hk : p.1 = k
    · rw [if_pos (decide_eq_true hk), if_pos (decide_eq_true hk)]
    · rw [if_neg (by rw [decide_eq_false hk]; decide), if_neg (by rw [decide_eq_false hk]; decide)]
  · rw [if_neg h, if_neg h]
    unfold eE
    rw [List.map_append]; rfl
theorem toPsE (es : Nm) : toPs ((eE es).map (·.1)) = some (es.map fun e => qP e.1) := by
  have : (eE es).map (·.1) = (es.map fun e => qP e.1).map DL.pairD := by
    unfold eE
    rw [List.map_map, List.map_map]; rfl
  rw [this, toPs_map]
theorem insPQ (x : Rat) (l : List Rat) : insP (qP x) (l.map qP) = (insQ x l).map qP := by
  induction l with
  | nil => rfl
  | cons y r ih =>
    rw [List.map_cons]
    unfold insP insQ
    split
    · rename_i h; rw [List.map_cons, ih]
    · rfl
theorem sortPQ (l : List Rat) : sortP (l.map qP) = (sortQ l).map qP := by
  induction l with
  | nil => rfl
  | cons x r ih =>
    rw [List.map_cons]
    unfold sortP sortQ
    rw [ih, insPQ]
theorem eqvPs (l m : List (Int × Int)) : PyData.eqv (.list (l.map DL.pairD)) (.list (m.map DL.pairD)) = decide (l = m) := by
  have key : ∀ l m : List (Int × Int), PyData.eqvAll (l.map DL.pairD) (m.map DL.pairD) = decide (l = m) := by
    intro l
    induction l with
    | nil => intro m; cases m <;> simp [PyData.eqvAll]
    | cons a l ih =>
      intro m
      cases m with
      | nil => simp [PyData.eqvAll]
      | cons b m =>
        rw [List.map_cons, List.map_cons, PyData.eqvAll, ih]
        have e := eqv_kT [.inl a.1, .inl a.2] [.inl b.1, .inl b.2]
        rw [show PyData.eqv (DL.pairD a) (DL.pairD b) = _ from e]
        by_cases h : a = b
        · subst h; simp
        · have : ¬ (a.1 = b.1 ∧ a.2 = b.2) := fun z => h (Prod.ext z.1 z.2)
          have h2 : decide ((Sum.inl a.1 :: Sum.inl a.2 :: [] : List Key) = [Sum.inl b.1, Sum.inl b.2]) = false := decide_eq_false fun z => by
            simp only [List.cons.injEq, Sum.inl.injEq, and_true] at z
            exact this z
          rw [h2]
          simp [h]
  simp only [PyData.eqv]; exact key l m
theorem shPs2 (l : List (Int × Int)) (h : l.length ≤ 2) : SeqAt.shaped (.list (l.map DL.pairD)) = true := by
  match l, h with
  | [], _ => rfl
  | [_], _ => rfl
  | [_, _], _ => rfl
theorem keysB (x y : Rat) (t : D) : (putAllD [] [(qD x, t), (qD y, t)]).map (·.1) = if x = y then [qD x] else [qD x, qD y] := by
  show (putD' [(qD x, t)] (qD y) t).map (·.1) = _
  unfold putD'
  simp only [List.any_cons, List.any_nil, eqvQ, Bool.or_false]
  by_cases h : x = y
  · subst h
    rw [decide_eq_true rfl, if_pos rfl, if_pos rfl]
    simp only [List.map_cons, List.map_nil]
    split <;> rfl
  · rw [decide_eq_false h, if_neg (by decide), if_neg h]; rfl
theorem sortB (x y : Rat) (t : D) : toPs ((putAllD [] [(qD x, t), (qD y, t)]).map (·.1)) = some (if x = y then [qP x] else [qP x, qP y]) := by
  rw [keysB]
  split <;> rfl
theorem bothK_eq (x y : Rat) : sortP (if x = y then [qP x] else [qP x, qP y]) = bothK x y := by
  unfold bothK
  split <;> rfl
theorem bothK_len (x y : Rat) : (bothK x y).length ≤ 2 := by
  rw [← bothK_eq, (sortP_perm _).length_eq]
  split <;> simp
theorem p_is_five_pair : ∀ xs Q, xs.length = 5 → R_is_five_pair xs Q → T_is_five_pair (endE Q) (xs ++ List.replicate (6 - xs.length) .un) := by
  intro xs Q hl h
  obtain ⟨⟨a, b, c, u, v⟩, rfl, ⟨h1, h2, h3⟩, k⟩ := h
  show T_is_five_pair (endE Q) [.d (qD a), .d (qD b), .d (qD c), .d (qD u), .d (qD v), .un]
  dsimp only at h1 h2 h3 k
  unfold T_is_five_pair
  walk_at "dl"
  refine ⟨rfl, a, rfl, trivial, fun d hd => ?_⟩
  subst hd
  refine ⟨by decide, ⟨rfl, rfl⟩, ?_⟩
  have e1 := anyQ [a, -a] b
  rw [show [a, -a].map qD = [qD a, qD (-a)] from rfl] at e1
  by_cases hb : b = a ∨ b = -a
  · refine iteFa (by rw [e1]; simp [hb]) ⟨rfl, u, rfl, by dsimp only; omega, fun d hd => ?_⟩
    subst hd
    -- the second part
    have second : ∀ P : D → Prop, P (qD (folded (if b = a then v else fr (v + mkRat 1 2)))) → (SeqAt.shaped (qD b) = true ∧ SeqAt.shaped (qD a) = true) ∧ (if (PyData.eqv (qD b) (qD a)) = true then 0 + 1 = 1 ∧ R_folded_part [.d (qD v)] P
        else 0 + 1 + 1 ≤ 16777216 ∧ 0 + 1 + 1 = 2 ∧ R_part_sum [.d (qD v), .d (PyData.tuple [PyData.int 1, PyData.int 2])] fun d => 0 + 1 = 1 ∧ R_folded_part [.d d] P) := fun P hP => by
      refine ⟨⟨rfl, rfl⟩, ?_⟩
      by_cases hba : b = a
      · rw [if_pos hba] at hP
        refine iteTr (by rw [eqvQ]; exact decide_eq_true hba) ⟨rfl, v, rfl, by dsimp only; omega, fun d hd => by subst hd; exact hP⟩
      · rw [if_neg hba] at hP
        refine iteFa (by rw [eqvQ]; exact decide_eq_false hba) ⟨by decide, rfl, (v, mkRat 1 2), rfl, ?_, fun d hd => ?_⟩
        · have : (mkRat 1 2).den = 2 := rfl
          dsimp only
          rw [this]; omega
        · subst hd
          have hd2 := fr_den (v + mkRat 1 2)
          have hd3 : (v + mkRat 1 2).den ≤ v.den * 2 := by
            rw [Rat.add_def', Rat.den_mkRat]
            have : (mkRat 1 2).den = 2 := rfl
            rw [this]
            split
            · have := Rat.den_pos v; omega
            · exact Nat.div_le_self _ _
          exact ⟨rfl, fr (v + mkRat 1 2), rfl, by dsimp only; omega, fun d hd => by subst hd; exact hP⟩
    refine second _ ?_
    refine ⟨⟨rfl, by decide⟩, ?_⟩
    have ha2 : (mkRat 1 2).den * a.den < 1073741824 := by
      rw [show (mkRat 1 2).den = 2 from rfl]
      have := h1.1
      omega
    have ha3 : (mkRat (-1) 2).den * a.den < 1073741824 := by
      rw [show (mkRat (-1) 2).den = 2 from rfl]
      have := h1.1
      omega
    refine ⟨by decide, rfl, (mkRat 1 2, a), rfl, ⟨ha2, by show (mkRat 1 2).num.natAbs < 1073741824; decide⟩, fun d hd => ?_⟩
    subst hd
    refine ⟨⟨rfl, rfl⟩, ?_⟩
    rw [sortB]
    dsimp only
    rw [bothK_eq]
    have sh := shPs2 _ (bothK_len (folded u) (folded (if b = a then v else fr (v + mkRat 1 2))))
    by_cases hc : c = mkRat 1 2 * a
    · refine iteTr (by rw [eqvQ]; exact decide_eq_true hc) ⟨by decide, by decide, by decide, ⟨sh, rfl⟩, k _ ?_⟩
      rw [show (PyData.list [PyData.tuple [PyData.int 1, PyData.int 10], PyData.tuple [PyData.int 3, PyData.int 10]]) = .list ([((1 : Int), (10 : Int)), (3, 10)].map DL.pairD) from rfl, eqvPs]
      unfold fiveB
      rw [if_neg (show ¬¬(b = a ∨ b = -a) from fun z => z hb), if_pos hc]
    · refine iteFa (by rw [eqvQ]; exact decide_eq_false hc) ⟨by decide, rfl, (mkRat (-1) 2, a), rfl, ⟨ha3, by show (mkRat (-1) 2).num.natAbs < 1073741824; decide⟩, fun d hd => ?_⟩
      subst hd
      refine ⟨⟨rfl, rfl⟩, ?_⟩
      dsimp only
      rw [eqvQ]
      by_cases hc2 : c = mkRat (-1) 2 * a
      · refine iteTr (decide_eq_true hc2) ⟨by decide, by decide, by decide, ⟨sh, rfl⟩, k _ ?_⟩
        rw [show (PyData.list [PyData.tuple [PyData.int 1, PyData.int 5], PyData.tuple [PyData.int 2, PyData.int 5]]) = .list ([((1 : Int), (5 : Int)), (2, 5)].map DL.pairD) from rfl, eqvPs]
        unfold fiveB
        rw [if_neg (show ¬¬(b = a ∨ b = -a) from fun z => z hb), if_neg hc, decide_eq_true hc2, Bool.true_and]
      · refine iteFa (decide_eq_false hc2) (k _ ?_)
        unfold fiveB
        rw [if_neg (show ¬¬(b = a ∨ b = -a) from fun z => z hb), if_neg hc, decide_eq_false hc2, Bool.false_and]
  · refine iteTr (by rw [e1]; simp; exact ⟨fun z => hb (.inl z), fun z => hb (.inr z)⟩) (k _ ?_)
    unfold fiveB
    rw [if_pos hb]
theorem cosD_none (s : Rat) : isNone (cosD s) = (cosTab s).isNone := by
  unfold cosD
  cases cosTab s <;> rfl
theorem cosTab_sm {s x : Rat} (h : cosTab s = some x) : smQ x := by
  unfold cosTab at h
  have f : ∀ y : Rat, (y = 1 ∨ y = -1 ∨ y = mkRat (-1) 2 ∨ y = 0 ∨ y = mkRat 1 2) → smQ y := by
    intro y hy
    rcases hy with rfl | rfl | rfl | rfl | rfl <;> exact ⟨by decide, by decide⟩
  split at h
  · cases h; exact f _ (by simp)
  split at h
  · cases h; exact f _ (by simp)
  split at h
  · cases h; exact f _ (by simp)
  split at h
  · cases h; exact f _ (by simp)
  split at h
  · cases h; exact f _ (by simp)
  split at h
  · cases h; exact f _ (by simp)
  split at h
  · cases h; exact f _ (by simp)
  split at h
  · cases h; exact f _ (by simp)
  · cases h
theorem pk_five {Q : D → Prop} {a b c u v : Rat} (h1 : smQ a) (h3 : u.den < 10000) (h4 : v.den < 10000) (hQ : Q (if fiveB a b c u v = true then .str "five" else .none)) :
    0 + 1 + 1 + 1 + 1 + 1 = 5 ∧ R_is_five_pair [.d (qD a), .d (qD b), .d (qD c), .d (qD u), .d (qD v)] fun d => match d with
      | .bool b => if b = true then Q (.str "five") else Q .none
      | _ => False := by
  refine ⟨rfl, (a, b, c, u, v), rfl, ⟨h1, h3, h4⟩, fun d hd => ?_⟩
  subst hd
  refine iteC (fun h => ?_) fun h => ?_
  · have h' : fiveB a b c u v = true := h
    rw [if_pos h'] at hQ; exact hQ
  · have h' : fiveB a b c u v = false := h
    rw [if_neg (by rw [h']; decide)] at hQ; exact hQ
theorem pk_tail {Q : D → Prop} {a b c u v : Rat} (h1 : smQ a) (h3 : u.den < 10000) (h4 : v.den < 10000)
    (hQ : Q (if (decide (c = 0) && lineB a b u v) = true then .str "line" else if fiveB a b c u v = true then .str "five" else .none)) :
    0 + 1 + 1 ≤ 16777216 ∧ (SeqAt.shaped (qD c) = true ∧ SeqAt.shaped (PyData.tuple [PyData.int 0, PyData.int 1]) = true) ∧
      if PyData.eqv (qD c) (PyData.tuple [PyData.int 0, PyData.int 1]) = true then
        0 + 1 + 1 + 1 + 1 = 4 ∧ R_is_line_pair [.d (qD a), .d (qD b), .d (qD u), .d (qD v)] fun d => match d with
          | .bool b_1 => if b_1 = true then Q (.str "line") else
              0 + 1 + 1 + 1 + 1 + 1 = 5 ∧ R_is_five_pair [.d (qD a), .d (qD b), .d (qD c), .d (qD u), .d (qD v)] fun d => match d with
                | .bool b => if b = true then Q (.str "five") else Q .none
                | _ => False
          | _ => False
      else if false = true then Q (.str "line") else
          0 + 1 + 1 + 1 + 1 + 1 = 5 ∧ R_is_five_pair [.d (qD a), .d (qD b), .d (qD c), .d (qD u), .d (qD v)] fun d => match d with
            | .bool b => if b = true then Q (.str "five") else Q .none
            | _ => False := by
  refine ⟨by decide, ⟨rfl, rfl⟩, ?_⟩
  have e : PyData.eqv (qD c) (PyData.tuple [PyData.int 0, PyData.int 1]) = decide (c = 0) := eqvQ c 0
  by_cases hc : c = 0
  · refine iteTr (by rw [e]; exact decide_eq_true hc) ⟨rfl, (a, b, u, v), rfl, ⟨h3, h4⟩, fun d hd => ?_⟩
    subst hd
    rw [decide_eq_true hc, Bool.true_and] at hQ
    refine iteC (fun h => ?_) fun h => ?_
    · have h' : lineB a b u v = true := h
      rw [if_pos h'] at hQ; exact hQ
    · have h' : lineB a b u v = false := h
      rw [if_neg (by rw [h']; decide)] at hQ
      exact pk_five h1 h3 h4 hQ
  · rw [decide_eq_false hc, Bool.false_and, if_neg (by decide)] at hQ
    exact iteFa (by rw [e]; exact decide_eq_false hc) (iteFa rfl (pk_five h1 h3 h4 hQ))
theorem p_pair_kind : ∀ xs Q, xs.length = 5 → R_pair_kind xs Q → T_pair_kind (endE Q) (xs ++ List.replicate (7 - xs.length) .un) := by
  intro xs Q hl h
  obtain ⟨⟨a, b, c, u, v⟩, rfl, ⟨h1, h2, h3, h4⟩, k⟩ := h
  show T_pair_kind (endE Q) [.d (qD a), .d (qD b), .d (qD c), .d (qD u), .d (qD v), .un, .un]
  dsimp only at h1 h2 h3 h4 k
  unfold T_pair_kind
  walk_at "dl"
  refine ⟨rfl, u, rfl, trivial, fun d hd => ?_⟩
  subst hd
  refine ⟨rfl, v, rfl, trivial, fun d hd => ?_⟩
  subst hd
  have kd : ∀ f : Bool, f = fracB a b c u v → Q (if f = true then .str "fractions" else if (decide (c = 0) && lineB a b u v) = true then .str "line" else if fiveB a b c u v = true then .str "five" else .none) := fun f hf => by
    refine k _ ?_
    unfold kindOf
    rw [← hf]
    split
    · rfl
    · split
      · rfl
      · split <;> rfl
  have nn : ∀ s : Rat, (match cosD s with | .none => true | _ => false) = (cosTab s).isNone := fun s => by
    unfold cosD
    cases cosTab s <;> rfl
  cases eu : cosTab u with
  | none =>
    have e1 : cosD u = .none := by unfold cosD; rw [eu]
    rw [e1]
    refine iteFa rfl (iteFa rfl (pk_tail h1 h3 h4 ?_))
    have := kd false (by unfold fracB; rw [eu])
    exact this
  | some x =>
    have e1 : cosD u = qD x := by unfold cosD; rw [eu]
    rw [e1]
    cases ev : cosTab v with
    | none =>
      have e2 : cosD v = .none := by unfold cosD; rw [ev]
      rw [e2]
      refine iteTr rfl (iteFa rfl (iteFa rfl (pk_tail h1 h3 h4 ?_)))
      have := kd false (by unfold fracB; rw [eu, ev])
      exact this
    | some y =>
      have e2 : cosD v = qD y := by unfold cosD; rw [ev]
      rw [e2]
      refine iteTr rfl (iteTr rfl ⟨rfl, (a, b, x, y), rfl, ⟨h1, h2, cosTab_sm eu, cosTab_sm ev⟩, fun d hd => ?_⟩)
      subst hd
      refine ⟨⟨rfl, rfl⟩, ?_⟩
      by_cases hc : a * x + b * y = c
      · refine iteTr (by rw [eqvQ]; exact decide_eq_true hc) ?_
        have := kd true (by unfold fracB; rw [eu, ev]; exact (decide_eq_true hc).symm)
        exact this
      · refine iteFa (by rw [eqvQ]; exact decide_eq_false hc) (pk_tail h1 h3 h4 ?_)
        have := kd false (by unfold fracB; rw [eu, ev]; exact (decide_eq_false hc).symm)
        exact this
/-! numbers -/
theorem putQ_len (es : Nm) (k v : Rat) : (putQ es k v).length ≤ es.length + 1 := by
  unfold putQ
  split
  · rw [List.length_map]; omega
  · rw [List.length_append, List.length_singleton]; omega
theorem getQ_mem {es : Nm} {k x : Rat} (h : getQ es k = some x) : (k, x) ∈ es := by
  unfold getQ at h
  cases e : es.find? (fun p => decide (p.1 = k)) with
  | none => rw [e] at h; cases h
  | some p =>
    rw [e] at h
    cases h
    have h1 := List.find?_some e
    have h2 := List.mem_of_find?_eq_some e
    have h3 : p.1 = k := of_decide_eq_true h1
    rw [← h3]; exact h2
theorem as_B {x : Rat} {B : Nat} (hB : 0 < B) (h : x.den ∣ B) : ∃ n : Int, x = mkRat n B := by
  obtain ⟨k, hk⟩ := h
  have k0 : k ≠ 0 := fun z => by subst z; omega
  refine ⟨x.num * k, ?_⟩
  rw [hk, Rat.mkRat_mul_right k0, Rat.mkRat_self]
theorem mkRat_den_dvd {n : Int} {B : Nat} (hB : 0 < B) : (mkRat n B).den ∣ B := by
  rw [Rat.den_mkRat, if_neg (by omega)]
  exact Nat.div_dvd_of_dvd (Nat.gcd_dvd_left _ _)
theorem mkRat_add_same {n m : Int} {B : Nat} (hB : 0 < B) : mkRat n B + mkRat m B = mkRat (n + m) B := by
  rw [Rat.mkRat_add_mkRat _ _ (by omega) (by omega), ← Int.add_mul, Rat.mkRat_mul_right (by omega)]
theorem den_add_dvd {x y : Rat} {B : Nat} (hB : 0 < B) (hx : x.den ∣ B) (hy : y.den ∣ B) : (x + y).den ∣ B := by
  obtain ⟨n, hn⟩ := as_B hB hx
  obtain ⟨m, hm⟩ := as_B hB hy
  rw [hn, hm, mkRat_add_same hB]
  exact mkRat_den_dvd hB
theorem dict_loop (E : PEn) (s0 : Slot) (B : Nat) (hB : 0 < B) (hB2 : B < 32768) : ∀ (l es : Nm) (s2 s3 : Slot), (∀ e ∈ l, e.2.den ∣ B) → (∀ e ∈ es, e.2.den ∣ B) → es.length + l.length ≤ 2000000 →
    (∀ s2 s3, E.nx [s0, .od true (eE (l.foldl accQ es)), s2, s3]) →
    forD (gtTup 2 (gtCons (gtName 2) (gtCons (gtName 3) gtNil))) (sPut 1 (dCall 2 R_fraction_sum (aCons (sB (dGet2 1 (dVar 2) (dTup (aCons (dC (.int 0)) (aCons (dC (.int 1)) aNil))))) (aCons (sB (dVar 3)) aNil))) (dVar 2)) E (l.map eD) [s0, .od true (eE es), s2, s3]
  | [], es, s2, s3, _, _, _, k => k s2 s3
  | e :: l, es, s2, s3, hl, he, hz, k => by
    rw [List.map_cons]
    unfold forD
    walk_at "dl"
    dsimp only [eD]
    walk_at "dl"
    have hv : ((getQ es e.1).getD 0).den ∣ B := by
      cases g : getQ es e.1 with
      | none => show (0 : Rat).den ∣ B; exact Nat.one_dvd _
      | some x => exact he _ (getQ_mem g)
    have hx := hl e List.mem_cons_self
    have hs := den_add_dvd hB hv hx
    have d1 := Nat.le_of_dvd hB hv
    have d2 := Nat.le_of_dvd hB hx
    rw [List.length_cons] at hz
    refine ⟨rfl, rfl, by decide, rfl, rfl, ((getQ es e.1).getD 0, e.2), ?_, ?_, fun d hd => ?_⟩
    · rw [getE]
      cases getQ es e.1 <;> rfl
    · have : ((getQ es e.1).getD 0).den * e.2.den ≤ 32767 * 32767 := Nat.mul_le_mul (by omega) (by omega)
      dsimp only
      omega
    · subst hd
      refine ⟨⟨rfl, by unfold eE; rw [List.length_map]; omega⟩, ?_⟩
      rw [putE]
      refine dict_loop E s0 B hB hB2 l (accQ es e) _ _ (fun z hz => hl z (List.mem_cons_of_mem _ hz)) ?_ ?_ k
      · intro z hz'
        unfold accQ putQ at hz'
        split at hz'
        · obtain ⟨p, hp, e'⟩ := List.mem_map.mp hz'
          subst e'
          split
          · exact hs
          · exact he p hp
        · rcases List.mem_append.mp hz' with h | h
          · exact he z h
          · rw [List.mem_singleton.mp h]; exact hs
      · have := putQ_len es e.1 ((getQ es e.1).getD 0 + e.2)
        unfold accQ
        omega

theorem insQ_perm (x : Rat) : ∀ l, (insQ x l).Perm (x :: l)
  | [] => List.Perm.refl _
  | y :: r => by
    unfold insQ
    split
    · exact ((insQ_perm x r).cons y).trans (List.Perm.swap x y r)
    · exact List.Perm.refl _
theorem sortQ_perm : ∀ l, (sortQ l).Perm l
  | [] => List.Perm.refl _
  | x :: r => (insQ_perm x (sortQ r)).trans ((sortQ_perm r).cons x)
theorem getQ_some {es : Nm} {k : Rat} (h : k ∈ es.map (·.1)) : ∃ x, getQ es k = some x := by
  unfold getQ
  cases e : es.find? (fun p => decide (p.1 = k)) with
  | some p => exact ⟨_, rfl⟩
  | none =>
    exfalso
    obtain ⟨p, hp, rfl⟩ := List.mem_map.mp h
    have := List.find?_eq_none.mp e p hp
    simp at this
theorem foldAcc_len : ∀ (l es : Nm), (l.foldl accQ es).length ≤ es.length + l.length
  | [], es => Nat.le_refl _
  | e :: l, es => by
    have h1 := foldAcc_len l (accQ es e)
    have h2 := putQ_len es e.1 ((getQ es e.1).getD 0 + e.2)
    rw [List.foldl_cons, List.length_cons]
    unfold accQ at h1
    unfold accQ
    omega
theorem num_ne (x : Rat) : (!PyData.eqv (.int x.num) (.int 0)) = decide (x ≠ 0) := by
  rw [eqvI]
  by_cases h : x = 0
  · subst h; rfl
  · have h2 : x.num ≠ 0 := fun z => h (Rat.num_eq_zero.mp z)
    rw [decide_eq_false h2, decide_eq_true h]; rfl
theorem p_number_of : ∀ xs Q, xs.length = 1 → R_number_of xs Q → T_number_of (endE Q) (xs ++ List.replicate (4 - xs.length) .un) := by
  intro xs Q hl h
  obtain ⟨⟨b, l⟩, rfl, ⟨h1, B, h2, h3, h4⟩, k⟩ := h
  show T_number_of (endE Q) [.d (if b = true then tD l else lD l), .un, .un, .un]
  dsimp only at h1 h4 k
  unfold T_number_of
  walk_at "dl"
  have main : forD (gtTup 2 (gtCons (gtName 2) (gtCons (gtName 3) gtNil))) (sPut 1 (dCall 2 R_fraction_sum (aCons (sB (dGet2 1 (dVar 2) (dTup (aCons (dC (.int 0)) (aCons (dC (.int 1)) aNil))))) (aCons (sB (dVar 3)) aNil))) (dVar 2))
      { nx := sRet (dUn kTupO (dLc (iSeq (dSortD 1)) (gtName 2) (bT (dOp kNe (dOp kIx (dGet 1 (dVar 2)) (dC (.int 0))) (dC (.int 0)))) (dTup (aCons (dVar 2) (aCons (dGet 1 (dVar 2)) aNil))) [2])) (endE Q), rt := Q } (l.map eD)
      [.d (if b = true then tD l else lD l), .od true (eE []), .un, .un] := by
    refine dict_loop _ _ B h2 h3 l [] _ _ h4 (by simp) (by rw [List.length_nil]; omega) fun s2 s3 => ?_
    walk_at "dl"
    rw [toPsE]
    dsimp only
    have e1 : ((l.foldl accQ []).map fun e => qP e.1) = ((numDict l).map (·.1)).map qP := by rw [List.map_map]; rfl
    rw [e1, sortPQ, List.map_map, show (DL.pairD ∘ qP) = qD from rfl]
    have hlen := foldAcc_len l []
    rw [List.length_nil] at hlen
    refine ⟨?_, ?_⟩
    · rw [List.length_map, (sortQ_perm _).length_eq, List.length_map]
      unfold numDict
      omega
    · refine lc_fm (p := fun q => decide (valQ (numDict l) q ≠ 0)) (res := fun q => eD (q, valQ (numDict l) q)) _ _ [] (fun q hq X Y hX hY => ?_) ?_
      · have hq' : q ∈ (numDict l).map (·.1) := (sortQ_perm _).mem_iff.mp hq
        obtain ⟨x, hx⟩ := getQ_some hq'
        have hv : valQ (numDict l) q = x := by unfold valQ; rw [hx]; rfl
        have hg : getD' (eE (l.foldl accQ [])) (qD q) = some (qD x) := by rw [getE]; show (getQ (numDict l) q).map qD = _; rw [hx]; rfl
        walk_at "dl"
        rw [hg]
        dsimp only
        walk_at "at"
        refine ⟨rfl, ⟨rfl, rfl⟩, ?_⟩
        rw [hv] at hX hY
        refine iteC (fun h => ?_) fun h => ?_
        · rw [num_ne] at h
          exact ⟨rfl, by decide, hX h⟩
        · rw [num_ne] at h
          exact hY h
      · walk_at "dl"
        refine k _ ?_
        unfold tD numOf
        rw [List.map_map]; rfl
  cases b with
  | true => exact main
  | false => exact main

theorem p_number_sum : ∀ xs Q, xs.length = 2 → R_number_sum xs Q → T_number_sum (endE Q) (xs ++ List.replicate (2 - xs.length) .un) := by
  intro xs Q hl h
  obtain ⟨⟨a, b⟩, rfl, h1, k⟩ := h
  show T_number_sum (endE Q) [.d (tD a), .d (tD b)]
  unfold T_number_sum
  walk_at "dl"
  dsimp only [tD]
  have e : a.map eD ++ (b.map eD ++ []) = (a ++ b).map eD := by rw [List.append_nil, List.map_append]
  rw [e]
  have hz := h1.1
  dsimp only at hz
  refine ⟨by rw [List.length_map]; omega, rfl, (false, a ++ b), rfl, h1, fun d hd => ?_⟩
  subst hd
  exact k _ rfl
theorem p_number_often : ∀ xs Q, xs.length = 2 → R_number_often xs Q → T_number_often (endE Q) (xs ++ List.replicate (4 - xs.length) .un) := by
  intro xs Q hl h
  obtain ⟨⟨c, l⟩, rfl, ⟨h1, h2, h3⟩, k⟩ := h
  show T_number_often (endE Q) [.d (qD c), .d (tD l), .un, .un]
  dsimp only at h1 h2 h3 k
  unfold T_number_often
  walk_at "dl"
  dsimp only [tD]
  have hz := h3.1
  rw [List.length_map] at hz
  refine ⟨by rw [List.length_map]; omega, ?_⟩
  refine lc_map (enc := eD) (res := fun e => eD (e.1, c * e.2)) _ l [] (fun e he X hX => ?_) ?_
  · dsimp only [eD]
    walk_at "dl"
    have := h2 e he
    have hc := h1.1
    have : c.den * e.2.den ≤ 100 * 10000 := Nat.mul_le_mul hc (by omega)
    refine ⟨rfl, rfl, rfl, (c, e.2), rfl, ⟨by dsimp only; omega, h1.2⟩, fun d hd => ?_⟩
    subst hd
    exact ⟨by decide, hX⟩
  · refine ⟨rfl, (false, l.map fun e => (e.1, c * e.2)), ?_, h3, fun d hd => ?_⟩
    · dsimp only [lD]
      rw [List.map_map]; rfl
    · subst hd
      exact k _ rfl
/-! number_form -/
theorem den_divInt_dvd {k p : Int} (hp : 1 ≤ p) : (Rat.divInt k p).den ∣ p.toNat := by
  rw [Rat.den_divInt, if_neg (by omega)]
  have : p.natAbs = p.toNat := by omega
  rw [this]
  have : (p.gcd k) ∣ p.toNat := by
    have := Int.gcd_dvd_left p k
    exact Int.natCast_dvd_natCast.mp (by rw [Int.toNat_of_nonneg (by omega)]; exact this)
  exact Nat.div_dvd_of_dvd this
theorem fr_den_dvd (x : Rat) : (fr x).den ∣ x.den := mkRat_den_dvd (Rat.den_pos x)
theorem partsRound_den {s : Rat} {p : Int} {D0 : Nat} (hD : 0 < D0) (hs : s.den ∣ D0) (hp : 1 ≤ p) (hpD : p.toNat ∣ D0) : ∀ x ∈ partsRound s p, x.den ∣ D0 := fun x hx => by
  unfold partsRound at hx
  obtain ⟨i, _, rfl⟩ := List.mem_map.mp hx
  refine Nat.dvd_trans (fr_den_dvd _) (den_add_dvd hD hs (Nat.dvd_trans (fr_den_dvd _) (Nat.dvd_trans (den_divInt_dvd hp) hpD)))
theorem partsRound_len (s : Rat) (p : Int) : (partsRound s p).length = (p - 1).toNat := by
  unfold partsRound
  rw [List.length_map, List.length_range]
theorem roundAll_len (p : Int) : ∀ here : Nm, (roundAll p here).length = here.length * (p - 1).toNat
  | [] => by simp [roundAll]
  | e :: r => by
    unfold roundAll
    rw [List.flatMap_cons, List.length_append, List.length_map, partsRound_len, List.length_cons]
    have := roundAll_len p r
    unfold roundAll at this
    rw [this, Nat.add_mul, Nat.one_mul]; omega
theorem late_loop (E : PEn) (p : Int) (hp : 1 ≤ p) (hp2 : p < 32768) (s0 s1 s2 s3 s4 : Slot) : ∀ (here late : Nm) (s7 s8 s9 : Slot), (∀ e ∈ here, e.1.den < 32768) → late.length + here.length * (p - 1).toNat ≤ 16777216 →
    (∀ s7 s8 s9, E.nx [s0, s1, s2, s3, s4, .d (.int p), .ol ((late ++ roundAll p here).map eD), s7, s8, s9]) →
    forD (gtTup 2 (gtCons (gtName 7) (gtCons (gtName 8) gtNil))) (sExtend 6 (dLc (iSeq (dCall 2 R_parts_round (aCons (sD (dVar 7)) (aCons (sD (dVar 5)) aNil)))) (gtName 9) bYes (dTup (aCons (dVar 9) (aCons (dCall 1 R_fraction_turned (aCons (sD (dVar 8)) aNil)) aNil))) [9])) E (here.map eD)
      [s0, s1, s2, s3, s4, .d (.int p), .ol (late.map eD), s7, s8, s9]
  | [], late, s7, s8, s9, _, _, k => by
    have := k s7 s8 s9
    rw [show roundAll p [] = [] from rfl, List.append_nil] at this
    exact this
  | e :: r, late, s7, s8, s9, hd, hz, k => by
    rw [List.map_cons]
    unfold forD
    dsimp only [eD]
    walk_at "dl"
    rw [List.length_cons, Nat.add_mul, Nat.one_mul] at hz
    refine ⟨rfl, rfl, rfl, (e.1, p), rfl, ⟨hd e List.mem_cons_self, hp, hp2⟩, fun d hd' => ?_⟩
    subst hd'
    dsimp only
    have hpl := partsRound_len e.1 p
    refine ⟨by rw [List.length_map, hpl]; omega, ?_⟩
    refine lc_map (enc := qD) (res := fun x => eD (x, -e.2)) _ _ [] (fun x hx X hX => ?_) ?_
    · walk_at "dl"
      refine ⟨rfl, e.2, rfl, trivial, fun d hd' => ?_⟩
      subst hd'
      exact ⟨by decide, hX⟩
    · rw [List.nil_append]
      refine ⟨by rw [List.length_map, List.length_map, hpl]; omega, ?_⟩
      have e1 : late.map eD ++ (partsRound e.1 p).map (fun x => eD (x, -e.2)) = (late ++ (partsRound e.1 p).map fun x => (x, -e.2)).map eD := by
        rw [List.map_append, List.map_map]; rfl
      rw [e1]
      refine late_loop E p hp hp2 s0 s1 s2 s3 s4 r _ _ _ _ (fun z hz => hd z (List.mem_cons_of_mem _ hz)) ?_ fun s7 s8 s9 => ?_
      · rw [List.length_append, List.length_map, hpl]; omega
      · have := k s7 s8 s9
        unfold roundAll at this
        rw [List.flatMap_cons] at this
        rw [List.append_assoc]
        exact this
def prodP (ps : List Int) (n : Nat) : Nat := ps.foldl (fun n p => n * (p - 1).toNat) n
theorem prodP_ge : ∀ (ps : List Int) (n : Nat), (∀ p ∈ ps, 2 ≤ p) → n ≤ prodP ps n
  | [], n, _ => Nat.le_refl _
  | p :: ps, n, h => by
    have h1 := prodP_ge ps (n * (p - 1).toNat) fun z hz => h z (List.mem_cons_of_mem _ hz)
    have h2 := h p List.mem_cons_self
    have : n * 1 ≤ n * (p - 1).toNat := Nat.mul_le_mul_left n (by omega)
    unfold prodP at h1 ⊢
    rw [List.foldl_cons]
    omega
theorem form_loop (E : PEn) (D0 : Nat) (hD : 0 < D0) (hD2 : D0 < 32768) (s0 s1 s2 s3 : Slot) : ∀ (ps : List Int) (here : Nm) (s5 s6 s7 s8 s9 : Slot), (∀ e ∈ here, e.1.den ∣ D0) → (∀ p ∈ ps, 2 ≤ p ∧ p.toNat ∣ D0) → prodP ps here.length ≤ 1000 →
    (∀ s5 s6 s7 s8 s9, E.nx [s0, s1, s2, s3, .d (lD (formGo ps here)), s5, s6, s7, s8, s9]) →
    forD (gtName 5) (sSeq (sAsgO 6 (dLst aNil)) (sSeq (sFor (ieOf (iSeq (dVar 4))) (gtTup 2 (gtCons (gtName 7) (gtCons (gtName 8) gtNil)))
  (sExtend 6 (dLc (iSeq (dCall 2 R_parts_round (aCons (sD (dVar 7)) (aCons (sD (dVar 5)) aNil)))) (gtName 9) bYes (dTup (aCons (dVar 9) (aCons (dCall 1 R_fraction_turned (aCons (sD (dVar 8)) aNil)) aNil))) [9])))
  (sAsg (dUn kLst (wVar 6)) (gtName 4)))) E (ps.map PyData.int) [s0, s1, s2, s3, .d (lD here), s5, s6, s7, s8, s9]
  | [], here, s5, s6, s7, s8, s9, _, _, _, k => k s5 s6 s7 s8 s9
  | p :: ps, here, s5, s6, s7, s8, s9, hh, hp, hz, k => by
    rw [List.map_cons]
    unfold forD
    walk_at "dl"
    dsimp only [lD]
    obtain ⟨p1, p2⟩ := hp p List.mem_cons_self
    have p3 := Nat.le_of_dvd hD p2
    have hps : ∀ p ∈ ps, 2 ≤ p := fun z hz => (hp z (List.mem_cons_of_mem _ hz)).1
    have hge := prodP_ge ps (here.length * (p - 1).toNat) hps
    have hz' : prodP ps (here.length * (p - 1).toNat) ≤ 1000 := hz
    refine ⟨by decide, ?_⟩
    refine late_loop _ p (by omega) (by omega) s0 s1 s2 s3 _ here [] _ _ _ (fun e he => Nat.lt_of_le_of_lt (Nat.le_of_dvd hD (hh e he)) hD2) (by rw [List.length_nil]; omega) fun s7 s8 s9 => ?_
    walk_at "dl"
    refine form_loop E D0 hD hD2 s0 s1 s2 s3 ps (roundAll p here) _ _ _ _ _ ?_ (fun z hz => hp z (List.mem_cons_of_mem _ hz)) (by rw [roundAll_len]; exact hz') k
    intro e he
    unfold roundAll at he
    obtain ⟨e0, h0, he⟩ := List.mem_flatMap.mp he
    obtain ⟨x, hx, rfl⟩ := List.mem_map.mp he
    exact partsRound_den hD (hh e0 h0) (by omega) p2 x hx
theorem innerDiv_dvd {p : Int} (hp : 2 ≤ p) : ∀ (n : Nat) (q : Int), innerDiv n q p ∣ q
  | 0, q => Int.dvd_refl _
  | n + 1, q => by
    unfold innerDiv
    split
    · rename_i h0
      refine Int.dvd_trans (innerDiv_dvd hp n _) ?_
      have := Int.fdiv_mul_cancel (Int.dvd_of_fmod_eq_zero h0)
      exact ⟨p, this.symm⟩
    · exact Int.dvd_refl _
theorem primesGo_dvd (q0 : Int) : ∀ (n : Nat) (q p : Int) (f : List Int), 2 ≤ p → q ∣ q0 → (∀ z ∈ f, z ∣ q0) → (primesGo n q p f).1 ∣ q0 ∧ ∀ z ∈ (primesGo n q p f).2, z ∣ q0
  | 0, q, p, f, hp, hq, hf => ⟨hq, hf⟩
  | n + 1, q, p, f, hp, hq, hf => by
    unfold primesGo
    split
    · split
      · rename_i h0
        refine primesGo_dvd q0 n _ _ _ (by omega) (Int.dvd_trans (innerDiv_dvd hp _ _) hq) fun z hz => ?_
        rcases List.mem_append.mp hz with h | h
        · exact hf z h
        · rw [List.mem_singleton.mp h]; exact Int.dvd_trans (Int.dvd_of_fmod_eq_zero h0) hq
      · exact primesGo_dvd q0 n _ _ _ (by omega) hq hf
    · exact ⟨hq, hf⟩
theorem primesOf_dvd {q z : Int} (hz : z ∈ primesOf q) : z ∣ q := by
  obtain ⟨a, b⟩ := primesGo_dvd q q.toNat q 2 [] (by omega) (Int.dvd_refl _) (by simp)
  unfold primesOf at hz
  split at hz
  · rcases List.mem_append.mp hz with h | h
    · exact b z h
    · rw [List.mem_singleton.mp h]; exact a
  · exact b z hz
theorem loose_mem {s : Rat} {p : Int} (h : p ∈ loosePrimes s) : 2 ≤ p ∧ p.toNat ∣ s.den := by
  unfold loosePrimes at h
  have h1 := (List.mem_filter.mp h).1
  have hp := Rat.den_pos s
  have h2 := primesOf_mem (q := s.den) (by omega) h1
  have h3 := primesOf_dvd h1
  refine ⟨h2.1, ?_⟩
  exact Int.natCast_dvd_natCast.mp (by rw [Int.toNat_of_nonneg (by omega)]; exact h3)
theorem formGo_len : ∀ (ps : List Int) (here : Nm), (formGo ps here).length = prodP ps here.length
  | [], here => rfl
  | p :: ps, here => by
    show (formGo ps (roundAll p here)).length = prodP ps (here.length * (p - 1).toNat)
    rw [formGo_len ps, roundAll_len]

theorem formGo_den (B : Nat) : ∀ (ps : List Int) (here : Nm), (∀ e ∈ here, e.2.den ∣ B) → ∀ e ∈ formGo ps here, e.2.den ∣ B
  | [], here, h => h
  | p :: ps, here, h => by
    show ∀ e ∈ formGo ps (roundAll p here), _
    refine formGo_den B ps _ fun e he => ?_
    unfold roundAll at he
    obtain ⟨e0, h0, he⟩ := List.mem_flatMap.mp he
    obtain ⟨x, hx, rfl⟩ := List.mem_map.mp he
    exact h e0 h0
theorem forms_den {l : Nm} {B : Nat} (h : ∀ e ∈ l, e.2.den ∣ B) : ∀ e ∈ l.flatMap formOne, e.2.den ∣ B := fun e he => by
  obtain ⟨e0, h0, he⟩ := List.mem_flatMap.mp he
  unfold formOne at he
  exact formGo_den B _ _ (fun z hz => by rw [List.mem_singleton.mp hz]; exact h e0 h0) e he
theorem formOne_len (e : Rat × Rat) : (formOne e).length = formLen e.1 := by
  unfold formOne
  rw [formGo_len]; rfl
theorem forms_len : ∀ {l : Nm}, (∀ e ∈ l, formLen e.1 ≤ 1000) → (l.flatMap formOne).length ≤ l.length * 1000
  | [], _ => Nat.le_refl _
  | e :: l, h => by
    rw [List.flatMap_cons, List.length_append, List.length_cons, formOne_len]
    have h1 := h e List.mem_cons_self
    have h2 := forms_len fun z hz => h z (List.mem_cons_of_mem e hz)
    omega
theorem num_loop (E : PEn) (s0 : Slot) : ∀ (l found : Nm) (s2 s3 s4 s5 s6 s7 s8 s9 : Slot), (∀ e ∈ l, e.1.den < 32768 ∧ formLen e.1 ≤ 1000) → found.length + l.length * 1000 ≤ 16777216 →
    (∀ s2 s3 s4 s5 s6 s7 s8 s9, E.nx [s0, .ol ((found ++ l.flatMap formOne).map eD), s2, s3, s4, s5, s6, s7, s8, s9]) →
    forD (gtTup 2 (gtCons (gtName 2) (gtCons (gtName 3) gtNil))) (sSeq (sAsg (dLst (aCons (dTup (aCons (dVar 2) (aCons (dVar 3) aNil))) aNil)) (gtName 4))
  (sSeq (sFor (ieOf (iSeq (dCall 1 R_loose_primes (aCons (sD (dVar 2)) aNil)))) (gtName 5)
  (sSeq (sAsgO 6 (dLst aNil))
  (sSeq (sFor (ieOf (iSeq (dVar 4))) (gtTup 2 (gtCons (gtName 7) (gtCons (gtName 8) gtNil)))
  (sExtend 6 (dLc (iSeq (dCall 2 R_parts_round (aCons (sD (dVar 7)) (aCons (sD (dVar 5)) aNil)))) (gtName 9) bYes (dTup (aCons (dVar 9) (aCons (dCall 1 R_fraction_turned (aCons (sD (dVar 8)) aNil)) aNil))) [9])))
  (sAsg (dUn kLst (wVar 6)) (gtName 4)))))
  (sExtend 1 (dVar 4)))) E (l.map eD) [s0, .ol (found.map eD), s2, s3, s4, s5, s6, s7, s8, s9]
  | [], found, s2, s3, s4, s5, s6, s7, s8, s9, _, _, k => by
    have := k s2 s3 s4 s5 s6 s7 s8 s9
    rw [List.flatMap_nil, List.append_nil] at this
    exact this
  | e :: l, found, s2, s3, s4, s5, s6, s7, s8, s9, h, hz, k => by
    rw [List.map_cons]
    unfold forD
    dsimp only [eD]
    walk_at "dl"
    obtain ⟨h1, h2⟩ := h e List.mem_cons_self
    rw [List.length_cons] at hz
    have hp := Rat.den_pos e.1
    refine ⟨rfl, rfl, by decide, by decide, rfl, e.1, rfl, h1, fun d hd => ?_⟩
    subst hd
    walk_at "dl"
    refine form_loop _ e.1.den hp h1 _ _ _ _ (loosePrimes e.1) [e] _ _ _ _ _ (fun z hz => by rw [List.mem_singleton.mp hz]; exact Nat.dvd_refl _) (fun p hp => loose_mem hp) h2 fun s5 s6 s7 s8 s9 => ?_
    walk_at "dl"
    dsimp only [lD]
    have e0 : formGo (loosePrimes e.1) [e] = formOne e := rfl
    have hl2 := formOne_len e
    rw [e0]
    refine ⟨by rw [List.length_map, List.length_map, hl2]; omega, ?_⟩
    have e1 : found.map eD ++ (formOne e).map eD = (found ++ formOne e).map eD := by rw [List.map_append]
    rw [e1]
    refine num_loop E s0 l _ _ _ _ _ _ _ _ _ (fun z hz => h z (List.mem_cons_of_mem _ hz)) (by rw [List.length_append, hl2]; omega) fun s2 s3 s4 s5 s6 s7 s8 s9 => ?_
    have := k s2 s3 s4 s5 s6 s7 s8 s9
    rw [List.flatMap_cons] at this
    rw [List.append_assoc]
    exact this
theorem fOk_d {l : Nm} (h : fOk l) : dOk (l.flatMap formOne) := by
  obtain ⟨h1, ⟨B, h2, h3, h4⟩, h5⟩ := h
  have := forms_len fun e he => (h5 e he).2
  exact ⟨by omega, B, h2, h3, forms_den h4⟩
theorem p_number_form : ∀ xs Q, xs.length = 1 → R_number_form xs Q → T_number_form (endE Q) (xs ++ List.replicate (10 - xs.length) .un) := by
  intro xs Q hl h
  obtain ⟨l, rfl, h1, k⟩ := h
  show T_number_form (endE Q) [.d (tD l), .un, .un, .un, .un, .un, .un, .un, .un, .un]
  unfold T_number_form
  walk_at "dl"
  dsimp only [tD]
  have hl := h1.1
  refine ⟨by decide, ?_⟩
  refine num_loop _ _ l [] _ _ _ _ _ _ _ _ h1.2.2 (by rw [List.length_nil]; omega) fun s2 s3 s4 s5 s6 s7 s8 s9 => ?_
  walk_at "dl"
  refine ⟨rfl, (false, l.flatMap formOne), rfl, fOk_d h1, fun d hd => ?_⟩
  subst hd
  exact k _ rfl
theorem p_cos_number : ∀ xs Q, xs.length = 1 → R_cos_number xs Q → T_cos_number (endE Q) (xs ++ List.replicate (1 - xs.length) .un) := by
  intro xs Q hl h
  obtain ⟨s, rfl, h1, k⟩ := h
  show T_cos_number (endE Q) [.d (qD s)]
  unfold T_cos_number
  walk_at "dl"
  refine ⟨by decide, by decide, rfl, s, rfl, h1, fun d hd => ?_⟩
  subst hd
  refine ⟨by decide, by decide, by decide, rfl, (false, [(s, mkRat 1 2), (fr (-s), mkRat 1 2)]), rfl, ⟨by dsimp only; rw [List.length_cons, List.length_cons, List.length_nil]; omega, 2, by decide, by decide, fun e he => ?_⟩, fun d hd => ?_⟩
  · rcases List.mem_cons.mp he with rfl | he
    · exact ⟨1, rfl⟩
    · rw [List.mem_singleton.mp he]; exact ⟨1, rfl⟩
  · subst hd
    exact k _ rfl
/-! fraction_told -/
theorem eqv_nilT (ds : List D) : PyData.eqv (.tuple ds) (.tuple []) = decide (ds = []) := by
  cases ds with
  | nil => simp [PyData.eqv, PyData.eqvAll]
  | cons a r => simp [PyData.eqv, PyData.eqvAll]
theorem tD_nil (l : Nm) : PyData.eqv (tD l) (.tuple []) = decide (l = []) := by
  unfold tD
  rw [eqv_nilT]
  cases l with
  | nil => rfl
  | cons a r => rfl
theorem sh_all : ∀ l : Nm, PyData.canLayAll0 (l.map eD) = true ∧ PyData.depthAll (l.map eD) ≤ 2
  | [] => ⟨rfl, Nat.zero_le _⟩
  | e :: l => by
    obtain ⟨a, b⟩ := sh_all l
    rw [List.map_cons]
    refine ⟨?_, ?_⟩
    · simp only [PyData.canLayAll0, a, Bool.and_true]; rfl
    · simp only [PyData.depthAll]
      have : (eD e).depth = 2 := rfl
      omega
theorem sh_tD (l : Nm) : SeqAt.shaped (tD l) = true := by
  obtain ⟨a, b⟩ := sh_all l
  have h1 : (tD l).canLay0 = true := by unfold tD; simpa only [PyData.canLay0] using a
  have h2 : (tD l).depth ≤ 64 := by unfold tD; simp only [PyData.depth]; omega
  unfold SeqAt.shaped
  rw [h1, decide_eq_true h2]; rfl
theorem p_fraction_told : ∀ xs Q, xs.length = 1 → R_fraction_told xs Q → T_fraction_told (endE Q) (xs ++ List.replicate (2 - xs.length) .un) := by
  intro xs Q hl h
  obtain ⟨l, rfl, h1, k⟩ := h
  show T_fraction_told (endE Q) [.d (tD l), .un]
  unfold T_fraction_told
  walk_at "dl"
  refine ⟨rfl, l, rfl, h1, fun d hd => ?_⟩
  subst hd
  refine ⟨by decide, ⟨sh_tD _, rfl⟩, ?_⟩
  have k' : Q (toldQ l) := k _ rfl
  unfold toldQ at k'
  cases hn : numForm l with
  | nil =>
    rw [hn] at k'
    exact iteTr rfl ⟨by decide, k'⟩
  | cons e r =>
    rw [hn] at k'
    refine iteFa (by rw [tD_nil]; rfl) ⟨⟨rfl, rfl⟩, ?_⟩
    cases r with
    | nil =>
      refine iteTr (by rw [eqvI]; rfl) ?_
      show (match atI (α := D) [qD e.1, qD e.2] 0 with | some x => 0 + 1 + 1 ≤ 16777216 ∧ (SeqAt.shaped x = true ∧ SeqAt.shaped (PyData.tuple [PyData.int 0, PyData.int 1]) = true) ∧ _ | none => False)
      rw [at2_0]
      refine ⟨by decide, ⟨rfl, rfl⟩, ?_⟩
      have e0 : PyData.eqv (qD e.1) (PyData.tuple [PyData.int 0, PyData.int 1]) = decide (e.1 = 0) := eqvQ e.1 0
      by_cases h0 : e.1 = 0
      · refine iteTr (by rw [e0]; exact decide_eq_true h0) ?_
        have k2 : Q (if e.1 = 0 then qD e.2 else .none) := k'
        rw [if_pos h0] at k2
        exact k2
      · refine iteFa (by rw [e0]; exact decide_eq_false h0) ?_
        have k2 : Q (if e.1 = 0 then qD e.2 else .none) := k'
        rw [if_neg h0] at k2
        exact k2
    | cons e2 r =>
      refine iteFa ?_ (iteFa rfl k')
      rw [eqvI]
      refine decide_eq_false ?_
      rw [List.length_map]
      simp only [List.length_cons]
      omega
end TP
/-! S2: the law's own fractions and parts. -/
namespace TP
open PySem PySem.Spec L2 DL
open PyProof.Rows hiding St

theorem fr_mk {t : Int} {n : Nat} (hn : 0 < n) : fr (mkRat t n) = mkRat (t.fmod n) n := by
  unfold fr
  have hx := Rat.den_pos (mkRat t n)
  -- t = num * g, n = den * g
  have e := Rat.mkRat_self (mkRat t n)
  have h1 : (mkRat t n).num * (n : Int) = t * ((mkRat t n).den : Int) := by
    have := (Rat.mkRat_eq_iff (n₁ := (mkRat t n).num) (d₁ := (mkRat t n).den) (n₂ := t) (d₂ := n) (by omega) (by omega)).mp e
    exact this
  obtain ⟨g, hg⟩ := mkRat_den_dvd (n := t) hn
  have hg0 : 0 < g := Nat.pos_of_ne_zero fun z => by subst z; omega
  have h2 : t = (mkRat t n).num * (g : Int) := by
    have hd : ((mkRat t n).den : Int) ≠ 0 := by omega
    have : (mkRat t n).num * (((mkRat t n).den : Int) * (g : Int)) = t * ((mkRat t n).den : Int) := by
      rw [← h1]
      congr 1
      rw [← Int.natCast_mul, ← hg]
    have h3 : (mkRat t n).num * (g : Int) * ((mkRat t n).den : Int) = t * ((mkRat t n).den : Int) := by
      rw [← this, Int.mul_assoc, Int.mul_comm (g : Int)]
    exact (Int.eq_of_mul_eq_mul_right hd h3).symm
  have h4 : (n : Int) = ((mkRat t n).den : Int) * (g : Int) := by rw [← Int.natCast_mul, ← hg]
  have h5 : t.fmod n = (mkRat t n).num.fmod ((mkRat t n).den : Int) * (g : Int) := by
    rw [Int.fmod_eq_emod_of_nonneg _ (by omega), Int.fmod_eq_emod_of_nonneg _ (by omega)]
    generalize (mkRat t n).num = a at *
    generalize ((mkRat t n).den : Int) = b at *
    rw [h4, h2, Int.mul_comm a, Int.mul_comm b, Int.mul_emod_mul_of_pos _ _ (by omega), Int.mul_comm]
  rw [h5]
  have : mkRat ((mkRat t n).num.fmod ((mkRat t n).den : Int) * (g : Int)) n = mkRat ((mkRat t n).num.fmod ((mkRat t n).den : Int) * (g : Int)) ((mkRat t n).den * g) := by rw [← hg]
  rw [this, Rat.mkRat_mul_right (by omega)]

def R__law_lowest : Pm := RI (I := Int × Int) (fun i => [.d (.int i.1), .d (.int i.2)]) (fun i => 0 < i.2 ∧ i.2 < 1073741824) (fun i d => d = qD (Rat.divInt i.1 i.2))
theorem mono__law_lowest : MonoP R__law_lowest := ri_mono
def R__law_part : Pm := RI (I := Int × Int) (fun i => [.d (.int i.1), .d (.int i.2)]) (fun i => 0 < i.2 ∧ i.2 < 1073741824) (fun i d => d = qD (fr (Rat.divInt i.1 i.2)))
theorem mono__law_part : MonoP R__law_part := ri_mono
def R__law_common : Pm := RI (I := Int × Int) (fun i => [.d (.int i.1), .d (.int i.2)]) (fun i => 0 ≤ i.1 ∧ 0 ≤ i.2) (fun i d => d = .int (Int.gcd i.1 i.2))
theorem mono__law_common : MonoP R__law_common := ri_mono
def R__law_sum : Pm := RI (I := Rat × Rat) (fun i => [.d (qD i.1), .d (qD i.2)]) (fun i => i.1.den * i.2.den < 1073741824) (fun i d => d = qD (i.1 + i.2))
theorem mono__law_sum : MonoP R__law_sum := ri_mono
def R__law_times : Pm := RI (I := Rat × Rat) (fun i => [.d (qD i.1), .d (qD i.2)]) (fun i => i.1.den * i.2.den < 1073741824 ∧ i.1.num.natAbs < 1073741824) (fun i d => d = qD (i.1 * i.2))
theorem mono__law_times : MonoP R__law_times := ri_mono
def R__law_on : Pm := RI (I := Rat × Rat) (fun i => [.d (qD i.1), .d (qD i.2)]) (fun i => i.1.den * i.2.den < 1073741824) (fun i d => d = qD (fr (i.1 + i.2)))
theorem mono__law_on : MonoP R__law_on := ri_mono
def R__law_about : Pm := RI (I := Rat) (fun i => [.d (qD i)]) (fun i => i.den < 1073741824) (fun i d => d = qD (fr (-i)))
theorem mono__law_about : MonoP R__law_about := ri_mono
def R__law_pairs_of : Pm := RI (I := Rat × Rat) (fun i => [.d (qD i.1), .d (qD i.2)]) (fun i => i.2.den < 1073741824) (fun i d => d = lD [(i.2, i.1), (fr (-i.2), i.1)])
theorem mono__law_pairs_of : MonoP R__law_pairs_of := ri_mono
def R__law_is_int : Pm := RI (I := D) (fun i => [.d i]) (fun _ => True) (fun i d => d = .bool (isiD (tyN i) "int" && !isiD (tyN i) "bool"))
theorem mono__law_is_int : MonoP R__law_is_int := ri_mono
/-- what a draw tells: anything within range -/
def R__law_pick : Pm := RI (I := Int) (fun i => [.src, .d (.int i)]) (fun i => i < 1073741824) (fun i d => ∃ k : Int, d = .int k ∧ 0 ≤ k ∧ (k = 0 ∨ k < i))
theorem mono__law_pick : MonoP R__law_pick := ri_mono
def R__law_of : Pm := RI (I := List D) (fun i => [.src, .d (.list i)]) (fun i => 0 < i.length ∧ i.length < 1000000) (fun i d => d ∈ i)
theorem mono__law_of : MonoP R__law_of := ri_mono
end TP
/-! T2: the readings of the law's own fractions and parts (printed by emit.py). -/
namespace TP
open PySem PySem.Spec L2 DL
open PyProof.Rows hiding St
def T__law_of : ST :=
  (sRet (dOp kIx (dVar 1) (dCall 2 R__law_pick (aCons (sVar 0) (aCons (sD (dCB kLen (aCons (dVar 1) aNil))) aNil)))))
def T__law_lowest : ST :=
  (sSeq (sPar 2 3 (aCons (dCB (kI1 absI) (aCons (dVar 0) aNil)) (aCons (dVar 1) aNil)))
  (sSeq (sWh (bT (dOp kGt (dVar 3) (dC (.int 0))))
  (sPar 2 3 (aCons (dVar 3) (aCons (dOp kMod (dCB kInt (aCons (dVar 2) aNil)) (dVar 3)) aNil))))
  (sRet (dTup (aCons (dOp kDiv (dVar 0) (dVar 2)) (aCons (dOp kDiv (dVar 1) (dVar 2)) aNil))))))
def T__law_part : ST :=
  (sRet (dCall 2 R__law_lowest (aCons (sD (dOp kMod (dCB kInt (aCons (dVar 0) aNil)) (dVar 1))) (aCons (sD (dVar 1)) aNil))))
def T__law_common : ST :=
  (sSeq (sWh (bT (dOp kGt (dVar 1) (dC (.int 0))))
  (sPar 0 1 (aCons (dVar 1) (aCons (dOp kMod (dCB kInt (aCons (dVar 0) aNil)) (dVar 1)) aNil))))
  (sRet (dVar 0)))
def T__law_sum : ST :=
  (sRet (dCall 2 R__law_lowest (aCons (sD (dOp kAdd (dOp kMul (dOp kIx (dVar 0) (dC (.int 0))) (dOp kIx (dVar 1) (dC (.int 1)))) (dOp kMul (dOp kIx (dVar 1) (dC (.int 0))) (dOp kIx (dVar 0) (dC (.int 1)))))) (aCons (sD (dOp kMul (dOp kIx (dVar 0) (dC (.int 1))) (dOp kIx (dVar 1) (dC (.int 1))))) aNil))))
def T__law_times : ST :=
  (sRet (dCall 2 R__law_lowest (aCons (sD (dOp kMul (dOp kIx (dVar 0) (dC (.int 0))) (dOp kIx (dVar 1) (dC (.int 0))))) (aCons (sD (dOp kMul (dOp kIx (dVar 0) (dC (.int 1))) (dOp kIx (dVar 1) (dC (.int 1))))) aNil))))
def T__law_on : ST :=
  (sRet (dCall 2 R__law_part (aCons (sD (dOp kAdd (dOp kMul (dOp kIx (dVar 0) (dC (.int 0))) (dOp kIx (dVar 1) (dC (.int 1)))) (dOp kMul (dOp kIx (dVar 1) (dC (.int 0))) (dOp kIx (dVar 0) (dC (.int 1)))))) (aCons (sD (dOp kMul (dOp kIx (dVar 0) (dC (.int 1))) (dOp kIx (dVar 1) (dC (.int 1))))) aNil))))
def T__law_about : ST :=
  (sRet (dCall 2 R__law_part (aCons (sD (dOp kSub (dC (.int 0)) (dOp kIx (dVar 0) (dC (.int 0))))) (aCons (sD (dOp kIx (dVar 0) (dC (.int 1)))) aNil))))
def T__law_pairs_of : ST :=
  (sRet (dLst (aCons (dTup (aCons (dVar 1) (aCons (dVar 0) aNil))) (aCons (dTup (aCons (dCall 1 R__law_about (aCons (sD (dVar 1)) aNil)) (aCons (dVar 0) aNil))) aNil))))
def T__law_is_int : ST :=
  (sRet (dAnd (dIsi "int" (dVar 0)) (dNot (dIsi "bool" (dVar 0)))))
end TP
/-! P2: the readings of the law's own fractions and parts keep their promises. -/
namespace TP
open PySem PySem.Spec L2 DL
open PyProof.Rows hiding St
local macro_rules | `(tactic| walk_at "dl") => `(tactic| dsimp only [sSeq, sPar, sPar3, sParL, sParB, sParD, sNext, sRet, sRetN, sIf, sAsg, sAsgO, ownD, sFz, fz, sAppend, sExtend, sPut, sNewD, sDispT, psNil, psCons, endE,
  aCons, aNil, aStar, dVar, wVar, rVar, dC, dOp, dUn, dIf, dAnd, dOr, dNot, dTup, dLst, dCB, dCall, dLc, dSl, dRepr, dIsi, dGet, dGet2, dSortD, pNo, pSo, sD, sB, sVar, iSeq, iSeqC, iRg1, iRg2, ieOf, ieP,
  bT, bTru, bAnd, bOr, bNot, bYes, gtName, gtTup, gtCons, gtNil, kTru, kI, kI1, kI2, kInt, kLen, kSub, kMul, kDiv, kMod, kLt, kLe, kGt, kGe, kEq, kNe, kAdd, kCat, kIn, kNotIn, kIsN, kNotN, kIx, kIxS, kNeg, kTupO, kLst, kRev, kRevL, kSl, kSlL, kMinL, isNone,
  wipeE, List.getElem?_cons_zero, List.getElem?_cons_succ, List.set_cons_zero, List.set_cons_succ, List.length_cons, List.length_nil, List.cons_append, List.nil_append, List.replicate_succ, List.replicate_zero, Nat.sub_self, List.append_nil])
local macro_rules | `(tactic| walk_at "at") => `(tactic| dsimp only [qD, at2_0, at2_1])
theorem low_loop (E : PEn) (P : Int → Prop) (s0 s1 : Slot) (hE : ∀ x y, P x → E.nx [s0, s1, .d (.int x), .d (.int y)]) : ∀ (n : Nat) (x y : Int), 0 ≤ x → 0 ≤ y → y.toNat < n → P (Int.gcd x y) →
    whD (bT (dOp kGt (dVar 3) (dC (.int 0)))) (sPar 2 3 (aCons (dVar 3) (aCons (dOp kMod (dCB kInt (aCons (dVar 2) aNil)) (dVar 3)) aNil))) E n [s0, s1, .d (.int x), .d (.int y)]
  | 0, x, y, _, _, h, _ => absurd h (Nat.not_lt_zero _)
  | n + 1, x, y, hx, hy, h, q => by
    unfold whD
    walk_at "dl"
    refine ⟨trivial, ?_⟩
    by_cases h0 : 0 < y
    · refine iteTr (decide_eq_true h0) ⟨by omega, ?_⟩
      refine low_loop E P s0 s1 hE n y (x.fmod y) hy (Int.fmod_nonneg_of_pos _ h0) ?_ ?_
      · have := Int.fmod_lt_of_pos x h0
        omega
      · rw [gcd_step hx h0]; exact q
    · refine iteFa (decide_eq_false h0) ?_
      have : y = 0 := by omega
      subst this
      refine hE x 0 ?_
      have e : ((Int.gcd x 0 : Nat) : Int) = x := by rw [Int.gcd_zero_right]; omega
      rw [e] at q
      exact q
theorem com_loop (E : PEn) (P : Int → Prop) (hE : ∀ x y, P x → E.nx [.d (.int x), .d (.int y)]) : ∀ (n : Nat) (x y : Int), 0 ≤ x → 0 ≤ y → y.toNat < n → P (Int.gcd x y) →
    whD (bT (dOp kGt (dVar 1) (dC (.int 0)))) (sPar 0 1 (aCons (dVar 1) (aCons (dOp kMod (dCB kInt (aCons (dVar 0) aNil)) (dVar 1)) aNil))) E n [.d (.int x), .d (.int y)]
  | 0, x, y, _, _, h, _ => absurd h (Nat.not_lt_zero _)
  | n + 1, x, y, hx, hy, h, q => by
    unfold whD
    walk_at "dl"
    refine ⟨trivial, ?_⟩
    by_cases h0 : 0 < y
    · refine iteTr (decide_eq_true h0) ⟨by omega, ?_⟩
      refine com_loop E P hE n y (x.fmod y) hy (Int.fmod_nonneg_of_pos _ h0) ?_ ?_
      · have := Int.fmod_lt_of_pos x h0
        omega
      · rw [gcd_step hx h0]; exact q
    · refine iteFa (decide_eq_false h0) ?_
      have : y = 0 := by omega
      subst this
      refine hE x 0 ?_
      have e : ((Int.gcd x 0 : Nat) : Int) = x := by rw [Int.gcd_zero_right]; omega
      rw [e] at q
      exact q
theorem p__law_lowest : ∀ xs Q, xs.length = 2 → R__law_lowest xs Q → T__law_lowest (endE Q) (xs ++ List.replicate (4 - xs.length) .un) := by
  intro xs Q hl h
  obtain ⟨⟨a, b⟩, rfl, ⟨h0, hb⟩, k⟩ := h
  show T__law_lowest (endE Q) [.d (.int a), .d (.int b), .un, .un]
  dsimp only at h0 hb k
  unfold T__law_lowest
  walk_at "dl"
  refine ⟨b.toNat + 1, ?_⟩
  have gle : Int.gcd a b ≤ b.natAbs := Int.gcd_le_natAbs_right a (by omega)
  have g0 : 0 < Int.gcd a b := Int.gcd_pos_of_ne_zero_right a (by omega)
  have ea : Int.gcd (absI a) b = Int.gcd a b := by
    have e : (absI a).natAbs = a.natAbs := by unfold absI; split <;> omega
    unfold Int.gcd
    rw [e]
  refine low_loop _ (fun x => x = Int.gcd a b) _ _ (fun x y hx => ?_) (b.toNat + 1) (absI a) b (absI_nn a) (by omega) (by omega) (by rw [ea])
  subst hx
  walk_at "dl"
  obtain ⟨h1, h2⟩ := fof_pos (p := a) h0
  refine ⟨⟨by omega, by omega⟩, ⟨by omega, by omega⟩, by decide, ?_⟩
  rw [h1, h2]
  exact k _ rfl
theorem p__law_common : ∀ xs Q, xs.length = 2 → R__law_common xs Q → T__law_common (endE Q) (xs ++ List.replicate (2 - xs.length) .un) := by
  intro xs Q hl h
  obtain ⟨⟨a, b⟩, rfl, ⟨h0, hb⟩, k⟩ := h
  show T__law_common (endE Q) [.d (.int a), .d (.int b)]
  dsimp only at h0 hb k
  unfold T__law_common
  walk_at "dl"
  exact ⟨b.toNat + 1, com_loop _ (fun z => Q (.int z)) (fun x y h => h) (b.toNat + 1) a b h0 hb (Nat.lt_succ_self _) (k _ rfl)⟩
theorem p__law_part : ∀ xs Q, xs.length = 2 → R__law_part xs Q → T__law_part (endE Q) (xs ++ List.replicate (2 - xs.length) .un) := by
  intro xs Q hl h
  obtain ⟨⟨t, n⟩, rfl, ⟨h0, hb⟩, k⟩ := h
  show T__law_part (endE Q) [.d (.int t), .d (.int n)]
  dsimp only at h0 hb k
  unfold T__law_part
  walk_at "dl"
  refine ⟨by omega, rfl, (_, _), rfl, ⟨h0, hb⟩, fun d hd => ?_⟩
  subst hd
  refine k _ ?_
  obtain ⟨m, rfl⟩ := Int.eq_ofNat_of_zero_le (Int.le_of_lt h0)
  dsimp only
  rw [Rat.divInt_ofNat, Rat.divInt_ofNat, fr_mk (by omega)]
  rfl
theorem p__law_sum : ∀ xs Q, xs.length = 2 → R__law_sum xs Q → T__law_sum (endE Q) (xs ++ List.replicate (2 - xs.length) .un) := by
  intro xs Q hl h
  obtain ⟨⟨x, y⟩, rfl, hb, k⟩ := h
  show T__law_sum (endE Q) [.d (qD x), .d (qD y)]
  unfold T__law_sum
  walk_at "dl"
  walk_at "at"
  have d1 : x.den < 1073741824 := mul_small hb (Rat.den_pos y)
  have d2 : y.den < 1073741824 := mul_small (Nat.mul_comm _ _ ▸ hb) (Rat.den_pos x)
  have dd : (x.den : Int) * (y.den : Int) = ((x.den * y.den : Nat) : Int) := by rw [Int.natCast_mul]
  have dp : 0 < x.den * y.den := Nat.mul_pos (Rat.den_pos x) (Rat.den_pos y)
  refine ⟨cm_r (by omega), cm_r (by omega), cm_r (by omega), rfl, (_, _), rfl, ⟨?_, ?_⟩, fun d hd => ?_⟩
  · dsimp only; rw [dd]; omega
  · dsimp only; rw [dd]; dsimp only at hb; omega
  · subst hd
    dsimp only
    rw [dd, Rat.divInt_ofNat, ← Rat.add_def']
    exact k _ rfl
theorem p__law_times : ∀ xs Q, xs.length = 2 → R__law_times xs Q → T__law_times (endE Q) (xs ++ List.replicate (2 - xs.length) .un) := by
  intro xs Q hl h
  obtain ⟨⟨x, y⟩, rfl, ⟨hb, hn⟩, k⟩ := h
  show T__law_times (endE Q) [.d (qD x), .d (qD y)]
  unfold T__law_times
  walk_at "dl"
  walk_at "at"
  have d1 : x.den < 1073741824 := mul_small hb (Rat.den_pos y)
  have dd : (x.den : Int) * (y.den : Int) = ((x.den * y.den : Nat) : Int) := by rw [Int.natCast_mul]
  have dp : 0 < x.den * y.den := Nat.mul_pos (Rat.den_pos x) (Rat.den_pos y)
  refine ⟨cm_l hn, cm_l (by omega), rfl, (_, _), rfl, ⟨?_, ?_⟩, fun d hd => ?_⟩
  · dsimp only; rw [dd]; omega
  · dsimp only; rw [dd]; dsimp only at hb; omega
  · subst hd
    dsimp only
    rw [dd, Rat.divInt_ofNat, ← Rat.mul_def']
    exact k _ rfl
theorem p__law_on : ∀ xs Q, xs.length = 2 → R__law_on xs Q → T__law_on (endE Q) (xs ++ List.replicate (2 - xs.length) .un) := by
  intro xs Q hl h
  obtain ⟨⟨x, y⟩, rfl, hb, k⟩ := h
  show T__law_on (endE Q) [.d (qD x), .d (qD y)]
  unfold T__law_on
  walk_at "dl"
  walk_at "at"
  have d1 : x.den < 1073741824 := mul_small hb (Rat.den_pos y)
  have d2 : y.den < 1073741824 := mul_small (Nat.mul_comm _ _ ▸ hb) (Rat.den_pos x)
  have dd : (x.den : Int) * (y.den : Int) = ((x.den * y.den : Nat) : Int) := by rw [Int.natCast_mul]
  have dp : 0 < x.den * y.den := Nat.mul_pos (Rat.den_pos x) (Rat.den_pos y)
  refine ⟨cm_r (by omega), cm_r (by omega), cm_r (by omega), rfl, (_, _), rfl, ⟨?_, ?_⟩, fun d hd => ?_⟩
  · dsimp only; rw [dd]; omega
  · dsimp only; rw [dd]; dsimp only at hb; omega
  · subst hd
    dsimp only
    rw [dd, Rat.divInt_ofNat, ← Rat.add_def']
    exact k _ rfl
theorem p__law_about : ∀ xs Q, xs.length = 1 → R__law_about xs Q → T__law_about (endE Q) (xs ++ List.replicate (1 - xs.length) .un) := by
  intro xs Q hl h
  obtain ⟨x, rfl, hb, k⟩ := h
  show T__law_about (endE Q) [.d (qD x)]
  unfold T__law_about
  walk_at "dl"
  walk_at "at"
  have hp := Rat.den_pos x
  have hne : 0 < (x.den : Int) := by omega
  have hlt : (x.den : Int) < 1073741824 := by omega
  refine ⟨trivial, rfl, (_, _), rfl, ⟨hne, hlt⟩, fun d hd => ?_⟩
  subst hd
  dsimp only
  rw [Int.zero_sub, ← Rat.neg_num, ← Rat.neg_den, Rat.num_divInt_den]
  exact k _ rfl
theorem p__law_pairs_of : ∀ xs Q, xs.length = 2 → R__law_pairs_of xs Q → T__law_pairs_of (endE Q) (xs ++ List.replicate (2 - xs.length) .un) := by
  intro xs Q hl h
  obtain ⟨⟨c, u⟩, rfl, hb, k⟩ := h
  show T__law_pairs_of (endE Q) [.d (qD c), .d (qD u)]
  unfold T__law_pairs_of
  walk_at "dl"
  refine ⟨by decide, rfl, u, rfl, hb, fun d hd => ?_⟩
  subst hd
  exact ⟨by decide, by decide, k _ rfl⟩
theorem p__law_is_int : ∀ xs Q, xs.length = 1 → R__law_is_int xs Q → T__law_is_int (endE Q) (xs ++ List.replicate (1 - xs.length) .un) := by
  intro xs Q hl h
  obtain ⟨x, rfl, -, k⟩ := h
  show T__law_is_int (endE Q) [.d x]
  unfold T__law_is_int
  walk_at "dl"
  have k' : Q (.bool (isiD (tyN x) "int" && !isiD (tyN x) "bool")) := k _ rfl
  refine iteC (fun h => ?_) fun h => ?_
  · rw [h, Bool.true_and] at k'; exact k'
  · rw [h, Bool.false_and] at k'
    rw [h]; exact k'
theorem p__law_of : ∀ xs Q, xs.length = 2 → R__law_of xs Q → T__law_of (endE Q) (xs ++ List.replicate (2 - xs.length) .un) := by
  intro xs Q hl h
  obtain ⟨l, rfl, ⟨h0, h1⟩, k⟩ := h
  show T__law_of (endE Q) [.src, .d (.list l)]
  unfold T__law_of
  walk_at "dl"
  refine ⟨rfl, (l.length : Int), rfl, (by show (l.length : Int) < 1073741824; omega), fun d hd => ?_⟩
  obtain ⟨j, rfl, j0, j1⟩ := hd
  dsimp only
  have hj : j.toNat < l.length := by omega
  have e : atI l j = some l[j.toNat] := by
    have := atI_nat (xs := l) (j := j.toNat) (v := l[j.toNat]) (List.getElem?_eq_getElem hj)
    rw [Int.toNat_of_nonneg j0] at this
    exact this
  rw [e]
  exact k _ (List.getElem_mem hj)
end TP
/-! S3: sizes of numbers; data that may be shown; papers. -/
namespace TP
open PySem PySem.Spec L2 DL
open PyProof.Rows hiding St

/-! coefficients: n / B, n not larger than M -/
def cb (B M : Nat) (x : Rat) : Prop := ∃ n : Int, x = mkRat n B ∧ n.natAbs ≤ M
section
variable {B M M' : Nat} {x y : Rat}
theorem cb.den (hB : 0 < B) (h : cb B M x) : x.den ∣ B := by
  obtain ⟨n, rfl, _⟩ := h
  exact mkRat_den_dvd hB
theorem cb.num (h : cb B M x) : x.num.natAbs ≤ M := by
  obtain ⟨n, rfl, hn⟩ := h
  rw [Rat.num_mkRat]
  split
  · simp
  · refine Nat.le_trans ?_ hn
    rw [Int.natAbs_ediv_of_dvd]
    · exact Nat.div_le_self _ _
    · exact Int.ofNat_dvd_left.mpr (Nat.gcd_dvd_right _ _)
theorem cb.add (hB : 0 < B) (h : cb B M x) (h' : cb B M' y) : cb B (M + M') (x + y) := by
  obtain ⟨n, rfl, hn⟩ := h
  obtain ⟨m, rfl, hm⟩ := h'
  exact ⟨n + m, mkRat_add_same hB, by omega⟩
theorem cb.neg (h : cb B M x) : cb B M (-x) := by
  obtain ⟨n, rfl, hn⟩ := h
  exact ⟨-n, by rw [Rat.neg_mkRat], by omega⟩
theorem cb.mono (h : cb B M x) (hm : M ≤ M') : cb B M' x := by
  obtain ⟨n, e, hn⟩ := h
  exact ⟨n, e, by omega⟩
theorem cb.zero (hB : 0 < B) : cb B 0 0 := ⟨0, by rw [Rat.zero_mkRat], by simp⟩
theorem cb.mul {B' : Nat} (h : cb B M x) (h' : cb B' M' y) : cb (B * B') (M * M') (x * y) := by
  obtain ⟨n, rfl, hn⟩ := h
  obtain ⟨m, rfl, hm⟩ := h'
  exact ⟨n * m, by rw [Rat.mkRat_mul_mkRat], by rw [Int.natAbs_mul]; exact Nat.mul_le_mul hn hm⟩
theorem cb.scale {k : Nat} (hk : 0 < k) (h : cb B M x) : cb (B * k) (M * k) x := by
  obtain ⟨n, rfl, hn⟩ := h
  exact ⟨n * k, by rw [Rat.mkRat_mul_right (by omega)], by rw [Int.natAbs_mul, Int.natAbs_natCast]; exact Nat.mul_le_mul_right k hn⟩
end
/-! what numOf holds -/
theorem getQ_cb {es : Nm} {B M : Nat} (hB : 0 < B) (h : ∀ e ∈ es, cb B M e.2) (k : Rat) : cb B M (valQ es k) := by
  unfold valQ
  cases g : getQ es k with
  | none => exact (cb.zero hB).mono (Nat.zero_le _)
  | some x => exact h _ (getQ_mem g)
theorem accQ_cb {es : Nm} {B M M' : Nat} (hB : 0 < B) (h : ∀ e ∈ es, cb B M' e.2) {e : Rat × Rat} (he : cb B M e.2) : ∀ z ∈ accQ es e, cb B (M' + M) z.2 := fun z hz => by
  unfold accQ putQ at hz
  have hv : cb B (M' + M) ((getQ es e.1).getD 0 + e.2) := (getQ_cb hB h e.1).add hB he
  split at hz
  · obtain ⟨p, hp, e'⟩ := List.mem_map.mp hz
    subst e'
    split
    · exact hv
    · exact (h p hp).mono (Nat.le_add_right _ _)
  · rcases List.mem_append.mp hz with q | q
    · exact (h z q).mono (Nat.le_add_right _ _)
    · rw [List.mem_singleton.mp q]; exact hv
theorem fold_cb {B M : Nat} (hB : 0 < B) : ∀ (l es : Nm) (M' : Nat), (∀ e ∈ l, cb B M e.2) → (∀ e ∈ es, cb B M' e.2) → ∀ z ∈ l.foldl accQ es, cb B (M' + l.length * M) z.2
  | [], es, M', _, h => fun z hz => (h z hz).mono (by simp)
  | e :: l, es, M', hl, h => fun z hz => by
    have h1 := fold_cb hB l (accQ es e) (M' + M) (fun z hz => hl z (List.mem_cons_of_mem _ hz)) (accQ_cb hB h (hl e List.mem_cons_self)) z hz
    refine h1.mono ?_
    rw [List.length_cons, Nat.add_mul, Nat.one_mul]; omega
theorem putQ_keys {es : Nm} {k v : Rat} : ∀ z ∈ putQ es k v, z.1 = k ∨ z.1 ∈ es.map (·.1) := fun z hz => by
  unfold putQ at hz
  split at hz
  · obtain ⟨p, hp, e'⟩ := List.mem_map.mp hz
    subst e'
    split
    · exact .inr (List.mem_map.mpr ⟨p, hp, rfl⟩)
    · exact .inr (List.mem_map.mpr ⟨p, hp, rfl⟩)
  · rcases List.mem_append.mp hz with q | q
    · exact .inr (List.mem_map.mpr ⟨z, q, rfl⟩)
    · rw [List.mem_singleton.mp q]; exact .inl rfl
theorem fold_keys : ∀ (l es : Nm), ∀ z ∈ l.foldl accQ es, z.1 ∈ l.map (·.1) ∨ z.1 ∈ es.map (·.1)
  | [], es, z, hz => .inr (List.mem_map.mpr ⟨z, hz, rfl⟩)
  | e :: l, es, z, hz => by
    rcases fold_keys l (accQ es e) z hz with q | q
    · exact .inl (List.mem_cons_of_mem _ q)
    · obtain ⟨p, hp, e'⟩ := List.mem_map.mp q
      rcases putQ_keys p hp with r | r
      · exact .inl (by rw [← e', r]; exact List.mem_cons_self)
      · exact .inr (by rw [← e']; exact r)
theorem numOf_mem {l : Nm} {z : Rat × Rat} (h : z ∈ numOf l) : z.1 ∈ l.map (·.1) ∧ z.2 = valQ (numDict l) z.1 ∧ z.2 ≠ 0 := by
  unfold numOf at h
  obtain ⟨k, hk, rfl⟩ := List.mem_map.mp h
  obtain ⟨h1, h2⟩ := List.mem_filter.mp hk
  refine ⟨?_, rfl, of_decide_eq_true h2⟩
  obtain ⟨p, hp, e⟩ := List.mem_map.mp ((sortQ_perm _).mem_iff.mp h1)
  rcases fold_keys l [] p hp with q | q
  · rw [← e]; exact q
  · cases q
theorem numOf_cb {l : Nm} {B M : Nat} (hB : 0 < B) (h : ∀ e ∈ l, cb B M e.2) : ∀ z ∈ numOf l, cb B (l.length * M) z.2 := fun z hz => by
  rw [(numOf_mem hz).2.1]
  refine getQ_cb hB (fun e he => ?_) _
  exact (fold_cb (M := M) hB l [] 0 h (by simp) e he).mono (by omega)
theorem numOf_len (l : Nm) : (numOf l).length ≤ l.length := by
  unfold numOf
  rw [List.length_map]
  refine Nat.le_trans (List.length_filter_le _ _) ?_
  rw [(sortQ_perm _).length_eq, List.length_map]
  have := foldAcc_len l []
  rw [List.length_nil] at this
  unfold numDict
  omega
/-! ### inputs -/
def partOk (u : Rat) : Prop := u.den < 10000 ∧ formLen u ≤ 1000 ∧ (fr (-u)).den < 10000 ∧ formLen (fr (-u)) ≤ 1000
structure okIn (a b c u v : Rat) : Prop where
  a : cb 24 1000 a
  b : cb 24 1000 b
  c : cb 24 1000 c
  un : u.num.natAbs < 1000000
  vn : v.num.natAbs < 1000000
  u : partOk u
  v : partOk v
theorem cosNum_cb (u : Rat) : ∀ z ∈ cosNum u, cb 2 2 z.2 := by
  have h : ∀ e ∈ [(u, mkRat 1 2), (fr (-u), mkRat 1 2)], cb 2 1 e.2 := fun e he => by
    rcases List.mem_cons.mp he with rfl | he
    · exact ⟨1, rfl, by decide⟩
    · rw [List.mem_singleton.mp he]; exact ⟨1, rfl, by decide⟩
  intro z hz
  exact numOf_cb (B := 2) (M := 1) (by decide) h z hz
theorem cosNum_part {u : Rat} : ∀ z ∈ cosNum u, z.1 = u ∨ z.1 = fr (-u) := fun z hz => by
  have := (numOf_mem hz).1
  simp only [List.map_cons, List.map_nil, List.mem_cons, List.not_mem_nil, or_false] at this
  exact this
theorem cosNum_len (u : Rat) : (cosNum u).length ≤ 2 := numOf_len _
theorem often_cb {a u : Rat} (h : cb 24 1000 a) : ∀ e ∈ (cosNum u).map (fun e => (e.1, a * e.2)), cb 48 2000 e.2 := fun e he => by
  obtain ⟨z, hz, rfl⟩ := List.mem_map.mp he
  exact h.mul (cosNum_cb u z hz)
theorem often_cb2 {a u : Rat} (h : cb 24 1000 a) : ∀ e ∈ often a (cosNum u), cb 48 4000 e.2 := fun e he => by
  have := numOf_cb (by decide) (often_cb (u := u) h) e he
  refine this.mono ?_
  rw [List.length_map]
  have := cosNum_len u
  omega
theorem often_part {a u : Rat} : ∀ z ∈ often a (cosNum u), z.1 = u ∨ z.1 = fr (-u) := fun z hz => by
  have := (numOf_mem hz).1
  rw [List.map_map] at this
  obtain ⟨y, hy, e⟩ := List.mem_map.mp this
  rw [← e]; exact cosNum_part y hy
theorem often_len (a u : Rat) : (often a (cosNum u)).length ≤ 2 := by
  have h1 := numOf_len ((cosNum u).map fun e => (e.1, a * e.2))
  rw [List.length_map] at h1
  have := cosNum_len u
  unfold often
  omega
section
variable {a b c u v : Rat}
theorem both_pre (h : okIn a b c u v) : ∀ e ∈ often a (cosNum u) ++ often b (cosNum v), cb 48 4000 e.2 := fun e he => by
  rcases List.mem_append.mp he with q | q
  · exact often_cb2 h.a e q
  · exact often_cb2 h.b e q
theorem both_cb (h : okIn a b c u v) : ∀ e ∈ bothNum a b u v, cb 48 16000 e.2 := fun e he => by
  refine (numOf_cb (by decide) (both_pre h) e he).mono ?_
  rw [List.length_append]
  have := often_len a u
  have := often_len b v
  omega
theorem both_len (a b u v : Rat) : (bothNum a b u v).length ≤ 4 := by
  refine Nat.le_trans (numOf_len _) ?_
  rw [List.length_append]
  have := often_len a u
  have := often_len b v
  omega
theorem both_part : ∀ z ∈ bothNum a b u v, (z.1 = u ∨ z.1 = fr (-u)) ∨ z.1 = v ∨ z.1 = fr (-v) := fun z hz => by
  have := (numOf_mem hz).1
  rw [List.map_append] at this
  rcases List.mem_append.mp this with q | q
  · obtain ⟨y, hy, e⟩ := List.mem_map.mp q
    rw [← e]; exact .inl (often_part y hy)
  · obtain ⟨y, hy, e⟩ := List.mem_map.mp q
    rw [← e]; exact .inr (often_part y hy)
theorem minus_cb (h : okIn a b c u v) : ∀ e ∈ numOf [((0 : Rat), -c)], cb 48 2000 e.2 ∧ e.1 = 0 := fun e he => by
  have h1 : ∀ z ∈ [((0 : Rat), -c)], cb 48 2000 z.2 := fun z hz => by
    rw [List.mem_singleton.mp hz]
    exact (h.c.neg).scale (k := 2) (by decide)
  refine ⟨(numOf_cb (by decide) h1 e he).mono (by simp), ?_⟩
  have := (numOf_mem he).1
  simpa using this
def preNum (a b c u v : Rat) : Nm := numOf (bothNum a b u v ++ numOf [(0, -c)])
theorem sum_cb (h : okIn a b c u v) : ∀ e ∈ bothNum a b u v ++ numOf [((0 : Rat), -c)], cb 48 16000 e.2 := fun e he => by
  rcases List.mem_append.mp he with q | q
  · exact both_cb h e q
  · exact (minus_cb h e q).1.mono (by decide)
theorem sum_len (a b c u v : Rat) : (bothNum a b u v ++ numOf [((0 : Rat), -c)]).length ≤ 5 := by
  rw [List.length_append]
  have h1 := both_len a b u v
  have h2 := numOf_len [((0 : Rat), -c)]
  have : [((0 : Rat), -c)].length = 1 := rfl
  omega
theorem pre_fOk (h : okIn a b c u v) : fOk (preNum a b c u v) ∧ (∀ e ∈ preNum a b c u v, cb 48 80000 e.2) ∧ (preNum a b c u v).length ≤ 5 := by
  have hl : (preNum a b c u v).length ≤ 5 := Nat.le_trans (numOf_len _) (sum_len a b c u v)
  have hc : ∀ e ∈ preNum a b c u v, cb 48 80000 e.2 := fun e he => by
    refine (numOf_cb (by decide) (sum_cb h) e he).mono ?_
    have := sum_len a b c u v
    omega
  refine ⟨⟨by omega, ⟨48, by decide, by decide, fun e he => (hc e he).den (by decide)⟩, fun e he => ?_⟩, hc, hl⟩
  have := (numOf_mem he).1
  rw [List.map_append] at this
  rcases List.mem_append.mp this with q | q
  · obtain ⟨y, hy, e'⟩ := List.mem_map.mp q
    rw [← e']
    rcases both_part y hy with (r | r) | (r | r)
    · rw [r]; exact ⟨by have := h.u.1; omega, h.u.2.1⟩
    · rw [r]; exact ⟨by have := h.u.2.2.1; omega, h.u.2.2.2⟩
    · rw [r]; exact ⟨by have := h.v.1; omega, h.v.2.1⟩
    · rw [r]; exact ⟨by have := h.v.2.2.1; omega, h.v.2.2.2⟩
  · obtain ⟨y, hy, e'⟩ := List.mem_map.mp q
    rw [← e', (minus_cb h y hy).2]
    exact ⟨by decide, by decide⟩
end
end TP
/-! S4: data that may be shown; papers. -/
namespace TP
open PySem PySem.Spec L2 DL
open PyProof.Rows hiding St

mutual
/-- leaves of bounded size, dicts empty -/
def lf : D → Bool
  | .none => true
  | .bool _ => true
  | .int i => decide (i.natAbs < 10 ^ 40)
  | .str x => PyData.canLay0 (.str x) && x.cps.toList.all fun c => decide (c < 16 ^ 8)
  | .list ds => lfA ds
  | .tuple ds => lfA ds
  | .dict es => es.isEmpty
def lfA : List D → Bool
  | [] => true
  | d :: ds => lf d && lfA ds
end
mutual
theorem lf_short : ∀ d : D, lf d = true → d.leavesShort 64 = true ∧ d.showable = true
  | .none, _ => ⟨rfl, rfl⟩
  | .bool _, _ => ⟨rfl, rfl⟩
  | .int i, h => by
    have h' : i.natAbs < 10 ^ 40 := by simpa [lf] using h
    have e := int_text_length_le10 (a := i) (k := 40) (by decide) h'
    refine ⟨?_, ?_⟩
    · simp only [PyData.leavesShort, decide_eq_true_eq]
      show (Str.ofString (toString i)).length ≤ 64
      rw [PySem.ofString_length]
      exact Nat.le_trans e (by decide)
    · simp only [PyData.showable, decide_eq_true_eq]
      by_cases h0 : i.natAbs = 0
      · rw [h0]; decide
      · refine (Nat.log2_lt h0).mpr (Nat.lt_of_lt_of_le h' ?_)
        exact Nat.le_trans (show 10 ^ 40 ≤ 2 ^ 140 by decide) (Nat.pow_le_pow_right (by decide) (by decide))
  | .str x, h => by
    simp only [lf, Bool.and_eq_true] at h
    exact ⟨by simp only [PyData.leavesShort]; exact h.2, rfl⟩
  | .list ds, h => by
    obtain ⟨a, b⟩ := lfA_short ds (by simpa only [lf] using h)
    exact ⟨by simpa only [PyData.leavesShort] using a, by simpa only [PyData.showable] using b⟩
  | .tuple ds, h => by
    obtain ⟨a, b⟩ := lfA_short ds (by simpa only [lf] using h)
    exact ⟨by simpa only [PyData.leavesShort] using a, by simpa only [PyData.showable] using b⟩
  | .dict es, h => by
    have h' : es.isEmpty = true := by simpa only [lf] using h
    have : es = [] := List.isEmpty_iff.mp h'
    subst this
    exact ⟨rfl, rfl⟩
theorem lfA_short : ∀ ds : List D, lfA ds = true → PyData.leavesShortAll 64 ds = true ∧ PyData.showableAll ds = true
  | [], _ => ⟨rfl, rfl⟩
  | d :: ds, h => by
    simp only [lfA, Bool.and_eq_true] at h
    obtain ⟨a, b⟩ := lf_short d h.1
    obtain ⟨a', b'⟩ := lfA_short ds h.2
    exact ⟨by simp only [PyData.leavesShortAll, a, a', Bool.and_self], by simp only [PyData.showableAll, b, b', Bool.and_self]⟩
end
structure vOk (d : D) : Prop where
  dc : nod d = true ∨ nol d = true
  lf : lf d = true
  bulk : d.bulk ≤ 100000
  dep : d.depth ≤ 40
theorem vOk.r {d : D} (h : vOk d) : rOk 0 d := by
  obtain ⟨a, b⟩ := lf_short d h.lf
  refine ⟨h.dc, b, by have := h.dep; omega, ?_⟩
  have := PyData.shown_le_bulk 64 (by decide) d a
  have := h.bulk
  omega
theorem nodA_mem : ∀ {ds : List D} {x : D}, nodA ds = true → x ∈ ds → nod x = true
  | d :: ds, x, h, m => by
    simp only [nodA, Bool.and_eq_true] at h
    rcases List.mem_cons.mp m with e | e
    · subst e; exact h.1
    · exact nodA_mem h.2 e
theorem nolA_mem : ∀ {ds : List D} {x : D}, nolA ds = true → x ∈ ds → nol x = true
  | d :: ds, x, h, m => by
    simp only [nolA, Bool.and_eq_true] at h
    rcases List.mem_cons.mp m with e | e
    · subst e; exact h.1
    · exact nolA_mem h.2 e
theorem lfA_mem : ∀ {ds : List D} {x : D}, lfA ds = true → x ∈ ds → lf x = true
  | d :: ds, x, h, m => by
    simp only [lfA, Bool.and_eq_true] at h
    rcases List.mem_cons.mp m with e | e
    · subst e; exact h.1
    · exact lfA_mem h.2 e
theorem bulk_mem : ∀ {ds : List D} {x : D}, x ∈ ds → x.bulk ≤ PyData.bulkAll ds
  | d :: ds, x, m => by
    simp only [PyData.bulkAll]
    rcases List.mem_cons.mp m with e | e
    · subst e; omega
    · have := bulk_mem e; omega
theorem dep_mem : ∀ {ds : List D} {x : D}, x ∈ ds → x.depth ≤ PyData.depthAll ds
  | d :: ds, x, m => by
    simp only [PyData.depthAll]
    rcases List.mem_cons.mp m with e | e
    · subst e; omega
    · have := dep_mem e; omega
theorem vOk.item {ds : List D} {x : D} (h : vOk (.tuple ds)) (m : x ∈ ds) : vOk x := by
  refine ⟨?_, ?_, ?_, ?_⟩
  · rcases h.dc with q | q
    · exact .inl (nodA_mem (by simpa only [nod] using q) m)
    · exact .inr (nolA_mem (by simpa only [nol] using q) m)
  · exact lfA_mem (by have := h.lf; simpa only [TP.lf] using this) m
  · have h1 := bulk_mem m
    have h2 := h.bulk
    simp only [PyData.bulk] at h2
    omega
  · have h1 := dep_mem m
    have h2 := h.dep
    simp only [PyData.depth] at h2
    omega
/-! a told number may be shown -/
theorem nod_nm (l : Nm) : nod (tD l) = true := nod_sh (sh_tD l)
def ntOk (l : Nm) : Prop := l.length ≤ 5000 ∧ ∀ e ∈ l, e.1.num.natAbs < 10 ^ 20 ∧ e.1.den < 10 ^ 20 ∧ e.2.num.natAbs < 10 ^ 20 ∧ e.2.den < 10 ^ 20
theorem lf_nm : ∀ {l : Nm}, (∀ e ∈ l, e.1.num.natAbs < 10 ^ 20 ∧ e.1.den < 10 ^ 20 ∧ e.2.num.natAbs < 10 ^ 20 ∧ e.2.den < 10 ^ 20) → lfA (l.map eD) = true ∧ PyData.bulkAll (l.map eD) ≤ 10 * l.length
  | [], _ => ⟨rfl, Nat.le_refl _⟩
  | e :: l, h => by
    obtain ⟨a, b⟩ := lf_nm fun z hz => h z (List.mem_cons_of_mem _ hz)
    obtain ⟨h1, h2, h3, h4⟩ := h e List.mem_cons_self
    have t : ∀ n : Nat, n < 10 ^ 20 → n < 10 ^ 40 := fun n hn => Nat.lt_of_lt_of_le hn (by decide)
    rw [List.map_cons]
    refine ⟨?_, ?_⟩
    · have e1 : lf (eD e) = true := by
        simp only [eD, qD, lf, lfA, Bool.and_true, Bool.and_eq_true, decide_eq_true_eq, Int.natAbs_natCast]
        exact ⟨⟨t _ h1, t _ h2⟩, ⟨t _ h3, t _ h4⟩⟩
      simp only [lfA, e1, a, Bool.and_self]
    · have e2 : (eD e).bulk = 6 := rfl
      simp only [PyData.bulkAll, e2, List.length_cons]
      omega
theorem ntOk.v {l : Nm} (h : ntOk l) : vOk (tD l) := by
  obtain ⟨a, b⟩ := lf_nm h.2
  refine ⟨.inl (nod_nm l), by unfold tD; simpa only [TP.lf] using a, ?_, ?_⟩
  · unfold tD; simp only [PyData.bulk]; have := h.1; omega
  · unfold tD; simp only [PyData.depth]; have := (sh_all l).2; omega
end TP
/-! S5: papers. -/
namespace TP
open PySem PySem.Spec L2 DL
open PyProof.Rows hiding St

theorem fr_num (x : Rat) : (fr x).num.natAbs ≤ x.den := by
  have hp := Rat.den_pos x
  have h1 := Int.fmod_nonneg_of_pos x.num (b := (x.den : Int)) (by omega)
  have h2 := Int.fmod_lt_of_pos x.num (b := (x.den : Int)) (by omega)
  have : cb x.den x.den (fr x) := ⟨_, rfl, by omega⟩
  exact this.num
def pOk (D0 : Nat) (r : Rat) : Prop := r.den ∣ D0 ∧ r.num.natAbs < 10 ^ 12
theorem formGo_part {D0 : Nat} (hD : 0 < D0) (hD2 : D0 < 10000) : ∀ (ps : List Int) (here : Nm), (∀ p ∈ ps, 2 ≤ p ∧ p.toNat ∣ D0) → (∀ e ∈ here, pOk D0 e.1) → ∀ e ∈ formGo ps here, pOk D0 e.1
  | [], here, _, h => h
  | p :: ps, here, hp, h => by
    show ∀ e ∈ formGo ps (roundAll p here), _
    refine formGo_part hD hD2 ps _ (fun z hz => hp z (List.mem_cons_of_mem _ hz)) fun e he => ?_
    unfold roundAll at he
    obtain ⟨e0, h0, he⟩ := List.mem_flatMap.mp he
    obtain ⟨x, hx, rfl⟩ := List.mem_map.mp he
    obtain ⟨p1, p2⟩ := hp p List.mem_cons_self
    refine ⟨partsRound_den hD (h e0 h0).1 (by omega) p2 x hx, ?_⟩
    unfold partsRound at hx
    obtain ⟨i, _, e'⟩ := List.mem_map.mp hx
    have hn := fr_num (e0.1 + fr (Rat.divInt (1 + (i : Int)) p))
    have hd : (e0.1 + fr (Rat.divInt (1 + (i : Int)) p)).den ∣ D0 := den_add_dvd hD (h e0 h0).1 (Nat.dvd_trans (fr_den_dvd _) (Nat.dvd_trans (den_divInt_dvd (by omega)) p2))
    have hd2 := Nat.le_of_dvd hD hd
    show x.num.natAbs < 10 ^ 12
    rw [← e']
    have : (10 : Nat) ^ 12 = 1000000000000 := by decide
    omega
theorem formGo_cb {B M : Nat} : ∀ (ps : List Int) (here : Nm), (∀ e ∈ here, cb B M e.2) → ∀ e ∈ formGo ps here, cb B M e.2
  | [], here, h => h
  | p :: ps, here, h => by
    show ∀ e ∈ formGo ps (roundAll p here), _
    refine formGo_cb ps _ fun e he => ?_
    unfold roundAll at he
    obtain ⟨e0, h0, he⟩ := List.mem_flatMap.mp he
    obtain ⟨x, hx, rfl⟩ := List.mem_map.mp he
    exact (h e0 h0).neg
theorem formOne_ok {e : Rat × Rat} {M : Nat} (h1 : e.1.den < 10000) (h2 : e.1.num.natAbs < 10 ^ 12) (h3 : cb 48 M e.2) : ∀ z ∈ formOne e, z.1.den < 10000 ∧ z.1.num.natAbs < 10 ^ 12 ∧ cb 48 M z.2 := fun z hz => by
  have hp := Rat.den_pos e.1
  obtain ⟨a, b⟩ := formGo_part hp h1 (loosePrimes e.1) [e] (fun p hp => loose_mem hp) (fun y hy => by rw [List.mem_singleton.mp hy]; exact ⟨Nat.dvd_refl _, h2⟩) z hz
  have c := formGo_cb (loosePrimes e.1) [e] (fun y hy => by rw [List.mem_singleton.mp hy]; exact h3) z hz
  have := Nat.le_of_dvd hp a
  exact ⟨by omega, b, c⟩
theorem nt_of {l : Nm} {M : Nat} (hl : l.length ≤ 5) (hM : M ≤ 1000000) (h : ∀ e ∈ l, e.1.den < 10000 ∧ e.1.num.natAbs < 10 ^ 12 ∧ formLen e.1 ≤ 1000 ∧ cb 48 M e.2) : ntOk (numForm l) := by
  have hfl := forms_len fun e he => (h e he).2.2.1
  have hz : ∀ z ∈ l.flatMap formOne, z.1.den < 10000 ∧ z.1.num.natAbs < 10 ^ 12 ∧ cb 48 M z.2 := fun z hz => by
    obtain ⟨e0, h0, he⟩ := List.mem_flatMap.mp hz
    obtain ⟨a, b, _, d⟩ := h e0 h0
    exact formOne_ok a b d z he
  have hlen := numOf_len (l.flatMap formOne)
  refine ⟨by show (numOf _).length ≤ 5000; omega, fun e he => ?_⟩
  have hc := numOf_cb (by decide) (fun z h => (hz z h).2.2) e he
  obtain ⟨y, hy, e'⟩ := List.mem_map.mp (numOf_mem he).1
  obtain ⟨a, b, _⟩ := hz y hy
  have hn := hc.num
  have hd := Nat.le_of_dvd (by decide) (hc.den (by decide))
  have hb : (l.flatMap formOne).length * M ≤ 5000 * 1000000 := Nat.mul_le_mul (by omega) hM
  rw [e'] at a b
  have e12 : (10 : Nat) ^ 12 = 1000000000000 := by decide
  have e20 : (10 : Nat) ^ 20 = 100000000000000000000 := by decide
  rw [e12] at b
  rw [e20]
  omega
theorem told_nt {a b c u v : Rat} (h : okIn a b c u v) : ntOk (pairNum a b c u v) := by
  obtain ⟨⟨h1, h2, h3⟩, h4, h5⟩ := pre_fOk h
  refine nt_of (l := preNum a b c u v) (M := 80000) h5 (by decide) fun e he => ?_
  have hq : e.1.den < 10000 ∧ e.1.num.natAbs < 10 ^ 12 := by
    have e12 : (10 : Nat) ^ 12 = 1000000000000 := by decide
    rw [e12]
    have hfu := fr_num (-u)
    have hfv := fr_num (-v)
    have hdu : (-u).den = u.den := rfl
    have hdv : (-v).den = v.den := rfl
    have q0 := (numOf_mem he).1
    rw [List.map_append] at q0
    have := h.u.1; have := h.u.2.2.1; have := h.v.1; have := h.v.2.2.1; have := h.un; have := h.vn
    rcases List.mem_append.mp q0 with q | q
    · obtain ⟨y, hy, e'⟩ := List.mem_map.mp q
      rw [← e']
      rcases both_part y hy with (r | r) | (r | r)
      · rw [r]; omega
      · rw [r]; omega
      · rw [r]; omega
      · rw [r]; omega
    · obtain ⟨y, hy, e'⟩ := List.mem_map.mp q
      rw [← e', (minus_cb h y hy).2]
      exact ⟨by decide, by decide⟩
  exact ⟨hq.1, hq.2, (h3 e he).2, h4 e he⟩
theorem okIn.sm {x : Rat} (h : cb 24 1000 x) : smQ x := by
  have h1 := Nat.le_of_dvd (by decide) (h.den (by decide))
  have h2 := h.num
  exact ⟨by omega, by omega⟩
/-! ### promises -/
def d_KINDS : D := .tuple [.str "fractions", .str "line", .str "five"]
def e5 (i : Rat × Rat × Rat × Rat × Rat) : List DL.Slot := [.d (qD i.1), .d (qD i.2.1), .d (qD i.2.2.1), .d (qD i.2.2.2.1), .d (qD i.2.2.2.2)]
def R_pair_number : Pm := RI (I := Rat × Rat × Rat × Rat × Rat) e5 (fun i => okIn i.1 i.2.1 i.2.2.1 i.2.2.2.1 i.2.2.2.2) (fun i d => d = tD (pairNum i.1 i.2.1 i.2.2.1 i.2.2.2.1 i.2.2.2.2))
theorem mono_pair_number : MonoP R_pair_number := ri_mono
def R_pair_paper : Pm := RI (I := Rat × Rat × Rat × Rat × Rat) e5 (fun i => okIn i.1 i.2.1 i.2.2.1 i.2.2.2.1 i.2.2.2.2) (fun i d => d = paperD i.1 i.2.1 i.2.2.1 i.2.2.2.1 i.2.2.2.2)
theorem mono_pair_paper : MonoP R_pair_paper := ri_mono
def kShown : List Str := [reprText "fractions", reprText "line", reprText "five"]
/-- the first fault of w, as the document tells: form, number, kind -/
def formD : D := .tuple [.str "form"]
def dueNum (told : Nm) (x : D) : D := if told = [] ∨ x.shown ≠ (tD told).shown then .tuple [.str "number", tD told] else .none
def dueFit (told : Nm) (k : D) (x : D) : D := if told ≠ [] then .tuple [.str "number", tD told] else if PyData.eqv x k = true then .none else .tuple [.str "kind", k]
def dueD (told : Nm) (k : D) (w : D) : D := match w with
  | .tuple [.str s, x] => if s = "off" then dueNum told x else if s = "fits" ∧ x.shown ∈ kShown then dueFit told k x else formD
  | _ => formD
def R_judge_pair : Pm := RI (I := (Rat × Rat × Rat × Rat × Rat) × D) (fun i => e5 i.1 ++ [.d i.2]) (fun i => okIn i.1.1 i.1.2.1 i.1.2.2.1 i.1.2.2.2.1 i.1.2.2.2.2 ∧ vOk i.2)
  (fun i d => d = dueD (pairNum i.1.1 i.1.2.1 i.1.2.2.1 i.1.2.2.2.1 i.1.2.2.2.2) (kindD (kindOf i.1.1 i.1.2.1 i.1.2.2.1 i.1.2.2.2.1 i.1.2.2.2.2)) i.2)
theorem mono_judge_pair : MonoP R_judge_pair := ri_mono
end TP
/-! T5: the readings of cosinepapers (printed by emit.py). -/
namespace TP
open PySem PySem.Spec L2 DL
open PyProof.Rows hiding St
def T_pair_number : ST :=
  (sSeq (sAsg (dCall 2 R_number_sum (aCons (sD (dCall 2 R_number_often (aCons (sD (dVar 0)) (aCons (sD (dCall 1 R_cos_number (aCons (sD (dVar 3)) aNil))) aNil)))) (aCons (sD (dCall 2 R_number_often (aCons (sD (dVar 1)) (aCons (sD (dCall 1 R_cos_number (aCons (sD (dVar 4)) aNil))) aNil)))) aNil))) (gtName 5))
  (sRet (dCall 1 R_number_form (aCons (sD (dCall 2 R_number_sum (aCons (sD (dVar 5)) (aCons (sD (dCall 1 R_number_of (aCons (sD (dLst (aCons (dTup (aCons (dTup (aCons (dC (.int 0)) (aCons (dC (.int 1)) aNil))) (aCons (dCall 1 R_fraction_turned (aCons (sD (dVar 2)) aNil)) aNil))) aNil))) aNil))) aNil)))) aNil))))
def T_pair_paper : ST :=
  (sSeq (sAsg (dCall 5 R_pair_kind (aCons (sD (dVar 0)) (aCons (sD (dVar 1)) (aCons (sD (dVar 2)) (aCons (sD (dVar 3)) (aCons (sD (dVar 4)) aNil)))))) (gtName 5))
  (sRet (dIf (bT (dOp kNotN (dVar 5) (dC .none))) (dTup (aCons (dC (.str "fits")) (aCons (dVar 5) aNil))) (dTup (aCons (dC (.str "off")) (aCons (dCall 5 R_pair_number (aCons (sD (dVar 0)) (aCons (sD (dVar 1)) (aCons (sD (dVar 2)) (aCons (sD (dVar 3)) (aCons (sD (dVar 4)) aNil)))))) aNil))))))
def T_judge_pair : ST :=
  (sSeq (sIf (bOr (bNot (bT (dIsi "tuple" (dVar 5)))) (bOr (bT (dOp kNe (dCB kLen (aCons (dVar 5) aNil)) (dC (.int 2)))) (bNot (bT (dIsi "str" (dOp kIx (dVar 5) (dC (.int 0)))))))) (sRet (dTup (aCons (dC (.str "form")) aNil))) sNext)
  (sSeq (sIf (bOr (bT (dOp kNotIn (dOp kIx (dVar 5) (dC (.int 0))) (dTup (aCons (dC (.str "fits")) (aCons (dC (.str "off")) aNil))))) (bAnd (bT (dOp kEq (dOp kIx (dVar 5) (dC (.int 0))) (dC (.str "fits")))) (bT (dOp (kInS true) (dRepr (dOp kIx (dVar 5) (dC (.int 1)))) (dLc (iSeqC (dC d_KINDS)) (gtName 6) bYes (dRepr (dVar 6)) [6]))))) (sRet (dTup (aCons (dC (.str "form")) aNil))) sNext)
  (sSeq (sAsg (dCall 5 R_pair_number (aCons (sD (dVar 0)) (aCons (sD (dVar 1)) (aCons (sD (dVar 2)) (aCons (sD (dVar 3)) (aCons (sD (dVar 4)) aNil)))))) (gtName 7))
  (sSeq (sIf (bT (dOp kEq (dOp kIx (dVar 5) (dC (.int 0))) (dC (.str "off")))) (sRet (dIf (bOr (bT (dOp kEq (dVar 7) (dTup aNil))) (bT (dOp kNeS (dRepr (dOp kIx (dVar 5) (dC (.int 1)))) (dRepr (dVar 7))))) (dTup (aCons (dC (.str "number")) (aCons (dVar 7) aNil))) (dC .none))) sNext)
  (sSeq (sIf (bT (dOp kNe (dVar 7) (dTup aNil))) (sRet (dTup (aCons (dC (.str "number")) (aCons (dVar 7) aNil)))) sNext)
  (sSeq (sAsg (dCall 5 R_pair_kind (aCons (sD (dVar 0)) (aCons (sD (dVar 1)) (aCons (sD (dVar 2)) (aCons (sD (dVar 3)) (aCons (sD (dVar 4)) aNil)))))) (gtName 6))
  (sRet (dIf (bT (dOp kNe (dOp kIx (dVar 5) (dC (.int 1))) (dVar 6))) (dTup (aCons (dC (.str "kind")) (aCons (dVar 6) aNil))) (dC .none)))))))))
end TP
/-! P5: the readings of cosinepapers keep their promises. -/
namespace TP
open PySem PySem.Spec L2 DL
open PyProof.Rows hiding St
local macro_rules | `(tactic| walk_at "dl") => `(tactic| dsimp only [sSeq, sPar, sPar3, sParL, sParB, sParD, sNext, sRet, sRetN, sIf, sAsg, sAsgO, ownD, sFz, fz, sAppend, sExtend, sPut, sNewD, sDispT, psNil, psCons, endE,
  aCons, aNil, aStar, dVar, wVar, rVar, dC, dOp, dUn, dIf, dAnd, dOr, dNot, dTup, dLst, dCB, dCall, dLc, dSl, dRepr, dIsi, dGet, dGet2, dSortD, pNo, pSo, sD, sB, sVar, iSeq, iSeqC, iRg1, iRg2, ieOf, ieP,
  bT, bTru, bAnd, bOr, bNot, bYes, gtName, gtTup, gtCons, gtNil, kTru, kI, kI1, kI2, kInt, kLen, kSub, kMul, kDiv, kMod, kLt, kLe, kGt, kGe, kEq, kNe, kAdd, kCat, kIn, kNotIn, kIsN, kNotN, kIx, kIxS, kNeg, kTupO, kLst, kRev, kRevL, kSl, kSlL, kMinL, isNone,
  wipeE, List.getElem?_cons_zero, List.getElem?_cons_succ, List.set_cons_zero, List.set_cons_succ, List.length_cons, List.length_nil, List.cons_append, List.nil_append, List.replicate_succ, List.replicate_zero, Nat.sub_self, List.append_nil])
section
variable {a b c u v : Rat} (h : okIn a b c u v)
theorem dOk_of {l : Nm} {M : Nat} (hl : l.length ≤ 1000000) (h : ∀ e ∈ l, cb 48 M e.2) : dOk l := ⟨hl, 48, by decide, by decide, fun e he => (h e he).den (by decide)⟩
include h
theorem often_ok : smQ a ∧ (∀ e ∈ cosNum u, e.2.den < 10000) ∧ dOk ((cosNum u).map fun e => (e.1, a * e.2)) := by
  refine ⟨okIn.sm h.a, fun e he => ?_, dOk_of ?_ (often_cb h.a)⟩
  · have := Nat.le_of_dvd (by decide) ((cosNum_cb u e he).den (by decide))
    omega
  · rw [List.length_map]; have := cosNum_len u; omega
theorem often_ok2 : smQ b ∧ (∀ e ∈ cosNum v, e.2.den < 10000) ∧ dOk ((cosNum v).map fun e => (e.1, b * e.2)) := by
  refine ⟨okIn.sm h.b, fun e he => ?_, dOk_of ?_ (often_cb h.b)⟩
  · have := Nat.le_of_dvd (by decide) ((cosNum_cb v e he).den (by decide))
    omega
  · rw [List.length_map]; have := cosNum_len v; omega
theorem both_ok : dOk (often a (cosNum u) ++ often b (cosNum v)) := by
  refine dOk_of ?_ (both_pre h)
  rw [List.length_append]
  have := often_len a u
  have := often_len b v
  omega
theorem sum_ok : dOk (bothNum a b u v ++ numOf [((0 : Rat), -c)]) := dOk_of (by have := sum_len a b c u v; omega) (sum_cb h)
/-- both, as the text builds it -/
theorem both_built {Q : D → Prop} (k : Q (tD (bothNum a b u v))) : 0 + 1 = 1 ∧ R_cos_number [.d (qD u)] fun d => 0 + 1 + 1 = 2 ∧ R_number_often [.d (qD a), .d d] fun d => 0 + 1 = 1 ∧ R_cos_number [.d (qD v)] fun d_1 =>
    0 + 1 + 1 = 2 ∧ R_number_often [.d (qD b), .d d_1] fun d_1 => 0 + 1 + 1 = 2 ∧ R_number_sum [.d d, .d d_1] Q := by
  have hu := h.u.1
  have hv := h.v.1
  refine ⟨rfl, u, rfl, by dsimp only; omega, fun d hd => ?_⟩
  subst hd
  refine ⟨rfl, (a, cosNum u), rfl, often_ok h, fun d hd => ?_⟩
  subst hd
  refine ⟨rfl, v, rfl, by dsimp only; omega, fun d hd => ?_⟩
  subst hd
  refine ⟨rfl, (b, cosNum v), rfl, often_ok2 h, fun d hd => ?_⟩
  subst hd
  refine ⟨rfl, (often a (cosNum u), often b (cosNum v)), rfl, both_ok h, fun d hd => ?_⟩
  subst hd
  exact k
end
theorem use_sum {a b : Nm} {Q : D → Prop} (h : dOk (a ++ b)) (k : Q (tD (numOf (a ++ b)))) : R_number_sum [.d (tD a), .d (tD b)] Q := ⟨(a, b), rfl, h, fun d hd => by subst hd; exact k⟩
theorem use_form {a : Nm} {Q : D → Prop} (h : fOk a) (k : Q (tD (numForm a))) : R_number_form [.d (tD a)] Q := ⟨a, rfl, h, fun d hd => by subst hd; exact k⟩
theorem p_pair_number : ∀ xs Q, xs.length = 5 → R_pair_number xs Q → T_pair_number (endE Q) (xs ++ List.replicate (6 - xs.length) .un) := by
  intro xs Q hl h
  obtain ⟨⟨a, b, c, u, v⟩, rfl, h1, k⟩ := h
  show T_pair_number (endE Q) [.d (qD a), .d (qD b), .d (qD c), .d (qD u), .d (qD v), .un]
  dsimp only at h1 k
  unfold T_pair_number
  walk_at "dl"
  refine both_built h1 ?_
  refine ⟨by decide, rfl, c, rfl, trivial, fun d hd => ?_⟩
  subst hd
  refine ⟨by decide, by decide, rfl, (false, [(0, -c)]), rfl, dOk_of (M := 2000) (by show 1 ≤ 1000000; decide) (fun z hz => ?_), fun d hd => ?_⟩
  · rw [List.mem_singleton.mp hz]
    exact (h1.c.neg).scale (k := 2) (by decide)
  · subst hd
    have hs := sum_ok h1
    have hp := (pre_fOk h1).1
    refine ⟨rfl, use_sum hs ⟨rfl, use_form hp ?_⟩⟩
    exact k _ rfl
theorem kind_pre {a b c u v : Rat} (h : okIn a b c u v) : smQ a ∧ smQ b ∧ u.den < 10000 ∧ v.den < 10000 := ⟨okIn.sm h.a, okIn.sm h.b, h.u.1, h.v.1⟩
theorem p_pair_paper : ∀ xs Q, xs.length = 5 → R_pair_paper xs Q → T_pair_paper (endE Q) (xs ++ List.replicate (6 - xs.length) .un) := by
  intro xs Q hl h
  obtain ⟨⟨a, b, c, u, v⟩, rfl, h1, k⟩ := h
  show T_pair_paper (endE Q) [.d (qD a), .d (qD b), .d (qD c), .d (qD u), .d (qD v), .un]
  dsimp only at h1 k
  unfold T_pair_paper
  walk_at "dl"
  refine ⟨rfl, (a, b, c, u, v), rfl, kind_pre h1, fun d hd => ?_⟩
  subst hd
  have k' : Q (paperD a b c u v) := k _ rfl
  unfold paperD at k'
  dsimp only
  cases hk : kindOf a b c u v with
  | none =>
    rw [hk] at k'
    refine iteFa rfl ⟨rfl, (a, b, c, u, v), rfl, h1, fun d hd => ?_⟩
    subst hd
    exact ⟨by decide, k'⟩
  | some z =>
    rw [hk] at k'
    exact iteTr rfl ⟨by decide, k'⟩
/-! judge_pair -/
def hd (x : Str) : Option Nat := x.cps.toList.head?
theorem hd_app {a b : Str} {c : Nat} (h : hd a = some c) : hd (a ++ b) = some c := by
  have e : (a ++ b).cps.toList = a.cps.toList ++ b.cps.toList := by
    show (a.cps ++ b.cps).toList = _
    rw [Array.toList_append]
  unfold hd at *
  rw [e]
  cases hl : a.cps.toList with
  | nil => rw [hl] at h; cases h
  | cons z r => rw [hl] at h; exact h
theorem hd_from : ∀ (ts : List Str) (k : Nat) (acc : Str) (c : Nat), hd acc = some c → hd (textFrom k acc ts) = some c
  | [], k, acc, c, h => h
  | t :: ts, k, acc, c, h => by
    unfold textFrom
    exact hd_from ts _ _ c (hd_app (hd_app h))
theorem hd_list (ts : List Str) : hd (listText ts) = some 91 := by
  unfold listText
  exact hd_app (hd_from ts 0 "[" 91 rfl)
theorem hd_tuple (ts : List Str) : hd (tupleText ts) = some 40 := by
  unfold tupleText
  exact hd_app (hd_app rfl)
theorem hd_dict (ts : List Str) : hd (dictText ts) = some 123 := by
  unfold dictText
  exact hd_app (hd_app rfl)
theorem hd_k {x : Str} (h : x ∈ kShown) : hd x = some 39 := by
  unfold kShown at h
  simp only [List.mem_cons, List.not_mem_nil, or_false] at h
  rcases h with rfl | rfl | rfl <;> decide +kernel
theorem sh_scal {x : D} (h : lf x = true) (hk : x.shown ∈ kShown) : SeqAt.shaped x = true := by
  have h39 := hd_k hk
  cases x with
  | none => rfl
  | bool b => rfl
  | int i => rfl
  | str s =>
    simp only [lf, Bool.and_eq_true] at h
    unfold SeqAt.shaped
    rw [h.1]; rfl
  | list ds => rw [show (PyData.list ds).shown = listText (PyData.shownAll ds) by simp only [PyData.shown], hd_list] at h39; cases h39
  | tuple ds => rw [show (PyData.tuple ds).shown = tupleText (PyData.shownAll ds) by simp only [PyData.shown], hd_tuple] at h39; cases h39
  | dict es => rw [show (PyData.dict es).shown = dictText (PyData.shownKv es) by simp only [PyData.shown], hd_dict] at h39; cases h39
theorem sh_str {s : Str} (h : lf (.str s) = true) : SeqAt.shaped (.str s) = true := by
  simp only [lf, Bool.and_eq_true] at h
  unfold SeqAt.shaped
  rw [h.1]; rfl
theorem rOk_kind (s : Str) (h : s = "fractions" ∨ s = "line" ∨ s = "five") : rOk 0 (.str s) := by
  rcases h with rfl | rfl | rfl
  · exact ⟨.inl rfl, rfl, by decide, by decide +kernel⟩
  · exact ⟨.inl rfl, rfl, by decide, by decide +kernel⟩
  · exact ⟨.inl rfl, rfl, by decide, by decide +kernel⟩
theorem eqvS (a b : Str) : PyData.eqv (.str a) (.str b) = decide (a = b) := by
  simp only [PyData.eqv]
  by_cases h : a = b
  · subst h; simp
  · rw [decide_eq_false h]; exact beq_eq_false_iff_ne.mpr h
theorem dueD_notT {told : Nm} {k w : D} (h : ∀ ds, w ≠ .tuple ds) : dueD told k w = formD := by
  cases w with
  | tuple ds => exact absurd rfl (h ds)
  | _ => rfl
/-- a statement's test, whose outcome is known -/
theorem seq_if {c : BT} {A B U : ST} {E : PEn} {ρ : En} (b : Bool) (hc : ∀ P : Bool → Prop, P b → c ρ P) (h1 : b = true → A { E with nx := U E } ρ) (h0 : b = false → B { E with nx := U E } ρ) : sSeq (sIf c A B) U E ρ := by
  show c ρ fun k => if k = true then _ else _
  exact hc _ (iteC h1 h0)
theorem seq_asg {t : DT} {i : Nat} {U : ST} {E : PEn} {ρ : En} {d : D} (hc : ∀ P : D → Prop, P d → t ρ P) (h : U E (ρ.set i (.d d))) : sSeq (sAsg t (gtName i)) U E ρ := hc _ h
theorem ret_of {t : DT} {E : PEn} {ρ : En} {d : D} (hc : ∀ P : D → Prop, P d → t ρ P) (h : E.rt d) : sRet t E ρ := hc _ h
/-- the text's first test -/
def jForm (w : D) : Bool := match w with
  | .tuple ds => (match ds with
    | [x, _] => (match x with
      | .str _ => false
      | _ => true)
    | _ => true)
  | _ => true
theorem p_judge_pair : ∀ xs Q, xs.length = 6 → R_judge_pair xs Q → T_judge_pair (endE Q) (xs ++ List.replicate (8 - xs.length) .un) := by
  intro xs Q hl h
  obtain ⟨⟨⟨a, b, c, u, v⟩, w⟩, rfl, ⟨h1, h2⟩, k⟩ := h
  show T_judge_pair (endE Q) [.d (qD a), .d (qD b), .d (qD c), .d (qD u), .d (qD v), .d w, .un, .un]
  dsimp only at h1 h2 k
  have k' : Q (dueD (pairNum a b c u v) (kindD (kindOf a b c u v)) w) := k _ rfl
  clear k
  unfold T_judge_pair
  refine seq_if (jForm w) (fun P hP => ?_) (fun hf => ?_) (fun hf => ?_)
  · cases w with
    | tuple ds =>
      match ds, hP with
      | [], hP =>
        walk_at "dl"
        exact iteFa rfl ⟨⟨rfl, rfl⟩, iteTr rfl (show P true from hP)⟩
      | [x], hP =>
        walk_at "dl"
        exact iteFa rfl ⟨⟨rfl, rfl⟩, iteTr rfl (show P true from hP)⟩
      | [x, y], hP =>
        walk_at "dl"
        refine iteFa rfl ⟨⟨rfl, rfl⟩, iteFa rfl ?_⟩
        rw [at2_0]
        cases x <;> exact hP
      | x :: y :: z :: r, hP =>
        walk_at "dl"
        refine iteFa rfl ⟨⟨rfl, rfl⟩, iteTr ?_ (show P true from hP)⟩
        rw [eqvI]
        refine (Bool.not_eq_true' _).mpr (decide_eq_false ?_)
        omega
    | _ => walk_at "dl"; exact iteTr rfl hP
  · walk_at "dl"
    refine ⟨by decide, ?_⟩
    have : dueD (pairNum a b c u v) (kindD (kindOf a b c u v)) w = formD := by
      unfold dueD
      split
      · cases hf
      · rfl
    rw [this] at k'
    exact k'
  · -- a text and something
    dsimp only [sNext]
    obtain ⟨s, x, rfl⟩ : ∃ s x, w = .tuple [.str s, x] := by
      cases w with
      | tuple ds =>
        match ds, hf with
        | [], hf => cases hf
        | [x], hf => cases hf
        | [x, y], hf =>
          cases x with
          | str s => exact ⟨_, _, rfl⟩
          | _ => cases hf
        | x :: y :: z :: r, hf => cases hf
      | _ => cases hf
    have hs : lf (.str s) = true := (h2.item (x := .str s) (by simp)).lf
    have vx : vOk x := h2.item (x := x) (by simp)
    have told := told_nt h1
    generalize hT : pairNum a b c u v = T at *
    have at0 : atI [PyData.str s, x] 0 = some (.str s) := rfl
    have at1 : atI [PyData.str s, x] 1 = some x := rfl
    have off : (!(decide (s = "fits") || decide (s = "off"))) = true → dueD (T) (kindD (kindOf a b c u v)) (.tuple [.str s, x]) = formD := fun q => by
      simp only [Bool.not_eq_true', Bool.or_eq_false_iff, decide_eq_false_iff_not] at q
      show (if s = "off" then _ else if s = "fits" ∧ x.shown ∈ kShown then _ else formD) = formD
      rw [if_neg q.2, if_neg fun z => q.1 z.1]
    have inE : ([PyData.str "fits", PyData.str "off"].any fun z => PyData.eqv z (.str s)) = (decide (s = "fits") || decide (s = "off")) := by
      simp only [List.any_cons, List.any_nil, Bool.or_false, eqvS]
      by_cases q1 : s = "fits"
      · subst q1; simp
      · by_cases q2 : s = "off"
        · subst q2; simp
        · have q1' : ¬ ("fits" : Str) = s := fun z => q1 z.symm
          have q2' : ¬ ("off" : Str) = s := fun z => q2 z.symm
          simp [q1, q2, q1', q2']
    refine seq_if (!(decide (s = "fits") || decide (s = "off")) || (decide (s = "fits") && !decide (x.shown ∈ kShown))) (fun P hP => ?_) (fun hf2 => ?_) (fun hf2 => ?_)
    · walk_at "dl"
      refine ⟨by decide, ⟨sh_str hs, by decide +kernel⟩, ?_⟩
      rw [inE]
      refine iteC (fun q => ?_) fun q => ?_
      · rw [q, Bool.true_or] at hP; exact hP
      · rw [q, Bool.false_or] at hP
        refine ⟨⟨sh_str hs, by decide +kernel⟩, ?_⟩
        by_cases qf : s = "fits"
        · rw [decide_eq_true qf, Bool.true_and] at hP
          refine iteTr (by rw [eqvS]; exact decide_eq_true qf) ⟨vx.r, ?_⟩
          dsimp only [d_KINDS]
          refine ⟨rfl, by decide, ?_⟩
          refine lc_map (α := Str) (enc := PyData.str) (res := fun s => .str (reprText s)) _ ["fractions", "line", "five"] [] (fun z hz X hX => ?_) ?_
          · walk_at "dl"
            exact ⟨rOk_kind z (by simpa using hz), hX⟩
          · dsimp only [kInS]
            rw [show ([] ++ (["fractions", "line", "five"] : List Str).map fun s => PyData.str (reprText s)) = kShown.map PyData.str from rfl, toStrs_map]
            exact hP
        · rw [decide_eq_false qf, Bool.false_and] at hP
          exact iteFa (by rw [eqvS]; exact decide_eq_false qf) hP
    · walk_at "dl"
      have e : dueD (T) (kindD (kindOf a b c u v)) (.tuple [.str s, x]) = formD := by
        simp only [Bool.or_eq_true, Bool.and_eq_true, decide_eq_true_eq, Bool.not_eq_true'] at hf2
        rcases hf2 with q | q
        · exact off (by simpa using q)
        · show (if s = "off" then _ else if s = "fits" ∧ x.shown ∈ kShown then _ else formD) = formD
          rw [if_neg (fun z => by rw [q.1] at z; exact absurd z (by decide)), if_neg (fun z => (of_decide_eq_false q.2) z.2)]
      rw [e] at k'
      exact ⟨by decide, k'⟩
    · dsimp only [sNext]
      refine seq_asg (d := tD (T)) (fun P hP => ?_) ?_
      · walk_at "dl"
        exact ⟨rfl, (a, b, c, u, v), rfl, h1, fun d hd => by
          have e : d = tD T := by rw [← hT]; exact hd
          rw [e]; exact hP⟩
      dsimp only [List.set_cons_succ, List.set_cons_zero]
      have eT : PyData.eqv (tD (T)) (.tuple []) = decide (T = []) := tD_nil _
      refine seq_if (decide (s = "off")) (fun P hP => ?_) (fun hf3 => ?_) (fun hf3 => ?_)
      · walk_at "dl"
        refine ⟨⟨sh_str hs, by decide +kernel⟩, ?_⟩
        rw [eqvS]
        exact hP
      · have q := of_decide_eq_true hf3
        subst q
        have k2 : Q (dueNum (T) x) := k'
        unfold dueNum at k2
        walk_at "dl"
        refine ⟨by decide, ⟨sh_tD _, rfl⟩, ?_⟩
        rw [eT]
        by_cases ht : T = []
        · rw [if_pos (Or.inl ht)] at k2
          exact iteTr (decide_eq_true ht) (iteTr rfl ⟨by decide, k2⟩)
        · refine iteFa (decide_eq_false ht) ?_
          rw [at1]
          refine ⟨vx.r, told.v.r, ?_⟩
          dsimp only [kNeS]
          by_cases hsn : x.shown = (tD (T)).shown
          · rw [if_neg (fun z => z.elim ht fun z => z hsn)] at k2
            exact iteFa (by rw [decide_eq_true hsn]; rfl) k2
          · rw [if_pos (Or.inr hsn)] at k2
            exact iteTr (by rw [decide_eq_false hsn]; rfl) ⟨by decide, k2⟩
      · -- fits
        have q : s ≠ "off" := of_decide_eq_false hf3
        have qf : s = "fits" ∧ x.shown ∈ kShown := by
          simp only [Bool.or_eq_false_iff, Bool.and_eq_false_iff, Bool.not_eq_false', Bool.or_eq_true, decide_eq_true_eq, decide_eq_false_iff_not] at hf2
          obtain ⟨h1', h2'⟩ := hf2
          have hs' : s = "fits" := h1'.resolve_right q
          exact ⟨hs', by
            rcases h2' with z | z
            · exact absurd hs' z
            · exact z⟩
        have k2 : Q (dueFit (T) (kindD (kindOf a b c u v)) x) := by
          have : dueD (T) (kindD (kindOf a b c u v)) (.tuple [.str s, x]) = dueFit (T) (kindD (kindOf a b c u v)) x := by
            show (if s = "off" then _ else if s = "fits" ∧ x.shown ∈ kShown then _ else formD) = _
            rw [if_neg q, if_pos qf]
          rw [this] at k'
          exact k'
        unfold dueFit at k2
        dsimp only [sNext]
        refine seq_if (!decide (T = [])) (fun P hP => ?_) (fun hf4 => ?_) (fun hf4 => ?_)
        · walk_at "dl"
          refine ⟨by decide, ⟨sh_tD _, rfl⟩, ?_⟩
          rw [eT]
          exact hP
        · have ht : ¬ T = [] := by simpa using hf4
          rw [if_pos ht] at k2
          walk_at "dl"
          exact ⟨by decide, k2⟩
        · have ht : T = [] := by simpa using hf4
          rw [if_neg (fun z => z ht)] at k2
          dsimp only [sNext]
          refine seq_asg (d := kindD (kindOf a b c u v)) (fun P hP => ?_) ?_
          · walk_at "dl"
            exact ⟨rfl, (a, b, c, u, v), rfl, kind_pre h1, fun d hd => by subst hd; exact hP⟩
          dsimp only [List.set_cons_succ, List.set_cons_zero]
          have shk : SeqAt.shaped (kindD (kindOf a b c u v)) = true := by
            cases kindOf a b c u v with
            | none => rfl
            | some z => cases z <;> decide +kernel
          walk_at "dl"
          rw [at1]
          refine ⟨⟨sh_scal vx.lf qf.2, shk⟩, ?_⟩
          by_cases he : PyData.eqv x (kindD (kindOf a b c u v)) = true
          · rw [if_pos he] at k2
            exact iteFa (by rw [he]; rfl) k2
          · rw [if_neg he] at k2
            have he' : PyData.eqv x (kindD (kindOf a b c u v)) = false := by simpa using he
            exact iteTr (by rw [he']; rfl) ⟨by decide, k2⟩
end TP
/-! S6: the table of cosines. -/
namespace TP
open PySem PySem.Spec L2 DL
open PyProof.Rows hiding St

def cosTable : List ((Int × Int) × (Int × Int)) := [((0, 1), (1, 1)), ((1, 2), (-1, 1)), ((1, 3), (-1, 2)), ((2, 3), (-1, 2)), ((1, 4), (0, 1)), ((3, 4), (0, 1)), ((1, 6), (1, 2)), ((5, 6), (1, 2))]
def cosQ : List (Rat × Rat) := [(0, 1), (mkRat 1 2, -1), (mkRat 1 3, mkRat (-1) 2), (mkRat 2 3, mkRat (-1) 2), (mkRat 1 4, 0), (mkRat 3 4, 0), (mkRat 1 6, mkRat 1 2), (mkRat 5 6, mkRat 1 2)]
theorem cosTable_eq : cosTable = cosQ.map fun e => (qP e.1, qP e.2) := by decide +kernel
theorem ky_eq (u v : Rat) : decide (kyP (qP v) = kyP (qP u)) = decide (u = v) := by
  by_cases h : u = v
  · subst h; simp
  · rw [decide_eq_false h]
    refine decide_eq_false fun z => h ?_
    unfold kyP qP at z
    simp only [List.cons.injEq, Sum.inl.injEq, and_true] at z
    exact Rat.ext z.1.symm (by omega)
theorem tab_find (u : Rat) : ∀ l : List (Rat × Rat), tabD (l.map fun e => (qP e.1, qP e.2)) (kyP (qP u)) = (l.find? fun e => decide (u = e.1)).map fun e => qD e.2
  | [] => rfl
  | e :: l => by
    have ih := tab_find u l
    unfold tabD at *
    rw [List.map_cons, List.find?_cons, List.find?_cons, ky_eq]
    cases h : decide (u = e.1) with
    | true => rfl
    | false => exact ih
theorem cos_find (u : Rat) : (cosQ.find? fun e => decide (u = e.1)).map (·.2) = cosTab u := by
  unfold cosQ cosTab
  simp only [List.find?_cons, List.find?_nil]
  by_cases h1 : u = 0
  · subst h1; decide +kernel
  by_cases h2 : u = mkRat 1 2
  · subst h2; decide +kernel
  by_cases h3 : u = mkRat 1 3
  · subst h3; decide +kernel
  by_cases h4 : u = mkRat 2 3
  · subst h4; decide +kernel
  by_cases h5 : u = mkRat 1 4
  · subst h5; decide +kernel
  by_cases h6 : u = mkRat 3 4
  · subst h6; decide +kernel
  by_cases h7 : u = mkRat 1 6
  · subst h7; decide +kernel
  by_cases h8 : u = mkRat 5 6
  · subst h8; decide +kernel
  simp [h1, h2, h3, h4, h5, h6, h7, h8]
theorem cos_tab (u : Rat) : (tabD cosTable (kyP (qP u))).getD .none = cosD u := by
  rw [cosTable_eq, tab_find]
  unfold cosD
  rw [← cos_find u]
  cases cosQ.find? (fun e => decide (u = e.1)) <;> rfl
theorem p_cosine_fraction : ∀ xs Q, xs.length = 1 → R_cosine_fraction xs Q → dKGet (tabD cosTable) (dVar 0) (xs ++ List.replicate (1 - xs.length) .un) Q := by
  intro xs Q hl h
  obtain ⟨u, rfl, -, k⟩ := h
  show Q ((tabD cosTable (kyP (qP u))).getD .none)
  rw [cos_tab]
  exact k _ rfl
theorem cos_nd : (cosTable.map fun p => kyP p.1).Nodup := by decide +kernel
end TP
/-! S7: whether a sum of whole cosines is nought, as the law's own road tells (mirrors; under way). -/
namespace TP
open PySem PySem.Spec L2 DL
open PyProof.Rows hiding St

abbrev Im := List (Rat × Int)
def iE (e : Rat × Int) : D := .tuple [qD e.1, .int e.2]
def iD (l : Im) : D := .list (l.map iE)
def getI (es : Im) (k : Rat) : Option Int := (es.find? fun p => decide (p.1 = k)).map (·.2)
def putI (es : Im) (k : Rat) (v : Int) : Im := if es.any (fun p => decide (p.1 = k)) = true then es.map (fun p => if decide (p.1 = k) = true then (p.1, v) else p) else es ++ [(k, v)]
def accI (es : Im) (e : Rat × Int) : Im := putI es e.1 ((getI es e.1).getD 0 + e.2)
def valI (es : Im) (k : Rat) : Int := (getI es k).getD 0
/-- known, here -/
def knownI (l : Im) : Im := l.foldl accI []
def hereI (l : Im) : Im := ((sortQ ((knownI l).map (·.1))).filter fun k => decide (valI (knownI l) k ≠ 0)).map fun k => (k, valI (knownI l) k)
/-- the least common denominator, as the loop makes it -/
def lcmI (here : Im) (m : Int) : Int := here.foldl (fun m e => (m.fdiv (Int.gcd m e.1.den)) * (e.1.den : Int)) m
/-- one list of parts to p lists -/
def sideOf (t k p : Int) : Int := ((List.range p.toNat).map (fun (i : Nat) => (i : Int))).find? (fun s => decide ((t - s * k).fmod p = 0)) |>.getD 0
def lotStep (m p : Int) (e : Rat × Int) : Int × (Rat × Int) :=
  let t := e.1.num * m.fdiv e.1.den
  let n := m.fdiv p
  let k := if n.fmod p ≠ 0 then n else 1
  let side := sideOf t k p
  (side, (fr (Rat.divInt ((t - side * k).fdiv p) n), e.2))
def lots0 (here : Im) (m p : Int) : List Im := (List.range p.toNat).map fun (s : Nat) => (here.filter fun e => decide ((lotStep m p e).1 = (s : Int))).map fun e => (lotStep m p e).2
def lotsI (here : Im) (m p : Int) : List Im :=
  if (m.fdiv p).fmod p ≠ 0 then (lots0 here m p).tail.map fun l => l ++ ((lots0 here m p).headD []).map fun e => (e.1, 0 - e.2) else lots0 here m p
def leastP (m : Int) : Int := if m.fmod 2 = 0 then 2 else if m.fmod 3 = 0 then 3 else if m.fmod 5 = 0 then 5 else 7
/-- nought, by fuel -/
def nought : Nat → Im → Bool
  | 0, _ => false
  | n + 1, l => if lcmI (hereI l) 1 = 1 ∧ hereI l ≠ [] then false else if 1 < lcmI (hereI l) 1 then (lotsI (hereI l) (lcmI (hereI l) 1) (leastP (lcmI (hereI l) 1))).all (nought n) else true
end TP
/-! P7: dicts of whole numbers by parts (under way: _law_is_nought). -/
namespace TP
open PySem PySem.Spec L2 DL
open PyProof.Rows hiding St

def eI (es : Im) : List (D × D) := es.map fun e => (qD e.1, .int e.2)
theorem getEI (es : Im) (k : Rat) : getD' (eI es) (qD k) = (getI es k).map PyData.int := by
  unfold getD' getI eI
  induction es with
  | nil => rfl
  | cons a l ih =>
    rw [List.map_cons, List.find?_cons, List.find?_cons, eqvQ]
    cases h : decide (a.1 = k) with
    | true => rfl
    | false => exact ih
theorem putEI (es : Im) (k : Rat) (v : Int) : putD' (eI es) (qD k) (.int v) = eI (putI es k v) := by
  have e1 : ((eI es).any fun p => PyData.eqv p.1 (qD k)) = es.any fun p => decide (p.1 = k) := by
    unfold eI
    rw [List.any_map]
    congr 1
    funext p
    exact eqvQ p.1 k
  unfold putD' putI
  rw [e1]
  by_cases h : (es.any fun p => decide (p.1 = k)) = true
  · rw [if_pos h, if_pos h]
    unfold eI
    rw [List.map_map, List.map_map]
    apply List.map_congr_left
    intro p _
    show (if PyData.eqv (qD p.1) (qD k) = true then (qD p.1, .int v) else (qD p.1, .int p.2)) = ((qD (if decide (p.1 = k) = true then (p.1, v) else p).1, .int (if decide (p.1 = k) = true then (p.1, v) else p).2) : D × D)
    rw [eqvQ]
    by_cases hk : p.1 = k
    · rw [if_pos (decide_eq_true hk), if_pos (decide_eq_true hk)]
    · rw [if_neg (by rw [decide_eq_false hk]; decide), if_neg (by rw [decide_eq_false hk]; decide)]
  · rw [if_neg h, if_neg h]
    unfold eI
    rw [List.map_append]; rfl
theorem toPsEI (es : Im) : toPs ((eI es).map (·.1)) = some (es.map fun e => qP e.1) := by
  have : (eI es).map (·.1) = (es.map fun e => qP e.1).map DL.pairD := by
    unfold eI
    rw [List.map_map, List.map_map]; rfl
  rw [this, toPs_map]
theorem getI_mem {es : Im} {k : Rat} {x : Int} (h : getI es k = some x) : (k, x) ∈ es := by
  unfold getI at h
  cases e : es.find? (fun p => decide (p.1 = k)) with
  | none => rw [e] at h; cases h
  | some p =>
    rw [e] at h
    cases h
    have h1 := List.find?_some e
    have h2 := List.mem_of_find?_eq_some e
    have h3 : p.1 = k := of_decide_eq_true h1
    rw [← h3]; exact h2
theorem getI_some {es : Im} {k : Rat} (h : k ∈ es.map (·.1)) : ∃ x, getI es k = some x := by
  unfold getI
  cases e : es.find? (fun p => decide (p.1 = k)) with
  | some p => exact ⟨_, rfl⟩
  | none =>
    exfalso
    obtain ⟨p, hp, rfl⟩ := List.mem_map.mp h
    have := List.find?_eq_none.mp e p hp
    simp at this
theorem putI_len (es : Im) (k : Rat) (v : Int) : (putI es k v).length ≤ es.length + 1 := by
  unfold putI
  split
  · rw [List.length_map]; omega
  · rw [List.length_append, List.length_singleton]; omega
theorem foldI_len : ∀ (l es : Im), (l.foldl accI es).length ≤ es.length + l.length
  | [], es => Nat.le_refl _
  | e :: l, es => by
    have h1 := foldI_len l (accI es e)
    have h2 := putI_len es e.1 ((getI es e.1).getD 0 + e.2)
    rw [List.foldl_cons, List.length_cons]
    unfold accI at h1
    unfold accI
    omega
end TP
/-! T7: the readings of the law's noughts (printed by emit.py). -/
namespace TP
open PySem PySem.Spec L2 DL
open PyProof.Rows hiding St

/-- a prime for which sides are found -/
def prB (p : Nat) : Bool := (List.range p).all fun a => (List.range p).all fun b => b == 0 || (List.range p).any fun s => (a + (p - 1) * (s * b)) % p == 0
structure lotOk (here : Im) (m p : Int) : Prop where
  pr2 : 2 ≤ p ∧ p < 1000
  pr : prB p.toNat = true
  mr : 1 ≤ m ∧ m < 1073741824
  pm : m.fmod p = 0
  len : here.length ≤ 100000
  el : ∀ e ∈ here, e.1.num.natAbs < 1073741824 ∧ m.fmod e.1.den = 0
def R__law_lots_by : Pm := RI (I := Im × Int × Int) (fun i => [.d (iD i.1), .d (.int i.2.1), .d (.int i.2.2)]) (fun i => lotOk i.1 i.2.1 i.2.2) (fun i d => d = .list ((lotsI i.1 i.2.1 i.2.2).map iD))
theorem mono__law_lots_by : MonoP R__law_lots_by := ri_mono
def T__law_lots_by : ST :=
  (sSeq (sNewLL 3 (iRg1 (aCons (dVar 2) aNil)))
  (sSeq (sAsg (dOp kDiv (dVar 1) (dVar 2)) (gtName 5))
  (sSeq (sAsg (dOp kNe (dOp kMod (dCB kInt (aCons (dVar 5) aNil)) (dVar 2)) (dC (.int 0))) (gtName 6))
  (sSeq (sFor (ieOf (iSeq (dVar 0))) (gtTup 2 (gtCons (gtTup 2 (gtCons (gtName 7) (gtCons (gtName 8) gtNil))) (gtCons (gtName 9) gtNil)))
  (sSeq (sAsg (dOp kMul (dVar 7) (dOp kDiv (dVar 1) (dVar 8))) (gtName 10))
  (sSeq (sAsg (dOp kIx (dLc (iRg1 (aCons (dVar 2) aNil)) (gtName 11) (bT (dOp kEq (dOp kMod (dCB kInt (aCons (dOp kSub (dVar 10) (dOp kMul (dVar 11) (dIf (bTru (dVar 6)) (dVar 5) (dC (.int 1))))) aNil)) (dVar 2)) (dC (.int 0)))) (dVar 11) [11]) (dC (.int 0))) (gtName 4))
  (sSeq (sAsg (dOp kDiv (dOp kSub (dVar 10) (dOp kMul (dVar 4) (dIf (bTru (dVar 6)) (dVar 5) (dC (.int 1))))) (dVar 2)) (gtName 12))
  (sAppendLL 3 (dVar 4) (dTup (aCons (dCall 2 R__law_part (aCons (sD (dVar 12)) (aCons (sD (dVar 5)) aNil))) (aCons (dVar 9) aNil))))))))
  (sSeq (sIf (bNot (bTru (dVar 6))) (sFz 3 (sRet (dVar 3))) sNext)
  (sFz 3 (sRet (dLc (iRg2 (aCons (dC (.int 1)) (aCons (dVar 2) aNil))) (gtName 4) bYes (dOp kCat (dOp kIx (dVar 3) (dVar 4)) (dLc (iSeq (dOp kIx (dVar 3) (dC (.int 0)))) (gtTup 2 (gtCons (gtName 13) (gtCons (gtName 9) gtNil))) bYes (dTup (aCons (dVar 13) (aCons (dOp kSub (dC (.int 0)) (dVar 9)) aNil))) [13, 9])) [4]))))))))
end TP
/-! P7b: lots. -/
namespace TP
open PySem PySem.Spec L2 DL
open PyProof.Rows hiding St
local macro_rules | `(tactic| walk_at "dl") => `(tactic| dsimp only [sSeq, sPar, sPar3, sParL, sParB, sParD, sNext, sRet, sRetN, sIf, sAsg, sAsgO, ownD, sFz, fz, sAppend, sAppendLL, sNewLL, sExtend, sPut, sNewD, sDispT, psNil, psCons, endE,
  aCons, aNil, aStar, dVar, wVar, rVar, dC, dOp, dUn, dIf, dAnd, dOr, dNot, dTup, dLst, dCB, dCall, dLc, dSl, dRepr, dIsi, dGet, dGet2, dSortD, pNo, pSo, sD, sB, sVar, iSeq, iSeqC, iRg1, iRg2, ieOf, ieP,
  bT, bTru, bAnd, bOr, bNot, bYes, gtName, gtTup, gtCons, gtNil, kTru, kI, kI1, kI2, kInt, kLen, kSub, kMul, kDiv, kMod, kLt, kLe, kGt, kGe, kEq, kNe, kAdd, kCat, kIn, kNotIn, kIsN, kNotN, kIx, kIxS, kNeg, kTupO, kLst, kRev, kRevL, kSl, kSlL, kMinL, isNone,
  wipeE, List.getElem?_cons_zero, List.getElem?_cons_succ, List.set_cons_zero, List.set_cons_succ, List.length_cons, List.length_nil, List.cons_append, List.nil_append, List.replicate_succ, List.replicate_zero, Nat.sub_self, List.append_nil])

def tgL : GT := gtTup 2 (gtCons (gtTup 2 (gtCons (gtName 7) (gtCons (gtName 8) gtNil))) (gtCons (gtName 9) gtNil))
def bodyL : ST := (sSeq (sAsg (dOp kMul (dVar 7) (dOp kDiv (dVar 1) (dVar 8))) (gtName 10))
  (sSeq (sAsg (dOp kIx (dLc (iRg1 (aCons (dVar 2) aNil)) (gtName 11) (bT (dOp kEq (dOp kMod (dCB kInt (aCons (dOp kSub (dVar 10) (dOp kMul (dVar 11) (dIf (bTru (dVar 6)) (dVar 5) (dC (.int 1))))) aNil)) (dVar 2)) (dC (.int 0)))) (dVar 11) [11]) (dC (.int 0))) (gtName 4))
  (sSeq (sAsg (dOp kDiv (dOp kSub (dVar 10) (dOp kMul (dVar 4) (dIf (bTru (dVar 6)) (dVar 5) (dC (.int 1))))) (dVar 2)) (gtName 12))
  (sAppendLL 3 (dVar 4) (dTup (aCons (dCall 2 R__law_part (aCons (sD (dVar 12)) (aCons (sD (dVar 5)) aNil))) (aCons (dVar 9) aNil)))))))
/-- a side is found -/
theorem side_some {p k t : Int} (h2 : 2 ≤ p) (hp : prB p.toNat = true) (hk : k.fmod p ≠ 0) : ∃ s : Nat, s < p.toNat ∧ (t - s * k).fmod p = 0 := by
  have e1 : 0 ≤ t % p := Int.emod_nonneg _ (by omega)
  have e2 : t % p < p := Int.emod_lt_of_pos _ (by omega)
  have e3 : 0 ≤ k % p := Int.emod_nonneg _ (by omega)
  have e4 : k % p < p := Int.emod_lt_of_pos _ (by omega)
  rw [Int.fmod_eq_emod_of_nonneg _ (by omega)] at hk
  unfold prB at hp
  rw [List.all_eq_true] at hp
  have h := hp (t % p).toNat (List.mem_range.mpr (by omega))
  rw [List.all_eq_true] at h
  have h' := h (k % p).toNat (List.mem_range.mpr (by omega))
  simp only [Bool.or_eq_true, beq_iff_eq, List.any_eq_true, List.mem_range] at h'
  rcases h' with h' | ⟨s, hs, h'⟩
  · omega
  · refine ⟨s, hs, ?_⟩
    rw [Int.fmod_eq_emod_of_nonneg _ (by omega)]
    have q : (((t % p).toNat + (p.toNat - 1) * (s * (k % p).toNat) : Nat) : Int) % ((p.toNat : Nat) : Int) = 0 := by
      rw [← Int.natCast_emod, h']; rfl
    rw [Int.natCast_add, Int.natCast_mul, Int.natCast_mul, Int.toNat_of_nonneg e1, Int.toNat_of_nonneg e3, Int.natCast_sub (by omega), Int.toNat_of_nonneg (by omega)] at q
    have r : t - s * k = (t % p + (p - 1) * (s * (k % p))) + p * (t / p - s * (k / p) - s * (k % p)) := by
      have a1 := Int.emod_add_mul_ediv t p
      have a2 := Int.emod_add_mul_ediv k p
      have a3 : (s : Int) * k = s * (k % p) + p * (s * (k / p)) := by
        conv => lhs; rw [← a2]
        rw [Int.mul_add, ← Int.mul_assoc, ← Int.mul_assoc, Int.mul_comm (s : Int) p]
      rw [a3]
      conv => lhs; rw [← a1]
      simp only [Int.mul_sub, Int.sub_mul, Int.one_mul]
      omega
    rw [r, Int.add_mul_emod_self_left]
    exact q
theorem find_head {α : Type} {p : α → Bool} {l : List α} {y : α} (h : l.find? p = some y) : (l.filter p)[0]? = some y := by
  rw [← List.head?_eq_getElem?, List.head?_filter, h]
theorem sideOf_find {t k p : Int} (h2 : 2 ≤ p) (hp : prB p.toNat = true) (hk : k.fmod p ≠ 0) : ∃ s : Nat, s < p.toNat ∧ sideOf t k p = (s : Int) ∧ ((List.range p.toNat).filter fun (i : Nat) => decide ((t - (i : Int) * k).fmod p = 0))[0]? = some s := by
  obtain ⟨s0, a, b⟩ := side_some (t := t) h2 hp hk
  cases e : (List.range p.toNat).find? (fun (i : Nat) => decide ((t - (i : Int) * k).fmod p = 0)) with
  | none =>
    have := List.find?_eq_none.mp e s0 (List.mem_range.mpr a)
    exact absurd (decide_eq_true b) this
  | some s =>
    refine ⟨s, List.mem_range.mp (List.mem_of_find?_eq_some e), ?_, find_head e⟩
    unfold sideOf
    rw [List.find?_map, show ((fun s => decide ((t - s * k).fmod p = 0)) ∘ fun (i : Nat) => (i : Int)) = fun (i : Nat) => decide ((t - (i : Int) * k).fmod p = 0) from rfl, e]
    rfl
theorem lots0_len (l : Im) (m p : Int) : (lots0 l m p).length = p.toNat := by unfold lots0; rw [List.length_map, List.length_range]
theorem lots0_get {l : Im} {m p : Int} {j : Nat} (h : j < p.toNat) : (lots0 l m p)[j]? = some ((l.filter fun e => decide ((lotStep m p e).1 = (j : Int))).map fun e => (lotStep m p e).2) := by
  unfold lots0
  rw [List.getElem?_map, List.getElem?_range h]; rfl
theorem lots0_set {l : Im} {m p : Int} {e : Rat × Int} {j : Nat} (hj : j < p.toNat) (he : (lotStep m p e).1 = (j : Int)) :
    ((lots0 l m p).map (·.map iE)).set j ((((l.filter fun e => decide ((lotStep m p e).1 = (j : Int))).map fun e => (lotStep m p e).2).map iE) ++ [iE (lotStep m p e).2]) = (lots0 (l ++ [e]) m p).map (·.map iE) := by
  apply List.ext_getElem?
  intro i
  rw [List.getElem?_map]
  by_cases hi : i < p.toNat
  · rw [lots0_get hi]
    by_cases q : j = i
    · subst q
      rw [List.getElem?_set_self (by rw [List.length_map, lots0_len]; exact hi), List.filter_append, List.filter_cons, if_pos (decide_eq_true he), List.filter_nil, List.map_append]
      simp only [Option.map_some, List.map_append]; rfl
    · rw [List.getElem?_set_ne q, List.getElem?_map, lots0_get hi, List.filter_append, List.filter_cons, if_neg (by rw [decide_eq_true_eq, he]; omega), List.filter_nil, List.append_nil]
  · rw [List.getElem?_eq_none (by rw [List.length_set, List.length_map, lots0_len]; omega), List.getElem?_eq_none (by rw [lots0_len]; omega)]; rfl
theorem ixN_nat {n j : Nat} (h : j < n) : ixN n (j : Int) = some j := by
  unfold ixN
  rw [if_pos (by omega), if_pos (by omega)]
  simp
theorem at0 {α : Type} {l : List α} {x : α} (h : l[0]? = some x) : atI l 0 = some x := by
  have hl : 0 < l.length := (List.getElem?_eq_some_iff.mp h).1
  unfold atI
  rw [show ixN l.length 0 = some 0 from ixN_nat hl]
  exact h
theorem lots_loop (E : PEn) (s0 : Slot) (m p n k : Int) (on : Bool) (hon : (on = true ∧ n = k) ∨ (on = false ∧ 1 = k)) (hn : m.fdiv p = n) (hkk : (if n.fmod p ≠ 0 then n else 1) = k) (h2 : 2 ≤ p) (hp1 : p < 1000) (hp : prB p.toNat = true) (hm : 1 ≤ m) (hm2 : m < 1073741824) (hn1 : 1 ≤ n) (hn2 : n < 1073741824) (hkn : k.fmod p ≠ 0) : ∀ (post pre : Im) (s4 s7 s8 s9 s10 s11 s12 s13 : Slot),
    (∀ e ∈ post, e.1.num.natAbs < 1073741824 ∧ m.fmod e.1.den = 0) → pre.length + post.length ≤ 100000 →
    (∀ s4 s7 s8 s9 s10 s12, E.nx [s0, .d (.int m), .d (.int p), .oll ((lots0 (pre ++ post) m p).map (·.map iE)), s4, .d (.int n), .d (.bool on), s7, s8, s9, s10, s11, s12, s13]) →
    forD tgL bodyL E (post.map iE) [s0, .d (.int m), .d (.int p), .oll ((lots0 pre m p).map (·.map iE)), s4, .d (.int n), .d (.bool on), s7, s8, s9, s10, s11, s12, s13]
  | [], pre, s4, s7, s8, s9, s10, s11, s12, s13, _, _, z => by
    have := z s4 s7 s8 s9 s10 s12
    rw [List.append_nil] at this
    exact this
  | e :: post, pre, s4, s7, s8, s9, s10, s11, s12, s13, he, hl, z => by
    rw [List.map_cons]
    unfold forD
    dsimp only [tgL, bodyL]
    walk_at "dl"
    dsimp only [iE, qD]
    walk_at "dl"
    have hd := Rat.den_pos e.1
    obtain ⟨e1, e2⟩ := he e List.mem_cons_self
    rw [List.length_cons] at hl
    have hden : (e.1.den : Int) ≤ m := by
      rw [Int.fmod_eq_emod_of_nonneg _ (by omega)] at e2
      exact Int.le_of_dvd (by omega) (Int.dvd_of_emod_eq_zero e2)
    obtain ⟨s, hs1, hs2, hs3⟩ := sideOf_find (t := e.1.num * m.fdiv e.1.den) h2 hp hkn
    have ekm : lotStep m p e = ((s : Int), (fr (Rat.divInt ((e.1.num * m.fdiv e.1.den - (s : Int) * k).fdiv p) n), e.2)) := by
      unfold lotStep
      dsimp only
      rw [hn, hkk, hs2]
    have hpc : CDivN m e.1.den := ⟨by omega, by omega⟩
    have fin : ∀ a7 a8 a9 a10 a12, forD tgL bodyL E (List.map iE post) [s0, Slot.d (PyData.int m), Slot.d (PyData.int p), Slot.oll (((lots0 pre m p).map (·.map iE)).set s ((((pre.filter fun e => decide ((lotStep m p e).1 = (s : Int))).map fun e => (lotStep m p e).2).map iE) ++ [iE (lotStep m p e).2])), .d (.int (0 + (s : Int))), Slot.d (PyData.int n), Slot.d (PyData.bool on), a7, a8, a9, a10, s11, a12, s13] := by
      intro a7 a8 a9 a10 a12
      rw [lots0_set hs1 (by rw [ekm])]
      refine lots_loop E s0 m p n k on hon hn hkk h2 hp1 hp hm hm2 hn1 hn2 hkn post (pre ++ [e]) _ _ _ _ _ _ _ _ (fun y hy => he y (List.mem_cons_of_mem _ hy)) ?_ ?_
      · rw [List.length_append, List.length_singleton]; omega
      · rw [List.append_assoc]; exact z
    rw [ekm] at fin
    simp only [Int.zero_add] at fin
    have big : ∀ {A B : Prop}, (n = k → A) → (1 = k → B) → (if on = true then A else B) := fun hA hB => by
      rcases hon with ⟨h, h'⟩ | ⟨h, h'⟩
      · rw [h, if_pos rfl]; exact hA h'
      · rw [h, if_neg (by decide)]; exact hB h'
    refine ⟨rfl, rfl, rfl, rfl, hpc, cm_l e1, ⟨by omega, by omega⟩, by unfold rngD; rw [List.length_map, List.length_range]; omega, ?_⟩
    unfold rngD
    refine lc_fm (α := Nat) (enc := fun i => .int (0 + (i : Int))) (p := fun (i : Nat) => decide ((e.1.num * m.fdiv e.1.den - (i : Int) * k).fmod p = 0)) (res := fun i => .int (0 + (i : Int))) _ _ [] (fun i hi X Y hX hY => ?_) ?_
    · have hi' := List.mem_range.mp hi
      walk_at "dl"
      refine big (fun hx => ?_) fun hx => ?_
      all_goals
        subst hx
        refine ⟨cm_l (by omega), trivial, by omega, ⟨rfl, rfl⟩, ?_⟩
        rw [eqvI, Int.zero_add]
        refine iteC (fun h => ?_) fun h => ?_
        · have := hX h
          rw [Int.zero_add] at this
          exact this
        · exact hY h
    · rw [List.nil_append]
      have ea : atI ((List.filter (fun (i : Nat) => decide ((e.1.num * m.fdiv e.1.den - (i : Int) * k).fmod p = 0)) (List.range p.toNat)).map fun (i : Nat) => PyData.int (0 + (i : Int))) 0 = some (.int (0 + (s : Int))) := at0 (by rw [List.getElem?_map, hs3]; rfl)
      rw [ea]
      dsimp only
      rw [Int.zero_add]
      have ei : ixN ((lots0 pre m p).map (·.map iE)).length (s : Int) = some s := by rw [List.length_map, lots0_len]; exact ixN_nat hs1
      have eg : ((lots0 pre m p).map (·.map iE))[s]? = some (((pre.filter fun e => decide ((lotStep m p e).1 = (s : Int))).map fun e => (lotStep m p e).2).map iE) := by rw [List.getElem?_map, lots0_get hs1]; rfl
      refine big (fun hx => ?_) fun hx => ?_
      all_goals
        subst hx
        refine ⟨cm_l (by omega), trivial, ⟨by omega, by omega⟩, ?_⟩
        rw [ei]
        dsimp only
        rw [eg]
        dsimp only
        refine ⟨rfl, ((e.1.num * m.fdiv e.1.den - (s : Int) * _).fdiv p, n), rfl, ⟨by dsimp only; omega, by dsimp only; omega⟩, fun d hd' => ?_⟩
        subst hd'
        refine ⟨by decide, ?_, ?_⟩
        · rw [List.length_map, List.length_map]
          have := List.length_filter_le (fun e => decide ((lotStep m p e).1 = (s : Int))) pre
          omega
        · exact fin _ _ _ _ _
end TP
/-! P7c: lots: the def. -/
namespace TP
open PySem PySem.Spec L2 DL
open PyProof.Rows hiding St
local macro_rules | `(tactic| walk_at "dl") => `(tactic| dsimp only [sSeq, sPar, sPar3, sParL, sParB, sParD, sNext, sRet, sRetN, sIf, sAsg, sAsgO, ownD, sFz, fz, sAppend, sAppendLL, sNewLL, sExtend, sPut, sNewD, sDispT, psNil, psCons, endE,
  aCons, aNil, aStar, dVar, wVar, rVar, dC, dOp, dUn, dIf, dAnd, dOr, dNot, dTup, dLst, dCB, dCall, dLc, dSl, dRepr, dIsi, dGet, dGet2, dSortD, pNo, pSo, sD, sB, sVar, iSeq, iSeqC, iRg1, iRg2, ieOf, ieP,
  bT, bTru, bAnd, bOr, bNot, bYes, gtName, gtTup, gtCons, gtNil, kTru, kI, kI1, kI2, kInt, kLen, kSub, kMul, kDiv, kMod, kLt, kLe, kGt, kGe, kEq, kNe, kAdd, kCat, kIn, kNotIn, kIsN, kNotN, kIx, kIxS, kNeg, kTupO, kLst, kRev, kRevL, kSl, kSlL, kMinL, isNone,
  wipeE, List.getElem?_cons_zero, List.getElem?_cons_succ, List.set_cons_zero, List.set_cons_succ, List.length_cons, List.length_nil, List.cons_append, List.nil_append, List.replicate_succ, List.replicate_zero, Nat.sub_self, List.append_nil])

theorem nth_lots {l : Im} {m p : Int} {j : Nat} (h : j < p.toNat) : atI (((lots0 l m p).map (·.map iE)).map PyData.list) (j : Int) = some (.list (((lots0 l m p)[j]?.getD []).map iE)) := by
  unfold atI
  rw [show ixN (((lots0 l m p).map (·.map iE)).map PyData.list).length (j : Int) = some j by rw [List.length_map, List.length_map, lots0_len]; exact ixN_nat h]
  show (((lots0 l m p).map (·.map iE)).map PyData.list)[j]? = _
  rw [List.getElem?_map, List.getElem?_map, lots0_get h]; rfl
theorem p__law_lots_by : ∀ xs Q, xs.length = 3 → R__law_lots_by xs Q → T__law_lots_by (endE Q) (xs ++ List.replicate (14 - xs.length) .un) := by
  intro xs Q hl h
  obtain ⟨⟨here, m, p⟩, rfl, ⟨h1, h2, h3, h4, h5, h6⟩, k⟩ := h
  show T__law_lots_by (endE Q) [.d (iD here), .d (.int m), .d (.int p), .un, .un, .un, .un, .un, .un, .un, .un, .un, .un, .un]
  dsimp only at h1 h2 h3 h4 h5 h6 k
  unfold T__law_lots_by
  walk_at "dl"
  dsimp only [iD]
  have hn1 : 1 ≤ m.fdiv p ∧ m.fdiv p ≤ m := by
    rw [Int.fmod_eq_emod_of_nonneg _ (by omega)] at h4
    obtain ⟨c, hc⟩ := Int.dvd_of_emod_eq_zero h4
    rw [Int.fdiv_eq_ediv_of_nonneg _ (by omega)]
    subst hc
    rw [Int.mul_ediv_cancel_left _ (by omega)]
    have hc0 : 1 ≤ c := by
      by_cases z : c ≤ 0
      · have := Int.mul_nonneg (a := p) (b := -c) (by omega) (by omega)
        rw [Int.mul_neg] at this
        omega
      · omega
    refine ⟨hc0, ?_⟩
    have := Int.mul_le_mul_of_nonneg_right (show 1 ≤ p by omega) (show 0 ≤ c by omega)
    omega
  have e0 : (rngD 0 p.toNat).map (fun _ => ([] : List D)) = (lots0 [] m p).map (·.map iE) := by
    unfold rngD lots0
    rw [List.map_map, List.map_map]
    apply List.map_congr_left
    intro a _
    rfl
  rw [e0, eqvI]
  refine ⟨⟨by omega, by omega⟩, by unfold rngD; rw [List.length_map, List.length_range]; omega, ⟨by omega, by omega⟩, by omega, ⟨rfl, rfl⟩, ?_⟩
  have hon : (!decide ((m.fdiv p).fmod p = 0)) = decide ((m.fdiv p).fmod p ≠ 0) := by
    by_cases z : (m.fdiv p).fmod p = 0 <;> simp [z]
  rw [hon]
  refine lots_loop _ _ m p (m.fdiv p) (if (m.fdiv p).fmod p ≠ 0 then m.fdiv p else 1) (decide ((m.fdiv p).fmod p ≠ 0)) ?_ rfl rfl h1.1 h1.2 h2 h3.1 h3.2 hn1.1 (by omega) ?_ here [] _ _ _ _ _ _ _ _ h6 (by rw [List.length_nil]; omega) fun s4 s7 s8 s9 s10 s12 => ?_
  · by_cases z : (m.fdiv p).fmod p ≠ 0
    · exact .inl ⟨decide_eq_true z, (if_pos z).symm⟩
    · exact .inr ⟨decide_eq_false z, (if_neg z).symm⟩
  · split
    · assumption
    · rw [Int.fmod_eq_emod_of_nonneg _ (by omega), Int.emod_eq_of_lt (by omega) (by omega)]; decide
  · walk_at "dl"
    have hL : ∀ l ∈ lots0 here m p, l.length ≤ 100000 := fun l hl => by
      obtain ⟨s, _, rfl⟩ := List.mem_map.mp hl
      rw [List.length_map]
      have := List.length_filter_le (fun e => decide ((lotStep m p e).1 = (s : Int))) here
      omega
    have hg : ∀ j : Nat, ((lots0 here m p)[j]?.getD []).length ≤ 100000 := fun j => by
      cases hh : (lots0 here m p)[j]? with
      | none => exact Nat.zero_le _
      | some l => exact hL l (List.mem_of_getElem? hh)
    have hp0 : 0 < p.toNat := by omega
    by_cases z : (m.fdiv p).fmod p ≠ 0
    · refine iteFa (by rw [decide_eq_true z]; rfl) ⟨⟨by omega, by omega, by omega, by omega⟩, by unfold rngD; rw [List.length_map, List.length_range]; omega, ?_⟩
      unfold rngD
      refine lc_map (α := Nat) (enc := fun i => .int (1 + (i : Int))) (res := fun i => iD ((lots0 here m p)[i + 1]?.getD [] ++ ((lots0 here m p)[0]?.getD []).map fun e => (e.1, 0 - e.2))) _ _ [] (fun i hi X q => ?_) ?_
      · have hi' := List.mem_range.mp hi
        walk_at "dl"
        have ea := nth_lots (l := here) (m := m) (p := p) (j := i + 1) (by omega)
        have eb := nth_lots (l := here) (m := m) (p := p) (j := 0) (by omega)
        rw [show ((i + 1 : Nat) : Int) = 1 + (i : Int) by omega] at ea
        rw [show ((0 : Nat) : Int) = 0 from rfl] at eb
        rw [ea]
        dsimp only
        rw [eb]
        dsimp only
        have g1 := hg (i + 1)
        have g0 := hg 0
        refine ⟨by rw [List.length_map]; omega, ?_⟩
        refine lc_map (enc := iE) (res := fun e => iE (e.1, 0 - e.2)) _ _ [] (fun e he X2 q2 => ?_) ?_
        · dsimp only [iE]
          walk_at "dl"
          exact ⟨rfl, rfl, by decide, by decide, q2⟩
        · rw [List.nil_append]
          refine ⟨?_, ?_⟩
          · rw [List.length_map, List.length_map]; omega
          · have e2 : iD ((lots0 here m p)[i + 1]?.getD [] ++ ((lots0 here m p)[0]?.getD []).map fun e => (e.1, 0 - e.2)) = .list (((lots0 here m p)[i + 1]?.getD []).map iE ++ ((lots0 here m p)[0]?.getD []).map fun e => iE (e.1, 0 - e.2)) := by
              unfold iD
              rw [List.map_append, List.map_map]; rfl
            rw [e2] at q
            exact q
      · rw [List.nil_append]
        refine k _ ?_
        congr 1
        unfold lotsI
        rw [if_pos z]
        have hd : (lots0 here m p).headD [] = (lots0 here m p)[0]?.getD [] := by rw [List.headD_eq_head?_getD, List.head?_eq_getElem?]
        rw [hd, List.map_map]
        apply List.ext_getElem?
        intro i
        rw [List.getElem?_map, List.getElem?_map, List.getElem?_tail]
        by_cases hi : i < (p - 1).toNat
        · rw [List.getElem?_range hi]
          obtain ⟨x, hx⟩ : ∃ x, (lots0 here m p)[i + 1]? = some x := ⟨_, lots0_get (by omega : i + 1 < p.toNat)⟩
          simp only [Option.map_some, hx]; rfl
        · have q1 : (lots0 here m p)[i + 1]? = none := List.getElem?_eq_none (by rw [lots0_len]; omega)
          have q2 : (List.range (p - 1).toNat)[i]? = none := List.getElem?_eq_none (by rw [List.length_range]; omega)
          rw [q1, q2]; rfl
    · refine iteTr (by rw [decide_eq_false z]; rfl) ?_
      refine k _ ?_
      unfold lotsI
      rw [if_neg z, List.map_map]
      rfl
end TP
/-! N7: the law's noughts tell the truth, as seen at a root of one modulo q. -/
namespace TP
open PySem PySem.Spec L2 DL
open PyProof.Rows hiding St

/-! ### values at a root of one, modulo q -/
structure Rt (q g : Int) (N : Nat) : Prop where
  n0 : 0 < N
  one : q ∣ g ^ N - 1
section
variable {q g : Int} {N : Nat}
def pw (g : Int) (N : Nat) (k : Int) : Int := g ^ (k % (N : Int)).toNat
def wt (g : Int) (N : Nat) (s : Rat) : Int := pw g N (s.num * ((N / s.den : Nat) : Int))
def ev (g : Int) (N : Nat) : Im → Int
  | [] => 0
  | e :: l => e.2 * wt g N e.1 + ev g N l
theorem ev_nil : ev g N [] = 0 := rfl
theorem ev_cons (e : Rat × Int) (l : Im) : ev g N (e :: l) = e.2 * wt g N e.1 + ev g N l := rfl
theorem pw_cong {j k : Int} (h : j % (N : Int) = k % (N : Int)) : pw g N j = pw g N k := by unfold pw; rw [h]
theorem pw_add (R : Rt q g N) (j k : Int) : q ∣ pw g N (j + k) - pw g N j * pw g N k := by
  have hN : 0 < (N : Int) := by have := R.n0; omega
  unfold pw
  have a1 := Int.emod_nonneg j (show (N : Int) ≠ 0 by omega)
  have a2 := Int.emod_lt_of_pos j hN
  have b1 := Int.emod_nonneg k (show (N : Int) ≠ 0 by omega)
  have b2 := Int.emod_lt_of_pos k hN
  rw [Int.add_emod]
  generalize j % (N : Int) = a at *
  generalize k % (N : Int) = b at *
  rw [← Int.pow_add]
  by_cases h : a + b < N
  · rw [Int.emod_eq_of_lt (by omega) h, show (a + b).toNat = a.toNat + b.toNat by omega]
    simp
  · have e : (a + b) % (N : Int) = a + b - N := by
      have := Int.emod_eq_of_lt (a := a + b - N) (b := (N : Int)) (by omega) (by omega)
      rw [← this, Int.sub_emod_right]
    rw [e, show a.toNat + b.toNat = (a + b - N).toNat + N by omega, Int.pow_add]
    obtain ⟨c, hc⟩ := R.one
    refine ⟨- (g ^ (a + b - (N : Int)).toNat * c), ?_⟩
    have : g ^ N = 1 + q * c := by omega
    rw [this, Int.mul_add, Int.mul_one, Int.mul_neg, ← Int.mul_assoc, ← Int.mul_assoc, Int.mul_comm _ q]
    omega
theorem dvd_trans_sub {a b c : Int} (h1 : q ∣ a - b) (h2 : q ∣ b - c) : q ∣ a - c := by
  have := Int.dvd_add h1 h2
  rwa [show a - b + (b - c) = a - c by omega] at this
theorem dvd_of_sub {a b : Int} (h : q ∣ a - b) (h2 : q ∣ b) : q ∣ a := by
  have := Int.dvd_add h h2
  rwa [show a - b + b = a by omega] at this
theorem dvd_of_sub' {a b : Int} (h : q ∣ a - b) (h2 : q ∣ a) : q ∣ b := by
  have := Int.dvd_sub h2 h
  rwa [show a - (a - b) = b by omega] at this
theorem ev_append (l m : Im) : ev g N (l ++ m) = ev g N l + ev g N m := by
  induction l with
  | nil => simp [ev]
  | cons e l ih => rw [List.cons_append, ev_cons, ev_cons, ih]; omega
theorem ev_neg (l : Im) : ev g N (l.map fun e => (e.1, 0 - e.2)) = - ev g N l := by
  induction l with
  | nil => rfl
  | cons e l ih =>
    rw [List.map_cons, ev_cons, ev_cons, ih]
    dsimp only
    rw [Int.sub_mul]; omega
/-! sums by keys -/
def sumK (f : Rat → Int) : List Rat → Int
  | [] => 0
  | k :: r => f k + sumK f r
theorem sumK_perm {f : Rat → Int} {l m : List Rat} (h : l.Perm m) : sumK f l = sumK f m := by
  induction h with
  | nil => rfl
  | cons x _ ih => unfold sumK; rw [ih]
  | swap x y l => unfold sumK; unfold sumK; omega
  | trans _ _ a b => rw [a, b]
theorem putI_keys_eq (es : Im) (k : Rat) (v : Int) : (putI es k v).map (·.1) = if es.any (fun p => decide (p.1 = k)) = true then es.map (·.1) else es.map (·.1) ++ [k] := by
  unfold putI
  split
  · rw [List.map_map]
    apply List.map_congr_left
    intro p _
    show (if decide (p.1 = k) = true then (p.1, v) else p).1 = p.1
    split <;> rfl
  · rw [List.map_append]; rfl
theorem any_iff (es : Im) (k : Rat) : es.any (fun p => decide (p.1 = k)) = true ↔ k ∈ es.map (·.1) := by
  rw [List.any_eq_true, List.mem_map]
  constructor
  · rintro ⟨p, h1, h2⟩; exact ⟨p, h1, of_decide_eq_true h2⟩
  · rintro ⟨p, h1, h2⟩; exact ⟨p, h1, decide_eq_true h2⟩
theorem putI_nodup {es : Im} (h : (es.map (·.1)).Nodup) (k : Rat) (v : Int) : ((putI es k v).map (·.1)).Nodup := by
  rw [putI_keys_eq]
  split
  · exact h
  · rename_i n
    rw [any_iff] at n
    exact List.nodup_append.mpr ⟨h, (by simp), fun a ha b hb e => by
      rw [List.mem_singleton] at hb
      subst hb e
      exact n ha⟩
theorem getI_cons (p : Rat × Int) (es : Im) (k : Rat) : getI (p :: es) k = if p.1 = k then some p.2 else getI es k := by
  unfold getI
  rw [List.find?_cons]
  by_cases h : p.1 = k
  · rw [if_pos h, decide_eq_true h]; rfl
  · rw [if_neg h, decide_eq_false h]
theorem getI_none {es : Im} {k : Rat} (h : k ∉ es.map (·.1)) : getI es k = none := by
  induction es with
  | nil => rfl
  | cons p es ih =>
    rw [List.map_cons, List.mem_cons, not_or] at h
    rw [getI_cons, if_neg (fun e => h.1 e.symm), ih h.2]
theorem ev_put {es : Im} (hn : (es.map (·.1)).Nodup) (k : Rat) (v : Int) : ev g N (putI es k ((getI es k).getD 0 + v)) = ev g N es + v * wt g N k := by
  induction es with
  | nil => 
    show ev g N [(k, (getI [] k).getD 0 + v)] = _
    have : getI [] k = none := rfl
    rw [this]
    simp [ev]
  | cons p es ih =>
    rw [List.map_cons, List.nodup_cons] at hn
    by_cases h : p.1 = k
    · have hk : k ∉ es.map (·.1) := h ▸ hn.1
      unfold putI
      rw [if_pos (by rw [any_iff, List.map_cons, h]; exact List.mem_cons_self), List.map_cons, getI_cons, if_pos h]
      have e2 : (es.map fun p_1 => if decide (p_1.1 = k) = true then (p_1.1, (some p.2).getD 0 + v) else p_1) = es := by
        conv => rhs; rw [← List.map_id es]
        apply List.map_congr_left
        intro x hx
        rw [if_neg]; · rfl
        rw [decide_eq_true_eq]
        intro e
        exact hk (List.mem_map.mpr ⟨x, hx, e⟩)
      rw [e2, if_pos (decide_eq_true h), ev_cons, ev_cons]
      dsimp only [Option.getD]
      rw [Int.add_mul, h]; omega
    · have ih := ih hn.2
      have e1 : putI (p :: es) k ((getI (p :: es) k).getD 0 + v) = p :: putI es k ((getI es k).getD 0 + v) := by
        rw [getI_cons, if_neg h]
        unfold putI
        rw [List.any_cons, decide_eq_false h, Bool.false_or]
        split
        · rw [List.map_cons, if_neg (by rw [decide_eq_false h]; decide)]
        · rfl
      rw [e1, ev_cons, ev_cons, ih]; omega
theorem ev_fold : ∀ (l es : Im), (es.map (·.1)).Nodup → ev g N (l.foldl accI es) = ev g N es + ev g N l ∧ ((l.foldl accI es).map (·.1)).Nodup
  | [], es, h => by simp [ev, h]
  | e :: l, es, h => by
    rw [List.foldl_cons]
    obtain ⟨a, b⟩ := ev_fold l (accI es e) (putI_nodup h _ _)
    refine ⟨?_, b⟩
    rw [a]
    unfold accI
    rw [ev_put h, ev_cons]
    omega
theorem ev_sum {es : Im} (h : (es.map (·.1)).Nodup) : ev g N es = sumK (fun k => valI es k * wt g N k) (es.map (·.1)) := by
  have key : ∀ (l : Im) (f : Rat → Int), (∀ p ∈ l, f p.1 = p.2) → ev g N l = sumK (fun k => f k * wt g N k) (l.map (·.1)) := by
    intro l f
    induction l with
    | nil => intro _; rfl
    | cons p l ih =>
      intro hp
      rw [List.map_cons]
      unfold ev sumK
      rw [ih fun z hz => hp z (List.mem_cons_of_mem _ hz), hp p List.mem_cons_self]
  refine key es (valI es) fun p hp => ?_
  have : ∀ (l : Im), (l.map (·.1)).Nodup → p ∈ l → getI l p.1 = some p.2 := by
    intro l
    induction l with
    | nil => intro _ h; cases h
    | cons z l ih =>
      intro hn hm
      rw [List.map_cons, List.nodup_cons] at hn
      rw [getI_cons]
      rcases List.mem_cons.mp hm with e | e
      · rw [if_pos (by rw [e]), e]
      · rw [if_neg, ih hn.2 e]
        intro z'
        exact hn.1 (z' ▸ List.mem_map.mpr ⟨p, e, rfl⟩)
  unfold valI
  rw [this es h hp]; rfl
theorem ev_here (l : Im) : ev g N (hereI l) = ev g N l := by
  obtain ⟨a, b⟩ := ev_fold (g := g) (N := N) l [] (by simp)
  have e0 : ev g N (knownI l) = ev g N l := by unfold knownI; rw [a]; simp [ev]
  rw [← e0]
  have b' : ((knownI l).map (·.1)).Nodup := b
  rw [ev_sum b', ← sumK_perm (sortQ_perm _)]
  unfold hereI
  generalize sortQ ((knownI l).map (·.1)) = ks
  generalize valI (knownI l) = f
  induction ks with
  | nil => rfl
  | cons k ks ih =>
    rw [List.filter_cons]
    unfold sumK
    by_cases h : f k ≠ 0
    · rw [if_pos (decide_eq_true h), List.map_cons]
      unfold ev
      rw [ih]
    · rw [if_neg (by rw [decide_eq_false h]; decide), ih]
      have : f k = 0 := Classical.not_not.mp h
      rw [this]; omega
/-! ### lots -/
theorem frmk_dvd {t : Int} {n : Nat} (h0 : 0 < n) : ∃ g : Nat, n = (mkRat t n).den * g ∧ t = (mkRat t n).num * (g : Int) ∧ 0 < g := by
  have hx := Rat.den_pos (mkRat t n)
  have h1 : (mkRat t n).num * (n : Int) = t * ((mkRat t n).den : Int) := by
    have e := Rat.mkRat_self (mkRat t n)
    exact (Rat.mkRat_eq_iff (n₁ := (mkRat t n).num) (d₁ := (mkRat t n).den) (n₂ := t) (d₂ := n) (by omega) (by omega)).mp e
  have hd : (mkRat t n).den ∣ n := by
    rw [Rat.den_mkRat]
    split
    · omega
    · exact Nat.div_dvd_of_dvd (Nat.gcd_dvd_left _ _)
  obtain ⟨g, hg⟩ := hd
  have hg0 : 0 < g := Nat.pos_of_ne_zero fun z => by subst z; omega
  refine ⟨g, hg, ?_, hg0⟩
  have hd : ((mkRat t n).den : Int) ≠ 0 := by omega
  have : (mkRat t n).num * (((mkRat t n).den : Int) * (g : Int)) = t * ((mkRat t n).den : Int) := by
    rw [← h1]
    congr 1
    rw [← Int.natCast_mul, ← hg]
  have h3 : (mkRat t n).num * (g : Int) * ((mkRat t n).den : Int) = t * ((mkRat t n).den : Int) := by
    rw [← this, Int.mul_assoc, Int.mul_comm (g : Int)]
  exact (Int.eq_of_mul_eq_mul_right hd h3).symm
theorem wt_mk (hN : 0 < N) {t : Int} {n : Nat} (hn : n ∣ N) (h0 : 0 < n) : wt g N (mkRat t n) = pw g N (t * ((N / n : Nat) : Int)) := by
  obtain ⟨c, e1, e2, hc⟩ := frmk_dvd (t := t) h0
  have hd := Rat.den_pos (mkRat t n)
  unfold wt
  obtain ⟨k, hk⟩ := hn
  have q1 : N / n = k := by rw [hk]; exact Nat.mul_div_cancel_left _ h0
  have q2 : N / (mkRat t n).den = c * k := by
    rw [hk]
    conv => lhs; rw [e1]
    rw [Nat.mul_assoc]; 
    have : ((mkRat t n).den * c) = n := e1.symm
    rw [this]
    exact Nat.mul_div_cancel_left _ hd
  rw [q1, q2]
  conv => rhs; rw [e2]
  rw [Int.natCast_mul, Int.mul_assoc]
theorem wt_fr (hN : 0 < N) {s : Rat} (hs : s.den ∣ N) : wt g N (fr s) = wt g N s := by
  unfold fr
  rw [wt_mk hN hs (Rat.den_pos s)]
  unfold wt
  apply pw_cong
  have hd := Rat.den_pos s
  rw [Int.fmod_eq_emod_of_nonneg _ (by omega)]
  obtain ⟨k, hk⟩ := hs
  have q1 : N / s.den = k := by rw [hk]; exact Nat.mul_div_cancel_left _ hd
  rw [q1]
  have e : s.num * (k : Int) = s.num % (s.den : Int) * k + N * (s.num / (s.den : Int)) := by
    have := Int.emod_add_mul_ediv s.num s.den
    conv => lhs; rw [← this]
    rw [Int.add_mul, hk, Int.natCast_mul, Int.mul_assoc, Int.mul_assoc, Int.mul_comm (k : Int)]
  rw [e, Int.add_mul_emod_self_left]
theorem wt_part (hN : 0 < N) {t : Int} {n : Nat} (hn : n ∣ N) (h0 : 0 < n) : wt g N (fr (Rat.divInt t n)) = pw g N (t * ((N / n : Nat) : Int)) := by
  have e : Rat.divInt t n = mkRat t n := by rw [Rat.divInt_ofNat]
  rw [e, wt_fr hN, wt_mk hN hn h0]
  rw [Rat.den_mkRat]
  split
  · omega
  · exact Nat.dvd_trans (Nat.div_dvd_of_dvd (Nat.gcd_dvd_left _ _)) hn
/-! sums over lists -/
def lsum {α : Type} (F : α → Int) : List α → Int
  | [] => 0
  | e :: l => F e + lsum F l
def sumR (f : Nat → Int) : Nat → Int
  | 0 => 0
  | n + 1 => sumR f n + f n
theorem lsum_cons {α : Type} (F : α → Int) (e : α) (l : List α) : lsum F (e :: l) = F e + lsum F l := rfl
theorem lsum_cong {α : Type} {F G : α → Int} : ∀ {l : List α}, (∀ e ∈ l, q ∣ F e - G e) → q ∣ lsum F l - lsum G l
  | [], _ => by simp [lsum]
  | e :: l, h => by
    unfold lsum
    have h1 := h e List.mem_cons_self
    have h2 := lsum_cong (l := l) fun z hz => h z (List.mem_cons_of_mem _ hz)
    have := Int.dvd_add h1 h2
    rwa [show F e - G e + (lsum F l - lsum G l) = F e + lsum F l - (G e + lsum G l) by omega] at this
theorem lsum_eq {α : Type} {F G : α → Int} : ∀ {l : List α}, (∀ e ∈ l, F e = G e) → lsum F l = lsum G l
  | [], _ => rfl
  | e :: l, h => by
    unfold lsum
    rw [h e List.mem_cons_self, lsum_eq (l := l) fun z hz => h z (List.mem_cons_of_mem _ hz)]
theorem lsum_mul {α : Type} {F : α → Int} (c : Int) : ∀ (l : List α), lsum (fun e => c * F e) l = c * lsum F l
  | [] => by simp [lsum]
  | e :: l => by unfold lsum; rw [lsum_mul c l, Int.mul_add]
theorem sumR_cong {f h : Nat → Int} : ∀ {n : Nat}, (∀ s, s < n → q ∣ f s - h s) → q ∣ sumR f n - sumR h n
  | 0, _ => by simp [sumR]
  | n + 1, k => by
    unfold sumR
    have h1 := k n (Nat.lt_succ_self n)
    have h2 := sumR_cong (n := n) fun s hs => k s (Nat.lt_succ_of_lt hs)
    have := Int.dvd_add h1 h2
    rwa [show f n - h n + (sumR f n - sumR h n) = sumR f n + f n - (sumR h n + h n) by omega] at this
theorem sumR_eq {f h : Nat → Int} : ∀ {n : Nat}, (∀ s, s < n → f s = h s) → sumR f n = sumR h n
  | 0, _ => rfl
  | n + 1, k => by
    unfold sumR
    rw [k n (Nat.lt_succ_self n), sumR_eq (n := n) fun s hs => k s (Nat.lt_succ_of_lt hs)]
theorem sumR_zero {f : Nat → Int} : ∀ {n : Nat}, (∀ s, s < n → q ∣ f s) → q ∣ sumR f n
  | 0, _ => by simp [sumR]
  | n + 1, k => by
    unfold sumR
    exact Int.dvd_add (sumR_zero (n := n) fun s hs => k s (Nat.lt_succ_of_lt hs)) (k n (Nat.lt_succ_self n))
theorem sumR_mul {f : Nat → Int} (c : Int) : ∀ (n : Nat), sumR (fun s => f s * c) n = sumR f n * c
  | 0 => by simp [sumR]
  | n + 1 => by unfold sumR; rw [sumR_mul c n, Int.add_mul]
theorem sumR_add {f h : Nat → Int} : ∀ (n : Nat), sumR (fun s => f s + h s) n = sumR f n + sumR h n
  | 0 => by simp [sumR]
  | n + 1 => by unfold sumR; rw [sumR_add n]; omega
theorem sumR_pick {c : Int} {j : Nat} : ∀ {n : Nat}, j < n → sumR (fun s => if j = s then c else 0) n = c
  | n + 1, h => by
    unfold sumR
    by_cases e : j = n
    · subst e
      have : ∀ m, m ≤ j → sumR (fun s => if j = s then c else 0) m = 0 := by
        intro m
        induction m with
        | zero => intro _; rfl
        | succ m ih => intro hm; unfold sumR; rw [ih (by omega), if_neg (by omega)]; rfl
      rw [this j (Nat.le_refl _), if_pos rfl]; omega
    · rw [sumR_pick (n := n) (by omega), if_neg e]; omega
theorem lsum_split {α : Type} {F : α → Int} {side : α → Int} {p : Nat} : ∀ {l : List α}, (∀ e ∈ l, 0 ≤ side e ∧ side e < p) → lsum F l = sumR (fun s => lsum F (l.filter fun e => decide (side e = (s : Int)))) p
  | [], _ => by
    have : ∀ n, sumR (fun s => lsum F (([] : List α).filter fun e => decide (side e = (s : Int)))) n = 0 := by
      intro n
      induction n with
      | zero => rfl
      | succ n ih => unfold sumR; rw [ih]; rfl
    rw [this]; rfl
  | e :: l, h => by
    have h1 := h e List.mem_cons_self
    have ih := lsum_split (F := F) (l := l) fun z hz => h z (List.mem_cons_of_mem _ hz)
    rw [lsum_cons, ih]
    have : ∀ s, s < p → lsum F ((e :: l).filter fun e => decide (side e = (s : Int))) = (if (side e).toNat = s then F e else 0) + lsum F (l.filter fun e => decide (side e = (s : Int))) := by
      intro s hs
      rw [List.filter_cons]
      by_cases hd : side e = (s : Int)
      · rw [if_pos (decide_eq_true hd), if_pos (by omega)]; rfl
      · rw [if_neg (by rw [decide_eq_false hd]; decide), if_neg (by omega)]; omega
    rw [sumR_eq this, sumR_add, sumR_pick (by omega)]
theorem ev_lsum (l : Im) : ev g N l = lsum (fun e => e.2 * wt g N e.1) l := by
  induction l with
  | nil => rfl
  | cons e l ih => rw [ev_cons, ih]; rfl
theorem ev_map {F : Rat × Int → Rat × Int} (l : Im) : ev g N (l.map F) = lsum (fun e => (F e).2 * wt g N (F e).1) l := by
  induction l with
  | nil => rfl
  | cons e l ih => rw [List.map_cons, ev_cons, ih]; rfl
/-! one list to p lists -/
theorem find_int {p : Int} {P : Int → Bool} (h : ∃ s : Nat, s < p.toNat ∧ P s = true) : ∃ s : Nat, s < p.toNat ∧ P s = true ∧ ((List.range p.toNat).map (fun (i : Nat) => (i : Int))).find? P = some (s : Int) := by
  cases e : ((List.range p.toNat).map (fun (i : Nat) => (i : Int))).find? P with
  | none =>
    obtain ⟨s, h1, h2⟩ := h
    have := List.find?_eq_none.mp e s (List.mem_map.mpr ⟨s, List.mem_range.mpr h1, rfl⟩)
    exact absurd h2 this
  | some y =>
    have h1 := List.find?_some e
    obtain ⟨s, h2, rfl⟩ := List.mem_map.mp (List.mem_of_find?_eq_some e)
    exact ⟨s, List.mem_range.mp h2, h1, rfl⟩
theorem fmod_one_ne {p : Int} (h : 2 ≤ p) : (1 : Int).fmod p ≠ 0 := by
  rw [Int.fmod_eq_emod_of_nonneg _ (by omega), Int.emod_eq_of_lt (by omega) (by omega)]; decide
/-- the factor of the sides -/
def kOf (m p : Int) : Int := if (m.fdiv p).fmod p ≠ 0 then m.fdiv p else 1
theorem kOf_ne {m p : Int} (h : 2 ≤ p) : (kOf m p).fmod p ≠ 0 := by
  unfold kOf
  split
  · assumption
  · exact fmod_one_ne h
theorem side_spec {t k p : Int} (h2 : 2 ≤ p) (hp : prB p.toNat = true) (hk : k.fmod p ≠ 0) : 0 ≤ sideOf t k p ∧ sideOf t k p < p ∧ (t - sideOf t k p * k).fmod p = 0 := by
  obtain ⟨s, h1, h3, h4⟩ := find_int (P := fun s => decide ((t - s * k).fmod p = 0)) (let ⟨s, a, b⟩ := side_some (t := t) h2 hp hk; ⟨s, a, decide_eq_true b⟩)
  unfold sideOf
  rw [h4]
  refine ⟨by show (0 : Int) ≤ s; omega, by show (s : Int) < p; omega, of_decide_eq_true h3⟩
theorem lot_spec (hN : 0 < N) (R : Rt q g N) {m p : Int} {e : Rat × Int} (h2 : 2 ≤ p) (hp : prB p.toNat = true) (hm : 1 ≤ m) (hmN : m.toNat ∣ N) (hpm : m.fmod p = 0) (he : e.1.den ∣ m.toNat) :
    (0 ≤ (lotStep m p e).1 ∧ (lotStep m p e).1 < p) ∧ (lotStep m p e).2.1.den ∣ (m.fdiv p).toNat ∧
    q ∣ e.2 * wt g N e.1 - pw g N ((lotStep m p e).1 * (kOf m p * ((N / m.toNat : Nat) : Int))) * ((lotStep m p e).2.2 * wt g N (lotStep m p e).2.1) := by
  have hs := side_spec (t := e.1.num * m.fdiv e.1.den) h2 hp (kOf_ne (m := m) h2)
  have e1 : lotStep m p e = (sideOf (e.1.num * m.fdiv e.1.den) (kOf m p) p, (fr (Rat.divInt ((e.1.num * m.fdiv e.1.den - sideOf (e.1.num * m.fdiv e.1.den) (kOf m p) p * kOf m p).fdiv p) (m.fdiv p)), e.2)) := rfl
  rw [e1]
  dsimp only
  generalize ht : e.1.num * m.fdiv e.1.den = t at *
  generalize hside : sideOf t (kOf m p) p = s at *
  obtain ⟨s1, s2, s3⟩ := hs
  -- n
  obtain ⟨M, hM⟩ : ∃ M : Nat, m = (M : Int) := ⟨m.toNat, by omega⟩
  obtain ⟨P, hP⟩ : ∃ P : Nat, p = (P : Int) := ⟨p.toNat, by omega⟩
  subst hM hP
  rw [Int.toNat_natCast] at *
  have hpd : P ∣ M := by
    rw [Int.fmod_eq_emod_of_nonneg _ (by omega)] at hpm
    exact Int.natCast_dvd_natCast.mp (Int.dvd_of_emod_eq_zero hpm)
  obtain ⟨n, hn⟩ := hpd
  have hP0 : 0 < P := by omega
  have hn0 : 0 < n := Nat.pos_of_ne_zero fun z => by subst z; omega
  have en : (M : Int).fdiv (P : Int) = (n : Int) := by
    rw [Int.fdiv_eq_ediv_of_nonneg _ (by omega), hn, Int.natCast_mul, Int.mul_ediv_cancel_left _ (by omega)]
  rw [en, Int.toNat_natCast]
  obtain ⟨d, hd⟩ := he
  have hden := Rat.den_pos e.1
  have ed : (M : Int).fdiv (e.1.den : Int) = (d : Int) := by
    rw [Int.fdiv_eq_ediv_of_nonneg _ (by omega), hd, Int.natCast_mul, Int.mul_ediv_cancel_left _ (by omega)]
  rw [ed] at ht
  obtain ⟨c, hc⟩ := hmN
  have hM0 : 0 < M := by omega
  have q1 : N / M = c := by rw [hc]; exact Nat.mul_div_cancel_left _ hM0
  have hnN : n ∣ N := ⟨P * c, by rw [hc, hn, Nat.mul_comm P n, Nat.mul_assoc]⟩
  have q2 : N / n = P * c := by
    rw [hc, hn, Nat.mul_comm P n, Nat.mul_assoc]; exact Nat.mul_div_cancel_left _ hn0
  have q3 : N / e.1.den = d * c := by
    rw [hc, hd, Nat.mul_assoc]; exact Nat.mul_div_cancel_left _ hden
  refine ⟨⟨s1, s2⟩, ?_, ?_⟩
  · rw [Rat.divInt_ofNat]
    have a : ∀ x : Rat, (fr x).den ∣ x.den := fun x => by
      unfold fr
      rw [Rat.den_mkRat]
      split
      · rename_i z; have := Rat.den_pos x; omega
      · exact Nat.div_dvd_of_dvd (Nat.gcd_dvd_left _ _)
    refine Nat.dvd_trans (a _) ?_
    rw [Rat.den_mkRat]
    split
    · omega
    · exact Nat.div_dvd_of_dvd (Nat.gcd_dvd_left _ _)
  · rw [wt_part hN hnN hn0, q1, q2]
    generalize hr : (t - s * kOf (M : Int) (P : Int)).fdiv (P : Int) = r
    have er : t = s * kOf (M : Int) (P : Int) + r * P := by
      have := Int.fmod_add_mul_fdiv (t - s * kOf (M : Int) (P : Int)) P
      rw [s3, hr, Int.mul_comm] at this
      omega
    have ew : wt g N e.1 = pw g N (s * (kOf (M : Int) (P : Int) * (c : Int)) + r * ((P * c : Nat) : Int)) := by
      unfold wt
      rw [q3]
      congr 1
      rw [Int.natCast_mul, ← Int.mul_assoc, ht, er, Int.add_mul, Int.mul_assoc, Int.mul_assoc, ← Int.natCast_mul]
    rw [ew]
    have : q ∣ e.2 * _ := Int.dvd_mul_of_dvd_right (pw_add R (s * (kOf (M : Int) (P : Int) * (c : Int))) (r * ((P * c : Nat) : Int)))
    have h3 : e.2 * (pw g N (s * (kOf (M : Int) (P : Int) * (c : Int)) + r * ((P * c : Nat) : Int)) - pw g N (s * (kOf (M : Int) (P : Int) * (c : Int))) * pw g N (r * ((P * c : Nat) : Int))) = e.2 * pw g N (s * (kOf (M : Int) (P : Int) * (c : Int)) + r * ((P * c : Nat) : Int)) - pw g N (s * (kOf (M : Int) (P : Int) * (c : Int))) * (e.2 * pw g N (r * ((P * c : Nat) : Int))) := by
      rw [Int.mul_sub, ← Int.mul_assoc e.2 (pw g N (s * _)), Int.mul_comm e.2 (pw g N (s * _)), Int.mul_assoc]
    rw [h3] at this
    exact this
/-- the sum of the sides' roots is nought -/
def primeOk (q g : Int) (N p : Nat) : Prop := q ∣ sumR (fun s => pw g N ((s : Int) * ((N / p : Nat) : Int))) p
theorem mem_tail_range {n s : Nat} (h1 : 1 ≤ s) (h2 : s < n) : s ∈ (List.range n).tail := by
  cases n with
  | zero => omega
  | succ n =>
    rw [List.range_succ_eq_map, List.tail_cons, List.mem_map]
    exact ⟨s - 1, List.mem_range.mpr (by omega), by omega⟩
theorem head_range {α : Type} {n : Nat} (h : 0 < n) (f : Nat → α) (d : α) : ((List.range n).map f).headD d = f 0 := by
  cases n with
  | zero => omega
  | succ n => rw [List.range_succ_eq_map]; rfl
theorem lots_ev (hN : 0 < N) (R : Rt q g N) {here : Im} {m p : Int} (h2 : 2 ≤ p) (hp : prB p.toNat = true) (hm : 1 ≤ m) (hmN : m.toNat ∣ N) (hpm : m.fmod p = 0) (he : ∀ e ∈ here, e.1.den ∣ m.toNat)
    (hpo : primeOk q g N p.toNat) (hall : ∀ l ∈ lotsI here m p, q ∣ ev g N l) : q ∣ ev g N here := by
  let L : Nat → Im := fun s => (here.filter fun e => decide ((lotStep m p e).1 = (s : Int))).map fun e => (lotStep m p e).2
  have hp' : ((p.toNat : Nat) : Int) = p := by omega
  have h1 : q ∣ lsum (fun e => e.2 * wt g N e.1) here - lsum (fun e => pw g N ((lotStep m p e).1 * (kOf m p * ((N / m.toNat : Nat) : Int))) * ((lotStep m p e).2.2 * wt g N (lotStep m p e).2.1)) here :=
    lsum_cong fun e h => (lot_spec hN R h2 hp hm hmN hpm (he e h)).2.2
  rw [ev_lsum]
  refine dvd_of_sub h1 ?_
  rw [lsum_split (side := fun e => (lotStep m p e).1) (p := p.toNat) (fun e h => by
    have := (lot_spec hN R h2 hp hm hmN hpm (he e h)).1
    rw [hp']; exact this)]
  have hs : ∀ s, s < p.toNat → lsum (fun e => pw g N ((lotStep m p e).1 * (kOf m p * ((N / m.toNat : Nat) : Int))) * ((lotStep m p e).2.2 * wt g N (lotStep m p e).2.1)) (here.filter fun e => decide ((lotStep m p e).1 = (s : Int))) = pw g N ((s : Int) * (kOf m p * ((N / m.toNat : Nat) : Int))) * ev g N (L s) := by
    intro s _
    show _ = _ * ev g N ((here.filter fun e => decide ((lotStep m p e).1 = (s : Int))).map fun e => (lotStep m p e).2)
    rw [ev_map, ← lsum_mul]
    refine lsum_eq fun e h => ?_
    rw [of_decide_eq_true (List.mem_filter.mp h).2]
  rw [sumR_eq hs]
  unfold lotsI at hall
  have e0 : lots0 here m p = (List.range p.toNat).map L := rfl
  rw [e0] at hall
  by_cases hc : (m.fdiv p).fmod p ≠ 0
  · rw [if_pos hc, head_range (by omega)] at hall
    have hk : kOf m p = m.fdiv p := if_pos hc
    have hL : ∀ s, s < p.toNat → q ∣ ev g N (L s) - ev g N (L 0) := by
      intro s hs'
      by_cases z : s = 0
      · subst z; simp
      · have := hall (L s ++ (L 0).map fun e => (e.1, 0 - e.2)) (by
          refine List.mem_map.mpr ⟨L s, ?_, rfl⟩
          rw [← List.map_tail]
          exact List.mem_map.mpr ⟨s, mem_tail_range (by omega) hs', rfl⟩)
        rw [ev_append, ev_neg] at this
        rwa [← Int.sub_eq_add_neg] at this
    have eN : kOf m p * ((N / m.toNat : Nat) : Int) = ((N / p.toNat : Nat) : Int) := by
      obtain ⟨M, hM⟩ : ∃ M : Nat, m = (M : Int) := ⟨m.toNat, by omega⟩
      obtain ⟨P, hP⟩ : ∃ P : Nat, p = (P : Int) := ⟨p.toNat, by omega⟩
      subst hM hP
      rw [Int.toNat_natCast] at *
      rw [hk]
      have hpd : P ∣ M := by
        rw [Int.fmod_eq_emod_of_nonneg _ (by omega)] at hpm
        exact Int.natCast_dvd_natCast.mp (Int.dvd_of_emod_eq_zero hpm)
      obtain ⟨n, hn⟩ := hpd
      obtain ⟨c, hc'⟩ := hmN
      have hP0 : 0 < P := by omega
      have hM0 : 0 < M := by omega
      have en : (M : Int).fdiv (P : Int) = (n : Int) := by
        rw [Int.fdiv_eq_ediv_of_nonneg _ (by omega), hn, Int.natCast_mul, Int.mul_ediv_cancel_left _ (by omega)]
      have q1 : N / M = c := by rw [hc']; exact Nat.mul_div_cancel_left _ hM0
      have q2 : N / P = n * c := by rw [hc', hn, Nat.mul_assoc]; exact Nat.mul_div_cancel_left _ hP0
      simp only [Int.toNat_natCast]
      rw [en, q1, q2, Int.natCast_mul]
    have h3 : q ∣ sumR (fun s => pw g N ((s : Int) * (kOf m p * ((N / m.toNat : Nat) : Int))) * ev g N (L s)) p.toNat - sumR (fun s => pw g N ((s : Int) * ((N / p.toNat : Nat) : Int)) * ev g N (L 0)) p.toNat := by
      refine sumR_cong fun s hs' => ?_
      rw [eN, ← Int.mul_sub]
      exact Int.dvd_mul_of_dvd_right (hL s hs')
    refine dvd_of_sub h3 ?_
    rw [sumR_mul]
    exact Int.dvd_mul_of_dvd_left hpo
  · rw [if_neg hc] at hall
    refine sumR_zero fun s hs' => Int.dvd_mul_of_dvd_right (hall (L s) (List.mem_map.mpr ⟨s, List.mem_range.mpr hs', rfl⟩))
/-! the least common denominator -/
def lcmN (here : Im) (a : Nat) : Nat := here.foldl (fun a e => Nat.lcm a e.1.den) a
theorem lcm_step (a d : Nat) (hd : 0 < d) : ((a : Int).fdiv (Int.gcd (a : Int) (d : Int)) * (d : Int)) = ((Nat.lcm a d : Nat) : Int) := by
  have hg : Int.gcd (a : Int) (d : Int) = Nat.gcd a d := by simp [Int.gcd]
  rw [hg, Int.fdiv_eq_ediv_of_nonneg _ (by omega), ← Int.natCast_ediv, ← Int.natCast_mul]
  congr 1
  unfold Nat.lcm
  exact Nat.div_mul_right_comm (Nat.gcd_dvd_left _ _) _
theorem lcmI_N : ∀ (here : Im) (a : Nat), lcmI here (a : Int) = ((lcmN here a : Nat) : Int)
  | [], a => rfl
  | e :: l, a => by
    have ih := lcmI_N l (Nat.lcm a e.1.den)
    have e1 : lcmI (e :: l) (a : Int) = lcmI l ((a : Int).fdiv (Int.gcd (a : Int) (e.1.den : Int)) * (e.1.den : Int)) := rfl
    rw [e1, lcm_step a _ (Rat.den_pos _), ih]; rfl
theorem lcmN_spec {N : Nat} : ∀ (here : Im) (a : Nat), a ∣ N → (∀ e ∈ here, e.1.den ∣ N) → lcmN here a ∣ N ∧ a ∣ lcmN here a ∧ ∀ e ∈ here, e.1.den ∣ lcmN here a
  | [], a, h, _ => ⟨h, Nat.dvd_refl _, fun e h => by cases h⟩
  | e :: l, a, h, hd => by
    obtain ⟨a1, a2, a3⟩ := lcmN_spec l (Nat.lcm a e.1.den) (Nat.lcm_dvd h (hd e List.mem_cons_self)) fun z hz => hd z (List.mem_cons_of_mem _ hz)
    have e1 : lcmN (e :: l) a = lcmN l (Nat.lcm a e.1.den) := rfl
    rw [e1]
    refine ⟨a1, Nat.dvd_trans (Nat.dvd_lcm_left _ _) a2, fun z hz => ?_⟩
    rcases List.mem_cons.mp hz with r | r
    · rw [r]; exact Nat.dvd_trans (Nat.dvd_lcm_right _ _) a2
    · exact a3 z r
theorem here_keys {l : Im} {e : Rat × Int} (h : e ∈ hereI l) : e.1 ∈ l.map (·.1) := by
  unfold hereI at h
  obtain ⟨k, hk, rfl⟩ := List.mem_map.mp h
  have h1 := (sortQ_perm _).mem_iff.mp (List.mem_filter.mp hk).1
  have key : ∀ (l es : Im), ∀ k ∈ (l.foldl accI es).map (·.1), k ∈ l.map (·.1) ∨ k ∈ es.map (·.1) := by
    intro l
    induction l with
    | nil => intro es k h; exact .inr h
    | cons e l ih =>
      intro es k h
      rw [List.foldl_cons] at h
      rcases ih _ _ h with r | r
      · exact .inl (List.mem_cons_of_mem _ r)
      · unfold accI at r
        rw [putI_keys_eq] at r
        split at r
        · exact .inr r
        · rcases List.mem_append.mp r with r | r
          · exact .inr r
          · rw [List.mem_singleton.mp r]; exact .inl List.mem_cons_self
  rcases key l [] k h1 with r | r
  · exact r
  · cases r
/-- what primes are found -/
def smooth (N : Nat) : Prop := ∀ m : Nat, m ∣ N → 1 < m → (m : Int).fmod (leastP m) = 0
theorem leastP_pr (m : Int) : (leastP m = 2 ∨ leastP m = 3 ∨ leastP m = 5 ∨ leastP m = 7) := by
  unfold leastP
  split
  · exact .inl rfl
  split
  · exact .inr (.inl rfl)
  split
  · exact .inr (.inr (.inl rfl))
  · exact .inr (.inr (.inr rfl))
theorem leastP_ok (m : Int) : 2 ≤ leastP m ∧ leastP m < 1000 ∧ prB (leastP m).toNat = true := by
  rcases leastP_pr m with e | e | e | e <;> rw [e] <;> decide
theorem lots_den {here : Im} {m p : Int} {n : Nat} (hN : 0 < N) (h2 : 2 ≤ p) (hp : prB p.toNat = true) (hm : 1 ≤ m) (hmN : m.toNat ∣ N) (hpm : m.fmod p = 0) (he : ∀ e ∈ here, e.1.den ∣ m.toNat) :
    ∀ l ∈ lotsI here m p, ∀ e ∈ l, e.1.den ∣ (m.fdiv p).toNat := by
  have R1 : Rt 1 1 N := ⟨hN, Int.one_dvd _⟩
  have h0 : ∀ l ∈ lots0 here m p, ∀ e ∈ l, e.1.den ∣ (m.fdiv p).toNat := by
    intro l hl e h
    obtain ⟨s, _, rfl⟩ := List.mem_map.mp hl
    obtain ⟨z, hz, rfl⟩ := List.mem_map.mp h
    exact (lot_spec hN R1 h2 hp hm hmN hpm (he z (List.mem_filter.mp hz).1)).2.1
  intro l hl e h
  unfold lotsI at hl
  split at hl
  · obtain ⟨x, hx, rfl⟩ := List.mem_map.mp hl
    rcases List.mem_append.mp h with r | r
    · exact h0 x (List.mem_of_mem_tail hx) e r
    · obtain ⟨z, hz, rfl⟩ := List.mem_map.mp r
      cases hq : lots0 here m p with
      | nil => rw [hq] at hz; cases hz
      | cons a b =>
        rw [hq] at hz
        exact h0 a (by rw [hq]; exact List.mem_cons_self) z hz
  · exact h0 l hl e h
theorem fdiv_dvd {M : Nat} {p : Int} (h2 : 2 ≤ p) (hm : 1 ≤ M) (hpm : (M : Int).fmod p = 0) : ((M : Int).fdiv p).toNat ∣ M ∧ 1 ≤ (M : Int).fdiv p ∧ (M : Int).fdiv p * p = M := by
  obtain ⟨P, hP⟩ : ∃ P : Nat, p = (P : Int) := ⟨p.toNat, by omega⟩
  subst hP
  have hpd : P ∣ M := by
    rw [Int.fmod_eq_emod_of_nonneg _ (by omega)] at hpm
    exact Int.natCast_dvd_natCast.mp (Int.dvd_of_emod_eq_zero hpm)
  obtain ⟨n, hn⟩ := hpd
  have en : (M : Int).fdiv (P : Int) = (n : Int) := by
    rw [Int.fdiv_eq_ediv_of_nonneg _ (by omega), hn, Int.natCast_mul, Int.mul_ediv_cancel_left _ (by omega)]
  rw [en, Int.toNat_natCast]
  refine ⟨⟨P, by rw [hn, Nat.mul_comm]⟩, ?_, by rw [hn, Int.natCast_mul, Int.mul_comm]⟩
  have : 0 < n := Nat.pos_of_ne_zero fun z => by subst z; omega
  omega
/-- nought tells the truth, as seen modulo q -/
theorem nought_ev (R : Rt q g N) (hs : smooth N) (hpo : ∀ p : Nat, p = 2 ∨ p = 3 ∨ p = 5 ∨ p = 7 → p ∣ N → primeOk q g N p) : ∀ (n : Nat) (l : Im), (∀ e ∈ l, e.1.den ∣ N) → nought n l = true → q ∣ ev g N l
  | 0, _, _, h => by cases h
  | n + 1, l, hd, h => by
    have hN := R.n0
    rw [← ev_here]
    have hdh : ∀ e ∈ hereI l, e.1.den ∣ N := fun e he => by
      obtain ⟨z, hz, e1⟩ := List.mem_map.mp (here_keys he)
      rw [← e1]; exact hd z hz
    obtain ⟨a1, a2, a3⟩ := lcmN_spec (hereI l) 1 (Nat.one_dvd _) hdh
    have eL : lcmI (hereI l) 1 = ((lcmN (hereI l) 1 : Nat) : Int) := lcmI_N (hereI l) 1
    generalize hM : lcmN (hereI l) 1 = M at *
    unfold nought at h
    rw [eL] at h
    by_cases c1 : ((M : Int) = 1 ∧ hereI l ≠ [])
    · rw [if_pos c1] at h; cases h
    · rw [if_neg c1] at h
      have hM0 : 0 < M := Nat.pos_of_ne_zero fun z => by
        subst z
        obtain ⟨c, hc⟩ := a1
        omega
      by_cases c2 : (1 : Int) < M
      · rw [if_pos c2, List.all_eq_true] at h
        obtain ⟨l1, l2, l3⟩ := leastP_ok (M : Int)
        have hpm := hs M a1 (by omega)
        have hpd : (leastP (M : Int)).toNat ∣ N := by
          have := (fdiv_dvd l1 (by omega) hpm).2.2
          refine Nat.dvd_trans ?_ a1
          have h3 := (fdiv_dvd l1 (by omega) hpm).2.1
          refine ⟨((M : Int).fdiv (leastP (M : Int))).toNat, ?_⟩
          have : ((M : Nat) : Int) = (((leastP (M : Int)).toNat * ((M : Int).fdiv (leastP (M : Int))).toNat : Nat) : Int) := by
            rw [Int.natCast_mul, Int.toNat_of_nonneg (by omega), Int.toNat_of_nonneg (by omega), Int.mul_comm]
            exact this.symm
          exact Int.ofNat_inj.mp this
        have hM1 : (M : Int).toNat ∣ N := by rw [Int.toNat_natCast]; exact a1
        have he' : ∀ e ∈ hereI l, e.1.den ∣ (M : Int).toNat := by rw [Int.toNat_natCast]; exact a3
        refine lots_ev hN R l1 l3 (by omega) hM1 hpm he' (hpo _ ?_ hpd) fun x hx => ?_
        · rcases leastP_pr (M : Int) with e | e | e | e <;> rw [e] <;> decide
        · refine nought_ev R hs hpo n x (fun e he => ?_) (h x hx)
          refine Nat.dvd_trans (lots_den (n := 0) hN l1 l3 (by omega) hM1 hpm he' x hx e he) ?_
          exact Nat.dvd_trans (fdiv_dvd l1 (by omega) hpm).1 a1
      · have : (M : Int) = 1 := by omega
        have e0 : hereI l = [] := Classical.not_not.mp fun z => c1 ⟨this, z⟩
        rw [e0, ev_nil]
        exact Int.dvd_zero _
end
end TP
/-! T8: noughts: promise and reading (printed by emit.py). -/
namespace TP
open PySem PySem.Spec L2 DL
open PyProof.Rows hiding St

structure nOk (n M : Nat) (l : Im) : Prop where
  len : l.length * 2 ^ n ≤ 100000
  den : ∀ e ∈ l, e.1.den ∣ M ∧ e.1.num.natAbs < 1073741824
  M0 : 0 < M
  Mn : M < 2 ^ n
  MN : M ≤ 1000000
  sm : smooth M
def R__law_is_nought : Pm := RI (I := Im × Nat × Nat) (fun i => [.d (iD i.1)]) (fun i => nOk i.2.1 i.2.2 i.1) (fun i d => d = .bool (nought i.2.1 i.1))
theorem mono__law_is_nought : MonoP R__law_is_nought := ri_mono
def T__law_is_nought : ST :=
  (sSeq (sAsgO 1 (dLst (aCons (dVar 0) aNil)))
  (sSeq (sWh (bT (dOp kNe (rVar 1) (dLst aNil)))
  (sSeq (sParD true 2 3 (dC (.int 1)))
  (sSeq (sFor (ieP 1) (gtTup 2 (gtCons (gtName 4) (gtCons (gtName 5) gtNil)))
  (sPut 2 (dOp kAdd (dGet2 2 (dVar 4) (dC (.int 0))) (dVar 5)) (dVar 4)))
  (sSeq (sAsgO 6 (dLc (iSeq (dSortD 2)) (gtName 4) (bT (dOp kNe (dGet 2 (dVar 4)) (dC (.int 0)))) (dTup (aCons (dVar 4) (aCons (dGet 2 (dVar 4)) aNil))) [4]))
  (sFz 6 (sSeq (sFor (ieOf (iSeq (dVar 6))) (gtTup 2 (gtCons (gtTup 2 (gtCons (gtName 7) (gtCons (gtName 8) gtNil))) (gtCons (gtName 5) gtNil)))
  (sAsg (dOp kMul (dOp kDiv (dVar 3) (dCall 2 R__law_common (aCons (sD (dVar 3)) (aCons (sD (dVar 8)) aNil)))) (dVar 8)) (gtName 3)))
  (sSeq (sIf (bAnd (bT (dOp kEq (dVar 3) (dC (.int 1)))) (bT (dOp kNe (dVar 6) (dLst aNil)))) (sRet (dC (.bool false))) sNext)
  (sIf (bT (dOp kGt (dVar 3) (dC (.int 1)))) (sAsgO 1 (dOp kCat (rVar 1) (dCall 3 R__law_lots_by (aCons (sD (dVar 6)) (aCons (sD (dVar 3)) (aCons (sD (dCB kMinL (aCons (dLc (iSeq (dTup (aCons (dC (.int 2)) (aCons (dC (.int 3)) (aCons (dC (.int 5)) (aCons (dC (.int 7)) aNil)))))) (gtName 9) (bT (dOp kEq (dOp kMod (dCB kInt (aCons (dVar 3) aNil)) (dVar 9)) (dC (.int 0)))) (dVar 9) [9]) aNil))) aNil)))))) sNext))))))))
  (sRet (dC (.bool true)))))
end TP
/-! P8: noughts. -/
namespace TP
open PySem PySem.Spec L2 DL
open PyProof.Rows hiding St
local macro_rules | `(tactic| walk_at "dl") => `(tactic| dsimp only [sSeq, sPar, sPar3, sParL, sParB, sParD, sNext, sRet, sRetN, sIf, sAsg, sAsgO, ownD, sFz, fz, sAppend, sAppendLL, sNewLL, sExtend, sPut, sNewD, sDispT, psNil, psCons, endE,
  aCons, aNil, aStar, dVar, wVar, rVar, dC, dOp, dUn, dIf, dAnd, dOr, dNot, dTup, dLst, dCB, dCall, dLc, dSl, dRepr, dIsi, dGet, dGet2, dSortD, pNo, pSo, sD, sB, sVar, iSeq, iSeqC, iRg1, iRg2, ieOf, ieP,
  bT, bTru, bAnd, bOr, bNot, bYes, gtName, gtTup, gtCons, gtNil, kTru, kI, kI1, kI2, kInt, kLen, kSub, kMul, kDiv, kMod, kLt, kLe, kGt, kGe, kEq, kNe, kAdd, kCat, kIn, kNotIn, kIsN, kNotN, kIx, kIxS, kNeg, kTupO, kLst, kRev, kRevL, kSl, kSlL, kMinL, isNone,
  wipeE, List.getElem?_cons_zero, List.getElem?_cons_succ, List.set_cons_zero, List.set_cons_succ, List.length_cons, List.length_nil, List.cons_append, List.nil_append, List.replicate_succ, List.replicate_zero, Nat.sub_self, List.append_nil])


def tgK : GT := gtTup 2 (gtCons (gtName 4) (gtCons (gtName 5) gtNil))
def bodyK : ST := sPut 2 (dOp kAdd (dGet2 2 (dVar 4) (dC (.int 0))) (dVar 5)) (dVar 4)
theorem dictI_loop (E : PEn) (s0 s1 s3 s6 s7 s8 s9 : Slot) : ∀ (l es : Im) (s4 s5 : Slot), es.length + l.length ≤ 2000000 →
    (∀ s4 s5, E.nx [s0, s1, .od true (eI (l.foldl accI es)), s3, s4, s5, s6, s7, s8, s9]) → forD tgK bodyK E (l.map iE) [s0, s1, .od true (eI es), s3, s4, s5, s6, s7, s8, s9]
  | [], es, s4, s5, _, k => k s4 s5
  | e :: l, es, s4, s5, hz, k => by
    rw [List.map_cons]
    unfold forD
    dsimp only [tgK, bodyK]
    walk_at "dl"
    dsimp only [iE]
    walk_at "dl"
    rw [List.length_cons] at hz
    refine ⟨rfl, rfl, rfl, ?_⟩
    rw [getEI]
    have eg : ((getI es e.1).map PyData.int).getD (.int 0) = .int ((getI es e.1).getD 0) := by cases getI es e.1 <;> rfl
    rw [eg]
    dsimp only
    refine ⟨⟨rfl, by unfold eI; rw [List.length_map]; omega⟩, ?_⟩
    rw [putEI]
    refine dictI_loop E s0 s1 s3 s6 s7 s8 s9 l (accI es e) _ _ ?_ k
    have := putI_len es e.1 ((getI es e.1).getD 0 + e.2)
    unfold accI
    omega
def tgM : GT := gtTup 2 (gtCons (gtTup 2 (gtCons (gtName 7) (gtCons (gtName 8) gtNil))) (gtCons (gtName 5) gtNil))
def bodyM : ST := sAsg (dOp kMul (dOp kDiv (dVar 3) (dCall 2 R__law_common (aCons (sD (dVar 3)) (aCons (sD (dVar 8)) aNil)))) (dVar 8)) (gtName 3)
theorem lcm_loop (E : PEn) (s0 s1 s2 s4 s6 s9 : Slot) : ∀ (l : Im) (m : Nat) (s5 s7 s8 : Slot), (∀ e ∈ l, e.1.den < 1073741824) →
    (∀ s5 s7 s8, E.nx [s0, s1, s2, .d (.int (lcmN l m : Nat)), s4, s5, s6, s7, s8, s9]) → forD tgM bodyM E (l.map iE) [s0, s1, s2, .d (.int (m : Nat)), s4, s5, s6, s7, s8, s9]
  | [], m, s5, s7, s8, _, k => k s5 s7 s8
  | e :: l, m, s5, s7, s8, hd, k => by
    rw [List.map_cons]
    unfold forD
    dsimp only [tgM, bodyM]
    walk_at "dl"
    dsimp only [iE, qD]
    walk_at "dl"
    have h1 := hd e List.mem_cons_self
    have h0 := Rat.den_pos e.1
    refine ⟨rfl, rfl, rfl, rfl, rfl, ((m : Int), (e.1.den : Int)), rfl, ⟨by dsimp only; omega, by dsimp only; omega⟩, fun d hd' => ?_⟩
    subst hd'
    have eg : Int.gcd (m : Int) (e.1.den : Int) = Nat.gcd m e.1.den := by simp [Int.gcd]
    have g1 : 0 < Nat.gcd m e.1.den := Nat.gcd_pos_of_pos_right _ h0
    have g2 : Nat.gcd m e.1.den ≤ e.1.den := Nat.gcd_le_right _ h0
    refine ⟨⟨?_, ?_⟩, cm_r (by omega), ?_⟩
    · rw [eg]; omega
    · rw [eg]; omega
    · rw [lcm_step m e.1.den h0]
      exact lcm_loop E s0 s1 s2 s4 s6 s9 l (Nat.lcm m e.1.den) _ _ _ (fun z hz => hd z (List.mem_cons_of_mem _ hz)) k
def tstN : BT := (bT (dOp kNe (rVar 1) (dLst aNil)))
def bodyN : ST := (sSeq (sParD true 2 3 (dC (.int 1)))
  (sSeq (sFor (ieP 1) (gtTup 2 (gtCons (gtName 4) (gtCons (gtName 5) gtNil)))
  (sPut 2 (dOp kAdd (dGet2 2 (dVar 4) (dC (.int 0))) (dVar 5)) (dVar 4)))
  (sSeq (sAsgO 6 (dLc (iSeq (dSortD 2)) (gtName 4) (bT (dOp kNe (dGet 2 (dVar 4)) (dC (.int 0)))) (dTup (aCons (dVar 4) (aCons (dGet 2 (dVar 4)) aNil))) [4]))
  (sFz 6 (sSeq (sFor (ieOf (iSeq (dVar 6))) (gtTup 2 (gtCons (gtTup 2 (gtCons (gtName 7) (gtCons (gtName 8) gtNil))) (gtCons (gtName 5) gtNil)))
  (sAsg (dOp kMul (dOp kDiv (dVar 3) (dCall 2 R__law_common (aCons (sD (dVar 3)) (aCons (sD (dVar 8)) aNil)))) (dVar 8)) (gtName 3)))
  (sSeq (sIf (bAnd (bT (dOp kEq (dVar 3) (dC (.int 1)))) (bT (dOp kNe (dVar 6) (dLst aNil)))) (sRet (dC (.bool false))) sNext)
  (sIf (bT (dOp kGt (dVar 3) (dC (.int 1)))) (sAsgO 1 (dOp kCat (rVar 1) (dCall 3 R__law_lots_by (aCons (sD (dVar 6)) (aCons (sD (dVar 3)) (aCons (sD (dCB kMinL (aCons (dLc (iSeq (dTup (aCons (dC (.int 2)) (aCons (dC (.int 3)) (aCons (dC (.int 5)) (aCons (dC (.int 7)) aNil)))))) (gtName 9) (bT (dOp kEq (dOp kMod (dCB kInt (aCons (dVar 3) aNil)) (dVar 9)) (dC (.int 0)))) (dVar 9) [9]) aNil))) aNil)))))) sNext)))))))
theorem sh_iL : ∀ l : Im, PyData.canLayAll0 (l.map iE) = true ∧ PyData.depthAll (l.map iE) ≤ 2
  | [] => ⟨rfl, Nat.zero_le _⟩
  | e :: l => by
    obtain ⟨a, b⟩ := sh_iL l
    rw [List.map_cons]
    refine ⟨?_, ?_⟩
    · simp only [PyData.canLayAll0, a, Bool.and_true]; rfl
    · simp only [PyData.depthAll]
      have : (iE e).depth = 2 := rfl
      omega
theorem sh_iS : ∀ S : List Im, PyData.canLayAll0 (S.map iD) = true ∧ PyData.depthAll (S.map iD) ≤ 3
  | [] => ⟨rfl, Nat.zero_le _⟩
  | l :: S => by
    obtain ⟨a, b⟩ := sh_iS S
    obtain ⟨c, d⟩ := sh_iL l
    rw [List.map_cons]
    refine ⟨?_, ?_⟩
    · simp only [PyData.canLayAll0, a, Bool.and_true]
      unfold iD
      simpa only [PyData.canLay0] using c
    · simp only [PyData.depthAll]
      have : (iD l).depth ≤ 3 := by unfold iD; simp only [PyData.depth]; omega
      omega
theorem shL {ds : List D} (h : PyData.canLayAll0 ds = true ∧ PyData.depthAll ds ≤ 3) : SeqAt.shaped (.list ds) = true := by
  have h1 : (PyData.list ds).canLay0 = true := by simpa only [PyData.canLay0] using h.1
  have h2 : (PyData.list ds).depth ≤ 64 := by simp only [PyData.depth]; omega
  unfold SeqAt.shaped
  rw [h1, decide_eq_true h2]; rfl
theorem eqv_nilL (ds : List D) : PyData.eqv (.list ds) (.list []) = decide (ds = []) := by
  cases ds with
  | nil => simp [PyData.eqv, PyData.eqvAll]
  | cons a r => simp [PyData.eqv, PyData.eqvAll]
abbrev Stk := List (Nat × Nat × Im)
def cost (S : Stk) : Nat := (S.map fun z => 2 * z.2.1 - 1).sum
theorem toInts_map (ns : List Int) : toInts (ns.map PyData.int) = some ns := by
  induction ns with
  | nil => rfl
  | cons i r ih => rw [List.map_cons, toInts, ih]; rfl
theorem min_least {m : Int} (h : m.fmod (leastP m) = 0) : minL (([2, 3, 5, 7] : List Int).filter fun d => decide (m.fmod d = 0)) = some (leastP m) := by
  unfold leastP at h ⊢
  by_cases h2 : m.fmod 2 = 0 <;> by_cases h3 : m.fmod 3 = 0 <;> by_cases h5 : m.fmod 5 = 0 <;> by_cases h7 : m.fmod 7 = 0 <;> simp [h2, h3, h5, h7, minL, List.filter] at h ⊢
theorem toPsI (es : Im) : toPs ((eI es).map (·.1)) = some ((es.map (·.1)).map qP) := by rw [toPsEI, List.map_map]; rfl
theorem here_len (l : Im) : (hereI l).length ≤ l.length := by
  unfold hereI
  rw [List.length_map]
  refine Nat.le_trans (List.length_filter_le _ _) ?_
  rw [(sortQ_perm _).length_eq, List.length_map]
  have := foldI_len l []
  rw [List.length_nil] at this
  unfold knownI
  omega
theorem lots0_le {l : Im} {m p : Int} : ∀ x ∈ lots0 l m p, x.length ≤ l.length := fun x hx => by
  obtain ⟨s, _, rfl⟩ := List.mem_map.mp hx
  rw [List.length_map]
  exact List.length_filter_le _ _
theorem lotsI_le {l : Im} {m p : Int} : (lotsI l m p).length ≤ p.toNat ∧ ∀ x ∈ lotsI l m p, x.length ≤ 2 * l.length := by
  unfold lotsI
  split
  · refine ⟨by rw [List.length_map, List.length_tail, lots0_len]; omega, fun x hx => ?_⟩
    obtain ⟨y, hy, rfl⟩ := List.mem_map.mp hx
    have h1 := lots0_le y (List.mem_of_mem_tail hy)
    rw [List.length_append, List.length_map]
    have h2 : ((lots0 l m p).headD []).length ≤ l.length := by
      cases hq : lots0 l m p with
      | nil => exact Nat.zero_le _
      | cons a b => exact lots0_le a (by rw [hq]; exact List.mem_cons_self)
    omega
  · refine ⟨by rw [lots0_len]; omega, fun x hx => ?_⟩
    have := lots0_le x hx
    omega
theorem lots_num {here : Im} {m p : Int} : ∀ l ∈ lotsI here m p, ∀ e ∈ l, ∃ x : Rat, e.1 = fr x := by
  have h0 : ∀ l ∈ lots0 here m p, ∀ e ∈ l, ∃ x : Rat, e.1 = fr x := by
    intro l hl e h
    obtain ⟨s, _, rfl⟩ := List.mem_map.mp hl
    obtain ⟨z, hz, rfl⟩ := List.mem_map.mp h
    exact ⟨_, rfl⟩
  intro l hl e h
  unfold lotsI at hl
  split at hl
  · obtain ⟨x, hx, rfl⟩ := List.mem_map.mp hl
    rcases List.mem_append.mp h with r | r
    · exact h0 x (List.mem_of_mem_tail hx) e r
    · obtain ⟨z, hz, rfl⟩ := List.mem_map.mp r
      cases hq : lots0 here m p with
      | nil => rw [hq] at hz; cases hz
      | cons a b =>
        rw [hq] at hz
        exact h0 a (by rw [hq]; exact List.mem_cons_self) z hz
  · exact h0 l hl e h
theorem fr_small {x : Rat} : (fr x).num.natAbs ≤ (fr x).den := by
  have h := fr_num (fr x)
  have e : fr (fr x) = fr x := by
    have hp := Rat.den_pos x
    unfold fr
    rw [show mkRat ((mkRat (x.num.fmod x.den) x.den).num.fmod ((mkRat (x.num.fmod x.den) x.den).den : Int)) (mkRat (x.num.fmod x.den) x.den).den = fr (mkRat (x.num.fmod x.den) x.den) from rfl, fr_mk hp]
    congr 1
    rw [Int.fmod_eq_emod_of_nonneg _ (by omega), Int.fmod_eq_emod_of_nonneg _ (by omega), Int.emod_emod_of_dvd _ (Int.dvd_refl _)]
  rwa [e] at h
theorem nought_loop (E : PEn) (s0 s9 : Slot) : ∀ (K : Nat) (S : Stk) (s2 s3 s4 s5 s6 s7 s8 : Slot), (∀ z ∈ S, nOk z.1 z.2.1 z.2.2) → cost S < K → cost S ≤ 4000000 →
    ((S.all fun z => nought z.1 z.2.2) = true → ∀ s2 s3 s4 s5 s6 s7 s8, E.nx [s0, .ol [], s2, s3, s4, s5, s6, s7, s8, s9]) → ((S.all fun z => nought z.1 z.2.2) = false → E.rt (.bool false)) →
    whD tstN bodyN E K [s0, .ol (S.map fun z => iD z.2.2), s2, s3, s4, s5, s6, s7, s8, s9]
  | 0, S, _, _, _, _, _, _, _, _, h, _, _, _ => absurd h (Nat.not_lt_zero _)
  | K + 1, S, s2, s3, s4, s5, s6, s7, s8, hS, hK, hC, kt, kf => by
    have ih := nought_loop E s0 s9 K
    unfold whD
    generalize whD tstN bodyN E K = W at *
    dsimp only [tstN, bodyN]
    have hsh : SeqAt.shaped (.list (S.map fun z => iD z.2.2)) = true := by
      have := shL (sh_iS (S.map fun z => z.2.2))
      rwa [List.map_map] at this
    rcases List.eq_nil_or_concat S with rfl | ⟨S', z, rfl⟩
    · walk_at "dl"
      refine ⟨by decide, ⟨rfl, rfl⟩, ?_⟩
      exact iteFa rfl (kt rfl _ _ _ _ _ _ _)
    · rw [List.concat_eq_append] at *
      walk_at "dl"
      refine ⟨by decide, ⟨hsh, rfl⟩, iteTr (by rw [eqv_nilL]; simp) ?_⟩
      dsimp only [sFor]
      walk_at "dl"
      rw [List.map_append, List.map_cons, List.map_nil, List.getLast?_concat, List.dropLast_concat]
      dsimp only [iD]
      obtain ⟨n, M, l⟩ := z
      have hz := hS (n, M, l) (by simp)
      dsimp only at hz ⊢
      have hzl := hz.len
      have hpow : 0 < 2 ^ n := Nat.pow_pos (by decide)
      have hll : l.length ≤ 100000 := Nat.le_trans (Nat.le_mul_of_pos_right _ hpow) hzl
      refine dictI_loop _ _ _ _ _ _ _ _ l [] _ _ (by rw [List.length_nil]; omega) fun s4 s5 => ?_
      walk_at "dl"
      rw [toPsI]
      dsimp only
      rw [sortPQ, List.map_map, show (DL.pairD ∘ qP) = qD from rfl]
      have hkn : (l.foldl accI []) = knownI l := rfl
      have hfl := foldI_len l []
      rw [List.length_nil, Nat.zero_add] at hfl
      refine ⟨by rw [List.length_map, (sortQ_perm _).length_eq, List.length_map]; omega, ?_⟩
      rw [hkn] at *
      refine lc_fm (p := fun k => decide (valI (knownI l) k ≠ 0)) (res := fun k => iE (k, valI (knownI l) k)) _ _ [] (fun k hk X Y hX hY => ?_) ?_
      · have hk' : k ∈ (knownI l).map (·.1) := (sortQ_perm _).mem_iff.mp hk
        obtain ⟨x, hx⟩ := getI_some hk'
        have hv : valI (knownI l) k = x := by unfold valI; rw [hx]; rfl
        have hg : getD' (eI (knownI l)) (qD k) = some (.int x) := by rw [getEI, hx]; rfl
        walk_at "dl"
        rw [hg]
        dsimp only
        rw [hv] at hX hY
        refine ⟨rfl, ⟨rfl, rfl⟩, ?_⟩
        rw [eqvI]
        have en : (!decide (x = 0)) = decide (x ≠ 0) := by by_cases z : x = 0 <;> simp [z]
        rw [en]
        refine iteC (fun h => ?_) fun h => ?_
        · exact ⟨rfl, by decide, hX h⟩
        · exact hY h
      · have eh : [] ++ ((sortQ ((knownI l).map (·.1))).filter fun k => decide (valI (knownI l) k ≠ 0)).map (fun k => iE (k, valI (knownI l) k)) = (hereI l).map iE := by
          rw [List.nil_append]
          unfold hereI
          rw [List.map_map]; rfl
        rw [eh]
        have hdh : ∀ e ∈ hereI l, e.1.den ∣ M ∧ e.1.num.natAbs < 1073741824 := fun e he => by
          obtain ⟨z, hz', e1⟩ := List.mem_map.mp (here_keys he)
          rw [← e1]; exact hz.den z hz'
        have hlh := here_len l
        have hM0 := hz.M0
        have hMn := hz.Mn
        have hMN := hz.MN
        obtain ⟨a1, a2, a3⟩ := lcmN_spec (hereI l) 1 (Nat.one_dvd _) fun e he => (hdh e he).1
        have eL : lcmI (hereI l) 1 = ((lcmN (hereI l) 1 : Nat) : Int) := lcmI_N (hereI l) 1
        refine lcm_loop _ _ _ _ _ _ _ (hereI l) 1 _ _ _ (fun e he => ?_) fun s5 s7 s8 => ?_
        · have := Nat.le_of_dvd hM0 (hdh e he).1
          omega
        generalize hm : lcmN (hereI l) 1 = m at *
        have hm0 : 0 < m := Nat.pos_of_dvd_of_pos a1 hM0
        have hmM : m ≤ M := Nat.le_of_dvd hM0 a1
        obtain ⟨n', rfl⟩ : ∃ n', n = n' + 1 := by
          cases n with
          | zero => rw [Nat.pow_zero] at hMn; omega
          | succ n' => exact ⟨n', rfl⟩
        have hall : ∀ b, nought (n' + 1) l = b → ((S' ++ [(n' + 1, M, l)]).all fun z => nought z.1 z.2.2) = ((S'.all fun z => nought z.1 z.2.2) && b) := fun b hb => by
          rw [List.all_append, List.all_cons, List.all_nil, Bool.and_true]
          dsimp only
          rw [hb]
        have hcost : cost (S' ++ [(n' + 1, M, l)]) = cost S' + (2 * M - 1) := by
          unfold cost
          rw [List.map_append, List.sum_append]
          simp
        have hsl := shL (ds := (hereI l).map iE) (let ⟨a, b⟩ := sh_iL (hereI l); ⟨a, by omega⟩)
        walk_at "dl"
        refine ⟨⟨rfl, rfl⟩, ?_⟩
        rw [eqvI]
        by_cases c1 : m = 1
        · refine iteTr (decide_eq_true (by omega)) ?_
          refine ⟨by decide, ⟨hsl, rfl⟩, ?_⟩
          rw [eqv_nilL]
          by_cases c2 : hereI l = []
          · rw [c2]
            refine iteFa rfl ⟨trivial, iteFa (decide_eq_false (by omega)) ?_⟩
            have hn : nought (n' + 1) l = true := by
              unfold nought
              rw [eL, if_neg (fun h => h.2 c2), if_neg (by omega)]
            rw [hall _ hn, Bool.and_true] at kt kf
            exact ih S' _ _ _ _ _ _ _ (fun z hz' => hS z (List.mem_append_left _ hz')) (by omega) (by omega) kt kf
          · refine iteTr (by rw [decide_eq_false (by simpa using c2)]; rfl) ?_
            have hn : nought (n' + 1) l = false := by
              unfold nought
              rw [eL, if_pos ⟨by omega, c2⟩]
            exact kf (by rw [hall _ hn, Bool.and_false])
        · refine iteFa (decide_eq_false (by omega)) (iteFa rfl ⟨trivial, iteTr (decide_eq_true (by omega)) ?_⟩)
          obtain ⟨l1, l2, l3⟩ := leastP_ok (m : Int)
          have hpm := hz.sm m a1 (by omega)
          have hp7 : leastP (m : Int) ≤ 7 := by rcases leastP_pr (m : Int) with e | e | e | e <;> rw [e] <;> decide
          obtain ⟨f1, f2, f3⟩ := fdiv_dvd l1 (by omega) hpm
          refine ⟨by decide, by decide, ?_⟩
          refine lc_fm (α := Int) (enc := PyData.int) (p := fun d => decide ((m : Int).fmod d = 0)) (res := PyData.int) _ [2, 3, 5, 7] [] (fun d hd X Y hX hY => ?_) ?_
          · walk_at "dl"
            have hd0 : d ≠ 0 := by
              simp only [List.mem_cons, List.not_mem_nil, or_false] at hd
              omega
            refine ⟨hd0, ⟨rfl, rfl⟩, ?_⟩
            rw [eqvI]
            exact iteC hX hY
          · rw [List.nil_append, toInts_map]
            dsimp only
            rw [min_least hpm]
            dsimp only
            refine ⟨rfl, (hereI l, (m : Int), leastP (m : Int)), rfl, ⟨⟨l1, l2⟩, l3, ⟨by dsimp only; omega, by dsimp only; omega⟩, hpm, by dsimp only; omega, fun e he => ⟨(hdh e he).2, ?_⟩⟩, fun d hd => ?_⟩
            · have := a3 e he
              dsimp only
              rw [Int.fmod_eq_emod_of_nonneg _ (by omega)]
              exact Int.emod_eq_zero_of_dvd (Int.natCast_dvd_natCast.mpr this)
            · subst hd
              dsimp only
              have hle := lotsI_le (l := hereI l) (m := (m : Int)) (p := leastP (m : Int))
              have hsum : cost (S' ++ (lotsI (hereI l) m (leastP m)).map fun x => (n', ((m : Int).fdiv (leastP m)).toNat, x)) = cost S' + (lotsI (hereI l) m (leastP m)).length * (2 * ((m : Int).fdiv (leastP m)).toNat - 1) := by
                unfold cost
                rw [List.map_append, List.sum_append, List.map_map]
                congr 1
                induction lotsI (hereI l) m (leastP m) with
                | nil => simp
                | cons a r ihr => rw [List.map_cons, List.sum_cons, ihr, List.length_cons, Nat.add_mul]; dsimp only [Function.comp]; omega
              have hsl' : S'.length ≤ cost S' := by
                have hp : ∀ z ∈ S', 1 ≤ 2 * z.2.1 - 1 := fun z hz' => by have := (hS z (List.mem_append_left _ hz')).M0; omega
                clear ih kt kf hS hsh hK hC hcost hall hsum
                unfold cost
                induction S' with
                | nil => exact Nat.zero_le _
                | cons a r ihr =>
                  have h1 := ihr fun z hz' => hp z (List.mem_cons_of_mem _ hz')
                  have h2 := hp a List.mem_cons_self
                  rw [List.map_cons, List.sum_cons, List.length_cons]
                  omega
              have hpn : (leastP (m : Int)).toNat * ((m : Int).fdiv (leastP (m : Int))).toNat = m := by
                have : (((leastP (m : Int)).toNat * ((m : Int).fdiv (leastP (m : Int))).toNat : Nat) : Int) = m := by
                  rw [Int.natCast_mul, Int.toNat_of_nonneg (by omega), Int.toNat_of_nonneg (by omega), Int.mul_comm]
                  exact f3
                omega
              have hprod : (lotsI (hereI l) m (leastP m)).length * (2 * ((m : Int).fdiv (leastP m)).toNat - 1) + 2 ≤ 2 * m := by
                have h1 := Nat.mul_le_mul_right (2 * ((m : Int).fdiv (leastP m)).toNat - 1) hle.1
                have h2 : (leastP (m : Int)).toNat * (2 * ((m : Int).fdiv (leastP m)).toNat) = 2 * m := by
                  rw [Nat.mul_left_comm, hpn]
                have h3 : (leastP (m : Int)).toNat * (2 * ((m : Int).fdiv (leastP m)).toNat) = (leastP (m : Int)).toNat * (2 * ((m : Int).fdiv (leastP m)).toNat - 1) + (leastP (m : Int)).toNat := by
                  rw [← Nat.mul_succ]
                  congr 1
                  omega
                omega
              have hchild : 2 * ((m : Int).fdiv (leastP m)).toNat ≤ m := by
                have := Nat.mul_le_mul_right ((m : Int).fdiv (leastP m)).toNat (show 2 ≤ (leastP (m : Int)).toNat by omega)
                omega
              refine ⟨?_, ?_⟩
              · rw [List.length_map, List.length_map]
                have := hle.1
                omega
              · have ihS := ih (S' ++ (lotsI (hereI l) m (leastP m)).map fun x => (n', ((m : Int).fdiv (leastP m)).toNat, x)) (.od true (eI (knownI l))) (.d (.int (m : Int))) s4 s5 (.d (.list ((hereI l).map iE))) s7 s8 ?_ ?_ ?_ ?_ ?_
                · rw [List.map_append, List.map_map] at ihS
                  exact ihS
                · intro z hz'
                  rcases List.mem_append.mp hz' with r | r
                  · exact hS z (List.mem_append_left _ r)
                  · obtain ⟨x, hx, rfl⟩ := List.mem_map.mp r
                    have hMm : (m : Int).toNat ∣ M := by rw [Int.toNat_natCast]; exact a1
                    have hdd := lots_den (N := M) (n := 0) hM0 l1 l3 (by omega) hMm hpm (by rw [Int.toNat_natCast]; exact a3) x hx
                    have f4 : 0 < ((m : Int).fdiv (leastP (m : Int))).toNat := by omega
                    refine ⟨?_, fun e he => ⟨hdd e he, ?_⟩, by dsimp only; omega, ?_, by dsimp only; omega, fun k hk h1 => hz.sm k (Nat.dvd_trans hk (Nat.dvd_trans f1 a1)) h1⟩
                    · have h1 := hle.2 x hx
                      have h2 : x.length * 2 ^ n' ≤ (2 * l.length) * 2 ^ n' := Nat.mul_le_mul_right _ (by omega)
                      have h3 : (2 * l.length) * 2 ^ n' = l.length * 2 ^ (n' + 1) := by
                        rw [Nat.pow_succ, Nat.mul_comm 2, Nat.mul_assoc, Nat.mul_comm 2]
                      dsimp only
                      omega
                    · obtain ⟨y, hy⟩ := lots_num x hx e he
                      have h1 := Nat.le_of_dvd f4 (hdd e he)
                      have h2 := fr_small (x := y)
                      rw [← hy] at h2
                      omega
                    · dsimp only
                      rw [Nat.pow_succ] at hMn
                      omega
                · rw [hsum]; omega
                · rw [hsum]; omega
                · intro h
                  refine kt ?_
                  rw [List.all_append, List.all_map] at h
                  have hn : nought (n' + 1) l = (lotsI (hereI l) m (leastP m)).all (nought n') := by
                    conv => lhs; unfold nought
                    rw [eL, if_neg (fun h => c1 (by omega)), if_pos (by omega)]
                  rw [hall _ hn]
                  exact h
                · intro h
                  refine kf ?_
                  rw [List.all_append, List.all_map] at h
                  have hn : nought (n' + 1) l = (lotsI (hereI l) m (leastP m)).all (nought n') := by
                    conv => lhs; unfold nought
                    rw [eL, if_neg (fun h => c1 (by omega)), if_pos (by omega)]
                  rw [hall _ hn]
                  exact h
theorem p__law_is_nought : ∀ xs Q, xs.length = 1 → R__law_is_nought xs Q → T__law_is_nought (endE Q) (xs ++ List.replicate (10 - xs.length) .un) := by
  intro xs Q hl h
  obtain ⟨⟨l, n, M⟩, rfl, h1, k⟩ := h
  show T__law_is_nought (endE Q) [.d (iD l), .un, .un, .un, .un, .un, .un, .un, .un, .un]
  dsimp only at h1 k
  unfold T__law_is_nought
  walk_at "dl"
  have hk : Q (.bool (nought n l)) := k _ rfl
  refine ⟨by decide, 2 * M + 1, ?_⟩
  have hM := h1.MN
  refine nought_loop _ _ _ (2 * M + 1) [(n, M, l)] _ _ _ _ _ _ _ (fun z hz => ?_) ?_ ?_ (fun h s2 s3 s4 s5 s6 s7 s8 => ?_) fun h => ?_
  · rw [List.mem_singleton] at hz
    subst hz; exact h1
  · unfold cost; simp; omega
  · unfold cost; simp; omega
  · walk_at "dl"
    have : nought n l = true := by simpa using h
    rw [this] at hk
    exact hk
  · have : nought n l = false := by simpa using h
    rw [this] at hk
    exact hk
end TP
/-! T9: sums of fractions times roots of one: promises and readings (printed by emit.py). -/
namespace TP
open PySem PySem.Spec L2 DL
open PyProof.Rows hiding St

abbrev Am := List (Rat × Int × Nat)
def eA (e : Rat × Int × Nat) : D := .tuple [qD e.1, .tuple [.int e.2.1, .int (e.2.2 : Int)]]
def comA (l : Am) (a : Nat) : Nat := l.foldl (fun a e => Nat.lcm a e.2.2) a
def intsA (l : Am) : Im := l.map fun e => (e.1, e.2.1 * ((comA l 1 / e.2.2 : Nat) : Int))
structure adOk (n M : Nat) (l : Am) : Prop where
  dn : ∃ B : Nat, 0 < B ∧ B < 32768 ∧ ∀ e ∈ l, e.2.2 ∣ B
  nm : ∀ e ∈ l, e.2.1.natAbs < 1073741824
  ok : nOk n M (intsA l)
def R__law_adds : Pm := RI (I := Am × Nat × Nat) (fun i => [.d (.list (i.1.map eA))]) (fun i => adOk i.2.1 i.2.2 i.1) (fun i d => d = .bool (nought i.2.1 (intsA i.1)))
theorem mono__law_adds : MonoP R__law_adds := ri_mono
def pairL (a b c u v : Rat) : Am := [(u, a.num, a.den), (fr (-u), a.num, a.den), (v, b.num, b.den), (fr (-v), b.num, b.den), (0, 0 - 2 * c.num, c.den)]
def R__law_is_pair : Pm := RI (I := (Rat × Rat × Rat × Rat × Rat) × Nat × Nat) (fun i => e5 i.1) (fun i => adOk i.2.1 i.2.2 (pairL i.1.1 i.1.2.1 i.1.2.2.1 i.1.2.2.2.1 i.1.2.2.2.2) ∧ i.1.2.2.2.1.den < 1073741824 ∧ i.1.2.2.2.2.den < 1073741824)
  (fun i d => d = .bool (nought i.2.1 (intsA (pairL i.1.1 i.1.2.1 i.1.2.2.1 i.1.2.2.2.1 i.1.2.2.2.2))))
theorem mono__law_is_pair : MonoP R__law_is_pair := ri_mono
def T__law_adds : ST :=
  (sSeq (sAsg (dC (.int 1)) (gtName 1))
  (sSeq (sFor (ieOf (iSeq (dVar 0))) (gtTup 2 (gtCons (gtName 2) (gtCons (gtName 3) gtNil)))
  (sAsg (dOp kDiv (dOp kMul (dVar 1) (dOp kIx (dVar 3) (dC (.int 1)))) (dCall 2 R__law_common (aCons (sD (dVar 1)) (aCons (sD (dOp kIx (dVar 3) (dC (.int 1)))) aNil)))) (gtName 1)))
  (sRet (dCall 1 R__law_is_nought (aCons (sD (dLc (iSeq (dVar 0)) (gtTup 2 (gtCons (gtName 2) (gtCons (gtName 3) gtNil))) bYes (dTup (aCons (dVar 2) (aCons (dOp kMul (dOp kIx (dVar 3) (dC (.int 0))) (dOp kDiv (dVar 1) (dOp kIx (dVar 3) (dC (.int 1))))) aNil))) [2, 3])) aNil)))))
def T__law_is_pair : ST :=
  (sRet (dCall 1 R__law_adds (aCons (sD (dOp kCat (dOp kCat (dCall 2 R__law_pairs_of (aCons (sD (dVar 0)) (aCons (sD (dVar 3)) aNil))) (dCall 2 R__law_pairs_of (aCons (sD (dVar 1)) (aCons (sD (dVar 4)) aNil)))) (dLst (aCons (dTup (aCons (dTup (aCons (dC (.int 0)) (aCons (dC (.int 1)) aNil))) (aCons (dTup (aCons (dOp kSub (dC (.int 0)) (dOp kMul (dC (.int 2)) (dOp kIx (dVar 2) (dC (.int 0))))) (aCons (dOp kIx (dVar 2) (dC (.int 1))) aNil))) aNil))) aNil)))) aNil)))
end TP
/-! P9: sums of fractions times roots of one. -/
namespace TP
open PySem PySem.Spec L2 DL
open PyProof.Rows hiding St
local macro_rules | `(tactic| walk_at "dl") => `(tactic| dsimp only [sSeq, sPar, sPar3, sParL, sParB, sParD, sNext, sRet, sRetN, sIf, sAsg, sAsgO, ownD, sFz, fz, sAppend, sAppendLL, sNewLL, sExtend, sPut, sNewD, sDispT, psNil, psCons, endE,
  aCons, aNil, aStar, dVar, wVar, rVar, dC, dOp, dUn, dIf, dAnd, dOr, dNot, dTup, dLst, dCB, dCall, dLc, dSl, dRepr, dIsi, dGet, dGet2, dSortD, pNo, pSo, sD, sB, sVar, iSeq, iSeqC, iRg1, iRg2, ieOf, ieP,
  bT, bTru, bAnd, bOr, bNot, bYes, gtName, gtTup, gtCons, gtNil, kTru, kI, kI1, kI2, kInt, kLen, kSub, kMul, kDiv, kMod, kLt, kLe, kGt, kGe, kEq, kNe, kAdd, kCat, kIn, kNotIn, kIsN, kNotN, kIx, kIxS, kNeg, kTupO, kLst, kRev, kRevL, kSl, kSlL, kMinL, isNone,
  wipeE, List.getElem?_cons_zero, List.getElem?_cons_succ, List.set_cons_zero, List.set_cons_succ, List.length_cons, List.length_nil, List.cons_append, List.nil_append, List.replicate_succ, List.replicate_zero, Nat.sub_self, List.append_nil])


def tgA : GT := gtTup 2 (gtCons (gtName 2) (gtCons (gtName 3) gtNil))
def bodyA : ST := sAsg (dOp kDiv (dOp kMul (dVar 1) (dOp kIx (dVar 3) (dC (.int 1)))) (dCall 2 R__law_common (aCons (sD (dVar 1)) (aCons (sD (dOp kIx (dVar 3) (dC (.int 1)))) aNil)))) (gtName 1)
theorem comA_loop (E : PEn) (s0 : Slot) (B : Nat) (hB : 0 < B) (hB2 : B < 32768) : ∀ (l : Am) (m : Nat) (s2 s3 : Slot), m ∣ B → (∀ e ∈ l, e.2.2 ∣ B) →
    (∀ s2 s3, E.nx [s0, .d (.int (comA l m : Nat)), s2, s3]) → forD tgA bodyA E (l.map eA) [s0, .d (.int (m : Nat)), s2, s3]
  | [], m, s2, s3, _, _, k => k s2 s3
  | e :: l, m, s2, s3, hm, hd, k => by
    rw [List.map_cons]
    unfold forD
    dsimp only [tgA, bodyA]
    walk_at "dl"
    dsimp only [eA, qD]
    walk_at "dl"
    rw [at2_1]
    dsimp only
    have h1 := Nat.le_of_dvd hB (hd e List.mem_cons_self)
    have h0 : 0 < e.2.2 := Nat.pos_of_dvd_of_pos (hd e List.mem_cons_self) hB
    have h2 := Nat.le_of_dvd hB hm
    refine ⟨rfl, rfl, cm_l (by omega), rfl, ((m : Int), (e.2.2 : Int)), rfl, ⟨by dsimp only; omega, by dsimp only; omega⟩, fun d hd' => ?_⟩
    subst hd'
    have eg : Int.gcd (m : Int) (e.2.2 : Int) = Nat.gcd m e.2.2 := by simp [Int.gcd]
    have g1 : 0 < Nat.gcd m e.2.2 := Nat.gcd_pos_of_pos_right _ h0
    have g2 : Nat.gcd m e.2.2 ≤ e.2.2 := Nat.gcd_le_right _ h0
    refine ⟨⟨?_, ?_⟩, ?_⟩
    · dsimp only; rw [eg]; omega
    · dsimp only; rw [eg]; omega
    · dsimp only
      have el : ((m : Int) * (e.2.2 : Int)).fdiv ((Int.gcd (m : Int) (e.2.2 : Int) : Nat) : Int) = ((Nat.lcm m e.2.2 : Nat) : Int) := by
        rw [eg, Int.fdiv_eq_ediv_of_nonneg _ (by omega), ← Int.natCast_mul, ← Int.natCast_ediv]; rfl
      rw [el]
      exact comA_loop E s0 B hB hB2 l (Nat.lcm m e.2.2) _ _ (Nat.lcm_dvd hm (hd e List.mem_cons_self)) (fun z hz => hd z (List.mem_cons_of_mem _ hz)) k
theorem comA_dvd {B : Nat} : ∀ (l : Am) (a : Nat), a ∣ B → (∀ e ∈ l, e.2.2 ∣ B) → comA l a ∣ B ∧ a ∣ comA l a ∧ ∀ e ∈ l, e.2.2 ∣ comA l a
  | [], a, h, _ => ⟨h, Nat.dvd_refl _, fun e h => by cases h⟩
  | e :: l, a, h, hd => by
    obtain ⟨a1, a2, a3⟩ := comA_dvd l (Nat.lcm a e.2.2) (Nat.lcm_dvd h (hd e List.mem_cons_self)) fun z hz => hd z (List.mem_cons_of_mem _ hz)
    have e1 : comA (e :: l) a = comA l (Nat.lcm a e.2.2) := rfl
    rw [e1]
    refine ⟨a1, Nat.dvd_trans (Nat.dvd_lcm_left _ _) a2, fun z hz => ?_⟩
    rcases List.mem_cons.mp hz with r | r
    · rw [r]; exact Nat.dvd_trans (Nat.dvd_lcm_right _ _) a2
    · exact a3 z r
theorem p__law_adds : ∀ xs Q, xs.length = 1 → R__law_adds xs Q → T__law_adds (endE Q) (xs ++ List.replicate (4 - xs.length) .un) := by
  intro xs Q hl h
  obtain ⟨⟨l, n, M⟩, rfl, ⟨⟨B, hB, hB2, hd⟩, hn, ho⟩, k⟩ := h
  show T__law_adds (endE Q) [.d (.list (l.map eA)), .un, .un, .un]
  dsimp only at hd hn ho k
  unfold T__law_adds
  walk_at "dl"
  refine comA_loop _ _ B hB hB2 l 1 _ _ (Nat.one_dvd _) hd fun s2 s3 => ?_
  walk_at "dl"
  obtain ⟨a1, a2, a3⟩ := comA_dvd l 1 (Nat.one_dvd _) hd
  have hc0 := Nat.pos_of_dvd_of_pos a1 hB
  have hl2 : l.length ≤ 100000 := by
    have := ho.len
    unfold intsA at this
    rw [List.length_map] at this
    exact Nat.le_trans (Nat.le_mul_of_pos_right _ (Nat.pow_pos (by decide))) this
  refine ⟨by rw [List.length_map]; omega, ?_⟩
  refine lc_map (enc := eA) (res := fun e => iE (e.1, e.2.1 * ((comA l 1 / e.2.2 : Nat) : Int))) _ _ [] (fun e he X q => ?_) ?_
  · dsimp only [eA]
    walk_at "dl"
    rw [at2_1, at2_0]
    dsimp only
    have h1 := Nat.le_of_dvd hB (hd e he)
    have h0 : 0 < e.2.2 := Nat.pos_of_dvd_of_pos (hd e he) hB
    have e1 : ((comA l 1 : Nat) : Int).fdiv (e.2.2 : Int) = ((comA l 1 / e.2.2 : Nat) : Int) := by
      rw [Int.fdiv_eq_ediv_of_nonneg _ (by omega), ← Int.natCast_ediv]
    refine ⟨rfl, rfl, ⟨by omega, by omega⟩, cm_l (hn e he), by decide, ?_⟩
    rw [e1]
    exact q
  · rw [List.nil_append]
    have el : (l.map fun e => iE (e.1, e.2.1 * ((comA l 1 / e.2.2 : Nat) : Int))) = (intsA l).map iE := by unfold intsA; rw [List.map_map]; rfl
    rw [el]
    refine ⟨rfl, (intsA l, n, M), rfl, ho, fun d hd' => ?_⟩
    subst hd'
    exact k _ rfl
theorem p__law_is_pair : ∀ xs Q, xs.length = 5 → R__law_is_pair xs Q → T__law_is_pair (endE Q) (xs ++ List.replicate (5 - xs.length) .un) := by
  intro xs Q hl h
  obtain ⟨⟨⟨a, b, c, u, v⟩, n, M⟩, rfl, ⟨h1, h2, h3⟩, k⟩ := h
  show T__law_is_pair (endE Q) [.d (qD a), .d (qD b), .d (qD c), .d (qD u), .d (qD v)]
  dsimp only at h1 h2 h3 k
  unfold T__law_is_pair
  walk_at "dl"
  refine ⟨rfl, (a, u), rfl, h2, fun d hd => ?_⟩
  subst hd
  refine ⟨rfl, (b, v), rfl, h3, fun d hd => ?_⟩
  subst hd
  dsimp only [lD, List.map, qD]
  walk_at "dl"
  rw [at2_0]
  dsimp only
  rw [at2_1]
  dsimp only
  refine ⟨by decide, by decide, cm_l (by decide), trivial, by decide, by decide, by decide, by decide, rfl, (pairL a b c u v, n, M), rfl, h1, fun d hd => ?_⟩
  subst hd
  exact k _ rfl
end TP
/-! T10: bent values, drawn asks: promises and readings (printed by emit.py). -/
namespace TP
open PySem PySem.Spec L2 DL
open PyProof.Rows hiding St

mutual
/-- ints not too large -/
def sm : D → Bool
  | .int i => decide (i.natAbs < 10 ^ 30)
  | .list ds => smA ds
  | .tuple ds => smA ds
  | _ => true
def smA : List D → Bool
  | [] => true
  | d :: ds => sm d && smA ds
end
structure bIn (n : Nat) (v : D) : Prop where
  lev : v.depth ≤ n
  nd : nod v = true
  nl : nol v = true
  lf : lf v = true
  sm : sm v = true
  bulk : v.bulk ≤ 40000
  dep : v.depth ≤ 20
structure oddOk (l : List D) : Prop where
  len : 0 < l.length ∧ l.length < 1000
  el : ∀ d ∈ l, (nod d = true ∨ nol d = true) ∧ TP.lf d = true ∧ d.bulk ≤ 40 ∧ d.depth ≤ 5
structure bOut (v d : D) : Prop where
  dc : nod d = true ∨ nol d = true
  lf : lf d = true
  bulk : d.bulk ≤ 2 * v.bulk + 40
  dep : d.depth ≤ v.depth + 5
def RN__law_bent (n : Nat) : Pm := RI (I := D × List D) (fun i => [.src, .d i.1, .d (.list i.2)]) (fun i => bIn n i.1 ∧ oddOk i.2) (fun i d => bOut i.1 d)
theorem monoN__law_bent (n : Nat) : MonoP (RN__law_bent n) := ri_mono
/-! drawn asks -/
def As : List Rat := [1, mkRat 1 2, -2, mkRat 3 4]
def Bs (a : Rat) : List Rat := [a, -a, mkRat 1 3, 2]
def Cs (a : Rat) : List Rat := [0, 1, a * mkRat 1 2, a * mkRat (-1) 2]
def Us : List Rat := [5, 10, 12, 24, 7, 20].flatMap fun (o : Nat) => (List.range o).map fun (t : Nat) => mkRat (t : Int) o
def Vs (u : Rat) : List Rat := u :: fr (-u) :: fr (u + mkRat 1 2) :: (List.range 24).map fun (t : Nat) => mkRat (t : Int) 24
def Fs : List (Rat × Rat) := [(mkRat 1 10, mkRat 3 10), (mkRat 1 5, mkRat 2 5), (mkRat 9 10, mkRat 7 10), (mkRat 3 5, mkRat 1 5)]
def Ss : List (Rat × Rat) := [(0, 1), (mkRat 1 2, -1), (mkRat 1 3, mkRat (-1) 2), (mkRat 1 4, 0), (mkRat 5 6, mkRat 1 2)]
inductive drawn : Rat → Rat → Rat → Rat → Rat → Prop
  | any {a b c u v : Rat} : a ∈ As → b ∈ Bs a → c ∈ Cs a → u ∈ Us → v ∈ Vs u → drawn a b c u v
  | five {a b c u v : Rat} : a ∈ As → b ∈ Bs a → c ∈ Cs a → (u, v) ∈ Fs → drawn a b c u (if b = a then v else fr (v + mkRat 1 2))
  | frac {a b u v x y : Rat} : a ∈ As → b ∈ Bs a → (u, x) ∈ Ss → (v, y) ∈ Ss → drawn a b (a * x + b * y) u v
def R__law_ask : Pm := RI (I := Unit) (fun _ => [.src]) (fun _ => True) (fun _ d => ∃ a b c u v : Rat, drawn a b c u v ∧ d = .tuple [qD a, qD b, qD c, qD u, qD v])
theorem mono__law_ask : MonoP R__law_ask := ri_mono
def T__law_bent (R__law_bent : Pm) : ST :=
  (sSeq (sIf (bAnd (bT (dCall 1 R__law_is_int (aCons (sD (dVar 1)) aNil))) (bT (dOp kGt (dCall 2 R__law_pick (aCons (sVar 0) (aCons (sD (dC (.int 3))) aNil))) (dC (.int 0))))) (sRet (dOp kAdd (dVar 1) (dCall 2 R__law_of (aCons (sVar 0) (aCons (sD (dLst (aCons (dC (.int 1)) (aCons (dOp kSub (dC (.int 0)) (dC (.int 1))) (aCons (dC (.int 2)) aNil))))) aNil))))) sNext)
  (sSeq (sIf (bOr (bNot (bT (dIsi "tuple" (dVar 1)))) (bOr (bT (dOp kEq (dVar 1) (dTup aNil))) (bT (dOp kEq (dCall 2 R__law_pick (aCons (sVar 0) (aCons (sD (dC (.int 7))) aNil))) (dC (.int 0)))))) (sRet (dCall 2 R__law_of (aCons (sVar 0) (aCons (sD (dVar 2)) aNil)))) sNext)
  (sSeq (sPar 3 4 (aCons (dCall 2 R__law_pick (aCons (sVar 0) (aCons (sD (dCB kLen (aCons (dVar 1) aNil))) aNil))) (aCons (dCall 2 R__law_pick (aCons (sVar 0) (aCons (sD (dC (.int 8))) aNil))) aNil)))
  (sSeq (sIf (bT (dOp kLt (dVar 4) (dC (.int 5)))) (sRet (dOp kAdd (dOp kAdd (dSl kSl (dVar 1) pNo (pSo (dVar 3))) (dTup (aCons (dCall 3 R__law_bent (aCons (sVar 0) (aCons (sD (dOp kIx (dVar 1) (dVar 3))) (aCons (sD (dVar 2)) aNil)))) aNil))) (dSl kSl (dVar 1) (pSo (dOp kAdd (dVar 3) (dC (.int 1)))) pNo))) sNext)
  (sRet (dOp kIx (dLst (aCons (dOp kAdd (dSl kSl (dVar 1) pNo (pSo (dVar 3))) (dSl kSl (dVar 1) (pSo (dOp kAdd (dVar 3) (dC (.int 1)))) pNo)) (aCons (dOp kAdd (dSl kSl (dVar 1) pNo (pSo (dOp kAdd (dVar 3) (dC (.int 1))))) (dSl kSl (dVar 1) (pSo (dVar 3)) pNo)) (aCons (dOp kAdd (dSl kSl (dVar 1) (pSo (dVar 3)) pNo) (dSl kSl (dVar 1) pNo (pSo (dVar 3)))) aNil)))) (dOp kSub (dVar 4) (dC (.int 5)))))))))
def T__law_ask : ST :=
  (sSeq (sAsg (dCall 2 R__law_of (aCons (sVar 0) (aCons (sD (dLst (aCons (dTup (aCons (dC (.int 1)) (aCons (dC (.int 1)) aNil))) (aCons (dTup (aCons (dC (.int 1)) (aCons (dC (.int 2)) aNil))) (aCons (dTup (aCons (dOp kSub (dC (.int 0)) (dC (.int 2))) (aCons (dC (.int 1)) aNil))) (aCons (dTup (aCons (dC (.int 3)) (aCons (dC (.int 4)) aNil))) aNil)))))) aNil))) (gtName 1))
  (sSeq (sAsg (dCall 2 R__law_of (aCons (sVar 0) (aCons (sD (dLst (aCons (dVar 1) (aCons (dTup (aCons (dOp kSub (dC (.int 0)) (dOp kIx (dVar 1) (dC (.int 0)))) (aCons (dOp kIx (dVar 1) (dC (.int 1))) aNil))) (aCons (dTup (aCons (dC (.int 1)) (aCons (dC (.int 3)) aNil))) (aCons (dTup (aCons (dC (.int 2)) (aCons (dC (.int 1)) aNil))) aNil)))))) aNil))) (gtName 2))
  (sSeq (sPar 3 4 (aCons (dCall 2 R__law_pick (aCons (sVar 0) (aCons (sD (dC (.int 4))) aNil))) (aCons (dCall 2 R__law_part (aCons (sD (dCall 2 R__law_pick (aCons (sVar 0) (aCons (sD (dC (.int 24))) aNil)))) (aCons (sD (dCall 2 R__law_of (aCons (sVar 0) (aCons (sD (dLst (aCons (dC (.int 5)) (aCons (dC (.int 10)) (aCons (dC (.int 12)) (aCons (dC (.int 24)) (aCons (dC (.int 7)) (aCons (dC (.int 20)) aNil)))))))) aNil)))) aNil))) aNil)))
  (sSeq (sAsg (dCall 2 R__law_of (aCons (sVar 0) (aCons (sD (dLst (aCons (dVar 4) (aCons (dCall 1 R__law_about (aCons (sD (dVar 4)) aNil)) (aCons (dCall 2 R__law_on (aCons (sD (dVar 4)) (aCons (sD (dTup (aCons (dC (.int 1)) (aCons (dC (.int 2)) aNil)))) aNil))) (aCons (dCall 2 R__law_part (aCons (sD (dCall 2 R__law_pick (aCons (sVar 0) (aCons (sD (dC (.int 24))) aNil)))) (aCons (sD (dC (.int 24))) aNil))) aNil)))))) aNil))) (gtName 5))
  (sSeq (sAsg (dCall 2 R__law_of (aCons (sVar 0) (aCons (sD (dLst (aCons (dTup (aCons (dC (.int 0)) (aCons (dC (.int 1)) aNil))) (aCons (dTup (aCons (dC (.int 1)) (aCons (dC (.int 1)) aNil))) (aCons (dCall 2 R__law_times (aCons (sD (dVar 1)) (aCons (sD (dTup (aCons (dC (.int 1)) (aCons (dC (.int 2)) aNil)))) aNil))) (aCons (dCall 2 R__law_times (aCons (sD (dVar 1)) (aCons (sD (dTup (aCons (dOp kSub (dC (.int 0)) (dC (.int 1))) (aCons (dC (.int 2)) aNil)))) aNil))) aNil)))))) aNil))) (gtName 6))
  (sSeq (sIf (bT (dOp kEq (dVar 3) (dC (.int 1)))) (sSeq (sAsg (dCall 2 R__law_of (aCons (sVar 0) (aCons (sD (dLst (aCons (dTup (aCons (dTup (aCons (dC (.int 1)) (aCons (dC (.int 10)) aNil))) (aCons (dTup (aCons (dC (.int 3)) (aCons (dC (.int 10)) aNil))) aNil))) (aCons (dTup (aCons (dTup (aCons (dC (.int 1)) (aCons (dC (.int 5)) aNil))) (aCons (dTup (aCons (dC (.int 2)) (aCons (dC (.int 5)) aNil))) aNil))) (aCons (dTup (aCons (dTup (aCons (dC (.int 9)) (aCons (dC (.int 10)) aNil))) (aCons (dTup (aCons (dC (.int 7)) (aCons (dC (.int 10)) aNil))) aNil))) (aCons (dTup (aCons (dTup (aCons (dC (.int 3)) (aCons (dC (.int 5)) aNil))) (aCons (dTup (aCons (dC (.int 1)) (aCons (dC (.int 5)) aNil))) aNil))) aNil)))))) aNil))) (gtTup 2 (gtCons (gtName 4) (gtCons (gtName 5) gtNil))))
  (sAsg (dIf (bT (dOp kEq (dVar 2) (dVar 1))) (dVar 5) (dCall 2 R__law_on (aCons (sD (dVar 5)) (aCons (sD (dTup (aCons (dC (.int 1)) (aCons (dC (.int 2)) aNil)))) aNil)))) (gtName 5))) sNext)
  (sSeq (sIf (bT (dOp kEq (dVar 3) (dC (.int 2)))) (sSeq (sAsg (dLst (aCons (dTup (aCons (dTup (aCons (dC (.int 0)) (aCons (dC (.int 1)) aNil))) (aCons (dTup (aCons (dC (.int 1)) (aCons (dC (.int 1)) aNil))) aNil))) (aCons (dTup (aCons (dTup (aCons (dC (.int 1)) (aCons (dC (.int 2)) aNil))) (aCons (dTup (aCons (dOp kSub (dC (.int 0)) (dC (.int 1))) (aCons (dC (.int 1)) aNil))) aNil))) (aCons (dTup (aCons (dTup (aCons (dC (.int 1)) (aCons (dC (.int 3)) aNil))) (aCons (dTup (aCons (dOp kSub (dC (.int 0)) (dC (.int 1))) (aCons (dC (.int 2)) aNil))) aNil))) (aCons (dTup (aCons (dTup (aCons (dC (.int 1)) (aCons (dC (.int 4)) aNil))) (aCons (dTup (aCons (dC (.int 0)) (aCons (dC (.int 1)) aNil))) aNil))) (aCons (dTup (aCons (dTup (aCons (dC (.int 5)) (aCons (dC (.int 6)) aNil))) (aCons (dTup (aCons (dC (.int 1)) (aCons (dC (.int 2)) aNil))) aNil))) aNil)))))) (gtName 7))
  (sSeq (sAsg (dTup (aCons (dCall 2 R__law_of (aCons (sVar 0) (aCons (sD (dVar 7)) aNil))) (aCons (dCall 2 R__law_of (aCons (sVar 0) (aCons (sD (dVar 7)) aNil))) aNil))) (gtTup 2 (gtCons (gtTup 2 (gtCons (gtName 4) (gtCons (gtName 8) gtNil))) (gtCons (gtTup 2 (gtCons (gtName 5) (gtCons (gtName 9) gtNil))) gtNil))))
  (sAsg (dCall 2 R__law_sum (aCons (sD (dCall 2 R__law_times (aCons (sD (dVar 1)) (aCons (sD (dVar 8)) aNil)))) (aCons (sD (dCall 2 R__law_times (aCons (sD (dVar 2)) (aCons (sD (dVar 9)) aNil)))) aNil))) (gtName 6)))) sNext)
  (sRet (dTup (aCons (dVar 1) (aCons (dVar 2) (aCons (dVar 6) (aCons (dVar 4) (aCons (dVar 5) aNil))))))))))))))
end TP
/-! P10: bent values. -/
namespace TP
open PySem PySem.Spec L2 DL
open PyProof.Rows hiding St
local macro_rules | `(tactic| walk_at "dl") => `(tactic| dsimp only [sSeq, sPar, sPar3, sParL, sParB, sParD, sNext, sRet, sRetN, sIf, sAsg, sAsgO, ownD, sFz, fz, sAppend, sAppendLL, sNewLL, sExtend, sPut, sNewD, sDispT, psNil, psCons, endE,
  aCons, aNil, aStar, dVar, wVar, rVar, dC, dOp, dUn, dIf, dAnd, dOr, dNot, dTup, dLst, dCB, dCall, dLc, dSl, dRepr, dIsi, dGet, dGet2, dSortD, pNo, pSo, sD, sB, sVar, iSeq, iSeqC, iRg1, iRg2, ieOf, ieP,
  bT, bTru, bAnd, bOr, bNot, bYes, gtName, gtTup, gtCons, gtNil, kTru, kI, kI1, kI2, kInt, kLen, kSub, kMul, kDiv, kMod, kLt, kLe, kGt, kGe, kEq, kNe, kAdd, kCat, kIn, kNotIn, kIsN, kNotN, kIx, kIxS, kNeg, kTupO, kLst, kRev, kRevL, kSl, kSlL, kMinL, isNone,
  wipeE, List.getElem?_cons_zero, List.getElem?_cons_succ, List.set_cons_zero, List.set_cons_succ, List.length_cons, List.length_nil, List.cons_append, List.nil_append, List.replicate_succ, List.replicate_zero, Nat.sub_self, List.append_nil])


theorem int_of {v : D} (h : (isiD (tyN v) "int" && !isiD (tyN v) "bool") = true) : ∃ i, v = .int i := by
  cases v with
  | int i => exact ⟨i, rfl⟩
  | bool b => revert h; simp [isiD, tyN]
  | none => revert h; simp [isiD, tyN]
  | str x => revert h; simp [isiD, tyN]
  | list x => revert h; simp [isiD, tyN]
  | tuple x => revert h; simp [isiD, tyN]
  | dict x => revert h; simp [isiD, tyN]
theorem tup_of {v : D} (h : isiD (tyN v) "tuple" = true) : ∃ ds, v = .tuple ds := by
  cases v with
  | tuple x => exact ⟨x, rfl⟩
  | int i => revert h; simp [isiD, tyN]
  | bool b => revert h; simp [isiD, tyN]
  | none => revert h; simp [isiD, tyN]
  | str x => revert h; simp [isiD, tyN]
  | list x => revert h; simp [isiD, tyN]
  | dict x => revert h; simp [isiD, tyN]
mutual
theorem lay_of : ∀ d : D, nod d = true → lf d = true → d.canLay0 = true
  | .none, _, _ => rfl
  | .bool _, _, _ => rfl
  | .int _, _, _ => rfl
  | .str x, _, h => by
    simp only [lf, Bool.and_eq_true] at h
    exact h.1
  | .list ds, h1, h2 => by
    simp only [PyData.canLay0]
    exact layA_of ds (by simpa only [nod] using h1) (by simpa only [lf] using h2)
  | .tuple ds, h1, h2 => by
    simp only [PyData.canLay0]
    exact layA_of ds (by simpa only [nod] using h1) (by simpa only [lf] using h2)
  | .dict _, h, _ => by simp only [nod] at h; cases h
theorem layA_of : ∀ ds : List D, nodA ds = true → lfA ds = true → PyData.canLayAll0 ds = true
  | [], _, _ => rfl
  | d :: ds, h1, h2 => by
    simp only [nodA, Bool.and_eq_true] at h1
    simp only [lfA, Bool.and_eq_true] at h2
    simp only [PyData.canLayAll0, lay_of d h1.1 h2.1, layA_of ds h1.2 h2.2, Bool.and_self]
end
theorem bIn.sh {n : Nat} {v : D} (h : bIn n v) : SeqAt.shaped v = true := by
  have := h.dep
  unfold SeqAt.shaped
  rw [lay_of v h.nd h.lf, decide_eq_true (by omega)]; rfl
/-! a statement at a time; I: what is known of what comes -/
theorem seq_ifS {c : BT} {A B U : ST} {E : PEn} {ρ : En} (I : Bool → Prop) (hc : ∀ P : Bool → Prop, (∀ b, I b → P b) → c ρ P) (h1 : I true → A { E with nx := U E } ρ) (h0 : I false → B { E with nx := U E } ρ) : sSeq (sIf c A B) U E ρ := by
  show c ρ fun k => if k = true then _ else _
  exact hc _ fun b hb => iteC (fun e => h1 (e ▸ hb)) (fun e => h0 (e ▸ hb))
theorem seq_asgS {t : DT} {i : Nat} {U : ST} {E : PEn} {ρ : En} (I : D → Prop) (hc : ∀ P : D → Prop, (∀ d, I d → P d) → t ρ P) (h : ∀ d, I d → U E (ρ.set i (.d d))) : sSeq (sAsg t (gtName i)) U E ρ := hc _ h
theorem ret_S {t : DT} {E : PEn} {ρ : En} (I : D → Prop) (hc : ∀ P : D → Prop, (∀ d, I d → P d) → t ρ P) (h : ∀ d, I d → E.rt d) : sRet t E ρ := hc _ h
theorem bulkA_append : ∀ l m : List D, PyData.bulkAll (l ++ m) = PyData.bulkAll l + PyData.bulkAll m
  | [], m => by simp [PyData.bulkAll]
  | a :: l, m => by
    have := bulkA_append l m
    simp only [List.cons_append, PyData.bulkAll, this]; omega
theorem depA_append : ∀ l m : List D, PyData.depthAll (l ++ m) = max (PyData.depthAll l) (PyData.depthAll m)
  | [], m => by simp [PyData.depthAll]
  | a :: l, m => by
    have := depA_append l m
    simp only [List.cons_append, PyData.depthAll, this]; omega
theorem nodA_append : ∀ l m : List D, nodA (l ++ m) = (nodA l && nodA m)
  | [], m => by simp [nodA]
  | a :: l, m => by simp only [List.cons_append, nodA, nodA_append l m, Bool.and_assoc]
theorem nolA_append : ∀ l m : List D, nolA (l ++ m) = (nolA l && nolA m)
  | [], m => by simp [nolA]
  | a :: l, m => by simp only [List.cons_append, nolA, nolA_append l m, Bool.and_assoc]
theorem lfA_append : ∀ l m : List D, lfA (l ++ m) = (lfA l && lfA m)
  | [], m => by simp [lfA]
  | a :: l, m => by simp only [List.cons_append, lfA, lfA_append l m, Bool.and_assoc]
theorem smA_append : ∀ l m : List D, smA (l ++ m) = (smA l && smA m)
  | [], m => by simp [smA]
  | a :: l, m => by simp only [List.cons_append, smA, smA_append l m, Bool.and_assoc]
theorem sub_all {l m : List D} (h : l.Sublist m) : PyData.bulkAll l ≤ PyData.bulkAll m ∧ PyData.depthAll l ≤ PyData.depthAll m ∧ (nodA m = true → nodA l = true) ∧ (nolA m = true → nolA l = true) ∧ (lfA m = true → lfA l = true) := by
  induction h with
  | slnil => simp
  | cons a _ ih =>
    obtain ⟨i1, i2, i3, i4, i5⟩ := ih
    simp only [PyData.bulkAll, PyData.depthAll, nodA, nolA, lfA, Bool.and_eq_true]
    exact ⟨by omega, by omega, fun h => i3 h.2, fun h => i4 h.2, fun h => i5 h.2⟩
  | cons_cons a _ ih =>
    obtain ⟨i1, i2, i3, i4, i5⟩ := ih
    simp only [PyData.bulkAll, PyData.depthAll, nodA, nolA, lfA, Bool.and_eq_true]
    exact ⟨by omega, by omega, fun h => ⟨h.1, i3 h.2⟩, fun h => ⟨h.1, i4 h.2⟩, fun h => ⟨h.1, i5 h.2⟩⟩
theorem cut_sub (ds : List D) (lo hi : Option Int) : (cut ds lo hi).Sublist ds := by
  unfold cut
  exact (List.take_sublist _ _).trans (List.drop_sublist _ _)
theorem cut_take {ds : List D} {k : Nat} (h : k < ds.length) : cut ds none (some (k : Int)) = ds.take k := by
  unfold cut
  rw [HT.sIx_nat, HT.sIx_none, List.drop_zero, Nat.sub_zero, Nat.min_eq_left (by omega)]
theorem cut_drop {ds : List D} {k : Nat} (h : k < ds.length) : cut ds (some ((k : Int) + 1)) none = ds.drop (k + 1) := by
  unfold cut
  rw [show (k : Int) + 1 = ((k + 1 : Nat) : Int) by omega, HT.sIx_nat, HT.sIx_none, Nat.min_eq_left (by omega)]
  exact List.take_of_length_le (by rw [List.length_drop]; omega)
theorem len_bulk : ∀ ds : List D, ds.length ≤ PyData.bulkAll ds
  | [] => Nat.le_refl _
  | d :: ds => by
    have := len_bulk ds
    simp only [List.length_cons, PyData.bulkAll]; omega
theorem outT {n : Nat} {ds es : List D} (h : bIn n (.tuple ds)) (h1 : nodA es = true ∨ nolA es = true) (h2 : lfA es = true) (h3 : PyData.bulkAll es ≤ 2 * PyData.bulkAll ds + 40) (h4 : PyData.depthAll es ≤ PyData.depthAll ds + 5) : bOut (.tuple ds) (.tuple es) := by
  refine ⟨?_, by simpa only [lf] using h2, by simpa only [PyData.bulk] using h3, by simp only [PyData.depth]; omega⟩
  rcases h1 with h1 | h1
  · exact .inl (by simpa only [nod] using h1)
  · exact .inr (by simpa only [nol] using h1)
theorem outT2 {n : Nat} {ds l m : List D} (h : bIn n (.tuple ds)) (hl : l.Sublist ds) (hm : m.Sublist ds) : bOut (.tuple ds) (.tuple (l ++ m)) := by
  obtain ⟨i1, i2, i3, i4, i5⟩ := sub_all hl
  obtain ⟨j1, j2, j3, j4, j5⟩ := sub_all hm
  have a := h.nd
  have b := h.lf
  simp only [nod] at a
  simp only [lf] at b
  refine outT h (.inl ?_) ?_ ?_ ?_
  · rw [nodA_append, i3 a, j3 a]; rfl
  · rw [lfA_append, i5 b, j5 b]; rfl
  · rw [bulkA_append]; omega
  · rw [depA_append]; omega
theorem item_all {ds : List D} {k : Nat} {x : D} (h : ds[k]? = some x) : PyData.bulkAll ds = PyData.bulkAll (ds.take k) + (x.bulk + 1) + PyData.bulkAll (ds.drop (k + 1)) ∧ ds = ds.take k ++ x :: ds.drop (k + 1) := by
  have hk : k < ds.length := (List.getElem?_eq_some_iff.mp h).1
  have e : ds = ds.take k ++ x :: ds.drop (k + 1) := by
    conv => lhs; rw [← List.take_append_drop k ds, List.drop_eq_getElem_cons hk]
    rw [(List.getElem?_eq_some_iff.mp h).2]
  refine ⟨?_, e⟩
  conv => lhs; rw [e]
  rw [bulkA_append]
  simp only [PyData.bulkAll]
  omega
theorem bIn.item {n : Nat} {ds : List D} {x : D} (h : bIn n (.tuple ds)) (m : x ∈ ds) : ∃ m, n = m + 1 ∧ bIn m x := by
  have h1 := dep_mem m
  have h2 := h.lev
  simp only [PyData.depth] at h2
  have h3 := bulk_mem m
  have h4 := h.bulk
  simp only [PyData.bulk] at h4
  have h5 := h.dep
  simp only [PyData.depth] at h5
  refine ⟨n - 1, by omega, by omega, nodA_mem (by have := h.nd; simpa only [nod] using this) m, nolA_mem (by have := h.nl; simpa only [nol] using this) m, lfA_mem (by have := h.lf; simpa only [TP.lf] using this) m, ?_, by omega, by omega⟩
  have h6 : smA ds = true := by have := h.sm; simpa only [TP.sm] using this
  clear h h1 h2 h3 h4 h5
  induction ds with
  | nil => cases m
  | cons d ds ih =>
    simp only [smA, Bool.and_eq_true] at h6
    rcases List.mem_cons.mp m with e | e
    · subst e; exact h6.1
    · exact ih e h6.2
theorem p__law_bent (n : Nat) (R : Pm) (hR : ∀ v odd Q, (∃ m, n = m + 1 ∧ bIn m v ∧ oddOk odd ∧ ∀ d, bOut v d → Q d) → R [.src, .d v, .d (.list odd)] Q) :
    ∀ xs Q, xs.length = 3 → RN__law_bent n xs Q → T__law_bent R (endE Q) (xs ++ List.replicate (5 - xs.length) .un) := by
  intro xs Q hl h
  obtain ⟨⟨v, odd⟩, rfl, ⟨h1, h2⟩, k⟩ := h
  show T__law_bent R (endE Q) [.src, .d v, .d (.list odd), .un, .un]
  dsimp only at h1 h2 k
  unfold T__law_bent
  refine seq_ifS (fun b => b = true → ∃ i, v = .int i) (fun P hP => ?_) (fun hi => ?_) (fun _ => ?_)
  · walk_at "dl"
    refine ⟨rfl, v, rfl, trivial, fun d hd => ?_⟩
    subst hd
    refine iteC (fun hi => ?_) (fun _ => hP false fun e => by cases e)
    have hv := int_of hi
    refine ⟨rfl, 3, rfl, by decide, fun d hd => ?_⟩
    obtain ⟨j, rfl, j1, j2⟩ := hd
    exact ⟨trivial, hP _ fun _ => hv⟩
  · obtain ⟨i, rfl⟩ := hi rfl
    refine ret_S (fun d => ∃ j : Int, d = .int (i + j) ∧ j.natAbs ≤ 2) (fun P hP => ?_) (fun d hd => ?_)
    · walk_at "dl"
      refine ⟨trivial, by decide, rfl, _, rfl, by decide, fun d hd => ?_⟩
      simp only [List.mem_cons, List.not_mem_nil, or_false] at hd
      rcases hd with rfl | rfl | rfl <;> exact hP _ ⟨_, rfl, by decide⟩
    · obtain ⟨j, rfl, hj⟩ := hd
      refine k _ ⟨.inl rfl, ?_, ?_, ?_⟩
      · have := h1.sm
        simp only [sm, decide_eq_true_eq] at this
        simp only [lf, decide_eq_true_eq]
        have e : (10 : Nat) ^ 40 = 10 ^ 30 * 10 ^ 10 := by decide
        omega
      · simp only [PyData.bulk]; omega
      · simp only [PyData.depth]; omega
  · dsimp only [sNext]
    refine seq_ifS (fun b => b = false → ∃ ds, v = .tuple ds ∧ ds ≠ []) (fun P hP => ?_) (fun _ => ?_) (fun hi => ?_)
    · walk_at "dl"
      refine iteC (fun hi => hP true fun e => by cases e) (fun hi => ?_)
      obtain ⟨ds, rfl⟩ := tup_of (by simpa using hi)
      refine ⟨by decide, ⟨h1.sh, rfl⟩, iteC (fun _ => hP true fun e => by cases e) fun hn => ?_⟩
      have hd : ds ≠ [] := by
        rw [eqv_nilT] at hn
        simpa using hn
      refine ⟨rfl, 7, rfl, by decide, fun d hd' => ?_⟩
      obtain ⟨j, rfl, j1, j2⟩ := hd'
      exact ⟨⟨rfl, rfl⟩, hP _ fun _ => ⟨ds, rfl, hd⟩⟩
    · walk_at "dl"
      refine ⟨rfl, odd, rfl, ⟨h2.len.1, by have := h2.len.2; omega⟩, fun d hd => k _ ?_⟩
      obtain ⟨a, b, c, e⟩ := h2.el d hd
      exact ⟨a, b, by omega, by omega⟩
    · obtain ⟨ds, rfl, hne⟩ := hi rfl
      dsimp only [sNext]
      walk_at "dl"
      have hb := h1.bulk
      simp only [PyData.bulk] at hb
      have hlen := len_bulk ds
      have hpos : 0 < ds.length := List.length_pos_iff.mpr hne
      refine ⟨rfl, (ds.length : Int), rfl, by dsimp only; omega, fun d hd => ?_⟩
      obtain ⟨kk, rfl, k1, k2⟩ := hd
      refine ⟨rfl, 8, rfl, by decide, fun d hd => ?_⟩
      obtain ⟨w, rfl, w1, w2⟩ := hd
      obtain ⟨j, rfl⟩ : ∃ j : Nat, kk = (j : Int) := ⟨kk.toNat, by omega⟩
      have hj : j < ds.length := by omega
      have s1 := cut_sub ds none (some (j : Int))
      have s2 := cut_sub ds (some ((j : Int) + 1)) none
      have s3 := cut_sub ds none (some ((j : Int) + 1))
      have s4 := cut_sub ds (some (j : Int)) none
      have t1 := s1.length_le
      have t2 := s2.length_le
      have t3 := s3.length_le
      have t4 := s4.length_le
      refine ⟨trivial, iteC (fun hw => ?_) (fun hw => ?_)⟩
      · dsimp only
        have hx : ds[j]? = some ds[j] := List.getElem?_eq_getElem hj
        generalize ds[j] = x at hx
        have ea : atI ds (j : Int) = some x := atI_nat hx
        rw [ea]
        dsimp only
        have hm := List.mem_of_getElem? hx
        obtain ⟨m, hm1, hm2⟩ := h1.item hm
        refine ⟨rfl, hR _ _ _ ⟨m, hm1, hm2, h2, fun y hy => ?_⟩⟩
        rw [cut_take hj, cut_drop hj] at *
        obtain ⟨b1, b2⟩ := item_all hx
        refine ⟨by decide, by omega, by rw [List.length_append, List.length_singleton]; omega, k _ ?_⟩
        have hnd := h1.nd
        have hnl := h1.nl
        have hlf := h1.lf
        simp only [nod] at hnd
        simp only [nol] at hnl
        simp only [lf] at hlf
        obtain ⟨i1, i2, i3, i4, i5⟩ := sub_all s1
        obtain ⟨j1, j2, j3, j4, j5⟩ := sub_all s2
        have hb3 := hy.bulk
        have hd3 := hy.dep
        have hxd := dep_mem hm
        refine outT h1 ?_ ?_ ?_ ?_
        · rw [nodA_append, nodA_append, nolA_append, nolA_append, i3 hnd, j3 hnd, i4 hnl, j4 hnl]
          rcases hy.dc with q | q
          · exact .inl (by simp [nodA, q])
          · exact .inr (by simp [nolA, q])
        · rw [lfA_append, lfA_append, i5 hlf, j5 hlf]
          simp [lfA, hy.lf]
        · rw [bulkA_append, bulkA_append]
          simp only [PyData.bulkAll]
          omega
        · rw [depA_append, depA_append]
          simp only [PyData.depthAll]
          omega
      · dsimp only
        have hw' := of_decide_eq_false hw
        refine ⟨by omega, by omega, by omega, by decide, trivial, ?_⟩
        have hw3 : w = 5 ∨ w = 6 ∨ w = 7 := by omega
        rcases hw3 with rfl | rfl | rfl
        · exact k _ (outT2 h1 s1 s2)
        · exact k _ (outT2 h1 s3 s4)
        · exact k _ (outT2 h1 s4 s1)
end TP
/-! P11: drawn asks. -/
namespace TP
open PySem PySem.Spec L2 DL
open PyProof.Rows hiding St
local macro_rules | `(tactic| walk_at "dl") => `(tactic| dsimp only [sSeq, sPar, sPar3, sParL, sParB, sParD, sNext, sRet, sRetN, sIf, sAsg, sAsgO, ownD, sFz, fz, sAppend, sAppendLL, sNewLL, sExtend, sPut, sNewD, sDispT, psNil, psCons, endE,
  aCons, aNil, aStar, dVar, wVar, rVar, dC, dOp, dUn, dIf, dAnd, dOr, dNot, dTup, dLst, dCB, dCall, dLc, dSl, dRepr, dIsi, dGet, dGet2, dSortD, pNo, pSo, sD, sB, sVar, iSeq, iSeqC, iRg1, iRg2, ieOf, ieP,
  bT, bTru, bAnd, bOr, bNot, bYes, gtName, gtTup, gtCons, gtNil, kTru, kI, kI1, kI2, kInt, kLen, kSub, kMul, kDiv, kMod, kLt, kLe, kGt, kGe, kEq, kNe, kAdd, kCat, kIn, kNotIn, kIsN, kNotN, kIx, kIxS, kNeg, kTupO, kLst, kRev, kRevL, kSl, kSlL, kMinL, isNone,
  wipeE, List.getElem?_cons_zero, List.getElem?_cons_succ, List.set_cons_zero, List.set_cons_succ, List.length_cons, List.length_nil, List.cons_append, List.nil_append, List.replicate_succ, List.replicate_zero, Nat.sub_self, List.append_nil])


theorem seq_S {A U : ST} {E : PEn} {ρ : En} (I : En → Prop) (hA : ∀ F : En → Prop, (∀ ρ', I ρ' → F ρ') → A { E with nx := F } ρ) (h : ∀ ρ', I ρ' → U E ρ') : sSeq A U E ρ := hA _ h
theorem qD_neg (a : Rat) : (PyData.tuple [.int (0 - a.num), .int (a.den : Int)]) = qD (-a) := by
  rw [Int.zero_sub]; rfl
theorem part_mk {t : Int} {n : Nat} (h0 : 0 ≤ t) (h1 : t < n) : fr (Rat.divInt t (n : Int)) = mkRat t n := by
  rw [Rat.divInt_ofNat, fr_mk (by omega), Int.fmod_eq_emod_of_nonneg _ (by omega), Int.emod_eq_of_lt h0 h1]
theorem us_all : ∀ n ∈ [5, 10, 12, 24, 7, 20], ∀ t < 24, fr (mkRat ((t : Nat) : Int) n) ∈ Us := by decide +kernel
theorem us_den : ∀ u ∈ Us, u.den ≤ 24 := by decide +kernel
theorem fs_den : ∀ p ∈ Fs, p.2.den ≤ 24 := by decide +kernel
theorem ab_sm : ∀ a ∈ As, (a.den ≤ 4 ∧ a.num.natAbs ≤ 4) ∧ ∀ b ∈ Bs a, b.den ≤ 4 ∧ b.num.natAbs ≤ 4 := by decide +kernel
theorem ss_sm : ∀ p ∈ Ss, p.2.den ≤ 4 := by decide +kernel
theorem axy_sm : ∀ a ∈ As, ∀ p ∈ Ss, (a * p.2).den ≤ 100 ∧ ∀ b ∈ Bs a, (b * p.2).den ≤ 100 := by decide +kernel
theorem p__law_ask : ∀ xs Q, xs.length = 1 → R__law_ask xs Q → T__law_ask (endE Q) (xs ++ List.replicate (10 - xs.length) .un) := by
  intro xs Q hl h
  obtain ⟨_, rfl, -, k⟩ := h
  show T__law_ask (endE Q) [.src, .un, .un, .un, .un, .un, .un, .un, .un, .un]
  unfold T__law_ask
  refine seq_asgS (fun d => ∃ a ∈ As, d = qD a) (fun P hP => ?_) (fun d hd => ?_)
  · walk_at "dl"
    refine ⟨by decide, by decide, trivial, by decide, by decide, by decide, rfl, As.map qD, rfl, by decide, fun d hd => ?_⟩
    obtain ⟨a, ha, rfl⟩ := List.mem_map.mp hd
    exact hP _ ⟨a, ha, rfl⟩
  obtain ⟨a, ha, rfl⟩ := hd
  refine seq_asgS (fun d => ∃ b ∈ Bs a, d = qD b) (fun P hP => ?_) (fun d hd => ?_)
  · walk_at "dl"
    dsimp only [qD]
    rw [at2_0, at2_1]
    dsimp only
    rw [qD_neg]
    refine ⟨trivial, by decide, by decide, by decide, by decide, rfl, (Bs a).map qD, rfl, ⟨by show 0 < 4; decide, by show 4 < 1000000; decide⟩, fun d hd => ?_⟩
    obtain ⟨b, hb, rfl⟩ := List.mem_map.mp hd
    exact hP _ ⟨b, hb, rfl⟩
  obtain ⟨b, hb, rfl⟩ := hd
  refine seq_S (fun ρ => ∃ w : Int, ∃ u ∈ Us, ρ = [.src, .d (qD a), .d (qD b), .d (.int w), .d (qD u), .un, .un, .un, .un, .un]) (fun F hF => ?_) (fun ρ hρ => ?_)
  · walk_at "dl"
    refine ⟨rfl, 4, rfl, by decide, fun d hd => ?_⟩
    obtain ⟨w, rfl, -, -⟩ := hd
    refine ⟨rfl, 24, rfl, by decide, fun d hd => ?_⟩
    obtain ⟨t, rfl, t1, t2⟩ := hd
    refine ⟨by decide, rfl, [5, 10, 12, 24, 7, 20].map fun (n : Nat) => PyData.int (n : Int), rfl, ⟨by decide, by decide⟩, fun d hd => ?_⟩
    obtain ⟨n, hn, rfl⟩ := List.mem_map.mp hd
    have hn0 : 0 < n ∧ n ≤ 24 := by
      simp only [List.mem_cons, List.not_mem_nil, or_false] at hn
      omega
    refine ⟨rfl, (t, (n : Int)), rfl, ⟨by dsimp only; omega, by dsimp only; omega⟩, fun d hd => ?_⟩
    subst hd
    obtain ⟨t, rfl⟩ : ∃ t' : Nat, t = (t' : Int) := ⟨t.toNat, by omega⟩
    have := us_all n hn t (by omega)
    refine hF _ ⟨w, _, this, ?_⟩
    dsimp only
    rw [Rat.divInt_ofNat]
  obtain ⟨w, u, hu, rfl⟩ := hρ
  have hud := us_den u hu
  obtain ⟨⟨a1, a2⟩, hab⟩ := ab_sm a ha
  obtain ⟨b1, b2⟩ := hab b hb
  refine seq_asgS (fun d => ∃ v ∈ Vs u, d = qD v) (fun P hP => ?_) (fun d hd => ?_)
  · walk_at "dl"
    refine ⟨rfl, u, rfl, by dsimp only; omega, fun d hd => ?_⟩
    subst hd
    refine ⟨by decide, rfl, (u, mkRat 1 2), rfl, ?_, fun d hd => ?_⟩
    · have : (mkRat 1 2).den = 2 := by decide
      dsimp only
      rw [this]; omega
    subst hd
    refine ⟨rfl, 24, rfl, by decide, fun d hd => ?_⟩
    obtain ⟨t, rfl, t1, t2⟩ := hd
    refine ⟨rfl, (t, 24), rfl, ⟨by show (0 : Int) < 24; decide, by show (24 : Int) < 1073741824; decide⟩, fun d hd => ?_⟩
    subst hd
    obtain ⟨t, rfl⟩ : ∃ t' : Nat, t = (t' : Int) := ⟨t.toNat, by omega⟩
    refine ⟨by decide, rfl, [u, fr (-u), fr (u + mkRat 1 2), mkRat t 24].map qD, ?_, ⟨by show 0 < 4; decide, by show 4 < 1000000; decide⟩, fun d hd => ?_⟩
    · have := part_mk (t := (t : Int)) (n := 24) (by omega) (by omega)
      dsimp only
      rw [show ((24 : Int)) = ((24 : Nat) : Int) from rfl, this]
      rfl
    · obtain ⟨v, hv, rfl⟩ := List.mem_map.mp hd
      refine hP _ ⟨v, ?_, rfl⟩
      simp only [List.mem_cons, List.not_mem_nil, or_false] at hv
      unfold Vs
      rcases hv with e | e | e | e
      · rw [e]; exact List.mem_cons_self
      · rw [e]; exact List.mem_cons_of_mem _ List.mem_cons_self
      · rw [e]; exact List.mem_cons_of_mem _ (List.mem_cons_of_mem _ List.mem_cons_self)
      · rw [e]; exact List.mem_cons_of_mem _ (List.mem_cons_of_mem _ (List.mem_cons_of_mem _ (List.mem_map.mpr ⟨t, List.mem_range.mpr (by omega), rfl⟩)))
  obtain ⟨v, hv, rfl⟩ := hd
  refine seq_asgS (fun d => ∃ c ∈ Cs a, d = qD c) (fun P hP => ?_) (fun d hd => ?_)
  · walk_at "dl"
    refine ⟨by decide, by decide, by decide, rfl, (a, mkRat 1 2), rfl, ⟨?_, by dsimp only; omega⟩, fun d hd => ?_⟩
    · have : (mkRat 1 2).den = 2 := by decide
      dsimp only
      rw [this]; omega
    subst hd
    refine ⟨trivial, by decide, rfl, (a, mkRat (-1) 2), rfl, ⟨?_, by dsimp only; omega⟩, fun d hd => ?_⟩
    · have : (mkRat (-1) 2).den = 2 := by decide
      dsimp only
      rw [this]; omega
    subst hd
    refine ⟨by decide, rfl, (Cs a).map qD, rfl, ⟨by show 0 < 4; decide, by show 4 < 1000000; decide⟩, fun d hd => ?_⟩
    obtain ⟨c, hc, rfl⟩ := List.mem_map.mp hd
    exact hP _ ⟨c, hc, rfl⟩
  obtain ⟨c, hc, rfl⟩ := hd
  dsimp only [List.set_cons_zero, List.set_cons_succ]
  refine seq_S (fun ρ => ∃ u v : Rat, drawn a b c u v ∧ ρ = [.src, .d (qD a), .d (qD b), .d (.int w), .d (qD u), .d (qD v), .d (qD c), .un, .un, .un]) (fun F hF => ?_) (fun ρ hρ => ?_)
  · walk_at "dl"
    refine ⟨⟨rfl, rfl⟩, ?_⟩
    rw [eqvI]
    refine iteC (fun _ => ?_) (fun _ => hF _ ⟨u, v, .any ha hb hc hu hv, rfl⟩)
    refine ⟨by decide, by decide, by decide, by decide, by decide, by decide, by decide, by decide, by decide, by decide, by decide, by decide, by decide, rfl, Fs.map fun p => .tuple [qD p.1, qD p.2], rfl, ⟨by decide, by decide⟩, fun d hd => ?_⟩
    obtain ⟨⟨u, v⟩, hp, rfl⟩ := List.mem_map.mp hd
    dsimp only
    refine ⟨rfl, rfl, ⟨rfl, rfl⟩, ?_⟩
    rw [eqvQ]
    have hf := drawn.five ha hb hc hp
    refine iteC (fun hba => ?_) (fun hba => ?_)
    · have := of_decide_eq_true hba
      rw [if_pos this] at hf
      exact hF _ ⟨u, v, hf, rfl⟩
    · have := of_decide_eq_false hba
      rw [if_neg this] at hf
      have hvd := fs_den _ hp
      refine ⟨by decide, rfl, (v, mkRat 1 2), rfl, ?_, fun d hd => ?_⟩
      · have : (mkRat 1 2).den = 2 := by decide
        dsimp only at hvd ⊢
        rw [this]; omega
      · subst hd
        exact hF _ ⟨_, _, hf, rfl⟩
  obtain ⟨u, v, hdr, rfl⟩ := hρ
  refine seq_S (fun ρ => ∃ (c u v : Rat) (s7 s8 s9 : Slot), drawn a b c u v ∧ ρ = [.src, .d (qD a), .d (qD b), .d (.int w), .d (qD u), .d (qD v), .d (qD c), s7, s8, s9]) (fun F hF => ?_) (fun ρ hρ => ?_)
  · walk_at "dl"
    refine ⟨⟨rfl, rfl⟩, ?_⟩
    rw [eqvI]
    refine iteC (fun _ => ?_) (fun _ => hF _ ⟨c, u, v, _, _, _, hdr, rfl⟩)
    have hS : ∀ d ∈ [PyData.tuple [PyData.tuple [PyData.int 0, PyData.int 1], PyData.tuple [PyData.int 1, PyData.int 1]], PyData.tuple [PyData.tuple [PyData.int 1, PyData.int 2], PyData.tuple [PyData.int (0 - 1), PyData.int 1]], PyData.tuple [PyData.tuple [PyData.int 1, PyData.int 3], PyData.tuple [PyData.int (0 - 1), PyData.int 2]],
        PyData.tuple [PyData.tuple [PyData.int 1, PyData.int 4], PyData.tuple [PyData.int 0, PyData.int 1]], PyData.tuple [PyData.tuple [PyData.int 5, PyData.int 6], PyData.tuple [PyData.int 1, PyData.int 2]]], ∃ p ∈ Ss, d = .tuple [qD p.1, qD p.2] := fun d hd => by
      have : d ∈ Ss.map fun p => PyData.tuple [qD p.1, qD p.2] := hd
      obtain ⟨p, hp, e⟩ := List.mem_map.mp this
      exact ⟨p, hp, e.symm⟩
    repeat refine ⟨by decide, ?_⟩
    refine ⟨_, rfl, ⟨by decide, by decide⟩, fun d hd => ?_⟩
    obtain ⟨⟨u, x⟩, hp, rfl⟩ := hS d hd
    refine ⟨rfl, _, rfl, ⟨by decide, by decide⟩, fun d hd => ?_⟩
    obtain ⟨⟨v, y⟩, hp2, rfl⟩ := hS d hd
    dsimp only
    have h1 := (axy_sm a ha _ hp).1
    have h2 := (axy_sm a ha _ hp2).2 b hb
    have h3 := ss_sm _ hp
    have h4 := ss_sm _ hp2
    dsimp only at h1 h2 h3 h4
    refine ⟨by decide, rfl, rfl, rfl, rfl, rfl, rfl, rfl, (a, x), rfl, ⟨?_, by dsimp only; omega⟩, fun d hd => ?_⟩
    · have : a.den * x.den ≤ 4 * 4 := Nat.mul_le_mul a1 h3
      dsimp only; omega
    subst hd
    refine ⟨rfl, (b, y), rfl, ⟨?_, by dsimp only; omega⟩, fun d hd => ?_⟩
    · have : b.den * y.den ≤ 4 * 4 := Nat.mul_le_mul b1 h4
      dsimp only; omega
    subst hd
    refine ⟨rfl, (a * x, b * y), rfl, ?_, fun d hd => ?_⟩
    · have : (a * x).den * (b * y).den ≤ 100 * 100 := Nat.mul_le_mul h1 h2
      dsimp only; omega
    subst hd
    exact hF _ ⟨_, u, v, _, _, _, .frac ha hb hp hp2, rfl⟩
  obtain ⟨c, u, v, s7, s8, s9, hdr, rfl⟩ := hρ
  walk_at "dl"
  exact ⟨by decide, k _ ⟨a, b, c, u, v, hdr, rfl⟩⟩
end TP
/-! N8: the form of a number is worth what the number is, as seen at a root of one modulo q. -/
namespace TP
open PySem PySem.Spec L2 DL
open PyProof.Rows hiding St

def sc (B : Nat) (c : Rat) : Int := c.num * ((B / c.den : Nat) : Int)
section
variable {B : Nat} {c d : Rat}
theorem sc_mk (hB : 0 < B) (n : Int) : sc B (mkRat n B) = n := by
  obtain ⟨g, e1, e2, hg⟩ := frmk_dvd (t := n) hB
  have hd := Rat.den_pos (mkRat n B)
  unfold sc
  have : B / (mkRat n B).den = g := by
    conv => lhs; arg 1; rw [e1]
    exact Nat.mul_div_cancel_left _ hd
  rw [this, ← e2]
theorem mk_sc (hB : 0 < B) (h : c.den ∣ B) : mkRat (sc B c) B = c := by
  obtain ⟨k, hk⟩ := h
  have hd := Rat.den_pos c
  have hk0 : 0 < k := Nat.pos_of_ne_zero fun z => by subst z; omega
  have e : B / c.den = k := by rw [hk]; exact Nat.mul_div_cancel_left _ hd
  unfold sc
  rw [e]
  conv => lhs; arg 2; rw [hk]
  rw [Rat.mkRat_mul_right (by omega), Rat.mkRat_self]
theorem sc_add (hB : 0 < B) (h : c.den ∣ B) (h' : d.den ∣ B) : sc B (c + d) = sc B c + sc B d := by
  have e : c + d = mkRat (sc B c + sc B d) B := by
    conv => lhs; rw [← mk_sc hB h, ← mk_sc hB h']
    exact mkRat_add_same hB
  rw [e, sc_mk hB]
theorem add_den (hB : 0 < B) (h : c.den ∣ B) (h' : d.den ∣ B) : (c + d).den ∣ B := by
  have e : c + d = mkRat (sc B c + sc B d) B := by
    conv => lhs; rw [← mk_sc hB h, ← mk_sc hB h']
    exact mkRat_add_same hB
  rw [e]
  exact mkRat_den_dvd hB
theorem sc_neg : sc B (-c) = - sc B c := by
  unfold sc
  rw [Rat.neg_num, Rat.neg_den, Int.neg_mul]
theorem sc_zero : sc B 0 = 0 := by unfold sc; simp
theorem sc_eq_zero (hB : 0 < B) (h : c.den ∣ B) : sc B c = 0 ↔ c = 0 := by
  constructor
  · intro z
    rw [← mk_sc hB h, z, Rat.zero_mkRat]
  · intro z; rw [z, sc_zero]
theorem sc_mul {B' : Nat} (hB : 0 < B) (hB' : 0 < B') (h : c.den ∣ B) (h' : d.den ∣ B') : sc (B * B') (c * d) = sc B c * sc B' d := by
  have e : c * d = mkRat (sc B c * sc B' d) (B * B') := by
    conv => lhs; rw [← mk_sc hB h, ← mk_sc hB' h']
    rw [Rat.mkRat_mul_mkRat]
  rw [e, sc_mk (Nat.mul_pos hB hB')]
end
def phi (B : Nat) (l : Nm) : Im := l.map fun e => (e.1, sc B e.2)
def denOk (B : Nat) (l : Nm) : Prop := ∀ e ∈ l, e.2.den ∣ B
theorem phi_get (B : Nat) (k : Rat) : ∀ es : Nm, getI (phi B es) k = (getQ es k).map (sc B)
  | [] => rfl
  | p :: es => by
    have ih := phi_get B k es
    show getI ((p.1, sc B p.2) :: phi B es) k = _
    rw [getI_cons, ih]
    unfold getQ
    rw [List.find?_cons]
    by_cases h : p.1 = k
    · rw [if_pos h, decide_eq_true h]; rfl
    · rw [if_neg h, decide_eq_false h]
theorem phi_val (B : Nat) (k : Rat) (es : Nm) : valI (phi B es) k = sc B (valQ es k) := by
  unfold valI valQ
  rw [phi_get]
  cases getQ es k with
  | none => exact sc_zero.symm
  | some x => rfl
theorem phi_put (B : Nat) (k v : Rat) (es : Nm) : phi B (putQ es k v) = putI (phi B es) k (sc B v) := by
  unfold putQ putI phi
  rw [List.any_map]
  by_cases h : (es.any fun p => decide (p.1 = k)) = true
  · rw [if_pos h, if_pos (by exact h), List.map_map, List.map_map]
    apply List.map_congr_left
    intro p _
    show ((if decide (p.1 = k) = true then (p.1, v) else p).1, sc B (if decide (p.1 = k) = true then (p.1, v) else p).2) = if decide (p.1 = k) = true then (p.1, sc B v) else (p.1, sc B p.2)
    split <;> rfl
  · rw [if_neg h, if_neg (by exact h), List.map_append]; rfl
theorem getQ_den {B : Nat} {es : Nm} (h : denOk B es) (k : Rat) : ((getQ es k).getD 0).den ∣ B := by
  cases g : getQ es k with
  | none => exact Nat.one_dvd _
  | some x => exact h _ (getQ_mem g)
theorem acc_den {B : Nat} (hB : 0 < B) {es : Nm} {e : Rat × Rat} (h : denOk B es) (he : e.2.den ∣ B) : denOk B (accQ es e) := by
  have hv : ((getQ es e.1).getD 0 + e.2).den ∣ B := add_den hB (getQ_den h _) he
  intro z hz
  unfold accQ putQ at hz
  split at hz
  · obtain ⟨p, hp, e'⟩ := List.mem_map.mp hz
    subst e'
    split
    · exact hv
    · exact h p hp
  · rcases List.mem_append.mp hz with r | r
    · exact h z r
    · rw [List.mem_singleton.mp r]; exact hv
theorem phi_acc {B : Nat} (hB : 0 < B) {es : Nm} {e : Rat × Rat} (h : denOk B es) (he : e.2.den ∣ B) : phi B (accQ es e) = accI (phi B es) (e.1, sc B e.2) := by
  unfold accQ accI
  rw [phi_put, sc_add hB (getQ_den h _) he, phi_get]
  congr 2
  cases getQ es e.1 with
  | none => exact sc_zero
  | some x => rfl
theorem phi_fold {B : Nat} (hB : 0 < B) : ∀ (l es : Nm), denOk B l → denOk B es → phi B (l.foldl accQ es) = (phi B l).foldl accI (phi B es) ∧ denOk B (l.foldl accQ es)
  | [], es, _, h => ⟨rfl, h⟩
  | e :: l, es, hl, h => by
    have he := hl e List.mem_cons_self
    obtain ⟨a, b⟩ := phi_fold hB l (accQ es e) (fun z hz => hl z (List.mem_cons_of_mem _ hz)) (acc_den hB h he)
    refine ⟨?_, b⟩
    rw [List.foldl_cons, a, phi_acc hB h he]
    rfl
theorem phi_numOf {B : Nat} (hB : 0 < B) {l : Nm} (h : denOk B l) : phi B (numOf l) = hereI (phi B l) ∧ denOk B (numOf l) := by
  obtain ⟨a, b⟩ := phi_fold hB l [] h (fun e h => by cases h)
  have a' : phi B (numDict l) = knownI (phi B l) := a
  have b' : denOk B (numDict l) := b
  have hv : ∀ k, (valQ (numDict l) k).den ∣ B := fun k => getQ_den b' k
  have ek : (knownI (phi B l)).map (·.1) = (numDict l).map (·.1) := by
    rw [← a']
    unfold phi
    rw [List.map_map]; rfl
  refine ⟨?_, fun e he => ?_⟩
  · unfold numOf hereI
    rw [ek, ← a']
    unfold phi
    rw [List.map_map]
    have e1 : ((sortQ ((numDict l).map (·.1))).filter fun k => decide (valI (phi B (numDict l)) k ≠ 0)) = (sortQ ((numDict l).map (·.1))).filter fun k => decide (valQ (numDict l) k ≠ 0) := by
      apply List.filter_congr
      intro k _
      rw [phi_val]
      congr 1
      exact propext (not_congr (sc_eq_zero hB (hv k)))
    have e2 : (fun k => (k, valI (phi B (numDict l)) k)) = (fun e : Rat × Rat => (e.1, sc B e.2)) ∘ fun k => (k, valQ (numDict l) k) := by
      funext k
      show _ = (k, sc B (valQ (numDict l) k))
      rw [phi_val]
    unfold phi at e1 e2
    rw [e1, e2]
  · rw [(numOf_mem he).2.1]
    exact hv _
section
variable {q g : Int} {N B : Nat}
theorem ev_numOf (hB : 0 < B) {l : Nm} (h : denOk B l) : ev g N (phi B (numOf l)) = ev g N (phi B l) := by
  rw [(phi_numOf hB h).1, ev_here]
theorem wt_sc (s : Rat) : wt g N s = pw g N (sc N s) := rfl
theorem wt_add (R : Rt q g N) {x y : Rat} (hx : x.den ∣ N) (hy : y.den ∣ N) : q ∣ wt g N (x + y) - wt g N x * wt g N y := by
  rw [wt_sc, wt_sc, wt_sc, sc_add R.n0 hx hy]
  exact pw_add R _ _
theorem sumR_shift (f : Nat → Int) : ∀ n, sumR f (n + 1) = f 0 + sumR (fun i => f (i + 1)) n
  | 0 => by simp [sumR]
  | n + 1 => by
    have := sumR_shift f n
    rw [sumR, this, sumR]; omega
theorem lsum_range {F : Rat × Int → Int} {G : Nat → Rat × Int} : ∀ n, lsum F ((List.range n).map G) = sumR (fun i => F (G i)) n
  | 0 => rfl
  | n + 1 => by
    have ap : ∀ (l m : List (Rat × Int)), lsum F (l ++ m) = lsum F l + lsum F m := by
      intro l m
      induction l with
      | nil => simp [lsum]
      | cons e l ih => rw [List.cons_append, lsum_cons, lsum_cons, ih]; omega
    rw [List.range_succ, List.map_append, ap, lsum_range n]
    simp [lsum, sumR]
theorem phi_append (l m : Nm) : phi B (l ++ m) = phi B l ++ phi B m := by unfold phi; rw [List.map_append]
/-- one round -/
theorem ev_round1 (R : Rt q g N) {p : Int} (hp : 2 ≤ p) (hpN : p.toNat ∣ N) (hpo : primeOk q g N p.toNat) {e : Rat × Rat} (he : e.1.den ∣ N) :
    q ∣ ev g N (phi B ((partsRound e.1 p).map fun x => (x, -e.2))) - sc B e.2 * wt g N e.1 := by
  have hN := R.n0
  obtain ⟨P, rfl⟩ : ∃ P : Nat, p = (P : Int) := ⟨p.toNat, by omega⟩
  rw [Int.toNat_natCast] at hpN hpo
  have e1 : phi B ((partsRound e.1 (P : Int)).map fun x => (x, -e.2)) = (List.range ((P : Int) - 1).toNat).map fun (i : Nat) => (fr (e.1 + fr (Rat.divInt (1 + (i : Int)) P)), - sc B e.2) := by
    unfold phi partsRound
    rw [List.map_map, List.map_map]
    apply List.map_congr_left
    intro i _
    show (_, sc B (-e.2)) = _
    rw [sc_neg]
  rw [e1, ev_lsum, lsum_range]
  dsimp only
  have hPm : ((P : Int) - 1).toNat + 1 = P := by omega
  have hpart : ∀ i : Nat, (fr (Rat.divInt (1 + (i : Int)) P)).den ∣ N := fun i => Nat.dvd_trans (fr_den_dvd _) (Nat.dvd_trans (by
    rw [Rat.divInt_ofNat]; exact mkRat_den_dvd (by omega)) hpN)
  have h1 : q ∣ sumR (fun i : Nat => - sc B e.2 * wt g N (fr (e.1 + fr (Rat.divInt (1 + (i : Int)) P)))) ((P : Int) - 1).toNat - sumR (fun i : Nat => pw g N (((i + 1 : Nat) : Int) * ((N / P : Nat) : Int)) * (- sc B e.2 * wt g N e.1)) ((P : Int) - 1).toNat := by
    refine sumR_cong fun i _ => ?_
    rw [wt_fr hN (add_den hN he (hpart i))]
    have h := wt_add R he (hpart i)
    rw [wt_part hN hpN (by omega)] at h
    have h' : q ∣ (- sc B e.2) * _ := Int.dvd_mul_of_dvd_right h
    have e2 : (- sc B e.2) * (wt g N (e.1 + fr (Rat.divInt (1 + (i : Int)) P)) - wt g N e.1 * pw g N ((1 + (i : Int)) * ((N / P : Nat) : Int))) = - sc B e.2 * wt g N (e.1 + fr (Rat.divInt (1 + (i : Int)) P)) - pw g N (((i + 1 : Nat) : Int) * ((N / P : Nat) : Int)) * (- sc B e.2 * wt g N e.1) := by
      rw [Int.mul_sub, show ((i + 1 : Nat) : Int) = 1 + (i : Int) by omega, Int.mul_comm (pw g N _), Int.mul_assoc (- sc B e.2) (wt g N e.1)]
    rw [e2] at h'
    exact h'
  refine dvd_trans_sub h1 ?_
  rw [sumR_mul]
  have h2 := hpo
  unfold primeOk at h2
  rw [← hPm, sumR_shift] at h2
  rw [hPm] at h2
  have e0 : pw g N (((0 : Nat) : Int) * ((N / P : Nat) : Int)) = 1 := by
    unfold pw
    simp
  rw [e0] at h2
  have h3 : q ∣ (1 + sumR (fun i : Nat => pw g N (((i + 1 : Nat) : Int) * ((N / P : Nat) : Int))) ((P : Int) - 1).toNat) * (- sc B e.2 * wt g N e.1) := Int.dvd_mul_of_dvd_left h2
  rw [Int.add_mul, Int.one_mul] at h3
  have e3 : ∀ x y : Int, -x * y = -(x * y) := fun x y => Int.neg_mul _ _
  generalize sumR (fun i : Nat => pw g N (((i + 1 : Nat) : Int) * ((N / P : Nat) : Int))) ((P : Int) - 1).toNat * (- sc B e.2 * wt g N e.1) = S at h3 ⊢
  rw [e3] at h3
  rwa [show -(sc B e.2 * wt g N e.1) + S = S - sc B e.2 * wt g N e.1 by omega] at h3
theorem ev_roundAll (R : Rt q g N) {p : Int} (hp : 2 ≤ p) (hpN : p.toNat ∣ N) (hpo : primeOk q g N p.toNat) : ∀ here : Nm, (∀ e ∈ here, e.1.den ∣ N) → q ∣ ev g N (phi B (roundAll p here)) - ev g N (phi B here)
  | [], _ => by simp [roundAll, phi, ev]
  | e :: here, h => by
    have h1 := ev_round1 (B := B) R hp hpN hpo (h e List.mem_cons_self)
    have h2 := ev_roundAll R hp hpN hpo here fun z hz => h z (List.mem_cons_of_mem _ hz)
    have e1 : roundAll p (e :: here) = ((partsRound e.1 p).map fun x => (x, -e.2)) ++ roundAll p here := by unfold roundAll; rw [List.flatMap_cons]
    rw [e1, phi_append, ev_append]
    show q ∣ _ - (sc B e.2 * wt g N e.1 + ev g N (phi B here))
    have := Int.dvd_add h1 h2
    generalize ev g N (phi B ((partsRound e.1 p).map fun x => (x, -e.2))) = X at *
    generalize ev g N (phi B (roundAll p here)) = Y at *
    rwa [show X - sc B e.2 * wt g N e.1 + (Y - ev g N (phi B here)) = X + Y - (sc B e.2 * wt g N e.1 + ev g N (phi B here)) by omega] at this
theorem round_den {p : Int} (hN : 0 < N) (hp : 2 ≤ p) (hpN : p.toNat ∣ N) {here : Nm} (h : ∀ e ∈ here, e.1.den ∣ N) : ∀ e ∈ roundAll p here, e.1.den ∣ N := fun e he => by
  unfold roundAll at he
  obtain ⟨e0, h0, he⟩ := List.mem_flatMap.mp he
  obtain ⟨x, hx, rfl⟩ := List.mem_map.mp he
  exact partsRound_den hN (h e0 h0) (by omega) hpN x hx
def allOk (q g : Int) (N : Nat) : Prop := ∀ p : Nat, 2 ≤ p → p ∣ N → primeOk q g N p
theorem ev_formGo (R : Rt q g N) (A : allOk q g N) : ∀ (ps : List Int) (here : Nm), (∀ p ∈ ps, 2 ≤ p ∧ p.toNat ∣ N) → (∀ e ∈ here, e.1.den ∣ N) → q ∣ ev g N (phi B (formGo ps here)) - ev g N (phi B here)
  | [], here, _, _ => by
    show q ∣ ev g N (phi B here) - ev g N (phi B here)
    simp
  | p :: ps, here, hp, h => by
    show q ∣ ev g N (phi B (formGo ps (roundAll p here))) - _
    obtain ⟨p1, p2⟩ := hp p List.mem_cons_self
    have ho := A p.toNat (by omega) p2
    exact dvd_trans_sub (ev_formGo R A ps (roundAll p here) (fun z hz => hp z (List.mem_cons_of_mem _ hz)) (round_den R.n0 p1 p2 h)) (ev_roundAll R p1 p2 ho here h)
theorem ev_formOne (R : Rt q g N) (A : allOk q g N) {e : Rat × Rat} (he : e.1.den ∣ N) : q ∣ ev g N (phi B (formOne e)) - sc B e.2 * wt g N e.1 := by
  have := ev_formGo (B := B) R A (loosePrimes e.1) [e] (fun p hp => let ⟨a, b⟩ := loose_mem hp; ⟨a, Nat.dvd_trans b he⟩) (fun z hz => by rw [List.mem_singleton.mp hz]; exact he)
  have e1 : ev g N (phi B [e]) = sc B e.2 * wt g N e.1 := by
    show sc B e.2 * wt g N e.1 + 0 = _
    omega
  rw [e1] at this
  exact this
theorem ev_forms (R : Rt q g N) (A : allOk q g N) : ∀ l : Nm, (∀ e ∈ l, e.1.den ∣ N) → q ∣ ev g N (phi B (l.flatMap formOne)) - ev g N (phi B l)
  | [], _ => by simp [phi, ev]
  | e :: l, h => by
    have h1 := ev_formOne (B := B) R A (h e List.mem_cons_self)
    have h2 := ev_forms R A l fun z hz => h z (List.mem_cons_of_mem _ hz)
    rw [List.flatMap_cons, phi_append, ev_append]
    show q ∣ _ - (sc B e.2 * wt g N e.1 + ev g N (phi B l))
    have := Int.dvd_add h1 h2
    generalize ev g N (phi B (formOne e)) = X at *
    generalize ev g N (phi B (l.flatMap formOne)) = Y at *
    rwa [show X - sc B e.2 * wt g N e.1 + (Y - ev g N (phi B l)) = X + Y - (sc B e.2 * wt g N e.1 + ev g N (phi B l)) by omega] at this
theorem formGo_den2 {ps : List Int} {here : Nm} (h : denOk B here) : denOk B (formGo ps here) := by
  induction ps generalizing here with
  | nil => exact h
  | cons p ps ih =>
    show denOk B (formGo ps (roundAll p here))
    refine ih fun e he => ?_
    unfold roundAll at he
    obtain ⟨e0, h0, he⟩ := List.mem_flatMap.mp he
    obtain ⟨x, hx, rfl⟩ := List.mem_map.mp he
    show (-e0.2).den ∣ B
    rw [Rat.neg_den]; exact h e0 h0
/-- the form is worth what the number is -/
theorem ev_numForm (R : Rt q g N) (A : allOk q g N) (hB : 0 < B) {l : Nm} (h : ∀ e ∈ l, e.1.den ∣ N) (hd : denOk B l) : q ∣ ev g N (phi B (numForm l)) - ev g N (phi B l) := by
  unfold numForm
  rw [ev_numOf hB]
  · exact ev_forms R A l h
  · intro e he
    obtain ⟨e0, h0, he⟩ := List.mem_flatMap.mp he
    exact formGo_den2 (here := [e0]) (fun z hz => by rw [List.mem_singleton.mp hz]; exact hd e0 h0) e he
end
end TP
/-! M60a: the finite mathematics of k60: tables. -/
namespace TP
open PySem PySem.Spec L2 DL
open PyProof.Rows hiding St

instance (q g : Int) (N p : Nat) : Decidable (primeOk q g N p) := inferInstanceAs (Decidable (_ ∣ _))
theorem rt60 : Rt 2521 38 840 := ⟨by decide, by decide +kernel⟩
theorem all60 : allOk 2521 38 840 := fun p h2 hp => by
  have key : ∀ p ∈ List.range 841, 2 ≤ p → p ∣ 840 → primeOk 2521 38 840 p := by decide +kernel
  exact key p (List.mem_range.mpr (by have := Nat.le_of_dvd (by decide) hp; omega)) h2 hp
theorem smooth60 : smooth 840 := fun m hm h1 => by
  have key : ∀ m ∈ List.range 841, m ∣ 840 → 1 < m → (m : Int).fmod (leastP m) = 0 := by decide +kernel
  exact key m (List.mem_range.mpr (by have := Nat.le_of_dvd (by decide) hm; omega)) hm h1
def E60 (a b c u v : Rat) : Int := sc 24 a * (wt 38 840 u + wt 38 840 (fr (-u))) + sc 24 b * (wt 38 840 v + wt 38 840 (fr (-v))) - 2 * sc 24 c
def G60 (a b c u v : Rat) : Bool := (kindOf a b c u v).isSome && (pairNum a b c u v).isEmpty && nought 10 (intsA (pairL a b c u v))
def K60 (a b c u v : Rat) : Bool := if E60 a b c u v % 2521 = 0 then G60 a b c u v else !(kindOf a b c u v).isSome
def Ud : List Rat := (List.range 24).map (fun (t : Nat) => mkRat (t : Int) 24) ++ ((List.range 20).filter (fun t => t % 5 != 0)).map (fun (t : Nat) => mkRat (t : Int) 20) ++ (List.range 6).map (fun (t : Nat) => mkRat ((t : Int) + 1) 7)
theorem us_ud : ∀ u ∈ Us, u ∈ Ud := by decide +kernel
theorem k60_frac : (As.all fun a => (Bs a).all fun b => Ss.all fun p => Ss.all fun r => K60 a b (a * p.2 + b * r.2) p.1 r.1) = true := by decide +kernel
theorem k60_five : (Fs.all fun p => As.all fun a => (Bs a).all fun b => (Cs a).all fun c => K60 a b c p.1 (if b = a then p.2 else fr (p.2 + mkRat 1 2))) = true := by decide +kernel
def KU (u : Rat) : Bool := (Vs u).all fun v => As.all fun a => (Bs a).all fun b => (Cs a).all fun c => K60 a b c u v
theorem k60_u0 : ((Ud.drop 0).take 2).all KU = true := by decide +kernel
theorem k60_u1 : ((Ud.drop 2).take 2).all KU = true := by decide +kernel
theorem k60_u2 : ((Ud.drop 4).take 2).all KU = true := by decide +kernel
theorem k60_u3 : ((Ud.drop 6).take 2).all KU = true := by decide +kernel
theorem k60_u4 : ((Ud.drop 8).take 2).all KU = true := by decide +kernel
theorem k60_u5 : ((Ud.drop 10).take 2).all KU = true := by decide +kernel
theorem k60_u6 : ((Ud.drop 12).take 2).all KU = true := by decide +kernel
theorem k60_u7 : ((Ud.drop 14).take 2).all KU = true := by decide +kernel
theorem k60_u8 : ((Ud.drop 16).take 2).all KU = true := by decide +kernel
theorem k60_u9 : ((Ud.drop 18).take 2).all KU = true := by decide +kernel
theorem k60_u10 : ((Ud.drop 20).take 2).all KU = true := by decide +kernel
theorem k60_u11 : ((Ud.drop 22).take 2).all KU = true := by decide +kernel
theorem k60_u12 : ((Ud.drop 24).take 2).all KU = true := by decide +kernel
theorem k60_u13 : ((Ud.drop 26).take 2).all KU = true := by decide +kernel
theorem k60_u14 : ((Ud.drop 28).take 2).all KU = true := by decide +kernel
theorem k60_u15 : ((Ud.drop 30).take 2).all KU = true := by decide +kernel
theorem k60_u16 : ((Ud.drop 32).take 2).all KU = true := by decide +kernel
theorem k60_u17 : ((Ud.drop 34).take 2).all KU = true := by decide +kernel
theorem k60_u18 : ((Ud.drop 36).take 2).all KU = true := by decide +kernel
theorem k60_u19 : ((Ud.drop 38).take 2).all KU = true := by decide +kernel
theorem k60_u20 : ((Ud.drop 40).take 2).all KU = true := by decide +kernel
theorem k60_u21 : ((Ud.drop 42).take 2).all KU = true := by decide +kernel
theorem k60_u22 : ((Ud.drop 44).take 2).all KU = true := by decide +kernel
theorem ud_eq : Ud = ((Ud.drop 0).take 2) ++ ((Ud.drop 2).take 2) ++ ((Ud.drop 4).take 2) ++ ((Ud.drop 6).take 2) ++ ((Ud.drop 8).take 2) ++ ((Ud.drop 10).take 2) ++ ((Ud.drop 12).take 2) ++ ((Ud.drop 14).take 2) ++ ((Ud.drop 16).take 2) ++ ((Ud.drop 18).take 2) ++ ((Ud.drop 20).take 2) ++ ((Ud.drop 22).take 2) ++ ((Ud.drop 24).take 2) ++ ((Ud.drop 26).take 2) ++ ((Ud.drop 28).take 2) ++ ((Ud.drop 30).take 2) ++ ((Ud.drop 32).take 2) ++ ((Ud.drop 34).take 2) ++ ((Ud.drop 36).take 2) ++ ((Ud.drop 38).take 2) ++ ((Ud.drop 40).take 2) ++ ((Ud.drop 42).take 2) ++ ((Ud.drop 44).take 2) := by decide +kernel
theorem k60_any : Ud.all KU = true := by
  rw [ud_eq]
  simp only [List.all_append, k60_u0, k60_u1, k60_u2, k60_u3, k60_u4, k60_u5, k60_u6, k60_u7, k60_u8, k60_u9, k60_u10, k60_u11, k60_u12, k60_u13, k60_u14, k60_u15, k60_u16, k60_u17, k60_u18, k60_u19, k60_u20, k60_u21, k60_u22, Bool.and_self]
theorem k60_all {a b c u v : Rat} (h : drawn a b c u v) : K60 a b c u v = true := by
  cases h with
  | any ha hb hc hu hv =>
    have := k60_any
    rw [List.all_eq_true] at this
    have := this u (us_ud u hu)
    unfold KU at this
    rw [List.all_eq_true] at this
    have := this v hv
    rw [List.all_eq_true] at this
    have := this a ha
    rw [List.all_eq_true] at this
    have := this b hb
    rw [List.all_eq_true] at this
    exact this c hc
  | five ha hb hc hp =>
    have := k60_five
    rw [List.all_eq_true] at this
    have := this _ hp
    rw [List.all_eq_true] at this
    have := this a ha
    rw [List.all_eq_true] at this
    have := this b hb
    rw [List.all_eq_true] at this
    exact this c hc
  | frac ha hb hp hp2 =>
    have := k60_frac
    rw [List.all_eq_true] at this
    have := this a ha
    rw [List.all_eq_true] at this
    have := this b hb
    rw [List.all_eq_true] at this
    have := this _ hp
    rw [List.all_eq_true] at this
    have q := this _ hp2
    dsimp only at q
    exact q
/-! sizes -/
def pOkB (u : Rat) : Bool := decide (u.den ∣ 840) && decide (formLen u ≤ 1000) && decide (formLen (fr (-u)) ≤ 1000) && decide (u.num.natAbs < 10000)
def cOkB (x : Rat) : Bool := decide (x.den ∣ 24) && decide (x.num.natAbs ≤ 20)
theorem sz_any : (Ud.all fun u => pOkB u && (Vs u).all pOkB) = true := by decide +kernel
theorem sz_five : (Fs.all fun p => pOkB p.1 && pOkB p.2 && pOkB (fr (p.2 + mkRat 1 2))) = true := by decide +kernel
theorem sz_frac : (Ss.all fun p => pOkB p.1) = true := by decide +kernel
theorem sz_ab : (As.all fun a => cOkB a && (Bs a).all fun b => cOkB b) = true := by decide +kernel
theorem sz_c : (As.all fun a => (Cs a).all cOkB) = true := by decide +kernel
theorem sz_axy : (As.all fun a => (Bs a).all fun b => Ss.all fun p => Ss.all fun r => cOkB (a * p.2 + b * r.2)) = true := by decide +kernel
theorem sz_all {a b c u v : Rat} (h : drawn a b c u v) : cOkB a = true ∧ cOkB b = true ∧ cOkB c = true ∧ pOkB u = true ∧ pOkB v = true := by
  have hab := sz_ab
  have hcc := sz_c
  have hax := sz_axy
  have h1 := sz_any
  have h2 := sz_five
  have h3 := sz_frac
  simp only [List.all_eq_true, Bool.and_eq_true] at hab hcc hax h1 h2 h3
  cases h with
  | any ha hb hc hu hv => exact ⟨(hab a ha).1, (hab a ha).2 b hb, hcc a ha c hc, (h1 u (us_ud u hu)).1, (h1 u (us_ud u hu)).2 v hv⟩
  | five ha hb hc hp =>
    refine ⟨(hab a ha).1, (hab a ha).2 b hb, hcc a ha c hc, (h2 _ hp).1.1, ?_⟩
    split
    · exact (h2 _ hp).1.2
    · exact (h2 _ hp).2
  | frac ha hb hp hp2 => exact ⟨(hab a ha).1, (hab a ha).2 b hb, hax a ha b hb _ hp _ hp2, h3 _ hp, h3 _ hp2⟩
end TP
/-! M60: the finite mathematics of k60. -/
namespace TP
open PySem PySem.Spec L2 DL
open PyProof.Rows hiding St

theorem cOk_cb {x : Rat} (h : cOkB x = true) : cb 24 1000 x ∧ x.den ∣ 24 ∧ x.num.natAbs ≤ 20 := by
  unfold cOkB at h
  simp only [Bool.and_eq_true, decide_eq_true_eq] at h
  refine ⟨⟨sc 24 x, (mk_sc (by decide) h.1).symm, ?_⟩, h⟩
  unfold sc
  rw [Int.natAbs_mul, Int.natAbs_natCast]
  have := Nat.div_le_self 24 x.den
  have := Nat.mul_le_mul h.2 this
  omega
theorem pOk_ok {u : Rat} (h : pOkB u = true) : u.den ∣ 840 ∧ partOk u ∧ u.num.natAbs < 10000 := by
  unfold pOkB at h
  simp only [Bool.and_eq_true, decide_eq_true_eq] at h
  obtain ⟨⟨⟨h1, h2⟩, h3⟩, h4⟩ := h
  have hd := Nat.le_of_dvd (by decide) h1
  have hf := Nat.le_of_dvd (Rat.den_pos _) (fr_den_dvd (-u))
  have e : (-u).den = u.den := rfl
  exact ⟨h1, ⟨by omega, h2, by omega, h3⟩, h4⟩
theorem okIn60 {a b c u v : Rat} (h : drawn a b c u v) : okIn a b c u v := by
  obtain ⟨h1, h2, h3, h4, h5⟩ := sz_all h
  have hu := pOk_ok h4
  have hv := pOk_ok h5
  exact ⟨(cOk_cb h1).1, (cOk_cb h2).1, (cOk_cb h3).1, by have := hu.2.2; omega, by have := hv.2.2; omega, hu.2.1, hv.2.1⟩
theorem adOk60 {a b c u v : Rat} (h : drawn a b c u v) : adOk 10 840 (pairL a b c u v) := by
  obtain ⟨h1, h2, h3, h4, h5⟩ := sz_all h
  have hu := pOk_ok h4
  have hv := pOk_ok h5
  have ha := cOk_cb h1
  have hb := cOk_cb h2
  have hc := cOk_cb h3
  have fu := Nat.dvd_trans (fr_den_dvd (-u)) (show (-u).den ∣ 840 from hu.1)
  have fv := Nat.dvd_trans (fr_den_dvd (-v)) (show (-v).den ∣ 840 from hv.1)
  have small : ∀ x : Rat, x.den ∣ 840 → (fr x).num.natAbs < 1073741824 := fun x hx => by
    have := fr_num x
    have := Nat.le_of_dvd (by decide) hx
    omega
  refine ⟨⟨24, by decide, by decide, fun e he => ?_⟩, fun e he => ?_, ?_, fun e he => ?_, by decide, by decide, by decide, smooth60⟩
  · simp only [pairL, List.mem_cons, List.not_mem_nil, or_false] at he
    rcases he with rfl | rfl | rfl | rfl | rfl
    · exact ha.2.1
    · exact ha.2.1
    · exact hb.2.1
    · exact hb.2.1
    · exact hc.2.1
  · have := ha.2.2; have := hb.2.2; have := hc.2.2
    simp only [pairL, List.mem_cons, List.not_mem_nil, or_false] at he
    rcases he with rfl | rfl | rfl | rfl | rfl <;> dsimp only <;> omega
  · show 5 * 2 ^ 10 ≤ 100000
    decide
  · obtain ⟨z, hz, rfl⟩ := List.mem_map.mp he
    simp only [pairL, List.mem_cons, List.not_mem_nil, or_false] at hz
    have := hu.2.2; have := hv.2.2
    rcases hz with rfl | rfl | rfl | rfl | rfl
    · exact ⟨hu.1, by dsimp only; omega⟩
    · exact ⟨fu, small _ hu.1⟩
    · exact ⟨hv.1, by dsimp only; omega⟩
    · exact ⟨fv, small _ hv.1⟩
    · exact ⟨by show (0 : Rat).den ∣ 840; decide, by show (0 : Rat).num.natAbs < 1073741824; decide⟩
/-! the values -/
section
variable {a b c u v : Rat}
theorem wt_zero : wt 38 840 0 = 1 := by decide
theorem sc_scale {B t : Nat} {x : Rat} (hB : 0 < B) (h : x.den ∣ B) : sc (B * t) x = sc B x * (t : Int) := by
  unfold sc
  obtain ⟨k, hk⟩ := h
  have hd := Rat.den_pos x
  have e1 : B / x.den = k := by rw [hk]; exact Nat.mul_div_cancel_left _ hd
  have e2 : B * t / x.den = k * t := by rw [hk, Nat.mul_assoc]; exact Nat.mul_div_cancel_left _ hd
  rw [e1, e2, Int.natCast_mul, Int.mul_assoc]
theorem nought_E (ha : a.den ∣ 24) (hb : b.den ∣ 24) (hc : c.den ∣ 24) (hu : u.den ∣ 840) (hv : v.den ∣ 840) (h : nought 10 (intsA (pairL a b c u v)) = true) : (2521 : Int) ∣ E60 a b c u v := by
  have hd : ∀ e ∈ intsA (pairL a b c u v), e.1.den ∣ 840 := fun e he => by
    obtain ⟨z, hz, rfl⟩ := List.mem_map.mp he
    simp only [pairL, List.mem_cons, List.not_mem_nil, or_false] at hz
    rcases hz with rfl | rfl | rfl | rfl | rfl
    · exact hu
    · exact Nat.dvd_trans (fr_den_dvd (-u)) hu
    · exact hv
    · exact Nat.dvd_trans (fr_den_dvd (-v)) hv
    · show (0 : Rat).den ∣ 840; decide
  have hev := nought_ev rt60 smooth60 (fun p hp hN => all60 p (by omega) hN) 10 _ hd h
  obtain ⟨c1, c2, c3⟩ := comA_dvd (B := 24) (pairL a b c u v) 1 (Nat.one_dvd _) (fun e he => by
    simp only [pairL, List.mem_cons, List.not_mem_nil, or_false] at he
    rcases he with rfl | rfl | rfl | rfl | rfl
    · exact ha
    · exact ha
    · exact hb
    · exact hb
    · exact hc)
  have hca : a.den ∣ comA (pairL a b c u v) 1 := c3 (u, a.num, a.den) (by simp [pairL])
  have hcb : b.den ∣ comA (pairL a b c u v) 1 := c3 (v, b.num, b.den) (by simp [pairL])
  have hcc : c.den ∣ comA (pairL a b c u v) 1 := c3 (0, 0 - 2 * c.num, c.den) (by simp [pairL])
  have ei : intsA (pairL a b c u v) = [(u, sc (comA (pairL a b c u v) 1) a), (fr (-u), sc (comA (pairL a b c u v) 1) a), (v, sc (comA (pairL a b c u v) 1) b), (fr (-v), sc (comA (pairL a b c u v) 1) b), (0, (0 - 2 * c.num) * ((comA (pairL a b c u v) 1 / c.den : Nat) : Int))] := rfl
  rw [ei] at hev
  have hc0 : 0 < comA (pairL a b c u v) 1 := Nat.pos_of_dvd_of_pos c1 (by decide)
  generalize comA (pairL a b c u v) 1 = C at *
  obtain ⟨t, ht⟩ := c1
  simp only [ev, wt_zero] at hev
  have e3 : (0 - 2 * c.num) * ((C / c.den : Nat) : Int) = - 2 * sc C c := by
    unfold sc
    rw [show (0 : Int) - 2 * c.num = -2 * c.num by omega, Int.mul_assoc]
  rw [e3] at hev
  unfold E60
  rw [ht, sc_scale hc0 hca, sc_scale hc0 hcb, sc_scale hc0 hcc]
  have : (2521 : Int) ∣ (t : Int) * _ := Int.dvd_mul_of_dvd_right hev
  generalize sc C a = A at *
  generalize sc C b = B at *
  generalize sc C c = D at *
  generalize wt 38 840 u = U at *
  generalize wt 38 840 (fr (-u)) = U' at *
  generalize wt 38 840 v = W at *
  generalize wt 38 840 (fr (-v)) = W' at *
  have e4 : (t : Int) * (A * U + (A * U' + (B * W + (B * W' + (-2 * D * 1 + 0))))) = A * t * (U + U') + B * t * (W + W') - 2 * (D * t) := by grind
  rw [e4] at this
  exact this
theorem ev_scale {q g : Int} {N : Nat} (A : Int) : ∀ l : Im, ev g N (l.map fun e => (e.1, A * e.2)) = A * ev g N l
  | [] => by simp [ev]
  | e :: l => by
    rw [List.map_cons, ev_cons, ev_cons, ev_scale (q := q) A l]
    dsimp only
    rw [Int.mul_add, Int.mul_assoc]
theorem den_half : (mkRat 1 2).den ∣ 2 := by decide
theorem ev_cosNum (u : Rat) : ev 38 840 (phi 2 (cosNum u)) = wt 38 840 u + wt 38 840 (fr (-u)) ∧ denOk 2 (cosNum u) := by
  have h : denOk 2 [(u, mkRat 1 2), (fr (-u), mkRat 1 2)] := fun e he => by
    simp only [List.mem_cons, List.not_mem_nil, or_false] at he
    rcases he with rfl | rfl <;> exact den_half
  refine ⟨?_, (phi_numOf (by decide) h).2⟩
  show ev 38 840 (phi 2 (numOf [(u, mkRat 1 2), (fr (-u), mkRat 1 2)])) = _
  rw [ev_numOf (by decide) h]
  have e : sc 2 (mkRat 1 2) = 1 := sc_mk (by decide) 1
  show sc 2 (mkRat 1 2) * wt 38 840 u + (sc 2 (mkRat 1 2) * wt 38 840 (fr (-u)) + 0) = _
  rw [e]; omega
theorem ev_often (ha : a.den ∣ 24) {l : Nm} (hl : denOk 2 l) : ev 38 840 (phi 48 (often a l)) = sc 24 a * ev 38 840 (phi 2 l) ∧ denOk 48 (often a l) := by
  have e : ∀ x : Rat, x.den ∣ 2 → sc 48 (a * x) = sc 24 a * sc 2 x := fun x hx => sc_mul (B := 24) (B' := 2) (by decide) (by decide) ha hx
  have hd : denOk 48 (l.map fun e => (e.1, a * e.2)) := fun z hz => by
    obtain ⟨y, hy, rfl⟩ := List.mem_map.mp hz
    have : a * y.2 = mkRat (sc 24 a * sc 2 y.2) 48 := by
      conv => lhs; rw [← mk_sc (B := 24) (by decide) ha, ← mk_sc (B := 2) (by decide) (hl y hy)]
      rw [Rat.mkRat_mul_mkRat]
    dsimp only
    rw [this]
    exact mkRat_den_dvd (by decide)
  refine ⟨?_, (phi_numOf (by decide) hd).2⟩
  unfold often
  rw [ev_numOf (by decide) hd, ← ev_scale (q := 2521)]
  congr 1
  unfold phi
  rw [List.map_map, List.map_map]
  apply List.map_congr_left
  intro z hz
  show (z.1, sc 48 (a * z.2)) = (z.1, sc 24 a * sc 2 z.2)
  rw [e z.2 (hl z hz)]
theorem ev_both (ha : a.den ∣ 24) (hb : b.den ∣ 24) : ev 38 840 (phi 48 (bothNum a b u v)) = sc 24 a * (wt 38 840 u + wt 38 840 (fr (-u))) + sc 24 b * (wt 38 840 v + wt 38 840 (fr (-v))) ∧ denOk 48 (bothNum a b u v) := by
  obtain ⟨a1, a2⟩ := ev_cosNum u
  obtain ⟨b1, b2⟩ := ev_cosNum v
  obtain ⟨c1, c2⟩ := ev_often ha a2
  obtain ⟨d1, d2⟩ := ev_often hb b2
  have hd : denOk 48 (often a (cosNum u) ++ often b (cosNum v)) := fun z hz => (List.mem_append.mp hz).elim (c2 z) (d2 z)
  refine ⟨?_, (phi_numOf (by decide) hd).2⟩
  unfold bothNum
  rw [ev_numOf (by decide) hd, phi_append, ev_append, c1, d1, a1, b1]
theorem parts_both (hu : u.den ∣ 840) (hv : v.den ∣ 840) : ∀ e ∈ bothNum a b u v, e.1.den ∣ 840 := fun e he => by
  rcases both_part e he with (r | r) | (r | r) <;> rw [r]
  · exact hu
  · exact Nat.dvd_trans (fr_den_dvd (-u)) hu
  · exact hv
  · exact Nat.dvd_trans (fr_den_dvd (-v)) hv
theorem minus_den (hc : c.den ∣ 24) : denOk 48 [((0 : Rat), -c)] := fun z hz => by
  rw [List.mem_singleton.mp hz]
  show (-c).den ∣ 48
  rw [Rat.neg_den]
  exact Nat.dvd_trans hc (by decide)
theorem pair_E (ha : a.den ∣ 24) (hb : b.den ∣ 24) (hc : c.den ∣ 24) (hu : u.den ∣ 840) (hv : v.den ∣ 840) (h : pairNum a b c u v = []) : (2521 : Int) ∣ E60 a b c u v := by
  obtain ⟨b1, b2⟩ := ev_both (u := u) (v := v) ha hb
  have hm := minus_den hc
  have hm2 := phi_numOf (by decide) hm
  have hd : denOk 48 (bothNum a b u v ++ numOf [((0 : Rat), -c)]) := fun z hz => (List.mem_append.mp hz).elim (b2 z) (hm2.2 z)
  have hp : ∀ e ∈ numOf (bothNum a b u v ++ numOf [((0 : Rat), -c)]), e.1.den ∣ 840 := fun e he => by
    have := (numOf_mem he).1
    rw [List.map_append] at this
    rcases List.mem_append.mp this with q | q
    · obtain ⟨y, hy, e'⟩ := List.mem_map.mp q
      rw [← e']; exact parts_both hu hv y hy
    · obtain ⟨y, hy, e'⟩ := List.mem_map.mp q
      have := (numOf_mem hy).1
      simp only [List.map_cons, List.map_nil, List.mem_singleton] at this
      rw [← e', this]; decide
  have key := ev_numForm (B := 48) rt60 all60 (by decide) hp (phi_numOf (by decide) hd).2
  have h0 : numForm (numOf (bothNum a b u v ++ numOf [((0 : Rat), -c)])) = [] := h
  rw [h0, ev_numOf (by decide) hd, phi_append, ev_append, b1, ev_numOf (by decide) hm] at key
  have e1 : ev 38 840 (phi 48 [((0 : Rat), -c)]) = - 2 * sc 24 c := by
    show sc 48 (-c) * wt 38 840 0 + 0 = _
    rw [wt_zero, sc_neg, show (48 : Nat) = 24 * 2 from rfl, sc_scale (by decide) hc]
    omega
  rw [e1] at key
  have e2 : ev 38 840 (phi 48 []) = 0 := rfl
  rw [e2] at key
  unfold E60
  have := (Int.dvd_neg (a := 2521)).mpr key
  generalize sc 24 a * (wt 38 840 u + wt 38 840 (fr (-u))) = X at *
  generalize sc 24 b * (wt 38 840 v + wt 38 840 (fr (-v))) = Y at *
  rwa [show -(0 - (X + Y + -2 * sc 24 c)) = X + Y - 2 * sc 24 c by omega] at this
theorem qD_inj {x y : Rat} (h : qD x = qD y) : x = y := by
  have := eqvQ x y
  rw [h] at this
  have e : PyData.eqv (qD y) (qD y) = true := by rw [eqvQ]; exact decide_eq_true rfl
  rw [e] at this
  exact of_decide_eq_true this.symm
theorem told_E (ha : a.den ∣ 24) (hb : b.den ∣ 24) (hc : c.den ∣ 24) (hu : u.den ∣ 840) (hv : v.den ∣ 840) (h : toldQ (bothNum a b u v) = qD c) : (2521 : Int) ∣ E60 a b c u v := by
  obtain ⟨b1, b2⟩ := ev_both (u := u) (v := v) ha hb
  have key := ev_numForm (B := 48) rt60 all60 (by decide) (parts_both (a := a) (b := b) hu hv) b2
  rw [b1] at key
  have hn : ev 38 840 (phi 48 (numForm (bothNum a b u v))) = 2 * sc 24 c := by
    unfold toldQ at h
    cases hl : numForm (bothNum a b u v) with
    | nil =>
      rw [hl] at h
      have := qD_inj h
      rw [← this, sc_zero]; rfl
    | cons e r =>
      obtain ⟨k, x⟩ := e
      cases r with
      | nil =>
        rw [hl] at h
        dsimp only at h
        by_cases hk : k = 0
        · rw [if_pos hk] at h
          have := qD_inj h
          subst this hk
          show sc 48 x * wt 38 840 0 + 0 = _
          rw [wt_zero, show (48 : Nat) = 24 * 2 from rfl, sc_scale (by decide) hc]
          omega
        · rw [if_neg hk] at h
          cases h
      | cons e2 r =>
        rw [hl] at h
        cases h
  rw [hn] at key
  unfold E60
  have := (Int.dvd_neg (a := 2521)).mpr key
  generalize sc 24 a * (wt 38 840 u + wt 38 840 (fr (-u))) = X at *
  generalize sc 24 b * (wt 38 840 v + wt 38 840 (fr (-v))) = Y at *
  rwa [show -(2 * sc 24 c - (X + Y)) = X + Y - 2 * sc 24 c by omega] at this
/-- what k60 asks of the numbers -/
structure fact60 (a b c u v : Rat) : Prop where
  ok : okIn a b c u v
  ad : adOk 10 840 (pairL a b c u v)
  tp : (decide (pairNum a b c u v = [])) = nought 10 (intsA (pairL a b c u v))
  kd : (kindOf a b c u v).isSome = decide (pairNum a b c u v = [])
  fr : toldQ (bothNum a b u v) = qD c → (kindOf a b c u v).isSome = true
theorem fact_all (h : drawn a b c u v) : fact60 a b c u v := by
  obtain ⟨h1, h2, h3, h4, h5⟩ := sz_all h
  have hu := (pOk_ok h4).1
  have hv := (pOk_ok h5).1
  have ha := (cOk_cb h1).2.1
  have hb := (cOk_cb h2).2.1
  have hc := (cOk_cb h3).2.1
  have hk := k60_all h
  unfold K60 at hk
  by_cases hE : E60 a b c u v % 2521 = 0
  · rw [if_pos hE] at hk
    unfold G60 at hk
    simp only [Bool.and_eq_true, List.isEmpty_iff] at hk
    obtain ⟨⟨k1, k2⟩, k3⟩ := hk
    exact ⟨okIn60 h, adOk60 h, by rw [k3]; exact decide_eq_true k2, by rw [k1]; exact (decide_eq_true k2).symm, fun _ => k1⟩
  · rw [if_neg hE] at hk
    have nE : ¬ (2521 : Int) ∣ E60 a b c u v := fun z => hE (Int.emod_eq_zero_of_dvd z)
    have n1 : pairNum a b c u v ≠ [] := fun z => nE (pair_E ha hb hc hu hv z)
    have n2 : nought 10 (intsA (pairL a b c u v)) = false := by
      cases e : nought 10 (intsA (pairL a b c u v)) with
      | false => rfl
      | true => exact absurd (nought_E ha hb hc hu hv e) nE
    have k1 : (kindOf a b c u v).isSome = false := by simpa using hk
    exact ⟨okIn60 h, adOk60 h, by rw [n2]; exact decide_eq_false n1, by rw [k1]; exact (decide_eq_false n1).symm, fun z => absurd (told_E ha hb hc hu hv z) nE⟩
end
end TP
/-! P12a: which values are shown as a word. -/
namespace TP
open PySem PySem.Spec L2 DL
open PyProof.Rows hiding St

theorem reprChar_or (q c : Nat) : Builtin.Str.reprChar q c = [c] ∨ ∃ t, Builtin.Str.reprChar q c = 92 :: t := by
  unfold Builtin.Str.reprChar
  dsimp only
  repeat' split
  all_goals first | exact .inl rfl | exact .inr ⟨_, rfl⟩
theorem flat_repr (q : Nat) : ∀ (l T : List Nat), l.flatMap (Builtin.Str.reprChar q) = T → 92 ∉ T → l = T
  | [], T, h, _ => by rw [← h]; rfl
  | c :: l, T, h, hT => by
    rw [List.flatMap_cons] at h
    rcases reprChar_or q c with e | ⟨t, e⟩
    · rw [e] at h
      cases T with
      | nil => cases h
      | cons c' T =>
        simp only [List.cons_append, List.nil_append, List.cons.injEq] at h
        rw [h.1, flat_repr q l T h.2 fun z => hT (List.mem_cons_of_mem _ z)]
    · rw [e] at h
      exact absurd (h ▸ List.mem_cons_self) hT
theorem foldl_repr_list (q : Nat) : ∀ (l : List Nat) (acc : Array Nat), (l.foldl (fun out c => out ++ (Builtin.Str.reprChar q c).toArray) acc).toList = acc.toList ++ l.flatMap (Builtin.Str.reprChar q)
  | [], acc => by simp
  | c :: l, acc => by
    rw [List.foldl_cons, foldl_repr_list q l]
    simp [List.flatMap_cons]
theorem repr_list (x : Str) : (reprText x).cps.toList = reprQuote x :: x.cps.toList.flatMap (Builtin.Str.reprChar (reprQuote x)) ++ [reprQuote x] := by
  unfold reprText
  rw [Array.toList_push, ← Array.foldl_toList, foldl_repr_list]
  rfl
theorem repr_word {x : Str} {T : List Nat} (h : (reprText x).cps.toList = 39 :: T ++ [39]) (hT : 92 ∉ T) : x.cps.toList = T := by
  rw [repr_list] at h
  simp only [List.cons_append, List.cons.injEq] at h
  obtain ⟨h1, h2⟩ := h
  have := List.append_inj' h2 rfl
  rw [h1] at this
  exact flat_repr _ _ _ this.1 hT
theorem headA (a b : Str) (c : Nat) (h : a.cps.toList.head? = some c) : (a ++ b).cps.toList.head? = some c := by
  rw [Str.cps_append, Array.toList_append]
  cases ha : a.cps.toList with
  | nil => rw [ha] at h; cases h
  | cons x y => rw [ha] at h; exact h
theorem textFrom_head : ∀ (ts : List Str) (k : Nat) (acc : Str) (c : Nat), acc.cps.toList.head? = some c → (textFrom k acc ts).cps.toList.head? = some c
  | [], k, acc, c, h => h
  | t :: r, k, acc, c, h => textFrom_head r (k + 1) _ c (headA _ _ c (headA _ _ c h))
theorem shown_head (d : D) (h : d.shown.cps.toList.head? = some 39) : ∃ x, d = .str x := by
  cases d with
  | str x => exact ⟨x, rfl⟩
  | none => exact absurd h (by decide)
  | bool b => cases b <;> exact absurd h (by decide)
  | int i =>
    exfalso
    have hf := int_text_free 39 (.inl (by decide)) i
    have : (PyData.int i).shown = Str.ofString (toString i) := rfl
    rw [this] at h
    exact hf (List.mem_of_mem_head? h)
  | list xs =>
    have e : (PyData.list xs).shown.cps.toList.head? = some 91 := by
      simp only [PyData.shown]
      unfold listText
      exact headA _ _ _ (textFrom_head _ _ _ _ rfl)
    rw [e] at h; cases h
  | tuple xs =>
    have e : (PyData.tuple xs).shown.cps.toList.head? = some 40 := by
      simp only [PyData.shown]
      unfold tupleText
      exact headA _ _ _ (headA _ _ _ rfl)
    rw [e] at h; cases h
  | dict es =>
    have e : (PyData.dict es).shown.cps.toList.head? = some 123 := by
      simp only [PyData.shown]
      unfold dictText
      exact headA _ _ _ (headA _ _ _ rfl)
    rw [e] at h; cases h
/-- shown as a word just if it is the word -/
theorem shown_word {d : D} {T : List Nat} (w : Str) (hw : w.cps.toList = 39 :: T ++ [39]) (hT : 92 ∉ T) : d.shown = w ↔ d = .str ⟨T.toArray⟩ ∧ (PyData.str ⟨T.toArray⟩).shown = w := by
  constructor
  · intro h
    obtain ⟨x, rfl⟩ := shown_head d (by rw [h, hw]; rfl)
    have h' : (reprText x).cps.toList = 39 :: T ++ [39] := by rw [← hw, ← h]; rfl
    have := repr_word h' hT
    have e : x = ⟨T.toArray⟩ := by
      cases x with
      | mk a =>
        congr 1
        exact Array.toList_inj.mp (by simpa using this)
    subst e
    exact ⟨rfl, h⟩
  · rintro ⟨rfl, h⟩; exact h
theorem shown_fits (d : D) : d.shown = "'fits'" ↔ d = .str "fits" := by
  have := shown_word (d := d) (T := [102, 105, 116, 115]) "'fits'" (by decide) (by decide)
  rw [this]
  exact ⟨fun h => h.1, fun h => ⟨h, by decide +kernel⟩⟩
theorem shown_off (d : D) : d.shown = "'off'" ↔ d = .str "off" := by
  have := shown_word (d := d) (T := [111, 102, 102]) "'off'" (by decide) (by decide)
  rw [this]
  exact ⟨fun h => h.1, fun h => ⟨h, by decide +kernel⟩⟩
theorem shown_kind (d : D) : (d.shown = "'fractions'" ↔ d = .str "fractions") ∧ (d.shown = "'line'" ↔ d = .str "line") ∧ (d.shown = "'five'" ↔ d = .str "five") := by
  refine ⟨?_, ?_, ?_⟩
  · rw [shown_word (d := d) (T := [102, 114, 97, 99, 116, 105, 111, 110, 115]) "'fractions'" (by decide) (by decide)]
    exact ⟨fun h => h.1, fun h => ⟨h, by decide +kernel⟩⟩
  · rw [shown_word (d := d) (T := [108, 105, 110, 101]) "'line'" (by decide) (by decide)]
    exact ⟨fun h => h.1, fun h => ⟨h, by decide +kernel⟩⟩
  · rw [shown_word (d := d) (T := [102, 105, 118, 101]) "'five'" (by decide) (by decide)]
    exact ⟨fun h => h.1, fun h => ⟨h, by decide +kernel⟩⟩
end TP
/-! T12: the law of k60, behind its first statement (printed by emit.py). -/
namespace TP
open PySem PySem.Spec L2 DL
open PyProof.Rows hiding St
def R__law_bent : Pm := RN__law_bent 20
theorem mono__law_bent : MonoP R__law_bent := monoN__law_bent 20
def T_law : ST :=
  (sSeq (sAsg (dLst (aCons (dC .none) (aCons (dC (.bool true)) (aCons (dC (.int 0)) (aCons (dC (.int 1)) (aCons (dOp kSub (dC (.int 0)) (dC (.int 1))) (aCons (dTup aNil) (aCons (dC (.str "fits")) (aCons (dC (.str "off")) (aCons (dC (.str "line")) (aCons (dTup (aCons (dC (.int 0)) (aCons (dC (.int 1)) aNil))) (aCons (dTup (aCons (dTup (aCons (dC (.int 0)) (aCons (dC (.int 1)) aNil))) (aCons (dTup (aCons (dC (.int 1)) (aCons (dC (.int 1)) aNil))) aNil))) (aCons (dTup (aCons (dTup (aCons (dTup (aCons (dC (.int 0)) (aCons (dC (.int 1)) aNil))) (aCons (dTup (aCons (dC (.int 1)) (aCons (dC (.int 1)) aNil))) aNil))) aNil)) (aCons (dLst aNil) (aCons (dC (.dict [])) aNil))))))))))))))) (gtName 2))
  (sSeq (sFor (ieOf (iRg1 (aCons (dC (.int 6)) aNil))) (gtName 3)
  (sSeq (sAsg (dCall 1 R__law_ask (aCons (sVar 1) aNil)) (gtTup 5 (gtCons (gtName 4) (gtCons (gtName 5) (gtCons (gtName 6) (gtCons (gtName 7) (gtCons (gtName 8) gtNil)))))))
  (sSeq (sAsg (dCall 2 R_number_sum (aCons (sD (dCall 2 R_number_often (aCons (sD (dVar 4)) (aCons (sD (dCall 1 R_cos_number (aCons (sD (dVar 7)) aNil))) aNil)))) (aCons (sD (dCall 2 R_number_often (aCons (sD (dVar 5)) (aCons (sD (dCall 1 R_cos_number (aCons (sD (dVar 8)) aNil))) aNil)))) aNil))) (gtName 9))
  (sSeq (sAsg (dCall 1 R_number_form (aCons (sD (dCall 2 R_number_sum (aCons (sD (dVar 9)) (aCons (sD (dIf (bT (dOp kNe (dVar 6) (dTup (aCons (dC (.int 0)) (aCons (dC (.int 1)) aNil))))) (dTup (aCons (dTup (aCons (dTup (aCons (dC (.int 0)) (aCons (dC (.int 1)) aNil))) (aCons (dTup (aCons (dOp kSub (dC (.int 0)) (dOp kIx (dVar 6) (dC (.int 0)))) (aCons (dOp kIx (dVar 6) (dC (.int 1))) aNil))) aNil))) aNil)) (dTup aNil))) aNil)))) aNil)) (gtName 10))
  (sSeq (sAsg (dCall 5 R_pair_kind (aCons (sD (dVar 4)) (aCons (sD (dVar 5)) (aCons (sD (dVar 6)) (aCons (sD (dVar 7)) (aCons (sD (dVar 8)) aNil)))))) (gtName 11))
  (sSeq (sIf (bOr (bT (dOp kNeS (dRepr (dCall 5 R_pair_number (aCons (sD (dVar 4)) (aCons (sD (dVar 5)) (aCons (sD (dVar 6)) (aCons (sD (dVar 7)) (aCons (sD (dVar 8)) aNil))))))) (dRepr (dVar 10)))) (bT (dOp kNe (dOp kEq (dVar 10) (dTup aNil)) (dCall 5 R__law_is_pair (aCons (sD (dVar 4)) (aCons (sD (dVar 5)) (aCons (sD (dVar 6)) (aCons (sD (dVar 7)) (aCons (sD (dVar 8)) aNil))))))))) (sRet (dC (.bool false))) sNext)
  (sSeq (sIf (bOr (bT (dOp kNe (dOp kNotN (dVar 11) (dC .none)) (dOp kEq (dVar 10) (dTup aNil)))) (bAnd (bT (dOp kEq (dCall 1 R_fraction_told (aCons (sD (dVar 9)) aNil)) (dVar 6))) (bT (dOp kIsN (dVar 11) (dC .none))))) (sRet (dC (.bool false))) sNext)
  (sSeq (sAsg (dIf (bT (dOp kNotN (dVar 11) (dC .none))) (dTup (aCons (dC (.str "fits")) (aCons (dVar 11) aNil))) (dTup (aCons (dC (.str "off")) (aCons (dVar 10) aNil)))) (gtName 12))
  (sSeq (sIf (bT (dOp kNeS (dRepr (dCall 5 R_pair_paper (aCons (sD (dVar 4)) (aCons (sD (dVar 5)) (aCons (sD (dVar 6)) (aCons (sD (dVar 7)) (aCons (sD (dVar 8)) aNil))))))) (dRepr (dVar 12)))) (sRet (dC (.bool false))) sNext)
  (sSeq (sAsgO 13 (dLst (aCons (dVar 12) (aCons (dTup (aCons (dC (.str "off")) (aCons (dVar 10) aNil))) (aCons (dTup (aCons (dC (.str "fits")) (aCons (dC (.str "fractions")) aNil))) (aCons (dTup (aCons (dC (.str "fits")) (aCons (dC (.str "line")) aNil))) (aCons (dTup (aCons (dC (.str "fits")) (aCons (dC (.str "five")) aNil))) (aCons (dTup (aCons (dC (.str "off")) (aCons (dTup aNil) aNil))) aNil))))))))
  (sSeq (sAsgO 13 (dOp kCat (rVar 13) (dLst (aCons (dUn kLst (dVar 12)) (aCons (dUn kRev (dVar 12)) (aCons (dOp kAdd (dVar 12) (dTup (aCons (dC (.int 0)) aNil))) (aCons (dTup (aCons (dC (.str "fits")) aNil)) (aCons (dTup (aCons (dC (.str "fits")) (aCons (dC .none) aNil))) (aCons (dTup (aCons (dC (.str "fits")) (aCons (dC (.str "two")) aNil))) aNil)))))))))
  (sSeq (sAsgO 13 (dOp kCat (rVar 13) (dLst (aCons (dC .none) (aCons (dTup aNil) aNil)))))
  (sSeq (sAsgO 13 (dOp kCat (rVar 13) (dLst (aCons (dTup (aCons (dC (.str "Off")) (aCons (dVar 10) aNil))) (aCons (dTup (aCons (dC (.str "off")) (aCons (dUn kLst (dVar 10)) aNil))) (aCons (dTup (aCons (dC (.str "off")) (aCons (dOp kAdd (dVar 10) (dSl kSl (dVar 10) pNo (pSo (dC (.int 1))))) aNil))) (aCons (dTup (aCons (dC (.str "fits")) (aCons (dTup (aCons (dC (.str "line")) aNil)) aNil))) aNil)))))))
  (sSeq (sAppend 13 (dTup (aCons (dC (.str "off")) (aCons (dCall 2 R__law_of (aCons (sVar 1) (aCons (sD (dVar 2)) aNil))) aNil))))
  (sSeq (sAsg (dUn kTupO (dLc (iSeq (dVar 10)) (gtTup 2 (gtCons (gtName 15) (gtCons (gtTup 2 (gtCons (gtName 16) (gtCons (gtName 17) gtNil))) gtNil))) bYes (dTup (aCons (dVar 15) (aCons (dIf (bT (dOp kEq (dTup (aCons (dVar 16) (aCons (dVar 17) aNil))) (dTup (aCons (dC (.int 1)) (aCons (dC (.int 1)) aNil))))) (dTup (aCons (dOp kEq (dVar 16) (dC (.int 1))) (aCons (dOp kEq (dVar 17) (dC (.int 1))) aNil))) (dTup (aCons (dVar 16) (aCons (dVar 17) aNil)))) aNil))) [15, 16, 17])) (gtName 14))
  (sSeq (sAsgO 13 (dOp kCat (rVar 13) (dLst (aCons (dTup (aCons (dC (.str "off")) (aCons (dVar 14) aNil))) (aCons (dTup (aCons (dCall 2 R__law_of (aCons (sVar 1) (aCons (sD (dVar 2)) aNil))) (aCons (dVar 10) aNil))) (aCons (dTup (aCons (dC (.str "off")) (aCons (dTup (aCons (dTup (aCons (dTup (aCons (dC (.int 0)) (aCons (dC (.int 1)) aNil))) (aCons (dTup (aCons (dC (.int 1)) (aCons (dC (.int 1)) aNil))) aNil))) aNil)) aNil))) aNil))))))
  (sFor (ieOf (iSeq (dOp kCat (rVar 13) (dLc (iRg1 (aCons (dC (.int 4)) aNil)) (gtName 19) bYes (dCall 3 R__law_bent (aCons (sVar 1) (aCons (sD (dTup (aCons (dC (.str "off")) (aCons (dVar 10) aNil)))) (aCons (sD (dVar 2)) aNil)))) [19])))) (gtName 18)
  (sSeq (sPar 20 21 (aCons (dRepr (dVar 18)) (aCons (dAnd (dIsi "tuple" (dVar 18)) (dOp kEq (dCB kLen (aCons (dVar 18) aNil)) (dC (.int 2)))) aNil)))
  (sSeq (sAsg (dAnd (dVar 21) (dOp (kInS false) (dRepr (dOp kIx (dVar 18) (dC (.int 0)))) (dTup (aCons (dC (.str "'fits'")) (aCons (dC (.str "'off'")) aNil))))) (gtName 21))
  (sSeq (sIf (bAnd (bTru (dVar 21)) (bT (dOp kEq (dOp kIx (dVar 18) (dC (.int 0))) (dC (.str "fits"))))) (sAsg (dOp (kInS false) (dRepr (dOp kIx (dVar 18) (dC (.int 1)))) (dTup (aCons (dC (.str "'fractions'")) (aCons (dC (.str "'line'")) (aCons (dC (.str "'five'")) aNil))))) (gtName 21)) sNext)
  (sSeq (sAsg (dIf (bTru (dVar 21)) (dC .none) (dTup (aCons (dC (.str "form")) aNil))) (gtName 22))
  (sSeq (sIf (bAnd (bTru (dVar 21)) (bT (dOp kEq (dOp kIx (dVar 18) (dC (.int 0))) (dC (.str "off"))))) (sAsg (dIf (bOr (bT (dOp kEq (dVar 10) (dTup aNil))) (bT (dOp kNeS (dRepr (dOp kIx (dVar 18) (dC (.int 1)))) (dRepr (dVar 10))))) (dTup (aCons (dC (.str "number")) (aCons (dVar 10) aNil))) (dC .none)) (gtName 22)) sNext)
  (sSeq (sIf (bAnd (bTru (dVar 21)) (bT (dOp kEq (dOp kIx (dVar 18) (dC (.int 0))) (dC (.str "fits"))))) (sAsg (dIf (bT (dOp kNe (dVar 10) (dTup aNil))) (dTup (aCons (dC (.str "number")) (aCons (dVar 10) aNil))) (dIf (bT (dOp kNe (dOp kIx (dVar 18) (dC (.int 1))) (dVar 11))) (dTup (aCons (dC (.str "kind")) (aCons (dVar 11) aNil))) (dC .none))) (gtName 22)) sNext)
  (sSeq (sIf (bOr (bT (dOp kNeS (dRepr (dCall 6 R_judge_pair (aCons (sD (dVar 4)) (aCons (sD (dVar 5)) (aCons (sD (dVar 6)) (aCons (sD (dVar 7)) (aCons (sD (dVar 8)) (aCons (sD (dVar 18)) aNil)))))))) (dRepr (dVar 22)))) (bT (dOp kNeS (dRepr (dVar 18)) (dVar 20)))) (sRet (dC (.bool false))) sNext)
  (sIf (bAnd (bT (dOp kIsN (dVar 22) (dC .none))) (bT (dOp kNeS (dRepr (dVar 18)) (dRepr (dVar 12))))) (sRet (dC (.bool false))) sNext)))))))))))))))))))))))))
  (sRet (dOp kIsN (dCall 6 R_judge_pair (aCons (sD (dTup (aCons (dC (.int 1)) (aCons (dC (.int 1)) aNil)))) (aCons (sD (dTup (aCons (dC (.int 1)) (aCons (dC (.int 1)) aNil)))) (aCons (sD (dTup (aCons (dC (.int 1)) (aCons (dC (.int 2)) aNil)))) (aCons (sD (dTup (aCons (dC (.int 1)) (aCons (dC (.int 10)) aNil)))) (aCons (sD (dTup (aCons (dC (.int 3)) (aCons (dC (.int 10)) aNil)))) (aCons (sD (dTup (aCons (dC (.str "fits")) (aCons (dC (.str "five")) aNil)))) aNil))))))) (dC .none)))))
end TP
/-! P12: a value is judged as due. -/
namespace TP
open PySem PySem.Spec L2 DL
open PyProof.Rows hiding St
local macro_rules | `(tactic| walk_at "dl") => `(tactic| dsimp only [sSeq, sPar, sPar3, sParL, sParB, sParD, sNext, sRet, sRetN, sIf, sAsg, sAsgO, ownD, sFz, fz, sAppend, sAppendLL, sNewLL, sExtend, sPut, sNewD, sDispT, psNil, psCons, endE,
  aCons, aNil, aStar, dVar, wVar, rVar, dC, dOp, dUn, dIf, dAnd, dOr, dNot, dTup, dLst, dCB, dCall, dLc, dSl, dRepr, dIsi, dGet, dGet2, dSortD, pNo, pSo, sD, sB, sVar, iSeq, iSeqC, iRg1, iRg2, ieOf, ieP,
  bT, bTru, bAnd, bOr, bNot, bYes, gtName, gtTup, gtCons, gtNil, kTru, kI, kI1, kI2, kInt, kLen, kSub, kMul, kDiv, kMod, kLt, kLe, kGt, kGe, kEq, kNe, kAdd, kCat, kIn, kNotIn, kIsN, kNotN, kIx, kIxS, kNeg, kTupO, kLst, kRev, kRevL, kSl, kSlL, kMinL, isNone, kEqS, kNeS, kInS, sNewLL,
  wipeE, List.getElem?_cons_zero, List.getElem?_cons_succ, List.set_cons_zero, List.set_cons_succ, List.length_cons, List.length_nil, List.cons_append, List.nil_append, List.replicate_succ, List.replicate_zero, Nat.sub_self, List.append_nil])


def bodyT : ST := (sSeq (sIf (bOr (bT (dOp kNeS (dRepr (dCall 6 R_judge_pair (aCons (sD (dVar 4)) (aCons (sD (dVar 5)) (aCons (sD (dVar 6)) (aCons (sD (dVar 7)) (aCons (sD (dVar 8)) (aCons (sD (dVar 18)) aNil)))))))) (dRepr (dVar 22)))) (bT (dOp kNeS (dRepr (dVar 18)) (dVar 20)))) (sRet (dC (.bool false))) sNext)
  (sIf (bAnd (bT (dOp kIsN (dVar 22) (dC .none))) (bT (dOp kNeS (dRepr (dVar 18)) (dRepr (dVar 12))))) (sRet (dC (.bool false))) sNext))
def bodyV : ST := (sSeq (sPar 20 21 (aCons (dRepr (dVar 18)) (aCons (dAnd (dIsi "tuple" (dVar 18)) (dOp kEq (dCB kLen (aCons (dVar 18) aNil)) (dC (.int 2)))) aNil)))
  (sSeq (sAsg (dAnd (dVar 21) (dOp (kInS false) (dRepr (dOp kIx (dVar 18) (dC (.int 0)))) (dTup (aCons (dC (.str "'fits'")) (aCons (dC (.str "'off'")) aNil))))) (gtName 21))
  (sSeq (sIf (bAnd (bTru (dVar 21)) (bT (dOp kEq (dOp kIx (dVar 18) (dC (.int 0))) (dC (.str "fits"))))) (sAsg (dOp (kInS false) (dRepr (dOp kIx (dVar 18) (dC (.int 1)))) (dTup (aCons (dC (.str "'fractions'")) (aCons (dC (.str "'line'")) (aCons (dC (.str "'five'")) aNil))))) (gtName 21)) sNext)
  (sSeq (sAsg (dIf (bTru (dVar 21)) (dC .none) (dTup (aCons (dC (.str "form")) aNil))) (gtName 22))
  (sSeq (sIf (bAnd (bTru (dVar 21)) (bT (dOp kEq (dOp kIx (dVar 18) (dC (.int 0))) (dC (.str "off"))))) (sAsg (dIf (bOr (bT (dOp kEq (dVar 10) (dTup aNil))) (bT (dOp kNeS (dRepr (dOp kIx (dVar 18) (dC (.int 1)))) (dRepr (dVar 10))))) (dTup (aCons (dC (.str "number")) (aCons (dVar 10) aNil))) (dC .none)) (gtName 22)) sNext)
  (sSeq (sIf (bAnd (bTru (dVar 21)) (bT (dOp kEq (dOp kIx (dVar 18) (dC (.int 0))) (dC (.str "fits"))))) (sAsg (dIf (bT (dOp kNe (dVar 10) (dTup aNil))) (dTup (aCons (dC (.str "number")) (aCons (dVar 10) aNil))) (dIf (bT (dOp kNe (dOp kIx (dVar 18) (dC (.int 1))) (dVar 11))) (dTup (aCons (dC (.str "kind")) (aCons (dVar 11) aNil))) (dC .none))) (gtName 22)) sNext)
  bodyT))))))
theorem seq_asgD {t : DT} {i : Nat} {U : ST} {E : PEn} {ρ : En} (d : D) (hc : ∀ P : D → Prop, P d → t ρ P) (h : U E (ρ.set i (.d d))) : sSeq (sAsg t (gtName i)) U E ρ := hc _ h
/-- the law's words for a value's first fault are the judge's -/
def isP (w : D) : Bool := match w with
  | .tuple [_, _] => true
  | _ => false
theorem two_len (w : D) : (isiD (tyN w) "tuple" = true ∧ ∃ ds, w = .tuple ds) ∨ (isiD (tyN w) "tuple" = false ∧ isP w = false) := by
  cases w with
  | tuple ds => exact .inl ⟨by simp [isiD, tyN], ds, rfl⟩
  | _ => exact .inr ⟨by simp [isiD, tyN], rfl⟩
theorem asg_D {t : DT} {i : Nat} {E : PEn} {ρ : En} (d : D) (hc : ∀ P : D → Prop, P d → t ρ P) (h : E.nx (ρ.set i (.d d))) : sAsg t (gtName i) E ρ := hc _ h
theorem isP_len (ds : List D) : isP (.tuple ds) = decide ((ds.length : Int) = 2) := by
  match ds with
  | [] => rfl
  | [x] => rfl
  | [x, y] => rfl
  | x :: y :: z :: r =>
    show false = _
    refine (decide_eq_false ?_).symm
    simp only [List.length_cons]; omega
theorem nol_nm : ∀ l : Nm, nolA (l.map eD) = true
  | [] => rfl
  | e :: l => by
    rw [List.map_cons]
    simp only [nolA, nol_nm l, Bool.and_true]; rfl
theorem pair_vOk {s : Str} {x : D} (hs : lf (.str s) = true ∧ (PyData.str s).bulk ≤ 100) (h : vOk x) (h1 : x.bulk ≤ 90000) (h2 : x.depth ≤ 30) : vOk (.tuple [.str s, x]) := by
  refine ⟨?_, ?_, ?_, ?_⟩
  · rcases h.dc with q | q
    · exact .inl (by simp [nod, nodA, q])
    · exact .inr (by simp [nol, nolA, q])
  · simp only [TP.lf, lfA, Bool.and_true]
    rw [h.lf, Bool.and_true]
    exact hs.1
  · have := hs.2
    simp only [PyData.bulk, PyData.bulkAll] at this ⊢; omega
  · simp only [PyData.depth, PyData.depthAll]; omega
theorem ntOk.small {l : Nm} (h : ntOk l) : (tD l).bulk ≤ 50000 ∧ (tD l).depth ≤ 4 := by
  have hh := h.2
  have hl := h.1
  refine ⟨?_, ?_⟩
  · have := (lf_nm hh).2
    unfold tD
    simp only [PyData.bulk]; omega
  · have := (sh_all l).2
    unfold tD
    simp only [PyData.depth]; omega
theorem kind_vOk (k : Option Kd') : vOk (kindD k) ∧ (kindD k).bulk ≤ 10 ∧ (kindD k).depth ≤ 1 := by
  cases k with
  | none => exact ⟨⟨.inl rfl, rfl, by decide +kernel, by decide +kernel⟩, by decide +kernel, by decide +kernel⟩
  | some z => cases z <;> exact ⟨⟨.inl rfl, by decide +kernel, by decide +kernel, by decide +kernel⟩, by decide +kernel, by decide +kernel⟩
theorem due_vOk {T : Nm} {kk : Option Kd'} {w : D} (h : ntOk T) : vOk (dueD T (kindD kk) w) := by
  have h1 : vOk (.tuple [.str "number", tD T]) := pair_vOk (by decide +kernel) h.v (by have := h.small.1; omega) (by have := h.small.2; omega)
  have h2 : vOk (.tuple [.str "kind", kindD kk]) := by
    obtain ⟨a, b, c⟩ := kind_vOk kk
    exact pair_vOk (by decide +kernel) a (by omega) (by omega)
  have h3 : vOk formD := ⟨.inl rfl, by decide +kernel, by decide +kernel, by decide +kernel⟩
  have h4 : vOk .none := ⟨.inl rfl, rfl, by decide +kernel, by decide +kernel⟩
  unfold dueD
  split
  · split
    · unfold dueNum
      split
      · exact h1
      · exact h4
    · split
      · unfold dueFit
        split
        · exact h1
        · split
          · exact h4
          · exact h2
      · exact h3
  · exact h3
theorem paper_vOk {a b c u v : Rat} (h : ntOk (pairNum a b c u v)) : vOk (paperD a b c u v) := by
  unfold paperD
  split
  · rename_i k _
    obtain ⟨k1, k2, k3⟩ := kind_vOk (some k)
    exact pair_vOk (x := kindD (some k)) (by decide +kernel) k1 (by omega) (by omega)
  · exact pair_vOk (by decide +kernel) h.v (by have := h.small.1; omega) (by have := h.small.2; omega)
theorem eqv_strS {x : D} {s : Str} (h : PyData.eqv x (.str s) = true) : x = .str s := by
  cases x with
  | str y =>
    simp only [PyData.eqv] at h
    rw [beq_iff_eq] at h
    rw [h]
  | _ => simp [PyData.eqv] at h
theorem due_none {a b c u v : Rat} {w : D} (htp : (kindOf a b c u v).isSome = decide (pairNum a b c u v = [])) (h : dueD (pairNum a b c u v) (kindD (kindOf a b c u v)) w = .none) : w.shown = (paperD a b c u v).shown := by
  unfold paperD
  unfold dueD at h
  split at h
  · rename_i s x
    split at h
    · rename_i hs
      subst hs
      unfold dueNum at h
      split at h
      · cases h
      · rename_i hn
        rw [not_or, Classical.not_not] at hn
        rw [decide_eq_false hn.1] at htp
        have hk : kindOf a b c u v = none := by cases e : kindOf a b c u v with
          | none => rfl
          | some z => rw [e] at htp; cases htp
        rw [hk]
        simp only [PyData.shown, PyData.shownAll, hn.2]
    · split at h
      · rename_i hs
        unfold dueFit at h
        split at h
        · cases h
        · rename_i hn
          rw [Classical.not_not] at hn
          rw [decide_eq_true hn] at htp
          obtain ⟨z, hk⟩ := Option.isSome_iff_exists.mp htp
          split at h
          · rename_i he
            rw [hk] at he ⊢
            rw [eqv_strS he, hs.1]
          · cases h
      · cases h
  · cases h
theorem val_loop (E : PEn) (odd : D) {a b c u v : Rat} (hf : fact60 a b c u v) (s3 s9 s13 s14 s15 s16 s17 s19 : Slot) : ∀ (ws : List D) (s18 s20 s21 s22 : Slot), (∀ w ∈ ws, vOk w) →
    (∀ s18 s20 s21 s22, E.nx [.un, .src, .d odd, s3, .d (qD a), .d (qD b), .d (qD c), .d (qD u), .d (qD v), s9, .d (tD (pairNum a b c u v)), .d (kindD (kindOf a b c u v)), .d (paperD a b c u v), s13, s14, s15, s16, s17, s18, s19, s20, s21, s22]) →
    forD (gtName 18) bodyV E ws [.un, .src, .d odd, s3, .d (qD a), .d (qD b), .d (qD c), .d (qD u), .d (qD v), s9, .d (tD (pairNum a b c u v)), .d (kindD (kindOf a b c u v)), .d (paperD a b c u v), s13, s14, s15, s16, s17, s18, s19, s20, s21, s22]
  | [], s18, s20, s21, s22, _, k => k s18 s20 s21 s22
  | w :: ws, s18, s20, s21, s22, hw, k => by
    have ih := fun s18 s20 s21 s22 => val_loop E odd hf s3 s9 s13 s14 s15 s16 s17 s19 ws s18 s20 s21 s22 (fun z hz => hw z (List.mem_cons_of_mem _ hz)) k
    have vw := hw w List.mem_cons_self
    unfold forD
    generalize forD (gtName 18) bodyV E ws = W at *
    dsimp only [bodyV, gtName, List.set_cons_zero, List.set_cons_succ]
    have told := told_nt hf.ok
    have htp := hf.kd
    generalize hT : pairNum a b c u v = T at *
    generalize hK : kindOf a b c u v = kk at *
    generalize hP : paperD a b c u v = pp at *
    refine seq_S (fun ρ => ρ = [.un, .src, .d odd, s3, .d (qD a), .d (qD b), .d (qD c), .d (qD u), .d (qD v), s9, .d (tD T), .d (kindD kk), .d pp, s13, s14, s15, s16, s17, .d w, s19, .d (.str w.shown), .d (.bool (isP w)), s22]) (fun F hF => ?_) (fun ρ hρ => ?_)
    · walk_at "dl"
      refine ⟨vw.r, ?_⟩
      rcases two_len w with ⟨h1, ds, rfl⟩ | ⟨h1, h2⟩
      · rw [h1]
        refine iteTr rfl ?_
        dsimp only
        refine ⟨⟨rfl, rfl⟩, ?_⟩
        rw [eqvI, ← isP_len]
        exact hF _ rfl
      · rw [h1]
        refine iteFa rfl ?_
        rw [← h2]
        exact hF _ rfl
    subst hρ
    have vT := told.v
    have hdue : dueD T (kindD kk) w = dueD T (kindD kk) w := rfl
    have due_v : vOk (dueD T (kindD kk) w) := due_vOk told
    have hnone : dueD T (kindD kk) w = .none → w.shown = pp.shown := fun hd => by
      rw [← hP]
      exact due_none (hT ▸ hK ▸ htp) (hT ▸ hK ▸ hd)
    have tail : ∀ s21, bodyT { nx := W, ct := W, bk := E.nx, rt := E.rt } [.un, .src, .d odd, s3, .d (qD a), .d (qD b), .d (qD c), .d (qD u), .d (qD v), s9, .d (tD T), .d (kindD kk), .d pp, s13, s14, s15, s16, s17, .d w, s19, .d (.str w.shown), s21, .d (dueD T (kindD kk) w)] := by
      intro s21
      have ihW := ih (.d w) (.d (.str w.shown)) s21 (.d (dueD T (kindD kk) w))
      unfold bodyT
      refine seq_if false (fun P hP' => ?_) (fun h => by cases h) (fun _ => ?_)
      · walk_at "dl"
        refine ⟨rfl, ((a, b, c, u, v), w), rfl, ⟨hf.ok, vw⟩, fun d hd => ?_⟩
        dsimp only at hd
        rw [hT, hK] at hd
        subst hd
        refine ⟨due_v.r, due_v.r, ?_⟩
        rw [decide_eq_true rfl]
        refine iteFa rfl ⟨vw.r, ?_⟩
        rw [decide_eq_true rfl]
        exact hP'
      · dsimp only [sNext]
        walk_at "dl"
        by_cases hd : dueD T (kindD kk) w = .none
        · rw [hd] at ihW ⊢
          refine iteTr rfl ⟨vw.r, ?_⟩
          have hpv : vOk pp := by rw [← hP]; exact paper_vOk (hT ▸ told)
          refine ⟨hpv.r, ?_⟩
          rw [decide_eq_true (hnone hd)]
          exact iteFa rfl ihW
        · have hn : isNone (dueD T (kindD kk) w) = false := by
            cases e : dueD T (kindD kk) w with
            | none => exact absurd e hd
            | _ => rfl
          have : ∀ X : D, isNone X = false → (match X with | .none => true | _ => false) = false := fun X hX => by cases X <;> first | rfl | cases hX
          refine iteFa ?_ ihW
          first | exact this _ hn | exact hn
    refine seq_asgS (fun d => (d = .bool false ∧ ∀ s x, w = .tuple [.str s, x] → s ≠ "fits" ∧ s ≠ "off") ∨ (d = .bool true ∧ ∃ x, w = .tuple [.str "off", x]) ∨ (d = .bool true ∧ ∃ x, w = .tuple [.str "fits", x])) (fun P hP' => ?_) (fun d hd => ?_)
    · walk_at "dl"
      refine iteC (fun hp => ?_) (fun hp => ?_)
      · obtain ⟨x0, x1, rfl⟩ : ∃ x0 x1, w = .tuple [x0, x1] := by
          unfold isP at hp
          split at hp
          · exact ⟨_, _, rfl⟩
          · cases hp
        dsimp only
        rw [at2_0]
        dsimp only
        refine ⟨(vw.item (x := x0) (by simp)).r, by decide, ?_⟩
        rw [show toStrs [PyData.str (Str.ofString "'fits'"), PyData.str (Str.ofString "'off'")] = some [Str.ofString "'fits'", Str.ofString "'off'"] from rfl]
        dsimp only
        rw [if_neg (by decide)]
        by_cases h1 : x0.shown = "'fits'"
        · rw [decide_eq_true (by rw [h1]; exact List.mem_cons_self)]
          rw [shown_fits] at h1
          exact hP' _ (.inr (.inr ⟨rfl, x1, by rw [h1]⟩))
        · by_cases h2 : x0.shown = "'off'"
          · rw [decide_eq_true (by rw [h2]; exact List.mem_cons_of_mem _ List.mem_cons_self)]
            rw [shown_off] at h2
            exact hP' _ (.inr (.inl ⟨rfl, x1, by rw [h2]⟩))
          · rw [decide_eq_false (by simp only [List.mem_cons, List.not_mem_nil, or_false, not_or]; exact ⟨h1, h2⟩)]
            refine hP' _ (.inl ⟨rfl, fun s x e => ?_⟩)
            have e' : x0 = .str s := by simp only [PyData.tuple.injEq, List.cons.injEq] at e; exact e.1
            subst e'
            exact ⟨fun z => h1 ((shown_fits _).mpr (by rw [z])), fun z => h2 ((shown_off _).mpr (by rw [z]))⟩
      · rw [hp]
        refine hP' _ (.inl ⟨rfl, fun s x e => ?_⟩)
        subst e
        cases hp
    dsimp only [List.set_cons_zero, List.set_cons_succ]
    have at0 : ∀ s x : D, atI [s, x] 0 = some s := fun _ _ => rfl
    have at1 : ∀ s x : D, atI [s, x] 1 = some x := fun _ _ => rfl
    rcases hd with ⟨rfl, hn⟩ | ⟨rfl, x, rfl⟩ | ⟨rfl, x, rfl⟩
    · -- no form
      have hD : dueD T (kindD kk) w = formD := by
        unfold dueD
        split
        · rename_i s x
          obtain ⟨n1, n2⟩ := hn s x rfl
          rw [if_neg n2, if_neg (fun z => n1 z.1)]
        · rfl
      rw [hD] at tail
      refine seq_if false (fun P hP' => by walk_at "dl"; exact iteFa rfl hP') (fun h => by cases h) (fun _ => ?_)
      dsimp only [sNext]
      refine seq_asgD formD (fun P hP' => by walk_at "dl"; exact iteFa rfl ⟨by decide, hP'⟩) ?_
      refine seq_if false (fun P hP' => by walk_at "dl"; exact iteFa rfl hP') (fun h => by cases h) (fun _ => ?_)
      dsimp only [sNext]
      refine seq_if false (fun P hP' => by walk_at "dl"; exact iteFa rfl hP') (fun h => by cases h) (fun _ => ?_)
      exact tail _
    · -- off
      have vx := vw.item (x := x) (by simp)
      have hsf : PyData.eqv (.str "off") (.str "fits") = false := by decide +kernel
      have ho1 : SeqAt.shaped (.str "off") = true := by decide +kernel
      have ho2 : SeqAt.shaped (.str "fits") = true := by decide +kernel
      have hso : PyData.eqv (.str "off") (.str "off") = true := by decide +kernel
      have hD : dueD T (kindD kk) (.tuple [.str "off", x]) = dueNum T x := by unfold dueD; exact if_pos rfl
      rw [hD] at tail
      refine seq_if false (fun P hP' => ?_) (fun h => by cases h) (fun _ => ?_)
      · walk_at "dl"
        refine iteTr rfl ?_
        rw [at0]
        exact ⟨⟨ho1, ho2⟩, by rw [hsf]; exact hP'⟩
      dsimp only [sNext]
      refine seq_asgD .none (fun P hP' => by walk_at "dl"; exact iteTr rfl hP') ?_
      dsimp only [List.set_cons_zero, List.set_cons_succ]
      refine seq_if true (fun P hP' => ?_) (fun _ => ?_) (fun h => by cases h)
      · walk_at "dl"
        refine iteTr rfl ?_
        rw [at0]
        exact ⟨⟨ho1, ho1⟩, by rw [hso]; exact hP'⟩
      refine asg_D (dueNum T x) (fun P hP' => ?_) ?_
      · walk_at "dl"
        refine ⟨by decide, ⟨sh_tD T, rfl⟩, ?_⟩
        rw [tD_nil]
        unfold dueNum at hP'
        by_cases h0 : T = []
        · rw [if_pos (.inl h0)] at hP'
          exact iteTr (decide_eq_true h0) (iteTr rfl ⟨by decide, hP'⟩)
        · refine iteFa (decide_eq_false h0) ?_
          rw [at1]
          refine ⟨vx.r, vT.r, ?_⟩
          by_cases h1 : x.shown = (tD T).shown
          · rw [decide_eq_true h1]
            rw [if_neg (by rw [not_or, Classical.not_not]; exact ⟨h0, h1⟩)] at hP'
            exact iteFa rfl hP'
          · rw [decide_eq_false h1]
            rw [if_pos (.inr h1)] at hP'
            exact iteTr rfl ⟨by decide, hP'⟩
      dsimp only [List.set_cons_zero, List.set_cons_succ]
      refine seq_if false (fun P hP' => ?_) (fun h => by cases h) (fun _ => ?_)
      · walk_at "dl"
        refine iteTr rfl ?_
        rw [at0]
        exact ⟨⟨ho1, ho2⟩, by rw [hsf]; exact hP'⟩
      dsimp only [sNext]
      exact tail _
    · -- fits
      have vx := vw.item (x := x) (by simp)
      have hff : PyData.eqv (.str "fits") (.str "fits") = true := by decide +kernel
      have hfo : PyData.eqv (.str "fits") (.str "off") = false := by decide +kernel
      have ho1 : SeqAt.shaped (.str "off") = true := by decide +kernel
      have ho2 : SeqAt.shaped (.str "fits") = true := by decide +kernel
      have hne : ¬ (("fits" : Str) = "off") := by decide +kernel
      have hD : dueD T (kindD kk) (.tuple [.str "fits", x]) = if x.shown ∈ kShown then dueFit T (kindD kk) x else formD := by
        unfold dueD
        dsimp only
        rw [if_neg hne]
        by_cases h : x.shown ∈ kShown
        · rw [if_pos ⟨rfl, h⟩, if_pos h]
        · rw [if_neg (fun z => h z.2), if_neg h]
      rw [hD] at tail
      refine seq_if true (fun P hP' => ?_) (fun _ => ?_) (fun h => by cases h)
      · walk_at "dl"
        refine iteTr rfl ?_
        rw [at0]
        exact ⟨⟨ho2, ho2⟩, by rw [hff]; exact hP'⟩
      refine asg_D (.bool (decide (x.shown ∈ kShown))) (fun P hP' => ?_) ?_
      · walk_at "dl"
        rw [at1]
        dsimp only
        refine ⟨vx.r, by decide, ?_⟩
        have ek : toStrs [PyData.str (Str.ofString "'fractions'"), PyData.str (Str.ofString "'line'"), PyData.str (Str.ofString "'five'")] = some kShown := by decide +kernel
        rw [ek]
        dsimp only
        rw [if_neg (by decide)]
        exact hP'
      dsimp only [List.set_cons_zero, List.set_cons_succ]
      by_cases hk : x.shown ∈ kShown
      · rw [decide_eq_true hk]
        rw [if_pos hk] at tail
        refine seq_asgD .none (fun P hP' => by walk_at "dl"; exact iteTr rfl hP') ?_
        dsimp only [List.set_cons_zero, List.set_cons_succ]
        refine seq_if false (fun P hP' => ?_) (fun h => by cases h) (fun _ => ?_)
        · walk_at "dl"
          refine iteTr rfl ?_
          rw [at0]
          exact ⟨⟨ho2, ho1⟩, by rw [hfo]; exact hP'⟩
        dsimp only [sNext]
        refine seq_if true (fun P hP' => ?_) (fun _ => ?_) (fun h => by cases h)
        · walk_at "dl"
          refine iteTr rfl ?_
          rw [at0]
          exact ⟨⟨ho2, ho2⟩, by rw [hff]; exact hP'⟩
        refine asg_D (dueFit T (kindD kk) x) (fun P hP' => ?_) (tail _)
        walk_at "dl"
        refine ⟨by decide, ⟨sh_tD T, rfl⟩, ?_⟩
        rw [tD_nil]
        unfold dueFit at hP'
        by_cases h0 : T = []
        · rw [if_neg (fun z => z h0)] at hP'
          refine iteFa (by rw [decide_eq_true h0]; rfl) ?_
          rw [at1]
          dsimp only
          have shk : SeqAt.shaped (kindD kk) = true := by
            cases kk with
            | none => rfl
            | some z => cases z <;> decide +kernel
          refine ⟨⟨sh_scal vx.lf hk, shk⟩, ?_⟩
          by_cases h1 : PyData.eqv x (kindD kk) = true
          · rw [if_pos h1] at hP'
            rw [h1]
            exact iteFa rfl hP'
          · rw [if_neg h1] at hP'
            have h1' : PyData.eqv x (kindD kk) = false := by simpa using h1
            rw [h1']
            exact iteTr rfl ⟨by decide, hP'⟩
        · rw [if_pos h0] at hP'
          exact iteTr (by rw [decide_eq_false h0]; rfl) ⟨by decide, hP'⟩
      · rw [decide_eq_false hk]
        rw [if_neg hk] at tail
        refine seq_asgD formD (fun P hP' => by walk_at "dl"; exact iteFa rfl ⟨by decide, hP'⟩) ?_
        dsimp only [List.set_cons_zero, List.set_cons_succ]
        refine seq_if false (fun P hP' => by walk_at "dl"; exact iteFa rfl hP') (fun h => by cases h) (fun _ => ?_)
        dsimp only [sNext]
        refine seq_if false (fun P hP' => by walk_at "dl"; exact iteFa rfl hP') (fun h => by cases h) (fun _ => ?_)
        exact tail _
end TP
/-! P13: a lap of the law of k60. -/
namespace TP
open PySem PySem.Spec L2 DL
open PyProof.Rows hiding St
local macro_rules | `(tactic| walk_at "dl") => `(tactic| dsimp only [sSeq, sPar, sPar3, sParL, sParB, sParD, sNext, sRet, sRetN, sIf, sAsg, sAsgO, ownD, sFz, fz, sAppend, sAppendLL, sNewLL, sExtend, sPut, sNewD, sDispT, psNil, psCons, endE,
  aCons, aNil, aStar, dVar, wVar, rVar, dC, dOp, dUn, dIf, dAnd, dOr, dNot, dTup, dLst, dCB, dCall, dLc, dSl, dRepr, dIsi, dGet, dGet2, dSortD, pNo, pSo, sD, sB, sVar, iSeq, iSeqC, iRg1, iRg2, ieOf, ieP,
  bT, bTru, bAnd, bOr, bNot, bYes, gtName, gtTup, gtCons, gtNil, kTru, kI, kI1, kI2, kInt, kLen, kSub, kMul, kDiv, kMod, kLt, kLe, kGt, kGe, kEq, kNe, kAdd, kCat, kIn, kNotIn, kIsN, kNotN, kIx, kIxS, kNeg, kTupO, kLst, kRev, kRevL, kSl, kSlL, kMinL, kEqS, kNeS, kInS, sNewLL,
  wipeE, List.getElem?_cons_zero, List.getElem?_cons_succ, List.set_cons_zero, List.set_cons_succ, List.length_cons, List.length_nil, List.cons_append, List.nil_append, List.replicate_succ, List.replicate_zero, Nat.sub_self, List.append_nil])


def lapB : ST := (sSeq (sAsg (dCall 1 R__law_ask (aCons (sVar 1) aNil)) (gtTup 5 (gtCons (gtName 4) (gtCons (gtName 5) (gtCons (gtName 6) (gtCons (gtName 7) (gtCons (gtName 8) gtNil)))))))
  (sSeq (sAsg (dCall 2 R_number_sum (aCons (sD (dCall 2 R_number_often (aCons (sD (dVar 4)) (aCons (sD (dCall 1 R_cos_number (aCons (sD (dVar 7)) aNil))) aNil)))) (aCons (sD (dCall 2 R_number_often (aCons (sD (dVar 5)) (aCons (sD (dCall 1 R_cos_number (aCons (sD (dVar 8)) aNil))) aNil)))) aNil))) (gtName 9))
  (sSeq (sAsg (dCall 1 R_number_form (aCons (sD (dCall 2 R_number_sum (aCons (sD (dVar 9)) (aCons (sD (dIf (bT (dOp kNe (dVar 6) (dTup (aCons (dC (.int 0)) (aCons (dC (.int 1)) aNil))))) (dTup (aCons (dTup (aCons (dTup (aCons (dC (.int 0)) (aCons (dC (.int 1)) aNil))) (aCons (dTup (aCons (dOp kSub (dC (.int 0)) (dOp kIx (dVar 6) (dC (.int 0)))) (aCons (dOp kIx (dVar 6) (dC (.int 1))) aNil))) aNil))) aNil)) (dTup aNil))) aNil)))) aNil)) (gtName 10))
  (sSeq (sAsg (dCall 5 R_pair_kind (aCons (sD (dVar 4)) (aCons (sD (dVar 5)) (aCons (sD (dVar 6)) (aCons (sD (dVar 7)) (aCons (sD (dVar 8)) aNil)))))) (gtName 11))
  (sSeq (sIf (bOr (bT (dOp kNeS (dRepr (dCall 5 R_pair_number (aCons (sD (dVar 4)) (aCons (sD (dVar 5)) (aCons (sD (dVar 6)) (aCons (sD (dVar 7)) (aCons (sD (dVar 8)) aNil))))))) (dRepr (dVar 10)))) (bT (dOp kNe (dOp kEq (dVar 10) (dTup aNil)) (dCall 5 R__law_is_pair (aCons (sD (dVar 4)) (aCons (sD (dVar 5)) (aCons (sD (dVar 6)) (aCons (sD (dVar 7)) (aCons (sD (dVar 8)) aNil))))))))) (sRet (dC (.bool false))) sNext)
  (sSeq (sIf (bOr (bT (dOp kNe (dOp kNotN (dVar 11) (dC .none)) (dOp kEq (dVar 10) (dTup aNil)))) (bAnd (bT (dOp kEq (dCall 1 R_fraction_told (aCons (sD (dVar 9)) aNil)) (dVar 6))) (bT (dOp kIsN (dVar 11) (dC .none))))) (sRet (dC (.bool false))) sNext)
  (sSeq (sAsg (dIf (bT (dOp kNotN (dVar 11) (dC .none))) (dTup (aCons (dC (.str "fits")) (aCons (dVar 11) aNil))) (dTup (aCons (dC (.str "off")) (aCons (dVar 10) aNil)))) (gtName 12))
  (sSeq (sIf (bT (dOp kNeS (dRepr (dCall 5 R_pair_paper (aCons (sD (dVar 4)) (aCons (sD (dVar 5)) (aCons (sD (dVar 6)) (aCons (sD (dVar 7)) (aCons (sD (dVar 8)) aNil))))))) (dRepr (dVar 12)))) (sRet (dC (.bool false))) sNext)
  (sSeq (sAsgO 13 (dLst (aCons (dVar 12) (aCons (dTup (aCons (dC (.str "off")) (aCons (dVar 10) aNil))) (aCons (dTup (aCons (dC (.str "fits")) (aCons (dC (.str "fractions")) aNil))) (aCons (dTup (aCons (dC (.str "fits")) (aCons (dC (.str "line")) aNil))) (aCons (dTup (aCons (dC (.str "fits")) (aCons (dC (.str "five")) aNil))) (aCons (dTup (aCons (dC (.str "off")) (aCons (dTup aNil) aNil))) aNil))))))))
  (sSeq (sAsgO 13 (dOp kCat (rVar 13) (dLst (aCons (dUn kLst (dVar 12)) (aCons (dUn kRev (dVar 12)) (aCons (dOp kAdd (dVar 12) (dTup (aCons (dC (.int 0)) aNil))) (aCons (dTup (aCons (dC (.str "fits")) aNil)) (aCons (dTup (aCons (dC (.str "fits")) (aCons (dC .none) aNil))) (aCons (dTup (aCons (dC (.str "fits")) (aCons (dC (.str "two")) aNil))) aNil)))))))))
  (sSeq (sAsgO 13 (dOp kCat (rVar 13) (dLst (aCons (dC .none) (aCons (dTup aNil) aNil)))))
  (sSeq (sAsgO 13 (dOp kCat (rVar 13) (dLst (aCons (dTup (aCons (dC (.str "Off")) (aCons (dVar 10) aNil))) (aCons (dTup (aCons (dC (.str "off")) (aCons (dUn kLst (dVar 10)) aNil))) (aCons (dTup (aCons (dC (.str "off")) (aCons (dOp kAdd (dVar 10) (dSl kSl (dVar 10) pNo (pSo (dC (.int 1))))) aNil))) (aCons (dTup (aCons (dC (.str "fits")) (aCons (dTup (aCons (dC (.str "line")) aNil)) aNil))) aNil)))))))
  (sSeq (sAppend 13 (dTup (aCons (dC (.str "off")) (aCons (dCall 2 R__law_of (aCons (sVar 1) (aCons (sD (dVar 2)) aNil))) aNil))))
  (sSeq (sAsg (dUn kTupO (dLc (iSeq (dVar 10)) (gtTup 2 (gtCons (gtName 15) (gtCons (gtTup 2 (gtCons (gtName 16) (gtCons (gtName 17) gtNil))) gtNil))) bYes (dTup (aCons (dVar 15) (aCons (dIf (bT (dOp kEq (dTup (aCons (dVar 16) (aCons (dVar 17) aNil))) (dTup (aCons (dC (.int 1)) (aCons (dC (.int 1)) aNil))))) (dTup (aCons (dOp kEq (dVar 16) (dC (.int 1))) (aCons (dOp kEq (dVar 17) (dC (.int 1))) aNil))) (dTup (aCons (dVar 16) (aCons (dVar 17) aNil)))) aNil))) [15, 16, 17])) (gtName 14))
  (sSeq (sAsgO 13 (dOp kCat (rVar 13) (dLst (aCons (dTup (aCons (dC (.str "off")) (aCons (dVar 14) aNil))) (aCons (dTup (aCons (dCall 2 R__law_of (aCons (sVar 1) (aCons (sD (dVar 2)) aNil))) (aCons (dVar 10) aNil))) (aCons (dTup (aCons (dC (.str "off")) (aCons (dTup (aCons (dTup (aCons (dTup (aCons (dC (.int 0)) (aCons (dC (.int 1)) aNil))) (aCons (dTup (aCons (dC (.int 1)) (aCons (dC (.int 1)) aNil))) aNil))) aNil)) aNil))) aNil))))))
  (sFor (ieOf (iSeq (dOp kCat (rVar 13) (dLc (iRg1 (aCons (dC (.int 4)) aNil)) (gtName 19) bYes (dCall 3 R__law_bent (aCons (sVar 1) (aCons (sD (dTup (aCons (dC (.str "off")) (aCons (dVar 10) aNil)))) (aCons (sD (dVar 2)) aNil)))) [19])))) (gtName 18)
  bodyV))))))))))))))))
def oddL : List D := [.none, .bool true, .int 0, .int 1, .int (0 - 1), .tuple [], .str "fits", .str "off", .str "line", .tuple [.int 0, .int 1], .tuple [.tuple [.int 0, .int 1], .tuple [.int 1, .int 1]], .tuple [.tuple [.tuple [.int 0, .int 1], .tuple [.int 1, .int 1]]], .list [], .dict []]
theorem odd_ok : oddOk oddL := by
  refine ⟨by decide, fun d hd => ?_⟩
  have key : ∀ d ∈ oddL, (nod d || nol d) = true ∧ TP.lf d = true ∧ d.bulk ≤ 40 ∧ d.depth ≤ 5 := by
    have : (oddL.all fun d => (nod d || nol d) && TP.lf d && decide (d.bulk ≤ 40) && decide (d.depth ≤ 5)) = true := by decide +kernel
    intro d hd
    have := List.all_eq_true.mp this d hd
    simp only [Bool.and_eq_true, decide_eq_true_eq] at this
    exact ⟨this.1.1.1, this.1.1.2, this.1.2, this.2⟩
  obtain ⟨a, b, c, e⟩ := key d hd
  exact ⟨by simpa using a, b, c, e⟩
theorem vtup {ds : List D} (h1 : nodA ds = true ∨ nolA ds = true) (h2 : lfA ds = true) (h3 : PyData.bulkAll ds ≤ 100000) (h4 : PyData.depthAll ds ≤ 39) : vOk (.tuple ds) :=
  ⟨h1.elim (fun h => .inl (by simpa only [nod] using h)) (fun h => .inr (by simpa only [nol] using h)), by simpa only [TP.lf] using h2, by simpa only [PyData.bulk] using h3, by simp only [PyData.depth]; omega⟩
theorem vlist {ds : List D} (h1 : nodA ds = true) (h2 : lfA ds = true) (h3 : PyData.bulkAll ds ≤ 100000) (h4 : PyData.depthAll ds ≤ 39) : vOk (.list ds) :=
  ⟨.inl (by simpa only [nod] using h1), by simpa only [TP.lf] using h2, by simpa only [PyData.bulk] using h3, by simp only [PyData.depth]; omega⟩
def flagD (e : Rat × Rat) : D := .tuple [qD e.1, if e.2 = 1 then .tuple [.bool (decide (e.2.num = 1)), .bool (decide ((e.2.den : Int) = 1))] else qD e.2]
theorem flags_ok : ∀ {l : Nm}, (∀ e ∈ l, e.1.num.natAbs < 10 ^ 20 ∧ e.1.den < 10 ^ 20 ∧ e.2.num.natAbs < 10 ^ 20 ∧ e.2.den < 10 ^ 20) → nodA (l.map flagD) = true ∧ lfA (l.map flagD) = true ∧ PyData.bulkAll (l.map flagD) ≤ 10 * l.length ∧ PyData.depthAll (l.map flagD) ≤ 2
  | [], _ => ⟨rfl, rfl, Nat.le_refl _, Nat.zero_le _⟩
  | e :: l, h => by
    obtain ⟨a, b, c, d⟩ := flags_ok fun z hz => h z (List.mem_cons_of_mem _ hz)
    obtain ⟨h1, h2, h3, h4⟩ := h e List.mem_cons_self
    have t : ∀ n : Nat, n < 10 ^ 20 → n < 10 ^ 40 := fun n hn => Nat.lt_of_lt_of_le hn (by decide)
    have key : nod (flagD e) = true ∧ lf (flagD e) = true ∧ (flagD e).bulk ≤ 6 ∧ (flagD e).depth ≤ 2 := by
      unfold flagD
      split
      · refine ⟨rfl, ?_, by exact Nat.le_refl 6, by exact Nat.le_refl 2⟩
        simp only [qD, lf, lfA, Bool.and_true, Bool.and_eq_true, decide_eq_true_eq, Int.natAbs_natCast]
        exact ⟨t _ h1, t _ h2⟩
      · refine ⟨rfl, ?_, Nat.le_refl _, Nat.le_refl _⟩
        simp only [qD, lf, lfA, Bool.and_true, Bool.and_eq_true, decide_eq_true_eq, Int.natAbs_natCast]
        exact ⟨⟨t _ h1, t _ h2⟩, ⟨t _ h3, t _ h4⟩⟩
    rw [List.map_cons]
    simp only [nodA, lfA, PyData.bulkAll, PyData.depthAll, List.length_cons, key.1, key.2.1, a, b, Bool.and_self, true_and]
    omega
theorem lc_S {tg : GT} {t : DT} {ρ : En} {α : Type} {enc : α → D} (I : D → Prop) (Q : List D → Prop) : ∀ (l : List α) (acc : List D),
    (∀ a ∈ l, ∀ X : D → Prop, (∀ d, I d → X d) → tg (enc a) ρ fun ρ1 => t ρ1 X) → (∀ ys : List D, ys.length = l.length → (∀ y ∈ ys, I y) → Q (acc ++ ys)) → lcD tg bYes t ρ (l.map enc) acc Q
  | [], acc, _, q => by
    have := q [] rfl (fun y h => by cases h)
    rw [List.append_nil] at this
    exact this
  | a :: l, acc, h, q => by
    rw [List.map_cons]
    unfold lcD
    have h1 := h a List.mem_cons_self
    show tg (enc a) ρ fun ρ1 => t ρ1 fun y => lcD tg bYes t ρ (l.map enc) (acc ++ [y]) Q
    refine h1 _ fun d hd => ?_
    refine lc_S I Q l (acc ++ [d]) (fun z hz => h z (List.mem_cons_of_mem _ hz)) fun ys hy hI => ?_
    rw [List.append_assoc]
    refine q (d :: ys) (by rw [List.length_cons, List.length_cons, hy]) fun y hy' => ?_
    rcases List.mem_cons.mp hy' with e | e
    · rw [e]; exact hd
    · exact hI y e
theorem numOf_one {c : Rat} (h : c ≠ 0) : numOf [((0 : Rat), c)] = [(0, c)] := by
  have e : numDict [((0 : Rat), c)] = [(0, 0 + c)] := rfl
  unfold numOf
  rw [e, Rat.zero_add]
  have hv : valQ [((0 : Rat), c)] 0 = c := rfl
  show (([(0 : Rat)].filter fun k => decide (valQ [((0 : Rat), c)] k ≠ 0)).map fun k => (k, valQ [((0 : Rat), c)] k)) = _
  rw [List.filter_cons, if_pos (by rw [hv]; exact decide_eq_true h), List.filter_nil, List.map_cons, List.map_nil, hv]
theorem numOf_nil : numOf [((0 : Rat), 0)] = [] := by decide +kernel
theorem bulk7 : ∀ l : Nm, PyData.bulkAll (l.map eD) = 7 * l.length
  | [] => rfl
  | e :: l => by
    have ih := bulk7 l
    have : (eD e).bulk = 6 := rfl
    rw [List.map_cons, List.length_cons]
    simp only [PyData.bulkAll]
    omega
theorem sm_nm : ∀ {l : Nm}, (∀ e ∈ l, e.1.num.natAbs < 10 ^ 20 ∧ e.1.den < 10 ^ 20 ∧ e.2.num.natAbs < 10 ^ 20 ∧ e.2.den < 10 ^ 20) → sm (tD l) = true
  | [], _ => rfl
  | e :: l, h => by
    have ih := sm_nm fun z hz => h z (List.mem_cons_of_mem _ hz)
    obtain ⟨h1, h2, h3, h4⟩ := h e List.mem_cons_self
    have t : ∀ n : Nat, n < 10 ^ 20 → n < 10 ^ 30 := fun n hn => Nat.lt_of_lt_of_le hn (by decide)
    unfold tD at ih ⊢
    rw [List.map_cons]
    simp only [sm] at ih
    simp only [sm, smA, eD, qD, ih, Bool.and_true, Bool.and_eq_true, decide_eq_true_eq, Int.natAbs_natCast]
    exact ⟨⟨t _ h1, t _ h2⟩, ⟨t _ h3, t _ h4⟩⟩
theorem vword {d : D} (h : ((nod d || nol d) && TP.lf d && decide (d.bulk ≤ 100000) && decide (d.depth ≤ 40)) = true) : vOk d := by
  simp only [Bool.and_eq_true, decide_eq_true_eq, Bool.or_eq_true] at h
  exact ⟨h.1.1.1, h.1.1.2, h.1.2, h.2⟩
theorem cut_one : ∀ l : Nm, PyData.bulkAll (cut (l.map eD) none (some 1)) ≤ 10
  | [] => by show PyData.bulkAll [] ≤ 10; decide
  | e :: l => by
    rw [show (some 1 : Option Int) = some ((1 : Nat) : Int) from rfl]
    unfold cut
    rw [HT.sIx_nat, HT.sIx_none, List.drop_zero, Nat.sub_zero, List.map_cons, List.length_cons, Nat.min_eq_left (by omega)]
    show PyData.bulkAll [eD e] ≤ 10
    show (eD e).bulk + 1 + 0 ≤ 10
    have : (eD e).bulk = 6 := rfl
    omega
theorem shB (b : Bool) : SeqAt.shaped (.bool b) = true := rfl
theorem both_fOk {a b c u v : Rat} (h : okIn a b c u v) : fOk (bothNum a b u v) := by
  have hl := both_len a b u v
  refine ⟨by omega, ⟨48, by decide, by decide, fun e he => (both_cb h e he).den (by decide)⟩, fun e he => ?_⟩
  rcases both_part e he with (r | r) | (r | r) <;> rw [r]
  · exact ⟨by have := h.u.1; omega, h.u.2.1⟩
  · exact ⟨by have := h.u.2.2.1; omega, h.u.2.2.2⟩
  · exact ⟨by have := h.v.1; omega, h.v.2.1⟩
  · exact ⟨by have := h.v.2.2.1; omega, h.v.2.2.2⟩
theorem lap_ok (E : PEn) (W : En → Prop) (s3 s4 s5 s6 s7 s8 s9 s10 s11 s12 s13 s14 s15 s16 s17 s18 s19 s20 s21 s22 : Slot)
    (k : ∀ s3 s4 s5 s6 s7 s8 s9 s10 s11 s12 s13 s14 s15 s16 s17 s18 s19 s20 s21 s22 : Slot, W [.un, .src, .d (.list oddL), s3, s4, s5, s6, s7, s8, s9, s10, s11, s12, s13, s14, s15, s16, s17, s18, s19, s20, s21, s22]) :
    lapB { nx := W, ct := W, bk := E.nx, rt := E.rt } [.un, .src, .d (.list oddL), s3, s4, s5, s6, s7, s8, s9, s10, s11, s12, s13, s14, s15, s16, s17, s18, s19, s20, s21, s22] := by
  unfold lapB
  refine seq_S (fun ρ => ∃ a b c u v : Rat, drawn a b c u v ∧ ρ = [.un, .src, .d (.list oddL), s3, .d (qD a), .d (qD b), .d (qD c), .d (qD u), .d (qD v), s9, s10, s11, s12, s13, s14, s15, s16, s17, s18, s19, s20, s21, s22]) (fun F hF => ?_) (fun ρ hρ => ?_)
  · walk_at "dl"
    refine ⟨rfl, (), rfl, trivial, fun d hd => ?_⟩
    obtain ⟨a, b, c, u, v, hdr, rfl⟩ := hd
    dsimp only
    exact ⟨rfl, rfl, hF _ ⟨a, b, c, u, v, hdr, rfl⟩⟩
  obtain ⟨a, b, c, u, v, hdr, rfl⟩ := hρ
  have hf := fact_all hdr
  have told := told_nt hf.ok
  refine seq_asgD (tD (bothNum a b u v)) (fun P hP => by walk_at "dl"; exact both_built hf.ok hP) ?_
  dsimp only [List.set_cons_zero, List.set_cons_succ]
  refine seq_asgD (tD (pairNum a b c u v)) (fun P hP => ?_) ?_
  · walk_at "dl"
    have hp := (pre_fOk hf.ok).1
    have hs := sum_ok hf.ok
    unfold preNum at hp
    refine ⟨by decide, ⟨shQ c, rfl⟩, ?_⟩
    have e0 : PyData.eqv (qD c) (PyData.tuple [PyData.int 0, PyData.int 1]) = decide (c = 0) := eqvQ c 0
    rw [e0]
    by_cases hc : c = 0
    · subst hc
      rw [Rat.neg_zero, numOf_nil] at hp hs
      refine iteFa rfl ⟨by decide, rfl, use_sum (b := []) hs ⟨rfl, use_form hp ?_⟩⟩
      unfold pairNum at hP
      rw [Rat.neg_zero, numOf_nil] at hP
      exact hP
    · have hn : -c ≠ 0 := fun z => hc (by rw [← Rat.neg_neg c, z]; rfl)
      rw [numOf_one hn] at hp hs
      refine iteTr (by rw [decide_eq_false hc]; rfl) ⟨by decide, ?_⟩
      dsimp only [qD]
      rw [at2_0, at2_1]
      dsimp only
      rw [qD_neg]
      refine ⟨trivial, by decide, by decide, by decide, rfl, use_sum (b := [(0, -c)]) hs ⟨rfl, use_form hp ?_⟩⟩
      unfold pairNum at hP
      rw [numOf_one hn] at hP
      exact hP
  dsimp only [List.set_cons_zero, List.set_cons_succ]
  refine seq_asgD (kindD (kindOf a b c u v)) (fun P hP => ?_) ?_
  · walk_at "dl"
    refine ⟨rfl, (a, b, c, u, v), rfl, kind_pre hf.ok, fun d hd => ?_⟩
    subst hd
    exact hP
  dsimp only [List.set_cons_zero, List.set_cons_succ]
  have vT := told.v
  have hkd := hf.kd
  have htp := hf.tp
  have hfr := hf.fr
  have hto := both_fOk hf.ok
  have vP := paper_vOk told
  have hpp : (kindOf a b c u v = none ∧ paperD a b c u v = .tuple [.str "off", tD (pairNum a b c u v)]) ∨ (∃ z, kindOf a b c u v = some z ∧ paperD a b c u v = .tuple [.str "fits", .str (kStr z)]) := by
    unfold paperD
    cases kindOf a b c u v with
    | none => exact .inl ⟨rfl, rfl⟩
    | some z => exact .inr ⟨z, rfl, rfl⟩
  generalize hT : pairNum a b c u v = T at *
  generalize hK : kindOf a b c u v = kk at *
  generalize hB : bothNum a b u v = BB at *
  generalize hPp : paperD a b c u v = pp at *
  have shK : ∀ k : Option Kd', SeqAt.shaped (kindD k) = true := fun k => by
    cases k with
    | none => rfl
    | some z => cases z <;> decide +kernel
  have isK : isNone (kindD kk) = !decide (T = []) := by
    have := hkd
    cases hk : kk with
    | none => rw [hk] at this; rw [← this]; rfl
    | some z => rw [hk] at this; rw [← this]; rfl
  refine seq_if false (fun P hP => ?_) (fun h => by cases h) (fun _ => ?_)
  · walk_at "dl"
    refine ⟨rfl, (a, b, c, u, v), rfl, hf.ok, fun d hd => ?_⟩
    dsimp only at hd
    rw [hT] at hd
    subst hd
    refine ⟨vT.r, vT.r, ?_⟩
    try dsimp only
    rw [decide_eq_true rfl]
    refine iteFa rfl ⟨by decide, ⟨sh_tD _, rfl⟩, ?_⟩
    rw [tD_nil]
    refine ⟨rfl, ((a, b, c, u, v), 10, 840), rfl, ⟨hf.ad, by have := hf.ok.u.1; dsimp only; omega, by have := hf.ok.v.1; dsimp only; omega⟩, fun d hd => ?_⟩
    subst hd
    dsimp only
    rw [← htp]
    refine ⟨⟨shB _, shB _⟩, ?_⟩
    have : PyData.eqv (.bool (decide (T = []))) (.bool (decide (T = []))) = true := by cases decide (T = []) <;> decide
    rw [this]
    exact hP
  dsimp only [sNext]
  refine seq_if false (fun P hP => ?_) (fun h => by cases h) (fun _ => ?_)
  · walk_at "dl"
    rw [isK, tD_nil]
    refine ⟨by decide, ⟨sh_tD _, rfl⟩, ⟨shB _, shB _⟩, ?_⟩
    have e1 : PyData.eqv (.bool (!!decide (T = []))) (.bool (decide (T = []))) = true := by cases decide (T = []) <;> decide
    rw [e1]
    refine iteFa rfl ⟨rfl, BB, rfl, hto, fun d hd => ?_⟩
    subst hd
    try dsimp only
    have hst : SeqAt.shaped (toldQ BB) = true := by
      unfold toldQ
      split
      · rfl
      · split <;> rfl
      · rfl
    refine ⟨⟨hst, shQ c⟩, iteC (fun he => ?_) (fun _ => hP)⟩
    have ht : toldQ BB = qD c := by
      unfold toldQ at he ⊢
      split at he
      · rw [eqvQ] at he; rw [of_decide_eq_true he]
      · split at he
        · rename_i hk
          rw [if_pos hk]
          rw [eqvQ] at he; rw [of_decide_eq_true he]
        · exact absurd he (by simp [PyData.eqv, qD])
      · exact absurd he (by simp [PyData.eqv, qD])
    have := hfr ht
    rw [hkd] at this
    rw [this]
    exact hP
  dsimp only [sNext]
  refine seq_asgD pp (fun P hP => ?_) ?_
  · walk_at "dl"
    rw [isK]
    rcases hpp with ⟨hk, hp⟩ | ⟨z, hk, hp⟩
    · rw [hp] at hP
      rw [hk] at hkd
      rw [← hkd]
      exact iteFa rfl ⟨by decide, hP⟩
    · rw [hp] at hP
      rw [hk] at hkd ⊢
      rw [← hkd]
      exact iteTr rfl ⟨by decide, hP⟩
  dsimp only [List.set_cons_zero, List.set_cons_succ]
  refine seq_if false (fun P hP => ?_) (fun h => by cases h) (fun _ => ?_)
  · walk_at "dl"
    refine ⟨rfl, (a, b, c, u, v), rfl, hf.ok, fun d hd => ?_⟩
    dsimp only at hd
    rw [hPp] at hd
    subst hd
    refine ⟨vP.r, vP.r, ?_⟩
    try dsimp only
    rw [decide_eq_true rfl]
    exact hP
  dsimp only [sNext]
  have voff : vOk (.tuple [.str "off", tD T]) := pair_vOk (by decide +kernel) vT (by have := told.small.1; omega) (by have := told.small.2; omega)
  have hpx : ∃ s x, lf (.str s) = true ∧ (PyData.str s).bulk ≤ 100 ∧ nod x = true ∧ vOk x ∧ x.bulk ≤ 50000 ∧ x.depth ≤ 5 ∧ pp = .tuple [.str s, x] := by
    rcases hpp with ⟨hk, hp⟩ | ⟨z, hk, hp⟩
    · exact ⟨_, _, by decide +kernel, by decide +kernel, nod_nm T, vT, told.small.1, by have := told.small.2; omega, hp⟩
    · have h3 := kind_vOk (some z)
      exact ⟨_, _, by decide +kernel, by decide +kernel, rfl, h3.1, Nat.le_trans h3.2.1 (by decide), Nat.le_trans h3.2.2 (by decide), hp⟩
  refine seq_S (fun ρ => ∃ vals : List D, vals.length ≤ 1000 ∧ (∀ w ∈ vals, vOk w) ∧ ρ = [.un, .src, .d (.list oddL), s3, .d (qD a), .d (qD b), .d (qD c), .d (qD u), .d (qD v), .d (tD BB), .d (tD T), .d (kindD kk), .d pp, .ol vals, s14, s15, s16, s17, s18, s19, s20, s21, s22]) (fun F hF => ?_) (fun ρ hρ => ?_)
  · walk_at "dl"
    repeat refine ⟨by decide, ?_⟩
    refine hF _ ⟨_, by show 6 ≤ 1000; decide, fun w hw => ?_, rfl⟩
    simp only [List.mem_cons, List.not_mem_nil, or_false] at hw
    rcases hw with rfl | rfl | rfl | rfl | rfl | rfl
    · exact vP
    · exact voff
    · exact vword (by decide +kernel)
    · exact vword (by decide +kernel)
    · exact vword (by decide +kernel)
    · exact vword (by decide +kernel)
  obtain ⟨vals, hl, hv, rfl⟩ := hρ
  refine seq_S (fun ρ => ∃ vals : List D, vals.length ≤ 1006 ∧ (∀ w ∈ vals, vOk w) ∧ ρ = [.un, .src, .d (.list oddL), s3, .d (qD a), .d (qD b), .d (qD c), .d (qD u), .d (qD v), .d (tD BB), .d (tD T), .d (kindD kk), .d pp, .ol vals, s14, s15, s16, s17, s18, s19, s20, s21, s22]) (fun F hF => ?_) (fun ρ hρ => ?_)
  · obtain ⟨s, x, hs1, hs2, hx1, hx2, hx3, hx4, rfl⟩ := hpx
    walk_at "dl"
    repeat refine ⟨by decide, ?_⟩
    refine ⟨by omega, hF _ ⟨_, ?_, fun w hw => ?_, rfl⟩⟩
    · rw [List.length_append]
      show vals.length + 6 ≤ 1006
      omega
    rcases List.mem_append.mp hw with hw | hw
    · exact hv w hw
    simp only [List.mem_cons, List.not_mem_nil, or_false] at hw
    have n1 : nod (.str s) = true := rfl
    have d1 : (PyData.str s).depth ≤ 1 := Nat.zero_le _
    have hxl := hx2.lf
    rcases hw with rfl | rfl | rfl | rfl | rfl | rfl
    · refine vlist (by simp only [nodA, n1, hx1, Bool.and_self]) (by simp only [lfA, hs1, hxl, Bool.and_self]) ?_ ?_
      · simp only [PyData.bulkAll]; omega
      · simp only [PyData.depthAll]; omega
    · refine vtup (.inl (by show nodA [x, .str s] = true; simp only [nodA, n1, hx1, Bool.and_self])) (by show lfA [x, .str s] = true; simp only [lfA, hs1, hxl, Bool.and_self]) ?_ ?_
      · show PyData.bulkAll [x, .str s] ≤ _
        simp only [PyData.bulkAll]; omega
      · show PyData.depthAll [x, .str s] ≤ _
        simp only [PyData.depthAll]; omega
    · have i1 : nod (.int 0) = true := rfl
      have i2 : lf (.int 0) = true := by decide +kernel
      have i3 : (PyData.int 0).bulk = 0 := rfl
      have i4 : (PyData.int 0).depth = 0 := rfl
      refine vtup (.inl (by simp only [nodA, n1, hx1, i1, Bool.and_self])) (by simp only [lfA, hs1, hxl, i2, Bool.and_self]) ?_ ?_
      · simp only [PyData.bulkAll]; omega
      · simp only [PyData.depthAll]; omega
    · exact vword (by decide +kernel)
    · exact vword (by decide +kernel)
    · exact vword (by decide +kernel)
  obtain ⟨vals, hl, hv, rfl⟩ := hρ
  refine seq_S (fun ρ => ∃ vals : List D, vals.length ≤ 1008 ∧ (∀ w ∈ vals, vOk w) ∧ ρ = [.un, .src, .d (.list oddL), s3, .d (qD a), .d (qD b), .d (qD c), .d (qD u), .d (qD v), .d (tD BB), .d (tD T), .d (kindD kk), .d pp, .ol vals, s14, s15, s16, s17, s18, s19, s20, s21, s22]) (fun F hF => ?_) (fun ρ hρ => ?_)
  · walk_at "dl"
    refine ⟨by decide, by decide, by omega, hF _ ⟨_, by rw [List.length_append]; show vals.length + 2 ≤ 1008; omega, fun w hw => ?_, rfl⟩⟩
    rcases List.mem_append.mp hw with hw | hw
    · exact hv w hw
    simp only [List.mem_cons, List.not_mem_nil, or_false] at hw
    rcases hw with rfl | rfl
    · exact vword (by decide +kernel)
    · exact vword (by decide +kernel)
  obtain ⟨vals, hl, hv, rfl⟩ := hρ
  have hTn := nod_nm T
  have hTl : nol (tD T) = true := by unfold tD; simpa only [nol] using nol_nm T
  have hTs := told.small
  have hTf := vT.lf
  refine seq_S (fun ρ => ∃ vals : List D, vals.length ≤ 1012 ∧ (∀ w ∈ vals, vOk w) ∧ ρ = [.un, .src, .d (.list oddL), s3, .d (qD a), .d (qD b), .d (qD c), .d (qD u), .d (qD v), .d (tD BB), .d (tD T), .d (kindD kk), .d pp, .ol vals, s14, s15, s16, s17, s18, s19, s20, s21, s22]) (fun F hF => ?_) (fun ρ hρ => ?_)
  · walk_at "dl"
    dsimp only [tD]
    have hTT : T.length ≤ 5000 := told.1
    have hc := (cut_sub (T.map eD) none (some 1))
    have hc1 := hc.length_le
    rw [List.length_map] at hc1
    have hTn' : nodA (T.map eD) = true := by have := hTn; unfold tD at this; simpa only [nod] using this
    have hTf' : lfA (T.map eD) = true := by have := hTf; unfold tD at this; simpa only [TP.lf] using this
    have hTb : PyData.bulkAll (T.map eD) ≤ 50000 := by have := hTs.1; unfold tD at this; simpa only [PyData.bulk] using this
    have hTd : PyData.depthAll (T.map eD) ≤ 3 := by have := (sh_all T).2; omega
    obtain ⟨c1, c2, c3, c4, c5⟩ := sub_all hc
    refine ⟨by decide, by decide, by rw [List.length_map]; omega, by decide, by decide, by decide, by decide, by omega, hF _ ⟨_, by rw [List.length_append]; show vals.length + 4 ≤ 1012; omega, fun w hw => ?_, rfl⟩⟩
    rcases List.mem_append.mp hw with hw | hw
    · exact hv w hw
    simp only [List.mem_cons, List.not_mem_nil, or_false] at hw
    rcases hw with rfl | rfl | rfl | rfl
    · exact pair_vOk (x := tD T) (by decide +kernel) vT (by omega) (by omega)
    · exact pair_vOk (by decide +kernel) (vlist hTn' hTf' (by omega) (by omega)) (by simp only [PyData.bulk]; omega) (by simp only [PyData.depth]; omega)
    · refine pair_vOk (by decide +kernel) (vtup (.inl ?_) ?_ ?_ ?_) ?_ ?_
      · rw [nodA_append, hTn', c3 hTn']; rfl
      · rw [lfA_append, hTf', c5 hTf']; rfl
      · rw [bulkA_append]; omega
      · rw [depA_append]; omega
      · simp only [PyData.bulk]; rw [bulkA_append]; have := cut_one T; omega
      · simp only [PyData.depth]; rw [depA_append]; omega
    · exact vword (by decide +kernel)
  obtain ⟨vals, hl, hv, rfl⟩ := hρ
  refine seq_S (fun ρ => ∃ vals : List D, vals.length ≤ 1013 ∧ (∀ w ∈ vals, vOk w) ∧ ρ = [.un, .src, .d (.list oddL), s3, .d (qD a), .d (qD b), .d (qD c), .d (qD u), .d (qD v), .d (tD BB), .d (tD T), .d (kindD kk), .d pp, .ol vals, s14, s15, s16, s17, s18, s19, s20, s21, s22]) (fun F hF => ?_) (fun ρ hρ => ?_)
  · walk_at "dl"
    refine ⟨rfl, oddL, rfl, by decide, fun d hd => ?_⟩
    refine ⟨by decide, by omega, hF _ ⟨_, by rw [List.length_append]; show vals.length + 1 ≤ 1013; omega, fun w hw => ?_, rfl⟩⟩
    rcases List.mem_append.mp hw with hw | hw
    · exact hv w hw
    rw [List.mem_singleton] at hw
    subst hw
    obtain ⟨o1, o2, o3, o4⟩ := odd_ok.el d hd
    exact pair_vOk (by decide +kernel) ⟨o1, o2, by omega, by omega⟩ (by omega) (by omega)
  obtain ⟨vals, hl, hv, rfl⟩ := hρ
  refine seq_asgD (.tuple (T.map flagD)) (fun P hP => ?_) ?_
  · walk_at "dl"
    dsimp only [tD]
    have hTT : T.length ≤ 5000 := told.1
    refine ⟨by rw [List.length_map]; omega, ?_⟩
    refine lc_map (enc := eD) (res := flagD) _ _ [] (fun e he X q => ?_) ?_
    · dsimp only [eD]
      walk_at "dl"
      dsimp only [qD]
      have q1 : PyData.eqv (PyData.tuple [PyData.int e.2.num, PyData.int (e.2.den : Int)]) (PyData.tuple [PyData.int 1, PyData.int 1]) = decide (e.2 = 1) := eqvQ e.2 1
      rw [q1, eqvI, eqvI]
      unfold flagD at q
      refine ⟨rfl, rfl, rfl, rfl, by decide, by decide, ⟨rfl, rfl⟩, ?_⟩
      by_cases h1 : e.2 = 1
      · rw [if_pos h1] at q
        exact iteTr (decide_eq_true h1) ⟨⟨rfl, rfl⟩, ⟨rfl, rfl⟩, by decide, by decide, q⟩
      · rw [if_neg h1] at q
        exact iteFa (decide_eq_false h1) ⟨by decide, by decide, q⟩
    · exact hP
  dsimp only [List.set_cons_zero, List.set_cons_succ]
  obtain ⟨g1, g2, g3, g4⟩ := flags_ok told.2
  have hTT : T.length ≤ 5000 := told.1
  refine seq_S (fun ρ => ∃ vals : List D, vals.length ≤ 1016 ∧ (∀ w ∈ vals, vOk w) ∧ ρ = [.un, .src, .d (.list oddL), s3, .d (qD a), .d (qD b), .d (qD c), .d (qD u), .d (qD v), .d (tD BB), .d (tD T), .d (kindD kk), .d pp, .ol vals, .d (.tuple (T.map flagD)), s15, s16, s17, s18, s19, s20, s21, s22]) (fun F hF => ?_) (fun ρ hρ => ?_)
  · walk_at "dl"
    refine ⟨by decide, rfl, oddL, rfl, by decide, fun d hd => ?_⟩
    refine ⟨by decide, by decide, by decide, by decide, by decide, by decide, by decide, by omega, hF _ ⟨_, by rw [List.length_append]; show vals.length + 3 ≤ 1016; omega, fun w hw => ?_, rfl⟩⟩
    rcases List.mem_append.mp hw with hw | hw
    · exact hv w hw
    simp only [List.mem_cons, List.not_mem_nil, or_false] at hw
    rcases hw with rfl | rfl | rfl
    · exact pair_vOk (by decide +kernel) (vtup (.inl g1) g2 (by omega) (by omega)) (by simp only [PyData.bulk]; omega) (by simp only [PyData.depth]; omega)
    · obtain ⟨o1, o2, o3, o4⟩ := odd_ok.el d hd
      refine vtup ?_ (by simp only [lfA, o2, hTf, Bool.and_self]) ?_ ?_
      · rcases o1 with o | o
        · exact .inl (by simp only [nodA, o, hTn, Bool.and_self])
        · exact .inr (by simp only [nolA, o, hTl, Bool.and_self])
      · simp only [PyData.bulkAll]; omega
      · simp only [PyData.depthAll]; omega
    · exact vword (by decide +kernel)
  obtain ⟨vals, hl, hv, rfl⟩ := hρ
  have ei : ∀ n : Nat, rngD 0 n = (List.range n).map fun (i : Nat) => PyData.int (0 + (i : Int)) := fun _ => rfl
  have hbin : bIn 20 (.tuple [.str "off", tD T]) := by
    refine ⟨?_, ?_, ?_, voff.lf, ?_, ?_, ?_⟩
    · simp only [PyData.depth, PyData.depthAll]; omega
    · simp only [nod, nodA, hTn, Bool.and_self]
    · simp only [nol, nolA, hTl, Bool.and_self]
    · simp only [sm, smA, Bool.and_true, Bool.true_and]
      exact sm_nm told.2
    · have : (PyData.str "off").bulk ≤ 10 := by decide +kernel
      have b7 := bulk7 T
      have : (tD T).bulk = PyData.bulkAll (T.map eD) := rfl
      show PyData.bulkAll [PyData.str "off", tD T] ≤ 40000
      simp only [PyData.bulkAll]
      omega
    · simp only [PyData.depth, PyData.depthAll]; omega
  dsimp only [sFor]
  walk_at "dl"
  refine ⟨⟨by decide, by decide⟩, by decide, ?_⟩
  rw [show (4 : Int).toNat = 4 from rfl, ei]
  refine lc_S (I := vOk) _ _ [] (fun i hi X hX => ?_) fun ys hy hI => ?_
  · walk_at "dl"
    refine ⟨by decide, rfl, (.tuple [.str "off", tD T], oddL), rfl, ⟨hbin, odd_ok⟩, fun d hd => hX d ?_⟩
    have := hbin.bulk
    have := hbin.dep
    exact ⟨hd.dc, hd.lf, by have := hd.bulk; dsimp only at this; omega, by have := hd.dep; dsimp only at this; omega⟩
  · rw [List.nil_append]
    rw [List.length_range] at hy
    refine ⟨by omega, ?_⟩
    have hall : ∀ w ∈ vals ++ ys, vOk w := fun w hw => (List.mem_append.mp hw).elim (hv w) (hI w)
    have := val_loop { nx := W, ct := W, bk := E.nx, rt := E.rt } (.list oddL) hf s3 (.d (tD BB)) (.ol vals) (.d (.tuple (T.map flagD))) s15 s16 s17 s19 (vals ++ ys) s18 s20 s21 s22 hall
    rw [hT, hK, hPp] at this
    exact this fun s18 s20 s21 s22 => k _ _ _ _ _ _ _ _ _ _ _ _ _ _ _ _ _ _ _ _
end TP
/-! P14: the law of k60, behind its first statement. -/
namespace TP
open PySem PySem.Spec L2 DL
open PyProof.Rows hiding St
local macro_rules | `(tactic| walk_at "dl") => `(tactic| dsimp only [sSeq, sPar, sPar3, sParL, sParB, sParD, sNext, sRet, sRetN, sIf, sAsg, sAsgO, ownD, sFz, fz, sAppend, sAppendLL, sNewLL, sExtend, sPut, sNewD, sDispT, psNil, psCons, endE,
  aCons, aNil, aStar, dVar, wVar, rVar, dC, dOp, dUn, dIf, dAnd, dOr, dNot, dTup, dLst, dCB, dCall, dLc, dSl, dRepr, dIsi, dGet, dGet2, dSortD, pNo, pSo, sD, sB, sVar, iSeq, iSeqC, iRg1, iRg2, ieOf, ieP,
  bT, bTru, bAnd, bOr, bNot, bYes, gtName, gtTup, gtCons, gtNil, kTru, kI, kI1, kI2, kInt, kLen, kSub, kMul, kDiv, kMod, kLt, kLe, kGt, kGe, kEq, kNe, kAdd, kCat, kIn, kNotIn, kIsN, kNotN, kIx, kIxS, kNeg, kTupO, kLst, kRev, kRevL, kSl, kSlL, kMinL, kEqS, kNeS, kInS, sNewLL,
  wipeE, List.getElem?_cons_zero, List.getElem?_cons_succ, List.set_cons_zero, List.set_cons_succ, List.length_cons, List.length_nil, List.cons_append, List.nil_append, List.replicate_succ, List.replicate_zero, Nat.sub_self, List.append_nil])


theorem lap_loop (E : PEn) (k : ∀ s3 s4 s5 s6 s7 s8 s9 s10 s11 s12 s13 s14 s15 s16 s17 s18 s19 s20 s21 s22 : Slot, E.nx [.un, .src, .d (.list oddL), s3, s4, s5, s6, s7, s8, s9, s10, s11, s12, s13, s14, s15, s16, s17, s18, s19, s20, s21, s22]) :
    ∀ (ds : List D) (s3 s4 s5 s6 s7 s8 s9 s10 s11 s12 s13 s14 s15 s16 s17 s18 s19 s20 s21 s22 : Slot), forD (gtName 3) lapB E ds [.un, .src, .d (.list oddL), s3, s4, s5, s6, s7, s8, s9, s10, s11, s12, s13, s14, s15, s16, s17, s18, s19, s20, s21, s22]
  | [], s3, s4, s5, s6, s7, s8, s9, s10, s11, s12, s13, s14, s15, s16, s17, s18, s19, s20, s21, s22 => k _ _ _ _ _ _ _ _ _ _ _ _ _ _ _ _ _ _ _ _
  | d :: ds, s3, s4, s5, s6, s7, s8, s9, s10, s11, s12, s13, s14, s15, s16, s17, s18, s19, s20, s21, s22 => by
    unfold forD
    have ih := lap_loop E k ds
    generalize forD (gtName 3) lapB E ds = W at *
    dsimp only [gtName, List.set_cons_zero, List.set_cons_succ]
    exact lap_ok E W _ _ _ _ _ _ _ _ _ _ _ _ _ _ _ _ _ _ _ _ ih
theorem last_due : dueD (pairNum 1 1 (mkRat 1 2) (mkRat 1 10) (mkRat 3 10)) (kindD (kindOf 1 1 (mkRat 1 2) (mkRat 1 10) (mkRat 3 10))) (.tuple [.str "fits", .str "five"]) = .none := by
  have h1 : pairNum 1 1 (mkRat 1 2) (mkRat 1 10) (mkRat 3 10) = [] := by decide +kernel
  have h2 : kindOf 1 1 (mkRat 1 2) (mkRat 1 10) (mkRat 3 10) = some .five := by decide +kernel
  rw [h1, h2]
  unfold dueD
  dsimp only
  rw [if_neg (by decide +kernel), if_pos ⟨rfl, by decide +kernel⟩]
  unfold dueFit
  rw [if_neg (fun z => z rfl), if_pos (by decide +kernel)]
theorem law_body (Q : D → Prop) (k : Q (.bool true)) : T_law (endE Q) [.un, .src, .un, .un, .un, .un, .un, .un, .un, .un, .un, .un, .un, .un, .un, .un, .un, .un, .un, .un, .un, .un, .un] := by
  unfold T_law
  refine seq_asgD (.list oddL) (fun P hP => ?_) ?_
  · walk_at "dl"
    repeat refine ⟨by decide, ?_⟩
    exact hP
  dsimp only [List.set_cons_zero, List.set_cons_succ]
  refine seq_S (fun ρ => ∃ s3 s4 s5 s6 s7 s8 s9 s10 s11 s12 s13 s14 s15 s16 s17 s18 s19 s20 s21 s22 : Slot, ρ = [.un, .src, .d (.list oddL), s3, s4, s5, s6, s7, s8, s9, s10, s11, s12, s13, s14, s15, s16, s17, s18, s19, s20, s21, s22]) (fun F hF => ?_) (fun ρ hρ => ?_)
  · dsimp only [sFor]
    walk_at "dl"
    refine ⟨⟨by decide, by decide⟩, ?_⟩
    exact lap_loop _ (fun s3 s4 s5 s6 s7 s8 s9 s10 s11 s12 s13 s14 s15 s16 s17 s18 s19 s20 s21 s22 => hF _ ⟨_, _, _, _, _, _, _, _, _, _, _, _, _, _, _, _, _, _, _, _, rfl⟩) _ _ _ _ _ _ _ _ _ _ _ _ _ _ _ _ _ _ _ _ _
  obtain ⟨s3, s4, s5, s6, s7, s8, s9, s10, s11, s12, s13, s14, s15, s16, s17, s18, s19, s20, s21, s22, rfl⟩ := hρ
  walk_at "dl"
  have hdr : drawn 1 1 (mkRat 1 2) (mkRat 1 10) (mkRat 3 10) := by
    have := drawn.five (a := 1) (b := 1) (c := mkRat 1 2) (u := mkRat 1 10) (v := mkRat 3 10) (by decide +kernel) (by decide +kernel) (by decide +kernel) (by decide +kernel)
    rw [if_pos rfl] at this
    exact this
  repeat refine ⟨by decide, ?_⟩
  refine ⟨((1, 1, mkRat 1 2, mkRat 1 10, mkRat 3 10), .tuple [.str "fits", .str "five"]), rfl, ⟨okIn60 hdr, vword (by decide +kernel)⟩, fun d hd => ?_⟩
  dsimp only at hd
  rw [last_due] at hd
  subst hd
  exact k
end TP
/-! W60: the walks of k60 (printed by emit.py). -/
namespace K60
open PySem PySem.Spec L2 DL TP
open PyProof.Rows hiding St
set_option maxHeartbeats 1000000
def topS (i : Nat) : Stmt := PySem.Challenge.pw_turnsthatfit_k60_pair_papers_judged.main.body.getD i (.Pass ⟨0, 0, 0, 0⟩)
abbrev st_common_divisor : Stmt := topS 1
abbrev N_common_divisor : List Str := ["a", "b"]
theorem sc_common_divisor : FnScope N_common_divisor ["a", "b"] (defScope st_common_divisor) := ⟨rfl, rfl, rfl, by decide +kernel, rfl, by decide +kernel, by decide +kernel⟩
theorem wk_common_divisor {P : Program} {w : World} {K : PySem.W.Frag} {mg : Str → Option Value} {base : Heap} (m_abs : mg "abs" = none) : WkT P w K mg base 0 N_common_divisor "common_divisor" st_common_divisor T_common_divisor := by
  intro f cdv A outer s H hr gd
  have nd := sc_common_divisor.nd
  exact ⟨_, (dss_cons (ds_par 0 1 rfl nd (da_cons (de_abs m_abs (da_consR (DE.r (de_var 0)) da_nil)) (da_cons (de_abs m_abs (da_consR (DE.r (de_var 1)) da_nil)) da_nil)))
  (dss_cons (ds_while PassesOwn.never (dt_gt (DE.r (de_var 1)) (DE.r de_int))
  (dss_one (ds_par 0 1 rfl nd (da_cons (de_var 1) (da_cons (de_mod (DE.r (de_var 0)) (DE.r (de_var 1))) da_nil)))))
  (dss_one (ds_ret (de_var 0)))))⟩
abbrev st_fraction_of : Stmt := topS 2
abbrev N_fraction_of : List Str := ["p", "q", "by"]
theorem sc_fraction_of : FnScope N_fraction_of ["p", "q"] (defScope st_fraction_of) := ⟨rfl, rfl, rfl, by decide +kernel, rfl, by decide +kernel, by decide +kernel⟩
theorem wk_fraction_of {P : Program} {w : World} {K : PySem.W.Frag} {mg : Str → Option Value} {base : Heap} (c_common_divisor : DCal P w K mg base 1 "common_divisor" (spG K 2 R_common_divisor)) : WkT P w K mg base 1 N_fraction_of "fraction_of" st_fraction_of T_fraction_of := by
  intro f cdv A outer s H hr gd
  have nd := sc_fraction_of.nd
  exact ⟨_, (dss_cons (ds_set 2 nd (de_if (dt_gt (DE.r (de_var 1)) (DE.r de_int)) (de_call c_common_divisor mono_common_divisor hr (by decide) gd (da_d (de_var 0) (da_d (de_var 1) da_nil))) (de_neg (DE.r (de_call c_common_divisor mono_common_divisor hr (by decide) gd (da_d (de_var 0) (da_d (de_var 1) da_nil)))))))
  (dss_one (ds_ret (de_tup (da_cons (de_fdiv (DE.r (de_var 0)) (DE.r (de_var 2))) (da_cons (de_fdiv (DE.r (de_var 1)) (DE.r (de_var 2))) da_nil))))))⟩
abbrev st_fraction_sum : Stmt := topS 3
abbrev N_fraction_sum : List Str := ["x", "y"]
theorem sc_fraction_sum : FnScope N_fraction_sum ["x", "y"] (defScope st_fraction_sum) := ⟨rfl, rfl, rfl, by decide +kernel, rfl, by decide +kernel, by decide +kernel⟩
theorem wk_fraction_sum {P : Program} {w : World} {K : PySem.W.Frag} {mg : Str → Option Value} {base : Heap} (c_fraction_of : DCal P w K mg base 2 "fraction_of" (spG K 2 R_fraction_of)) : WkT P w K mg base 2 N_fraction_sum "fraction_sum" st_fraction_sum T_fraction_sum := by
  intro f cdv A outer s H hr gd
  have nd := sc_fraction_sum.nd
  exact ⟨_, (dss_one (ds_ret (de_call c_fraction_of mono_fraction_of hr (by decide) gd (da_d (de_add (DE.w (de_mul (DE.r (de_ixS (dr_var 0) (DE.r de_int))) (DE.r (de_ixS (dr_var 1) (DE.r de_int))))) (DE.w (de_mul (DE.r (de_ixS (dr_var 1) (DE.r de_int))) (DE.r (de_ixS (dr_var 0) (DE.r de_int)))))) (da_d (de_mul (DE.r (de_ixS (dr_var 0) (DE.r de_int))) (DE.r (de_ixS (dr_var 1) (DE.r de_int)))) da_nil)))))⟩
abbrev st_fraction_times : Stmt := topS 4
abbrev N_fraction_times : List Str := ["x", "y"]
theorem sc_fraction_times : FnScope N_fraction_times ["x", "y"] (defScope st_fraction_times) := ⟨rfl, rfl, rfl, by decide +kernel, rfl, by decide +kernel, by decide +kernel⟩
theorem wk_fraction_times {P : Program} {w : World} {K : PySem.W.Frag} {mg : Str → Option Value} {base : Heap} (c_fraction_of : DCal P w K mg base 2 "fraction_of" (spG K 2 R_fraction_of)) : WkT P w K mg base 2 N_fraction_times "fraction_times" st_fraction_times T_fraction_times := by
  intro f cdv A outer s H hr gd
  have nd := sc_fraction_times.nd
  exact ⟨_, (dss_one (ds_ret (de_call c_fraction_of mono_fraction_of hr (by decide) gd (da_d (de_mul (DE.r (de_ixS (dr_var 0) (DE.r de_int))) (DE.r (de_ixS (dr_var 1) (DE.r de_int)))) (da_d (de_mul (DE.r (de_ixS (dr_var 0) (DE.r de_int))) (DE.r (de_ixS (dr_var 1) (DE.r de_int)))) da_nil)))))⟩
abbrev st_fraction_turned : Stmt := topS 5
abbrev N_fraction_turned : List Str := ["x"]
theorem sc_fraction_turned : FnScope N_fraction_turned ["x"] (defScope st_fraction_turned) := ⟨rfl, rfl, rfl, by decide +kernel, rfl, by decide +kernel, by decide +kernel⟩
theorem wk_fraction_turned {P : Program} {w : World} {K : PySem.W.Frag} {mg : Str → Option Value} {base : Heap} : WkT P w K mg base 0 N_fraction_turned "fraction_turned" st_fraction_turned T_fraction_turned := by
  intro f cdv A outer s H hr gd
  have nd := sc_fraction_turned.nd
  exact ⟨_, (dss_one (ds_ret (de_tup (da_cons (de_neg (DE.r (de_ix (DE.w (de_var 0)) (DE.w de_int)))) (da_cons (de_ix (DE.w (de_var 0)) (DE.w de_int)) da_nil)))))⟩
abbrev st_part_of : Stmt := topS 6
abbrev N_part_of : List Str := ["p", "q", "top", "bottom"]
theorem sc_part_of : FnScope N_part_of ["p", "q"] (defScope st_part_of) := ⟨rfl, rfl, rfl, by decide +kernel, rfl, by decide +kernel, by decide +kernel⟩
theorem wk_part_of {P : Program} {w : World} {K : PySem.W.Frag} {mg : Str → Option Value} {base : Heap} (c_fraction_of : DCal P w K mg base 2 "fraction_of" (spG K 2 R_fraction_of)) : WkT P w K mg base 2 N_part_of "part_of" st_part_of T_part_of := by
  intro f cdv A outer s H hr gd
  have nd := sc_part_of.nd
  exact ⟨_, (dss_cons (ds_asg (de_call c_fraction_of mono_fraction_of hr (by decide) gd (da_d (de_var 0) (da_d (de_var 1) da_nil))) (dg_tup rfl (dgs_cons (dg_name 2 nd) (dgs_cons (dg_name 3 nd) dgs_nil))))
  (dss_one (ds_ret (de_call c_fraction_of mono_fraction_of hr (by decide) gd (da_d (de_mod (DE.r (de_var 2)) (DE.r (de_var 3))) (da_d (de_var 3) da_nil))))))⟩
abbrev st_part_sum : Stmt := topS 7
abbrev N_part_sum : List Str := ["one", "other"]
theorem sc_part_sum : FnScope N_part_sum ["one", "other"] (defScope st_part_sum) := ⟨rfl, rfl, rfl, by decide +kernel, rfl, by decide +kernel, by decide +kernel⟩
theorem wk_part_sum {P : Program} {w : World} {K : PySem.W.Frag} {mg : Str → Option Value} {base : Heap} (c_part_of : DCal P w K mg base 3 "part_of" (spG K 2 R_part_of)) : WkT P w K mg base 3 N_part_sum "part_sum" st_part_sum T_part_sum := by
  intro f cdv A outer s H hr gd
  have nd := sc_part_sum.nd
  exact ⟨_, (dss_one (ds_ret (de_call c_part_of mono_part_of hr (by decide) gd (da_d (de_add (DE.w (de_mul (DE.r (de_ix (DE.w (de_var 0)) (DE.w de_int))) (DE.r (de_ix (DE.w (de_var 1)) (DE.w de_int))))) (DE.w (de_mul (DE.r (de_ix (DE.w (de_var 1)) (DE.w de_int))) (DE.r (de_ix (DE.w (de_var 0)) (DE.w de_int)))))) (da_d (de_mul (DE.r (de_ix (DE.w (de_var 0)) (DE.w de_int))) (DE.r (de_ix (DE.w (de_var 1)) (DE.w de_int)))) da_nil)))))⟩
abbrev st_part_turned : Stmt := topS 8
abbrev N_part_turned : List Str := ["part"]
theorem sc_part_turned : FnScope N_part_turned ["part"] (defScope st_part_turned) := ⟨rfl, rfl, rfl, by decide +kernel, rfl, by decide +kernel, by decide +kernel⟩
theorem wk_part_turned {P : Program} {w : World} {K : PySem.W.Frag} {mg : Str → Option Value} {base : Heap} (c_part_of : DCal P w K mg base 3 "part_of" (spG K 2 R_part_of)) : WkT P w K mg base 3 N_part_turned "part_turned" st_part_turned T_part_turned := by
  intro f cdv A outer s H hr gd
  have nd := sc_part_turned.nd
  exact ⟨_, (dss_one (ds_ret (de_call c_part_of mono_part_of hr (by decide) gd (da_d (de_neg (DE.r (de_ix (DE.w (de_var 0)) (DE.w de_int)))) (da_d (de_ix (DE.w (de_var 0)) (DE.w de_int)) da_nil)))))⟩
abbrev st_primes_of : Stmt := topS 9
abbrev N_primes_of : List Str := ["q", "found", "p"]
theorem sc_primes_of : FnScope N_primes_of ["q"] (defScope st_primes_of) := ⟨rfl, rfl, rfl, by decide +kernel, rfl, by decide +kernel, by decide +kernel⟩
theorem wk_primes_of {P : Program} {w : World} {K : PySem.W.Frag} {mg : Str → Option Value} {base : Heap} (m_tuple : mg "tuple" = none) : WkT P w K mg base 0 N_primes_of "primes_of" st_primes_of T_primes_of := by
  intro f cdv A outer s H hr gd
  have nd := sc_primes_of.nd
  exact ⟨_, (dss_cons (ds_parL 1 2 rfl nd (df_lst da_nil) de_int)
  (dss_cons (ds_while PassesOwn.never (dt_le (DE.r (de_mul (DE.r (de_var 2)) (DE.r (de_var 2)))) (DE.r (de_var 0)))
  (dss_cons (ds_if (dt_eq hr (DE.r (de_mod (DE.r (de_var 0)) (DE.r (de_var 2)))) (DE.r de_int)) (dss_cons (ds_append 1 (de_var 2))
  (dss_one (ds_while PassesOwn.never (dt_eq hr (DE.r (de_mod (DE.r (de_var 0)) (DE.r (de_var 2)))) (DE.r de_int))
  (dss_one (ds_set 0 nd (de_fdiv (DE.r (de_var 0)) (DE.r (de_var 2)))))))) dss_nil)
  (dss_one (ds_set 2 nd (de_add (DE.w (de_var 2)) (DE.w de_int))))))
  (dss_fz 1 (dss_one (ds_ret (de_tuple m_tuple (DE.w (de_if (dt_gt (DE.r (de_var 0)) (DE.r de_int)) (DF.d (df_lst (da_star (DE.w (de_var 1)) (da_cons (de_var 0) da_nil)))) (de_var 1)))))))))⟩
abbrev st_inverse_by : Stmt := topS 10
abbrev N_inverse_by : List Str := ["a", "m", "one", "other", "u", "v", "by"]
theorem sc_inverse_by : FnScope N_inverse_by ["a", "m"] (defScope st_inverse_by) := ⟨rfl, rfl, rfl, by decide +kernel, rfl, by decide +kernel, by decide +kernel⟩
theorem wk_inverse_by {P : Program} {w : World} {K : PySem.W.Frag} {mg : Str → Option Value} {base : Heap} : WkT P w K mg base 0 N_inverse_by "inverse_by" st_inverse_by T_inverse_by := by
  intro f cdv A outer s H hr gd
  have nd := sc_inverse_by.nd
  exact ⟨_, (dss_cons (ds_asg (de_tup (da_cons (de_mod (DE.r (de_var 0)) (DE.r (de_var 1))) (da_cons (de_var 1) (da_cons de_int (da_cons de_int da_nil))))) (dg_tup rfl (dgs_cons (dg_name 2 nd) (dgs_cons (dg_name 3 nd) (dgs_cons (dg_name 4 nd) (dgs_cons (dg_name 5 nd) dgs_nil))))))
  (dss_cons (ds_while PassesOwn.never (dt_gt (DE.r (de_var 3)) (DE.r de_int))
  (dss_cons (ds_set 6 nd (de_fdiv (DE.r (de_var 2)) (DE.r (de_var 3))))
  (dss_one (ds_asg (de_tup (da_cons (de_var 3) (da_cons (de_sub (DE.r (de_var 2)) (DE.r (de_mul (DE.r (de_var 6)) (DE.r (de_var 3))))) (da_cons (de_var 5) (da_cons (de_sub (DE.r (de_var 4)) (DE.r (de_mul (DE.r (de_var 6)) (DE.r (de_var 5))))) da_nil))))) (dg_tup rfl (dgs_cons (dg_name 2 nd) (dgs_cons (dg_name 3 nd) (dgs_cons (dg_name 4 nd) (dgs_cons (dg_name 5 nd) dgs_nil)))))))))
  (dss_one (ds_ret (de_mod (DE.r (de_var 4)) (DE.r (de_var 1)))))))⟩
abbrev st_prime_part : Stmt := topS 11
abbrev N_prime_part : List Str := ["part", "p", "rest", "power"]
theorem sc_prime_part : FnScope N_prime_part ["part", "p"] (defScope st_prime_part) := ⟨rfl, rfl, rfl, by decide +kernel, rfl, by decide +kernel, by decide +kernel⟩
theorem wk_prime_part {P : Program} {w : World} {K : PySem.W.Frag} {mg : Str → Option Value} {base : Heap} (c_part_of : DCal P w K mg base 3 "part_of" (spG K 2 R_part_of)) (c_inverse_by : DCal P w K mg base 1 "inverse_by" (spG K 2 R_inverse_by)) : WkT P w K mg base 3 N_prime_part "prime_part" st_prime_part T_prime_part := by
  intro f cdv A outer s H hr gd
  have nd := sc_prime_part.nd
  exact ⟨_, (dss_cons (ds_par 2 3 rfl nd (da_cons (de_ix (DE.w (de_var 0)) (DE.w de_int)) (da_cons de_int da_nil)))
  (dss_cons (ds_while PassesOwn.never (dt_eq hr (DE.r (de_mod (DE.r (de_var 2)) (DE.r (de_var 1)))) (DE.r de_int))
  (dss_one (ds_par 2 3 rfl nd (da_cons (de_fdiv (DE.r (de_var 2)) (DE.r (de_var 1))) (da_cons (de_mul (DE.r (de_var 3)) (DE.r (de_var 1))) da_nil)))))
  (dss_one (ds_ret (de_call c_part_of mono_part_of hr (by decide) gd (da_d (de_mul (DE.r (de_ix (DE.w (de_var 0)) (DE.w de_int))) (DE.r (de_call c_inverse_by mono_inverse_by hr (by decide) gd (da_d (de_var 2) (da_d (de_var 3) da_nil))))) (da_d (de_var 3) da_nil)))))))⟩
abbrev st_loose_primes : Stmt := topS 12
abbrev N_loose_primes : List Str := ["part", "found", "p", "top", "bottom"]
theorem sc_loose_primes : FnScope N_loose_primes ["part"] (defScope st_loose_primes) := ⟨rfl, rfl, rfl, by decide +kernel, rfl, by decide +kernel, by decide +kernel⟩
theorem wk_loose_primes {P : Program} {w : World} {K : PySem.W.Frag} {mg : Str → Option Value} {base : Heap} (c_primes_of : DCal P w K mg base 1 "primes_of" (spG K 1 R_primes_of)) (c_prime_part : DCal P w K mg base 4 "prime_part" (spG K 2 R_prime_part)) : WkT P w K mg base 4 N_loose_primes "loose_primes" st_loose_primes T_loose_primes := by
  intro f cdv A outer s H hr gd
  have nd := sc_loose_primes.nd
  exact ⟨_, (dss_cons (ds_setO 1 nd (df_lst da_nil))
  (dss_cons (ds_for PassesOwn.never rfl (di_e (di_seq (de_call c_primes_of mono_primes_of hr (by decide) gd (da_d (de_ix (DE.w (de_var 0)) (DE.w de_int)) da_nil)))) (dg_name 2 nd)
  (dss_cons (ds_asg (de_call c_prime_part mono_prime_part hr (by decide) gd (da_d (de_var 0) (da_d (de_var 2) da_nil))) (dg_tup rfl (dgs_cons (dg_name 3 nd) (dgs_cons (dg_name 4 nd) dgs_nil))))
  (dss_one (ds_if (dt_ge (DE.r (de_mul (DE.r (de_var 3)) (DE.r (de_var 2)))) (DE.r (de_mul (DE.r (de_sub (DE.r (de_var 2)) (DE.r de_int))) (DE.r (de_var 4))))) (dss_one (ds_append 1 (de_var 2))) dss_nil))))
  (dss_fz 1 (dss_one (ds_ret (de_var 1))))))⟩
abbrev st_parts_round : Stmt := topS 13
abbrev N_parts_round : List Str := ["part", "p", "k"]
theorem sc_parts_round : FnScope N_parts_round ["part", "p"] (defScope st_parts_round) := ⟨rfl, rfl, rfl, by decide +kernel, rfl, by decide +kernel, by decide +kernel⟩
theorem wk_parts_round {P : Program} {w : World} {K : PySem.W.Frag} {mg : Str → Option Value} {base : Heap} (m_range : mg "range" = none) (c_part_sum : DCal P w K mg base 4 "part_sum" (spG K 2 R_part_sum)) (c_part_of : DCal P w K mg base 3 "part_of" (spG K 2 R_part_of)) : WkT P w K mg base 4 N_parts_round "parts_round" st_parts_round T_parts_round := by
  intro f cdv A outer s H hr gd
  have nd := sc_parts_round.nd
  exact ⟨_, (dss_one (ds_ret (DF.d (df_lc [("k", 2)] rfl nd (di_rng2 m_range (da_consR (DE.r de_int) (da_consR (DE.r (de_var 1)) da_nil))) (blkOk_by (N := N_parts_round) (sc := defScope st_parts_round) (by decide +kernel)) (fun _ _ _ _ _ => (dg_name 2 nd)) (fun _ _ _ _ _ => dts_nil) (fun _ _ _ _ _ => (de_call c_part_sum mono_part_sum hr (by decide) gd (da_d (de_var 0) (da_d (de_call c_part_of mono_part_of hr (by decide) gd (da_d (de_var 2) (da_d (de_var 1) da_nil))) da_nil)))) s H))))⟩
abbrev st_cosine_fraction : Stmt := topS 16
abbrev N_cosine_fraction : List Str := ["part"]
theorem sc_cosine_fraction : FnScope N_cosine_fraction ["part"] (defScope st_cosine_fraction) := ⟨rfl, rfl, rfl, by decide +kernel, rfl, by decide +kernel, by decide +kernel⟩
abbrev st_pair_sum : Stmt := topS 17
abbrev N_pair_sum : List Str := ["a", "b", "x", "y"]
theorem sc_pair_sum : FnScope N_pair_sum ["a", "b", "x", "y"] (defScope st_pair_sum) := ⟨rfl, rfl, rfl, by decide +kernel, rfl, by decide +kernel, by decide +kernel⟩
theorem wk_pair_sum {P : Program} {w : World} {K : PySem.W.Frag} {mg : Str → Option Value} {base : Heap} (c_fraction_sum : DCal P w K mg base 3 "fraction_sum" (spG K 2 R_fraction_sum)) (c_fraction_times : DCal P w K mg base 3 "fraction_times" (spG K 2 R_fraction_times)) : WkT P w K mg base 3 N_pair_sum "pair_sum" st_pair_sum T_pair_sum := by
  intro f cdv A outer s H hr gd
  have nd := sc_pair_sum.nd
  exact ⟨_, (dss_one (ds_ret (de_call c_fraction_sum mono_fraction_sum hr (by decide) gd (da_b (DE.r (de_call c_fraction_times mono_fraction_times hr (by decide) gd (da_b (DE.r (de_var 0)) (da_b (dr_var 2) da_nil)))) (da_b (DE.r (de_call c_fraction_times mono_fraction_times hr (by decide) gd (da_b (DE.r (de_var 1)) (da_b (dr_var 3) da_nil)))) da_nil)))))⟩
abbrev st_is_line_pair : Stmt := topS 18
abbrev N_is_line_pair : List Str := ["a", "b", "u", "v"]
theorem sc_is_line_pair : FnScope N_is_line_pair ["a", "b", "u", "v"] (defScope st_is_line_pair) := ⟨rfl, rfl, rfl, by decide +kernel, rfl, by decide +kernel, by decide +kernel⟩
theorem wk_is_line_pair {P : Program} {w : World} {K : PySem.W.Frag} {mg : Str → Option Value} {base : Heap} (c_fraction_turned : DCal P w K mg base 1 "fraction_turned" (spG K 1 R_fraction_turned)) (c_part_turned : DCal P w K mg base 4 "part_turned" (spG K 1 R_part_turned)) (c_part_sum : DCal P w K mg base 4 "part_sum" (spG K 2 R_part_sum)) : WkT P w K mg base 4 N_is_line_pair "is_line_pair" st_is_line_pair T_is_line_pair := by
  intro f cdv A outer s H hr gd
  have nd := sc_is_line_pair.nd
  exact ⟨_, (dss_cons (ds_if (dt_eq hr (DE.r (de_var 1)) (DE.r (de_call c_fraction_turned mono_fraction_turned hr (by decide) gd (da_d (de_var 0) da_nil)))) (dss_one (ds_ret (de_in hr (DE.r (de_var 3)) (DE.r (de_tup (da_cons (de_var 2) (da_cons (de_call c_part_turned mono_part_turned hr (by decide) gd (da_d (de_var 2) da_nil)) da_nil))))))) dss_nil)
  (dss_one (ds_ret (de_andV (de_eq hr (DE.r (de_var 1)) (DE.r (de_var 0))) (de_one (de_in hr (DE.r (de_call c_part_sum mono_part_sum hr (by decide) gd (da_d (de_var 3) (da_d (de_tup (da_cons de_int (da_cons de_int da_nil))) da_nil)))) (DE.r (de_tup (da_cons (de_var 2) (da_cons (de_call c_part_turned mono_part_turned hr (by decide) gd (da_d (de_var 2) da_nil)) da_nil))))))))))⟩
abbrev st_folded_part : Stmt := topS 19
abbrev N_folded_part : List Str := ["part"]
theorem sc_folded_part : FnScope N_folded_part ["part"] (defScope st_folded_part) := ⟨rfl, rfl, rfl, by decide +kernel, rfl, by decide +kernel, by decide +kernel⟩
theorem wk_folded_part {P : Program} {w : World} {K : PySem.W.Frag} {mg : Str → Option Value} {base : Heap} (c_part_turned : DCal P w K mg base 4 "part_turned" (spG K 1 R_part_turned)) : WkT P w K mg base 4 N_folded_part "folded_part" st_folded_part T_folded_part := by
  intro f cdv A outer s H hr gd
  have nd := sc_folded_part.nd
  exact ⟨_, (dss_one (ds_ret (de_if (dt_le (DE.r (de_mul (DE.r de_int) (DE.r (de_ix (DE.w (de_var 0)) (DE.w de_int))))) (DE.r (de_ix (DE.w (de_var 0)) (DE.w de_int)))) (de_var 0) (de_call c_part_turned mono_part_turned hr (by decide) gd (da_d (de_var 0) da_nil)))))⟩
abbrev st_is_five_pair : Stmt := topS 20
abbrev N_is_five_pair : List Str := ["a", "b", "c", "u", "v", "both"]
theorem sc_is_five_pair : FnScope N_is_five_pair ["a", "b", "c", "u", "v"] (defScope st_is_five_pair) := ⟨rfl, rfl, rfl, by decide +kernel, rfl, by decide +kernel, by decide +kernel⟩
theorem wk_is_five_pair {P : Program} {w : World} {K : PySem.W.Frag} {mg : Str → Option Value} {base : Heap} (m_sorted : mg "sorted" = none) (c_fraction_turned : DCal P w K mg base 1 "fraction_turned" (spG K 1 R_fraction_turned)) (c_folded_part : DCal P w K mg base 5 "folded_part" (spG K 1 R_folded_part)) (c_part_sum : DCal P w K mg base 4 "part_sum" (spG K 2 R_part_sum)) (c_fraction_times : DCal P w K mg base 3 "fraction_times" (spG K 2 R_fraction_times)) : WkT P w K mg base 5 N_is_five_pair "is_five_pair" st_is_five_pair T_is_five_pair := by
  intro f cdv A outer s H hr gd
  have nd := sc_is_five_pair.nd
  exact ⟨_, (dss_cons (ds_if (dt_notIn hr (DE.r (de_var 1)) (DE.r (de_tup (da_cons (de_var 0) (da_cons (de_call c_fraction_turned mono_fraction_turned hr (by decide) gd (da_d (de_var 0) da_nil)) da_nil))))) (dss_one (ds_ret de_bl)) dss_nil)
  (dss_cons (ds_dispT 5 hr nd (dps_cons (de_call c_folded_part mono_folded_part hr (by decide) gd (da_d (de_var 3) da_nil)) de_bl (dps_cons (de_call c_folded_part mono_folded_part hr (by decide) gd (da_d (de_if (dt_eq hr (DE.r (de_var 1)) (DE.r (de_var 0))) (de_var 4) (de_call c_part_sum mono_part_sum hr (by decide) gd (da_d (de_var 4) (da_d (de_tup (da_cons de_int (da_cons de_int da_nil))) da_nil)))) da_nil)) de_bl dps_nil)))
  (dss_cons (ds_if (dt_eq hr (DE.r (de_var 2)) (DE.r (de_call c_fraction_times mono_fraction_times hr (by decide) gd (da_b (DE.r (de_tup (da_cons de_int (da_cons de_int da_nil)))) (da_b (DE.r (de_var 0)) da_nil))))) (dss_one (ds_ret (de_eq hr (DF.r (df_sortD 5 m_sorted rfl)) (DF.r (df_lst (da_cons (de_tup (da_cons de_int (da_cons de_int da_nil))) (da_cons (de_tup (da_cons de_int (da_cons de_int da_nil))) da_nil))))))) dss_nil)
  (dss_one (ds_ret (de_andV (de_eq hr (DE.r (de_var 2)) (DE.r (de_call c_fraction_times mono_fraction_times hr (by decide) gd (da_b (DE.r (de_tup (da_cons (de_neg (DE.r de_int)) (da_cons de_int da_nil)))) (da_b (DE.r (de_var 0)) da_nil))))) (de_one (de_eq hr (DF.r (df_sortD 5 m_sorted rfl)) (DF.r (df_lst (da_cons (de_tup (da_cons de_int (da_cons de_int da_nil))) (da_cons (de_tup (da_cons de_int (da_cons de_int da_nil))) da_nil))))))))))))⟩
abbrev st_pair_kind : Stmt := topS 21
abbrev N_pair_kind : List Str := ["a", "b", "c", "u", "v", "x", "y"]
theorem sc_pair_kind : FnScope N_pair_kind ["a", "b", "c", "u", "v"] (defScope st_pair_kind) := ⟨rfl, rfl, rfl, by decide +kernel, rfl, by decide +kernel, by decide +kernel⟩
theorem wk_pair_kind {P : Program} {w : World} {K : PySem.W.Frag} {mg : Str → Option Value} {base : Heap} (c_cosine_fraction : DCal P w K mg base 1 "cosine_fraction" (spGC K 1 R_cosine_fraction)) (c_pair_sum : DCal P w K mg base 4 "pair_sum" (spG K 4 R_pair_sum)) (c_is_line_pair : DCal P w K mg base 5 "is_line_pair" (spG K 4 R_is_line_pair)) (c_is_five_pair : DCal P w K mg base 6 "is_five_pair" (spG K 5 R_is_five_pair)) : WkT P w K mg base 6 N_pair_kind "pair_kind" st_pair_kind T_pair_kind := by
  intro f cdv A outer s H hr gd
  have nd := sc_pair_kind.nd
  exact ⟨_, (dss_cons (ds_parB 5 6 rfl nd (dc_callC c_cosine_fraction mono_cosine_fraction hr (by decide) gd (da_d (de_var 3) da_nil)) (dc_callC c_cosine_fraction mono_cosine_fraction hr (by decide) gd (da_d (de_var 4) da_nil)))
  (dss_cons (ds_if (dt_pw (dw_and (dt_notN (dr_var 5) (DE.r de_non)) (dw_and (dt_notN (dr_var 6) (DE.r de_non)) (dw_and1 (dt_eq hr (DE.r (de_call c_pair_sum mono_pair_sum hr (by decide) gd (da_d (de_var 0) (da_d (de_var 1) (da_b (dr_var 5) (da_b (dr_var 6) da_nil)))))) (DE.r (de_var 2))))))) (dss_one (ds_ret de_str)) dss_nil)
  (dss_cons (ds_if (dt_pw (dw_and (dt_eq hr (DE.r (de_var 2)) (DE.r (de_tup (da_cons de_int (da_cons de_int da_nil))))) (dw_and1 (dt_val (de_call c_is_line_pair mono_is_line_pair hr (by decide) gd (da_d (de_var 0) (da_d (de_var 1) (da_d (de_var 3) (da_d (de_var 4) da_nil))))))))) (dss_one (ds_ret de_str)) dss_nil)
  (dss_one (ds_ret (de_if (dt_val (de_call c_is_five_pair mono_is_five_pair hr (by decide) gd (da_d (de_var 0) (da_d (de_var 1) (da_d (de_var 2) (da_d (de_var 3) (da_d (de_var 4) da_nil))))))) de_str de_non))))))⟩
abbrev st_number_of : Stmt := topS 23
abbrev N_number_of : List Str := ["pairs", "found", "part", "c"]
theorem sc_number_of : FnScope N_number_of ["pairs"] (defScope st_number_of) := ⟨rfl, rfl, rfl, by decide +kernel, rfl, by decide +kernel, by decide +kernel⟩
theorem wk_number_of {P : Program} {w : World} {K : PySem.W.Frag} {mg : Str → Option Value} {base : Heap} (m_sorted : mg "sorted" = none) (m_tuple : mg "tuple" = none) (c_fraction_sum : DCal P w K mg base 3 "fraction_sum" (spG K 2 R_fraction_sum)) : WkT P w K mg base 3 N_number_of "number_of" st_number_of T_number_of := by
  intro f cdv A outer s H hr gd
  have nd := sc_number_of.nd
  exact ⟨_, (dss_cons (ds_newD true 1 nd)
  (dss_cons (ds_for PassesOwn.never rfl (di_e (di_seq (de_var 0))) (dg_tup rfl (dgs_cons (dg_name 2 nd) (dgs_cons (dg_name 3 nd) dgs_nil)))
  (dss_one (ds_put 1 hr (de_call c_fraction_sum mono_fraction_sum hr (by decide) gd (da_b (DE.r (de_get2 1 hr (de_var 2) (de_tup (da_cons de_int (da_cons de_int da_nil))))) (da_b (DE.r (de_var 3)) da_nil))) (de_var 2))))
  (dss_one (ds_ret (de_tuple m_tuple (DF.w (df_lc [("part", 2)] rfl nd (di_seq (DF.d (df_sortD 1 m_sorted rfl))) (blkOk_by (N := N_number_of) (sc := defScope st_number_of) (by decide +kernel)) (fun _ _ _ _ _ => (dg_name 2 nd)) (fun _ _ _ _ _ => (dts_one (dt_ne hr (DE.r (de_ix (DE.w (de_get 1 hr (de_var 2))) (DE.w de_int))) (DE.r de_int)))) (fun _ _ _ _ _ => (de_tup (da_cons (de_var 2) (da_cons (de_get 1 hr (de_var 2)) da_nil)))) s H)))))))⟩
abbrev st_number_sum : Stmt := topS 24
abbrev N_number_sum : List Str := ["one", "other"]
theorem sc_number_sum : FnScope N_number_sum ["one", "other"] (defScope st_number_sum) := ⟨rfl, rfl, rfl, by decide +kernel, rfl, by decide +kernel, by decide +kernel⟩
theorem wk_number_sum {P : Program} {w : World} {K : PySem.W.Frag} {mg : Str → Option Value} {base : Heap} (c_number_of : DCal P w K mg base 4 "number_of" (spG K 1 R_number_of)) : WkT P w K mg base 4 N_number_sum "number_sum" st_number_sum T_number_sum := by
  intro f cdv A outer s H hr gd
  have nd := sc_number_sum.nd
  exact ⟨_, (dss_one (ds_ret (de_call c_number_of mono_number_of hr (by decide) gd (da_d (DF.d (df_lst (da_star (DE.w (de_var 0)) (da_star (DE.w (de_var 1)) da_nil)))) da_nil))))⟩
abbrev st_number_often : Stmt := topS 25
abbrev N_number_often : List Str := ["c", "number", "part", "d"]
theorem sc_number_often : FnScope N_number_often ["c", "number"] (defScope st_number_often) := ⟨rfl, rfl, rfl, by decide +kernel, rfl, by decide +kernel, by decide +kernel⟩
theorem wk_number_often {P : Program} {w : World} {K : PySem.W.Frag} {mg : Str → Option Value} {base : Heap} (c_number_of : DCal P w K mg base 4 "number_of" (spG K 1 R_number_of)) (c_fraction_times : DCal P w K mg base 3 "fraction_times" (spG K 2 R_fraction_times)) : WkT P w K mg base 4 N_number_often "number_often" st_number_often T_number_often := by
  intro f cdv A outer s H hr gd
  have nd := sc_number_often.nd
  exact ⟨_, (dss_one (ds_ret (de_call c_number_of mono_number_of hr (by decide) gd (da_d (DF.d (df_lc [("part", 2), ("d", 3)] rfl nd (di_seq (de_var 1)) (blkOk_by (N := N_number_often) (sc := defScope st_number_often) (by decide +kernel)) (fun _ _ _ _ _ => (dg_tup rfl (dgs_cons (dg_name 2 nd) (dgs_cons (dg_name 3 nd) dgs_nil)))) (fun _ _ _ _ _ => dts_nil) (fun _ _ _ _ _ => (de_tup (da_cons (de_var 2) (da_cons (de_call c_fraction_times mono_fraction_times hr (by decide) gd (da_b (DE.r (de_var 0)) (da_b (DE.r (de_var 3)) da_nil))) da_nil)))) s H)) da_nil))))⟩
abbrev st_number_form : Stmt := topS 26
abbrev N_number_form : List Str := ["number", "found", "part", "c", "here", "p", "late", "one", "signed", "x"]
theorem sc_number_form : FnScope N_number_form ["number"] (defScope st_number_form) := ⟨rfl, rfl, rfl, by decide +kernel, rfl, by decide +kernel, by decide +kernel⟩
theorem wk_number_form {P : Program} {w : World} {K : PySem.W.Frag} {mg : Str → Option Value} {base : Heap} (m_list : mg "list" = none) (c_loose_primes : DCal P w K mg base 5 "loose_primes" (spG K 1 R_loose_primes)) (c_parts_round : DCal P w K mg base 5 "parts_round" (spG K 2 R_parts_round)) (c_fraction_turned : DCal P w K mg base 1 "fraction_turned" (spG K 1 R_fraction_turned)) (c_number_of : DCal P w K mg base 4 "number_of" (spG K 1 R_number_of)) : WkT P w K mg base 5 N_number_form "number_form" st_number_form T_number_form := by
  intro f cdv A outer s H hr gd
  have nd := sc_number_form.nd
  exact ⟨_, (dss_cons (ds_setO 1 nd (df_lst da_nil))
  (dss_cons (ds_for PassesOwn.never rfl (di_e (di_seq (de_var 0))) (dg_tup rfl (dgs_cons (dg_name 2 nd) (dgs_cons (dg_name 3 nd) dgs_nil)))
  (dss_cons (ds_set 4 nd (DF.d (df_lst (da_cons (de_tup (da_cons (de_var 2) (da_cons (de_var 3) da_nil))) da_nil))))
  (dss_cons (ds_for PassesOwn.never rfl (di_e (di_seq (de_call c_loose_primes mono_loose_primes hr (by decide) gd (da_d (de_var 2) da_nil)))) (dg_name 5 nd)
  (dss_cons (ds_setO 6 nd (df_lst da_nil))
  (dss_cons (ds_for PassesOwn.never rfl (di_e (di_seq (de_var 4))) (dg_tup rfl (dgs_cons (dg_name 7 nd) (dgs_cons (dg_name 8 nd) dgs_nil)))
  (dss_one (ds_extend 6 (DF.r (df_lc [("x", 9)] rfl nd (di_seq (de_call c_parts_round mono_parts_round hr (by decide) gd (da_d (de_var 7) (da_d (de_var 5) da_nil)))) (blkOk_by (N := N_number_form) (sc := defScope st_number_form) (by decide +kernel)) (fun _ _ _ _ _ => (dg_name 9 nd)) (fun _ _ _ _ _ => dts_nil) (fun _ _ _ _ _ => (de_tup (da_cons (de_var 9) (da_cons (de_call c_fraction_turned mono_fraction_turned hr (by decide) gd (da_d (de_var 8) da_nil)) da_nil)))) s H)))))
  (dss_one (ds_set 4 nd (DF.d (df_list m_list (dw_var 6))))))))
  (dss_one (ds_extend 1 (DE.r (de_var 4)))))))
  (dss_fz 1 (dss_one (ds_ret (de_call c_number_of mono_number_of hr (by decide) gd (da_d (de_var 1) da_nil)))))))⟩
abbrev st_fraction_told : Stmt := topS 27
abbrev N_fraction_told : List Str := ["number", "form"]
theorem sc_fraction_told : FnScope N_fraction_told ["number"] (defScope st_fraction_told) := ⟨rfl, rfl, rfl, by decide +kernel, rfl, by decide +kernel, by decide +kernel⟩
theorem wk_fraction_told {P : Program} {w : World} {K : PySem.W.Frag} {mg : Str → Option Value} {base : Heap} (m_len : mg "len" = none) (c_number_form : DCal P w K mg base 6 "number_form" (spG K 1 R_number_form)) : WkT P w K mg base 6 N_fraction_told "fraction_told" st_fraction_told T_fraction_told := by
  intro f cdv A outer s H hr gd
  have nd := sc_fraction_told.nd
  exact ⟨_, (dss_cons (ds_set 1 nd (de_call c_number_form mono_number_form hr (by decide) gd (da_d (de_var 0) da_nil)))
  (dss_cons (ds_if (dt_eq hr (DE.r (de_var 1)) (DE.r (de_tup da_nil))) (dss_one (ds_ret (de_tup (da_cons de_int (da_cons de_int da_nil))))) dss_nil)
  (dss_one (ds_ret (de_if (dt_pw (dw_and (dt_eq hr (DE.r (de_len m_len (da_consR (DE.r (de_var 1)) da_nil))) (DE.r de_int)) (dw_and1 (dt_eq hr (DE.r (de_ix (DE.w (de_ix (DE.w (de_var 1)) (DE.w de_int))) (DE.w de_int))) (DE.r (de_tup (da_cons de_int (da_cons de_int da_nil)))))))) (de_ix (DE.w (de_ix (DE.w (de_var 1)) (DE.w de_int))) (DE.w de_int)) de_non)))))⟩
abbrev st_cos_number : Stmt := topS 28
abbrev N_cos_number : List Str := ["part"]
theorem sc_cos_number : FnScope N_cos_number ["part"] (defScope st_cos_number) := ⟨rfl, rfl, rfl, by decide +kernel, rfl, by decide +kernel, by decide +kernel⟩
theorem wk_cos_number {P : Program} {w : World} {K : PySem.W.Frag} {mg : Str → Option Value} {base : Heap} (c_number_of : DCal P w K mg base 4 "number_of" (spG K 1 R_number_of)) (c_part_turned : DCal P w K mg base 4 "part_turned" (spG K 1 R_part_turned)) : WkT P w K mg base 4 N_cos_number "cos_number" st_cos_number T_cos_number := by
  intro f cdv A outer s H hr gd
  have nd := sc_cos_number.nd
  exact ⟨_, (dss_one (ds_ret (de_call c_number_of mono_number_of hr (by decide) gd (da_d (DF.d (df_lst (da_cons (de_tup (da_cons (de_var 0) (da_cons (de_tup (da_cons de_int (da_cons de_int da_nil))) da_nil))) (da_cons (de_tup (da_cons (de_call c_part_turned mono_part_turned hr (by decide) gd (da_d (de_var 0) da_nil)) (da_cons (de_tup (da_cons de_int (da_cons de_int da_nil))) da_nil))) da_nil)))) da_nil))))⟩
abbrev st_pair_number : Stmt := topS 31
abbrev N_pair_number : List Str := ["a", "b", "c", "u", "v", "both"]
theorem sc_pair_number : FnScope N_pair_number ["a", "b", "c", "u", "v"] (defScope st_pair_number) := ⟨rfl, rfl, rfl, by decide +kernel, rfl, by decide +kernel, by decide +kernel⟩
theorem wk_pair_number {P : Program} {w : World} {K : PySem.W.Frag} {mg : Str → Option Value} {base : Heap} (c_number_sum : DCal P w K mg base 5 "number_sum" (spG K 2 R_number_sum)) (c_number_often : DCal P w K mg base 5 "number_often" (spG K 2 R_number_often)) (c_cos_number : DCal P w K mg base 5 "cos_number" (spG K 1 R_cos_number)) (c_number_form : DCal P w K mg base 6 "number_form" (spG K 1 R_number_form)) (c_number_of : DCal P w K mg base 4 "number_of" (spG K 1 R_number_of)) (c_fraction_turned : DCal P w K mg base 1 "fraction_turned" (spG K 1 R_fraction_turned)) : WkT P w K mg base 6 N_pair_number "pair_number" st_pair_number T_pair_number := by
  intro f cdv A outer s H hr gd
  have nd := sc_pair_number.nd
  exact ⟨_, (dss_cons (ds_set 5 nd (de_call c_number_sum mono_number_sum hr (by decide) gd (da_d (de_call c_number_often mono_number_often hr (by decide) gd (da_d (de_var 0) (da_d (de_call c_cos_number mono_cos_number hr (by decide) gd (da_d (de_var 3) da_nil)) da_nil))) (da_d (de_call c_number_often mono_number_often hr (by decide) gd (da_d (de_var 1) (da_d (de_call c_cos_number mono_cos_number hr (by decide) gd (da_d (de_var 4) da_nil)) da_nil))) da_nil))))
  (dss_one (ds_ret (de_call c_number_form mono_number_form hr (by decide) gd (da_d (de_call c_number_sum mono_number_sum hr (by decide) gd (da_d (de_var 5) (da_d (de_call c_number_of mono_number_of hr (by decide) gd (da_d (DF.d (df_lst (da_cons (de_tup (da_cons (de_tup (da_cons de_int (da_cons de_int da_nil))) (da_cons (de_call c_fraction_turned mono_fraction_turned hr (by decide) gd (da_d (de_var 2) da_nil)) da_nil))) da_nil))) da_nil)) da_nil))) da_nil)))))⟩
abbrev st_pair_paper : Stmt := topS 32
abbrev N_pair_paper : List Str := ["a", "b", "c", "u", "v", "kind"]
theorem sc_pair_paper : FnScope N_pair_paper ["a", "b", "c", "u", "v"] (defScope st_pair_paper) := ⟨rfl, rfl, rfl, by decide +kernel, rfl, by decide +kernel, by decide +kernel⟩
theorem wk_pair_paper {P : Program} {w : World} {K : PySem.W.Frag} {mg : Str → Option Value} {base : Heap} (c_pair_kind : DCal P w K mg base 7 "pair_kind" (spG K 5 R_pair_kind)) (c_pair_number : DCal P w K mg base 7 "pair_number" (spG K 5 R_pair_number)) : WkT P w K mg base 7 N_pair_paper "pair_paper" st_pair_paper T_pair_paper := by
  intro f cdv A outer s H hr gd
  have nd := sc_pair_paper.nd
  exact ⟨_, (dss_cons (ds_set 5 nd (de_call c_pair_kind mono_pair_kind hr (by decide) gd (da_d (de_var 0) (da_d (de_var 1) (da_d (de_var 2) (da_d (de_var 3) (da_d (de_var 4) da_nil)))))))
  (dss_one (ds_ret (de_if (dt_notN (DE.r (de_var 5)) (DE.r de_non)) (de_tup (da_cons de_str (da_cons (de_var 5) da_nil))) (de_tup (da_cons de_str (da_cons (de_call c_pair_number mono_pair_number hr (by decide) gd (da_d (de_var 0) (da_d (de_var 1) (da_d (de_var 2) (da_d (de_var 3) (da_d (de_var 4) da_nil)))))) da_nil)))))))⟩
abbrev st_judge_pair : Stmt := topS 33
abbrev N_judge_pair : List Str := ["a", "b", "c", "u", "v", "value", "kind", "told"]
theorem sc_judge_pair : FnScope N_judge_pair ["a", "b", "c", "u", "v", "value"] (defScope st_judge_pair) := ⟨rfl, rfl, rfl, by decide +kernel, rfl, by decide +kernel, by decide +kernel⟩
theorem wk_judge_pair {P : Program} {w : World} {K : PySem.W.Frag} {mg : Str → Option Value} {base : Heap} (m_isinstance : mg "isinstance" = none) (m_str : mg "str" = none) (m_len : mg "len" = none) (m_tuple : mg "tuple" = none) (m_repr : mg "repr" = none) {v_KINDS : V} {w_KINDS : Value} (g_KINDS : mg "KINDS" = some w_KINDS) (r_KINDS : RelV v_KINDS w_KINDS) (q_KINDS : Rk K v_KINDS d_KINDS) (c_pair_number : DCal P w K mg base 7 "pair_number" (spG K 5 R_pair_number)) (c_pair_kind : DCal P w K mg base 7 "pair_kind" (spG K 5 R_pair_kind)) : WkT P w K mg base 7 N_judge_pair "judge_pair" st_judge_pair T_judge_pair := by
  intro f cdv A outer s H hr gd
  have nd := sc_judge_pair.nd
  exact ⟨_, (dss_cons (ds_if (dt_pw (dw_or (dt_not (dt_val (de_isi "tuple" "tuple" (by decide) boot_tuple m_isinstance m_tuple (DE.r (de_var 5))))) (dw_or (dt_ne hr (DE.r (de_len m_len (da_consR (DE.r (de_var 5)) da_nil))) (DE.r de_int)) (dw_or1 (dt_not (dt_val (de_isi "str" "str" (by decide) boot_str m_isinstance m_str (DE.r (de_ix (DE.w (de_var 5)) (DE.w de_int)))))))))) (dss_one (ds_ret (de_tup (da_cons de_str da_nil)))) dss_nil)
  (dss_cons (ds_if (dt_pw (dw_or (dt_notIn hr (DE.r (de_ix (DE.w (de_var 5)) (DE.w de_int))) (DE.r (de_tup (da_cons de_str (da_cons de_str da_nil))))) (dw_or1 (dt_pw (dw_and (dt_eq hr (DE.r (de_ix (DE.w (de_var 5)) (DE.w de_int))) (DE.r de_str)) (dw_and1 (dt_notInS (DE.r (de_repr m_repr hr gd (DE.r (de_ix (DE.w (de_var 5)) (DE.w de_int))))) (DF.r (df_lc [("kind", 6)] rfl nd (di_seqC (dr_glob (by rfl) g_KINDS r_KINDS q_KINDS)) (blkOk_by (N := N_judge_pair) (sc := defScope st_judge_pair) (by decide +kernel)) (fun _ _ _ _ _ => (dg_name 6 nd)) (fun _ _ _ _ _ => dts_nil) (fun _ _ _ _ _ => (de_repr m_repr hr gd (DE.r (de_var 6)))) s H))))))))) (dss_one (ds_ret (de_tup (da_cons de_str da_nil)))) dss_nil)
  (dss_cons (ds_set 7 nd (de_call c_pair_number mono_pair_number hr (by decide) gd (da_d (de_var 0) (da_d (de_var 1) (da_d (de_var 2) (da_d (de_var 3) (da_d (de_var 4) da_nil)))))))
  (dss_cons (ds_if (dt_eq hr (DE.r (de_ix (DE.w (de_var 5)) (DE.w de_int))) (DE.r de_str)) (dss_one (ds_ret (de_if (dt_pw (dw_or (dt_eq hr (DE.r (de_var 7)) (DE.r (de_tup da_nil))) (dw_or1 (dt_neS (DE.r (de_repr m_repr hr gd (DE.r (de_ix (DE.w (de_var 5)) (DE.w de_int))))) (DE.r (de_repr m_repr hr gd (DE.r (de_var 7)))))))) (de_tup (da_cons de_str (da_cons (de_var 7) da_nil))) de_non))) dss_nil)
  (dss_cons (ds_if (dt_ne hr (DE.r (de_var 7)) (DE.r (de_tup da_nil))) (dss_one (ds_ret (de_tup (da_cons de_str (da_cons (de_var 7) da_nil))))) dss_nil)
  (dss_cons (ds_set 6 nd (de_call c_pair_kind mono_pair_kind hr (by decide) gd (da_d (de_var 0) (da_d (de_var 1) (da_d (de_var 2) (da_d (de_var 3) (da_d (de_var 4) da_nil)))))))
  (dss_one (ds_ret (de_if (dt_ne hr (DE.r (de_ix (DE.w (de_var 5)) (DE.w de_int))) (DE.r (de_var 6))) (de_tup (da_cons de_str (da_cons (de_var 6) da_nil))) de_non)))))))))⟩
abbrev st__law_source : Stmt := topS 35
abbrev N__law_source : List Str := ["script", "mixed", "cell"]
theorem sc__law_source : FnScope N__law_source ["script"] (defScope st__law_source) := ⟨rfl, rfl, rfl, by decide +kernel, rfl, by decide +kernel, by decide +kernel⟩
abbrev st__law_pick : Stmt := topS 36
abbrev N__law_pick : List Str := ["source", "many", "left", "mixed"]
theorem sc__law_pick : FnScope N__law_pick ["source", "many"] (defScope st__law_pick) := ⟨rfl, rfl, rfl, by decide +kernel, rfl, by decide +kernel, by decide +kernel⟩
abbrev st__law_of : Stmt := topS 37
abbrev N__law_of : List Str := ["source", "some"]
theorem sc__law_of : FnScope N__law_of ["source", "some"] (defScope st__law_of) := ⟨rfl, rfl, rfl, by decide +kernel, rfl, by decide +kernel, by decide +kernel⟩
theorem wk__law_of {P : Program} {w : World} {K : PySem.W.Frag} {mg : Str → Option Value} {base : Heap} (m_len : mg "len" = none) (c__law_pick : DCal P w K mg base 1 "_law_pick" (spG K 2 R__law_pick)) : WkT P w K mg base 1 N__law_of "_law_of" st__law_of T__law_of := by
  intro f cdv A outer s H hr gd
  have nd := sc__law_of.nd
  exact ⟨_, (dss_one (ds_ret (de_ix (DE.w (de_var 1)) (DE.w (de_call c__law_pick mono__law_pick hr (by decide) gd (da_s 0 (da_d (de_len m_len (da_consR (DE.r (de_var 1)) da_nil)) da_nil)))))))⟩
abbrev st__law_lowest : Stmt := topS 38
abbrev N__law_lowest : List Str := ["a", "b", "x", "y"]
theorem sc__law_lowest : FnScope N__law_lowest ["a", "b"] (defScope st__law_lowest) := ⟨rfl, rfl, rfl, by decide +kernel, rfl, by decide +kernel, by decide +kernel⟩
theorem wk__law_lowest {P : Program} {w : World} {K : PySem.W.Frag} {mg : Str → Option Value} {base : Heap} (m_abs : mg "abs" = none) (m_int : mg "int" = none) : WkT P w K mg base 0 N__law_lowest "_law_lowest" st__law_lowest T__law_lowest := by
  intro f cdv A outer s H hr gd
  have nd := sc__law_lowest.nd
  exact ⟨_, (dss_cons (ds_par 2 3 rfl nd (da_cons (de_abs m_abs (da_consR (DE.r (de_var 0)) da_nil)) (da_cons (de_var 1) da_nil)))
  (dss_cons (ds_while PassesOwn.never (dt_gt (DE.r (de_var 3)) (DE.r de_int))
  (dss_one (ds_par 2 3 rfl nd (da_cons (de_var 3) (da_cons (de_mod (DE.r (de_int1 m_int (da_consR (DE.r (de_var 2)) da_nil))) (DE.r (de_var 3))) da_nil)))))
  (dss_one (ds_ret (de_tup (da_cons (de_fdiv (DE.r (de_var 0)) (DE.r (de_var 2))) (da_cons (de_fdiv (DE.r (de_var 1)) (DE.r (de_var 2))) da_nil)))))))⟩
abbrev st__law_part : Stmt := topS 39
abbrev N__law_part : List Str := ["t", "order"]
theorem sc__law_part : FnScope N__law_part ["t", "order"] (defScope st__law_part) := ⟨rfl, rfl, rfl, by decide +kernel, rfl, by decide +kernel, by decide +kernel⟩
theorem wk__law_part {P : Program} {w : World} {K : PySem.W.Frag} {mg : Str → Option Value} {base : Heap} (m_int : mg "int" = none) (c__law_lowest : DCal P w K mg base 1 "_law_lowest" (spG K 2 R__law_lowest)) : WkT P w K mg base 1 N__law_part "_law_part" st__law_part T__law_part := by
  intro f cdv A outer s H hr gd
  have nd := sc__law_part.nd
  exact ⟨_, (dss_one (ds_ret (de_call c__law_lowest mono__law_lowest hr (by decide) gd (da_d (de_mod (DE.r (de_int1 m_int (da_consR (DE.r (de_var 0)) da_nil))) (DE.r (de_var 1))) (da_d (de_var 1) da_nil)))))⟩
abbrev st__law_common : Stmt := topS 40
abbrev N__law_common : List Str := ["a", "b"]
theorem sc__law_common : FnScope N__law_common ["a", "b"] (defScope st__law_common) := ⟨rfl, rfl, rfl, by decide +kernel, rfl, by decide +kernel, by decide +kernel⟩
theorem wk__law_common {P : Program} {w : World} {K : PySem.W.Frag} {mg : Str → Option Value} {base : Heap} (m_int : mg "int" = none) : WkT P w K mg base 0 N__law_common "_law_common" st__law_common T__law_common := by
  intro f cdv A outer s H hr gd
  have nd := sc__law_common.nd
  exact ⟨_, (dss_cons (ds_while PassesOwn.never (dt_gt (DE.r (de_var 1)) (DE.r de_int))
  (dss_one (ds_par 0 1 rfl nd (da_cons (de_var 1) (da_cons (de_mod (DE.r (de_int1 m_int (da_consR (DE.r (de_var 0)) da_nil))) (DE.r (de_var 1))) da_nil)))))
  (dss_one (ds_ret (de_var 0))))⟩
abbrev st__law_lots_by : Stmt := topS 41
abbrev N__law_lots_by : List Str := ["here", "m", "p", "lots", "side", "n", "once", "a", "b", "x", "t", "s", "rest", "part"]
theorem sc__law_lots_by : FnScope N__law_lots_by ["here", "m", "p"] (defScope st__law_lots_by) := ⟨rfl, rfl, rfl, by decide +kernel, rfl, by decide +kernel, by decide +kernel⟩
theorem wk__law_lots_by {P : Program} {w : World} {K : PySem.W.Frag} {mg : Str → Option Value} {base : Heap} (m_range : mg "range" = none) (m_int : mg "int" = none) (c__law_part : DCal P w K mg base 2 "_law_part" (spG K 2 R__law_part)) : WkT P w K mg base 2 N__law_lots_by "_law_lots_by" st__law_lots_by T__law_lots_by := by
  intro f cdv A outer s H hr gd
  have nd := sc__law_lots_by.nd
  exact ⟨_, (dss_cons (ds_newLLc 3 4 [("side", 4)] rfl nd (di_rng1 m_range (da_consR (DE.r (de_var 2)) da_nil)) (blkOk_by (N := N__law_lots_by) (sc := defScope st__law_lots_by) (by decide +kernel)) (fun _ _ _ _ _ => pg_name (i := 4) nd rfl (.inl rfl)))
  (dss_cons (ds_set 5 nd (de_fdiv (DE.r (de_var 1)) (DE.r (de_var 2))))
  (dss_cons (ds_set 6 nd (de_ne hr (DE.r (de_mod (DE.r (de_int1 m_int (da_consR (DE.r (de_var 5)) da_nil))) (DE.r (de_var 2)))) (DE.r de_int)))
  (dss_cons (ds_for PassesOwn.never rfl (di_e (di_seq (de_var 0))) (dg_tup rfl (dgs_cons (dg_tup rfl (dgs_cons (dg_name 7 nd) (dgs_cons (dg_name 8 nd) dgs_nil))) (dgs_cons (dg_name 9 nd) dgs_nil)))
  (dss_cons (ds_set 10 nd (de_mul (DE.r (de_var 7)) (DE.r (de_fdiv (DE.r (de_var 1)) (DE.r (de_var 8))))))
  (dss_cons (ds_set 4 nd (de_ix (DF.w (df_lc [("s", 11)] rfl nd (di_rng1 m_range (da_consR (DE.r (de_var 2)) da_nil)) (blkOk_by (N := N__law_lots_by) (sc := defScope st__law_lots_by) (by decide +kernel)) (fun _ _ _ _ _ => (dg_name 11 nd)) (fun _ _ _ _ _ => (dts_one (dt_eq hr (DE.r (de_mod (DE.r (de_int1 m_int (da_consR (DE.r (de_sub (DE.r (de_var 10)) (DE.r (de_mul (DE.r (de_var 11)) (DE.r (de_if (dt_tru (DE.r (de_var 6))) (de_var 5) de_int)))))) da_nil))) (DE.r (de_var 2)))) (DE.r de_int)))) (fun _ _ _ _ _ => (de_var 11)) s H)) (DE.w de_int)))
  (dss_cons (ds_set 12 nd (de_fdiv (DE.r (de_sub (DE.r (de_var 10)) (DE.r (de_mul (DE.r (de_var 4)) (DE.r (de_if (dt_tru (DE.r (de_var 6))) (de_var 5) de_int)))))) (DE.r (de_var 2))))
  (dss_one (ds_appendLL 3 (DE.r (de_var 4)) (de_tup (da_cons (de_call c__law_part mono__law_part hr (by decide) gd (da_d (de_var 12) (da_d (de_var 5) da_nil))) (da_cons (de_var 9) da_nil)))))))))
  (dss_cons (ds_if (dt_not (dt_tru (DE.r (de_var 6)))) (dss_fz 3 (dss_one (ds_ret (de_var 3)))) dss_nil)
  (dss_fz 3 (dss_one (ds_ret (DF.d (df_lc [("side", 4)] rfl nd (di_rng2 m_range (da_consR (DE.r de_int) (da_consR (DE.r (de_var 2)) da_nil))) (blkOk_by (by kernel_rfl)) (fun _ _ _ _ _ => (dg_name 4 nd)) (fun _ _ _ _ _ => dts_nil) (fun _ _ _ _ _ => (DF.d (df_cat (DE.r (de_ix (DE.w (de_var 3)) (DE.w (de_var 4)))) (DF.r (df_lc [("part", 13), ("x", 9)] rfl nd (di_seq (de_ix (DE.w (de_var 3)) (DE.w de_int))) (blkOk_by (by kernel_rfl)) (fun _ _ _ _ _ => (dg_tup rfl (dgs_cons (dg_name 13 nd) (dgs_cons (dg_name 9 nd) dgs_nil)))) (fun _ _ _ _ _ => dts_nil) (fun _ _ _ _ _ => (de_tup (da_cons (de_var 13) (da_cons (de_sub (DE.r de_int) (DE.r (de_var 9))) da_nil)))) s H))))) s H))))))))))⟩
abbrev st__law_is_nought : Stmt := topS 42
abbrev N__law_is_nought : List Str := ["pairs", "line", "known", "m", "part", "x", "here", "a", "b", "d"]
theorem sc__law_is_nought : FnScope N__law_is_nought ["pairs"] (defScope st__law_is_nought) := ⟨rfl, rfl, rfl, by decide +kernel, rfl, by decide +kernel, by decide +kernel⟩
theorem wk__law_is_nought {P : Program} {w : World} {K : PySem.W.Frag} {mg : Str → Option Value} {base : Heap} (m_sorted : mg "sorted" = none) (m_int : mg "int" = none) (m_min : mg "min" = none) (c__law_common : DCal P w K mg base 1 "_law_common" (spG K 2 R__law_common)) (c__law_lots_by : DCal P w K mg base 3 "_law_lots_by" (spG K 3 R__law_lots_by)) : WkT P w K mg base 3 N__law_is_nought "_law_is_nought" st__law_is_nought T__law_is_nought := by
  intro f cdv A outer s H hr gd
  have nd := sc__law_is_nought.nd
  exact ⟨_, (dss_cons (ds_setO 1 nd (df_lst (da_cons (de_var 0) da_nil)))
  (dss_cons (ds_while PassesOwn.never (dt_ne hr (dr_var 1) (DF.r (df_lst da_nil)))
  (dss_cons (ds_parD true 2 3 rfl nd de_int)
  (dss_cons (ds_for PassesOwn.never rfl (die_pop 1) (dg_tup rfl (dgs_cons (dg_name 4 nd) (dgs_cons (dg_name 5 nd) dgs_nil)))
  (dss_one (ds_put 2 hr (de_add (DE.w (de_get2 2 hr (de_var 4) de_int)) (DE.w (de_var 5))) (de_var 4))))
  (dss_cons (ds_setLc 6 [("part", 4)] rfl nd (di_seq (DF.d (df_sortD 2 m_sorted rfl))) (blkOk_by (N := N__law_is_nought) (sc := defScope st__law_is_nought) (by decide +kernel)) (fun _ _ _ _ _ => (dg_name 4 nd)) (fun _ _ _ _ _ => (dts_one (dt_ne hr (DE.r (de_get 2 hr (de_var 4))) (DE.r de_int)))) (fun _ _ _ _ _ => (de_tup (da_cons (de_var 4) (da_cons (de_get 2 hr (de_var 4)) da_nil)))) s H (sw_true rfl rfl rfl (by decide +kernel)))
  (dss_fz 6 (dss_cons (ds_for PassesOwn.never rfl (di_e (di_seq (de_var 6))) (dg_tup rfl (dgs_cons (dg_tup rfl (dgs_cons (dg_name 7 nd) (dgs_cons (dg_name 8 nd) dgs_nil))) (dgs_cons (dg_name 5 nd) dgs_nil)))
  (dss_one (ds_set 3 nd (de_mul (DE.r (de_fdiv (DE.r (de_var 3)) (DE.r (de_call c__law_common mono__law_common hr (by decide) gd (da_d (de_var 3) (da_d (de_var 8) da_nil)))))) (DE.r (de_var 8))))))
  (dss_cons (ds_if (dt_pw (dw_and (dt_eq hr (DE.r (de_var 3)) (DE.r de_int)) (dw_and1 (dt_ne hr (DE.r (de_var 6)) (DF.r (df_lst da_nil)))))) (dss_one (ds_ret de_bl)) dss_nil)
  (dss_one (ds_if (dt_gt (DE.r (de_var 3)) (DE.r de_int)) (dss_one (ds_setO 1 nd (df_cat (dr_var 1) (DE.r (de_call c__law_lots_by mono__law_lots_by hr (by decide) gd (da_d (de_var 6) (da_d (de_var 3) (da_d (de_minL m_min rfl (da_consR (DF.r (df_lc [("d", 9)] rfl nd (di_seq (de_tup (da_cons de_int (da_cons de_int (da_cons de_int (da_cons de_int da_nil)))))) (blkOk_by (N := N__law_is_nought) (sc := defScope st__law_is_nought) (by decide +kernel)) (fun _ _ _ _ _ => (dg_name 9 nd)) (fun _ _ _ _ _ => (dts_one (dt_eq hr (DE.r (de_mod (DE.r (de_int1 m_int (da_consR (DE.r (de_var 3)) da_nil))) (DE.r (de_var 9)))) (DE.r de_int)))) (fun _ _ _ _ _ => (de_var 9)) s H)) da_nil)) da_nil)))))))) dss_nil)))))))))
  (dss_one (ds_ret de_bl))))⟩
abbrev st__law_sum : Stmt := topS 43
abbrev N__law_sum : List Str := ["x", "y"]
theorem sc__law_sum : FnScope N__law_sum ["x", "y"] (defScope st__law_sum) := ⟨rfl, rfl, rfl, by decide +kernel, rfl, by decide +kernel, by decide +kernel⟩
theorem wk__law_sum {P : Program} {w : World} {K : PySem.W.Frag} {mg : Str → Option Value} {base : Heap} (c__law_lowest : DCal P w K mg base 1 "_law_lowest" (spG K 2 R__law_lowest)) : WkT P w K mg base 1 N__law_sum "_law_sum" st__law_sum T__law_sum := by
  intro f cdv A outer s H hr gd
  have nd := sc__law_sum.nd
  exact ⟨_, (dss_one (ds_ret (de_call c__law_lowest mono__law_lowest hr (by decide) gd (da_d (de_add (DE.w (de_mul (DE.r (de_ix (DE.w (de_var 0)) (DE.w de_int))) (DE.r (de_ix (DE.w (de_var 1)) (DE.w de_int))))) (DE.w (de_mul (DE.r (de_ix (DE.w (de_var 1)) (DE.w de_int))) (DE.r (de_ix (DE.w (de_var 0)) (DE.w de_int)))))) (da_d (de_mul (DE.r (de_ix (DE.w (de_var 0)) (DE.w de_int))) (DE.r (de_ix (DE.w (de_var 1)) (DE.w de_int)))) da_nil)))))⟩
abbrev st__law_times : Stmt := topS 44
abbrev N__law_times : List Str := ["x", "y"]
theorem sc__law_times : FnScope N__law_times ["x", "y"] (defScope st__law_times) := ⟨rfl, rfl, rfl, by decide +kernel, rfl, by decide +kernel, by decide +kernel⟩
theorem wk__law_times {P : Program} {w : World} {K : PySem.W.Frag} {mg : Str → Option Value} {base : Heap} (c__law_lowest : DCal P w K mg base 1 "_law_lowest" (spG K 2 R__law_lowest)) : WkT P w K mg base 1 N__law_times "_law_times" st__law_times T__law_times := by
  intro f cdv A outer s H hr gd
  have nd := sc__law_times.nd
  exact ⟨_, (dss_one (ds_ret (de_call c__law_lowest mono__law_lowest hr (by decide) gd (da_d (de_mul (DE.r (de_ix (DE.w (de_var 0)) (DE.w de_int))) (DE.r (de_ix (DE.w (de_var 1)) (DE.w de_int)))) (da_d (de_mul (DE.r (de_ix (DE.w (de_var 0)) (DE.w de_int))) (DE.r (de_ix (DE.w (de_var 1)) (DE.w de_int)))) da_nil)))))⟩
abbrev st__law_on : Stmt := topS 45
abbrev N__law_on : List Str := ["one", "other"]
theorem sc__law_on : FnScope N__law_on ["one", "other"] (defScope st__law_on) := ⟨rfl, rfl, rfl, by decide +kernel, rfl, by decide +kernel, by decide +kernel⟩
theorem wk__law_on {P : Program} {w : World} {K : PySem.W.Frag} {mg : Str → Option Value} {base : Heap} (c__law_part : DCal P w K mg base 2 "_law_part" (spG K 2 R__law_part)) : WkT P w K mg base 2 N__law_on "_law_on" st__law_on T__law_on := by
  intro f cdv A outer s H hr gd
  have nd := sc__law_on.nd
  exact ⟨_, (dss_one (ds_ret (de_call c__law_part mono__law_part hr (by decide) gd (da_d (de_add (DE.w (de_mul (DE.r (de_ix (DE.w (de_var 0)) (DE.w de_int))) (DE.r (de_ix (DE.w (de_var 1)) (DE.w de_int))))) (DE.w (de_mul (DE.r (de_ix (DE.w (de_var 1)) (DE.w de_int))) (DE.r (de_ix (DE.w (de_var 0)) (DE.w de_int)))))) (da_d (de_mul (DE.r (de_ix (DE.w (de_var 0)) (DE.w de_int))) (DE.r (de_ix (DE.w (de_var 1)) (DE.w de_int)))) da_nil)))))⟩
abbrev st__law_about : Stmt := topS 46
abbrev N__law_about : List Str := ["part"]
theorem sc__law_about : FnScope N__law_about ["part"] (defScope st__law_about) := ⟨rfl, rfl, rfl, by decide +kernel, rfl, by decide +kernel, by decide +kernel⟩
theorem wk__law_about {P : Program} {w : World} {K : PySem.W.Frag} {mg : Str → Option Value} {base : Heap} (c__law_part : DCal P w K mg base 2 "_law_part" (spG K 2 R__law_part)) : WkT P w K mg base 2 N__law_about "_law_about" st__law_about T__law_about := by
  intro f cdv A outer s H hr gd
  have nd := sc__law_about.nd
  exact ⟨_, (dss_one (ds_ret (de_call c__law_part mono__law_part hr (by decide) gd (da_d (de_sub (DE.r de_int) (DE.r (de_ix (DE.w (de_var 0)) (DE.w de_int)))) (da_d (de_ix (DE.w (de_var 0)) (DE.w de_int)) da_nil)))))⟩
abbrev st__law_pairs_of : Stmt := topS 47
abbrev N__law_pairs_of : List Str := ["c", "part"]
theorem sc__law_pairs_of : FnScope N__law_pairs_of ["c", "part"] (defScope st__law_pairs_of) := ⟨rfl, rfl, rfl, by decide +kernel, rfl, by decide +kernel, by decide +kernel⟩
theorem wk__law_pairs_of {P : Program} {w : World} {K : PySem.W.Frag} {mg : Str → Option Value} {base : Heap} (c__law_about : DCal P w K mg base 3 "_law_about" (spG K 1 R__law_about)) : WkT P w K mg base 3 N__law_pairs_of "_law_pairs_of" st__law_pairs_of T__law_pairs_of := by
  intro f cdv A outer s H hr gd
  have nd := sc__law_pairs_of.nd
  exact ⟨_, (dss_one (ds_ret (DF.d (df_lst (da_cons (de_tup (da_cons (de_var 1) (da_cons (de_var 0) da_nil))) (da_cons (de_tup (da_cons (de_call c__law_about mono__law_about hr (by decide) gd (da_d (de_var 1) da_nil)) (da_cons (de_var 0) da_nil))) da_nil))))))⟩
abbrev st__law_adds : Stmt := topS 48
abbrev N__law_adds : List Str := ["pairs", "common", "part", "c"]
theorem sc__law_adds : FnScope N__law_adds ["pairs"] (defScope st__law_adds) := ⟨rfl, rfl, rfl, by decide +kernel, rfl, by decide +kernel, by decide +kernel⟩
theorem wk__law_adds {P : Program} {w : World} {K : PySem.W.Frag} {mg : Str → Option Value} {base : Heap} (c__law_common : DCal P w K mg base 1 "_law_common" (spG K 2 R__law_common)) (c__law_is_nought : DCal P w K mg base 4 "_law_is_nought" (spG K 1 R__law_is_nought)) : WkT P w K mg base 4 N__law_adds "_law_adds" st__law_adds T__law_adds := by
  intro f cdv A outer s H hr gd
  have nd := sc__law_adds.nd
  exact ⟨_, (dss_cons (ds_set 1 nd de_int)
  (dss_cons (ds_for PassesOwn.never rfl (di_e (di_seq (de_var 0))) (dg_tup rfl (dgs_cons (dg_name 2 nd) (dgs_cons (dg_name 3 nd) dgs_nil)))
  (dss_one (ds_set 1 nd (de_fdiv (DE.r (de_mul (DE.r (de_var 1)) (DE.r (de_ix (DE.w (de_var 3)) (DE.w de_int))))) (DE.r (de_call c__law_common mono__law_common hr (by decide) gd (da_d (de_var 1) (da_d (de_ix (DE.w (de_var 3)) (DE.w de_int)) da_nil))))))))
  (dss_one (ds_ret (de_call c__law_is_nought mono__law_is_nought hr (by decide) gd (da_d (DF.d (df_lc [("part", 2), ("c", 3)] rfl nd (di_seq (de_var 0)) (blkOk_by (N := N__law_adds) (sc := defScope st__law_adds) (by decide +kernel)) (fun _ _ _ _ _ => (dg_tup rfl (dgs_cons (dg_name 2 nd) (dgs_cons (dg_name 3 nd) dgs_nil)))) (fun _ _ _ _ _ => dts_nil) (fun _ _ _ _ _ => (de_tup (da_cons (de_var 2) (da_cons (de_mul (DE.r (de_ix (DE.w (de_var 3)) (DE.w de_int))) (DE.r (de_fdiv (DE.r (de_var 1)) (DE.r (de_ix (DE.w (de_var 3)) (DE.w de_int)))))) da_nil)))) s H)) da_nil))))))⟩
abbrev st__law_is_pair : Stmt := topS 49
abbrev N__law_is_pair : List Str := ["a", "b", "c", "u", "v"]
theorem sc__law_is_pair : FnScope N__law_is_pair ["a", "b", "c", "u", "v"] (defScope st__law_is_pair) := ⟨rfl, rfl, rfl, by decide +kernel, rfl, by decide +kernel, by decide +kernel⟩
theorem wk__law_is_pair {P : Program} {w : World} {K : PySem.W.Frag} {mg : Str → Option Value} {base : Heap} (c__law_adds : DCal P w K mg base 5 "_law_adds" (spG K 1 R__law_adds)) (c__law_pairs_of : DCal P w K mg base 4 "_law_pairs_of" (spG K 2 R__law_pairs_of)) : WkT P w K mg base 5 N__law_is_pair "_law_is_pair" st__law_is_pair T__law_is_pair := by
  intro f cdv A outer s H hr gd
  have nd := sc__law_is_pair.nd
  exact ⟨_, (dss_one (ds_ret (de_call c__law_adds mono__law_adds hr (by decide) gd (da_d (DF.d (df_cat (DF.r (df_cat (DE.r (de_call c__law_pairs_of mono__law_pairs_of hr (by decide) gd (da_d (de_var 0) (da_d (de_var 3) da_nil)))) (DE.r (de_call c__law_pairs_of mono__law_pairs_of hr (by decide) gd (da_d (de_var 1) (da_d (de_var 4) da_nil)))))) (DF.r (df_lst (da_cons (de_tup (da_cons (de_tup (da_cons de_int (da_cons de_int da_nil))) (da_cons (de_tup (da_cons (de_sub (DE.r de_int) (DE.r (de_mul (DE.r de_int) (DE.r (de_ix (DE.w (de_var 2)) (DE.w de_int)))))) (da_cons (de_ix (DE.w (de_var 2)) (DE.w de_int)) da_nil))) da_nil))) da_nil))))) da_nil))))⟩
abbrev st__law_is_int : Stmt := topS 50
abbrev N__law_is_int : List Str := ["value"]
theorem sc__law_is_int : FnScope N__law_is_int ["value"] (defScope st__law_is_int) := ⟨rfl, rfl, rfl, by decide +kernel, rfl, by decide +kernel, by decide +kernel⟩
theorem wk__law_is_int {P : Program} {w : World} {K : PySem.W.Frag} {mg : Str → Option Value} {base : Heap} (m_isinstance : mg "isinstance" = none) (m_bool : mg "bool" = none) (m_int : mg "int" = none) : WkT P w K mg base 0 N__law_is_int "_law_is_int" st__law_is_int T__law_is_int := by
  intro f cdv A outer s H hr gd
  have nd := sc__law_is_int.nd
  exact ⟨_, (dss_one (ds_ret (de_andV (de_isi "int" "int" (by decide) boot_int m_isinstance m_int (DE.r (de_var 0))) (de_one (de_notV (DE.r (de_isi "bool" "bool" (by decide) boot_bool m_isinstance m_bool (DE.r (de_var 0)))))))))⟩
abbrev st__law_bent : Stmt := topS 51
abbrev N__law_bent : List Str := ["source", "value", "odd", "k", "way"]
theorem sc__law_bent : FnScope N__law_bent ["source", "value", "odd"] (defScope st__law_bent) := ⟨rfl, rfl, rfl, by decide +kernel, rfl, by decide +kernel, by decide +kernel⟩
theorem wk__law_bent {P : Program} {w : World} {K : PySem.W.Frag} {mg : Str → Option Value} {base : Heap} {kk : Nat} {R__law_bent : Pm} (mono__law_bent : MonoP R__law_bent) (hkk : 2 ≤ kk) (m_isinstance : mg "isinstance" = none) (m_tuple : mg "tuple" = none) (m_len : mg "len" = none) (c__law_pick : DCal P w K mg base 1 "_law_pick" (spG K 2 R__law_pick)) (c__law_is_int : DCal P w K mg base 1 "_law_is_int" (spG K 1 R__law_is_int)) (c__law_of : DCal P w K mg base 2 "_law_of" (spG K 2 R__law_of)) (c__law_bent : DCal P w K mg base kk "_law_bent" (spG K 3 R__law_bent)) : WkT P w K mg base kk N__law_bent "_law_bent" st__law_bent (T__law_bent R__law_bent) := by
  intro f cdv A outer s H hr gd
  have nd := sc__law_bent.nd
  exact ⟨_, (dss_cons (ds_if (dt_pw (dw_and (dt_val (de_call c__law_is_int mono__law_is_int hr (Nat.le_trans (by decide) hkk) gd (da_d (de_var 1) da_nil))) (dw_and1 (dt_gt (DE.r (de_call c__law_pick mono__law_pick hr (Nat.le_trans (by decide) hkk) gd (da_s 0 (da_d de_int da_nil)))) (DE.r de_int))))) (dss_one (ds_ret (de_add (DE.w (de_var 1)) (DE.w (de_call c__law_of mono__law_of hr (Nat.le_trans (by decide) hkk) gd (da_s 0 (da_d (DF.d (df_lst (da_cons de_int (da_cons (de_sub (DE.r de_int) (DE.r de_int)) (da_cons de_int da_nil))))) da_nil))))))) dss_nil)
  (dss_cons (ds_if (dt_pw (dw_or (dt_not (dt_val (de_isi "tuple" "tuple" (by decide) boot_tuple m_isinstance m_tuple (DE.r (de_var 1))))) (dw_or (dt_eq hr (DE.r (de_var 1)) (DE.r (de_tup da_nil))) (dw_or1 (dt_eq hr (DE.r (de_call c__law_pick mono__law_pick hr (Nat.le_trans (by decide) hkk) gd (da_s 0 (da_d de_int da_nil)))) (DE.r de_int)))))) (dss_one (ds_ret (de_call c__law_of mono__law_of hr (Nat.le_trans (by decide) hkk) gd (da_s 0 (da_d (de_var 2) da_nil))))) dss_nil)
  (dss_cons (ds_par 3 4 rfl nd (da_cons (de_call c__law_pick mono__law_pick hr (Nat.le_trans (by decide) hkk) gd (da_s 0 (da_d (de_len m_len (da_consR (DE.r (de_var 1)) da_nil)) da_nil))) (da_cons (de_call c__law_pick mono__law_pick hr (Nat.le_trans (by decide) hkk) gd (da_s 0 (da_d de_int da_nil))) da_nil)))
  (dss_cons (ds_if (dt_lt (DE.r (de_var 4)) (DE.r de_int)) (dss_one (ds_ret (de_add (DE.w (de_add (DE.w (de_sl (DE.w (de_var 1)) do_no (do_so (DE.r (de_var 3))))) (DE.w (de_tup (da_cons (de_call c__law_bent mono__law_bent hr (Nat.le_refl _) gd (da_s 0 (da_d (de_ix (DE.w (de_var 1)) (DE.w (de_var 3))) (da_d (de_var 2) da_nil)))) da_nil))))) (DE.w (de_sl (DE.w (de_var 1)) (do_so (DE.r (de_add (DE.w (de_var 3)) (DE.w de_int)))) do_no))))) dss_nil)
  (dss_one (ds_ret (de_ix (DF.w (df_lst (da_cons (de_add (DE.w (de_sl (DE.w (de_var 1)) do_no (do_so (DE.r (de_var 3))))) (DE.w (de_sl (DE.w (de_var 1)) (do_so (DE.r (de_add (DE.w (de_var 3)) (DE.w de_int)))) do_no))) (da_cons (de_add (DE.w (de_sl (DE.w (de_var 1)) do_no (do_so (DE.r (de_add (DE.w (de_var 3)) (DE.w de_int)))))) (DE.w (de_sl (DE.w (de_var 1)) (do_so (DE.r (de_var 3))) do_no))) (da_cons (de_add (DE.w (de_sl (DE.w (de_var 1)) (do_so (DE.r (de_var 3))) do_no)) (DE.w (de_sl (DE.w (de_var 1)) do_no (do_so (DE.r (de_var 3)))))) da_nil))))) (DE.w (de_sub (DE.r (de_var 4)) (DE.r de_int))))))))))⟩
abbrev st__law_ask : Stmt := topS 52
abbrev N__law_ask : List Str := ["source", "a", "b", "way", "u", "v", "c", "some", "x", "y"]
theorem sc__law_ask : FnScope N__law_ask ["source"] (defScope st__law_ask) := ⟨rfl, rfl, rfl, by decide +kernel, rfl, by decide +kernel, by decide +kernel⟩
theorem wk__law_ask {P : Program} {w : World} {K : PySem.W.Frag} {mg : Str → Option Value} {base : Heap} (c__law_of : DCal P w K mg base 2 "_law_of" (spG K 2 R__law_of)) (c__law_pick : DCal P w K mg base 1 "_law_pick" (spG K 2 R__law_pick)) (c__law_part : DCal P w K mg base 2 "_law_part" (spG K 2 R__law_part)) (c__law_about : DCal P w K mg base 3 "_law_about" (spG K 1 R__law_about)) (c__law_on : DCal P w K mg base 3 "_law_on" (spG K 2 R__law_on)) (c__law_times : DCal P w K mg base 2 "_law_times" (spG K 2 R__law_times)) (c__law_sum : DCal P w K mg base 2 "_law_sum" (spG K 2 R__law_sum)) : WkT P w K mg base 3 N__law_ask "_law_ask" st__law_ask T__law_ask := by
  intro f cdv A outer s H hr gd
  have nd := sc__law_ask.nd
  exact ⟨_, (dss_cons (ds_set 1 nd (de_call c__law_of mono__law_of hr (by decide) gd (da_s 0 (da_d (DF.d (df_lst (da_cons (de_tup (da_cons de_int (da_cons de_int da_nil))) (da_cons (de_tup (da_cons de_int (da_cons de_int da_nil))) (da_cons (de_tup (da_cons (de_sub (DE.r de_int) (DE.r de_int)) (da_cons de_int da_nil))) (da_cons (de_tup (da_cons de_int (da_cons de_int da_nil))) da_nil)))))) da_nil))))
  (dss_cons (ds_set 2 nd (de_call c__law_of mono__law_of hr (by decide) gd (da_s 0 (da_d (DF.d (df_lst (da_cons (de_var 1) (da_cons (de_tup (da_cons (de_sub (DE.r de_int) (DE.r (de_ix (DE.w (de_var 1)) (DE.w de_int)))) (da_cons (de_ix (DE.w (de_var 1)) (DE.w de_int)) da_nil))) (da_cons (de_tup (da_cons de_int (da_cons de_int da_nil))) (da_cons (de_tup (da_cons de_int (da_cons de_int da_nil))) da_nil)))))) da_nil))))
  (dss_cons (ds_par 3 4 rfl nd (da_cons (de_call c__law_pick mono__law_pick hr (by decide) gd (da_s 0 (da_d de_int da_nil))) (da_cons (de_call c__law_part mono__law_part hr (by decide) gd (da_d (de_call c__law_pick mono__law_pick hr (by decide) gd (da_s 0 (da_d de_int da_nil))) (da_d (de_call c__law_of mono__law_of hr (by decide) gd (da_s 0 (da_d (DF.d (df_lst (da_cons de_int (da_cons de_int (da_cons de_int (da_cons de_int (da_cons de_int (da_cons de_int da_nil)))))))) da_nil))) da_nil))) da_nil)))
  (dss_cons (ds_set 5 nd (de_call c__law_of mono__law_of hr (by decide) gd (da_s 0 (da_d (DF.d (df_lst (da_cons (de_var 4) (da_cons (de_call c__law_about mono__law_about hr (by decide) gd (da_d (de_var 4) da_nil)) (da_cons (de_call c__law_on mono__law_on hr (by decide) gd (da_d (de_var 4) (da_d (de_tup (da_cons de_int (da_cons de_int da_nil))) da_nil))) (da_cons (de_call c__law_part mono__law_part hr (by decide) gd (da_d (de_call c__law_pick mono__law_pick hr (by decide) gd (da_s 0 (da_d de_int da_nil))) (da_d de_int da_nil))) da_nil)))))) da_nil))))
  (dss_cons (ds_set 6 nd (de_call c__law_of mono__law_of hr (by decide) gd (da_s 0 (da_d (DF.d (df_lst (da_cons (de_tup (da_cons de_int (da_cons de_int da_nil))) (da_cons (de_tup (da_cons de_int (da_cons de_int da_nil))) (da_cons (de_call c__law_times mono__law_times hr (by decide) gd (da_d (de_var 1) (da_d (de_tup (da_cons de_int (da_cons de_int da_nil))) da_nil))) (da_cons (de_call c__law_times mono__law_times hr (by decide) gd (da_d (de_var 1) (da_d (de_tup (da_cons (de_sub (DE.r de_int) (DE.r de_int)) (da_cons de_int da_nil))) da_nil))) da_nil)))))) da_nil))))
  (dss_cons (ds_if (dt_eq hr (DE.r (de_var 3)) (DE.r de_int)) (dss_cons (ds_asg (de_call c__law_of mono__law_of hr (by decide) gd (da_s 0 (da_d (DF.d (df_lst (da_cons (de_tup (da_cons (de_tup (da_cons de_int (da_cons de_int da_nil))) (da_cons (de_tup (da_cons de_int (da_cons de_int da_nil))) da_nil))) (da_cons (de_tup (da_cons (de_tup (da_cons de_int (da_cons de_int da_nil))) (da_cons (de_tup (da_cons de_int (da_cons de_int da_nil))) da_nil))) (da_cons (de_tup (da_cons (de_tup (da_cons de_int (da_cons de_int da_nil))) (da_cons (de_tup (da_cons de_int (da_cons de_int da_nil))) da_nil))) (da_cons (de_tup (da_cons (de_tup (da_cons de_int (da_cons de_int da_nil))) (da_cons (de_tup (da_cons de_int (da_cons de_int da_nil))) da_nil))) da_nil)))))) da_nil))) (dg_tup rfl (dgs_cons (dg_name 4 nd) (dgs_cons (dg_name 5 nd) dgs_nil))))
  (dss_one (ds_set 5 nd (de_if (dt_eq hr (DE.r (de_var 2)) (DE.r (de_var 1))) (de_var 5) (de_call c__law_on mono__law_on hr (by decide) gd (da_d (de_var 5) (da_d (de_tup (da_cons de_int (da_cons de_int da_nil))) da_nil))))))) dss_nil)
  (dss_cons (ds_if (dt_eq hr (DE.r (de_var 3)) (DE.r de_int)) (dss_cons (ds_set 7 nd (DF.d (df_lst (da_cons (de_tup (da_cons (de_tup (da_cons de_int (da_cons de_int da_nil))) (da_cons (de_tup (da_cons de_int (da_cons de_int da_nil))) da_nil))) (da_cons (de_tup (da_cons (de_tup (da_cons de_int (da_cons de_int da_nil))) (da_cons (de_tup (da_cons (de_sub (DE.r de_int) (DE.r de_int)) (da_cons de_int da_nil))) da_nil))) (da_cons (de_tup (da_cons (de_tup (da_cons de_int (da_cons de_int da_nil))) (da_cons (de_tup (da_cons (de_sub (DE.r de_int) (DE.r de_int)) (da_cons de_int da_nil))) da_nil))) (da_cons (de_tup (da_cons (de_tup (da_cons de_int (da_cons de_int da_nil))) (da_cons (de_tup (da_cons de_int (da_cons de_int da_nil))) da_nil))) (da_cons (de_tup (da_cons (de_tup (da_cons de_int (da_cons de_int da_nil))) (da_cons (de_tup (da_cons de_int (da_cons de_int da_nil))) da_nil))) da_nil))))))))
  (dss_cons (ds_asg (de_tup (da_cons (de_call c__law_of mono__law_of hr (by decide) gd (da_s 0 (da_d (de_var 7) da_nil))) (da_cons (de_call c__law_of mono__law_of hr (by decide) gd (da_s 0 (da_d (de_var 7) da_nil))) da_nil))) (dg_tup rfl (dgs_cons (dg_tup rfl (dgs_cons (dg_name 4 nd) (dgs_cons (dg_name 8 nd) dgs_nil))) (dgs_cons (dg_tup rfl (dgs_cons (dg_name 5 nd) (dgs_cons (dg_name 9 nd) dgs_nil))) dgs_nil))))
  (dss_one (ds_set 6 nd (de_call c__law_sum mono__law_sum hr (by decide) gd (da_d (de_call c__law_times mono__law_times hr (by decide) gd (da_d (de_var 1) (da_d (de_var 8) da_nil))) (da_d (de_call c__law_times mono__law_times hr (by decide) gd (da_d (de_var 2) (da_d (de_var 9) da_nil))) da_nil))))))) dss_nil)
  (dss_one (ds_ret (de_tup (da_cons (de_var 1) (da_cons (de_var 2) (da_cons (de_var 6) (da_cons (de_var 4) (da_cons (de_var 5) da_nil)))))))))))))))⟩
abbrev st_law : Stmt := topS 53
abbrev N_law : List Str := ["script", "source", "odd", "lap", "a", "b", "c", "u", "v", "both", "told", "kind", "paper", "values", "flags", "part", "x", "y", "value", "look", "held", "form", "due"]
theorem sc_law : FnScope N_law ["script"] (defScope st_law) := ⟨rfl, rfl, rfl, by decide +kernel, rfl, by decide +kernel, by decide +kernel⟩
theorem wk_law {P : Program} {w : World} {K : PySem.W.Frag} {mg : Str → Option Value} {base : Heap} (m_range : mg "range" = none) (m_repr : mg "repr" = none) (m_list : mg "list" = none) (m_tuple : mg "tuple" = none) (m_len : mg "len" = none) (m_isinstance : mg "isinstance" = none) (c__law_ask : DCal P w K mg base 4 "_law_ask" (spG K 1 R__law_ask)) (c_number_sum : DCal P w K mg base 5 "number_sum" (spG K 2 R_number_sum)) (c_number_often : DCal P w K mg base 5 "number_often" (spG K 2 R_number_often)) (c_cos_number : DCal P w K mg base 5 "cos_number" (spG K 1 R_cos_number)) (c_number_form : DCal P w K mg base 6 "number_form" (spG K 1 R_number_form)) (c_pair_kind : DCal P w K mg base 7 "pair_kind" (spG K 5 R_pair_kind)) (c__law_is_pair : DCal P w K mg base 6 "_law_is_pair" (spG K 5 R__law_is_pair)) (c_pair_number : DCal P w K mg base 7 "pair_number" (spG K 5 R_pair_number)) (c_fraction_told : DCal P w K mg base 7 "fraction_told" (spG K 1 R_fraction_told)) (c_pair_paper : DCal P w K mg base 8 "pair_paper" (spG K 5 R_pair_paper)) (c__law_of : DCal P w K mg base 2 "_law_of" (spG K 2 R__law_of)) (c__law_bent : DCal P w K mg base 23 "_law_bent" (spG K 3 R__law_bent)) (c_judge_pair : DCal P w K mg base 8 "judge_pair" (spG K 6 R_judge_pair)) (f : Addr) (cdv : Value) (A : Around) (outer : List Env) (s : Shared) (H : Hp) (hr : Room 23 (A.deeper (envOfC "law" (defScope st_law) s.heap.objs.size f cdv))) (gd : (A.deeper (envOfC "law" (defScope st_law) s.heap.objs.size f cdv)).guards = some []) :
    ∃ ts, DSs (cxOf CX0 P w K mg base N_law "law" (defScope st_law) f cdv A outer s H E0).nox ((defBody st_law).drop 1) ts T_law := by
  have nd := sc_law.nd
  exact ⟨_, (dss_cons (ds_set 2 nd (DF.d (df_lst (da_cons de_non (da_cons de_bl (da_cons de_int (da_cons de_int (da_cons (de_sub (DE.r de_int) (DE.r de_int)) (da_cons (de_tup da_nil) (da_cons de_str (da_cons de_str (da_cons de_str (da_cons (de_tup (da_cons de_int (da_cons de_int da_nil))) (da_cons (de_tup (da_cons (de_tup (da_cons de_int (da_cons de_int da_nil))) (da_cons (de_tup (da_cons de_int (da_cons de_int da_nil))) da_nil))) (da_cons (de_tup (da_cons (de_tup (da_cons (de_tup (da_cons de_int (da_cons de_int da_nil))) (da_cons (de_tup (da_cons de_int (da_cons de_int da_nil))) da_nil))) da_nil)) (da_cons (DF.d (df_lst da_nil)) (da_cons de_dict0 da_nil)))))))))))))))))
  (dss_cons (ds_for PassesOwn.never rfl (di_e (di_rng1 m_range (da_consR (DE.r de_int) da_nil))) (dg_name 3 nd)
  (dss_cons (ds_asg (de_call c__law_ask mono__law_ask hr (by decide) gd (da_s 1 da_nil)) (dg_tup rfl (dgs_cons (dg_name 4 nd) (dgs_cons (dg_name 5 nd) (dgs_cons (dg_name 6 nd) (dgs_cons (dg_name 7 nd) (dgs_cons (dg_name 8 nd) dgs_nil)))))))
  (dss_cons (ds_set 9 nd (de_call c_number_sum mono_number_sum hr (by decide) gd (da_d (de_call c_number_often mono_number_often hr (by decide) gd (da_d (de_var 4) (da_d (de_call c_cos_number mono_cos_number hr (by decide) gd (da_d (de_var 7) da_nil)) da_nil))) (da_d (de_call c_number_often mono_number_often hr (by decide) gd (da_d (de_var 5) (da_d (de_call c_cos_number mono_cos_number hr (by decide) gd (da_d (de_var 8) da_nil)) da_nil))) da_nil))))
  (dss_cons (ds_set 10 nd (de_call c_number_form mono_number_form hr (by decide) gd (da_d (de_call c_number_sum mono_number_sum hr (by decide) gd (da_d (de_var 9) (da_d (de_if (dt_ne hr (DE.r (de_var 6)) (DE.r (de_tup (da_cons de_int (da_cons de_int da_nil))))) (de_tup (da_cons (de_tup (da_cons (de_tup (da_cons de_int (da_cons de_int da_nil))) (da_cons (de_tup (da_cons (de_sub (DE.r de_int) (DE.r (de_ix (DE.w (de_var 6)) (DE.w de_int)))) (da_cons (de_ix (DE.w (de_var 6)) (DE.w de_int)) da_nil))) da_nil))) da_nil)) (de_tup da_nil)) da_nil))) da_nil)))
  (dss_cons (ds_set 11 nd (de_call c_pair_kind mono_pair_kind hr (by decide) gd (da_d (de_var 4) (da_d (de_var 5) (da_d (de_var 6) (da_d (de_var 7) (da_d (de_var 8) da_nil)))))))
  (dss_cons (ds_if (dt_pw (dw_or (dt_neS (DE.r (de_repr m_repr hr gd (DE.r (de_call c_pair_number mono_pair_number hr (by decide) gd (da_d (de_var 4) (da_d (de_var 5) (da_d (de_var 6) (da_d (de_var 7) (da_d (de_var 8) da_nil))))))))) (DE.r (de_repr m_repr hr gd (DE.r (de_var 10))))) (dw_or1 (dt_ne hr (DE.r (de_eq hr (DE.r (de_var 10)) (DE.r (de_tup da_nil)))) (DE.r (de_call c__law_is_pair mono__law_is_pair hr (by decide) gd (da_d (de_var 4) (da_d (de_var 5) (da_d (de_var 6) (da_d (de_var 7) (da_d (de_var 8) da_nil))))))))))) (dss_one (ds_ret de_bl)) dss_nil)
  (dss_cons (ds_if (dt_pw (dw_or (dt_ne hr (DE.r (de_notN (DE.r (de_var 11)) (DE.r de_non))) (DE.r (de_eq hr (DE.r (de_var 10)) (DE.r (de_tup da_nil))))) (dw_or1 (dt_pw (dw_and (dt_eq hr (DE.r (de_call c_fraction_told mono_fraction_told hr (by decide) gd (da_d (de_var 9) da_nil))) (DE.r (de_var 6))) (dw_and1 (dt_isN (DE.r (de_var 11)) (DE.r de_non)))))))) (dss_one (ds_ret de_bl)) dss_nil)
  (dss_cons (ds_set 12 nd (de_if (dt_notN (DE.r (de_var 11)) (DE.r de_non)) (de_tup (da_cons de_str (da_cons (de_var 11) da_nil))) (de_tup (da_cons de_str (da_cons (de_var 10) da_nil)))))
  (dss_cons (ds_if (dt_neS (DE.r (de_repr m_repr hr gd (DE.r (de_call c_pair_paper mono_pair_paper hr (by decide) gd (da_d (de_var 4) (da_d (de_var 5) (da_d (de_var 6) (da_d (de_var 7) (da_d (de_var 8) da_nil))))))))) (DE.r (de_repr m_repr hr gd (DE.r (de_var 12))))) (dss_one (ds_ret de_bl)) dss_nil)
  (dss_cons (ds_setO 13 nd (df_lst (da_cons (de_var 12) (da_cons (de_tup (da_cons de_str (da_cons (de_var 10) da_nil))) (da_cons (de_tup (da_cons de_str (da_cons de_str da_nil))) (da_cons (de_tup (da_cons de_str (da_cons de_str da_nil))) (da_cons (de_tup (da_cons de_str (da_cons de_str da_nil))) (da_cons (de_tup (da_cons de_str (da_cons (de_tup da_nil) da_nil))) da_nil))))))))
  (dss_cons (ds_setO 13 nd (df_cat (dr_var 13) (DF.r (df_lst (da_cons (DF.d (df_list m_list (DE.w (de_var 12)))) (da_cons (de_rev (DE.w (de_var 12))) (da_cons (de_add (DE.w (de_var 12)) (DE.w (de_tup (da_cons de_int da_nil)))) (da_cons (de_tup (da_cons de_str da_nil)) (da_cons (de_tup (da_cons de_str (da_cons de_non da_nil))) (da_cons (de_tup (da_cons de_str (da_cons de_str da_nil))) da_nil))))))))))
  (dss_cons (ds_setO 13 nd (df_cat (dr_var 13) (DF.r (df_lst (da_cons de_non (da_cons (de_tup da_nil) da_nil))))))
  (dss_cons (ds_setO 13 nd (df_cat (dr_var 13) (DF.r (df_lst (da_cons (de_tup (da_cons de_str (da_cons (de_var 10) da_nil))) (da_cons (de_tup (da_cons de_str (da_cons (DF.d (df_list m_list (DE.w (de_var 10)))) da_nil))) (da_cons (de_tup (da_cons de_str (da_cons (de_add (DE.w (de_var 10)) (DE.w (de_sl (DE.w (de_var 10)) do_no (do_so (DE.r de_int))))) da_nil))) (da_cons (de_tup (da_cons de_str (da_cons (de_tup (da_cons de_str da_nil)) da_nil))) da_nil))))))))
  (dss_cons (ds_append 13 (de_tup (da_cons de_str (da_cons (de_call c__law_of mono__law_of hr (by decide) gd (da_s 1 (da_d (de_var 2) da_nil))) da_nil))))
  (dss_cons (ds_set 14 nd (de_tuple m_tuple (DF.w (df_lc [("part", 15), ("x", 16), ("y", 17)] rfl nd (di_seq (de_var 10)) (blkOk_by (N := N_law) (sc := defScope st_law) (by decide +kernel)) (fun _ _ _ _ _ => (dg_tup rfl (dgs_cons (dg_name 15 nd) (dgs_cons (dg_tup rfl (dgs_cons (dg_name 16 nd) (dgs_cons (dg_name 17 nd) dgs_nil))) dgs_nil)))) (fun _ _ _ _ _ => dts_nil) (fun _ _ _ _ _ => (de_tup (da_cons (de_var 15) (da_cons (de_if (dt_eq hr (DE.r (de_tup (da_cons (de_var 16) (da_cons (de_var 17) da_nil)))) (DE.r (de_tup (da_cons de_int (da_cons de_int da_nil))))) (de_tup (da_cons (de_eq hr (DE.r (de_var 16)) (DE.r de_int)) (da_cons (de_eq hr (DE.r (de_var 17)) (DE.r de_int)) da_nil))) (de_tup (da_cons (de_var 16) (da_cons (de_var 17) da_nil)))) da_nil)))) s H))))
  (dss_cons (ds_setO 13 nd (df_cat (dr_var 13) (DF.r (df_lst (da_cons (de_tup (da_cons de_str (da_cons (de_var 14) da_nil))) (da_cons (de_tup (da_cons (de_call c__law_of mono__law_of hr (by decide) gd (da_s 1 (da_d (de_var 2) da_nil))) (da_cons (de_var 10) da_nil))) (da_cons (de_tup (da_cons de_str (da_cons (de_tup (da_cons (de_tup (da_cons (de_tup (da_cons de_int (da_cons de_int da_nil))) (da_cons (de_tup (da_cons de_int (da_cons de_int da_nil))) da_nil))) da_nil)) da_nil))) da_nil)))))))
  (dss_one (ds_for PassesOwn.never rfl (di_e (di_seq (DF.d (df_cat (dr_var 13) (DF.r (df_lc [("look", 19)] rfl nd (di_rng1 m_range (da_consR (DE.r de_int) da_nil)) (blkOk_by (N := N_law) (sc := defScope st_law) (by decide +kernel)) (fun _ _ _ _ _ => (dg_name 19 nd)) (fun _ _ _ _ _ => dts_nil) (fun _ _ _ _ _ => (de_call c__law_bent mono__law_bent hr (by decide) gd (da_s 1 (da_d (de_tup (da_cons de_str (da_cons (de_var 10) da_nil))) (da_d (de_var 2) da_nil))))) s H)))))) (dg_name 18 nd)
  (dss_cons (ds_par 20 21 rfl nd (da_cons (de_repr m_repr hr gd (DE.r (de_var 18))) (da_cons (de_andV (de_isi "tuple" "tuple" (by decide) boot_tuple m_isinstance m_tuple (DE.r (de_var 18))) (de_one (de_eq hr (DE.r (de_len m_len (da_consR (DE.r (de_var 18)) da_nil))) (DE.r de_int)))) da_nil)))
  (dss_cons (ds_set 21 nd (de_andV (de_var 21) (de_one (de_inS (DE.r (de_repr m_repr hr gd (DE.r (de_ix (DE.w (de_var 18)) (DE.w de_int))))) (DE.r (de_tup (da_cons de_str (da_cons de_str da_nil))))))))
  (dss_cons (ds_if (dt_pw (dw_and (dt_tru (DE.r (de_var 21))) (dw_and1 (dt_eq hr (DE.r (de_ix (DE.w (de_var 18)) (DE.w de_int))) (DE.r de_str))))) (dss_one (ds_set 21 nd (de_inS (DE.r (de_repr m_repr hr gd (DE.r (de_ix (DE.w (de_var 18)) (DE.w de_int))))) (DE.r (de_tup (da_cons de_str (da_cons de_str (da_cons de_str da_nil)))))))) dss_nil)
  (dss_cons (ds_set 22 nd (de_if (dt_tru (DE.r (de_var 21))) de_non (de_tup (da_cons de_str da_nil))))
  (dss_cons (ds_if (dt_pw (dw_and (dt_tru (DE.r (de_var 21))) (dw_and1 (dt_eq hr (DE.r (de_ix (DE.w (de_var 18)) (DE.w de_int))) (DE.r de_str))))) (dss_one (ds_set 22 nd (de_if (dt_pw (dw_or (dt_eq hr (DE.r (de_var 10)) (DE.r (de_tup da_nil))) (dw_or1 (dt_neS (DE.r (de_repr m_repr hr gd (DE.r (de_ix (DE.w (de_var 18)) (DE.w de_int))))) (DE.r (de_repr m_repr hr gd (DE.r (de_var 10)))))))) (de_tup (da_cons de_str (da_cons (de_var 10) da_nil))) de_non))) dss_nil)
  (dss_cons (ds_if (dt_pw (dw_and (dt_tru (DE.r (de_var 21))) (dw_and1 (dt_eq hr (DE.r (de_ix (DE.w (de_var 18)) (DE.w de_int))) (DE.r de_str))))) (dss_one (ds_set 22 nd (de_if (dt_ne hr (DE.r (de_var 10)) (DE.r (de_tup da_nil))) (de_tup (da_cons de_str (da_cons (de_var 10) da_nil))) (de_if (dt_ne hr (DE.r (de_ix (DE.w (de_var 18)) (DE.w de_int))) (DE.r (de_var 11))) (de_tup (da_cons de_str (da_cons (de_var 11) da_nil))) de_non)))) dss_nil)
  (dss_cons (ds_if (dt_pw (dw_or (dt_neS (DE.r (de_repr m_repr hr gd (DE.r (de_call c_judge_pair mono_judge_pair hr (by decide) gd (da_d (de_var 4) (da_d (de_var 5) (da_d (de_var 6) (da_d (de_var 7) (da_d (de_var 8) (da_d (de_var 18) da_nil)))))))))) (DE.r (de_repr m_repr hr gd (DE.r (de_var 22))))) (dw_or1 (dt_neS (DE.r (de_repr m_repr hr gd (DE.r (de_var 18)))) (DE.r (de_var 20)))))) (dss_one (ds_ret de_bl)) dss_nil)
  (dss_one (ds_if (dt_pw (dw_and (dt_isN (DE.r (de_var 22)) (DE.r de_non)) (dw_and1 (dt_neS (DE.r (de_repr m_repr hr gd (DE.r (de_var 18)))) (DE.r (de_repr m_repr hr gd (DE.r (de_var 12)))))))) (dss_one (ds_ret de_bl)) dss_nil)))))))))))))))))))))))))))
  (dss_one (ds_ret (de_isN (DE.r (de_call c_judge_pair mono_judge_pair hr (by decide) gd (da_d (de_tup (da_cons de_int (da_cons de_int da_nil))) (da_d (de_tup (da_cons de_int (da_cons de_int da_nil))) (da_d (de_tup (da_cons de_int (da_cons de_int da_nil))) (da_d (de_tup (da_cons de_int (da_cons de_int da_nil))) (da_d (de_tup (da_cons de_int (da_cons de_int da_nil))) (da_d (de_tup (da_cons de_str (da_cons de_str da_nil))) da_nil)))))))) (DE.r de_non))))))⟩
end K60
/-! H60: the walks by hand of k60. -/
namespace K60
open PySem PySem.Spec L2 DL TP
open PyProof.Rows hiding St
set_option maxHeartbeats 1000000
theorem wk__law_pick {P : Program} {w : World} {K : PySem.W.Frag} {mg : Str → Option Value} {base : Heap} (m_len : mg "len" = none) (m_max : mg "max" = none) (m_int : mg "int" = none) : WkH P w K mg base 0 N__law_pick "_law_pick" st__law_pick (tPick K) := by
  intro f cdv A outer s H hr gd
  have nd := sc__law_pick.nd
  have hu := hu_of hr
  exact pss_cons (ps_while PassesOwn.never (pw_and (pt_cmpR op_gt (pv 1) pe_int (nomark _)) (pw_and (pt_cmpR op_lt (pe_dget hu (pv 0) pe_str fun _ _ => rfl) pe_int (nomark _)) (pw_and1 (pt_cmpR op_gt (pe_callB call_len (by rfl) m_len boot_len (pa_cons (pe_dget hu (pv 0) pe_str fun _ _ => rfl) pa_nil)) pe_int (nomark _))))).pt
      (pss_one (ps_dput hu (pv 0) pe_str (pe_bm0 PySem.F.plainAttrs_list PySem.F.slot_list_pop PySem.F.type_list_pop mt_pop (pe_dget hu (pv 0) pe_str fun _ _ => rfl)) rfl)))
    (pss_cons (ps_set (i := 2) nd rfl (.inl rfl) (pe_dget hu (pv 0) pe_str fun _ _ => rfl))
    (pss_cons (ps_if (pw_or (pt_cmpR op_lt (pv 1) pe_int (nomark _)) (pw_or1 (pt_cmpR op_gt (pv 2) pe_int (nomark _)))).pt
      (pss_cons (ps_dput hu (pv 0) pe_str (pe_op op_fdivN (pv 2) (pe_callB (call_max2 rfl) (by rfl) m_max boot_max (pa_cons pe_int (pa_cons (pv 1) pa_nil)))) rfl)
      (pss_one (ps_ret (pe_op op_modN (pe_callTy call_int1 (by rfl) m_int boot_int (pa_cons (pv 2) pa_nil)) (pe_callB (call_max2 rfl) (by rfl) m_max boot_max (pa_cons pe_int (pa_cons (pv 1) pa_nil))))))) pss_nil)
    (pss_cons (ps_dput hu (pv 0) pe_str (pe_op op_add (pe_dget hu (pv 0) pe_str fun _ _ => rfl) pe_int) rfl)
    (pss_cons (ps_set (i := 3) nd rfl (.inl rfl) (pe_op op_modN (pe_callTy call_int1 (by rfl) m_int boot_int (pa_cons (pe_op op_add (pe_dget hu (pv 0) pe_str fun _ _ => rfl) (pe_op op_mul (pe_dget hu (pv 0) pe_str fun _ _ => rfl) pe_int)) pa_nil)) pe_int))
    (pss_cons (ps_set (i := 3) nd rfl (.inl rfl) (pe_op op_modN (pe_callTy call_int1 (by rfl) m_int boot_int (pa_cons (pe_op op_add (pe_op op_mul (pv 3) (pv 3)) (pe_op op_mul (pe_dget hu (pv 0) pe_str fun _ _ => rfl) pe_int)) pa_nil)) pe_int))
    (pss_cons (ps_dput hu (pv 0) pe_str (pv 3) rfl)
    (pss_one (ps_ret (pe_op op_modN (pe_callTy call_int1 (by rfl) m_int boot_int (pa_cons (pe_op op_fdivN (pv 3) pe_int) pa_nil)) (pv 1))))))))))
theorem pick_cal {P : Program} {w : World} {K : PySem.W.Frag} {mg : Str → Option Value} {base : Heap} (D : FDef K mg "_law_pick" st__law_pick ["source", "many"]) (m_len : mg "len" = none) (m_max : mg "max" = none) (m_int : mg "int" = none) :
    DCal P w K mg base 1 "_law_pick" (spG K 2 R__law_pick) :=
  (wk__law_pick m_len m_max m_int).cal D sc__law_pick (fun vs H Q h => h.1) fun vs H Q h => pick_sem rfl vs H Q h
theorem wk__law_source {P : Program} {w : World} {K : PySem.W.Frag} {mg : Str → Option Value} {base : Heap} (m_abs : mg "abs" = none) (m_int : mg "int" = none) : WkH P w K mg base 0 N__law_source "_law_source" st__law_source (tSrc K) := by
  intro f cdv A outer s H hr gd
  have nd := sc__law_source.nd
  exact pss_cons (ps_set (i := 1) nd rfl (.inl rfl) pe_int)
    (pss_cons (ps_for PassesOwn.never rfl (pi_list (pv 0)) (pg_name (i := 2) nd rfl (.inl rfl)) (pss_one (ps_set (i := 1) nd rfl (.inl rfl) (pe_op op_modN (pe_callTy call_int1 (by rfl) m_int boot_int (pa_cons (pe_op op_add (pe_op op_add (pe_op op_mul (pv 1) pe_int) (pe_op op_mul (pv 2) pe_int)) pe_int) pa_nil)) pe_int))))
    (pss_one (ps_ret (pe_disp (pps_cons pe_str (pe_revL (pe_lc (own := [("cell", 2)]) rfl nd (pi_list (pv 0)) (blkOk_by (N := N__law_source) (sc := defScope st__law_source) (by decide +kernel)) (fun _ _ _ _ _ => pg_name (i := 2) nd rfl (.inl rfl)) (fun _ _ _ _ _ => pts_nil) (fun _ _ _ _ _ => pe_callB call_abs (by rfl) m_abs boot_abs (pa_cons (pv 2) pa_nil))))
      (pps_cons pe_str pe_int (pps_cons pe_str (pv 1) (pps_cons pe_str pe_int pps_nil)))) rfl rfl (List.cons_ne_nil _ _) (by exact of_decide_eq_true rfl)))))
theorem source_cal {P : Program} {w : World} {K : PySem.W.Frag} {mg : Str → Option Value} {base : Heap} (D : FDef K mg "_law_source" st__law_source ["script"]) (m_abs : mg "abs" = none) (m_int : mg "int" = none) : DCal P w K mg base 1 "_law_source" (spSrc K) := by
  refine (wk__law_source m_abs m_int).cal D sc__law_source (fun vs H Q h => ?_) fun vs H Q h => ?_
  · obtain ⟨a, ns, rfl, _⟩ := h; rfl
  · obtain ⟨a, ns, rfl, hS, hz, q⟩ := h
    exact src_ok hS hz q
theorem cos_cal {P : Program} {w : World} {K : PySem.W.Frag} {mg : Str → Option Value} {base : Heap} {aC : Addr} (hm : mg "COSINES" = some (.ref aC)) (t : TabK K aC TP.cosTable) (D : FDef K mg "cosine_fraction" st_cosine_fraction ["part"]) :
    DCal P w K mg base 1 "cosine_fraction" (spGC K 1 TP.R_cosine_fraction) := by
  obtain ⟨xs, hx, ht⟩ := t.dict TP.cos_nd
  exact ret_calC (k := 0) (N := N_cosine_fraction) (ps := ["part"]) (te := tKGet xs (tVar 0)) (t := dKGet (tabD TP.cosTable) (dVar 0)) rfl (fun f cdv A outer s H hr => dc_kget hr (hx _ _) t.lo hm (de_var 0) ht) D sc_cosine_fraction TP.p_cosine_fraction
theorem bent_cal {P : Program} {w : World} {K : PySem.W.Frag} {mg : Str → Option Value} {base : Heap} (D : FDef K mg "_law_bent" st__law_bent ["source", "value", "odd"]) (m_isinstance : mg "isinstance" = none) (m_tuple : mg "tuple" = none) (m_len : mg "len" = none)
    (c__law_pick : DCal P w K mg base 1 "_law_pick" (spG K 2 R__law_pick)) (c__law_is_int : DCal P w K mg base 1 "_law_is_int" (spG K 1 R__law_is_int)) (c__law_of : DCal P w K mg base 2 "_law_of" (spG K 2 R__law_of)) : ∀ n : Nat, DCal P w K mg base (3 + n) "_law_bent" (spG K 3 (RN__law_bent n))
  | 0 => by
    obtain ⟨f, fd, F, hm, hb⟩ := D.ex
    have c0 : DCal P w K mg base 2 "_law_bent" (spG K 3 fun _ _ => False) := ⟨f, fd, ["source", "value", "odd"], ⟨fun vs H Q h => h.1, fun A outer s H args us vs Q hr gd e b r h => absurd h.2 (fun ⟨_, _, _, _, _, z⟩ => z)⟩, hm, F.kp, hb⟩
    exact (wk__law_bent (kk := 2) (fun _ _ _ _ q => q) (Nat.le_refl _) m_isinstance m_tuple m_len c__law_pick c__law_is_int c__law_of c0).cal D sc__law_bent (p__law_bent 0 _ fun v odd Q h => by
      obtain ⟨m, hm, _⟩ := h
      omega)
  | n + 1 => by
    have ih := bent_cal D m_isinstance m_tuple m_len c__law_pick c__law_is_int c__law_of n
    exact (wk__law_bent (kk := 3 + n) (monoN__law_bent n) (by omega) m_isinstance m_tuple m_len c__law_pick c__law_is_int c__law_of ih).cal D sc__law_bent (p__law_bent (n + 1) _ fun v odd Q h => by
      obtain ⟨m, hm, h1, h2, h3⟩ := h
      have : m = n := by omega
      subst this
      exact ⟨(v, odd), rfl, ⟨h1, h2⟩, h3⟩)
theorem law_run60 {P : Program} {w : World} {K : PySem.W.Frag} {mg : Str → Option Value} {base : Heap} {f : Addr} {fd : FuncData} (F : Fun K "law" "law" st_law f fd) (c : DCal P w K mg base 1 "_law_source" (spSrc K))
    (W : ∀ (f : Addr) (cdv : Value) (A : Around) (outer : List Env) (s : Shared) (H : Hp), Room 23 (A.deeper (envOfC "law" (defScope st_law) s.heap.objs.size f cdv)) → (A.deeper (envOfC "law" (defScope st_law) s.heap.objs.size f cdv)).guards = some [] →
      ∃ ts, DSs (cxOf CX0 P w K mg base N_law "law" (defScope st_law) f cdv A outer s H E0).nox ((defBody st_law).drop 1) ts T_law) : FnG P w K mg base 24 f fd ["script"] (spLaw K) := by
  refine Fun.okG F sc_law (fun vs H Q h => ?_) (fun cdv A outer s H vs Q hr gd h => ?_)
  · obtain ⟨a, ns, rfl, _⟩ := h; rfl
  obtain ⟨a, ns, rfl, hl, only, hS, q⟩ := h
  obtain ⟨ts, hts⟩ := W f cdv A outer s H hr gd
  obtain ⟨f', fd', ps', F', mx, kp, bd⟩ := c.ex
  have nd := sc_law.nd
  refine ⟨tSeq (tAsg (tCallG (spSrc K) (tCons (tVar 0) tNil)) (gName 1)) ts, ?_, ?_⟩
  · exact pss_cons (ps_set (i := 1) nd rfl (.inr rfl) (pe_callG F' (hr.mono (by decide)) gd (by rfl) mx kp bd (pa_cons (pv 0) pa_nil))) hts.ps
  · refine ⟨.ref a, rfl, a, ns, rfl, hS, by omega, fun p c' H' m n1 n2 npc h1 h2 hk ht => ?_⟩
    have noT : ∀ b xs, H' b = some (.tup xs) → False := fun b xs e => by
      have e' := ht b xs e
      rcases only b with z | ⟨o, ys, z⟩
      · rw [z] at e'; cases e'
      · rw [z] at e'; cases e'
    have wd : Wd (some (p, c')) (fun _ => none) H' := by
      refine ⟨fun b o e => (by cases e), fun p2 c2 e => ?_, fun b xs e => (noT b xs e).elim⟩
      cases e
      exact ⟨⟨npc, _, 1, m, 0, h1, h2, by rw [List.length_reverse, List.length_map]; omega⟩, rfl, rfl⟩
    have e0 : ER K (some (p, c')) (fun _ => none) H' (fun _ => none) H' [.un, .src, .un, .un, .un, .un, .un, .un, .un, .un, .un, .un, .un, .un, .un, .un, .un, .un, .un, .un, .un, .un, .un] ((L2.start N_law [V.ref a]).set 1 (some (.ref p))) := by
      refine ⟨wd, Le.refl wd, rfl, fun _ => none, fun i s hs => ?_⟩
      match i, hs with
      | 1, hs => cases hs; exact ⟨p, c', rfl, rfl⟩
      | 0, hs => cases hs; exact True.intro
      | i + 2, hs =>
        have : s = .un := by
          rw [List.getElem?_cons_succ, List.getElem?_cons_succ] at hs
          have hm := List.mem_of_getElem? hs
          simpa using hm
        subst this
        exact True.intro
    refine hts.rd.rs (some (p, c')) (fun _ => none) H' (fun _ => none) H' _ _ _ _ e0 (law_body (fun d => d = .bool true) rfl) ⟨?_, ?_, ?_, ?_⟩
    · intro ρ' σ' G' H2 _ _ z; cases z
    · intro v d G' H2 _ r z
      have z' : d = .bool true := z
      subst z'
      cases r
      exact q H2
    · intro ρ' σ' G' H2 _ _ z; exact z.elim
    · intro ρ' σ' G' H2 _ _ z; exact z.elim
structure Tops (K : PySem.W.Frag) (mg : Str → Option Value) : Prop where
  d_common_divisor : FDef K mg "common_divisor" st_common_divisor ["a", "b"]
  d_fraction_of : FDef K mg "fraction_of" st_fraction_of ["p", "q"]
  d_fraction_sum : FDef K mg "fraction_sum" st_fraction_sum ["x", "y"]
  d_fraction_times : FDef K mg "fraction_times" st_fraction_times ["x", "y"]
  d_fraction_turned : FDef K mg "fraction_turned" st_fraction_turned ["x"]
  d_part_of : FDef K mg "part_of" st_part_of ["p", "q"]
  d_part_sum : FDef K mg "part_sum" st_part_sum ["one", "other"]
  d_part_turned : FDef K mg "part_turned" st_part_turned ["part"]
  d_primes_of : FDef K mg "primes_of" st_primes_of ["q"]
  d_inverse_by : FDef K mg "inverse_by" st_inverse_by ["a", "m"]
  d_prime_part : FDef K mg "prime_part" st_prime_part ["part", "p"]
  d_loose_primes : FDef K mg "loose_primes" st_loose_primes ["part"]
  d_parts_round : FDef K mg "parts_round" st_parts_round ["part", "p"]
  d_cosine_fraction : FDef K mg "cosine_fraction" st_cosine_fraction ["part"]
  d_pair_sum : FDef K mg "pair_sum" st_pair_sum ["a", "b", "x", "y"]
  d_is_line_pair : FDef K mg "is_line_pair" st_is_line_pair ["a", "b", "u", "v"]
  d_folded_part : FDef K mg "folded_part" st_folded_part ["part"]
  d_is_five_pair : FDef K mg "is_five_pair" st_is_five_pair ["a", "b", "c", "u", "v"]
  d_pair_kind : FDef K mg "pair_kind" st_pair_kind ["a", "b", "c", "u", "v"]
  d_number_of : FDef K mg "number_of" st_number_of ["pairs"]
  d_number_sum : FDef K mg "number_sum" st_number_sum ["one", "other"]
  d_number_often : FDef K mg "number_often" st_number_often ["c", "number"]
  d_number_form : FDef K mg "number_form" st_number_form ["number"]
  d_fraction_told : FDef K mg "fraction_told" st_fraction_told ["number"]
  d_cos_number : FDef K mg "cos_number" st_cos_number ["part"]
  d_pair_number : FDef K mg "pair_number" st_pair_number ["a", "b", "c", "u", "v"]
  d_pair_paper : FDef K mg "pair_paper" st_pair_paper ["a", "b", "c", "u", "v"]
  d_judge_pair : FDef K mg "judge_pair" st_judge_pair ["a", "b", "c", "u", "v", "value"]
  d__law_source : FDef K mg "_law_source" st__law_source ["script"]
  d__law_pick : FDef K mg "_law_pick" st__law_pick ["source", "many"]
  d__law_of : FDef K mg "_law_of" st__law_of ["source", "some"]
  d__law_lowest : FDef K mg "_law_lowest" st__law_lowest ["a", "b"]
  d__law_part : FDef K mg "_law_part" st__law_part ["t", "order"]
  d__law_common : FDef K mg "_law_common" st__law_common ["a", "b"]
  d__law_lots_by : FDef K mg "_law_lots_by" st__law_lots_by ["here", "m", "p"]
  d__law_is_nought : FDef K mg "_law_is_nought" st__law_is_nought ["pairs"]
  d__law_sum : FDef K mg "_law_sum" st__law_sum ["x", "y"]
  d__law_times : FDef K mg "_law_times" st__law_times ["x", "y"]
  d__law_on : FDef K mg "_law_on" st__law_on ["one", "other"]
  d__law_about : FDef K mg "_law_about" st__law_about ["part"]
  d__law_pairs_of : FDef K mg "_law_pairs_of" st__law_pairs_of ["c", "part"]
  d__law_adds : FDef K mg "_law_adds" st__law_adds ["pairs"]
  d__law_is_pair : FDef K mg "_law_is_pair" st__law_is_pair ["a", "b", "c", "u", "v"]
  d__law_is_int : FDef K mg "_law_is_int" st__law_is_int ["value"]
  d__law_bent : FDef K mg "_law_bent" st__law_bent ["source", "value", "odd"]
  d__law_ask : FDef K mg "_law_ask" st__law_ask ["source"]
  d_law : FDef K mg "law" st_law ["script"]
  m_abs : mg "abs" = none
  m_len : mg "len" = none
  m_tuple : mg "tuple" = none
  m_list : mg "list" = none
  m_int : mg "int" = none
  m_str : mg "str" = none
  m_bool : mg "bool" = none
  m_range : mg "range" = none
  m_sorted : mg "sorted" = none
  m_min : mg "min" = none
  m_max : mg "max" = none
  m_repr : mg "repr" = none
  m_isinstance : mg "isinstance" = none
theorem tops_mk {K : PySem.W.Frag} {h : Heap} {mg : Str → Option Value} (X : K.In h) (G : h.Ns mainGlobals mg)
    {f_0 : Addr} {od_0 an_0 : Option Addr} {sl_0 : Array (Option Value)} {oc_0 kV_0 dc_0 pm_0 cd_0 ct_0 : Value}
    {f_1 : Addr} {od_1 an_1 : Option Addr} {sl_1 : Array (Option Value)} {oc_1 kV_1 dc_1 pm_1 cd_1 ct_1 : Value}
    {f_2 : Addr} {od_2 an_2 : Option Addr} {sl_2 : Array (Option Value)} {oc_2 kV_2 dc_2 pm_2 cd_2 ct_2 : Value}
    {f_3 : Addr} {od_3 an_3 : Option Addr} {sl_3 : Array (Option Value)} {oc_3 kV_3 dc_3 pm_3 cd_3 ct_3 : Value}
    {f_4 : Addr} {od_4 an_4 : Option Addr} {sl_4 : Array (Option Value)} {oc_4 kV_4 dc_4 pm_4 cd_4 ct_4 : Value}
    {f_5 : Addr} {od_5 an_5 : Option Addr} {sl_5 : Array (Option Value)} {oc_5 kV_5 dc_5 pm_5 cd_5 ct_5 : Value}
    {f_6 : Addr} {od_6 an_6 : Option Addr} {sl_6 : Array (Option Value)} {oc_6 kV_6 dc_6 pm_6 cd_6 ct_6 : Value}
    {f_7 : Addr} {od_7 an_7 : Option Addr} {sl_7 : Array (Option Value)} {oc_7 kV_7 dc_7 pm_7 cd_7 ct_7 : Value}
    {f_8 : Addr} {od_8 an_8 : Option Addr} {sl_8 : Array (Option Value)} {oc_8 kV_8 dc_8 pm_8 cd_8 ct_8 : Value}
    {f_9 : Addr} {od_9 an_9 : Option Addr} {sl_9 : Array (Option Value)} {oc_9 kV_9 dc_9 pm_9 cd_9 ct_9 : Value}
    {f_10 : Addr} {od_10 an_10 : Option Addr} {sl_10 : Array (Option Value)} {oc_10 kV_10 dc_10 pm_10 cd_10 ct_10 : Value}
    {f_11 : Addr} {od_11 an_11 : Option Addr} {sl_11 : Array (Option Value)} {oc_11 kV_11 dc_11 pm_11 cd_11 ct_11 : Value}
    {f_12 : Addr} {od_12 an_12 : Option Addr} {sl_12 : Array (Option Value)} {oc_12 kV_12 dc_12 pm_12 cd_12 ct_12 : Value}
    {f_13 : Addr} {od_13 an_13 : Option Addr} {sl_13 : Array (Option Value)} {oc_13 kV_13 dc_13 pm_13 cd_13 ct_13 : Value}
    {f_14 : Addr} {od_14 an_14 : Option Addr} {sl_14 : Array (Option Value)} {oc_14 kV_14 dc_14 pm_14 cd_14 ct_14 : Value}
    {f_15 : Addr} {od_15 an_15 : Option Addr} {sl_15 : Array (Option Value)} {oc_15 kV_15 dc_15 pm_15 cd_15 ct_15 : Value}
    {f_16 : Addr} {od_16 an_16 : Option Addr} {sl_16 : Array (Option Value)} {oc_16 kV_16 dc_16 pm_16 cd_16 ct_16 : Value}
    {f_17 : Addr} {od_17 an_17 : Option Addr} {sl_17 : Array (Option Value)} {oc_17 kV_17 dc_17 pm_17 cd_17 ct_17 : Value}
    {f_18 : Addr} {od_18 an_18 : Option Addr} {sl_18 : Array (Option Value)} {oc_18 kV_18 dc_18 pm_18 cd_18 ct_18 : Value}
    {f_19 : Addr} {od_19 an_19 : Option Addr} {sl_19 : Array (Option Value)} {oc_19 kV_19 dc_19 pm_19 cd_19 ct_19 : Value}
    {f_20 : Addr} {od_20 an_20 : Option Addr} {sl_20 : Array (Option Value)} {oc_20 kV_20 dc_20 pm_20 cd_20 ct_20 : Value}
    {f_21 : Addr} {od_21 an_21 : Option Addr} {sl_21 : Array (Option Value)} {oc_21 kV_21 dc_21 pm_21 cd_21 ct_21 : Value}
    {f_22 : Addr} {od_22 an_22 : Option Addr} {sl_22 : Array (Option Value)} {oc_22 kV_22 dc_22 pm_22 cd_22 ct_22 : Value}
    {f_23 : Addr} {od_23 an_23 : Option Addr} {sl_23 : Array (Option Value)} {oc_23 kV_23 dc_23 pm_23 cd_23 ct_23 : Value}
    {f_24 : Addr} {od_24 an_24 : Option Addr} {sl_24 : Array (Option Value)} {oc_24 kV_24 dc_24 pm_24 cd_24 ct_24 : Value}
    {f_25 : Addr} {od_25 an_25 : Option Addr} {sl_25 : Array (Option Value)} {oc_25 kV_25 dc_25 pm_25 cd_25 ct_25 : Value}
    {f_26 : Addr} {od_26 an_26 : Option Addr} {sl_26 : Array (Option Value)} {oc_26 kV_26 dc_26 pm_26 cd_26 ct_26 : Value}
    {f_27 : Addr} {od_27 an_27 : Option Addr} {sl_27 : Array (Option Value)} {oc_27 kV_27 dc_27 pm_27 cd_27 ct_27 : Value}
    {f_28 : Addr} {od_28 an_28 : Option Addr} {sl_28 : Array (Option Value)} {oc_28 kV_28 dc_28 pm_28 cd_28 ct_28 : Value}
    {f_29 : Addr} {od_29 an_29 : Option Addr} {sl_29 : Array (Option Value)} {oc_29 kV_29 dc_29 pm_29 cd_29 ct_29 : Value}
    {f_30 : Addr} {od_30 an_30 : Option Addr} {sl_30 : Array (Option Value)} {oc_30 kV_30 dc_30 pm_30 cd_30 ct_30 : Value}
    {f_31 : Addr} {od_31 an_31 : Option Addr} {sl_31 : Array (Option Value)} {oc_31 kV_31 dc_31 pm_31 cd_31 ct_31 : Value}
    {f_32 : Addr} {od_32 an_32 : Option Addr} {sl_32 : Array (Option Value)} {oc_32 kV_32 dc_32 pm_32 cd_32 ct_32 : Value}
    {f_33 : Addr} {od_33 an_33 : Option Addr} {sl_33 : Array (Option Value)} {oc_33 kV_33 dc_33 pm_33 cd_33 ct_33 : Value}
    {f_34 : Addr} {od_34 an_34 : Option Addr} {sl_34 : Array (Option Value)} {oc_34 kV_34 dc_34 pm_34 cd_34 ct_34 : Value}
    {f_35 : Addr} {od_35 an_35 : Option Addr} {sl_35 : Array (Option Value)} {oc_35 kV_35 dc_35 pm_35 cd_35 ct_35 : Value}
    {f_36 : Addr} {od_36 an_36 : Option Addr} {sl_36 : Array (Option Value)} {oc_36 kV_36 dc_36 pm_36 cd_36 ct_36 : Value}
    {f_37 : Addr} {od_37 an_37 : Option Addr} {sl_37 : Array (Option Value)} {oc_37 kV_37 dc_37 pm_37 cd_37 ct_37 : Value}
    {f_38 : Addr} {od_38 an_38 : Option Addr} {sl_38 : Array (Option Value)} {oc_38 kV_38 dc_38 pm_38 cd_38 ct_38 : Value}
    {f_39 : Addr} {od_39 an_39 : Option Addr} {sl_39 : Array (Option Value)} {oc_39 kV_39 dc_39 pm_39 cd_39 ct_39 : Value}
    {f_40 : Addr} {od_40 an_40 : Option Addr} {sl_40 : Array (Option Value)} {oc_40 kV_40 dc_40 pm_40 cd_40 ct_40 : Value}
    {f_41 : Addr} {od_41 an_41 : Option Addr} {sl_41 : Array (Option Value)} {oc_41 kV_41 dc_41 pm_41 cd_41 ct_41 : Value}
    {f_42 : Addr} {od_42 an_42 : Option Addr} {sl_42 : Array (Option Value)} {oc_42 kV_42 dc_42 pm_42 cd_42 ct_42 : Value}
    {f_43 : Addr} {od_43 an_43 : Option Addr} {sl_43 : Array (Option Value)} {oc_43 kV_43 dc_43 pm_43 cd_43 ct_43 : Value}
    {f_44 : Addr} {od_44 an_44 : Option Addr} {sl_44 : Array (Option Value)} {oc_44 kV_44 dc_44 pm_44 cd_44 ct_44 : Value}
    {f_45 : Addr} {od_45 an_45 : Option Addr} {sl_45 : Array (Option Value)} {oc_45 kV_45 dc_45 pm_45 cd_45 ct_45 : Value}
    {f_46 : Addr} {od_46 an_46 : Option Addr} {sl_46 : Array (Option Value)} {oc_46 kV_46 dc_46 pm_46 cd_46 ct_46 : Value}
    (a_0 : PySem.W.nsIn K mainGlobals "common_divisor" = some (some (.ref f_0)))
    (l_0 : K.lookup f_0 = some ⟨oc_0, od_0, .func (PySem.W.fnOf "common_divisor" "common_divisor" (defArgs st_common_divisor) (defBody st_common_divisor) (defScope st_common_divisor) .none kV_0 dc_0 pm_0 an_0 cd_0 ct_0), sl_0⟩)
    (c_0 : PySem.W.codeIn K cd_0 "common_divisor" = true)
    (k_0 : PySem.W.keepIn K (.ref f_0) = true)
    (a_1 : PySem.W.nsIn K mainGlobals "fraction_of" = some (some (.ref f_1)))
    (l_1 : K.lookup f_1 = some ⟨oc_1, od_1, .func (PySem.W.fnOf "fraction_of" "fraction_of" (defArgs st_fraction_of) (defBody st_fraction_of) (defScope st_fraction_of) .none kV_1 dc_1 pm_1 an_1 cd_1 ct_1), sl_1⟩)
    (c_1 : PySem.W.codeIn K cd_1 "fraction_of" = true)
    (k_1 : PySem.W.keepIn K (.ref f_1) = true)
    (a_2 : PySem.W.nsIn K mainGlobals "fraction_sum" = some (some (.ref f_2)))
    (l_2 : K.lookup f_2 = some ⟨oc_2, od_2, .func (PySem.W.fnOf "fraction_sum" "fraction_sum" (defArgs st_fraction_sum) (defBody st_fraction_sum) (defScope st_fraction_sum) .none kV_2 dc_2 pm_2 an_2 cd_2 ct_2), sl_2⟩)
    (c_2 : PySem.W.codeIn K cd_2 "fraction_sum" = true)
    (k_2 : PySem.W.keepIn K (.ref f_2) = true)
    (a_3 : PySem.W.nsIn K mainGlobals "fraction_times" = some (some (.ref f_3)))
    (l_3 : K.lookup f_3 = some ⟨oc_3, od_3, .func (PySem.W.fnOf "fraction_times" "fraction_times" (defArgs st_fraction_times) (defBody st_fraction_times) (defScope st_fraction_times) .none kV_3 dc_3 pm_3 an_3 cd_3 ct_3), sl_3⟩)
    (c_3 : PySem.W.codeIn K cd_3 "fraction_times" = true)
    (k_3 : PySem.W.keepIn K (.ref f_3) = true)
    (a_4 : PySem.W.nsIn K mainGlobals "fraction_turned" = some (some (.ref f_4)))
    (l_4 : K.lookup f_4 = some ⟨oc_4, od_4, .func (PySem.W.fnOf "fraction_turned" "fraction_turned" (defArgs st_fraction_turned) (defBody st_fraction_turned) (defScope st_fraction_turned) .none kV_4 dc_4 pm_4 an_4 cd_4 ct_4), sl_4⟩)
    (c_4 : PySem.W.codeIn K cd_4 "fraction_turned" = true)
    (k_4 : PySem.W.keepIn K (.ref f_4) = true)
    (a_5 : PySem.W.nsIn K mainGlobals "part_of" = some (some (.ref f_5)))
    (l_5 : K.lookup f_5 = some ⟨oc_5, od_5, .func (PySem.W.fnOf "part_of" "part_of" (defArgs st_part_of) (defBody st_part_of) (defScope st_part_of) .none kV_5 dc_5 pm_5 an_5 cd_5 ct_5), sl_5⟩)
    (c_5 : PySem.W.codeIn K cd_5 "part_of" = true)
    (k_5 : PySem.W.keepIn K (.ref f_5) = true)
    (a_6 : PySem.W.nsIn K mainGlobals "part_sum" = some (some (.ref f_6)))
    (l_6 : K.lookup f_6 = some ⟨oc_6, od_6, .func (PySem.W.fnOf "part_sum" "part_sum" (defArgs st_part_sum) (defBody st_part_sum) (defScope st_part_sum) .none kV_6 dc_6 pm_6 an_6 cd_6 ct_6), sl_6⟩)
    (c_6 : PySem.W.codeIn K cd_6 "part_sum" = true)
    (k_6 : PySem.W.keepIn K (.ref f_6) = true)
    (a_7 : PySem.W.nsIn K mainGlobals "part_turned" = some (some (.ref f_7)))
    (l_7 : K.lookup f_7 = some ⟨oc_7, od_7, .func (PySem.W.fnOf "part_turned" "part_turned" (defArgs st_part_turned) (defBody st_part_turned) (defScope st_part_turned) .none kV_7 dc_7 pm_7 an_7 cd_7 ct_7), sl_7⟩)
    (c_7 : PySem.W.codeIn K cd_7 "part_turned" = true)
    (k_7 : PySem.W.keepIn K (.ref f_7) = true)
    (a_8 : PySem.W.nsIn K mainGlobals "primes_of" = some (some (.ref f_8)))
    (l_8 : K.lookup f_8 = some ⟨oc_8, od_8, .func (PySem.W.fnOf "primes_of" "primes_of" (defArgs st_primes_of) (defBody st_primes_of) (defScope st_primes_of) .none kV_8 dc_8 pm_8 an_8 cd_8 ct_8), sl_8⟩)
    (c_8 : PySem.W.codeIn K cd_8 "primes_of" = true)
    (k_8 : PySem.W.keepIn K (.ref f_8) = true)
    (a_9 : PySem.W.nsIn K mainGlobals "inverse_by" = some (some (.ref f_9)))
    (l_9 : K.lookup f_9 = some ⟨oc_9, od_9, .func (PySem.W.fnOf "inverse_by" "inverse_by" (defArgs st_inverse_by) (defBody st_inverse_by) (defScope st_inverse_by) .none kV_9 dc_9 pm_9 an_9 cd_9 ct_9), sl_9⟩)
    (c_9 : PySem.W.codeIn K cd_9 "inverse_by" = true)
    (k_9 : PySem.W.keepIn K (.ref f_9) = true)
    (a_10 : PySem.W.nsIn K mainGlobals "prime_part" = some (some (.ref f_10)))
    (l_10 : K.lookup f_10 = some ⟨oc_10, od_10, .func (PySem.W.fnOf "prime_part" "prime_part" (defArgs st_prime_part) (defBody st_prime_part) (defScope st_prime_part) .none kV_10 dc_10 pm_10 an_10 cd_10 ct_10), sl_10⟩)
    (c_10 : PySem.W.codeIn K cd_10 "prime_part" = true)
    (k_10 : PySem.W.keepIn K (.ref f_10) = true)
    (a_11 : PySem.W.nsIn K mainGlobals "loose_primes" = some (some (.ref f_11)))
    (l_11 : K.lookup f_11 = some ⟨oc_11, od_11, .func (PySem.W.fnOf "loose_primes" "loose_primes" (defArgs st_loose_primes) (defBody st_loose_primes) (defScope st_loose_primes) .none kV_11 dc_11 pm_11 an_11 cd_11 ct_11), sl_11⟩)
    (c_11 : PySem.W.codeIn K cd_11 "loose_primes" = true)
    (k_11 : PySem.W.keepIn K (.ref f_11) = true)
    (a_12 : PySem.W.nsIn K mainGlobals "parts_round" = some (some (.ref f_12)))
    (l_12 : K.lookup f_12 = some ⟨oc_12, od_12, .func (PySem.W.fnOf "parts_round" "parts_round" (defArgs st_parts_round) (defBody st_parts_round) (defScope st_parts_round) .none kV_12 dc_12 pm_12 an_12 cd_12 ct_12), sl_12⟩)
    (c_12 : PySem.W.codeIn K cd_12 "parts_round" = true)
    (k_12 : PySem.W.keepIn K (.ref f_12) = true)
    (a_13 : PySem.W.nsIn K mainGlobals "cosine_fraction" = some (some (.ref f_13)))
    (l_13 : K.lookup f_13 = some ⟨oc_13, od_13, .func (PySem.W.fnOf "cosine_fraction" "cosine_fraction" (defArgs st_cosine_fraction) (defBody st_cosine_fraction) (defScope st_cosine_fraction) .none kV_13 dc_13 pm_13 an_13 cd_13 ct_13), sl_13⟩)
    (c_13 : PySem.W.codeIn K cd_13 "cosine_fraction" = true)
    (k_13 : PySem.W.keepIn K (.ref f_13) = true)
    (a_14 : PySem.W.nsIn K mainGlobals "pair_sum" = some (some (.ref f_14)))
    (l_14 : K.lookup f_14 = some ⟨oc_14, od_14, .func (PySem.W.fnOf "pair_sum" "pair_sum" (defArgs st_pair_sum) (defBody st_pair_sum) (defScope st_pair_sum) .none kV_14 dc_14 pm_14 an_14 cd_14 ct_14), sl_14⟩)
    (c_14 : PySem.W.codeIn K cd_14 "pair_sum" = true)
    (k_14 : PySem.W.keepIn K (.ref f_14) = true)
    (a_15 : PySem.W.nsIn K mainGlobals "is_line_pair" = some (some (.ref f_15)))
    (l_15 : K.lookup f_15 = some ⟨oc_15, od_15, .func (PySem.W.fnOf "is_line_pair" "is_line_pair" (defArgs st_is_line_pair) (defBody st_is_line_pair) (defScope st_is_line_pair) .none kV_15 dc_15 pm_15 an_15 cd_15 ct_15), sl_15⟩)
    (c_15 : PySem.W.codeIn K cd_15 "is_line_pair" = true)
    (k_15 : PySem.W.keepIn K (.ref f_15) = true)
    (a_16 : PySem.W.nsIn K mainGlobals "folded_part" = some (some (.ref f_16)))
    (l_16 : K.lookup f_16 = some ⟨oc_16, od_16, .func (PySem.W.fnOf "folded_part" "folded_part" (defArgs st_folded_part) (defBody st_folded_part) (defScope st_folded_part) .none kV_16 dc_16 pm_16 an_16 cd_16 ct_16), sl_16⟩)
    (c_16 : PySem.W.codeIn K cd_16 "folded_part" = true)
    (k_16 : PySem.W.keepIn K (.ref f_16) = true)
    (a_17 : PySem.W.nsIn K mainGlobals "is_five_pair" = some (some (.ref f_17)))
    (l_17 : K.lookup f_17 = some ⟨oc_17, od_17, .func (PySem.W.fnOf "is_five_pair" "is_five_pair" (defArgs st_is_five_pair) (defBody st_is_five_pair) (defScope st_is_five_pair) .none kV_17 dc_17 pm_17 an_17 cd_17 ct_17), sl_17⟩)
    (c_17 : PySem.W.codeIn K cd_17 "is_five_pair" = true)
    (k_17 : PySem.W.keepIn K (.ref f_17) = true)
    (a_18 : PySem.W.nsIn K mainGlobals "pair_kind" = some (some (.ref f_18)))
    (l_18 : K.lookup f_18 = some ⟨oc_18, od_18, .func (PySem.W.fnOf "pair_kind" "pair_kind" (defArgs st_pair_kind) (defBody st_pair_kind) (defScope st_pair_kind) .none kV_18 dc_18 pm_18 an_18 cd_18 ct_18), sl_18⟩)
    (c_18 : PySem.W.codeIn K cd_18 "pair_kind" = true)
    (k_18 : PySem.W.keepIn K (.ref f_18) = true)
    (a_19 : PySem.W.nsIn K mainGlobals "number_of" = some (some (.ref f_19)))
    (l_19 : K.lookup f_19 = some ⟨oc_19, od_19, .func (PySem.W.fnOf "number_of" "number_of" (defArgs st_number_of) (defBody st_number_of) (defScope st_number_of) .none kV_19 dc_19 pm_19 an_19 cd_19 ct_19), sl_19⟩)
    (c_19 : PySem.W.codeIn K cd_19 "number_of" = true)
    (k_19 : PySem.W.keepIn K (.ref f_19) = true)
    (a_20 : PySem.W.nsIn K mainGlobals "number_sum" = some (some (.ref f_20)))
    (l_20 : K.lookup f_20 = some ⟨oc_20, od_20, .func (PySem.W.fnOf "number_sum" "number_sum" (defArgs st_number_sum) (defBody st_number_sum) (defScope st_number_sum) .none kV_20 dc_20 pm_20 an_20 cd_20 ct_20), sl_20⟩)
    (c_20 : PySem.W.codeIn K cd_20 "number_sum" = true)
    (k_20 : PySem.W.keepIn K (.ref f_20) = true)
    (a_21 : PySem.W.nsIn K mainGlobals "number_often" = some (some (.ref f_21)))
    (l_21 : K.lookup f_21 = some ⟨oc_21, od_21, .func (PySem.W.fnOf "number_often" "number_often" (defArgs st_number_often) (defBody st_number_often) (defScope st_number_often) .none kV_21 dc_21 pm_21 an_21 cd_21 ct_21), sl_21⟩)
    (c_21 : PySem.W.codeIn K cd_21 "number_often" = true)
    (k_21 : PySem.W.keepIn K (.ref f_21) = true)
    (a_22 : PySem.W.nsIn K mainGlobals "number_form" = some (some (.ref f_22)))
    (l_22 : K.lookup f_22 = some ⟨oc_22, od_22, .func (PySem.W.fnOf "number_form" "number_form" (defArgs st_number_form) (defBody st_number_form) (defScope st_number_form) .none kV_22 dc_22 pm_22 an_22 cd_22 ct_22), sl_22⟩)
    (c_22 : PySem.W.codeIn K cd_22 "number_form" = true)
    (k_22 : PySem.W.keepIn K (.ref f_22) = true)
    (a_23 : PySem.W.nsIn K mainGlobals "fraction_told" = some (some (.ref f_23)))
    (l_23 : K.lookup f_23 = some ⟨oc_23, od_23, .func (PySem.W.fnOf "fraction_told" "fraction_told" (defArgs st_fraction_told) (defBody st_fraction_told) (defScope st_fraction_told) .none kV_23 dc_23 pm_23 an_23 cd_23 ct_23), sl_23⟩)
    (c_23 : PySem.W.codeIn K cd_23 "fraction_told" = true)
    (k_23 : PySem.W.keepIn K (.ref f_23) = true)
    (a_24 : PySem.W.nsIn K mainGlobals "cos_number" = some (some (.ref f_24)))
    (l_24 : K.lookup f_24 = some ⟨oc_24, od_24, .func (PySem.W.fnOf "cos_number" "cos_number" (defArgs st_cos_number) (defBody st_cos_number) (defScope st_cos_number) .none kV_24 dc_24 pm_24 an_24 cd_24 ct_24), sl_24⟩)
    (c_24 : PySem.W.codeIn K cd_24 "cos_number" = true)
    (k_24 : PySem.W.keepIn K (.ref f_24) = true)
    (a_25 : PySem.W.nsIn K mainGlobals "pair_number" = some (some (.ref f_25)))
    (l_25 : K.lookup f_25 = some ⟨oc_25, od_25, .func (PySem.W.fnOf "pair_number" "pair_number" (defArgs st_pair_number) (defBody st_pair_number) (defScope st_pair_number) .none kV_25 dc_25 pm_25 an_25 cd_25 ct_25), sl_25⟩)
    (c_25 : PySem.W.codeIn K cd_25 "pair_number" = true)
    (k_25 : PySem.W.keepIn K (.ref f_25) = true)
    (a_26 : PySem.W.nsIn K mainGlobals "pair_paper" = some (some (.ref f_26)))
    (l_26 : K.lookup f_26 = some ⟨oc_26, od_26, .func (PySem.W.fnOf "pair_paper" "pair_paper" (defArgs st_pair_paper) (defBody st_pair_paper) (defScope st_pair_paper) .none kV_26 dc_26 pm_26 an_26 cd_26 ct_26), sl_26⟩)
    (c_26 : PySem.W.codeIn K cd_26 "pair_paper" = true)
    (k_26 : PySem.W.keepIn K (.ref f_26) = true)
    (a_27 : PySem.W.nsIn K mainGlobals "judge_pair" = some (some (.ref f_27)))
    (l_27 : K.lookup f_27 = some ⟨oc_27, od_27, .func (PySem.W.fnOf "judge_pair" "judge_pair" (defArgs st_judge_pair) (defBody st_judge_pair) (defScope st_judge_pair) .none kV_27 dc_27 pm_27 an_27 cd_27 ct_27), sl_27⟩)
    (c_27 : PySem.W.codeIn K cd_27 "judge_pair" = true)
    (k_27 : PySem.W.keepIn K (.ref f_27) = true)
    (a_28 : PySem.W.nsIn K mainGlobals "_law_source" = some (some (.ref f_28)))
    (l_28 : K.lookup f_28 = some ⟨oc_28, od_28, .func (PySem.W.fnOf "_law_source" "_law_source" (defArgs st__law_source) (defBody st__law_source) (defScope st__law_source) .none kV_28 dc_28 pm_28 an_28 cd_28 ct_28), sl_28⟩)
    (c_28 : PySem.W.codeIn K cd_28 "_law_source" = true)
    (k_28 : PySem.W.keepIn K (.ref f_28) = true)
    (a_29 : PySem.W.nsIn K mainGlobals "_law_pick" = some (some (.ref f_29)))
    (l_29 : K.lookup f_29 = some ⟨oc_29, od_29, .func (PySem.W.fnOf "_law_pick" "_law_pick" (defArgs st__law_pick) (defBody st__law_pick) (defScope st__law_pick) .none kV_29 dc_29 pm_29 an_29 cd_29 ct_29), sl_29⟩)
    (c_29 : PySem.W.codeIn K cd_29 "_law_pick" = true)
    (k_29 : PySem.W.keepIn K (.ref f_29) = true)
    (a_30 : PySem.W.nsIn K mainGlobals "_law_of" = some (some (.ref f_30)))
    (l_30 : K.lookup f_30 = some ⟨oc_30, od_30, .func (PySem.W.fnOf "_law_of" "_law_of" (defArgs st__law_of) (defBody st__law_of) (defScope st__law_of) .none kV_30 dc_30 pm_30 an_30 cd_30 ct_30), sl_30⟩)
    (c_30 : PySem.W.codeIn K cd_30 "_law_of" = true)
    (k_30 : PySem.W.keepIn K (.ref f_30) = true)
    (a_31 : PySem.W.nsIn K mainGlobals "_law_lowest" = some (some (.ref f_31)))
    (l_31 : K.lookup f_31 = some ⟨oc_31, od_31, .func (PySem.W.fnOf "_law_lowest" "_law_lowest" (defArgs st__law_lowest) (defBody st__law_lowest) (defScope st__law_lowest) .none kV_31 dc_31 pm_31 an_31 cd_31 ct_31), sl_31⟩)
    (c_31 : PySem.W.codeIn K cd_31 "_law_lowest" = true)
    (k_31 : PySem.W.keepIn K (.ref f_31) = true)
    (a_32 : PySem.W.nsIn K mainGlobals "_law_part" = some (some (.ref f_32)))
    (l_32 : K.lookup f_32 = some ⟨oc_32, od_32, .func (PySem.W.fnOf "_law_part" "_law_part" (defArgs st__law_part) (defBody st__law_part) (defScope st__law_part) .none kV_32 dc_32 pm_32 an_32 cd_32 ct_32), sl_32⟩)
    (c_32 : PySem.W.codeIn K cd_32 "_law_part" = true)
    (k_32 : PySem.W.keepIn K (.ref f_32) = true)
    (a_33 : PySem.W.nsIn K mainGlobals "_law_common" = some (some (.ref f_33)))
    (l_33 : K.lookup f_33 = some ⟨oc_33, od_33, .func (PySem.W.fnOf "_law_common" "_law_common" (defArgs st__law_common) (defBody st__law_common) (defScope st__law_common) .none kV_33 dc_33 pm_33 an_33 cd_33 ct_33), sl_33⟩)
    (c_33 : PySem.W.codeIn K cd_33 "_law_common" = true)
    (k_33 : PySem.W.keepIn K (.ref f_33) = true)
    (a_34 : PySem.W.nsIn K mainGlobals "_law_lots_by" = some (some (.ref f_34)))
    (l_34 : K.lookup f_34 = some ⟨oc_34, od_34, .func (PySem.W.fnOf "_law_lots_by" "_law_lots_by" (defArgs st__law_lots_by) (defBody st__law_lots_by) (defScope st__law_lots_by) .none kV_34 dc_34 pm_34 an_34 cd_34 ct_34), sl_34⟩)
    (c_34 : PySem.W.codeIn K cd_34 "_law_lots_by" = true)
    (k_34 : PySem.W.keepIn K (.ref f_34) = true)
    (a_35 : PySem.W.nsIn K mainGlobals "_law_is_nought" = some (some (.ref f_35)))
    (l_35 : K.lookup f_35 = some ⟨oc_35, od_35, .func (PySem.W.fnOf "_law_is_nought" "_law_is_nought" (defArgs st__law_is_nought) (defBody st__law_is_nought) (defScope st__law_is_nought) .none kV_35 dc_35 pm_35 an_35 cd_35 ct_35), sl_35⟩)
    (c_35 : PySem.W.codeIn K cd_35 "_law_is_nought" = true)
    (k_35 : PySem.W.keepIn K (.ref f_35) = true)
    (a_36 : PySem.W.nsIn K mainGlobals "_law_sum" = some (some (.ref f_36)))
    (l_36 : K.lookup f_36 = some ⟨oc_36, od_36, .func (PySem.W.fnOf "_law_sum" "_law_sum" (defArgs st__law_sum) (defBody st__law_sum) (defScope st__law_sum) .none kV_36 dc_36 pm_36 an_36 cd_36 ct_36), sl_36⟩)
    (c_36 : PySem.W.codeIn K cd_36 "_law_sum" = true)
    (k_36 : PySem.W.keepIn K (.ref f_36) = true)
    (a_37 : PySem.W.nsIn K mainGlobals "_law_times" = some (some (.ref f_37)))
    (l_37 : K.lookup f_37 = some ⟨oc_37, od_37, .func (PySem.W.fnOf "_law_times" "_law_times" (defArgs st__law_times) (defBody st__law_times) (defScope st__law_times) .none kV_37 dc_37 pm_37 an_37 cd_37 ct_37), sl_37⟩)
    (c_37 : PySem.W.codeIn K cd_37 "_law_times" = true)
    (k_37 : PySem.W.keepIn K (.ref f_37) = true)
    (a_38 : PySem.W.nsIn K mainGlobals "_law_on" = some (some (.ref f_38)))
    (l_38 : K.lookup f_38 = some ⟨oc_38, od_38, .func (PySem.W.fnOf "_law_on" "_law_on" (defArgs st__law_on) (defBody st__law_on) (defScope st__law_on) .none kV_38 dc_38 pm_38 an_38 cd_38 ct_38), sl_38⟩)
    (c_38 : PySem.W.codeIn K cd_38 "_law_on" = true)
    (k_38 : PySem.W.keepIn K (.ref f_38) = true)
    (a_39 : PySem.W.nsIn K mainGlobals "_law_about" = some (some (.ref f_39)))
    (l_39 : K.lookup f_39 = some ⟨oc_39, od_39, .func (PySem.W.fnOf "_law_about" "_law_about" (defArgs st__law_about) (defBody st__law_about) (defScope st__law_about) .none kV_39 dc_39 pm_39 an_39 cd_39 ct_39), sl_39⟩)
    (c_39 : PySem.W.codeIn K cd_39 "_law_about" = true)
    (k_39 : PySem.W.keepIn K (.ref f_39) = true)
    (a_40 : PySem.W.nsIn K mainGlobals "_law_pairs_of" = some (some (.ref f_40)))
    (l_40 : K.lookup f_40 = some ⟨oc_40, od_40, .func (PySem.W.fnOf "_law_pairs_of" "_law_pairs_of" (defArgs st__law_pairs_of) (defBody st__law_pairs_of) (defScope st__law_pairs_of) .none kV_40 dc_40 pm_40 an_40 cd_40 ct_40), sl_40⟩)
    (c_40 : PySem.W.codeIn K cd_40 "_law_pairs_of" = true)
    (k_40 : PySem.W.keepIn K (.ref f_40) = true)
    (a_41 : PySem.W.nsIn K mainGlobals "_law_adds" = some (some (.ref f_41)))
    (l_41 : K.lookup f_41 = some ⟨oc_41, od_41, .func (PySem.W.fnOf "_law_adds" "_law_adds" (defArgs st__law_adds) (defBody st__law_adds) (defScope st__law_adds) .none kV_41 dc_41 pm_41 an_41 cd_41 ct_41), sl_41⟩)
    (c_41 : PySem.W.codeIn K cd_41 "_law_adds" = true)
    (k_41 : PySem.W.keepIn K (.ref f_41) = true)
    (a_42 : PySem.W.nsIn K mainGlobals "_law_is_pair" = some (some (.ref f_42)))
    (l_42 : K.lookup f_42 = some ⟨oc_42, od_42, .func (PySem.W.fnOf "_law_is_pair" "_law_is_pair" (defArgs st__law_is_pair) (defBody st__law_is_pair) (defScope st__law_is_pair) .none kV_42 dc_42 pm_42 an_42 cd_42 ct_42), sl_42⟩)
    (c_42 : PySem.W.codeIn K cd_42 "_law_is_pair" = true)
    (k_42 : PySem.W.keepIn K (.ref f_42) = true)
    (a_43 : PySem.W.nsIn K mainGlobals "_law_is_int" = some (some (.ref f_43)))
    (l_43 : K.lookup f_43 = some ⟨oc_43, od_43, .func (PySem.W.fnOf "_law_is_int" "_law_is_int" (defArgs st__law_is_int) (defBody st__law_is_int) (defScope st__law_is_int) .none kV_43 dc_43 pm_43 an_43 cd_43 ct_43), sl_43⟩)
    (c_43 : PySem.W.codeIn K cd_43 "_law_is_int" = true)
    (k_43 : PySem.W.keepIn K (.ref f_43) = true)
    (a_44 : PySem.W.nsIn K mainGlobals "_law_bent" = some (some (.ref f_44)))
    (l_44 : K.lookup f_44 = some ⟨oc_44, od_44, .func (PySem.W.fnOf "_law_bent" "_law_bent" (defArgs st__law_bent) (defBody st__law_bent) (defScope st__law_bent) .none kV_44 dc_44 pm_44 an_44 cd_44 ct_44), sl_44⟩)
    (c_44 : PySem.W.codeIn K cd_44 "_law_bent" = true)
    (k_44 : PySem.W.keepIn K (.ref f_44) = true)
    (a_45 : PySem.W.nsIn K mainGlobals "_law_ask" = some (some (.ref f_45)))
    (l_45 : K.lookup f_45 = some ⟨oc_45, od_45, .func (PySem.W.fnOf "_law_ask" "_law_ask" (defArgs st__law_ask) (defBody st__law_ask) (defScope st__law_ask) .none kV_45 dc_45 pm_45 an_45 cd_45 ct_45), sl_45⟩)
    (c_45 : PySem.W.codeIn K cd_45 "_law_ask" = true)
    (k_45 : PySem.W.keepIn K (.ref f_45) = true)
    (a_46 : PySem.W.nsIn K mainGlobals "law" = some (some (.ref f_46)))
    (l_46 : K.lookup f_46 = some ⟨oc_46, od_46, .func (PySem.W.fnOf "law" "law" (defArgs st_law) (defBody st_law) (defScope st_law) .none kV_46 dc_46 pm_46 an_46 cd_46 ct_46), sl_46⟩)
    (c_46 : PySem.W.codeIn K cd_46 "law" = true)
    (k_46 : PySem.W.keepIn K (.ref f_46) = true)
    (z_abs : PySem.W.nsIn K mainGlobals "abs" = some none)
    (z_len : PySem.W.nsIn K mainGlobals "len" = some none)
    (z_tuple : PySem.W.nsIn K mainGlobals "tuple" = some none)
    (z_list : PySem.W.nsIn K mainGlobals "list" = some none)
    (z_int : PySem.W.nsIn K mainGlobals "int" = some none)
    (z_str : PySem.W.nsIn K mainGlobals "str" = some none)
    (z_bool : PySem.W.nsIn K mainGlobals "bool" = some none)
    (z_range : PySem.W.nsIn K mainGlobals "range" = some none)
    (z_sorted : PySem.W.nsIn K mainGlobals "sorted" = some none)
    (z_min : PySem.W.nsIn K mainGlobals "min" = some none)
    (z_max : PySem.W.nsIn K mainGlobals "max" = some none)
    (z_repr : PySem.W.nsIn K mainGlobals "repr" = some none)
    (z_isinstance : PySem.W.nsIn K mainGlobals "isinstance" = some none) : Tops K mg where
  d_common_divisor := ⟨f_0, _, fun_mk (st := st_common_divisor) l_0 c_0 k_0, PySem.W.mg_of X G a_0, (fun_mk (st := st_common_divisor) l_0 c_0 k_0).binds fun _ _ _ _ _ _ us hl => match us, hl with | [_, _], _ => rfl⟩
  d_fraction_of := ⟨f_1, _, fun_mk (st := st_fraction_of) l_1 c_1 k_1, PySem.W.mg_of X G a_1, (fun_mk (st := st_fraction_of) l_1 c_1 k_1).binds fun _ _ _ _ _ _ us hl => match us, hl with | [_, _], _ => rfl⟩
  d_fraction_sum := ⟨f_2, _, fun_mk (st := st_fraction_sum) l_2 c_2 k_2, PySem.W.mg_of X G a_2, (fun_mk (st := st_fraction_sum) l_2 c_2 k_2).binds fun _ _ _ _ _ _ us hl => match us, hl with | [_, _], _ => rfl⟩
  d_fraction_times := ⟨f_3, _, fun_mk (st := st_fraction_times) l_3 c_3 k_3, PySem.W.mg_of X G a_3, (fun_mk (st := st_fraction_times) l_3 c_3 k_3).binds fun _ _ _ _ _ _ us hl => match us, hl with | [_, _], _ => rfl⟩
  d_fraction_turned := ⟨f_4, _, fun_mk (st := st_fraction_turned) l_4 c_4 k_4, PySem.W.mg_of X G a_4, (fun_mk (st := st_fraction_turned) l_4 c_4 k_4).binds fun _ _ _ _ _ _ us hl => match us, hl with | [_], _ => rfl⟩
  d_part_of := ⟨f_5, _, fun_mk (st := st_part_of) l_5 c_5 k_5, PySem.W.mg_of X G a_5, (fun_mk (st := st_part_of) l_5 c_5 k_5).binds fun _ _ _ _ _ _ us hl => match us, hl with | [_, _], _ => rfl⟩
  d_part_sum := ⟨f_6, _, fun_mk (st := st_part_sum) l_6 c_6 k_6, PySem.W.mg_of X G a_6, (fun_mk (st := st_part_sum) l_6 c_6 k_6).binds fun _ _ _ _ _ _ us hl => match us, hl with | [_, _], _ => rfl⟩
  d_part_turned := ⟨f_7, _, fun_mk (st := st_part_turned) l_7 c_7 k_7, PySem.W.mg_of X G a_7, (fun_mk (st := st_part_turned) l_7 c_7 k_7).binds fun _ _ _ _ _ _ us hl => match us, hl with | [_], _ => rfl⟩
  d_primes_of := ⟨f_8, _, fun_mk (st := st_primes_of) l_8 c_8 k_8, PySem.W.mg_of X G a_8, (fun_mk (st := st_primes_of) l_8 c_8 k_8).binds fun _ _ _ _ _ _ us hl => match us, hl with | [_], _ => rfl⟩
  d_inverse_by := ⟨f_9, _, fun_mk (st := st_inverse_by) l_9 c_9 k_9, PySem.W.mg_of X G a_9, (fun_mk (st := st_inverse_by) l_9 c_9 k_9).binds fun _ _ _ _ _ _ us hl => match us, hl with | [_, _], _ => rfl⟩
  d_prime_part := ⟨f_10, _, fun_mk (st := st_prime_part) l_10 c_10 k_10, PySem.W.mg_of X G a_10, (fun_mk (st := st_prime_part) l_10 c_10 k_10).binds fun _ _ _ _ _ _ us hl => match us, hl with | [_, _], _ => rfl⟩
  d_loose_primes := ⟨f_11, _, fun_mk (st := st_loose_primes) l_11 c_11 k_11, PySem.W.mg_of X G a_11, (fun_mk (st := st_loose_primes) l_11 c_11 k_11).binds fun _ _ _ _ _ _ us hl => match us, hl with | [_], _ => rfl⟩
  d_parts_round := ⟨f_12, _, fun_mk (st := st_parts_round) l_12 c_12 k_12, PySem.W.mg_of X G a_12, (fun_mk (st := st_parts_round) l_12 c_12 k_12).binds fun _ _ _ _ _ _ us hl => match us, hl with | [_, _], _ => rfl⟩
  d_cosine_fraction := ⟨f_13, _, fun_mk (st := st_cosine_fraction) l_13 c_13 k_13, PySem.W.mg_of X G a_13, (fun_mk (st := st_cosine_fraction) l_13 c_13 k_13).binds fun _ _ _ _ _ _ us hl => match us, hl with | [_], _ => rfl⟩
  d_pair_sum := ⟨f_14, _, fun_mk (st := st_pair_sum) l_14 c_14 k_14, PySem.W.mg_of X G a_14, (fun_mk (st := st_pair_sum) l_14 c_14 k_14).binds fun _ _ _ _ _ _ us hl => match us, hl with | [_, _, _, _], _ => rfl⟩
  d_is_line_pair := ⟨f_15, _, fun_mk (st := st_is_line_pair) l_15 c_15 k_15, PySem.W.mg_of X G a_15, (fun_mk (st := st_is_line_pair) l_15 c_15 k_15).binds fun _ _ _ _ _ _ us hl => match us, hl with | [_, _, _, _], _ => rfl⟩
  d_folded_part := ⟨f_16, _, fun_mk (st := st_folded_part) l_16 c_16 k_16, PySem.W.mg_of X G a_16, (fun_mk (st := st_folded_part) l_16 c_16 k_16).binds fun _ _ _ _ _ _ us hl => match us, hl with | [_], _ => rfl⟩
  d_is_five_pair := ⟨f_17, _, fun_mk (st := st_is_five_pair) l_17 c_17 k_17, PySem.W.mg_of X G a_17, (fun_mk (st := st_is_five_pair) l_17 c_17 k_17).binds fun _ _ _ _ _ _ us hl => match us, hl with | [_, _, _, _, _], _ => rfl⟩
  d_pair_kind := ⟨f_18, _, fun_mk (st := st_pair_kind) l_18 c_18 k_18, PySem.W.mg_of X G a_18, (fun_mk (st := st_pair_kind) l_18 c_18 k_18).binds fun _ _ _ _ _ _ us hl => match us, hl with | [_, _, _, _, _], _ => rfl⟩
  d_number_of := ⟨f_19, _, fun_mk (st := st_number_of) l_19 c_19 k_19, PySem.W.mg_of X G a_19, (fun_mk (st := st_number_of) l_19 c_19 k_19).binds fun _ _ _ _ _ _ us hl => match us, hl with | [_], _ => rfl⟩
  d_number_sum := ⟨f_20, _, fun_mk (st := st_number_sum) l_20 c_20 k_20, PySem.W.mg_of X G a_20, (fun_mk (st := st_number_sum) l_20 c_20 k_20).binds fun _ _ _ _ _ _ us hl => match us, hl with | [_, _], _ => rfl⟩
  d_number_often := ⟨f_21, _, fun_mk (st := st_number_often) l_21 c_21 k_21, PySem.W.mg_of X G a_21, (fun_mk (st := st_number_often) l_21 c_21 k_21).binds fun _ _ _ _ _ _ us hl => match us, hl with | [_, _], _ => rfl⟩
  d_number_form := ⟨f_22, _, fun_mk (st := st_number_form) l_22 c_22 k_22, PySem.W.mg_of X G a_22, (fun_mk (st := st_number_form) l_22 c_22 k_22).binds fun _ _ _ _ _ _ us hl => match us, hl with | [_], _ => rfl⟩
  d_fraction_told := ⟨f_23, _, fun_mk (st := st_fraction_told) l_23 c_23 k_23, PySem.W.mg_of X G a_23, (fun_mk (st := st_fraction_told) l_23 c_23 k_23).binds fun _ _ _ _ _ _ us hl => match us, hl with | [_], _ => rfl⟩
  d_cos_number := ⟨f_24, _, fun_mk (st := st_cos_number) l_24 c_24 k_24, PySem.W.mg_of X G a_24, (fun_mk (st := st_cos_number) l_24 c_24 k_24).binds fun _ _ _ _ _ _ us hl => match us, hl with | [_], _ => rfl⟩
  d_pair_number := ⟨f_25, _, fun_mk (st := st_pair_number) l_25 c_25 k_25, PySem.W.mg_of X G a_25, (fun_mk (st := st_pair_number) l_25 c_25 k_25).binds fun _ _ _ _ _ _ us hl => match us, hl with | [_, _, _, _, _], _ => rfl⟩
  d_pair_paper := ⟨f_26, _, fun_mk (st := st_pair_paper) l_26 c_26 k_26, PySem.W.mg_of X G a_26, (fun_mk (st := st_pair_paper) l_26 c_26 k_26).binds fun _ _ _ _ _ _ us hl => match us, hl with | [_, _, _, _, _], _ => rfl⟩
  d_judge_pair := ⟨f_27, _, fun_mk (st := st_judge_pair) l_27 c_27 k_27, PySem.W.mg_of X G a_27, (fun_mk (st := st_judge_pair) l_27 c_27 k_27).binds fun _ _ _ _ _ _ us hl => match us, hl with | [_, _, _, _, _, _], _ => rfl⟩
  d__law_source := ⟨f_28, _, fun_mk (st := st__law_source) l_28 c_28 k_28, PySem.W.mg_of X G a_28, (fun_mk (st := st__law_source) l_28 c_28 k_28).binds fun _ _ _ _ _ _ us hl => match us, hl with | [_], _ => rfl⟩
  d__law_pick := ⟨f_29, _, fun_mk (st := st__law_pick) l_29 c_29 k_29, PySem.W.mg_of X G a_29, (fun_mk (st := st__law_pick) l_29 c_29 k_29).binds fun _ _ _ _ _ _ us hl => match us, hl with | [_, _], _ => rfl⟩
  d__law_of := ⟨f_30, _, fun_mk (st := st__law_of) l_30 c_30 k_30, PySem.W.mg_of X G a_30, (fun_mk (st := st__law_of) l_30 c_30 k_30).binds fun _ _ _ _ _ _ us hl => match us, hl with | [_, _], _ => rfl⟩
  d__law_lowest := ⟨f_31, _, fun_mk (st := st__law_lowest) l_31 c_31 k_31, PySem.W.mg_of X G a_31, (fun_mk (st := st__law_lowest) l_31 c_31 k_31).binds fun _ _ _ _ _ _ us hl => match us, hl with | [_, _], _ => rfl⟩
  d__law_part := ⟨f_32, _, fun_mk (st := st__law_part) l_32 c_32 k_32, PySem.W.mg_of X G a_32, (fun_mk (st := st__law_part) l_32 c_32 k_32).binds fun _ _ _ _ _ _ us hl => match us, hl with | [_, _], _ => rfl⟩
  d__law_common := ⟨f_33, _, fun_mk (st := st__law_common) l_33 c_33 k_33, PySem.W.mg_of X G a_33, (fun_mk (st := st__law_common) l_33 c_33 k_33).binds fun _ _ _ _ _ _ us hl => match us, hl with | [_, _], _ => rfl⟩
  d__law_lots_by := ⟨f_34, _, fun_mk (st := st__law_lots_by) l_34 c_34 k_34, PySem.W.mg_of X G a_34, (fun_mk (st := st__law_lots_by) l_34 c_34 k_34).binds fun _ _ _ _ _ _ us hl => match us, hl with | [_, _, _], _ => rfl⟩
  d__law_is_nought := ⟨f_35, _, fun_mk (st := st__law_is_nought) l_35 c_35 k_35, PySem.W.mg_of X G a_35, (fun_mk (st := st__law_is_nought) l_35 c_35 k_35).binds fun _ _ _ _ _ _ us hl => match us, hl with | [_], _ => rfl⟩
  d__law_sum := ⟨f_36, _, fun_mk (st := st__law_sum) l_36 c_36 k_36, PySem.W.mg_of X G a_36, (fun_mk (st := st__law_sum) l_36 c_36 k_36).binds fun _ _ _ _ _ _ us hl => match us, hl with | [_, _], _ => rfl⟩
  d__law_times := ⟨f_37, _, fun_mk (st := st__law_times) l_37 c_37 k_37, PySem.W.mg_of X G a_37, (fun_mk (st := st__law_times) l_37 c_37 k_37).binds fun _ _ _ _ _ _ us hl => match us, hl with | [_, _], _ => rfl⟩
  d__law_on := ⟨f_38, _, fun_mk (st := st__law_on) l_38 c_38 k_38, PySem.W.mg_of X G a_38, (fun_mk (st := st__law_on) l_38 c_38 k_38).binds fun _ _ _ _ _ _ us hl => match us, hl with | [_, _], _ => rfl⟩
  d__law_about := ⟨f_39, _, fun_mk (st := st__law_about) l_39 c_39 k_39, PySem.W.mg_of X G a_39, (fun_mk (st := st__law_about) l_39 c_39 k_39).binds fun _ _ _ _ _ _ us hl => match us, hl with | [_], _ => rfl⟩
  d__law_pairs_of := ⟨f_40, _, fun_mk (st := st__law_pairs_of) l_40 c_40 k_40, PySem.W.mg_of X G a_40, (fun_mk (st := st__law_pairs_of) l_40 c_40 k_40).binds fun _ _ _ _ _ _ us hl => match us, hl with | [_, _], _ => rfl⟩
  d__law_adds := ⟨f_41, _, fun_mk (st := st__law_adds) l_41 c_41 k_41, PySem.W.mg_of X G a_41, (fun_mk (st := st__law_adds) l_41 c_41 k_41).binds fun _ _ _ _ _ _ us hl => match us, hl with | [_], _ => rfl⟩
  d__law_is_pair := ⟨f_42, _, fun_mk (st := st__law_is_pair) l_42 c_42 k_42, PySem.W.mg_of X G a_42, (fun_mk (st := st__law_is_pair) l_42 c_42 k_42).binds fun _ _ _ _ _ _ us hl => match us, hl with | [_, _, _, _, _], _ => rfl⟩
  d__law_is_int := ⟨f_43, _, fun_mk (st := st__law_is_int) l_43 c_43 k_43, PySem.W.mg_of X G a_43, (fun_mk (st := st__law_is_int) l_43 c_43 k_43).binds fun _ _ _ _ _ _ us hl => match us, hl with | [_], _ => rfl⟩
  d__law_bent := ⟨f_44, _, fun_mk (st := st__law_bent) l_44 c_44 k_44, PySem.W.mg_of X G a_44, (fun_mk (st := st__law_bent) l_44 c_44 k_44).binds fun _ _ _ _ _ _ us hl => match us, hl with | [_, _, _], _ => rfl⟩
  d__law_ask := ⟨f_45, _, fun_mk (st := st__law_ask) l_45 c_45 k_45, PySem.W.mg_of X G a_45, (fun_mk (st := st__law_ask) l_45 c_45 k_45).binds fun _ _ _ _ _ _ us hl => match us, hl with | [_], _ => rfl⟩
  d_law := ⟨f_46, _, fun_mk (st := st_law) l_46 c_46 k_46, PySem.W.mg_of X G a_46, (fun_mk (st := st_law) l_46 c_46 k_46).binds fun _ _ _ _ _ _ us hl => match us, hl with | [_], _ => rfl⟩
  m_abs := PySem.W.mg_none_of X G z_abs
  m_len := PySem.W.mg_none_of X G z_len
  m_tuple := PySem.W.mg_none_of X G z_tuple
  m_list := PySem.W.mg_none_of X G z_list
  m_int := PySem.W.mg_none_of X G z_int
  m_str := PySem.W.mg_none_of X G z_str
  m_bool := PySem.W.mg_none_of X G z_bool
  m_range := PySem.W.mg_none_of X G z_range
  m_sorted := PySem.W.mg_none_of X G z_sorted
  m_min := PySem.W.mg_none_of X G z_min
  m_max := PySem.W.mg_none_of X G z_max
  m_repr := PySem.W.mg_none_of X G z_repr
  m_isinstance := PySem.W.mg_none_of X G z_isinstance
theorem kinds_mk {K : PySem.W.Frag} {h : Heap} {mg : Str → Option Value} (X : K.In h) (G : h.Ns mainGlobals mg) {aK : Addr} {oK : Option Addr} {t1 t2 t3 : Tok} {nK : Nat} {sK : Array (Option Value)}
    (gK : PySem.W.nsIn K mainGlobals "KINDS" = some (some (.ref aK))) (lK : K.lookup aK = some ⟨.type "tuple", oK, .seq #[.str "fractions" t1, .str "line" t2, .str "five" t3] nK, sK⟩) : ∃ v w, mg "KINDS" = some w ∧ RelV v w ∧ Rk K v d_KINDS :=
  ⟨.ref aK, .ref aK, PySem.W.mg_of X G gK, rfl, .tup (xs := [.str "fractions", .str "line", .str "five"]) lK rfl rfl (by rw [slEq]; show 3 ≤ 16777216; decide) (.cons ⟨_, rfl⟩ (.cons ⟨_, rfl⟩ (.cons ⟨_, rfl⟩ .nil))) (.cons (.str _) (.cons (.str _) (.cons (.str _) .nil)))⟩
end K60
/-! C60: the chain of calls of k60 (printed by asm60.py). -/
namespace K60
open PySem PySem.Spec L2 DL TP
open PyProof.Rows hiding St
set_option maxHeartbeats 1000000
theorem law_fn {P : Program} {w : World} {K : PySem.W.Frag} {mg : Str → Option Value} {base : Heap} (T : Tops K mg) (C : ∃ aC, mg "COSINES" = some (.ref aC) ∧ TabK K aC TP.cosTable) (KI : ∃ v w, mg "KINDS" = some w ∧ RelV v w ∧ Rk K v d_KINDS) :
    ∀ {f : Addr} {fd : FuncData}, Fun K "law" "law" st_law f fd → FnG P w K mg base 24 f fd ["script"] (spLaw K) := by
  obtain ⟨aC, mC, tC⟩ := C
  obtain ⟨v_KINDS, w_KINDS, g_KINDS, r_KINDS, q_KINDS⟩ := KI
  have c_common_divisor : DCal P w K mg base 1 "common_divisor" (spG K 2 R_common_divisor) := (wk_common_divisor T.m_abs).cal T.d_common_divisor sc_common_divisor p_common_divisor
  have c_fraction_of : DCal P w K mg base 2 "fraction_of" (spG K 2 R_fraction_of) := (wk_fraction_of c_common_divisor).cal T.d_fraction_of sc_fraction_of p_fraction_of
  have c_fraction_sum : DCal P w K mg base 3 "fraction_sum" (spG K 2 R_fraction_sum) := (wk_fraction_sum c_fraction_of).cal T.d_fraction_sum sc_fraction_sum p_fraction_sum
  have c_fraction_times : DCal P w K mg base 3 "fraction_times" (spG K 2 R_fraction_times) := (wk_fraction_times c_fraction_of).cal T.d_fraction_times sc_fraction_times p_fraction_times
  have c_fraction_turned : DCal P w K mg base 1 "fraction_turned" (spG K 1 R_fraction_turned) := (wk_fraction_turned).cal T.d_fraction_turned sc_fraction_turned p_fraction_turned
  have c_part_of : DCal P w K mg base 3 "part_of" (spG K 2 R_part_of) := (wk_part_of c_fraction_of).cal T.d_part_of sc_part_of p_part_of
  have c_part_sum : DCal P w K mg base 4 "part_sum" (spG K 2 R_part_sum) := (wk_part_sum c_part_of).cal T.d_part_sum sc_part_sum p_part_sum
  have c_part_turned : DCal P w K mg base 4 "part_turned" (spG K 1 R_part_turned) := (wk_part_turned c_part_of).cal T.d_part_turned sc_part_turned p_part_turned
  have c_primes_of : DCal P w K mg base 1 "primes_of" (spG K 1 R_primes_of) := (wk_primes_of T.m_tuple).cal T.d_primes_of sc_primes_of p_primes_of
  have c_inverse_by : DCal P w K mg base 1 "inverse_by" (spG K 2 R_inverse_by) := (wk_inverse_by).cal T.d_inverse_by sc_inverse_by p_inverse_by
  have c_prime_part : DCal P w K mg base 4 "prime_part" (spG K 2 R_prime_part) := (wk_prime_part c_part_of c_inverse_by).cal T.d_prime_part sc_prime_part p_prime_part
  have c_loose_primes : DCal P w K mg base 5 "loose_primes" (spG K 1 R_loose_primes) := (wk_loose_primes c_primes_of c_prime_part).cal T.d_loose_primes sc_loose_primes p_loose_primes
  have c_parts_round : DCal P w K mg base 5 "parts_round" (spG K 2 R_parts_round) := (wk_parts_round T.m_range c_part_sum c_part_of).cal T.d_parts_round sc_parts_round p_parts_round
  have c_cosine_fraction : DCal P w K mg base 1 "cosine_fraction" (spGC K 1 R_cosine_fraction) := cos_cal mC tC T.d_cosine_fraction
  have c_pair_sum : DCal P w K mg base 4 "pair_sum" (spG K 4 R_pair_sum) := (wk_pair_sum c_fraction_sum c_fraction_times).cal T.d_pair_sum sc_pair_sum p_pair_sum
  have c_is_line_pair : DCal P w K mg base 5 "is_line_pair" (spG K 4 R_is_line_pair) := (wk_is_line_pair c_fraction_turned c_part_turned c_part_sum).cal T.d_is_line_pair sc_is_line_pair p_is_line_pair
  have c_folded_part : DCal P w K mg base 5 "folded_part" (spG K 1 R_folded_part) := (wk_folded_part c_part_turned).cal T.d_folded_part sc_folded_part p_folded_part
  have c_is_five_pair : DCal P w K mg base 6 "is_five_pair" (spG K 5 R_is_five_pair) := (wk_is_five_pair T.m_sorted c_fraction_turned c_folded_part c_part_sum c_fraction_times).cal T.d_is_five_pair sc_is_five_pair p_is_five_pair
  have c_pair_kind : DCal P w K mg base 7 "pair_kind" (spG K 5 R_pair_kind) := (wk_pair_kind c_cosine_fraction c_pair_sum c_is_line_pair c_is_five_pair).cal T.d_pair_kind sc_pair_kind p_pair_kind
  have c_number_of : DCal P w K mg base 4 "number_of" (spG K 1 R_number_of) := (wk_number_of T.m_sorted T.m_tuple c_fraction_sum).cal T.d_number_of sc_number_of p_number_of
  have c_number_sum : DCal P w K mg base 5 "number_sum" (spG K 2 R_number_sum) := (wk_number_sum c_number_of).cal T.d_number_sum sc_number_sum p_number_sum
  have c_number_often : DCal P w K mg base 5 "number_often" (spG K 2 R_number_often) := (wk_number_often c_number_of c_fraction_times).cal T.d_number_often sc_number_often p_number_often
  have c_number_form : DCal P w K mg base 6 "number_form" (spG K 1 R_number_form) := (wk_number_form T.m_list c_loose_primes c_parts_round c_fraction_turned c_number_of).cal T.d_number_form sc_number_form p_number_form
  have c_fraction_told : DCal P w K mg base 7 "fraction_told" (spG K 1 R_fraction_told) := (wk_fraction_told T.m_len c_number_form).cal T.d_fraction_told sc_fraction_told p_fraction_told
  have c_cos_number : DCal P w K mg base 5 "cos_number" (spG K 1 R_cos_number) := (wk_cos_number c_number_of c_part_turned).cal T.d_cos_number sc_cos_number p_cos_number
  have c_pair_number : DCal P w K mg base 7 "pair_number" (spG K 5 R_pair_number) := (wk_pair_number c_number_sum c_number_often c_cos_number c_number_form c_number_of c_fraction_turned).cal T.d_pair_number sc_pair_number p_pair_number
  have c_pair_paper : DCal P w K mg base 8 "pair_paper" (spG K 5 R_pair_paper) := (wk_pair_paper c_pair_kind c_pair_number).cal T.d_pair_paper sc_pair_paper p_pair_paper
  have c_judge_pair : DCal P w K mg base 8 "judge_pair" (spG K 6 R_judge_pair) := (wk_judge_pair T.m_isinstance T.m_str T.m_len T.m_tuple T.m_repr g_KINDS r_KINDS q_KINDS c_pair_number c_pair_kind).cal T.d_judge_pair sc_judge_pair p_judge_pair
  have c__law_source : DCal P w K mg base 1 "_law_source" (spSrc K) := source_cal T.d__law_source T.m_abs T.m_int
  have c__law_pick : DCal P w K mg base 1 "_law_pick" (spG K 2 R__law_pick) := pick_cal T.d__law_pick T.m_len T.m_max T.m_int
  have c__law_of : DCal P w K mg base 2 "_law_of" (spG K 2 R__law_of) := (wk__law_of T.m_len c__law_pick).cal T.d__law_of sc__law_of p__law_of
  have c__law_lowest : DCal P w K mg base 1 "_law_lowest" (spG K 2 R__law_lowest) := (wk__law_lowest T.m_abs T.m_int).cal T.d__law_lowest sc__law_lowest p__law_lowest
  have c__law_part : DCal P w K mg base 2 "_law_part" (spG K 2 R__law_part) := (wk__law_part T.m_int c__law_lowest).cal T.d__law_part sc__law_part p__law_part
  have c__law_common : DCal P w K mg base 1 "_law_common" (spG K 2 R__law_common) := (wk__law_common T.m_int).cal T.d__law_common sc__law_common p__law_common
  have c__law_lots_by : DCal P w K mg base 3 "_law_lots_by" (spG K 3 R__law_lots_by) := (wk__law_lots_by T.m_range T.m_int c__law_part).cal T.d__law_lots_by sc__law_lots_by p__law_lots_by
  have c__law_is_nought : DCal P w K mg base 4 "_law_is_nought" (spG K 1 R__law_is_nought) := (wk__law_is_nought T.m_sorted T.m_int T.m_min c__law_common c__law_lots_by).cal T.d__law_is_nought sc__law_is_nought p__law_is_nought
  have c__law_sum : DCal P w K mg base 2 "_law_sum" (spG K 2 R__law_sum) := (wk__law_sum c__law_lowest).cal T.d__law_sum sc__law_sum p__law_sum
  have c__law_times : DCal P w K mg base 2 "_law_times" (spG K 2 R__law_times) := (wk__law_times c__law_lowest).cal T.d__law_times sc__law_times p__law_times
  have c__law_on : DCal P w K mg base 3 "_law_on" (spG K 2 R__law_on) := (wk__law_on c__law_part).cal T.d__law_on sc__law_on p__law_on
  have c__law_about : DCal P w K mg base 3 "_law_about" (spG K 1 R__law_about) := (wk__law_about c__law_part).cal T.d__law_about sc__law_about p__law_about
  have c__law_pairs_of : DCal P w K mg base 4 "_law_pairs_of" (spG K 2 R__law_pairs_of) := (wk__law_pairs_of c__law_about).cal T.d__law_pairs_of sc__law_pairs_of p__law_pairs_of
  have c__law_adds : DCal P w K mg base 5 "_law_adds" (spG K 1 R__law_adds) := (wk__law_adds c__law_common c__law_is_nought).cal T.d__law_adds sc__law_adds p__law_adds
  have c__law_is_pair : DCal P w K mg base 6 "_law_is_pair" (spG K 5 R__law_is_pair) := (wk__law_is_pair c__law_adds c__law_pairs_of).cal T.d__law_is_pair sc__law_is_pair p__law_is_pair
  have c__law_is_int : DCal P w K mg base 1 "_law_is_int" (spG K 1 R__law_is_int) := (wk__law_is_int T.m_isinstance T.m_bool T.m_int).cal T.d__law_is_int sc__law_is_int p__law_is_int
  have c__law_bent : DCal P w K mg base 23 "_law_bent" (spG K 3 R__law_bent) := bent_cal T.d__law_bent T.m_isinstance T.m_tuple T.m_len c__law_pick c__law_is_int c__law_of 20
  have c__law_ask : DCal P w K mg base 4 "_law_ask" (spG K 1 R__law_ask) := (wk__law_ask c__law_of c__law_pick c__law_part c__law_about c__law_on c__law_times c__law_sum).cal T.d__law_ask sc__law_ask p__law_ask
  intro f fd F
  exact law_run60 F c__law_source fun f cdv A outer s H hr gd => wk_law T.m_range T.m_repr T.m_list T.m_tuple T.m_len T.m_isinstance c__law_ask c_number_sum c_number_often c_cos_number c_number_form c_pair_kind c__law_is_pair c_pair_number c_fraction_told c_pair_paper c__law_of c__law_bent c_judge_pair f cdv A outer s H hr gd
end K60
/-! E60: the end of k60. -/
namespace K60
open PySem PySem.Spec L2 DL TP
open PyProof.Rows hiding St
set_option maxHeartbeats 1000000
theorem cos_mk {K : PySem.W.Frag} {h : Heap} {mg : Str → Option Value} (X : K.In h) (G : h.Ns mainGlobals mg) {aC : Addr} {nC : Nat} {ka_0 va_0 : Addr} {h_0 : Int} {ka_1 va_1 : Addr} {h_1 : Int} {ka_2 va_2 : Addr} {h_2 : Int} {ka_3 va_3 : Addr} {h_3 : Int} {ka_4 va_4 : Addr} {h_4 : Int} {ka_5 va_5 : Addr} {h_5 : Int} {ka_6 va_6 : Addr} {h_6 : Int} {ka_7 va_7 : Addr} {h_7 : Int} (gC : PySem.W.nsIn K mainGlobals "COSINES" = some (some (.ref aC))) (lC : K.lookup aC = some ⟨.type "dict", none, .dict #[⟨h_0, .ref ka_0, .ref va_0⟩, ⟨h_1, .ref ka_1, .ref va_1⟩, ⟨h_2, .ref ka_2, .ref va_2⟩, ⟨h_3, .ref ka_3, .ref va_3⟩, ⟨h_4, .ref ka_4, .ref va_4⟩, ⟨h_5, .ref ka_5, .ref va_5⟩, ⟨h_6, .ref ka_6, .ref va_6⟩, ⟨h_7, .ref ka_7, .ref va_7⟩] nC, #[]⟩) (sC : (aC == sysModules) = false) (hC : ∀ (P : Program) (w : World), [h_0, h_1, h_2, h_3, h_4, h_5, h_6, h_7] = [(tupleKind (mixKind P w)).hash (kyP (0, 1)), (tupleKind (mixKind P w)).hash (kyP (1, 2)), (tupleKind (mixKind P w)).hash (kyP (1, 3)), (tupleKind (mixKind P w)).hash (kyP (2, 3)), (tupleKind (mixKind P w)).hash (kyP (1, 4)), (tupleKind (mixKind P w)).hash (kyP (3, 4)), (tupleKind (mixKind P w)).hash (kyP (1, 6)), (tupleKind (mixKind P w)).hash (kyP (5, 6))]) {ok_0 : Option Addr} {uk_0 wk_0 : Tok} {nk_0 : Nat} {sk_0 : Array (Option Value)} (tk_0 : K.lookup ka_0 = some ⟨.type "tuple", ok_0, .seq #[.int 0 uk_0, .int 1 wk_0] nk_0, sk_0⟩) {ov_0 : Option Addr} {uv_0 wv_0 : Tok} {nv_0 : Nat} {sv_0 : Array (Option Value)} (tv_0 : K.lookup va_0 = some ⟨.type "tuple", ov_0, .seq #[.int (1) uv_0, .int 1 wv_0] nv_0, sv_0⟩) {ok_1 : Option Addr} {uk_1 wk_1 : Tok} {nk_1 : Nat} {sk_1 : Array (Option Value)} (tk_1 : K.lookup ka_1 = some ⟨.type "tuple", ok_1, .seq #[.int 1 uk_1, .int 2 wk_1] nk_1, sk_1⟩) {ov_1 : Option Addr} {uv_1 wv_1 : Tok} {nv_1 : Nat} {sv_1 : Array (Option Value)} (tv_1 : K.lookup va_1 = some ⟨.type "tuple", ov_1, .seq #[.int (-1) uv_1, .int 1 wv_1] nv_1, sv_1⟩) {ok_2 : Option Addr} {uk_2 wk_2 : Tok} {nk_2 : Nat} {sk_2 : Array (Option Value)} (tk_2 : K.lookup ka_2 = some ⟨.type "tuple", ok_2, .seq #[.int 1 uk_2, .int 3 wk_2] nk_2, sk_2⟩) {ov_2 : Option Addr} {uv_2 wv_2 : Tok} {nv_2 : Nat} {sv_2 : Array (Option Value)} (tv_2 : K.lookup va_2 = some ⟨.type "tuple", ov_2, .seq #[.int (-1) uv_2, .int 2 wv_2] nv_2, sv_2⟩) {ok_3 : Option Addr} {uk_3 wk_3 : Tok} {nk_3 : Nat} {sk_3 : Array (Option Value)} (tk_3 : K.lookup ka_3 = some ⟨.type "tuple", ok_3, .seq #[.int 2 uk_3, .int 3 wk_3] nk_3, sk_3⟩) {ov_3 : Option Addr} {uv_3 wv_3 : Tok} {nv_3 : Nat} {sv_3 : Array (Option Value)} (tv_3 : K.lookup va_3 = some ⟨.type "tuple", ov_3, .seq #[.int (-1) uv_3, .int 2 wv_3] nv_3, sv_3⟩) {ok_4 : Option Addr} {uk_4 wk_4 : Tok} {nk_4 : Nat} {sk_4 : Array (Option Value)} (tk_4 : K.lookup ka_4 = some ⟨.type "tuple", ok_4, .seq #[.int 1 uk_4, .int 4 wk_4] nk_4, sk_4⟩) {ov_4 : Option Addr} {uv_4 wv_4 : Tok} {nv_4 : Nat} {sv_4 : Array (Option Value)} (tv_4 : K.lookup va_4 = some ⟨.type "tuple", ov_4, .seq #[.int (0) uv_4, .int 1 wv_4] nv_4, sv_4⟩) {ok_5 : Option Addr} {uk_5 wk_5 : Tok} {nk_5 : Nat} {sk_5 : Array (Option Value)} (tk_5 : K.lookup ka_5 = some ⟨.type "tuple", ok_5, .seq #[.int 3 uk_5, .int 4 wk_5] nk_5, sk_5⟩) {ov_5 : Option Addr} {uv_5 wv_5 : Tok} {nv_5 : Nat} {sv_5 : Array (Option Value)} (tv_5 : K.lookup va_5 = some ⟨.type "tuple", ov_5, .seq #[.int (0) uv_5, .int 1 wv_5] nv_5, sv_5⟩) {ok_6 : Option Addr} {uk_6 wk_6 : Tok} {nk_6 : Nat} {sk_6 : Array (Option Value)} (tk_6 : K.lookup ka_6 = some ⟨.type "tuple", ok_6, .seq #[.int 1 uk_6, .int 6 wk_6] nk_6, sk_6⟩) {ov_6 : Option Addr} {uv_6 wv_6 : Tok} {nv_6 : Nat} {sv_6 : Array (Option Value)} (tv_6 : K.lookup va_6 = some ⟨.type "tuple", ov_6, .seq #[.int (1) uv_6, .int 2 wv_6] nv_6, sv_6⟩) {ok_7 : Option Addr} {uk_7 wk_7 : Tok} {nk_7 : Nat} {sk_7 : Array (Option Value)} (tk_7 : K.lookup ka_7 = some ⟨.type "tuple", ok_7, .seq #[.int 5 uk_7, .int 6 wk_7] nk_7, sk_7⟩) {ov_7 : Option Addr} {uv_7 wv_7 : Tok} {nv_7 : Nat} {sv_7 : Array (Option Value)} (tv_7 : K.lookup va_7 = some ⟨.type "tuple", ov_7, .seq #[.int (1) uv_7, .int 2 wv_7] nv_7, sv_7⟩) : ∃ aC, mg "COSINES" = some (.ref aC) ∧ TabK K aC cosTable := by
  refine ⟨aC, PySem.W.mg_of X G gC, ⟨⟨_, _, [(ka_0, va_0), (ka_1, va_1), (ka_2, va_2), (ka_3, va_3), (ka_4, va_4), (ka_5, va_5), (ka_6, va_6), (ka_7, va_7)], lC, rfl, fun P w => ?_, fun i p x e1 e2 => ?_⟩, sC⟩⟩
  · have q := hC P w
    simp only [List.cons.injEq, and_true] at q
    obtain ⟨q0, q1, q2, q3, q4, q5, q6, q7⟩ := q
    rw [q0, q1, q2, q3, q4, q5, q6, q7]
    rfl
  · match i, e1, e2 with
    | 0, e1, e2 => cases e1; cases e2; exact ⟨⟨_, _, _, _, _, tk_0⟩, ⟨_, _, _, _, _, tv_0⟩⟩
    | 1, e1, e2 => cases e1; cases e2; exact ⟨⟨_, _, _, _, _, tk_1⟩, ⟨_, _, _, _, _, tv_1⟩⟩
    | 2, e1, e2 => cases e1; cases e2; exact ⟨⟨_, _, _, _, _, tk_2⟩, ⟨_, _, _, _, _, tv_2⟩⟩
    | 3, e1, e2 => cases e1; cases e2; exact ⟨⟨_, _, _, _, _, tk_3⟩, ⟨_, _, _, _, _, tv_3⟩⟩
    | 4, e1, e2 => cases e1; cases e2; exact ⟨⟨_, _, _, _, _, tk_4⟩, ⟨_, _, _, _, _, tv_4⟩⟩
    | 5, e1, e2 => cases e1; cases e2; exact ⟨⟨_, _, _, _, _, tk_5⟩, ⟨_, _, _, _, _, tv_5⟩⟩
    | 6, e1, e2 => cases e1; cases e2; exact ⟨⟨_, _, _, _, _, tk_6⟩, ⟨_, _, _, _, _, tv_6⟩⟩
    | 7, e1, e2 => cases e1; cases e2; exact ⟨⟨_, _, _, _, _, tk_7⟩, ⟨_, _, _, _, _, tv_7⟩⟩
    | i + 8, e1, e2 => exact absurd e1 (by simp [cosTable])
theorem law_end {P : Program} {w : World} {K : PySem.W.Frag} {mg : Str → Option Value} (C : ∃ aC, mg "COSINES" = some (.ref aC) ∧ TabK K aC cosTable) (KI : ∃ v w, mg "KINDS" = some w ∧ RelV v w ∧ Rk K v d_KINDS) (T : Tops K mg) {fa : Addr} (hfa : mg "law" = some (.ref fa)) :
    ∃ fd : FuncData, (∀ (s : Shared) (u : Value), BindsTo s fd ⟨[u], []⟩ [("script", u)]) ∧ ∀ base : Heap, K.In base → base.Ns mainGlobals mg → FnG P w K mg base 24 fa fd ["script"] (spLaw K) := by
  obtain ⟨f, fd, F, hm, hb⟩ := T.d_law.ex
  rw [hm] at hfa
  cases hfa
  refine ⟨fd, fun s u => ?_, fun base _ _ => law_fn T C KI F⟩
  obtain ⟨oc, od, kV, doc, pm, an, cdv, ct, osl, rfl, lk, hcd⟩ := F.ex
  exact BindsTo.of_eq rfl
end K60
open PySem PySem.W PyProof.Rows
set_option maxRecDepth 100000 in
set_option maxHeartbeats 0 in
theorem PySem.Challenge.cw_turnsthatfit_k60_pair_papers_judged_holds : PySem.Challenge.rw_turnsthatfit_k60_pair_papers_judged.Holds := by
  w_on; o_law; k_head; (case hw => w_witness2)
  k_fill
  refine DL.walk_ofG (l := PySem.Challenge.rw_turnsthatfit_k60_pair_papers_judged) (k := 24) (x := "script") rfl rfl ⟨rfl, by decide, by decide⟩ (fun w h Y => PySem.W.kIn_of Y) ?F
  case F =>
    intro w mg fa h KX G hmg
    refine' K60.law_end (K60.cos_mk KX G ?gC ?lC ?sC ?hC ?tk_0 ?tv_0 ?tk_1 ?tv_1 ?tk_2 ?tv_2 ?tk_3 ?tv_3 ?tk_4 ?tv_4 ?tk_5 ?tv_5 ?tk_6 ?tv_6 ?tk_7 ?tv_7) (K60.kinds_mk KX G ?gKI ?lKI) (K60.tops_mk KX G ?a_0 ?l_0 ?c_0 ?k_0 ?a_1 ?l_1 ?c_1 ?k_1 ?a_2 ?l_2 ?c_2 ?k_2 ?a_3 ?l_3 ?c_3 ?k_3 ?a_4 ?l_4 ?c_4 ?k_4 ?a_5 ?l_5 ?c_5 ?k_5 ?a_6 ?l_6 ?c_6 ?k_6 ?a_7 ?l_7 ?c_7 ?k_7 ?a_8 ?l_8 ?c_8 ?k_8 ?a_9 ?l_9 ?c_9 ?k_9 ?a_10 ?l_10 ?c_10 ?k_10 ?a_11 ?l_11 ?c_11 ?k_11 ?a_12 ?l_12 ?c_12 ?k_12 ?a_13 ?l_13 ?c_13 ?k_13 ?a_14 ?l_14 ?c_14 ?k_14 ?a_15 ?l_15 ?c_15 ?k_15 ?a_16 ?l_16 ?c_16 ?k_16 ?a_17 ?l_17 ?c_17 ?k_17 ?a_18 ?l_18 ?c_18 ?k_18 ?a_19 ?l_19 ?c_19 ?k_19 ?a_20 ?l_20 ?c_20 ?k_20 ?a_21 ?l_21 ?c_21 ?k_21 ?a_22 ?l_22 ?c_22 ?k_22 ?a_23 ?l_23 ?c_23 ?k_23 ?a_24 ?l_24 ?c_24 ?k_24 ?a_25 ?l_25 ?c_25 ?k_25 ?a_26 ?l_26 ?c_26 ?k_26 ?a_27 ?l_27 ?c_27 ?k_27 ?a_28 ?l_28 ?c_28 ?k_28 ?a_29 ?l_29 ?c_29 ?k_29 ?a_30 ?l_30 ?c_30 ?k_30 ?a_31 ?l_31 ?c_31 ?k_31 ?a_32 ?l_32 ?c_32 ?k_32 ?a_33 ?l_33 ?c_33 ?k_33 ?a_34 ?l_34 ?c_34 ?k_34 ?a_35 ?l_35 ?c_35 ?k_35 ?a_36 ?l_36 ?c_36 ?k_36 ?a_37 ?l_37 ?c_37 ?k_37 ?a_38 ?l_38 ?c_38 ?k_38 ?a_39 ?l_39 ?c_39 ?k_39 ?a_40 ?l_40 ?c_40 ?k_40 ?a_41 ?l_41 ?c_41 ?k_41 ?a_42 ?l_42 ?c_42 ?k_42 ?a_43 ?l_43 ?c_43 ?k_43 ?a_44 ?l_44 ?c_44 ?k_44 ?a_45 ?l_45 ?c_45 ?k_45 ?a_46 ?l_46 ?c_46 ?k_46 ?z_abs ?z_len ?z_tuple ?z_list ?z_int ?z_str ?z_bool ?z_range ?z_sorted ?z_min ?z_max ?z_repr ?z_isinstance) hmg
    (case a_0 => k_is); (case l_0 => k_is); (case c_0 => k_is); (case k_0 => k_is); (case a_1 => k_is); (case l_1 => k_is); (case c_1 => k_is); (case k_1 => k_is); (case a_2 => k_is); (case l_2 => k_is); (case c_2 => k_is); (case k_2 => k_is); (case a_3 => k_is); (case l_3 => k_is); (case c_3 => k_is); (case k_3 => k_is); (case a_4 => k_is); (case l_4 => k_is); (case c_4 => k_is); (case k_4 => k_is); (case a_5 => k_is); (case l_5 => k_is); (case c_5 => k_is); (case k_5 => k_is); (case a_6 => k_is); (case l_6 => k_is); (case c_6 => k_is); (case k_6 => k_is); (case a_7 => k_is); (case l_7 => k_is); (case c_7 => k_is); (case k_7 => k_is); (case a_8 => k_is); (case l_8 => k_is); (case c_8 => k_is); (case k_8 => k_is); (case a_9 => k_is); (case l_9 => k_is); (case c_9 => k_is); (case k_9 => k_is); (case a_10 => k_is); (case l_10 => k_is); (case c_10 => k_is); (case k_10 => k_is); (case a_11 => k_is); (case l_11 => k_is); (case c_11 => k_is); (case k_11 => k_is); (case a_12 => k_is); (case l_12 => k_is); (case c_12 => k_is); (case k_12 => k_is); (case a_13 => k_is); (case l_13 => k_is); (case c_13 => k_is); (case k_13 => k_is); (case a_14 => k_is); (case l_14 => k_is); (case c_14 => k_is); (case k_14 => k_is); (case a_15 => k_is); (case l_15 => k_is); (case c_15 => k_is); (case k_15 => k_is); (case a_16 => k_is); (case l_16 => k_is); (case c_16 => k_is); (case k_16 => k_is); (case a_17 => k_is); (case l_17 => k_is); (case c_17 => k_is); (case k_17 => k_is); (case a_18 => k_is); (case l_18 => k_is); (case c_18 => k_is); (case k_18 => k_is); (case a_19 => k_is); (case l_19 => k_is); (case c_19 => k_is); (case k_19 => k_is); (case a_20 => k_is); (case l_20 => k_is); (case c_20 => k_is); (case k_20 => k_is); (case a_21 => k_is); (case l_21 => k_is); (case c_21 => k_is); (case k_21 => k_is); (case a_22 => k_is); (case l_22 => k_is); (case c_22 => k_is); (case k_22 => k_is); (case a_23 => k_is); (case l_23 => k_is); (case c_23 => k_is); (case k_23 => k_is); (case a_24 => k_is); (case l_24 => k_is); (case c_24 => k_is); (case k_24 => k_is); (case a_25 => k_is); (case l_25 => k_is); (case c_25 => k_is); (case k_25 => k_is); (case a_26 => k_is); (case l_26 => k_is); (case c_26 => k_is); (case k_26 => k_is); (case a_27 => k_is); (case l_27 => k_is); (case c_27 => k_is); (case k_27 => k_is); (case a_28 => k_is); (case l_28 => k_is); (case c_28 => k_is); (case k_28 => k_is); (case a_29 => k_is); (case l_29 => k_is); (case c_29 => k_is); (case k_29 => k_is); (case a_30 => k_is); (case l_30 => k_is); (case c_30 => k_is); (case k_30 => k_is); (case a_31 => k_is); (case l_31 => k_is); (case c_31 => k_is); (case k_31 => k_is); (case a_32 => k_is); (case l_32 => k_is); (case c_32 => k_is); (case k_32 => k_is); (case a_33 => k_is); (case l_33 => k_is); (case c_33 => k_is); (case k_33 => k_is); (case a_34 => k_is); (case l_34 => k_is); (case c_34 => k_is); (case k_34 => k_is); (case a_35 => k_is); (case l_35 => k_is); (case c_35 => k_is); (case k_35 => k_is); (case a_36 => k_is); (case l_36 => k_is); (case c_36 => k_is); (case k_36 => k_is); (case a_37 => k_is); (case l_37 => k_is); (case c_37 => k_is); (case k_37 => k_is); (case a_38 => k_is); (case l_38 => k_is); (case c_38 => k_is); (case k_38 => k_is); (case a_39 => k_is); (case l_39 => k_is); (case c_39 => k_is); (case k_39 => k_is); (case a_40 => k_is); (case l_40 => k_is); (case c_40 => k_is); (case k_40 => k_is); (case a_41 => k_is); (case l_41 => k_is); (case c_41 => k_is); (case k_41 => k_is); (case a_42 => k_is); (case l_42 => k_is); (case c_42 => k_is); (case k_42 => k_is); (case a_43 => k_is); (case l_43 => k_is); (case c_43 => k_is); (case k_43 => k_is); (case a_44 => k_is); (case l_44 => k_is); (case c_44 => k_is); (case k_44 => k_is); (case a_45 => k_is); (case l_45 => k_is); (case c_45 => k_is); (case k_45 => k_is); (case a_46 => k_is); (case l_46 => k_is); (case c_46 => k_is); (case k_46 => k_is); (case z_abs => k_is); (case z_len => k_is); (case z_tuple => k_is); (case z_list => k_is); (case z_int => k_is); (case z_str => k_is); (case z_bool => k_is); (case z_range => k_is); (case z_sorted => k_is); (case z_min => k_is); (case z_max => k_is); (case z_repr => k_is); (case z_isinstance => k_is)
    (case gC => (first | k_is | exact foo_gC)); (case lC => (first | k_is | exact foo_lC)); (case sC => (first | rfl | k_is | exact foo_sC)); (case hC => (intro P w; first | kernel_rfl | decide +kernel | exact foo_hC)); (case tk_0 => (first | k_is | exact foo_tk_0)); (case tv_0 => (first | k_is | exact foo_tv_0)); (case tk_1 => (first | k_is | exact foo_tk_1)); (case tv_1 => (first | k_is | exact foo_tv_1)); (case tk_2 => (first | k_is | exact foo_tk_2)); (case tv_2 => (first | k_is | exact foo_tv_2)); (case tk_3 => (first | k_is | exact foo_tk_3)); (case tv_3 => (first | k_is | exact foo_tv_3)); (case tk_4 => (first | k_is | exact foo_tk_4)); (case tv_4 => (first | k_is | exact foo_tv_4)); (case tk_5 => (first | k_is | exact foo_tk_5)); (case tv_5 => (first | k_is | exact foo_tv_5)); (case tk_6 => (first | k_is | exact foo_tk_6)); (case tv_6 => (first | k_is | exact foo_tv_6)); (case tk_7 => (first | k_is | exact foo_tk_7)); (case tv_7 => (first | k_is | exact foo_tv_7))
    (case gKI => k_is); (case lKI => k_is)
