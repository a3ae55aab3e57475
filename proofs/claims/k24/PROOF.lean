import PyProof.Rows.All
import Wide.All
import OpenK.AllK
import Wide.FinOn
import HandS.ForMost
import HandS.ForExc
import HandS.TupAny
import HandS.TupMul
import HandS.Zip
import HandS.IsInst
import HandS.Style
import HandS.Conv
import HandS.SortInts
import HandS.SortRule
import HandS.Small
import HandS.Rev
import HandS.TupLe
import HandS.RaiseMore
import HandS.Lambda
import KE.GoesMore
import KE.SortData
import KE.DataMinMax
import PyProof.TupleOfSeq
import HandS.NoneIn
import HandS.Ends
import HandS.EndTab
import KE.KTupSum
import HandS.Deep
import KE.KDictZip
import HandS.Iter
import HandS.ExcIs
import PyProof.RowDictHeap
import HandS.Flow
import HandS.Records
import HandS.Flt
import KE.DataMinKey
import HandS.FromBytesMap
import KE.DatumOrd
import PyProof.EqKinds
import PySem.Challenge.RW_inkandlead_k24_whole_totals_and_more_wis
set_option Elab.async false
set_option linter.all false
set_option maxRecDepth 100000
/-! E1: data trees, what stands for them in the abstract heap, the states of a def's body, the judgements. -/
namespace Ev
open PySem PySem.Spec PyProof.Rows L2
abbrev Sg := L2.St
open LamX (TabS Tabs)
/-- the tables of code objects that the law's lambdas are kept in, and the names there -/
class TabsC where
  T : List (Addr × Str)
variable [TabsC]
/-- b is no such table -/
def NoT (b : Addr) : Prop := ∀ p ∈ TabsC.T, p.1 ≠ b

/-- data as trees -/
inductive D where
  | non | bl (b : Bool) | int (i : Int) | str (x : Str) | tup (xs : List D) | lst (xs : List D) | dct (kvs : List (Key × D))

mutual
def Rep (K : PySem.W.Frag) (F : Hp) : D → V → Prop
  | .non, v => v = .non
  | .bl b, v => v = .bl b
  | .int i, v => v = .int i
  | .str x, v => v = .str x
  | .tup ds, v => ∃ a xs, v = .ref a ∧ SqT K F a xs ∧ Reps K F ds xs
  | .lst ds, v => ∃ a xs, v = .ref a ∧ SqL K F a xs ∧ Reps K F ds xs
  | .dct kvs, v => ∃ a us, v = .ref a ∧ Rd F a (.dK us) ∧ RepsK K F kvs us
def Reps (K : PySem.W.Frag) (F : Hp) : List D → List V → Prop
  | [], xs => xs = []
  | d :: ds, xs => ∃ x r, xs = x :: r ∧ Rep K F d x ∧ Reps K F ds r
def RepsK (K : PySem.W.Frag) (F : Hp) : List (Key × D) → List (Key × V) → Prop
  | [], us => us = []
  | (k, d) :: ds, us => ∃ x r, us = (k, x) :: r ∧ Rep K F d x ∧ RepsK K F ds r
end

theorem rd_same {H H' : Hp} {a : Addr} {u : HO} (e : Same H H') (h : Rd H a u) : Rd H' a u := by
  rcases h with h | ⟨o, h⟩
  · exact .inl (e _ _ h)
  · exact .inr ⟨o, e _ _ h⟩
theorem same_seqT {K : PySem.W.Frag} {H H' : Hp} {a : Addr} {xs : List V} (e : Same H H') (h : SqT K H a xs) : SqT K H' a xs := by
  rcases h with (h | ⟨o, h⟩) | h
  · exact .inl (.inl (e _ _ h))
  · exact .inl (.inr ⟨o, e _ _ h⟩)
  · exact .inr h

section
variable {K : PySem.W.Frag} {F F' : Hp}
mutual
theorem Rep.mono (s : Same F F') : ∀ {d : D} {v : V}, Rep K F d v → Rep K F' d v
  | .non, _, h => h
  | .bl _, _, h => h
  | .int _, _, h => h
  | .str _, _, h => h
  | .tup _, _, ⟨a, xs, e, h, r⟩ => ⟨a, xs, e, same_seqT s h, Reps.mono s r⟩
  | .lst _, _, ⟨a, xs, e, h, r⟩ => ⟨a, xs, e, s.seq h, Reps.mono s r⟩
  | .dct _, _, ⟨a, us, e, h, r⟩ => ⟨a, us, e, rd_same s h, RepsK.mono s r⟩
theorem Reps.mono (s : Same F F') : ∀ {ds : List D} {xs : List V}, Reps K F ds xs → Reps K F' ds xs
  | [], _, h => h
  | _ :: _, _, ⟨x, r, e, h, t⟩ => ⟨x, r, e, Rep.mono s h, Reps.mono s t⟩
theorem RepsK.mono (s : Same F F') : ∀ {ds : List (Key × D)} {xs : List (Key × V)}, RepsK K F ds xs → RepsK K F' ds xs
  | [], _, h => h
  | (_, _) :: _, _, ⟨x, r, e, h, t⟩ => ⟨x, r, e, Rep.mono s h, RepsK.mono s t⟩
end

theorem Reps.length : ∀ {ds : List D} {xs : List V}, Reps K F ds xs → xs.length = ds.length
  | [], _, h => by rw [show _ = [] from h]; rfl
  | _ :: _, _, ⟨x, r, e, _, t⟩ => by rw [e, List.length_cons, List.length_cons, Reps.length t]
theorem Reps.get : ∀ {ds : List D} {xs : List V} {i : Nat} {d : D}, Reps K F ds xs → ds[i]? = some d → ∃ x, xs[i]? = some x ∧ Rep K F d x
  | [], _, _, _, _, e => by simp at e
  | _ :: _, _, 0, _, ⟨x, r, e, h, _⟩, q => by
    subst e
    simp at q
    subst q
    exact ⟨x, rfl, h⟩
  | _ :: _, _, i + 1, _, ⟨x, r, e, _, t⟩, q => by
    subst e
    simp at q
    obtain ⟨y, h1, h2⟩ := Reps.get t q
    exact ⟨y, by simpa using h1, h2⟩
theorem Reps.get' : ∀ {ds : List D} {xs : List V} {i : Nat} {x : V}, Reps K F ds xs → xs[i]? = some x → ∃ d, ds[i]? = some d ∧ Rep K F d x := fun {ds xs i x} r e => by
  have hl := r.length
  obtain ⟨h1, _⟩ := List.getElem?_eq_some_iff.mp e
  obtain ⟨y, h2, h3⟩ := r.get (i := i) (d := ds[i]'(by omega)) (List.getElem?_eq_getElem _)
  rw [e] at h2
  cases h2
  exact ⟨_, List.getElem?_eq_getElem _, h3⟩
theorem Reps.cons {d : D} {x : V} {ds : List D} {xs : List V} (h : Rep K F d x) (t : Reps K F ds xs) : Reps K F (d :: ds) (x :: xs) := ⟨x, xs, rfl, h, t⟩
theorem Reps.nil : Reps K F [] [] := rfl
theorem Reps.append : ∀ {ds es : List D} {xs ys : List V}, Reps K F ds xs → Reps K F es ys → Reps K F (ds ++ es) (xs ++ ys)
  | [], _, _, _, h, t => by rw [show _ = [] from h]; exact t
  | _ :: _, _, _, _, ⟨x, r, e, h, t⟩, u => by subst e; exact ⟨x, _, rfl, h, Reps.append t u⟩
theorem Reps.set {e : D} {y : V} (hy : Rep K F e y) : ∀ {ds : List D} {xs : List V} (i : Nat), Reps K F ds xs → Reps K F (ds.set i e) (xs.set i y)
  | [], _, _, h => by rw [show _ = [] from h]; exact rfl
  | _ :: _, _, 0, ⟨x, r, q, h, t⟩ => by subst q; exact ⟨y, r, rfl, hy, t⟩
  | _ :: _, _, i + 1, ⟨x, r, q, h, t⟩ => by subst q; exact ⟨x, _, rfl, h, Reps.set hy i t⟩
theorem Reps.take : ∀ {ds : List D} {xs : List V} (n : Nat), Reps K F ds xs → Reps K F (ds.take n) (xs.take n)
  | _, _, 0, _ => by rw [List.take_zero, List.take_zero]; exact rfl
  | [], _, _ + 1, h => by rw [show _ = [] from h]; exact rfl
  | _ :: _, _, n + 1, ⟨x, r, q, h, t⟩ => by subst q; exact ⟨x, _, rfl, h, Reps.take n t⟩
theorem Reps.drop : ∀ {ds : List D} {xs : List V} (n : Nat), Reps K F ds xs → Reps K F (ds.drop n) (xs.drop n)
  | _, _, 0, h => by rw [List.drop_zero, List.drop_zero]; exact h
  | [], _, _ + 1, h => by rw [show _ = [] from h]; exact rfl
  | _ :: _, _, n + 1, ⟨x, r, q, h, t⟩ => by subst q; exact Reps.drop n t
theorem Reps.eraseIdx : ∀ {ds : List D} {xs : List V} (n : Nat), Reps K F ds xs → Reps K F (ds.eraseIdx n) (xs.eraseIdx n)
  | [], _, _, h => by rw [show _ = [] from h]; exact rfl
  | _ :: _, _, 0, ⟨x, r, q, h, t⟩ => by subst q; exact t
  | _ :: _, _, n + 1, ⟨x, r, q, h, t⟩ => by subst q; exact ⟨x, _, rfl, h, Reps.eraseIdx n t⟩
theorem Reps.reverse : ∀ {ds : List D} {xs : List V}, Reps K F ds xs → Reps K F ds.reverse xs.reverse
  | [], _, h => by rw [show _ = [] from h]; exact rfl
  | _ :: _, _, ⟨x, r, q, h, t⟩ => by
    subst q
    rw [List.reverse_cons, List.reverse_cons]
    exact (Reps.reverse t).append (.cons h .nil)
theorem Reps.replicate : ∀ {ds : List D} {xs : List V} (k : Nat), Reps K F ds xs → Reps K F (List.replicate k ds).flatten (List.replicate k xs).flatten
  | _, _, 0, _ => by simp [List.replicate]; exact rfl
  | _, _, n + 1, h => by
    rw [List.replicate_succ, List.replicate_succ, List.flatten_cons, List.flatten_cons]
    exact h.append (Reps.replicate n h)
theorem Reps.ints : ∀ {ns : List Int} {xs : List V}, Reps K F (ns.map D.int) xs → xs = ns.map V.int
  | [], _, h => h
  | _ :: _, _, ⟨x, r, e, h, t⟩ => by
    rw [e, show x = V.int _ from h, Reps.ints t]
    rfl
theorem Reps.of_ints : ∀ (ns : List Int), Reps K F (ns.map D.int) (ns.map V.int)
  | [] => rfl
  | n :: ns => ⟨.int n, _, rfl, rfl, Reps.of_ints ns⟩
theorem Reps.bls : ∀ {bs : List Bool} {xs : List V}, Reps K F (bs.map D.bl) xs → xs = bs.map V.bl
  | [], _, h => h
  | _ :: _, _, ⟨x, r, e, h, t⟩ => by
    rw [e, show x = V.bl _ from h, Reps.bls t]
    rfl
theorem Reps.strs : ∀ {bs : List Str} {xs : List V}, Reps K F (bs.map D.str) xs → xs = bs.map V.str
  | [], _, h => h
  | _ :: _, _, ⟨x, r, e, h, t⟩ => by
    rw [e, show x = V.str _ from h, Reps.strs t]
    rfl
end

/-! ### results, slots -/
structure Ex where
  cls : Str
  fld : Option (Str × D)

inductive Res (α : Type) where
  | ok (a : α) | ex (x : Ex) | stuck
@[reducible] def Res.bind {α β : Type} (r : Res α) (f : α → Res β) : Res β := match r with
  | .ok a => f a
  | .ex x => .ex x
  | .stuck => .stuck

/-- what a mutable object of one's own holds -/
inductive C where
  | lst (ds : List D) | dct (kvs : List (Key × D))
def C.d : C → D
  | .lst ds => .lst ds
  | .dct kvs => .dct kvs

/-- un: nothing known; val: shared data, it never changes; own p c: a mutable object that this name alone holds (p: handed in, given back at the end) -/
inductive Slot where
  | un | val (d : D) | own (p : Bool) (c : C) | rf (a : Addr)
abbrev Env := List Slot

def CRep (K : PySem.W.Frag) (F H : Hp) (a : Addr) : C → Prop
  | .lst ds => ∃ xs, H a = some (.lst xs) ∧ Reps K F ds xs
  | .dct kvs => ∃ us, H a = some (.dK us) ∧ RepsK K F kvs us
theorem CRep.mono {K : PySem.W.Frag} {F F' H H' : Hp} {a : Addr} {c : C} (s : Same F F') (e : H' a = H a) (h : CRep K F H a c) : CRep K F' H' a c := by
  cases c with
  | lst ds => obtain ⟨xs, h1, h2⟩ := h; exact ⟨xs, e.trans h1, h2.mono s⟩
  | dct kvs => obtain ⟨xs, h1, h2⟩ := h; exact ⟨xs, e.trans h1, h2.mono s⟩
theorem CRep.some {K : PySem.W.Frag} {F H : Hp} {a : Addr} {c : C} (h : CRep K F H a c) : ∃ o, H a = some o := by
  cases c with
  | lst ds => obtain ⟨xs, h1, _⟩ := h; exact ⟨_, h1⟩
  | dct kvs => obtain ⟨xs, h1, _⟩ := h; exact ⟨_, h1⟩

/-- the entry of a def: its heap, what is shared there, the own objects that were handed in, its slots -/
structure Base where
  H0 : Hp
  F0 : Hp
  P : Addr → Prop
  s0 : Sg

/-- all but the tables stays; the tables are tables; they are not shared -/
structure Frame (B : Base) (H : Hp) : Prop where
  k : ∀ b o, B.H0 b = some o → ¬ B.P b → NoT b → H b = some o
  t : Tabs TabsC.T H
  t0 : Tabs TabsC.T B.H0
  b : ∀ p ∈ TabsC.T, B.F0 p.1 = none
structure Rel (K : PySem.W.Frag) (B : Base) (F : Hp) (O : Addr → Option C) (H : Hp) (r : Env) (s : Sg) : Prop where
  fh : Same F H
  f0 : Same B.F0 F
  nf : ∀ b o, F b = some o → B.F0 b = some o ∨ B.H0 b = none
  fr : Frame B H
  st : ∀ b, H b = none → B.H0 b = none
  ow : ∀ a c, O a = some c → F a = none ∧ CRep K F H a c ∧ (B.P a ∨ B.H0 a = none)
  len : s.length = r.length
  vl : ∀ (i : Nat) (d : D), r[i]? = some (.val d) → ∃ x, s[i]? = some (some x) ∧ Rep K F d x
  on : ∀ (i : Nat) (p : Bool) (c : C), r[i]? = some (.own p c) → ∃ a, s[i]? = some (some (.ref a)) ∧ O a = some c ∧ (p = false → B.H0 a = none) ∧ (p = true → s[i]? = B.s0[i]? ∧ B.P a)
  inj : ∀ (i j : Nat) (p q : Bool) (c c' : C) (a : Addr), r[i]? = some (.own p c) → r[j]? = some (.own q c') → s[i]? = some (some (.ref a)) → s[j]? = some (some (.ref a)) → i = j
  rf : ∀ (i : Nat) (a : Addr), r[i]? = some (.rf a) → s[i]? = some (some (.ref a))

/-- a is no slot's own object -/
def Free (s : Sg) (r : Env) (a : Addr) : Prop := ∀ (i : Nat) (p : Bool) (c : C), r[i]? = some (.own p c) → s[i]? ≠ some (some (.ref a))
/-- own objects that no slot holds stay -/
def Keep (s : Sg) (r r' : Env) (O O' : Addr → Option C) : Prop := ∀ a c, O a = some c → Free s r a → O' a = some c ∧ Free s r' a
theorem Keep.refl {s : Sg} {r : Env} {O : Addr → Option C} : Keep s r r O O := fun _ _ h f => ⟨h, f⟩
theorem Keep.trans {s : Sg} {r r1 r2 : Env} {O O1 O2 : Addr → Option C} (a : Keep s r r1 O O1) (b : Keep s r1 r2 O1 O2) : Keep s r r2 O O2 := fun x c h f =>
  let ⟨h1, f1⟩ := a x c h f
  b x c h1 f1

/-- what of an own object may be read as data -/
inductive BV where
  | val (d : D) | slot (i : Nat)
def BRep (K : PySem.W.Frag) (F : Hp) (s : Sg) : BV → V → Prop
  | .val d, v => Rep K F d v
  | .slot i, v => s[i]? = some (some v)
def bGet (r : Env) : BV → Option D
  | .val d => some d
  | .slot i => match r[i]? with
    | some (.own _ c) => some c.d
    | some (.val d) => some d
    | _ => none
/-- the object itself in H, its parts in F -/
def RepB (K : PySem.W.Frag) (F H : Hp) : D → V → Prop
  | .non, v => v = .non
  | .bl b, v => v = .bl b
  | .int i, v => v = .int i
  | .str x, v => v = .str x
  | .tup ds, v => ∃ a xs, v = .ref a ∧ SqT K F a xs ∧ Reps K F ds xs
  | .lst ds, v => ∃ a xs, v = .ref a ∧ SqL K H a xs ∧ Reps K F ds xs
  | .dct kvs, v => ∃ a us, v = .ref a ∧ Rd H a (.dK us) ∧ RepsK K F kvs us
theorem Rep.b {K : PySem.W.Frag} {F H : Hp} (s : Same F H) : ∀ {d : D} {v : V}, Rep K F d v → RepB K F H d v
  | .non, _, h => h
  | .bl _, _, h => h
  | .int _, _, h => h
  | .str _, _, h => h
  | .tup _, _, h => h
  | .lst _, _, ⟨a, xs, e, h, r⟩ => ⟨a, xs, e, s.seq h, r⟩
  | .dct _, _, ⟨a, us, e, h, r⟩ => ⟨a, us, e, rd_same s h, r⟩
theorem RepB.rep {K : PySem.W.Frag} {F H : Hp} (s : Same F H) : ∀ {d : D} {v : V}, RepB K F H d v → Rep K H d v
  | .non, _, h => h
  | .bl _, _, h => h
  | .int _, _, h => h
  | .str _, _, h => h
  | .tup _, _, ⟨a, xs, e, h, r⟩ => ⟨a, xs, e, same_seqT s h, r.mono s⟩
  | .lst _, _, ⟨a, xs, e, h, r⟩ => ⟨a, xs, e, h, r.mono s⟩
  | .dct _, _, ⟨a, us, e, h, r⟩ => ⟨a, us, e, h, r.mono s⟩

section
variable {K : PySem.W.Frag} {B : Base} {F F' H H' : Hp} {O : Addr → Option C} {r : Env} {s : Sg}
theorem Rel.bget (R : Rel K B F O H r s) {b : BV} {v : V} {d : D} (h : BRep K F s b v) (e : bGet r b = some d) : RepB K F H d v := by
  cases b with
  | val d' => cases e; exact Rep.b R.fh h
  | slot i =>
    have e : (match r[i]? with
      | some (Slot.own _ c) => some c.d
      | some (Slot.val d) => some d
      | _ => none) = some d := e
    cases q : r[i]? with
    | none => rw [q] at e; cases e
    | some sl =>
      rw [q] at e
      cases sl with
      | un => cases e
      | rf _ => cases e
      | val d' =>
        cases e
        obtain ⟨x, h1, h2⟩ := R.vl i d q
        rw [show s[i]? = some (some v) from h] at h1
        cases h1
        exact Rep.b R.fh h2
      | own p c =>
        cases e
        obtain ⟨a, h1, h2, _⟩ := R.on i p c q
        rw [show s[i]? = some (some v) from h] at h1
        cases h1
        obtain ⟨_, h3, _⟩ := R.ow a c h2
        cases c with
        | lst ds => obtain ⟨xs, h4, h5⟩ := h3; exact ⟨a, xs, rfl, SqL.of h4, h5⟩
        | dct kvs => obtain ⟨xs, h4, h5⟩ := h3; exact ⟨a, xs, rfl, .inl h4, h5⟩

/-- new shared objects -/
structure Grow (F H F' H' : Hp) : Prop where
  ff : Same F F'
  hh : ∀ b o, H b = some o → NoT b → H' b = some o
  tt : Tabs TabsC.T H → Tabs TabsC.T H'
  nn : ∀ b, H' b = none → H b = none
  nw : ∀ b o, F' b = some o → F b = some o ∨ H b = none
  fh : Same F' H'
theorem Grow.refl (h : Same F H) : Grow F H F H := ⟨.refl _, fun _ _ q _ => q, fun t => t, fun _ q => q, fun _ _ q => .inl q, h⟩
theorem Grow.trans {F2 H2 : Hp} (a : Grow F H F' H') (b : Grow F' H' F2 H2) : Grow F H F2 H2 :=
  ⟨a.ff.trans b.ff, fun c o q n => b.hh c o (a.hh c o q n) n, fun t => b.tt (a.tt t), fun c q => a.nn c (b.nn c q), fun c o q => (b.nw c o q).elim (fun z => a.nw c o z) (fun z => .inr (a.nn c z)), b.fh⟩
theorem same_upd {H : Hp} {p : Addr} {o : HO} (h : H p = none) : Same H (upd H p o) := fun b u e => by
  rw [upd_ne (ne_of_none e h)]; exact e
theorem Same.none (h : Same F H) {p : Addr} (e : H p = none) : F p = none := h.free e
theorem Grow.new {p : Addr} {o : HO} (h : Same F H) (e : H p = none) : Grow F H (upd F p o) (upd H p o) := by
  refine ⟨same_upd (h.free e), fun b o q _ => same_upd e b o q, fun t => t.ext (same_upd e), fun b q => (same_upd e).free q, fun b u q => ?_, fun b u q => ?_⟩
  · by_cases hb : b = p
    · subst hb; exact .inr e
    · rw [upd_ne hb] at q; exact .inl q
  · by_cases hb : b = p
    · subst hb; rw [upd_same] at q ⊢; exact q
    · rw [upd_ne hb] at q ⊢; exact h _ _ q
/-- garbage: in H alone -/
theorem Grow.garb {p : Addr} {o : HO} (h : Same F H) (e : H p = none) : Grow F H F (upd H p o) :=
  ⟨.refl _, fun b o q _ => same_upd e b o q, fun t => t.ext (same_upd e), fun b q => (same_upd e).free q, fun _ _ q => .inl q, h.trans (same_upd e)⟩

/-- a table is no list, no dict -/
theorem not_tab {a : Addr} {c : C} (t : Tabs TabsC.T H) (h : CRep K F H a c) : NoT a := fun p hp z => by
  obtain ⟨ps, e, _⟩ := t p hp
  subst z
  cases c with
  | lst ds => obtain ⟨xs, h1, _⟩ := h; rw [e] at h1; cases h1
  | dct kvs => obtain ⟨xs, h1, _⟩ := h; rw [e] at h1; cases h1
/-- a list or dict is written: the tables stay -/
theorem tabs_upd {a : Addr} {c : C} {o : HO} (t : Tabs TabsC.T H) (h : CRep K F H a c) : Tabs TabsC.T (upd H a o) := fun p hp => by
  have n := not_tab t h p hp
  obtain ⟨ps, e1, e2, e3⟩ := t p hp
  refine ⟨ps, by rw [upd_ne n]; exact e1, e2, fun pos cv q => ?_⟩
  obtain ⟨b, e4, e5⟩ := e3 pos cv q
  have nb : b ≠ a := fun z => by
    subst z
    cases c with
    | lst ds => obtain ⟨xs, h1, _⟩ := h; rw [e5] at h1; unfold LamX.CodeO at h1; cases h1
    | dct kvs => obtain ⟨xs, h1, _⟩ := h; rw [e5] at h1; unfold LamX.CodeO at h1; cases h1
  exact ⟨b, e4, by rw [upd_ne nb]; exact e5⟩
/-- a table is not shared -/
theorem Rel.noF (R : Rel K B F O H r s) : ∀ p ∈ TabsC.T, F p.1 = none := fun p hp => by
  cases q : F p.1 with
  | none => rfl
  | some o =>
    rcases R.nf _ _ q with z | z
    · rw [R.fr.b p hp] at z; cases z
    · obtain ⟨ps, e, _⟩ := R.fr.t0 p hp
      rw [z] at e; cases e
theorem Rel.grow (R : Rel K B F O H r s) (g : Grow F H F' H') : Rel K B F' O H' r s where
  fh := g.fh
  f0 := R.f0.trans g.ff
  nf := fun b o e => (g.nw b o e).elim (fun z => R.nf b o z) (fun z => .inr (R.st b z))
  fr := ⟨fun b o e p n => g.hh _ _ (R.fr.k b o e p n) n, g.tt R.fr.t, R.fr.t0, R.fr.b⟩
  st := fun b e => R.st b (g.nn b e)
  ow := fun a c e => by
    obtain ⟨h1, h2, h3⟩ := R.ow a c e
    obtain ⟨o, h4⟩ := h2.some
    refine ⟨?_, h2.mono g.ff ((g.hh _ _ h4 (not_tab R.fr.t h2)).trans h4.symm), h3⟩
    cases q : F' a with
    | none => rfl
    | some u =>
      rcases g.nw a u q with z | z
      · rw [h1] at z; cases z
      · rw [h4] at z; cases z
  len := R.len
  vl := fun i d e => let ⟨x, h1, h2⟩ := R.vl i d e; ⟨x, h1, h2.mono g.ff⟩
  on := R.on
  inj := R.inj
  rf := R.rf

/-- a slot's own object is written -/
theorem Rel.mut {i : Nat} {p : Bool} {c c' : C} {a : Addr} {o : HO} (R : Rel K B F O H r s) (e : r[i]? = some (.own p c)) (ha : s[i]? = some (some (.ref a))) (hc : CRep K F (upd H a o) a c') :
    Rel K B F (fun b => if b = a then some c' else O b) (upd H a o) (r.set i (.own p c')) s ∧ Keep s r (r.set i (.own p c')) O (fun b => if b = a then some c' else O b) := by
  obtain ⟨a', h1, h2, h3, h4⟩ := R.on i p c e
  rw [ha] at h1; cases h1
  obtain ⟨f1, f2, f3⟩ := R.ow a c h2
  have hi : i < r.length := (List.getElem?_eq_some_iff.mp e).1
  have other : ∀ (j : Nat) (q : Bool) (d : C), j ≠ i → r[j]? = some (.own q d) → s[j]? ≠ some (some (.ref a)) := fun j q d hj e1 e2 => hj (R.inj j i q p d c a e1 e e2 ha)
  refine ⟨⟨fun b u q => ?_, R.f0, R.nf, ⟨fun b u q np nt => ?_, tabs_upd R.fr.t f2, R.fr.t0, R.fr.b⟩, fun b q => ?_, fun b d q => ?_, by rw [List.length_set]; exact R.len, fun j d q => ?_, fun j q d w => ?_, fun j k q q' d d' b e1 e2 g1 g2 => ?_, fun j b q => ?_⟩, fun b d q fr => ?_⟩
  · rw [upd_ne (fun z => by subst z; rw [f1] at q; cases q)]
    exact R.fh _ _ q
  · rw [upd_ne (fun z => by
      subst z
      rcases f3 with f3 | f3
      · exact np f3
      · rw [f3] at q; cases q)]
    exact R.fr.k _ _ q np nt
  · by_cases hb : b = a
    · subst hb; rw [upd_same] at q; cases q
    · rw [upd_ne hb] at q; exact R.st _ q
  · by_cases hb : b = a
    · subst hb
      simp only [if_true] at q
      cases q
      exact ⟨f1, hc, f3⟩
    · simp only [if_neg hb] at q
      obtain ⟨g1, g2, g3⟩ := R.ow b d q
      exact ⟨g1, g2.mono (.refl _) (upd_ne hb), g3⟩
  · by_cases hj : j = i
    · subst hj
      rw [List.getElem?_set_self hi] at q; cases q
    · rw [List.getElem?_set_ne (Ne.symm hj)] at q
      exact R.vl j d q
  · by_cases hj : j = i
    · subst hj
      rw [List.getElem?_set_self hi] at w; cases w
      exact ⟨a, ha, by simp, h3, h4⟩
    · rw [List.getElem?_set_ne (Ne.symm hj)] at w
      obtain ⟨b, g1, g2, g3⟩ := R.on j q d w
      have : b ≠ a := fun z => other j q d hj w (by rw [g1, z])
      exact ⟨b, g1, by simp only [if_neg this]; exact g2, g3⟩
  · have back : ∀ (j : Nat) (q : Bool) (d : C), (r.set i (.own p c'))[j]? = some (.own q d) → ∃ q' d', r[j]? = some (.own q' d') := fun j q d w => by
      by_cases hj : j = i
      · subst hj; exact ⟨p, c, e⟩
      · rw [List.getElem?_set_ne (Ne.symm hj)] at w; exact ⟨q, d, w⟩
    obtain ⟨_, _, e1'⟩ := back _ _ _ e1
    obtain ⟨_, _, e2'⟩ := back _ _ _ e2
    exact R.inj j k _ _ _ _ b e1' e2' g1 g2
  · by_cases hj : j = i
    · subst hj
      rw [List.getElem?_set_self hi] at q; cases q
    · rw [List.getElem?_set_ne (Ne.symm hj)] at q
      exact R.rf j b q
  · have hb : b ≠ a := fun z => fr i p c e (by rw [z]; exact ha)
    refine ⟨by simp only [if_neg hb]; exact q, fun j q' d' w => ?_⟩
    by_cases hj : j = i
    · subst hj; exact fr j p c e
    · rw [List.getElem?_set_ne (Ne.symm hj)] at w
      exact fr j q' d' w

/-- an own object without a slot, young: it becomes shared -/
theorem Rel.freeze {a : Addr} {c : C} (R : Rel K B F O H r s) (e : O a = some c) (y : B.H0 a = none) (fr : Free s r a) :
    ∃ F', Same F F' ∧ Rep K F' c.d (.ref a) ∧ Rel K B F' (fun b => if b = a then none else O b) H r s := by
  obtain ⟨f1, f2, f3⟩ := R.ow a c e
  obtain ⟨o, ho⟩ := f2.some
  have sF : Same F (upd F a o) := same_upd f1
  have fh : Same (upd F a o) H := fun b u q => by
    by_cases hb : b = a
    · subst hb; rw [upd_same] at q; cases q; exact ho
    · rw [upd_ne hb] at q; exact R.fh _ _ q
  refine ⟨upd F a o, sF, ?_, ⟨fh, R.f0.trans sF, fun b u q => ?_, R.fr, R.st, fun b d q => ?_, R.len, fun i d q => let ⟨x, h1, h2⟩ := R.vl i d q; ⟨x, h1, h2.mono sF⟩, fun i p d q => ?_, R.inj, R.rf⟩⟩
  · cases c with
    | lst ds =>
      obtain ⟨xs, h1, h2⟩ := f2
      rw [ho] at h1; cases h1
      exact ⟨a, xs, rfl, SqL.of upd_same, h2.mono sF⟩
    | dct kvs =>
      obtain ⟨xs, h1, h2⟩ := f2
      rw [ho] at h1; cases h1
      exact ⟨a, xs, rfl, .inl upd_same, h2.mono sF⟩
  · by_cases hb : b = a
    · subst hb; exact .inr y
    · rw [upd_ne hb] at q; exact R.nf b u q
  · by_cases hb : b = a
    · subst hb; simp at q
    · simp only [if_neg hb] at q
      obtain ⟨g1, g2, g3⟩ := R.ow b d q
      exact ⟨by rw [upd_ne hb]; exact g1, g2.mono sF rfl, g3⟩
  · obtain ⟨b, g1, g2, g3⟩ := R.on i p d q
    have hb : b ≠ a := fun z => fr i p d q (by rw [g1, z])
    exact ⟨b, g1, by simp only [if_neg hb]; exact g2, g3⟩
end
end Ev

/-! E2: the judgements; names, constants, operators, displays. -/
namespace Ev
open PySem PySem.Spec PyProof.Rows L2
variable [TabsC]

def Res.bnd {α β : Type} (m : Res (α × Env)) (g : α → Env → Res (β × Env)) : Res (β × Env) := match m with
  | .ok p => g p.1 p.2
  | .ex x => .ex x
  | .stuck => .stuck
def Res.lft {α β : Type} (m : Res α) (g : α → Res β) : Res β := match m with
  | .ok a => g a
  | .ex x => .ex x
  | .stuck => .stuck
@[simp] theorem Res.bnd_ok {α β : Type} (a : α) (r : Env) (g : α → Env → Res (β × Env)) : (Res.ok (a, r)).bnd g = g a r := rfl
@[simp] theorem Res.bnd_ex {α β : Type} (x : Ex) (g : α → Env → Res (β × Env)) : (Res.ex x : Res (α × Env)).bnd g = .ex x := rfl
@[simp] theorem Res.bnd_stuck {α β : Type} (g : α → Env → Res (β × Env)) : (Res.stuck : Res (α × Env)).bnd g = .stuck := rfl
@[simp] theorem Res.lft_ok {α β : Type} (a : α) (g : α → Res β) : (Res.ok a).lft g = g a := rfl
@[simp] theorem Res.lft_ex {α β : Type} (x : Ex) (g : α → Res β) : (Res.ex x : Res α).lft g = .ex x := rfl
@[simp] theorem Res.lft_stuck {α β : Type} (g : α → Res β) : (Res.stuck : Res α).lft g = .stuck := rfl

/-- an exception's class and own dict -/
def XRep (K : PySem.W.Frag) (mg : Str → Option Value) (x : Ex) (cls : Value) (dd : Option Addr) (H : Hp) : Prop :=
  (∃ c, cls = .ref c ∧ mg x.cls = some (.ref c)) ∧ match x.fld with
    | none => dd = none
    | some (f, d) => ∃ a v, dd = some a ∧ H a = some (.xd [(f, v)]) ∧ Rep K H d v
structure XPost (K : PySem.W.Frag) (mg : Str → Option Value) (B : Base) (F : Hp) (x : Ex) (cls : Value) (dd : Option Addr) (H' : Hp) : Prop where
  rep : XRep K mg x cls dd H'
  fh : Same F H'
  fr : Frame B H'
  st : ∀ b, H' b = none → B.H0 b = none

/-- what follows an expression -/
def Post {α : Type} (K : PySem.W.Frag) (mg : Str → Option Value) (E : XK) (B : Base) (F : Hp) (O : Addr → Option C) (r : Env) (s : Sg) (m : Res (α × Env)) (k : α → Env → Hp → (Addr → Option C) → Hp → Prop) : Prop :=
  match m with
  | .ok p => ∀ F' O' H', Rel K B F' O' H' p.2 s → Same F F' → Keep s r p.2 O O' → k p.1 p.2 F' O' H'
  | .ex x => ∀ cls dd H', XPost K mg B F x cls dd H' → E cls dd H'
  | .stuck => False
section
variable {α β : Type} {K : PySem.W.Frag} {mg : Str → Option Value} {E : XK} {B : Base} {F H : Hp} {O : Addr → Option C} {r : Env} {s : Sg}
theorem Post.split {m : Res (α × Env)} {g : α → Env → Res (β × Env)} {k : β → Env → Hp → (Addr → Option C) → Hp → Prop} (h : Post K mg E B F O r s (m.bnd g) k) :
    Post K mg E B F O r s m (fun a r' F' O' _ => Post K mg E B F' O' r' s (g a r') k) := by
  cases m with
  | ex x => exact h
  | stuck => exact h
  | ok p =>
    obtain ⟨a, r1⟩ := p
    have h : Post K mg E B F O r s (g a r1) k := h
    show ∀ F' O' H', Rel K B F' O' H' r1 s → Same F F' → Keep s r r1 O O' → Post K mg E B F' O' r1 s (g a r1) k
    intro F' O' H' R f kp
    cases q : g a r1 with
    | stuck => rw [q] at h; exact h
    | ex x =>
      rw [q] at h
      have h : ∀ cls dd H', XPost K mg B F x cls dd H' → E cls dd H' := h
      show ∀ cls dd H', XPost K mg B F' x cls dd H' → E cls dd H'
      exact fun cls dd H' X => h cls dd H' ⟨X.rep, f.trans X.fh, X.fr, X.st⟩
    | ok p2 =>
      rw [q] at h
      have h : ∀ F' O' H', Rel K B F' O' H' p2.2 s → Same F F' → Keep s r p2.2 O O' → k p2.1 p2.2 F' O' H' := h
      show ∀ F2 O2 H2, Rel K B F2 O2 H2 p2.2 s → Same F' F2 → Keep s r1 p2.2 O' O2 → k p2.1 p2.2 F2 O2 H2
      exact fun F2 O2 H2 R2 f2 k2 => h F2 O2 H2 R2 (f.trans f2) (kp.trans k2)
theorem Post.mono {m : Res (α × Env)} {k k' : α → Env → Hp → (Addr → Option C) → Hp → Prop} (h : Post K mg E B F O r s m k)
    (w : ∀ a r' F' O' H', Rel K B F' O' H' r' s → Same F F' → Keep s r r' O O' → k a r' F' O' H' → k' a r' F' O' H') : Post K mg E B F O r s m k' := by
  cases m with
  | ex x => exact h
  | stuck => exact h
  | ok p => exact fun F' O' H' R f kp => w _ _ _ _ _ R f kp (h F' O' H' R f kp)
theorem Post.lift {γ : Type} {m : Res γ} {g : γ → Res (β × Env)} {k : β → Env → Hp → (Addr → Option C) → Hp → Prop} (h : Post K mg E B F O r s (m.lft g) k) :
    (∃ c, m = .ok c ∧ Post K mg E B F O r s (g c) k) ∨ (∃ x, m = .ex x ∧ ∀ cls dd H', XPost K mg B F x cls dd H' → E cls dd H') := by
  cases m with
  | ok c => exact .inl ⟨c, rfl, h⟩
  | ex x => exact .inr ⟨x, rfl, h⟩
  | stuck => exact False.elim h
theorem Post.up {m : Res (α × Env)} {k : α → Env → Hp → (Addr → Option C) → Hp → Prop} {F' : Hp} (h : Post K mg E B F O r s m k) (f : Same F F') : Post K mg E B F' O r s m k := by
  cases m with
  | ex x => exact fun cls dd H' X => h cls dd H' ⟨X.rep, f.trans X.fh, X.fr, X.st⟩
  | stuck => exact h
  | ok p => exact fun F2 O2 H2 R2 f2 kp => h F2 O2 H2 R2 (f.trans f2) kp
/-- an answer by hand -/
theorem Post.ok {a : α} {r' : Env} {k : α → Env → Hp → (Addr → Option C) → Hp → Prop} (h : Post K mg E B F O r s (.ok (a, r')) k) {F' H' : Hp} {O' : Addr → Option C} (R : Rel K B F' O' H' r' s) (f : Same F F') (kp : Keep s r r' O O') : k a r' F' O' H' :=
  h F' O' H' R f kp
end

/-- a step that raises nothing -/
def obnd {α β : Type} (m : Option α) (g : α → Res β) : Res β := match m with
  | some a => g a
  | none => .stuck
@[simp] theorem obnd_some {α β : Type} (a : α) (g : α → Res β) : obnd (some a) g = g a := rfl
@[simp] theorem obnd_none {α β : Type} (g : α → Res β) : obnd (none : Option α) g = .stuck := rfl
theorem Post.opt {α γ : Type} {K : PySem.W.Frag} {mg : Str → Option Value} {E : XK} {B : Base} {F : Hp} {O : Addr → Option C} {r : Env} {s : Sg} {m : Option γ} {g : γ → Res (α × Env)} {k : α → Env → Hp → (Addr → Option C) → Hp → Prop}
    (h : Post K mg E B F O r s (obnd m g) k) : ∃ c, m = some c ∧ Post K mg E B F O r s (g c) k := by
  cases m with
  | some c => exact ⟨c, rfl, h⟩
  | none => exact False.elim h

abbrev FE := Env → Res (D × Env)
abbrev FB := Env → Res (BV × Env)
abbrev FO := Env → Res (C × Env)
abbrev FT := Env → Res (Bool × Env)
abbrev FA := Env → Res (List BV × Env)

inductive BReps (K : PySem.W.Frag) (F : Hp) (s : Sg) : List BV → List V → Prop
  | nil : BReps K F s [] []
  | cons {b : BV} {v : V} {bs : List BV} {vs : List V} : BRep K F s b v → BReps K F s bs vs → BReps K F s (b :: bs) (v :: vs)
theorem BRep.mono {K : PySem.W.Frag} {F F' : Hp} {s : Sg} (f : Same F F') {b : BV} {v : V} (h : BRep K F s b v) : BRep K F' s b v := by
  cases b with
  | val d => exact Rep.mono f h
  | slot i => exact h

section
variable (K : PySem.W.Frag) (mg : Str → Option Value) (E : XK)
def tE (f : FE) : TE := fun s H Q => ∃ B F O r, Rel K B F O H r s ∧ Post K mg E B F O r s (f r) fun d _ F' _ H' => ∀ v, Rep K F' d v → Q v H'
def tB (f : FB) : TE := fun s H Q => ∃ B F O r, Rel K B F O H r s ∧ Post K mg E B F O r s (f r) fun b _ F' _ H' => ∀ v, BRep K F' s b v → Q v H'
def tO (f : FO) : TE := fun s H Q => ∃ B F O r, Rel K B F O H r s ∧ Post K mg E B F O r s (f r) fun c r' _ O' H' => ∀ a, O' a = some c → B.H0 a = none → Free s r' a → (∀ c0, O a = some c0 → ¬ Free s r a) → Q (.ref a) H'
def tT (f : FT) : TT := fun s H Q => ∃ B F O r, Rel K B F O H r s ∧ Post K mg E B F O r s (f r) fun b _ _ _ H' => Q b H'
def tA (f : FA) : TA := fun s H Q => ∃ B F O r, Rel K B F O H r s ∧ Post K mg E B F O r s (f r) fun bs _ F' _ H' => ∀ vs, BReps K F' s bs vs → Q vs H'
end
abbrev EvE (X : Cx) (E : XK) (e : Expr) (f : FE) : Prop := PE X e (tE X.K X.mg E f)
abbrev EvB (X : Cx) (E : XK) (e : Expr) (f : FB) : Prop := PE X e (tB X.K X.mg E f)
abbrev EvO (X : Cx) (E : XK) (e : Expr) (f : FO) : Prop := PE X e (tO X.K X.mg E f)
abbrev EvT (X : Cx) (E : XK) (e : Expr) (f : FT) : Prop := PT X e (tT X.K X.mg E f)
abbrev EvA (X : Cx) (E : XK) (es : List Expr) (f : FA) : Prop := PA X es (tA X.K X.mg E f)

theorem PE.imp {X : Cx} {e : Expr} {t t' : TE} (h : PE X e t) (w : ∀ s H Q, t' s H Q → t s H Q) : PE X e t' := ⟨fun pins s σ H Q I q => h.run pins s σ H Q I (w _ _ _ q)⟩
theorem PT.imp {X : Cx} {e : Expr} {t t' : TT} (h : PT X e t) (w : ∀ s H Q, t' s H Q → t s H Q) : PT X e t' := ⟨fun pins s σ H Q I q => h.run pins s σ H Q I (w _ _ _ q)⟩
theorem PA.imp {X : Cx} {e : List Expr} {t t' : TA} (h : PA X e t) (w : ∀ s H Q, t' s H Q → t s H Q) : PA X e t' := ⟨fun pos pins s σ H Q I q => h.run pos pins s σ H Q I (w _ _ _ q)⟩

section
variable {X : Cx} {E : XK} {e a b c : Expr} {pos : Pos}

/-! ### from one judgement to another -/
def fBE (f : FE) : FB := fun r => (f r).bnd fun d r' => .ok (.val d, r')
theorem ev_be {f : FE} (h : EvE X E e f) : EvB X E e (fBE f) := PE.imp h fun s H Q ⟨B, F, O, r, R, q⟩ =>
  ⟨B, F, O, r, R, (Post.split q).mono fun d r' F' O' H' R' f' kp z v hv => z.ok R' (.refl _) .refl v hv⟩
def fEO (f : FO) : FE := fun r => (f r).bnd fun c r' => .ok (c.d, r')
theorem ev_eo {f : FO} (h : EvO X E e f) : EvE X E e (fEO f) := PE.imp h fun s H Q ⟨B, F, O, r, R, q⟩ => by
  refine ⟨B, F, O, r, R, ?_⟩
  unfold fEO at q
  cases m : f r with
  | stuck => rw [m] at q; exact q
  | ex x => rw [m] at q; exact q
  | ok p =>
    obtain ⟨c, r'⟩ := p
    rw [m] at q
    have q : ∀ F' O' H', Rel X.K B F' O' H' r' s → Same F F' → Keep s r r' O O' → ∀ v, Rep X.K F' c.d v → Q v H' := q
    show ∀ F' O' H', Rel X.K B F' O' H' r' s → Same F F' → Keep s r r' O O' → ∀ a, O' a = some c → B.H0 a = none → Free s r' a → (∀ c0, O a = some c0 → ¬ Free s r a) → Q (.ref a) H'
    intro F' O' H' R' f' kp a ha hy fr nw
    obtain ⟨F2, g1, g2, g3⟩ := R'.freeze ha hy fr
    refine q F2 _ H' g3 (f'.trans g1) (fun x c0 h1 h2 => ?_) _ g2
    obtain ⟨h3, h4⟩ := kp x c0 h1 h2
    refine ⟨?_, h4⟩
    have : x ≠ a := fun z => by subst z; exact nw c0 h1 h2
    simp only [if_neg this]
    exact h3

/-! ### names and constants -/
theorem Rel.free_of {K : PySem.W.Frag} {B : Base} {F H : Hp} {O : Addr → Option C} {r : Env} {s : Sg} (R : Rel K B F O H r s) {p : Addr} (h : H p = none) : O p = none ∧ B.H0 p = none ∧ Free s r p ∧ F p = none := by
  have ho : O p = none := by
    cases q : O p with
    | none => rfl
    | some c =>
      obtain ⟨_, h2, _⟩ := R.ow p c q
      obtain ⟨o, e⟩ := h2.some
      rw [h] at e; cases e
  refine ⟨ho, R.st p h, fun i b c e z => ?_, R.fh.free h⟩
  obtain ⟨a, h1, h2, _⟩ := R.on i b c e
  rw [z] at h1; cases h1
  rw [ho] at h2; cases h2
/-- a new own object -/
theorem Rel.born {K : PySem.W.Frag} {B : Base} {F H : Hp} {O : Addr → Option C} {r : Env} {s : Sg} (R : Rel K B F O H r s) {p : Addr} {o : HO} {c : C} (h : H p = none) (hc : CRep K F (upd H p o) p c) :
    Rel K B F (fun b => if b = p then some c else O b) (upd H p o) r s ∧ Keep s r r O (fun b => if b = p then some c else O b) := by
  obtain ⟨ho, h0, fr, hf⟩ := R.free_of h
  have g : Grow F H F (upd H p o) := .garb R.fh h
  have R2 := R.grow g
  refine ⟨⟨R2.fh, R2.f0, R2.nf, R2.fr, R2.st, fun a d q => ?_, R2.len, R2.vl, fun i b d q => ?_, R2.inj, R2.rf⟩, fun a d q f => ⟨?_, f⟩⟩
  · by_cases ha : a = p
    · subst ha
      simp only [if_true] at q
      cases q
      exact ⟨hf, hc, .inr h0⟩
    · simp only [if_neg ha] at q
      exact R2.ow a d q
  · obtain ⟨a, h1, h2, h3⟩ := R2.on i b d q
    have ha : a ≠ p := fun z => by subst z; rw [ho] at h2; cases h2
    exact ⟨a, h1, by simp only [if_neg ha]; exact h2, h3⟩
  · have ha : a ≠ p := fun z => by subst z; rw [ho] at q; cases q
    simp only [if_neg ha]; exact q

def fC (d : D) : FE := fun r => .ok (d, r)
theorem ev_c {d : D} {v : V} (h : PE X e (tC v)) (hr : ∀ F, Rep X.K F d v) : EvE X E e (fC d) := PE.imp h fun s H Q ⟨B, F, O, r, R, q⟩ => q.ok R (.refl _) .refl v (hr F)
theorem ev_int {i j pos} : EvE X E (.Constant (.int i) j pos) (fC (.int i)) := ev_c pe_int fun _ => rfl
theorem ev_bl {b j pos} : EvE X E (.Constant (.bool b) j pos) (fC (.bl b)) := ev_c pe_bl fun _ => rfl
theorem ev_non {j pos} : EvE X E (.Constant .none j pos) (fC .non) := ev_c pe_non fun _ => rfl
theorem ev_str {x j pos} : EvE X E (.Constant (.str x) j pos) (fC (.str x)) := ev_c pe_str fun _ => rfl
/-- a constant of the module -/
theorem ev_glob {x : Str} {d : D} {v : V} {u : Value} {pos : Pos} (hm : X.mg x = some u) (hr : RelV v u) (hd : ∀ F, Rep X.K F d v) (hg : Gl X x := by rfl) (hdb : (x == ("__debug__" : Str)) = false := by decide) : EvE X E (.Name x pos) (fC d) :=
  ev_c (pe_glob hg hm hr hdb) hd

/-- a name, as data (what it alone holds becomes shared) -/
def fN (i : Nat) : FE := fun r => match r[i]? with
  | some (.val d) => .ok (d, r)
  | some (.own false c) => .ok (c.d, r.set i (.val c.d))
  | _ => .stuck
/-- a name, to be read at once -/
def fNB (i : Nat) : FB := fun r => match r[i]? with
  | some (.val d) => .ok (.val d, r)
  | some (.own _ _) => .ok (.slot i, r)
  | _ => .stuck
/-- a name's own object, handed on: the name holds nothing then -/
def fNO (i : Nat) : FO := fun r => match r[i]? with
  | some (.own false c) => .ok (c, r.set i .un)
  | _ => .stuck

theorem Rel.unslot {K : PySem.W.Frag} {B : Base} {F H : Hp} {O : Addr → Option C} {r : Env} {s : Sg} (R : Rel K B F O H r s) (i : Nat) : Rel K B F O H (r.set i .un) s := by
  refine ⟨R.fh, R.f0, R.nf, R.fr, R.st, R.ow, by rw [List.length_set]; exact R.len, fun j d q => ?_, fun j p c q => ?_, fun j k p q c c' a q1 q2 => ?_, fun j b q => ?_⟩
  · by_cases hj : i = j
    · subst hj
      by_cases hi : i < r.length
      · rw [List.getElem?_set_self hi] at q; cases q
      · rw [List.getElem?_eq_none (by rw [List.length_set]; omega)] at q; cases q
    · rw [List.getElem?_set_ne hj] at q; exact R.vl j d q
  · by_cases hj : i = j
    · subst hj
      by_cases hi : i < r.length
      · rw [List.getElem?_set_self hi] at q; cases q
      · rw [List.getElem?_eq_none (by rw [List.length_set]; omega)] at q; cases q
    · rw [List.getElem?_set_ne hj] at q; exact R.on j p c q
  · have back : ∀ (j : Nat) (p : Bool) (c : C), (r.set i Slot.un)[j]? = some (.own p c) → r[j]? = some (.own p c) := fun j p c q => by
      by_cases hj : i = j
      · subst hj
        by_cases hi : i < r.length
        · rw [List.getElem?_set_self hi] at q; cases q
        · rw [List.getElem?_eq_none (by rw [List.length_set]; omega)] at q; cases q
      · rw [List.getElem?_set_ne hj] at q; exact q
    exact R.inj j k p q c c' a (back _ _ _ q1) (back _ _ _ q2)
  · by_cases hj : i = j
    · subst hj
      by_cases hi : i < r.length
      · rw [List.getElem?_set_self hi] at q; cases q
      · rw [List.getElem?_eq_none (by rw [List.length_set]; omega)] at q; cases q
    · rw [List.getElem?_set_ne hj] at q; exact R.rf j b q
theorem un_back {r : Env} {i j : Nat} {p : Bool} {c : C} (q : (r.set i Slot.un)[j]? = some (.own p c)) : j ≠ i ∧ r[j]? = some (.own p c) := by
  by_cases hj : i = j
  · subst hj
    by_cases hi : i < r.length
    · rw [List.getElem?_set_self hi] at q; cases q
    · rw [List.getElem?_eq_none (by rw [List.length_set]; omega)] at q; cases q
  · rw [List.getElem?_set_ne hj] at q; exact ⟨Ne.symm hj, q⟩
/-- a slot that shows shared data -/
theorem Rel.setv {K : PySem.W.Frag} {B : Base} {F H : Hp} {O : Addr → Option C} {r : Env} {s : Sg} (R : Rel K B F O H r s) {i : Nat} {d : D} {x : V} (hx : s[i]? = some (some x)) (hd : Rep K F d x) : Rel K B F O H (r.set i (.val d)) s := by
  have hi : i < r.length := by rw [← R.len]; exact (List.getElem?_eq_some_iff.mp hx).1
  have R0 := R.unslot i
  refine ⟨R.fh, R.f0, R.nf, R.fr, R.st, R.ow, by rw [List.length_set]; exact R.len, fun j e q => ?_, fun j p c q => ?_, fun j k p q c c' a q1 q2 => ?_, fun j b q => ?_⟩
  · by_cases hj : i = j
    · subst hj
      rw [List.getElem?_set_self hi] at q; cases q
      exact ⟨x, hx, hd⟩
    · rw [List.getElem?_set_ne hj] at q; exact R.vl j e q
  · by_cases hj : i = j
    · subst hj
      rw [List.getElem?_set_self hi] at q; cases q
    · rw [List.getElem?_set_ne hj] at q; exact R.on j p c q
  · have back : ∀ (j : Nat) (p : Bool) (c : C), (r.set i (Slot.val d))[j]? = some (.own p c) → r[j]? = some (.own p c) := fun j p c q => by
      by_cases hj : i = j
      · subst hj
        rw [List.getElem?_set_self hi] at q; cases q
      · rw [List.getElem?_set_ne hj] at q; exact q
    exact R.inj j k p q c c' a (back _ _ _ q1) (back _ _ _ q2)
  · by_cases hj : i = j
    · subst hj
      rw [List.getElem?_set_self hi] at q; cases q
    · rw [List.getElem?_set_ne hj] at q; exact R.rf j b q

theorem ev_n {i : Nat} {x : Str} {pos : Pos} (h : PE X (.Name x pos) (tVar i)) : EvE X E (.Name x pos) (fN i) := PE.imp h fun s H Q ⟨B, F, O, r, R, q⟩ => by
  unfold fN at q
  cases m : r[i]? with
  | none => rw [m] at q; exact False.elim q
  | some sl =>
    rw [m] at q
    cases sl with
    | un => exact False.elim q
    | rf _ => exact False.elim q
    | val d =>
      obtain ⟨y, h1, h2⟩ := R.vl i d m
      exact ⟨y, h1, Post.ok (k := fun d _ F' _ H' => ∀ v, Rep X.K F' d v → Q v H') q R (.refl _) .refl y h2⟩
    | own p c =>
      cases p with
      | true => exact False.elim q
      | false =>
        obtain ⟨a, h1, h2, h3, _⟩ := R.on i false c m
        have R1 := R.unslot i
        have fr : Free s (r.set i .un) a := fun j p d w z => by
          obtain ⟨hj, w'⟩ := un_back w
          exact hj (R.inj j i p false d c a w' m z h1)
        obtain ⟨F2, g1, g2, g3⟩ := R1.freeze h2 (h3 rfl) fr
        have R2 := g3.setv h1 g2
        rw [List.set_set] at R2
        refine ⟨.ref a, h1, Post.ok (k := fun d _ F' _ H' => ∀ v, Rep X.K F' d v → Q v H') q R2 g1 (fun b e w f => ?_) _ g2⟩
        have hb : b ≠ a := fun z => f i false c m (by rw [z]; exact h1)
        refine ⟨by simp only [if_neg hb]; exact w, fun j p d w' => ?_⟩
        by_cases hj : i = j
        · subst hj
          have hi : i < r.length := (List.getElem?_eq_some_iff.mp m).1
          rw [List.getElem?_set_self hi] at w'; cases w'
        · rw [List.getElem?_set_ne hj] at w'
          exact f j p d w'
theorem ev_nb {i : Nat} {x : Str} {pos : Pos} (h : PE X (.Name x pos) (tVar i)) : EvB X E (.Name x pos) (fNB i) := PE.imp h fun s H Q ⟨B, F, O, r, R, q⟩ => by
  unfold fNB at q
  cases m : r[i]? with
  | none => rw [m] at q; exact False.elim q
  | some sl =>
    rw [m] at q
    cases sl with
    | un => exact False.elim q
    | rf _ => exact False.elim q
    | val d =>
      obtain ⟨y, h1, h2⟩ := R.vl i d m
      exact ⟨y, h1, Post.ok (k := fun b _ F' _ H' => ∀ v, BRep X.K F' s b v → Q v H') q R (.refl _) .refl y h2⟩
    | own p c =>
      obtain ⟨a, h1, h2, _⟩ := R.on i p c m
      exact ⟨.ref a, h1, Post.ok (k := fun b _ F' _ H' => ∀ v, BRep X.K F' s b v → Q v H') q R (.refl _) .refl _ h1⟩
theorem ev_no {i : Nat} {x : Str} {pos : Pos} (h : PE X (.Name x pos) (tVar i)) : EvO X E (.Name x pos) (fNO i) := PE.imp h fun s H Q ⟨B, F, O, r, R, q⟩ => by
  unfold fNO at q
  cases m : r[i]? with
  | none => rw [m] at q; exact False.elim q
  | some sl =>
    rw [m] at q
    cases sl with
    | un => exact False.elim q
    | rf _ => exact False.elim q
    | val d => exact False.elim q
    | own p c =>
      cases p with
      | true => exact False.elim q
      | false =>
        obtain ⟨a, h1, h2, h3, _⟩ := R.on i false c m
        have R1 := R.unslot i
        have fr : Free s (r.set i .un) a := fun j p d w z => by
          obtain ⟨hj, w'⟩ := un_back w
          exact hj (R.inj j i p false d c a w' m z h1)
        have q : ∀ F' O' H', Rel X.K B F' O' H' (r.set i .un) s → Same F F' → Keep s r (r.set i .un) O O' → ∀ a, O' a = some c → B.H0 a = none → Free s (r.set i .un) a → (∀ c0, O a = some c0 → ¬ Free s r a) → Q (.ref a) H' := q
        exact ⟨.ref a, h1, q F O H R1 (.refl _) (fun b e w f => ⟨w, fun j p d w' => f j p d (un_back w').2⟩) a h2 (h3 rfl) fr fun _ _ f => f i false c m h1⟩
end
end Ev

/-! E3: operators, comparisons, tests, argument lists, displays. -/
namespace Ev
open PySem PySem.Spec PyProof.Rows L2
variable [TabsC]

/-! ### operations on data -/
def rD2 (K : PySem.W.Frag) (g : D → D → Option D) : R2 := fun x y H Q => ∃ F dx dy d, Same F H ∧ RepB K F H dx x ∧ RepB K F H dy y ∧ g dx dy = some d ∧ ∀ z F' H', Grow F H F' H' → Rep K F' d z → Q z H'
abbrev OpD (X : Cx) (f : Value → Value → Sem Value) (g : D → D → Option D) : Prop := OpR X f (rD2 X.K g)
theorem OpR.imp {X : Cx} {f : Value → Value → Sem Value} {t t' : R2} (h : OpR X f t) (w : ∀ x y H Q, t' x y H Q → t x y H Q) : OpR X f t' := fun pins s σ H x y v u Q I rx ry q => h pins s σ H x y v u Q I rx ry (w _ _ _ _ q)
theorem OpR.or {X : Cx} {f : Value → Value → Sem Value} {t t' : R2} (h : OpR X f t) (h' : OpR X f t') : OpR X f (fun x y H Q => t x y H Q ∨ t' x y H Q) := fun pins s σ H x y v u Q I rx ry q => q.elim (h pins s σ H x y v u Q I rx ry) (h' pins s σ H x y v u Q I rx ry)
/-- to show an operation's rule by cases on the data -/
theorem OpD.mk {X : Cx} {f : Value → Value → Sem Value} {g : D → D → Option D} (h : ∀ dx dy d, g dx dy = some d → OpR X f (fun x y H Q => ∃ F, Same F H ∧ RepB X.K F H dx x ∧ RepB X.K F H dy y ∧ ∀ z F' H', Grow F H F' H' → Rep X.K F' d z → Q z H')) : OpD X f g :=
  fun pins s σ H x y v u Q I rx ry ⟨F, dx, dy, d, q1, q2, q3, q4, q5⟩ => h dx dy d q4 pins s σ H x y v u Q I rx ry ⟨F, q1, q2, q3, q5⟩

/-- a choice that nothing computes -/
noncomputable def ifP {α : Type} (p : Prop) (x y : α) : α := @ite α p (Classical.propDecidable p) x y
theorem ifP_pos {α : Type} {p : Prop} {x y : α} (h : p) : ifP p x y = x := @if_pos p (Classical.propDecidable p) h α x y
theorem ifP_some {α : Type} {p : Prop} {x : α} {y : α} (h : ifP p (some x) none = some y) : p ∧ x = y := by
  unfold ifP at h
  split at h
  · rename_i hp
    exact ⟨hp, Option.some.inj h⟩
  · cases h
noncomputable instance (i j : Int) : Decidable (CMul i j) := Classical.propDecidable _
noncomputable instance (i j : Int) : Decidable (CDivN i j) := Classical.propDecidable _
noncomputable instance (i j : Int) : Decidable (CPow i j) := Classical.propDecidable _

def gAdd : D → D → Option D
  | .int i, .int j => some (.int (i + j))
  | .str x, .str y => if x.length + y.length ≤ sizeLine then some (.str (x ++ y)) else none
  | .tup xs, .tup ys => if xs.length + ys.length ≤ sizeLine then some (.tup (xs ++ ys)) else none
  | _, _ => none
def gSub : D → D → Option D
  | .int i, .int j => some (.int (i - j))
  | _, _ => none
noncomputable def gMul : D → D → Option D
  | .int i, .int j => if CMul i j then some (.int (i * j)) else none
  | _, _ => none
noncomputable def gFdiv : D → D → Option D
  | .int i, .int j => if CDivN i j then some (.int (i.fdiv j)) else none
  | _, _ => none
def gMod : D → D → Option D
  | .int i, .int j => if j ≠ 0 then some (.int (i.fmod j)) else none
  | _, _ => none
noncomputable def gPow : D → D → Option D
  | .int i, .int j => if CPow i j then some (.int (i ^ j.toNat)) else none
  | _, _ => none
def gLt : D → D → Option D
  | .int i, .int j => some (.bl (decide (i < j)))
  | .str i, .str j => some (.bl (decide (i.cps.toList < j.cps.toList)))
  | _, _ => none
def gLe : D → D → Option D
  | .int i, .int j => some (.bl (decide (i ≤ j)))
  | _, _ => none
def gGt : D → D → Option D
  | .int i, .int j => some (.bl (decide (j < i)))
  | _, _ => none
def gGe : D → D → Option D
  | .int i, .int j => some (.bl (decide (j ≤ i)))
  | _, _ => none

section
variable {X : Cx}
theorem op2_int {f : Value → Value → Sem Value} {Cn : Int → Int → Prop} {h : Int → Int → Int} (o : OpR X f (rI Cn fun i j => .int (h i j))) {i j : Int} (hc : Cn i j) :
    OpR X f (fun x y H Q => ∃ F, Same F H ∧ RepB X.K F H (.int i) x ∧ RepB X.K F H (.int j) y ∧ ∀ z F' H', Grow F H F' H' → Rep X.K F' (.int (h i j)) z → Q z H') :=
  OpR.imp o fun x y H Q ⟨F, f1, hx, hy, q⟩ => ⟨i, j, hx, hy, hc, q _ F H (.refl f1) rfl⟩
theorem op2_int0 {f : Value → Value → Sem Value} {h : Int → Int → V} {d : D} {i j : Int} (o : OpR X f (rI0 h)) (e : ∀ F, Rep X.K F d (h i j)) :
    OpR X f (fun x y H Q => ∃ F, Same F H ∧ RepB X.K F H (.int i) x ∧ RepB X.K F H (.int j) y ∧ ∀ z F' H', Grow F H F' H' → Rep X.K F' d z → Q z H') :=
  OpR.imp o fun x y H Q ⟨F, f1, hx, hy, q⟩ => ⟨i, j, hx, hy, q _ F H (.refl f1) (e F)⟩

/-- a new shared object behind an operation -/
theorem new_tup {K : PySem.W.Frag} {F H : Hp} {p : Addr} {xs : List V} {ds : List D} (f1 : Same F H) (np : H p = none) (r : Reps K F ds xs) : Grow F H (upd F p (.tup xs)) (upd H p (.tup xs)) ∧ Rep K (upd F p (.tup xs)) (.tup ds) (.ref p) :=
  ⟨.new f1 np, p, xs, rfl, SqT.of upd_same, r.mono (Grow.new (o := .tup xs) f1 np).ff⟩
theorem new_lst {K : PySem.W.Frag} {F H : Hp} {p : Addr} {xs : List V} {ds : List D} (f1 : Same F H) (np : H p = none) (r : Reps K F ds xs) : Grow F H (upd F p (.lst xs)) (upd H p (.lst xs)) ∧ Rep K (upd F p (.lst xs)) (.lst ds) (.ref p) :=
  ⟨.new f1 np, p, xs, rfl, SqL.of upd_same, r.mono (Grow.new (o := .lst xs) f1 np).ff⟩

theorem opD_sub : OpD X (binaryOp .Sub) gSub := OpD.mk fun dx dy d e => by
  cases dx <;> cases dy <;> first | (cases e; done) | skip
  all_goals (simp only [gSub, Option.some.injEq] at e; subst e; exact op2_int0 op_sub fun _ => rfl)
theorem opD_mul : OpD X (binaryOp .Mult) gMul := OpD.mk fun dx dy d e => by
  cases dx <;> cases dy <;> first | (cases e; done) | skip
  all_goals
    (simp only [gMul] at e
     split at e
     · rename_i h; cases e; exact op2_int op_mul h
     · cases e)
theorem opD_fdiv : OpD X (binaryOp .FloorDiv) gFdiv := OpD.mk fun dx dy d e => by
  cases dx <;> cases dy <;> first | (cases e; done) | skip
  all_goals
    (simp only [gFdiv] at e
     split at e
     · rename_i h; cases e; exact op2_int op_fdivN h
     · cases e)
theorem opD_mod : OpD X (binaryOp .Mod) gMod := OpD.mk fun dx dy d e => by
  cases dx <;> cases dy <;> first | (cases e; done) | skip
  all_goals
    (simp only [gMod] at e
     split at e
     · rename_i h; cases e; exact op2_int op_modN h
     · cases e)
theorem opD_pow : OpD X (binaryOp .Pow) gPow := OpD.mk fun dx dy d e => by
  cases dx <;> cases dy <;> first | (cases e; done) | skip
  all_goals
    (simp only [gPow] at e
     split at e
     · rename_i h; cases e; exact op2_int op_pow h
     · cases e)
theorem opD_lt : OpD X (compareOp .Lt) gLt := OpD.mk fun dx dy d e => by
  cases dx <;> cases dy <;> first | (cases e; done) | skip
  · simp only [gLt, Option.some.injEq] at e; subst e; exact op2_int0 op_lt fun _ => rfl
  · simp only [gLt, Option.some.injEq] at e; subst e
    exact OpR.imp op_lt_str fun x y H Q ⟨F, f1, hx, hy, q⟩ => ⟨_, _, hx, hy, q _ F H (.refl f1) rfl⟩
theorem opD_le : OpD X (compareOp .LtE) gLe := OpD.mk fun dx dy d e => by
  cases dx <;> cases dy <;> first | (cases e; done) | skip
  all_goals (simp only [gLe, Option.some.injEq] at e; subst e; exact op2_int0 op_le fun _ => rfl)
theorem opD_gt : OpD X (compareOp .Gt) gGt := OpD.mk fun dx dy d e => by
  cases dx <;> cases dy <;> first | (cases e; done) | skip
  all_goals (simp only [gGt, Option.some.injEq] at e; subst e; exact op2_int0 op_gt fun _ => rfl)
theorem opD_ge : OpD X (compareOp .GtE) gGe := OpD.mk fun dx dy d e => by
  cases dx <;> cases dy <;> first | (cases e; done) | skip
  all_goals (simp only [gGe, Option.some.injEq] at e; subst e; exact op2_int0 op_ge fun _ => rfl)

/-! ### equality of data -/
mutual
def D.py : D → PyData
  | .non => .none
  | .bl b => .bool b
  | .int i => .int i
  | .str x => .str x
  | .tup ds => .tuple (D.pys ds)
  | .lst ds => .list (D.pys ds)
  | .dct _ => .dict []
def D.pys : List D → List PyData
  | [] => []
  | d :: ds => d.py :: D.pys ds
end
mutual
def D.noDct : D → Bool
  | .tup ds => D.noDcts ds
  | .lst ds => D.noDcts ds
  | .dct _ => false
  | _ => true
def D.noDcts : List D → Bool
  | [] => true
  | d :: ds => d.noDct && D.noDcts ds
end
mutual
theorem Rep.dp {K : PySem.W.Frag} {H : Hp} : ∀ {d : D} {v : V}, d.noDct = true → Rep K H d v → Dp K H v d.py
  | .non, _, _, h => by rw [show _ = V.non from h]; exact .non
  | .bl b, _, _, h => by rw [show _ = V.bl b from h]; exact .bl b
  | .int b, _, _, h => by rw [show _ = V.int b from h]; exact .int b
  | .str b, _, _, h => by rw [show _ = V.str b from h]; exact .str b
  | .tup ds, _, n, ⟨a, xs, e, h, r⟩ => by subst e; exact .tup h (Reps.dp n r)
  | .lst ds, _, n, ⟨a, xs, e, h, r⟩ => by subst e; exact .lst h (Reps.dp n r)
  | .dct _, _, n, _ => by cases n
theorem Reps.dp {K : PySem.W.Frag} {H : Hp} : ∀ {ds : List D} {vs : List V}, D.noDcts ds = true → Reps K H ds vs → DpAll K H vs (D.pys ds)
  | [], _, _, h => by rw [show _ = [] from h]; exact .nil
  | _ :: _, _, n, ⟨x, r, e, h, t⟩ => by
    subst e
    have n' := Bool.and_eq_true_iff.mp n
    exact .cons (Rep.dp n'.1 h) (Reps.dp n'.2 t)
end
def okEq (d : D) : Bool := d.noDct && SeqAt.shaped d.py
def gEq (x y : D) : Option D := if okEq x && okEq y then some (.bl (PyData.eqv x.py y.py)) else none
def gNe (x y : D) : Option D := if okEq x && okEq y then some (.bl (!PyData.eqv x.py y.py)) else none
theorem opD_eq (hu : X.A.units + 64 < cLine) : OpD X (compareOp .Eq) gEq := OpR.imp (op_eqD hu) fun x y H Q ⟨F, dx, dy, d, f1, hx, hy, e, q⟩ => by
  unfold gEq at e
  split at e
  · rename_i h
    simp only [okEq, Bool.and_eq_true] at h
    cases e
    exact ⟨_, _, Rep.dp h.1.1 (hx.rep f1), Rep.dp h.2.1 (hy.rep f1), h.1.2, h.2.2, q _ F H (.refl f1) rfl⟩
  · cases e
theorem opD_ne (hu : X.A.units + 64 < cLine) : OpD X (compareOp .NotEq) gNe := OpR.imp (op_neD hu) fun x y H Q ⟨F, dx, dy, d, f1, hx, hy, e, q⟩ => by
  unfold gNe at e
  split at e
  · rename_i h
    simp only [okEq, Bool.and_eq_true] at h
    cases e
    exact ⟨_, _, Rep.dp h.1.1 (hx.rep f1), Rep.dp h.2.1 (hy.rep f1), h.1.2, h.2.2, q _ F H (.refl f1) rfl⟩
  · cases e

/-- is None -/
def D.isNon : D → Bool
  | .non => true
  | _ => false
theorem RepB.non_iff {K : PySem.W.Frag} {F H : Hp} : ∀ {d : D} {v : V}, RepB K F H d v → decide (v = .non) = d.isNon
  | .non, _, h => by rw [show _ = V.non from h]; rfl
  | .bl b, _, h => by rw [show _ = V.bl b from h]; rfl
  | .int b, _, h => by rw [show _ = V.int b from h]; rfl
  | .str b, _, h => by rw [show _ = V.str b from h]; rfl
  | .tup ds, _, ⟨a, xs, e, h, r⟩ => by subst e; rfl
  | .lst ds, _, ⟨a, xs, e, h, r⟩ => by subst e; rfl
  | .dct _, _, ⟨a, xs, e, h, r⟩ => by subst e; rfl
def gIsN : D → D → Option D
  | x, .non => some (.bl x.isNon)
  | _, _ => none
def gNotN : D → D → Option D
  | x, .non => some (.bl (!x.isNon))
  | _, _ => none
theorem opD_isN : OpD X (compareOp .Is) gIsN := OpD.mk fun dx dy d e => by
  cases dy <;> first | (cases e; done) | skip
  simp only [gIsN, Option.some.injEq] at e; subst e
  exact OpR.imp op_isN fun x y H Q ⟨F, f1, hx, hy, q⟩ => ⟨hy, q _ F H (.refl f1) (by rw [hx.non_iff]; rfl)⟩
theorem opD_notN : OpD X (compareOp .IsNot) gNotN := OpD.mk fun dx dy d e => by
  cases dy <;> first | (cases e; done) | skip
  simp only [gNotN, Option.some.injEq] at e; subst e
  exact OpR.imp op_notN fun x y H Q ⟨F, f1, hx, hy, q⟩ => ⟨hy, q _ F H (.refl f1) (by rw [hx.non_iff]; rfl)⟩
end
end Ev

/-! E4: expressions. -/
namespace Ev
open PySem PySem.Spec PyProof.Rows L2
variable [TabsC]

abbrev FL := Env → Res (List D × Env)
def tL (K : PySem.W.Frag) (mg : Str → Option Value) (E : XK) (f : FL) : TA := fun s H Q => ∃ B F O r, Rel K B F O H r s ∧ Post K mg E B F O r s (f r) fun ds _ F' _ H' => ∀ vs, Reps K F' ds vs → Q vs H'
abbrev EvL (X : Cx) (E : XK) (es : List Expr) (f : FL) : Prop := PA X es (tL X.K X.mg E f)
abbrev EvW (X : Cx) (E : XK) (e : Expr) (f : FT) : Prop := PW X e (tT X.K X.mg E f)
theorem PW.imp {X : Cx} {e : Expr} {t t' : TT} (h : PW X e t) (w : ∀ s H Q, t' s H Q → t s H Q) : PW X e t' := ⟨fun wh pins s σ H Q I q => h.run wh pins s σ H Q I (w _ _ _ q)⟩

section
variable {X : Cx} {E : XK} {e a b c : Expr} {es rest : List Expr} {pos : Pos}

/-! ### two operands -/
def fBin (g : D → D → Option D) (fa fb : FB) : FE := fun r => (fa r).bnd fun x r1 => (fb r1).bnd fun y r2 => obnd (bGet r2 x) fun dx => obnd (bGet r2 y) fun dy => obnd (g dx dy) fun d => .ok (d, r2)
/-- the reading of a two-place step over two borrowed operands -/
theorem bin_reads {g : D → D → Option D} {fa fb : FB} {s : Sg} {H : Hp} {Q : VK} (h : tE X.K X.mg E (fBin g fa fb) s H Q) : tB X.K X.mg E fa s H fun x H1 => tB X.K X.mg E fb s H1 fun y H2 => rD2 X.K g x y H2 Q := by
  obtain ⟨B, F, O, r, R, q⟩ := h
  refine ⟨B, F, O, r, R, (Post.split q).mono fun x r1 F1 O1 H1 R1 f1 k1 q1 v hv => ?_⟩
  refine ⟨B, F1, O1, r1, R1, (Post.split q1).mono fun y r2 F2 O2 H2 R2 f2 k2 q2 u hu => ?_⟩
  obtain ⟨dx, ex, q2⟩ := Post.opt q2
  obtain ⟨dy, ey, q2⟩ := Post.opt q2
  obtain ⟨d, ed, q2⟩ := Post.opt q2
  refine ⟨F2, dx, dy, d, R2.fh, R2.bget (hv.mono f2) ex, R2.bget hu ey, ed, fun z F' H' gr hz => ?_⟩
  exact Post.ok (k := fun d _ F' _ H' => ∀ v, Rep X.K F' d v → Q v H') q2 (R2.grow gr) gr.ff .refl z hz
theorem ev_bin {op : Operator} {g : D → D → Option D} {fa fb : FB} (o : OpD X (binaryOp op) g) (ha : EvB X E a fa) (hb : EvB X E b fb) : EvE X E (.BinOp a op b pos) (fBin g fa fb) :=
  PE.imp (pe_op o ha hb) fun s H Q h => bin_reads h
theorem ev_cmp {op : CmpOp} {g : D → D → Option D} {fa fb : FB} (o : OpD X (compareOp op) g) (ha : EvB X E a fa) (hb : EvB X E b fb) (hm : behindInMarks op b = false := by first | exact nomark _ | rfl) : EvE X E (.Compare a [op] [b] pos) (fBin g fa fb) :=
  PE.imp (pe_cmpR o ha hb hm) fun s H Q h => bin_reads h
/-- a bool as a test -/
def fTE (f : FE) : FT := fun r => (f r).bnd fun d r' => match d with
  | .bl b => .ok (b, r')
  | _ => .stuck
theorem test_reads {f : FE} {s : Sg} {H : Hp} {Q : Bool → Hp → Prop} (h : tT X.K X.mg E (fTE f) s H Q) : tE X.K X.mg E f s H fun x H' => ∃ k, x = .bl k ∧ Q k H' := by
  obtain ⟨B, F, O, r, R, q⟩ := h
  refine ⟨B, F, O, r, R, (Post.split q).mono fun d r1 F1 O1 H1 R1 f1 k1 q1 v hv => ?_⟩
  cases d with
  | bl b => exact ⟨b, hv, Post.ok (k := fun b _ _ _ H' => Q b H') q1 R1 (.refl _) .refl⟩
  | _ => exact False.elim q1
theorem et_cmp {op : CmpOp} {g : D → D → Option D} {fa fb : FB} (o : OpD X (compareOp op) g) (ha : EvB X E a fa) (hb : EvB X E b fb) (hm : behindInMarks op b = false := by first | exact nomark _ | rfl) : EvT X E (.Compare a [op] [b] pos) (fTE (fBin g fa fb)) :=
  PT.imp (pt_cmpR o ha hb hm) fun s H Q h => bin_reads (test_reads h)
/-- any expression that gives a bool (a name, a call, a subscript) -/
theorem et_val {f : FE} (h : EvE X E e f) (he : ∀ whole, isTrue e X.env whole = (do let v ← whole; standAt e.pos; holding [v] (truthy v)) := by intro _; rfl) : EvT X E e (fTE f) :=
  PT.imp (pt_val h he) fun s H Q h => test_reads h

/-! ### chains -/
def fChain (g g' : D → D → Option D) (fa fb fc : FB) : FE := fun r => (fa r).bnd fun x r1 => (fb r1).bnd fun y r2 => obnd (bGet r2 x) fun dx => obnd (bGet r2 y) fun dy => obnd (g dx dy) fun z => match z with
  | .bl true => (fc r2).bnd fun w r3 => obnd (bGet r3 y) fun dy => obnd (bGet r3 w) fun dw => obnd (g' dy dw) fun d => .ok (d, r3)
  | .bl false => .ok (.bl false, r2)
  | _ => .stuck
theorem chain_reads {g g' : D → D → Option D} {fa fb fc : FB} {s : Sg} {H : Hp} {Q : VK} (h : tE X.K X.mg E (fChain g g' fa fb fc) s H Q) :
    tChain (rD2 X.K g) (rD2 X.K g') (tB X.K X.mg E fa) (tB X.K X.mg E fb) (tB X.K X.mg E fc) s H Q := by
  obtain ⟨B, F, O, r, R, q⟩ := h
  refine ⟨B, F, O, r, R, (Post.split q).mono fun x r1 F1 O1 H1 R1 f1 k1 q1 v hv => ?_⟩
  refine ⟨B, F1, O1, r1, R1, (Post.split q1).mono fun y r2 F2 O2 H2 R2 f2 k2 q2 u hu => ?_⟩
  obtain ⟨dx, ex, q2⟩ := Post.opt q2
  obtain ⟨dy, ey, q2⟩ := Post.opt q2
  obtain ⟨d, ed, q2⟩ := Post.opt q2
  refine ⟨F2, dx, dy, d, R2.fh, R2.bget (hv.mono f2) ex, R2.bget hu ey, ed, fun z F' H' gr hz => ?_⟩
  have R3 := R2.grow gr
  cases d with
  | bl k =>
    refine ⟨k, hz, ?_⟩
    cases k with
    | false => exact Post.ok (k := fun d _ F' _ H' => ∀ v, Rep X.K F' d v → Q v H') q2 R3 gr.ff .refl _ rfl
    | true =>
      show tB X.K X.mg E fc s H' _
      refine ⟨B, F', O2, r2, R3, (Post.split (q2.up gr.ff)).mono fun w r4 F4 O4 H4 R4 f4 k4 q4 v4 hv4 => ?_⟩
      obtain ⟨dy', ey', q4⟩ := Post.opt q4
      obtain ⟨dw, ew, q4⟩ := Post.opt q4
      obtain ⟨d4, ed4, q4⟩ := Post.opt q4
      refine ⟨F4, dy', dw, d4, R4.fh, R4.bget ((hu.mono gr.ff).mono f4) ey', R4.bget hv4 ew, ed4, fun z5 F5 H5 gr5 hz5 => ?_⟩
      exact Post.ok (k := fun d _ F' _ H' => ∀ v, Rep X.K F' d v → Q v H') q4 (R4.grow gr5) gr5.ff .refl z5 hz5
  | _ => exact False.elim q2
theorem ev_chain {op op' : CmpOp} {g g' : D → D → Option D} {fa fb fc : FB} (o : OpD X (compareOp op) g) (o' : OpD X (compareOp op') g') (ha : EvB X E a fa) (hb : EvB X E b fb) (hc : EvB X E c fc) (hm : lastMarks [op, op'] [b, c] = false := by with_unfolding_all rfl) :
    EvE X E (.Compare a [op, op'] [b, c] pos) (fChain g g' fa fb fc) := PE.imp (pe_chain o o' ha hb hc hm) fun s H Q h => chain_reads h
theorem et_chain {op op' : CmpOp} {g g' : D → D → Option D} {fa fb fc : FB} (o : OpD X (compareOp op) g) (o' : OpD X (compareOp op') g') (ha : EvB X E a fa) (hb : EvB X E b fb) (hc : EvB X E c fc) (hm : lastMarks [op, op'] [b, c] = false := by with_unfolding_all rfl) :
    EvT X E (.Compare a [op, op'] [b, c] pos) (fTE (fChain g g' fa fb fc)) := PT.imp (pt_chain o o' ha hb hc hm) fun s H Q h => chain_reads (test_reads h)

/-! ### one operand -/
def gNeg : D → Option D
  | .int i => some (.int (-i))
  | _ => none
def fUn (g : D → Option D) (fa : FB) : FE := fun r => (fa r).bnd fun x r1 => obnd (bGet r1 x) fun dx => obnd (g dx) fun d => .ok (d, r1)
theorem ev_neg {fa : FB} (ha : EvB X E a fa) : EvE X E (.UnaryOp .USub a pos) (fUn gNeg fa) := PE.imp (pe_un un_neg ha) fun s H Q ⟨B, F, O, r, R, q⟩ => by
  refine ⟨B, F, O, r, R, (Post.split q).mono fun x r1 F1 O1 H1 R1 f1 k1 q1 v hv => ?_⟩
  obtain ⟨dx, ex, q1⟩ := Post.opt q1
  obtain ⟨d, ed, q1⟩ := Post.opt q1
  have hx := R1.bget hv ex
  cases dx with
  | int i =>
    cases ed
    exact ⟨i, hx, Post.ok (k := fun d _ F' _ H' => ∀ v, Rep X.K F' d v → Q v H') q1 R1 (.refl _) .refl _ rfl⟩
  | _ => cases ed

/-! ### and, or, not, if -/
def fAnd (ft fu : FT) : FT := fun r => (ft r).bnd fun b r1 => if b = true then fu r1 else .ok (false, r1)
def fOr (ft fu : FT) : FT := fun r => (ft r).bnd fun b r1 => if b = true then .ok (true, r1) else fu r1
def fNot (ft : FT) : FT := fun r => (ft r).bnd fun b r1 => .ok (!b, r1)
theorem Post.T {m : Res (Bool × Env)} {B : Base} {F H : Hp} {O : Addr → Option C} {r : Env} {s : Sg} {Q : Bool → Hp → Prop} (R : Rel X.K B F O H r s) (q : Post X.K X.mg E B F O r s m fun b _ _ _ H' => Q b H') : True := trivial
theorem ew_and1 {ft : FT} (ha : EvT X E a ft) : EvW X E (.BoolOp .And [a] pos) ft := pw_and1 ha
theorem ew_or1 {ft : FT} (ha : EvT X E a ft) : EvW X E (.BoolOp .Or [a] pos) ft := pw_or1 ha
theorem ew_and {ft fu : FT} (ha : EvT X E a ft) (hb : EvW X E (.BoolOp .And (b :: rest) pos) fu) : EvW X E (.BoolOp .And (a :: b :: rest) pos) (fAnd ft fu) :=
  PW.imp (pw_and ha hb) fun s H Q ⟨B, F, O, r, R, q⟩ => ⟨B, F, O, r, R, (Post.split q).mono fun b r1 F1 O1 H1 R1 f1 k1 q1 => by
    cases b with
    | true => exact ⟨B, F1, O1, r1, R1, q1⟩
    | false => exact Post.ok (k := fun b _ _ _ H' => Q b H') q1 R1 (.refl _) .refl⟩
theorem ew_or {ft fu : FT} (ha : EvT X E a ft) (hb : EvW X E (.BoolOp .Or (b :: rest) pos) fu) : EvW X E (.BoolOp .Or (a :: b :: rest) pos) (fOr ft fu) :=
  PW.imp (pw_or ha hb) fun s H Q ⟨B, F, O, r, R, q⟩ => ⟨B, F, O, r, R, (Post.split q).mono fun b r1 F1 O1 H1 R1 f1 k1 q1 => by
    cases b with
    | false => exact ⟨B, F1, O1, r1, R1, q1⟩
    | true => exact Post.ok (k := fun b _ _ _ H' => Q b H') q1 R1 (.refl _) .refl⟩
theorem et_w {ft : FT} (h : EvW X E e ft) : EvT X E e ft := h.pt
theorem et_not {ft : FT} (h : EvT X E a ft) : EvT X E (.UnaryOp .Not a pos) (fNot ft) :=
  PT.imp (pt_not h) fun s H Q ⟨B, F, O, r, R, q⟩ => ⟨B, F, O, r, R, (Post.split q).mono fun b r1 F1 O1 H1 R1 f1 k1 q1 => Post.ok (k := fun b _ _ _ H' => Q b H') q1 R1 (.refl _) .refl⟩
def fAndV (fa fb : FE) : FE := fun r => (fa r).bnd fun d r1 => match d with
  | .bl true => fb r1
  | .bl false => .ok (.bl false, r1)
  | _ => .stuck
def fOrV (fa fb : FE) : FE := fun r => (fa r).bnd fun d r1 => match d with
  | .bl false => fb r1
  | .bl true => .ok (.bl true, r1)
  | _ => .stuck
def fNotV (fa : FE) : FE := fun r => (fa r).bnd fun d r1 => match d with
  | .bl b => .ok (.bl (!b), r1)
  | _ => .stuck
theorem ev_one {op} {f : FE} (h : EvE X E a f) : EvE X E (.BoolOp op [a] pos) f := pe_one h
theorem ev_and {fa fb : FE} (ha : EvE X E a fa) (hb : EvE X E (.BoolOp .And (b :: rest) pos) fb) : EvE X E (.BoolOp .And (a :: b :: rest) pos) (fAndV fa fb) :=
  PE.imp (pe_and ha hb) fun s H Q ⟨B, F, O, r, R, q⟩ => ⟨B, F, O, r, R, (Post.split q).mono fun d r1 F1 O1 H1 R1 f1 k1 q1 v hv => by
    cases d with
    | bl k =>
      refine ⟨k, hv, ?_⟩
      cases k with
      | true => exact ⟨B, F1, O1, r1, R1, q1⟩
      | false => exact Post.ok (k := fun d _ F' _ H' => ∀ v, Rep X.K F' d v → Q v H') q1 R1 (.refl _) .refl _ rfl
    | _ => exact False.elim q1⟩
theorem ev_or {fa fb : FE} (ha : EvE X E a fa) (hb : EvE X E (.BoolOp .Or (b :: rest) pos) fb) : EvE X E (.BoolOp .Or (a :: b :: rest) pos) (fOrV fa fb) :=
  PE.imp (pe_or ha hb) fun s H Q ⟨B, F, O, r, R, q⟩ => ⟨B, F, O, r, R, (Post.split q).mono fun d r1 F1 O1 H1 R1 f1 k1 q1 v hv => by
    cases d with
    | bl k =>
      refine ⟨k, hv, ?_⟩
      cases k with
      | false => exact ⟨B, F1, O1, r1, R1, q1⟩
      | true => exact Post.ok (k := fun d _ F' _ H' => ∀ v, Rep X.K F' d v → Q v H') q1 R1 (.refl _) .refl _ rfl
    | _ => exact False.elim q1⟩
theorem ev_not {fa : FE} (ha : EvE X E a fa) : EvE X E (.UnaryOp .Not a pos) (fNotV fa) :=
  PE.imp (pe_not ha) fun s H Q ⟨B, F, O, r, R, q⟩ => ⟨B, F, O, r, R, (Post.split q).mono fun d r1 F1 O1 H1 R1 f1 k1 q1 v hv => by
    cases d with
    | bl k => exact ⟨k, hv, Post.ok (k := fun d _ F' _ H' => ∀ v, Rep X.K F' d v → Q v H') q1 R1 (.refl _) .refl _ rfl⟩
    | _ => exact False.elim q1⟩
def fIf (ft : FT) (fa fb : FE) : FE := fun r => (ft r).bnd fun b r1 => if b = true then fa r1 else fb r1
theorem ev_if {ft : FT} {fa fb : FE} (hc : EvT X E c ft) (ha : EvE X E a fa) (hb : EvE X E b fb) : EvE X E (.IfExp c a b pos) (fIf ft fa fb) :=
  PE.imp (pe_ifExp hc ha hb) fun s H Q ⟨B, F, O, r, R, q⟩ => ⟨B, F, O, r, R, (Post.split q).mono fun k r1 F1 O1 H1 R1 f1 k1 q1 => by
    cases k with
    | true => exact ⟨B, F1, O1, r1, R1, q1⟩
    | false => exact ⟨B, F1, O1, r1, R1, q1⟩⟩

/-! ### lists of expressions -/
def fLNil : FL := fun r => .ok ([], r)
def fLCons (fa : FE) (fl : FL) : FL := fun r => (fa r).bnd fun d r1 => (fl r1).bnd fun ds r2 => .ok (d :: ds, r2)
theorem el_nil : EvL X E [] fLNil := PA.imp pa_nil fun s H Q ⟨B, F, O, r, R, q⟩ => Post.ok (k := fun ds _ F' _ H' => ∀ vs, Reps X.K F' ds vs → Q vs H') q R (.refl _) .refl _ rfl
theorem el_cons {fa : FE} {fl : FL} (ha : EvE X E e fa) (hr : EvL X E es fl) (hs : starEach (e :: es) X.env = (false, eval e X.env) :: starEach es X.env := by rfl) : EvL X E (e :: es) (fLCons fa fl) :=
  PA.imp (pa_cons ha hr hs) fun s H Q ⟨B, F, O, r, R, q⟩ => ⟨B, F, O, r, R, (Post.split q).mono fun d r1 F1 O1 H1 R1 f1 k1 q1 v hv =>
    ⟨B, F1, O1, r1, R1, (Post.split q1).mono fun ds r2 F2 O2 H2 R2 f2 k2 q2 vs hvs => Post.ok (k := fun ds _ F' _ H' => ∀ vs, Reps X.K F' ds vs → Q vs H') q2 R2 (.refl _) .refl _ (.cons (hv.mono f2) hvs)⟩⟩
def fANil : FA := fun r => .ok ([], r)
def fACons (fa : FB) (fl : FA) : FA := fun r => (fa r).bnd fun d r1 => (fl r1).bnd fun ds r2 => .ok (d :: ds, r2)
theorem ea_nil : EvA X E [] fANil := PA.imp pa_nil fun s H Q ⟨B, F, O, r, R, q⟩ => Post.ok (k := fun ds _ F' _ H' => ∀ vs, BReps X.K F' s ds vs → Q vs H') q R (.refl _) .refl _ .nil
theorem ea_cons {fa : FB} {fl : FA} (ha : EvB X E e fa) (hr : EvA X E es fl) (hs : starEach (e :: es) X.env = (false, eval e X.env) :: starEach es X.env := by rfl) : EvA X E (e :: es) (fACons fa fl) :=
  PA.imp (pa_cons ha hr hs) fun s H Q ⟨B, F, O, r, R, q⟩ => ⟨B, F, O, r, R, (Post.split q).mono fun d r1 F1 O1 H1 R1 f1 k1 q1 v hv =>
    ⟨B, F1, O1, r1, R1, (Post.split q1).mono fun ds r2 F2 O2 H2 R2 f2 k2 q2 vs hvs => Post.ok (k := fun ds _ F' _ H' => ∀ vs, BReps X.K F' s ds vs → Q vs H') q2 R2 (.refl _) .refl _ (.cons (hv.mono f2) hvs)⟩⟩

/-! ### displays -/
def fTup (fl : FL) : FE := fun r => (fl r).bnd fun ds r1 => if ds.length ≤ sizeLine then .ok (.tup ds, r1) else .stuck
theorem ev_tup {fl : FL} {k : Nat} (h : EvL X E es fl) : EvE X E (.Tuple es k pos) (fTup fl) := PE.imp (pe_tup h) fun s H Q ⟨B, F, O, r, R, q⟩ => by
  refine ⟨B, F, O, r, R, (Post.split q).mono fun ds r1 F1 O1 H1 R1 f1 k1 q1 vs hvs => ?_⟩
  split at q1
  · rename_i hl
    refine ⟨by rw [hvs.length]; exact hl, fun p np => ?_⟩
    obtain ⟨g, h2⟩ := new_tup R1.fh np hvs
    exact Post.ok (k := fun d _ F' _ H' => ∀ v, Rep X.K F' d v → Q v H') q1 (R1.grow g) g.ff .refl _ h2
  · exact False.elim q1
def fLst (fl : FL) : FO := fun r => (fl r).bnd fun ds r1 => if ds.length ≤ sizeLine then .ok (.lst ds, r1) else .stuck
/-- what a rule for a new list asks behind: tO's end -/
theorem born_lst {fo : Res (C × Env)} {B : Base} {F F1 H1 : Hp} {O O1 : Addr → Option C} {r r1 : Env} {s : Sg} {Q : VK} {ds : List D} {xs : List V} {p : Addr} (R1 : Rel X.K B F1 O1 H1 r1 s) (f1 : Same F F1) (k1 : Keep s r r1 O O1)
    (q : ∀ F' O' H', Rel X.K B F' O' H' r1 s → Same F F' → Keep s r r1 O O' → ∀ a, O' a = some (.lst ds) → B.H0 a = none → Free s r1 a → (∀ c0, O a = some c0 → ¬ Free s r a) → Q (.ref a) H') (np : H1 p = none) (hx : Reps X.K F1 ds xs) : Q (.ref p) (upd H1 p (.lst xs)) := by
  obtain ⟨ho, h0, fr, hf⟩ := R1.free_of np
  obtain ⟨R2, k2⟩ := R1.born (o := .lst xs) (c := .lst ds) np ⟨xs, upd_same, hx⟩
  refine q F1 _ _ R2 f1 (k1.trans k2) p (by simp) h0 fr fun c0 e f => ?_
  obtain ⟨z, _⟩ := k1 p c0 e f
  rw [ho] at z; cases z
theorem eo_lst {fl : FL} (h : EvL X E es fl) : EvO X E (.List es pos) (fLst fl) := PE.imp (pe_lst h) fun s H Q ⟨B, F, O, r, R, q⟩ => by
  refine ⟨B, F, O, r, R, ?_⟩
  unfold fLst at q
  cases m : fl r with
  | stuck => rw [m] at q; exact q
  | ex x => rw [m] at q; exact q
  | ok pr =>
    obtain ⟨ds, r1⟩ := pr
    rw [m] at q
    have q : Post X.K X.mg E B F O r s (if ds.length ≤ sizeLine then Res.ok (C.lst ds, r1) else .stuck) fun c r' _ O' H' => ∀ a, O' a = some c → B.H0 a = none → Free s r' a → (∀ c0, O a = some c0 → ¬ Free s r a) → Q (.ref a) H' := q
    split at q
    · rename_i hl
      exact fun F1 O1 H1 R1 f1 k1 vs hvs => ⟨by rw [hvs.length]; exact hl, fun p np => born_lst (fo := .stuck) R1 f1 k1 q np hvs⟩
    · exact False.elim q

/-! ### subscripts -/
def gIx : D → D → Option D
  | .lst xs, .int i => atI xs i
  | .tup xs, .int i => atI xs i
  | .str z, .int i => if z.length ≤ sizeLine then (atI z.cps.toList i).map fun c => .str ⟨#[c]⟩ else none
  | _, _ => none
theorem Reps.at {K : PySem.W.Frag} {F : Hp} {ds : List D} {xs : List V} {i : Int} {d : D} (r : Reps K F ds xs) (e : atI ds i = some d) : ∃ v, atI xs i = some v ∧ Rep K F d v := by
  unfold atI at e ⊢
  rw [r.length]
  cases q : ixN ds.length i with
  | none => rw [q] at e; cases e
  | some j => rw [q] at e; exact r.get e
theorem ixD : IxR X (rD2 X.K gIx) := fun va sl pins s σ H x y v u Q I rx ry ⟨F, dx, dy, d, f1, hx, hy, e, q⟩ hsb => by
  cases dx with
  | lst ds =>
    cases dy with
    | int i =>
      obtain ⟨a, xs, e1, h1, h2⟩ := hx
      obtain ⟨w, e2, h3⟩ := h2.at e
      exact ix_list va sl pins s σ H x y v u Q I rx ry ⟨a, xs, i, w, e1, hy, h1, e2, q w F H (.refl f1) h3⟩ hsb
    | _ => cases e
  | tup ds =>
    cases dy with
    | int i =>
      obtain ⟨a, xs, e1, h1, h2⟩ := hx
      obtain ⟨w, e2, h3⟩ := h2.at e
      exact ix_tup va sl pins s σ H x y v u Q I rx ry ⟨a, xs, i, w, e1, hy, same_seqT f1 h1, e2, q w F H (.refl f1) h3⟩ hsb
    | _ => cases e
  | str z =>
    cases dy with
    | int i =>
      simp only [gIx] at e
      split at e
      · rename_i hz
        obtain ⟨cc, e1, e2⟩ := Option.map_eq_some_iff.mp e
        subst e2
        exact ix_str va sl pins s σ H x y v u Q I rx ry ⟨z, i, cc, hx, hy, hz, e1, q _ F H (.refl f1) rfl⟩ hsb
      · cases e
    | _ => cases e
  | _ => cases dy <;> cases e
theorem ev_ix {fa fb : FB} (ha : EvB X E a fa) (hb : EvB X E b fb) (hs : PlainIx b := by intro _ _; rfl) : EvE X E (.Subscript a b pos) (fBin gIx fa fb) := PE.imp (pe_ix ixD ha hb hs) fun s H Q h => bin_reads h

/-! ### slices -/
abbrev FP := Env → Res (Option Int × Env)
def tP (K : PySem.W.Frag) (mg : Str → Option Value) (E : XK) (f : FP) : TO := fun s H Q => ∃ B F O r, Rel K B F O H r s ∧ Post K mg E B F O r s (f r) fun o _ _ _ H' => Q o H'
abbrev EvP (X : Cx) (E : XK) (e : Option Expr) (f : FP) : Prop := PO X e (tP X.K X.mg E f)
theorem PO.imp {o : Option Expr} {t t' : TO} (h : PO X o t) (w : ∀ s H Q, t' s H Q → t s H Q) : PO X o t' := ⟨fun pins s σ H Q I q => h.run pins s σ H Q I (w _ _ _ q)⟩
def fPN : FP := fun r => .ok (none, r)
def fPS (f : FE) : FP := fun r => (f r).bnd fun d r1 => match d with
  | .int i => .ok (some i, r1)
  | _ => .stuck
theorem ep_n : EvP X E none fPN := PO.imp po_none fun s H Q ⟨B, F, O, r, R, q⟩ => Post.ok (k := fun o _ _ _ H' => Q o H') q R (.refl _) .refl
theorem ep_s {f : FE} (h : EvE X E e f) : EvP X E (some e) (fPS f) := PO.imp (po_some h) fun s H Q ⟨B, F, O, r, R, q⟩ => ⟨B, F, O, r, R, (Post.split q).mono fun d r1 F1 O1 H1 R1 f1 k1 q1 v hv => by
  cases d with
  | int i => exact ⟨i, hv, Post.ok (k := fun o _ _ _ H' => Q o H') q1 R1 (.refl _) .refl⟩
  | _ => exact False.elim q1⟩
def cutD {α : Type} (xs : List α) (lo hi : Option Int) : List α := (xs.drop (HT.sIx xs.length 0 lo)).take (HT.sIx xs.length xs.length hi - HT.sIx xs.length 0 lo)
def gSl : D → Option Int → Option Int → Option D
  | .lst xs, lo, hi => some (.lst (cutD xs lo hi))
  | .tup xs, lo, hi => some (.tup (cutD xs lo hi))
  | _, _, _ => none
def fSl (fa : FB) (fl fh : FP) : FE := fun r => (fa r).bnd fun x r1 => (fl r1).bnd fun lo r2 => (fh r2).bnd fun hi r3 => obnd (bGet r3 x) fun dx => obnd (gSl dx lo hi) fun d => .ok (d, r3)
theorem Reps.cut {K : PySem.W.Frag} {F : Hp} {ds : List D} {xs : List V} {lo hi : Option Int} (r : Reps K F ds xs) : Reps K F (cutD ds lo hi) (cutV xs lo hi) := by
  unfold cutD cutV
  rw [r.length]
  exact (r.drop _).take _
theorem cut_whole {α : Type} {xs : List α} {lo hi : Option Int} (h : HT.sIx xs.length 0 lo = 0 ∧ HT.sIx xs.length xs.length hi = xs.length) : cutD xs lo hi = xs := by
  unfold cutD
  rw [h.1, h.2]
  simp
theorem slD : SlR X (fun x lo hi H Q => ∃ F dx d, Same F H ∧ RepB X.K F H dx x ∧ gSl dx lo hi = some d ∧ ∀ z F' H', Grow F H F' H' → Rep X.K F' d z → Q z H') := fun pins s σ H x v vl vu lo hi sl Q I rx hs pl pu ⟨F, dx, d, f1, hx, e, q⟩ => by
  cases dx with
  | lst ds =>
    obtain ⟨a, xs, e1, h1, h2⟩ := hx
    cases e
    exact sl_list pins s σ H x v vl vu lo hi sl Q I rx hs pl pu ⟨a, xs, e1, h1, fun p np => by
      obtain ⟨g, h3⟩ := new_lst f1 np (h2.cut (lo := lo) (hi := hi))
      exact q _ _ _ g h3⟩
  | tup ds =>
    obtain ⟨a, xs, e1, h1, h2⟩ := hx
    cases e
    refine sl_tupA pins s σ H x v vl vu lo hi sl Q I rx hs pl pu ⟨a, xs, e1, same_seqT f1 h1, fun w => ?_, fun _ p np => ?_⟩
    · rw [h2.length] at w
      rw [cut_whole w] at q
      exact q _ F H (.refl f1) ⟨a, xs, rfl, h1, h2⟩
    · obtain ⟨g, h3⟩ := new_tup f1 np (h2.cut (lo := lo) (hi := hi))
      exact q _ _ _ g h3
  | _ => cases e
theorem ev_sl {lo hi : Option Expr} {p2 : Pos} {fa : FB} {fl fh : FP} (ha : EvB X E a fa) (hl : EvP X E lo fl) (hh : EvP X E hi fh) : EvE X E (.Subscript a (.Slice lo hi none p2) pos) (fSl fa fl fh) :=
  PE.imp (pe_slice slD ha hl hh) fun s H Q ⟨B, F, O, r, R, q⟩ => ⟨B, F, O, r, R, (Post.split q).mono fun x r1 F1 O1 H1 R1 f1 k1 q1 v hv =>
    ⟨B, F1, O1, r1, R1, (Post.split q1).mono fun l r2 F2 O2 H2 R2 f2 k2 q2 =>
      ⟨B, F2, O2, r2, R2, (Post.split q2).mono fun u r3 F3 O3 H3 R3 f3 k3 q3 => by
        obtain ⟨dx, ex, q3⟩ := Post.opt q3
        obtain ⟨d, ed, q3⟩ := Post.opt q3
        exact ⟨F3, dx, d, R3.fh, R3.bget (hv.mono (f2.trans f3)) ex, ed, fun z F' H' gr hz => Post.ok (k := fun d _ F' _ H' => ∀ v, Rep X.K F' d v → Q v H') q3 (R3.grow gr) gr.ff .refl z hz⟩⟩⟩⟩
end
end Ev

/-! E5: defs and their calls. -/
namespace Ev
open PySem PySem.Spec PyProof.Rows L2
open LamX (Tabs)
variable [TabsC]

inductive Fl where
  | nx (r : Env) | rt (d : D) (r : Env) | rtO (c : C) (r : Env) | bk (r : Env) | ct (r : Env) | ex (x : Ex) | stuck
abbrev FS := Env → Fl
/-- what a def gives back: data, or a new object -/
inductive Rv where
  | d (d : D) | o (c : C)
abbrev FG := List Slot → Res (Rv × List Slot)
def RvRep (K : PySem.W.Frag) (H F' H' : Hp) : Rv → V → Prop
  | .d d, v => Rep K F' d v
  | .o c, v => ∃ a, v = .ref a ∧ F' a = none ∧ CRep K F' H' a c ∧ H a = none

def SPost (K : PySem.W.Frag) (mg : Str → Option Value) (E : XK) (B : Base) (F : Hp) (D' : Ends) : Fl → Prop
  | .nx r' => ∀ F' O' H' s', Rel K B F' O' H' r' s' → Same F F' → D'.nx s' H'
  | .rt d r' => ∀ F' O' H' s' v, Rel K B F' O' H' r' s' → Same F F' → Rep K F' d v → D'.rt v H'
  | .rtO c r' => ∀ F' O' H' s' a, Rel K B F' O' H' r' s' → Same F F' → O' a = some c → B.H0 a = none → D'.rt (.ref a) H'
  | .bk r' => ∀ F' O' H' s', Rel K B F' O' H' r' s' → Same F F' → D'.bk s' H'
  | .ct r' => ∀ F' O' H' s', Rel K B F' O' H' r' s' → Same F F' → D'.ct s' H'
  | .ex x => ∀ cls dd H', XPost K mg B F x cls dd H' → E cls dd H'
  | .stuck => False
def tS (K : PySem.W.Frag) (mg : Str → Option Value) (E : XK) (f : FS) : TS := fun D' s H => ∃ B F O r, Rel K B F O H r s ∧ SPost K mg E B F D' (f r)
abbrev EvS (X : Cx) (E : XK) (st : Stmt) (f : FS) : Prop := PS X st (tS X.K X.mg E f)
abbrev EvSs (X : Cx) (E : XK) (st : List Stmt) (f : FS) : Prop := PSs X st (tS X.K X.mg E f)

/-! ### what a def promises -/
def Passed (args : List Slot) (vs : List V) (b : Addr) : Prop := ∃ (j : Nat) (c : C), args[j]? = some (.own true c) ∧ vs[j]? = some (.ref b)
structure ArgsOk (K : PySem.W.Frag) (F H : Hp) (args : List Slot) (vs : List V) : Prop where
  len : vs.length = args.length
  vl : ∀ (i : Nat) (d : D), args[i]? = some (.val d) → ∃ x, vs[i]? = some x ∧ Rep K F d x
  on : ∀ (i : Nat) (p : Bool) (c : C), args[i]? = some (.own p c) → p = true ∧ ∃ a, vs[i]? = some (.ref a) ∧ F a = none ∧ CRep K F H a c
  inj : ∀ (i j : Nat) (c c' : C) (a : Addr), args[i]? = some (.own true c) → args[j]? = some (.own true c') → vs[i]? = some (.ref a) → vs[j]? = some (.ref a) → i = j
  rf : ∀ (i : Nat) (a : Addr), args[i]? = some (.rf a) → vs[i]? = some (.ref a)
structure CallPost (K : PySem.W.Frag) (F H : Hp) (args : List Slot) (vs : List V) (d : Rv) (outs : List Slot) (v : V) (F' H' : Hp) : Prop where
  ff : Same F F'
  fh : Same F' H'
  nf : ∀ b o, F' b = some o → F b = some o ∨ H b = none
  fr : ∀ b o, H b = some o → ¬ Passed args vs b → NoT b → H' b = some o
  tt : Tabs TabsC.T H'
  st : ∀ b, H' b = none → H b = none
  rep : RvRep K H F' H' d v
  out : ∀ (j : Nat) (c : C), args[j]? = some (.own true c) → ∃ c' a, outs[j]? = some (.own true c') ∧ vs[j]? = some (.ref a) ∧ F' a = none ∧ CRep K F' H' a c'
def spF (K : PySem.W.Frag) (mg : Str → Option Value) (n : Nat) (g : FG) : Sp := fun vs H Q E => ∃ F args, vs.length = n ∧ Same F H ∧ (Tabs TabsC.T H ∧ ∀ p ∈ TabsC.T, F p.1 = none) ∧ ArgsOk K F H args vs ∧ match g args with
  | .ok p => ∀ v F' H', CallPost K F H args vs p.1 p.2 v F' H' → Q v H'
  | .ex x => ∀ cls dd H', XRep K mg x cls dd H' → Same F H' → (∀ b o, H b = some o → ¬ Passed args vs b → NoT b → H' b = some o) → Tabs TabsC.T H' → (∀ b, H' b = none → H b = none) → E cls dd H'
  | .stuck => False

/-! ### a def by its body -/
def ownKept : List Slot → List Slot → Bool
  | [], _ => true
  | .own true _ :: as, .own true _ :: rs => ownKept as rs
  | .own _ _ :: _, _ => false
  | _ :: as, _ :: rs => ownKept as rs
  | _ :: as, [] => ownKept as []
def fnEnd (args : List Slot) (d : Rv) (r : Env) : Res (Rv × List Slot) := if ownKept args r then .ok (d, r.take args.length) else .stuck
def fnRun (N : Nat) (f : FS) : FG := fun args => match f (args ++ List.replicate (N - args.length) .un) with
  | .nx r => fnEnd args (.d .non) r
  | .rt d r => fnEnd args (.d d) r
  | .rtO c r => fnEnd args (.o c) r
  | .ex x => .ex x
  | _ => .stuck
theorem ownKept_at : ∀ {as rs : List Slot} {j : Nat} {c : C}, ownKept as rs = true → as[j]? = some (.own true c) → ∃ c', rs[j]? = some (.own true c')
  | [], _, _, _, _, e => by simp at e
  | a :: as, [], j, c, h, e => by
    cases a with
    | own p c0 => cases p <;> cases h
    | un =>
      cases j with
      | zero => cases e
      | succ j => obtain ⟨c', z⟩ := ownKept_at (j := j) (rs := []) (show ownKept as [] = true from h) (by simpa using e); simp at z
    | val d =>
      cases j with
      | zero => cases e
      | succ j => obtain ⟨c', z⟩ := ownKept_at (j := j) (rs := []) (show ownKept as [] = true from h) (by simpa using e); simp at z
    | rf d =>
      cases j with
      | zero => cases e
      | succ j => obtain ⟨c', z⟩ := ownKept_at (j := j) (rs := []) (show ownKept as [] = true from h) (by simpa using e); simp at z
  | a :: as, r :: rs, 0, c, h, e => by
    cases e
    cases r with
    | own p c' => cases p with
      | true => exact ⟨c', rfl⟩
      | false => cases h
    | un => cases h
    | rf d => cases h
    | val d => cases h
  | a :: as, r :: rs, j + 1, c, h, e => by
    have h' : ownKept as rs = true := by
      cases a with
      | own p c0 =>
        cases p with
        | false => cases h
        | true =>
          cases r with
          | own p' c' => cases p' with
            | true => exact h
            | false => cases h
          | un => cases h
          | rf d => cases h
          | val d => cases h
      | un => exact h
      | rf d => exact h
      | val d => exact h
    obtain ⟨c', z⟩ := ownKept_at (j := j) h' (by simpa using e)
    exact ⟨c', by simpa using z⟩

section
variable {P : Program} {w : World} {K : PySem.W.Frag} {mg : Str → Option Value} {base : Heap}
theorem start_get {N : List Str} {vs : List V} {i : Nat} (hi : i < vs.length) : (L2.start N vs)[i]? = (vs[i]?).map some := by
  unfold L2.start
  rw [List.getElem?_append_left (by simpa using hi), List.getElem?_map]
/-- a def's promise, met where nothing is being shown by repr -/
structure GnOk (P : Program) (w : World) (K : PySem.W.Frag) (mg : Str → Option Value) (base : Heap) (CX : CXT) (k : Nat) (f : Addr) (fd : FuncData) (ps : List Str) (sp : Sp) : Prop where
  len : ∀ vs H Q E, sp vs H Q E → vs.length = ps.length
  run : ∀ (A : Around) (outer : List PySem.Env) (s : Shared) (H : Hp) (args : Args) (us : List Value) (vs : List V) (Q : VK) (E : XK), Room k A → A.guards = some [] → Env0 P w K mg base A outer s H → BindsTo s fd args (ps.zip us) → Vals vs us → sp vs H Q E →
    codeAny (model P w) A (.call (.ref f) args) (CR CX outer P w H s Q E) s
theorem GnOk.imp {CX : CXT} {k : Nat} {f : Addr} {fd : FuncData} {ps : List Str} {sp sp' : Sp} (F : GnOk P w K mg base CX k f fd ps sp) (h : ∀ vs H Q E, sp' vs H Q E → sp vs H Q E) : GnOk P w K mg base CX k f fd ps sp' :=
  ⟨fun vs H Q E q => F.len vs H Q E (h _ _ _ _ q), fun A outer s H args us vs Q E hr hg he hb hv hs => F.run A outer s H args us vs Q E hr hg he hb hv (h _ _ _ _ hs)⟩
theorem pe_callG {X : Cx} {CX : CXT} {k : Nat} {f : Addr} {fd : FuncData} {ps : List Str} {sp : Sp} {E : XK} {x : Str} {p pos : Pos} {e : Expr} {es : List Expr} {t : TA} (F : GnOk X.prog X.w X.K X.mg X.base CX k f fd ps sp) (hr : Room k X.A) (gd : X.A.guards = some [])
    (hg : Gl X x) (hm : X.mg x = some (.ref f)) (hk : PySem.W.keepIn X.K (.ref f) = true) (hb : Binds X.K fd ps []) (hx : Passes CX X E) (ha : PA X (e :: es) t) (hdb : (x == ("__debug__" : Str)) = false) (he : starEach (e :: es) X.env = (false, eval e X.env) :: starEach es X.env) (hpl : (backTo pos (starEach es X.env)).any (·.1) = false) :
    PE X (.Call (.Name x p) (e :: es) [] pos) (tCall sp [] E t) := ⟨fun pins s σ H Q I h => by
  refine wpAny_Call_Name_kw (ld_glob I hg hm ?_ hdb)
  refine PySem.W.callWith_K (h₀ := X.base) I.ok.mod.kin hk (thn (ha.run pos pins s σ H _ I h) fun us s1 ⟨vs, H1, I1, r, q⟩ => ⟨I1.kIn, ?_⟩) he hpl
  have r2 : Vals (vs ++ []) (us ++ []) := r.append .nil
  refine wpAny_call (codeAny_mono (F.run X.A X.stack s1 H1 ⟨us, []⟩ (us ++ []) (vs ++ []) Q E hr gd I1.env0 (hb s1 us I1.kIn (by rw [← r2.length]; exact F.len _ _ _ _ q)) r2 q) fun o s' hq => ?_)
  match o, hq with
  | .error e, hq => exact hx pins σ H1 s1 e s' I1 hq
  | .ok (.ret u), hq => exact I1.after hq⟩
/-- cdv is the code object of the def that stands at f -/
def CodeAt (K : PySem.W.Frag) (f : Addr) (cdv : Value) : Prop := ∃ (oc : Value) (od : Option Addr) (fd : FuncData) (osl : Array (Option Value)), K.lookup f = some ⟨oc, od, .func fd, osl⟩ ∧ fd.code = cdv
/-- a def by its body -/
theorem okG {x qual : Str} {st : Stmt} {f : Addr} {fd : FuncData} {N ps : List Str} {k : Nat} {sp : Sp} (Fn : Fun K x qual st f fd) (S : FnScope N ps (defScope st)) (len : ∀ vs H Q E, sp vs H Q E → vs.length = ps.length)
    (hbody : ∀ (cdv : Value) (A : Around) (outer : List PySem.Env) (s : Shared) (H : Hp) (vs : List V) (Q : VK) (E : XK), CodeAt K f cdv → Room k (A.deeper (envOfC qual (defScope st) s.heap.objs.size f cdv)) → A.guards = some [] → sp vs H Q E →
      ∃ t, PSs (cxOf (L2.CX P w) P w K mg base N qual (defScope st) f cdv A outer s H E) (defBody st) t ∧ t { nx := fun _ H' => Q .non H', rt := Q } (L2.start N vs) H) : GnOk P w K mg base (L2.CX P w) (k + 1) f fd ps sp := by
  obtain ⟨oc, od, kV, doc, pm, an, cdv, ct, osl, rfl, lk, hcd⟩ := Fn.ex
  refine ⟨len, fun A outer s H args us vs Q E hr gd e0 hb r hsp => ?_⟩
  have KX : K.In s.heap := e0.mod.kin.keeps fun b o e => (e0.bs b o e).1
  have lim : s.heap.NoLimit := e0.mod.nolimit.keeps fun b o e => (e0.bs b o e).1
  refine codeAny_call_function hr.depth (KX _ _ lk) rfl S.co S.gen rfl (PySem.W.codeRec_of KX hcd) (hb _ _ _ _ (wpAny_newFunctionEnv_cells S.kind (fun ⟨n, v⟩ hy => ?_) fun env he s1 x => ?_))
  · rcases S.par n (List.of_mem_zip hy).1 with q | q
    · exact .inl q
    · exact .inr ⟨q, PySem.W.cellsFrom_some _ _ _ (.inl q)⟩
  · subst he
    refine ⟨lim.keeps x.toInCall.keep, codeAny_func ?_⟩
    obtain ⟨t, ht, hq⟩ := hbody cdv A outer s H vs Q E ⟨_, _, _, _, lk, rfl⟩ (hr.deeper _) gd hsp
    refine wpAny_mono (ht.run [] s1 (L2.start N vs) H _ (inv_start S hr.hd e0 (len _ _ _ _ hsp) r x) hq) (fun fl s' hs => ?_) fun e s' hs => hs
    match fl, hs with
    | .ret u, ⟨v, σ', H', J, rv, q⟩ => exact ⟨v, H', J.os, J.bare, J.base, J.hok, rv, q⟩
    | .next, ⟨σ', H', J, q⟩ => exact ⟨.non, H', J.os, J.bare, J.base, J.hok, rfl, q⟩
    | .brk, ⟨_, _, _, q⟩ => exact False.elim q
    | .cont, ⟨_, _, _, q⟩ => exact False.elim q
/-- THE RULE for a def -/
theorem fn_ok {x qual : Str} {st : Stmt} {f : Addr} {fd : FuncData} {N ps : List Str} {k : Nat} {fb : FS} (Fn : Fun K x qual st f fd) (S : FnScope N ps (defScope st))
    (hb : ∀ (cdv : Value) (A : Around) (outer : List PySem.Env) (s : Shared) (H : Hp) (E : XK), CodeAt K f cdv → Room k (A.deeper (envOfC qual (defScope st) s.heap.objs.size f cdv)) → A.guards = some [] →
      EvSs (cxOf (L2.CX P w) P w K mg base N qual (defScope st) f cdv A outer s H E) E (defBody st) fb) :
    GnOk P w K mg base (L2.CX P w) (k + 1) f fd ps (spF K mg ps.length (fnRun N.length fb)) := by
  have hpl : ps.length ≤ N.length := by have := congrArg List.length S.pre; rw [List.length_take] at this; omega
  refine okG Fn S (fun vs H Q E h => ?_) (fun cdv A outer s H vs Q E hc hr gd h => ⟨_, hb cdv A outer s H E hc hr gd, ?_⟩)
  · obtain ⟨F, args, hl, _⟩ := h
    exact hl
  · obtain ⟨F, args, hl, f1, ⟨tH, tF⟩, ao, q⟩ := h
    have hal : args.length = vs.length := ao.len.symm
    have slen : (L2.start N vs).length = N.length := by unfold L2.start; rw [List.length_append, List.length_map, List.length_replicate]; omega
    have envlen : (args ++ List.replicate (N.length - args.length) Slot.un).length = N.length := by rw [List.length_append, List.length_replicate]; omega
    have low : ∀ {i : Nat} {sl : Slot}, (args ++ List.replicate (N.length - args.length) Slot.un)[i]? = some sl → sl ≠ .un → i < args.length ∧ args[i]? = some sl := fun {i sl} e n => by
      by_cases hi : i < args.length
      · rw [List.getElem?_append_left hi] at e; exact ⟨hi, e⟩
      · rw [List.getElem?_append_right (by omega), List.getElem?_replicate] at e
        split at e
        · cases e; exact absurd rfl n
        · cases e
    let B : Base := ⟨H, F, Passed args vs, L2.start N vs⟩
    let O : Addr → Option C := fun a => by
      classical
      exact if h : ∃ (c : C) (j : Nat), args[j]? = some (.own true c) ∧ vs[j]? = some (.ref a) then some (Classical.choose h) else none
    have Oof : ∀ {a : Addr} {c : C}, O a = some c → ∃ (j : Nat), args[j]? = some (.own true c) ∧ vs[j]? = some (.ref a) := fun {a c} e => by
      by_cases h : ∃ (c : C) (j : Nat), args[j]? = some (.own true c) ∧ vs[j]? = some (.ref a)
      · have z : O a = some (Classical.choose h) := dif_pos h
        rw [z] at e
        cases e
        exact Classical.choose_spec h
      · have : O a = none := dif_neg h
        rw [this] at e; cases e
    have Oat : ∀ {j : Nat} {c : C} {a : Addr}, args[j]? = some (.own true c) → vs[j]? = some (.ref a) → O a = some c := fun {j c a} e1 e2 => by
      have h : ∃ (c : C) (j : Nat), args[j]? = some (.own true c) ∧ vs[j]? = some (.ref a) := ⟨c, j, e1, e2⟩
      have z : O a = some (Classical.choose h) := dif_pos h
      obtain ⟨j', z1, z2⟩ := Oof z
      have e3 := ao.inj j j' c _ a e1 z1 e2 z2
      subst e3
      rw [e1] at z1
      injection z1 with z1
      injection z1 with _ z1
      rw [z, ← z1]
    have R : Rel K B F O H (args ++ List.replicate (N.length - args.length) .un) (L2.start N vs) := by
      refine ⟨f1, .refl _, fun _ _ e => .inl e, ⟨fun _ _ e _ _ => e, tH, tH, tF⟩, fun _ e => e, fun a c e => ?_, by rw [slen, envlen], fun i d e => ?_, fun i p c e => ?_, fun i j p q c c' a e1 e2 g1 g2 => ?_, fun i a e => ?_⟩
      · obtain ⟨j, e1, e2⟩ := Oof e
        obtain ⟨_, b, h1, h2, h3⟩ := ao.on j _ c e1
        rw [e2] at h1; cases h1
        exact ⟨h2, h3, .inl ⟨j, c, e1, e2⟩⟩
      · obtain ⟨hi, e'⟩ := low e (by intro z; cases z)
        obtain ⟨x, h1, h2⟩ := ao.vl i d e'
        exact ⟨x, by rw [start_get (by omega), h1]; rfl, h2⟩
      · obtain ⟨hi, e'⟩ := low e (by intro z; cases z)
        obtain ⟨hp, a, h1, h2, h3⟩ := ao.on i p c e'
        subst hp
        exact ⟨a, by rw [start_get (by omega), h1]; rfl, Oat e' h1, fun z => (nomatch z), fun _ => ⟨rfl, i, c, e', h1⟩⟩
      · obtain ⟨hi, e1'⟩ := low e1 (by intro z; cases z)
        obtain ⟨hj, e2'⟩ := low e2 (by intro z; cases z)
        obtain ⟨hp, b1, h1, _⟩ := ao.on i p c e1'
        obtain ⟨hq, b2, h2, _⟩ := ao.on j q c' e2'
        subst hp; subst hq
        rw [start_get (by omega), h1] at g1
        rw [start_get (by omega), h2] at g2
        cases g1; cases g2
        exact ao.inj i j c c' a e1' e2' h1 h2
      · obtain ⟨hi, e'⟩ := low e (by intro z; cases z)
        rw [start_get (by omega), ao.rf i a e']; rfl
    refine ⟨B, F, O, _, R, ?_⟩
    have fin : ∀ (d : Rv) (r' : Env), (match fnEnd args d r' with
        | .ok p => ∀ v F' H', CallPost K F H args vs p.1 p.2 v F' H' → Q v H'
        | .ex x => ∀ cls dd H', XRep K mg x cls dd H' → Same F H' → (∀ b o, H b = some o → ¬ Passed args vs b → NoT b → H' b = some o) → Tabs TabsC.T H' → (∀ b, H' b = none → H b = none) → E cls dd H'
        | .stuck => False) → ∀ F' O' H' s' v, Rel K B F' O' H' r' s' → Same F F' → RvRep K H F' H' d v → Q v H' := fun d r' q F' O' H' s' v R' ff hv => by
      unfold fnEnd at q
      by_cases hk : ownKept args r' = true
      · rw [if_pos hk] at q
        refine q v F' H' ⟨ff, R'.fh, R'.nf, R'.fr.k, R'.fr.t, R'.st, hv, fun j c e => ?_⟩
        obtain ⟨c', z⟩ := ownKept_at hk e
        obtain ⟨a, h1, h2, _, h4⟩ := R'.on j true c' z
        obtain ⟨h5, _⟩ := h4 rfl
        obtain ⟨g1, g2, _⟩ := R'.ow a c' h2
        have hj : j < args.length := (List.getElem?_eq_some_iff.mp e).1
        refine ⟨c', a, by rw [List.getElem?_take_of_lt hj]; exact z, ?_, g1, g2⟩
        rw [h1] at h5
        have h5 : some (some (V.ref a)) = (L2.start N vs)[j]? := h5
        rw [start_get (by omega)] at h5
        cases m : vs[j]? with
        | none => rw [m] at h5; cases h5
        | some y => rw [m] at h5; cases h5; rfl
      · rw [if_neg hk] at q; exact False.elim q
    have q : match fnRun N.length fb args with
      | .ok p => ∀ v F' H', CallPost K F H args vs p.1 p.2 v F' H' → Q v H'
      | .ex x => ∀ cls dd H', XRep K mg x cls dd H' → Same F H' → (∀ b o, H b = some o → ¬ Passed args vs b → NoT b → H' b = some o) → Tabs TabsC.T H' → (∀ b, H' b = none → H b = none) → E cls dd H'
      | .stuck => False := q
    unfold fnRun at q
    cases m : fb (args ++ List.replicate (N.length - args.length) .un) with
    | stuck => rw [m] at q; exact q
    | rtO c r' =>
      rw [m] at q
      exact fun F' O' H' s' a R' ff ha h0 => fin (.o c) r' q F' O' H' s' (.ref a) R' ff ⟨a, rfl, (R'.ow a c ha).1, (R'.ow a c ha).2.1, h0⟩
    | bk r' => rw [m] at q; exact False.elim q
    | ct r' => rw [m] at q; exact False.elim q
    | nx r' =>
      rw [m] at q
      exact fun F' O' H' s' R' ff => fin (.d .non) r' q F' O' H' s' .non R' ff rfl
    | rt d r' =>
      rw [m] at q
      exact fun F' O' H' s' v R' ff hv => fin (.d d) r' q F' O' H' s' v R' ff hv
    | ex x =>
      rw [m] at q
      exact fun cls dd H' X => q cls dd H' X.rep X.fh X.fr.k X.fr.t X.st
end

/-! ### a call -/
def argOf (r : Env) : BV → Option Slot
  | .val d => some (.val d)
  | .slot i => match r[i]? with
    | some (.own _ c) => some (.own true c)
    | _ => none
def argsOf (r : Env) : List BV → Option (List Slot)
  | [] => some []
  | b :: bs => match argOf r b, argsOf r bs with
    | some a, some as => some (a :: as)
    | _, _ => none
def apart : List BV → Bool
  | [] => true
  | .val _ :: bs => apart bs
  | .slot i :: bs => bs.all (fun b => match b with
    | .slot j => i != j
    | _ => true) && apart bs
def setOuts : Env → List BV → List Slot → Option Env
  | r, [], _ => some r
  | r, .val _ :: bs, _ :: os => setOuts r bs os
  | r, .slot i :: bs, .own _ c' :: os => match r[i]? with
    | some (.own p _) => setOuts (r.set i (.own p c')) bs os
    | _ => none
  | _, _ :: _, _ => none
def fCallR (g : FG) (fa : FA) : Env → Res (Rv × Env) := fun r => (fa r).bnd fun bs r1 => obnd (argsOf r1 bs) fun args => if apart bs = true then (g args).lft fun p => obnd (setOuts r1 bs p.2) fun r2 => .ok (p.1, r2) else .stuck
def fCall (g : FG) (fa : FA) : FE := fun r => (fCallR g fa r).bnd fun v r' => match v with
  | .d d => .ok (d, r')
  | .o _ => .stuck
def fCallO (g : FG) (fa : FA) : FO := fun r => (fCallR g fa r).bnd fun v r' => match v with
  | .d _ => .stuck
  | .o c => .ok (c, r')

section
variable {K : PySem.W.Frag} {B : Base} {F F' H H' : Hp} {O : Addr → Option C} {r : Env} {s : Sg}
theorem argsOf_at : ∀ {bs : List BV} {args : List Slot}, argsOf r bs = some args → args.length = bs.length ∧ ∀ (i : Nat) (sl : Slot), args[i]? = some sl → ∃ b, bs[i]? = some b ∧ argOf r b = some sl
  | [], _, h => by cases h; exact ⟨rfl, fun i sl e => by simp at e⟩
  | b :: bs, args, h => by
    unfold argsOf at h
    cases h1 : argOf r b with
    | none => rw [h1] at h; cases h
    | some a =>
      cases h2 : argsOf r bs with
      | none => rw [h1, h2] at h; cases h
      | some as =>
        rw [h1, h2] at h
        cases h
        obtain ⟨l, q⟩ := argsOf_at h2
        refine ⟨by simp [l], fun i sl e => ?_⟩
        cases i with
        | zero => cases e; exact ⟨b, rfl, h1⟩
        | succ i => exact q i sl (by simpa using e)
theorem apart_at : ∀ {bs : List BV} {i j k : Nat}, apart bs = true → bs[i]? = some (.slot k) → bs[j]? = some (.slot k) → i = j
  | [], _, _, _, _, e, _ => by simp at e
  | b :: bs, i, j, k, h, e1, e2 => by
    have tl : apart bs = true := by
      cases b with
      | val d => exact h
      | slot n => exact (Bool.and_eq_true_iff.mp h).2
    have hd : ∀ (m : Nat), b = BV.slot k → bs[m]? = some (BV.slot k) → False := fun m eb em => by
      subst eb
      have := List.all_eq_true.mp (Bool.and_eq_true_iff.mp h).1 _ (List.mem_of_getElem? em)
      simp at this
    cases i with
    | zero =>
      cases j with
      | zero => rfl
      | succ j => exact (hd j (by simpa using e1) (by simpa using e2)).elim
    | succ i =>
      cases j with
      | zero => exact (hd i (by simpa using e2) (by simpa using e1)).elim
      | succ j => rw [apart_at tl (i := i) (j := j) (by simpa using e1) (by simpa using e2)]
theorem BReps.get : ∀ {bs : List BV} {vs : List V} {i : Nat} {b : BV}, BReps K F s bs vs → bs[i]? = some b → ∃ v, vs[i]? = some v ∧ BRep K F s b v
  | _, _, _, _, .nil, e => by simp at e
  | _, _, 0, _, .cons h _, e => by simp at e; subst e; exact ⟨_, rfl, h⟩
  | _, _, i + 1, b, .cons _ t, e => by
    obtain ⟨v, h1, h2⟩ := BReps.get (i := i) (b := b) t (by simpa using e)
    exact ⟨v, by simpa using h1, h2⟩
theorem BReps.length : ∀ {bs : List BV} {vs : List V}, BReps K F s bs vs → vs.length = bs.length
  | _, _, .nil => rfl
  | _, _, .cons _ t => by rw [List.length_cons, List.length_cons, t.length]
theorem BReps.mono (f : Same F F') : ∀ {bs : List BV} {vs : List V}, BReps K F s bs vs → BReps K F' s bs vs
  | _, _, .nil => .nil
  | _, _, .cons h t => .cons (h.mono f) (t.mono f)
theorem argOf_slot {i : Nat} {sl : Slot} (h : argOf r (.slot i) = some sl) : ∃ p c, r[i]? = some (.own p c) ∧ sl = .own true c := by
  have h : (match r[i]? with
    | some (Slot.own _ c) => some (Slot.own true c)
    | _ => none) = some sl := h
  cases q : r[i]? with
  | none => rw [q] at h; cases h
  | some x =>
    rw [q] at h
    cases x with
    | own p c => cases h; exact ⟨p, c, rfl, rfl⟩
    | un => cases h
    | rf _ => cases h
    | val d => cases h
theorem args_ok (R : Rel K B F O H r s) {bs : List BV} {vs : List V} {args : List Slot} (hb : BReps K F s bs vs) (ha : argsOf r bs = some args) (hp : apart bs = true) : ArgsOk K F H args vs := by
  obtain ⟨l, at_⟩ := argsOf_at ha
  have slot_of : ∀ {i : Nat} {p : Bool} {c : C}, args[i]? = some (.own p c) → p = true ∧ ∃ (k : Nat) (q : Bool) (a : Addr), bs[i]? = some (.slot k) ∧ r[k]? = some (.own q c) ∧ vs[i]? = some (.ref a) ∧ s[k]? = some (some (.ref a)) ∧ O a = some c := fun {i p c} e => by
    obtain ⟨b, h1, h2⟩ := at_ i _ e
    cases b with
    | val d => cases h2
    | slot k =>
      obtain ⟨q, c', h3, h4⟩ := argOf_slot h2
      cases h4
      obtain ⟨v, h5, h6⟩ := hb.get h1
      obtain ⟨a, h7, h8, _⟩ := R.on k q c h3
      rw [show s[k]? = some (some v) from h6] at h7
      cases h7
      exact ⟨rfl, k, q, a, h1, h3, h5, h6, h8⟩
  refine ⟨by rw [hb.length, l], fun i d e => ?_, fun i p c e => ?_, fun i j c c' a e1 e2 g1 g2 => ?_, fun i a e => ?_⟩
  · obtain ⟨b, h1, h2⟩ := at_ i _ e
    cases b with
    | val d' => cases h2; exact hb.get h1
    | slot k => obtain ⟨q, c', h3, h4⟩ := argOf_slot h2; cases h4
  · obtain ⟨h0, k, q, a, h1, h2, h3, h4, h5⟩ := slot_of e
    obtain ⟨z1, z2, _⟩ := R.ow a c h5
    exact ⟨h0, a, h3, z1, z2⟩
  · obtain ⟨_, k, q, b, h1, h2, h3, h4, h5⟩ := slot_of e1
    obtain ⟨_, k', q', b', h1', h2', h3', h4', h5'⟩ := slot_of e2
    rw [g1] at h3; cases h3
    rw [g2] at h3'; cases h3'
    have : k = k' := R.inj k k' q q' c c' a h2 h2' h4 h4'
    subst this
    exact apart_at hp h1 h1'
  · obtain ⟨b, h1, h2⟩ := at_ i _ e
    cases b with
    | val d' => cases h2
    | slot k => obtain ⟨q, c', h3, h4⟩ := argOf_slot h2; cases h4

/-- the own objects that were handed in, as the callee left them -/
theorem set_outs {G : Hp} : ∀ {bs : List BV} {vs : List V} {outs : List Slot} {r r2 : Env} {O : Addr → Option C} {H : Hp}, Rel K B F O H r s → BReps K F s bs vs → apart bs = true →
    (∀ (j k : Nat), bs[j]? = some (.slot k) → ∃ c' a, outs[j]? = some (.own true c') ∧ vs[j]? = some (.ref a) ∧ CRep K F G a c') → setOuts r bs outs = some r2 →
    ∃ O2 H2, Rel K B F O2 H2 r2 s ∧ Keep s r r2 O O2 ∧ (∀ b, O b = none → O2 b = none) ∧ ∀ b, ((∃ (j k : Nat), bs[j]? = some (.slot k) ∧ vs[j]? = some (.ref b)) → H2 b = G b) ∧ ((¬ ∃ (j k : Nat), bs[j]? = some (.slot k) ∧ vs[j]? = some (.ref b)) → H2 b = H b)
  | [], vs, outs, r, r2, O, H, R, hb, _, _, e => by
    have e : some r = some r2 := by rw [← e]; unfold setOuts; rfl
    cases e
    exact ⟨O, H, R, .refl, fun _ z => z, fun b => ⟨fun ⟨j, k, z, _⟩ => by simp at z, fun _ => rfl⟩⟩
  | .val d :: bs, _, [], r, r2, O, H, R, .cons _ t, hp, ho, e => by cases e
  | .val d :: bs, v :: vs, o :: outs, r, r2, O, H, R, .cons _ t, hp, ho, e => by
    obtain ⟨O2, H2, R2, k2, no, hh⟩ := set_outs (G := G) (bs := bs) (vs := vs) (outs := outs) R t hp (fun j k z => by
      obtain ⟨c', a, h1, h2, h3⟩ := ho (j + 1) k (by simpa using z)
      exact ⟨c', a, by simpa using h1, by simpa using h2, h3⟩) e
    refine ⟨O2, H2, R2, k2, no, fun b => ⟨fun ⟨j, k, z, z2⟩ => ?_, fun n => ?_⟩⟩
    · cases j with
      | zero => cases z
      | succ j => exact (hh b).1 ⟨j, k, by simpa using z, by simpa using z2⟩
    · exact (hh b).2 fun ⟨j, k, z, z2⟩ => n ⟨j + 1, k, by simpa using z, by simpa using z2⟩
  | .slot i :: bs, _, [], r, r2, O, H, R, .cons _ t, hp, ho, e => by cases e
  | .slot i :: bs, v :: vs, o :: outs, r, r2, O, H, R, .cons hv t, hp, ho, e => by
    obtain ⟨c', a, h1, h2, h3⟩ := ho 0 i rfl
    have h1 : o = .own true c' := by simpa using h1
    have h2 : v = .ref a := by simpa using h2
    subst h1; subst h2
    unfold setOuts at e
    have hp2 : apart bs = true := (Bool.and_eq_true_iff.mp hp).2
    cases q : r[i]? with
    | none => rw [q] at e; cases e
    | some sl =>
      rw [q] at e
      cases sl with
      | un => cases e
      | rf _ => cases e
      | val d => cases e
      | own p c =>
        have e : setOuts (r.set i (.own p c')) bs outs = some r2 := e
        obtain ⟨u, hu⟩ := h3.some
        obtain ⟨R1, k1⟩ := R.mut (o := u) (c' := c') q hv (h3.mono (.refl _) (by rw [upd_same, hu]))
        obtain ⟨O2, H2, R2, k2, no, hh⟩ := set_outs (G := G) (bs := bs) (vs := vs) (outs := outs) R1 t hp2 (fun j k z => by
          obtain ⟨c', a, h1, h2, h3⟩ := ho (j + 1) k (by simpa using z)
          exact ⟨c', a, by simpa using h1, by simpa using h2, h3⟩) e
        have no' : ∀ b, O b = none → O2 b = none := fun b z => no b (by
          have : b ≠ a := fun y => by
            obtain ⟨a', w1, w2, _⟩ := R.on i p c q
            rw [show s[i]? = some (some (V.ref a)) from hv] at w1
            cases w1
            rw [y, w2] at z; cases z
          simp only [if_neg this]; exact z)
        refine ⟨O2, H2, R2, k1.trans k2, no', fun b => ⟨fun ⟨j, k, z, z2⟩ => ?_, fun n => ?_⟩⟩
        · by_cases hm : ∃ (j k : Nat), bs[j]? = some (.slot k) ∧ vs[j]? = some (.ref b)
          · exact (hh b).1 hm
          · rw [(hh b).2 hm]
            cases j with
            | zero =>
              have : b = a := by simpa using z2.symm
              subst this
              rw [upd_same, hu]
            | succ j => exact absurd ⟨j, k, by simpa using z, by simpa using z2⟩ hm
        · rw [(hh b).2 fun ⟨j, k, z, z2⟩ => n ⟨j + 1, k, by simpa using z, by simpa using z2⟩]
          exact upd_ne fun z => n ⟨0, i, rfl, by rw [z]; rfl⟩
end

section
variable {X : Cx} {E : XK} {e : Expr} {es : List Expr} {pos p : Pos} {k n : Nat} {f : Addr} {fd : FuncData} {ps : List Str} {x : Str} {g : FG} {fa : FA}
theorem Rel.adopt {K : PySem.W.Frag} {B : Base} {F H : Hp} {O : Addr → Option C} {r : Env} {s : Sg} (R : Rel K B F O H r s) {a : Addr} {c : C} (o : O a = none) (n : F a = none) (hc : CRep K F H a c) (h0 : B.H0 a = none) :
    Rel K B F (fun b => if b = a then some c else O b) H r s := by
  refine ⟨R.fh, R.f0, R.nf, R.fr, R.st, fun b d q => ?_, R.len, R.vl, fun i p d q => ?_, R.inj, R.rf⟩
  · by_cases hb : b = a
    · subst hb
      simp only [if_true] at q
      cases q
      exact ⟨n, hc, .inr h0⟩
    · simp only [if_neg hb] at q
      exact R.ow b d q
  · obtain ⟨b, h1, h2, h3⟩ := R.on i p d q
    have hb : b ≠ a := fun z => by subst z; rw [o] at h2; cases h2
    exact ⟨b, h1, by simp only [if_neg hb]; exact h2, h3⟩
theorem call_reads {s : Sg} {H : Hp} {Q : VK} (hn : ∀ {r bs r1}, fa r = .ok (bs, r1) → bs.length = n)
    (h : ∃ B F O r, Rel X.K B F O H r s ∧ Post X.K X.mg E B F O r s (fCallR g fa r) fun rv r' F' O' H' => match rv with
      | .d d => ∀ v, Rep X.K F' d v → Q v H'
      | .o c => ∀ a, O' a = some c → B.H0 a = none → Free s r' a → (∀ c0, O a = some c0 → ¬ Free s r a) → Q (.ref a) H') : tA X.K X.mg E fa s H fun vs H1 => spF X.K X.mg n g (vs ++ []) H1 Q E := by
  obtain ⟨B, F, O, r, R, q⟩ := h
  refine ⟨B, F, O, r, R, ?_⟩
  have q' := Post.split q
  cases m : fa r with
  | stuck => rw [m] at q'; exact q'
  | ex x => rw [m] at q'; exact q'
  | ok pr =>
    obtain ⟨bs, r1⟩ := pr
    rw [m] at q'
    have hl := hn m
    intro F1 O1 H1 R1 f1 k1 vs hvs
    have q1 : Post X.K X.mg E B F1 O1 r1 s (obnd (argsOf r1 bs) fun args => if apart bs = true then (g args).lft fun p => obnd (setOuts r1 bs p.2) fun r2 => Res.ok (p.1, r2) else .stuck) _ := q' F1 O1 H1 R1 f1 k1
    obtain ⟨args, ea, q1⟩ := Post.opt q1
    by_cases hp : apart bs = true
    · rw [if_pos hp] at q1
      have ao := args_ok R1 hvs ea hp
      rw [List.append_nil]
      refine ⟨F1, args, by rw [hvs.length]; exact hl, R1.fh, ⟨R1.fr.t, R1.noF⟩, ao, ?_⟩
      have hpass : ∀ {b : Addr}, Passed args vs b ↔ ∃ (j k : Nat), bs[j]? = some (.slot k) ∧ vs[j]? = some (.ref b) := fun {b} => by
        obtain ⟨l, at_⟩ := argsOf_at ea
        constructor
        · rintro ⟨j, c, h1, h2⟩
          obtain ⟨bv, h3, h4⟩ := at_ j _ h1
          cases bv with
          | val d => cases h4
          | slot k => exact ⟨j, k, h3, h2⟩
        · rintro ⟨j, k, h1, h2⟩
          have hj : j < args.length := by rw [l]; exact (List.getElem?_eq_some_iff.mp h1).1
          obtain ⟨bv, h3, h4⟩ := at_ j _ (List.getElem?_eq_getElem hj)
          rw [h1] at h3; cases h3
          obtain ⟨p, c, _, h6⟩ := argOf_slot h4
          exact ⟨j, c, by rw [List.getElem?_eq_getElem hj, h6], h2⟩
      have pO : ∀ {b : Addr}, Passed args vs b → ∃ c, O1 b = some c := fun {b} hb => by
        obtain ⟨j, k, h1, h2⟩ := hpass.mp hb
        obtain ⟨j', c, h3, h4⟩ := hb
        obtain ⟨v, h5, h6⟩ := hvs.get h1
        rw [h2] at h5; cases h5
        obtain ⟨l, at_⟩ := argsOf_at ea
        have hj : j < args.length := by rw [l]; exact (List.getElem?_eq_some_iff.mp h1).1
        obtain ⟨bv, h7, h8⟩ := at_ j _ (List.getElem?_eq_getElem hj)
        rw [h1] at h7; cases h7
        obtain ⟨p, c2, h9, _⟩ := argOf_slot h8
        obtain ⟨a, g1, g2, _⟩ := R1.on k p c2 h9
        rw [show s[k]? = some (some (V.ref b)) from h6] at g1
        cases g1
        exact ⟨c2, g2⟩
      cases mg' : g args with
      | stuck => rw [mg'] at q1; exact q1
      | ex x =>
        rw [mg'] at q1
        have q1 : ∀ cls dd H', XPost X.K X.mg B F1 x cls dd H' → E cls dd H' := q1
        show ∀ cls dd H', XRep X.K X.mg x cls dd H' → Same F1 H' → (∀ b o, H1 b = some o → ¬ Passed args vs b → NoT b → H' b = some o) → Tabs TabsC.T H' → (∀ b, H' b = none → H1 b = none) → E cls dd H'
        refine fun cls dd H' h1 h2 h3 ht h4 => q1 cls dd H' ⟨h1, h2, ⟨fun b o e np nt => h3 b o (R1.fr.k b o e np nt) (fun hb => ?_) nt, ht, R1.fr.t0, R1.fr.b⟩, fun b e => R1.st b (h4 b e)⟩
        obtain ⟨c, hc⟩ := pO hb
        obtain ⟨_, _, z⟩ := R1.ow b c hc
        rcases z with z | z
        · exact np z
        · rw [z] at e; cases e
      | ok pr =>
        obtain ⟨d, outs⟩ := pr
        rw [mg'] at q1
        have q1 : Post X.K X.mg E B F1 O1 r1 s (obnd (setOuts r1 bs outs) fun r2 => Res.ok (d, r2)) (fun rv r' F' O' H' => match rv with
          | .d d => ∀ v, Rep X.K F' d v → Q v H'
          | .o c => ∀ a, O' a = some c → B.H0 a = none → Free s r' a → (∀ c0, O a = some c0 → ¬ Free s r a) → Q (.ref a) H') := q1
        obtain ⟨r2, e2, q1⟩ := Post.opt q1
        show ∀ v F' H', CallPost X.K F1 H1 args vs d outs v F' H' → Q v H'
        intro v F' H' cp
        -- first all but what was handed in
        have g1 : Grow F1 H1 F' (fun b => by classical exact if Passed args vs b then H1 b else H' b) := by
          refine ⟨cp.ff, fun b o e nt => ?_, fun tH => ?_, fun b e => ?_, cp.nf, fun b o e => ?_⟩
          · by_cases hb : Passed args vs b
            · simp only [if_pos hb]; exact e
            · simp only [if_neg hb]; exact cp.fr b o e hb nt
          · have np : ∀ {b : Addr}, Passed args vs b → ∃ c, CRep X.K F' H' b c := fun {b} ⟨j, c, h1, h2⟩ => by
              obtain ⟨c', a, z1, z2, z3, z4⟩ := cp.out j c h1
              rw [h2] at z2; cases z2
              exact ⟨c', z4⟩
            intro p hp2
            obtain ⟨ps, e1, e2, e3⟩ := cp.tt p hp2
            have n1 : ¬ Passed args vs p.1 := fun z => by
              obtain ⟨c, z⟩ := np z
              exact not_tab cp.tt z p hp2 rfl
            refine ⟨ps, by simp only [if_neg n1]; exact e1, e2, fun pos cv q => ?_⟩
            obtain ⟨b, e4, e5⟩ := e3 pos cv q
            have n2 : ¬ Passed args vs b := fun z => by
              obtain ⟨c, z⟩ := np z
              cases c with
              | lst ds => obtain ⟨xs, h1, _⟩ := z; rw [e5] at h1; unfold LamX.CodeO at h1; cases h1
              | dct kvs => obtain ⟨xs, h1, _⟩ := z; rw [e5] at h1; unfold LamX.CodeO at h1; cases h1
            exact ⟨b, e4, by simp only [if_neg n2]; exact e5⟩
          · by_cases hb : Passed args vs b
            · simp only [if_pos hb] at e; exact e
            · simp only [if_neg hb] at e; exact cp.st b e
          · by_cases hb : Passed args vs b
            · obtain ⟨j, c, h1, h2⟩ := hb
              obtain ⟨c', a, z1, z2, z3, z4⟩ := cp.out j c h1
              rw [h2] at z2; cases z2
              rw [z3] at e; cases e
            · simp only [if_neg hb]; exact cp.fh _ _ e
        have R' := R1.grow g1
        obtain ⟨O2, H2, R2, k2, no, hh⟩ := set_outs (G := H') R' (hvs.mono cp.ff) hp (fun j k z => by
          obtain ⟨v', hv1, hv2⟩ := hvs.get z
          obtain ⟨l, at_⟩ := argsOf_at ea
          have hj : j < args.length := by rw [l]; exact (List.getElem?_eq_some_iff.mp z).1
          obtain ⟨bv, h7, h8⟩ := at_ j _ (List.getElem?_eq_getElem hj)
          rw [z] at h7; cases h7
          obtain ⟨p, c2, h9, h10⟩ := argOf_slot h8
          obtain ⟨c', a, z1, z2, z3, z4⟩ := cp.out j c2 (by rw [List.getElem?_eq_getElem hj, h10])
          exact ⟨c', a, z1, z2, z4⟩) e2
        have eH : H2 = H' := by
          funext b
          by_cases hb : Passed args vs b
          · exact (hh b).1 (hpass.mp hb)
          · rw [(hh b).2 fun z => hb (hpass.mpr z)]
            simp only [if_neg hb]
        subst eH
        have rp := cp.rep
        cases d with
        | d d => exact (show ∀ F3 O3 H3, Rel X.K B F3 O3 H3 r2 s → Same F1 F3 → Keep s r1 r2 O1 O3 → ∀ v, Rep X.K F3 d v → Q v H3 from q1) _ _ _ R2 cp.ff k2 v rp
        | o c =>
          have q1 : ∀ F3 O3 H3, Rel X.K B F3 O3 H3 r2 s → Same F1 F3 → Keep s r1 r2 O1 O3 → ∀ a, O3 a = some c → B.H0 a = none → Free s r2 a → (∀ c0, O a = some c0 → ¬ Free s r a) → Q (.ref a) H3 := q1
          obtain ⟨a, ea, n1, n2, n3⟩ := rp
          subst ea
          obtain ⟨o1, h0, _, _⟩ := R1.free_of n3
          have o2 := no a o1
          have R3 := R2.adopt o2 n1 n2 h0
          have fr : Free s r2 a := fun i p c0 e z => by
            obtain ⟨b, w1, w2, _⟩ := R2.on i p c0 e
            rw [z] at w1; cases w1
            rw [o2] at w2; cases w2
          refine q1 _ _ _ R3 cp.ff (fun b c0 e f => ?_) a (by simp) h0 fr fun c0 e f => ?_
          · obtain ⟨w1, w2⟩ := k2 b c0 e f
            refine ⟨?_, w2⟩
            have : b ≠ a := fun y => by rw [y, o2] at w1; cases w1
            simp only [if_neg this]; exact w1
          · obtain ⟨w1, _⟩ := k1 a c0 e f
            rw [o1] at w1; cases w1
    · rw [if_neg hp] at q1; exact False.elim q1

theorem ev_call (G : GnOk X.prog X.w X.K X.mg X.base (L2.CX X.prog X.w) k f fd ps (spF X.K X.mg n g)) (hr : Room k X.A) (gd : X.A.guards = some []) (hm : X.mg x = some (.ref f)) (hk : PySem.W.keepIn X.K (.ref f) = true) (hb : Binds X.K fd ps []) (hx : Passes (L2.CX X.prog X.w) X E)
    (ha : EvA X E (e :: es) fa) (hn : ∀ {r bs r1}, fa r = .ok (bs, r1) → bs.length = n) (hg : Gl X x := by rfl) (hdb : (x == ("__debug__" : Str)) = false := by decide)
    (he : starEach (e :: es) X.env = (false, eval e X.env) :: starEach es X.env := by rfl) (hpl : (backTo pos (starEach es X.env)).any (·.1) = false := by rfl) : EvE X E (.Call (.Name x p) (e :: es) [] pos) (fCall g fa) :=
  PE.imp (pe_callG G hr gd hg hm hk hb hx ha hdb he hpl) fun s H Q ⟨B, F, O, r, R, q⟩ => call_reads hn ⟨B, F, O, r, R, (Post.split q).mono fun rv r1 F1 O1 H1 R1 f1 k1 q1 => by
    cases rv with
    | d d => exact Post.ok (k := fun d _ F' _ H' => ∀ v, Rep X.K F' d v → Q v H') q1 R1 (.refl _) .refl
    | o c => exact False.elim q1⟩
theorem ev_callO (G : GnOk X.prog X.w X.K X.mg X.base (L2.CX X.prog X.w) k f fd ps (spF X.K X.mg n g)) (hr : Room k X.A) (gd : X.A.guards = some []) (hm : X.mg x = some (.ref f)) (hk : PySem.W.keepIn X.K (.ref f) = true) (hb : Binds X.K fd ps []) (hx : Passes (L2.CX X.prog X.w) X E)
    (ha : EvA X E (e :: es) fa) (hn : ∀ {r bs r1}, fa r = .ok (bs, r1) → bs.length = n) (hg : Gl X x := by rfl) (hdb : (x == ("__debug__" : Str)) = false := by decide)
    (he : starEach (e :: es) X.env = (false, eval e X.env) :: starEach es X.env := by rfl) (hpl : (backTo pos (starEach es X.env)).any (·.1) = false := by rfl) : EvO X E (.Call (.Name x p) (e :: es) [] pos) (fCallO g fa) :=
  PE.imp (pe_callG G hr gd hg hm hk hb hx ha hdb he hpl) fun s H Q ⟨B, F, O, r, R, q⟩ => call_reads hn ⟨B, F, O, r, R, (Post.split (g := fun v r' => match v with
    | .d _ => .stuck
    | .o c => .ok (c, r')) q).mono fun rv r1 F1 O1 H1 R1 f1 k1 q1 => by
    cases rv with
    | d d => exact False.elim q1
    | o c => exact fun a h1 h2 h3 h4 => (show ∀ F' O' H', Rel X.K B F' O' H' r1 s → Same F1 F' → Keep s r1 r1 O1 O' → ∀ a, O' a = some c → B.H0 a = none → Free s r1 a → (∀ c0, O a = some c0 → ¬ Free s r a) → Q (.ref a) H' from q1) F1 O1 H1 R1 (.refl _) .refl a h1 h2 h3 h4⟩
/-- how many arguments -/
theorem alen_nil {r : Env} {bs : List BV} {r1 : Env} (h : fANil r = .ok (bs, r1)) : bs.length = 0 := by cases h; rfl
theorem alen_cons {f1 : FB} {fl : FA} {m : Nat} (hl : ∀ {r bs r1}, fl r = .ok (bs, r1) → bs.length = m) {r : Env} {bs : List BV} {r1 : Env} (h : fACons f1 fl r = .ok (bs, r1)) : bs.length = m + 1 := by
  unfold fACons at h
  cases q : f1 r with
  | stuck => rw [q] at h; cases h
  | ex x => rw [q] at h; cases h
  | ok p =>
    obtain ⟨b, r'⟩ := p
    rw [q] at h
    have h : (fl r').bnd (fun ds r2 => Res.ok (b :: ds, r2)) = .ok (bs, r1) := h
    cases q2 : fl r' with
    | stuck => rw [q2] at h; cases h
    | ex x => rw [q2] at h; cases h
    | ok p2 =>
      obtain ⟨ds, r2⟩ := p2
      rw [q2] at h
      cases h
      rw [List.length_cons, hl q2]
end
end Ev

/-! E6: statements, targets, loops. -/
namespace Ev
open PySem PySem.Spec PyProof.Rows L2
variable [TabsC]

theorem PS.imp {X : Cx} {e : Stmt} {t t' : TS} (h : PS X e t) (w : ∀ D s H, t' D s H → t D s H) : PS X e t' := ⟨fun pins s σ H Q I q => h.run pins s σ H Q I (w _ _ _ q)⟩
theorem PSs.imp {X : Cx} {e : List Stmt} {t t' : TS} (h : PSs X e t) (w : ∀ D s H, t' D s H → t D s H) : PSs X e t' := ⟨fun pins s σ H Q I q => h.run pins s σ H Q I (w _ _ _ q)⟩
theorem PI.imp {X : Cx} {tg e : Expr} {t t' : TI} (h : PI X tg e t) (w : ∀ s H Q, t' s H Q → t s H Q) : PI X tg e t' := ⟨fun pins s σ H Q I q => h.run pins s σ H Q I (w _ _ _ q)⟩

section
variable {K : PySem.W.Frag} {mg : Str → Option Value} {E : XK} {B : Base} {F H : Hp} {O : Addr → Option C} {r : Env} {s : Sg} {D' D2 : Ends}
theorem SPost.up {m : Fl} {F' : Hp} (h : SPost K mg E B F D' m) (f : Same F F') : SPost K mg E B F' D' m := by
  cases m with
  | nx r => exact fun F2 O2 H2 s2 R2 f2 => h F2 O2 H2 s2 R2 (f.trans f2)
  | rt d r => exact fun F2 O2 H2 s2 v R2 f2 => h F2 O2 H2 s2 v R2 (f.trans f2)
  | rtO d r => exact fun F2 O2 H2 s2 v R2 f2 => h F2 O2 H2 s2 v R2 (f.trans f2)
  | bk r => exact fun F2 O2 H2 s2 R2 f2 => h F2 O2 H2 s2 R2 (f.trans f2)
  | ct r => exact fun F2 O2 H2 s2 R2 f2 => h F2 O2 H2 s2 R2 (f.trans f2)
  | ex x => exact fun cls dd H' X => h cls dd H' ⟨X.rep, f.trans X.fh, X.fr, X.st⟩
  | stuck => exact h
/-- how an expression's answer goes on as a statement -/
def thenS {α : Type} (m : Res (α × Env)) (g : α → Env → Fl) : Fl := match m with
  | .ok p => g p.1 p.2
  | .ex x => .ex x
  | .stuck => .stuck
@[simp] theorem thenS_ok {α : Type} (a : α) (r : Env) (g : α → Env → Fl) : thenS (.ok (a, r)) g = g a r := rfl
@[simp] theorem thenS_ex {α : Type} (x : Ex) (g : α → Env → Fl) : thenS (.ex x : Res (α × Env)) g = .ex x := rfl
@[simp] theorem thenS_stuck {α : Type} (g : α → Env → Fl) : thenS (.stuck : Res (α × Env)) g = .stuck := rfl
theorem SPost.split {α : Type} {m : Res (α × Env)} {g : α → Env → Fl} (h : SPost K mg E B F D' (thenS m g)) : Post K mg E B F O r s m (fun a r' F' O' _ => SPost K mg E B F' D' (g a r')) := by
  cases m with
  | ex x => exact h
  | stuck => exact h
  | ok p => exact fun F' O' H' R f kp => SPost.up (m := g p.1 p.2) h f
theorem Post.with {α : Type} {m : Res (α × Env)} {k : α → Env → Hp → (Addr → Option C) → Hp → Prop} (h : Post K mg E B F O r s m k) :
    Post K mg E B F O r s m (fun a r' F' O' H' => (∀ c a', O' a' = some c → True) ∧ k a r' F' O' H') := h.mono fun _ _ _ _ _ _ _ _ q => ⟨fun _ _ _ => trivial, q⟩

/-- the slots change -/
theorem Rel.store {i : Nat} {d : D} {x : V} (R : Rel K B F O H r s) (hi : i < r.length) (hp : ∀ c, r[i]? ≠ some (.own true c)) (hd : Rep K F d x) : Rel K B F O H (r.set i (.val d)) (s.set i (some x)) := by
  have his : i < s.length := by rw [R.len]; exact hi
  refine ⟨R.fh, R.f0, R.nf, R.fr, R.st, R.ow, by rw [List.length_set, List.length_set]; exact R.len, fun j e q => ?_, fun j p c q => ?_, fun j k p q c c' a q1 q2 g1 g2 => ?_, fun j b q => ?_⟩
  · by_cases hj : i = j
    · subst hj
      rw [List.getElem?_set_self hi] at q; cases q
      exact ⟨x, List.getElem?_set_self his, hd⟩
    · rw [List.getElem?_set_ne hj] at q ⊢; exact R.vl j e q
  · by_cases hj : i = j
    · subst hj
      rw [List.getElem?_set_self hi] at q; cases q
    · rw [List.getElem?_set_ne hj] at q ⊢; exact R.on j p c q
  · have hj : i ≠ j := fun z => by subst z; rw [List.getElem?_set_self hi] at q1; cases q1
    have hk : i ≠ k := fun z => by subst z; rw [List.getElem?_set_self hi] at q2; cases q2
    rw [List.getElem?_set_ne hj] at q1 g1
    rw [List.getElem?_set_ne hk] at q2 g2
    exact R.inj j k p q c c' a q1 q2 g1 g2
  · by_cases hj : i = j
    · subst hj
      rw [List.getElem?_set_self hi] at q; cases q
    · rw [List.getElem?_set_ne hj] at q ⊢; exact R.rf j b q
theorem Rel.storeO {i : Nat} {c : C} {a : Addr} (R : Rel K B F O H r s) (hi : i < r.length) (ha : O a = some c) (h0 : B.H0 a = none) (fr : Free s r a) : Rel K B F O H (r.set i (.own false c)) (s.set i (some (.ref a))) := by
  have his : i < s.length := by rw [R.len]; exact hi
  refine ⟨R.fh, R.f0, R.nf, R.fr, R.st, R.ow, by rw [List.length_set, List.length_set]; exact R.len, fun j e q => ?_, fun j p c' q => ?_, fun j k p q c1 c2 b q1 q2 g1 g2 => ?_, fun j b q => ?_⟩
  · by_cases hj : i = j
    · subst hj
      rw [List.getElem?_set_self hi] at q; cases q
    · rw [List.getElem?_set_ne hj] at q ⊢; exact R.vl j e q
  · by_cases hj : i = j
    · subst hj
      rw [List.getElem?_set_self hi] at q; cases q
      exact ⟨a, List.getElem?_set_self his, ha, fun _ => h0, fun z => nomatch z⟩
    · rw [List.getElem?_set_ne hj] at q ⊢; exact R.on j p c' q
  · have at_i : ∀ {m : Nat} {p : Bool} {c' : C}, (r.set i (.own false c))[m]? = some (.own p c') → (s.set i (some (.ref a)))[m]? = some (some (.ref b)) → (m = i ∧ b = a) ∨ (m ≠ i ∧ r[m]? = some (.own p c') ∧ s[m]? = some (some (.ref b))) := fun {m p c'} w1 w2 => by
      by_cases hm : i = m
      · subst hm
        rw [List.getElem?_set_self his] at w2; cases w2
        exact .inl ⟨rfl, rfl⟩
      · rw [List.getElem?_set_ne hm] at w1 w2
        exact .inr ⟨Ne.symm hm, w1, w2⟩
    rcases at_i q1 g1 with ⟨h1, h2⟩ | ⟨h1, h2, h3⟩
    · rcases at_i q2 g2 with ⟨h4, h5⟩ | ⟨h4, h5, h6⟩
      · rw [h1, h4]
      · subst h2; exact absurd h6 (fr k _ _ h5)
    · rcases at_i q2 g2 with ⟨h4, h5⟩ | ⟨h4, h5, h6⟩
      · subst h5; exact absurd h3 (fr j _ _ h2)
      · exact R.inj j k p q c1 c2 b h2 h5 h3 h6
  · by_cases hj : i = j
    · subst hj
      rw [List.getElem?_set_self hi] at q; cases q
    · rw [List.getElem?_set_ne hj] at q ⊢; exact R.rf j b q
end

section
variable {X : Cx} {E : XK} {e tg iter c : Expr} {st : Stmt} {rest body : List Stmt} {pos : Pos}

/-! ### blocks -/
def fSkip : FS := fun r => .nx r
def fSeq (f u : FS) : FS := fun r => match f r with
  | .nx r' => u r'
  | o => o
theorem ess_nil : EvSs X E [] fSkip := PSs.imp pss_nil fun D' s H ⟨B, F, O, r, R, q⟩ => q F O H s R (.refl _)
theorem ess_one {f : FS} (h : EvS X E st f) : EvSs X E [st] f := pss_one h
theorem ess_cons {f u : FS} (h1 : EvS X E st f) (h2 : EvSs X E rest u) : EvSs X E (st :: rest) (fSeq f u) := PSs.imp (pss_cons h1 h2) fun D' s H ⟨B, F, O, r, R, q⟩ => by
  refine ⟨B, F, O, r, R, ?_⟩
  have q : SPost X.K X.mg E B F D' (match f r with
    | .nx r' => u r'
    | o => o) := q
  cases m : f r with
  | nx r' => rw [m] at q; exact fun F' O' H' s' R' f' => ⟨B, F', O', r', R', q.up f'⟩
  | rt d r' => rw [m] at q; exact q
  | rtO d r' => rw [m] at q; exact q
  | bk r' => rw [m] at q; exact q
  | ct r' => rw [m] at q; exact q
  | ex x => rw [m] at q; exact q
  | stuck => rw [m] at q; exact q

/-! ### small statements -/
theorem es_pass : EvS X E (.Pass pos) fSkip := PS.imp ps_pass fun D' s H ⟨B, F, O, r, R, q⟩ => q F O H s R (.refl _)
def fBrk : FS := fun r => .bk r
def fCnt : FS := fun r => .ct r
theorem es_break : EvS X E (.Break pos) fBrk := PS.imp ps_break fun D' s H ⟨B, F, O, r, R, q⟩ => q F O H s R (.refl _)
theorem es_continue : EvS X E (.Continue pos) fCnt := PS.imp ps_continue fun D' s H ⟨B, F, O, r, R, q⟩ => q F O H s R (.refl _)
theorem es_doc {x j pos'} : EvS X E (.Expr (.Constant (.str x) j pos) pos') fSkip := PS.imp ps_doc fun D' s H ⟨B, F, O, r, R, q⟩ => q F O H s R (.refl _)
def fDrop (f : FE) : FS := fun r => thenS (f r) fun _ r' => .nx r'
theorem es_expr {f : FE} (h : EvE X E e f) (hs : swapsWith e none pos.line X.env = pure false := by rfl) : EvS X E (.Expr e pos) (fDrop f) := PS.imp (ps_expr h hs) fun D' s H ⟨B, F, O, r, R, q⟩ =>
  ⟨B, F, O, r, R, (SPost.split q).mono fun d r1 F1 O1 H1 R1 f1 k1 q1 v hv => q1 F1 O1 H1 s R1 (.refl _)⟩
def fRet (f : FE) : FS := fun r => thenS (f r) fun d r' => .rt d r'
theorem es_ret {f : FE} (h : EvE X E e f) : EvS X E (.Return (some e) pos) (fRet f) := PS.imp (ps_ret h) fun D' s H ⟨B, F, O, r, R, q⟩ =>
  ⟨B, F, O, r, R, (SPost.split q).mono fun d r1 F1 O1 H1 R1 f1 k1 q1 v hv => q1 F1 O1 H1 s v R1 (.refl _) hv⟩
/-- a new object is given back -/
def fRetO (f : FO) : FS := fun r => thenS (f r) fun d r' => .rtO d r'
theorem es_retO {f : FO} (h : EvO X E e f) : EvS X E (.Return (some e) pos) (fRetO f) := PS.imp (ps_ret h) fun D' s H ⟨B, F, O, r, R, q⟩ =>
  ⟨B, F, O, r, R, (SPost.split q).mono fun d r1 F1 O1 H1 R1 f1 k1 q1 a ha h0 fr nw => q1 F1 O1 H1 s a R1 (.refl _) ha h0⟩
def fRetN : FS := fun r => .rt .non r
theorem es_retN : EvS X E (.Return none pos) fRetN := PS.imp ps_retN fun D' s H ⟨B, F, O, r, R, q⟩ => q F O H s .non R (.refl _) rfl
def fIfS (ft : FT) (f u : FS) : FS := fun r => thenS (ft r) fun b r' => if b = true then f r' else u r'
theorem es_if {ft : FT} {f u : FS} {a b : List Stmt} (hc : EvT X E c ft) (ha : EvSs X E a f) (hb : EvSs X E b u) : EvS X E (.If c a b pos) (fIfS ft f u) := PS.imp (ps_if hc ha hb) fun D' s H ⟨B, F, O, r, R, q⟩ =>
  ⟨B, F, O, r, R, (SPost.split q).mono fun k r1 F1 O1 H1 R1 f1 k1 q1 => by
    cases k with
    | true => exact ⟨B, F1, O1, r1, R1, q1⟩
    | false => exact ⟨B, F1, O1, r1, R1, q1⟩⟩

/-! ### targets -/
theorem Free.set {r : Env} {s : Sg} {i : Nat} {a b : Addr} {c : C} (f : Free s r b) (h : b ≠ a) (hs : i < s.length) (hr : i < r.length) : Free (s.set i (some (.ref a))) (r.set i (.own false c)) b := fun j p d e z => by
  by_cases hj : i = j
  · subst hj
    rw [List.getElem?_set_self hs] at z
    cases z
    exact h rfl
  · rw [List.getElem?_set_ne hj] at e z
    exact f j p d e z
theorem Free.setv {r : Env} {s : Sg} {i : Nat} {b : Addr} {d : D} {x : V} (f : Free s r b) (hr : i < r.length) : Free (s.set i (some x)) (r.set i (.val d)) b := fun j p c e z => by
  by_cases hj : i = j
  · subst hj
    rw [List.getElem?_set_self hr] at e; cases e
  · rw [List.getElem?_set_ne hj] at e z
    exact f j p c e z
abbrev FGt := D → Env → Option Env
def setN (i : Nat) : FGt := fun d r => match r[i]? with
  | some (.own true _) => none
  | none => none
  | _ => some (r.set i (.val d))
def wipeEq (is : List Nat) (s s' : Sg) (r r' : Env) : Prop := wipe s' is = wipe s is ∧ s'.length = s.length ∧ ∀ a, Free s r a → Free s' r' a
def tGt (K : PySem.W.Frag) (is : List Nat) (ft : FGt) : TG := fun v s H Q => ∃ B F O r d r', Rel K B F O H r s ∧ Rep K F d v ∧ ft d r = some r' ∧ ∀ s', Rel K B F O H r' s' → wipeEq is s s' r r' → Q s' H
def EvG (X : Cx) (e : Expr) (is : List Nat) (ft : FGt) : Prop := PG X e (tGt X.K is ft)
theorem PG.imp {X : Cx} {e : Expr} {t t' : TG} (h : PG X e t) (w : ∀ v s H Q, t' v s H Q → t v s H Q) : PG X e t' := ⟨fun pins s σ H v u Q I rv q => h.run pins s σ H v u Q I rv (w _ _ _ _ q)⟩
theorem setN_at {i : Nat} {d : D} {r r' : Env} (h : setN i d r = some r') : i < r.length ∧ (∀ c, r[i]? ≠ some (.own true c)) ∧ r' = r.set i (.val d) := by
  unfold setN at h
  cases q : r[i]? with
  | none => rw [q] at h; cases h
  | some sl =>
    rw [q] at h
    have hi : i < r.length := (List.getElem?_eq_some_iff.mp q).1
    cases sl with
    | un => cases h; exact ⟨hi, (fun c z => by cases z), rfl⟩
    | rf _ => cases h; exact ⟨hi, (fun c z => by cases z), rfl⟩
    | val d' => cases h; exact ⟨hi, (fun c z => by cases z), rfl⟩
    | own p c => cases p with
      | true => cases h
      | false => cases h; exact ⟨hi, (fun c z => by cases z), rfl⟩
theorem wipe_set {s : Sg} {i : Nat} {x : Option V} : ∀ {is : List Nat}, i ∈ is → wipe (s.set i x) is = wipe s is
  | [], h => by cases h
  | j :: is, h => by
    unfold wipe
    by_cases hj : i ∈ is
    · rw [wipe_set hj]
    · have : i = j := (List.mem_cons.mp h).elim id fun z => absurd z hj
      subst this
      have : ∀ (ks : List Nat), i ∉ ks → wipe (s.set i x) ks = (wipe s ks).set i x := fun ks => by
        induction ks with
        | nil => intro _; rfl
        | cons k ks ih =>
          intro hk
          unfold wipe
          rw [ih fun z => hk (List.mem_cons_of_mem _ z)]
          exact List.set_comm _ _ fun z => hk (by rw [z]; exact List.mem_cons_self)
      rw [this is hj, List.set_set]
theorem eg_name {i : Nat} {x : Str} {is : List Nat} (h : PG X (.Name x pos) (gName i)) (hi : i ∈ is := by decide) : EvG X (.Name x pos) is (setN i) := PG.imp h fun v s H Q ⟨B, F, O, r, d, r', R, hd, e, q⟩ => by
  obtain ⟨h1, h2, h3⟩ := setN_at e
  subst h3
  exact q _ (R.store h1 h2 hd) ⟨wipe_set hi, by rw [List.length_set], fun a f => f.setv h1⟩
abbrev FGts := List D → Env → Option Env
def setsNil : FGts := fun ds r => match ds with
  | [] => some r
  | _ => none
def setsCons (f : FGt) (g : FGts) : FGts := fun ds r => match ds with
  | [] => none
  | d :: ds => match f d r with
    | some r' => g ds r'
    | none => none
def tGts (K : PySem.W.Frag) (is : List Nat) (ft : FGts) : TGs := fun vs s H Q => ∃ B F O r ds r', Rel K B F O H r s ∧ Reps K F ds vs ∧ ft ds r = some r' ∧ ∀ s', Rel K B F O H r' s' → wipeEq is s s' r r' → Q s' H
def EvGs (X : Cx) (es : List Expr) (is : List Nat) (ft : FGts) : Prop := PGs X es (tGts X.K is ft)
theorem PGs.imp {X : Cx} {e : List Expr} {t t' : TGs} (h : PGs X e t) (w : ∀ v s H Q, t' v s H Q → t v s H Q) : PGs X e t' := ⟨fun pins s σ H v u Q I rv q => h.run pins s σ H v u Q I rv (w _ _ _ _ q)⟩
theorem egs_nil {is : List Nat} : EvGs X [] is setsNil := PGs.imp pgs_nil fun v s H Q ⟨B, F, O, r, ds, r', R, hd, e, q⟩ => by
  cases ds with
  | nil =>
    have e : some r = some r' := e
    cases e
    exact ⟨hd, q s R ⟨rfl, rfl, fun _ f => f⟩⟩
  | cons _ _ => cases e
theorem egs_cons {is : List Nat} {es : List Expr} {f : FGt} {g : FGts} (h1 : EvG X e is f) (h2 : EvGs X es is g) (hs : (assignEach (e :: es) X.env).map (·.2) = assign e X.env :: (assignEach es X.env).map (·.2) := by rfl) : EvGs X (e :: es) is (setsCons f g) :=
  PGs.imp (pgs_cons h1 h2 hs) fun v s H Q ⟨B, F, O, r, ds, r', R, hd, e, q⟩ => by
    cases ds with
    | nil => cases e
    | cons d ds =>
      obtain ⟨x, xs, e1, hx, hxs⟩ := hd
      have e : (match f d r with
        | some r' => g ds r'
        | none => none) = some r' := e
      cases m : f d r with
      | none => rw [m] at e; cases e
      | some r1 =>
        rw [m] at e
        exact ⟨x, xs, e1, B, F, O, r, d, r1, R, hx, m, fun s1 R1 w1 => ⟨B, F, O, r1, ds, r', R1, hxs, e, fun s2 R2 w2 => q s2 R2 ⟨w2.1.trans w1.1, w2.2.1.trans w1.2.1, fun a f => w2.2.2 a (w1.2.2 a f)⟩⟩⟩
def setT (n : Nat) (g : FGts) : FGt := fun d r => match d with
  | .tup ds => if ds.length = n then g ds r else none
  | _ => none
theorem eg_tup {is : List Nat} {es : List Expr} {g : FGts} {n k : Nat} (hc : X.calm = true) (h : EvGs X es is g) (hn : (assignEach es X.env).length = n := by rfl) (hst : (assignEach es X.env).findIdx? (·.1) = none := by rfl) : EvG X (.Tuple es k pos) is (setT n g) :=
  PG.imp (pg_tup hc h hn hst) fun v s H Q ⟨B, F, O, r, d, r', R, hd, e, q⟩ => by
    cases d with
    | tup ds =>
      obtain ⟨a, xs, e1, h1, h2⟩ := hd
      have e : (if ds.length = n then g ds r else none) = some r' := e
      by_cases hl : ds.length = n
      · rw [if_pos hl] at e
        exact ⟨a, xs, e1, same_seqT R.fh h1, h2.length.trans hl, B, F, O, r, ds, r', R, h2, e, q⟩
      · rw [if_neg hl] at e; cases e
    | _ => cases e

/-! ### assignments -/
def fAsg (ft : FGt) (f : FE) : FS := fun r => thenS (f r) fun d r' => match ft d r' with
  | some r2 => .nx r2
  | none => .stuck
theorem asg_reads {is : List Nat} {ft : FGt} {f : FE} {D' : Ends} {s : Sg} {H : Hp} (h : tS X.K X.mg E (fAsg ft f) D' s H) : tAsg (tE X.K X.mg E f) (tGt X.K is ft) D' s H := by
  obtain ⟨B, F, O, r, R, q⟩ := h
  refine ⟨B, F, O, r, R, (SPost.split q).mono fun d r1 F1 O1 H1 R1 f1 k1 q1 v hv => ?_⟩
  cases m : ft d r1 with
  | none => rw [m] at q1; exact False.elim q1
  | some r2 =>
    rw [m] at q1
    exact ⟨B, F1, O1, r1, d, r2, R1, hv, m, fun s' R' _ => q1 F1 O1 H1 s' R' (.refl _)⟩
theorem es_asg {is : List Nat} {ft : FGt} {f : FE} (h : EvE X E e f) (hg : EvG X tg is ft) (hs : swapsWithSole [tg] e pos.line X.env = pure false := by rfl) (hw : swappedStores [tg] e X.env = pure none := by rfl) (h1 : (assignEach [tg] X.env).map (·.2) = [assign tg X.env] := by rfl) :
    EvS X E (.Assign [tg] e pos) (fAsg ft f) := PS.imp (ps_asg h hg hs hw h1) fun D' s H q => asg_reads q
/-- name = e, however it is stored -/
theorem es_set {i : Nat} {f : FE} (h : PS X st (tAsg (tE X.K X.mg E f) (gName i))) : EvS X E st (fAsg (setN i) f) := PS.imp h fun D' s H q => by
  obtain ⟨B, F, O, r, R, q⟩ := q
  refine ⟨B, F, O, r, R, (SPost.split q).mono fun d r1 F1 O1 H1 R1 f1 k1 q1 v hv => ?_⟩
  cases m : setN i d r1 with
  | none => rw [m] at q1; exact False.elim q1
  | some r2 =>
    rw [m] at q1
    obtain ⟨h1, h2, h3⟩ := setN_at m
    subst h3
    exact q1 F1 O1 H1 _ (R1.store h1 h2 hv) (.refl _)
def setO (i : Nat) (c : C) (r : Env) : Option Env := match r[i]? with
  | some (.own true _) => none
  | none => none
  | _ => some (r.set i (.own false c))
theorem setO_at {i : Nat} {d : C} {r r' : Env} (h : setO i d r = some r') : i < r.length ∧ r' = r.set i (.own false d) := by
  unfold setO at h
  cases q : r[i]? with
  | none => rw [q] at h; cases h
  | some sl =>
    rw [q] at h
    have hi : i < r.length := (List.getElem?_eq_some_iff.mp q).1
    cases sl with
    | un => cases h; exact ⟨hi, rfl⟩
    | rf _ => cases h; exact ⟨hi, rfl⟩
    | val d' => cases h; exact ⟨hi, rfl⟩
    | own p c => cases p with
      | true => cases h
      | false => cases h; exact ⟨hi, rfl⟩
def fAsgO (i : Nat) (f : FO) : FS := fun r => thenS (f r) fun c r' => match setO i c r' with
  | some r2 => .nx r2
  | none => .stuck
theorem es_setO {i : Nat} {f : FO} (h : PS X st (tAsg (tO X.K X.mg E f) (gName i))) : EvS X E st (fAsgO i f) := PS.imp h fun D' s H q => by
  obtain ⟨B, F, O, r, R, q⟩ := q
  refine ⟨B, F, O, r, R, (SPost.split q).mono fun d r1 F1 O1 H1 R1 f1 k1 q1 a ha h0 fr nw => ?_⟩
  cases m : setO i d r1 with
  | none => rw [m] at q1; exact False.elim q1
  | some r2 =>
    rw [m] at q1
    obtain ⟨h1, h3⟩ := setO_at m
    subst h3
    exact q1 F1 O1 H1 _ (R1.storeO h1 ha h0 fr) (.refl _)

/-! ### several names at once -/
inductive It2 where
  | v (d : D) | o (c : C)
abbrev FI2 := Env → Res (List It2 × Env)
inductive It2Rep (K : PySem.W.Frag) (B : Base) (F : Hp) (O : Addr → Option C) (r : Env) (s : Sg) : List It2 → List V → List Addr → Prop
  | nil : It2Rep K B F O r s [] [] []
  | v {d : D} {x : V} {is : List It2} {xs : List V} {as : List Addr} : Rep K F d x → It2Rep K B F O r s is xs as → It2Rep K B F O r s (.v d :: is) (x :: xs) as
  | o {c : C} {a : Addr} {is : List It2} {xs : List V} {as : List Addr} : O a = some c → B.H0 a = none → Free s r a → a ∉ as → It2Rep K B F O r s is xs as → It2Rep K B F O r s (.o c :: is) (.ref a :: xs) (a :: as)
def tI2 (K : PySem.W.Frag) (mg : Str → Option Value) (E : XK) (f : FI2) : TA := fun s H Q => ∃ B F O r, Rel K B F O H r s ∧ Post K mg E B F O r s (f r) fun is r' F' O' H' => ∀ vs as, It2Rep K B F' O' r' s is vs as → (∀ a ∈ as, ∀ c0, O a = some c0 → ¬ Free s r a) → Q vs H'
abbrev EvI2 (X : Cx) (E : XK) (es : List Expr) (f : FI2) : Prop := PA X es (tI2 X.K X.mg E f)
def f2Nil : FI2 := fun r => .ok ([], r)
def f2V (fa : FE) (fl : FI2) : FI2 := fun r => (fa r).bnd fun d r1 => (fl r1).bnd fun ds r2 => .ok (.v d :: ds, r2)
def f2O (fa : FO) (fl : FI2) : FI2 := fun r => (fa r).bnd fun c r1 => (fl r1).bnd fun ds r2 => .ok (.o c :: ds, r2)
variable {es : List Expr}
theorem e2_nil : EvI2 X E [] f2Nil := PA.imp pa_nil fun s H Q ⟨B, F, O, r, R, q⟩ => Post.ok (k := fun is r' F' O' H' => ∀ vs as, It2Rep X.K B F' O' r' s is vs as → (∀ a ∈ as, ∀ c0, O a = some c0 → ¬ Free s r a) → Q vs H') q R (.refl _) .refl _ _ .nil fun a h => by cases h
theorem e2_v {fa : FE} {fl : FI2} (ha : EvE X E e fa) (hr : EvI2 X E es fl) (hs : starEach (e :: es) X.env = (false, eval e X.env) :: starEach es X.env := by rfl) : EvI2 X E (e :: es) (f2V fa fl) :=
  PA.imp (pa_cons ha hr hs) fun s H Q ⟨B, F, O, r, R, q⟩ => ⟨B, F, O, r, R, (Post.split q).mono fun d r1 F1 O1 H1 R1 f1 k1 q1 v hv =>
    ⟨B, F1, O1, r1, R1, (Post.split q1).mono fun ds r2 F2 O2 H2 R2 f2 k2 q2 vs as hvs hn =>
      Post.ok (k := fun is r' F' O' H' => ∀ vs as, It2Rep X.K B F' O' r' s is vs as → (∀ a ∈ as, ∀ c0, O a = some c0 → ¬ Free s r a) → Q vs H') q2 R2 (.refl _) .refl _ as (.v (hv.mono f2) hvs) fun a h c0 e fr => by
        obtain ⟨h1, h2⟩ := k1 a c0 e fr
        exact hn a h c0 h1 h2⟩⟩
theorem e2_o {fa : FO} {fl : FI2} (ha : EvO X E e fa) (hr : EvI2 X E es fl) (hs : starEach (e :: es) X.env = (false, eval e X.env) :: starEach es X.env := by rfl) : EvI2 X E (e :: es) (f2O fa fl) :=
  PA.imp (pa_cons ha hr hs) fun s H Q ⟨B, F, O, r, R, q⟩ => by
    refine ⟨B, F, O, r, R, ?_⟩
    have q' : Post X.K X.mg E B F O r s (f2O fa fl r) _ := q
    unfold f2O at q'
    refine (Post.split q').mono fun c r1 F1 O1 H1 R1 f1 k1 q1 a ha1 h0 fr nw => ?_
    refine ⟨B, F1, O1, r1, R1, (Post.split q1).mono fun ds r2 F2 O2 H2 R2 f2 k2 q2 vs as hvs hn => ?_⟩
    obtain ⟨g1, g2⟩ := k2 a c ha1 fr
    refine Post.ok (k := fun is r' F' O' H' => ∀ vs as, It2Rep X.K B F' O' r' s is vs as → (∀ a ∈ as, ∀ c0, O a = some c0 → ¬ Free s r a) → Q vs H') q2 R2 (.refl _) .refl _ (a :: as) (.o g1 h0 g2 (fun z => hn a z c ha1 fr) hvs) fun b h c0 e1 fr1 => ?_
    rcases List.mem_cons.mp h with z | z
    · subst z; exact nw c0 e1 fr1
    · obtain ⟨h1, h2⟩ := k1 b c0 e1 fr1
      exact hn b z c0 h1 h2
def setI : Nat → It2 → Env → Option Env
  | i, .v d, r => setN i d r
  | i, .o c, r => setO i c r
def setAll : List Nat → List It2 → Env → Option Env
  | [], [], r => some r
  | i :: is, x :: xs, r => match setI i x r with
    | some r' => setAll is xs r'
    | none => none
  | _, _, _ => none
def setVs : List Nat → List V → Sg → Sg
  | i :: is, v :: vs, s => setVs is vs (s.set i (some v))
  | _, _, s => s
theorem It2Rep.step {K : PySem.W.Frag} {B : Base} {F : Hp} {O : Addr → Option C} {r r' : Env} {s s' : Sg} : ∀ {is : List It2} {vs : List V} {as : List Addr}, It2Rep K B F O r s is vs as → (∀ b ∈ as, Free s r b → Free s' r' b) → It2Rep K B F O r' s' is vs as
  | _, _, _, .nil, _ => .nil
  | _, _, _, .v h t, f => .v h (t.step f)
  | _, _, _, .o h1 h2 h3 h4 t, f => .o h1 h2 (f _ List.mem_cons_self h3) h4 (t.step fun b hb => f b (List.mem_cons_of_mem _ hb))
theorem Rel.setAll {K : PySem.W.Frag} {B : Base} {F H : Hp} {O : Addr → Option C} : ∀ {ix : List Nat} {is : List It2} {vs : List V} {as : List Addr} {r r' : Env} {s : Sg}, Rel K B F O H r s → It2Rep K B F O r s is vs as → Ev.setAll ix is r = some r' → Rel K B F O H r' (setVs ix vs s)
  | [], _, _, _, r, r', s, R, .nil, e => by
    have e : some r = some r' := e
    cases e; exact R
  | [], _, _, _, r, r', s, R, .v _ _, e => by cases e
  | [], _, _, _, r, r', s, R, .o _ _ _ _ _, e => by cases e
  | i :: ix, _, _, _, r, r', s, R, .nil, e => by cases e
  | i :: ix, _, _, _, r, r', s, R, .v (d := d) (x := x) (is := is) h t, e => by
    have e : (match setN i d r with
      | some r' => Ev.setAll ix is r'
      | none => none) = some r' := e
    cases m : setN i d r with
    | none => rw [m] at e; cases e
    | some r1 =>
      rw [m] at e
      obtain ⟨h1, h2, h3⟩ := setN_at m
      subst h3
      show Rel K B F O H r' (setVs ix _ (s.set i (some x)))
      exact Rel.setAll (R.store h1 h2 h) (t.step fun b _ f => f.setv h1) e
  | i :: ix, _, _, _, r, r', s, R, .o (c := c) (a := a) (is := is) h1 h2 h3 h4 t, e => by
    have e : (match setO i c r with
      | some r' => Ev.setAll ix is r'
      | none => none) = some r' := e
    cases m : setO i c r with
    | none => rw [m] at e; cases e
    | some r1 =>
      rw [m] at e
      obtain ⟨g1, g3⟩ := setO_at m
      subst g3
      show Rel K B F O H r' (setVs ix _ (s.set i (some (.ref a))))
      exact Rel.setAll (R.storeO g1 h1 h2 h3) (t.step fun b hb f => f.set (fun z => h4 (by rw [← z]; exact hb)) (by rw [R.len]; exact g1) g1) e
def fPar (ix : List Nat) (f : FI2) : FS := fun r => thenS (f r) fun is r' => match setAll ix is r' with
  | some r2 => .nx r2
  | none => .stuck
theorem par_reads {ix : List Nat} {f : FI2} {D' : Ends} {s : Sg} {H : Hp} (h : tS X.K X.mg E (fPar ix f) D' s H) : tI2 X.K X.mg E f s H fun vs H1 => D'.nx (setVs ix vs s) H1 ∧ vs.length = ix.length := by
  obtain ⟨B, F, O, r, R, q⟩ := h
  refine ⟨B, F, O, r, R, (SPost.split q).mono fun is r1 F1 O1 H1 R1 f1 k1 q1 vs as hvs hn => ?_⟩
  cases m : setAll ix is r1 with
  | none => rw [m] at q1; exact False.elim q1
  | some r2 =>
    rw [m] at q1
    refine ⟨q1 F1 O1 H1 _ (R1.setAll hvs m) (.refl _), ?_⟩
    have hl : ∀ {ix : List Nat} {is : List It2} {r r' : Env}, setAll ix is r = some r' → is.length = ix.length := fun {ix} => by
      induction ix with
      | nil => intro is r r' e; cases is with
        | nil => rfl
        | cons _ _ => cases e
      | cons i ix ih => intro is r r' e; cases is with
        | nil => cases e
        | cons x is =>
          unfold setAll at e
          cases m : setI i x r with
          | none => rw [m] at e; cases e
          | some r1 => rw [m] at e; rw [List.length_cons, List.length_cons, ih e]
    have hv : ∀ {is : List It2} {vs : List V} {as : List Addr}, It2Rep X.K B F1 O1 r1 s is vs as → vs.length = is.length := fun h => by
      induction h with
      | nil => rfl
      | v _ _ ih => rw [List.length_cons, List.length_cons, ih]
      | o _ _ _ _ _ ih => rw [List.length_cons, List.length_cons, ih]
    rw [hv hvs, hl m]
/-- a, b = x, y of plain local names -/
theorem es_par2 {i j : Nat} {f : FI2} (h : ∀ {ta : TA}, PA X es ta → PS X st (tPar i j ta)) (ha : EvI2 X E es f) : EvS X E st (fPar [i, j] f) := PS.imp (h ha) fun D' s H q => by
  obtain ⟨B, F, O, r, R, q⟩ := par_reads q
  refine ⟨B, F, O, r, R, q.mono fun is r1 F1 O1 H1 R1 f1 k1 q1 vs as hvs hn => ?_⟩
  obtain ⟨q2, hl⟩ := q1 vs as hvs hn
  match vs, hl, q2 with
  | [v, w], _, q2 => exact ⟨v, w, rfl, q2⟩
theorem es_par3 {i j l : Nat} {f : FI2} (h : ∀ {ta : TA}, PA X es ta → PS X st (tPar3 i j l ta)) (ha : EvI2 X E es f) : EvS X E st (fPar [i, j, l] f) := PS.imp (h ha) fun D' s H q => by
  obtain ⟨B, F, O, r, R, q⟩ := par_reads q
  refine ⟨B, F, O, r, R, q.mono fun is r1 F1 O1 H1 R1 f1 k1 q1 vs as hvs hn => ?_⟩
  obtain ⟨q2, hl⟩ := q1 vs as hvs hn
  match vs, hl, q2 with
  | [u, v, w], _, q2 => exact ⟨u, v, w, rfl, q2⟩
end
end Ev

/-! E7: loops, comprehensions. -/
namespace Ev
open PySem PySem.Spec PyProof.Rows L2
variable [TabsC]

/-- an iterator over data -/
def Walks (K : PySem.W.Frag) (J : It) (F : Hp) (ds : List D) : Prop :=
  ∀ (i : Nat) (F1 H : Hp), Same F F1 → Same F1 H → (∀ d, ds[i]? = some d → J.go i H ∧ ∀ x H', J.yld i H x H' → ∃ F2, Grow F1 H F2 H' ∧ Rep K F2 d x) ∧ (ds.length ≤ i → J.stop i H)
theorem Walks.mono {K : PySem.W.Frag} {J : It} {F F' : Hp} {ds : List D} (w : Walks K J F ds) (f : Same F F') : Walks K J F' ds := fun i F1 H h1 h2 => w i F1 H (f.trans h1) h2
abbrev FI := Env → Res (List D × Env)
def tI (K : PySem.W.Frag) (mg : Str → Option Value) (E : XK) (f : FI) : TI := fun s H R => ∃ B F O r, Rel K B F O H r s ∧ Post K mg E B F O r s (f r) fun ds _ F' _ H' => ∀ J, Walks K J F' ds → R J H'
abbrev EvI (X : Cx) (E : XK) (tg e : Expr) (f : FI) : Prop := PI X tg e (tI X.K X.mg E f)

def loopF (ft : FGt) (fb : FS) : List D → Env → Fl
  | [], r => .nx r
  | d :: ds, r => match ft d r with
    | none => .stuck
    | some r1 => match fb r1 with
      | .nx r2 => loopF ft fb ds r2
      | .ct r2 => loopF ft fb ds r2
      | .bk r2 => .nx r2
      | o => o
def fFor (fi : FI) (ft : FGt) (fb : FS) : FS := fun r => thenS (fi r) fun ds r1 => loopF ft fb ds r1
def loopW (ft : FT) (fb : FS) : Nat → Env → Fl
  | 0, _ => .stuck
  | n + 1, r => thenS (ft r) fun b r1 => if b = true then (match fb r1 with
      | .nx r2 => loopW ft fb n r2
      | .ct r2 => loopW ft fb n r2
      | .bk r2 => .nx r2
      | o => o) else .nx r1
def fWhile (n : Nat) (ft : FT) (fb : FS) : FS := fun r => loopW ft fb n r

section
variable {X : Cx} {E : XK} {e tg iter c : Expr} {st : Stmt} {rest body : List Stmt} {pos : Pos}
theorem es_for {is : List Nat} {fi : FI} {ft : FGt} {fb : FS} (hp : PassesOwn (model X.prog X.w) X.A X.env X.xe) (hc : X.calm = true) (hi : EvI X E tg iter fi) (hg : EvG X tg is ft) (hb : EvSs X E body fb) (hs : ∀ x, foldedSetIterable iter X.env x = pure x := by intro _; rfl) :
    EvS X E (.For tg iter body [] pos) (fFor fi ft fb) := PS.imp (ps_for hp hc hi hg hb hs) fun D' s H ⟨B, F, O, r, R, q⟩ => by
  refine ⟨B, F, O, r, R, (SPost.split q).mono fun ds r1 F1 O1 H1 R1 f1 k1 q1 J hJ => ?_⟩
  let Inv' : Nat → Sg → Hp → Prop := fun i s' H' => ∃ F2 O2 r2, Rel X.K B F2 O2 H' r2 s' ∧ Same F1 F2 ∧ SPost X.K X.mg E B F2 D' (loopF ft fb (ds.drop i) r2)
  refine ⟨fun i m s' H' => m = ds.length - i ∧ i ≤ ds.length ∧ Inv' i s' H', ⟨ds.length, rfl, Nat.zero_le _, F1, O1, r1, R1, .refl _, q1⟩, ?_⟩
  rintro i m s' H' ⟨rfl, hi, F2, O2, r2, R2, f2, q2⟩
  obtain ⟨w1, w2⟩ := hJ i F2 H' f2 R2.fh
  by_cases hlt : i < ds.length
  · obtain ⟨go, yld⟩ := w1 ds[i] (List.getElem?_eq_getElem hlt)
    refine .inr ⟨go, Inv' (i + 1), fun s3 H3 h3 => ⟨ds.length - (i + 1), by omega, rfl, hlt, h3⟩, fun x H3 hy => ?_⟩
    obtain ⟨F3, g3, rep⟩ := yld x H3 hy
    rw [List.drop_eq_getElem_cons hlt] at q2
    have q2 : SPost X.K X.mg E B F2 D' (match ft ds[i] r2 with
      | none => .stuck
      | some r1 => match fb r1 with
        | .nx r2 => loopF ft fb (ds.drop (i + 1)) r2
        | .ct r2 => loopF ft fb (ds.drop (i + 1)) r2
        | .bk r2 => .nx r2
        | o => o) := q2
    cases m : ft ds[i] r2 with
    | none => rw [m] at q2; exact False.elim q2
    | some r3 =>
      rw [m] at q2
      refine ⟨B, F3, O2, r2, ds[i], r3, R2.grow g3, rep, m, fun s4 R4 _ => ⟨B, F3, O2, r3, R4, ?_⟩⟩
      have q3 : SPost X.K X.mg E B F3 D' (match fb r3 with
        | .nx r2 => loopF ft fb (ds.drop (i + 1)) r2
        | .ct r2 => loopF ft fb (ds.drop (i + 1)) r2
        | .bk r2 => .nx r2
        | o => o) := q2.up g3.ff
      have fin : ∀ r4, SPost X.K X.mg E B F3 D' (loopF ft fb (ds.drop (i + 1)) r4) → ∀ F' O' H' s', Rel X.K B F' O' H' r4 s' → Same F3 F' → Inv' (i + 1) s' H' := fun r4 q4 F' O' H' s' R' f' => ⟨F', O', r4, R', f2.trans (g3.ff.trans f'), q4.up f'⟩
      cases mb : fb r3 with
      | nx r4 => rw [mb] at q3; exact fin r4 q3
      | ct r4 => rw [mb] at q3; exact fin r4 q3
      | bk r4 => rw [mb] at q3; exact q3
      | rt d r4 => rw [mb] at q3; exact q3
      | rtO d r4 => rw [mb] at q3; exact q3
      | ex x => rw [mb] at q3; exact q3
      | stuck => rw [mb] at q3; exact q3
  · have e : i = ds.length := by omega
    subst e
    rw [List.drop_length] at q2
    exact .inl ⟨w2 (Nat.le_refl _), q2 F2 O2 H' s' R2 (.refl _)⟩
theorem es_while {n : Nat} {ft : FT} {fb : FS} (hp : PassesOwn (model X.prog X.w) X.A X.env X.xe) (hc : EvT X E c ft) (hb : EvSs X E body fb) : EvS X E (.While c body [] pos) (fWhile n ft fb) := PS.imp (ps_while hp hc hb) fun D' s H ⟨B, F, O, r, R, q⟩ => by
  refine ⟨fun m s' H' => ∃ F2 O2 r2, Rel X.K B F2 O2 H' r2 s' ∧ Same F F2 ∧ SPost X.K X.mg E B F2 D' (loopW ft fb m r2), ⟨n, F, O, r, R, .refl _, q⟩, ?_⟩
  rintro m s1 H1 ⟨F1, O1, r1, R1, f1, q1⟩
  cases m with
  | zero => exact False.elim q1
  | succ m =>
    refine ⟨B, F1, O1, r1, R1, (SPost.split q1).mono fun b r2 F2 O2 H2 R2 f2 k2 q2 => ?_⟩
    cases b with
    | false => exact q2 F2 O2 H2 s1 R2 (.refl _)
    | true =>
      have q2 : SPost X.K X.mg E B F2 D' (match fb r2 with
        | .nx r2 => loopW ft fb m r2
        | .ct r2 => loopW ft fb m r2
        | .bk r2 => .nx r2
        | o => o) := q2
      rw [if_pos rfl]
      refine ⟨fun s3 H3 => ∃ F3 O3 r3, Rel X.K B F3 O3 H3 r3 s3 ∧ Same F F3 ∧ SPost X.K X.mg E B F3 D' (loopW ft fb m r3), fun s3 H3 h3 => ⟨m, Nat.lt_succ_self _, h3⟩, B, F2, O2, r2, R2, ?_⟩
      cases mb : fb r2 with
      | nx r4 => rw [mb] at q2; exact fun F' O' H' s' R' f' => ⟨F', O', r4, R', f1.trans (f2.trans f'), q2.up f'⟩
      | ct r4 => rw [mb] at q2; exact fun F' O' H' s' R' f' => ⟨F', O', r4, R', f1.trans (f2.trans f'), q2.up f'⟩
      | bk r4 => rw [mb] at q2; exact q2
      | rt d r4 => rw [mb] at q2; exact q2
      | rtO d r4 => rw [mb] at q2; exact q2
      | ex x => rw [mb] at q2; exact q2
      | stuck => rw [mb] at q2; exact q2

/-! ### what is walked -/
def seqOf : D → Option (List D)
  | .lst ds => some ds
  | .tup ds => some ds
  | _ => none
/-- a list or a tuple -/
theorem pi_seq {l : Expr} {tl : TE} (hl : PE X l tl) : PI X tg l (fun s H R => tl s H fun x H1 => ∃ a xs, x = .ref a ∧ ((SqL X.K H1 a xs ∧ R (Itl X.K a) H1) ∨ (SqT X.K H1 a xs ∧ R (Itt X.K a) H1))) := by
  constructor
  intro pins s σ H R I h
  refine thn (hl.run pins s σ H _ I h) ?_
  rintro v s1 ⟨x, H1, I1, r1, a, xs, rfl, q⟩
  cases r1
  have nw : ∀ b ∈ [s1.heap.objs.size], FpOk X pins H1 b := fun b hb => by
    rw [List.mem_singleton.mp hb]
    exact I1.fpOk (Nat.le_refl _) (I1.hok.fresh (Nat.le_refl _))
  rcases q with ⟨hq, q⟩ | ⟨hq, q⟩
  · obtain ⟨its, rv, p, hz⟩ := I1.list hq
    exact wpAny_pyIter_list p.isList ⟨s1.heap.objs.size, [s1.heap.objs.size], _, _, H1, rfl, I1.kept (t' := s1.toks) fun b o e => Heap.get?_push_of_some _ e, turn_list a _, ⟨_, Heap.get?_push_size _ rfl, rfl, rfl⟩, nw, q⟩
  · obtain ⟨its, rv, p, hz⟩ := I1.tuple hq
    exact wpAny_pyIter_tuple (show s1.heap.IsTuple a its.toArray from p) ⟨s1.heap.objs.size, [s1.heap.objs.size], _, _, H1, rfl, I1.kept (t' := s1.toks) fun b o e => Heap.get?_push_of_some _ e, turn_tuple a _, ⟨_, Heap.get?_push_size _ rfl, rfl, rfl⟩, nw, q⟩
theorem walks_list {K : PySem.W.Frag} {F : Hp} {a : Addr} {xs : List V} {ds : List D} (h : SqL K F a xs) (r : Reps K F ds xs) : Walks K (Itl K a) F ds := fun i F1 H f1 f2 => by
  have hs : SqL K H a xs := (f1.trans f2).seq h
  refine ⟨fun d e => ?_, fun hl => ⟨xs, hs, by rw [r.length]; exact hl⟩⟩
  obtain ⟨x, h1, h2⟩ := r.get e
  refine ⟨⟨xs, x, hs, h1⟩, fun y H' ⟨e1, e2⟩ => ?_⟩
  subst e1
  have := e2 xs hs
  rw [h1] at this
  cases this
  exact ⟨F1, .refl f2, h2.mono f1⟩
theorem walks_tup {K : PySem.W.Frag} {F : Hp} {a : Addr} {xs : List V} {ds : List D} (h : SqT K F a xs) (r : Reps K F ds xs) : Walks K (Itt K a) F ds := fun i F1 H f1 f2 => by
  have hs : SqT K H a xs := same_seqT (f1.trans f2) h
  refine ⟨fun d e => ?_, fun hl => ⟨xs, hs, by rw [r.length]; exact hl⟩⟩
  obtain ⟨x, h1, h2⟩ := r.get e
  refine ⟨⟨xs, x, hs, h1⟩, fun y H' ⟨e1, e2⟩ => ?_⟩
  subst e1
  have := e2 xs hs
  rw [h1] at this
  cases this
  exact ⟨F1, .refl f2, h2.mono f1⟩
def fSeqI (f : FE) : FI := fun r => (f r).bnd fun d r1 => obnd (seqOf d) fun ds => .ok (ds, r1)
theorem ei_seq {f : FE} (h : EvE X E e f) : EvI X E tg e (fSeqI f) := PI.imp (pi_seq h) fun s H R' ⟨B, F, O, r, R, q⟩ => by
  refine ⟨B, F, O, r, R, (Post.split q).mono fun d r1 F1 O1 H1 R1 f1 k1 q1 v hv => ?_⟩
  obtain ⟨ds, e1, q1⟩ := Post.opt q1
  have fin : ∀ J, Walks X.K J F1 ds → R' J H1 := fun J hJ => Post.ok (k := fun ds _ F' _ H' => ∀ J, Walks X.K J F' ds → R' J H') q1 R1 (.refl _) .refl J hJ
  cases d with
  | lst es =>
    cases e1
    obtain ⟨a, xs, e2, h1, h2⟩ := hv
    exact ⟨a, xs, e2, .inl ⟨R1.fh.seq h1, fin _ (walks_list h1 h2)⟩⟩
  | tup es =>
    cases e1
    obtain ⟨a, xs, e2, h1, h2⟩ := hv
    exact ⟨a, xs, e2, .inr ⟨same_seqT R1.fh h1, fin _ (walks_tup h1 h2)⟩⟩
  | _ => cases e1

/-! ranges -/
def rngD (lo hi : Int) : List D := (List.range (hi - lo).toNat).map fun k : Nat => D.int (lo + k)
/-- (by choice: nothing is ever computed with these bounds) -/
noncomputable def okRg (i : Int) : Bool := @decide (-(2 ^ 62) ≤ i ∧ i < 2 ^ 62) (Classical.propDecidable _)
theorem okRg_true {i : Int} (h : okRg i = true) : -(2 ^ 62) ≤ i ∧ i < 2 ^ 62 := @of_decide_eq_true _ (Classical.propDecidable _) h
theorem okRg_mk {i : Int} (h : -(2 ^ 62) ≤ i ∧ i < 2 ^ 62) : okRg i = true := @decide_eq_true _ (Classical.propDecidable _) h
theorem walks_rng {K : PySem.W.Frag} {F : Hp} {lo : Int} {n : Nat} : Walks K (Itr lo n) F ((List.range n).map fun k : Nat => D.int (lo + k)) := fun i F1 H f1 f2 => by
  refine ⟨fun d e => ?_, fun hl => by rw [List.length_map, List.length_range] at hl; exact hl⟩
  rw [List.getElem?_map] at e
  have hi : i < n := by
    cases q : (List.range n)[i]? with
    | none => rw [q] at e; cases e
    | some k => have := (List.getElem?_eq_some_iff.mp q).1; rwa [List.length_range] at this
  rw [List.getElem?_range hi] at e
  cases e
  exact ⟨hi, fun x H' ⟨e1, e2⟩ => by subst e1; subst e2; exact ⟨F1, .refl f2, rfl⟩⟩
def ints? : List D → Option (List Int)
  | [] => some []
  | .int i :: ds => (ints? ds).map (i :: ·)
  | _ => none
theorem ints_reps {K : PySem.W.Frag} {F : Hp} : ∀ {ds : List D} {ns : List Int} {vs : List V}, ints? ds = some ns → Reps K F ds vs → vs = ns.map V.int
  | [], _, _, e, h => by cases e; exact h
  | .int i :: ds, ns, vs, e, ⟨x, r, e1, h1, h2⟩ => by
    obtain ⟨ms, e2, e3⟩ := Option.map_eq_some_iff.mp (show (ints? ds).map (i :: ·) = some ns from e)
    subst e3; subst e1
    rw [show x = V.int i from h1, ints_reps e2 h2]
    rfl
  | .non :: _, _, _, e, _ => by cases e
  | .bl _ :: _, _, _, e, _ => by cases e
  | .str _ :: _, _, _, e, _ => by cases e
  | .tup _ :: _, _, _, e, _ => by cases e
  | .lst _ :: _, _, _, e, _ => by cases e
  | .dct _ :: _, _, _, e, _ => by cases e
noncomputable def rg1 : List Int → Option (List D)
  | [j] => if okRg j = true then some (rngD 0 j) else none
  | _ => none
noncomputable def rg2 : List Int → Option (List D)
  | [i, j] => if okRg i = true ∧ okRg j = true then some (rngD i j) else none
  | _ => none
def rngC (i j c : Int) : List D := (List.range (Builtin.Range.rangeSize i j c).toNat).map fun k : Nat => D.int (i + k * c)
noncomputable def rg3 : List Int → Option (List D)
  | [i, j, c] => ifP (c ≠ 0 ∧ c.natAbs < 1073741824 ∧ Builtin.Range.small i j c = true ∧ 0 ≤ Builtin.Range.rangeSize i j c) (some (rngC i j c)) none
  | _ => none
def fRg (ro : List Int → Option (List D)) (fl : FL) : FI := fun r => (fl r).bnd fun ds r1 => obnd (ints? ds) fun ns => obnd (ro ns) fun es => .ok (es, r1)
theorem walks_rngC {K : PySem.W.Frag} {F : Hp} {lo c : Int} {n : Nat} : Walks K (Itc lo c n) F ((List.range n).map fun k : Nat => D.int (lo + k * c)) := fun i F1 H f1 f2 => by
  refine ⟨fun d e => ?_, fun hl => by rw [List.length_map, List.length_range] at hl; exact hl⟩
  rw [List.getElem?_map] at e
  have hi : i < n := by
    cases q : (List.range n)[i]? with
    | none => rw [q] at e; cases e
    | some k => have := (List.getElem?_eq_some_iff.mp q).1; rwa [List.length_range] at this
  rw [List.getElem?_range hi] at e
  cases e
  exact ⟨hi, fun x H' ⟨e1, e2⟩ => by subst e1; subst e2; exact ⟨F1, .refl f2, rfl⟩⟩
/-- how a range's bounds are read -/
theorem rg_reads {ro : List Int → Option (List D)} {fl : FL} {s : Sg} {H : Hp} {R' : It → Hp → Prop} {k : List V → Hp → Prop} (h : tI X.K X.mg E (fRg ro fl) s H R')
    (w : ∀ ns es F1 H1, ro ns = some es → Same F1 H1 → (∀ J, Walks X.K J F1 es → R' J H1) → k (ns.map V.int) H1) : tL X.K X.mg E fl s H k := by
  obtain ⟨B, F, O, r, R, q⟩ := h
  refine ⟨B, F, O, r, R, (Post.split q).mono fun ds r1 F1 O1 H1 R1 f1 k1 q1 vs hv => ?_⟩
  obtain ⟨ns, e1, q1⟩ := Post.opt q1
  obtain ⟨es, e2, q1⟩ := Post.opt q1
  rw [ints_reps e1 hv]
  exact w ns es F1 H1 e2 R1.fh fun J hJ => Post.ok (k := fun ds _ F' _ H' => ∀ J, Walks X.K J F' ds → R' J H') q1 R1 (.refl _) .refl J hJ
theorem ei_rg1 {a : Expr} {p : Pos} {fl : FL} (hm : X.mg "range" = none) (ha : EvL X E [a] fl) (hg : Gl X "range" := by rfl) (hs : starEach [a] X.env = [(false, eval a X.env)] := by rfl) : EvI X E tg (.Call (.Name "range" p) [a] [] pos) (fRg rg1 fl) :=
  PI.imp (pi_range1 hg hm ha hs) fun s H R' h => rg_reads h fun ns es F1 H1 e f q => by
    match ns, e with
    | [], e => cases e
    | _ :: _ :: _, e => cases e
    | [j], e =>
      have e : (if okRg j = true then some (rngD 0 j) else none) = some es := e
      split at e
      · rename_i hj
        cases e
        have hj := okRg_true hj
        refine ⟨j, rfl, hj.1, hj.2, q _ ?_⟩
        unfold rngD
        rw [Int.sub_zero]
        exact walks_rng
      · cases e
theorem ei_rg2 {a b : Expr} {p : Pos} {fl : FL} (hm : X.mg "range" = none) (ha : EvL X E [a, b] fl) (hg : Gl X "range" := by rfl) (hs : starEach [a, b] X.env = [(false, eval a X.env), (false, eval b X.env)] := by rfl) (hs2 : starEach [b] X.env = [(false, eval b X.env)] := by rfl) :
    EvI X E tg (.Call (.Name "range" p) [a, b] [] pos) (fRg rg2 fl) :=
  PI.imp (pi_range2 hg hm ha hs hs2) fun s H R' h => rg_reads h fun ns es F1 H1 e f q => by
    match ns, e with
    | [], e => cases e
    | [_], e => cases e
    | _ :: _ :: _ :: _, e => cases e
    | [i, j], e =>
      have e : (if okRg i = true ∧ okRg j = true then some (rngD i j) else none) = some es := e
      split at e
      · rename_i hj
        cases e
        have h1 := okRg_true hj.1
        have h2 := okRg_true hj.2
        exact ⟨i, j, rfl, ⟨h1.1, h1.2, h2.1, h2.2⟩, q _ walks_rng⟩
      · cases e
theorem ei_rg3 {a b d : Expr} {p : Pos} {fl : FL} (hm : X.mg "range" = none) (ha : EvL X E [a, b, d] fl) (hg : Gl X "range" := by rfl) (hs : starEach [a, b, d] X.env = (false, eval a X.env) :: starEach [b, d] X.env := by rfl) (hpl : (backTo pos (starEach [b, d] X.env)).any (·.1) = false := by rfl) :
    EvI X E tg (.Call (.Name "range" p) [a, b, d] [] pos) (fRg rg3 fl) :=
  PI.imp (pi_range3 hg hm ha hs hpl) fun s H R' h => rg_reads h fun ns es F1 H1 e f q => by
    match ns, e with
    | [], e => cases e
    | [_], e => cases e
    | [_, _], e => cases e
    | _ :: _ :: _ :: _ :: _, e => cases e
    | [i, j, c], e =>
      obtain ⟨⟨h1, h2, h3, h4⟩, e⟩ := ifP_some (show ifP (c ≠ 0 ∧ c.natAbs < 1073741824 ∧ Builtin.Range.small i j c = true ∧ 0 ≤ Builtin.Range.rangeSize i j c) (some (rngC i j c)) none = some es from e)
      subst e
      exact ⟨i, j, c, (Builtin.Range.rangeSize i j c).toNat, rfl, ⟨h1, h2, h3, by omega⟩, q _ walks_rngC⟩

/-! zip, enumerate -/
def enumD (ds : List D) : List D := (ds.zipIdx).map fun p => D.tup [.int (p.2 : Nat), p.1]
def zipD (xs ys : List D) : List D := (xs.zip ys).map fun p => D.tup [p.1, p.2]
theorem rep_pair {K : PySem.W.Frag} {F H : Hp} {T : Addr} {x y : V} {d e : D} (f : Same F H) (n : H T = none) (hx : Rep K F d x) (hy : Rep K F e y) : Grow F H (upd F T (.tup [x, y])) (upd H T (.tup [x, y])) ∧ Rep K (upd F T (.tup [x, y])) (.tup [d, e]) (.ref T) :=
  new_tup f n (.cons hx (.cons hy .nil))
theorem walks_enum {K : PySem.W.Frag} {F : Hp} {a : Addr} {xs : List V} {ds : List D} (h : SqL K F a xs) (r : Reps K F ds xs) : Walks K (Ite K a) F (enumD ds) := fun i F1 H f1 f2 => by
  have hs : SqL K H a xs := (f1.trans f2).seq h
  refine ⟨fun d e => ?_, fun hl => ⟨xs, hs, by rw [r.length]; simpa [enumD] using hl⟩⟩
  unfold enumD at e
  rw [List.getElem?_map, List.getElem?_zipIdx] at e
  cases m : ds[i]? with
  | none => rw [m] at e; cases e
  | some d0 =>
    rw [m] at e
    simp only [Option.map_some, Option.some.injEq, Nat.zero_add] at e
    subst e
    obtain ⟨x, h1, h2⟩ := r.get m
    refine ⟨⟨xs, x, hs, h1⟩, fun y H' ⟨T, x', e1, e2, e3, e4⟩ => ?_⟩
    have := e4 xs hs
    rw [h1] at this
    cases this
    subst e1; subst e3
    exact ⟨_, rep_pair f2 e2 (d := .int (i : Nat)) rfl (h2.mono f1)⟩
def fEnum (fl : FE) : FI := fun r => (fl r).bnd fun d r1 => match d with
  | .lst ds => .ok (enumD ds, r1)
  | _ => .stuck
/-- enumerate of a list -/
theorem ei_enum {a : Expr} {p tpos : Pos} {elts : List Expr} {kk : Nat} {f : FE} (hm : X.mg "enumerate" = none) (ha : EvE X E a f) (hg : Gl X "enumerate" := by rfl) (hs : starEach [a] X.env = [(false, eval a X.env)] := by rfl) (hs2 : starEach [a] X.env = (false, eval a X.env) :: starEach [] X.env := by rfl) :
    EvI X E (.Tuple elts kk tpos) (.Call (.Name "enumerate" p) [a] [] pos) (fEnum f) := PI.imp (pi_enum hg hm (pa_cons ha pa_nil hs2) hs) fun s H R' ⟨B, F, O, r, R, q⟩ => by
  refine ⟨B, F, O, r, R, (Post.split q).mono fun d r1 F1 O1 H1 R1 f1 k1 q1 v hv => ?_⟩
  cases d with
  | lst ds =>
    obtain ⟨a, xs, e1, h1, h2⟩ := hv
    subst e1
    exact ⟨a, xs, rfl, R1.fh.seq h1, Post.ok (k := fun ds _ F' _ H' => ∀ J, Walks X.K J F' ds → R' J H') q1 R1 (.refl _) .refl _ (walks_enum h1 h2)⟩
  | _ => exact False.elim q1
theorem walks_zipL {K : PySem.W.Frag} {F : Hp} {a b : Addr} {xs ys : List V} {ds es : List D} (h : SqL K F a xs) (r : Reps K F ds xs) (h' : SqL K F b ys) (r' : Reps K F es ys) : Walks K (Itz K a b) F (zipD ds es) := fun i F1 H f1 f2 => by
  have hs : SqL K H a xs := (f1.trans f2).seq h
  have hs' : SqL K H b ys := (f1.trans f2).seq h'
  refine ⟨fun d e => ?_, fun hl => ⟨xs, ys, hs, hs', by
    unfold zipD at hl
    rw [List.length_map, List.length_zip] at hl
    rw [r.length, r'.length]
    omega⟩⟩
  unfold zipD at e
  rw [List.getElem?_map] at e
  cases m : (ds.zip es)[i]? with
  | none => rw [m] at e; cases e
  | some pr =>
    rw [m] at e
    cases e
    obtain ⟨m1, m2⟩ := List.getElem?_zip_eq_some.mp m
    obtain ⟨x, h1, h2⟩ := r.get m1
    obtain ⟨y, h3, h4⟩ := r'.get m2
    refine ⟨⟨xs, ys, x, y, hs, hs', h1, h3⟩, fun v H' ⟨T, x', y', e1, e2, e3, e4, e5⟩ => ?_⟩
    have z1 := e4 xs hs
    have z2 := e5 ys hs'
    rw [h1] at z1; cases z1
    rw [h3] at z2; cases z2
    subst e1; subst e3
    exact ⟨_, rep_pair f2 e2 (h2.mono f1) (h4.mono f1)⟩
theorem walks_zipT {K : PySem.W.Frag} {F : Hp} {a b : Addr} {xs ys : List V} {ds es : List D} (h : SqT K F a xs) (r : Reps K F ds xs) (h' : SqT K F b ys) (r' : Reps K F es ys) : Walks K (RZ.ItzT K a b) F (zipD ds es) := fun i F1 H f1 f2 => by
  have hs : SqT K H a xs := same_seqT (f1.trans f2) h
  have hs' : SqT K H b ys := same_seqT (f1.trans f2) h'
  refine ⟨fun d e => ?_, fun hl => ⟨xs, ys, hs, hs', by
    unfold zipD at hl
    rw [List.length_map, List.length_zip] at hl
    rw [r.length, r'.length]
    omega⟩⟩
  unfold zipD at e
  rw [List.getElem?_map] at e
  cases m : (ds.zip es)[i]? with
  | none => rw [m] at e; cases e
  | some pr =>
    rw [m] at e
    cases e
    obtain ⟨m1, m2⟩ := List.getElem?_zip_eq_some.mp m
    obtain ⟨x, h1, h2⟩ := r.get m1
    obtain ⟨y, h3, h4⟩ := r'.get m2
    refine ⟨⟨xs, ys, x, y, hs, hs', h1, h3⟩, fun v H' ⟨T, x', y', e1, e2, e3, e4, e5⟩ => ?_⟩
    have z1 := e4 xs hs
    have z2 := e5 ys hs'
    rw [h1] at z1; cases z1
    rw [h3] at z2; cases z2
    subst e1; subst e3
    exact ⟨_, rep_pair f2 e2 (h2.mono f1) (h4.mono f1)⟩
def fZip (fl : FL) : FI := fun r => (fl r).bnd fun ds r1 => match ds with
  | [.lst xs, .lst ys] => .ok (zipD xs ys, r1)
  | [.tup xs, .tup ys] => .ok (zipD xs ys, r1)
  | _ => .stuck
/-- zip of two lists, of two tuples -/
theorem ei_zip {a b : Expr} {p tpos : Pos} {elts : List Expr} {kk : Nat} {fl : FL} (hm : X.mg "zip" = none) (ha : EvL X E [a, b] fl) (hg : Gl X "zip" := by rfl) (hs : starEach [a, b] X.env = (false, eval a X.env) :: starEach [b] X.env := by rfl) (hpl : (backTo pos (starEach [b] X.env)).any (·.1) = false := by rfl) :
    EvI X E (.Tuple elts kk tpos) (.Call (.Name "zip" p) [a, b] [] pos) (fZip fl) := PI.imp (RZ.pi_zipA hg hm ha hs hpl) fun s H R' ⟨B, F, O, r, R, q⟩ => by
  refine ⟨B, F, O, r, R, (Post.split q).mono fun ds r1 F1 O1 H1 R1 f1 k1 q1 vs hv => ?_⟩
  have fin : ∀ xs ys, Post X.K X.mg E B F1 O1 r1 s (.ok (zipD xs ys, r1)) (fun ds _ F' _ H' => ∀ J, Walks X.K J F' ds → R' J H') → ∀ J, Walks X.K J F1 (zipD xs ys) → R' J H1 := fun xs ys q2 J hJ => Post.ok (k := fun ds _ F' _ H' => ∀ J, Walks X.K J F' ds → R' J H') q2 R1 (.refl _) .refl J hJ
  cases ds with
  | nil => exact False.elim q1
  | cons d1 ds =>
    cases ds with
    | nil => cases d1 <;> exact False.elim q1
    | cons d2 ds =>
      cases ds with
      | cons _ _ => cases d1 <;> cases d2 <;> exact False.elim q1
      | nil =>
        obtain ⟨x, r2, e1, h1, y, r3, e2, h2, e3⟩ := hv
        subst e1; subst e2
        rw [show r3 = [] from e3]
        cases d1 with
        | lst xs =>
          cases d2 with
          | lst ys =>
            obtain ⟨a, us, e4, g1, g2⟩ := h1
            obtain ⟨b, ws, e5, g3, g4⟩ := h2
            exact ⟨a, b, us, ws, by rw [e4, e5], .inl ⟨R1.fh.seq g1, R1.fh.seq g3, fin _ _ q1 _ (walks_zipL g1 g2 g3 g4)⟩⟩
          | _ => exact False.elim q1
        | tup xs =>
          cases d2 with
          | tup ys =>
            obtain ⟨a, us, e4, g1, g2⟩ := h1
            obtain ⟨b, ws, e5, g3, g4⟩ := h2
            exact ⟨a, b, us, ws, by rw [e4, e5], .inr ⟨same_seqT R1.fh g1, same_seqT R1.fh g3, fin _ _ q1 _ (walks_zipT g1 g2 g3 g4)⟩⟩
          | _ => exact False.elim q1
        | _ => cases d2 <;> exact False.elim q1
end
end Ev

/-! E8: comprehensions; what changes an own object. -/
namespace Ev
open PySem PySem.Spec PyProof.Rows L2
variable [TabsC]

section
variable {K : PySem.W.Frag} {B : Base} {F F' H H' : Hp} {O : Addr → Option C} {r : Env} {s : Sg}
/-- an own object without a slot is written -/
theorem Rel.mutT {a : Addr} {c c' : C} {o : HO} (R : Rel K B F O H r s) (e : O a = some c) (fr : Free s r a) (hc : CRep K F (upd H a o) a c') :
    Rel K B F (fun b => if b = a then some c' else O b) (upd H a o) r s := by
  obtain ⟨f1, f2, f3⟩ := R.ow a c e
  refine ⟨fun b u q => ?_, R.f0, R.nf, ⟨fun b u q np nt => ?_, tabs_upd R.fr.t f2, R.fr.t0, R.fr.b⟩, fun b q => ?_, fun b d q => ?_, R.len, R.vl, fun j q d w => ?_, R.inj, R.rf⟩
  · rw [upd_ne (fun z => by subst z; rw [f1] at q; cases q)]
    exact R.fh _ _ q
  · rw [upd_ne (fun z => by
      subst z
      rcases f3 with f3 | f3
      · exact np f3
      · rw [f3] at q; cases q)]
    exact R.fr.k _ _ q np nt
  · by_cases hb : b = a
    · subst hb; rw [upd_same] at q; cases q
    · rw [upd_ne hb] at q; exact R.st _ q
  · by_cases hb : b = a
    · subst hb
      simp only [if_true] at q
      cases q
      exact ⟨f1, hc, f3⟩
    · simp only [if_neg hb] at q
      obtain ⟨g1, g2, g3⟩ := R.ow b d q
      exact ⟨g1, g2.mono (.refl _) (upd_ne hb), g3⟩
  · obtain ⟨b, g1, g2, g3⟩ := R.on j q d w
    have : b ≠ a := fun z => fr j q d w (by rw [g1, z])
    exact ⟨b, g1, by simp only [if_neg this]; exact g2, g3⟩

/-! ### slots forgotten -/
def unAll (r : Env) : List Nat → Env
  | [] => r
  | v :: vs => (unAll r vs).set v .un
theorem unAll_length (r : Env) : ∀ vs : List Nat, (unAll r vs).length = r.length
  | [] => rfl
  | v :: vs => by unfold unAll; rw [List.length_set, unAll_length r vs]
theorem unAll_at {i : Nat} {sl : Slot} : ∀ {vs : List Nat}, (unAll r vs)[i]? = some sl → (sl = .un) ∨ (i ∉ vs ∧ r[i]? = some sl)
  | [], h => .inr ⟨by simp, h⟩
  | v :: vs, h => by
    unfold unAll at h
    by_cases hv : v = i
    · subst hv
      by_cases hl : v < (unAll r vs).length
      · rw [List.getElem?_set_self hl] at h; cases h; exact .inl rfl
      · rw [List.getElem?_eq_none (by rw [List.length_set]; omega)] at h; cases h
    · rw [List.getElem?_set_ne hv] at h
      rcases unAll_at h with z | ⟨z1, z2⟩
      · exact .inl z
      · exact .inr ⟨by simp only [List.mem_cons, not_or]; exact ⟨Ne.symm hv, z1⟩, z2⟩
theorem wipe_at {i : Nat} : ∀ {vs : List Nat}, i ∉ vs → (wipe s vs)[i]? = s[i]?
  | [], _ => rfl
  | v :: vs, h => by
    unfold wipe
    rw [List.getElem?_set_ne (fun z => h (by rw [z]; exact List.mem_cons_self))]
    exact wipe_at fun z => h (List.mem_cons_of_mem _ z)
/-- the slots vs forgotten, in the environment and in the state -/
theorem Rel.wiped (R : Rel K B F O H r s) (vs : List Nat) {s' : Sg} (hs : ∀ i, i ∉ vs → s'[i]? = s[i]?) (hl : s'.length = s.length) : Rel K B F O H (unAll r vs) s' := by
  have low : ∀ {i : Nat} {sl : Slot}, (unAll r vs)[i]? = some sl → sl ≠ .un → i ∉ vs ∧ r[i]? = some sl := fun {i sl} e n => (unAll_at e).elim (fun z => absurd z n) id
  refine ⟨R.fh, R.f0, R.nf, R.fr, R.st, R.ow, by rw [unAll_length, hl]; exact R.len, fun i d e => ?_, fun i p c e => ?_, fun i j p q c c' a e1 e2 g1 g2 => ?_, fun i a e => ?_⟩
  · obtain ⟨h1, h2⟩ := low e (by intro z; cases z)
    rw [hs i h1]; exact R.vl i d h2
  · obtain ⟨h1, h2⟩ := low e (by intro z; cases z)
    rw [hs i h1]; exact R.on i p c h2
  · obtain ⟨h1, h2⟩ := low e1 (by intro z; cases z)
    obtain ⟨h3, h4⟩ := low e2 (by intro z; cases z)
    rw [hs i h1] at g1
    rw [hs j h3] at g2
    exact R.inj i j p q c c' a h2 h4 g1 g2
  · obtain ⟨h1, h2⟩ := low e (by intro z; cases z)
    rw [hs i h1]; exact R.rf i a h2
theorem Free.wiped {a : Addr} (f : Free s r a) (vs : List Nat) {s' : Sg} (hs : ∀ i, i ∉ vs → s'[i]? = s[i]?) : Free s' (unAll r vs) a := fun i p c e z => by
  rcases unAll_at e with q | ⟨h1, h2⟩
  · cases q
  · rw [hs i h1] at z
    exact f i p c h2 z
/-- the slots vs as they were ahead, where they showed data -/
def back (vs : List Nat) (r0 r : Env) : Env := match vs with
  | [] => r
  | v :: vs => match r0[v]? with
    | some (.val d) => (back vs r0 r).set v (.val d)
    | _ => back vs r0 r
theorem Rel.backed {F0 H0 : Hp} {O0 : Addr → Option C} {r0 : Env} (R0 : Rel K B F0 O0 H0 r0 s) (f : Same F0 F) : ∀ (vs : List Nat), Rel K B F O H r s → Rel K B F O H (back vs r0 r) s
  | [], R => R
  | v :: vs, R => by
    have ih := Rel.backed R0 f vs R
    unfold back
    cases q : r0[v]? with
    | none => exact ih
    | some sl =>
      cases sl with
      | un => exact ih
      | rf _ => exact ih
      | own p c => exact ih
      | val d =>
        obtain ⟨x, h1, h2⟩ := R0.vl v d q
        exact ih.setv h1 (h2.mono f)
theorem Free.backed {a : Addr} {r0 : Env} (f : Free s r a) : ∀ (vs : List Nat), Free s (back vs r0 r) a
  | [] => f
  | v :: vs => by
    have ih := Free.backed (r0 := r0) f vs
    unfold back
    cases q : r0[v]? with
    | none => exact ih
    | some sl =>
      cases sl with
      | un => exact ih
      | rf _ => exact ih
      | own p c => exact ih
      | val d =>
        intro i p c e z
        by_cases hi : v = i
        · subst hi
          by_cases hl : v < (back vs r0 r).length
          · rw [List.getElem?_set_self hl] at e; cases e
          · rw [List.getElem?_eq_none (by rw [List.length_set]; omega)] at e; cases e
        · rw [List.getElem?_set_ne hi] at e
          exact ih i p c e z
end

theorem wipe_get (ks : List Nat) (t : Sg) (j : Nat) : (wipe t ks)[j]? = if j ∈ ks ∧ j < t.length then some none else t[j]? := by
  induction ks with
  | nil => simp [wipe]
  | cons k ks ih =>
    unfold wipe
    by_cases hk : k = j
    · subst hk
      by_cases hl : k < t.length
      · rw [List.getElem?_set_self (by rw [wipe_length]; exact hl), if_pos ⟨List.mem_cons_self, hl⟩]
      · rw [List.getElem?_eq_none (by rw [List.length_set, wipe_length]; omega), if_neg (fun z => hl z.2), List.getElem?_eq_none (by omega)]
    · rw [List.getElem?_set_ne hk, ih]
      have : (j ∈ k :: ks) ↔ j ∈ ks := by simp [Ne.symm hk]
      simp only [this]
theorem wipe_idem {t : Sg} {ks : List Nat} : wipe (wipe t ks) ks = wipe t ks := by
  apply List.ext_getElem?
  intro j
  rw [wipe_get, wipe_get, wipe_length]
  split <;> rfl
/-! ### [elt for target in iter if test] -/
def loopC (vs : List Nat) (ft : FGt) (tt : FT) (fe : FE) : List D → Env → List D → Res (List D × Env)
  | [], r, acc => .ok (acc, r)
  | d :: ds, r, acc => match ft d r with
    | none => .stuck
    | some r1 => (tt r1).bnd fun b r2 => if b = true then (fe r2).bnd fun y r3 => if acc.length < sizeLine then loopC vs ft tt fe ds (unAll r3 vs) (acc ++ [y]) else .stuck else loopC vs ft tt fe ds (unAll r2 vs) acc
def fLC (vs : List Nat) (fi : FI) (ft : FGt) (tt : FT) (fe : FE) : FO := fun r => (fi r).bnd fun ds r1 => match loopC vs ft tt fe ds (unAll r1 vs) [] with
  | .ok p => .ok (.lst p.1, back vs r1 (unAll p.2 vs))
  | _ => .stuck
def fYes : FT := fun r => .ok (true, r)
abbrev EF : XK := fun _ _ _ => False
abbrev EvTs (X : Cx) (E : XK) (es : List Expr) (f : FT) : Prop := PTs X es (tT X.K X.mg E f)
theorem ets_nil {X : Cx} {E : XK} : EvTs X E [] fYes := ⟨fun pins s σ H Q I ⟨B, F, O, r, R, q⟩ => pts_nil.run pins s σ H Q I (Post.ok (k := fun b _ _ _ H' => Q b H') q R (.refl _) .refl)⟩
theorem ets_one {X : Cx} {E : XK} {c : Expr} {f : FT} (h : EvT X E c f) : EvTs X E [c] f := pts_one h

section
variable {X : Cx} {E : XK} {e tg iter elt c : Expr} {ifs : List Expr} {st : Stmt} {pos : Pos}
theorem lc_reads {vs : List Nat} {fi : FI} {ft : FGt} {tt : FT} {fe : FE} {s : Sg} {H : Hp} {Q : VK} (h : tO X.K X.mg E (fLC vs fi ft tt fe) s H Q) :
    tLc (tI X.K X.mg E fi) (tGt X.K vs ft) (tT X.K X.mg EF tt) (tE X.K X.mg EF fe) vs s H Q := by
  obtain ⟨B, F, O, r, R, q⟩ := h
  refine ⟨B, F, O, r, R, ?_⟩
  have q : Post X.K X.mg E B F O r s (fLC vs fi ft tt fe r) _ := q
  unfold fLC at q
  cases mi : fi r with
  | stuck => rw [mi] at q; exact q
  | ex x => rw [mi] at q; exact q
  | ok pr =>
    obtain ⟨ds, r1⟩ := pr
    rw [mi] at q
    cases ml : loopC vs ft tt fe ds (unAll r1 vs) [] with
    | stuck =>
      have q : Post X.K X.mg E B F O r s (match loopC vs ft tt fe ds (unAll r1 vs) [] with
        | .ok p => Res.ok (C.lst p.1, back vs r1 (unAll p.2 vs))
        | _ => .stuck) (fun c r' _ O' H' => ∀ a, O' a = some c → B.H0 a = none → Free s r' a → (∀ c0, O a = some c0 → ¬ Free s r a) → Q (.ref a) H') := q
      rw [ml] at q; exact False.elim q
    | ex x =>
      have q : Post X.K X.mg E B F O r s (match loopC vs ft tt fe ds (unAll r1 vs) [] with
        | .ok p => Res.ok (C.lst p.1, back vs r1 (unAll p.2 vs))
        | _ => .stuck) (fun c r' _ O' H' => ∀ a, O' a = some c → B.H0 a = none → Free s r' a → (∀ c0, O a = some c0 → ¬ Free s r a) → Q (.ref a) H') := q
      rw [ml] at q; exact False.elim q
    | ok pl =>
      obtain ⟨out, rF⟩ := pl
      have q : Post X.K X.mg E B F O r s (match loopC vs ft tt fe ds (unAll r1 vs) [] with
        | .ok p => Res.ok (C.lst p.1, back vs r1 (unAll p.2 vs))
        | _ => .stuck) (fun c r' _ O' H' => ∀ a, O' a = some c → B.H0 a = none → Free s r' a → (∀ c0, O a = some c0 → ¬ Free s r a) → Q (.ref a) H') := q
      rw [ml] at q
      have q : ∀ F' O' H', Rel X.K B F' O' H' (back vs r1 (unAll rF vs)) s → Same F F' → Keep s r (back vs r1 (unAll rF vs)) O O' → ∀ a, O' a = some (.lst out) → B.H0 a = none → Free s (back vs r1 (unAll rF vs)) a → (∀ c0, O a = some c0 → ¬ Free s r a) → Q (.ref a) H' := q
      show ∀ F' O' H', Rel X.K B F' O' H' r1 s → Same F F' → Keep s r r1 O O' → ∀ J, Walks X.K J F' ds → _
      intro F1 O1 H1 R1 f1 k1 J hJ A nA
      obtain ⟨oA, h0A, frA, fA⟩ := R1.free_of nA
      have ws : ∀ i, i ∉ vs → (wipe s vs)[i]? = s[i]? := fun i hi => wipe_at hi
      obtain ⟨R2, k2⟩ := R1.born (o := .lst []) (c := .lst []) nA ⟨[], upd_same, rfl⟩
      let W : Nat → Hp → Prop := fun i H' => ∃ F2 O2 r2 acc, Rel X.K B F2 O2 H' r2 (wipe s vs) ∧ Same F1 F2 ∧ O2 A = some (.lst acc) ∧ Free (wipe s vs) r2 A ∧
        (∀ a c, a ≠ A → O1 a = some c → Free s r1 a → O2 a = some c ∧ Free (wipe s vs) r2 a) ∧ loopC vs ft tt fe (ds.drop i) r2 acc = .ok (out, rF)
      refine ⟨fun i m H' => m = ds.length - i ∧ i ≤ ds.length ∧ W i H', ⟨ds.length, rfl, Nat.zero_le _, F1, _, unAll r1 vs, [], R2.wiped vs ws (wipe_length s vs), .refl _, by simp, frA.wiped vs ws, fun a c ha e f => ⟨by simp only [if_neg ha]; exact e, f.wiped vs ws⟩, ml⟩, ?_⟩
      rintro i m H' ⟨rfl, hi, F2, O2, r2, acc, R3, f2, oA2, frA2, kp, lp⟩
      obtain ⟨w1, w2⟩ := hJ i F2 H' f2 R3.fh
      by_cases hlt : i < ds.length
      · obtain ⟨go, yld⟩ := w1 ds[i] (List.getElem?_eq_getElem hlt)
        refine .inr ⟨go, W (i + 1), fun H3 h3 => ⟨ds.length - (i + 1), by omega, rfl, hlt, h3⟩, fun x H3 hy => ?_⟩
        obtain ⟨F3, g3, rep⟩ := yld x H3 hy
        rw [List.drop_eq_getElem_cons hlt] at lp
        have lp : (match ft ds[i] r2 with
          | none => .stuck
          | some r1 => (tt r1).bnd fun b r2 => if b = true then (fe r2).bnd fun y r3 => if acc.length < sizeLine then loopC vs ft tt fe (ds.drop (i + 1)) (unAll r3 vs) (acc ++ [y]) else .stuck else loopC vs ft tt fe (ds.drop (i + 1)) (unAll r2 vs) acc) = Res.ok (out, rF) := lp
        cases m : ft ds[i] r2 with
        | none => rw [m] at lp; cases lp
        | some r3 =>
          rw [m] at lp
          have R3' := R3.grow g3
          refine ⟨B, F3, O2, r2, ds[i], r3, R3', rep, m, fun s4 R4 w4 => ⟨w4.1.trans wipe_idem, ?_⟩⟩
          have hs4 : ∀ j, j ∉ vs → (wipe s vs)[j]? = s4[j]? := fun j hj =>
            ((wipe_at (s := wipe s vs) hj).symm.trans (by rw [w4.1])).trans (wipe_at (s := s4) hj)
          have l4 : (wipe s vs).length = s4.length := w4.2.1.symm
          have frA4 : Free s4 r3 A := w4.2.2 A frA2
          refine ⟨B, F3, O2, r3, R4, ?_⟩
          have lp : (tt r3).bnd (fun b r2 => if b = true then (fe r2).bnd fun y r3 => if acc.length < sizeLine then loopC vs ft tt fe (ds.drop (i + 1)) (unAll r3 vs) (acc ++ [y]) else .stuck else loopC vs ft tt fe (ds.drop (i + 1)) (unAll r2 vs) acc) = Res.ok (out, rF) := lp
          cases mt : tt r3 with
          | stuck => rw [mt] at lp; cases lp
          | ex x => rw [mt] at lp; cases lp
          | ok pt =>
            obtain ⟨b, r5⟩ := pt
            rw [mt] at lp
            intro F5 O5 H5 R5 f5 k5
            have lp : (if b = true then (fe r5).bnd fun y r3 => if acc.length < sizeLine then loopC vs ft tt fe (ds.drop (i + 1)) (unAll r3 vs) (acc ++ [y]) else .stuck else loopC vs ft tt fe (ds.drop (i + 1)) (unAll r5 vs) acc) = Res.ok (out, rF) := lp
            obtain ⟨oA5, frA5⟩ := k5 A _ oA2 frA4
            cases b with
            | false =>
              rw [if_neg Bool.false_ne_true] at lp
              show W (i + 1) H5
              refine ⟨F5, O5, unAll r5 vs, acc, R5.wiped vs hs4 l4, f2.trans (g3.ff.trans f5), oA5, frA5.wiped vs hs4, fun a c ha e1 e2 => ?_, lp⟩
              obtain ⟨g1, g2⟩ := kp a c ha e1 e2
              obtain ⟨g4, g5⟩ := k5 a c g1 (w4.2.2 a g2)
              exact ⟨g4, g5.wiped vs hs4⟩
            | true =>
              rw [if_pos rfl] at lp
              show tE X.K X.mg EF fe s4 H5 _
              refine ⟨B, F5, O5, r5, R5, ?_⟩
              cases me : fe r5 with
              | stuck => rw [me] at lp; cases lp
              | ex x => rw [me] at lp; cases lp
              | ok pe =>
                obtain ⟨y, r6⟩ := pe
                rw [me] at lp
                intro F6 O6 H6 R6 f6 k6 v hv
                have lp : (if acc.length < sizeLine then loopC vs ft tt fe (ds.drop (i + 1)) (unAll r6 vs) (acc ++ [y]) else .stuck) = Res.ok (out, rF) := lp
                split at lp
                · rename_i hz
                  obtain ⟨oA6, frA6⟩ := k6 A _ oA5 frA5
                  obtain ⟨_, ⟨xs, hxs, hr⟩, _⟩ := R6.ow A _ oA6
                  have R7 := R6.mutT (o := .lst (xs ++ [v])) (c' := .lst (acc ++ [y])) oA6 frA6 ⟨_, upd_same, hr.append (.cons hv .nil)⟩
                  refine ⟨xs, hxs, by rw [hr.length]; exact hz, F6, _, unAll r6 vs, acc ++ [y], R7.wiped vs hs4 l4, f2.trans (g3.ff.trans (f5.trans f6)), by simp, frA6.wiped vs hs4, fun a c ha e1 e2 => ?_, lp⟩
                  obtain ⟨g1, g2⟩ := kp a c ha e1 e2
                  obtain ⟨g4, g5⟩ := k5 a c g1 (w4.2.2 a g2)
                  obtain ⟨g6, g7⟩ := k6 a c g4 g5
                  exact ⟨by simp only [if_neg ha]; exact g6, g7.wiped vs hs4⟩
                · cases lp
      · have e : i = ds.length := by omega
        subst e
        rw [List.drop_length] at lp
        cases lp
        refine .inl ⟨w2 (Nat.le_refl _), ?_⟩
        have bk : ∀ j, j ∉ vs → s[j]? = (wipe s vs)[j]? := fun j hj => (wipe_at hj).symm
        have R5 := (R3.wiped vs bk (wipe_length s vs).symm)
        refine q F2 O2 H' (Rel.backed R1 f2 vs R5) (f1.trans f2) (fun a c e1 e2 => ?_) A oA2 h0A ((frA2.wiped vs bk).backed vs) fun c0 e1 e2 => ?_
        · obtain ⟨g1, g2⟩ := k1 a c e1 e2
          have ha : a ≠ A := fun z => by subst z; rw [oA] at g1; cases g1
          obtain ⟨g3, g4⟩ := kp a c ha g1 g2
          exact ⟨g3, (g4.wiped vs bk).backed vs⟩
        · obtain ⟨g1, g2⟩ := k1 A c0 e1 e2
          rw [oA] at g1; cases g1
/-- the rule -/
theorem eo_lc {scope : Scope} {own : List (Str × Nat)} {fi : FI} {ft : FGt} {tt : FT} {fe : FE} (hc : X.calm = true) (hN : X.N.Nodup) (hi : EvI X E tg iter fi) (ok : BlkOk X.N X.env.scope scope own)
    (hg : ∀ (s : Shared) (H : Hp) (C : Addr) (cl : List (Str × Addr)) (fp : List Addr), EvG (X.blk s H scope (compEnvC scope cl C X.env) fp) tg (own.map (·.2)) ft)
    (ht : ∀ (s : Shared) (H : Hp) (C : Addr) (cl : List (Str × Addr)) (fp : List Addr), EvTs (X.blk s H scope (compEnvC scope cl C X.env) fp) EF ifs tt)
    (he : ∀ (s : Shared) (H : Hp) (C : Addr) (cl : List (Str × Addr)) (fp : List Addr), EvE (X.blk s H scope (compEnvC scope cl C X.env) fp) EF elt fe) (hs : ∀ x, foldedSetIterable iter X.env x = pure x := by intro _; rfl) :
    EvO X E (.ListComp elt [⟨tg, iter, ifs, 0⟩] scope pos) (fLC (own.map (·.2)) fi ft tt fe) :=
  PE.imp (pe_lc (pos := pos) (g := tGt X.K (own.map fun p : Str × Nat => p.2) ft) hc hN hi ok hg ht he hs) fun s H Q h => lc_reads h
/-- name = [..] on one line -/
theorem es_setLc {i : Nat} {y : Str} {py spos : Pos} {scope : Scope} {own : List (Str × Nat)} {fi : FI} {ft : FGt} {tt : FT} {fe : FE} (hc : X.calm = true) (hN : X.N.Nodup) (hy : X.N[i]? = some y) (hyl : X.env.scope.names.lookup y = some .local)
    (hsw : swapsWith (.ListComp elt [⟨tg, iter, ifs, 0⟩] scope pos) (some (.Name y py)) spos.line X.env = pure true) (hi : EvI X E tg iter fi) (ok : BlkOk X.N X.env.scope scope own)
    (hg : ∀ (s : Shared) (H : Hp) (C : Addr) (cl : List (Str × Addr)) (fp : List Addr), EvG (X.blk s H scope (compEnvC scope cl C X.env) fp) tg (own.map (·.2)) ft)
    (ht : ∀ (s : Shared) (H : Hp) (C : Addr) (cl : List (Str × Addr)) (fp : List Addr), EvTs (X.blk s H scope (compEnvC scope cl C X.env) fp) EF ifs tt)
    (he : ∀ (s : Shared) (H : Hp) (C : Addr) (cl : List (Str × Addr)) (fp : List Addr), EvE (X.blk s H scope (compEnvC scope cl C X.env) fp) EF elt fe) (hs : ∀ x, foldedSetIterable iter X.env x = pure x := by intro _; rfl) :
    PS X (.Assign [.Name y py] (.ListComp elt [⟨tg, iter, ifs, 0⟩] scope pos) spos) (tAsg (tO X.K X.mg E (fLC (own.map (·.2)) fi ft tt fe)) (gName i)) :=
  PS.imp (ps_setLc (g := tGt X.K (own.map fun p : Str × Nat => p.2) ft) hc hN hy hyl hsw hi ok hg ht he hs) fun D' s H h => lc_reads h
/-- .. kept as data -/
theorem asg_eo {i : Nat} {f : FO} (h : PS X st (tAsg (tO X.K X.mg E f) (gName i))) : PS X st (tAsg (tE X.K X.mg E (fEO f)) (gName i)) := PS.imp h fun D' s H ⟨B, F, O, r, R, q⟩ => by
  refine ⟨B, F, O, r, R, ?_⟩
  unfold fEO at q
  cases m : f r with
  | stuck => rw [m] at q; exact q
  | ex x => rw [m] at q; exact q
  | ok p =>
    obtain ⟨c, r'⟩ := p
    rw [m] at q
    have q : ∀ F' O' H', Rel X.K B F' O' H' r' s → Same F F' → Keep s r r' O O' → ∀ v, Rep X.K F' c.d v → gName i v s H' D'.nx := q
    show ∀ F' O' H', Rel X.K B F' O' H' r' s → Same F F' → Keep s r r' O O' → ∀ a, O' a = some c → B.H0 a = none → Free s r' a → (∀ c0, O a = some c0 → ¬ Free s r a) → gName i (.ref a) s H' D'.nx
    intro F' O' H' R' f' kp a ha hy fr nw
    obtain ⟨F2, g1, g2, g3⟩ := R'.freeze ha hy fr
    refine q F2 _ H' g3 (f'.trans g1) (fun x c0 h1 h2 => ?_) _ g2
    obtain ⟨h3, h4⟩ := kp x c0 h1 h2
    refine ⟨?_, h4⟩
    have : x ≠ a := fun z => by subst z; exact nw c0 h1 h2
    simp only [if_neg this]
    exact h3
end
end Ev

/-! E9: enumerate of a tuple. -/
namespace Ev
open PySem PySem.Spec PyProof.Rows L2
variable [TabsC]
open AutoSeq1 (wpAny_loadPart')

theorem enum_newT (l : Addr) (items : Array Value) (n : Nat) (dct : Option Addr) (sl : Array (Option Value)) :
    Meets (Builtin.«enumerate.__new__» ⟨[.type "enumerate", .ref l], []⟩) (fun _ R s => s.heap.get? l = some ⟨.type "tuple", dct, .seq items n, sl⟩ ∧
      R (.ok (.ret (.ref (s.heap.push ⟨.type "tuple_iterator", none, .fields #[.ref l, .int 0 0], #[]⟩).objs.size)))
        { s with heap := (s.heap.push ⟨.type "tuple_iterator", none, .fields #[.ref l, .int 0 0], #[]⟩).push ⟨.type "enumerate", none, .fields #[.none, .bool false, .ref s.heap.objs.size, rawInt 0, .none, .none], #[]⟩ }) :=
  .of_wp fun prog w A R s h => by
    obtain ⟨hp, g, d, tk, os⟩ := s
    obtain ⟨hl, h⟩ := h
    have sub := sub_enumerate
    have hT : Heap.IsTuple (Shared.heap ⟨hp, g, d, tk, os⟩) l items := ⟨_, hl, rfl, n, rfl⟩
    wp_walk using wpAny_loadPart' hl
    refine wpAny_stack_any fun st => wpAny_pure ?_
    split
    · rename_i c _ _ _ _ _
      cases (c == Value.type "enumerate")
      · wp_walk using wpAny_loadPart' hl, wpAny_pyIter_tuple hT
        exact ⟨_, rfl, h⟩
      · wp_walk using wpAny_loadPart' hl, wpAny_pyIter_tuple hT
        exact ⟨_, rfl, h⟩
    · wp_walk using wpAny_loadPart' hl, wpAny_pyIter_tuple hT
      exact ⟨_, rfl, h⟩
section
variable {prog : Program} {w : World} {A : Around} {E : Value → Shared → Prop} {s : Shared}
theorem enum_callT {l : Addr} {items : Array Value} {Q : Value → Shared → Prop} (hL : s.heap.IsTuple l items)
    (h : ∀ h', IsEnum h' (s.heap.objs.size + 1) s.heap.objs.size 0 .none → h'.IsTupleIter s.heap.objs.size l 0 → h'.objs.size = s.heap.objs.size + 2 →
      (∀ b o, s.heap.get? b = some o → h'.get? b = some o) → Q (.ref (s.heap.objs.size + 1)) { s with heap := h' }) :
    wpAny (model prog w) A (call (.type "enumerate") [.ref l]) Q E s := by
  obtain ⟨⟨c, dct, dt, sl⟩, hl, hc, n, hd⟩ := hL
  obtain rfl : c = .type "tuple" := hc
  obtain rfl : dt = .seq items n := hd
  have z1 := Heap.size_push s.heap ⟨.type "tuple_iterator", none, .fields #[.ref l, .int 0 0], #[]⟩
  have e1 := Heap.get?_push_size (s.heap.push ⟨.type "tuple_iterator", none, .fields #[.ref l, .int 0 0], #[]⟩)
    (o := ⟨.type "enumerate", none, .fields #[.none, .bool false, .ref s.heap.objs.size, rawInt 0, .none, .none], #[]⟩) rfl
  refine callType_new F.called_enumerate (by decide) (F.typeCall_enumerate_1 _) (F.newCall_enumerate_1 _) (fun obj => F.args_object_init_2 obj _) F.entry_enumerate_new (enum_newT l items n dct sl) ⟨hl, ?_⟩
  rw [z1] at e1
  show _ ∧ _
  rw [z1]
  refine ⟨⟨_, e1, rfl⟩, h _ e1 ⟨_, Heap.get?_push_of_some _ (Heap.get?_push_size _ rfl), rfl, rfl⟩ (by rw [Heap.size_push, z1]) fun b o x => ?_⟩
  exact Heap.get?_push_of_some _ (Heap.get?_push_of_some _ x)
theorem enum_endT {e it l : Addr} {i : Nat} {items : Array Value} {old : Value} {Q : Option Value → Shared → Prop} (hh : A.handled = none) (he : IsEnum s.heap e it i old) (hit : s.heap.IsTupleIter it l i) (hl : s.heap.IsTuple l items)
    (hx : items[i]? = none) (hQ : ∀ h', Heap.ExtBut it s.heap h' → Q none { s with heap := h' }) : wpAny (model prog w) A (pyNext (.ref e)) Q E s := by
  have hT : s.TypeIs (.ref e) "enumerate" := ⟨_, he, rfl⟩
  unfold pyNext
  refine wpAny_bind (wpAny_attempt (wpAny_callSpecial?_slot (name := Str.ofString "__next__") hT F.slot_enumerate_next (wpAny_call_entry F.slot_enumerate_next hT F.entry_enumerate_next ?_ (F.args_enumerate_next_1 _))))
  show wpAny _ _ (field (.ref e) 2 >>= _) _ _ _
  refine wpAny_bind (wpAny_field he rfl (x := .ref it) rfl (wpAny_bind (wpAny_nextOf_tuple_end hh hit hl hx fun h' x g1 g2 => ?_)))
  obtain ⟨o, ho, hc⟩ := g2
  exact wpAny_bind (wpAny_isInstance (T := "StopIteration") (b := true) ⟨o, ho, hc⟩ isSubtype_stop (wpAny_pure (hQ _ g1)))
end

/-- the tuple at a, each item in a new pair -/
def ItE (K : PySem.W.Frag) (a : Addr) : It where
  go := fun i H => ∃ (xs : List V) (x : V), SqT K H a xs ∧ xs[i]? = some x
  yld := fun i H v H' => ∃ T x, v = .ref T ∧ H T = none ∧ H' = upd H T (.tup [.int (i : Nat), x]) ∧ ∀ xs, SqT K H a xs → xs[i]? = some x
  stop := fun i H => ∃ xs : List V, SqT K H a xs ∧ xs.length ≤ i
theorem turn_enumT {P : Program} {w : World} {K : PySem.W.Frag} {elts : List Expr} {kk : Nat} {tpos : Pos} (a e it : Addr) (hai : a ≠ it) :
    Turn P w K (.Tuple elts kk tpos) (ItE K a) [e, it] e (fun i h => (∃ old, IsEnum h e it ((i : Nat) : Int) old) ∧ h.IsTupleIter it a i ∧ e ≠ it) where
  mem := List.mem_cons_self
  obj := fun i h st b hb => by
    obtain ⟨⟨old, he⟩, ⟨o, ho, hc, hd⟩, _⟩ := st
    rcases (by simpa using hb : b = e ∨ b = it) with z | z
    · exact ⟨_, by rw [z]; exact he, fun v q => by cases q⟩
    · exact ⟨o, by rw [z]; exact ho, fun v q => by rw [hd] at q; cases q⟩
  keep := fun i h h' st k => by
    obtain ⟨⟨old, he⟩, ⟨o, ho, hc, hd⟩, hne⟩ := st
    exact ⟨⟨old, k e (by simp) _ he⟩, ⟨o, k it (by simp) _ ho, hc, hd⟩, hne⟩
  item := by
    intro X hP hw hK hc i pins s σ H E I hf st hg
    subst hP hw hK
    obtain ⟨⟨old, he⟩, hit, hne⟩ := st
    obtain ⟨xs, x, hq, hx⟩ := hg
    obtain ⟨its, rv, p, hz⟩ := I.tuple hq
    obtain ⟨u, hu, ru⟩ := rv.get hx
    have hel : e < s.heap.objs.size := Heap.lt_size he
    have hil : it < s.heap.objs.size := let ⟨_, q, _⟩ := hit; Heap.lt_size q
    have hlt : i < its.toArray.size := by
      have := (List.getElem?_eq_some_iff.mp hu).1
      simpa using this
    have hae : a ≠ e := fun z => by
      obtain ⟨o, ho, hcl, _⟩ := p
      rw [z, show s.heap.get? e = some _ from he] at ho
      cases ho
      injection hcl with hcl
      exact absurd hcl (by decide)
    have hE : e ∉ [it, a] := by simp only [List.mem_cons, List.not_mem_nil, or_false, not_or]; exact ⟨hne, Ne.symm hae⟩
    refine wpAny_pyNext_enum_itemD (Draws.tuple (A := X.A.in1) (I.ok.hd hc) it a hai its.toArray) he ⟨hit, p⟩ hlt hne hE fun x' h' tk hx' ho hst hT hsz hk => ?_
    have ex : x' = u := by
      have hx' : its.toArray[i]? = some x' := hx'
      rw [show its.toArray[i]? = its[i]? by simp, hu] at hx'
      exact (Option.some.inj hx').symm
    subst ex
    refine ⟨_, rfl, wpAny_letOwnedTupleGo_enum (s := { s with heap := h', toks := tk + 1 }) ho fun h2 he2 sb => ?_⟩
    have hT2 : h2.get? s.heap.objs.size = some { cls := .type "tuple", data := .seq #[.int i tk, x'] } := (sb.2 _ (Nat.ne_of_gt hel)).trans hT
    have I1 : Inv X pins σ (upd H s.heap.objs.size (.tup [.int (i : Nat), x])) { s with heap := h2, toks := tk + 1 } :=
      I.turnedNew (ch := [e, it]) (fun b ob hb q => (sb.2 b (fun z => hb (by simp [z]))).trans (hk b ob (fun z => hb (by simp [z])) (fun z => hb (by simp [z])) q)) hf (Nat.le_refl _)
        ⟨by show 2 ≤ sizeLine; decide, [.int i tk, x'], .cons ⟨_, rfl⟩ (.cons ru .nil), ⟨_, hT2, rfl, _, rfl⟩⟩
    obtain ⟨⟨oi, hoi, hci, hdi⟩, _⟩ := hst
    refine ⟨.ref s.heap.objs.size, _, I1, rfl, ⟨_, x, rfl, I.hok.fresh (Nat.le_refl _), rfl, fun ys hy => by rw [I.tuple_inj hy hq]; exact hx⟩, ⟨⟨x', ?_⟩, ⟨oi, (sb.2 it (Ne.symm hne)).trans hoi, hci, hdi⟩, hne⟩, fun b hb => ?_⟩
    · rw [show ((i + 1 : Nat) : Int) = (i : Int) + 1 by omega]; exact he2
    · have hb' : b < s.heap.objs.size := by
        rcases (by simpa using hb : b = e ∨ b = it) with z | z
        · rw [z]; exact hel
        · rw [z]; exact hil
      rw [upd_ne (Nat.ne_of_lt hb')]
      exact (hf b hb).1
  done := by
    intro X hP hw hK hc i pins s σ H E I hf st hg
    subst hP hw hK
    obtain ⟨⟨old, he⟩, hit, hne⟩ := st
    obtain ⟨xs, hq, hx⟩ := hg
    obtain ⟨its, rv, p, hz⟩ := I.tuple hq
    obtain ⟨f0, f1, f2, f3, f4, f5⟩ := hf it (by simp)
    have hl := rv.length
    exact enum_endT (I.ok.hd hc) he hit p (by simp; omega) fun h' eb => ⟨rfl, I.turned (t' := s.toks) (fun b o hb q => eb b o hb q) f0 f1 f3 f4 f5⟩
  self := fun A i s Q E st h => let ⟨⟨_, he⟩, _⟩ := st; wpAny_pyIter_enum he h

/-- enumerate of a list or a tuple -/
theorem pi_enumA {X : Cx} {e : Expr} {ta : TA} {p pos tpos : Pos} {elts : List Expr} {kk : Nat} (hg : Gl X "enumerate") (hm : X.mg "enumerate" = none) (ha : PA X [e] ta) (hs : starEach [e] X.env = [(false, eval e X.env)] := by rfl) :
    PI X (.Tuple elts kk tpos) (.Call (.Name "enumerate" p) [e] [] pos) (fun s H R => ta s H fun vs H1 => ∃ a xs, vs = [.ref a] ∧ ((SqL X.K H1 a xs ∧ R (Ite X.K a) H1) ∨ (SqT X.K H1 a xs ∧ R (ItE X.K a) H1))) := by
  constructor
  intro pins s σ H R I h
  refine Call_ (ld_blt I hg hm boot_enumerate (PyProof.Rows.callWith_type1 (thn (ha.run pos pins s σ H _ I h) ?_) hs rfl))
  rintro us s1 ⟨vs, H1, I1, r1, a, xs, rfl, q⟩
  obtain ⟨u, rfl, ru⟩ := vals1 r1
  cases ru
  have nw : ∀ b ∈ [s1.heap.objs.size + 1, s1.heap.objs.size], FpOk X pins H1 b := fun b hb => by
    have hle : s1.heap.objs.size ≤ b := by
      rcases (by simpa using hb : b = s1.heap.objs.size + 1 ∨ b = s1.heap.objs.size) with z | z <;> omega
    exact I1.fpOk hle (I1.hok.fresh hle)
  rcases q with ⟨hq, q⟩ | ⟨hq, q⟩
  · obtain ⟨its, rv, p', hz⟩ := I1.list hq
    refine call_enumerate_list p'.isList fun h' he hit hsz hk => wpAny_pyIter_enum he ?_
    exact ⟨s1.heap.objs.size + 1, [s1.heap.objs.size + 1, s1.heap.objs.size], _, _, H1, rfl, I1.kept (t' := s1.toks) hk, turn_enum a _ _, ⟨⟨.none, he⟩, hit, Nat.succ_ne_self _⟩, nw, q⟩
  · obtain ⟨its, rv, p', hz⟩ := I1.tuple hq
    have ha : a ≠ s1.heap.objs.size := fun z => by
      obtain ⟨o, ho, _⟩ := p'
      exact absurd (Heap.lt_size ho) (by rw [z]; exact Nat.lt_irrefl _)
    refine enum_callT (show s1.heap.IsTuple a its.toArray from p') fun h' he hit hsz hk => wpAny_pyIter_enum he ?_
    exact ⟨s1.heap.objs.size + 1, [s1.heap.objs.size + 1, s1.heap.objs.size], _, _, H1, rfl, I1.kept (t' := s1.toks) hk, turn_enumT a _ _ ha, ⟨⟨.none, he⟩, hit, Nat.succ_ne_self _⟩, nw, q⟩
theorem walks_enumT {K : PySem.W.Frag} {F : Hp} {a : Addr} {xs : List V} {ds : List D} (h : SqT K F a xs) (r : Reps K F ds xs) : Walks K (ItE K a) F (enumD ds) := fun i F1 H f1 f2 => by
  have hs : SqT K H a xs := same_seqT (f1.trans f2) h
  refine ⟨fun d e => ?_, fun hl => ⟨xs, hs, by rw [r.length]; simpa [enumD] using hl⟩⟩
  unfold enumD at e
  rw [List.getElem?_map, List.getElem?_zipIdx] at e
  cases m : ds[i]? with
  | none => rw [m] at e; cases e
  | some d0 =>
    rw [m] at e
    simp only [Option.map_some, Option.some.injEq, Nat.zero_add] at e
    subst e
    obtain ⟨x, h1, h2⟩ := r.get m
    refine ⟨⟨xs, x, hs, h1⟩, fun y H' ⟨T, x', e1, e2, e3, e4⟩ => ?_⟩
    have := e4 xs hs
    rw [h1] at this
    cases this
    subst e1; subst e3
    exact ⟨_, rep_pair f2 e2 (d := .int (i : Nat)) rfl (h2.mono f1)⟩
def fEnumA (f : FE) : FI := fun r => (f r).bnd fun d r1 => obnd (seqOf d) fun ds => .ok (enumD ds, r1)
theorem ei_enumA {X : Cx} {E : XK} {a : Expr} {p pos tpos : Pos} {elts : List Expr} {kk : Nat} {f : FE} (hm : X.mg "enumerate" = none) (ha : EvE X E a f) (hg : Gl X "enumerate" := by rfl) (hs : starEach [a] X.env = [(false, eval a X.env)] := by rfl) (hs2 : starEach [a] X.env = (false, eval a X.env) :: starEach [] X.env := by rfl) :
    EvI X E (.Tuple elts kk tpos) (.Call (.Name "enumerate" p) [a] [] pos) (fEnumA f) := PI.imp (pi_enumA hg hm (pa_cons ha pa_nil hs2) hs) fun s H R' ⟨B, F, O, r, R, q⟩ => by
  refine ⟨B, F, O, r, R, (Post.split q).mono fun d r1 F1 O1 H1 R1 f1 k1 q1 v hv => ?_⟩
  obtain ⟨ds, e1, q1⟩ := Post.opt q1
  cases d with
  | lst es =>
    cases e1
    obtain ⟨a, xs, e1, h1, h2⟩ := hv
    subst e1
    exact ⟨a, xs, rfl, .inl ⟨R1.fh.seq h1, Post.ok (k := fun ds _ F' _ H' => ∀ J, Walks X.K J F' ds → R' J H') q1 R1 (.refl _) .refl _ (walks_enum h1 h2)⟩⟩
  | tup es =>
    cases e1
    obtain ⟨a, xs, e1, h1, h2⟩ := hv
    subst e1
    exact ⟨a, xs, rfl, .inr ⟨same_seqT R1.fh h1, Post.ok (k := fun ds _ F' _ H' => ∀ J, Walks X.K J F' ds → R' J H') q1 R1 (.refl _) .refl _ (walks_enumT h1 h2)⟩⟩
  | _ => cases e1
end Ev

/-! E10: built-ins. -/
namespace Ev
open PySem PySem.Spec PyProof.Rows L2
variable [TabsC]

inductive RepBs (K : PySem.W.Frag) (F H : Hp) : List D → List V → Prop
  | nil : RepBs K F H [] []
  | cons {d : D} {v : V} {ds : List D} {vs : List V} : RepB K F H d v → RepBs K F H ds vs → RepBs K F H (d :: ds) (v :: vs)
def rDn (K : PySem.W.Frag) (g : List D → Option D) : List V → Hp → VK → Prop := fun vs H Q => ∃ F ds d, Same F H ∧ RepBs K F H ds vs ∧ g ds = some d ∧ ∀ z F' H', Grow F H F' H' → Rep K F' d z → Q z H'
abbrev CallD (X : Cx) (f : Value) (g : List D → Option D) : Prop := CallR X f (rDn X.K g)
theorem CallR.imp {X : Cx} {f : Value} {t t' : List V → Hp → VK → Prop} (h : CallR X f t) (w : ∀ vs H Q, t' vs H Q → t vs H Q) : CallR X f t' := fun pins s σ H xs us Q I r q => h pins s σ H xs us Q I r (w _ _ _ q)
def bGets (r : Env) : List BV → Option (List D)
  | [] => some []
  | b :: bs => match bGet r b, bGets r bs with
    | some d, some ds => some (d :: ds)
    | _, _ => none
def fCB (g : List D → Option D) (fa : FA) : FE := fun r => (fa r).bnd fun bs r1 => obnd (bGets r1 bs) fun ds => obnd (g ds) fun d => .ok (d, r1)
theorem Rel.bgets {K : PySem.W.Frag} {B : Base} {F H : Hp} {O : Addr → Option C} {r : Env} {s : Sg} (R : Rel K B F O H r s) : ∀ {bs : List BV} {vs : List V} {ds : List D}, BReps K F s bs vs → bGets r bs = some ds → RepBs K F H ds vs
  | _, _, _, .nil, e => by cases e; exact .nil
  | _, _, ds, .cons (b := b) (bs := bs) h t, e => by
    unfold bGets at e
    cases h1 : bGet r b with
    | none => rw [h1] at e; cases e
    | some d =>
      cases h2 : bGets r bs with
      | none => rw [h1, h2] at e; cases e
      | some ds' =>
        rw [h1, h2] at e
        cases e
        exact .cons (R.bget h h1) (R.bgets t h2)
section
variable {X : Cx} {E : XK} {e a b : Expr} {es : List Expr} {pos p : Pos} {id T : String} {x : Str}
theorem cb_reads {g : List D → Option D} {fa : FA} {s : Sg} {H : Hp} {Q : VK} (h : tE X.K X.mg E (fCB g fa) s H Q) : tCB (rDn X.K g) (tA X.K X.mg E fa) s H Q := by
  obtain ⟨B, F, O, r, R, q⟩ := h
  refine ⟨B, F, O, r, R, (Post.split q).mono fun bs r1 F1 O1 H1 R1 f1 k1 q1 vs hvs => ?_⟩
  obtain ⟨ds, e1, q1⟩ := Post.opt q1
  obtain ⟨d, e2, q1⟩ := Post.opt q1
  exact ⟨F1, ds, d, R1.fh, R1.bgets hvs e1, e2, fun z F' H' gr hz => Post.ok (k := fun d _ F' _ H' => ∀ v, Rep X.K F' d v → Q v H') q1 (R1.grow gr) gr.ff .refl z hz⟩
theorem ev_callB {g : List D → Option D} {fa : FA} (hc : CallD X (.builtin id) g) (hm : X.mg x = none) (hv : bootBuiltins x = some (.builtin id)) (ha : EvA X E (e :: es) fa) (hg : Gl X x := by rfl) (hn : x ≠ "__name__" := by decide) (hdb : (x == ("__debug__" : Str)) = false := by decide)
    (he : starEach (e :: es) X.env = (false, eval e X.env) :: starEach es X.env := by rfl) (hpl : (backTo pos (starEach es X.env)).any (·.1) = false := by rfl) : EvE X E (.Call (.Name x p) (e :: es) [] pos) (fCB g fa) :=
  PE.imp (pe_callB hc hg hm hv ha hn hdb he hpl) fun s H Q h => cb_reads h
theorem ev_callT {g : List D → Option D} {fa : FA} (hc : CallD X (.type T) g) (hm : X.mg x = none) (hv : bootBuiltins x = some (.type T)) (ha : EvA X E (e :: es) fa) (hg : Gl X x := by rfl) (hn : x ≠ "__name__" := by decide) (hdb : (x == ("__debug__" : Str)) = false := by decide)
    (he : starEach (e :: es) X.env = (false, eval e X.env) :: starEach es X.env := by rfl) (hpl : (backTo pos (starEach es X.env)).any (·.1) = false := by rfl) : EvE X E (.Call (.Name x p) (e :: es) [] pos) (fCB g fa) :=
  PE.imp (pe_callTy hc hg hm hv ha hn hdb he hpl) fun s H Q h => cb_reads h

/-- one argument -/
theorem CallD.one {f : Value} {g : D → Option D} (h : ∀ dx d, g dx = some d → CallR X f (fun vs H Q => ∃ F x, vs = [x] ∧ Same F H ∧ RepB X.K F H dx x ∧ ∀ z F' H', Grow F H F' H' → Rep X.K F' d z → Q z H')) :
    CallD X f (fun ds => match ds with
      | [dx] => g dx
      | _ => none) := fun pins s σ H xs us Q I r ⟨F, ds, d, f1, hr, e, q⟩ => by
  match ds, hr, e with
  | [dx], .cons hx .nil, e => exact h dx d e pins s σ H _ us Q I r ⟨F, _, rfl, f1, hx, q⟩
  | [], _, e => cases e
  | _ :: _ :: _, _, e => cases e
theorem CallD.two {f : Value} {g : D → D → Option D} (h : ∀ dx dy d, g dx dy = some d → CallR X f (fun vs H Q => ∃ F x y, vs = [x, y] ∧ Same F H ∧ RepB X.K F H dx x ∧ RepB X.K F H dy y ∧ ∀ z F' H', Grow F H F' H' → Rep X.K F' d z → Q z H')) :
    CallD X f (fun ds => match ds with
      | [dx, dy] => g dx dy
      | _ => none) := fun pins s σ H xs us Q I r ⟨F, ds, d, f1, hr, e, q⟩ => by
  match ds, hr, e with
  | [dx, dy], .cons hx (.cons hy .nil), e => exact h dx dy d e pins s σ H _ us Q I r ⟨F, _, _, rfl, f1, hx, hy, q⟩
  | [], _, e => cases e
  | [_], _, e => cases e
  | _ :: _ :: _ :: _, _, e => cases e
abbrev g1 (g : D → Option D) : List D → Option D := fun ds => match ds with
  | [dx] => g dx
  | _ => none
abbrev g2 (g : D → D → Option D) : List D → Option D := fun ds => match ds with
  | [dx, dy] => g dx dy
  | _ => none

def gLen : D → Option D
  | .lst ds => some (.int ds.length)
  | .tup ds => some (.int ds.length)
  | .str x => if x.length ≤ sizeLine then some (.int x.length) else none
  | _ => none
theorem cd_len : CallD X (.builtin "len") (g1 gLen) := CallD.one fun dx d e => by
  cases dx with
  | lst ds =>
    cases e
    exact CallR.imp call_len fun vs H Q ⟨F, x, e1, f1, ⟨a, xs, e2, h1, h2⟩, q⟩ => ⟨x, xs.length, e1, by rw [e2]; exact .inl ⟨xs, h1, rfl⟩, by rw [h2.length]; exact q _ F H (.refl f1) rfl⟩
  | tup ds =>
    cases e
    exact CallR.imp call_len fun vs H Q ⟨F, x, e1, f1, ⟨a, xs, e2, h1, h2⟩, q⟩ => ⟨x, xs.length, e1, by rw [e2]; exact .inr ⟨xs, same_seqT f1 h1, rfl⟩, by rw [h2.length]; exact q _ F H (.refl f1) rfl⟩
  | str z =>
    simp only [gLen] at e
    split at e
    · rename_i hz
      cases e
      exact CallR.imp call_len fun vs H Q ⟨F, x, e1, f1, e2, q⟩ => ⟨x, z.length, e1, by rw [show x = V.str z from e2]; exact ⟨hz, rfl⟩, q _ F H (.refl f1) rfl⟩
    · cases e
  | _ => cases e
def gAbs : D → Option D
  | .int i => some (.int (if i < 0 then -i else i))
  | _ => none
theorem cd_abs : CallD X (.builtin "abs") (g1 gAbs) := CallD.one fun dx d e => by
  cases dx with
  | int i => cases e; exact CallR.imp call_abs fun vs H Q ⟨F, x, e1, f1, e2, q⟩ => ⟨i, by rw [e1, show x = V.int i from e2], q _ F H (.refl f1) rfl⟩
  | _ => cases e
def gInt : D → Option D
  | .int i => some (.int i)
  | .bl b => some (.int (if b then 1 else 0))
  | _ => none
theorem cd_int : CallD X (.type "int") (g1 gInt) := CallD.one fun dx d e => by
  cases dx with
  | int i => cases e; exact CallR.imp call_int1 fun vs H Q ⟨F, x, e1, f1, e2, q⟩ => .inl ⟨i, by rw [e1, show x = V.int i from e2], q _ F H (.refl f1) rfl⟩
  | bl i => cases e; exact CallR.imp call_int1 fun vs H Q ⟨F, x, e1, f1, e2, q⟩ => .inr ⟨i, by rw [e1, show x = V.bl i from e2], q _ F H (.refl f1) rfl⟩
  | _ => cases e
def gMax2 : D → D → Option D
  | .int i, .int j => some (.int (if j > i then j else i))
  | _, _ => none
def gMin2 : D → D → Option D
  | .int i, .int j => some (.int (if j < i then j else i))
  | _, _ => none
theorem cd_max2 (hc : X.calm = true) : CallD X (.builtin "max") (g2 gMax2) := CallD.two fun dx dy d e => by
  cases dx <;> cases dy <;> first | (cases e; done) | skip
  rename_i i j
  cases e
  exact CallR.imp (call_max2 hc) fun vs H Q ⟨F, x, y, e1, f1, e2, e3, q⟩ => ⟨i, j, by rw [e1, show x = V.int i from e2, show y = V.int j from e3], q _ F H (.refl f1) rfl⟩
theorem cd_min2 (hc : X.calm = true) : CallD X (.builtin "min") (g2 gMin2) := CallD.two fun dx dy d e => by
  cases dx <;> cases dy <;> first | (cases e; done) | skip
  rename_i i j
  cases e
  exact CallR.imp (call_min2 hc) fun vs H Q ⟨F, x, y, e1, f1, e2, e3, q⟩ => ⟨i, j, by rw [e1, show x = V.int i from e2, show y = V.int j from e3], q _ F H (.refl f1) rfl⟩
def bls? : List D → Option (List Bool)
  | [] => some []
  | .bl i :: ds => (bls? ds).map (i :: ·)
  | _ => none
theorem bls_eq : ∀ {ds : List D} {ns : List Bool}, bls? ds = some ns → ds = ns.map D.bl
  | [], ns, e => by cases e; rfl
  | .bl i :: ds, ns, e => by
    obtain ⟨ms, e2, e3⟩ := Option.map_eq_some_iff.mp (show (bls? ds).map (i :: ·) = some ns from e)
    subst e3
    rw [bls_eq e2]; rfl
  | .non :: _, _, e => by cases e
  | .int _ :: _, _, e => by cases e
  | .str _ :: _, _, e => by cases e
  | .tup _ :: _, _, e => by cases e
  | .lst _ :: _, _, e => by cases e
  | .dct _ :: _, _, e => by cases e
theorem ints_eq : ∀ {ds : List D} {ns : List Int}, ints? ds = some ns → ds = ns.map D.int
  | [], ns, e => by cases e; rfl
  | .int i :: ds, ns, e => by
    obtain ⟨ms, e2, e3⟩ := Option.map_eq_some_iff.mp (show (ints? ds).map (i :: ·) = some ns from e)
    subst e3
    rw [ints_eq e2]; rfl
  | .non :: _, _, e => by cases e
  | .bl _ :: _, _, e => by cases e
  | .str _ :: _, _, e => by cases e
  | .tup _ :: _, _, e => by cases e
  | .lst _ :: _, _, e => by cases e
  | .dct _ :: _, _, e => by cases e
def gAll : D → Option D
  | .lst ds => (bls? ds).map fun bs => .bl (bs.all _root_.id)
  | _ => none
def gAny : D → Option D
  | .lst ds => (bls? ds).map fun bs => .bl (bs.any _root_.id)
  | _ => none
theorem cd_all (hc : X.calm = true) : CallD X (.builtin "all") (g1 gAll) := CallD.one fun dx d e => by
  cases dx with
  | lst ds =>
    obtain ⟨bs, e1, e2⟩ := Option.map_eq_some_iff.mp e
    rw [bls_eq e1]; subst e2
    exact CallR.imp (cr_all hc) fun vs H Q ⟨F, x, e1, f1, ⟨a, xs, e2, h1, h2⟩, q⟩ => ⟨a, bs, by rw [e1, e2], by rw [← h2.bls]; exact h1, q _ F H (.refl f1) rfl⟩
  | _ => cases e
theorem cd_any (hc : X.calm = true) : CallD X (.builtin "any") (g1 gAny) := CallD.one fun dx d e => by
  cases dx with
  | lst ds =>
    obtain ⟨bs, e1, e2⟩ := Option.map_eq_some_iff.mp e
    rw [bls_eq e1]; subst e2
    exact CallR.imp (cr_any hc) fun vs H Q ⟨F, x, e1, f1, ⟨a, xs, e2, h1, h2⟩, q⟩ => ⟨a, bs, by rw [e1, e2], by rw [← h2.bls]; exact h1, q _ F H (.refl f1) rfl⟩
  | _ => cases e
/-- tuple(x) -/
def gTupOf : D → Option D
  | .lst ds => some (.tup ds)
  | .tup ds => some (.tup ds)
  | _ => none
theorem cd_tuple : CallD X (.type "tuple") (g1 gTupOf) := CallD.one fun dx d e => by
  cases dx with
  | lst ds =>
    cases e
    exact CallR.imp call_tuple_of fun vs H Q ⟨F, x, e1, f1, ⟨a, xs, e2, h1, h2⟩, q⟩ => ⟨a, xs, by rw [e1, e2], .inl ⟨h1, fun p np => by
      obtain ⟨g, h3⟩ := new_tup f1 np h2
      exact q _ _ _ g h3⟩⟩
  | tup ds =>
    cases e
    exact CallR.imp call_tuple_of fun vs H Q ⟨F, x, e1, f1, ⟨a, xs, e2, h1, h2⟩, q⟩ => ⟨a, xs, by rw [e1, e2], .inr ⟨same_seqT f1 h1, q _ F H (.refl f1) ⟨a, xs, rfl, h1, h2⟩⟩⟩
  | _ => cases e

/-! ### new lists -/
def rDnO (K : PySem.W.Frag) (g : List D → Option (List D)) : List V → Hp → VK → Prop := fun vs H Q => ∃ F ds es, Same F H ∧ RepBs K F H ds vs ∧ g ds = some es ∧ ∀ p xs, H p = none → Reps K F es xs → Q (.ref p) (upd H p (.lst xs))
abbrev CallDO (X : Cx) (f : Value) (g : List D → Option (List D)) : Prop := CallR X f (rDnO X.K g)
def fCO (g : List D → Option (List D)) (fa : FA) : FO := fun r => (fa r).bnd fun bs r1 => obnd (bGets r1 bs) fun ds => obnd (g ds) fun es => .ok (.lst es, r1)
theorem co_reads {g : List D → Option (List D)} {fa : FA} {s : Sg} {H : Hp} {Q : VK} (h : tO X.K X.mg E (fCO g fa) s H Q) : tCB (rDnO X.K g) (tA X.K X.mg E fa) s H Q := by
  obtain ⟨B, F, O, r, R, q⟩ := h
  refine ⟨B, F, O, r, R, ?_⟩
  unfold fCO at q
  cases m : fa r with
  | stuck => rw [m] at q; exact q
  | ex x => rw [m] at q; exact q
  | ok pr =>
    obtain ⟨bs, r1⟩ := pr
    rw [m] at q
    have q : Post X.K X.mg E B F O r s (obnd (bGets r1 bs) fun ds => obnd (g ds) fun es => Res.ok (C.lst es, r1)) (fun c r' _ O' H' => ∀ a, O' a = some c → B.H0 a = none → Free s r' a → (∀ c0, O a = some c0 → ¬ Free s r a) → Q (.ref a) H') := q
    obtain ⟨ds, e1, q⟩ := Post.opt q
    obtain ⟨es, e2, q⟩ := Post.opt q
    exact fun F1 O1 H1 R1 f1 k1 vs hvs => ⟨F1, ds, es, R1.fh, R1.bgets hvs e1, e2, fun p xs np hx => born_lst (fo := .stuck) R1 f1 k1 q np hx⟩
theorem eo_callB {g : List D → Option (List D)} {fa : FA} (hc : CallDO X (.builtin id) g) (hm : X.mg x = none) (hv : bootBuiltins x = some (.builtin id)) (ha : EvA X E (e :: es) fa) (hg : Gl X x := by rfl) (hn : x ≠ "__name__" := by decide) (hdb : (x == ("__debug__" : Str)) = false := by decide)
    (he : starEach (e :: es) X.env = (false, eval e X.env) :: starEach es X.env := by rfl) (hpl : (backTo pos (starEach es X.env)).any (·.1) = false := by rfl) : EvO X E (.Call (.Name x p) (e :: es) [] pos) (fCO g fa) :=
  PE.imp (pe_callB hc hg hm hv ha hn hdb he hpl) fun s H Q h => co_reads h
theorem eo_callT {g : List D → Option (List D)} {fa : FA} (hc : CallDO X (.type T) g) (hm : X.mg x = none) (hv : bootBuiltins x = some (.type T)) (ha : EvA X E (e :: es) fa) (hg : Gl X x := by rfl) (hn : x ≠ "__name__" := by decide) (hdb : (x == ("__debug__" : Str)) = false := by decide)
    (he : starEach (e :: es) X.env = (false, eval e X.env) :: starEach es X.env := by rfl) (hpl : (backTo pos (starEach es X.env)).any (·.1) = false := by rfl) : EvO X E (.Call (.Name x p) (e :: es) [] pos) (fCO g fa) :=
  PE.imp (pe_callTy hc hg hm hv ha hn hdb he hpl) fun s H Q h => co_reads h
def g1o (g : D → Option (List D)) : List D → Option (List D) := fun ds => match ds with
  | [dx] => g dx
  | _ => none
theorem CallDO.one {f : Value} {g : D → Option (List D)} (h : ∀ dx d, g dx = some d → CallR X f (fun vs H Q => ∃ F x, vs = [x] ∧ Same F H ∧ RepB X.K F H dx x ∧ ∀ p xs, H p = none → Reps X.K F d xs → Q (.ref p) (upd H p (.lst xs)))) : CallDO X f (g1o g) :=
  fun pins s σ H xs us Q I r ⟨F, ds, d, f1, hr, e, q⟩ => by
  match ds, hr, e with
  | [dx], .cons hx .nil, e => exact h dx d e pins s σ H _ us Q I r ⟨F, _, rfl, f1, hx, q⟩
  | [], _, e => cases e
  | _ :: _ :: _, _, e => cases e
theorem cdo_list : CallDO X (.type "list") (g1o seqOf) := CallDO.one fun dx d e => by
  cases dx with
  | lst ds =>
    cases e
    exact CallR.imp call_list_of fun vs H Q ⟨F, x, e1, f1, ⟨a, xs, e2, h1, h2⟩, q⟩ => ⟨a, xs, by rw [e1, e2], .inl h1, fun l nl => q l xs nl h2⟩
  | tup ds =>
    cases e
    exact CallR.imp call_list_of fun vs H Q ⟨F, x, e1, f1, ⟨a, xs, e2, h1, h2⟩, q⟩ => ⟨a, xs, by rw [e1, e2], .inr (same_seqT f1 h1), fun l nl => q l xs nl h2⟩
  | _ => cases e
end
end Ev

/-! E11: + and * of sequences, tests of type, is of bools. -/
namespace Ev
open PySem PySem.Spec PyProof.Rows L2
variable [TabsC]

section
variable {X : Cx}
theorem opD_add : OpD X (binaryOp .Add) gAdd := OpD.mk fun dx dy d e => by
  cases dx <;> cases dy <;> first | (cases e; done) | skip
  · simp only [gAdd, Option.some.injEq] at e; subst e; exact op2_int0 op_add fun _ => rfl
  · simp only [gAdd] at e
    split at e
    · rename_i h; cases e
      exact OpR.imp op_add_str fun x y H Q ⟨F, f1, hx, hy, q⟩ => ⟨_, _, hx, hy, h, q _ F H (.refl f1) rfl⟩
    · cases e
  · simp only [gAdd] at e
    split at e
    · rename_i ds es h; cases e
      exact OpR.imp op_catA fun x y H Q ⟨F, f1, ⟨a, xs, e1, h1, h2⟩, ⟨b, ys, e2, h3, h4⟩, q⟩ => by
        refine ⟨a, b, xs, ys, e1, e2, same_seqT f1 h1, same_seqT f1 h3, by rw [h2.length, h4.length]; exact h, fun z => ?_, fun _ z => ?_, fun _ _ p np => ?_⟩
        · have : ds = [] := by have := h2.length; rw [z] at this; exact List.length_eq_zero_iff.mp this.symm
          subst this
          exact q _ F H (.refl f1) ⟨b, ys, rfl, h3, h4⟩
        · have : es = [] := by have := h4.length; rw [z] at this; exact List.length_eq_zero_iff.mp this.symm
          subst this
          rw [List.append_nil] at q
          exact q _ F H (.refl f1) ⟨a, xs, rfl, h1, h2⟩
        · obtain ⟨g, h5⟩ := new_tup f1 np (h2.append h4)
          exact q _ _ _ g h5
    · cases e

/-! ### new lists from two operands -/
def rD2O (K : PySem.W.Frag) (g : D → D → Option (List D)) : R2 := fun x y H Q => ∃ F dx dy es, Same F H ∧ RepB K F H dx x ∧ RepB K F H dy y ∧ g dx dy = some es ∧ ∀ p xs, H p = none → Reps K F es xs → Q (.ref p) (upd H p (.lst xs))
abbrev OpO (X : Cx) (f : Value → Value → Sem Value) (g : D → D → Option (List D)) : Prop := OpR X f (rD2O X.K g)
def fBinO (g : D → D → Option (List D)) (fa fb : FB) : FO := fun r => (fa r).bnd fun x r1 => (fb r1).bnd fun y r2 => obnd (bGet r2 x) fun dx => obnd (bGet r2 y) fun dy => obnd (g dx dy) fun ds => .ok (.lst ds, r2)
theorem binO_reads {E : XK} {g : D → D → Option (List D)} {fa fb : FB} {s : Sg} {H : Hp} {Q : VK} (h : tO X.K X.mg E (fBinO g fa fb) s H Q) : tB X.K X.mg E fa s H fun x H1 => tB X.K X.mg E fb s H1 fun y H2 => rD2O X.K g x y H2 Q := by
  obtain ⟨B, F, O, r, R, q⟩ := h
  refine ⟨B, F, O, r, R, ?_⟩
  have q : Post X.K X.mg E B F O r s ((fa r).bnd fun x r1 => (fb r1).bnd fun y r2 => obnd (bGet r2 x) fun dx => obnd (bGet r2 y) fun dy => obnd (g dx dy) fun ds => .ok (C.lst ds, r2)) (fun c r' _ O' H' => ∀ a, O' a = some c → B.H0 a = none → Free s r' a → (∀ c0, O a = some c0 → ¬ Free s r a) → Q (.ref a) H') := q
  refine (Post.split q).mono fun x r1 F1 O1 H1 R1 f1 k1 q1 v hv => ?_
  refine ⟨B, F1, O1, r1, R1, (Post.split q1).mono fun y r2 F2 O2 H2 R2 f2 k2 q2 u hu => ?_⟩
  obtain ⟨dx, ex, q2⟩ := Post.opt q2
  obtain ⟨dy, ey, q2⟩ := Post.opt q2
  obtain ⟨d, ed, q2⟩ := Post.opt q2
  refine ⟨F2, dx, dy, d, R2.fh, R2.bget (hv.mono f2) ex, R2.bget hu ey, ed, fun p xs np hx => ?_⟩
  obtain ⟨ho, h0, fr, hf⟩ := R2.free_of np
  obtain ⟨R3, k3⟩ := R2.born (o := .lst xs) (c := .lst d) np ⟨xs, upd_same, hx⟩
  have q2 : ∀ F' O' H', Rel X.K B F' O' H' r2 s → Same F2 F' → Keep s r2 r2 O2 O' → ∀ a, O' a = some (.lst d) → B.H0 a = none → Free s r2 a → (∀ c0, O a = some c0 → ¬ Free s r a) → Q (.ref a) H' := q2
  refine q2 F2 _ _ R3 (.refl _) k3 p (by simp) h0 fr fun c0 e f => ?_
  obtain ⟨z, _⟩ := (k1.trans k2) p c0 e f
  rw [ho] at z; cases z
theorem eo_bin {E : XK} {a b : Expr} {op : Operator} {pos : Pos} {g : D → D → Option (List D)} {fa fb : FB} (o : OpO X (binaryOp op) g) (ha : EvB X E a fa) (hb : EvB X E b fb) : EvO X E (.BinOp a op b pos) (fBinO g fa fb) :=
  PE.imp (pe_op o ha hb) fun s H Q h => binO_reads h

/-! list + list, list * int of any list -/
theorem list_addW (l b : Addr) (items items2 : Array Value) (n n2 : Nat) (dd dd2 : Option Addr) (sl sl2 : Array (Option Value)) (hc0 : items.size + items2.size ≤ sizeLine) :
    Meets (Builtin.«list.__add__» ⟨[.ref l, .ref b], []⟩) (fun _ R s => s.heap.get? l = some { cls := .type "list", dict := dd, data := .seq items n, slots := sl } ∧ s.heap.get? b = some { cls := .type "list", dict := dd2, data := .seq items2 n2, slots := sl2 } ∧ R (.ok (.ret (Value.ref s.heap.objs.size))) { s with heap := s.heap.push { cls := Value.type "list", data := Data.seq (items ++ items2) }, toks := s.toks }) :=
  .of_wp fun prog w A R s h => by
    obtain ⟨hp, g, d, tk, os⟩ := s
    obtain ⟨hl, hb, h⟩ := h
    have f1 := AutoSeq1.idx_int
    have f2 := AutoSeq1.sub_tuple_tuple
    have f3 := AutoSeq1.sub_list_list
    have f4 := AutoSeq1.sub_tuple_list
    have f5 := AutoSeq1.sub_list_tuple
    wp_walk using wpAny_loadPart' hl, wpAny_loadPart' hb
    exact ⟨_, rfl, h⟩
theorem list_mulW (l : Addr) (items : Array Value) (n : Nat) (dd : Option Addr) (sl : Array (Option Value)) (x : Int) (u : Tok) (hc0 : ¬(!Builtin.List.listFitsIndex x) = true) (hc1 : ¬items.size * x.toNat > (2 ^ 63 - 1) / 8) (hc2 : ¬Builtin.List.listTooLong (items.size * x.toNat) = true) :
    Meets (Builtin.«list.__mul__» ⟨[.ref l, .int x u], []⟩) (fun _ R s => s.heap.get? l = some { cls := .type "list", dict := dd, data := .seq items n, slots := sl } ∧
      R (.ok (.ret (Value.ref s.heap.objs.size))) { s with heap := s.heap.push { cls := Value.type "list", data := Data.seq (List.foldl (fun x1 x2 => x1 ++ x2) #[] (List.replicate (if items.isEmpty = true then 0 else x.toNat) items)) }, toks := s.toks }) :=
  .of_wp fun prog w A R s h => by
    obtain ⟨hp, g, d, tk, os⟩ := s
    obtain ⟨hl, h⟩ := h
    have hsz := AutoListH.joined_fits hc2
    wp_walk using wpAny_loadPart' hl
    refine wpAny_ite_false (decide_eq_false (Nat.not_lt.mpr hsz)) ?_
    wp_walk using wpAny_loadPart' hl
    exact ⟨_, rfl, h⟩
theorem int_rmulW (a : Int) (t : Tok) (l : Addr) (items : Array Value) (n : Nat) (dd : Option Addr) (sl : Array (Option Value)) :
    Meets (Builtin.«int.__rmul__» ⟨[.int a t, .ref l], []⟩) (fun _ R s => s.heap.get? l = some { cls := .type "list", dict := dd, data := .seq items n, slots := sl } ∧ R (.ok (.ret Value.notImplemented)) s) :=
  .of_wp fun prog w A R s h => by obtain ⟨hp, g, d, tk, os⟩ := s; obtain ⟨hl, h⟩ := h; wp_walk using wpAny_loadPart' hl; exact ⟨_, rfl, h⟩
def gCatL : D → D → Option (List D)
  | .lst xs, .lst ys => if xs.length + ys.length ≤ sizeLine then some (xs ++ ys) else none
  | _, _ => none
noncomputable def gRepL : D → D → Option (List D)
  | .lst xs, .int k => ifP (-(2 ^ 63) ≤ k ∧ k < 2 ^ 63 ∧ xs.length * k.toNat ≤ sizeLine) (some (List.replicate k.toNat xs).flatten) none
  | _, _ => none
theorem opO_cat : OpO X (binaryOp .Add) gCatL := by
  intro pins s σ H x y v u Q I rx ry ⟨F, dx, dy, es, f1, hx, hy, e, q⟩
  cases dx with
  | lst ds =>
    cases dy with
    | lst es' =>
      simp only [gCatL] at e
      split at e
      · rename_i hl
        cases e
        obtain ⟨a, xs, e1, h1, h2⟩ := hx
        obtain ⟨b, ys, e2, h3, h4⟩ := hy
        subst e1; subst e2
        cases rx
        cases ry
        obtain ⟨its, rv, ⟨o, n, g1, g2, g3, g4⟩, _⟩ := I.list h1
        obtain ⟨its2, rv2, ⟨o2, n2, k1, k2, k3, k4⟩, _⟩ := I.list h3
        obtain ⟨oc, od, dt, sl⟩ := o
        obtain ⟨oc2, od2, dt2, sl2⟩ := o2
        simp only at g2 g3 g4 k2 k3 k4
        subst g2 g4 k2 k4
        have hz : its.toArray.size + its2.toArray.size ≤ sizeLine := by
          rw [List.size_toArray, List.size_toArray, ← rv.length, ← rv2.length, h2.length, h4.length]
          exact hl
        refine concat_meets ⟨_, g1, rfl⟩ ⟨_, k1, rfl⟩ noFill_list_add seq_list_add PySem.F.slot_list_add PySem.F.entry_list_add (PySem.F.args_list_add_2 _ _) (list_addW a b its.toArray its2.toArray n n2 od od2 sl sl2 hz) ⟨g1, k1, ?_⟩
        have ea : its.toArray ++ its2.toArray = (its ++ its2).toArray := by simp
        rw [ea]
        exact ⟨.ref _, _, I.lnew (t' := s.toks) (rv.append rv2) (by rw [List.length_append, h2.length, h4.length]; exact hl), rfl, q _ _ I.fresh (h2.append h4)⟩
      · cases e
    | _ => cases e
  | _ => cases dy <;> cases e
theorem opO_rep : OpO X (binaryOp .Mult) gRepL := by
  intro pins s σ H x y v u Q I rx ry ⟨F, dx, dy, es, f1, hx, hy, e, q⟩
  cases dx with
  | lst ds =>
    cases dy with
    | int k =>
      obtain ⟨⟨hk1, hk2, hz⟩, e⟩ := ifP_some (show ifP (-(2 ^ 63) ≤ k ∧ k < 2 ^ 63 ∧ ds.length * k.toNat ≤ sizeLine) (some (List.replicate k.toNat ds).flatten) none = some es from e)
      subst e
      · skip
        obtain ⟨a, xs, e1, h1, h2⟩ := hx
        subst e1
        rw [show y = V.int k from hy] at ry
        cases rx
        obtain ⟨t, rfl⟩ := ry
        obtain ⟨its, rv, ⟨o, n, g1, g2, g3, g4⟩, _⟩ := I.list h1
        obtain ⟨oc, od, dt, sl⟩ := o
        simp only at g2 g3 g4
        subst g2 g4
        have hl' : xs.length = its.length := rv.length
        have hlen : its.toArray.size * k.toNat ≤ sizeLine := by rw [List.size_toArray, ← hl', h2.length]; exact hz
        have hcap : ¬ its.toArray.size * k.toNat > (2 ^ 63 - 1) / 8 := by
          have : (sizeLine : Nat) ≤ (2 ^ 63 - 1) / 8 := by decide
          omega
        have hfit : ¬ (!Builtin.List.listFitsIndex k) = true := by
          rw [fitsIndex_both hk1 hk2]
          exact Bool.false_ne_true
        have hlong : ¬ Builtin.List.listTooLong (its.toArray.size * k.toNat) = true := by
          rw [notLongL hlen]
          exact Bool.false_ne_true
        have hnew : List.foldl (fun x1 x2 => x1 ++ x2) #[] (List.replicate (if its.toArray.isEmpty = true then 0 else k.toNat) its.toArray) = (List.replicate k.toNat its).flatten.toArray := by
          rw [size_rep]
          cases its with
          | nil => simp
          | cons a r' => rw [if_neg (by simp)]
        refine wpAny_binaryOp_repeat_ref (T := "list") (U := "int") (by decide) ⟨_, g1, rfl⟩ (fun s' => typeIs_int s' k t) noFill_list_mul PySem.F.fills_int_mul PySem.F.slot_int_rmul repeat_list PySem.F.slot_int_index.lookup
          (call_meets PySem.F.slot_int_rmul (typeIs_int s k t) PySem.F.entry_int_rmul (PySem.F.args_int_rmul_2 _ _) (int_rmulW k t a its.toArray n od sl)
            ⟨g1, rfl, ⟨_, g1, rfl⟩, call_meets PySem.F.slot_list_mul ⟨_, g1, rfl⟩ PySem.F.entry_list_mul (PySem.F.args_list_mul_2 _ _) (list_mulW a its.toArray n od sl k t hfit hcap hlong) ⟨g1, ?_⟩⟩)
        rw [hnew]
        exact ⟨.ref _, _, I.lnew (t' := s.toks) (rv.rep k.toNat) (by rw [PyProof.Rows.lm_len_rep_flat, Nat.mul_comm, h2.length]; exact hz), rfl, q _ _ I.fresh (h2.replicate k.toNat)⟩
    | _ => cases e
  | _ => cases dy <;> cases e

/-! tuple * int -/
theorem tuple_mulW1 (l : Addr) (items : Array Value) (n : Nat) (dd : Option Addr) (sl : Array (Option Value)) (x : Int) (u : Tok) (c0 : (decide (x < -(2 ^ 63)) || decide (x ≥ 2 ^ 63)) = false) (c1 : (items.isEmpty || x == 1) = true) :
    Meets (Builtin.«tuple.__mul__» ⟨[.ref l, .int x u], []⟩) (fun _ R s => s.heap.get? l = some { cls := .type "tuple", dict := dd, data := .seq items n, slots := sl } ∧
      R (.ok (.ret (Value.ref l))) { s with heap := s.heap, toks := s.toks }) :=
  .of_wp fun prog w A R s h => by
    obtain ⟨hp, g, d, tk, os⟩ := s
    obtain ⟨hl, h⟩ := h
    have f1 := AutoSeq1.idx_int
    wp_walk using wpAny_loadPart' hl
    repeat (first
      | (refine wpAny_ite_false (decide_eq_false (by rw [c0]; exact Bool.false_ne_true)) ?_; wp_walk using wpAny_loadPart' hl)
      | (refine wpAny_ite_true (decide_eq_true c1) ?_; wp_walk using wpAny_loadPart' hl))
    exact ⟨_, rfl, h⟩
theorem tuple_mulW0 (l : Addr) (items : Array Value) (n : Nat) (dd : Option Addr) (sl : Array (Option Value)) (x : Int) (u : Tok) (c0 : (decide (x < -(2 ^ 63)) || decide (x ≥ 2 ^ 63)) = false) (c1 : (items.isEmpty || x == 1) = false) (c2 : (decide (x ≤ 0) || items.isEmpty) = true) :
    Meets (Builtin.«tuple.__mul__» ⟨[.ref l, .int x u], []⟩) (fun _ R s => s.heap.get? l = some { cls := .type "tuple", dict := dd, data := .seq items n, slots := sl } ∧
      R (.ok (.ret (Value.ref s.heap.objs.size))) { s with heap := s.heap.push { cls := Value.type "tuple", data := Data.seq #[] }, toks := s.toks }) :=
  .of_wp fun prog w A R s h => by
    obtain ⟨hp, g, d, tk, os⟩ := s
    obtain ⟨hl, h⟩ := h
    have f1 := AutoSeq1.idx_int
    wp_walk using wpAny_loadPart' hl
    repeat (first
      | (refine wpAny_ite_false (decide_eq_false (by rw [c0]; exact Bool.false_ne_true)) ?_; wp_walk using wpAny_loadPart' hl)
      | (refine wpAny_ite_false (decide_eq_false (by rw [c1]; exact Bool.false_ne_true)) ?_; wp_walk using wpAny_loadPart' hl)
      | (refine wpAny_ite_true (decide_eq_true c2) ?_; wp_walk using wpAny_loadPart' hl))
    exact ⟨_, rfl, h⟩
noncomputable def gMulA : D → D → Option D
  | .tup xs, .int k => if xs ≠ [] ∧ -1000 ≤ k ∧ k ≤ 1000 ∧ xs.length ≤ 1000 then some (.tup (List.replicate k.toNat xs).flatten) else none
  | x, y => gMul x y
instance decNil {α : Type} (xs : List α) : Decidable (xs ≠ []) := match xs with
  | [] => isFalse fun h => h rfl
  | _ :: _ => isTrue fun h => nomatch h
theorem opD_mulA : OpD X (binaryOp .Mult) gMulA := OpD.mk fun dx dy d e => by
  have old : gMul dx dy = some d → OpR X (binaryOp .Mult) (fun x y H Q => ∃ F, Same F H ∧ RepB X.K F H dx x ∧ RepB X.K F H dy y ∧ ∀ z F' H', Grow F H F' H' → Rep X.K F' d z → Q z H') := fun e =>
    OpR.imp opD_mul fun x y H Q ⟨F, f1, hx, hy, q⟩ => ⟨F, dx, dy, d, f1, hx, hy, e, q⟩
  cases dx with
  | tup ds =>
    cases dy with
    | int k =>
      simp only [gMulA] at e
      split at e
      · rename_i hc
        obtain ⟨hne, hk0, hk2, hl⟩ := hc
        cases e
        by_cases h1 : k = 1
        · subst h1
          intro pins s σ H x y v u Q I rx ry ⟨F, f1, ⟨a, xs, e1, hT, hr⟩, hy, q⟩
          subst e1
          rw [show y = V.int 1 from hy] at ry
          cases rx
          obtain ⟨t, rfl⟩ := ry
          obtain ⟨its, r, ⟨⟨cls, dd, data, sl⟩, ho, hc, n, hd⟩, hs⟩ := I.tuple (same_seqT f1 hT)
          simp only at hc hd
          subst hc hd
          refine wpAny_binaryOp_repeat_ref (T := "tuple") (U := "int") (by decide) ⟨_, ho, rfl⟩ (fun s' => typeIs_int s' 1 t) noFill_tuple_mul PySem.F.fills_int_mul PySem.F.slot_int_rmul repeat_tuple PySem.F.slot_int_index.lookup
            (call_meets PySem.F.slot_int_rmul (typeIs_int s 1 t) PySem.F.entry_int_rmul (PySem.F.args_int_rmul_2 _ _) (int_rmul_tuple 1 t a its.toArray n dd sl)
              ⟨ho, rfl, ⟨_, ho, rfl⟩, call_meets PySem.F.slot_tuple_mul ⟨_, ho, rfl⟩ PySem.F.entry_tuple_mul (PySem.F.args_tuple_mul_2 _ _) (tuple_mulW1 a its.toArray n dd sl 1 t (by decide) (by simp)) ⟨ho, ?_⟩⟩)
          exact ⟨.ref a, H, I.tok _, rfl, q _ F H (.refl f1) (by
            have : (List.replicate (1 : Int).toNat ds).flatten = ds := by simp
            rw [this]
            exact ⟨a, xs, rfl, hT, hr⟩)⟩
        · by_cases h0 : k ≤ 0
          · intro pins s σ H x y v u Q I rx ry ⟨F, f1, ⟨a, xs, e1, hT, hr⟩, hy, q⟩
            subst e1
            rw [show y = V.int k from hy] at ry
            cases rx
            obtain ⟨t, rfl⟩ := ry
            obtain ⟨its, r, ⟨⟨cls, dd, data, sl⟩, ho, hc, n, hd⟩, hs⟩ := I.tuple (same_seqT f1 hT)
            simp only at hc hd
            subst hc hd
            have hi : its.toArray.isEmpty = false := by
              cases its with
              | nil =>
                have h3 := r.length
                have h4 := hr.length
                rw [h3] at h4
                exact absurd (List.length_eq_zero_iff.mp h4.symm) hne
              | cons a b => rfl
            refine wpAny_binaryOp_repeat_ref (T := "tuple") (U := "int") (by decide) ⟨_, ho, rfl⟩ (fun s' => typeIs_int s' k t) noFill_tuple_mul PySem.F.fills_int_mul PySem.F.slot_int_rmul repeat_tuple PySem.F.slot_int_index.lookup
              (call_meets PySem.F.slot_int_rmul (typeIs_int s k t) PySem.F.entry_int_rmul (PySem.F.args_int_rmul_2 _ _) (int_rmul_tuple k t a its.toArray n dd sl)
                ⟨ho, rfl, ⟨_, ho, rfl⟩, call_meets PySem.F.slot_tuple_mul ⟨_, ho, rfl⟩ PySem.F.entry_tuple_mul (PySem.F.args_tuple_mul_2 _ _) (tuple_mulW0 a its.toArray n dd sl k t (by rw [decide_eq_false (by omega), decide_eq_false (by omega)] <;> rfl) (by rw [hi, Bool.false_or]; exact beq_eq_false_iff_ne.mpr (by omega)) (by rw [decide_eq_true h0]; rfl)) ⟨ho, ?_⟩⟩)
            have e0 : (List.replicate k.toNat ds).flatten = [] := by rw [show k.toNat = 0 by omega]; rfl
            obtain ⟨g, h5⟩ := new_tup (K := X.K) (F := F) (H := H) (p := s.heap.objs.size) (xs := []) (ds := []) f1 (I.hok.fresh (Nat.le_refl _)) rfl
            rw [← e0] at h5
            exact ⟨.ref s.heap.objs.size, _, I.laid (t' := s.toks) (o := .tup []) (fun b ob q => Heap.get?_push_of_some _ q) (Nat.le_refl _) ⟨by simp, [], .nil, IsTup.new _ _⟩, rfl, q _ _ _ g h5⟩
          exact OpR.imp op_repT fun x y H Q ⟨F, f1, ⟨a, xs, e1, hT, hr⟩, hy, q⟩ => by
            refine ⟨a, k, xs, e1, hy, same_seqT f1 hT, fun z => hne ?_, by omega, hk2, by rw [hr.length]; exact hl, fun p np => ?_⟩
            · have := hr.length
              rw [z] at this
              exact List.length_eq_zero_iff.mp this.symm
            · obtain ⟨g, h5⟩ := new_tup f1 np (hr.replicate k.toNat)
              exact q _ _ _ g h5
      · cases e
    | _ => exact old e
  | _ => exact old e

/-! ### is of bools -/
def gIsB : D → D → Option D
  | .bl a, .bl b => some (.bl (decide (a = b)))
  | x, .non => some (.bl x.isNon)
  | _, _ => none
def gNotB : D → D → Option D
  | .bl a, .bl b => some (.bl (!decide (a = b)))
  | x, .non => some (.bl (!x.isNon))
  | _, _ => none
theorem opD_isB : OpD X (compareOp .Is) gIsB := OpD.mk fun dx dy d e => by
  have old : gIsN dx dy = some d → OpR X (compareOp .Is) (fun x y H Q => ∃ F, Same F H ∧ RepB X.K F H dx x ∧ RepB X.K F H dy y ∧ ∀ z F' H', Grow F H F' H' → Rep X.K F' d z → Q z H') := fun e =>
    OpR.imp opD_isN fun x y H Q ⟨F, f1, hx, hy, q⟩ => ⟨F, dx, dy, d, f1, hx, hy, e, q⟩
  cases dx <;> cases dy <;> first | (cases e; done) | exact old e | skip
  cases e
  exact OpR.imp op_isBl fun x y H Q ⟨F, f1, hx, hy, q⟩ => ⟨_, _, hx, hy, q _ F H (.refl f1) rfl⟩
theorem opD_notB : OpD X (compareOp .IsNot) gNotB := OpD.mk fun dx dy d e => by
  have old : gNotN dx dy = some d → OpR X (compareOp .IsNot) (fun x y H Q => ∃ F, Same F H ∧ RepB X.K F H dx x ∧ RepB X.K F H dy y ∧ ∀ z F' H', Grow F H F' H' → Rep X.K F' d z → Q z H') := fun e =>
    OpR.imp opD_notN fun x y H Q ⟨F, f1, hx, hy, q⟩ => ⟨F, dx, dy, d, f1, hx, hy, e, q⟩
  cases dx <;> cases dy <;> first | (cases e; done) | exact old e | skip
  cases e
  exact OpR.imp op_notBl fun x y H Q ⟨F, f1, hx, hy, q⟩ => ⟨_, _, hx, hy, q _ F H (.refl f1) rfl⟩

/-! ### isinstance -/
def D.ty : D → String
  | .non => "NoneType"
  | .bl _ => "bool"
  | .int _ => "int"
  | .str _ => "str"
  | .tup _ => "tuple"
  | .lst _ => "list"
  | .dct _ => "dict"
theorem RepB.ty {K : PySem.W.Frag} {F H : Hp} (f : Same F H) : ∀ {d : D} {v : V}, RepB K F H d v → TyX K H v (.type d.ty)
  | .non, _, h => by rw [show _ = V.non from h]; exact .base .non
  | .bl b, _, h => by rw [show _ = V.bl b from h]; exact .base (.bl b)
  | .int b, _, h => by rw [show _ = V.int b from h]; exact .base (.int b)
  | .str b, _, h => by rw [show _ = V.str b from h]; exact .base (.str b)
  | .tup ds, _, ⟨a, xs, e, h, r⟩ => by
    subst e
    rcases same_seqT f h with (h | ⟨o, h⟩) | ⟨o, its, n, h1, h2, _⟩
    · exact .base (.tup h)
    · exact .fTuple h
    · exact .kTuple h1 h2
  | .lst ds, _, ⟨a, xs, e, h, r⟩ => by
    subst e
    rcases h with (h | ⟨o, h⟩) | ⟨o, its, n, h1, h2, _⟩
    · exact .base (.lst h)
    · exact .base (.frz h)
    · exact .kList h1 h2
  | .dct _, _, ⟨a, us, e, h, r⟩ => by
    subst e
    rcases h with h | ⟨o, h⟩
    · exact .base (.dK h)
    · exact .fDict h
theorem RepB.mono {K : PySem.W.Frag} {F F' H H' : Hp} (f : Same F F') (g : Same H H') : ∀ {d : D} {v : V}, RepB K F H d v → RepB K F' H' d v
  | .non, _, h => h
  | .bl b, _, h => h
  | .int b, _, h => h
  | .str b, _, h => h
  | .tup ds, _, ⟨a, xs, e, h, r⟩ => ⟨a, xs, e, same_seqT f h, r.mono f⟩
  | .lst ds, _, ⟨a, xs, e, h, r⟩ => ⟨a, xs, e, g.seq h, r.mono f⟩
  | .dct _, _, ⟨a, us, e, h, r⟩ => ⟨a, us, e, rd_same g h, r.mono f⟩
def gIsi (T : String) (d : D) : Option D := (kitB d.ty T).map .bl
def gIsi2 (T U : String) (d : D) : Option D := match kitB d.ty T, kitB d.ty U with
  | some a, some b => some (.bl (a || b))
  | _, _ => none
variable {E : XK} {a : Expr} {p p2 p3 pos : Pos} {x y : Str} {T U : String}
/-- isinstance(x, T), T a built-in type -/
theorem ev_isi {fa : FB} (hm : X.mg "isinstance" = none) (ha : EvB X E a fa) (hmx : X.mg x = none) (hv : bootBuiltins x = some (.type T)) (hgx : Gl X x := by rfl) (hnx : x ≠ "__name__" := by decide) (hdx : (x == ("__debug__" : Str)) = false := by decide) (hg : Gl X "isinstance" := by rfl)
    (hs : starEach [a, .Name x p2] X.env = (false, eval a X.env) :: starEach [.Name x p2] X.env := by rfl) (hs2 : starEach [.Name x p2] X.env = (false, eval (.Name x p2) X.env) :: starEach [] X.env := by rfl) (hpl : (backTo pos (starEach [.Name x p2] X.env)).any (·.1) = false := by rfl) :
    EvE X E (.Call (.Name "isinstance" p) [a, .Name x p2] [] pos) (fUn (gIsi T) fa) :=
  PE.imp (pe_callB call_isi hg hm rfl (pa_cons ha (pa_cons (pe_bltn (v := .ty T) hgx hmx hv rfl hnx hdx) pa_nil hs2) hs) (by decide) (by decide) hs hpl) fun s H Q ⟨B, F, O, r, R, q⟩ => by
    refine ⟨B, F, O, r, R, (Post.split q).mono fun b r1 F1 O1 H1 R1 f1 k1 q1 v hv => ?_⟩
    obtain ⟨dx, ex, q1⟩ := Post.opt q1
    obtain ⟨d, ed, q1⟩ := Post.opt q1
    obtain ⟨bb, e1, e2⟩ := Option.map_eq_some_iff.mp ed
    subst e2
    exact ⟨v, .ty T, _, .type T, bb, rfl, .ty T, (R1.bget hv ex).ty R1.fh, kit_ty e1, Post.ok (k := fun d _ F' _ H' => ∀ v, Rep X.K F' d v → Q v H') q1 R1 (.refl _) .refl _ rfl⟩
theorem ev_isi2 {fa : FB} {kt : Nat} (hm : X.mg "isinstance" = none) (ha : EvB X E a fa) (hmx : X.mg x = none) (hv : bootBuiltins x = some (.type T)) (hmy : X.mg y = none) (hvy : bootBuiltins y = some (.type U)) (hgx : Gl X x := by rfl) (hnx : x ≠ "__name__" := by decide) (hdx : (x == ("__debug__" : Str)) = false := by decide)
    (hgy : Gl X y := by rfl) (hny : y ≠ "__name__" := by decide) (hdy : (y == ("__debug__" : Str)) = false := by decide) (hg : Gl X "isinstance" := by rfl)
    (hs : starEach [a, .Tuple [.Name x p2, .Name y p3] kt pos] X.env = (false, eval a X.env) :: starEach [.Tuple [.Name x p2, .Name y p3] kt pos] X.env := by rfl) (hs2 : starEach [.Tuple [.Name x p2, .Name y p3] kt pos] X.env = (false, eval (.Tuple [.Name x p2, .Name y p3] kt pos) X.env) :: starEach [] X.env := by rfl)
    (hs3 : starEach [.Name x p2, .Name y p3] X.env = (false, eval (.Name x p2) X.env) :: starEach [.Name y p3] X.env := by rfl) (hs4 : starEach [.Name y p3] X.env = (false, eval (.Name y p3) X.env) :: starEach [] X.env := by rfl)
    (hpl : (backTo pos (starEach [.Tuple [.Name x p2, .Name y p3] kt pos] X.env)).any (·.1) = false := by rfl) :
    EvE X E (.Call (.Name "isinstance" p) [a, .Tuple [.Name x p2, .Name y p3] kt pos] [] pos) (fUn (gIsi2 T U) fa) :=
  PE.imp (pe_callB call_isiT hg hm rfl (pa_cons ha (pa_cons (pe_tup (pa_cons (pe_bltn (v := .ty T) hgx hmx hv rfl hnx hdx) (pa_cons (pe_bltn (v := .ty U) hgy hmy hvy rfl hny hdy) pa_nil hs4) hs3)) pa_nil hs2) hs) (by decide) (by decide) hs hpl) fun s H Q ⟨B, F, O, r, R, q⟩ => by
    refine ⟨B, F, O, r, R, (Post.split q).mono fun b r1 F1 O1 H1 R1 f1 k1 q1 v hv => ?_⟩
    obtain ⟨dx, ex, q1⟩ := Post.opt q1
    obtain ⟨d, ed, q1⟩ := Post.opt q1
    unfold gIsi2 at ed
    cases h1 : kitB dx.ty T with
    | none => rw [h1] at ed; cases ed
    | some b1 =>
      cases h2 : kitB dx.ty U with
      | none => rw [h1, h2] at ed; cases ed
      | some b2 =>
        rw [h1, h2] at ed
        cases ed
        refine ⟨by show 2 ≤ sizeLine; rw [sizeLine_eq]; omega, fun p np => ?_⟩
        have g : Grow F1 H1 F1 (upd H1 p (.tup [.ty T, .ty U])) := .garb R1.fh np
        have hx := (R1.bget hv ex).mono (.refl _) (same_upd (o := HO.tup [.ty T, .ty U]) np)
        refine ⟨v, p, [.ty T, .ty U], _, [.type T, .type U], b1 || b2, rfl, upd_same, .cons (.ty T) (.cons (.ty U) .nil), hx.ty g.fh, ?_, Post.ok (k := fun d _ F' _ H' => ∀ v, Rep X.K F' d v → Q v H') q1 (R1.grow g) g.ff .refl _ rfl⟩
        refine kitAny_cons (kit_ty h1) (fun z => ?_) (fun z => by rw [z]; rfl)
        subst z
        refine kitAny_cons (kit_ty h2) (fun z => ?_) (fun z => by rw [z]; rfl)
        subst z
        rfl

/-! ### xs[::-1] -/
theorem adjust_rev (n : Nat) : Builtin.Slice.sliceAdjust none none (-1) (n : Int) = ((n : Int) - 1, -1) := rfl
theorem places_rev (n : Nat) : Builtin.Slice.slicePlaces ((n : Int) - 1) (-1) (-1) = n := by
  unfold Builtin.Slice.slicePlaces
  have h1 : ¬ ((-1 : Int) > 0) := by decide
  simp only [h1, if_false]
  by_cases h : (n : Int) - 1 > -1
  · simp only [h, if_true]
    rw [show (- -1 : Int) = 1 by decide, Int.ediv_one]
    omega
  · simp only [h, if_false]
    omega
section
variable {prog : Program} {w : World} {A : Around} {E : Value → Shared → Prop} {s : Shared}
theorem sliceApplied_rev {sl : Addr} {vs : Value} {n : Nat} {Q : Int × Int × Nat → Shared → Prop} (hs : s.heap.IsSliceOf sl .none .none vs) (ps : IsPart vs (some (-1)))
    (h : Q ((n : Int) - 1, -1, n) s) : wpAny (model prog w) A (Builtin.Slice.sliceApplied (.ref sl) (pure (n : Int))) Q E s := by
  obtain ⟨os, hos, hcs, hds⟩ := id hs
  unfold Builtin.Slice.sliceApplied Builtin.Slice.sliceFields
  refine wpAny_bind (wpAny_bind (wpAny_field hos hds (x := .none) rfl (wpAny_bind (wpAny_field hos hds (x := .none) rfl (wpAny_bind (wpAny_field hos hds (x := vs) rfl (wpAny_pure ?_)))))))
  refine wpAny_bind (HT.slicePart_ ps ?_)
  show wpAny _ _ (if ((-1 : Int) == 0) = true then _ else _) _ _ s
  rw [if_neg (by decide)]
  refine wpAny_bind (HT.slicePart_ .none (wpAny_bind (HT.slicePart_ .none (wpAny_bind (wpAny_pure ?_)))))
  show wpAny _ _ (match Builtin.Slice.sliceAdjust none none (-1) (n : Int) with | (lo, hi) => pure (lo, (-1 : Int), Builtin.Slice.slicePlaces lo hi (-1))) _ _ s
  rw [adjust_rev n]
  show wpAny _ _ (pure ((n : Int) - 1, (-1 : Int), Builtin.Slice.slicePlaces ((n : Int) - 1) (-1) (-1))) _ _ s
  rw [places_rev]
  exact wpAny_pure h
theorem fm_congr {α β : Type} {f g : α → Option β} : ∀ {l : List α}, (∀ x ∈ l, f x = g x) → l.filterMap f = l.filterMap g
  | [], _ => rfl
  | x :: l, h => by
    rw [List.filterMap_cons, List.filterMap_cons, h x List.mem_cons_self, fm_congr fun y hy => h y (List.mem_cons_of_mem _ hy)]
theorem pick_rev (xs : Array Value) : ((List.range xs.size).filterMap fun (m : Nat) => xs[((xs.size : Int) - 1 + (m : Int) * (-1)).toNat]?).toArray = xs.toList.reverse.toArray := by
  have e : (List.range xs.size).filterMap (fun (m : Nat) => xs[((xs.size : Int) - 1 + (m : Int) * (-1)).toNat]?) = ((List.range xs.size).map fun k => xs.size - 1 - k).filterMap (xs[·]?) := by
    rw [List.filterMap_map]
    apply fm_congr
    intro m hm
    have := List.mem_range.mp hm
    show xs[((xs.size : Int) - 1 + (m : Int) * (-1)).toNat]? = xs[xs.size - 1 - m]?
    congr 1
    omega
  rw [e, PySem.W.krv_range, List.filterMap_reverse, PySem.W.krv_all]
theorem getItem_tuple_rev {t sl : Addr} {items : Array Value} {vs : Value} {Q : Value → Shared → Prop} (ht : IsTup s.heap t items) (hs : s.heap.IsSliceOf sl .none .none vs) (ps : IsPart vs (some (-1)))
    (h : Q (.ref s.heap.objs.size) { s with heap := s.heap.push { cls := .type "tuple", data := .seq items.toList.reverse.toArray } })
    (hsz : items.size ≤ sizeLine) : wpAny (model prog w) A (getItem (.ref t) (.ref sl)) Q E s := by
  have htake : sizeOk (.seq items.toList.reverse.toArray) := by
    show (items.toList.reverse).toArray.size ≤ sizeLine
    rw [List.size_toArray, List.length_reverse, Array.length_toList]
    exact hsz
  obtain ⟨os, hos, hcs, hds⟩ := id hs
  have hTs : s.TypeIs (.ref sl) "slice" := ⟨os, hos, hcs⟩
  unfold getItem
  try with_reducible refine wpAny_holding ?_
  first | refine wpAny_bind (wpAny_pure ?_) | skip
  refine wpAny_bind (wpAny_sequenceKey ht.typeIs (by decide) ?_)
  refine wpAny_bind (wpAny_callSpecial?_slot (name := Str.ofString "__getitem__") ht.typeIs PyProof.Rows.slot_tuple_getitem
    (wpAny_call_entry PyProof.Rows.slot_tuple_getitem ht.typeIs entry_tuple_getitem ?_ (args_tuple_getitem _ _)))
  show wpAny _ _ (Builtin.Tuple.tupleItemsOf (.ref t) >>= _) _ _ s
  refine wpAny_bind (tupleItemsOf_ ht ?_)
  refine wpAny_bind (wpAny_typeOf hTs ?_)
  rw [if_pos (by decide)]
  refine wpAny_bind (sliceApplied_rev hs ps ?_)
  have hno : ¬ ((((items.size : Int) - 1) == 0 && (-1 : Int) == 1 && items.size == items.size) = true) := by
    intro q
    rw [Bool.and_eq_true, Bool.and_eq_true] at q
    exact absurd q.1.2 (by decide)
  show wpAny _ _ (if (((items.size : Int) - 1) == 0 && (-1 : Int) == 1 && items.size == items.size) = true then _ else _) _ _ s
  rw [if_neg hno, pick_rev]
  first
    | exact wpAny_bind (m := Builtin.Tuple.tupleExact _) (wpAny_newObj_type (wpAny_pure ⟨_, rfl, wpAny_pure h⟩) htake)
    | exact wpAny_bind (m := Builtin.Tuple.tupleExact _) (wpAny_newObj_type (wpAny_bind (wpAny_pure (wpAny_pure ⟨_, rfl, wpAny_pure h⟩))) htake)
    | exact wpAny_bind (wpAny_bind (m := Builtin.Tuple.tupleExact _) (wpAny_newObj_type (wpAny_pure (wpAny_pure ⟨_, rfl, wpAny_pure h⟩)) htake))
    | exact wpAny_bind (wpAny_bind (m := Builtin.Tuple.tupleExact _) (wpAny_newObj_type (wpAny_pure ⟨_, rfl, wpAny_pure h⟩) htake))
end
def gRev : D → Option D
  | .lst xs => some (.lst xs.reverse)
  | .tup xs => some (.tup xs.reverse)
  | _ => none
theorem pe_revA {e : Expr} {te : TE} {k : Nat} {p1 p2 p3 pos : Pos} (he : PE X e te) : PE X (.Subscript e (.Slice none none (some (.UnaryOp .USub (.Constant (.int 1) k p1) p2)) p3) pos)
    (fun σ H Q => te σ H fun x H1 => ∃ a xs, x = .ref a ∧ ((SqL X.K H1 a xs ∧ ∀ p, H1 p = none → Q (.ref p) (upd H1 p (.lst xs.reverse))) ∨ (SqT X.K H1 a xs ∧ ∀ p, H1 p = none → Q (.ref p) (upd H1 p (.tup xs.reverse))))) := by
  refine ⟨fun pins s σ H Q I h => ?_⟩
  refine Subscript_ (thn (he.run pins s σ H _ I h) fun v s1 ⟨x, H1, I1, r1, q1⟩ => ?_)
  obtain ⟨a, xs, ex, q⟩ := q1
  subst ex
  cases r1
  have hst : PO X (some (.UnaryOp .USub (.Constant (.int 1) k p1) p2)) (tPart (tUn (rU fun i => .int (-i)) (tC (.int 1)))) := po_some (pe_un un_neg pe_int)
  refine wpAny_Slice (thn (po_none.run pins s1 σ H1 (fun o H2 => o = none ∧ H2 = H1) I1 ⟨rfl, rfl⟩) fun vl s2 ⟨l, H2, I2, pl, el, e2⟩ => ?_)
  subst el e2
  refine thn (po_none.run pins s2 σ H2 (fun o H3 => o = none ∧ H3 = H2) I2 ⟨rfl, rfl⟩) fun vu s3 ⟨u, H3, I3, pu, eu, e3⟩ => ?_
  subst eu e3
  refine thn (hst.run pins s3 σ H3 (fun o H4 => o = some (-1) ∧ H4 = H3) I3 ⟨1, rfl, -1, rfl, rfl, rfl⟩) fun vs s4 ⟨o, H4, I4, ps, eo, e4⟩ => ?_
  subst eo e4
  cases pl
  cases pu
  have I5 : Inv X pins σ H4 { s4 with heap := s4.heap.push { cls := .type "slice", data := .fields #[.none, .none, vs] } } := I4.kept (t' := s4.toks) fun b ob q => Heap.get?_push_of_some _ q
  show wpAny (model X.prog X.w) X.A (subscriptTail e (.Slice none none (some (.UnaryOp .USub (.Constant (.int 1) k p1) p2)) p3) (.ref a) (.ref s4.heap.objs.size)) (EP X pins σ Q) X.xe { s4 with heap := s4.heap.push { cls := .type "slice", data := .fields #[.none, .none, vs] } }
  rcases q with ⟨hx, q⟩ | ⟨hx, q⟩
  · obtain ⟨its, r, ht, hz⟩ := I5.list hx
    have hlen := r.length
    refine tail_any (ops := [.ref a, .ref s4.heap.objs.size]) ht.isList.typeIs (PySem.slot_list_getitem.lookup) ?_ (by with_unfolding_all rfl)
    refine wpAny_getItem_list_slice ht.isList (Heap.IsSliceOf.new _ .none .none vs) .none .none ps (by decide) ?_ (by rw [List.size_toArray]; omega)
    rw [PySem.W.krv_pick]
    refine ⟨.ref _, _, I5.laid (t' := s4.toks) (o := .lst xs.reverse) (fun b ob q => Heap.get?_push_of_some _ q) (Nat.le_refl _) ?_, rfl, q _ (I5.hok.fresh (Nat.le_refl _))⟩
    exact ⟨by rw [List.length_reverse]; exact hz, _, 0, r.reverse, Heap.get?_push_size _ rfl⟩
  · obtain ⟨its, r, ht, hz⟩ := I5.tuple hx
    have hlen := r.length
    refine tail_any (ops := [.ref a, .ref s4.heap.objs.size]) ht.typeIs (PyProof.Rows.slot_tuple_getitem.lookup) ?_ (by with_unfolding_all rfl)
    refine getItem_tuple_rev ht (Heap.IsSliceOf.new _ .none .none vs) ps ?_ (by rw [List.size_toArray]; omega)
    refine ⟨.ref _, _, I5.laid (t' := s4.toks) (o := .tup xs.reverse) (fun b ob q => Heap.get?_push_of_some _ q) (Nat.le_refl _) ?_, rfl, q _ (I5.hok.fresh (Nat.le_refl _))⟩
    exact ⟨by rw [List.length_reverse]; exact hz, _, r.reverse, IsTup.new _ _⟩
theorem ev_rev {fa : FB} {k : Nat} {p1 p2 p3 pos : Pos} (ha : EvB X E a fa) : EvE X E (.Subscript a (.Slice none none (some (.UnaryOp .USub (.Constant (.int 1) k p1) p2)) p3) pos) (fUn gRev fa) :=
  PE.imp (pe_revA ha) fun s H Q ⟨B, F, O, r, R, q⟩ => by
    refine ⟨B, F, O, r, R, (Post.split q).mono fun b r1 F1 O1 H1 R1 f1 k1 q1 v hv => ?_⟩
    obtain ⟨dx, ex, q1⟩ := Post.opt q1
    obtain ⟨d, ed, q1⟩ := Post.opt q1
    have hx := R1.bget hv ex
    cases dx with
    | lst ds =>
      cases ed
      obtain ⟨a, xs, e1, h1, h2⟩ := hx
      exact ⟨a, xs, e1, .inl ⟨h1, fun p np => by
        obtain ⟨g, h3⟩ := new_lst R1.fh np h2.reverse
        exact Post.ok (k := fun d _ F' _ H' => ∀ v, Rep X.K F' d v → Q v H') q1 (R1.grow g) g.ff .refl _ h3⟩⟩
    | tup ds =>
      cases ed
      obtain ⟨a, xs, e1, h1, h2⟩ := hx
      exact ⟨a, xs, e1, .inr ⟨same_seqT R1.fh h1, fun p np => by
        obtain ⟨g, h3⟩ := new_tup R1.fh np h2.reverse
        exact Post.ok (k := fun d _ F' _ H' => ∀ v, Rep X.K F' d v → Q v H') q1 (R1.grow g) g.ff .refl _ h3⟩⟩
    | _ => cases ed
end
end Ev

/-! E12: sorted, list(range), dicts as data. -/
namespace Ev
open PySem PySem.Spec PyProof.Rows L2
variable [TabsC]

/-! ### sorted -/
def alikeD (ds : List D) : Bool := ds.all fun x => ds.all fun y => PySem.W.alike x.py y.py
def tupD : D → Bool
  | .tup (_ :: _) => true
  | _ => false
def atomD : D → Bool
  | .tup _ => false
  | .non => false
  | _ => true
def okSort (ds : List D) : Bool := D.noDcts ds && alikeD ds && (ds.all tupD || ds.all atomD) && ds.all (fun x => decide (x.py.depth ≤ 60))
def sortD (ds : List D) : List D := ds.mergeSort (PySem.W.dataLe false D.py)
def gSort (d : D) : Option (List D) := match seqOf d with
  | some ds => if okSort ds = true then some (sortD ds) else none
  | none => none

section
open PySem.W PySem.Calls
variable {prog : Program} {w : World} {A : Around} {E : Value → Shared → Prop} {s : Shared}
theorem collect_tup {l : Addr} {vs : List Value} {Q : List Value → Shared → Prop} (hl : IsTup s.heap l vs.toArray)
    (h : Q vs { s with heap := (s.heap.push (seqObj "list" #[] 0)).update s.heap.objs.size (Obj.mapSeq (· ++ vs.toArray)) }) (hsz : vs.length ≤ sizeLine) :
    wpAny (model prog w) A (collect (.ref l)) Q E s := by
  obtain ⟨o, ho, hc, n, hd⟩ := id hl
  unfold collect
  refine wpAny_bind (wpAny_runValue (codeAny_builtin PySem.F.entry_proto_collect ?_))
  show wpAny _ _ (do again (.builtin "list.__iadd__" ⟨[← newList [], .ref l], []⟩)) _ _ s
  refine wpAny_bind (wpAny_newList (wpAny_pure ⟨Code.quiet_builtin _ (by decide +kernel), codeAny_builtin PySem.F.entry_list_iadd ?_⟩))
  show wpAny _ _ (Builtin.List.listExtendWith (.ref s.heap.objs.size) (.ref l) (.ref s.heap.objs.size)) _ _ { s with heap := s.heap.push (seqObj "list" #[] 0) }
  unfold Builtin.List.listExtendWith
  have ho' : (s.heap.push (seqObj "list" #[] 0)).get? l = some o := Heap.get?_push_of_some _ ho
  refine wpAny_bind (wpAny_typeOf (T := "tuple") ⟨o, ho', hc⟩ ?_)
  have ht : (Value.type "tuple" == Value.type "tuple") = true := by rfl
  rw [if_pos (by rw [ht]; simp)]
  refine wpAny_bind (listItems_at ho' hd ?_)
  refine wpAny_bind (listItems_at (xs := #[]) (n := 0) (Heap.get?_push_size _ rfl) rfl ?_)
  rw [if_neg (by simp)]
  refine wpAny_bind (listUpdate_at (xs := #[]) (n := 0) (Heap.get?_push_size _ rfl) rfl ?_ (Nat.zero_le _) (by show (#[] ++ vs.toArray).size ≤ sizeLine + 1; simp only [Array.size_append, List.size_toArray, List.length_nil]; omega))
  refine wpAny_pure ?_
  show wpAny (model prog w) A (do
      let o ← load s.heap.objs.size
      match o.data with
      | .seq xs _ => pure xs.toList
      | _ => unsupported "internal:collect") Q E { s with heap := (s.heap.push (seqObj "list" #[] 0)).update s.heap.objs.size (Obj.mapSeq (· ++ vs.toArray)) }
  refine wpAny_bind (wpAny_load (get?_update_seq (Heap.get?_push_size _ rfl) _) ?_)
  show wpAny _ _ (pure ((#[] : Array Value) ++ vs.toArray).toList) Q E _
  rw [show ((#[] : Array Value) ++ vs.toArray).toList = vs by simp]
  exact wpAny_pure h
theorem sorted_of_sortT {l : Addr} {vs : List Value} {kw : List (Str × Value)} {Q : Value → Shared → Prop} (hl : IsTup s.heap l vs.toArray) (hL : vs.length ≤ sizeLine) (ha1 : argsOk "sorted" ⟨[.ref l], kw⟩) (ha2 : ∀ x, argsOk "list.sort" ⟨[.ref x], kw⟩)
    (body : ∀ E' : Value → Shared → Prop, wpAny (model prog w) A.in1.in1 (Builtin.«list.sort» ⟨[.ref (s.heap.objs.size + 1)], kw⟩) (fun f s' => f = .done (.ret .none) ∧ Q (.ref (s.heap.objs.size + 1)) s') E' { s with heap := copyHeap s.heap vs }) :
    wpAny (model prog w) A (call (.builtin "sorted") [.ref l] kw) Q E s := by
  refine call_function_entry_kw kind_sorted plain_sorted entry_sorted ha1 ?_
  unfold Builtin.«sorted»
  refine wpAny_bind (m := checkCount "sorted" 1 1 _) (wpAny_pure ?_)
  refine wpAny_bind (collect_tup hl ?_ hL)
  refine wpAny_bind (wpAny_newList ?_ hL)
  have hsz : ((s.heap.push (seqObj "list" #[] 0)).update s.heap.objs.size (Obj.mapSeq (· ++ vs.toArray))).objs.size = s.heap.objs.size + 1 := by
    rw [Heap.size_update, size_push']
  show wpAny _ _ _ _ _ { s with heap := copyHeap s.heap vs }
  rw [hsz]
  refine wpAny_bind (wpAny_holding (wpAny_call_entry_kw slot_list_sort ⟨_, copyHeap_at s.heap vs, rfl⟩ entry_list_sort ?body (ha2 _)))
  case body =>
    show wpAny (model prog w) A.in1.in1 (Builtin.«list.sort» ⟨[.ref (s.heap.objs.size + 1)], kw⟩) _ _ _
    refine wpAny_mono (body _) (fun f s' hf => ?_) fun _ _ e => e
    obtain ⟨rfl, hq⟩ := hf
    exact ⟨_, rfl, wpAny_pure ⟨_, rfl, hq⟩⟩
theorem sorted_dataT {β : Type} {R : Value → β → Prop} {enc : β → PyData} {vs : List Value} {bs : List β} {l : Addr} {Q : Value → Shared → Prop} (hl : IsTup s.heap l vs.toArray) (e : EachIs R vs bs) (er : EachIs (fun v b => ∃ as, Reads s.heap v (enc b) as) vs bs) (hal : AllAlike (bs.map enc)) (hk : Sortable (bs.map enc)) (hL : bs.length ≤ sizeLine)
    (hu : ∀ b, b ∈ bs → A.units + 2 + (enc b).depth < cLine) (h : ∀ out, out.length = bs.length → EachIs R out (bs.mergeSort (dataLe false enc)) → Q (.ref (s.heap.objs.size + 1)) { s with heap := sortedAll s.heap vs (List.toArray out) }) :
    wpAny (model prog w) A (call (.builtin "sorted") [.ref l]) Q E s := by
  have er' : EachIs (fun v b => ∃ as, Reads (sortingHeap (copyHeap s.heap vs) (s.heap.objs.size + 1) vs) v (enc b) as) vs bs := er.mono fun _ _ ⟨as, r⟩ => ⟨as, PyProof.Rows.Reads.keeps (fun _ _ => sorting_copy_old) r⟩
  have hL' : vs.length ≤ sizeLine := by rw [e.length]; exact hL
  exact sorted_of_sortT hl hL' (args_sorted1 _) (fun _ => args_list_sort _) fun _ => list_sort_vals (s := { s with heap := copyHeap s.heap vs }) (copyHeap_at s.heap vs)
    (SortsAt.data (s := { s with heap := sortingHeap (copyHeap s.heap vs) (s.heap.objs.size + 1) vs }) (each_map (R := fun v d => ∃ as, Reads (sortingHeap (copyHeap s.heap vs) (s.heap.objs.size + 1) vs) v d as) enc er') hal hk (bound_map hu)) hL'
    ⟨rfl, h _ (by rw [sortVals_length false rfl]; exact e.length) (sortVals_data false e er' hal)⟩
end

section
open PySem.W
variable {X : Cx}
def RvD (K : PySem.W.Frag) (F : Hp) (u : Value) (d : D) : Prop := ∃ x, RelV x u ∧ Rep K F d x
theorem each_of {K : PySem.W.Frag} {F : Hp} : ∀ {ds : List D} {xs : List V} {us : List Value}, Reps K F ds xs → Vals xs us → EachIs (RvD K F) us ds
  | [], _, _, h, r => by rw [show _ = [] from h] at r; cases r; exact .nil
  | _ :: _, _, _, ⟨x, xs, e, h, t⟩, r => by
    subst e
    cases r with
    | cons r1 r2 => exact .cons ⟨x, r1, h⟩ (each_of t r2)
theorem each_back {K : PySem.W.Frag} {F : Hp} {us : List Value} {ds : List D} (h : EachIs (RvD K F) us ds) : ∃ xs, Vals xs us ∧ Reps K F ds xs := by
  induction h with
  | nil => exact ⟨[], .nil, rfl⟩
  | cons r _ ih =>
    obtain ⟨x, r1, r2⟩ := r
    obtain ⟨xs, h1, h2⟩ := ih
    exact ⟨x :: xs, .cons r1 h1, x, xs, rfl, r2, h2⟩
theorem each_reads {pins : List (Addr × Obj)} {σ : Sg} {H F : Hp} {s : Shared} (I : Inv X pins σ H s) (f : Same F H) {us : List Value} {ds : List D} (h : EachIs (RvD X.K F) us ds) (n : D.noDcts ds = true) : EachIs (fun u (d : D) => ∃ as, Reads s.heap u d.py as) us ds := by
  induction h with
  | nil => exact .nil
  | cons r _ ih =>
    obtain ⟨x, r1, r2⟩ := r
    have n' := Bool.and_eq_true_iff.mp n
    exact .cons (Dp.reads I _ _ _ (Rep.dp n'.1 (r2.mono f)) r1) (ih n'.2)
theorem okSort_facts {ds : List D} (h : okSort ds = true) : D.noDcts ds = true ∧ AllAlike (ds.map D.py) ∧ Sortable (ds.map D.py) ∧ ∀ d ∈ ds, d.py.depth ≤ 60 := by
  unfold okSort at h
  simp only [Bool.and_eq_true] at h
  obtain ⟨⟨⟨h1, h2⟩, h3⟩, h4⟩ := h
  refine ⟨h1, fun d hd d' hd' => ?_, ?_, fun d hd => of_decide_eq_true (List.all_eq_true.mp h4 d hd)⟩
  · obtain ⟨x, hx, rfl⟩ := List.mem_map.mp hd
    obtain ⟨y, hy, rfl⟩ := List.mem_map.mp hd'
    exact List.all_eq_true.mp (List.all_eq_true.mp h2 x hx) y hy
  · rcases Bool.or_eq_true_iff.mp h3 with h | h
    · refine .inl fun d hd => ?_
      obtain ⟨x, hx, rfl⟩ := List.mem_map.mp hd
      have := List.all_eq_true.mp h x hx
      cases x with
      | tup ys => cases ys with
        | nil => cases this
        | cons y ys => exact ⟨y.py, D.pys ys, rfl⟩
      | _ => cases this
    · refine .inr fun d hd => ?_
      obtain ⟨x, hx, rfl⟩ := List.mem_map.mp hd
      have := List.all_eq_true.mp h x hx
      cases x with
      | tup ys => cases this
      | non => cases this
      | _ => exact ⟨fun z => (nomatch z), fun _ z => (nomatch z)⟩
theorem cdo_sorted (hu : X.A.units + 64 < cLine) : CallDO X (.builtin "sorted") (g1o gSort) := CallDO.one fun dx es e => by
  intro pins s σ H vs us Q I r ⟨F, x, e1, f1, hx, q⟩
  subst e1
  obtain ⟨u, rfl, ru⟩ := vals1 r
  unfold gSort at e
  cases hs : seqOf dx with
  | none => rw [hs] at e; cases e
  | some ds =>
    rw [hs] at e
    have e : (if okSort ds = true then some (sortD ds) else none) = some es := e
    split at e
    · rename_i ok
      cases e
      obtain ⟨n1, n2, n3, n4⟩ := okSort_facts ok
      have hu' : ∀ b, b ∈ ds → X.A.units + 2 + (D.py b).depth < cLine := fun b hb => by have := n4 b hb; omega
      have fin : ∀ (its : List Value) (xs : List V), Reps X.K F ds xs → xs.length ≤ sizeLine → ∀ out : List Value, out.length = ds.length → EachIs (RvD X.K F) out (ds.mergeSort (dataLe false D.py)) →
          EP X pins σ Q (.ref (s.heap.objs.size + 1)) { s with heap := sortedAll s.heap its (List.toArray out) } := fun its xs hr hz out hl he => by
        obtain ⟨ys, v1, v2⟩ := each_back he
        obtain ⟨ep, he'⟩ := PyProof.Rows.sortedAll_at s.heap its out.toArray
        have hlen : ys.length ≤ sizeLine := by rw [v2.length, List.length_mergeSort, ← hr.length]; exact hz
        exact ⟨.ref _, upd H (s.heap.objs.size + 1) (.lst ys), I.laid (t' := s.toks) (fun _ _ => PyProof.Rows.sortedAll_old) (Nat.le_succ _) ⟨hlen, out, ep, v1, he'⟩, rfl, q _ _ (I.hok.fresh (Nat.le_succ _)) v2⟩
      cases dx with
      | lst ds' =>
        cases hs
        obtain ⟨a, xs, e2, h1, h2⟩ := hx
        subst e2
        cases ru
        obtain ⟨its, rv, pl, hz⟩ := I.list h1
        have ee := each_of h2 rv
        exact sorted_data pl.isList ee (each_reads I f1 ee n1) n2 n3 (by rw [← h2.length]; exact hz) hu' (fin its xs h2 hz)
      | tup ds' =>
        cases hs
        obtain ⟨a, xs, e2, h1, h2⟩ := hx
        subst e2
        cases ru
        obtain ⟨its, rv, pl, hz⟩ := I.tuple (same_seqT f1 h1)
        have ee := each_of h2 rv
        exact sorted_dataT pl ee (each_reads I f1 ee n1) n2 n3 (by rw [← h2.length]; exact hz) hu' (fin its xs h2 hz)
      | _ => cases hs
    · cases e
end
end Ev

/-! E13: dicts as data, own objects written, raise, list(range), unpacking of lists. -/
namespace Ev
open PySem PySem.Spec PyProof.Rows L2
variable [TabsC]

/-! ### tables of data -/
def valD (kvs : List (Key × D)) (k : Key) : Option D := (kvs.find? fun kv => decide (kv.1 = k)).map (·.2)
def hasD (kvs : List (Key × D)) (k : Key) : Bool := kvs.any fun kv => decide (kv.1 = k)
def putD (kvs : List (Key × D)) (k : Key) (v : D) : List (Key × D) :=
  if (kvs.any fun kv => decide (kv.1 = k)) = true then kvs.map (fun kv => if kv.1 = k then (kv.1, v) else kv) else kvs ++ [(k, v)]
def dropD (kvs : List (Key × D)) (k : Key) : List (Key × D) := kvs.filter fun kv => decide (kv.1 ≠ k)
def mergeD (kvs more : List (Key × D)) : List (Key × D) := more.foldl (fun acc kv => putD acc kv.1 kv.2) kvs
def keyOf : D → Option Key
  | .int i => some (.inl i)
  | .str x => some (.inr x)
  | _ => none
section
variable {K : PySem.W.Frag} {F : Hp}
theorem keyOf_rep {d : D} {k : Key} {v : V} (e : keyOf d = some k) (h : Rep K F d v) : v = kV k := by
  cases d with
  | int i => cases e; exact h
  | str i => cases e; exact h
  | _ => cases e
theorem keyOf_repB {H : Hp} {d : D} {k : Key} {v : V} (e : keyOf d = some k) (h : RepB K F H d v) : v = kV k := by
  cases d with
  | int i => cases e; exact h
  | str i => cases e; exact h
  | _ => cases e
theorem RepsK.length : ∀ {ds : List (Key × D)} {us : List (Key × V)}, RepsK K F ds us → us.length = ds.length
  | [], _, h => by rw [show _ = [] from h]; rfl
  | (_, _) :: _, _, ⟨x, r, e, _, t⟩ => by rw [e, List.length_cons, List.length_cons, RepsK.length t]
theorem RepsK.val (k : Key) : ∀ {ds : List (Key × D)} {us : List (Key × V)}, RepsK K F ds us → match valD ds k with
    | some d => ∃ v, valV us k = some v ∧ Rep K F d v
    | none => valV us k = none
  | [], _, h => by rw [show _ = [] from h]; rfl
  | (j, d) :: ds, _, ⟨x, r, e, h, t⟩ => by
    subst e
    by_cases hj : j = k
    · have e1 : valD ((j, d) :: ds) k = some d := by simp [valD, List.find?_cons, hj]
      rw [e1]
      exact ⟨x, valV_pos (p := (j, x)) hj, h⟩
    · have e1 : valD ((j, d) :: ds) k = valD ds k := by simp [valD, List.find?_cons, hj]
      have ih := RepsK.val k t
      rw [e1, valV_neg (p := (j, x)) hj]
      exact ih
theorem RepsK.any (k : Key) : ∀ {ds : List (Key × D)} {us : List (Key × V)}, RepsK K F ds us → (us.any fun kv => decide (kv.1 = k)) = (ds.any fun kv => decide (kv.1 = k))
  | [], _, h => by rw [show _ = [] from h]; rfl
  | (j, d) :: ds, _, ⟨x, r, e, h, t⟩ => by subst e; rw [List.any_cons, List.any_cons, RepsK.any k t]
theorem RepsK.repl (k : Key) {y : V} {d' : D} (hy : Rep K F d' y) : ∀ {ds : List (Key × D)} {us : List (Key × V)}, RepsK K F ds us → RepsK K F (ds.map fun kv => if kv.1 = k then (kv.1, d') else kv) (us.map fun kv => if kv.1 = k then (kv.1, y) else kv)
  | [], _, h => by rw [show _ = [] from h]; exact rfl
  | (j, d) :: ds, _, ⟨x, r, e, h, t⟩ => by
    subst e
    rw [List.map_cons, List.map_cons]
    by_cases hj : j = k
    · simp only [if_pos hj]
      exact ⟨y, _, rfl, hy, RepsK.repl k hy t⟩
    · simp only [if_neg hj]
      exact ⟨x, _, rfl, h, RepsK.repl k hy t⟩
theorem RepsK.snoc (k : Key) {y : V} {d' : D} (hy : Rep K F d' y) : ∀ {ds : List (Key × D)} {us : List (Key × V)}, RepsK K F ds us → RepsK K F (ds ++ [(k, d')]) (us ++ [(k, y)])
  | [], _, h => by rw [show _ = [] from h]; exact ⟨y, [], rfl, hy, rfl⟩
  | (j, d) :: ds, _, ⟨x, r, e, h, t⟩ => by subst e; exact ⟨x, _, rfl, h, RepsK.snoc k hy t⟩
theorem RepsK.put (k : Key) {y : V} {d' : D} (hy : Rep K F d' y) {ds : List (Key × D)} {us : List (Key × V)} (h : RepsK K F ds us) : RepsK K F (putD ds k d') (putK us k y) := by
  unfold putD putK
  rw [h.any k]
  split
  · exact h.repl k hy
  · exact h.snoc k hy
theorem RepsK.merge : ∀ {more : List (Key × D)} {ms : List (Key × V)} {ds : List (Key × D)} {us : List (Key × V)}, RepsK K F more ms → RepsK K F ds us → RepsK K F (mergeD ds more) (mergeK us ms)
  | [], _, _, _, h, r => by rw [show _ = [] from h]; exact r
  | (j, d) :: ds, _, es, us, ⟨x, r, e, h, t⟩, q => by
    subst e
    show RepsK K F (mergeD (putD es j d) ds) (mergeK (putK us j x) r)
    exact RepsK.merge t (q.put j h)
end

section
variable {X : Cx} {E : XK} {e a b idx : Expr} {es : List Expr} {x : Str} {pos p p2 p3 apos cpos : Pos} {i : Nat}

/-! ### new own objects of any kind -/
theorem born_c {B : Base} {F1 H1 : Hp} {O O1 : Addr → Option C} {r r1 : Env} {s : Sg} {Q : VK} {c : C} {o : HO} {p : Addr} (R1 : Rel X.K B F1 O1 H1 r1 s) (k1 : Keep s r r1 O O1)
    (q : ∀ F' O' H', Rel X.K B F' O' H' r1 s → Same F1 F' → Keep s r1 r1 O1 O' → ∀ a, O' a = some c → B.H0 a = none → Free s r1 a → (∀ c0, O a = some c0 → ¬ Free s r a) → Q (.ref a) H') (np : H1 p = none) (hx : CRep X.K F1 (upd H1 p o) p c) : Q (.ref p) (upd H1 p o) := by
  obtain ⟨ho, h0, fr, hf⟩ := R1.free_of np
  obtain ⟨R2, k2⟩ := R1.born (o := o) (c := c) np hx
  refine q F1 _ _ R2 (.refl _) k2 p (by simp) h0 fr fun c0 e f => ?_
  obtain ⟨z, _⟩ := k1 p c0 e f
  rw [ho] at z; cases z
/-- {} -/
def fNewD : FO := fun r => .ok (.dct [], r)
theorem eo_newD : EvO X E (.Dict [] [] pos) fNewD := PE.imp pe_dnewK fun s H Q ⟨B, F, O, r, R, q⟩ p np => by
  have q : ∀ F' O' H', Rel X.K B F' O' H' r s → Same F F' → Keep s r r O O' → ∀ a, O' a = some (.dct []) → B.H0 a = none → Free s r a → (∀ c0, O a = some c0 → ¬ Free s r a) → Q (.ref a) H' := q
  exact born_c R .refl q np ⟨[], upd_same, rfl⟩
/-- calls that make a dict -/
def rDnD (K : PySem.W.Frag) (g : List D → Option (List (Key × D))) : List V → Hp → VK → Prop := fun vs H Q => ∃ F ds es, Same F H ∧ RepBs K F H ds vs ∧ g ds = some es ∧ ∀ p xs, H p = none → RepsK K F es xs → Q (.ref p) (upd H p (.dK xs))
abbrev CallDD (X : Cx) (f : Value) (g : List D → Option (List (Key × D))) : Prop := CallR X f (rDnD X.K g)
def fCD (g : List D → Option (List (Key × D))) (fa : FA) : FO := fun r => (fa r).bnd fun bs r1 => obnd (bGets r1 bs) fun ds => obnd (g ds) fun es => .ok (.dct es, r1)
theorem cd_reads {g : List D → Option (List (Key × D))} {fa : FA} {s : Sg} {H : Hp} {Q : VK} (h : tO X.K X.mg E (fCD g fa) s H Q) : tCB (rDnD X.K g) (tA X.K X.mg E fa) s H Q := by
  obtain ⟨B, F, O, r, R, q⟩ := h
  refine ⟨B, F, O, r, R, ?_⟩
  have q : Post X.K X.mg E B F O r s ((fa r).bnd fun bs r1 => obnd (bGets r1 bs) fun ds => obnd (g ds) fun es => Res.ok (C.dct es, r1)) (fun c r' _ O' H' => ∀ a, O' a = some c → B.H0 a = none → Free s r' a → (∀ c0, O a = some c0 → ¬ Free s r a) → Q (.ref a) H') := q
  refine (Post.split q).mono fun bs r1 F1 O1 H1 R1 f1 k1 q1 vs hvs => ?_
  obtain ⟨ds, e1, q1⟩ := Post.opt q1
  obtain ⟨es, e2, q1⟩ := Post.opt q1
  exact ⟨F1, ds, es, R1.fh, R1.bgets hvs e1, e2, fun p xs np hx => born_c R1 k1 q1 np ⟨xs, upd_same, hx⟩⟩
theorem eo_callTD {T : String} {g : List D → Option (List (Key × D))} {fa : FA} (hc : CallDD X (.type T) g) (hm : X.mg x = none) (hv : bootBuiltins x = some (.type T)) (ha : EvA X E (e :: es) fa) (hg : Gl X x := by rfl) (hn : x ≠ "__name__" := by decide) (hdb : (x == ("__debug__" : Str)) = false := by decide)
    (he : starEach (e :: es) X.env = (false, eval e X.env) :: starEach es X.env := by rfl) (hpl : (backTo pos (starEach es X.env)).any (·.1) = false := by rfl) : EvO X E (.Call (.Name x p) (e :: es) [] pos) (fCD g fa) :=
  PE.imp (pe_callTy hc hg hm hv ha hn hdb he hpl) fun s H Q h => cd_reads h
def pairsD : List D → Option (List (Key × D))
  | [] => some []
  | .tup [k, v] :: ds => match keyOf k, pairsD ds with
    | some k, some r => some ((k, v) :: r)
    | _, _ => none
  | _ => none
def gDict : D → Option (List (Key × D))
  | .lst ds => (pairsD ds).map (mergeD [])
  | _ => none
theorem pairs_at {K : PySem.W.Frag} {F H : Hp} (f : Same F H) : ∀ {ds : List D} {vs : List V} {kvs : List (Key × D)}, pairsD ds = some kvs → Reps K F ds vs → ∃ (ps : List Addr) (us : List (Key × V)), vs = ps.map V.ref ∧ Paired (fun p kv => SqT K H p [kV kv.1, kv.2]) ps us ∧ RepsK K F kvs us
  | [], _, _, e, h => by
    cases e
    rw [show _ = [] from h]
    exact ⟨[], [], rfl, .nil, rfl⟩
  | d :: ds, _, kvs, e, ⟨x, r, e1, h, t⟩ => by
    subst e1
    unfold pairsD at e
    split at e
    · rename_i q; cases q
    · rename_i k v ds' q
      injection q with q1 q2
      subst q1; subst q2
      cases h1 : keyOf k with
      | none => rw [h1] at e; cases e
      | some kk =>
        cases h2 : pairsD ds with
        | none => rw [h1, h2] at e; cases e
        | some rr =>
          rw [h1, h2] at e
          cases e
          obtain ⟨ps, us, g1, g2, g3⟩ := pairs_at f h2 t
          obtain ⟨a, xs, g4, g5, g6⟩ := h
          obtain ⟨x1, r1, g7, g8, x2, r2, g9, g10, g11⟩ := g6
          subst g7; subst g9
          rw [show r2 = [] from g11] at g5
          rw [keyOf_rep h1 g8] at g5
          exact ⟨a :: ps, (kk, x2) :: us, by rw [g4, g1]; rfl, .cons (same_seqT f g5) g2, x2, us, rfl, g10, g3⟩
    · cases e
def gDict1 : List D → Option (List (Key × D))
  | [dx] => gDict dx
  | _ => none
theorem cdd_dict (hc : X.calm = true) : CallDD X (.type "dict") gDict1 := fun pins s σ H xs us Q I r ⟨F, ds, es, f1, hr, e, q⟩ => by
  match ds, hr, e with
  | [dx], .cons (v := v) hx .nil, e =>
    cases dx with
    | lst ls =>
      obtain ⟨kvs, e1, e2⟩ := Option.map_eq_some_iff.mp (show (pairsD ls).map (mergeD []) = some es from e)
      subst e2
      obtain ⟨a, xs, e3, h1, h2⟩ := hx
      obtain ⟨ps, us', g1, g2, g3⟩ := pairs_at f1 e1 h2
      subst g1
      exact call_dictP hc pins s σ H _ us Q I r ⟨a, ps, us', by rw [e3], h1, g2, fun p np => q p _ np (g3.merge rfl)⟩
    | _ => cases e
  | [], _, e => cases e
  | _ :: _ :: _, _, e => cases e

/-! ### d[k] -/
def gIxA : D → D → Option D
  | .dct kvs, y => (keyOf y).bind (valD kvs)
  | x, y => gIx x y
theorem ix_dict (hu : X.A.units + 1 < cLine) : IxR X (fun x y H Q => ∃ a v, x = .ref a ∧ DGet H a y (some v) ∧ Q v H) := fun va sl pins s σ H x y v u Q I rx ry ⟨a, w, ex, g, q⟩ hsb => by
  subst ex
  obtain rfl : v = Value.ref a := rx
  exact tail_any (dict_typeIs I g) PySem.F.slot_dict_getitem.lookup (d_getItem hu I g ry fun w' s3 I3 rw' => ⟨w, H, I3, rw', q⟩) hsb
theorem ixDA (hu : X.A.units + 1 < cLine) : IxR X (rD2 X.K gIxA) := fun va sl pins s σ H x y v u Q I rx ry ⟨F, dx, dy, d, f1, hx, hy, e, q⟩ hsb => by
  cases dx with
  | dct kvs =>
    obtain ⟨k, e1, e2⟩ := Option.bind_eq_some_iff.mp (show (keyOf dy).bind (valD kvs) = some d from e)
    obtain ⟨a, us, e3, h1, h2⟩ := hx
    have z := h2.val k
    rw [e2] at z
    obtain ⟨w, h3, h4⟩ := z
    refine ix_dict hu va sl pins s σ H x y v u Q I rx ry ⟨a, w, e3, ?_, q w F H (.refl f1) h4⟩ hsb
    rw [keyOf_repB e1 hy, ← h3]
    exact .inl ⟨us, k, h1, rfl, rfl⟩
  | _ => exact ixD va sl pins s σ H x y v u Q I rx ry ⟨F, _, dy, d, f1, hx, hy, e, q⟩ hsb
theorem ev_ixA {fa fb : FB} (hu : X.A.units + 1 < cLine) (ha : EvB X E a fa) (hb : EvB X E b fb) (hs : PlainIx b := by intro _ _; rfl) : EvE X E (.Subscript a b pos) (fBin gIxA fa fb) := PE.imp (pe_ix (ixDA hu) ha hb hs) fun s H Q h => bin_reads h

/-! ### own objects written -/
def C.ty : C → String
  | .lst _ => "list"
  | .dct _ => "dict"
def C.isL : C → Bool
  | .lst _ => true
  | _ => false
def C.isD : C → Bool
  | .dct _ => true
  | _ => false
theorem C.isL_ty {c : C} (h : c.isL = true) : c.ty = "list" := by cases c <;> first | rfl | cases h
theorem C.isD_ty {c : C} (h : c.isD = true) : c.ty = "dict" := by cases c <;> first | rfl | cases h
theorem CRep.tyV {K : PySem.W.Frag} {F H : Hp} {a : Addr} {c : C} (h : CRep K F H a c) : tyV K c.ty (.ref a) H := by
  cases c with
  | lst ds => obtain ⟨xs, h1, _⟩ := h; exact .inl ⟨rfl, xs, SqL.of h1⟩
  | dct ds => obtain ⟨xs, h1, _⟩ := h; exact .inr (.inr (.inl ⟨rfl, .inl ⟨xs, h1⟩⟩))
abbrev GM := C → List D → Option (D × C)
def rMut (K : PySem.W.Frag) (g : GM) : V → List V → Hp → VK → Prop := fun x vs H Q => ∃ F a c ds z c', x = .ref a ∧ Same F H ∧ CRep K F H a c ∧ Reps K F ds vs ∧ g c ds = some (z, c') ∧ ∀ zv o, Rep K F z zv → CRep K F (upd H a o) a c' → Q zv (upd H a o)
abbrev MutR (X : Cx) (id : String) (g : GM) : Prop := MtM X id (rMut X.K g)
def fMut (i : Nat) (tyc : C → Bool) (g : GM) (fl : FL) : FE := fun r => match r[i]? with
  | some (.own _ c0) => if tyc c0 = true then (fl r).bnd fun ds r1 => match r1[i]? with
    | some (.own p c) => obnd (g c ds) fun zc => .ok (zc.1, r1.set i (.own p zc.2))
    | _ => .stuck else .stuck
  | _ => .stuck
theorem mut_fin {B : Base} {F1 H1 : Hp} {O1 : Addr → Option C} {r1 : Env} {s : Sg} {Q : VK} {g : GM} {ds : List D} {vs : List V} {v : V} (R1 : Rel X.K B F1 O1 H1 r1 s) (hs : s[i]? = some (some v)) (hvs : Reps X.K F1 ds vs)
    (q1 : Post X.K X.mg E B F1 O1 r1 s (match r1[i]? with
      | some (.own p c) => obnd (g c ds) fun zc => Res.ok (zc.1, r1.set i (.own p zc.2))
      | _ => .stuck) (fun d _ F' _ H' => ∀ v, Rep X.K F' d v → Q v H')) : rMut X.K g v vs H1 Q := by
  cases m : r1[i]? with
  | none => rw [m] at q1; exact False.elim q1
  | some sl =>
    rw [m] at q1
    cases sl with
    | un => exact False.elim q1
    | rf _ => exact False.elim q1
    | val d => exact False.elim q1
    | own p c =>
      have q1 : Post X.K X.mg E B F1 O1 r1 s (obnd (g c ds) fun zc => Res.ok (zc.1, r1.set i (.own p zc.2))) (fun d _ F' _ H' => ∀ v, Rep X.K F' d v → Q v H') := q1
      obtain ⟨zc, e1, q1⟩ := Post.opt q1
      obtain ⟨z, c'⟩ := zc
      obtain ⟨a, h1, h2, _⟩ := R1.on i p c m
      obtain ⟨_, h3, _⟩ := R1.ow a c h2
      rw [hs] at h1; cases h1
      refine ⟨F1, a, c, ds, z, c', rfl, R1.fh, h3, hvs, e1, fun zv o hz hc => ?_⟩
      obtain ⟨R2, k2⟩ := R1.mut m hs hc
      exact Post.ok (k := fun d _ F' _ H' => ∀ v, Rep X.K F' d v → Q v H') q1 R2 (.refl _) k2 zv hz
theorem mut_reads {tyc : C → Bool} {T : String} (ht : ∀ {c : C}, tyc c = true → c.ty = T) {g : GM} {fl : FL} {s : Sg} {H : Hp} {Q : VK} (h : tE X.K X.mg E (fMut i tyc g fl) s H Q) : ∃ v, s[i]? = some (some v) ∧ tyV X.K T v H ∧ tL X.K X.mg E fl s H fun vs H1 => rMut X.K g v vs H1 Q := by
  obtain ⟨B, F, O, r, R, q⟩ := h
  have q : Post X.K X.mg E B F O r s (match r[i]? with
    | some (.own _ c0) => if tyc c0 = true then (fl r).bnd fun ds r1 => match r1[i]? with
      | some (.own p c) => obnd (g c ds) fun zc => Res.ok (zc.1, r1.set i (.own p zc.2))
      | _ => .stuck else .stuck
    | _ => .stuck) (fun d _ F' _ H' => ∀ v, Rep X.K F' d v → Q v H') := q
  cases m : r[i]? with
  | none => rw [m] at q; exact False.elim q
  | some sl =>
    rw [m] at q
    cases sl with
    | un => exact False.elim q
    | rf _ => exact False.elim q
    | val d => exact False.elim q
    | own p0 c0 =>
      have q : Post X.K X.mg E B F O r s (if tyc c0 = true then (fl r).bnd fun ds r1 => match r1[i]? with
        | some (.own p c) => obnd (g c ds) fun zc => Res.ok (zc.1, r1.set i (.own p zc.2))
        | _ => .stuck else .stuck) (fun d _ F' _ H' => ∀ v, Rep X.K F' d v → Q v H') := q
      split at q
      · rename_i hc
        obtain ⟨a, h1, h2, _⟩ := R.on i p0 c0 m
        obtain ⟨_, h3, _⟩ := R.ow a c0 h2
        refine ⟨.ref a, h1, by rw [← ht hc]; exact h3.tyV, B, F, O, r, R, (Post.split q).mono fun ds r1 F1 O1 H1 R1 f1 k1 q1 vs hvs => ?_⟩
        exact mut_fin R1 h1 hvs q1
      · exact False.elim q
/-- x.m(e, ..), x an own object's name -/
theorem ev_mut {tyc : C → Bool} {T id : String} {name : Str} {g : GM} {fl : FL} (ht : ∀ {c : C}, tyc c = true → c.ty = T) (pa : PlainAttrs T) (slot : PySem.Slot T name id) (hty : typeOf (.builtin id) = pure (.type "method_descriptor")) (hm : MutR X id g)
    (ho : PE X (.Name x p) (tVar i)) (ha : EvL X E (e :: es) fl)
    (hbase : attributeBase (.Name x p) name X.env (eval (.Name x p) X.env) = eval (.Name x p) X.env := by rfl)
    (hfew : ((backTo cpos (starEach (e :: es) X.env)).all (fun x => !x.1) && (backToKw cpos (keywordEach [] X.env)).all (fun x => x.1.isSome)
      && decide ((e :: es).length + ([] : List Keyword).length + (if ([] : List Keyword).isEmpty then 0 else 1) < 30)) = true := by rfl)
    (hline : (apos.endLine == cpos.line) = true := by rfl) (hs : starEach (e :: es) X.env = (false, eval e X.env) :: starEach es X.env := by rfl) (hplain : (backTo cpos (starEach es X.env)).any (·.1) = false := by rfl) :
    EvE X E (.Call (.Attribute (.Name x p) name apos) (e :: es) [] cpos) (fMut i tyc g fl) :=
  PE.imp (pe_bm pa slot hty hm ho ha hbase hfew hline hs hplain) fun s H Q h => mut_reads ht h
theorem ev_mut0 {tyc : C → Bool} {T id : String} {name : Str} {g : GM} (ht : ∀ {c : C}, tyc c = true → c.ty = T) (pa : PlainAttrs T) (slot : PySem.Slot T name id) (hty : typeOf (.builtin id) = pure (.type "method_descriptor")) (hm : MutR X id g)
    (ho : PE X (.Name x p) (tVar i)) (hbase : attributeBase (.Name x p) name X.env (eval (.Name x p) X.env) = eval (.Name x p) X.env := by rfl) (hline : (apos.endLine == cpos.line) = true := by rfl) :
    EvE X E (.Call (.Attribute (.Name x p) name apos) [] [] cpos) (fMut i tyc g fLNil) :=
  PE.imp (pe_bm0 pa slot hty hm ho hbase hline) fun s H Q h => by
    obtain ⟨v, h1, h2, B, F, O, r, R, q⟩ := mut_reads ht h
    exact ⟨v, h1, h2, Post.ok (k := fun ds _ F' _ H' => ∀ vs, Reps X.K F' ds vs → rMut X.K g v vs H' Q) q R (.refl _) .refl [] rfl⟩
def gAppend : GM
  | .lst ds, [d] => if ds.length < sizeLine then some (.non, .lst (ds ++ [d])) else none
  | _, _ => none
theorem mut_append : MutR X "list.append" gAppend := fun pins s σ H x xs v us Q I rx rv ⟨F, a, c, ds, z, c', e1, f1, hc, hr, e, q⟩ => by
  cases c with
  | dct _ => cases e
  | lst es =>
    match ds, hr, e with
    | [], _, e => cases e
    | _ :: _ :: _, _, e => cases e
    | [d], ⟨y, r, e2, hy, e3⟩, e =>
      rw [show r = [] from e3] at e2
      simp only [gAppend] at e
      split at e
      · rename_i hl
        cases e
        obtain ⟨ys, h1, h2⟩ := hc
        exact mt_append pins s σ H x xs v us Q I rx rv ⟨a, ys, y, e1, e2, h1, by rw [h2.length]; exact hl, q _ _ rfl ⟨_, upd_same, h2.append (.cons hy .nil)⟩⟩
      · cases e
noncomputable def gPop : GM
  | .lst ds, [] => match ds[ds.length - 1]? with
    | some d => some (d, .lst ds.dropLast)
    | none => none
  | .lst ds, [.int i] => ifP (-(2 ^ 63) ≤ i ∧ i < 2 ^ 63) (match seqIndex? i ds.length with
    | some k => match ds[k]? with
      | some d => some (d, .lst (ds.eraseIdx k))
      | none => none
    | none => none) none
  | _, _ => none
theorem Reps.dropLast {K : PySem.W.Frag} {F : Hp} {ds : List D} {xs : List V} (h : Reps K F ds xs) : Reps K F ds.dropLast xs.dropLast := by
  rw [List.dropLast_eq_take, List.dropLast_eq_take, h.length]
  exact h.take _
theorem mut_pop : MutR X "list.pop" gPop := fun pins s σ H x xs v us Q I rx rv ⟨F, a, c, ds, z, c', e1, f1, hc, hr, e, q⟩ => by
  cases c with
  | dct _ => cases e
  | lst es =>
    obtain ⟨ys, h1, h2⟩ := hc
    match ds, hr, e with
    | [], hr, e =>
      simp only [gPop] at e
      cases m : es[es.length - 1]? with
      | none => rw [m] at e; cases e
      | some d =>
        rw [m] at e
        cases e
        obtain ⟨y, h3, h4⟩ := h2.get m
        exact mt_pop pins s σ H x xs v us Q I rx rv ⟨a, ys, y, e1, hr, h1, by rw [h2.length]; exact h3, q _ _ h4 ⟨_, upd_same, h2.dropLast⟩⟩
    | _ :: _ :: _, _, e => simp [gPop] at e
    | [d], ⟨y, r, e2, hy, e3⟩, e =>
      rw [show r = [] from e3] at e2
      cases d with
      | int k =>
        simp only [gPop, ifP] at e
        split at e
        · rename_i hk
          cases m : seqIndex? k es.length with
          | none => rw [m] at e; cases e
          | some j =>
            rw [m] at e
            have e : (match es[j]? with
              | some d => some (d, C.lst (es.eraseIdx j))
              | none => none) = some (z, c') := e
            cases m2 : es[j]? with
            | none => rw [m2] at e; cases e
            | some d =>
              rw [m2] at e
              cases e
              obtain ⟨w, h3, h4⟩ := h2.get m2
              exact mt_popAt pins s σ H x xs v us Q I rx rv ⟨a, ys, k, j, w, e1, by rw [e2, show y = V.int k from hy], h1, hk.1, hk.2, by rw [h2.length]; exact m, h3, q _ _ h4 ⟨_, upd_same, h2.eraseIdx j⟩⟩
        · cases e
      | _ => simp [gPop] at e
/-- x[i] = v -/
def gPut : C → D → D → Option C
  | .lst ds, .int k, d => (ixN ds.length k).map fun j => .lst (ds.set j d)
  | .dct kvs, k, d => match keyOf k with
    | some k => if kvs.length < sizeLine then some (.dct (putD kvs k d)) else none
    | none => none
  | _, _, _ => none
def rPut (K : PySem.W.Frag) : TSet := fun o i v H Q => ∃ F a c dk d c', o = .ref a ∧ Same F H ∧ CRep K F H a c ∧ Rep K F dk i ∧ Rep K F d v ∧ gPut c dk d = some c' ∧ ∀ ob, CRep K F (upd H a ob) a c' → Q (upd H a ob)
theorem set_own (hu : X.A.units + 1 < cLine) : PSet X (rPut X.K) := fun pins s σ H o i v ov iv u Q I ro ri rv ⟨F, a, c, dk, d, c', e1, f1, hc, hk, hd, e, q⟩ => by
  cases c with
  | lst ds =>
    obtain ⟨xs, h1, h2⟩ := hc
    cases dk with
    | int k =>
      obtain ⟨j, e2, e3⟩ := Option.map_eq_some_iff.mp (show (ixN ds.length k).map (fun j => C.lst (ds.set j d)) = some c' from e)
      subst e3
      exact set_list pins s σ H o i v ov iv u Q I ro ri rv ⟨a, xs, k, j, e1, hk, h1, by rw [h2.length]; exact e2, q _ ⟨_, upd_same, h2.set hd j⟩⟩
    | _ => cases e
  | dct kvs =>
    obtain ⟨us, h1, h2⟩ := hc
    have e : (match keyOf dk with
      | some k => if kvs.length < sizeLine then some (C.dct (putD kvs k d)) else none
      | none => none) = some c' := by
        unfold gPut at e
        cases dk <;> exact e
    cases m : keyOf dk with
    | none => rw [m] at e; cases e
    | some k =>
      rw [m] at e
      have e : (if kvs.length < sizeLine then some (C.dct (putD kvs k d)) else none) = some c' := e
      split at e
      · rename_i hl
        cases e
        refine set_dict hu pins s σ H o i v ov iv u Q I ro ri rv ⟨a, _, e1, ?_, q _ ⟨_, upd_same, h2.put k hd⟩⟩
        rw [keyOf_rep m hk]
        exact DPut.k h1 (by rw [h2.length]; exact hl)
      · cases e
def fPut (i : Nat) (fi fe : FE) : FS := fun r => thenS (fe r) fun d r1 => match r1[i]? with
  | some (.own _ _) => thenS (fi r1) fun k r2 => match r2[i]? with
    | some (.own p c) => match gPut c k d with
      | some c' => .nx (r2.set i (.own p c'))
      | none => .stuck
    | _ => .stuck
  | _ => .stuck
theorem es_put {fi fe : FE} (hu : X.A.units + 1 < cLine) (ho : PE X (.Name x p) (tVar i)) (hi : EvE X E idx fi) (he : EvE X E e fe)
    (ha : ∀ v, assign (.Subscript (.Name x p) idx p2) X.env v = (do
      let ov ← holding [v] (eval (.Name x p) X.env)
      let iv ← holding [v, ov] (eval idx X.env)
      standAt p2
      holding [v, ov, iv] (setItem ov iv v)
      release [v, ov, iv] []) := by intro _; rfl)
    (hs : swapsWithSole [.Subscript (.Name x p) idx p2] e pos.line X.env = pure false := by rfl) (hw : swappedStores [.Subscript (.Name x p) idx p2] e X.env = pure none := by rfl) (h1 : (assignEach [.Subscript (.Name x p) idx p2] X.env).map (·.2) = [assign (.Subscript (.Name x p) idx p2) X.env] := by rfl) :
    EvS X E (.Assign [.Subscript (.Name x p) idx p2] e pos) (fPut i fi fe) := PS.imp (ps_asg he (pg_sub ho hi (set_own hu) ha) hs hw h1) fun D' s H ⟨B, F, O, r, R, q⟩ => by
  refine ⟨B, F, O, r, R, (SPost.split q).mono fun d r1 F1 O1 H1 R1 f1 k1 q1 v hv => ?_⟩
  cases m : r1[i]? with
  | none => rw [m] at q1; exact False.elim q1
  | some sl =>
    rw [m] at q1
    cases sl with
    | un => exact False.elim q1
    | rf _ => exact False.elim q1
    | val d => exact False.elim q1
    | own p0 c0 =>
      have q1 : SPost X.K X.mg E B F1 D' (thenS (fi r1) fun k r2 => match r2[i]? with
        | some (.own p c) => match gPut c k d with
          | some c' => .nx (r2.set i (.own p c'))
          | none => .stuck
        | _ => .stuck) := q1
      obtain ⟨a, h1, _⟩ := R1.on i p0 c0 m
      refine ⟨.ref a, h1, B, F1, O1, r1, R1, (SPost.split q1).mono fun k r2 F2 O2 H2 R2 f2 k2 q2 kv hk => ?_⟩
      cases m2 : r2[i]? with
      | none => rw [m2] at q2; exact False.elim q2
      | some sl =>
        rw [m2] at q2
        cases sl with
        | un => exact False.elim q2
        | rf _ => exact False.elim q2
        | val d => exact False.elim q2
        | own p c =>
          have q2 : SPost X.K X.mg E B F2 D' (match gPut c k d with
            | some c' => .nx (r2.set i (.own p c'))
            | none => .stuck) := q2
          cases m3 : gPut c k d with
          | none => rw [m3] at q2; exact False.elim q2
          | some c' =>
            rw [m3] at q2
            obtain ⟨a', h2, h3, _⟩ := R2.on i p c m2
            obtain ⟨_, h4, _⟩ := R2.ow a' c h3
            rw [h1] at h2; cases h2
            refine ⟨F2, a, c, k, d, c', rfl, R2.fh, h4, hk, hv.mono f2, m3, fun ob hc => ?_⟩
            obtain ⟨R3, _⟩ := R2.mut m2 h1 hc
            exact q2 F2 _ _ s R3 (.refl _)

/-! ### raise -/
theorem pmk_own0 {C0 : Addr} {bmB : List Value} {B newId initId : String} (F : ExcBaseFacts B newId initId bmB) (q : PySem.W.excIn X.K C0 bmB newId = true) (gC : X.mg x = some (.ref C0)) (kC : PySem.W.keepIn X.K (.ref C0) = true) (r : Raises X (.ref C0)) (hg : Gl X x := by rfl)
    (hdb : (x == ("__debug__" : Str)) = false := by decide) : PMk X (.Call (.Name x p) [] [] pos) (fun _ H Q => Q (.ref C0) none H) := by
  intro pins s σ H Q I h
  refine wpAny_Call_Name_kw (ld_glob I hg gC ?_ hdb)
  refine PySem.W.callWith_K0 I.kIn kC ?_
  show wpAny _ _ (call (.ref C0) []) _ _ _
  obtain ⟨bm, N, nm, qn, bs, hdct, sn, sub, ab, col, dd, k0, k1, k2, k3, k5, mN, hC, hN, hni, T⟩ := exc_obj I.kIn q
  exact wpAny_call_exc_subT F T hC hN hni (fun h' e hm => mk_of I hm r h (I.hok.gone hm.new)) (by show 0 ≤ sizeLine; omega)
def fRaise (x : Str) : FS := fun _ => .ex ⟨x, none⟩
theorem es_raise0 {C0 : Addr} {bmB : List Value} {B newId initId : String} (hc : X.calm = true) (tk : Takes X fun cls dd _ H => E cls dd H) (F : ExcBaseFacts B newId initId bmB) (q : PySem.W.excIn X.K C0 bmB newId = true) (gC : X.mg x = some (.ref C0)) (kC : PySem.W.keepIn X.K (.ref C0) = true) (r : Raises X (.ref C0)) (hg : Gl X x := by rfl)
    (hdb : (x == ("__debug__" : Str)) = false := by decide) : EvS X E (.Raise (some (.Call (.Name x p) [] [] pos)) none p2) (fRaise x) :=
  PS.imp (ps_raise hc tk (pmk_own0 F q gC kC r hg hdb)) fun D' s H ⟨B, F, O, r, R, q⟩ =>
    q (.ref C0) none H ⟨⟨⟨C0, rfl, gC⟩, rfl⟩, R.fh, R.fr, R.st⟩

/-! ### list(range(..)) -/
noncomputable def rgL1 : List Int → Option (List D)
  | [j] => ifP (okRg j = true ∧ j.toNat ≤ 2 ^ 24) (some (rngD 0 j)) none
  | _ => none
noncomputable def rgL2 : List Int → Option (List D)
  | [i, j] => ifP (okRg i = true ∧ okRg j = true ∧ (j - i).toNat ≤ 2 ^ 24) (some (rngD i j)) none
  | _ => none
def fLRg (ro : List Int → Option (List D)) (fl : FL) : FO := fun r => (fl r).bnd fun ds r1 => obnd (ints? ds) fun ns => obnd (ro ns) fun es => .ok (.lst es, r1)
theorem rg_reps {K : PySem.W.Frag} {F : Hp} (i j : Int) : Reps K F (rngD i j) (rgV i j) := by
  unfold rngD rgV
  induction (List.range (j - i).toNat) with
  | nil => exact rfl
  | cons k ks ih => exact ⟨_, _, rfl, rfl, ih⟩
theorem lrg_reads {ro : List Int → Option (List D)} {fl : FL} {s : Sg} {H : Hp} {Q : VK} {k : List V → Hp → Prop} (h : tO X.K X.mg E (fLRg ro fl) s H Q)
    (w : ∀ ns es H1, ro ns = some es → (∀ p xs, H1 p = none → (∀ F, Reps X.K F es xs) → Q (.ref p) (upd H1 p (.lst xs))) → k (ns.map V.int) H1) : tL X.K X.mg E fl s H k := by
  obtain ⟨B, F, O, r, R, q⟩ := h
  refine ⟨B, F, O, r, R, ?_⟩
  have q : Post X.K X.mg E B F O r s ((fl r).bnd fun ds r1 => obnd (ints? ds) fun ns => obnd (ro ns) fun es => Res.ok (C.lst es, r1)) (fun c r' _ O' H' => ∀ a, O' a = some c → B.H0 a = none → Free s r' a → (∀ c0, O a = some c0 → ¬ Free s r a) → Q (.ref a) H') := q
  refine (Post.split q).mono fun ds r1 F1 O1 H1 R1 f1 k1 q1 vs hv => ?_
  obtain ⟨ns, e1, q1⟩ := Post.opt q1
  obtain ⟨es, e2, q1⟩ := Post.opt q1
  rw [ints_reps e1 hv]
  exact w ns es H1 e2 fun p xs np hx => born_c R1 k1 q1 np ⟨xs, upd_same, hx F1⟩
theorem prgA1 {ta : TA} (hm : X.mg "range" = none) (ha : PA X [a] ta) (hg : Gl X "range" := by rfl) (hs : starEach [a] X.env = [(false, eval a X.env)] := by rfl) : PRg X (.Call (.Name "range" p) [a] [] pos) (fun σ H Q => ta σ H fun vs H1 => ∃ j, vs = [.int j] ∧ Q 0 j H1) := by
  intro pins s σ H Q I h
  refine Call_ (ld_blt I hg hm boot_range (PyProof.Rows.callWith_type1 (thn (ha.run pos pins s σ H _ I h) fun us s1 ⟨vs, H1, I1, r1, q1⟩ => ?_) hs rfl))
  obtain ⟨j, e, q⟩ := q1
  subst e
  cases r1 with
  | cons r rr =>
    cases rr
    obtain ⟨t, rfl⟩ := r
    exact call_range_1 ⟨_, 0, j, _, _, _, H1, rfl, IsRange.new _ _ _ _ _ _ _, I1.kept fun b u e => Heap.get?_push_of_some _ e, q⟩
theorem prgA2 {ta : TA} (hm : X.mg "range" = none) (ha : PA X [a, b] ta) (hg : Gl X "range" := by rfl) (hs : starEach [a, b] X.env = [(false, eval a X.env), (false, eval b X.env)] := by rfl) (hs2 : starEach [b] X.env = [(false, eval b X.env)] := by rfl) :
    PRg X (.Call (.Name "range" p) [a, b] [] pos) (fun σ H Q => ta σ H fun vs H1 => ∃ i j, vs = [.int i, .int j] ∧ Q i j H1) := by
  intro pins s σ H Q I h
  refine Call_ (ld_blt I hg hm boot_range (PyProof.Rows.callWith_type1 (thn (ha.run pos pins s σ H _ I h) fun us s1 ⟨vs, H1, I1, r1, q1⟩ => ?_) (by rw [hs, hs2]) (by rw [hs2]; rfl)))
  obtain ⟨i, j, e, q⟩ := q1
  subst e
  cases r1 with
  | cons r rr =>
    cases rr with
    | cons r' rr' =>
      cases rr'
      obtain ⟨t, rfl⟩ := r
      obtain ⟨t', rfl⟩ := r'
      exact call_range_2 ⟨_, i, j, _, _, _, H1, rfl, IsRange.new _ _ _ _ _ _ _, I1.kept fun b u e => Heap.get?_push_of_some _ e, q⟩
theorem eo_lrg1 {fl : FL} (hc : X.calm = true) (hl : X.mg "list" = none) (hm : X.mg "range" = none) (ha : EvL X E [a] fl) (hg : Gl X "list" := by rfl) (hgr : Gl X "range" := by rfl) (na : starEach [.Call (.Name "range" p2) [a] [] p3] X.env = (false, eval (.Call (.Name "range" p2) [a] [] p3) X.env) :: starEach [] X.env := by rfl)
    (hs : starEach [a] X.env = [(false, eval a X.env)] := by rfl) : EvO X E (.Call (.Name "list" p) [.Call (.Name "range" p2) [a] [] p3] [] pos) (fLRg rgL1 fl) :=
  PE.imp (pe_listRg hc hg hl (prgA1 hm ha hgr hs) na) fun s H Q h => lrg_reads h fun ns es H1 e q => by
    match ns, e with
    | [], e => cases e
    | _ :: _ :: _, e => cases e
    | [j], e =>
      obtain ⟨hj, e⟩ := ifP_some (show ifP (okRg j = true ∧ j.toNat ≤ 2 ^ 24) (some (rngD 0 j)) none = some es from e)
      subst e
      · have h1 := okRg_true hj.1
        exact ⟨j, rfl, ⟨by omega, by omega, h1.1, h1.2, by rw [Int.sub_zero]; exact hj.2⟩, fun p np => q p _ np fun F => rg_reps 0 j⟩
theorem eo_lrg2 {fl : FL} (hc : X.calm = true) (hl : X.mg "list" = none) (hm : X.mg "range" = none) (ha : EvL X E [a, b] fl) (hg : Gl X "list" := by rfl) (hgr : Gl X "range" := by rfl) (na : starEach [.Call (.Name "range" p2) [a, b] [] p3] X.env = (false, eval (.Call (.Name "range" p2) [a, b] [] p3) X.env) :: starEach [] X.env := by rfl)
    (hs : starEach [a, b] X.env = [(false, eval a X.env), (false, eval b X.env)] := by rfl) (hs2 : starEach [b] X.env = [(false, eval b X.env)] := by rfl) : EvO X E (.Call (.Name "list" p) [.Call (.Name "range" p2) [a, b] [] p3] [] pos) (fLRg rgL2 fl) :=
  PE.imp (pe_listRg hc hg hl (prgA2 hm ha hgr hs hs2) na) fun s H Q h => lrg_reads h fun ns es H1 e q => by
    match ns, e with
    | [], e => cases e
    | [_], e => cases e
    | _ :: _ :: _ :: _, e => cases e
    | [i, j], e =>
      obtain ⟨hj, e⟩ := ifP_some (show ifP (okRg i = true ∧ okRg j = true ∧ (j - i).toNat ≤ 2 ^ 24) (some (rngD i j)) none = some es from e)
      subst e
      · have h1 := okRg_true hj.1
        have h2 := okRg_true hj.2.1
        exact ⟨i, j, rfl, ⟨h1.1, h1.2, h2.1, h2.2, hj.2.2⟩, fun p np => q p _ np fun F => rg_reps i j⟩

/-! ### a, b = a tuple or a list -/
def setTA (n : Nat) (g : FGts) : FGt := fun d r => match d with
  | .tup ds => if ds.length = n then g ds r else none
  | .lst ds => if ds.length = n then g ds r else none
  | _ => none
theorem PG.or {t u : TG} {tg : Expr} (h : PG X tg t) (h' : PG X tg u) : PG X tg (fun v s H Q => t v s H Q ∨ u v s H Q) := ⟨fun pins s σ H v w Q I rv q => q.elim (h.run pins s σ H v w Q I rv) (h'.run pins s σ H v w Q I rv)⟩
theorem eg_tupA {is : List Nat} {es : List Expr} {g : FGts} {n k : Nat} (hc : X.calm = true) (h : EvGs X es is g) (hn : (assignEach es X.env).length = n := by rfl) (hst : (assignEach es X.env).findIdx? (·.1) = none := by rfl) : EvG X (.Tuple es k pos) is (setTA n g) :=
  PG.imp (PG.or (pg_tup hc h hn hst) (pg_unl hc h hn hst)) fun v s H Q ⟨B, F, O, r, d, r', R, hd, e, q⟩ => by
    cases d with
    | tup ds =>
      obtain ⟨a, xs, e1, h1, h2⟩ := hd
      have e : (if ds.length = n then g ds r else none) = some r' := e
      by_cases hl : ds.length = n
      · rw [if_pos hl] at e
        exact .inl ⟨a, xs, e1, same_seqT R.fh h1, h2.length.trans hl, B, F, O, r, ds, r', R, h2, e, q⟩
      · rw [if_neg hl] at e; cases e
    | lst ds =>
      obtain ⟨a, xs, e1, h1, h2⟩ := hd
      have e : (if ds.length = n then g ds r else none) = some r' := e
      by_cases hl : ds.length = n
      · rw [if_pos hl] at e
        exact .inr ⟨a, xs, e1, R.fh.seq h1, h2.length.trans hl, B, F, O, r, ds, r', R, h2, e, q⟩
      · rw [if_neg hl] at e; cases e
    | _ => cases e
end
end Ev

/-! E14: small things for the generator; the law's end. -/
namespace Ev
open PySem PySem.Spec PyProof.Rows L2
open LamX (Tabs TabB TabS)
section
variable [TabsC]
theorem passEF {X : Cx} : Passes (L2.CX X.prog X.w) X EF := fun _ _ _ _ _ _ _ h => by
  obtain ⟨_, _, _, _, _, _, _, _, _, _, _, _, z⟩ := h
  exact z.elim
def fuel : Nat := 100000000

/-- the plain law: at every script the law's def gives True -/
def Keeps (g : FG) : Prop := ∀ ns : List Int, ns.length ≤ 63 → ∃ outs, g [.val (.lst (ns.map .int))] = .ok (.d (.bl true), outs)
def spLw (K : PySem.W.Frag) : Sp := fun vs H Q E => ∃ (a : Addr) (ns : List Int), vs = [.ref a] ∧ SqL K H a (ns.map V.int) ∧ ns.length ≤ 63 ∧ Tabs TabsC.T H ∧ ∀ H', Q (.bl true) H'
theorem law_imp {K : PySem.W.Frag} {mg : Str → Option Value} {g : FG} (hg : Keeps g) (vs : List V) (H : Hp) (Q : VK) (E : XK) (h : spLw K vs H Q E) : spF K mg 1 g vs H Q E := by
  obtain ⟨a, ns, rfl, hS, hl, hT, k⟩ := h
  obtain ⟨outs, e⟩ := hg ns hl
  let F : Hp := fun b => by classical exact if (∃ p ∈ TabsC.T, p.1 = b) then none else H b
  have Fo : ∀ {b : Addr}, (¬ ∃ p ∈ TabsC.T, p.1 = b) → F b = H b := fun n => if_neg n
  have fs : Same F H := fun b o e => by
    by_cases n : ∃ p ∈ TabsC.T, p.1 = b
    · have z : F b = none := if_pos n
      rw [z] at e; cases e
    · rw [Fo n] at e; exact e
  have hS2 : SqL K F a (ns.map V.int) := by
    have na : ∀ o, H a = some o → (∀ ps, o ≠ .tbl ps) → ¬ ∃ p ∈ TabsC.T, p.1 = a := fun o e n ⟨p, hp, z⟩ => by
      obtain ⟨ps, e1, _⟩ := hT p hp
      rw [z, e] at e1
      exact n ps (Option.some.inj e1)
    rcases hS with (h | ⟨o, h⟩) | h
    · exact .inl (.inl (by rw [Fo (na _ h (fun _ z => by cases z))]; exact h))
    · exact .inl (.inr ⟨o, by rw [Fo (na _ h (fun _ z => by cases z))]; exact h⟩)
    · exact .inr h
  refine ⟨F, [.val (.lst (ns.map .int))], rfl, fs, ⟨hT, fun p hp => if_pos ⟨p, hp, rfl⟩⟩, ⟨rfl, fun i d q => ?_, fun i p c q => ?_, fun i j c c' b q => ?_, fun i b q => ?_⟩, ?_⟩
  · cases i with
    | zero => cases q; exact ⟨.ref a, rfl, a, _, rfl, hS2, Reps.of_ints ns⟩
    | succ i => simp at q
  · cases i with
    | zero => cases q
    | succ i => simp at q
  · cases i with
    | zero => cases q
    | succ i => simp at q
  · cases i with
    | zero => cases q
    | succ i => simp at q
  · rw [e]
    exact fun v F' H' cp => by
      have : v = .bl true := cp.rep
      rw [this]
      exact k H'
theorem law_fn {P : Program} {w : World} {K : PySem.W.Frag} {mg : Str → Option Value} {base : Heap} {st : Stmt} {fa : Addr} {fd : FuncData} {k : Nat} {g : FG} {ps : List Str} (hg : Keeps g)
    (O : ∃ (f : Addr) (fd : FuncData), mg "law" = some (.ref f) ∧ Fun K "law" "law" st f fd ∧ Binds K fd ps [] ∧ GnOk P w K mg base (L2.CX P w) k f fd ps (spF K mg 1 g)) (hfa : mg "law" = some (.ref fa)) (F1 : Fun K "law" "law" st fa fd) :
    GnOk P w K mg base (L2.CX P w) k fa fd ps (spLw K) := by
  obtain ⟨f, fd', h1, h2, _, h4⟩ := O
  rw [hfa] at h1
  cases h1
  obtain ⟨_, _, _, _, _, _, _, _, _, _, l1, _⟩ := F1.ex
  obtain ⟨_, _, _, _, _, _, _, _, _, _, l2, _⟩ := h2.ex
  rw [l1] at l2
  cases l2
  exact h4.imp (law_imp hg)
end
/-- the law's call, where nothing is being shown; cs: code objects and their tables -/
theorem law_callG {P : Program} {w : World} {K : PySem.W.Frag} {mg mb : Str → Option Value} {CX : CXT} {k : Nat} {fa a : Addr} {fd : FuncData} {x : Str} {sp : Sp} {s₁ : Shared} {vs : List Value} {ns : List Int} {cs : List (Addr × Addr)}
    (KX : K.In s₁.heap) (hns : s₁.heap.Ns mainGlobals mg) (hb : s₁.heap.Ns builtinsNs mb) (hbb : ∀ x : Str, x ≠ "__name__" → mb x = bootBuiltins x) (hlim : s₁.heap.NoLimit) (hg : s₁.gens = #[])
    (hT : ∀ p ∈ cs, PySem.W.CodeHd s₁.heap p.1 p.2 ∧ s₁.heap.get? p.2 = some { cls := .none, data := .fields #[] }) (nT : ∀ p ∈ cs, K.lookup p.2 = none)
    (hbm : ∃ (bm : Addr) (ob : Obj), mg "__builtins__" = some (.ref bm) ∧ bm ≠ builtinsNs ∧ s₁.heap.get? bm = some ob ∧ ob.cls = .type "module" ∧ ob.dict = some builtinsNs ∧ ob.data = .plain)
    (ha : s₁.heap.get? a = some { cls := .type "list", data := .seq vs.toArray }) (hi : IntsAre vs ns) (hl : ns.length ≤ sizeLine) (hr : Room k callerA)
    (F : ∀ base : Heap, K.In base → base.Ns mainGlobals mg → (∀ p ∈ cs, TabB base mg p.1 p.2) → GnOk P w K mg base CX k fa fd [x] sp) (hbind : ∀ (s : Shared) (u : Value), BindsTo s fd ⟨[u], []⟩ [(x, u)])
    (hsp : ∀ H : Hp, (∀ p ∈ cs, H p.2 = some (.tbl #[])) → SqL K H a (ns.map V.int) → sp [.ref a] H (fun v _ => v = .bl true) fun _ _ _ => False)
    (hCX : ∀ H e s', CX [] H s₁ (fun _ _ _ => False) e s' → False) :
    codeAny (model P w) callerA (.call (.ref fa) ⟨[.ref a], []⟩) (fun r s' => r = .ok (.ret (.bool true)) ∧ OldK s₁.heap s'.heap ∧ s'.os = s₁.os ∧ AllBare s'.gens) s₁ := by
  have rv := vals_ints hi
  -- what is a table
  let It : Addr → Prop := fun b => ∃ p ∈ cs, p.2 = b
  have tb : ∀ {b : Addr}, It b → s₁.heap.get? b = some { cls := .none, data := .fields #[] } := fun {b} ⟨p, hp, e⟩ => by rw [← e]; exact (hT p hp).2
  have aT : ¬ It a := fun z => by
    have q := tb z
    rw [ha] at q
    cases congrArg Obj.data (Option.some.inj q)
  have core : ∀ H : Hp, (∀ b, It b → H b = some (.tbl #[])) → (∀ b, H b = none ∨ It b ∨ ∃ o xs, H b = some (.frz o (.lst xs))) → SqL K H a (ns.map V.int) → HOk P w H s₁.heap → (∀ b, H b ≠ none → b = a ∨ It b) → (H a ≠ none → K.lookup a = none) →
      codeAny (model P w) callerA (.call (.ref fa) ⟨[.ref a], []⟩) (fun r s' => r = .ok (.ret (.bool true)) ∧ OldK s₁.heap s'.heap ∧ s'.os = s₁.os ∧ AllBare s'.gens) s₁ := by
    intro H hH hO hS hok hA hK
    have only : ∀ {b : Addr}, b ≠ a → ¬ It b → H b = none := fun {b} n1 n2 => by
      by_cases q : H b = none
      · exact q
      · exact ((hA b q).elim n1 n2).elim
    -- an object that is no sequence and no empty table stays in the base
    have stay : ∀ {b : Addr} {o : Obj}, s₁.heap.get? b = some o → (∀ vs n, o.data ≠ .seq vs n) → o.data ≠ .fields #[] → (hidT s₁.heap H).get? b = some o := fun {b o} e h1 h2 => by
      refine hidT_get e (only (fun z => ?_) fun z => ?_)
      · rw [z, ha] at e; cases e
        exact h1 _ _ rfl
      · have q := tb z
        rw [q] at e; cases e
        exact h2 rfl
    have nsK : ∀ {b : Addr} {m : Str → Option Value}, s₁.heap.Ns b m → (hidT s₁.heap H).Ns b m := fun {b m} ⟨o, es, ep, e, d, r⟩ =>
      ⟨o, es, ep, stay e (fun vs n z => by rw [d] at z; cases z) (fun z => by rw [d] at z; cases z), d, r⟩
    have hKb : K.In (hidT s₁.heap H) := fun b o e => by
      refine hidT_get (KX b o e) ?_
      by_cases q : H b = none
      · exact q
      · rcases hA b q with z | ⟨p, hp, z⟩
        · rw [z] at e q
          rw [hK q] at e; cases e
        · rw [← z, nT p hp] at e; cases e
    have e0 : Env0 P w K mg (hidT s₁.heap H) callerA [] s₁ H :=
      ⟨rfl, ⟨hKb, nsK hns, ⟨mb, nsK hb, hbb⟩, let ⟨mc, h1, h2⟩ := hlim; ⟨mc, nsK h1, h2⟩⟩, fun b o e => of_hidT e, Nat.le_of_eq (hidT_size _ _), trivial, fun b hb => absurd (show b ∈ ([] : List Addr) from hb) (by simp), hok, .of_eq hg⟩
    have TB : ∀ p ∈ cs, TabB (hidT s₁.heap H) mg p.1 p.2 := fun p hp => by
      obtain ⟨⟨o, us, file, tf, flags, tg, inF, text, tt, e1, r1, r2, r3, r⟩, hP⟩ := hT p hp
      obtain ⟨bm, ob, b1, b2, b3, b4, b5, b6⟩ := hbm
      obtain ⟨og, es, ep, g1, g2, _⟩ := hns
      refine ⟨⟨o, us, file, tf, flags, tg, inF, text, tt, stay e1 (fun vs n z => by rw [r2] at z; cases z) (fun z => ?_), r1, r2, r3, r⟩, ⟨bm, ob, b1, b2, fun q => ?_, fun q => ?_, stay b3 (fun vs n z => by rw [b6] at z; cases z) (fun z => by rw [b6] at z; cases z), b4, b5, b6⟩, fun z => ?_⟩
      · rw [r2] at z; cases z
        simp at r3
      · rw [q, g1] at b3; cases b3
        rw [g2] at b6; cases b6
      · rw [q, hP] at b3; cases b3
        cases b6
      · rw [z, hP] at g1; cases g1
        cases g2
    refine codeAny_mono ((F _ hKb (nsK hns) TB).run callerA [] s₁ H ⟨[.ref a], []⟩ [.ref a] [.ref a] _ _ hr rfl e0 (hbind s₁ (.ref a)) (.cons rfl .nil) (hsp H (fun p hp => hH _ ⟨p, hp, rfl⟩) hS)) fun r s' h => ?_
    match r, h with
    | .error e, h => exact (hCX H e s' h).elim
    | .ok (.ret u), ⟨v, H', os, bare, un, hok', r', q⟩ =>
      have q' : v = .bl true := q
      subst q'
      obtain rfl : u = Value.bool true := r'
      have key : ∀ b o, ¬ It b → s₁.heap.get? b = some o → s'.heap.get? b = some o := fun b o nb e => by
        rcases hO b with z | z | ⟨ob, xs, z⟩
        · exact un.keep b o e z (by intro z; exact absurd (show b ∈ ([] : List Addr) from z) (by simp)) (by simp)
        · exact absurd z nb
        · obtain ⟨e1, _⟩ := hok b _ z
          obtain ⟨e2, _⟩ := hok' b _ (un.frzs b ob _ z)
          rw [e] at e1; cases e1
          exact e2
      have grown : ∀ b, It b → ∃ more : Array Value, s'.heap.get? b = some { cls := .none, data := .fields more } := fun b hb => by
        obtain ⟨more, z⟩ := un.tbls b #[] (hH b hb)
        exact ⟨_, hok' b _ z⟩
      refine ⟨rfl, ⟨fun b o e => ?_, fun b o e => ?_⟩, os, bare⟩
      · by_cases hb : It b
        · obtain ⟨more, hm⟩ := grown b hb
          obtain ⟨p, hp, ep⟩ := hb
          obtain ⟨C, hP⟩ := hT p hp
          rw [← ep] at e hm ⊢
          rw [hP] at e
          cases e
          exact .inr (.inl ⟨(C.tab hP).isCodeTable, rfl, #[], more, rfl, by rw [Array.empty_append]; exact hm⟩)
        · exact .inl (key b o hb e)
      · by_cases hb : It b
        · obtain ⟨more, hm⟩ := grown b hb
          exact ⟨_, hm⟩
        · exact ⟨o, key b o hb e⟩
  let fz : HO := .frz { cls := .type "list", data := .seq vs.toArray } (.lst (ns.map V.int))
  cases hk : K.lookup a with
  | some o =>
    have e := KX a o hk
    rw [ha] at e
    cases e
    let H : Hp := fun b => by classical exact if It b then some (.tbl #[]) else none
    have h1 : ∀ {b}, It b → H b = some (.tbl #[]) := fun z => if_pos z
    have h2 : ∀ {b}, ¬ It b → H b = none := fun z => if_neg z
    refine core H (fun b z => h1 z) (fun b => ?_) (.inr ⟨_, vs.toArray, _, hk, rfl, rfl, rfl, by rw [List.size_toArray, hi.length]; exact hl, by simpa using rv⟩) (fun b u z => ?_) (fun b z => ?_) fun z => absurd (h2 aT) z
    · by_cases q : It b
      · exact .inr (.inl q)
      · exact .inl (h2 q)
    · by_cases q : It b
      · rw [h1 q] at z; cases z
        exact tb q
      · rw [h2 q] at z; cases z
    · by_cases q : It b
      · exact .inr q
      · exact absurd (h2 q) z
  | none =>
    let H : Hp := fun b => by classical exact if b = a then some fz else if It b then some (.tbl #[]) else none
    have h0 : H a = some fz := if_pos rfl
    have h1 : ∀ {b}, It b → H b = some (.tbl #[]) := fun {b} z => (if_neg (fun q => by subst q; exact aT z)).trans (if_pos z)
    have h2 : ∀ {b}, b ≠ a → ¬ It b → H b = none := fun n z => (if_neg n).trans (if_neg z)
    refine core H (fun b z => h1 z) (fun b => ?_) (.inl (.inr ⟨{ cls := .type "list", data := .seq vs.toArray }, h0⟩)) (fun b u z => ?_) (fun b z => ?_) fun _ => hk
    · by_cases q : b = a
      · subst q; exact .inr (.inr ⟨_, _, h0⟩)
      · by_cases q2 : It b
        · exact .inr (.inl q2)
        · exact .inl (h2 q q2)
    · by_cases q : b = a
      · subst q
        rw [h0] at z; cases z
        exact ⟨ha, by rw [List.length_map]; exact hl, vs, _, rv, ha⟩
      · by_cases q2 : It b
        · rw [h1 q2] at z; cases z
          exact tb q2
        · rw [h2 q q2] at z; cases z
    · by_cases q : b = a
      · exact .inl q
      · by_cases q2 : It b
        · exact .inr q2
        · exact absurd (h2 q q2) z
/-- the tables of the defs cs: code object, table, the name that its code objects bear -/
abbrev tabsOf (cs : List (Addr × Addr × Str)) : TabsC := ⟨cs.map fun p => p.2⟩
theorem law_walk {l : PySem.W.OpenLaw} {q : Program} {loose : List Str} {XP : (Str → Option Value) → Heap → Prop} {YP : World → Heap → Prop} {d : DefRec} {K : Params → PySem.W.Frag} {k : Nat} (hn : l.most = some 63) (hdf : d.params.defaults = []) (hr : Room k callerA)
    (hY : ∀ (w : World) (h : Heap), YP w h → (K w.params).In h)
    (F : ∀ (w : World) (mg : Str → Option Value) (fa : Addr) (h : Heap), (K w.params).In h → h.Ns mainGlobals mg → mg d.name = some (.ref fa) →
      ∃ (fd : FuncData) (cs : List (Addr × Addr × Str)), (∀ p ∈ cs, (∃ (x : Str) (dx : DefRec), (recsOf q).find? (fun e => e.name == x) = some dx ∧ PySem.W.tabIn (K w.params) x = some (p.1, p.2.1)) ∧ (K w.params).lookup p.2.1 = none) ∧
        (∀ (s : Shared) (u : Value), BindsTo s fd ⟨[u], []⟩ [("script", u)]) ∧ ∀ base : Heap, (K w.params).In base → base.Ns mainGlobals mg → (∀ p ∈ cs, TabB base mg p.1 p.2.1) → GnOk l.prog w (K w.params) mg base (L2.CX l.prog w) k fa fd ["script"] (@spLw (tabsOf cs) (K w.params))) :
    PySem.W.WalkO q loose XP YP l.row.toRowW d [] (fun f vs => PySem.call f vs) :=
  Att.attach_call hn hdf fun w s₀ s₁ mg mb fa o pm cd doc a vs ns G Y ho hd hcd hmg hobj hints hlen hg => by
    have KX := hY w _ Y
    obtain ⟨fd, cs, hcs, hb, hF⟩ := F w mg fa _ KX G.T.g hmg
    have mem : ∀ p ∈ cs.map (fun p : Addr × Addr × Str => (p.1, p.2.1)), ∃ p' ∈ cs, p = (p'.1, p'.2.1) := fun p hp => by
      obtain ⟨p', h1, h2⟩ := List.mem_map.mp hp
      exact ⟨p', h1, h2.symm⟩
    refine law_callG (cs := cs.map fun p => (p.1, p.2.1)) KX G.T.g G.T.b G.T.builtins G.T.nolimit hg (fun p hp => ?_) (fun p hp => ?_) G.T.bmain hobj hints (Nat.le_trans hlen (by decide)) hr (fun base h1 h2 h3 => hF base h1 h2 fun p hp => h3 (p.1, p.2.1) (List.mem_map.mpr ⟨p, hp, rfl⟩)) hb (fun H hH hS => ?_) fun H e s' h => by
      obtain ⟨_, _, _, _, _, _, _, _, _, _, _, _, z⟩ := h
      exact z.elim
    · obtain ⟨p', h1, rfl⟩ := mem p hp
      obtain ⟨⟨x, dx, h2, h3⟩, _⟩ := hcs p' h1
      exact PySem.W.tab_of G.T KX h2 h3
    · obtain ⟨p', h1, rfl⟩ := mem p hp
      exact (hcs p' h1).2
    · refine ⟨a, ns, rfl, hS, hlen, fun p hp => ?_, fun _ => rfl⟩
      obtain ⟨p', h1, rfl⟩ := List.mem_map.mp hp
      exact LamX.TabS.nil (hH (p'.1, p'.2.1) (List.mem_map.mpr ⟨p', h1, rfl⟩))
end Ev

/-! E15: what the combinators compute, for simp: outermost first, nothing under a binder. -/
namespace Ev
open PySem PySem.Spec PyProof.Rows L2
variable [TabsC]
section
variable {α β γ : Type}
/-- a branch -/
def brB (b : Bool) (x y : α) : α := if b = true then x else y
@[simp] theorem brB_t (x y : α) : brB true x y = x := rfl
@[simp] theorem brB_f (x y : α) : brB false x y = y := rfl
def Fl.nxt (m : Fl) (u : FS) : Fl := match m with
  | .nx r => u r
  | o => o
@[simp] theorem nxt_nx (r : Env) (u : FS) : (Fl.nx r).nxt u = u r := rfl
@[simp] theorem nxt_rt (d : D) (r : Env) (u : FS) : (Fl.rt d r).nxt u = .rt d r := rfl
@[simp] theorem nxt_rtO (d : C) (r : Env) (u : FS) : (Fl.rtO d r).nxt u = .rtO d r := rfl
@[simp] theorem nxt_bk (r : Env) (u : FS) : (Fl.bk r).nxt u = .bk r := rfl
@[simp] theorem nxt_ct (r : Env) (u : FS) : (Fl.ct r).nxt u = .ct r := rfl
@[simp] theorem nxt_ex (x : Ex) (u : FS) : (Fl.ex x).nxt u = .ex x := rfl
@[simp] theorem nxt_st (u : FS) : (Fl.stuck).nxt u = .stuck := rfl
def Fl.fin (args : List Slot) (m : Fl) : Res (Rv × List Slot) := match m with
  | .nx r => fnEnd args (.d .non) r
  | .rt d r => fnEnd args (.d d) r
  | .rtO c r => fnEnd args (.o c) r
  | .ex x => .ex x
  | _ => .stuck
@[simp] theorem fin_nx (args : List Slot) (r : Env) : (Fl.nx r).fin args = fnEnd args (.d .non) r := rfl
@[simp] theorem fin_rt (args : List Slot) (d : D) (r : Env) : (Fl.rt d r).fin args = fnEnd args (.d d) r := rfl
@[simp] theorem fin_rtO (args : List Slot) (d : C) (r : Env) : (Fl.rtO d r).fin args = fnEnd args (.o d) r := rfl
@[simp] theorem fin_ex (args : List Slot) (x : Ex) : (Fl.ex x).fin args = .ex x := rfl
theorem fnRun_fin (N : Nat) (f : FS) (args : List Slot) : fnRun N f args = (f (args ++ List.replicate (N - args.length) .un)).fin args := rfl
/-- the loops, a turn at a time -/
def loopK (ft : FGt) (fb : FS) (ds : List D) (m : Fl) : Fl := match m with
  | .nx r2 => loopF ft fb ds r2
  | .ct r2 => loopF ft fb ds r2
  | .bk r2 => .nx r2
  | o => o
@[simp] theorem loopK_nx (ft : FGt) (fb : FS) (ds : List D) (r : Env) : loopK ft fb ds (.nx r) = loopF ft fb ds r := rfl
@[simp] theorem loopK_ct (ft : FGt) (fb : FS) (ds : List D) (r : Env) : loopK ft fb ds (.ct r) = loopF ft fb ds r := rfl
@[simp] theorem loopK_bk (ft : FGt) (fb : FS) (ds : List D) (r : Env) : loopK ft fb ds (.bk r) = .nx r := rfl
@[simp] theorem loopK_rt (ft : FGt) (fb : FS) (ds : List D) (d : D) (r : Env) : loopK ft fb ds (.rt d r) = .rt d r := rfl
@[simp] theorem loopK_ex (ft : FGt) (fb : FS) (ds : List D) (x : Ex) : loopK ft fb ds (.ex x) = .ex x := rfl
def obF (m : Option Env) (u : FS) : Fl := match m with
  | some r => u r
  | none => .stuck
@[simp] theorem obF_some (r : Env) (u : FS) : obF (some r) u = u r := rfl
@[simp] theorem loopF_nil (ft : FGt) (fb : FS) (r : Env) : loopF ft fb [] r = .nx r := rfl
theorem loopF_cons (ft : FGt) (fb : FS) (d : D) (ds : List D) (r : Env) : loopF ft fb (d :: ds) r = obF (ft d r) fun r1 => loopK ft fb ds (fb r1) := by
  show (match ft d r with
    | none => Fl.stuck
    | some r1 => match fb r1 with
      | .nx r2 => loopF ft fb ds r2
      | .ct r2 => loopF ft fb ds r2
      | .bk r2 => .nx r2
      | o => o) = _
  cases ft d r with
  | none => rfl
  | some r1 => rfl
/-- comprehensions -/
def obR (m : Option Env) (u : Env → Res β) : Res β := match m with
  | some r => u r
  | none => .stuck
@[simp] theorem obR_some (r : Env) (u : Env → Res β) : obR (some r) u = u r := rfl
@[simp] theorem loopC_nil (vs : List Nat) (ft : FGt) (tt : FT) (fe : FE) (r : Env) (acc : List D) : loopC vs ft tt fe [] r acc = .ok (acc, r) := rfl
theorem loopC_cons (vs : List Nat) (ft : FGt) (tt : FT) (fe : FE) (d : D) (ds : List D) (r : Env) (acc : List D) : loopC vs ft tt fe (d :: ds) r acc =
    obR (ft d r) fun r1 => (tt r1).bnd fun b r2 => brB b ((fe r2).bnd fun y r3 => if acc.length < sizeLine then loopC vs ft tt fe ds (unAll r3 vs) (acc ++ [y]) else .stuck) (loopC vs ft tt fe ds (unAll r2 vs) acc) := by
  show (match ft d r with
    | none => Res.stuck
    | some r1 => (tt r1).bnd fun b r2 => if b = true then (fe r2).bnd fun y r3 => if acc.length < sizeLine then loopC vs ft tt fe ds (unAll r3 vs) (acc ++ [y]) else .stuck else loopC vs ft tt fe ds (unAll r2 vs) acc) = _
  cases ft d r with
  | none => rfl
  | some r1 => rfl
def endC (vs : List Nat) (r1 : Env) (m : Res (List D × Env)) : Res (C × Env) := match m with
  | .ok p => .ok (.lst p.1, back vs r1 (unAll p.2 vs))
  | _ => .stuck
@[simp] theorem endC_ok (vs : List Nat) (r1 : Env) (p : List D × Env) : endC vs r1 (.ok p) = .ok (.lst p.1, back vs r1 (unAll p.2 vs)) := rfl
/-- one turn of a slot's reading -/
def slE (r : Env) (i : Nat) (m : Option Slot) : Res (D × Env) := match m with
  | some (.val d) => .ok (d, r)
  | some (.own false c) => .ok (c.d, r.set i (.val c.d))
  | _ => .stuck
def slB (r : Env) (i : Nat) (m : Option Slot) : Res (BV × Env) := match m with
  | some (.val d) => .ok (.val d, r)
  | some (.own _ _) => .ok (.slot i, r)
  | _ => .stuck
def slO (r : Env) (i : Nat) (m : Option Slot) : Res (C × Env) := match m with
  | some (.own false c) => .ok (c, r.set i .un)
  | _ => .stuck
@[simp] theorem slE_v (r : Env) (i : Nat) (d : D) : slE r i (some (.val d)) = .ok (d, r) := rfl
@[simp] theorem slE_o (r : Env) (i : Nat) (c : C) : slE r i (some (.own false c)) = .ok (c.d, r.set i (.val c.d)) := rfl
@[simp] theorem slB_v (r : Env) (i : Nat) (d : D) : slB r i (some (.val d)) = .ok (.val d, r) := rfl
@[simp] theorem slB_o (r : Env) (i : Nat) (p : Bool) (c : C) : slB r i (some (.own p c)) = .ok (.slot i, r) := rfl
@[simp] theorem slO_o (r : Env) (i : Nat) (c : C) : slO r i (some (.own false c)) = .ok (c, r.set i .un) := rfl
def asBl (d : D) (k : Bool → Res β) : Res β := match d with
  | .bl b => k b
  | _ => .stuck
@[simp] theorem asBl_b (b : Bool) (k : Bool → Res β) : asBl (.bl b) k = k b := rfl
def asIt (d : D) (k : Int → Res β) : Res β := match d with
  | .int b => k b
  | _ => .stuck
@[simp] theorem asIt_i (b : Int) (k : Int → Res β) : asIt (.int b) k = k b := rfl
/-- an own slot -/
def ownF (m : Option Slot) (k : Bool → C → Fl) : Fl := match m with
  | some (.own p c) => k p c
  | _ => .stuck
@[simp] theorem ownF_o (p : Bool) (c : C) (k : Bool → C → Fl) : ownF (some (.own p c)) k = k p c := rfl
def ownR (m : Option Slot) (k : Bool → C → Res β) : Res β := match m with
  | some (.own p c) => k p c
  | _ => .stuck
@[simp] theorem ownR_o (p : Bool) (c : C) (k : Bool → C → Res β) : ownR (some (.own p c)) k = k p c := rfl
def obC (m : Option C) (k : C → Fl) : Fl := match m with
  | some c => k c
  | none => .stuck
@[simp] theorem obC_some (c : C) (k : C → Fl) : obC (some c) k = k c := rfl
/-- what a def gave -/
def rvD (v : Rv) (k : D → Res β) : Res β := match v with
  | .d d => k d
  | .o _ => .stuck
def rvO (v : Rv) (k : C → Res β) : Res β := match v with
  | .d _ => .stuck
  | .o c => k c
@[simp] theorem rvD_d (d : D) (k : D → Res β) : rvD (.d d) k = k d := rfl
@[simp] theorem rvO_o (c : C) (k : C → Res β) : rvO (.o c) k = k c := rfl

/-- a continuation that simp leaves alone: what follows hangs on it -/
structure Wt {γ : Type} (g : γ) : Type where
def bK {α β : Type} (m : Res (α × Env)) (g : α → Env → Res (β × Env)) (_ : Wt g) : Res (β × Env) := m.bnd g
def lK {α β : Type} (m : Res α) (g : α → Res β) (_ : Wt g) : Res β := m.lft g
def oK {α β : Type} (m : Option α) (g : α → Res β) (_ : Wt g) : Res β := obnd m g
def tK {α : Type} (m : Res (α × Env)) (g : α → Env → Fl) (_ : Wt g) : Fl := thenS m g
def brK {α : Type} (b : Bool) (x y : α) (_ : Wt x) (_ : Wt y) : α := if b = true then x else y
@[simp] theorem bK_ok {α β : Type} (a : α) (r : Env) (g : α → Env → Res (β × Env)) (w : Wt g) : bK (.ok (a, r)) g w = g a r := (rfl)
@[simp] theorem bK_ex {α β : Type} (x : Ex) (g : α → Env → Res (β × Env)) (w : Wt g) : bK (.ex x : Res (α × Env)) g w = .ex x := (rfl)
@[simp] theorem bK_st {α β : Type} (g : α → Env → Res (β × Env)) (w : Wt g) : bK (.stuck : Res (α × Env)) g w = .stuck := (rfl)
@[simp] theorem lK_ok {α β : Type} (a : α) (g : α → Res β) (w : Wt g) : lK (.ok a) g w = g a := (rfl)
@[simp] theorem lK_ex {α β : Type} (x : Ex) (g : α → Res β) (w : Wt g) : lK (.ex x : Res α) g w = .ex x := (rfl)
@[simp] theorem oK_some {α β : Type} (a : α) (g : α → Res β) (w : Wt g) : oK (some a) g w = g a := (rfl)
@[simp] theorem tK_ok {α : Type} (a : α) (r : Env) (g : α → Env → Fl) (w : Wt g) : tK (.ok (a, r)) g w = g a r := (rfl)
@[simp] theorem tK_ex {α : Type} (x : Ex) (g : α → Env → Fl) (w : Wt g) : tK (.ex x : Res (α × Env)) g w = .ex x := (rfl)
@[simp] theorem brK_t {α : Type} (x y : α) (w : Wt x) (u : Wt y) : brK true x y w u = x := (rfl)
@[simp] theorem brK_f {α : Type} (x y : α) (w : Wt x) (u : Wt y) : brK false x y w u = y := (rfl)
def aBK {β : Type} (d : D) (k : Bool → Res β) (_ : Wt k) : Res β := asBl d k
@[simp] theorem aBK_b {β : Type} (b : Bool) (k : Bool → Res β) (w : Wt k) : aBK (.bl b) k w = k b := (rfl)
def aIK {β : Type} (d : D) (k : Int → Res β) (_ : Wt k) : Res β := asIt d k
@[simp] theorem aIK_i {β : Type} (b : Int) (k : Int → Res β) (w : Wt k) : aIK (.int b) k w = k b := (rfl)
def wFK (m : Option Slot) (k : Bool → C → Fl) (_ : Wt k) : Fl := ownF m k
@[simp] theorem wFK_o (p : Bool) (c : C) (k : Bool → C → Fl) (w : Wt k) : wFK (some (.own p c)) k w = k p c := (rfl)
def wRK {β : Type} (m : Option Slot) (k : Bool → C → Res β) (_ : Wt k) : Res β := ownR m k
@[simp] theorem wRK_o {β : Type} (p : Bool) (c : C) (k : Bool → C → Res β) (w : Wt k) : wRK (some (.own p c)) k w = k p c := (rfl)
def oCK (m : Option C) (k : C → Fl) (_ : Wt k) : Fl := obC m k
@[simp] theorem oCK_some (c : C) (k : C → Fl) (w : Wt k) : oCK (some c) k w = k c := (rfl)
def rDK {β : Type} (v : Rv) (k : D → Res β) (_ : Wt k) : Res β := rvD v k
def rOK {β : Type} (v : Rv) (k : C → Res β) (_ : Wt k) : Res β := rvO v k
@[simp] theorem rDK_d {β : Type} (d : D) (k : D → Res β) (w : Wt k) : rDK (.d d) k w = k d := (rfl)
@[simp] theorem rOK_o {β : Type} (d : C) (k : C → Res β) (w : Wt k) : rOK (.o d) k w = k d := (rfl)

@[simp ↓] theorem ap_fBE (f : FE) (r : Env) : fBE f r = bK (f r) (fun d r' => .ok (.val d, r')) ⟨⟩ := (rfl)
@[simp ↓] theorem ap_fEO (f : FO) (r : Env) : fEO f r = bK (f r) (fun c r' => .ok (c.d, r')) ⟨⟩ := (rfl)
@[simp ↓] theorem ap_fC (d : D) (r : Env) : fC d r = .ok (d, r) := (rfl)
@[simp ↓] theorem ap_fN (i : Nat) (r : Env) : fN i r = slE r i r[i]? := (rfl)
@[simp ↓] theorem ap_fNB (i : Nat) (r : Env) : fNB i r = slB r i r[i]? := (rfl)
@[simp ↓] theorem ap_fNO (i : Nat) (r : Env) : fNO i r = slO r i r[i]? := (rfl)
@[simp ↓] theorem ap_fBin (g : D → D → Option D) (fa fb : FB) (r : Env) : fBin g fa fb r = bK (fa r) (fun x r1 => bK (fb r1) (fun y r2 => oK (bGet r2 x) (fun dx => oK (bGet r2 y) (fun dy => oK (g dx dy) (fun d => .ok (d, r2)) ⟨⟩) ⟨⟩) ⟨⟩) ⟨⟩) ⟨⟩ := (rfl)
@[simp ↓] theorem ap_fBinO (g : D → D → Option (List D)) (fa fb : FB) (r : Env) : fBinO g fa fb r = bK (fa r) (fun x r1 => bK (fb r1) (fun y r2 => oK (bGet r2 x) (fun dx => oK (bGet r2 y) (fun dy => oK (g dx dy) (fun ds => .ok (.lst ds, r2)) ⟨⟩) ⟨⟩) ⟨⟩) ⟨⟩) ⟨⟩ := (rfl)
@[simp ↓] theorem ap_fTE (f : FE) (r : Env) : fTE f r = bK (f r) (fun d r' => aBK d (fun b => .ok (b, r')) ⟨⟩) ⟨⟩ := (rfl)
theorem ap_fChain0 (g g' : D → D → Option D) (fa fb fc : FB) (r : Env) : fChain g g' fa fb fc r = (fa r).bnd fun x r1 => (fb r1).bnd fun y r2 => obnd (bGet r2 x) fun dx => obnd (bGet r2 y) fun dy => obnd (g dx dy) fun z => asBl z fun b =>
  brB b ((fc r2).bnd fun w r3 => obnd (bGet r3 y) fun dy => obnd (bGet r3 w) fun dw => obnd (g' dy dw) fun d => .ok (d, r3)) (.ok (.bl false, r2)) := by
  unfold fChain
  congr 1; funext x r1; congr 1; funext y r2; congr 1; funext dx; congr 1; funext dy; congr 1; funext z
  cases z with
  | bl b => cases b <;> rfl
  | _ => rfl
@[simp ↓] theorem ap_fChain (g g' : D → D → Option D) (fa fb fc : FB) (r : Env) : fChain g g' fa fb fc r = bK (fa r) (fun x r1 => bK (fb r1) (fun y r2 => oK (bGet r2 x) (fun dx => oK (bGet r2 y) (fun dy => oK (g dx dy) (fun z => aBK z (fun b => brK b (bK (fc r2) (fun w r3 => oK (bGet r3 y) (fun dy => oK (bGet r3 w) (fun dw => oK (g' dy dw) (fun d => .ok (d, r3)) ⟨⟩) ⟨⟩) ⟨⟩) ⟨⟩) (.ok (.bl false, r2)) ⟨⟩ ⟨⟩) ⟨⟩) ⟨⟩) ⟨⟩) ⟨⟩) ⟨⟩) ⟨⟩ := (ap_fChain0 g g' fa fb fc r)
@[simp ↓] theorem ap_fUn (g : D → Option D) (fa : FB) (r : Env) : fUn g fa r = bK (fa r) (fun x r1 => oK (bGet r1 x) (fun dx => oK (g dx) (fun d => .ok (d, r1)) ⟨⟩) ⟨⟩) ⟨⟩ := (rfl)
@[simp ↓] theorem ap_fAnd (ft fu : FT) (r : Env) : fAnd ft fu r = bK (ft r) (fun b r1 => brK b (fu r1) (.ok (false, r1)) ⟨⟩ ⟨⟩) ⟨⟩ := (rfl)
@[simp ↓] theorem ap_fOr (ft fu : FT) (r : Env) : fOr ft fu r = bK (ft r) (fun b r1 => brK b (.ok (true, r1)) (fu r1) ⟨⟩ ⟨⟩) ⟨⟩ := (rfl)
@[simp ↓] theorem ap_fNot (ft : FT) (r : Env) : fNot ft r = bK (ft r) (fun b r1 => .ok (!b, r1)) ⟨⟩ := (rfl)
theorem ap_fAndV0 (fa fb : FE) (r : Env) : fAndV fa fb r = (fa r).bnd fun d r1 => asBl d fun b => brB b (fb r1) (.ok (.bl false, r1)) := by
  unfold fAndV
  congr 1; funext z r1
  cases z with
  | bl b => cases b <;> rfl
  | _ => rfl
@[simp ↓] theorem ap_fAndV (fa fb : FE) (r : Env) : fAndV fa fb r = bK (fa r) (fun d r1 => aBK d (fun b => brK b (fb r1) (.ok (.bl false, r1)) ⟨⟩ ⟨⟩) ⟨⟩) ⟨⟩ := (ap_fAndV0 fa fb r)
theorem ap_fOrV0 (fa fb : FE) (r : Env) : fOrV fa fb r = (fa r).bnd fun d r1 => asBl d fun b => brB b (.ok (.bl true, r1)) (fb r1) := by
  unfold fOrV
  congr 1; funext z r1
  cases z with
  | bl b => cases b <;> rfl
  | _ => rfl
@[simp ↓] theorem ap_fOrV (fa fb : FE) (r : Env) : fOrV fa fb r = bK (fa r) (fun d r1 => aBK d (fun b => brK b (.ok (.bl true, r1)) (fb r1) ⟨⟩ ⟨⟩) ⟨⟩) ⟨⟩ := (ap_fOrV0 fa fb r)
@[simp ↓] theorem ap_fNotV (fa : FE) (r : Env) : fNotV fa r = bK (fa r) (fun d r1 => aBK d (fun b => .ok (.bl (!b), r1)) ⟨⟩) ⟨⟩ := (rfl)
@[simp ↓] theorem ap_fIf (ft : FT) (fa fb : FE) (r : Env) : fIf ft fa fb r = bK (ft r) (fun b r1 => brK b (fa r1) (fb r1) ⟨⟩ ⟨⟩) ⟨⟩ := (rfl)
@[simp ↓] theorem ap_fLNil (r : Env) : fLNil r = .ok ([], r) := (rfl)
@[simp ↓] theorem ap_fLCons (fa : FE) (fl : FL) (r : Env) : fLCons fa fl r = bK (fa r) (fun d r1 => bK (fl r1) (fun ds r2 => .ok (d :: ds, r2)) ⟨⟩) ⟨⟩ := (rfl)
@[simp ↓] theorem ap_fANil (r : Env) : fANil r = .ok ([], r) := (rfl)
@[simp ↓] theorem ap_fACons (fa : FB) (fl : FA) (r : Env) : fACons fa fl r = bK (fa r) (fun d r1 => bK (fl r1) (fun ds r2 => .ok (d :: ds, r2)) ⟨⟩) ⟨⟩ := (rfl)
@[simp ↓] theorem ap_fTup (fl : FL) (r : Env) : fTup fl r = bK (fl r) (fun ds r1 => if ds.length ≤ sizeLine then .ok (.tup ds, r1) else .stuck) ⟨⟩ := (rfl)
@[simp ↓] theorem ap_fLst (fl : FL) (r : Env) : fLst fl r = bK (fl r) (fun ds r1 => if ds.length ≤ sizeLine then .ok (.lst ds, r1) else .stuck) ⟨⟩ := (rfl)
@[simp ↓] theorem ap_fPN (r : Env) : fPN r = .ok (none, r) := (rfl)
@[simp ↓] theorem ap_fPS (f : FE) (r : Env) : fPS f r = bK (f r) (fun d r1 => aIK d (fun i => .ok (some i, r1)) ⟨⟩) ⟨⟩ := (rfl)
@[simp ↓] theorem ap_fSl (fa : FB) (fl fh : FP) (r : Env) : fSl fa fl fh r = bK (fa r) (fun x r1 => bK (fl r1) (fun lo r2 => bK (fh r2) (fun hi r3 => oK (bGet r3 x) (fun dx => oK (gSl dx lo hi) (fun d => .ok (d, r3)) ⟨⟩) ⟨⟩) ⟨⟩) ⟨⟩) ⟨⟩ := (rfl)
@[simp ↓] theorem ap_fSkip (r : Env) : fSkip r = .nx r := (rfl)
@[simp ↓] theorem ap_fSeq (f u : FS) (r : Env) : fSeq f u r = (f r).nxt u := (rfl)
@[simp ↓] theorem ap_fBrk (r : Env) : fBrk r = .bk r := (rfl)
@[simp ↓] theorem ap_fCnt (r : Env) : fCnt r = .ct r := (rfl)
@[simp ↓] theorem ap_fDrop (f : FE) (r : Env) : fDrop f r = tK (f r) (fun _ r' => .nx r') ⟨⟩ := (rfl)
@[simp ↓] theorem ap_fRet (f : FE) (r : Env) : fRet f r = tK (f r) (fun d r' => .rt d r') ⟨⟩ := (rfl)
@[simp ↓] theorem ap_fRetO (f : FO) (r : Env) : fRetO f r = tK (f r) (fun d r' => .rtO d r') ⟨⟩ := (rfl)
@[simp ↓] theorem ap_fRetN (r : Env) : fRetN r = .rt .non r := (rfl)
@[simp ↓] theorem ap_fIfS (ft : FT) (f u : FS) (r : Env) : fIfS ft f u r = tK (ft r) (fun b r' => brK b (f r') (u r') ⟨⟩ ⟨⟩) ⟨⟩ := (rfl)
@[simp ↓] theorem ap_fAsg (ft : FGt) (f : FE) (r : Env) : fAsg ft f r = tK (f r) (fun d r' => obF (ft d r') .nx) ⟨⟩ := (rfl)
@[simp ↓] theorem ap_fAsgO (i : Nat) (f : FO) (r : Env) : fAsgO i f r = tK (f r) (fun c r' => obF (setO i c r') .nx) ⟨⟩ := (rfl)
@[simp ↓] theorem ap_f2Nil (r : Env) : f2Nil r = .ok ([], r) := (rfl)
@[simp ↓] theorem ap_f2V (fa : FE) (fl : FI2) (r : Env) : f2V fa fl r = bK (fa r) (fun d r1 => bK (fl r1) (fun ds r2 => .ok (.v d :: ds, r2)) ⟨⟩) ⟨⟩ := (rfl)
@[simp ↓] theorem ap_f2O (fa : FO) (fl : FI2) (r : Env) : f2O fa fl r = bK (fa r) (fun d r1 => bK (fl r1) (fun ds r2 => .ok (.o d :: ds, r2)) ⟨⟩) ⟨⟩ := (rfl)
@[simp ↓] theorem ap_fPar (ix : List Nat) (f : FI2) (r : Env) : fPar ix f r = tK (f r) (fun is r' => obF (setAll ix is r') .nx) ⟨⟩ := (rfl)
@[simp ↓] theorem ap_fFor (fi : FI) (ft : FGt) (fb : FS) (r : Env) : fFor fi ft fb r = tK (fi r) (fun ds r1 => loopF ft fb ds r1) ⟨⟩ := (rfl)
@[simp ↓] theorem ap_fSeqI (f : FE) (r : Env) : fSeqI f r = bK (f r) (fun d r1 => oK (seqOf d) (fun ds => .ok (ds, r1)) ⟨⟩) ⟨⟩ := (rfl)
@[simp ↓] theorem ap_fRg (ro : List Int → Option (List D)) (fl : FL) (r : Env) : fRg ro fl r = bK (fl r) (fun ds r1 => oK (ints? ds) (fun ns => oK (ro ns) (fun es => .ok (es, r1)) ⟨⟩) ⟨⟩) ⟨⟩ := (rfl)
@[simp ↓] theorem ap_fLRg (ro : List Int → Option (List D)) (fl : FL) (r : Env) : fLRg ro fl r = bK (fl r) (fun ds r1 => oK (ints? ds) (fun ns => oK (ro ns) (fun es => .ok (.lst es, r1)) ⟨⟩) ⟨⟩) ⟨⟩ := (rfl)
@[simp ↓] theorem ap_fEnumA (f : FE) (r : Env) : fEnumA f r = bK (f r) (fun d r1 => oK (seqOf d) (fun ds => .ok (enumD ds, r1)) ⟨⟩) ⟨⟩ := (rfl)
@[simp ↓] theorem ap_fLC (vs : List Nat) (fi : FI) (ft : FGt) (tt : FT) (fe : FE) (r : Env) : fLC vs fi ft tt fe r = bK (fi r) (fun ds r1 => endC vs r1 (loopC vs ft tt fe ds (unAll r1 vs) [])) ⟨⟩ := (rfl)
@[simp ↓] theorem ap_fYes (r : Env) : fYes r = .ok (true, r) := (rfl)
@[simp ↓] theorem ap_fCB (g : List D → Option D) (fa : FA) (r : Env) : fCB g fa r = bK (fa r) (fun bs r1 => oK (bGets r1 bs) (fun ds => oK (g ds) (fun d => .ok (d, r1)) ⟨⟩) ⟨⟩) ⟨⟩ := (rfl)
@[simp ↓] theorem ap_fCO (g : List D → Option (List D)) (fa : FA) (r : Env) : fCO g fa r = bK (fa r) (fun bs r1 => oK (bGets r1 bs) (fun ds => oK (g ds) (fun es => .ok (.lst es, r1)) ⟨⟩) ⟨⟩) ⟨⟩ := (rfl)
@[simp ↓] theorem ap_fCD (g : List D → Option (List (Key × D))) (fa : FA) (r : Env) : fCD g fa r = bK (fa r) (fun bs r1 => oK (bGets r1 bs) (fun ds => oK (g ds) (fun es => .ok (.dct es, r1)) ⟨⟩) ⟨⟩) ⟨⟩ := (rfl)
theorem ap_fMut0 (i : Nat) (tyc : C → Bool) (g : GM) (fl : FL) (r : Env) : fMut i tyc g fl r = ownR r[i]? fun _ c0 => brB (tyc c0) ((fl r).bnd fun ds r1 => ownR r1[i]? fun p c => obnd (g c ds) fun zc => .ok (zc.1, r1.set i (.own p zc.2))) .stuck := by
  rfl
@[simp ↓] theorem ap_fMut (i : Nat) (tyc : C → Bool) (g : GM) (fl : FL) (r : Env) : fMut i tyc g fl r = wRK r[i]? (fun _ c0 => brK (tyc c0) (bK (fl r) (fun ds r1 => wRK r1[i]? (fun p c => oK (g c ds) (fun zc => .ok (zc.1, r1.set i (.own p zc.2))) ⟨⟩) ⟨⟩) ⟨⟩) (.stuck) ⟨⟩ ⟨⟩) ⟨⟩ := (ap_fMut0 i tyc g fl r)
theorem ap_fPut0 (i : Nat) (fi fe : FE) (r : Env) : fPut i fi fe r = thenS (fe r) fun d r1 => ownF r1[i]? fun _ _ => thenS (fi r1) fun k r2 => ownF r2[i]? fun p c => obC (gPut c k d) fun c' => .nx (r2.set i (.own p c')) := by
  rfl
@[simp ↓] theorem ap_fPut (i : Nat) (fi fe : FE) (r : Env) : fPut i fi fe r = tK (fe r) (fun d r1 => wFK r1[i]? (fun _ _ => tK (fi r1) (fun k r2 => wFK r2[i]? (fun p c => oCK (gPut c k d) (fun c' => .nx (r2.set i (.own p c'))) ⟨⟩) ⟨⟩) ⟨⟩) ⟨⟩) ⟨⟩ := (ap_fPut0 i fi fe r)
@[simp ↓] theorem ap_fRaise (x : Str) (r : Env) : fRaise x r = .ex ⟨x, none⟩ := (rfl)
@[simp ↓] theorem ap_fNewD (r : Env) : fNewD r = .ok (.dct [], r) := (rfl)
@[simp ↓] theorem ap_fCallR (g : FG) (fa : FA) (r : Env) : fCallR g fa r = bK (fa r) (fun bs r1 => oK (argsOf r1 bs) (fun args => brK (apart bs) (lK (g args) (fun p => oK (setOuts r1 bs p.2) (fun r2 => .ok (p.1, r2)) ⟨⟩) ⟨⟩) (.stuck) ⟨⟩ ⟨⟩) ⟨⟩) ⟨⟩ := (rfl)
theorem ap_fCall0 (g : FG) (fa : FA) (r : Env) : fCall g fa r = (fCallR g fa r).bnd fun v r' => rvD v fun d => .ok (d, r') := by
  rfl
@[simp ↓] theorem ap_fCall (g : FG) (fa : FA) (r : Env) : fCall g fa r = bK (fCallR g fa r) (fun v r' => rDK v (fun d => .ok (d, r')) ⟨⟩) ⟨⟩ := (ap_fCall0 g fa r)
theorem ap_fCallO0 (g : FG) (fa : FA) (r : Env) : fCallO g fa r = (fCallR g fa r).bnd fun v r' => rvO v fun d => .ok (d, r') := by
  rfl
@[simp ↓] theorem ap_fCallO (g : FG) (fa : FA) (r : Env) : fCallO g fa r = bK (fCallR g fa r) (fun v r' => rOK v (fun d => .ok (d, r')) ⟨⟩) ⟨⟩ := (ap_fCallO0 g fa r)
end
/-! stores, arguments -/
def stN (r : Env) (i : Nat) (d : D) (m : Option Slot) : Option Env := match m with
  | some (.own true _) => none
  | none => none
  | _ => some (r.set i (.val d))
@[simp ↓] theorem ap_setN (i : Nat) (d : D) (r : Env) : setN i d r = stN r i d r[i]? := (rfl)
@[simp] theorem stN_u (r : Env) (i : Nat) (d : D) : stN r i d (some .un) = some (r.set i (.val d)) := rfl
@[simp] theorem stN_v (r : Env) (i : Nat) (d e : D) : stN r i d (some (.val e)) = some (r.set i (.val d)) := rfl
@[simp] theorem stN_o (r : Env) (i : Nat) (d : D) (c : C) : stN r i d (some (.own false c)) = some (r.set i (.val d)) := rfl
def stO (r : Env) (i : Nat) (d : C) (m : Option Slot) : Option Env := match m with
  | some (.own true _) => none
  | none => none
  | _ => some (r.set i (.own false d))
@[simp ↓] theorem ap_setO (i : Nat) (d : C) (r : Env) : setO i d r = stO r i d r[i]? := (rfl)
@[simp] theorem stO_u (r : Env) (i : Nat) (d : C) : stO r i d (some .un) = some (r.set i (.own false d)) := rfl
@[simp] theorem stO_v (r : Env) (i : Nat) (d : C) (e : D) : stO r i d (some (.val e)) = some (r.set i (.own false d)) := rfl
@[simp] theorem stO_o (r : Env) (i : Nat) (d : C) (c : C) : stO r i d (some (.own false c)) = some (r.set i (.own false d)) := rfl
@[simp] theorem setAll_nil (r : Env) : setAll [] [] r = some r := rfl
@[simp] theorem setAll_v (i : Nat) (is : List Nat) (d : D) (xs : List It2) (r : Env) : setAll (i :: is) (.v d :: xs) r = (setN i d r).bind (setAll is xs) := by
  show (match setN i d r with
    | some r' => setAll is xs r'
    | none => none) = _
  cases setN i d r <;> rfl
@[simp] theorem setAll_o (i : Nat) (is : List Nat) (d : C) (xs : List It2) (r : Env) : setAll (i :: is) (.o d :: xs) r = (setO i d r).bind (setAll is xs) := by
  show (match setO i d r with
    | some r' => setAll is xs r'
    | none => none) = _
  cases setO i d r <;> rfl
@[simp] theorem setsNil_ap (r : Env) : setsNil [] r = some r := rfl
@[simp] theorem setsCons_ap (f : FGt) (g : FGts) (d : D) (ds : List D) (r : Env) : setsCons f g (d :: ds) r = (f d r).bind (g ds) := by
  show (match f d r with
    | some r' => g ds r'
    | none => none) = _
  cases f d r <;> rfl
@[simp] theorem setTA_t (n : Nat) (g : FGts) (ds : List D) (r : Env) : setTA n g (.tup ds) r = if ds.length = n then g ds r else none := rfl
@[simp] theorem setTA_l (n : Nat) (g : FGts) (ds : List D) (r : Env) : setTA n g (.lst ds) r = if ds.length = n then g ds r else none := rfl
@[simp] theorem bGet_v (r : Env) (d : D) : bGet r (.val d) = some d := rfl
def slG (m : Option Slot) : Option D := match m with
  | some (.own _ c) => some c.d
  | some (.val d) => some d
  | _ => none
@[simp] theorem bGet_s (r : Env) (i : Nat) : bGet r (.slot i) = slG r[i]? := rfl
@[simp] theorem slG_o (p : Bool) (c : C) : slG (some (.own p c)) = some c.d := rfl
@[simp] theorem slG_v (d : D) : slG (some (.val d)) = some d := rfl
@[simp] theorem bGets_nil (r : Env) : bGets r [] = some [] := rfl
@[simp] theorem bGets_cons (r : Env) (b : BV) (bs : List BV) : bGets r (b :: bs) = (bGet r b).bind fun d => (bGets r bs).bind fun ds => some (d :: ds) := by
  show (match bGet r b, bGets r bs with
    | some d, some ds => some (d :: ds)
    | _, _ => none) = _
  cases bGet r b <;> cases bGets r bs <;> rfl
@[simp] theorem argOf_v (r : Env) (d : D) : argOf r (.val d) = some (.val d) := rfl
def slA (m : Option Slot) : Option Slot := match m with
  | some (.own _ c) => some (.own true c)
  | _ => none
@[simp] theorem argOf_s (r : Env) (i : Nat) : argOf r (.slot i) = slA r[i]? := rfl
@[simp] theorem slA_o (p : Bool) (c : C) : slA (some (.own p c)) = some (.own true c) := rfl
@[simp] theorem argsOf_nil (r : Env) : argsOf r [] = some [] := rfl
@[simp] theorem argsOf_cons (r : Env) (b : BV) (bs : List BV) : argsOf r (b :: bs) = (argOf r b).bind fun d => (argsOf r bs).bind fun ds => some (d :: ds) := by
  show (match argOf r b, argsOf r bs with
    | some d, some ds => some (d :: ds)
    | _, _ => none) = _
  cases argOf r b <;> cases argsOf r bs <;> rfl
@[simp] theorem apart_nil : apart [] = true := rfl
@[simp] theorem apart_v (d : D) (bs : List BV) : apart (.val d :: bs) = apart bs := rfl
@[simp] theorem apart_s (i : Nat) (bs : List BV) : apart (.slot i :: bs) = (bs.all (fun b => match b with
  | .slot j => i != j
  | _ => true) && apart bs) := rfl
@[simp] theorem setOuts_nil (r : Env) (os : List Slot) : setOuts r [] os = some r := by cases os <;> rfl
@[simp] theorem setOuts_v (r : Env) (d : D) (bs : List BV) (o : Slot) (os : List Slot) : setOuts r (.val d :: bs) (o :: os) = setOuts r bs os := rfl
def slS (r : Env) (i : Nat) (c' : C) (m : Option Slot) : Option Env := match m with
  | some (.own p _) => some (r.set i (.own p c'))
  | _ => none
@[simp] theorem setOuts_s (r : Env) (i : Nat) (bs : List BV) (p : Bool) (c' : C) (os : List Slot) : setOuts r (.slot i :: bs) (.own p c' :: os) = (slS r i c' r[i]?).bind fun r' => setOuts r' bs os := by
  show (match r[i]? with
    | some (.own p _) => setOuts (r.set i (.own p c')) bs os
    | _ => none) = _
  unfold slS
  cases r[i]? with
  | none => rfl
  | some s => cases s <;> rfl
@[simp] theorem slS_o (r : Env) (i : Nat) (c' : C) (p : Bool) (c : C) : slS r i c' (some (.own p c)) = some (r.set i (.own p c')) := rfl
@[simp] theorem ownKept_nil (rs : List Slot) : ownKept [] rs = true := by unfold ownKept; rfl
@[simp] theorem ownKept_o (c c' : C) (as rs : List Slot) : ownKept (.own true c :: as) (.own true c' :: rs) = ownKept as rs := rfl
@[simp] theorem ownKept_v (d : D) (as : List Slot) (r : Slot) (rs : List Slot) : ownKept (.val d :: as) (r :: rs) = ownKept as rs := by cases r <;> rfl
@[simp] theorem fnEnd_ap (args : List Slot) (d : Rv) (r : Env) : fnEnd args d r = brK (ownKept args r) (.ok (d, r.take args.length)) (.stuck) ⟨⟩ ⟨⟩ := (rfl)
@[simp] theorem Cd_l (ds : List D) : (C.lst ds).d = .lst ds := rfl
@[simp] theorem Cd_d (ds : List (Key × D)) : (C.dct ds).d = .dct ds := rfl
@[simp] theorem CisL_l (ds : List D) : (C.lst ds).isL = true := rfl
@[simp] theorem CisD_d (ds : List (Key × D)) : (C.dct ds).isD = true := rfl
@[simp] theorem seqOf_l (ds : List D) : seqOf (.lst ds) = some ds := rfl
@[simp] theorem seqOf_t (ds : List D) : seqOf (.tup ds) = some ds := rfl
@[simp] theorem ints_nil : ints? [] = some [] := rfl
@[simp] theorem ints_cons (i : Int) (ds : List D) : ints? (.int i :: ds) = (ints? ds).map (i :: ·) := rfl
@[simp] theorem unAll_nil (r : Env) : unAll r [] = r := rfl
@[simp] theorem unAll_cons (r : Env) (v : Nat) (vs : List Nat) : unAll r (v :: vs) = (unAll r vs).set v .un := rfl
def slK (r0 : Env) (v : Nat) (r : Env) (m : Option Slot) : Env := match m with
  | some (.val d) => r.set v (.val d)
  | _ => r
@[simp] theorem back_nil (r0 r : Env) : back [] r0 r = r := rfl
@[simp] theorem back_cons (v : Nat) (vs : List Nat) (r0 r : Env) : back (v :: vs) r0 r = slK r0 v (back vs r0 r) r0[v]? := by
  show (match r0[v]? with
    | some (.val d) => (back vs r0 r).set v (.val d)
    | _ => back vs r0 r) = _
  unfold slK
  cases r0[v]? with
  | none => rfl
  | some s => cases s <;> rfl
@[simp] theorem slK_v (r0 : Env) (v : Nat) (r : Env) (d : D) : slK r0 v r (some (.val d)) = r.set v (.val d) := rfl
@[simp] theorem slK_u (r0 : Env) (v : Nat) (r : Env) : slK r0 v r (some .un) = r := rfl
@[simp] theorem slK_o (r0 : Env) (v : Nat) (r : Env) (p : Bool) (c : C) : slK r0 v r (some (.own p c)) = r := rfl
@[simp] theorem sizeLine_big (n : Nat) (h : n ≤ 16777216 := by omega) : n ≤ sizeLine := by rw [sizeLine_eq]; exact h

def D.isInt : D → Bool
  | .int _ => true
  | .bl _ => true
  | _ => false
def D.isBl : D → Bool
  | .bl _ => true
  | _ => false
def D.isTup : D → Bool
  | .tup _ => true
  | _ => false
def D.isLst : D → Bool
  | .lst _ => true
  | _ => false
def D.isStr : D → Bool
  | .str _ => true
  | _ => false
def D.isDct : D → Bool
  | .dct _ => true
  | _ => false
theorem kitI (d : D) : kitB d.ty "int" = some d.isInt := by
  cases d with
  | non  => exact (by decide +kernel : kitB "NoneType" "int" = some false)
  | bl b => exact (by decide +kernel : kitB "bool" "int" = some true)
  | int i => exact (by decide +kernel : kitB "int" "int" = some true)
  | str x => exact (by decide +kernel : kitB "str" "int" = some false)
  | tup xs => exact (by decide +kernel : kitB "tuple" "int" = some false)
  | lst xs => exact (by decide +kernel : kitB "list" "int" = some false)
  | dct ks => exact (by decide +kernel : kitB "dict" "int" = some false)
theorem kitBl (d : D) : kitB d.ty "bool" = some d.isBl := by
  cases d with
  | non  => exact (by decide +kernel : kitB "NoneType" "bool" = some false)
  | bl b => exact (by decide +kernel : kitB "bool" "bool" = some true)
  | int i => exact (by decide +kernel : kitB "int" "bool" = some false)
  | str x => exact (by decide +kernel : kitB "str" "bool" = some false)
  | tup xs => exact (by decide +kernel : kitB "tuple" "bool" = some false)
  | lst xs => exact (by decide +kernel : kitB "list" "bool" = some false)
  | dct ks => exact (by decide +kernel : kitB "dict" "bool" = some false)
theorem kitT (d : D) : kitB d.ty "tuple" = some d.isTup := by
  cases d with
  | non  => exact (by decide +kernel : kitB "NoneType" "tuple" = some false)
  | bl b => exact (by decide +kernel : kitB "bool" "tuple" = some false)
  | int i => exact (by decide +kernel : kitB "int" "tuple" = some false)
  | str x => exact (by decide +kernel : kitB "str" "tuple" = some false)
  | tup xs => exact (by decide +kernel : kitB "tuple" "tuple" = some true)
  | lst xs => exact (by decide +kernel : kitB "list" "tuple" = some false)
  | dct ks => exact (by decide +kernel : kitB "dict" "tuple" = some false)
theorem kitL (d : D) : kitB d.ty "list" = some d.isLst := by
  cases d with
  | non  => exact (by decide +kernel : kitB "NoneType" "list" = some false)
  | bl b => exact (by decide +kernel : kitB "bool" "list" = some false)
  | int i => exact (by decide +kernel : kitB "int" "list" = some false)
  | str x => exact (by decide +kernel : kitB "str" "list" = some false)
  | tup xs => exact (by decide +kernel : kitB "tuple" "list" = some false)
  | lst xs => exact (by decide +kernel : kitB "list" "list" = some true)
  | dct ks => exact (by decide +kernel : kitB "dict" "list" = some false)
theorem kitS (d : D) : kitB d.ty "str" = some d.isStr := by
  cases d with
  | non  => exact (by decide +kernel : kitB "NoneType" "str" = some false)
  | bl b => exact (by decide +kernel : kitB "bool" "str" = some false)
  | int i => exact (by decide +kernel : kitB "int" "str" = some false)
  | str x => exact (by decide +kernel : kitB "str" "str" = some true)
  | tup xs => exact (by decide +kernel : kitB "tuple" "str" = some false)
  | lst xs => exact (by decide +kernel : kitB "list" "str" = some false)
  | dct ks => exact (by decide +kernel : kitB "dict" "str" = some false)
theorem kitDc (d : D) : kitB d.ty "dict" = some d.isDct := by
  cases d with
  | non  => exact (by decide +kernel : kitB "NoneType" "dict" = some false)
  | bl b => exact (by decide +kernel : kitB "bool" "dict" = some false)
  | int i => exact (by decide +kernel : kitB "int" "dict" = some false)
  | str x => exact (by decide +kernel : kitB "str" "dict" = some false)
  | tup xs => exact (by decide +kernel : kitB "tuple" "dict" = some false)
  | lst xs => exact (by decide +kernel : kitB "list" "dict" = some false)
  | dct ks => exact (by decide +kernel : kitB "dict" "dict" = some true)
@[simp] theorem g1o_ap (g : D → Option (List D)) (d : D) : g1o g [d] = g d := rfl
@[simp] theorem g1_ap (g : D → Option D) (d : D) : g1 g [d] = g d := rfl
@[simp] theorem g2_ap (g : D → D → Option D) (d e : D) : g2 g [d, e] = g d e := rfl
@[simp] theorem gDict1_ap (d : D) : gDict1 [d] = gDict d := rfl
@[simp] theorem gIsi_int (d : D) : gIsi "int" d = some (.bl d.isInt) := by unfold gIsi; rw [kitI]; rfl
@[simp] theorem gIsi_bool (d : D) : gIsi "bool" d = some (.bl d.isBl) := by unfold gIsi; rw [kitBl]; rfl
@[simp] theorem gIsi_tuple (d : D) : gIsi "tuple" d = some (.bl d.isTup) := by unfold gIsi; rw [kitT]; rfl
@[simp] theorem gIsi_list (d : D) : gIsi "list" d = some (.bl d.isLst) := by unfold gIsi; rw [kitL]; rfl
@[simp] theorem gIsi_str (d : D) : gIsi "str" d = some (.bl d.isStr) := by unfold gIsi; rw [kitS]; rfl
@[simp] theorem gIsi_dict (d : D) : gIsi "dict" d = some (.bl d.isDct) := by unfold gIsi; rw [kitDc]; rfl
@[simp] theorem gIsi2_tl (d : D) : gIsi2 "tuple" "list" d = some (.bl (d.isTup || d.isLst)) := by unfold gIsi2; rw [kitT, kitL]
@[simp] theorem gIsi2_lt (d : D) : gIsi2 "list" "tuple" d = some (.bl (d.isLst || d.isTup)) := by unfold gIsi2; rw [kitT, kitL]

@[simp] theorem gAdd_ii (i j : Int) : gAdd (.int i) (.int j) = some (.int (i + j)) := rfl
@[simp] theorem gSub_ii (i j : Int) : gSub (.int i) (.int j) = some (.int (i - j)) := rfl
@[simp] theorem gLt_ii (i j : Int) : gLt (.int i) (.int j) = some (.bl (decide (i < j))) := rfl
@[simp] theorem gLe_ii (i j : Int) : gLe (.int i) (.int j) = some (.bl (decide (i ≤ j))) := rfl
@[simp] theorem gGt_ii (i j : Int) : gGt (.int i) (.int j) = some (.bl (decide (j < i))) := rfl
@[simp] theorem gGe_ii (i j : Int) : gGe (.int i) (.int j) = some (.bl (decide (j ≤ i))) := rfl
@[simp] theorem gAdd_tt (xs ys : List D) (h : xs.length + ys.length ≤ sizeLine) : gAdd (.tup xs) (.tup ys) = some (.tup (xs ++ ys)) := if_pos h
theorem gMulA_ii {i j : Int} (h : CMul i j) : gMulA (.int i) (.int j) = some (.int (i * j)) := if_pos h
theorem gFdiv_ii {i j : Int} (h : CDivN i j) : gFdiv (.int i) (.int j) = some (.int (i.fdiv j)) := if_pos h
theorem gMod_ii {i j : Int} (h : j ≠ 0) : gMod (.int i) (.int j) = some (.int (i.fmod j)) := if_pos h
theorem gPow_ii {i j : Int} (h : CPow i j) : gPow (.int i) (.int j) = some (.int (i ^ j.toNat)) := if_pos h
@[simp] theorem gInt_i (i : Int) : gInt (.int i) = some (.int i) := rfl
@[simp] theorem gAbs_i (i : Int) : gAbs (.int i) = some (.int (if i < 0 then -i else i)) := rfl
@[simp] theorem gLen_l (ds : List D) : gLen (.lst ds) = some (.int ds.length) := rfl
@[simp] theorem gLen_t (ds : List D) : gLen (.tup ds) = some (.int ds.length) := rfl
@[simp] theorem gTupOf_l (ds : List D) : gTupOf (.lst ds) = some (.tup ds) := rfl
@[simp] theorem gTupOf_t (ds : List D) : gTupOf (.tup ds) = some (.tup ds) := rfl
@[simp] theorem gRev_l (ds : List D) : gRev (.lst ds) = some (.lst ds.reverse) := rfl
@[simp] theorem gRev_t (ds : List D) : gRev (.tup ds) = some (.tup ds.reverse) := rfl
@[simp] theorem gNeg_i (i : Int) : gNeg (.int i) = some (.int (-i)) := rfl
@[simp] theorem gIsB_n (x : D) : gIsB x .non = some (.bl x.isNon) := by cases x <;> rfl
@[simp] theorem gNotB_n (x : D) : gNotB x .non = some (.bl (!x.isNon)) := by cases x <;> rfl
@[simp] theorem gIsB_b (a b : Bool) : gIsB (.bl a) (.bl b) = some (.bl (decide (a = b))) := rfl
@[simp] theorem gNotB_b (a b : Bool) : gNotB (.bl a) (.bl b) = some (.bl (!decide (a = b))) := rfl
@[simp] theorem gEq_ii (i j : Int) : gEq (.int i) (.int j) = some (.bl (decide (i = j))) := rfl
@[simp] theorem gNe_ii (i j : Int) : gNe (.int i) (.int j) = some (.bl (!decide (i = j))) := rfl
@[simp] theorem gEq_bb (i j : Bool) : gEq (.bl i) (.bl j) = some (.bl (i == j)) := by cases i <;> cases j <;> rfl
@[simp] theorem gNe_bb (i j : Bool) : gNe (.bl i) (.bl j) = some (.bl (!(i == j))) := by cases i <;> cases j <;> rfl
theorem gIxA_l {xs : List D} {j : Nat} {d : D} (h : xs[j]? = some d) : gIxA (.lst xs) (.int j) = some d := atI_nat h
theorem gIxA_t {xs : List D} {j : Nat} {d : D} (h : xs[j]? = some d) : gIxA (.tup xs) (.int j) = some d := atI_nat h
end Ev

/-! E16: plain facts: loops, ints, sorting, equality. -/
namespace Ev
open PySem PySem.Spec PyProof.Rows L2
variable [TabsC]

/-! ### loops -/
def turnC (ft : FGt) (tt : FT) (fe : FE) (d : D) (r : Env) : Res (Option D × Env) := obR (ft d r) fun r1 => (tt r1).bnd fun b r2 => brB b ((fe r2).bnd fun y r3 => .ok (some y, r3)) (.ok (none, r2))
theorem loopC_map {vs : List Nat} {ft : FGt} {tt : FT} {fe : FE} {r0 : Env} {o : D → Option D} : ∀ {ds acc : List D}, (∀ d ∈ ds, ∃ r', turnC ft tt fe d r0 = .ok (o d, r') ∧ unAll r' vs = r0) → acc.length + ds.length ≤ sizeLine → loopC vs ft tt fe ds r0 acc = .ok (acc ++ ds.filterMap o, r0)
  | [], acc, _, _ => by rw [loopC_nil, List.filterMap_nil, List.append_nil]
  | d :: ds, acc, h, hl => by
    rw [List.length_cons] at hl
    obtain ⟨r', h1, h2⟩ := h d List.mem_cons_self
    rw [loopC_cons]
    unfold turnC at h1
    cases m : ft d r0 with
    | none => rw [m] at h1; cases h1
    | some r1 =>
      rw [m] at h1
      rw [obR_some] at h1 ⊢
      cases m2 : tt r1 with
      | stuck => rw [m2] at h1; cases h1
      | ex x => rw [m2] at h1; cases h1
      | ok p =>
        obtain ⟨b, r2⟩ := p
        rw [m2] at h1
        rw [Res.bnd_ok] at h1 ⊢
        cases b with
        | false =>
          rw [brB_f] at h1 ⊢
          simp only [Res.ok.injEq, Prod.mk.injEq] at h1
          obtain ⟨hh, rfl⟩ := h1
          rw [h2, loopC_map (fun d hd => h d (List.mem_cons_of_mem _ hd)) (by omega), List.filterMap_cons, ← hh]
        | true =>
          rw [brB_t] at h1 ⊢
          cases m3 : fe r2 with
          | stuck => rw [m3] at h1; cases h1
          | ex x => rw [m3] at h1; cases h1
          | ok p =>
            obtain ⟨y, r3⟩ := p
            rw [m3] at h1
            rw [Res.bnd_ok] at h1 ⊢
            simp only [Res.ok.injEq, Prod.mk.injEq] at h1
            obtain ⟨hh, rfl⟩ := h1
            rw [if_pos (by omega), h2, loopC_map (fun d hd => h d (List.mem_cons_of_mem _ hd)) (by rw [List.length_append, List.length_singleton]; omega), List.filterMap_cons, ← hh, List.append_assoc]
            rfl
/-- a for loop by its invariant -/
theorem loopF_inv {ft : FGt} {fb : FS} (I : Nat → Env → Prop) : ∀ {ds : List D} (k : Nat) {r : Env}, I k r → (∀ (i : Nat) (d : D) (r : Env), ds[i]? = some d → I (k + i) r → ∃ r', (obF (ft d r) fb = .nx r' ∨ obF (ft d r) fb = .ct r') ∧ I (k + i + 1) r') →
    ∃ r', loopF ft fb ds r = .nx r' ∧ I (k + ds.length) r'
  | [], k, r, h, _ => ⟨r, rfl, h⟩
  | d :: ds, k, r, h, st => by
    obtain ⟨r', h1, h2⟩ := st 0 d r rfl h
    have e : loopF ft fb (d :: ds) r = loopF ft fb ds r' := by
      rw [loopF_cons]
      cases m : ft d r with
      | none => rw [m] at h1; rcases h1 with h1 | h1 <;> cases h1
      | some r1 =>
        rw [m] at h1
        rw [obF_some] at h1 ⊢
        rcases h1 with h1 | h1
        · rw [h1, loopK_nx]
        · rw [h1, loopK_ct]
    obtain ⟨r'', h3, h4⟩ := loopF_inv (ds := ds) I (k + 1) h2 fun i d r hd hi => by
      obtain ⟨r', g1, g2⟩ := st (i + 1) d r (by simpa using hd) (by rw [show k + (i + 1) = k + 1 + i by omega]; exact hi)
      exact ⟨r', g1, by rw [show k + 1 + i + 1 = k + (i + 1) + 1 by omega]; exact g2⟩
    exact ⟨r'', by rw [e, h3], by rw [List.length_cons, show k + (ds.length + 1) = k + 1 + ds.length by omega]; exact h4⟩
/-- a for loop that looks for something -/
theorem loopF_find {ft : FGt} {fb : FS} (I J : Env → Prop) (s : D → Option D) : ∀ {ds : List D} {r : Env}, I r →
    (∀ d ∈ ds, ∀ r, I r → match s d with
      | none => ∃ r', (obF (ft d r) fb = .nx r' ∨ obF (ft d r) fb = .ct r') ∧ I r'
      | some v => ∃ r', obF (ft d r) fb = .rt v r' ∧ J r') →
    match ds.findSome? s with
      | none => ∃ r', loopF ft fb ds r = .nx r' ∧ I r'
      | some v => ∃ r', loopF ft fb ds r = .rt v r' ∧ J r'
  | [], r, h, _ => ⟨r, rfl, h⟩
  | d :: ds, r, h, st => by
    have h1 := st d List.mem_cons_self r h
    rw [List.findSome?_cons]
    cases ms : s d with
    | some v =>
      rw [ms] at h1
      obtain ⟨r', h2, h3⟩ := h1
      refine ⟨r', ?_, h3⟩
      rw [loopF_cons]
      cases m : ft d r with
      | none => rw [m] at h2; cases h2
      | some r1 =>
        rw [m] at h2
        rw [obF_some] at h2 ⊢
        rw [h2, loopK_rt]
    | none =>
      rw [ms] at h1
      obtain ⟨r', h2, h3⟩ := h1
      have e : loopF ft fb (d :: ds) r = loopF ft fb ds r' := by
        rw [loopF_cons]
        cases m : ft d r with
        | none => rw [m] at h2; rcases h2 with h2 | h2 <;> cases h2
        | some r1 =>
          rw [m] at h2
          rw [obF_some] at h2 ⊢
          rcases h2 with h2 | h2
          · rw [h2, loopK_nx]
          · rw [h2, loopK_ct]
      have ih := loopF_find I J s h3 fun d hd => st d (List.mem_cons_of_mem _ hd)
      simp only
      rw [e]
      exact ih

/-! ### ints -/
abbrev lsI (xs : List Int) : D := .lst (xs.map .int)
abbrev tpI (xs : List Int) : D := .tup (xs.map .int)
theorem pys_map (f : α → D) (g : α → PyData) (h : ∀ x, (f x).py = g x) : ∀ xs : List α, D.pys (xs.map f) = xs.map g
  | [] => rfl
  | x :: xs => by rw [List.map_cons, List.map_cons, ← pys_map f g h xs, ← h x]; rfl
theorem pys_int (xs : List Int) : D.pys (xs.map .int) = xs.map .int := pys_map _ _ (fun _ => rfl) xs
theorem noD_all : ∀ ds : List D, (∀ d ∈ ds, d.noDct = true) → D.noDcts ds = true
  | [], _ => rfl
  | d :: ds, h => by
    show (d.noDct && D.noDcts ds) = true
    rw [h d List.mem_cons_self, noD_all ds fun x hx => h x (List.mem_cons_of_mem _ hx)]
    rfl
theorem eqvAll_int : ∀ xs ys : List Int, PyData.eqvAll (xs.map .int) (ys.map .int) = decide (xs = ys)
  | [], [] => by simp [PyData.eqvAll]
  | [], _ :: _ => by simp [PyData.eqvAll]
  | _ :: _, [] => by simp [PyData.eqvAll]
  | x :: xs, y :: ys => by
    rw [List.map_cons, List.map_cons]
    show (PyData.eqv (.int x) (.int y) && PyData.eqvAll (xs.map .int) (ys.map .int)) = _
    rw [eqvAll_int xs ys]
    show ((x == y) && decide (xs = ys)) = _
    by_cases h : x = y <;> by_cases h2 : xs = ys <;> simp [h, h2]
theorem canLay_int : ∀ xs : List Int, PyData.canLayAll0 (xs.map .int) = true
  | [] => by simp [PyData.canLayAll0]
  | x :: xs => by simp [PyData.canLayAll0, PyData.canLay0, canLay_int xs]
theorem depth_int : ∀ xs : List Int, PyData.depthAll (xs.map .int) = 0
  | [] => by simp [PyData.depthAll]
  | x :: xs => by simp [PyData.depthAll, PyData.depth, depth_int xs]
theorem okEq_lsI (xs : List Int) : okEq (lsI xs) = true := by
  unfold okEq
  have h1 : (lsI xs).noDct = true := noD_all _ fun d hd => by
    obtain ⟨x, _, rfl⟩ := List.mem_map.mp hd
    rfl
  have h2 : SeqAt.shaped (lsI xs).py = true := by
    show SeqAt.shaped (.list (D.pys (xs.map .int))) = true
    rw [pys_int]
    unfold SeqAt.shaped
    simp [PyData.canLay0, PyData.depth, canLay_int, depth_int]
  rw [h1, h2]; rfl
theorem okEq_tpI (xs : List Int) : okEq (tpI xs) = true := by
  unfold okEq
  have h1 : (tpI xs).noDct = true := noD_all _ fun d hd => by
    obtain ⟨x, _, rfl⟩ := List.mem_map.mp hd
    rfl
  have h2 : SeqAt.shaped (tpI xs).py = true := by
    show SeqAt.shaped (.tuple (D.pys (xs.map .int))) = true
    rw [pys_int]
    unfold SeqAt.shaped
    simp [PyData.canLay0, PyData.depth, canLay_int, depth_int]
  rw [h1, h2]; rfl
theorem gEq_lsI (xs ys : List Int) : gEq (lsI xs) (lsI ys) = some (.bl (decide (xs = ys))) := by
  unfold gEq
  rw [okEq_lsI, okEq_lsI]
  show some (D.bl (PyData.eqvAll (D.pys (xs.map .int)) (D.pys (ys.map .int)))) = _
  rw [pys_int, pys_int, eqvAll_int]
theorem gEq_tpI (xs ys : List Int) : gEq (tpI xs) (tpI ys) = some (.bl (decide (xs = ys))) := by
  unfold gEq
  rw [okEq_tpI, okEq_tpI]
  show some (D.bl (PyData.eqvAll (D.pys (xs.map .int)) (D.pys (ys.map .int)))) = _
  rw [pys_int, pys_int, eqvAll_int]
theorem gNe_of_gEq {x y : D} {b : Bool} (h : gEq x y = some (.bl b)) : gNe x y = some (.bl (!b)) := by
  unfold gEq at h
  unfold gNe
  split at h
  · rename_i hc
    rw [if_pos hc]
    cases h
    rfl
  · cases h
theorem gNe_lsI (xs ys : List Int) : gNe (lsI xs) (lsI ys) = some (.bl (!decide (xs = ys))) := gNe_of_gEq (gEq_lsI xs ys)
theorem gNe_tpI (xs ys : List Int) : gNe (tpI xs) (tpI ys) = some (.bl (!decide (xs = ys))) := gNe_of_gEq (gEq_tpI xs ys)
/-! sorting -/
def sortI (xs : List Int) : List Int := xs.mergeSort (fun a b => decide (a ≤ b))
theorem merge_map {α β : Type} (f : α → β) (le : α → α → Bool) (le' : β → β → Bool) (h : ∀ a b, le' (f a) (f b) = le a b) : ∀ xs ys : List α, List.merge (xs.map f) (ys.map f) le' = (List.merge xs ys le).map f := fun xs ys => by
  induction xs generalizing ys with
  | nil => simp
  | cons x xs ih =>
    induction ys with
    | nil => simp
    | cons y ys ih2 =>
      simp only [List.map_cons, List.cons_merge_cons, h]
      split
      · rw [List.map_cons, ← ih]; rfl
      · rw [List.map_cons, ← ih2]; rfl
theorem sort_map {α β : Type} (f : α → β) (le : α → α → Bool) (le' : β → β → Bool) (h : ∀ a b, le' (f a) (f b) = le a b) (xs : List α) : (xs.map f).mergeSort le' = (xs.mergeSort le).map f := by
  rw [List.map_mergeSort]
  intro a _ b _
  rw [h]
theorem okSort_int (xs : List Int) : okSort (xs.map .int) = true := by
  have h1 : D.noDcts (xs.map .int) = true := noD_all _ fun d hd => by
    obtain ⟨x, _, rfl⟩ := List.mem_map.mp hd
    rfl
  have h2 : alikeD (xs.map .int) = true := by
    unfold alikeD
    rw [List.all_eq_true]
    intro d hd
    rw [List.all_eq_true]
    intro e he
    obtain ⟨x, _, rfl⟩ := List.mem_map.mp hd
    obtain ⟨y, _, rfl⟩ := List.mem_map.mp he
    simp [D.py, PySem.W.alike]
  have h3 : (xs.map D.int).all atomD = true := by
    rw [List.all_eq_true]
    intro d hd
    obtain ⟨x, _, rfl⟩ := List.mem_map.mp hd
    rfl
  have h4 : (xs.map D.int).all (fun x => decide (x.py.depth ≤ 60)) = true := by
    rw [List.all_eq_true]
    intro d hd
    obtain ⟨x, _, rfl⟩ := List.mem_map.mp hd
    simp [D.py, PyData.depth]
  unfold okSort
  rw [h1, h2, h3, h4]
  simp
theorem sortD_int (xs : List Int) : sortD (xs.map .int) = (sortI xs).map .int := by
  unfold sortD sortI
  refine sort_map _ _ _ (fun a b => ?_) xs
  have := congrFun (congrFun (PySem.W.dataLe_int (fun b : Int => b)) a) b
  exact this
theorem gSort_tpI (xs : List Int) : gSort (tpI xs) = some ((sortI xs).map .int) := by
  unfold gSort
  show (if okSort (xs.map .int) = true then some (sortD (xs.map .int)) else none) = _
  rw [if_pos (okSort_int xs), sortD_int]
theorem gSort_lsI (xs : List Int) : gSort (lsI xs) = some ((sortI xs).map .int) := by
  unfold gSort
  show (if okSort (xs.map .int) = true then some (sortD (xs.map .int)) else none) = _
  rw [if_pos (okSort_int xs), sortD_int]
theorem sortI_perm (xs : List Int) : (sortI xs).Perm xs := List.mergeSort_perm _ _
theorem sortI_sorted (xs : List Int) : (sortI xs).Pairwise (· ≤ ·) := by
  have := List.pairwise_mergeSort (le := fun a b : Int => decide (a ≤ b)) (fun a b c h1 h2 => by simp at *; omega) (fun a b => by simp; omega) xs
  exact this.imp fun h => by simpa using h
theorem sorted_uniq : ∀ {xs ys : List Int}, xs.Perm ys → xs.Pairwise (· ≤ ·) → ys.Pairwise (· ≤ ·) → xs = ys := fun h1 h2 h3 => List.Perm.eq_of_pairwise (fun a b _ _ h4 h5 => by omega) h2 h3 h1
/-! ranges -/
def rgI (n : Nat) : List Int := (List.range n).map fun k : Nat => (k : Int)
theorem rngD_0 (n : Nat) : rngD 0 (n : Int) = (rgI n).map .int := by
  unfold rngD rgI
  rw [List.map_map, show ((n : Int) - 0).toNat = n by omega]
  apply List.map_congr_left
  intro k _
  simp
theorem rgI_sorted (n : Nat) : (rgI n).Pairwise (· ≤ ·) := by
  unfold rgI
  rw [List.pairwise_map]
  exact List.pairwise_lt_range.imp fun h => by omega
theorem sortI_rg {xs : List Int} {n : Nat} : sortI xs = rgI n ↔ xs.Perm (rgI n) :=
  ⟨fun h => (sortI_perm xs).symm.trans (by rw [h]), fun h => sorted_uniq ((sortI_perm xs).trans h) (sortI_sorted xs) (rgI_sorted n)⟩
theorem rgI_len (n : Nat) : (rgI n).length = n := by simp [rgI]
theorem rgI_mem {n : Nat} {x : Int} : x ∈ rgI n ↔ 0 ≤ x ∧ x < n := by
  unfold rgI
  rw [List.mem_map]
  constructor
  · rintro ⟨k, h, rfl⟩
    have := List.mem_range.mp h
    omega
  · intro h
    exact ⟨x.toNat, List.mem_range.mpr (by omega), by omega⟩
theorem okRg_of {i : Int} (h : -1000000000 ≤ i ∧ i ≤ 1000000000) : okRg i = true := by
  refine okRg_mk ?_
  have : (2 : Int) ^ 62 = 4611686018427387904 := by decide
  rw [this]
  omega
theorem rgL1_nat (n : Nat) (h : n ≤ 16777216) : rgL1 [(n : Int)] = some ((rgI n).map .int) := by
  have h1 := okRg_of (i := n) (by omega)
  show ifP (okRg (n : Int) = true ∧ (n : Int).toNat ≤ 2 ^ 24) (some (rngD 0 (n : Int))) none = _
  rw [ifP_pos ⟨h1, by simpa using h⟩, rngD_0]
theorem rg1_nat (n : Nat) (h : n ≤ 16777216) : rg1 [(n : Int)] = some ((rgI n).map .int) := by
  have h1 := okRg_of (i := n) (by omega)
  simp [rg1, h1, rngD_0]
/-! range(a, b, c) -/
def rgC (a b c : Int) : List Int := (List.range (Builtin.Range.rangeSize a b c).toNat).map fun k : Nat => a + k * c
theorem rngC_eq (a b c : Int) : rngC a b c = (rgC a b c).map .int := by
  unfold rngC rgC
  rw [List.map_map]
  rfl
theorem rgC_mem {a b c x : Int} (hc : 0 < c) (h : x ∈ rgC a b c) : a ≤ x ∧ x < b := by
  unfold rgC at h
  obtain ⟨k, hk, rfl⟩ := List.mem_map.mp h
  have hk := List.mem_range.mp hk
  unfold Builtin.Range.rangeSize at hk
  rw [if_pos hc] at hk
  split at hk
  · rename_i hab
    have h1 : 0 ≤ (b - a - 1) / c := Int.ediv_nonneg (by omega) (by omega)
    have h2 : (k : Int) ≤ (b - a - 1) / c := by omega
    have h3 : (k : Int) * c ≤ (b - a - 1) / c * c := Int.mul_le_mul_of_nonneg_right h2 (by omega)
    have h4 := Int.ediv_mul_le (b - a - 1) (show c ≠ 0 by omega)
    have h5 : 0 ≤ (k : Int) * c := Int.mul_nonneg (by omega) (by omega)
    omega
  · simp at hk
theorem rg3_of {a b c : Int} (ha : -1000000000 ≤ a ∧ a ≤ 1000000000) (hb : -1000000000 ≤ b ∧ b ≤ 1000000000) (hc : 0 < c ∧ c ≤ 1000000) : rg3 [a, b, c] = some ((rgC a b c).map .int) := by
  have h1 : Builtin.Range.small a b c = true := by
    have hs : 0 ≤ Builtin.Range.rangeSize a b c ∧ Builtin.Range.rangeSize a b c ≤ 3000000000 := by
      unfold Builtin.Range.rangeSize
      rw [if_pos hc.1]
      split
      · have h1 : 0 ≤ (b - a - 1) / c := Int.ediv_nonneg (by omega) (by omega)
        have h2 : (b - a - 1) / c ≤ b - a - 1 := Int.ediv_le_self _ (by omega)
        omega
      · omega
    have fit : ∀ x : Int, -9000000000 ≤ x ∧ x ≤ 9000000000 → Builtin.Range.rangeFitsLong x = true := fun x hx => by
      unfold Builtin.Range.rangeFitsLong
      rw [Bool.and_eq_true, decide_eq_true_eq, decide_eq_true_eq]
      have : (2 : Int) ^ 63 = 9223372036854775808 := by decide
      rw [this]
      omega
    unfold Builtin.Range.small
    rw [fit a (by omega), fit b (by omega), fit c (by omega), fit _ (by omega)]
    have h5 : (if c > 0 then Builtin.Range.rangeFitsLong (b + (c - 1)) else Builtin.Range.rangeFitsLong (b + (c + 1))) = true := by
      rw [if_pos hc.1]
      exact fit _ (by omega)
    rw [h5]
    simp
  have h2 : 0 ≤ Builtin.Range.rangeSize a b c := by
    unfold Builtin.Range.rangeSize
    rw [if_pos hc.1]
    split
    · have h1 : 0 ≤ (b - a - 1) / c := Int.ediv_nonneg (by omega) (by omega)
      omega
    · omega
  have h3 : c ≠ 0 := by omega
  have h4 : c.natAbs < 1073741824 := by omega
  show ifP (c ≠ 0 ∧ c.natAbs < 1073741824 ∧ Builtin.Range.small a b c = true ∧ 0 ≤ Builtin.Range.rangeSize a b c) (some (rngC a b c)) none = _
  rw [ifP_pos ⟨h3, h4, h1, h2⟩, rngC_eq]
/-! slots that hold nothing or data -/
def vsl : Option D → Slot
  | none => .un
  | some d => .val d
@[simp] theorem stN_vs (r : Env) (i : Nat) (d : D) (o : Option D) : stN r i d (some (vsl o)) = some (r.set i (.val d)) := by cases o <;> rfl
@[simp] theorem stO_vs (r : Env) (i : Nat) (d : C) (o : Option D) : stO r i d (some (vsl o)) = some (r.set i (.own false d)) := by cases o <;> rfl
theorem vsl_n : Slot.un = vsl none := rfl
theorem vsl_s (d : D) : Slot.val d = vsl (some d) := rfl
theorem enumD_get (ds : List D) (i : Nat) : (enumD ds)[i]? = (ds[i]?).map fun d => D.tup [.int (i : Nat), d] := by
  unfold enumD
  rw [List.getElem?_map, List.getElem?_zipIdx]
  cases ds[i]? <;> simp
theorem enumD_len (ds : List D) : (enumD ds).length = ds.length := by simp [enumD]
theorem flat_one (d : D) : ∀ n : Nat, (List.replicate n [d]).flatten = List.replicate n d
  | 0 => rfl
  | n + 1 => by rw [List.replicate_succ, List.flatten_cons, flat_one d n, List.replicate_succ]; rfl
theorem gRepL_one (d : D) (n : Nat) (h : n ≤ 16777216) : gRepL (.lst [d]) (.int n) = some (List.replicate n d) := by
  have : -(2 ^ 63) ≤ (n : Int) ∧ (n : Int) < 2 ^ 63 ∧ ([d] : List D).length * (n : Int).toNat ≤ sizeLine := by
    have e : (2 : Int) ^ 63 = 9223372036854775808 := by decide
    rw [sizeLine_eq, e]
    refine ⟨by omega, by omega, ?_⟩
    show 1 * _ ≤ _
    omega
  show ifP (-(2 ^ 63) ≤ (n : Int) ∧ (n : Int) < 2 ^ 63 ∧ ([d] : List D).length * (n : Int).toNat ≤ sizeLine) (some (List.replicate (n : Int).toNat [d]).flatten) none = _
  rw [ifP_pos this]
  rw [show (n : Int).toNat = n by omega, flat_one]
theorem gPut_nat {ds : List D} {j : Nat} (h : j < ds.length) (d : D) : gPut (.lst ds) (.int j) d = some (.lst (ds.set j d)) := by
  show (ixN ds.length (j : Int)).map (fun j => C.lst (ds.set j d)) = _
  have : ixN ds.length (j : Int) = some j := by
    unfold ixN
    rw [if_pos (by omega), if_pos (by omega)]
    simp
  rw [this]
  rfl
end Ev

/-! E17: sum, min, max of lists and tuples; in; name op= e; extend. -/
namespace Ev
open PySem PySem.Spec PyProof.Rows L2
variable [TabsC]

/-! ### sum -/
def gSum (d : D) : Option D := ((seqOf d).bind ints?).map fun ns => .int ns.sum
section
open PySem.W
variable {X : Cx}
theorem ints_of_reps {K : PySem.W.Frag} {F : Hp} {ds : List D} {ns : List Int} {xs : List V} {us : List Value} (e : ints? ds = some ns) (r : Reps K F ds xs) (v : Vals xs us) : IntsAre us ns := by
  rw [ints_reps e r] at v
  exact v.ints
theorem cd_sum (hc : X.calm = true) : CallD X (.builtin "sum") (g1 gSum) := CallD.one fun dx d e => by
  intro pins s σ H vs us Q I r ⟨F, x, e1, f1, hx, q⟩
  subst e1
  obtain ⟨u, rfl, ru⟩ := vals1 r
  unfold gSum at e
  obtain ⟨ns, e2, e3⟩ := Option.map_eq_some_iff.mp e
  obtain ⟨ds, e4, e5⟩ := Option.bind_eq_some_iff.mp e2
  subst e3
  cases dx with
  | lst ds' =>
    cases e4
    obtain ⟨a, xs, e6, h1, h2⟩ := hx
    subst e6
    cases ru
    obtain ⟨its, rv, pl, hz⟩ := I.list h1
    exact sum_raw (I.ok.hd hc) pl.isList (ints_of_reps e5 h2 rv) fun h' tk t' hk => ⟨.int _, H, I.kept hk, ⟨_, rfl⟩, q _ F H (.refl f1) rfl⟩
  | tup ds' =>
    cases e4
    obtain ⟨a, xs, e6, h1, h2⟩ := hx
    subst e6
    cases ru
    obtain ⟨its, rv, pl, hz⟩ := I.tuple (same_seqT f1 h1)
    have hi := ints_of_reps e5 h2 rv
    obtain ⟨ys, hx⟩ := hi.allInts.items
    have hn : numsOf its.toArray.toList = ns := by rw [show its.toArray.toList = its from rfl, hi.numsOf]
    rw [hx] at pl hn
    rw [nums_intItems] at hn
    refine ktm_sumG (I.ok.hd hc) pl fun h' tk t' hk => ?_
    rw [preSum_eq, List.take_of_length_le (by simp), hn]
    exact ⟨.int _, H, I.kept hk, ⟨_, rfl⟩, q _ F H (.refl f1) rfl⟩
  | _ => cases e4

/-! ### min, max -/
mutual
theorem py_inj : ∀ {d e : D}, d.noDct = true → e.noDct = true → d.py = e.py → d = e
  | .non, e, _, n, h => by cases e <;> first | rfl | cases h | cases n
  | .bl b, e, _, n, h => by cases e <;> first | (cases h; rfl) | cases h | cases n
  | .int b, e, _, n, h => by cases e <;> first | (cases h; rfl) | cases h | cases n
  | .str b, e, _, n, h => by cases e <;> first | (cases h; rfl) | cases h | cases n
  | .tup ds, e, n1, n, h => by
    cases e with
    | tup es =>
      have h : PyData.tuple (D.pys ds) = PyData.tuple (D.pys es) := h
      injection h with h
      rw [pys_inj n1 n h]
    | dct _ => cases n
    | _ => cases h
  | .lst ds, e, n1, n, h => by
    cases e with
    | lst es =>
      have h : PyData.list (D.pys ds) = PyData.list (D.pys es) := h
      injection h with h
      rw [pys_inj n1 n h]
    | dct _ => cases n
    | _ => cases h
  | .dct _, _, n, _, _ => by cases n
theorem pys_inj : ∀ {ds es : List D}, D.noDcts ds = true → D.noDcts es = true → D.pys ds = D.pys es → ds = es
  | [], [], _, _, _ => rfl
  | [], _ :: _, _, _, h => by cases h
  | _ :: _, [], _, _, h => by cases h
  | d :: ds, e :: es, n1, n2, h => by
    have n1 := Bool.and_eq_true_iff.mp n1
    have n2 := Bool.and_eq_true_iff.mp n2
    have h : d.py :: D.pys ds = e.py :: D.pys es := h
    injection h with h1 h2
    rw [py_inj n1.1 n2.1 h1, pys_inj n1.2 n2.2 h2]
end
theorem pys_eq : ∀ ds : List D, D.pys ds = ds.map D.py
  | [] => rfl
  | d :: ds => by rw [List.map_cons, ← pys_eq ds]; rfl
def minDD (x : D) (xs : List D) : D := xs.foldl (fun a y => if dataLt y.py a.py = true then y else a) x
def maxDD (x : D) (xs : List D) : D := xs.foldl (fun a y => if dataLt a.py y.py = true then y else a) x
theorem minDD_py : ∀ (xs : List D) (x : D), (minDD x xs).py = minD x.py (xs.map D.py)
  | [], _ => rfl
  | y :: xs, x => by
    show (minDD (if dataLt y.py x.py = true then y else x) xs).py = minD (if dataLt y.py x.py = true then y.py else x.py) (xs.map D.py)
    rw [minDD_py xs]
    split <;> rfl
theorem maxDD_py : ∀ (xs : List D) (x : D), (maxDD x xs).py = maxD x.py (xs.map D.py)
  | [], _ => rfl
  | y :: xs, x => by
    show (maxDD (if dataLt x.py y.py = true then y else x) xs).py = maxD (if dataLt x.py y.py = true then y.py else x.py) (xs.map D.py)
    rw [maxDD_py xs]
    split <;> rfl
theorem minDD_mem : ∀ (xs : List D) (x : D), minDD x xs ∈ x :: xs
  | [], x => List.mem_cons_self
  | y :: xs, x => by
    show minDD (if dataLt y.py x.py = true then y else x) xs ∈ _
    have := minDD_mem xs (if dataLt y.py x.py = true then y else x)
    by_cases hlt : dataLt y.py x.py = true
    · rw [if_pos hlt] at this ⊢
      exact List.mem_cons_of_mem _ this
    · rw [if_neg hlt] at this ⊢
      rcases List.mem_cons.mp this with h | h
      · rw [h]; exact List.mem_cons_self
      · exact List.mem_cons_of_mem _ (List.mem_cons_of_mem _ h)
theorem maxDD_mem : ∀ (xs : List D) (x : D), maxDD x xs ∈ x :: xs
  | [], x => List.mem_cons_self
  | y :: xs, x => by
    show maxDD (if dataLt x.py y.py = true then y else x) xs ∈ _
    have := maxDD_mem xs (if dataLt x.py y.py = true then y else x)
    by_cases hlt : dataLt x.py y.py = true
    · rw [if_pos hlt] at this ⊢
      exact List.mem_cons_of_mem _ this
    · rw [if_neg hlt] at this ⊢
      rcases List.mem_cons.mp this with h | h
      · rw [h]; exact List.mem_cons_self
      · exact List.mem_cons_of_mem _ (List.mem_cons_of_mem _ h)
def okMin (ds : List D) : Bool := D.noDcts ds && alikeD ds && ds.all (fun x => !x.isNon) && decide (PyData.depthAll (ds.map D.py) ≤ 60)
def gMin1 (d : D) : Option D := match seqOf d with
  | some (x :: xs) => if okMin (x :: xs) = true then some (minDD x xs) else none
  | _ => none
def gMax1 (d : D) : Option D := match seqOf d with
  | some (x :: xs) => if okMin (x :: xs) = true then some (maxDD x xs) else none
  | _ => none
theorem noD_mem : ∀ {ds : List D}, D.noDcts ds = true → ∀ d ∈ ds, d.noDct = true
  | [], _, _, h => by simp at h
  | d :: ds, n, e, h => by
    have n := Bool.and_eq_true_iff.mp n
    rcases List.mem_cons.mp h with h | h
    · rw [h]; exact n.1
    · exact noD_mem n.2 e h
theorem okMin_facts {ds : List D} (h : okMin ds = true) : D.noDcts ds = true ∧ AlikeAll (ds.map D.py) ∧ PyData.depthAll (ds.map D.py) ≤ 60 := by
  unfold okMin at h
  simp only [Bool.and_eq_true, decide_eq_true_eq] at h
  obtain ⟨⟨⟨h1, h2⟩, h3⟩, h4⟩ := h
  refine ⟨h1, ⟨fun d hd d' hd' => ?_, fun d hd => ?_⟩, h4⟩
  · obtain ⟨x, hx, rfl⟩ := List.mem_map.mp hd
    obtain ⟨y, hy, rfl⟩ := List.mem_map.mp hd'
    exact List.all_eq_true.mp (List.all_eq_true.mp h2 x hx) y hy
  · obtain ⟨x, hx, rfl⟩ := List.mem_map.mp hd
    have := List.all_eq_true.mp h3 x hx
    intro z
    cases x <;> first | (cases z; done) | cases this
/-- what the library's rules of min and max leave, read back -/
theorem min_back {pins : List (Addr × Obj)} {σ : Sg} {H F : Hp} {s : Shared} (I : Inv X pins σ H s) (f1 : Same F H) {ds : List D} {xs : List V} {us : List Value} (r : Reps X.K F ds xs) (rv : Vals xs us) (n : D.noDcts ds = true) (al : alikeD ds = true)
    {i : Nat} {v : Value} {h' : Heap} {bs : List Addr} {m : D} (hm : m ∈ ds) (hv : us[i]? = some v) (hr : Reads h' v m.py bs) (hk : ∀ b o, s.heap.get? b = some o → h'.get? b = some o) : ∃ x, RelV x v ∧ Rep X.K F m x := by
  have hi : i < us.length := (List.getElem?_eq_some_iff.mp hv).1
  have hxl := rv.length
  obtain ⟨x, hx⟩ : ∃ x, xs[i]? = some x := ⟨xs[i]'(by omega), List.getElem?_eq_getElem _⟩
  obtain ⟨u, hu, ru⟩ := rv.get hx
  rw [hv] at hu
  cases hu
  obtain ⟨d, hd, rd⟩ := r.get' hx
  have nd := noD_mem n d (List.mem_of_getElem? hd)
  obtain ⟨as, h1⟩ := Dp.reads I _ _ _ (Rep.dp nd (rd.mono f1)) ru
  have h2 := PyProof.Rows.Reads.keeps hk h1
  have e : d.py = m.py := alike_unique _ _ _ _ _ (List.all_eq_true.mp (List.all_eq_true.mp al d (List.mem_of_getElem? hd)) m hm) h2 hr
  rw [← py_inj nd (noD_mem n m hm) e]
  exact ⟨x, ru, rd⟩
theorem cd_min1 (hc : X.calm = true) (hu : X.A.units + 64 < cLine) : CallD X (.builtin "min") (g1 gMin1) := CallD.one fun dx d e => by
  intro pins s σ H vs us Q I r ⟨F, x, e1, f1, hx, q⟩
  subst e1
  obtain ⟨u, rfl, ru⟩ := vals1 r
  unfold gMin1 at e
  cases hs : seqOf dx with
  | none => rw [hs] at e; cases e
  | some ds =>
    rw [hs] at e
    cases ds with
    | nil => cases e
    | cons y ys =>
      have e : (if okMin (y :: ys) = true then some (minDD y ys) else none) = some d := e
      split at e
      · rename_i ok
        cases e
        obtain ⟨n1, n2, n3⟩ := okMin_facts ok
        have al : alikeD (y :: ys) = true := by
          unfold okMin at ok
          simp only [Bool.and_eq_true] at ok
          exact ok.1.1.2
        have fin : ∀ {xs : List V} {its : List Value}, Reps X.K F (y :: ys) xs → Vals xs its → ∀ (i : Nat) (v : Value) (h' : Heap) (tk : Nat) (bs : List Addr), its.toArray[i]? = some v → Reads h' v (minD y.py (ys.map D.py)) bs → (∀ b o, s.heap.get? b = some o → h'.get? b = some o) → EP X pins σ Q v { s with heap := h', toks := tk } := fun {xs its} r2 rv i v h' tk bs hv hr hk => by
          rw [← minDD_py] at hr
          obtain ⟨x, h1, h2⟩ := min_back I f1 r2 rv n1 al (minDD_mem ys y) (by simpa using hv) hr hk
          exact ⟨x, H, I.kept hk, h1, q _ F H (.refl f1) h2⟩
        have hu' : X.A.units + 1 + PyData.depthAll (y.py :: ys.map D.py) < cLine := by
          have : PyData.depthAll (y.py :: ys.map D.py) ≤ 60 := n3
          omega
        cases dx with
        | lst ds' =>
          cases hs
          obtain ⟨a, xs, e6, h1, h2⟩ := hx
          subst e6
          cases ru
          obtain ⟨its, rv, pl, hz⟩ := I.list h1
          obtain ⟨as, rd⟩ := Dp.readsAll I _ _ _ (Reps.dp n1 (Reps.mono f1 h2)) rv
          rw [pys_eq] at rd
          exact min_list_data (I.ok.hd hc) pl.isList (by simpa using rd) n2 hu' (fin h2 rv)
        | tup ds' =>
          cases hs
          obtain ⟨a, xs, e6, h1, h2⟩ := hx
          subst e6
          cases ru
          obtain ⟨its, rv, pl, hz⟩ := I.tuple (same_seqT f1 h1)
          obtain ⟨as, rd⟩ := Dp.readsAll I _ _ _ (Reps.dp n1 (Reps.mono f1 h2)) rv
          rw [pys_eq] at rd
          exact min_tuple_data (I.ok.hd hc) pl (by simpa using rd) n2 hu' (fin h2 rv)
        | _ => cases hs
      · cases e
theorem cd_max1 (hc : X.calm = true) (hu : X.A.units + 64 < cLine) : CallD X (.builtin "max") (g1 gMax1) := CallD.one fun dx d e => by
  intro pins s σ H vs us Q I r ⟨F, x, e1, f1, hx, q⟩
  subst e1
  obtain ⟨u, rfl, ru⟩ := vals1 r
  unfold gMax1 at e
  cases hs : seqOf dx with
  | none => rw [hs] at e; cases e
  | some ds =>
    rw [hs] at e
    cases ds with
    | nil => cases e
    | cons y ys =>
      have e : (if okMin (y :: ys) = true then some (maxDD y ys) else none) = some d := e
      split at e
      · rename_i ok
        cases e
        obtain ⟨n1, n2, n3⟩ := okMin_facts ok
        have al : alikeD (y :: ys) = true := by
          unfold okMin at ok
          simp only [Bool.and_eq_true] at ok
          exact ok.1.1.2
        have fin : ∀ {xs : List V} {its : List Value}, Reps X.K F (y :: ys) xs → Vals xs its → ∀ (i : Nat) (v : Value) (h' : Heap) (tk : Nat) (bs : List Addr), its.toArray[i]? = some v → Reads h' v (maxD y.py (ys.map D.py)) bs → (∀ b o, s.heap.get? b = some o → h'.get? b = some o) → EP X pins σ Q v { s with heap := h', toks := tk } := fun {xs its} r2 rv i v h' tk bs hv hr hk => by
          rw [← maxDD_py] at hr
          obtain ⟨x, h1, h2⟩ := min_back I f1 r2 rv n1 al (maxDD_mem ys y) (by simpa using hv) hr hk
          exact ⟨x, H, I.kept hk, h1, q _ F H (.refl f1) h2⟩
        have hu' : X.A.units + 1 + PyData.depthAll (y.py :: ys.map D.py) < cLine := by
          have : PyData.depthAll (y.py :: ys.map D.py) ≤ 60 := n3
          omega
        cases dx with
        | lst ds' =>
          cases hs
          obtain ⟨a, xs, e6, h1, h2⟩ := hx
          subst e6
          cases ru
          obtain ⟨its, rv, pl, hz⟩ := I.list h1
          obtain ⟨as, rd⟩ := Dp.readsAll I _ _ _ (Reps.dp n1 (Reps.mono f1 h2)) rv
          rw [pys_eq] at rd
          exact max_list_data (I.ok.hd hc) pl.isList (by simpa using rd) n2 hu' (fin h2 rv)
        | tup ds' =>
          cases hs
          obtain ⟨a, xs, e6, h1, h2⟩ := hx
          subst e6
          cases ru
          obtain ⟨its, rv, pl, hz⟩ := I.tuple (same_seqT f1 h1)
          obtain ⟨as, rd⟩ := Dp.readsAll I _ _ _ (Reps.dp n1 (Reps.mono f1 h2)) rv
          rw [pys_eq] at rd
          exact max_tuple_data (I.ok.hd hc) pl (by simpa using rd) n2 hu' (fin h2 rv)
        | _ => cases hs
      · cases e
end
end Ev

/-! E18: what no mirror reaches; in; name op= e; extend. -/
namespace Ev
open PySem PySem.Spec PyProof.Rows L2
variable [TabsC]

/-! ### what no mirror reaches -/
section
variable {X : Cx} {E : XK} {e a b : Expr} {es : List Expr} {pos : Pos} {st : Stmt} {sts : List Stmt}
def fNoE : FE := fun _ => .stuck
def fNoO : FO := fun _ => .stuck
def fNoT : FT := fun _ => .stuck
def fNoB : FB := fun _ => .stuck
def fNoA : FA := fun _ => .stuck
def fNoL : FL := fun _ => .stuck
def fNoS : FS := fun _ => .stuck
theorem no_e : EvE X E e fNoE := ⟨fun _ _ _ _ _ _ ⟨_, _, _, _, _, q⟩ => False.elim q⟩
theorem no_b : EvB X E e fNoB := ⟨fun _ _ _ _ _ _ ⟨_, _, _, _, _, q⟩ => False.elim q⟩
theorem no_o : EvO X E e fNoO := ⟨fun _ _ _ _ _ _ ⟨_, _, _, _, _, q⟩ => False.elim q⟩
theorem no_t : EvT X E e fNoT := ⟨fun _ _ _ _ _ _ ⟨_, _, _, _, _, q⟩ => False.elim q⟩
theorem no_s : EvS X E st fNoS := ⟨fun _ _ _ _ _ _ ⟨_, _, _, _, _, q⟩ => False.elim q⟩
theorem no_ss : EvSs X E sts fNoS := ⟨fun _ _ _ _ _ _ ⟨_, _, _, _, _, q⟩ => False.elim q⟩
@[simp] theorem ap_noE (r : Env) : fNoE r = .stuck := rfl
@[simp] theorem ap_noB (r : Env) : fNoB r = .stuck := rfl
@[simp] theorem ap_noO (r : Env) : fNoO r = .stuck := rfl
@[simp] theorem ap_noT (r : Env) : fNoT r = .stuck := rfl
@[simp] theorem ap_noS (r : Env) : fNoS r = .stuck := rfl

/-! ### in -/
def inD (d : D) (ds : List D) : Bool := ds.any fun z => PyData.eqv z.py d.py
def gIn : D → D → Option D
  | x, .lst ds => if okEq x && okEq (.lst ds) then some (.bl (inD x ds)) else none
  | x, .tup ds => if okEq x && okEq (.tup ds) then some (.bl (inD x ds)) else none
  | .str x, .str z => some (.bl (!(Builtin.Str.occurrences z x 0 z.length 1).isEmpty))
  | x, .dct kvs => (keyOf x).map fun k => .bl (valD kvs k).isSome
  | _, _ => none
def gNotIn : D → D → Option D
  | x, .lst ds => if okEq x && okEq (.lst ds) then some (.bl (!inD x ds)) else none
  | x, .tup ds => if okEq x && okEq (.tup ds) then some (.bl (!inD x ds)) else none
  | .str x, .str z => some (.bl (!(!(Builtin.Str.occurrences z x 0 z.length 1).isEmpty)))
  | x, .dct kvs => (keyOf x).map fun k => .bl (!(valD kvs k).isSome)
  | _, _ => none
theorem inD_pys (d : D) (ds : List D) : (D.pys ds).any (fun z => PyData.eqv z d.py) = inD d ds := by rw [pys_eq, List.any_map]; rfl
theorem valD_some {K : PySem.W.Frag} {F : Hp} {kvs : List (Key × D)} {us : List (Key × V)} (h : RepsK K F kvs us) (k : Key) : (valV us k).isSome = (valD kvs k).isSome := by
  have := h.val k
  cases e : valD kvs k with
  | none => rw [e] at this; rw [this]; rfl
  | some d => rw [e] at this; obtain ⟨v, h1, _⟩ := this; rw [h1]; rfl
theorem opD_in (hr : X.A.units + 65 < cLine) : OpD X (compareOp .In) gIn := OpD.mk fun dx dy d e => by
  cases dy with
  | lst ds =>
    have e : (if okEq dx && okEq (.lst ds) then some (D.bl (inD dx ds)) else none) = some d := by cases dx <;> exact e
    split at e
    · rename_i h
      simp only [okEq, Bool.and_eq_true] at h
      cases e
      exact OpR.imp (op_inD hr) fun x y H Q ⟨F, f1, hx, hy, q⟩ => ⟨_, _, Rep.dp h.1.1 (hx.rep f1), Rep.dp h.2.1 (hy.rep f1), h.1.2, h.2.2, by rw [inD_pys]; exact q _ F H (.refl f1) rfl⟩
    · cases e
  | tup ds =>
    have e : (if okEq dx && okEq (.tup ds) then some (D.bl (inD dx ds)) else none) = some d := by cases dx <;> exact e
    split at e
    · rename_i h
      simp only [okEq, Bool.and_eq_true] at h
      cases e
      intro pins s σ H x y v u Q I rx ry ⟨F, f1, hx, hy, q⟩
      obtain ⟨as, r1⟩ := Dp.reads I _ x v (Rep.dp h.1.1 (hx.rep f1)) rx
      obtain ⟨bs, r2⟩ := Dp.reads I (.tuple (D.pys ds)) y u (Rep.dp h.2.1 (hy.rep f1)) ry
      exact SeqAt.in_tuple_reads r2 r1 (SeqAt.canLay_of_shaped (show SeqAt.shaped (.list (D.pys ds)) = true from h.2.2)) (SeqAt.canLay_of_shaped h.1.2) (room_in_shaped h.1.2 hr) ⟨.bl _, H, I, rfl, by rw [inD_pys]; exact q _ F H (.refl f1) rfl⟩
    · cases e
  | dct kvs =>
    have e : (keyOf dx).map (fun k => D.bl (valD kvs k).isSome) = some d := by cases dx <;> exact e
    obtain ⟨k, e1, e2⟩ := Option.map_eq_some_iff.mp e
    subst e2
    intro pins s σ H x y v u Q I rx ry ⟨F, f1, hx, ⟨a, us, e3, h1, h2⟩, q⟩
    subst e3
    obtain rfl : u = Value.ref a := ry
    refine d_in (by omega) I (.inl ⟨us, _, h1, rfl, rfl⟩) (by rw [← keyOf_repB e1 hx]; exact rx) fun s3 I3 => ⟨.bl _, H, I3, rfl, ?_⟩
    rw [valD_some h2]
    exact q _ F H (.refl f1) rfl
  | str z =>
    cases dx with
    | str x =>
      cases e
      exact OpR.imp op_in_str fun x y H Q ⟨F, f1, hx, hy, q⟩ => ⟨_, _, hx, hy, q _ F H (.refl f1) rfl⟩
    | _ => cases e
  | _ => cases dx <;> cases e
theorem opD_notIn (hr : X.A.units + 65 < cLine) : OpD X (compareOp .NotIn) gNotIn := OpD.mk fun dx dy d e => by
  cases dy with
  | lst ds =>
    have e : (if okEq dx && okEq (.lst ds) then some (D.bl (!inD dx ds)) else none) = some d := by cases dx <;> exact e
    split at e
    · rename_i h
      simp only [okEq, Bool.and_eq_true] at h
      cases e
      exact OpR.imp (op_notInD hr) fun x y H Q ⟨F, f1, hx, hy, q⟩ => ⟨_, _, Rep.dp h.1.1 (hx.rep f1), Rep.dp h.2.1 (hy.rep f1), h.1.2, h.2.2, by rw [inD_pys]; exact q _ F H (.refl f1) rfl⟩
    · cases e
  | tup ds =>
    have e : (if okEq dx && okEq (.tup ds) then some (D.bl (!inD dx ds)) else none) = some d := by cases dx <;> exact e
    split at e
    · rename_i h
      simp only [okEq, Bool.and_eq_true] at h
      cases e
      intro pins s σ H x y v u Q I rx ry ⟨F, f1, hx, hy, q⟩
      obtain ⟨as, r1⟩ := Dp.reads I _ x v (Rep.dp h.1.1 (hx.rep f1)) rx
      obtain ⟨bs, r2⟩ := Dp.reads I (.tuple (D.pys ds)) y u (Rep.dp h.2.1 (hy.rep f1)) ry
      exact SeqAt.notIn_tuple_reads r2 r1 (SeqAt.canLay_of_shaped (show SeqAt.shaped (.list (D.pys ds)) = true from h.2.2)) (SeqAt.canLay_of_shaped h.1.2) (room_in_shaped h.1.2 hr) ⟨.bl _, H, I, rfl, by rw [inD_pys]; exact q _ F H (.refl f1) rfl⟩
    · cases e
  | dct kvs =>
    have e : (keyOf dx).map (fun k => D.bl (!(valD kvs k).isSome)) = some d := by cases dx <;> exact e
    obtain ⟨k, e1, e2⟩ := Option.map_eq_some_iff.mp e
    subst e2
    intro pins s σ H x y v u Q I rx ry ⟨F, f1, hx, ⟨a, us, e3, h1, h2⟩, q⟩
    subst e3
    obtain rfl : u = Value.ref a := ry
    refine d_notIn (by omega) I (.inl ⟨us, _, h1, rfl, rfl⟩) (by rw [← keyOf_repB e1 hx]; exact rx) fun s3 I3 => ⟨.bl _, H, I3, rfl, ?_⟩
    rw [valD_some h2]
    exact q _ F H (.refl f1) rfl
  | str z =>
    cases dx with
    | str x =>
      cases e
      exact OpR.imp op_notIn_str fun x y H Q ⟨F, f1, hx, hy, q⟩ => ⟨_, _, hx, hy, q _ F H (.refl f1) rfl⟩
    | _ => cases e
  | _ => cases dx <;> cases e

/-! ### name op= e -/
def gIAdd : D → D → Option D
  | .int i, .int j => some (.int (i + j))
  | .str x, .str y => if x.length + y.length ≤ sizeLine then some (.str (x ++ y)) else none
  | _, _ => none
noncomputable def gIFdiv : D → D → Option D
  | .int i, .int j => ifP (CDiv i j) (some (.int (i / j))) none
  | _, _ => none
def gIMod : D → D → Option D
  | .int i, .int j => if 0 < j then some (.int (i % j)) else none
  | _, _ => none
theorem opI_add : OpD X (inplaceOp .Add) gIAdd := OpD.mk fun dx dy d e => by
  cases dx <;> cases dy <;> first | (cases e; done) | skip
  · simp only [gIAdd, Option.some.injEq] at e; subst e; exact op2_int0 iop_add fun _ => rfl
  · simp only [gIAdd] at e
    split at e
    · rename_i h; cases e
      exact OpR.imp iop_add_str fun x y H Q ⟨F, f1, hx, hy, q⟩ => ⟨_, _, hx, hy, h, q _ F H (.refl f1) rfl⟩
    · cases e
theorem opI_sub : OpD X (inplaceOp .Sub) gSub := OpD.mk fun dx dy d e => by
  cases dx <;> cases dy <;> first | (cases e; done) | skip
  all_goals (simp only [gSub, Option.some.injEq] at e; subst e; exact op2_int0 iop_sub fun _ => rfl)
theorem opI_mul : OpD X (inplaceOp .Mult) gMul := OpD.mk fun dx dy d e => by
  cases dx <;> cases dy <;> first | (cases e; done) | skip
  all_goals
    (simp only [gMul] at e
     split at e
     · rename_i h; cases e; exact op2_int iop_mul h
     · cases e)
theorem opI_fdiv : OpD X (inplaceOp .FloorDiv) gIFdiv := OpD.mk fun dx dy d e => by
  cases dx <;> cases dy <;> first | (cases e; done) | skip
  all_goals
    (simp only [gIFdiv] at e
     obtain ⟨h, e⟩ := ifP_some e
     subst e
     exact op2_int iop_fdiv h)
theorem opI_mod : OpD X (inplaceOp .Mod) gIMod := OpD.mk fun dx dy d e => by
  cases dx <;> cases dy <;> first | (cases e; done) | skip
  all_goals
    (simp only [gIMod] at e
     split at e
     · rename_i h; cases e; exact op2_int iop_mod h
     · cases e)
def fAug (i : Nat) (g : D → D → Option D) (f : FE) : FS := fun r => match r[i]? with
  | some (.val d) => thenS (f r) fun d2 r1 => match g d d2 with
    | some z => match setN i z r1 with
      | some r2 => .nx r2
      | none => .stuck
    | none => .stuck
  | _ => .stuck
theorem es_aug {i : Nat} {x : Str} {op : Operator} {g : D → D → Option D} {f : FE} {p : Pos} (hN : X.N.Nodup) (hi : X.N[i]? = some x) (hx : Loc X.env.scope x) (o : OpD X (inplaceOp op) g) (he : EvE X E e f) (hf : X.fn x = true ∨ X.env.scope.names.lookup x = some .local := by first | exact .inl rfl | exact .inr rfl | assumption) :
    EvS X E (.AugAssign (.Name x p) op e pos) (fAug i g f) := PS.imp (ps_aug (ti := rD2 X.K g) hN hi hx he o hf) fun D' s H ⟨B, F, O, r, R, q⟩ => by
  have q : SPost X.K X.mg E B F D' (match r[i]? with
    | some (.val d) => thenS (f r) fun d2 r1 => match g d d2 with
      | some z => match setN i z r1 with
        | some r2 => .nx r2
        | none => .stuck
      | none => .stuck
    | _ => .stuck) := q
  cases m : r[i]? with
  | none => rw [m] at q; exact False.elim q
  | some sl =>
    rw [m] at q
    cases sl with
    | un => exact False.elim q
    | rf _ => exact False.elim q
    | own p c => exact False.elim q
    | val d =>
      obtain ⟨v, h1, h2⟩ := R.vl i d m
      refine ⟨v, h1, B, F, O, r, R, (SPost.split q).mono fun d2 r1 F1 O1 H1 R1 f1 k1 q1 y hy => ?_⟩
      cases m1 : g d d2 with
      | none => rw [m1] at q1; exact False.elim q1
      | some z =>
        rw [m1] at q1
        have q1 : SPost X.K X.mg E B F1 D' (match setN i z r1 with
          | some r2 => .nx r2
          | none => .stuck) := q1
        cases m2 : setN i z r1 with
        | none => rw [m2] at q1; exact False.elim q1
        | some r2 =>
          rw [m2] at q1
          obtain ⟨g1, g2, g3⟩ := setN_at m2
          subst g3
          refine ⟨F1, d, d2, z, R1.fh, (h2.mono f1).b R1.fh, hy.b R1.fh, m1, fun zv F' H' gr hz => ?_⟩
          exact q1 F' O1 H' _ ((R1.grow gr).store g1 g2 hz) gr.ff

/-! ### x.extend(e) -/
theorem extend_meets {l : Addr} {items : Array Value} {n : Nat} {b : Addr} {items2 : Array Value} {T : String} (hT : (Value.type T == Value.type "list" || Value.type T == Value.type "tuple") = true) (hc0 : ¬(!items.isEmpty && Builtin.List.listTooLong (items.size + items2.size)) = true) (hc1 : items.size ≤ sizeLine) (hs2 : items.size + items2.size ≤ sizeLine) :
    PySem.Meets (Builtin.«list.extend» ⟨[.ref l, .ref b], []⟩) (fun _ R s => s.heap.get? l = some { cls := .type "list", dict := none, data := .seq items n, slots := #[] } ∧ (∃ o n2, s.heap.get? b = some o ∧ o.cls = .type T ∧ o.data = .seq items2 n2) ∧ R (.ok (.ret Value.none)) { s with heap := s.heap.update l (Obj.mapSeq fun x => x ++ items2), toks := s.toks }) := by
  intro prog w A R s ⟨hl, ⟨o, n2, hb, hcls, hd⟩, h⟩
  show wpAny _ _ (Builtin.List.listExtendWith (.ref l) (.ref b) .none) _ _ s
  unfold Builtin.List.listExtendWith
  refine wpAny_bind (wpAny_typeOf (T := T) ⟨o, hb, hcls⟩ ?_)
  rw [if_pos (by rw [Bool.or_assoc, hT, Bool.or_true])]
  refine wpAny_bind (listItems_at hb hd ?_)
  refine wpAny_bind (listItems_at hl rfl ?_)
  rw [if_neg hc0]
  refine wpAny_bind (listUpdate_at hl rfl ?_ hc1 (by rw [Array.size_append]; omega))
  exact wpAny_pure h
def gExtend : GM
  | .lst ds, [.lst es] => if ds.length + es.length ≤ sizeLine then some (.non, .lst (ds ++ es)) else none
  | .lst ds, [.tup es] => if ds.length + es.length ≤ sizeLine then some (.non, .lst (ds ++ es)) else none
  | _, _ => none
def rMutB (K : PySem.W.Frag) (g : GM) : V → List V → Hp → VK → Prop := fun x vs H Q => ∃ F a c ds z c', x = .ref a ∧ Same F H ∧ CRep K F H a c ∧ RepBs K F H ds vs ∧ g c ds = some (z, c') ∧ ∀ zv o, Rep K F z zv → CRep K F (upd H a o) a c' → Q zv (upd H a o)
abbrev MutRB (X : Cx) (id : String) (g : GM) : Prop := MtM X id (rMutB X.K g)
theorem mut_extend : MutRB X "list.extend" gExtend := fun pins s σ H x xs v us Q I rx rv ⟨F, a, c, ds, z, c', e1, f1, hc, hr, e, q⟩ => by
  cases c with
  | dct _ => cases e
  | lst es =>
    obtain ⟨ys, h1, h2⟩ := hc
    cases hr with
    | nil => cases e
    | @cons d w ds ws hy ht =>
      cases ht with
      | cons _ _ => simp [gExtend] at e
      | nil =>
        subst e1
        cases rx
        obtain ⟨u, rfl, ru⟩ := rv.one
        obtain ⟨z1, its, n, r, hl, e2⟩ := I.lstM h1
        have go : ∀ (as : List D) (zs : List V) (its2 : List Value) (b : Addr) (T : String) (hT : (Value.type T == Value.type "list" || Value.type T == Value.type "tuple") = true), Reps X.K F as zs → Vals zs its2 → es.length + as.length ≤ sizeLine → z = .non → c' = .lst (es ++ as) → u = .ref b →
            (∃ o n2, s.heap.get? b = some o ∧ o.cls = .type T ∧ o.data = .seq its2.toArray n2) → wpAny (model X.prog X.w) X.A (call (.builtin "list.extend") [.ref a, u]) (EP X pins σ Q) X.xe s := by
          intro as zs its2 b T hT hR hV hz e3 e4 e5 hb
          subst e3 e4 e5
          have l1 := h2.length
          have l2 := hR.length
          have l3 := hV.length
          have hsz : its.toArray.size + its2.toArray.size ≤ sizeLine := by rw [List.size_toArray, List.size_toArray]; omega
          have hlong : ¬ (!its.toArray.isEmpty && Builtin.List.listTooLong (its.toArray.size + its2.toArray.size)) = true := by
            rw [notLongL hsz, Bool.and_false]
            exact Bool.false_ne_true
          refine call_meets PySem.F.slot_list_extend ⟨_, e2, rfl⟩ PySem.F.entry_list_extend (PySem.F.args_list_extend_2 _ _) (extend_meets hT hlong (by rw [List.size_toArray]; omega) hsz) ⟨e2, hb, ?_⟩
          refine ⟨.non, _, I.lset (its' := its ++ its2) (ys := ys ++ zs) h1 e2 (by simp) (r.append hV) (by rw [List.length_append]; omega), rfl, q _ _ rfl ⟨_, upd_same, h2.append hR⟩⟩
        cases d with
        | lst as =>
          have e : (if es.length + as.length ≤ sizeLine then some (D.non, C.lst (es ++ as)) else none) = some (z, c') := e
          split at e
          · rename_i hz
            cases e
            obtain ⟨b, zs, e3, h3, h4⟩ := hy
            subst e3
            obtain ⟨its2, rv2, ⟨o, n2, g1, g2, g3, g4⟩, _⟩ := I.list h3
            cases ru
            exact go as zs its2 b "list" (by rfl) h4 rv2 hz rfl rfl rfl ⟨o, n2, g1, g2, g4⟩
          · cases e
        | tup as =>
          have e : (if es.length + as.length ≤ sizeLine then some (D.non, C.lst (es ++ as)) else none) = some (z, c') := e
          split at e
          · rename_i hz
            cases e
            obtain ⟨b, zs, e3, h3, h4⟩ := hy
            subst e3
            obtain ⟨its2, rv2, ⟨o, g1, g2, n2, g4⟩, _⟩ := I.tuple (same_seqT f1 h3)
            cases ru
            exact go as zs its2 b "tuple" (by rfl) h4 rv2 hz rfl rfl rfl ⟨o, n2, g1, g2, g4⟩
          · cases e
        | _ => simp [gExtend] at e
def fMutB (i : Nat) (tyc : C → Bool) (g : GM) (fa : FA) : FE := fun r => match r[i]? with
  | some (.own _ c0) => if tyc c0 = true then (fa r).bnd fun bs r1 => match r1[i]? with
    | some (.own p c) => obnd (bGets r1 bs) fun ds => obnd (g c ds) fun zc => .ok (zc.1, r1.set i (.own p zc.2))
    | _ => .stuck else .stuck
  | _ => .stuck
theorem mutB_reads {tyc : C → Bool} {T : String} (ht : ∀ {c : C}, tyc c = true → c.ty = T) {g : GM} {fa : FA} {s : Sg} {H : Hp} {Q : VK} (h : tE X.K X.mg E (fMutB i tyc g fa) s H Q) : ∃ v, s[i]? = some (some v) ∧ tyV X.K T v H ∧ tA X.K X.mg E fa s H fun vs H1 => rMutB X.K g v vs H1 Q := by
  obtain ⟨B, F, O, r, R, q⟩ := h
  have q : Post X.K X.mg E B F O r s (match r[i]? with
    | some (.own _ c0) => if tyc c0 = true then (fa r).bnd fun bs r1 => match r1[i]? with
      | some (.own p c) => obnd (bGets r1 bs) fun ds => obnd (g c ds) fun zc => Res.ok (zc.1, r1.set i (.own p zc.2))
      | _ => .stuck else .stuck
    | _ => .stuck) (fun d _ F' _ H' => ∀ v, Rep X.K F' d v → Q v H') := q
  cases m : r[i]? with
  | none => rw [m] at q; exact False.elim q
  | some sl =>
    rw [m] at q
    cases sl with
    | un => exact False.elim q
    | rf _ => exact False.elim q
    | val d => exact False.elim q
    | own p0 c0 =>
      have q : Post X.K X.mg E B F O r s (if tyc c0 = true then (fa r).bnd fun bs r1 => match r1[i]? with
        | some (.own p c) => obnd (bGets r1 bs) fun ds => obnd (g c ds) fun zc => Res.ok (zc.1, r1.set i (.own p zc.2))
        | _ => .stuck else .stuck) (fun d _ F' _ H' => ∀ v, Rep X.K F' d v → Q v H') := q
      split at q
      · rename_i hc
        obtain ⟨a, h1, h2, _⟩ := R.on i p0 c0 m
        obtain ⟨_, h3, _⟩ := R.ow a c0 h2
        refine ⟨.ref a, h1, by rw [← ht hc]; exact h3.tyV, B, F, O, r, R, (Post.split q).mono fun bs r1 F1 O1 H1 R1 f1 k1 q1 vs hvs => ?_⟩
        cases m2 : r1[i]? with
        | none => rw [m2] at q1; exact False.elim q1
        | some sl =>
          rw [m2] at q1
          cases sl with
          | un => exact False.elim q1
          | rf _ => exact False.elim q1
          | val d => exact False.elim q1
          | own p c =>
            have q1 : Post X.K X.mg E B F1 O1 r1 s (obnd (bGets r1 bs) fun ds => obnd (g c ds) fun zc => Res.ok (zc.1, r1.set i (.own p zc.2))) (fun d _ F' _ H' => ∀ v, Rep X.K F' d v → Q v H') := q1
            obtain ⟨ds, e0, q1⟩ := Post.opt q1
            obtain ⟨zc, e1, q1⟩ := Post.opt q1
            obtain ⟨z, c'⟩ := zc
            obtain ⟨a', h4, h5, _⟩ := R1.on i p c m2
            obtain ⟨_, h6, _⟩ := R1.ow a' c h5
            rw [h1] at h4; cases h4
            refine ⟨F1, a, c, ds, z, c', rfl, R1.fh, h6, R1.bgets hvs e0, e1, fun zv o hz hc => ?_⟩
            obtain ⟨R2, k2⟩ := R1.mut m2 h1 hc
            exact Post.ok (k := fun d _ F' _ H' => ∀ v, Rep X.K F' d v → Q v H') q1 R2 (.refl _) k2 zv hz
      · exact False.elim q
theorem ev_mutB {tyc : C → Bool} {T id : String} {name : Str} {g : GM} {fa : FA} (ht : ∀ {c : C}, tyc c = true → c.ty = T) (pa : PlainAttrs T) (slot : PySem.Slot T name id) (hty : typeOf (.builtin id) = pure (.type "method_descriptor")) (hm : MutRB X id g)
    (ho : PE X (.Name x p) (tVar i)) (ha : EvA X E (e :: es) fa)
    (hbase : attributeBase (.Name x p) name X.env (eval (.Name x p) X.env) = eval (.Name x p) X.env := by rfl)
    (hfew : ((backTo cpos (starEach (e :: es) X.env)).all (fun x => !x.1) && (backToKw cpos (keywordEach [] X.env)).all (fun x => x.1.isSome)
      && decide ((e :: es).length + ([] : List Keyword).length + (if ([] : List Keyword).isEmpty then 0 else 1) < 30)) = true := by rfl)
    (hline : (apos.endLine == cpos.line) = true := by rfl) (hs : starEach (e :: es) X.env = (false, eval e X.env) :: starEach es X.env := by rfl) (hplain : (backTo cpos (starEach es X.env)).any (·.1) = false := by rfl) :
    EvE X E (.Call (.Attribute (.Name x p) name apos) (e :: es) [] cpos) (fMutB i tyc g fa) :=
  PE.imp (pe_bm pa slot hty hm ho ha hbase hfew hline hs hplain) fun s H Q h => mutB_reads ht h
end

/-! ### what they compute -/
def valF (m : Option Slot) (k : D → Fl) : Fl := match m with
  | some (.val d) => k d
  | _ => .stuck
def wVK (o : Option Slot) (f : D → Fl) (_ : Wt f) : Fl := valF o f
@[simp] theorem wVK_val (d : D) (f : D → Fl) (w : Wt f) : wVK (some (.val d)) f w = f d := (rfl)
def obD (m : Option D) (k : D → Fl) : Fl := match m with
  | some z => k z
  | none => .stuck
def oDK (o : Option D) (f : D → Fl) (_ : Wt f) : Fl := obD o f
@[simp] theorem oDK_some (d : D) (f : D → Fl) (w : Wt f) : oDK (some d) f w = f d := (rfl)
@[simp] theorem oDK_none (f : D → Fl) (w : Wt f) : oDK none f w = .stuck := (rfl)
theorem ap_fAug0 (i : Nat) (g : D → D → Option D) (f : FE) (r : Env) : fAug i g f r = valF r[i]? fun d => thenS (f r) fun d2 r1 => obD (g d d2) fun z => obF (setN i z r1) .nx := by
  rfl
@[simp ↓] theorem ap_fAug (i : Nat) (g : D → D → Option D) (f : FE) (r : Env) : fAug i g f r = wVK r[i]? (fun d => tK (f r) (fun d2 r1 => oDK (g d d2) (fun z => obF (setN i z r1) .nx) ⟨⟩) ⟨⟩) ⟨⟩ := (ap_fAug0 i g f r)
theorem ap_fMutB0 (i : Nat) (tyc : C → Bool) (g : GM) (fa : FA) (r : Env) : fMutB i tyc g fa r = ownR r[i]? fun _ c0 => brB (tyc c0) ((fa r).bnd fun bs r1 => ownR r1[i]? fun p c => obnd (bGets r1 bs) fun ds => obnd (g c ds) fun zc => .ok (zc.1, r1.set i (.own p zc.2))) .stuck := by
  rfl
@[simp ↓] theorem ap_fMutB (i : Nat) (tyc : C → Bool) (g : GM) (fa : FA) (r : Env) : fMutB i tyc g fa r = wRK r[i]? (fun _ c0 => brK (tyc c0) (bK (fa r) (fun bs r1 => wRK r1[i]? (fun p c => oK (bGets r1 bs) (fun ds => oK (g c ds) (fun zc => .ok (zc.1, r1.set i (.own p zc.2))) ⟨⟩) ⟨⟩) ⟨⟩) ⟨⟩) (.stuck) ⟨⟩ ⟨⟩) ⟨⟩ := (ap_fMutB0 i tyc g fa r)
end Ev

/-! E19: repr of data without dicts. -/
namespace Ev
open PySem PySem.Spec PyProof.Rows L2
variable [TabsC]

/-! ### repr -/
mutual
theorem noDct_hasDict : ∀ {d : D}, d.noDct = true → d.py.hasDict = false
  | .non, _ => by simp [D.py, PyData.hasDict]
  | .bl _, _ => by simp [D.py, PyData.hasDict]
  | .int _, _ => by simp [D.py, PyData.hasDict]
  | .str _, _ => by simp [D.py, PyData.hasDict]
  | .tup ds, n => by simp only [D.py, PyData.hasDict]; exact noDcts_hasDict n
  | .lst ds, n => by simp only [D.py, PyData.hasDict]; exact noDcts_hasDict n
  | .dct _, n => by cases n
theorem noDcts_hasDict : ∀ {ds : List D}, D.noDcts ds = true → PyData.hasDictAll (D.pys ds) = false
  | [], _ => by simp [D.pys, PyData.hasDictAll]
  | d :: ds, n => by
    have n := Bool.and_eq_true_iff.mp n
    simp only [D.pys, PyData.hasDictAll, noDct_hasDict n.1, noDcts_hasDict n.2, Bool.or_self]
end
def okShow (d : D) : Prop := d.noDct = true ∧ d.py.showable = true ∧ d.py.depth ≤ 60 ∧ d.py.shown.length ≤ sizeLine
noncomputable def gRepr : D → Option D
  | .non => some (.str "None")
  | .bl b => some (.str (if b then "True" else "False"))
  | .int i => ifP (i.natAbs.log2 < 1920) (some (.str (toString i))) none
  | .str x => ifP ((reprText x).length ≤ sizeLine) (some (.str (reprText x))) none
  | .tup ds => ifP (okShow (.tup ds)) (some (.str (D.tup ds).py.shown)) none
  | .lst ds => ifP (okShow (.lst ds)) (some (.str (D.lst ds).py.shown)) none
  | _ => none
section
variable {X : Cx}
theorem cd_repr (gd : X.A.guards = some []) (hu : X.A.units + 64 < cLine) : CallD X (.builtin "repr") (g1 gRepr) := CallD.one fun dx d e => by
  intro pins s σ H vs us Q I r ⟨F, x, e1, f1, hx, q⟩
  subst e1
  obtain ⟨u, rfl, ru⟩ := vals1 r
  cases dx with
  | non =>
    cases e
    rw [show x = V.non from hx] at ru
    obtain rfl : u = Value.none := ru
    exact PySem.P.repr_of_none ⟨.str _, H, I.tok _, ⟨_, rfl⟩, q _ F H (.refl f1) rfl⟩
  | bl b =>
    cases e
    rw [show x = V.bl b from hx] at ru
    obtain rfl : u = Value.bool b := ru
    exact PySem.P.repr_of_bool ⟨.str _, H, I.tok _, ⟨_, rfl⟩, q _ F H (.refl f1) rfl⟩
  | int i =>
    obtain ⟨h, e⟩ := ifP_some (show ifP (i.natAbs.log2 < 1920) (some (D.str (toString i))) none = some d from e)
    subst e
    rw [show x = V.int i from hx] at ru
    obtain ⟨t, rfl⟩ := ru
    exact PySem.P.repr_of_int h ⟨.str _, H, I.tok _, ⟨_, rfl⟩, q _ F H (.refl f1) rfl⟩
  | str z =>
    obtain ⟨h, e⟩ := ifP_some (show ifP ((reprText z).length ≤ sizeLine) (some (D.str (reprText z))) none = some d from e)
    subst e
    rw [show x = V.str z from hx] at ru
    obtain ⟨t, rfl⟩ := ru
    exact PySem.P.repr_of_str ⟨.str _, H, I.tok _, ⟨_, rfl⟩, q _ F H (.refl f1) rfl⟩ h
  | tup ds =>
    obtain ⟨⟨h1, h2, h3, h4⟩, e⟩ := ifP_some (show ifP (okShow (.tup ds)) (some (D.str (D.tup ds).py.shown)) none = some d from e)
    subst e
    have hp := hx.rep f1
    obtain ⟨as, r1⟩ := Dp.reads I _ x u (Rep.dp h1 hp) ru
    obtain ⟨a, xs, e2, _⟩ := hx
    subst e2
    cases ru
    exact repr_of_reads' r1 h2 (PyData.noDict_hsm (noDct_hasDict h1)) gd (by omega) (fun _ _ e => e) (fun h' u tk hk => ⟨.str _, H, I.kept hk, ⟨_, rfl⟩, q _ F H (.refl f1) rfl⟩) h4
  | lst ds =>
    obtain ⟨⟨h1, h2, h3, h4⟩, e⟩ := ifP_some (show ifP (okShow (.lst ds)) (some (D.str (D.lst ds).py.shown)) none = some d from e)
    subst e
    have hp := hx.rep f1
    obtain ⟨as, r1⟩ := Dp.reads I _ x u (Rep.dp h1 hp) ru
    obtain ⟨a, xs, e2, _⟩ := hx
    subst e2
    cases ru
    exact repr_of_reads' r1 h2 (PyData.noDict_hsm (noDct_hasDict h1)) gd (by omega) (fun _ _ e => e) (fun h' u tk hk => ⟨.str _, H, I.kept hk, ⟨_, rfl⟩, q _ F H (.refl f1) rfl⟩) h4
  | _ => cases e
end
end Ev

/-! E20: what many laws share: the hand of drawn numbers; loops by a measure; min, max, sum of ints. -/
namespace Ev
open PySem L2
variable [TabsC]
/-! ### the hand -/
def hd (cells : List Int) (i b s n : Int) : C := .lst [.lst (cells.map .int), .int i, .int b, .int s, .int n]
def IsHand (c : C) : Prop := ∃ cells i b s n, 0 ≤ i ∧ c = hd cells i b s n
theorem hx2 (l : D) (i b s n : Int) : gIxA (.lst [l, .int i, .int b, .int s, .int n]) (.int 2) = some (.int b) := rfl
theorem hx1 (l : D) (i b s n : Int) : gIxA (.lst [l, .int i, .int b, .int s, .int n]) (.int 1) = some (.int i) := rfl
theorem hx0 (l : D) (i b s n : Int) : gIxA (.lst [l, .int i, .int b, .int s, .int n]) (.int 0) = some l := rfl
theorem hx3 (l : D) (i b s n : Int) : gIxA (.lst [l, .int i, .int b, .int s, .int n]) (.int 3) = some (.int s) := rfl
theorem hx4 (l : D) (i b s n : Int) : gIxA (.lst [l, .int i, .int b, .int s, .int n]) (.int 4) = some (.int n) := rfl
theorem hp1 (l : D) (i b s n : Int) (d : D) : gPut (.lst [l, .int i, .int b, .int s, .int n]) (.int 1) d = some (.lst [l, d, .int b, .int s, .int n]) := rfl
theorem hp2 (l : D) (i b s n : Int) (d : D) : gPut (.lst [l, .int i, .int b, .int s, .int n]) (.int 2) d = some (.lst [l, .int i, d, .int s, .int n]) := rfl
theorem hp3 (l : D) (i b s n : Int) (d : D) : gPut (.lst [l, .int i, .int b, .int s, .int n]) (.int 3) d = some (.lst [l, .int i, .int b, d, .int n]) := rfl
theorem hp4 (l : D) (i b s n : Int) (d : D) : gPut (.lst [l, .int i, .int b, .int s, .int n]) (.int 4) d = some (.lst [l, .int i, .int b, .int s, d]) := rfl
theorem mulR {i j : Int} (h : -(2 ^ 64) < j ∧ j < 2 ^ 64) : gMulA (.int i) (.int j) = some (.int (i * j)) := gMulA_ii (.inr h)
theorem mulL {i j : Int} (h : -(2 ^ 64) < i ∧ i < 2 ^ 64) : gMulA (.int i) (.int j) = some (.int (i * j)) := gMulA_ii (.inl h)
theorem fm {i j : Int} (h : 0 < j) : gMod (.int i) (.int j) = some (.int (i % j)) := by
  rw [gMod_ii (by omega), Int.fmod_eq_emod_of_nonneg _ (by omega)]
theorem fd {i j : Int} (h : 0 < j ∧ j < 1073741824) : gFdiv (.int i) (.int j) = some (.int (i / j)) := by
  rw [gFdiv_ii ⟨by omega, by omega⟩, Int.fdiv_eq_ediv_of_nonneg _ (by omega)]
theorem pw18 : gPow (.int 10) (.int 18) = some (.int 1000000000000000000) := by
  rw [gPow_ii ⟨by decide, by decide, by decide⟩]; rfl
theorem isHand (cells : List Int) (i b s n : Int) (h : 0 ≤ i) : IsHand (.lst [.lst (cells.map .int), .int i, .int b, .int s, .int n]) := ⟨cells, i, b, s, n, h, rfl⟩
theorem bigZ : sizeLine = 16777216 := sizeLine_eq
theorem dm1 (x : Int) : -(2 ^ 64) < x % 2147483647 ∧ x % 2147483647 < 2 ^ 64 := by
  have a := Int.emod_nonneg x (show (2147483647 : Int) ≠ 0 by decide)
  have b := Int.emod_lt_of_pos x (show (0 : Int) < 2147483647 by decide)
  omega
theorem dm2 (x : Int) : -(2 ^ 64) < x % 2147483563 ∧ x % 2147483563 < 2 ^ 64 := by
  have a := Int.emod_nonneg x (show (2147483563 : Int) ≠ 0 by decide)
  have b := Int.emod_lt_of_pos x (show (0 : Int) < 2147483563 by decide)
  omega
theorem dm3 (x : Int) : -(2 ^ 64) < x % 2147483629 ∧ x % 2147483629 < 2 ^ 64 := by
  have a := Int.emod_nonneg x (show (2147483629 : Int) ≠ 0 by decide)
  have b := Int.emod_lt_of_pos x (show (0 : Int) < 2147483629 by decide)
  omega
theorem dc1 (x : Int) : gMulA (.int x) (.int 69621) = some (.int (x * 69621)) := mulR (by decide)
theorem dc2 (x : Int) : gMulA (.int x) (.int 40692) = some (.int (x * 40692)) := mulR (by decide)
theorem dc3 (x : Int) : gMulA (.int 7919) (.int x) = some (.int (7919 * x)) := mulL (by decide)
theorem dc4 (x : Int) : gMulA (.int x) (.int 48271) = some (.int (x * 48271)) := mulR (by decide)
theorem dc6 (x : Int) : gMulA (.int x) (.int 40014) = some (.int (x * 40014)) := mulR (by decide)
theorem dc5 (x y : Int) : gMulA (.int (x % 2147483647)) (.int y) = some (.int (x % 2147483647 * y)) := mulL (dm1 x)
theorem dc7 (x y : Int) : gMulA (.int (x % 2147483563)) (.int y) = some (.int (x % 2147483563 * y)) := mulL (dm2 x)
theorem dc8 (x y : Int) : gMulA (.int (x % 2147483629)) (.int y) = some (.int (x % 2147483629 * y)) := mulL (dm3 x)
theorem de1 (x : Int) : gMod (.int x) (.int 2147483629) = some (.int (x % 2147483629)) := fm (by decide)
theorem de2 (x : Int) : gMod (.int x) (.int 2147483647) = some (.int (x % 2147483647)) := fm (by decide)
theorem de3 (x : Int) : gMod (.int x) (.int 2147483563) = some (.int (x % 2147483563)) := fm (by decide)
theorem de4 (x : Int) : gFdiv (.int x) (.int 1009) = some (.int (x / 1009)) := fd (by decide)
theorem de5 (x : Int) : gFdiv (.int x) (.int 2003) = some (.int (x / 2003)) := fd (by decide)
theorem de6 (x : Int) : gFdiv (.int x) (.int 16) = some (.int (x / 16)) := fd (by decide)
theorem take_script (ns : List Int) : gSl (.lst (ns.map .int)) none (some 63) = some (.lst ((ns.take 63).map .int)) := by
  show some (D.lst (cutD (ns.map .int) none (some 63))) = _
  unfold cutD
  have : HT.sIx (ns.map D.int).length (ns.map D.int).length (some (63 : Int)) = min 63 ns.length := by
    have := HT.sIx_nat (ns.map D.int).length (ns.map D.int).length 63
    simpa using this
  rw [this, HT.sIx_none]
  rw [List.drop_zero, Nat.sub_zero, List.map_take]
  congr 2
  rw [List.take_eq_take_iff]
  simp
theorem abs_cells (ns : List Int) : ((ns.take 63).map D.int).filterMap (fun d => gAbs d) = ((ns.take 63).map fun x => if x < 0 then -x else x).map .int := by
  rw [List.filterMap_map, List.map_map, ← List.filterMap_eq_map]
  rfl
/-- a while loop by a measure -/
theorem loopW_dec {ft : FT} {fb : FS} (I : Nat → Ev.Env → Prop) (J : Ev.Env → Prop) (h0 : ∀ r, I 0 r → ∃ r1, ft r = .ok (false, r1) ∧ J r1) (hs : ∀ m r, I (m + 1) r → ∃ r1 r2, ft r = .ok (true, r1) ∧ fb r1 = .nx r2 ∧ I m r2) :
    ∀ (m N : Nat) (r : Ev.Env), m < N → I m r → ∃ r', loopW ft fb N r = .nx r' ∧ J r'
  | m, 0, r, h, _ => by omega
  | 0, N + 1, r, _, hi => by
    obtain ⟨r1, h1, h2⟩ := h0 r hi
    refine ⟨r1, ?_, h2⟩
    show thenS (ft r) _ = _
    rw [h1]
    rfl
  | m + 1, N + 1, r, h, hi => by
    obtain ⟨r1, r2, h1, h2, h3⟩ := hs m r hi
    obtain ⟨r', h4, h5⟩ := loopW_dec I J h0 hs m N r2 (by omega) h3
    refine ⟨r', ?_, h5⟩
    show thenS (ft r) _ = _
    rw [h1, thenS_ok, if_pos rfl, h2]
    exact h4

/-! ### checks -/
def isI : D → Bool
  | .int _ => true
  | _ => false
def inW (a b : Int) : D → Bool
  | .int i => decide (a ≤ i) && decide (i ≤ b)
  | _ => false
def arW (a b : Int) : D → Bool
  | .tup ds => ds.all (inW a b)
  | _ => false
theorem bls_map {α : Type} (p : α → Bool) : ∀ ds : List α, bls? (ds.map fun d => D.bl (p d)) = some (ds.map p)
  | [] => rfl
  | d :: ds => by
    rw [List.map_cons]
    show (bls? (ds.map fun d => D.bl (p d))).map (p d :: ·) = _
    rw [bls_map p ds]
    rfl
theorem gAll_map {α : Type} (p : α → Bool) (ds : List α) : gAll (.lst (ds.map fun d => D.bl (p d))) = some (.bl (ds.all p)) := by
  show (bls? (ds.map fun d => D.bl (p d))).map (fun bs => D.bl (bs.all id)) = _
  rw [bls_map]
  simp [Function.comp_def]
theorem ints_of_inW {a b : Int} : ∀ {ds : List D}, ds.all (inW a b) = true → ∃ xs : List Int, ds = xs.map .int ∧ ∀ x ∈ xs, a ≤ x ∧ x ≤ b
  | [], _ => ⟨[], rfl, by simp⟩
  | d :: ds, h => by
    rw [List.all_cons, Bool.and_eq_true] at h
    obtain ⟨xs, rfl, h2⟩ := ints_of_inW h.2
    cases d with
    | int i =>
      have h1 := h.1
      simp [inW] at h1
      exact ⟨i :: xs, rfl, by simp; exact ⟨h1, h2⟩⟩
    | _ => exact absurd h.1 (by simp [inW])
theorem inW_int (a b x : Int) : inW a b (.int x) = (decide (a ≤ x) && decide (x ≤ b)) := rfl
theorem arW_tpI {a b : Int} {xs : List Int} (h : ∀ x ∈ xs, a ≤ x ∧ x ≤ b) : arW a b (tpI xs) = true := by
  show (xs.map D.int).all (inW a b) = true
  rw [List.all_eq_true]
  intro d hd
  obtain ⟨x, hx, rfl⟩ := List.mem_map.mp hd
  rw [inW_int]
  have := h x hx
  simp [this.1, this.2]

/-! ### min, max, sum of ints -/
def mxI (xs : List Int) : Int := xs.foldl (fun a y => if a < y then y else a) (xs.headD 0)
def mnI (xs : List Int) : Int := xs.foldl (fun a y => if y < a then y else a) (xs.headD 0)
theorem okMin_ints (xs : List Int) : okMin (xs.map D.int) = true := by
  unfold okMin
  simp only [Bool.and_eq_true, decide_eq_true_eq]
  refine ⟨⟨⟨?_, ?_⟩, ?_⟩, ?_⟩
  · induction xs with
    | nil => rfl
    | cons x xs ih => simp [D.noDcts, D.noDct, ih]
  · unfold alikeD
    rw [List.all_eq_true]
    intro d hd
    obtain ⟨x, _, rfl⟩ := List.mem_map.mp hd
    rw [List.all_eq_true]
    intro e he
    obtain ⟨y, _, rfl⟩ := List.mem_map.mp he
    rfl
  · rw [List.all_eq_true]
    intro d hd
    obtain ⟨x, _, rfl⟩ := List.mem_map.mp hd
    rfl
  · induction xs with
    | nil => simp [PyData.depthAll]
    | cons x xs ih =>
      simp only [List.map_cons, PyData.depthAll, D.py, PyData.depth]
      omega
theorem fold_max : ∀ (xs : List Int) (x : Int), maxDD (.int x) (xs.map .int) = .int (xs.foldl (fun a y => if a < y then y else a) x)
  | [], _ => rfl
  | y :: xs, x => by
    show maxDD (if PySem.W.dataLt (D.int x).py (D.int y).py = true then D.int y else D.int x) (xs.map .int) = _
    rw [List.foldl_cons, ← fold_max xs]
    congr 1
    rw [show PySem.W.dataLt (D.int x).py (D.int y).py = decide (x < y) from PySem.W.dataLt_int x y]
    by_cases h : x < y <;> simp [h]
theorem fold_min : ∀ (xs : List Int) (x : Int), minDD (.int x) (xs.map .int) = .int (xs.foldl (fun a y => if y < a then y else a) x)
  | [], _ => rfl
  | y :: xs, x => by
    show minDD (if PySem.W.dataLt (D.int y).py (D.int x).py = true then D.int y else D.int x) (xs.map .int) = _
    rw [List.foldl_cons, ← fold_min xs]
    congr 1
    rw [show PySem.W.dataLt (D.int y).py (D.int x).py = decide (y < x) from PySem.W.dataLt_int y x]
    by_cases h : y < x <;> simp [h]
theorem gMax1_of {d : D} {xs : List Int} (e : seqOf d = some (xs.map .int)) (h : xs ≠ []) : gMax1 d = some (.int (mxI xs)) := by
  cases xs with
  | nil => exact absurd rfl h
  | cons x xs =>
    unfold gMax1
    rw [e]
    show (if okMin (D.int x :: xs.map .int) = true then some (maxDD (.int x) (xs.map .int)) else none) = _
    rw [if_pos (show okMin (D.int x :: xs.map .int) = true from okMin_ints (x :: xs)), fold_max]
    simp [mxI]
theorem gMin1_of {d : D} {xs : List Int} (e : seqOf d = some (xs.map .int)) (h : xs ≠ []) : gMin1 d = some (.int (mnI xs)) := by
  cases xs with
  | nil => exact absurd rfl h
  | cons x xs =>
    unfold gMin1
    rw [e]
    show (if okMin (D.int x :: xs.map .int) = true then some (minDD (.int x) (xs.map .int)) else none) = _
    rw [if_pos (show okMin (D.int x :: xs.map .int) = true from okMin_ints (x :: xs)), fold_min]
    simp [mnI]
theorem gSum_of {d : D} {xs : List Int} (e : seqOf d = some (xs.map .int)) : gSum d = some (.int xs.sum) := by
  unfold gSum
  rw [e]
  show (ints? (xs.map .int)).map _ = _
  have : ∀ xs : List Int, ints? (xs.map .int) = some xs := fun xs => by
    induction xs with
    | nil => rfl
    | cons x xs ih =>
      show (ints? (xs.map .int)).map (x :: ·) = _
      rw [ih]; rfl
  rw [this]; rfl
theorem foldmax_ge : ∀ (xs : List Int) (x : Int), x ≤ xs.foldl (fun a y => if a < y then y else a) x ∧ (∀ y ∈ xs, y ≤ xs.foldl (fun a y => if a < y then y else a) x) ∧ (xs.foldl (fun a y => if a < y then y else a) x = x ∨ xs.foldl (fun a y => if a < y then y else a) x ∈ xs)
  | [], x => ⟨Int.le_refl x, by simp, .inl rfl⟩
  | y :: xs, x => by
    rw [List.foldl_cons]
    have hxy : x ≤ (if x < y then y else x) ∧ y ≤ (if x < y then y else x) := by split <;> omega
    obtain ⟨h1, h2, h3⟩ := foldmax_ge xs (if x < y then y else x)
    refine ⟨Int.le_trans hxy.1 h1, fun z hz => ?_, ?_⟩
    · rcases List.mem_cons.mp hz with e | hz
      · subst e; exact Int.le_trans hxy.2 h1
      · exact h2 z hz
    · rcases h3 with h3 | h3
      · rw [h3]
        split
        · exact .inr List.mem_cons_self
        · exact .inl rfl
      · exact .inr (List.mem_cons_of_mem _ h3)
theorem foldmin_le : ∀ (xs : List Int) (x : Int), xs.foldl (fun a y => if y < a then y else a) x ≤ x ∧ (∀ y ∈ xs, xs.foldl (fun a y => if y < a then y else a) x ≤ y) ∧ (xs.foldl (fun a y => if y < a then y else a) x = x ∨ xs.foldl (fun a y => if y < a then y else a) x ∈ xs)
  | [], x => ⟨Int.le_refl x, by simp, .inl rfl⟩
  | y :: xs, x => by
    rw [List.foldl_cons]
    have hxy : (if y < x then y else x) ≤ x ∧ (if y < x then y else x) ≤ y := by split <;> omega
    obtain ⟨h1, h2, h3⟩ := foldmin_le xs (if y < x then y else x)
    refine ⟨Int.le_trans h1 hxy.1, fun z hz => ?_, ?_⟩
    · rcases List.mem_cons.mp hz with e | hz
      · subst e; exact Int.le_trans h1 hxy.2
      · exact h2 z hz
    · rcases h3 with h3 | h3
      · rw [h3]
        split
        · exact .inr List.mem_cons_self
        · exact .inl rfl
      · exact .inr (List.mem_cons_of_mem _ h3)
theorem mxI_ge {xs : List Int} {x : Int} (h : x ∈ xs) : x ≤ mxI xs := by
  cases xs with
  | nil => cases h
  | cons y ys => exact (foldmax_ge (y :: ys) y).2.1 x h
theorem mxI_mem {xs : List Int} (h : xs ≠ []) : mxI xs ∈ xs := by
  cases xs with
  | nil => exact absurd rfl h
  | cons y ys =>
    rcases (foldmax_ge (y :: ys) y).2.2 with e | e
    · show List.foldl _ _ _ ∈ _
      rw [show (y :: ys).headD 0 = y from rfl, e]; exact List.mem_cons_self
    · exact e
theorem mnI_le {xs : List Int} {x : Int} (h : x ∈ xs) : mnI xs ≤ x := by
  cases xs with
  | nil => cases h
  | cons y ys => exact (foldmin_le (y :: ys) y).2.1 x h
theorem mnI_mem {xs : List Int} (h : xs ≠ []) : mnI xs ∈ xs := by
  cases xs with
  | nil => exact absurd rfl h
  | cons y ys =>
    rcases (foldmin_le (y :: ys) y).2.2 with e | e
    · show List.foldl _ _ _ ∈ _
      rw [show (y :: ys).headD 0 = y from rfl, e]; exact List.mem_cons_self
    · exact e
theorem mnI_eq {xs : List Int} {m : Int} (h : m ∈ xs) (h2 : ∀ x ∈ xs, m ≤ x) : mnI xs = m := by
  have a := mnI_le h
  have b := h2 _ (mnI_mem (List.ne_nil_of_mem h))
  omega
theorem mxI_eq {xs : List Int} {m : Int} (h : m ∈ xs) (h2 : ∀ x ∈ xs, x ≤ m) : mxI xs = m := by
  have a := mxI_ge h
  have b := h2 _ (mxI_mem (List.ne_nil_of_mem h))
  omega
end Ev

/-! E21: which data repr can show. -/
namespace Ev
open PySem L2
variable [TabsC]
mutual
/-- ints below 10^12, no texts, no dicts -/
def D.tiny : D → Bool
  | .int i => decide (i.natAbs < 10 ^ 12)
  | .tup ds => D.tinys ds
  | .lst ds => D.tinys ds
  | .non => true
  | .bl _ => true
  | _ => false
def D.tinys : List D → Bool
  | [] => true
  | d :: ds => d.tiny && D.tinys ds
end
mutual
/-- how many parts -/
def D.parts : D → Nat
  | .tup ds => D.partsL ds + 1
  | .lst ds => D.partsL ds + 1
  | _ => 1
def D.partsL : List D → Nat
  | [] => 0
  | d :: ds => d.parts + D.partsL ds
end
theorem log_small {n : Nat} (h : n < 10 ^ 12) : n.log2 < 40 := by
  by_cases h0 : n = 0
  · subst h0; decide
  · exact (Nat.log2_lt h0).mpr (by omega)
mutual
theorem tiny_noDct : ∀ {d : D}, d.tiny = true → d.noDct = true
  | .non, _ => rfl
  | .bl _, _ => rfl
  | .int _, _ => rfl
  | .str _, h => by simp [D.tiny] at h
  | .tup ds, h => by simp only [D.tiny] at h; simp only [D.noDct]; exact tinys_noDct h
  | .lst ds, h => by simp only [D.tiny] at h; simp only [D.noDct]; exact tinys_noDct h
  | .dct _, h => by simp [D.tiny] at h
theorem tinys_noDct : ∀ {ds : List D}, D.tinys ds = true → D.noDcts ds = true
  | [], _ => rfl
  | d :: ds, h => by
    simp only [D.tinys, Bool.and_eq_true] at h
    simp only [D.noDcts, tiny_noDct h.1, tinys_noDct h.2, Bool.and_self]
end
mutual
theorem tiny_show : ∀ {d : D}, d.tiny = true → d.py.showable = true ∧ d.py.leavesShort 13 = true ∧ d.py.weight + 1 ≤ 42 * d.parts
  | .non, _ => by simp [D.py, PyData.showable, PyData.leavesShort, PyData.weight, D.parts]
  | .bl _, _ => by simp [D.py, PyData.showable, PyData.leavesShort, PyData.weight, D.parts]
  | .int i, h => by
    simp only [D.tiny, decide_eq_true_eq] at h
    have l := log_small h
    refine ⟨by simp only [D.py, PyData.showable, decide_eq_true_eq]; omega, by simp only [D.py, PyData.leavesShort, decide_eq_true_eq]; exact PyData.shown_int_le h, ?_⟩
    simp only [D.py, PyData.weight, D.parts]
    split <;> omega
  | .str _, h => by simp [D.tiny] at h
  | .tup ds, h => by
    simp only [D.tiny] at h
    obtain ⟨h1, h2, h3⟩ := tinys_show h
    simp only [D.py, PyData.showable, PyData.leavesShort, PyData.weight, D.parts]
    exact ⟨h1, h2, by omega⟩
  | .lst ds, h => by
    simp only [D.tiny] at h
    obtain ⟨h1, h2, h3⟩ := tinys_show h
    simp only [D.py, PyData.showable, PyData.leavesShort, PyData.weight, D.parts]
    exact ⟨h1, h2, by omega⟩
  | .dct _, h => by simp [D.tiny] at h
theorem tinys_show : ∀ {ds : List D}, D.tinys ds = true → PyData.showableAll (D.pys ds) = true ∧ PyData.leavesShortAll 13 (D.pys ds) = true ∧ PyData.weightAll (D.pys ds) ≤ 42 * D.partsL ds
  | [], _ => by simp [D.pys, PyData.showableAll, PyData.leavesShortAll, PyData.weightAll]
  | d :: ds, h => by
    simp only [D.tinys, Bool.and_eq_true] at h
    obtain ⟨a1, a2, a3⟩ := tiny_show h.1
    obtain ⟨b1, b2, b3⟩ := tinys_show h.2
    simp only [D.pys, PyData.showableAll, PyData.leavesShortAll, PyData.weightAll, D.partsL, a1, a2, b1, b2, Bool.and_self, true_and]
    omega
end
/-- a loop that may give back, with an invariant that counts -/
theorem loopF_findI {ft : FGt} {fb : FS} (I : Nat → Env → Prop) (J : Env → Prop) (s : D → Option D) : ∀ {ds : List D} (k : Nat) {r : Env}, I k r →
    (∀ (i : Nat) (d : D) (r : Env), ds[i]? = some d → I (k + i) r → match s d with
      | none => ∃ r', (obF (ft d r) fb = .nx r' ∨ obF (ft d r) fb = .ct r') ∧ I (k + i + 1) r'
      | some v => ∃ r', obF (ft d r) fb = .rt v r' ∧ J r') →
    match ds.findSome? s with
      | none => ∃ r', loopF ft fb ds r = .nx r' ∧ I (k + ds.length) r'
      | some v => ∃ r', loopF ft fb ds r = .rt v r' ∧ J r'
  | [], k, r, h, _ => ⟨r, rfl, h⟩
  | d :: ds, k, r, h, st => by
    have h1 := st 0 d r rfl h
    rw [List.findSome?_cons]
    cases ms : s d with
    | some v =>
      rw [ms] at h1
      obtain ⟨r', h2, h3⟩ := h1
      refine ⟨r', ?_, h3⟩
      rw [loopF_cons]
      cases m : ft d r with
      | none => rw [m] at h2; cases h2
      | some r1 =>
        rw [m] at h2
        rw [obF_some] at h2 ⊢
        rw [h2, loopK_rt]
    | none =>
      rw [ms] at h1
      obtain ⟨r', h2, h3⟩ := h1
      have e : loopF ft fb (d :: ds) r = loopF ft fb ds r' := by
        rw [loopF_cons]
        cases m : ft d r with
        | none => rw [m] at h2; rcases h2 with h2 | h2 <;> cases h2
        | some r1 =>
          rw [m] at h2
          rw [obF_some] at h2 ⊢
          rcases h2 with h2 | h2
          · rw [h2, loopK_nx]
          · rw [h2, loopK_ct]
      have ih := loopF_findI I J s (ds := ds) (k + 1) h3 fun i d r hd hi => by
        have := st (i + 1) d r hd (by rw [show k + (i + 1) = k + 1 + i by omega]; exact hi)
        rw [show k + (i + 1) = k + 1 + i by omega] at this
        exact this
      simp only
      rw [e, List.length_cons, show k + (ds.length + 1) = k + 1 + ds.length by omega]
      exact ih
theorem gRepr_tiny {d : D} (h : d.tiny = true) (hp : d.parts ≤ 20000) (hd : d.py.depth ≤ 60) : ∃ s, gRepr d = some (.str s) := by
  obtain ⟨h1, h2, h3⟩ := tiny_show h
  have ok : okShow d := ⟨tiny_noDct h, h1, hd, PyData.shown_fits (B := 13) (by decide) (by decide) h2 (by omega)⟩
  cases d with
  | non => exact ⟨_, rfl⟩
  | bl b => exact ⟨_, rfl⟩
  | int i =>
    simp only [D.tiny, decide_eq_true_eq] at h
    have l := log_small h
    exact ⟨_, by unfold gRepr; exact ifP_pos (by omega)⟩
  | str x => simp [D.tiny] at h
  | tup ds => exact ⟨_, by unfold gRepr; exact ifP_pos ok⟩
  | lst ds => exact ⟨_, by unfold gRepr; exact ifP_pos ok⟩
  | dct _ => simp [D.tiny] at h
end Ev

/-! E22: == and != of any two texts. -/
namespace Ev
open PySem PySem.Spec PyProof.Rows L2
variable [TabsC]
def gEqA : D → D → Option D
  | .str a, .str b => some (.bl (a == b))
  | x, y => gEq x y
def gNeA : D → D → Option D
  | .str a, .str b => some (.bl (!(a == b)))
  | x, y => gNe x y
@[simp] theorem gEqA_s (a b : Str) : gEqA (.str a) (.str b) = some (.bl (a == b)) := rfl
@[simp] theorem gNeA_s (a b : Str) : gNeA (.str a) (.str b) = some (.bl (!(a == b))) := rfl
theorem gEqA_l {x : D} (h : ∀ a, x ≠ .str a) (y : D) : gEqA x y = gEq x y := by
  cases x with
  | str a => exact absurd rfl (h a)
  | _ => rfl
theorem gNeA_l {x : D} (h : ∀ a, x ≠ .str a) (y : D) : gNeA x y = gNe x y := by
  cases x with
  | str a => exact absurd rfl (h a)
  | _ => rfl
@[simp] theorem gEqA_n (y : D) : gEqA .non y = gEq .non y := rfl
@[simp] theorem gEqA_b (b : Bool) (y : D) : gEqA (.bl b) y = gEq (.bl b) y := rfl
@[simp] theorem gEqA_i (b : Int) (y : D) : gEqA (.int b) y = gEq (.int b) y := rfl
@[simp] theorem gEqA_t (b : List D) (y : D) : gEqA (.tup b) y = gEq (.tup b) y := rfl
@[simp] theorem gEqA_ls (b : List D) (y : D) : gEqA (.lst b) y = gEq (.lst b) y := rfl
@[simp] theorem gNeA_n (y : D) : gNeA .non y = gNe .non y := rfl
@[simp] theorem gNeA_b (b : Bool) (y : D) : gNeA (.bl b) y = gNe (.bl b) y := rfl
@[simp] theorem gNeA_i (b : Int) (y : D) : gNeA (.int b) y = gNe (.int b) y := rfl
@[simp] theorem gNeA_t (b : List D) (y : D) : gNeA (.tup b) y = gNe (.tup b) y := rfl
@[simp] theorem gNeA_ls (b : List D) (y : D) : gNeA (.lst b) y = gNe (.lst b) y := rfl
section
variable {X : Cx}
theorem opD_eqA (hu : X.A.units + 64 < cLine) : OpD X (compareOp .Eq) gEqA := OpD.mk fun dx dy d e => by
  have old : gEq dx dy = some d → OpR X (compareOp .Eq) (fun x y H Q => ∃ F, Same F H ∧ RepB X.K F H dx x ∧ RepB X.K F H dy y ∧ ∀ z F' H', Grow F H F' H' → Rep X.K F' d z → Q z H') := fun e =>
    OpR.imp (opD_eq hu) fun x y H Q ⟨F, f1, hx, hy, q⟩ => ⟨F, dx, dy, d, f1, hx, hy, e, q⟩
  cases dx with
  | str a =>
    cases dy with
    | str b =>
      cases e
      exact OpR.imp op_eq fun x y H Q ⟨F, f1, hx, hy, q⟩ => by
        rw [show x = V.str a from hx, show y = V.str b from hy]
        refine ⟨rfl, ?_⟩
        have e : decide (V.str a = V.str b) = (a == b) := by rw [Bool.eq_iff_iff]; simp
        rw [e]
        exact q (.bl (a == b)) F H (.refl f1) rfl
    | _ => exact old e
  | _ => exact old e
theorem opD_neA (hu : X.A.units + 64 < cLine) : OpD X (compareOp .NotEq) gNeA := OpD.mk fun dx dy d e => by
  have old : gNe dx dy = some d → OpR X (compareOp .NotEq) (fun x y H Q => ∃ F, Same F H ∧ RepB X.K F H dx x ∧ RepB X.K F H dy y ∧ ∀ z F' H', Grow F H F' H' → Rep X.K F' d z → Q z H') := fun e =>
    OpR.imp (opD_ne hu) fun x y H Q ⟨F, f1, hx, hy, q⟩ => ⟨F, dx, dy, d, f1, hx, hy, e, q⟩
  cases dx with
  | str a =>
    cases dy with
    | str b =>
      cases e
      exact OpR.imp op_ne fun x y H Q ⟨F, f1, hx, hy, q⟩ => by
        rw [show x = V.str a from hx, show y = V.str b from hy]
        refine ⟨rfl, ?_⟩
        have e : decide (V.str a = V.str b) = (a == b) := by rw [Bool.eq_iff_iff]; simp
        rw [e]
        exact q (.bl (!(a == b))) F H (.refl f1) rfl
    | _ => exact old e
  | _ => exact old e
end
end Ev

/-! E23: comprehensions whose turns change the environment; range(a, b); what fZip, gCatL compute. -/
namespace Ev
open PySem L2
variable [TabsC]
theorem loopC_inv {vs : List Nat} {ft : FGt} {tt : FT} {fe : FE} (I : Nat → Env → List D → Prop) : ∀ {ds acc : List D} (k : Nat) {r : Env}, I k r acc → acc.length + ds.length ≤ sizeLine →
    (∀ (i : Nat) (d : D) (r : Env) (acc : List D), ds[i]? = some d → I (k + i) r acc → ∃ o r', turnC ft tt fe d r = .ok (o, r') ∧ I (k + i + 1) (unAll r' vs) (acc ++ o.toList)) →
    ∃ out r', loopC vs ft tt fe ds r acc = .ok (out, r') ∧ I (k + ds.length) r' out
  | [], acc, k, r, h, _, _ => ⟨acc, r, loopC_nil vs ft tt fe r acc, h⟩
  | d :: ds, acc, k, r, h, hl, st => by
    rw [List.length_cons] at hl
    obtain ⟨o, r', h1, h2⟩ := st 0 d r acc rfl h
    have nxt : acc.length + o.toList.length + ds.length ≤ sizeLine := by cases o <;> simp <;> omega
    have ih := loopC_inv I (ds := ds) (acc := acc ++ o.toList) (k + 1) h2 (by rw [List.length_append]; exact nxt) fun i d r acc hd hi => by
      have := st (i + 1) d r acc hd (by rw [show k + (i + 1) = k + 1 + i by omega]; exact hi)
      rw [show k + (i + 1) = k + 1 + i by omega] at this
      exact this
    obtain ⟨out, r2, h3, h4⟩ := ih
    refine ⟨out, r2, ?_, by rw [List.length_cons, show k + (ds.length + 1) = k + 1 + ds.length by omega]; exact h4⟩
    rw [← h3, loopC_cons]
    unfold turnC at h1
    cases m : ft d r with
    | none => rw [m] at h1; cases h1
    | some r1 =>
      rw [m] at h1
      rw [obR_some] at h1 ⊢
      cases m2 : tt r1 with
      | stuck => rw [m2] at h1; cases h1
      | ex x => rw [m2] at h1; cases h1
      | ok p =>
        obtain ⟨b, r2⟩ := p
        rw [m2] at h1
        rw [Res.bnd_ok] at h1 ⊢
        cases b with
        | false =>
          rw [brB_f] at h1 ⊢
          simp only [Res.ok.injEq, Prod.mk.injEq] at h1
          obtain ⟨rfl, rfl⟩ := h1
          simp
        | true =>
          rw [brB_t] at h1 ⊢
          cases m3 : fe r2 with
          | stuck => rw [m3] at h1; cases h1
          | ex x => rw [m3] at h1; cases h1
          | ok p =>
            obtain ⟨y, r3⟩ := p
            rw [m3] at h1
            rw [Res.bnd_ok] at h1 ⊢
            simp only [Res.ok.injEq, Prod.mk.injEq] at h1
            obtain ⟨rfl, rfl⟩ := h1
            rw [if_pos (by omega)]
            rfl
/-- range(a, b) -/
def rgA (a b : Int) : List Int := (List.range (b - a).toNat).map fun k : Nat => a + k
theorem rg2_of {a b : Int} (ha : -1000000000 ≤ a ∧ a ≤ 1000000000) (hb : -1000000000 ≤ b ∧ b ≤ 1000000000) : rg2 [a, b] = some ((rgA a b).map .int) := by
  show (if okRg a = true ∧ okRg b = true then some (rngD a b) else none) = _
  rw [if_pos ⟨okRg_of ha, okRg_of hb⟩]
  unfold rngD rgA
  rw [List.map_map]
  rfl
theorem rgA_get {a b : Int} {i : Nat} {x : Int} (h : (rgA a b)[i]? = some x) : x = a + i ∧ a + i < b := by
  unfold rgA at h
  rw [List.getElem?_map] at h
  cases m : (List.range (b - a).toNat)[i]? with
  | none => rw [m] at h; cases h
  | some k =>
    rw [m] at h
    have h : a + (k : Int) = x := Option.some.inj h
    obtain ⟨h1, h2⟩ := List.getElem?_eq_some_iff.mp m
    rw [List.length_range] at h1
    rw [List.getElem_range] at h2
    omega
theorem rgA_len (a b : Int) : (rgA a b).length = (b - a).toNat := by simp [rgA]
theorem rgA_mem {a b x : Int} : x ∈ rgA a b ↔ a ≤ x ∧ x < b := by
  unfold rgA
  rw [List.mem_map]
  constructor
  · rintro ⟨k, h, rfl⟩
    have := List.mem_range.mp h
    show a ≤ a + (k : Int) ∧ a + (k : Int) < b
    omega
  · intro h
    exact ⟨(x - a).toNat, List.mem_range.mpr (by omega), by omega⟩
theorem gCatL_ll {xs ys : List D} (h : xs.length + ys.length ≤ 10000) : gCatL (.lst xs) (.lst ys) = some (xs ++ ys) := by
  show (if xs.length + ys.length ≤ sizeLine then some (xs ++ ys) else none) = _
  rw [if_pos (by rw [bigZ]; omega)]
theorem ap_fZip_ok {fl : FL} {r r1 : Env} {xs ys : List D} (h : fl r = .ok ([.lst xs, .lst ys], r1)) : fZip fl r = .ok (zipD xs ys, r1) := by
  unfold fZip
  rw [h]
  rfl
theorem all_true {α : Type} (ds : List α) : gAll (.lst (ds.filterMap fun _ => some (D.bl true))) = some (.bl true) := by
  have e : ds.filterMap (fun _ => some (D.bl true)) = ds.map fun _ => D.bl true := by induction ds <;> simp_all
  have a : ds.all (fun _ => true) = true := List.all_eq_true.mpr fun _ _ => rfl
  rw [e, gAll_map (fun _ => true), a]
theorem all_trueC {α β : Type} (f : α → β) (ds : List α) : gAll (.lst (ds.filterMap ((fun _ => some (D.bl true)) ∘ f))) = some (.bl true) := all_true ds
theorem all_trueM {α : Type} (ds : List α) : gAll (.lst (ds.map fun _ => D.bl true)) = some (.bl true) := by
  have a : ds.all (fun _ => true) = true := List.all_eq_true.mpr fun _ _ => rfl
  rw [gAll_map (fun _ => true), a]
theorem gAdd_t {xs ys : List D} (h : xs.length + ys.length ≤ 10000) : gAdd (.tup xs) (.tup ys) = some (.tup (xs ++ ys)) := gAdd_tt xs ys (by rw [bigZ]; omega)
theorem cut_take (ds : List D) (k : Nat) : cutD ds none (some (k : Int)) = ds.take k := by
  unfold cutD
  rw [HT.sIx_nat, HT.sIx_none, List.drop_zero, Nat.sub_zero, List.take_eq_take_iff]
  omega
theorem cut_drop (ds : List D) (k : Nat) : cutD ds (some (k : Int)) none = ds.drop k := by
  unfold cutD
  rw [HT.sIx_nat, HT.sIx_none]
  by_cases h : k ≤ ds.length
  · rw [Nat.min_eq_left h, List.take_of_length_le (by rw [List.length_drop]; omega)]
  · rw [Nat.min_eq_right (by omega), List.drop_of_length_le (by omega), List.drop_of_length_le (by omega)]
    simp
theorem gSl_take (ds : List D) (k : Nat) : gSl (.tup ds) none (some (k : Int)) = some (.tup (ds.take k)) := by
  show some (D.tup (cutD ds none (some (k : Int)))) = _
  rw [cut_take]
theorem gSl_drop (ds : List D) (k : Nat) : gSl (.tup ds) (some (k : Int)) none = some (.tup (ds.drop k)) := by
  show some (D.tup (cutD ds (some (k : Int)) none)) = _
  rw [cut_drop]
theorem gSl_takeL (ds : List D) (k : Nat) : gSl (.lst ds) none (some (k : Int)) = some (.lst (ds.take k)) := by
  show some (D.lst (cutD ds none (some (k : Int)))) = _
  rw [cut_take]
theorem gSl_dropL (ds : List D) (k : Nat) : gSl (.lst ds) (some (k : Int)) none = some (.lst (ds.drop k)) := by
  show some (D.lst (cutD ds (some (k : Int)) none)) = _
  rw [cut_drop]
theorem gSl_cut (ds : List D) (a b : Nat) : gSl (.tup ds) (some (a : Int)) (some (b : Int)) = some (.tup ((ds.drop a).take (b - a))) := by
  show some (D.tup (cutD ds (some (a : Int)) (some (b : Int)))) = _
  unfold cutD
  rw [HT.sIx_nat, HT.sIx_nat]
  congr 2
  by_cases h : a ≤ ds.length
  · rw [Nat.min_eq_left h, List.take_eq_take_iff, List.length_drop]
    omega
  · have e : ds.drop a = [] := List.drop_of_length_le (by omega)
    rw [Nat.min_eq_right (show ds.length ≤ a by omega), e, List.drop_length]
    simp
end Ev

/-! E24: comparisons in a chain of three; {k: v, ..}. -/
namespace Ev
open PySem PySem.Spec PyProof.Rows L2
variable [TabsC]
/-! ### chains of three -/
def fChain3 (g g' g'' : D → D → Option D) (fa fb fc fd : FB) : FE := fun r => (fa r).bnd fun x r1 => (fb r1).bnd fun y r2 => obnd (bGet r2 x) fun dx => obnd (bGet r2 y) fun dy => obnd (g dx dy) fun z => asBl z fun b =>
  brB b ((fc r2).bnd fun w r3 => obnd (bGet r3 y) fun dy => obnd (bGet r3 w) fun dw => obnd (g' dy dw) fun z => asBl z fun b =>
    brB b ((fd r3).bnd fun u r4 => obnd (bGet r4 w) fun dw => obnd (bGet r4 u) fun du => obnd (g'' dw du) fun d => .ok (d, r4)) (.ok (.bl false, r3))) (.ok (.bl false, r2))
def tChain3 (r r' r'' : R2) (ta tb tc td : TE) : TE := fun σ H Q => ta σ H fun x H1 => tb σ H1 fun y H2 => r x y H2 fun z H3 => ∃ k, z = .bl k ∧
  (if k = true then tc σ H3 fun w H4 => r' y w H4 fun z H5 => ∃ k, z = .bl k ∧ (if k = true then td σ H5 fun u H6 => r'' w u H6 Q else Q (.bl false) H5) else Q (.bl false) H3)
section
variable {X : Cx} {E : XK} {a b c d : Expr} {pos : Pos}
theorem pe_chain3 {ta tb tc td : TE} {op op' op'' : CmpOp} {r r' r'' : R2} (ho : OpR X (compareOp op) r) (ho' : OpR X (compareOp op') r') (ho'' : OpR X (compareOp op'') r'') (ha : PE X a ta) (hb : PE X b tb) (hc : PE X c tc) (hd : PE X d td)
    (hm : lastMarks [op, op', op''] [b, c, d] = false := by with_unfolding_all rfl) : PE X (.Compare a [op, op', op''] [b, c, d] pos) (tChain3 r r' r'' ta tb tc td) := by
  refine ⟨fun pins s σ H Q I h => ?_⟩
  refine Compare_chain (thn (ha.run pins s σ H _ I h) fun v s1 ⟨x, H1, I1, r1, q1⟩ => chain_link (thn (hb.run pins s1 σ H1 _ I1 q1) fun u s2 ⟨y, H2, I2, r2, q2⟩ =>
    thn (ho pins s2 σ H2 x y v u _ I2 r1 r2 q2) fun d s3 ⟨z, H3, I3, r3, k, e, q3⟩ => ?_)) hm
  subst e
  cases r3
  refine wpAny_truthy_bool ?_
  cases k with
  | false => exact ite_ff ⟨.bl false, H3, I3, rfl, q3⟩
  | true =>
    refine ite_tt (chain_link (thn (hc.run pins s3 σ H3 _ I3 q3) fun w' s4 ⟨z', H4, I4, r4, q4⟩ => thn (ho' pins s4 σ H4 y z' u w' _ I4 r2 r4 q4) fun d5 s5 ⟨z5, H5, I5, r5, k5, e5, q5⟩ => ?_))
    subst e5
    cases r5
    refine wpAny_truthy_bool ?_
    cases k5 with
    | false => exact ite_ff ⟨.bl false, H5, I5, rfl, q5⟩
    | true => exact ite_tt (chain_last (thn (hd.run pins s5 σ H5 _ I5 q5) fun w6 s6 ⟨z6, H6, I6, r6, q6⟩ => ho'' pins s6 σ H6 z' z6 w' w6 Q I6 r4 r6 q6))
theorem chain3_reads {g g' g'' : D → D → Option D} {fa fb fc fd : FB} {s : Sg} {H : Hp} {Q : VK} (h : tE X.K X.mg E (fChain3 g g' g'' fa fb fc fd) s H Q) :
    tChain3 (rD2 X.K g) (rD2 X.K g') (rD2 X.K g'') (tB X.K X.mg E fa) (tB X.K X.mg E fb) (tB X.K X.mg E fc) (tB X.K X.mg E fd) s H Q := by
  obtain ⟨B, F, O, r, R, q⟩ := h
  refine ⟨B, F, O, r, R, (Post.split q).mono fun x r1 F1 O1 H1 R1 f1 k1 q1 v hv => ?_⟩
  refine ⟨B, F1, O1, r1, R1, (Post.split q1).mono fun y r2 F2 O2 H2 R2 f2 k2 q2 u hu => ?_⟩
  obtain ⟨dx, ex, q2⟩ := Post.opt q2
  obtain ⟨dy, ey, q2⟩ := Post.opt q2
  obtain ⟨d, ed, q2⟩ := Post.opt q2
  refine ⟨F2, dx, dy, d, R2.fh, R2.bget (hv.mono f2) ex, R2.bget hu ey, ed, fun z F' H' gr hz => ?_⟩
  have R3 := R2.grow gr
  cases d with
  | bl k =>
    refine ⟨k, hz, ?_⟩
    cases k with
    | false => exact Post.ok (k := fun d _ F' _ H' => ∀ v, Rep X.K F' d v → Q v H') q2 R3 gr.ff .refl _ rfl
    | true =>
      show tB X.K X.mg E fc s H' _
      have q2 : Post X.K X.mg E B F2 O2 r2 s ((fc r2).bnd fun w r3 => obnd (bGet r3 y) fun dy => obnd (bGet r3 w) fun dw => obnd (g' dy dw) fun z => asBl z fun b =>
        brB b ((fd r3).bnd fun u r4 => obnd (bGet r4 w) fun dw => obnd (bGet r4 u) fun du => obnd (g'' dw du) fun d => .ok (d, r4)) (.ok (.bl false, r3))) (fun d _ F' _ H' => ∀ v, Rep X.K F' d v → Q v H') := q2
      refine ⟨B, F', O2, r2, R3, (Post.split (q2.up gr.ff)).mono fun w r4 F4 O4 H4 R4 f4 k4 q4 v4 hv4 => ?_⟩
      obtain ⟨dy', ey', q4⟩ := Post.opt q4
      obtain ⟨dw, ew, q4⟩ := Post.opt q4
      obtain ⟨d4, ed4, q4⟩ := Post.opt q4
      refine ⟨F4, dy', dw, d4, R4.fh, R4.bget ((hu.mono gr.ff).mono f4) ey', R4.bget hv4 ew, ed4, fun z5 F5 H5 gr5 hz5 => ?_⟩
      have R5 := R4.grow gr5
      cases d4 with
      | bl k' =>
        refine ⟨k', hz5, ?_⟩
        cases k' with
        | false => exact Post.ok (k := fun d _ F' _ H' => ∀ v, Rep X.K F' d v → Q v H') q4 R5 gr5.ff .refl _ rfl
        | true =>
          show tB X.K X.mg E fd s H5 _
          have q4 : Post X.K X.mg E B F4 O4 r4 s ((fd r4).bnd fun u r5 => obnd (bGet r5 w) fun dw => obnd (bGet r5 u) fun du => obnd (g'' dw du) fun d => .ok (d, r5)) (fun d _ F' _ H' => ∀ v, Rep X.K F' d v → Q v H') := q4
          refine ⟨B, F5, O4, r4, R5, (Post.split (q4.up gr5.ff)).mono fun w6 r6 F6 O6 H6 R6 f6 k6 q6 v6 hv6 => ?_⟩
          obtain ⟨dw', ew', q6⟩ := Post.opt q6
          obtain ⟨du, eu, q6⟩ := Post.opt q6
          obtain ⟨d6, ed6, q6⟩ := Post.opt q6
          refine ⟨F6, dw', du, d6, R6.fh, R6.bget ((hv4.mono gr5.ff).mono f6) ew', R6.bget hv6 eu, ed6, fun z7 F7 H7 gr7 hz7 => ?_⟩
          exact Post.ok (k := fun d _ F' _ H' => ∀ v, Rep X.K F' d v → Q v H') q6 (R6.grow gr7) gr7.ff .refl z7 hz7
      | _ => exact False.elim q4
  | _ => exact False.elim q2
theorem ev_chain3 {op op' op'' : CmpOp} {g g' g'' : D → D → Option D} {fa fb fc fd : FB} (o : OpD X (compareOp op) g) (o' : OpD X (compareOp op') g') (o'' : OpD X (compareOp op'') g'') (ha : EvB X E a fa) (hb : EvB X E b fb) (hc : EvB X E c fc) (hd : EvB X E d fd) (hm : lastMarks [op, op', op''] [b, c, d] = false := by with_unfolding_all rfl) :
    EvE X E (.Compare a [op, op', op''] [b, c, d] pos) (fChain3 g g' g'' fa fb fc fd) := PE.imp (pe_chain3 o o' o'' ha hb hc hd hm) fun s H Q h => chain3_reads h
end
@[simp ↓] theorem ap_fChain3 (g g' g'' : D → D → Option D) (fa fb fc fd : FB) (r : Env) : fChain3 g g' g'' fa fb fc fd r = bK (fa r) (fun x r1 => bK (fb r1) (fun y r2 => oK (bGet r2 x) (fun dx => oK (bGet r2 y) (fun dy => oK (g dx dy) (fun z => aBK z (fun b => brK b (bK (fc r2) (fun w r3 => oK (bGet r3 y) (fun dy => oK (bGet r3 w) (fun dw => oK (g' dy dw) (fun z => aBK z (fun b => brK b (bK (fd r3) (fun u r4 => oK (bGet r4 w) (fun dw => oK (bGet r4 u) (fun du => oK (g'' dw du) (fun d => .ok (d, r4)) ⟨⟩) ⟨⟩) ⟨⟩) ⟨⟩) (.ok (.bl false, r3)) ⟨⟩ ⟨⟩) ⟨⟩) ⟨⟩) ⟨⟩) ⟨⟩) ⟨⟩) (.ok (.bl false, r2)) ⟨⟩ ⟨⟩) ⟨⟩) ⟨⟩) ⟨⟩) ⟨⟩) ⟨⟩) ⟨⟩ := (rfl)

/-! ### {k: v, ..} -/
def pairsR : List (FE × FE) → Env → Res (List (Key × D) × Env)
  | [], r => .ok ([], r)
  | (fk, fv) :: ps, r => (fk r).bnd fun dk r1 => (fv r1).bnd fun dv r2 => obnd (keyOf dk) fun k => (pairsR ps r2).bnd fun kvs r3 => .ok ((k, dv) :: kvs, r3)
def fDisp (ps : List (FE × FE)) : FO := fun r => (pairsR ps r).bnd fun kvs r1 => brB (decide (kvs.length ≤ 15)) (.ok (.dct (mergeD [] kvs), r1)) .stuck
theorem Post.keep {α : Type} {K : PySem.W.Frag} {mg : Str → Option Value} {E : XK} {B : Base} {F : Hp} {O O2 : Addr → Option C} {r : Env} {s : Sg} {m : Res (α × Env)} {k : α → Env → Hp → (Addr → Option C) → Hp → Prop} (h : Post K mg E B F O r s m k) (kp : Keep s r r O O2) : Post K mg E B F O2 r s m k := by
  cases m with
  | ok p => exact fun F' O' H' R f k' => h F' O' H' R f (kp.trans k')
  | ex x => exact h
  | stuck => exact h
theorem pairs_reads {K : PySem.W.Frag} {mg : Str → Option Value} {E : XK} : ∀ (ps : List (FE × FE)) {B : Base} {F H : Hp} {O : Addr → Option C} {r : Env} {s : Sg} {Q : List (V × V) → Hp → Prop}, Rel K B F O H r s →
    Post K mg E B F O r s (pairsR ps r) (fun kvs _ F' _ H' => ∀ us, RepsK K F' kvs us → Q (us.map fun kv => (kV kv.1, kv.2)) H') → tPairs (ps.map fun p => (tE K mg E p.1, tE K mg E p.2)) s H Q
  | [], B, F, H, O, r, s, Q, R, q => Post.ok (k := fun kvs _ F' _ H' => ∀ us, RepsK K F' kvs us → Q (us.map fun kv => (kV kv.1, kv.2)) H') q R (.refl _) .refl [] (show RepsK K F [] [] from rfl)
  | (fk, fv) :: ps, B, F, H, O, r, s, Q, R, q => by
    refine ⟨B, F, O, r, R, (Post.split q).mono fun dk r1 F1 O1 H1 R1 f1 k1 q1 x hx => ?_⟩
    refine ⟨B, F1, O1, r1, R1, (Post.split q1).mono fun dv r2 F2 O2 H2 R2 f2 k2 q2 y hy => ?_⟩
    obtain ⟨kk, e1, q2⟩ := Post.opt q2
    refine pairs_reads ps R2 ((Post.split q2).mono fun kvs r3 F3 O3 H3 R3 f3 k3 q3 us hu => ?_)
    have := Post.ok (k := fun kvs _ F' _ H' => ∀ us, RepsK K F' kvs us → Q (us.map fun kv => (kV kv.1, kv.2)) H') q3 R3 (.refl _) .refl ((kk, y) :: us) (show RepsK K F3 ((kk, dv) :: kvs) ((kk, y) :: us) from ⟨y, us, rfl, hy.mono f3, hu⟩)
    rw [keyOf_rep e1 hx]
    exact this
section
variable {X : Cx} {E : XK} {pos : Pos}
abbrev EvPs (X : Cx) (E : XK) (pos : Pos) (keys : List (Option Expr)) (values : List Expr) (ps : List (FE × FE)) : Prop := PPs X pos keys values (ps.map fun p => (tE X.K X.mg E p.1, tE X.K X.mg E p.2))
theorem eps_nil : EvPs X E pos [] [] [] := pps_nil
theorem eps_cons {k v : Expr} {ks : List (Option Expr)} {vs : List Expr} {fk fv : FE} {ps : List (FE × FE)} (hk : EvE X E k fk) (hv : EvE X E v fv) (hr : EvPs X E pos ks vs ps) : EvPs X E pos (some k :: ks) (v :: vs) ((fk, fv) :: ps) := pps_cons hk hv hr
theorem disp_reads {ps : List (FE × FE)} {s : Sg} {H : Hp} {Q : VK} (h : tO X.K X.mg E (fDisp ps) s H Q) : tDisp (ps.map fun p => (tE X.K X.mg E p.1, tE X.K X.mg E p.2)) s H Q := by
  obtain ⟨B, F, O, r, R, q⟩ := h
  intro p np
  obtain ⟨oA, h0A, frA, fA⟩ := R.free_of np
  obtain ⟨R2, k2⟩ := R.born (o := .dK []) (c := .dct []) np ⟨[], upd_same, rfl⟩
  have q : Post X.K X.mg E B F O r s ((pairsR ps r).bnd fun kvs r1 => brB (decide (kvs.length ≤ 15)) (.ok (.dct (mergeD [] kvs), r1)) .stuck) (fun c r' _ O' H' => ∀ a, O' a = some c → B.H0 a = none → Free s r' a → (∀ c0, O a = some c0 → ¬ Free s r a) → Q (.ref a) H') := q
  refine pairs_reads ps R2 ?_
  cases m : pairsR ps r with
  | stuck => rw [m] at q; exact q
  | ex x => rw [m] at q; exact q
  | ok pr =>
    obtain ⟨kvs, r1⟩ := pr
    rw [m] at q
    by_cases hz : kvs.length ≤ 15
    · have q : Post X.K X.mg E B F O r s (brB (decide (kvs.length ≤ 15)) (.ok (.dct (mergeD [] kvs), r1)) .stuck) (fun c r' _ O' H' => ∀ a, O' a = some c → B.H0 a = none → Free s r' a → (∀ c0, O a = some c0 → ¬ Free s r a) → Q (.ref a) H') := q
      rw [decide_eq_true hz, brB_t] at q
      intro F1 O1 H1 R1 f1 k1 us hu
      obtain ⟨oA1, frA1⟩ := k1 p (.dct []) (by simp) frA
      obtain ⟨_, ⟨us0, hus, hr⟩, _⟩ := R1.ow p _ oA1
      obtain rfl : us0 = [] := hr
      have ul : ∀ {kvs : List (Key × D)} {us : List (Key × V)}, RepsK X.K F1 kvs us → us.length = kvs.length := fun {kvs} => by
        induction kvs with
        | nil => intro us h; rw [show us = [] from h]; rfl
        | cons kv kvs ih =>
          obtain ⟨k, d⟩ := kv
          rintro us ⟨x, r, rfl, h, t⟩
          rw [List.length_cons, List.length_cons, ih t]
      refine ⟨hus, us, rfl, by rw [ul hu]; exact hz, ?_⟩
      have R7 := R1.mutT (o := .dK (mergeK [] us)) (c' := .dct (mergeD [] kvs)) oA1 frA1 ⟨_, upd_same, hu.merge rfl⟩
      have q : ∀ F' O' H', Rel X.K B F' O' H' r1 s → Same F F' → Keep s r r1 O O' → ∀ a, O' a = some (.dct (mergeD [] kvs)) → B.H0 a = none → Free s r1 a → (∀ c0, O a = some c0 → ¬ Free s r a) → Q (.ref a) H' := q
      refine q F1 _ _ R7 f1 (fun a c e1 e2 => ?_) p (by simp) h0A frA1 fun c0 e1 e2 => ?_
      · have ha : a ≠ p := fun z => by subst z; rw [oA] at e1; cases e1
        obtain ⟨g1, g2⟩ := k2 a c e1 e2
        obtain ⟨g3, g4⟩ := k1 a c g1 g2
        exact ⟨by simp only [if_neg ha]; exact g3, g4⟩
      · rw [oA] at e1; cases e1
    · have q : Post X.K X.mg E B F O r s (brB (decide (kvs.length ≤ 15)) (.ok (.dct (mergeD [] kvs), r1)) .stuck) (fun c r' _ O' H' => ∀ a, O' a = some c → B.H0 a = none → Free s r' a → (∀ c0, O a = some c0 → ¬ Free s r a) → Q (.ref a) H') := q
      rw [decide_eq_false hz, brB_f] at q
      exact False.elim q
theorem eo_disp {keys : List (Option Expr)} {values : List Expr} {ps : List (FE × FE)} (h : EvPs X E pos keys values ps) (hall : keys.all (·.isSome) = true := by rfl) (hl : keys.length = values.length := by rfl) (h0 : keys ≠ [] := by simp) (h15 : keys.length ≤ 15 := by decide) : EvO X E (.Dict keys values pos) (fDisp ps) :=
  PE.imp (pe_disp h hall hl h0 h15) fun s H Q h => disp_reads h
end
@[simp] theorem pairsR_nil (r : Env) : pairsR [] r = .ok ([], r) := rfl
@[simp ↓] theorem pairsR_cons (fk fv : FE) (ps : List (FE × FE)) (r : Env) : pairsR ((fk, fv) :: ps) r = bK (fk r) (fun dk r1 => bK (fv r1) (fun dv r2 => oK (keyOf dk) (fun k => bK (pairsR ps r2) (fun kvs r3 => .ok ((k, dv) :: kvs, r3)) ⟨⟩) ⟨⟩) ⟨⟩) ⟨⟩ := (rfl)
@[simp ↓] theorem ap_fDisp (ps : List (FE × FE)) (r : Env) : fDisp ps r = bK (pairsR ps r) (fun kvs r1 => brK (decide (kvs.length ≤ 15)) (.ok (.dct (mergeD [] kvs), r1)) .stuck ⟨⟩ ⟨⟩) ⟨⟩ := (rfl)
@[simp] theorem keyOf_i (i : Int) : keyOf (.int i) = some (.inl i) := rfl
@[simp] theorem keyOf_s (x : Str) : keyOf (.str x) = some (.inr x) := rfl
/-! ### a, b, c, .. = x, y, z, .. of four names or more -/
def gsN : List Nat → TGs
  | [] => gNil
  | i :: is => gCons (gName i) (gsN is)
theorem gsN_ok : ∀ (ix : List Nat) (vs : List V) (σ : Sg) (H : Hp) (Q : Sg → Hp → Prop), vs.length = ix.length → Q (setVs ix vs σ) H → gsN ix vs σ H Q
  | [], [], σ, H, Q, _, q => ⟨rfl, q⟩
  | i :: ix, v :: vs, σ, H, Q, hl, q => ⟨v, vs, rfl, gsN_ok ix vs _ H Q (by simpa using hl) q⟩
  | [], _ :: _, _, _, _, hl, _ => by cases hl
  | _ :: _, [], _, _, _, hl, _ => by cases hl
section
variable {X : Cx} {E : XK} {pos : Pos}
theorem es_parT {ix : List Nat} {ts es : List Expr} {f : FI2} {k1 k2 : Nat} {p1 p2 : Pos} (hg : PG X (.Tuple ts k1 p1) (gTup X.K ix.length (gsN ix))) (ha : EvI2 X E es f) (hz : ix.length ≤ 1000 := by decide)
    (hs : swapsWithSole [.Tuple ts k1 p1] (.Tuple es k2 p2) pos.line X.env = pure false := by rfl) (hw : swappedStores [.Tuple ts k1 p1] (.Tuple es k2 p2) X.env = pure none := by rfl) (h1 : (assignEach [.Tuple ts k1 p1] X.env).map (·.2) = [assign (.Tuple ts k1 p1) X.env] := by rfl) :
    EvS X E (.Assign [.Tuple ts k1 p1] (.Tuple es k2 p2) pos) (fPar ix f) := PS.imp (ps_asg (pe_tup ha) hg hs hw h1) fun D' s H q => by
  obtain ⟨B, F, O, r, R, q⟩ := q
  refine ⟨B, F, O, r, R, (SPost.split q).mono fun is r1 F1 O1 H1 R1 f1 k1 q1 vs as hvs hn => ?_⟩
  cases m : setAll ix is r1 with
  | none => rw [m] at q1; exact False.elim q1
  | some r2 =>
    rw [m] at q1
    have hl : ∀ {ix : List Nat} {is : List It2} {r r' : Env}, setAll ix is r = some r' → is.length = ix.length := fun {ix} => by
      induction ix with
      | nil => intro is r r' e; cases is with
        | nil => rfl
        | cons _ _ => cases e
      | cons i ix ih => intro is r r' e; cases is with
        | nil => cases e
        | cons x xs =>
          have e : (match setI i x r with
            | some r' => Ev.setAll ix xs r'
            | none => none) = some r' := e
          cases m : setI i x r with
          | none => rw [m] at e; cases e
          | some r1 => rw [m] at e; rw [List.length_cons, List.length_cons, ih e]
    have hv : ∀ {is : List It2} {vs : List V} {as : List Addr} {r : Env}, It2Rep X.K B F1 O1 r s is vs as → vs.length = is.length := fun h => by
      induction h with
      | nil => rfl
      | v _ _ ih => rw [List.length_cons, List.length_cons, ih]
      | o _ _ _ _ _ ih => rw [List.length_cons, List.length_cons, ih]
    have hlen : vs.length = ix.length := by rw [hv hvs, hl m]
    refine ⟨by rw [hlen, bigZ]; omega, fun p np => ⟨p, vs, rfl, .inl (.inl upd_same), hlen, gsN_ok ix vs _ _ _ hlen ?_⟩⟩
    exact q1 F1 O1 _ _ ((R1.grow (.garb R1.fh np)).setAll hvs m) (.refl _)
end
end Ev

/-! E25: list(zip(a, b)) of two lists; what is walked may be a text. -/
namespace ZipL
open PySem PySem.Spec PyProof.Rows L2
theorem zip_no_len : typeLookup (.type "zip") "__len__" = pure none := by rw [typeLookup_type, builtinLookup_eq_fast]; kernel_rfl
theorem zip_no_hint : typeLookup (.type "zip") "__length_hint__" = pure none := by rw [typeLookup_type, builtinLookup_eq_fast]; kernel_rfl
/-- the zip's objects at turn i -/
def ZSt (a b z TI TO i1 i2 q : Addr) (i : Nat) (h : Heap) : Prop := PySem.IsPair h TI (.ref i1) (.ref i2) ∧ h.IsListIter i1 a i ∧ h.IsListIter i2 b i ∧
  (∃ oo, h.get? TO = some oo) ∧ ((IsZip h z TI TO .none ∧ ∃ x y, PySem.IsPair h TO x y) ∨ ∃ T f oT, IsZipHeld h z TI TO T f ∧ h.get? T = some oT ∧ T ≠ z ∧ T ≠ TO ∧ T ≠ i1 ∧ T ≠ i2 ∧ T ≠ TI ∧ T ≠ q)
section
variable {X : Cx} {pins : List (Addr × Obj)} {σ : L2.St} {a b z TI TO i1 i2 q : Addr} {xs ys : List V} {A1 : Around} {Rs : Result → Shared → Prop} {W : Nat → Hp → Prop}
theorem zl_loop (D : ZipApart z TI TO i1 i2 a b) (hd : A1.in1.handled = none) (hqc : q ∉ [z, TI, TO, i1, i2])
    (hs : ∀ i H, W i H → SqL X.K H a xs ∧ SqL X.K H b ys ∧ ∃ acc, H q = some (.lst acc) ∧ acc.length < sizeLine ∧ ∀ T x y, xs[i]? = some x → ys[i]? = some y → H T = none → W (i + 1) (upd (upd H T (.tup [x, y])) q (.lst (acc ++ [.ref T]))))
    (hdone : ∀ i H s, xs.length ≤ i ∨ ys.length ≤ i → W i H → Inv X pins σ H s → Rs (.ok (.ret .none)) s) :
    ∀ (n i : Nat) (H : Hp) (s : Shared), xs.length - i ≤ n → Inv X pins σ H s → W i H → ZSt a b z TI TO i1 i2 q i s.heap → (∀ c ∈ [z, TI, TO, i1, i2], FpOk X pins H c) →
      codeAny (model X.prog X.w) A1 (.builtin "list.extend.loop" ⟨[.ref q, .ref z, .none], []⟩) Rs s := by
  intro n
  induction n with
  | zero =>
    intro i H s hn I hW hz hf
    obtain ⟨hqx, hqy, acc, hq, hl, hst⟩ := hs i H hW
    obtain ⟨hTI, h1, h2, ⟨oo, hoo⟩, hz⟩ := hz
    obtain ⟨its, rv, p, _⟩ := I.list hqx
    obtain ⟨its2, rv2, p2, _⟩ := I.list hqy
    have l1 := rv.length
    refine codeAny_builtin PySem.F.entry_extend_loop ?_
    rw [Around.under_plainId PySem.F.plain_extend_loop _]
    show wpAny _ A1.in1 (pyNext (.ref z) >>= _) _ _ s
    have he : its.toArray[i]? = none ∨ its2.toArray[i]? = none := .inl (by simp; omega)
    have fin : ∀ h', (∀ c o, c ∉ [z, TI, TO, i1, i2] → s.heap.get? c = some o → h'.get? c = some o) → Inv X pins σ H { s with heap := h' } := fun h' hk => I.turnedL (t' := s.toks) (ch := [z, TI, TO, i1, i2]) (fun c o hb e => hk c o hb e) hf
    rcases hz with ⟨hz, x, y, hTO⟩ | ⟨T, f, oT, hz, hT, _⟩
    · refine wpAny_bind (wpAny_pyNext_zip_end hd D hz hTI hTO h1 h2 p.isList p2.isList he fun h' hk => ?_)
      exact wpAny_pure (hdone i H _ (.inl (by omega)) hW (fin h' fun c o hb e => by simp at hb; exact hk c o hb.1 hb.2.2.1 hb.2.2.2.1 hb.2.2.2.2 e))
    · refine wpAny_bind (wpAny_pyNext_zip_end_held hd D hz hT hTI h1 h2 p.isList p2.isList he fun h' hk => ?_)
      exact wpAny_pure (hdone i H _ (.inl (by omega)) hW (fin h' fun c o hb e => by simp at hb; exact hk c o hb.1 hb.2.2.2.1 hb.2.2.2.2 e))
  | succ n ih =>
    intro i H s hn I hW hz hf
    obtain ⟨hqx, hqy, acc, hq, hl, hst⟩ := hs i H hW
    obtain ⟨hTI, h1, h2, ⟨oo, hoo⟩, hz⟩ := hz
    obtain ⟨its, rv, p, _⟩ := I.list hqx
    obtain ⟨its2, rv2, p2, _⟩ := I.list hqy
    have l1 := rv.length
    have l2 := rv2.length
    refine codeAny_builtin PySem.F.entry_extend_loop ?_
    rw [Around.under_plainId PySem.F.plain_extend_loop _]
    show wpAny _ A1.in1 (pyNext (.ref z) >>= _) _ _ s
    by_cases hend : xs.length ≤ i ∨ ys.length ≤ i
    · have he : its.toArray[i]? = none ∨ its2.toArray[i]? = none := by
        rcases hend with q | q
        · exact .inl (by simp; omega)
        · exact .inr (by simp; omega)
      have fin : ∀ h', (∀ c o, c ∉ [z, TI, TO, i1, i2] → s.heap.get? c = some o → h'.get? c = some o) → Inv X pins σ H { s with heap := h' } := fun h' hk => I.turnedL (t' := s.toks) (ch := [z, TI, TO, i1, i2]) (fun c o hb e => hk c o hb e) hf
      rcases hz with ⟨hz, x, y, hTO⟩ | ⟨T, f, oT, hz, hT, _⟩
      · refine wpAny_bind (wpAny_pyNext_zip_end hd D hz hTI hTO h1 h2 p.isList p2.isList he fun h' hk => ?_)
        exact wpAny_pure (hdone i H _ hend hW (fin h' fun c o hb e => by simp at hb; exact hk c o hb.1 hb.2.2.1 hb.2.2.2.1 hb.2.2.2.2 e))
      · refine wpAny_bind (wpAny_pyNext_zip_end_held hd D hz hT hTI h1 h2 p.isList p2.isList he fun h' hk => ?_)
        exact wpAny_pure (hdone i H _ hend hW (fin h' fun c o hb e => by simp at hb; exact hk c o hb.1 hb.2.2.2.1 hb.2.2.2.2 e))
    · have hi1 : i < xs.length := by omega
      have hi2 : i < ys.length := by omega
      have hx := List.getElem?_eq_getElem hi1
      have hy := List.getElem?_eq_getElem hi2
      generalize xs[i] = x at hx
      generalize ys[i] = y at hy
      obtain ⟨u, hu, ru⟩ := rv.get hx
      obtain ⟨u2, hu2, ru2⟩ := rv2.get hy
      have hu' : its.toArray[i]? = some u := by simpa using hu
      have hu2' : its2.toArray[i]? = some u2 := by simpa using hu2
      have fr : H s.heap.objs.size = none := I.hok.fresh (Nat.le_refl _)
      have hqs : q ≠ s.heap.objs.size := fun e => by rw [e] at hq; rw [fr] at hq; cases hq
      -- behind the step
      have go : ∀ h', PySem.IsPair h' s.heap.objs.size u u2 → (∀ c o, c ∉ [z, TI, TO, i1, i2] → s.heap.get? c = some o → h'.get? c = some o) → (∀ h2, (∀ c o, c ≠ q → h'.get? c = some o → h2.get? c = some o) → ZSt a b z TI TO i1 i2 q (i + 1) h2) →
          (∀ c ∈ [z, TI, TO, i1, i2], c < s.heap.objs.size) → wpAny (model X.prog X.w) A1.in1 (updateSeq q (·.push (.ref s.heap.objs.size)) >>= fun _ => again (.builtin "list.extend.loop" ⟨[.ref q, .ref z, .none], []⟩))
            (fun fin s' => match fin with | .done f => Rs (.ok f) s' | .again c' => c'.quiet = true ∧ codeAny (model X.prog X.w) A1 c' Rs s') (fun e s' => Rs (.error e) s') { s with heap := h' } := by
        intro h' hT hk hz' hlt
        have new : ObjOk X.prog X.w (upd H s.heap.objs.size (.tup [x, y])) h' s.heap.objs.size (.tup [x, y]) := ⟨by show 2 ≤ sizeLine; decide, [u, u2], .cons ru (.cons ru2 .nil), ⟨_, hT, rfl, _, rfl⟩⟩
        have I1 : Inv X pins σ (upd H s.heap.objs.size (.tup [x, y])) { s with heap := h' } := I.turnedNew (t' := s.toks) (ch := [z, TI, TO, i1, i2]) (fun c o hb e => hk c o hb e) hf (Nat.le_refl _) new
        have hq' : upd H s.heap.objs.size (.tup [x, y]) q = some (.lst acc) := by rw [upd_ne hqs]; exact hq
        obtain ⟨zz, its3, k, r3, hl3, e⟩ := I1.lstM hq'
        refine wpAny_bind (wpAny_updateSeq e rfl (wpAny_pure ⟨plainId_quiet PySem.F.plain_extend_loop _, ?_⟩) (by rw [List.size_toArray]; omega) (by show (its3.toArray.push _).size ≤ sizeLine + 1; rw [Array.size_push, List.size_toArray]; omega))
        refine ih (i + 1) _ _ (by omega) (I1.lset (its' := its3 ++ [.ref s.heap.objs.size]) (t' := s.toks) hq' e (by simp) (show Vals (acc ++ [V.ref s.heap.objs.size]) (its3 ++ [Value.ref s.heap.objs.size]) from r3.append (.cons rfl .nil)) (by rw [List.length_append, List.length_singleton]; omega)) (hst s.heap.objs.size x y hx hy fr) (hz' _ fun c o hc e => (Heap.get?_update_other _ _ (Ne.symm hc)).trans e) fun c hc => ?_
        obtain ⟨f0, f1⟩ := hf c hc
        refine ⟨?_, f1⟩
        rw [upd_ne (fun (e : c = q) => hqc (by rw [← e]; exact hc)), upd_ne (Nat.ne_of_lt (hlt c hc))]
        exact f0
      simp only [List.mem_cons, List.not_mem_nil, or_false, not_or] at hqc
      obtain ⟨qz, qTI, qTO, qi1, qi2⟩ := hqc
      have lt1 : i1 < s.heap.objs.size := let ⟨_, e, _⟩ := h1; Heap.lt_size e
      have lt2 : i2 < s.heap.objs.size := let ⟨_, e, _⟩ := h2; Heap.lt_size e
      have ltTI : TI < s.heap.objs.size := Heap.lt_size hTI
      rcases hz with ⟨hz, x0, y0, hTO⟩ | ⟨T, f, oT, hz, hT, r1, r2, r3, r4, r5, r6⟩
      · have ltz : z < s.heap.objs.size := Heap.lt_size hz
        have ltTO : TO < s.heap.objs.size := Heap.lt_size hoo
        refine wpAny_bind (wpAny_pyNext_zip_item D hz hTI hTO h1 h2 p.isList p2.isList hu' hu2' fun h' a1 a2 a3 a4 a5 a6 hk => ?_)
        refine go h' a5 (fun c o hb e => by simp at hb; exact hk c o hb.1 hb.2.2.1 hb.2.2.2.1 hb.2.2.2.2 e) (fun h2 k2 => ?_) (fun c hc => by simp at hc; rcases hc with rfl | rfl | rfl | rfl | rfl <;> assumption)
        exact ⟨k2 _ _ (Ne.symm qTI) (hk _ _ D.TIz D.TITO D.TIi1 D.TIi2 hTI), a3.at fun o e => k2 _ o (Ne.symm qi1) e, a4.at fun o e => k2 _ o (Ne.symm qi2) e, ⟨_, k2 _ _ (Ne.symm qTO) a2⟩,
          .inr ⟨s.heap.objs.size, false, _, k2 _ _ (Ne.symm qz) a1, k2 _ _ (Ne.symm hqs) a5, Nat.ne_of_gt ltz, Nat.ne_of_gt ltTO, Nat.ne_of_gt lt1, Nat.ne_of_gt lt2, Nat.ne_of_gt ltTI, Ne.symm hqs⟩⟩
      · have ltz : z < s.heap.objs.size := Heap.lt_size hz
        refine wpAny_bind (wpAny_pyNext_zip_item_held D hz hT hTI h1 h2 p.isList p2.isList hu' hu2' fun h' a1 a3 a4 a5 a6 hk => ?_)
        have ltTO : TO < s.heap.objs.size := Heap.lt_size hoo
        refine go h' a5 (fun c o hb e => by simp at hb; exact hk c o hb.1 hb.2.2.2.1 hb.2.2.2.2 e) (fun h2 k2 => ?_) (fun c hc => by simp at hc; rcases hc with rfl | rfl | rfl | rfl | rfl <;> assumption)
        exact ⟨k2 _ _ (Ne.symm qTI) (hk _ _ D.TIz D.TIi1 D.TIi2 hTI), a3.at fun o e => k2 _ o (Ne.symm qi1) e, a4.at fun o e => k2 _ o (Ne.symm qi2) e, ⟨_, k2 _ _ (Ne.symm qTO) (hk _ _ D.TOz D.TOi1 D.TOi2 hoo)⟩,
          .inr ⟨T, true, oT, k2 _ _ (Ne.symm qz) a1, k2 _ _ r6 (hk _ _ r1 r3 r4 hT), r1, r2, r3, r4, r5, r6⟩⟩
theorem zl_extend (D : ZipApart z TI TO i1 i2 a b) (hd : A1.in1.handled = none) (hqc : q ∉ [z, TI, TO, i1, i2])
    (hs : ∀ i H, W i H → SqL X.K H a xs ∧ SqL X.K H b ys ∧ ∃ acc, H q = some (.lst acc) ∧ acc.length < sizeLine ∧ ∀ T x y, xs[i]? = some x → ys[i]? = some y → H T = none → W (i + 1) (upd (upd H T (.tup [x, y])) q (.lst (acc ++ [.ref T]))))
    (hdone : ∀ i H s, xs.length ≤ i ∨ ys.length ≤ i → W i H → Inv X pins σ H s → Rs (.ok (.ret .none)) s) {H : Hp} {s : Shared} (I : Inv X pins σ H s) (hW : W 0 H) (hq : H q = some (.lst [])) (hz : ∀ h2, (∀ c o, c ≠ q → s.heap.get? c = some o → h2.get? c = some o) → ZSt a b z TI TO i1 i2 q 0 h2) (hz0 : IsZip s.heap z TI TO .none)
    (hf : ∀ c ∈ [z, TI, TO, i1, i2], FpOk X pins H c) :
    wpAny (model X.prog X.w) A1.in1 (Builtin.List.listExtendWith (.ref q) (.ref z) .none)
      (fun fin s' => match fin with | .done f => Rs (.ok f) s' | .again c' => c'.quiet = true ∧ codeAny (model X.prog X.w) A1 c' Rs s') (fun e s' => Rs (.error e) s') s := by
  have hne : q ≠ z := fun e => hqc (by rw [e]; simp)
  have hT : s.TypeIs (.ref z) "zip" := ⟨_, hz0, rfl⟩
  unfold Builtin.List.listExtendWith
  refine wpAny_bind (wpAny_typeOf hT ?_)
  have h1 : Builtin.List.listSameRef (.ref q) (.ref z) = false := by simp [Builtin.List.listSameRef, hne]
  have h2 : (Value.type "zip" == Value.type "list") = false := by decide
  have h3 : (Value.type "zip" == Value.type "tuple") = false := by decide
  simp only [h1, h2, h3, Bool.or_false, Bool.false_eq_true, if_false]
  refine wpAny_bind (wpAny_pyIter_zip hz0 ?_)
  refine wpAny_bind (wpAny_holding ?_)
  unfold Builtin.List.listLengthHint
  refine wpAny_bind (wpAny_specialOf hT zip_no_len ?_)
  show wpAny _ A1.in1 (specialOf (Value.ref z) (Str.ofString "__length_hint__") >>= _) _ _ _
  refine wpAny_bind (wpAny_specialOf hT zip_no_hint ?_)
  refine wpAny_pure ?_
  show wpAny _ A1.in1 (rule "list.extend.makes-room" >>= fun _ => Builtin.List.listTouch (.ref q) >>= fun _ =>
    again (.builtin "list.extend.loop" ⟨[.ref q, .ref z, .none], []⟩)) _ _ _
  refine wpAny_bind (wpAny_rule ?_)
  refine wpAny_bind ?_
  obtain ⟨zz, its, k, r3, hl3, e3⟩ := I.lstM hq
  cases r3
  show wpAny _ _ (updateSeq q (·.push .none) >>= fun _ => updateSeq q (·.pop)) _ _ _
  refine wpAny_bind (wpAny_updateSeq e3 rfl ?_)
  have I2 := I.lset (f := (·.push Value.none)) (its' := [Value.none]) (ys := [.non]) (t' := s.toks) hq e3 (by simp) (.cons rfl .nil) (by rw [List.length_singleton, sizeLine_eq]; decide)
  obtain ⟨z4, its4, k4, r4, hl4, e4⟩ := I2.lstM upd_same
  obtain ⟨u4, rfl, ru4⟩ := r4.one
  refine wpAny_updateSeq e4 rfl ?_ (by show 1 ≤ sizeLine; rw [sizeLine_eq]; decide) (by show 0 ≤ sizeLine + 1; exact Nat.zero_le _)
  have I3 := I2.lset (f := (·.pop)) (its := [u4]) (its' := []) (ys := []) (t' := s.toks) upd_same e4 (by rfl) .nil (Nat.zero_le _)
  rw [upd_upd] at I3
  have hH : upd H q (.lst []) = H := by
    funext b
    by_cases hb : b = q
    · rw [hb, upd_same, hq]
    · rw [upd_ne hb]
  rw [hH] at I3
  refine wpAny_pure ⟨plainId_quiet PySem.F.plain_extend_loop _, zl_loop D hd hqc hs hdone _ 0 H _ (Nat.le_refl _) I3 hW (hz _ fun c o hc e => ?_) hf⟩
  exact (Heap.get?_update_other _ _ (Ne.symm hc)).trans ((Heap.get?_update_other _ _ (Ne.symm hc)).trans e)
end
/-- list(zip(e, e2)) of two lists -/
def tZipL (K : PySem.W.Frag) (ta : TA) : TE := fun σ H Q => ta σ H fun vs H1 => ∃ a b xs ys, vs = [.ref a, .ref b] ∧ SqL K H1 a xs ∧ SqL K H1 b ys ∧ ∀ q, H1 q = none → ∃ W : Nat → Hp → Prop, W 0 (upd H1 q (.lst [])) ∧
  (∀ i H, W i H → SqL K H a xs ∧ SqL K H b ys ∧ ∃ acc, H q = some (.lst acc) ∧ acc.length < sizeLine ∧ ∀ T x y, xs[i]? = some x → ys[i]? = some y → H T = none → W (i + 1) (upd (upd H T (.tup [x, y])) q (.lst (acc ++ [.ref T])))) ∧
  ∀ i H, xs.length ≤ i ∨ ys.length ≤ i → W i H → Q (.ref q) H
theorem pe_listZip {X : Cx} {e e2 : Expr} {ta : TA} {p p' pos pos' : Pos} (hc : X.calm = true) (hgl : Gl X "list") (hml : X.mg "list" = none) (hg : Gl X "zip") (hm : X.mg "zip" = none) (ha : PA X [e, e2] ta)
    (hs : starEach [e, e2] X.env = (false, eval e X.env) :: starEach [e2] X.env := by rfl) (hpl : (backTo pos' (starEach [e2] X.env)).any (·.1) = false := by rfl)
    (na : starEach [.Call (.Name "zip" p') [e, e2] [] pos'] X.env = (false, eval (.Call (.Name "zip" p') [e, e2] [] pos') X.env) :: starEach [] X.env := by rfl) :
    PE X (.Call (.Name "list" p) [.Call (.Name "zip" p') [e, e2] [] pos'] [] pos) (tZipL X.K ta) := by
  refine ⟨fun pins s σ H Q I h => ?_⟩
  refine Call_ (ld_blt I hgl hml PyProof.Rows.boot_list (PyProof.Rows.callWith_type1 (args_cons (Call_ (ld_blt I hg hm PyProof.Rows.boot_zip (PyProof.Rows.callWith_type1 (thn (ha.run pos' pins s σ H _ I h) fun us s1 ⟨vs, H1, I1, r1, q1⟩ => ?_) hs hpl))) na) na))
  obtain ⟨a, b, xs, ys, ex, hqx, hqy, hW⟩ := q1
  subst ex
  cases r1 with
  | cons r rr =>
    cases rr with
    | cons r' rr =>
      cases rr
      cases r
      cases r'
      obtain ⟨its, rv, p1, _⟩ := I1.list hqx
      obtain ⟨its2, rv2, p2, _⟩ := I1.list hqy
      refine call_zip_2 p1.isList p2.isList fun h' hz hTI hTO h1 h2 hsz hk => args_nil ?_
      have I2 : Inv X pins σ H1 { s1 with heap := h' } := I1.kept (t' := s1.toks) hk
      have D := PySem.W.ktu_apart s1.heap.objs.size a b p1.lt p2.lt
      generalize hn : s1.heap.objs.size = n at *
      have fresh : ∀ c, n ≤ c → H1 c = none := fun c hle => I1.hok.fresh (by rw [hn]; exact hle)
      refine callType_codes (Q₁ := fun obj s₁ => obj = .ref h'.objs.size ∧ s₁ = { s1 with heap := h'.push { cls := .type "list", data := .seq #[] } }) PySem.F.called_list (PySem.F.typeCall_list_1 _) PySem.F.entry_list_init
        (code_list_new _ ⟨rfl, rfl⟩) fun obj s₁ h₁ => ?_
      obtain ⟨rfl, rfl⟩ := h₁
      have hS : (h'.push { cls := .type "list", data := .seq #[] }).get? h'.objs.size = some { cls := .type "list", data := .seq #[] } := Heap.get?_push_size _ rfl
      refine ⟨⟨_, hS, rfl⟩, PySem.F.args_list_init_2 _ _, ?_⟩
      have fr : H1 h'.objs.size = none := fresh _ (by rw [hsz]; omega)
      obtain ⟨W, hW0, hWs, hWd⟩ := hW _ fr
      have I3 : Inv X pins σ (upd H1 h'.objs.size (.lst [])) { s1 with heap := h'.push { cls := .type "list", data := .seq #[] } } := I2.lnew (its := []) (t' := s1.toks) .nil (Nat.zero_le _)
      show wpAny _ _ (do let old ← Builtin.List.listItems (.ref h'.objs.size); Builtin.List.listUpdate (.ref h'.objs.size) (fun _ => #[]); letGo old.toList.reverse; Builtin.List.listExtendWith (.ref h'.objs.size) (.ref (n + 4)) .none) _ _ _
      refine wpAny_bind ?_
      unfold Builtin.List.listItems
      refine wpAny_bind (wpAny_seqItems hS rfl (wpAny_pure ?_))
      show wpAny _ _ (updateSeq h'.objs.size (fun _ => #[]) >>= fun _ => letGo (#[] : Array Value).toList.reverse >>= fun _ => Builtin.List.listExtendWith (.ref h'.objs.size) (.ref (n + 4)) .none) _ _ _
      refine wpAny_bind (wpAny_updateSeq hS rfl ?_)
      have I4 := I3.lset (f := fun _ => #[]) (its := []) (its' := []) (ys := []) (t' := s1.toks) upd_same hS rfl .nil (Nat.zero_le _)
      rw [upd_upd] at I4
      refine wpAny_bind (wpAny_letGo ?_)
      have kp : ∀ c o, c ≠ h'.objs.size → h'.get? c = some o → ((h'.push { cls := .type "list", data := .seq #[] }).update h'.objs.size (Obj.mapSeq fun _ => #[])).get? c = some o := fun c o hc e => (Heap.get?_update_other _ _ (Ne.symm hc)).trans (Heap.get?_push_of_some _ e)
      have cn : ∀ c ∈ [n + 4, n + 2, n + 3, n, n + 1], n ≤ c ∧ c < h'.objs.size := fun c hc => by
        simp at hc
        rw [hsz]
        omega
      have nq : ∀ c ∈ [n + 4, n + 2, n + 3, n, n + 1], c ≠ h'.objs.size := fun c hc => Nat.ne_of_lt (cn c hc).2
      refine zl_extend (A1 := X.A.in1) (Rs := wants (fun r s₂ => r = .none ∧ EP X pins σ Q (.ref h'.objs.size) s₂) X.xe) D (I.ok.hd hc) (fun hm => nq _ hm rfl) hWs (fun i H' s' hi hw J => ⟨rfl, .ref h'.objs.size, H', J, rfl, hWd i H' hi hw⟩) I4 hW0 upd_same (fun g2 k2 => ?_) (kp _ _ (nq _ (by simp)) hz) fun c hc => ?_
      · have k3 : ∀ c o, c ≠ h'.objs.size → h'.get? c = some o → g2.get? c = some o := fun c o hc e => k2 c o hc (kp c o hc e)
        exact ⟨k3 _ _ (nq _ (by simp)) hTI, h1.at fun o e => k3 _ o (nq _ (by simp)) e, h2.at fun o e => k3 _ o (nq _ (by simp)) e, ⟨_, k3 _ _ (nq _ (by simp)) hTO⟩, .inl ⟨k3 _ _ (nq _ (by simp)) hz, _, _, k3 _ _ (nq _ (by simp)) hTO⟩⟩
      · exact I1.fpOk (by rw [hn]; exact (cn c hc).1) (by rw [upd_ne (nq c hc)]; exact fresh c (cn c hc).1)
end ZipL
namespace Ev
open PySem PySem.Spec PyProof.Rows L2
variable [TabsC]
/-! ### list(zip(a, b)) -/
def zipL : List D → Option (List D)
  | [.lst xs, .lst ys] => if xs.length ≤ 100000 then some (zipD xs ys) else none
  | _ => none
def fZipL (fl : FL) : FO := fun r => (fl r).bnd fun ds r1 => obnd (zipL ds) fun es => .ok (.lst es, r1)
theorem zipD_take {xs ys : List D} {i : Nat} {x y : D} (hx : xs[i]? = some x) (hy : ys[i]? = some y) : (zipD xs ys).take (i + 1) = (zipD xs ys).take i ++ [.tup [x, y]] := by
  rw [List.take_add_one]
  congr 1
  unfold zipD
  rw [List.getElem?_map, (List.getElem?_zip_eq_some (z := (x, y))).mpr ⟨hx, hy⟩]
  rfl
theorem zipl_reads {X : Cx} {E : XK} {fl : FL} {s : Sg} {H : Hp} {Q : VK} (h : tO X.K X.mg E (fZipL fl) s H Q) : ZipL.tZipL X.K (tL X.K X.mg E fl) s H Q := by
  obtain ⟨B, F, O, r, R, q⟩ := h
  have q : Post X.K X.mg E B F O r s ((fl r).bnd fun ds r1 => obnd (zipL ds) fun es => .ok (C.lst es, r1)) (fun c r' _ O' H' => ∀ a, O' a = some c → B.H0 a = none → Free s r' a → (∀ c0, O a = some c0 → ¬ Free s r a) → Q (.ref a) H') := q
  refine ⟨B, F, O, r, R, ?_⟩
  cases m : fl r with
  | stuck => rw [m] at q; exact q
  | ex x => rw [m] at q; exact q
  | ok pr =>
    obtain ⟨ds, r1⟩ := pr
    rw [m] at q
    intro F1 O1 H1 R1 f1 k1 vs hv
    have q : Post X.K X.mg E B F O r s (obnd (zipL ds) fun es => .ok (C.lst es, r1)) (fun c r' _ O' H' => ∀ a, O' a = some c → B.H0 a = none → Free s r' a → (∀ c0, O a = some c0 → ¬ Free s r a) → Q (.ref a) H') := q
    cases mz : zipL ds with
    | none => rw [mz] at q; exact False.elim q
    | some es =>
      rw [mz] at q
      have q : ∀ F' O' H', Rel X.K B F' O' H' r1 s → Same F F' → Keep s r r1 O O' → ∀ a, O' a = some (.lst es) → B.H0 a = none → Free s r1 a → (∀ c0, O a = some c0 → ¬ Free s r a) → Q (.ref a) H' := q
      obtain ⟨dx, dy, rfl⟩ : ∃ dx dy : List D, ds = [.lst dx, .lst dy] := by
        unfold zipL at mz
        split at mz
        · exact ⟨_, _, rfl⟩
        · cases mz
      have mz : (if dx.length ≤ 100000 then some (zipD dx dy) else none) = some es := mz
      split at mz
      · rename_i hl
        cases mz
        obtain ⟨v1, vr, rfl, hv1, hvr⟩ := hv
        obtain ⟨v2, vr2, rfl, hv2, hvr2⟩ := hvr
        obtain rfl : vr2 = [] := hvr2
        obtain ⟨a, xs, rfl, ha1, ha2⟩ := hv1
        obtain ⟨b, ys, rfl, hb1, hb2⟩ := hv2
        refine ⟨a, b, xs, ys, rfl, R1.fh.seq ha1, R1.fh.seq hb1, fun A nA => ?_⟩
        obtain ⟨oA, h0A, frA, fA⟩ := R1.free_of nA
        obtain ⟨R2, k2⟩ := R1.born (o := .lst []) (c := .lst []) nA ⟨[], upd_same, rfl⟩
        have lx := ha2.length
        have ly := hb2.length
        refine ⟨fun i H' => ∃ F2 O2, Rel X.K B F2 O2 H' r1 s ∧ Same F1 F2 ∧ O2 A = some (.lst ((zipD dx dy).take i)) ∧ (∀ a c, a ≠ A → O1 a = some c → Free s r1 a → O2 a = some c), ⟨F1, _, R2, .refl _, by simp, fun a c ha e f => by simp only [if_neg ha]; exact e⟩, ?_, ?_⟩
        · rintro i H' ⟨F2, O2, R3, f2, oA2, kp⟩
          refine ⟨(f2.trans R3.fh).seq ha1, (f2.trans R3.fh).seq hb1, ?_⟩
          obtain ⟨_, ⟨zs, hzs, hr⟩, _⟩ := R3.ow A _ oA2
          refine ⟨zs, hzs, ?_, fun T x y hx hy nT => ?_⟩
          · rw [hr.length, List.length_take]
            have : (zipD dx dy).length ≤ dx.length := by unfold zipD; rw [List.length_map, List.length_zip]; omega
            rw [bigZ]; omega
          · have hix : i < dx.length := by
              have := (List.getElem?_eq_some_iff.mp hx).1
              omega
            have hiy : i < dy.length := by
              have := (List.getElem?_eq_some_iff.mp hy).1
              omega
            have ex := List.getElem?_eq_getElem hix
            have ey := List.getElem?_eq_getElem hiy
            obtain ⟨x', hx', rx⟩ := ha2.get ex
            obtain ⟨y', hy', ry⟩ := hb2.get ey
            rw [hx] at hx'; cases hx'
            rw [hy] at hy'; cases hy'
            obtain ⟨gr, rp⟩ := rep_pair R3.fh nT (rx.mono f2) (ry.mono f2)
            have R4 := R3.grow gr
            have hT : A ≠ T := fun e => by rw [e] at hzs; rw [nT] at hzs; cases hzs
            have hr4 := hr.mono gr.ff
            have R5 := R4.mutT (a := A) (o := .lst (zs ++ [.ref T])) (c' := .lst ((zipD dx dy).take i ++ [.tup [dx[i], dy[i]]])) oA2 frA ⟨_, upd_same, hr4.append (.cons rp .nil)⟩
            refine ⟨_, _, R5, f2.trans gr.ff, ?_, fun a c ha e f => ?_⟩
            · simp only [if_true]
              rw [zipD_take ex ey]
            · simp only [if_neg ha]; exact kp a c ha e f
        · rintro i H' hi ⟨F2, O2, R3, f2, oA2, kp⟩
          have e : (zipD dx dy).take i = zipD dx dy := by
            refine List.take_of_length_le ?_
            unfold zipD
            rw [List.length_map, List.length_zip]
            omega
          rw [e] at oA2
          refine q F2 O2 H' R3 (f1.trans f2) (fun a c e1 e2 => ?_) A oA2 h0A frA fun c0 e1 e2 => ?_
          · obtain ⟨g1, g2⟩ := k1 a c e1 e2
            have ha : a ≠ A := fun z => by subst z; rw [oA] at g1; cases g1
            exact ⟨kp a c ha g1 g2, g2⟩
          · obtain ⟨g1, g2⟩ := k1 A c0 e1 e2
            rw [oA] at g1; cases g1
      · cases mz
section
variable {X : Cx} {E : XK}
theorem eo_listZip {a b : Expr} {p p' pos pos' : Pos} {fl : FL} (hc : X.calm = true) (hml : X.mg "list" = none) (hm : X.mg "zip" = none) (ha : EvL X E [a, b] fl) (hgl : Gl X "list" := by rfl) (hg : Gl X "zip" := by rfl)
    (hs : starEach [a, b] X.env = (false, eval a X.env) :: starEach [b] X.env := by rfl) (hpl : (backTo pos' (starEach [b] X.env)).any (·.1) = false := by rfl)
    (na : starEach [.Call (.Name "zip" p') [a, b] [] pos'] X.env = (false, eval (.Call (.Name "zip" p') [a, b] [] pos') X.env) :: starEach [] X.env := by rfl) :
    EvO X E (.Call (.Name "list" p) [.Call (.Name "zip" p') [a, b] [] pos'] [] pos) (fZipL fl) := PE.imp (ZipL.pe_listZip hc hgl hml hg hm ha hs hpl na) fun s H Q h => zipl_reads h
end
@[simp ↓] theorem ap_fZipL (fl : FL) (r : Env) : fZipL fl r = bK (fl r) (fun ds r1 => oK (zipL ds) (fun es => .ok (.lst es, r1)) ⟨⟩) ⟨⟩ := (rfl)
theorem zipL_ll {xs ys : List D} (h : xs.length ≤ 100000) : zipL [.lst xs, .lst ys] = some (zipD xs ys) := if_pos h
theorem hu65_of {k : Nat} {A : Around} (r : Room k A) : A.units + 65 < cLine := by have := r.un; omega
end Ev

/-! E26: count and index of lists of flags; isinstance of a caught error. -/
namespace Ev
open PySem PySem.Spec PyProof.Rows L2
variable [TabsC]
theorem upd_self {H : Hp} {a : Addr} {o : HO} (h : H a = some o) : upd H a o = H := by
  funext b
  by_cases hb : b = a
  · subst hb; rw [upd_same, h]
  · rw [upd_ne hb]
def blsOf : List D → Option (List Bool)
  | [] => some []
  | .bl b :: ds => (blsOf ds).map (b :: ·)
  | _ :: _ => none
theorem blsOf_map : ∀ bs : List Bool, blsOf (bs.map .bl) = some bs
  | [] => rfl
  | b :: bs => by rw [List.map_cons, blsOf, blsOf_map bs]; rfl
theorem blsOf_eq : ∀ {ds : List D} {bs : List Bool}, blsOf ds = some bs → ds = bs.map .bl
  | [], _, h => by cases h; rfl
  | d :: ds, bs, h => by
    cases d with
    | bl b =>
      have h : (blsOf ds).map (b :: ·) = some bs := h
      cases q : blsOf ds with
      | none => rw [q] at h; cases h
      | some cs => rw [q] at h; cases h; rw [blsOf_eq q]; rfl
    | _ => cases h
def gCountB : GM
  | .lst ds, [.bl b] => (blsOf ds).map fun bs => (.int ((bs.count b : Nat) : Int), .lst ds)
  | _, _ => none
def gIndexB : GM
  | .lst ds, [.bl b] => match blsOf ds with
    | some bs => if b ∈ bs then some (.int ((bs.idxOf b : Nat) : Int), .lst ds) else none
    | none => none
  | _, _ => none
theorem flat_bls (bs : List Bool) : (bs.map V.bl).all flatV = true := by
  rw [List.all_eq_true]
  intro x hx
  obtain ⟨b, _, rfl⟩ := List.mem_map.mp hx
  rfl
section
variable {X : Cx}
theorem mut_count : MutR X "list.count" gCountB := fun pins s σ H x xs v us Q I rx rv ⟨F, a, c, ds, z, c', e1, f1, hc, hr, e, q⟩ => by
  cases c with
  | dct _ => cases e
  | lst es =>
    match ds, hr, e with
    | [], _, e => cases e
    | _ :: _ :: _, _, e => revert e; rename_i d _ _ _; cases d <;> (intro e; cases e)
    | [d], hr, e =>
      cases d with
      | bl b =>
        have e : (blsOf es).map (fun bs => (D.int ((bs.count b : Nat) : Int), C.lst es)) = some (z, c') := e
        cases m : blsOf es with
        | none => rw [m] at e; cases e
        | some bs =>
          rw [m] at e; cases e
          obtain ⟨y, r, e2, hy, e3⟩ := hr
          rw [show r = [] from e3, show y = V.bl b from hy] at e2
          subst e1; subst e2
          obtain ⟨ys, h1, h2⟩ := hc
          rw [blsOf_eq m] at h2
          have hys := h2.bls
          cases rx
          obtain ⟨u, rfl, ru⟩ := rv.one
          obtain ⟨its, rvs, ⟨⟨cls, dd, data, sl⟩, n, ho, hcl, hdn, hd⟩, hlen⟩ := I.list (.inl (.inl h1))
          simp only at hcl hd
          subst hcl hd
          refine call_meets PySem.F.slot_list_count ⟨_, ho, rfl⟩ PySem.F.entry_list_count (PySem.F.args_list_count_2 _ _)
            (SeqAt.list_countAt a its.toArray n dd sl u (eqU (.bl b))) ⟨ho, fun y hy => mem_eqAt ru rfl rvs (by rw [hys]; exact flat_bls bs) y (by simpa using hy), ?_⟩
          have ec : ∀ {bs : List Bool} {us : List Value}, Vals (bs.map V.bl) us → us.countP (eqU (.bl b)) = bs.count b := by
            intro bs
            induction bs with
            | nil => intro us r; cases r; rfl
            | cons x bs ih =>
              intro us r
              cases r with
              | cons r1 rt =>
                rw [List.countP_cons, ih rt, eqU_of r1 rfl, List.count_cons]
                rfl
          rw [hys] at rvs
          refine ⟨.int (bs.count b : Nat), H, I.tok _, ⟨s.toks, ?_⟩, ?_⟩
          · show Value.int ((its.toArray.toList.countP (eqU (.bl b)) : Nat) : Int) s.toks = Value.int ((bs.count b : Nat) : Int) s.toks
            rw [show its.toArray.toList = its by simp, ec rvs]
          · have := q (.int ((bs.count b : Nat) : Int)) (.lst ys) rfl ⟨ys, upd_same, by rw [blsOf_eq m]; exact h2⟩
            rw [upd_self h1] at this
            exact this
      | _ => cases e
theorem mut_index : MutR X "list.index" gIndexB := fun pins s σ H x xs v us Q I rx rv ⟨F, a, c, ds, z, c', e1, f1, hc, hr, e, q⟩ => by
  cases c with
  | dct _ => cases e
  | lst es =>
    match ds, hr, e with
    | [], _, e => cases e
    | _ :: _ :: _, _, e => revert e; rename_i d _ _ _; cases d <;> (intro e; cases e)
    | [d], hr, e =>
      cases d with
      | bl b =>
        have e : (match blsOf es with
          | some bs => if b ∈ bs then some (D.int ((bs.idxOf b : Nat) : Int), C.lst es) else none
          | none => none) = some (z, c') := e
        cases m : blsOf es with
        | none => rw [m] at e; cases e
        | some bs =>
          rw [m] at e
          simp only at e
          split at e
          · rename_i hb
            cases e
            obtain ⟨y, r, e2, hy, e3⟩ := hr
            rw [show r = [] from e3, show y = V.bl b from hy] at e2
            obtain ⟨ys, h1, h2⟩ := hc
            rw [blsOf_eq m] at h2
            have hys := h2.bls
            have hl := List.idxOf_lt_length_of_mem hb
            refine mt_index pins s σ H x xs v us Q I rx rv ⟨a, ys, .bl b, bs.idxOf b, .bl b, e1, e2, .inl (.inl h1), rfl, by rw [hys]; exact flat_bls bs, ?_, by show (b == b) = true; simp, fun n z' hn hz => ?_, ?_⟩
            · rw [hys, List.getElem?_map, List.getElem?_eq_getElem hl, List.getElem_idxOf]; rfl
            · rw [hys, List.getElem?_map] at hz
              have hn2 : n < bs.length := by omega
              rw [List.getElem?_eq_getElem hn2] at hz
              cases hz
              have := List.not_of_lt_findIdx (p := (· == b)) (xs := bs) (i := n) hn
              simpa [eqV] using this
            · have := q (.int ((bs.idxOf b : Nat) : Int)) (.lst ys) rfl ⟨ys, upd_same, by rw [blsOf_eq m]; exact h2⟩
              rw [upd_self h1] at this
              exact this
          · cases e
      | _ => cases e
end
/-! ### isinstance of the error that a suite holds -/
def fIsE (i : Nat) (a : Addr) (b : Bool) : FE := fun r => match r[i]? with
  | some (.rf a') => if a' = a then .ok (.bl b, r) else .stuck
  | _ => .stuck
section
variable {X : Cx} {E : XK} {i : Nat} {a Dc : Addr} {oe : Obj} {pn : List (Addr × Obj)} {x y : Str} {p p1 p2 pos : Pos} {b : Bool}
theorem isE_reads {s : Sg} {H : Hp} {Q : VK} {c : V} {cv : Value} (hcv : ∀ u, RelV c u → u = cv) (hk : PySem.W.kitOne X.K (.ref Dc) cv = some b) (h : tE X.K X.mg E (fIsE i a b) s H Q) :
    s[i]? = some (some (.ref a)) ∧ rIsE X.K Dc a [.ref a, c] H Q := by
  obtain ⟨B, F, O, r, R, q⟩ := h
  unfold fIsE at q
  cases m : r[i]? with
  | none => rw [m] at q; exact False.elim q
  | some sl =>
    rw [m] at q
    cases sl with
    | rf a' =>
      have q : Post X.K X.mg E B F O r s (if a' = a then .ok (.bl b, r) else .stuck) (fun d _ F' _ H' => ∀ v, Rep X.K F' d v → Q v H') := q
      by_cases ha : a' = a
      · subst ha
        rw [if_pos rfl] at q
        exact ⟨R.rf i a' m, c, cv, b, rfl, hcv, hk, Post.ok (k := fun d _ F' _ H' => ∀ v, Rep X.K F' d v → Q v H') q R (.refl _) .refl _ rfl⟩
      · rw [if_neg ha] at q; exact False.elim q
    | _ => exact False.elim q
theorem ev_isE {C : Addr} (C0 : ExcC X.K Dc) (hz : Zc (.ref Dc) none oe) (hf : ∃ vs, oe.data = .fields vs) (hm : X.mg "isinstance" = none) (hN : X.N[i]? = some x) (hv : Vis X.env.scope x) (hc : X.mg y = some (.ref C)) (hk : PySem.W.kitOne X.K (.ref Dc) (.ref C) = some b)
    (hgy : Gl X y := by rfl) (hg : Gl X "isinstance" := by rfl) (hd : (x == ("__debug__" : Str)) = false := by decide) (hcd : (x == ("__classdict__" : Str)) = false := by decide) (hdy : (y == ("__debug__" : Str)) = false := by decide) :
    EvE (X.suite a ((a, oe) :: pn)) E (.Call (.Name "isinstance" p) [.Name x p1, .Name y p2] [] pos) (fIsE i a b) :=
  PE.imp (pe_callB (X := X.suite a ((a, oe) :: pn)) (call_isE C0 hz hf) hg hm (by decide +kernel) (pa_cons (pe_var hN hv hd hcd) (pa_cons (pe_glob (v := .ref C) (u := .ref C) hgy hc rfl hdy) pa_nil))) fun s H Q h => by
    obtain ⟨h1, h2⟩ := isE_reads (X := X) (c := .ref C) (cv := .ref C) (fun u r => r) hk h
    exact ⟨_, h1, h2⟩
theorem ev_isET {T : String} (C0 : ExcC X.K Dc) (hz : Zc (.ref Dc) none oe) (hf : ∃ vs, oe.data = .fields vs) (hm : X.mg "isinstance" = none) (hN : X.N[i]? = some x) (hv : Vis X.env.scope x) (hc : X.mg y = none) (hb : bootBuiltins y = some (.type T)) (hk : PySem.W.kitOne X.K (.ref Dc) (.type T) = some b)
    (hgy : Gl X y := by rfl) (hg : Gl X "isinstance" := by rfl) (hd : (x == ("__debug__" : Str)) = false := by decide) (hcd : (x == ("__classdict__" : Str)) = false := by decide) (hdy : (y == ("__debug__" : Str)) = false := by decide) (hny : y ≠ "__name__" := by decide) :
    EvE (X.suite a ((a, oe) :: pn)) E (.Call (.Name "isinstance" p) [.Name x p1, .Name y p2] [] pos) (fIsE i a b) :=
  PE.imp (pe_callB (X := X.suite a ((a, oe) :: pn)) (call_isE C0 hz hf) hg hm (by decide +kernel) (pa_cons (pe_var hN hv hd hcd) (pa_cons (pe_bltn (v := .ty T) (u := .type T) hgy hc hb rfl hny hdy) pa_nil))) fun s H Q h => by
    obtain ⟨h1, h2⟩ := isE_reads (X := X) (c := .ty T) (cv := .type T) (fun u r => r) hk h
    exact ⟨_, h1, h2⟩
end
end Ev

set_option maxHeartbeats 2000000
/-! E27: a lambda without parameters handed to a def. -/
namespace LamE
open PySem PySem.Spec PyProof.Rows L2 LamX
section
variable {X : Cx} {pins : List (Addr × Obj)} {σ : L2.St} {H HZ : Hp} {s s1 : Shared}
/-- all stays but the table at P -/
structure OneTab (P : Addr) (H H' : Hp) : Prop where
  k : ∀ b o, H b = some o → b ≠ P → H' b = some o
  n : ∀ b, H' b = none → H b = none
/-- the lambda is made; but for its table nothing changes -/
theorem lam_made {T : List (Addr × Str)} {c P : Addr} {params : Arguments} {body : Expr} {scope : Scope} {pos : Pos} {E : Value → Shared → Prop} {Q : Value → Shared → Prop} (I : Inv X pins σ H s) (TB : TabB X.base X.mg c P) (hcode : X.env.code = .ref c)
    (hm : (P, X.env.qual ++ "<lambda>") ∈ T) (hu : ∀ p ∈ T, p.1 = P → p.2 = X.env.qual ++ "<lambda>") (hT : Tabs T H) (hdef : defaultsOf params X.env = ([], [])) (hfree : ∀ y ∈ scope.names, y.2 = .free → ∃ c, X.env.cells.lookup y.1 = some c)
    (h : ∀ (f c' : Addr) (pm ctv : Value) (H1 : Hp) (s' : Shared), Inv X pins σ H1 s' → OneTab P H H1 → Tabs T H1 →
      s'.heap.get? f = some (PySem.W.kla_obj "<lambda>" (X.env.qual ++ "<lambda>") params body scope (cloFrom X.env.cells scope.names []) pm c' ctv) → H1 f = none → f ∉ frs X.stack → H1 c' = some (CodeO c' (X.env.qual ++ "<lambda>")) → s.heap.objs.size ≤ f → Q (.ref f) s') :
    wpAny (model X.prog X.w) X.A (eval (.Lambda params body scope pos) X.env) Q E s := by
  have ⟨ps, hP, ht, ha⟩ := hT _ hm
  have bP := TB.bm.keeps I.bk
  have hP' := I.hok P _ hP
  have old : ∀ f, s.heap.objs.size ≤ f → f ∉ frs X.stack := fun f hf z => (List.mem_cons.mp (I.stkSub _ z)).elim (fun e => by have := I.lt; rw [← e] at this; exact Nat.not_lt_of_le hf this) (I.nofs hf)
  refine PySem.W.kla_eval hdef ?_
  cases hc : codeAmong pos ps.toList with
  | some cv =>
    obtain ⟨c', rfl, hco⟩ := ha pos cv hc
    refine PySem.W.kla_makeFunctionHit (mg := X.mg) (c := c) (P := P) (ps := ps) (closure_ok hfree) I.ok.glob (I.mod.glob.keeps I.bk) hcode (TB.code.keeps I.bk) hP' ht hc bP fun ctv h' tk hx hsz => ?_
    exact h h'.objs.size c' _ ctv H _ (I.kept (t' := tk) fun b o e => Heap.get?_push_of_some _ (hx b o e)) ⟨fun _ _ e _ => e, fun _ e => e⟩ hT (Heap.get?_push_size _ rfl) (I.hok.fresh hsz) (old _ hsz) hco hsz
  | none =>
    refine PySem.W.kla_makeFunction (mg := X.mg) (c := c) (P := P) (ps := ps) (closure_ok hfree) I.ok.glob (I.mod.glob.keeps I.bk) hcode (TB.code.keeps I.bk) hP' ht hc TB.gP bP fun c' ctv h' tk hx hge hlt hrec htb => ?_
    obtain ⟨_, oc, vs, t, e2, hoc, hd, hv⟩ := hrec
    cases e2
    have hsz : s.heap.objs.size ≤ h'.objs.size := by omega
    have nC : H c' = none := I.hok.fresh hge
    have nPc : P ≠ c' := ne_of_none hP nC
    let ps' := ps ++ #[rawInt pos.line, rawInt pos.col, .ref c']
    let H1 := upd (upd H P (.tbl ps')) c' (CodeO c' (X.env.qual ++ "<lambda>"))
    have one : OneTab P H H1 := by
      refine ⟨fun b o e n => ?_, fun b e => ?_⟩
      · show upd (upd H P (.tbl ps')) c' _ b = _
        rw [upd_ne (ne_of_none e nC), upd_ne n, e]
      · have e : upd (upd H P (.tbl ps')) c' (CodeO c' (X.env.qual ++ "<lambda>")) b = none := e
        by_cases h1 : b = c'
        · rw [h1, upd_same] at e; cases e
        · rw [upd_ne h1] at e
          by_cases h2 : b = P
          · rw [h2, upd_same] at e; cases e
          · rw [upd_ne h2] at e; exact e
    have at_c : H1 c' = some (CodeO c' (X.env.qual ++ "<lambda>")) := upd_same
    have at_P : H1 P = some (.tbl ps') := by show upd _ c' _ P = _; rw [upd_ne nPc, upd_same]
    have notP : ∀ {b q}, H b = some (CodeO b q) → b ≠ P := fun {b q} e z => by rw [z, hP] at e; cases e
    have J := inv_table (t' := tk) (more := #[rawInt pos.line, rawInt pos.col, .ref c']) (h' := h'.push (PySem.W.kla_obj "<lambda>" (X.env.qual ++ "<lambda>") params body scope (cloFrom X.env.cells scope.names []) ((X.mg "__name__").getD .none) c' ctv)) (q := X.env.qual ++ "<lambda>") I hP
      (fun b o hb e => Heap.get?_push_of_some _ (hx b o hb e)) (Heap.get?_push_of_some _ htb) hge ⟨oc, vs, t, Heap.get?_push_of_some _ hoc, hd, hv⟩
    have eL : ps'.toList = ps.toList ++ [rawInt pos.line, rawInt pos.col, .ref c'] := by simp [ps']
    refine h h'.objs.size c' _ ctv H1 _ J one (fun p hp => ?_) (Heap.get?_push_size _ rfl) ?_ (old _ hsz) at_c hsz
    · by_cases hb : p.1 = P
      · rw [hu p hp hb, hb]
        refine ⟨ps', at_P, by rw [eL]; exact PySem.TriplesOk_snoc _ _ _ _ ht, fun p' cv q => ?_⟩
        rw [eL] at q
        rcases among_app _ ht q with z | z
        · obtain ⟨c0, e1, e2⟩ := ha p' cv z
          exact ⟨c0, e1, one.k _ _ e2 (notP e2)⟩
        · exact ⟨c', z, at_c⟩
      · obtain ⟨us, a1, a2, a3⟩ := hT p hp
        refine ⟨us, one.k _ _ a1 hb, a2, fun p' cv q => ?_⟩
        obtain ⟨c0, e1, e2⟩ := a3 p' cv q
        exact ⟨c0, e1, one.k _ _ e2 (notP e2)⟩
    · have n1 : h'.objs.size ≠ c' := Nat.ne_of_gt hlt
      have n2 : h'.objs.size ≠ P := Nat.ne_of_gt (Nat.lt_of_lt_of_le (Heap.lt_size hP') hsz)
      show upd (upd H P (.tbl ps')) c' _ _ = none
      rw [upd_ne n1, upd_ne n2]
      exact I.hok.fresh hsz
end
end LamE

set_option maxHeartbeats 2000000
/-! E28: the lambda is called by the def that got it; x(lambda: body). -/
namespace LamE
open PySem PySem.Spec PyProof.Rows L2 LamX
section
variable {X : Cx} {pins : List (Addr × Obj)} {σ : L2.St} {H : Hp} {s : Shared}
/-- the context of the def that got the lambda -/
abbrev getCx (X : Cx) (s : Shared) (H : Hp) (Ng : List Str) (qg : Str) (sg : Scope) (g : Addr) (cdg : Value) : Cx := cxOf C8.CX0 X.prog X.w X.K X.mg X.base Ng qg sg g cdg X.A X.stack s H C8.E0
theorem pe_acts {Ng : List Str} {qg : Str} {sg : Scope} {g f c' : Addr} {cdg pm ctv : Value} {params : Arguments} {body : Expr} {scope : Scope} {k i : Nat} {a : Str} {pn : List (Addr × Obj)} {xe : Value → Shared → Prop} {W : WX} {tb : XK → TE} {p1 p2 : Pos}
    (I : Inv X pins σ H s) (gd : X.A.guards = some []) (L : LamS X.env.scope scope) (hf : s.heap.get? f = some (PySem.W.kla_obj "<lambda>" (X.env.qual ++ "<lambda>") params body scope (cloFrom X.env.cells scope.names []) pm c' ctv)) (hfn : H f = none) (hfr : f ∉ frs X.stack)
    (hbind : bindArgs (PySem.W.kla_fn "<lambda>" (X.env.qual ++ "<lambda>") params body scope (cloFrom X.env.cells scope.names []) pm (.ref c') ctv) ⟨[], []⟩ = pure [])
    (tk : Takes ((getCx X s H Ng qg sg g cdg).tr pn xe) W) (hr : Room (k + 1) (X.A.deeper (envOfC qg sg s.heap.objs.size g cdg)))
    (hbody : ∀ (A : Around) (outer : List Env) (s : Shared) (H : Hp) (E : XK), Room k (A.deeper (lamEnv X scope s.heap.objs.size f c')) → A.guards = some [] → PE (lamCx X A outer s H E scope f c') body (tb E))
    (hN : Ng[i]? = some a) (hv : Vis sg a) (hd : (a == ("__debug__" : Str)) = false) (hcd : (a == ("__classdict__" : Str)) = false) :
    PE ((getCx X s H Ng qg sg g cdg).tr pn xe) (.Call (.Name a p1) [] [] p2) (fun σZ HZ Q => ∃ E : XK, (∀ cls d H', E cls d H' → W cls d σZ H') ∧ σZ[i]? = some (some (.ref f)) ∧ HZ c' = some (CodeO c' (X.env.qual ++ "<lambda>")) ∧ tb E σ HZ Q) := ⟨fun pinsZ sZ σZ HZ Q IZ ⟨E, hW, hs, hc, ht⟩ => by
  have var := (pe_var (X := (getCx X s H Ng qg sg g cdg).tr pn xe) (pos := p1) (i := i) hN hv hd hcd).run pinsZ sZ σZ HZ (fun v H1 => v = .ref f ∧ H1 = HZ) IZ ⟨.ref f, hs, rfl, rfl⟩
  refine wpAny_Call_Name_kw (thn var fun u s1 ⟨v, H1, I1, r1, q1, q2⟩ => ?_)
  subst q1; subst q2
  obtain rfl : u = Value.ref f := r1
  -- the lambda's object is still there
  have of1 := I1.base.keep f _ hf hfn hfr (fun z => nomatch (show f ∈ ([] : List Addr) from z))
  have un : Un (frs X.stack) [] H H1 s.heap s1.heap := I1.base
  obtain ⟨⟨oc, vs, t, hoc, hdc, hvc⟩, _, _⟩ := I1.hok c' _ hc
  refine PySem.W.callWith_F0 ⟨_, _, _, _, of1⟩ (wpAny_call (codeAny_mono (R := CR (L2.CX X.prog X.w) (envOfC qg sg s.heap.objs.size g cdg :: X.stack) X.prog X.w H1 s1 Q E) ?_ fun r s' hq => ?_))
  · refine PySem.W.kla_callFunE hr.depth of1 rfl L.co L.gen rfl ⟨c', oc, vs, t, rfl, hoc, hdc, hvc⟩ ?_
    show wpAny _ _ (bindArgs (PySem.W.kla_fn "<lambda>" (X.env.qual ++ "<lambda>") params body scope (cloFrom X.env.cells scope.names []) pm (.ref c') ctv) ⟨[], []⟩) _ _ _
    rw [hbind]
    refine wpAny_pure (wpAny_newFunctionEnv (fun y hy => (L.own y hy).2) (fun y hy => absurd hy (by simp)) (fun h₁ hns hsb => ⟨I1.nolimit.fresh _ hsb, ?_⟩) L.kind)
    have J : Inv (lamCx X (X.A.deeper (envOfC qg sg s.heap.objs.size g cdg)) (envOfC qg sg s.heap.objs.size g cdg :: X.stack) s1 H1 E scope f c') [] σ H1 { s1 with heap := h₁, toks := s1.toks + ([] : List (Str × Value)).length } :=
      lam_start2 I L I1.env0 hr.hd un hns fun b o e => hsb.extBut b o (Nat.ne_of_lt (Heap.lt_size e)) (Heap.get?_push_of_some _ e)
    refine PySem.W.kla_codeExpr (wpAny_mono ((hbody (X.A.deeper (envOfC qg sg s.heap.objs.size g cdg)) _ s1 H1 E (hr.deeper _) gd).run [] _ _ H1 Q J ht) (fun v s' ⟨w', H', J', rv, q⟩ => ⟨w', H', J'.os, J'.bare, J'.base, J'.hok, rv, q⟩) fun e s' hq => hq)
  · match r, hq with
    | .error e, hq => exact tk e s' (XE.of_call I1 hW hq)
    | .ok (.ret u), hq => exact I1.after hq⟩
/-- what x, given the lambda, makes of its reading tl -/
def Given (X : Cx) (Ng : List Str) (x : Str) (sg : Scope) (g : Addr) (cdg : Value) (bg : List Stmt) (a q : Str) (TT : (XK → Hp → VK → Prop) → Hp → VK → Prop) : Prop :=
  ∀ (f c' : Addr) (s : Shared) (H : Hp) (Q : VK) (tl : XK → Hp → VK → Prop), Room 1 (getCx X s H Ng x sg g cdg).A →
    (∀ (W : WX) (pn : List (Addr × Obj)) (xe : Value → Shared → Prop) (p1 p2 : Pos), Takes ((getCx X s H Ng x sg g cdg).tr pn xe) W →
      PE ((getCx X s H Ng x sg g cdg).tr pn xe) (.Call (.Name a p1) [] [] p2) (fun σZ HZ Q => ∃ E : XK, (∀ cls d H', E cls d H' → W cls d σZ H') ∧ σZ[0]? = some (some (.ref f)) ∧ HZ c' = some (CodeO c' q) ∧ tl E HZ Q)) →
    H c' = some (CodeO c' q) → TT tl H Q → ∃ t, PSs (getCx X s H Ng x sg g cdg).nox bg t ∧ t { nx := fun _ H' => Q .non H', rt := Q } (L2.start Ng [.ref f]) H
def tLamE (T : List (Addr × Str)) (P : Addr) (TT : (XK → Hp → VK → Prop) → Hp → VK → Prop) (t : XK → TE) : TE := fun σ H Q => Tabs T H ∧ ∀ H1, OneTab P H H1 → Tabs T H1 → TT (fun E H' Q' => t E σ H' Q') H1 Q
theorem pe_lam {T : List (Addr × Str)} {TT : (XK → Hp → VK → Prop) → Hp → VK → Prop} {x a : Str} {g c P : Addr} {k : Nat} {pg : Arguments} {bg : List Stmt} {sg : Scope} {dV kV doc pm cdv ct oc : Value} {an od : Option Addr} {osl : Array (Option Value)} {Ng : List Str}
    {params : Arguments} {body : Expr} {scope : Scope} {t : XK → TE} {p lpos pos : Pos} (hg : Gl X x) (hm : X.mg x = some (.ref g)) (gd : X.A.guards = some []) (hk : PySem.W.keepIn X.K (.ref g) = true)
    (lk : X.K.lookup g = some ⟨oc, od, .func (PySem.W.fnOf x x pg bg sg dV kV doc pm an cdv ct), osl⟩) (hcg : PySem.W.codeIn X.K cdv x = true) (hb : L2.Binds X.K (PySem.W.fnOf x x pg bg sg dV kV doc pm an cdv ct) [a] []) (Sg : FnScope Ng [a] sg) (hNg : Ng[0]? = some a) (hva : Vis sg a)
    (hG : Given X Ng x sg g cdv bg a (X.env.qual ++ "<lambda>") TT)
    (TB : TabB X.base X.mg c P) (hcode : X.env.code = .ref c) (hmT : (P, X.env.qual ++ "<lambda>") ∈ T) (hu : ∀ p ∈ T, p.1 = P → p.2 = X.env.qual ++ "<lambda>") (hr : Room (k + 2) X.A) (L : LamS X.env.scope scope) (hdef : defaultsOf params X.env = ([], []))
    (hbind : ∀ (q : Str) (cl : List (Str × Addr)) (pm cv ctv : Value), bindArgs (PySem.W.kla_fn "<lambda>" q params body scope cl pm cv ctv) ⟨[], []⟩ = pure [])
    (hbody : ∀ (A : Around) (outer : List Env) (s : Shared) (H : Hp) (E : XK) (f c' : Addr), Room k (A.deeper (lamEnv X scope s.heap.objs.size f c')) → A.guards = some [] → PE (lamCx X A outer s H E scope f c') body (t E))
    (hdb : (x == ("__debug__" : Str)) = false) (hd : (a == ("__debug__" : Str)) = false) (hcd : (a == ("__classdict__" : Str)) = false) :
    PE X (.Call (.Name x p) [.Lambda params body scope lpos] [] pos) (tLamE T P TT t) := ⟨fun pins s σ H Q I ⟨hT, h⟩ => by
  refine wpAny_Call_Name_kw (ld_glob I hg hm (PySem.W.callWith_K (h₀ := X.base) I.ok.mod.kin hk ?_ (by rfl) (by rfl)) hdb)
  show wpAny _ _ (spliced ((false, eval (.Lambda params body scope lpos) X.env) :: backTo pos (starEach [] X.env))) _ _ s
  refine Calls.spliced_cons (lam_made I TB hcode hmT hu hT hdef (L.has I.ok) fun f c' pm' ctv H1 s' I1 one T1 hf hfn hfr hco _ => Calls.spliced_nil ⟨I1.kIn, ?_⟩)
  refine wpAny_call (codeAny_mono (R := CR C8.CX0 X.stack X.prog X.w H1 s' Q C8.E0) ?_ fun r s2 hq => ?_)
  · refine run_ofS (N := Ng) (ps := [a]) (us := [.ref f]) (vs := [.ref f]) lk hcg Sg hr I1.env0 (hb s' [.ref f] I1.kIn rfl) (.cons rfl .nil) rfl fun hr' => ?_
    obtain ⟨t', ht', hq'⟩ := hG f c' s' H1 Q (fun E H' Q' => t E σ H' Q') (hr'.mono (Nat.le_add_left 1 k)) (fun W pn xe p1 p2 tk => pe_acts (i := 0) (tb := t) I1 gd L hf hfn hfr (hbind _ _ _ _ _) tk hr' (fun A outer s H E hr2 gd2 => hbody A outer s H E f c' hr2 gd2) hNg hva hd hcd) hco (h H1 one T1)
    exact ⟨t', ht'.nox, hq'⟩
  · match r, hq with
    | .error e, hq => exact (show False from hq).elim
    | .ok (.ret u), hq => exact I1.after hq⟩
end
end LamE

/-! E29: what a lambda came to, told by a def that catches. -/
namespace Ev
open PySem PySem.Spec PyProof.Rows L2 LamX LamE
variable [TabsC]
/-! ### own objects become shared -/
def frz : List Nat → Env → Env
  | [], r => r
  | i :: is, r => frz is (match r[i]? with
    | some (.own false c) => r.set i (.val c.d)
    | _ => r)
section
variable {K : PySem.W.Frag} {mg : Str → Option Value} {B : Base} {F F' H H' : Hp} {O : Addr → Option C} {r : Env} {s : Sg}
theorem Rel.frz1 (R : Rel K B F O H r s) {i : Nat} {c : C} (m : r[i]? = some (.own false c)) : ∃ F2 O2, Same F F2 ∧ Rel K B F2 O2 H (r.set i (.val c.d)) s ∧ Keep s r (r.set i (.val c.d)) O O2 := by
  obtain ⟨a, h1, h2, h3, _⟩ := R.on i false c m
  have R1 := R.unslot i
  have fr : Free s (r.set i .un) a := fun j p d w z => by
    obtain ⟨hj, w'⟩ := un_back w
    exact hj (R.inj j i p false d c a w' m z h1)
  obtain ⟨F2, g1, g2, g3⟩ := R1.freeze h2 (h3 rfl) fr
  have R2 := g3.setv h1 g2
  rw [List.set_set] at R2
  refine ⟨F2, _, g1, R2, fun b e w f => ?_⟩
  have hb : b ≠ a := fun z => f i false c m (by rw [z]; exact h1)
  refine ⟨by simp only [if_neg hb]; exact w, fun j p d w' => ?_⟩
  by_cases hj : i = j
  · subst hj
    have hi : i < r.length := (List.getElem?_eq_some_iff.mp m).1
    rw [List.getElem?_set_self hi] at w'; cases w'
  · rw [List.getElem?_set_ne hj] at w'
    exact f j p d w'
theorem Rel.frzs : ∀ {is : List Nat} {F : Hp} {O : Addr → Option C} {r : Env}, Rel K B F O H r s → ∃ F2 O2, Same F F2 ∧ Rel K B F2 O2 H (frz is r) s ∧ Keep s r (frz is r) O O2
  | [], F, O, r, R => ⟨F, O, .refl _, R, .refl⟩
  | i :: is, F, O, r, R => by
    have key : ∃ F2 O2, Same F F2 ∧ Rel K B F2 O2 H (match r[i]? with
        | some (.own false c) => r.set i (.val c.d)
        | _ => r) s ∧ Keep s r (match r[i]? with
        | some (.own false c) => r.set i (.val c.d)
        | _ => r) O O2 := by
      cases m : r[i]? with
      | none => exact ⟨F, O, .refl _, R, .refl⟩
      | some sl =>
        cases sl with
        | own p c =>
          cases p with
          | true => exact ⟨F, O, .refl _, R, .refl⟩
          | false => exact R.frz1 m
        | _ => exact ⟨F, O, .refl _, R, .refl⟩
    obtain ⟨F1, O1, f1, R1, k1⟩ := key
    obtain ⟨F2, O2, f2, R2, k2⟩ := Rel.frzs (is := is) R1
    exact ⟨F2, O2, f1.trans f2, R2, k1.trans k2⟩
/-- shared data alone -/
def voS : Slot → Slot
  | .val d => .val d
  | .rf a => .rf a
  | _ => .un
def vo (r : Env) : Env := r.map voS
theorem vo_at {i : Nat} {sl : Slot} (h : (vo r)[i]? = some sl) : ∃ s0, r[i]? = some s0 ∧ voS s0 = sl := by
  unfold vo at h
  rw [List.getElem?_map] at h
  cases q : r[i]? with
  | none => rw [q] at h; cases h
  | some s0 => rw [q] at h; exact ⟨s0, rfl, Option.some.inj h⟩
/-- the same state, as one that is entered now -/
theorem Rel.enter (R : Rel K B F O H r s) : Rel K ⟨H, F, fun _ => False, s⟩ F (fun _ => none) H (vo r) s := by
  refine ⟨R.fh, .refl _, fun _ _ e => .inl e, ⟨fun _ _ e _ _ => e, R.fr.t, R.fr.t, R.noF⟩, fun _ e => e, fun a c e => (nomatch e), by unfold vo; rw [List.length_map]; exact R.len, fun i d e => ?_, fun i p c e => ?_, fun i j p q c c' a e => ?_, fun i a e => ?_⟩
  · obtain ⟨s0, h1, h2⟩ := vo_at e
    cases s0 <;> first | (cases h2; done) | skip
    cases h2
    exact R.vl i _ h1
  · obtain ⟨s0, h1, h2⟩ := vo_at e
    cases s0 <;> cases h2
  · obtain ⟨s0, h1, h2⟩ := vo_at e
    cases s0 <;> cases h2
  · obtain ⟨s0, h1, h2⟩ := vo_at e
    cases s0 <;> first | (cases h2; done) | skip
    cases h2
    exact R.rf i _ h1
/-- what an evaluation comes to, wherever -/
def OutS (K : PySem.W.Frag) (mg : Str → Option Value) (tl : XK → Hp → VK → Prop) (F H : Hp) (m : Res D) : Prop := ∀ (E : XK) (Q : VK) (F' H' : Hp), Grow F H F' H' → (match m with
  | .ok d => ∀ v F'' H'', Grow F' H' F'' H'' → Rep K F'' d v → Q v H''
  | .ex x => ∀ cls dd H'', Grow F' H' F' H'' → XRep K mg x cls dd H'' → E cls dd H''
  | .stuck => False) → tl E H' Q
def outOf (m : Res (D × Env)) : Res D := match m with
  | .ok p => .ok p.1
  | .ex x => .ex x
  | .stuck => .stuck
def TTw (K : PySem.W.Frag) (mg : Str → Option Value) (ans : Res D → Option D) : (XK → Hp → VK → Prop) → Hp → VK → Prop := fun tl H Q =>
  ∃ F m d, Same F H ∧ Tabs TabsC.T H ∧ (∀ p ∈ TabsC.T, F p.1 = none) ∧ OutS K mg tl F H m ∧ ans m = some d ∧ ∀ v F' H', Grow F H F' H' → Rep K F' d v → Q v H'
theorem Rel.grown (R : Rel K B F O H r s) (h0 : B.H0 = H') (f0 : B.F0 = F') (p : ∀ b, ¬ B.P b) : Grow F' H' F H := by
  subst h0; subst f0
  exact ⟨R.f0, fun b o e n => R.fr.k b o e (p b) n, fun _ => R.fr.t, R.st, R.nf, R.fh⟩
end
/-- x(lambda: body): what x makes of what the body comes to -/
def fWord (is : List Nat) (fb : FE) (ans : Res D → Option D) : FE := fun r => obnd (ans (outOf (fb (vo (frz is r))))) fun d => .ok (d, frz is r)
theorem word_reads {X : Cx} {E : XK} {P : Addr} {nm : Str} {is : List Nat} {fb : FE} {ans : Res D → Option D} {s : Sg} {H : Hp} {Q : VK} (hP : (P, nm) ∈ TabsC.T) (h : tE X.K X.mg E (fWord is fb ans) s H Q) :
    tLamE TabsC.T P (TTw X.K X.mg ans) (fun E => tE X.K X.mg E fb) s H Q := by
  obtain ⟨B, F, O, r, R, q⟩ := h
  obtain ⟨F1, O1, f1, R1, k1⟩ := R.frzs (is := is)
  have q := q.up f1
  refine ⟨R1.fr.t, fun H1 one T1 => ?_⟩
  have nP : F1 P = none := R1.noF _ hP
  have g : Grow F1 H F1 H1 := ⟨.refl _, fun b o e n => one.k b o e (n _ hP).symm, fun _ => T1, one.n, fun _ _ e => .inl e, fun b o e => one.k b o (R1.fh _ _ e) (fun z => by rw [z, nP] at e; cases e)⟩
  have R2 := R1.grow g
  unfold fWord at q
  obtain ⟨d, hd, q⟩ := Post.opt q
  refine ⟨F1, outOf (fb (vo (frz is r))), d, R2.fh, R2.fr.t, R2.noF, fun E' Q' F' H' g' hm => ?_, hd, fun v F' H' g' hv => ?_⟩
  · have R3 := (R2.grow g').enter
    refine ⟨_, F', _, _, R3, ?_⟩
    cases m : fb (vo (frz is r)) with
    | stuck => rw [m] at hm; exact hm
    | ex x =>
      rw [m] at hm
      exact fun cls dd H'' X => hm cls dd H'' ⟨.refl _, fun b o e n => X.fr.k b o e (fun z => z) n, fun _ => X.fr.t, X.st, fun _ _ e => .inl e, X.fh⟩ X.rep
    | ok p =>
      rw [m] at hm
      exact fun F'' O'' H'' R'' f'' k'' v hv => hm v F'' H'' (R''.grown rfl rfl fun _ z => z) hv
  · have q : ∀ F2 O2 H2, Rel X.K B F2 O2 H2 (frz is r) s → Same F1 F2 → Keep s r (frz is r) O O2 → ∀ v, Rep X.K F2 d v → Q v H2 := q
    exact q F' O1 H' (R2.grow g') g'.ff k1 v hv
end Ev

/-! E30: try: a() / except x as n: .. in the def that got the lambda. -/
namespace Ev
open PySem PySem.Spec PyProof.Rows L2 LamX LamE
variable [TabsC]
section
variable {K : PySem.W.Frag} {mg : Str → Option Value} {B : Base} {F F' H H' : Hp} {O : Addr → Option C} {r : Env} {s : Sg}
/-- a slot is wiped out -/
theorem Rel.over (R : Rel K B F O H r s) (i : Nat) (x : Option V) : Rel K B F O H (r.set i .un) (s.set i x) := by
  have ne : ∀ {j : Nat} {sl : Slot}, (r.set i .un)[j]? = some sl → sl ≠ .un → i ≠ j ∧ r[j]? = some sl := fun {j sl} e n => by
    by_cases hj : i = j
    · subst hj
      by_cases hi : i < r.length
      · rw [List.getElem?_set_self hi] at e; cases e; exact absurd rfl n
      · rw [List.getElem?_eq_none (by rw [List.length_set]; omega)] at e; cases e
    · rw [List.getElem?_set_ne hj] at e; exact ⟨hj, e⟩
  refine ⟨R.fh, R.f0, R.nf, R.fr, R.st, R.ow, by rw [List.length_set, List.length_set]; exact R.len, fun j d e => ?_, fun j p c e => ?_, fun j k p q c c' a e1 e2 g1 g2 => ?_, fun j a e => ?_⟩
  · obtain ⟨h1, h2⟩ := ne e (by intro z; cases z)
    rw [List.getElem?_set_ne h1]; exact R.vl j d h2
  · obtain ⟨h1, h2⟩ := ne e (by intro z; cases z)
    rw [List.getElem?_set_ne h1]; exact R.on j p c h2
  · obtain ⟨h1, h2⟩ := ne e1 (by intro z; cases z)
    obtain ⟨h3, h4⟩ := ne e2 (by intro z; cases z)
    rw [List.getElem?_set_ne h1] at g1
    rw [List.getElem?_set_ne h3] at g2
    exact R.inj j k p q c c' a h2 h4 g1 g2
  · obtain ⟨h1, h2⟩ := ne e (by intro z; cases z)
    rw [List.getElem?_set_ne h1]; exact R.rf j a h2
theorem Rel.overRf (R : Rel K B F O H r s) {i : Nat} (hi : i < r.length) (a : Addr) : Rel K B F O H (r.set i (.rf a)) (s.set i (some (.ref a))) := by
  have R1 := R.over i (some (.ref a))
  have his : i < s.length := by rw [R.len]; exact hi
  have ne : ∀ {j : Nat} {sl : Slot}, (r.set i (.rf a))[j]? = some sl → (i = j ∧ sl = .rf a) ∨ (i ≠ j ∧ (r.set i .un)[j]? = some sl) := fun {j sl} e => by
    by_cases hj : i = j
    · subst hj
      rw [List.getElem?_set_self hi] at e; cases e
      exact .inl ⟨rfl, rfl⟩
    · rw [List.getElem?_set_ne hj] at e; exact .inr ⟨hj, by rw [List.getElem?_set_ne hj]; exact e⟩
  refine ⟨R.fh, R.f0, R.nf, R.fr, R.st, R.ow, by rw [List.length_set, List.length_set]; exact R.len, fun j d e => ?_, fun j p c e => ?_, fun j k p q c c' a e1 e2 g1 g2 => ?_, fun j b e => ?_⟩
  · rcases ne e with ⟨_, z⟩ | ⟨_, h⟩
    · cases z
    · exact R1.vl j d h
  · rcases ne e with ⟨_, z⟩ | ⟨_, h⟩
    · cases z
    · exact R1.on j p c h
  · rcases ne e1 with ⟨_, z⟩ | ⟨_, h1⟩
    · cases z
    · rcases ne e2 with ⟨_, z⟩ | ⟨_, h2⟩
      · cases z
      · exact R1.inj j k p q c c' _ h1 h2 g1 g2
  · rcases ne e with ⟨h, z⟩ | ⟨_, h⟩
    · cases z
      subst h
      rw [List.getElem?_set_self his]
    · exact R1.rf j b h
end
/-- slot i is none behind the clause -/
def clrD (i : Nat) (D : Ends) : Ends := { nx := fun σ' H' => D.nx (σ'.set i none) H', rt := D.rt, bk := fun σ' H' => D.bk (σ'.set i none) H', ct := fun σ' H' => D.ct (σ'.set i none) H' }
section
variable {X : Cx} {s : Shared} {H : Hp} {Ng : List Str} {x : Str} {sg : Scope} {g : Addr} {cdg : Value} {f c' : Addr} {a q e n : Str} {tl : XK → Hp → VK → Prop} {m : Res D} {C : Addr} {i : Nat} {names : List Str} {suite : List Stmt} {b₀ : Stmt} {fs : Addr → Str → FS} {p1 p2 p3 p4 p7 p8 : Pos}
/-- the lambda is called where the reading says what it comes to -/
abbrev Acts (X : Cx) (s : Shared) (H : Hp) (Ng : List Str) (x : Str) (sg : Scope) (g : Addr) (cdg : Value) (f c' : Addr) (a q : Str) (tl : XK → Hp → VK → Prop) : Prop :=
  ∀ (W : WX) (pn : List (Addr × Obj)) (xe : Value → Shared → Prop) (p1 p2 : Pos), Takes ((getCx X s H Ng x sg g cdg).tr pn xe) W →
    PE ((getCx X s H Ng x sg g cdg).tr pn xe) (.Call (.Name a p1) [] [] p2) (fun σZ HZ Q => ∃ E : XK, (∀ cls d H', E cls d H' → W cls d σZ H') ∧ σZ[0]? = some (some (.ref f)) ∧ HZ c' = some (CodeO c' q) ∧ tl E HZ Q)
/-- what the try does: a() comes to m -/
def tTryW (X : Cx) (f c' : Addr) (q : Str) (tl : XK → Hp → VK → Prop) (m : Res D) (i : Nat) (names : List Str) (fs : Addr → Str → FS) (Qb : Ends → Sg → VK) : TS := fun D σ H' =>
  ∃ (B : Base) (F' : Hp) (O' : Addr → Option Ev.C) (r' : Ev.Env), Rel X.K B F' O' H' r' σ ∧ r'[0]? = some (.rf f) ∧ i < r'.length ∧ H' c' = some (CodeO c' q) ∧ OutS X.K X.mg tl F' H' m ∧ match m with
    | .ok d => ∀ v F2 H2, Rel X.K B F2 O' H2 r' σ → Same F' F2 → Rep X.K F2 d v → Qb D σ v H2
    | .ex x => x.fld = none ∧ x.cls ∈ names ∧ ∀ a F2, Same F' F2 → SPost X.K X.mg C8.E0 B F2 (clrD i D) (fs a x.cls (r'.set i (.rf a)))
    | .stuck => False
theorem ps_tryW {body : List Stmt} {Qb : Ends → Sg → VK} (hN : Ng.Nodup) (hi : Ng[i]? = some n) (hln : sg.names.lookup n = some .local) (hge : sg.names.lookup e = some .globalImplicit) (hme : X.mg e = some (.ref C)) (hde : (e == ("__debug__" : Str)) = false)
    (hb : ∀ (W : WX) (pn : List (Addr × Obj)) (xe : Value → Shared → Prop), Takes ((getCx X s H Ng x sg g cdg).tr pn xe) W →
      PSs ((getCx X s H Ng x sg g cdg).tr pn xe) body (fun D σZ HZ => ∃ E : XK, (∀ cls d H', E cls d H' → W cls d σZ H') ∧ σZ[0]? = some (some (.ref f)) ∧ HZ c' = some (CodeO c' q) ∧ tl E HZ (Qb D σZ)))
    (hsu : ∀ (a : Addr) (oe : Obj) (Dc : Addr) (pn : List (Addr × Obj)) (nm : Str), nm ∈ names → X.mg nm = some (.ref Dc) → Zc (.ref Dc) none oe → (∃ vs, oe.data = .fields vs) → EvSs ((getCx X s H Ng x sg g cdg).nox.suite a ((a, oe) :: pn)) C8.E0 (b₀ :: suite) (fs a nm))
    (hex : ∀ nm ∈ names, ∀ Dc, X.mg nm = some (.ref Dc) → PySem.W.exmOne X.K (.ref Dc) (.ref C) = some true) :
    PS (getCx X s H Ng x sg g cdg).nox (.Try body [.ExceptHandler (some (.Name e p4)) (some n) (b₀ :: suite) p7] [] [] p8) (tTryW X f c' q tl m i names fs Qb) := by
  let Z := (getCx X s H Ng x sg g cdg).nox
  have base := ps_try_as (X := Z) (x := e) (n := n) (c := .ref C) (i := i) (body := body) (suite := suite) (b₀ := b₀) (np := p4) (pos := p8) (pos' := p7)
    (tb := fun W D σZ HZ => ∃ E : XK, (∀ cls d H', E cls d H' → W cls d σZ H') ∧ σZ[0]? = some (some (.ref f)) ∧ HZ c' = some (CodeO c' q) ∧ tl E HZ (Qb D σZ))
    (ts := fun a cls d D' σ' H' => d = none ∧ ∃ nm Dc, nm ∈ names ∧ X.mg nm = some (.ref Dc) ∧ cls = .ref Dc ∧ tS X.K X.mg C8.E0 (fs a nm) D' σ' H') (Wout := fun _ _ _ _ => False)
    rfl rfl hN hi hln ⟨hge, hde, .inl hme⟩ L2.takes0 (fun W pn xe tk _ => hb W pn xe tk) (fun a oe cls d pn hz hf => ⟨fun pins s' σ' H' D' I h => by
      obtain ⟨rfl, nm, Dc, h1, h2, rfl, h3⟩ := h
      exact (hsu a oe Dc pn nm h1 h2 hz hf).run pins s' σ' H' D' I h3⟩)
  refine PS.imp base fun D σ H' h => ?_
  obtain ⟨B, F', O', r', R, r0, hl, hc, out, hm⟩ := h
  refine ⟨fun cls d H2 => ∃ F2, Same F' F2 ∧ Rel X.K B F2 O' H2 r' σ ∧ ∃ x, m = .ex x ∧ XRep X.K X.mg x cls d H2, fun cls d H2 ⟨F2, f2, R2, x, em, hx⟩ => ?_, R.rf 0 f r0, hc, out _ _ F' H' (.refl R.fh) ?_⟩
  · subst em
    obtain ⟨h1, h2, h3⟩ := hm
    obtain ⟨⟨Dc, e1, e2⟩, e3⟩ := hx
    rw [h1] at e3
    refine ⟨true, by rw [e1]; exact hex _ h2 _ e2, fun _ a ha => ⟨e3, x.cls, Dc, h2, e2, e1, B, F2, O', _, R2.overRf hl a, h3 a F2 f2⟩, fun z => nomatch z⟩
  · cases m with
    | ok d => exact fun v F2 H2 g2 hv => hm v F2 H2 (R.grow g2) g2.ff hv
    | ex x => exact fun cls dd H2 g2 hx => ⟨F', .refl _, R.grow g2, x, rfl, hx⟩
    | stuck => exact hm
/-- the clause's body, then what follows the try -/
def runEx (fs : Addr → Str → FS) (fr : FS) (i : Nat) (a : Addr) (nm : Str) (r : Ev.Env) : Fl := match fs a nm (r.set i (.rf a)) with
  | .nx r2 => fr (r2.set i .un)
  | o => o
def rStart (N : Nat) (f : Addr) : Ev.Env := .rf f :: List.replicate (N - 1) .un
theorem start_rel {K : PySem.W.Frag} {F : Hp} (fh : Same F H) (tH : Tabs TabsC.T H) (nF : ∀ p ∈ TabsC.T, F p.1 = none) (hl : 0 < Ng.length) : Rel K ⟨H, F, fun _ => False, L2.start Ng [.ref f]⟩ F (fun _ => none) H (rStart Ng.length f) (L2.start Ng [.ref f]) := by
  have low : ∀ {i : Nat} {sl : Slot}, (rStart Ng.length f)[i]? = some sl → sl = .un ∨ (i = 0 ∧ sl = .rf f) := fun {i sl} e => by
    cases i with
    | zero => cases e; exact .inr ⟨rfl, rfl⟩
    | succ i =>
      have e : (List.replicate (Ng.length - 1) Slot.un)[i]? = some sl := e
      rw [List.getElem?_replicate] at e
      split at e
      · cases e; exact .inl rfl
      · cases e
  refine ⟨fh, .refl _, fun _ _ e => .inl e, ⟨fun _ _ e _ _ => e, tH, tH, nF⟩, fun _ e => e, fun a c e => (nomatch e), ?_, fun i d e => ?_, fun i p c e => ?_, fun i j p q c c' a e => ?_, fun i a e => ?_⟩
  · unfold L2.start rStart
    simp only [List.length_append, List.length_map, List.length_cons, List.length_nil, List.length_replicate]
    omega
  · rcases low e with z | ⟨_, z⟩ <;> cases z
  · rcases low e with z | ⟨_, z⟩ <;> cases z
  · rcases low e with z | ⟨_, z⟩ <;> cases z
  · rcases low e with z | ⟨z, z2⟩
    · cases z
    · cases z2; subst z; rfl
/-- the try done, then what follows: it gives back d -/
theorem tryW_run {fr : FS} {D0 : Ends} {Qb : Ends → Sg → VK} {B : Base} {F : Hp} {O : Addr → Option Ev.C} {r : Ev.Env} {σ : Sg} {HH : Hp} {d : D} (R : Rel X.K B F O HH r σ) (r0 : r[0]? = some (.rf f)) (hl : i < r.length) (hc : HH c' = some (CodeO c' q)) (out : OutS X.K X.mg tl F HH m)
    (hq : ∀ F' O' H' r' s' v, Rel X.K B F' O' H' r' s' → Same F F' → Rep X.K F' d v → D0.rt v H')
    (hm : match m with
      | .ok d0 => ∀ v F2 H2, Rel X.K B F2 O H2 r σ → Same F F2 → Rep X.K F2 d0 v → Qb { D0 with nx := fun σ H => tS X.K X.mg C8.E0 fr D0 σ H } σ v H2
      | .ex x => x.fld = none ∧ x.cls ∈ names ∧ ∀ a, ∃ r', runEx fs fr i a x.cls r = .rt d r'
      | .stuck => False) : tTryW X f c' q tl m i names fs Qb { D0 with nx := fun σ H => tS X.K X.mg C8.E0 fr D0 σ H } σ HH := by
  refine ⟨B, F, O, r, R, r0, hl, hc, out, ?_⟩
  cases m with
  | stuck => exact hm
  | ok d0 => exact hm
  | ex x =>
    obtain ⟨h1, h2, h3⟩ := hm
    refine ⟨h1, h2, fun a F2 f2 => ?_⟩
    obtain ⟨r', h4⟩ := h3 a
    unfold runEx at h4
    cases e : fs a x.cls (r.set i (.rf a)) with
    | nx r2 =>
      rw [e] at h4
      have h4 : fr (r2.set i .un) = .rt d r' := h4
      exact fun F3 O3 H3 s3 R3 f3 => ⟨B, F3, O3, _, R3.over i none, by rw [h4]; exact fun F4 O4 H4 s4 v R4 f4 hv => hq F4 O4 H4 r' s4 v R4 ((f2.trans f3).trans f4) hv⟩
    | rt d1 r1 =>
      rw [e] at h4; cases h4
      exact fun F4 O4 H4 s4 v R4 f4 hv => hq F4 O4 H4 r' s4 v R4 (f2.trans f4) hv
    | _ => rw [e] at h4; cases h4
/-- try: a() / except e as n: suite; rest -/
theorem word_given {rest : List Stmt} {fr : FS} {ans : Res D → Option D} (hN : Ng.Nodup) (hi : Ng[i]? = some n) (hln : sg.names.lookup n = some .local) (hge : sg.names.lookup e = some .globalImplicit) (hme : X.mg e = some (.ref C)) (hde : (e == ("__debug__" : Str)) = false)
    (hsu : ∀ (s : Shared) (H : Hp) (hr : Room 1 (getCx X s H Ng x sg g cdg).A) (a : Addr) (oe : Obj) (Dc : Addr) (pn : List (Addr × Obj)) (nm : Str), nm ∈ names → X.mg nm = some (.ref Dc) → Zc (.ref Dc) none oe → (∃ vs, oe.data = .fields vs) → EvSs ((getCx X s H Ng x sg g cdg).nox.suite a ((a, oe) :: pn)) C8.E0 (b₀ :: suite) (fs a nm))
    (hre : ∀ (s : Shared) (H : Hp) (hr : Room 1 (getCx X s H Ng x sg g cdg).A), EvSs (getCx X s H Ng x sg g cdg).nox C8.E0 rest fr)
    (hex : ∀ nm ∈ names, ∀ Dc, X.mg nm = some (.ref Dc) → PySem.W.exmOne X.K (.ref Dc) (.ref C) = some true)
    (hok : ∀ d d', ans (.ok d) = some d' → ∀ f, ∃ r', fr (rStart Ng.length f) = .rt d' r')
    (hxx : ∀ x d', ans (.ex x) = some d' → x.fld = none ∧ x.cls ∈ names ∧ ∀ f a, ∃ r', runEx fs fr i a x.cls (rStart Ng.length f) = .rt d' r')
    (hst : ans .stuck = none) :
    Given X Ng x sg g cdg (.Try [.Expr (.Call (.Name a p1) [] [] p2) p3] [.ExceptHandler (some (.Name e p4)) (some n) (b₀ :: suite) p7] [] [] p8 :: rest) a q (TTw X.K X.mg ans) := by
  intro f c' s H Q tl hr act hc ⟨F, m, d, fh, tH, nF, out, ea, hQ⟩
  have hl : i < Ng.length := (List.getElem?_eq_some_iff.mp hi).1
  have tr := ps_tryW (X := X) (s := s) (H := H) (cdg := cdg) (g := g) (x := x) (f := f) (c' := c') (q := q) (tl := tl) (m := m) (names := names) (fs := fs) (i := i) (p4 := p4) (p7 := p7) (p8 := p8) (body := [.Expr (.Call (.Name a p1) [] [] p2) p3]) (Qb := fun D σ _ H' => D.nx σ H') hN hi hln hge hme hde
    (fun W pn xe tk => pss_one (PS.imp (ps_expr (act W pn xe p1 p2 tk)) fun D σ H h => h)) (hsu s H hr) hex
  refine ⟨_, pss_cons tr (hre s H hr), ?_⟩
  have R0 := start_rel (K := X.K) (f := f) fh tH nF (Nat.lt_of_le_of_lt (Nat.zero_le _) hl)
  have hl0 : i < (rStart Ng.length f).length := by unfold rStart; rw [List.length_cons, List.length_replicate]; omega
  have fin : ∀ F' O' H' r' s' v, Rel X.K ⟨H, F, fun _ => False, L2.start Ng [.ref f]⟩ F' O' H' r' s' → Same F F' → Rep X.K F' d v → Q v H' := fun F' O' H' r' s' v R' f' hv => hQ v F' H' (R'.grown rfl rfl fun _ z => z) hv
  refine tryW_run (D0 := { nx := fun _ H' => Q .non H', rt := Q }) (d := d) R0 rfl hl0 hc out fin ?_
  cases m with
  | stuck => rw [hst] at ea; cases ea
  | ok d0 =>
    obtain ⟨r', h⟩ := hok d0 d ea f
    exact fun v F2 H2 R2 f2 hv => ⟨_, F2, _, _, R2, by rw [h]; exact fun F4 O4 H4 s4 v R4 f4 hv => fin F4 O4 H4 r' s4 v R4 (f2.trans f4) hv⟩
  | ex x =>
    obtain ⟨h1, h2, h3⟩ := hxx x d ea
    exact ⟨h1, h2, fun a => h3 f a⟩
end
end Ev

/-! E31: x(lambda: body) in the layer. -/
namespace Ev
open PySem PySem.Spec PyProof.Rows L2 LamX LamE
variable [TabsC]
/-- the def at f makes lambdas: its code object c, its table P, the name that they bear -/
def TabAt (K : PySem.W.Frag) (mg : Str → Option Value) (base : Heap) (x nm : Str) : Prop := ∃ (f c P : Addr), mg x = some (.ref f) ∧ (∀ cdv, CodeAt K f cdv → cdv = .ref c) ∧ TabB base mg c P ∧ (P, nm) ∈ TabsC.T ∧ ∀ p ∈ TabsC.T, p.1 = P → p.2 = nm
theorem TabAt.get {K : PySem.W.Frag} {mg : Str → Option Value} {base : Heap} {x nm : Str} {f : Addr} {cdv : Value} (h : TabAt K mg base x nm) (hm : mg x = some (.ref f)) (hc : CodeAt K f cdv) : ∃ (c P : Addr), cdv = .ref c ∧ TabB base mg c P ∧ (P, nm) ∈ TabsC.T ∧ ∀ p ∈ TabsC.T, p.1 = P → p.2 = nm := by
  obtain ⟨f', c, P, h1, h2, h3⟩ := h
  rw [hm] at h1; cases h1
  exact ⟨c, P, h2 _ hc, h3⟩
section
variable {X : Cx} {E : XK} {x a nm : Str} {g c P : Addr} {k : Nat} {st : Stmt} {fd : FuncData} {Ng : List Str} {params : Arguments} {body : Expr} {scope : Scope} {fb : FE} {ans : Res D → Option D} {is : List Nat} {p lpos pos : Pos}
theorem ev_word (hm : X.mg x = some (.ref g)) (gd : X.A.guards = some []) (Fn : Fun X.K x x st g fd) (hb : Binds X.K fd [a] []) (Sg : FnScope Ng [a] (defScope st)) (hNg : Ng[0]? = some a) (hva : Vis (defScope st) a)
    (TB : TabB X.base X.mg c P) (hcode : X.env.code = .ref c) (hmT : (P, nm) ∈ TabsC.T) (hu : ∀ p ∈ TabsC.T, p.1 = P → p.2 = nm) (hnm : nm = X.env.qual ++ "<lambda>")
    (hG : ∀ cdv, Given X Ng x (defScope st) g cdv (defBody st) a (X.env.qual ++ "<lambda>") (TTw X.K X.mg ans)) (hr : Room (k + 2) X.A) (L : lamSB X.env.scope scope = true)
    (hbody : ∀ (A : Around) (outer : List PySem.Env) (s : Shared) (H : Hp) (E : XK) (f c' : Addr), Room k (A.deeper (lamEnv X scope s.heap.objs.size f c')) → A.guards = some [] → EvE (lamCx X A outer s H E scope f c') E body fb)
    (hbind : ∀ (q : Str) (cl : List (Str × Addr)) (pm cv ctv : Value), bindArgs (PySem.W.kla_fn "<lambda>" q params body scope cl pm cv ctv) ⟨[], []⟩ = pure [] := by exact fun _ _ _ _ _ => rfl)
    (hdef : defaultsOf params X.env = ([], []) := by rfl) (hg : Gl X x := by rfl) (hdb : (x == ("__debug__" : Str)) = false := by decide) (hd : (a == ("__debug__" : Str)) = false := by decide) (hcd : (a == ("__classdict__" : Str)) = false := by decide) :
    EvE X E (.Call (.Name x p) [.Lambda params body scope lpos] [] pos) (fWord is fb ans) := by
  subst hnm
  obtain ⟨oc, od, kV, doc, pm, an, cdv, ct, osl, rfl, lk, hcd2⟩ := Fn.ex
  exact PE.imp (pe_lam hg hm gd Fn.kp lk hcd2 hb Sg hNg hva (hG cdv) TB hcode hmT hu hr (lamS_by L) hdef hbind (fun A outer s H E f c' hr2 gd2 => hbody A outer s H E f c' hr2 gd2) hdb hd hcd) fun s H Q h => word_reads hmT h
end
/-! ### a statement ahead of the try -/
section
variable {X : Cx} {Ng : List Str} {x : Str} {sg : Scope} {g : Addr} {cdg : Value} {a q e n : Str} {C : Addr} {i : Nat} {names : List Str} {suite : List Stmt} {b₀ st0 : Stmt} {fs : Addr → Str → FS} {p1 p2 p3 p4 p7 p8 : Pos}
theorem word_given1 {rest : List Stmt} {f0 fr : FS} {r1 : Addr → Ev.Env} {ans : Res D → Option D} (hN : Ng.Nodup) (hi : Ng[i]? = some n) (hln : sg.names.lookup n = some .local) (hge : sg.names.lookup e = some .globalImplicit) (hme : X.mg e = some (.ref C)) (hde : (e == ("__debug__" : Str)) = false)
    (h0 : ∀ (s : Shared) (H : Hp) (hr : Room 1 (getCx X s H Ng x sg g cdg).A), EvS (getCx X s H Ng x sg g cdg).nox C8.E0 st0 f0)
    (hsu : ∀ (s : Shared) (H : Hp) (hr : Room 1 (getCx X s H Ng x sg g cdg).A) (a : Addr) (oe : Obj) (Dc : Addr) (pn : List (Addr × Obj)) (nm : Str), nm ∈ names → X.mg nm = some (.ref Dc) → Zc (.ref Dc) none oe → (∃ vs, oe.data = .fields vs) → EvSs ((getCx X s H Ng x sg g cdg).nox.suite a ((a, oe) :: pn)) C8.E0 (b₀ :: suite) (fs a nm))
    (hre : ∀ (s : Shared) (H : Hp) (hr : Room 1 (getCx X s H Ng x sg g cdg).A), EvSs (getCx X s H Ng x sg g cdg).nox C8.E0 rest fr)
    (hex : ∀ nm ∈ names, ∀ Dc, X.mg nm = some (.ref Dc) → PySem.W.exmOne X.K (.ref Dc) (.ref C) = some true)
    (h00 : ∀ f, f0 (rStart Ng.length f) = .nx (r1 f) ∧ (r1 f)[0]? = some (.rf f) ∧ (r1 f).length = Ng.length)
    (hok : ∀ d d', ans (.ok d) = some d' → ∀ f, ∃ r', fr (r1 f) = .rt d' r')
    (hxx : ∀ x d', ans (.ex x) = some d' → x.fld = none ∧ x.cls ∈ names ∧ ∀ f a, ∃ r', runEx fs fr i a x.cls (r1 f) = .rt d' r')
    (hst : ans .stuck = none) :
    Given X Ng x sg g cdg (st0 :: .Try [.Expr (.Call (.Name a p1) [] [] p2) p3] [.ExceptHandler (some (.Name e p4)) (some n) (b₀ :: suite) p7] [] [] p8 :: rest) a q (TTw X.K X.mg ans) := by
  intro f c' s H Q tl hr act hc ⟨F, m, d, fh, tH, nF, out, ea, hQ⟩
  have hl : i < Ng.length := (List.getElem?_eq_some_iff.mp hi).1
  have tr := ps_tryW (X := X) (s := s) (H := H) (cdg := cdg) (g := g) (x := x) (f := f) (c' := c') (q := q) (tl := tl) (m := m) (names := names) (fs := fs) (i := i) (p4 := p4) (p7 := p7) (p8 := p8) (body := [.Expr (.Call (.Name a p1) [] [] p2) p3]) (Qb := fun D σ _ H' => D.nx σ H') hN hi hln hge hme hde
    (fun W pn xe tk => pss_one (PS.imp (ps_expr (act W pn xe p1 p2 tk)) fun D σ H h => h)) (hsu s H hr) hex
  refine ⟨_, pss_cons (h0 s H hr) (pss_cons tr (hre s H hr)), ?_⟩
  obtain ⟨e1, e2, e3⟩ := h00 f
  have R0 := start_rel (K := X.K) (f := f) fh tH nF (Nat.lt_of_le_of_lt (Nat.zero_le _) hl)
  have fin : ∀ F' O' H' r' s' v, Rel X.K ⟨H, F, fun _ => False, L2.start Ng [.ref f]⟩ F' O' H' r' s' → Same F F' → Rep X.K F' d v → Q v H' := fun F' O' H' r' s' v R' f' hv => hQ v F' H' (R'.grown rfl rfl fun _ z => z) hv
  refine ⟨_, F, _, _, R0, ?_⟩
  rw [e1]
  intro F1 O1 H1 s1 R1 f1
  have g1 : Grow F H F1 H1 := R1.grown rfl rfl fun _ z => z
  have tH1 := R1.fr.k c' _ hc (fun z => z) (fun p hp z => by
    obtain ⟨ps, h1, _⟩ := tH p hp
    rw [z, hc] at h1
    unfold CodeO at h1
    cases h1)
  refine tryW_run (X := X) (names := names) (fs := fs) (fr := fr) (Qb := fun D σ _ H' => D.nx σ H') (D0 := { nx := fun _ H' => Q .non H', rt := Q }) (d := d) R1 e2 (by rw [e3]; exact hl) tH1 (fun E' Q' F' H' g' hm => out E' Q' F' H' (g1.trans g') hm) (fun F' O' H' r' s' v R' f' hv => fin F' O' H' r' s' v R' (f1.trans f') hv) ?_
  cases m with
  | stuck => rw [hst] at ea; cases ea
  | ok d0 =>
    obtain ⟨r', h⟩ := hok d0 d ea f
    exact fun v F2 H2 R2 f2 hv => ⟨_, F2, _, _, R2, by rw [h]; exact fun F4 O4 H4 s4 v R4 f4 hv => fin F4 O4 H4 r' s4 v R4 ((f1.trans f2).trans f4) hv⟩
  | ex x =>
    obtain ⟨h1, h2, h3⟩ := hxx x d ea
    exact ⟨h1, h2, fun a => h3 f a⟩
end
theorem passes_lam {X : Cx} {scope : Scope} (CX : CXT) (A : Around) (outer : List PySem.Env) (s : Shared) (H : Hp) (E : XK) (f c' : Addr) (e : CX = L2.CX X.prog X.w := by rfl) : Passes CX (lamCx X A outer s H E scope f c') E := by
  subst e
  exact passes_call (W := fun cls dd _ H => E cls dd H) (takes_of rfl rfl rfl rfl) (fun _ _ _ _ z => z)
omit [TabsC] in
theorem mg_ref {mg : Str → Option Value} {x : Str} {a b : Addr} (h1 : mg x = some (.ref a)) (h2 : mg x = some (.ref b)) : a = b := by
  rw [h1] at h2; cases h2; rfl
theorem tab_mk {K : PySem.W.Frag} {mg : Str → Option Value} {base : Heap} {x nm : Str} {f c P : Addr} {oc : Value} {od : Option Addr} {fd : FuncData} {osl : Array (Option Value)} (hm : mg x = some (.ref f)) (l : K.lookup f = some ⟨oc, od, .func fd, osl⟩) (hc : fd.code = .ref c) (TB : TabB base mg c P) (h1 : (P, nm) ∈ TabsC.T) (h2 : ∀ p ∈ TabsC.T, p.1 = P → p.2 = nm) : TabAt K mg base x nm :=
  ⟨f, c, P, hm, fun cdv ⟨_, _, _, _, l2, e⟩ => by rw [l] at l2; cases l2; rw [← e, hc], TB, h1, h2⟩
omit [TabsC] in
theorem kit_own {K : PySem.W.Frag} {D C : Addr} {b : Bool} (hd : PySem.W.hasDictIn K C = true) (ht : PySem.W.typeIn K (.ref C) = some (.type "type")) (hs : PySem.W.subIn K (.ref D) (.ref C) = some b) (n : (D == C) = false) : PySem.W.kitOne K (.ref D) (.ref C) = some b := by
  obtain ⟨cd, hc, _⟩ := PySem.W.any_some hd
  unfold PySem.W.kitOne
  rw [if_neg (by intro z; have := beq_iff_eq.mp z; cases this; simp at n)]
  show (if ((PySem.W.clsIn K C).isSome && PySem.W.typeIn K (.ref C) == some (.type "type")) = true then PySem.W.subIn K (.ref D) (.ref C) else none) = some b
  rw [if_pos (by rw [hc, ht]; rfl), hs]
omit [TabsC] in
theorem kit_same {K : PySem.W.Frag} {D : Addr} : PySem.W.kitOne K (.ref D) (.ref D) = some true := by
  unfold PySem.W.kitOne
  rw [if_pos (by simp)]
omit [TabsC] in
theorem kit_val {K : PySem.W.Frag} {D : Addr} (hs : PySem.W.subIn K (.ref D) (.type "ValueError") = some true) : PySem.W.kitOne K (.ref D) (.type "ValueError") = some true := by
  unfold PySem.W.kitOne
  rw [if_neg (by intro z; have := beq_iff_eq.mp z; cases this)]
  show (if PySem.W.kitMeta "ValueError" = true then PySem.W.subIn K (.ref D) (.type "ValueError") else none) = some true
  rw [if_pos (by decide +kernel), hs]
omit [TabsC] in
theorem tab_in {K : PySem.W.Frag} {x : Str} {f c P : Addr} {oc e : Value} {od dd : Option Addr} {fd : FuncData} {osl sl : Array (Option Value)} {vs : Array Value} (a : PySem.W.nsIn K mainGlobals x = some (some (.ref f))) (l : K.lookup f = some ⟨oc, od, .func fd, osl⟩) (hc : fd.code = .ref c) (lc : K.lookup c = some ⟨e, dd, .fields vs, sl⟩) (h : vs[11]? = some (.ref P)) : PySem.W.tabIn K x = some (c, P) := by
  unfold PySem.W.tabIn
  rw [a]
  simp only
  rw [l]
  simp only
  rw [hc]
  simp only
  rw [lc]
  simp only
  rw [h]
/-! ### what they compute -/
@[simp] theorem ap_fWord (is : List Nat) (fb : FE) (ans : Res D → Option D) (r : Ev.Env) : fWord is fb ans r = obnd (ans (outOf (fb (vo (frz is r))))) fun d => .ok (d, frz is r) := rfl
@[simp] theorem outOf_ok (d : D) (r : Ev.Env) : outOf (.ok (d, r)) = .ok d := rfl
@[simp] theorem outOf_ex (x : Ex) : outOf (.ex x) = .ex x := rfl
@[simp] theorem ap_fIsE (i : Nat) (a : Addr) (b : Bool) (r : Ev.Env) : fIsE i a b r = match r[i]? with
  | some (.rf a') => if a' = a then .ok (.bl b, r) else .stuck
  | _ => .stuck := rfl
end Ev

/-! E32: the signs of a text, one by one. -/
namespace Ev
open PySem PySem.Spec PyProof.Rows L2
variable [TabsC]
def chars (x : Str) : List D := x.cps.toList.map fun c => D.str ⟨#[c]⟩
def strSeq : D → Option (List D)
  | .str x => some (chars x)
  | _ => none
def seqS : D → Option (List D)
  | .str x => some (chars x)
  | d => seqOf d
def fStrI (f : FE) : FI := fun r => (f r).bnd fun d r1 => obnd (strSeq d) fun ds => .ok (ds, r1)
def fSeqS (f : FE) : FI := fun r => (f r).bnd fun d r1 => obnd (seqS d) fun ds => .ok (ds, r1)
theorem walks_str {K : PySem.W.Frag} {F : Hp} (x : Str) : Walks K (Its x) F (chars x) := fun i F1 H f1 f2 => by
  have hl : (chars x).length = x.cps.size := by unfold chars; simp
  refine ⟨fun d e => ?_, fun h => by rw [hl] at h; exact h⟩
  unfold chars at e
  rw [List.getElem?_map] at e
  cases q : x.cps.toList[i]? with
  | none => rw [q] at e; cases e
  | some c =>
    rw [q] at e
    cases e
    have q : x.cps[i]? = some c := by simpa using q
    refine ⟨(Array.getElem?_eq_some_iff.mp q).1, fun y H' ⟨e1, c', e2, e3⟩ => ?_⟩
    rw [q] at e2; cases e2
    subst e1; subst e3
    exact ⟨F1, .refl f2, rfl⟩
section
variable {X : Cx} {E : XK} {tg e : Expr}
theorem ei_str {f : FE} (h : EvE X E e f) : EvI X E tg e (fStrI f) := PI.imp (pi_str h) fun s H R' ⟨B, F, O, r, R, q⟩ => by
  refine ⟨B, F, O, r, R, (Post.split q).mono fun d r1 F1 O1 H1 R1 f1 k1 q1 v hv => ?_⟩
  obtain ⟨ds, e1, q1⟩ := Post.opt q1
  cases d with
  | str x =>
    cases e1
    exact ⟨x, hv, Post.ok (k := fun ds _ F' _ H' => ∀ J, Walks X.K J F' ds → R' J H') q1 R1 (.refl _) .refl _ (walks_str x)⟩
  | _ => cases e1
theorem ei_seqS {f : FE} (h : EvE X E e f) : EvI X E tg e (fSeqS f) := ⟨fun pins s σ H R' I ⟨B, F, O, r, R, q⟩ => by
  by_cases hs : ∃ x r1, f r = .ok (.str x, r1)
  · obtain ⟨x, r1, e⟩ := hs
    refine (ei_str (tg := tg) h).run pins s σ H R' I ⟨B, F, O, r, R, ?_⟩
    have e1 : fSeqS f r = fStrI f r := by unfold fSeqS fStrI; rw [e]; rfl
    rw [← e1]; exact q
  · refine (ei_seq (tg := tg) h).run pins s σ H R' I ⟨B, F, O, r, R, ?_⟩
    have e1 : fSeqS f r = fSeqI f r := by
      unfold fSeqS fSeqI
      cases m : f r with
      | ok p =>
        obtain ⟨d, r1⟩ := p
        cases d with
        | str x => exact absurd ⟨x, r1, m⟩ hs
        | _ => rfl
      | _ => rfl
    rw [← e1]; exact q⟩
end
@[simp ↓] theorem ap_fSeqS (f : FE) (r : Env) : fSeqS f r = bK (f r) (fun d r1 => oK (seqS d) (fun ds => .ok (ds, r1)) ⟨⟩) ⟨⟩ := (rfl)
@[simp] theorem seqS_str (x : Str) : seqS (.str x) = some (chars x) := rfl
@[simp] theorem seqS_tup (x : List D) : seqS (.tup x) = some x := rfl
@[simp] theorem seqS_lst (x : List D) : seqS (.lst x) = some x := rfl
end Ev

/-! E33: comprehensions over things that stand for data. -/
namespace Ev
open PySem L2
variable [TabsC]
def outC (ft : FGt) (tt : FT) (fe : FE) (r0 : Env) (d : D) : Option D := match turnC ft tt fe d r0 with
  | .ok p => p.1
  | _ => none
theorem loopC_mapA {α : Type} {vs : List Nat} {ft : FGt} {tt : FT} {fe : FE} {r0 : Env} {xs : List α} {acc : List D} (f : α → D) (o : α → Option D) (h : ∀ x ∈ xs, ∃ r', turnC ft tt fe (f x) r0 = .ok (o x, r') ∧ unAll r' vs = r0) (hl : acc.length + xs.length ≤ sizeLine) :
    loopC vs ft tt fe (xs.map f) r0 acc = .ok (acc ++ xs.filterMap o, r0) := by
  rw [loopC_map (o := outC ft tt fe r0)]
  · congr 3
    rw [List.filterMap_map]
    clear hl
    induction xs with
    | nil => rfl
    | cons x xs ih =>
      obtain ⟨r', h1, _⟩ := h x List.mem_cons_self
      have e : outC ft tt fe r0 (f x) = o x := by unfold outC; rw [h1]
      rw [List.filterMap_cons, List.filterMap_cons, ih fun y hy => h y (List.mem_cons_of_mem _ hy)]
      rw [show (outC ft tt fe r0 ∘ f) x = o x from e]
  · intro d hd
    obtain ⟨x, hx, rfl⟩ := List.mem_map.mp hd
    obtain ⟨r', h1, h2⟩ := h x hx
    exact ⟨r', by unfold outC; rw [h1], h2⟩
  · rw [List.length_map]; exact hl
theorem loopC_mapM {α : Type} {vs : List Nat} {ft : FGt} {tt : FT} {fe : FE} {r0 : Env} {xs : List α} {acc : List D} (f g : α → D) (h : ∀ x ∈ xs, ∃ r', turnC ft tt fe (f x) r0 = .ok (some (g x), r') ∧ unAll r' vs = r0) (hl : acc.length + xs.length ≤ sizeLine) :
    loopC vs ft tt fe (xs.map f) r0 acc = .ok (acc ++ xs.map g, r0) := by
  rw [loopC_mapA f (fun x => some (g x)) h hl]
  congr 3
  rw [← List.filterMap_eq_map]
  rfl
end Ev

/-! E34: x[k] op= e and x[k], y = e1, e2 of an own x; d.get(k, x). -/
namespace Ev
open PySem PySem.Spec PyProof.Rows L2
variable [TabsC]
def oSK {α : Type} (m : Option α) (g : α → Fl) (_ : Wt g) : Fl := match m with
  | some a => g a
  | none => .stuck
def obS {α : Type} (m : Option α) (g : α → Fl) : Fl := match m with
  | some a => g a
  | none => .stuck
@[simp] theorem oSK_some {α : Type} (a : α) (g : α → Fl) (w : Wt g) : oSK (some a) g w = g a := rfl
def pairF (d : D) (k : D → D → Fl) : Fl := match d with
  | .tup [a, b] => k a b
  | _ => .stuck
def pFK (d : D) (k : D → D → Fl) (_ : Wt k) : Fl := pairF d k
@[simp] theorem pFK_t (a b : D) (k : D → D → Fl) (w : Wt k) : pFK (.tup [a, b]) k w = k a b := rfl
section
variable {X : Cx} {E : XK}
/-! ### reading an own object's part -/
def rGetC (K : PySem.W.Frag) : V → V → Hp → VK → Prop := fun o i H Q => ∃ F a c dk d, o = .ref a ∧ Same F H ∧ CRep K F H a c ∧ Rep K F dk i ∧ gIxA c.d dk = some d ∧ ∀ v, Rep K F d v → Q v H
theorem getC_ok (hu : X.A.units + 1 < cLine) : PGet X (rGetC X.K) := fun pins s σ H o i ov iv Q I ro ri ⟨F, a, c, dk, d, e1, f1, hc, hk, e, q⟩ => by
  subst e1
  obtain rfl : ov = Value.ref a := ro
  cases c with
  | dct kvs =>
    obtain ⟨us, h1, h2⟩ := hc
    obtain ⟨k, e1, e2⟩ := Option.bind_eq_some_iff.mp (show (keyOf dk).bind (valD kvs) = some d from e)
    have z := h2.val k
    rw [e2] at z
    obtain ⟨w, h3, h4⟩ := z
    rw [keyOf_rep e1 hk] at ri
    exact d_getItem hu I (by rw [← h3]; exact DGet.k h1) ri fun w' s3 I3 rw' => ⟨w, H, I3, rw', q w h4⟩
  | lst ds =>
    cases dk with
    | int k =>
      obtain ⟨xs, h1, h2⟩ := hc
      obtain ⟨z, e2, h3⟩ := h2.at (show gIx (.lst ds) (.int k) = some d from e)
      rw [show i = V.int k from hk] at ri
      obtain ⟨t, rfl⟩ := ri
      obtain ⟨its, rv, pl, hz⟩ := I.list (SqL.of h1)
      obtain ⟨j, g1, g2, g3, g4, g5⟩ := atI_get e2
      obtain ⟨w, ew, rw'⟩ := rv.get g2
      have hl := rv.length
      have hn := line63
      have fin : EP X pins σ Q w s := ⟨z, H, I, rw', q z h3⟩
      by_cases h0 : 0 ≤ k
      · have hj : k.toNat = j := by
          rw [seqIndex_of h0 g5] at g1
          exact Option.some.inj g1
        exact wpAny_getItem_list pl.isList h0 (by omega) (by rw [hj]; simpa using ew) fin
      · have hj : (k + (its.toArray.size : Int)).toNat = j := by
          rw [seqIndex_neg (show k < 0 by omega) g4] at g1
          rw [List.size_toArray, ← rv.length]
          exact Option.some.inj g1
        exact wpAny_getItem_list_neg pl.isList (by omega) (by rw [List.size_toArray]; omega) (by omega) (by rw [hj]; simpa using ew) fin
    | _ => cases e
/-! ### x[k] op= e -/
variable {idx e e1 e2 o f : Expr} {x y : Str} {i j : Nat} {p p2 p3 p4 p5 pos apos cpos : Pos} {op : Operator} {g : D → D → Option D} {fi fe fk fd f1 f2 : FE} {fa : FB} {kk kk2 : Nat}
def fAugPut (i : Nat) (fi : FE) (g : D → D → Option D) (fe : FE) : FS := fun r => ownF r[i]? fun _ _ => thenS (fi r) fun k r1 => ownF r1[i]? fun _ c => obS (gIxA c.d k) fun x => thenS (fe r1) fun y r2 => obS (g x y) fun z => ownF r2[i]? fun p c2 => obC (gPut c2 k z) fun c' => .nx (r2.set i (.own p c'))
theorem SPost.own {K : PySem.W.Frag} {mg : Str → Option Value} {B : Base} {F : Hp} {D' : Ends} {m : Option Slot} {k : Bool → C → Fl} (h : SPost K mg E B F D' (ownF m k)) : ∃ p c, m = some (.own p c) ∧ SPost K mg E B F D' (k p c) := by
  match m, h with
  | some (.own p c), h => exact ⟨p, c, rfl, h⟩
  | none, h => exact False.elim h
  | some .un, h => exact False.elim h
  | some (.val _), h => exact False.elim h
  | some (.rf _), h => exact False.elim h
theorem SPost.obS {α : Type} {K : PySem.W.Frag} {mg : Str → Option Value} {B : Base} {F : Hp} {D' : Ends} {m : Option α} {k : α → Fl} (h : SPost K mg E B F D' (Ev.obS m k)) : ∃ a, m = some a ∧ SPost K mg E B F D' (k a) := by
  match m, h with
  | some a, h => exact ⟨a, rfl, h⟩
  | none, h => exact False.elim h
theorem SPost.obC {K : PySem.W.Frag} {mg : Str → Option Value} {B : Base} {F : Hp} {D' : Ends} {m : Option C} {k : C → Fl} (h : SPost K mg E B F D' (Ev.obC m k)) : ∃ a, m = some a ∧ SPost K mg E B F D' (k a) := by
  match m, h with
  | some a, h => exact ⟨a, rfl, h⟩
  | none, h => exact False.elim h
theorem es_augPut (hu : X.A.units + 1 < cLine) (ho : PE X (.Name x p) (tVar i)) (hi : EvE X E idx fi) (he : EvE X E e fe) (hop : OpD X (inplaceOp op) g)
    (ha : ∀ ov iv new, augStore idx ov iv new = (do holding [new, ov, iv] (setItem ov iv new); release [new, ov, iv] []; pure .next) := by intros; rfl) :
    EvS X E (.AugAssign (.Subscript (.Name x p) idx p2) op e pos) (fAugPut i fi g fe) := PS.imp (ps_augS ho hi (getC_ok hu) he hop (set_own hu) ha) fun D' s H ⟨B, F, O, r, R, q⟩ => by
  obtain ⟨p0, c0, m, q⟩ := SPost.own q
  obtain ⟨a, h1, _⟩ := R.on i p0 c0 m
  refine ⟨.ref a, h1, B, F, O, r, R, (SPost.split q).mono fun k r1 F1 O1 H1 R1 f1 k1 q1 kv hk => ?_⟩
  obtain ⟨p1, c1, m1, q1⟩ := SPost.own q1
  obtain ⟨z, ez, q1⟩ := SPost.obS q1
  obtain ⟨a', h2, h3, _⟩ := R1.on i p1 c1 m1
  obtain ⟨_, h4, _⟩ := R1.ow a' c1 h3
  rw [h1] at h2; cases h2
  refine ⟨F1, a, c1, k, z, rfl, R1.fh, h4, hk, ez, fun xv hx => ⟨B, F1, O1, r1, R1, (SPost.split q1).mono fun y r2 F2 O2 H2 R2 f2 k2 q2 yv hy => ?_⟩⟩
  obtain ⟨w, ew, q2⟩ := SPost.obS q2
  refine ⟨F2, z, y, w, R2.fh, Rep.b R2.fh (hx.mono f2), Rep.b R2.fh hy, ew, fun zv F' H' gr hz => ?_⟩
  have R3 := R2.grow gr
  obtain ⟨p2, c2, m2, q2⟩ := SPost.own q2
  obtain ⟨c', ec, q2⟩ := SPost.obC q2
  obtain ⟨a', h5, h6, _⟩ := R3.on i p2 c2 m2
  obtain ⟨_, h7, _⟩ := R3.ow a' c2 h6
  rw [h1] at h5; cases h5
  refine ⟨F', a, c2, k, w, c', rfl, R3.fh, h7, (hk.mono f2).mono gr.ff, hz, ec, fun ob hc => ?_⟩
  obtain ⟨R4, _⟩ := R3.mut m2 h1 hc
  exact q2 F' _ _ s R4 gr.ff
/-! ### x[k], y = e1, e2 -/
def fPutN (i : Nat) (fi : FE) (j : Nat) (f : FE) : FS := fun r => thenS (f r) fun d r1 => pairF d fun d1 d2 => ownF r1[i]? fun _ _ => thenS (fi r1) fun k r2 => ownF r2[i]? fun p c => obC (gPut c k d1) fun c' => obF (setN j d2 (r2.set i (.own p c'))) .nx
theorem es_putN {fe : FE} (hc : X.calm = true) (hu : X.A.units + 1 < cLine) (ho : PE X (.Name x p) (tVar i)) (hi : EvE X E idx fi) (hn : PG X (.Name y p3) (gName j)) (he : EvE X E e fe)
    (ha : ∀ v, assign (.Subscript (.Name x p) idx p2) X.env v = (do
      let ov ← holding [v] (eval (.Name x p) X.env)
      let iv ← holding [v, ov] (eval idx X.env)
      standAt p2
      holding [v, ov, iv] (setItem ov iv v)
      release [v, ov, iv] []) := by intro _; rfl)
    (hs : swapsWithSole [.Tuple [.Subscript (.Name x p) idx p2, .Name y p3] kk p4] e pos.line X.env = pure false := by rfl) (hw : swappedStores [.Tuple [.Subscript (.Name x p) idx p2, .Name y p3] kk p4] e X.env = pure none := by rfl) (h1 : (assignEach [.Tuple [.Subscript (.Name x p) idx p2, .Name y p3] kk p4] X.env).map (·.2) = [assign (.Tuple [.Subscript (.Name x p) idx p2, .Name y p3] kk p4) X.env] := by rfl)
    (hl : (assignEach [.Subscript (.Name x p) idx p2, .Name y p3] X.env).length = 2 := by rfl) (hst : (assignEach [.Subscript (.Name x p) idx p2, .Name y p3] X.env).findIdx? (·.1) = none := by rfl)
    (ha1 : (assignEach [.Subscript (.Name x p) idx p2, .Name y p3] X.env).map (·.2) = assign (.Subscript (.Name x p) idx p2) X.env :: (assignEach [.Name y p3] X.env).map (·.2) := by rfl) (ha2 : (assignEach [.Name y p3] X.env).map (·.2) = assign (.Name y p3) X.env :: (assignEach [] X.env).map (·.2) := by rfl) :
    EvS X E (.Assign [.Tuple [.Subscript (.Name x p) idx p2, .Name y p3] kk p4] e pos) (fPutN i fi j fe) :=
  PS.imp (ps_asg he (pg_tup hc (pgs_cons (pg_sub ho hi (set_own hu) ha) (pgs_cons hn pgs_nil ha2) ha1) hl hst) hs hw h1) fun D' s H ⟨B, F, O, r, R, q⟩ => by
  refine ⟨B, F, O, r, R, (SPost.split q).mono fun d r1 F1 O1 H1 R1 f1 k1 q1 v hv => ?_⟩
  obtain ⟨d1, d2, rfl⟩ : ∃ d1 d2, d = .tup [d1, d2] := by
    match d, q1 with
    | .tup [d1, d2], _ => exact ⟨d1, d2, rfl⟩
    | .non, q1 => exact False.elim q1
    | .bl _, q1 => exact False.elim q1
    | .int _, q1 => exact False.elim q1
    | .str _, q1 => exact False.elim q1
    | .lst _, q1 => exact False.elim q1
    | .dct _, q1 => exact False.elim q1
    | .tup [], q1 => exact False.elim q1
    | .tup [_], q1 => exact False.elim q1
    | .tup (_ :: _ :: _ :: _), q1 => exact False.elim q1
  obtain ⟨a, xs, ev, ha1, x1, r1', ex, g1, x2, r2', ex2, g2, ex3⟩ := hv
  have ex3 : r2' = [] := ex3
  subst ex3; subst ex2; subst ex; subst ev
  have q1 : SPost X.K X.mg E B F1 D' (ownF r1[i]? fun _ _ => thenS (fi r1) fun k r2 => ownF r2[i]? fun p c => Ev.obC (gPut c k d1) fun c' => obF (setN j d2 (r2.set i (.own p c'))) .nx) := q1
  obtain ⟨p0, c0, m, q1⟩ := SPost.own q1
  obtain ⟨b, h1, _⟩ := R1.on i p0 c0 m
  refine ⟨a, [x1, x2], rfl, same_seqT R1.fh ha1, rfl, x1, [x2], rfl, .ref b, h1, B, F1, O1, r1, R1, (SPost.split q1).mono fun k r2 F2 O2 H2 R2 f2 k2 q2 kv hk => ?_⟩
  obtain ⟨p1, c1, m1, q2⟩ := SPost.own q2
  obtain ⟨c', ec, q2⟩ := SPost.obC q2
  obtain ⟨b', h2, h3, _⟩ := R2.on i p1 c1 m1
  obtain ⟨_, h4, _⟩ := R2.ow b' c1 h3
  rw [h1] at h2; cases h2
  refine ⟨F2, b, c1, k, d1, c', rfl, R2.fh, h4, hk, g1.mono f2, ec, fun ob hc => ?_⟩
  obtain ⟨R3, _⟩ := R2.mut m1 h1 hc
  refine ⟨x2, [], rfl, rfl, ?_⟩
  cases m2 : setN j d2 (r2.set i (.own p1 c')) with
  | none => rw [m2] at q2; exact False.elim q2
  | some r3 =>
    rw [m2] at q2
    obtain ⟨hj1, hj2, hj3⟩ := setN_at m2
    subst hj3
    exact q2 F2 _ _ _ (R3.store hj1 hj2 (g2.mono f2)) (.refl _)
/-! ### d.get(k, x) -/
def gGetD : D → D → D → Option D
  | .dct kvs, k, z => (keyOf k).map fun k => (valD kvs k).getD z
  | _, _, _ => none
def fGetD (fa : FB) (fk fd : FE) : FE := fun r => (fa r).bnd fun b r1 => obnd (bGet r1 b) fun dx0 => brB (match dx0 with | .dct _ => true | _ => false) ((fk r1).bnd fun dk r2 => (fd r2).bnd fun dd r3 => obnd (bGet r3 b) fun dx => obnd (gGetD dx dk dd) fun d => .ok (d, r3)) .stuck
theorem getD_reads {s : Sg} {H : Hp} {Q : VK} (h : tE X.K X.mg E (fGetD fa fk fd) s H Q) : tDGet2 (tB X.K X.mg E fa) (tE X.K X.mg E fk) (tE X.K X.mg E fd) s H Q := by
  obtain ⟨B, F, O, r, R, q⟩ := h
  refine ⟨B, F, O, r, R, (Post.split q).mono fun b r1 F1 O1 H1 R1 f1 k1 q1 v hv => ?_⟩
  obtain ⟨dx0, e0, q1⟩ := Post.opt q1
  have rb := R1.bget hv e0
  cases dx0 with
  | dct kvs =>
    obtain ⟨a, us, rfl, hH, hr⟩ := rb
    have q1 : Post X.K X.mg E B F1 O1 r1 s ((fk r1).bnd fun dk r2 => (fd r2).bnd fun dd r3 => obnd (bGet r3 b) fun dx => obnd (gGetD dx dk dd) fun d => .ok (d, r3)) (fun d _ F' _ H' => ∀ v, Rep X.K F' d v → Q v H') := q1
    refine ⟨a, rfl, .inl ⟨us, hH⟩, B, F1, O1, r1, R1, (Post.split q1).mono fun dk r2 F2 O2 H2 R2 f2 k2 q2 kv hk => ⟨B, F2, O2, r2, R2, (Post.split q2).mono fun dd r3 F3 O3 H3 R3 f3 k3 q3 dv hd => ?_⟩⟩
    obtain ⟨dx, ex, q3⟩ := Post.opt q3
    obtain ⟨z, ez, q3⟩ := Post.opt q3
    have rb := R3.bget ((hv.mono f2).mono f3) ex
    cases dx with
    | dct kvs' =>
      obtain ⟨a', us', e', h', r'⟩ := rb
      cases e'
      obtain ⟨kk, e1, e2⟩ := Option.map_eq_some_iff.mp (show (keyOf dk).map (fun k => (valD kvs' k).getD dd) = some z from ez)
      subst e2
      rw [keyOf_rep e1 (hk.mono f3)]
      refine ⟨valV us' kk, .inl ⟨us', kk, h', rfl, rfl⟩, ?_⟩
      refine Post.ok (k := fun d _ F' _ H' => ∀ v, Rep X.K F' d v → Q v H') q3 R3 (.refl _) .refl _ ?_
      have := r'.val kk
      cases m : valD kvs' kk with
      | none => rw [m] at this; rw [this]; exact hd
      | some d => rw [m] at this; obtain ⟨w, g1, g2⟩ := this; rw [g1]; exact g2
    | _ => cases ez
  | _ => exact False.elim q1
theorem ev_getD (hu : X.A.units + 1 < cLine) (ho : EvB X E o fa) (he : EvE X E e fk) (hf : EvE X E f fd) (hm : M2 X o "get" apos e f cpos) : EvE X E (.Call (.Attribute o "get" apos) [e, f] [] cpos) (fGetD fa fk fd) :=
  PE.imp (pe_dget2 hu ho he hf hm) fun s H Q h => getD_reads h
end
@[simp ↓] theorem ap_fAugPut (i : Nat) (fi : FE) (g : D → D → Option D) (fe : FE) (r : Env) : fAugPut i fi g fe r = wFK r[i]? (fun _ _ => tK (fi r) (fun k r1 => wFK r1[i]? (fun _ c => oSK (gIxA c.d k) (fun x => tK (fe r1) (fun y r2 => oSK (g x y) (fun z => wFK r2[i]? (fun p c2 => oCK (gPut c2 k z) (fun c' => .nx (r2.set i (.own p c'))) ⟨⟩) ⟨⟩) ⟨⟩) ⟨⟩) ⟨⟩) ⟨⟩) ⟨⟩) ⟨⟩ := (rfl)
@[simp ↓] theorem ap_fPutN (i : Nat) (fi : FE) (j : Nat) (f : FE) (r : Env) : fPutN i fi j f r = tK (f r) (fun d r1 => pFK d (fun d1 d2 => wFK r1[i]? (fun _ _ => tK (fi r1) (fun k r2 => wFK r2[i]? (fun p c => oCK (gPut c k d1) (fun c' => obF (setN j d2 (r2.set i (.own p c'))) .nx) ⟨⟩) ⟨⟩) ⟨⟩) ⟨⟩) ⟨⟩) ⟨⟩ := (rfl)
@[simp ↓] theorem ap_fGetD (fa : FB) (fk fd : FE) (r : Env) : fGetD fa fk fd r = bK (fa r) (fun b r1 => oK (bGet r1 b) (fun dx0 => brK (match dx0 with | .dct _ => true | _ => false) (bK (fk r1) (fun dk r2 => bK (fd r2) (fun dd r3 => oK (bGet r3 b) (fun dx => oK (gGetD dx dk dd) (fun d => .ok (d, r3)) ⟨⟩) ⟨⟩) ⟨⟩) ⟨⟩) .stuck ⟨⟩ ⟨⟩) ⟨⟩) ⟨⟩ := (rfl)
end Ev

/-! E35: the flow of drawn numbers (the other kind of hand); repeated tuples; equality of a thing with itself. -/
namespace Ev
open PySem L2
variable [TabsC]
def flw (cells : List Int) (i s b : Int) : C := .lst [.lst (cells.map .int), .int i, .int s, .int b]
def IsFlow (c : C) : Prop := ∃ cells i s b, 0 ≤ i ∧ c = flw cells i s b
theorem fx0 (l : D) (i s b : Int) : gIxA (.lst [l, .int i, .int s, .int b]) (.int 0) = some l := rfl
theorem fx1 (l : D) (i s b : Int) : gIxA (.lst [l, .int i, .int s, .int b]) (.int 1) = some (.int i) := rfl
theorem fx2 (l : D) (i s b : Int) : gIxA (.lst [l, .int i, .int s, .int b]) (.int 2) = some (.int s) := rfl
theorem fx3 (l : D) (i s b : Int) : gIxA (.lst [l, .int i, .int s, .int b]) (.int 3) = some (.int b) := rfl
theorem fp1 (l : D) (i s b : Int) (d : D) : gPut (.lst [l, .int i, .int s, .int b]) (.int 1) d = some (.lst [l, d, .int s, .int b]) := rfl
theorem fp2 (l : D) (i s b : Int) (d : D) : gPut (.lst [l, .int i, .int s, .int b]) (.int 2) d = some (.lst [l, .int i, d, .int b]) := rfl
theorem fp3 (l : D) (i s b : Int) (d : D) : gPut (.lst [l, .int i, .int s, .int b]) (.int 3) d = some (.lst [l, .int i, .int s, d]) := rfl
theorem isFlow (cells : List Int) (i s b : Int) (h : 0 ≤ i) : IsFlow (.lst [.lst (cells.map .int), .int i, .int s, .int b]) := ⟨cells, i, s, b, h, rfl⟩
@[simp] theorem gIAdd_ii (i j : Int) : gIAdd (.int i) (.int j) = some (.int (i + j)) := rfl
theorem lay_of_okEq {d : D} (h : okEq d = true) : d.py.canLay0 = true := by
  unfold okEq SeqAt.shaped at h
  rw [Bool.and_eq_true, Bool.and_eq_true] at h
  exact h.2.1
theorem eq_self {d : D} (h : okEq d = true) : gEq d d = some (.bl true) := by
  unfold gEq
  rw [h, SeqAt.eqv_refl _ (lay_of_okEq h)]
  rfl
theorem ne_self {d : D} (h : okEq d = true) : gNe d d = some (.bl false) := by
  unfold gNe
  rw [h, SeqAt.eqv_refl _ (lay_of_okEq h)]
  rfl
theorem rep_tupD (d : D) {k : Nat} (h : k ≤ 1000) : gMulA (.tup [d]) (.int (k : Nat)) = some (.tup (List.replicate k d)) := by
  show (if ([d] : List D) ≠ [] ∧ -1000 ≤ (k : Int) ∧ (k : Int) ≤ 1000 ∧ ([d] : List D).length ≤ 1000 then some (D.tup (List.replicate (k : Int).toNat [d]).flatten) else none) = _
  rw [if_pos ⟨by simp, by omega, by omega, by simp⟩, Int.toNat_natCast, flat_one]
theorem tinys_ints : ∀ {xs : List Int}, (∀ x ∈ xs, x.natAbs < 10 ^ 12) → D.tinys (xs.map .int) = true
  | [], _ => rfl
  | x :: xs, h => by
    simp only [List.map_cons, D.tinys, D.tiny, Bool.and_eq_true, decide_eq_true_eq]
    exact ⟨h x List.mem_cons_self, tinys_ints fun y hy => h y (List.mem_cons_of_mem _ hy)⟩
theorem parts_ints : ∀ xs : List Int, D.partsL (xs.map .int) = xs.length
  | [] => rfl
  | x :: xs => by
    simp only [List.map_cons, D.partsL, D.parts, parts_ints xs, List.length_cons]; omega
theorem sum_rng : ∀ {xs : List Int} {b : Int}, 0 ≤ b → (∀ x ∈ xs, 0 ≤ x ∧ x ≤ b) → 0 ≤ xs.sum ∧ xs.sum ≤ b * xs.length
  | [], b, hb, _ => by simp
  | x :: xs, b, hb, h => by
    have h1 := h x List.mem_cons_self
    have h2 := sum_rng hb fun y hy => h y (List.mem_cons_of_mem _ hy)
    rw [List.sum_cons, List.length_cons]
    have : b * ((xs.length + 1 : Nat) : Int) = b * (xs.length : Int) + b := by push_cast; rw [Int.mul_add, Int.mul_one]
    omega
theorem fm_filter {α β : Type} (p : α → Bool) (g : α → β) : ∀ xs : List α, xs.filterMap (fun s => if p s = true then some (g s) else none) = (xs.filter p).map g
  | [] => rfl
  | x :: xs => by
    rw [List.filterMap_cons, List.filter_cons]
    by_cases h : p x = true
    · simp [h, fm_filter p g xs]
    · simp [h, fm_filter p g xs]
/-- a while loop whose measure falls -/
theorem loopW_le {ft : FT} {fb : FS} (I : Nat → Ev.Env → Prop) (J : Ev.Env → Prop) (hs : ∀ m r, I m r → (∃ r1, ft r = .ok (false, r1) ∧ J r1) ∨ (∃ k r1 r2, k < m ∧ ft r = .ok (true, r1) ∧ fb r1 = .nx r2 ∧ I k r2)) :
    ∀ (N m : Nat) (r : Ev.Env), m < N → I m r → ∃ r', loopW ft fb N r = .nx r' ∧ J r'
  | 0, m, r, h, _ => by omega
  | N + 1, m, r, h, hi => by
    rcases hs m r hi with ⟨r1, h1, h2⟩ | ⟨k, r1, r2, hk, h1, h2, h3⟩
    · refine ⟨r1, ?_, h2⟩
      show thenS (ft r) _ = _
      rw [h1]
      rfl
    · obtain ⟨r', h4, h5⟩ := loopW_le I J hs N k r2 (by omega) h3
      refine ⟨r', ?_, h5⟩
      show thenS (ft r) _ = _
      rw [h1, thenS_ok, if_pos rfl, h2]
      exact h4
theorem gMax2_ii (i j : Int) : gMax2 (.int i) (.int j) = some (.int (max i j)) := by
  by_cases h : i < j
  · simp [gMax2, h, Int.max_def] <;> omega
  · simp [gMax2, h, Int.max_def] <;> omega
theorem gMin2_ii (i j : Int) : gMin2 (.int i) (.int j) = some (.int (min i j)) := by
  by_cases h : j < i
  · simp [gMin2, h, Int.min_def] <;> omega
  · simp [gMin2, h, Int.min_def] <;> omega
@[simp] theorem vsl_some (d : D) : vsl (some d) = .val d := rfl
@[simp] theorem vsl_none : vsl none = .un := rfl
theorem rgI_at {n i : Nat} {d : D} (h : ((rgI n).map D.int)[i]? = some d) : i < n ∧ d = .int (i : Nat) := by
  obtain ⟨h1, h2⟩ := List.getElem?_eq_some_iff.mp h
  rw [List.length_map, rgI_len] at h1
  refine ⟨h1, ?_⟩
  rw [← h2]
  simp [rgI]
end Ev

/-! E36: zip, in, the last one. -/
namespace Ev
open PySem L2
variable [TabsC]
def zip2 : List D → Option (List D)
  | [.lst xs, .lst ys] => some (zipD xs ys)
  | [.tup xs, .tup ys] => some (zipD xs ys)
  | _ => none
@[simp] theorem zip2_l (xs ys : List D) : zip2 [.lst xs, .lst ys] = some (zipD xs ys) := rfl
@[simp] theorem zip2_t (xs ys : List D) : zip2 [.tup xs, .tup ys] = some (zipD xs ys) := rfl
theorem fZip_eq (fl : FL) (r : Env) : fZip fl r = (fl r).bnd fun ds r1 => obnd (zip2 ds) fun es => .ok (es, r1) := by
  unfold fZip
  congr 1
  funext ds r1
  unfold zip2
  split
  · rfl
  · rfl
  · rename_i h1 h2
    first
    | rfl
    | (split
       · rename_i xs ys; exact absurd rfl (h1 xs ys)
       · rename_i xs ys; exact absurd rfl (h2 xs ys)
       · rfl)
@[simp ↓] theorem ap_fZip (fl : FL) (r : Env) : fZip fl r = bK (fl r) (fun ds r1 => oK (zip2 ds) (fun es => .ok (es, r1)) ⟨⟩) ⟨⟩ := fZip_eq fl r
theorem zipD_map {α β : Type} (f : α → D) (g : β → D) (xs : List α) (ys : List β) : zipD (xs.map f) (ys.map g) = (xs.zip ys).map fun p => D.tup [f p.1, g p.2] := by
  unfold zipD
  rw [List.zip_map, List.map_map]
  rfl
theorem atI_last {α : Type} (ds : List α) (d : α) : atI (ds ++ [d]) (-1) = some d := by
  unfold atI ixN
  rw [List.length_append, List.length_singleton, if_neg (by decide), if_pos (by omega)]
  have : ((-1 : Int) + ((ds.length + 1 : Nat) : Int)).toNat = ds.length := by omega
  show (ds ++ [d])[((-1 : Int) + ((ds.length + 1 : Nat) : Int)).toNat]? = some d
  rw [this, List.getElem?_append_right (Nat.le_refl _)]
  simp
theorem last_l (ds : List D) (d : D) : gIxA (.lst (ds ++ [d])) (.int (-1)) = some d := atI_last ds d
theorem last_t (ds : List D) (d : D) : gIxA (.tup (ds ++ [d])) (.int (-1)) = some d := atI_last ds d
theorem in_ints (x : Int) : ∀ ys : List Int, inD (.int x) (ys.map .int) = decide (x ∈ ys)
  | [] => by simp [inD]
  | y :: ys => by
    have ih := in_ints x ys
    unfold inD at ih ⊢
    rw [List.map_cons, List.any_cons, ih]
    show ((y == x) || _) = _
    by_cases h : y = x
    · subst h; simp
    · have : ¬ x = y := fun z => h z.symm
      simp [h, this]
theorem okEq_int (x : Int) : okEq (.int x) = true := by
  unfold okEq SeqAt.shaped
  simp [D.noDct, D.py, PyData.canLay0, PyData.depth]
theorem gIn_t (x : Int) (ys : List Int) : gIn (.int x) (.tup (ys.map .int)) = some (.bl (decide (x ∈ ys))) := by
  show (if okEq (.int x) && okEq (tpI ys) then some (D.bl (inD (.int x) (ys.map .int))) else none) = _
  rw [okEq_int, okEq_tpI, in_ints]; rfl
theorem gIn_l (x : Int) (ys : List Int) : gIn (.int x) (.lst (ys.map .int)) = some (.bl (decide (x ∈ ys))) := by
  show (if okEq (.int x) && okEq (lsI ys) then some (D.bl (inD (.int x) (ys.map .int))) else none) = _
  rw [okEq_int, okEq_lsI, in_ints]; rfl
theorem gIn_2 (x a b : Int) : gIn (.int x) (.tup [.int a, .int b]) = some (.bl (decide (x = a ∨ x = b))) := by
  have := gIn_t x [a, b]
  simpa using this
end Ev

/-! E37: a for loop that may give back, by the turn's number. -/
namespace Ev
open PySem L2
variable [TabsC]
theorem loopF_stop {ft : FGt} {fb : FS} (I : Nat → Env → Prop) (J : Env → Prop) (bad : Nat → Prop) (v : Nat → D) : ∀ {ds : List D} (k : Nat) {r : Env}, I k r →
    (∀ (i : Nat) (d : D) (r : Env), ds[i]? = some d → I (k + i) r → (¬ bad (k + i) ∧ ∃ r', (obF (ft d r) fb = .nx r' ∨ obF (ft d r) fb = .ct r') ∧ I (k + i + 1) r') ∨ (bad (k + i) ∧ ∃ r', obF (ft d r) fb = .rt (v (k + i)) r' ∧ J r')) →
    ((∀ i, i < ds.length → ¬ bad (k + i)) ∧ ∃ r', loopF ft fb ds r = .nx r' ∧ I (k + ds.length) r') ∨ (∃ i, i < ds.length ∧ bad (k + i) ∧ (∀ j, j < i → ¬ bad (k + j)) ∧ ∃ r', loopF ft fb ds r = .rt (v (k + i)) r' ∧ J r')
  | [], k, r, h, _ => .inl ⟨fun i hi => absurd hi (Nat.not_lt_zero i), r, rfl, h⟩
  | d :: ds, k, r, h, st => by
    rcases st 0 d r rfl h with ⟨nb, r', h1, h2⟩ | ⟨b, r', h1, h2⟩
    · have e : loopF ft fb (d :: ds) r = loopF ft fb ds r' := by
        rw [loopF_cons]
        cases m : ft d r with
        | none => rw [m] at h1; rcases h1 with h1 | h1 <;> cases h1
        | some r1 =>
          rw [m] at h1
          rw [obF_some] at h1 ⊢
          rcases h1 with h1 | h1
          · rw [h1, loopK_nx]
          · rw [h1, loopK_ct]
      have ih := loopF_stop I J bad v (ds := ds) (k + 1) h2 fun i d r hd hi => by
        have := st (i + 1) d r (by simpa using hd) (by rw [show k + (i + 1) = k + 1 + i by omega]; exact hi)
        rw [show k + (i + 1) = k + 1 + i by omega] at this
        exact this
      rw [e]
      rcases ih with ⟨g1, r'', g2, g3⟩ | ⟨i, g1, g2, g3, g4⟩
      · refine .inl ⟨fun i hi => ?_, r'', g2, by rw [List.length_cons, show k + (ds.length + 1) = k + 1 + ds.length by omega]; exact g3⟩
        cases i with
        | zero => exact nb
        | succ i => rw [show k + (i + 1) = k + 1 + i by omega]; exact g1 i (by rw [List.length_cons] at hi; omega)
      · refine .inr ⟨i + 1, by rw [List.length_cons]; omega, by rw [show k + (i + 1) = k + 1 + i by omega]; exact g2, fun j hj => ?_, by rw [show k + (i + 1) = k + 1 + i by omega]; exact g4⟩
        cases j with
        | zero => exact nb
        | succ j => rw [show k + (j + 1) = k + 1 + j by omega]; exact g3 j (by omega)
    · refine .inr ⟨0, by rw [List.length_cons]; omega, b, fun j hj => absurd hj (Nat.not_lt_zero j), r', ?_, h2⟩
      rw [loopF_cons]
      cases m : ft d r with
      | none => rw [m] at h1; cases h1
      | some r1 =>
        rw [m] at h1
        rw [obF_some] at h1 ⊢
        rw [h1, loopK_rt]
end Ev

/-! E38: repr of data with dicts. -/
namespace Ev
open PySem PySem.Spec PyProof.Rows L2
variable [TabsC]
def keyPy : Key → PyData
  | .inl i => .int i
  | .inr x => .str x
mutual
def D.pyA : D → PyData
  | .non => .none
  | .bl b => .bool b
  | .int i => .int i
  | .str x => .str x
  | .tup ds => .tuple (D.pyAs ds)
  | .lst ds => .list (D.pyAs ds)
  | .dct kvs => .dict (D.pyKs kvs)
def D.pyAs : List D → List PyData
  | [] => []
  | d :: ds => d.pyA :: D.pyAs ds
def D.pyKs : List (Key × D) → List (PyData × PyData)
  | [] => []
  | (k, d) :: ds => (keyPy k, d.pyA) :: D.pyKs ds
end
/-! ### a dict stands nowhere at sysModules -/
section
variable {prog : Program} {w : World} {g : Heap}
def NoD (g : Heap) : Prop := ∀ o, g.get? sysModules = some o → o.cls ≠ .type "dict"
theorem NoD.ne (nd : NoD g) {b : Addr} {o : Obj} (e : g.get? b = some o) (c : o.cls = .type "dict") : (b == sysModules) = false := beq_eq_false_iff_ne.mpr fun z => nd o (by rw [← z]; exact e) c
theorem leafK {v : Value} {d : PyData} {as : List Addr} (r : Reads g v d as) (hd : d.hasDict = false) (hs : d.showable = true) (hz : d.shown.length ≤ sizeLine) : ∃ bs, ReadAtMost g d.depth bs ∧ ReprK prog w bs g d.depth v d.shown :=
  ReprK.of_reads r hs (PyData.noDict_hsm hd) hz
theorem kv_parts (nd : NoD g) {kvs : List (PyData × PyData)} {ks vs : List Value} (hs : PyData.showableKv kvs = true) (hz : (dictText (PyData.shownKv kvs)).length ≤ sizeLine)
    (k1 : PyData.showableAll (kvs.map (·.1)) = true → (∀ t ∈ PyData.shownAll (kvs.map (·.1)), t.length ≤ sizeLine) → ∃ bs, ReadAtMost g (PyData.depthAll (kvs.map (·.1))) bs ∧ ReprAllK prog w bs g (PyData.depthAll (kvs.map (·.1))) ks (PyData.shownAll (kvs.map (·.1))))
    (k2 : PyData.showableAll (kvs.map (·.2)) = true → (∀ t ∈ PyData.shownAll (kvs.map (·.2)), t.length ≤ sizeLine) → ∃ bs, ReadAtMost g (PyData.depthAll (kvs.map (·.2))) bs ∧ ReprAllK prog w bs g (PyData.depthAll (kvs.map (·.2))) vs (PyData.shownAll (kvs.map (·.2)))) :
    ∃ bs, ReadAtMost g (PyData.depthKv kvs) bs ∧ ReprAllK prog w bs g (PyData.depthKv kvs) ks (PyData.shownAll (kvs.map (·.1))) ∧ ReprAllK prog w bs g (PyData.depthKv kvs) vs (PyData.shownAll (kvs.map (·.2))) := by
  obtain ⟨a1, a2⟩ := PyData.showableKv_split kvs hs
  obtain ⟨c1, m1, r1⟩ := k1 a1 fun t ht => by
    obtain ⟨p, hp, hl⟩ := PyData.shownKv_key_le kvs t ht
    have := dictText_mem_le hp
    omega
  obtain ⟨c2, m2, r2⟩ := k2 a2 fun t ht => by
    obtain ⟨p, hp, hl⟩ := PyData.shownKv_val_le kvs t ht
    have := dictText_mem_le hp
    omega
  have d1 := PyData.depthAll_keys_le kvs
  have d2 := PyData.depthAll_vals_le kvs
  exact ⟨c1 ++ c2, (m1.mono d1).append (m2.mono d2), r1.more_le (fun b => List.mem_append_left _) d1, r2.more_le (fun b => List.mem_append_right _) d2⟩
mutual
theorem showK (nd : NoD g) : ∀ {v : Value} {d : PyData} {as : List Addr}, Reads g v d as → d.showable = true → d.shown.length ≤ sizeLine → ∃ bs, ReadAtMost g d.depth bs ∧ ReprK prog w bs g d.depth v d.shown
  | _, _, _, .none, q, z => leafK .none (by simp [PyData.hasDict]) q z
  | _, _, _, .bool b, q, z => leafK (.bool b) (by simp [PyData.hasDict]) q z
  | _, _, _, .int i t, q, z => leafK (.int i t) (by simp [PyData.hasDict]) q z
  | _, _, _, .str x t, q, z => leafK (.str x t) (by simp [PyData.hasDict]) q z
  | _, _, _, .list (a := a) (vs := ys) (xs := ds) e1 e2 e3 e4, q, z => by
    have R : Reads g (.ref a) (.list ds) _ := .list e1 e2 e3 e4
    simp only [PyData.shown, PyData.depth] at z ⊢
    obtain ⟨bs, m, k⟩ := showKs nd e4 (by simpa [PyData.showable] using q) fun t ht => by
      have := listText_mem_le ht
      omega
    have far : a ∉ bs := not_mem_of_deeper R (by simp only [PyData.depth]; omega) m
    refine ⟨a :: bs, by have := ReadAtMost.cons R (by simp only [PyData.depth]; omega) m; simpa only [PyData.depth] using this, ?_⟩
    obtain ⟨ys⟩ := ys
    cases ys with
    | nil =>
      have e4 : ReadsAll g [] ds _ := e4
      cases e4
      simp only [PyData.shownAll]
      rw [listText_nil]
      exact ReprK.listEmpty e1 e2 e3
    | cons y ys => exact ReprK.list e1 e2 e3 far (by simpa using k.length_eq) fun i u hu => k.item i u (by simpa using hu)
  | _, _, _, .tuple (a := a) (vs := ys) (xs := ds) e1 e2 e3 e4, q, z => by
    have R : Reads g (.ref a) (.tuple ds) _ := .tuple e1 e2 e3 e4
    simp only [PyData.shown, PyData.depth] at z ⊢
    obtain ⟨bs, m, k⟩ := showKs nd e4 (by simpa [PyData.showable] using q) fun t ht => by
      have := tupleText_mem_le ht
      omega
    have far : a ∉ bs := not_mem_of_deeper R (by simp only [PyData.depth]; omega) m
    exact ⟨a :: bs, by have := ReadAtMost.cons R (by simp only [PyData.depth]; omega) m; simpa only [PyData.depth] using this, ReprK.tuple e1 e2 e3 far k⟩
  | _, _, _, .dict (a := a) (es := es) (kvs := kvs) e1 e2 e3 e4 e5, q, z => by
    have R : Reads g (.ref a) (.dict kvs) _ := .dict e1 e2 e3 e4 e5
    simp only [PyData.shown, PyData.depth] at z ⊢
    obtain ⟨bs, m, k1, k2⟩ := kv_parts nd (by simpa [PyData.showable] using q) z (fun q z => showKs nd e4 q z) (fun q z => showKs nd e5 q z)
    have far : a ∉ bs := not_mem_of_deeper R (by simp only [PyData.depth]; omega) m
    refine ⟨a :: bs, by have := ReadAtMost.cons R (by simp only [PyData.depth]; omega) m; simpa only [PyData.depth] using this, ?_⟩
    rw [PyData.shownKv_eq]
    exact ReprK.dict e1 e2 e3 (nd.ne e1 e2) far (ReprEntriesK.of_two es.toList _ _ k1 k2)
theorem showKs (nd : NoD g) : ∀ {vs : List Value} {ds : List PyData} {as : List Addr}, ReadsAll g vs ds as → PyData.showableAll ds = true → (∀ t ∈ PyData.shownAll ds, t.length ≤ sizeLine) → ∃ bs, ReadAtMost g (PyData.depthAll ds) bs ∧ ReprAllK prog w bs g (PyData.depthAll ds) vs (PyData.shownAll ds)
  | _, _, _, .nil, _, _ => ⟨[], fun _ h => (nomatch h), by simp only [PyData.shownAll]; exact .nil⟩
  | _, _, _, .cons (d := d) (ds := ds) r1 r2, q, z => by
    simp only [PyData.showableAll, Bool.and_eq_true] at q
    simp only [PyData.shownAll, PyData.depthAll] at z ⊢
    obtain ⟨b1, m1, k1⟩ := showK nd r1 q.1 (z _ List.mem_cons_self)
    obtain ⟨b2, m2, k2⟩ := showKs nd r2 q.2 fun t ht => z t (List.mem_cons_of_mem _ ht)
    exact ⟨b1 ++ b2, (m1.mono (Nat.le_max_left _ _)).append (m2.mono (Nat.le_max_right _ _)), .cons ((k1.more fun b => List.mem_append_left _).level_le (Nat.le_max_left _ _)) (k2.more_le (fun b => List.mem_append_right _) (Nat.le_max_right _ _))⟩
end
theorem repr_nd (nd : NoD g) {a : Addr} {d : PyData} {as : List Addr} {A : Around} {E : Value → Shared → Prop} {s : Shared} {Q : Value → Shared → Prop} (r : Reads g (.ref a) d as) (hs : d.showable = true) (hg : A.guards = some []) (hu : A.units + (d.depth + 1) < cLine) (hk : ∀ b o, g.get? b = some o → s.heap.get? b = some o)
    (hQ : ∀ h' u tk, (∀ b o, s.heap.get? b = some o → h'.get? b = some o) → Q (.str d.shown u) { s with heap := h', toks := tk }) (z : d.shown.length ≤ sizeLine) : wpAny (model prog w) A (call (.builtin "repr") [.ref a]) Q E s := by
  cases r with
  | list e1 e2 e3 e4 =>
    rename_i o ys n ds cs
    have R : Reads g (.ref a) (.list ds) _ := .list e1 e2 e3 e4
    simp only [PyData.shown, PyData.depth] at z hQ hu
    obtain ⟨bs, m, k⟩ := showKs (prog := prog) (w := w) nd e4 (by simpa [PyData.showable] using hs) fun t ht => by
      have := listText_mem_le ht
      omega
    have far : a ∉ bs := not_mem_of_deeper R (by simp only [PyData.depth]; omega) m
    refine call_repr_slot (by omega) ⟨o, hk _ _ e1, e2⟩ F.slot_list_repr.toG ?_
    obtain ⟨ys⟩ := ys
    cases ys with
    | nil =>
      have e4 : ReadsAll g [] ds _ := e4
      cases e4
      simp only [PyData.shownAll, listText_nil] at hQ
      exact call_list_repr_empty ⟨o, hk _ _ e1, e2⟩ (hk _ _ e1) e3 ⟨_, _, rfl, hQ s.heap _ _ fun _ _ e => e⟩
    | cons y ys => exact call_list_reprK e1 e2 e3 far (by simpa using k.length_eq) (fun i u hu => k.item i u (by simpa using hu)) hg (fun b _ => Clear.nil b) (by show A.units + 1 + _ < cLine; omega) hk (fun h' u tk hh => ⟨_, _, rfl, hQ h' u tk hh⟩) z
  | tuple e1 e2 e3 e4 =>
    rename_i o ys n ds
    have R : Reads g (.ref a) (.tuple ds) _ := .tuple e1 e2 e3 e4
    simp only [PyData.shown, PyData.depth] at z hQ hu
    obtain ⟨bs, m, k⟩ := showKs (prog := prog) (w := w) nd e4 (by simpa [PyData.showable] using hs) fun t ht => by
      have := tupleText_mem_le ht
      omega
    have far : a ∉ bs := not_mem_of_deeper R (by simp only [PyData.depth]; omega) m
    refine call_repr_slot (by omega) ⟨o, hk _ _ e1, e2⟩ F.slot_tuple_repr ?_
    exact call_tuple_reprK e1 e2 e3 far k hg (fun b _ => Clear.nil b) (by show A.units + 1 + _ < cLine; omega) hk (fun h' u tk hh => ⟨_, _, rfl, hQ h' u tk hh⟩) z
  | dict e1 e2 e3 e4 e5 =>
    rename_i o es n kvs c1 c2
    have R : Reads g (.ref a) (.dict kvs) _ := .dict e1 e2 e3 e4 e5
    simp only [PyData.shown, PyData.depth] at z hQ hu
    obtain ⟨bs, m, k1, k2⟩ := kv_parts (prog := prog) (w := w) nd (by simpa [PyData.showable] using hs) z (fun q z => showKs nd e4 q z) (fun q z => showKs nd e5 q z)
    have far : a ∉ bs := not_mem_of_deeper R (by simp only [PyData.depth]; omega) m
    refine call_repr_slot (by omega) ⟨o, hk _ _ e1, e2⟩ F.slot_dict_repr ?_
    rw [PyData.shownKv_eq] at z hQ
    exact call_dict_reprK e1 e2 e3 (nd.ne e1 e2) far (ReprEntriesK.of_two es.toList _ _ k1 k2) hg (fun b _ => Clear.nil b) (by show A.units + 1 + _ < cLine; omega) hk (fun h' u tk hh => ⟨_, _, rfl, hQ h' u tk hh⟩) z
end
section
variable {X : Cx} {pins : List (Addr × Obj)} {σ : L2.St} {H : Hp} {s : Shared}
/-- where a dict stands at sysModules, none of ours does, nor a list -/
abbrev Off (s : Shared) (as : List Addr) : Prop := (∃ o, s.heap.get? sysModules = some o ∧ o.cls = .type "dict") → sysModules ∉ as
mutual
theorem Rep.readsA (I : Inv X pins σ H s) : ∀ (d : D) (v : V) (u : Value), Rep X.K H d v → RelV v u → ∃ as, Reads s.heap u d.pyA as ∧ Off s as
  | .non, _, _, h, r => by
    rw [show _ = V.non from h] at r
    cases r
    exact ⟨_, Reads.none, fun _ => by simp⟩
  | .bl b, _, _, h, r => by
    rw [show _ = V.bl b from h] at r
    cases r
    exact ⟨_, Reads.bool b, fun _ => by simp⟩
  | .int i, _, _, h, r => by
    rw [show _ = V.int i from h] at r
    obtain ⟨t, rfl⟩ := r
    exact ⟨_, Reads.int i t, fun _ => by simp⟩
  | .str x, _, _, h, r => by
    rw [show _ = V.str x from h] at r
    obtain ⟨t, rfl⟩ := r
    exact ⟨_, Reads.str x t, fun _ => by simp⟩
  | .lst ds, _, _, ⟨a, xs, e, hS, hr⟩, r => by
    subst e
    cases r
    obtain ⟨its, rv, ⟨o, n, ho, hc, _, hd⟩, _⟩ := I.list hS
    obtain ⟨as, q, n1⟩ := Reps.readsA I ds _ its hr rv
    refine ⟨_, Reads.list ho hc hd q, fun y z => ?_⟩
    rcases List.mem_cons.mp z with z | z
    · obtain ⟨o', e1, e2⟩ := y
      rw [z, ho] at e1
      cases e1
      rw [hc] at e2
      injection e2 with e2
      exact absurd e2 (by decide)
    · exact n1 y z
  | .tup ds, _, _, ⟨a, xs, e, hS, hr⟩, r => by
    subst e
    cases r
    obtain ⟨its, rv, ⟨o, ho, hc, n, hd⟩, _⟩ := I.tuple hS
    obtain ⟨as, q, n1⟩ := Reps.readsA I ds _ its hr rv
    exact ⟨_, Reads.tuple ho hc hd q, n1⟩
  | .dct kvs, _, _, ⟨a, us, e, hS, hr⟩, r => by
    subst e
    cases r
    obtain ⟨_, hs, vs, kv, dd⟩ := dk_rd I.hok hS
    obtain ⟨as, q, n1⟩ := RepsK.readsA I kvs us vs hr kv
    refine ⟨_, PyProof.V.reads_dictOf (enc := keyPy) (fun k key hk => ?_) dd q, fun y z => ?_⟩
    · rcases keyIs_shape hk with ⟨i, t, rfl, rfl⟩ | ⟨x, t, rfl, rfl⟩
      · exact Reads.int i t
      · exact Reads.str x t
    · rcases List.mem_cons.mp z with z | z
      · rw [← z] at hs; cases hs
      · exact n1 y z
theorem Reps.readsA (I : Inv X pins σ H s) : ∀ (ds : List D) (vs : List V) (us : List Value), Reps X.K H ds vs → Vals vs us → ∃ as, ReadsAll s.heap us (D.pyAs ds) as ∧ Off s as
  | [], _, _, h, r => by
    rw [show _ = [] from h] at r
    cases r
    exact ⟨_, ReadsAll.nil, fun _ => by simp⟩
  | d :: ds, _, _, ⟨x, xs, e, h, t⟩, r => by
    subst e
    cases r with
    | cons r1 r2 =>
      obtain ⟨as, q1, n1⟩ := Rep.readsA I d _ _ h r1
      obtain ⟨bs, q2, n2⟩ := Reps.readsA I ds _ _ t r2
      exact ⟨_, ReadsAll.cons q1 q2, fun y z => (List.mem_append.mp z).elim (n1 y) (n2 y)⟩
theorem RepsK.readsA (I : Inv X pins σ H s) : ∀ (kvs : List (Key × D)) (us : List (Key × V)) (vs : List (Key × Value)), RepsK X.K H kvs us → KV us vs → ∃ as, PyProof.V.PairsRead s.heap keyPy vs (D.pyKs kvs) as ∧ Off s as
  | [], _, _, h, r => by
    rw [show _ = [] from h] at r
    cases r
    exact ⟨_, .nil, fun _ => by simp⟩
  | (k, d) :: ds, _, _, ⟨x, xs, e, h, t⟩, r => by
    subst e
    cases r with
    | cons r1 r2 =>
      rename_i kv l
      obtain ⟨k2, w⟩ := kv
      obtain ⟨e1, r1⟩ := r1
      have e1 : k = k2 := e1
      subst e1
      obtain ⟨as, q1, n1⟩ := Rep.readsA I d _ _ h r1
      obtain ⟨bs, q2, n2⟩ := RepsK.readsA I ds _ _ t r2
      exact ⟨_, .cons q1 q2, fun y z => (List.mem_append.mp z).elim (n1 y) (n2 y)⟩
end
def okShowA (d : D) : Prop := d.pyA.showable = true ∧ d.pyA.depth ≤ 60 ∧ d.pyA.shown.length ≤ sizeLine
noncomputable def gReprA : D → Option D
  | .tup ds => ifP (okShowA (.tup ds)) (some (.str (D.tup ds).pyA.shown)) none
  | .lst ds => ifP (okShowA (.lst ds)) (some (.str (D.lst ds).pyA.shown)) none
  | .dct ds => ifP (okShowA (.dct ds)) (some (.str (D.dct ds).pyA.shown)) none
  | d => gRepr d
theorem cd_reprA (gd : X.A.guards = some []) (hu : X.A.units + 64 < cLine) : CallD X (.builtin "repr") (g1 gReprA) := CallD.one fun dx d e => fun pins s σ H vs us Q I r ⟨F, x, e1, f1, hx, q⟩ => by
  have hp : Rep X.K H dx x := hx.rep f1
  have old : gRepr dx = some d → _ := fun e => cd_repr gd hu pins s σ H vs us Q I r ⟨F, [dx], d, f1, by rw [e1]; exact .cons hx .nil, e, q⟩
  have new : ∀ (a : Addr), okShowA dx → x = .ref a → d = .str dx.pyA.shown → wpAny (model X.prog X.w) X.A (call (.builtin "repr") us) (EP X pins σ Q) X.xe s := fun a ⟨g1, g2, g3⟩ ex ed => by
    subst e1; subst ex; subst ed
    obtain ⟨u, rfl, ru⟩ := vals1 r
    cases ru
    obtain ⟨as, r1, n1⟩ := Rep.readsA I dx _ _ hp rfl
    by_cases y : ∃ o, s.heap.get? sysModules = some o ∧ o.cls = .type "dict"
    · exact repr_of_reads' r1 g1 (fun _ => n1 y) gd (by omega) (fun _ _ e => e) (fun h' u tk hk => ⟨.str _, H, I.kept hk, ⟨_, rfl⟩, q _ F H (.refl f1) rfl⟩) g3
    · exact repr_nd (fun o e c => y ⟨o, e, c⟩) r1 g1 gd (by omega) (fun _ _ e => e) (fun h' u tk hk => ⟨.str _, H, I.kept hk, ⟨_, rfl⟩, q _ F H (.refl f1) rfl⟩) g3
  cases dx with
  | tup ds =>
    obtain ⟨h, e⟩ := ifP_some (show ifP (okShowA (.tup ds)) (some (D.str (D.tup ds).pyA.shown)) none = some d from e)
    obtain ⟨a, xs, ex, _⟩ := hp
    exact new a h ex e.symm
  | lst ds =>
    obtain ⟨h, e⟩ := ifP_some (show ifP (okShowA (.lst ds)) (some (D.str (D.lst ds).pyA.shown)) none = some d from e)
    obtain ⟨a, xs, ex, _⟩ := hp
    exact new a h ex e.symm
  | dct ds =>
    obtain ⟨h, e⟩ := ifP_some (show ifP (okShowA (.dct ds)) (some (D.str (D.dct ds).pyA.shown)) none = some d from e)
    obtain ⟨a, xs, ex, _⟩ := hp
    exact new a h ex e.symm
  | _ => exact old e
end
/-! ### what can be shown -/
def shortS (x : Str) : Bool := decide (x.cps.size ≤ 30) && x.cps.toList.all fun c => decide (c < 16 ^ 8)
def shortK : Key → Bool
  | .inl i => decide (i.natAbs < 10 ^ 40)
  | .inr x => shortS x
mutual
def D.tinyA : D → Bool
  | .int i => decide (i.natAbs < 10 ^ 40)
  | .str x => shortS x
  | .tup ds => D.tinyAs ds
  | .lst ds => D.tinyAs ds
  | .dct ds => D.tinyKs ds
  | .non => true
  | .bl _ => true
def D.tinyAs : List D → Bool
  | [] => true
  | d :: ds => d.tinyA && D.tinyAs ds
def D.tinyKs : List (Key × D) → Bool
  | [] => true
  | (k, d) :: ds => shortK k && d.tinyA && D.tinyKs ds
end
mutual
def D.partsA : D → Nat
  | .tup ds => D.partsAs ds + 1
  | .lst ds => D.partsAs ds + 1
  | .dct ds => D.partsKs ds + 1
  | _ => 1
def D.partsAs : List D → Nat
  | [] => 0
  | d :: ds => d.partsA + D.partsAs ds
def D.partsKs : List (Key × D) → Nat
  | [] => 0
  | (_, d) :: ds => d.partsA + 2 + D.partsKs ds
end
mutual
def D.dep : D → Nat
  | .tup ds => D.deps ds + 1
  | .lst ds => D.deps ds + 1
  | .dct ds => D.depKs ds + 1
  | _ => 0
def D.deps : List D → Nat
  | [] => 0
  | d :: ds => max d.dep (D.deps ds)
def D.depKs : List (Key × D) → Nat
  | [] => 0
  | (_, d) :: ds => max d.dep (D.depKs ds)
end
theorem log_40 {n : Nat} (h : n < 10 ^ 40) : n.log2 < 133 := by
  by_cases h0 : n = 0
  · subst h0; decide
  · exact (Nat.log2_lt h0).mpr (Nat.lt_of_lt_of_le h (by decide))
theorem shown_int40 {i : Int} (h : i.natAbs < 10 ^ 40) : (PyData.shown (.int i)).length ≤ 41 := by
  have e := int_text_length_le10 (k := 40) (by decide) h
  show (Str.ofString (toString i)).length ≤ _
  rw [PySem.ofString_length]; exact e
theorem int_show {i : Int} (h : i.natAbs < 10 ^ 40) : (PyData.int i).showable = true ∧ (PyData.int i).leavesShort 41 = true ∧ (PyData.int i).weight + 1 ≤ 140 := by
  have l := log_40 h
  refine ⟨by simp only [PyData.showable, decide_eq_true_eq]; omega, by simp only [PyData.leavesShort, decide_eq_true_eq]; exact shown_int40 h, ?_⟩
  simp only [PyData.weight]
  split <;> omega
theorem str_show {x : Str} (h : shortS x = true) : (PyData.str x).showable = true ∧ (PyData.str x).leavesShort 41 = true ∧ (PyData.str x).weight + 1 ≤ 140 := by
  unfold shortS at h
  rw [Bool.and_eq_true, decide_eq_true_eq] at h
  refine ⟨by simp [PyData.showable], by simp only [PyData.leavesShort]; exact h.2, ?_⟩
  simp only [PyData.weight]
  omega
theorem key_show {k : Key} (h : shortK k = true) : (keyPy k).showable = true ∧ (keyPy k).leavesShort 41 = true ∧ (keyPy k).weight + 1 ≤ 140 ∧ (keyPy k).depth = 0 := by
  cases k with
  | inl i => have := int_show (of_decide_eq_true h); exact ⟨this.1, this.2.1, this.2.2, by simp [keyPy, PyData.depth]⟩
  | inr x => have := str_show h; exact ⟨this.1, this.2.1, this.2.2, by simp [keyPy, PyData.depth]⟩
mutual
theorem tinyA_show : ∀ {d : D}, d.tinyA = true → d.pyA.showable = true ∧ d.pyA.leavesShort 41 = true ∧ d.pyA.weight + 1 ≤ 140 * d.partsA ∧ d.pyA.depth = d.dep
  | .non, _ => by simp [D.pyA, PyData.showable, PyData.leavesShort, PyData.weight, D.partsA, PyData.depth, D.dep]
  | .bl _, _ => by simp [D.pyA, PyData.showable, PyData.leavesShort, PyData.weight, D.partsA, PyData.depth, D.dep]
  | .int i, h => by
    simp only [D.tinyA, decide_eq_true_eq] at h
    have := int_show h
    exact ⟨this.1, this.2.1, by simp only [D.partsA, D.pyA]; omega, by simp [D.pyA, PyData.depth, D.dep]⟩
  | .str x, h => by
    simp only [D.tinyA] at h
    have := str_show h
    exact ⟨this.1, this.2.1, by simp only [D.partsA, D.pyA]; omega, by simp [D.pyA, PyData.depth, D.dep]⟩
  | .tup ds, h => by
    simp only [D.tinyA] at h
    obtain ⟨h1, h2, h3, h4⟩ := tinyAs_show h
    simp only [D.pyA, PyData.showable, PyData.leavesShort, PyData.weight, D.partsA, PyData.depth, D.dep, h4]
    exact ⟨h1, h2, by omega, trivial⟩
  | .lst ds, h => by
    simp only [D.tinyA] at h
    obtain ⟨h1, h2, h3, h4⟩ := tinyAs_show h
    simp only [D.pyA, PyData.showable, PyData.leavesShort, PyData.weight, D.partsA, PyData.depth, D.dep, h4]
    exact ⟨h1, h2, by omega, trivial⟩
  | .dct ds, h => by
    simp only [D.tinyA] at h
    obtain ⟨h1, h2, h3, h4⟩ := tinyKs_show h
    simp only [D.pyA, PyData.showable, PyData.leavesShort, PyData.weight, D.partsA, PyData.depth, D.dep, h4]
    exact ⟨h1, h2, by omega, trivial⟩
theorem tinyAs_show : ∀ {ds : List D}, D.tinyAs ds = true → PyData.showableAll (D.pyAs ds) = true ∧ PyData.leavesShortAll 41 (D.pyAs ds) = true ∧ PyData.weightAll (D.pyAs ds) ≤ 140 * D.partsAs ds ∧ PyData.depthAll (D.pyAs ds) = D.deps ds
  | [], _ => by simp [D.pyAs, PyData.showableAll, PyData.leavesShortAll, PyData.weightAll, PyData.depthAll, D.deps]
  | d :: ds, h => by
    simp only [D.tinyAs, Bool.and_eq_true] at h
    obtain ⟨a1, a2, a3, a4⟩ := tinyA_show h.1
    obtain ⟨b1, b2, b3, b4⟩ := tinyAs_show h.2
    simp only [D.pyAs, PyData.showableAll, PyData.leavesShortAll, PyData.weightAll, PyData.depthAll, D.deps, D.partsAs, a1, a2, a4, b1, b2, b4, Bool.and_self, true_and]
    exact ⟨by omega, trivial⟩
theorem tinyKs_show : ∀ {ds : List (Key × D)}, D.tinyKs ds = true → PyData.showableKv (D.pyKs ds) = true ∧ PyData.leavesShortKv 41 (D.pyKs ds) = true ∧ PyData.weightKv (D.pyKs ds) ≤ 140 * D.partsKs ds ∧ PyData.depthKv (D.pyKs ds) = D.depKs ds
  | [], _ => by simp [D.pyKs, PyData.showableKv, PyData.leavesShortKv, PyData.weightKv, PyData.depthKv, D.depKs]
  | (k, d) :: ds, h => by
    simp only [D.tinyKs, Bool.and_eq_true] at h
    obtain ⟨c1, c2, c3, c4⟩ := key_show h.1.1
    obtain ⟨a1, a2, a3, a4⟩ := tinyA_show h.1.2
    obtain ⟨b1, b2, b3, b4⟩ := tinyKs_show h.2
    simp only [D.pyKs, PyData.showableKv, PyData.leavesShortKv, PyData.weightKv, PyData.depthKv, D.depKs, D.partsKs, a1, a2, a4, b1, b2, b4, c1, c2, c4, Bool.and_self, true_and]
    exact ⟨by omega, by omega⟩
end
theorem gReprA_tiny {d : D} (h : d.tinyA = true) (hp : d.partsA ≤ 2000) (hd : d.dep ≤ 60) : ∃ s, gReprA d = some (.str s) := by
  obtain ⟨h1, h2, h3, h4⟩ := tinyA_show h
  have sl := PyData.shown_le 41 (by decide) d.pyA h2
  have ok : okShowA d := ⟨h1, by omega, by rw [bigZ]; omega⟩
  cases d with
  | non => exact ⟨_, rfl⟩
  | bl b => exact ⟨_, rfl⟩
  | int i =>
    simp only [D.tinyA, decide_eq_true_eq] at h
    have l := log_40 h
    exact ⟨_, by unfold gReprA gRepr; exact ifP_pos (by omega)⟩
  | str x => exact ⟨_, by unfold gReprA gRepr; exact ifP_pos ok.2.2⟩
  | tup ds => exact ⟨_, by unfold gReprA; exact ifP_pos ok⟩
  | lst ds => exact ⟨_, by unfold gReprA; exact ifP_pos ok⟩
  | dct ds => exact ⟨_, by unfold gReprA; exact ifP_pos ok⟩
end Ev

/-! E39: what a value's truth is. -/
namespace Ev
open PySem PySem.Spec PyProof.Rows L2
variable [TabsC]
def truD : D → Option Bool
  | .non => some false
  | .bl b => some b
  | .int i => some (i != 0)
  | .str x => if x.length ≤ sizeLine then some ((x.length : Int) != 0) else none
  | .tup ds => some (!ds.isEmpty)
  | .lst ds => some (!ds.isEmpty)
  | .dct ds => some (!ds.isEmpty)
@[simp] theorem truD_n : truD .non = some false := rfl
@[simp] theorem truD_b (b : Bool) : truD (.bl b) = some b := rfl
@[simp] theorem truD_i (i : Int) : truD (.int i) = some (i != 0) := rfl
@[simp] theorem truD_t (ds : List D) : truD (.tup ds) = some (!ds.isEmpty) := rfl
@[simp] theorem truD_l (ds : List D) : truD (.lst ds) = some (!ds.isEmpty) := rfl
@[simp] theorem truD_d (ds : List (Key × D)) : truD (.dct ds) = some (!ds.isEmpty) := rfl
section
variable {X : Cx} {E : XK} {a b : Expr} {rest : List Expr} {pos : Pos} {F H : Hp}
theorem isEmpty_len {α β : Type} {xs : List α} {ys : List β} (h : xs.length = ys.length) : xs.isEmpty = ys.isEmpty := by
  cases xs <;> cases ys <;> first | rfl | cases h
/-- what a value's truth is, a locked dict's too -/
def TruL (K : PySem.W.Frag) (x : V) (H : Hp) (k : Bool) : Prop := TruV K x H k ∨ ∃ p us, x = .ref p ∧ Rd H p (.dK us) ∧ k = !us.isEmpty
theorem truL_ok : TruR X (fun x H Q => ∃ k, TruL X.K x H k ∧ Q k H) := by
  intro pins s σ H x v Q I rx h
  obtain ⟨k, t | ⟨p, us, e, h1, h2⟩, q⟩ := h
  · exact tru_ok pins s σ H x v Q I rx ⟨k, t, q⟩
  · subst e
    obtain rfl : v = Value.ref p := rx
    exact d_truth I h1 fun s' I' => ⟨H, I', h2 ▸ q⟩
section
variable {ta tb : TE}
theorem pe_orL (ha : PE X a ta) (hb : PE X (.BoolOp .Or (b :: rest) pos) tb) : PE X (.BoolOp .Or (a :: b :: rest) pos) (fun σ H Q => ta σ H fun x H1 => ∃ k, TruL X.K x H1 k ∧ if k = true then Q x H1 else tb σ H1 Q) :=
  ⟨fun pins s σ H Q I h => BoolOp_or (thn (ha.run pins s σ H _ I h) fun v s1 ⟨x, H1, I1, r1, k, e, q1⟩ =>
    thn (truL_ok pins s1 σ H1 x v (fun c H2 => c = k ∧ H2 = H1) I1 r1 ⟨k, e, rfl, rfl⟩) fun c s2 ⟨H2, I2, e1, e2⟩ => by
      subst e1
      subst e2
      cases c with
      | true => exact ⟨x, _, I2, r1, q1⟩
      | false => exact hb.run pins s2 σ _ Q I2 q1)⟩
theorem pe_andL (ha : PE X a ta) (hb : PE X (.BoolOp .And (b :: rest) pos) tb) : PE X (.BoolOp .And (a :: b :: rest) pos) (fun σ H Q => ta σ H fun x H1 => ∃ k, TruL X.K x H1 k ∧ if k = true then tb σ H1 Q else Q x H1) :=
  ⟨fun pins s σ H Q I h => BoolOp_and (thn (ha.run pins s σ H _ I h) fun v s1 ⟨x, H1, I1, r1, k, e, q1⟩ =>
    thn (truL_ok pins s1 σ H1 x v (fun c H2 => c = k ∧ H2 = H1) I1 r1 ⟨k, e, rfl, rfl⟩) fun c s2 ⟨H2, I2, e1, e2⟩ => by
      subst e1
      subst e2
      cases c with
      | true => exact hb.run pins s2 σ _ Q I2 q1
      | false => exact ⟨x, _, I2, r1, q1⟩)⟩
end
theorem truD_V {K : PySem.W.Frag} {d : D} {x : V} {k : Bool} (f : Same F H) (h : RepB K F H d x) (e : truD d = some k) : TruL K x H k := by
  cases d with
  | non => cases e; rw [show x = V.non from h]; exact .inl rfl
  | bl b =>
    rw [show x = V.bl b from h]
    have e : some b = some k := e
    have e := Option.some.inj e
    subst e
    exact .inl rfl
  | int i =>
    rw [show x = V.int i from h]
    have e : some (i != 0) = some k := e
    have e := Option.some.inj e
    subst e
    exact .inl rfl
  | str y =>
    rw [show x = V.str y from h]
    by_cases q : y.length ≤ sizeLine
    · have e : (if y.length ≤ sizeLine then some ((y.length : Int) != 0) else none) = some k := e
      rw [if_pos q] at e
      cases e
      exact .inl ⟨q, rfl⟩
    · have e : (if y.length ≤ sizeLine then some ((y.length : Int) != 0) else none) = some k := e
      rw [if_neg q] at e
      cases e
  | tup ds =>
    obtain ⟨p, xs, rfl, h1, h2⟩ := h
    cases e
    exact .inl (.inr (.inl ⟨xs, same_seqT f h1, by rw [isEmpty_len h2.length]⟩))
  | lst ds =>
    obtain ⟨p, xs, rfl, h1, h2⟩ := h
    cases e
    exact .inl (.inl ⟨xs, h1, by rw [isEmpty_len h2.length]⟩)
  | dct ds =>
    obtain ⟨p, us, rfl, h1, h2⟩ := h
    cases e
    exact .inr ⟨p, us, rfl, h1, by rw [isEmpty_len h2.length]⟩
def fOrT (fa fb : FE) : FE := fun r => (fa r).bnd fun d r1 => obnd (truD d) fun k => brB k (.ok (d, r1)) (fb r1)
def fAndT (fa fb : FE) : FE := fun r => (fa r).bnd fun d r1 => obnd (truD d) fun k => brB k (fb r1) (.ok (d, r1))
def fTruT (fa : FB) : FT := fun r => (fa r).bnd fun x r1 => obnd (bGet r1 x) fun d => obnd (truD d) fun k => .ok (k, r1)
theorem ev_orT {fa fb : FE} (ha : EvE X E a fa) (hb : EvE X E (.BoolOp .Or (b :: rest) pos) fb) : EvE X E (.BoolOp .Or (a :: b :: rest) pos) (fOrT fa fb) :=
  PE.imp (pe_orL ha hb) fun s H Q ⟨B, F, O, r, R, q⟩ => ⟨B, F, O, r, R, (Post.split q).mono fun d r1 F1 O1 H1 R1 f1 k1 q1 v hv => by
    obtain ⟨k, e, q1⟩ := Post.opt q1
    refine ⟨k, truD_V R1.fh (Rep.b R1.fh hv) e, ?_⟩
    cases k with
    | true => exact Post.ok (k := fun d _ F' _ H' => ∀ v, Rep X.K F' d v → Q v H') q1 R1 (.refl _) .refl _ hv
    | false => exact ⟨B, F1, O1, r1, R1, q1⟩⟩
theorem ev_andT {fa fb : FE} (ha : EvE X E a fa) (hb : EvE X E (.BoolOp .And (b :: rest) pos) fb) : EvE X E (.BoolOp .And (a :: b :: rest) pos) (fAndT fa fb) :=
  PE.imp (pe_andL ha hb) fun s H Q ⟨B, F, O, r, R, q⟩ => ⟨B, F, O, r, R, (Post.split q).mono fun d r1 F1 O1 H1 R1 f1 k1 q1 v hv => by
    obtain ⟨k, e, q1⟩ := Post.opt q1
    refine ⟨k, truD_V R1.fh (Rep.b R1.fh hv) e, ?_⟩
    cases k with
    | false => exact Post.ok (k := fun d _ F' _ H' => ∀ v, Rep X.K F' d v → Q v H') q1 R1 (.refl _) .refl _ hv
    | true => exact ⟨B, F1, O1, r1, R1, q1⟩⟩
theorem et_tru {fa : FB} (ha : EvB X E a fa) (he : ∀ whole, isTrue a X.env whole = (do let v ← whole; standAt a.pos; holding [v] (truthy v)) := by intro _; rfl) : EvT X E a (fTruT fa) :=
  PT.imp (pt_truthR ha truL_ok he) fun s H Q ⟨B, F, O, r, R, q⟩ => ⟨B, F, O, r, R, (Post.split q).mono fun x r1 F1 O1 H1 R1 f1 k1 q1 v hv => by
    obtain ⟨d, e1, q1⟩ := Post.opt q1
    obtain ⟨k, e2, q1⟩ := Post.opt q1
    exact ⟨k, truD_V R1.fh (R1.bget hv e1) e2, Post.ok (k := fun b _ _ _ H' => Q b H') q1 R1 (.refl _) .refl⟩⟩
end
@[simp ↓] theorem ap_fOrT (fa fb : FE) (r : Env) : fOrT fa fb r = bK (fa r) (fun d r1 => oK (truD d) (fun k => brK k (.ok (d, r1)) (fb r1) ⟨⟩ ⟨⟩) ⟨⟩) ⟨⟩ := (rfl)
@[simp ↓] theorem ap_fAndT (fa fb : FE) (r : Env) : fAndT fa fb r = bK (fa r) (fun d r1 => oK (truD d) (fun k => brK k (fb r1) (.ok (d, r1)) ⟨⟩ ⟨⟩) ⟨⟩) ⟨⟩ := (rfl)
@[simp ↓] theorem ap_fTruT (fa : FB) (r : Env) : fTruT fa r = bK (fa r) (fun x r1 => oK (bGet r1 x) (fun d => oK (truD d) (fun k => .ok (k, r1)) ⟨⟩) ⟨⟩) ⟨⟩ := (rfl)
end Ev

/-! E40: a dict that is locked while it is walked. -/
namespace Ev
open PySem PySem.Spec PyProof.Rows L2
open LamX (TabS Tabs)
variable [TabsC]
/-! ### what is read stays -/
def SameR (F F' : Hp) : Prop := ∀ b u, (∀ o v, u ≠ HO.frz o v) → Rd F b u → Rd F' b u
section
variable {K : PySem.W.Frag} {F F' : Hp}
theorem SameR.seqL (s : SameR F F') {a : Addr} {xs : List V} (h : SqL K F a xs) : SqL K F' a xs := h.imp (s _ _ (fun _ _ z => nomatch z)) id
theorem SameR.seqT (s : SameR F F') {a : Addr} {xs : List V} (h : SqT K F a xs) : SqT K F' a xs := h.imp (s _ _ (fun _ _ z => nomatch z)) id
mutual
theorem Rep.monoR (s : SameR F F') : ∀ {d : D} {v : V}, Rep K F d v → Rep K F' d v
  | .non, _, h => h
  | .bl _, _, h => h
  | .int _, _, h => h
  | .str _, _, h => h
  | .tup _, _, ⟨a, xs, e, h, r⟩ => ⟨a, xs, e, s.seqT h, Reps.monoR s r⟩
  | .lst _, _, ⟨a, xs, e, h, r⟩ => ⟨a, xs, e, s.seqL h, Reps.monoR s r⟩
  | .dct _, _, ⟨a, us, e, h, r⟩ => ⟨a, us, e, s _ _ (fun _ _ z => nomatch z) h, RepsK.monoR s r⟩
theorem Reps.monoR (s : SameR F F') : ∀ {ds : List D} {xs : List V}, Reps K F ds xs → Reps K F' ds xs
  | [], _, h => h
  | _ :: _, _, ⟨x, r, e, h, t⟩ => ⟨x, r, e, Rep.monoR s h, Reps.monoR s t⟩
theorem RepsK.monoR (s : SameR F F') : ∀ {ds : List (Key × D)} {xs : List (Key × V)}, RepsK K F ds xs → RepsK K F' ds xs
  | [], _, h => h
  | (_, _) :: _, _, ⟨x, r, e, h, t⟩ => ⟨x, r, e, Rep.monoR s h, RepsK.monoR s t⟩
end
end
section
variable {K : PySem.W.Frag} {B : Base} {F F' H H' : Hp} {O O' : Addr → Option C} {r r' : Env} {s : Sg} {d : Addr} {od : Obj} {us : List (Key × V)}
def lkH (F : Hp) (d : Addr) (od : Obj) (us : List (Key × V)) : Hp := upd F d (.frz od (.dK us))
theorem lk_d : lkH F d od us d = some (.frz od (.dK us)) := upd_same
theorem lk_ne {b : Addr} (h : b ≠ d) : lkH F d od us b = F b := upd_ne h
theorem lk_sameR (h : F d = some (.dK us)) : SameR F (lkH F d od us) := fun b u nu q => by
  by_cases e : b = d
  · subst e
    rcases q with q | ⟨o, q⟩
    · rw [h] at q; cases q; exact .inr ⟨od, lk_d⟩
    · rw [h] at q; cases q
  · rcases q with q | ⟨o, q⟩
    · exact .inl ((lk_ne e).trans q)
    · exact .inr ⟨o, (lk_ne e).trans q⟩
theorem un_sameR (h : F d = some (.frz od (.dK us))) : SameR F (upd F d (.dK us)) := fun b u nu q => by
  by_cases e : b = d
  · subst e
    rcases q with q | ⟨o, q⟩
    · rw [h] at q; cases q; exact absurd rfl (nu _ _)
    · rw [h] at q; cases q; exact .inl upd_same
  · rcases q with q | ⟨o, q⟩
    · exact .inl ((upd_ne e).trans q)
    · exact .inr ⟨o, (upd_ne e).trans q⟩
theorem CRep.monoR {a : Addr} {c : C} (q : SameR F F') (e : H' a = H a) (h : CRep K F H a c) : CRep K F' H' a c := by
  cases c with
  | lst ds => obtain ⟨xs, h1, h2⟩ := h; exact ⟨xs, e.trans h1, h2.monoR q⟩
  | dct kvs => obtain ⟨xs, h1, h2⟩ := h; exact ⟨xs, e.trans h1, h2.monoR q⟩
/-- what is no table and no code may be changed -/
theorem tabs_at {o o' : HO} (t : Tabs TabsC.T H) (h : H d = some o) (n1 : ∀ ps, o ≠ .tbl ps) (n2 : ∀ c q, o ≠ LamX.CodeO c q) : Tabs TabsC.T (upd H d o') := fun p hp => by
  obtain ⟨ps, e1, e2, e3⟩ := t p hp
  have n : p.1 ≠ d := fun z => by rw [z, h] at e1; cases e1; exact n1 _ rfl
  refine ⟨ps, (upd_ne n).trans e1, e2, fun pos cv q => ?_⟩
  obtain ⟨b, e4, e5⟩ := e3 pos cv q
  have nb : b ≠ d := fun z => by rw [z, h] at e5; cases e5; exact n2 _ _ rfl
  exact ⟨b, e4, (upd_ne nb).trans e5⟩
open Classical in
noncomputable def lkB (B : Base) (F : Hp) (O : Addr → Option C) (H : Hp) (d : Addr) (od : Obj) (us : List (Key × V)) : Base :=
  ⟨fun b => if B.H0 b = none ∧ O b ≠ none then none else lkH H d od us b, lkH F d od us, B.P, B.s0⟩
theorem lkB_y {b : Addr} (h : B.H0 b = none) (h2 : O b ≠ none) : (lkB B F O H d od us).H0 b = none := by
  show (if _ then _ else _) = _
  rw [if_pos ⟨h, h2⟩]
theorem lkB_n {b : Addr} (h : ¬ (B.H0 b = none ∧ O b ≠ none)) : (lkB B F O H d od us).H0 b = lkH H d od us b := by
  show (if _ then _ else _) = _
  rw [if_neg h]
theorem dK_tbl : ∀ ps, (HO.dK us) ≠ .tbl ps := fun _ z => nomatch z
theorem dK_code : ∀ c q, (HO.dK us) ≠ LamX.CodeO c q := fun c q z => by unfold LamX.CodeO at z; cases z
theorem fz_tbl : ∀ ps, (HO.frz od (.dK us)) ≠ .tbl ps := fun _ z => nomatch z
theorem fz_code : ∀ c q, (HO.frz od (.dK us)) ≠ LamX.CodeO c q := fun c q z => by unfold LamX.CodeO at z; cases z
theorem Rel.lock (R : Rel K B F O H r s) (hd : F d = some (.dK us)) : Rel K (lkB B F O H d od us) (lkH F d od us) O (lkH H d od us) r s := by
  have hH := R.fh _ _ hd
  have own : ∀ a c, O a = some c → a ≠ d := fun a c e z => by
    obtain ⟨h1, _⟩ := R.ow a c e
    rw [z, hd] at h1; cases h1
  have noT : ∀ p ∈ TabsC.T, p.1 ≠ d := fun p hp z => by
    have := R.noF p hp
    rw [z, hd] at this; cases this
  refine ⟨fun b u q => ?_, .refl _, fun b o q => .inl q, ⟨fun b o q _ _ => ?_, tabs_at R.fr.t hH dK_tbl dK_code, fun p hp => ?_, fun p hp => ?_⟩, fun b q => ?_, fun a c e => ?_, R.len, fun i x e => ?_, fun i p c e => ?_, R.inj, R.rf⟩
  · by_cases e : b = d
    · subst e; rw [lk_d] at q ⊢; exact q
    · rw [lk_ne e] at q ⊢; exact R.fh _ _ q
  · by_cases c : B.H0 b = none ∧ O b ≠ none
    · rw [lkB_y c.1 c.2] at q; cases q
    · rw [lkB_n c] at q; exact q
  · obtain ⟨ps, e1, e2, e3⟩ := R.fr.t p hp
    have n0 : ¬ (B.H0 p.1 = none ∧ O p.1 ≠ none) := fun z => by
      obtain ⟨ps0, e0, _⟩ := R.fr.t0 p hp
      rw [z.1] at e0; cases e0
    refine ⟨ps, by rw [lkB_n n0, lk_ne (noT p hp)]; exact e1, e2, fun pos cv q => ?_⟩
    obtain ⟨b, e4, e5⟩ := e3 pos cv q
    have nb : b ≠ d := fun z => by rw [z, hH] at e5; exact dK_code _ _ (Option.some.inj e5)
    have n1 : ¬ (B.H0 b = none ∧ O b ≠ none) := fun z => by
      cases qo : O b with
      | none => exact z.2 qo
      | some c =>
        obtain ⟨_, h2, _⟩ := R.ow b c qo
        cases c with
        | lst ds => obtain ⟨xs, h3, _⟩ := h2; rw [e5] at h3; unfold LamX.CodeO at h3; cases h3
        | dct ds => obtain ⟨xs, h3, _⟩ := h2; rw [e5] at h3; unfold LamX.CodeO at h3; cases h3
    exact ⟨b, e4, by rw [lkB_n n1, lk_ne nb]; exact e5⟩
  · show lkH F d od us p.1 = none
    rw [lk_ne (noT p hp)]; exact R.noF p hp
  · by_cases c : B.H0 b = none ∧ O b ≠ none
    · exact lkB_y c.1 c.2
    · rw [lkB_n c]; exact q
  · obtain ⟨h1, h2, h3⟩ := R.ow a c e
    have na := own a c e
    refine ⟨by rw [lk_ne na]; exact h1, h2.monoR (lk_sameR hd) (lk_ne na), h3.imp id fun z => lkB_y z (by rw [e]; exact fun z => nomatch z)⟩
  · obtain ⟨v, h1, h2⟩ := R.vl i x e
    exact ⟨v, h1, h2.monoR (lk_sameR hd)⟩
  · obtain ⟨a, h1, h2, h3, h4⟩ := R.on i p c e
    exact ⟨a, h1, h2, fun z => lkB_y (h3 z) (by rw [h2]; exact fun z => nomatch z), h4⟩
theorem lkB_none (R : Rel K B F O H r s) {b : Addr} (h : (lkB B F O H d od us).H0 b = none) : B.H0 b = none := by
  by_cases c : B.H0 b = none ∧ O b ≠ none
  · exact c.1
  · rw [lkB_n c] at h
    by_cases e : b = d
    · subst e; rw [lk_d] at h; cases h
    · rw [lk_ne e] at h; exact R.st _ h
theorem Rel.unlock (R : Rel K B F O H r s) (hd : F d = some (.dK us)) (R1 : Rel K (lkB B F O H d od us) F' O' H' r' s) (f : Same (lkH F d od us) F') :
    Rel K B (upd F' d (.dK us)) O' (upd H' d (.dK us)) r' s ∧ Same F (upd F' d (.dK us)) ∧ H' d = some (.frz od (.dK us)) := by
  have hF' : F' d = some (.frz od (.dK us)) := f _ _ lk_d
  have hH' := R1.fh _ _ hF'
  have hH := R.fh _ _ hd
  have sF : Same F (upd F' d (.dK us)) := fun b o q => by
    by_cases e : b = d
    · subst e; rw [hd] at q; cases q; exact upd_same
    · rw [upd_ne e]; exact f _ _ ((lk_ne e).trans q)
  refine ⟨⟨fun b u q => ?_, R.f0.trans sF, fun b o q => ?_, ⟨fun b o q np nt => ?_, tabs_at R1.fr.t hH' fz_tbl fz_code, R.fr.t0, R.fr.b⟩, fun b q => ?_, fun a c e => ?_, R1.len, fun i x e => ?_, fun i p c e => ?_, R1.inj, R1.rf⟩, sF, hH'⟩
  · by_cases e : b = d
    · subst e; rw [upd_same] at q ⊢; exact q
    · rw [upd_ne e] at q ⊢; exact R1.fh _ _ q
  · by_cases e : b = d
    · subst e; rw [upd_same] at q; cases q; exact R.nf _ _ hd
    · rw [upd_ne e] at q
      rcases R1.nf _ _ q with z | z
      · rw [show (lkB B F O H d od us).F0 b = lkH F d od us b from rfl, lk_ne e] at z
        exact R.nf _ _ z
      · exact .inr (lkB_none R z)
  · have h1 := R.fr.k b o q np nt
    by_cases e : b = d
    · subst e; rw [hH] at h1; cases h1; exact upd_same
    · rw [upd_ne e]
      refine R1.fr.k b o ?_ np nt
      rw [lkB_n (fun z => by rw [z.1] at q; cases q), lk_ne e]
      exact h1
  · by_cases e : b = d
    · subst e; rw [upd_same] at q; cases q
    · rw [upd_ne e] at q; exact lkB_none R (R1.st _ q)
  · obtain ⟨h1, h2, h3⟩ := R1.ow a c e
    have na : a ≠ d := fun z => by rw [z, hF'] at h1; cases h1
    exact ⟨by rw [upd_ne na]; exact h1, h2.monoR (un_sameR hF') (upd_ne na), h3.imp id (lkB_none R)⟩
  · obtain ⟨v, h1, h2⟩ := R1.vl i x e
    exact ⟨v, h1, h2.monoR (un_sameR hF')⟩
  · obtain ⟨a, h1, h2, h3, h4⟩ := R1.on i p c e
    exact ⟨a, h1, h2, fun z => lkB_none R (h3 z), h4⟩
/-! ### the keys -/
def keyD : Key → D
  | .inl i => .int i
  | .inr x => .str x
theorem keyD_rep (k : Key) : Rep K F (keyD k) (kV k) := by cases k <;> exact rfl
theorem RepsK.len : ∀ {ds : List (Key × D)} {us : List (Key × V)}, RepsK K F ds us → us.length = ds.length
  | [], _, h => by rw [show _ = [] from h]; rfl
  | (_, _) :: _, _, ⟨x, r, e, _, t⟩ => by rw [e, List.length_cons, List.length_cons, RepsK.len t]
theorem RepsK.at : ∀ {ds : List (Key × D)} {us : List (Key × V)} {i : Nat} {k : Key} {e : D}, RepsK K F ds us → ds[i]? = some (k, e) → ∃ x, us[i]? = some (k, x) ∧ Rep K F e x
  | [], _, _, _, _, _, e => by simp at e
  | (_, _) :: _, _, 0, _, _, ⟨x, r, e, h, _⟩, q => by
    subst e
    simp at q
    obtain ⟨rfl, rfl⟩ := q
    exact ⟨x, rfl, h⟩
  | (_, _) :: _, _, i + 1, _, _, ⟨x, r, e, _, t⟩, q => by
    subst e
    simp at q
    obtain ⟨y, h1, h2⟩ := RepsK.at t q
    exact ⟨y, by simpa using h1, h2⟩
theorem walks_keys {kvs : List (Key × D)} (h : F d = some (.frz od (.dK us))) (q : RepsK K F kvs us) : Walks K (Itk d od us) F (kvs.map fun p => keyD p.1) := fun i F1 H f1 f2 => by
  have hH : H d = some (.frz od (.dK us)) := f2 _ _ (f1 _ _ h)
  refine ⟨fun e he => ?_, fun hl => ⟨hH, by rw [q.len]; simpa using hl⟩⟩
  rw [List.getElem?_map] at he
  obtain ⟨⟨k, y⟩, h1, rfl⟩ := Option.map_eq_some_iff.mp he
  obtain ⟨x, h2, h3⟩ := q.at h1
  refine ⟨⟨hH, (List.getElem?_eq_some_iff.mp h2).1⟩, fun v H' ⟨e1, k', x', h4, e2⟩ => ?_⟩
  rw [h2] at h4
  cases h4
  subst e1 e2
  exact ⟨F1, .refl f2, keyD_rep k⟩
theorem walks_vals {kvs : List (Key × D)} (h : F d = some (.frz od (.dK us))) (q : RepsK K F kvs us) : Walks K (Itd d od us) F (kvs.map (·.2)) := fun i F1 H f1 f2 => by
  have hH : H d = some (.frz od (.dK us)) := f2 _ _ (f1 _ _ h)
  refine ⟨fun e he => ?_, fun hl => ⟨hH, by rw [q.len]; simpa using hl⟩⟩
  rw [List.getElem?_map] at he
  obtain ⟨⟨k, y⟩, h1, rfl⟩ := Option.map_eq_some_iff.mp he
  obtain ⟨x, h2, h3⟩ := q.at h1
  refine ⟨⟨hH, (List.getElem?_eq_some_iff.mp h2).1⟩, fun v H' ⟨e1, k', h4⟩ => ?_⟩
  rw [h2] at h4
  cases h4
  subst e1
  exact ⟨F1, .refl f2, h3.mono f1⟩
theorem walks_items {kvs : List (Key × D)} (h : F d = some (.frz od (.dK us))) (q : RepsK K F kvs us) : Walks K (Iti d od us) F (kvs.map fun p => D.tup [keyD p.1, p.2]) := fun i F1 H f1 f2 => by
  have hH : H d = some (.frz od (.dK us)) := f2 _ _ (f1 _ _ h)
  refine ⟨fun e he => ?_, fun hl => ⟨hH, by rw [q.len]; simpa using hl⟩⟩
  rw [List.getElem?_map] at he
  obtain ⟨⟨k, y⟩, h1, rfl⟩ := Option.map_eq_some_iff.mp he
  obtain ⟨x, h2, h3⟩ := q.at h1
  refine ⟨⟨hH, (List.getElem?_eq_some_iff.mp h2).1⟩, fun v H' ⟨T, k', x', h4, e1, e2, e3⟩ => ?_⟩
  rw [h2] at h4
  cases h4
  subst e1 e3
  have g : Grow F1 H (upd F1 T (.tup [kV k, x])) (upd H T (.tup [kV k, x])) := .new f2 e2
  exact ⟨_, g, T, _, rfl, .inl (.inl upd_same), .cons (keyD_rep k) (.cons (h3.mono (f1.trans g.ff)) .nil)⟩
end
end Ev

/-! E41: comprehensions over a dict's keys, values, items. -/
namespace Ev
open PySem PySem.Spec PyProof.Rows L2
open LamX (TabS Tabs)
variable [TabsC]
section
variable {X : Cx} {E : XK} {e tg iter elt c : Expr} {ifs : List Expr} {st : Stmt} {pos : Pos}
/-- the turns of a comprehension -/
theorem lc_turns {vs : List Nat} {ft : FGt} {tt : FT} {fe : FE} {B : Base} {F1 H1 : Hp} {O1 : Addr → Option C} {r1 rF : Env} {s : Sg} {ds out : List D} {Q : VK} (R1 : Rel X.K B F1 O1 H1 r1 s)
    (ml : loopC vs ft tt fe ds (unAll r1 vs) [] = .ok (out, rF))
    (q : ∀ F' O' H', Rel X.K B F' O' H' (back vs r1 (unAll rF vs)) s → Same F1 F' → Keep s r1 (back vs r1 (unAll rF vs)) O1 O' → ∀ a, O' a = some (.lst out) → B.H0 a = none → Free s (back vs r1 (unAll rF vs)) a → (∀ c0, O1 a = some c0 → ¬ Free s r1 a) → Q (.ref a) H') (J : It) (hJ : Walks X.K J F1 ds) :
    ∀ D, H1 D = none → ∃ W : Nat → Nat → Hp → Prop, (∃ m, W 0 m (upd H1 D (.lst []))) ∧ ∀ i m H, W i m H →
      (J.stop i H ∧ Q (.ref D) H) ∨ (J.go i H ∧ ∃ Nx : Hp → Prop, (∀ H', Nx H' → ∃ m', m' < m ∧ W (i + 1) m' H') ∧ ∀ x H', J.yld i H x H' → tGt X.K vs ft x (wipe s vs) H' fun σ2 H2 => wipe σ2 vs = wipe s vs ∧ tT X.K X.mg EF tt σ2 H2 fun b H3 =>
        if b = true then tE X.K X.mg EF fe σ2 H3 fun y H4 => ∃ acc, H4 D = some (.lst acc) ∧ acc.length < sizeLine ∧ Nx (upd H4 D (.lst (acc ++ [y]))) else Nx H3) := by
  intro A nA
  obtain ⟨oA, h0A, frA, fA⟩ := R1.free_of nA
  have ws : ∀ i, i ∉ vs → (wipe s vs)[i]? = s[i]? := fun i hi => wipe_at hi
  obtain ⟨R2, k2⟩ := R1.born (o := .lst []) (c := .lst []) nA ⟨[], upd_same, rfl⟩
  let W : Nat → Hp → Prop := fun i H' => ∃ F2 O2 r2 acc, Rel X.K B F2 O2 H' r2 (wipe s vs) ∧ Same F1 F2 ∧ O2 A = some (.lst acc) ∧ Free (wipe s vs) r2 A ∧
    (∀ a c, a ≠ A → O1 a = some c → Free s r1 a → O2 a = some c ∧ Free (wipe s vs) r2 a) ∧ loopC vs ft tt fe (ds.drop i) r2 acc = .ok (out, rF)
  refine ⟨fun i m H' => m = ds.length - i ∧ i ≤ ds.length ∧ W i H', ⟨ds.length, rfl, Nat.zero_le _, F1, _, unAll r1 vs, [], R2.wiped vs ws (wipe_length s vs), .refl _, by simp, frA.wiped vs ws, fun a c ha e f => ⟨by simp only [if_neg ha]; exact e, f.wiped vs ws⟩, ml⟩, ?_⟩
  rintro i m H' ⟨rfl, hi, F2, O2, r2, acc, R3, f2, oA2, frA2, kp, lp⟩
  obtain ⟨w1, w2⟩ := hJ i F2 H' f2 R3.fh
  by_cases hlt : i < ds.length
  · obtain ⟨go, yld⟩ := w1 ds[i] (List.getElem?_eq_getElem hlt)
    refine .inr ⟨go, W (i + 1), fun H3 h3 => ⟨ds.length - (i + 1), by omega, rfl, hlt, h3⟩, fun x H3 hy => ?_⟩
    obtain ⟨F3, g3, rep⟩ := yld x H3 hy
    rw [List.drop_eq_getElem_cons hlt] at lp
    have lp : (match ft ds[i] r2 with
      | none => .stuck
      | some r1 => (tt r1).bnd fun b r2 => if b = true then (fe r2).bnd fun y r3 => if acc.length < sizeLine then loopC vs ft tt fe (ds.drop (i + 1)) (unAll r3 vs) (acc ++ [y]) else .stuck else loopC vs ft tt fe (ds.drop (i + 1)) (unAll r2 vs) acc) = Res.ok (out, rF) := lp
    cases m : ft ds[i] r2 with
    | none => rw [m] at lp; cases lp
    | some r3 =>
      rw [m] at lp
      have R3' := R3.grow g3
      refine ⟨B, F3, O2, r2, ds[i], r3, R3', rep, m, fun s4 R4 w4 => ⟨w4.1.trans wipe_idem, ?_⟩⟩
      have hs4 : ∀ j, j ∉ vs → (wipe s vs)[j]? = s4[j]? := fun j hj =>
        ((wipe_at (s := wipe s vs) hj).symm.trans (by rw [w4.1])).trans (wipe_at (s := s4) hj)
      have l4 : (wipe s vs).length = s4.length := w4.2.1.symm
      have frA4 : Free s4 r3 A := w4.2.2 A frA2
      refine ⟨B, F3, O2, r3, R4, ?_⟩
      have lp : (tt r3).bnd (fun b r2 => if b = true then (fe r2).bnd fun y r3 => if acc.length < sizeLine then loopC vs ft tt fe (ds.drop (i + 1)) (unAll r3 vs) (acc ++ [y]) else .stuck else loopC vs ft tt fe (ds.drop (i + 1)) (unAll r2 vs) acc) = Res.ok (out, rF) := lp
      cases mt : tt r3 with
      | stuck => rw [mt] at lp; cases lp
      | ex x => rw [mt] at lp; cases lp
      | ok pt =>
        obtain ⟨b, r5⟩ := pt
        rw [mt] at lp
        intro F5 O5 H5 R5 f5 k5
        have lp : (if b = true then (fe r5).bnd fun y r3 => if acc.length < sizeLine then loopC vs ft tt fe (ds.drop (i + 1)) (unAll r3 vs) (acc ++ [y]) else .stuck else loopC vs ft tt fe (ds.drop (i + 1)) (unAll r5 vs) acc) = Res.ok (out, rF) := lp
        obtain ⟨oA5, frA5⟩ := k5 A _ oA2 frA4
        cases b with
        | false =>
          rw [if_neg Bool.false_ne_true] at lp
          show W (i + 1) H5
          refine ⟨F5, O5, unAll r5 vs, acc, R5.wiped vs hs4 l4, f2.trans (g3.ff.trans f5), oA5, frA5.wiped vs hs4, fun a c ha e1 e2 => ?_, lp⟩
          obtain ⟨g1, g2⟩ := kp a c ha e1 e2
          obtain ⟨g4, g5⟩ := k5 a c g1 (w4.2.2 a g2)
          exact ⟨g4, g5.wiped vs hs4⟩
        | true =>
          rw [if_pos rfl] at lp
          show tE X.K X.mg EF fe s4 H5 _
          refine ⟨B, F5, O5, r5, R5, ?_⟩
          cases me : fe r5 with
          | stuck => rw [me] at lp; cases lp
          | ex x => rw [me] at lp; cases lp
          | ok pe =>
            obtain ⟨y, r6⟩ := pe
            rw [me] at lp
            intro F6 O6 H6 R6 f6 k6 v hv
            have lp : (if acc.length < sizeLine then loopC vs ft tt fe (ds.drop (i + 1)) (unAll r6 vs) (acc ++ [y]) else .stuck) = Res.ok (out, rF) := lp
            split at lp
            · rename_i hz
              obtain ⟨oA6, frA6⟩ := k6 A _ oA5 frA5
              obtain ⟨_, ⟨xs, hxs, hr⟩, _⟩ := R6.ow A _ oA6
              have R7 := R6.mutT (o := .lst (xs ++ [v])) (c' := .lst (acc ++ [y])) oA6 frA6 ⟨_, upd_same, hr.append (.cons hv .nil)⟩
              refine ⟨xs, hxs, by rw [hr.length]; exact hz, F6, _, unAll r6 vs, acc ++ [y], R7.wiped vs hs4 l4, f2.trans (g3.ff.trans (f5.trans f6)), by simp, frA6.wiped vs hs4, fun a c ha e1 e2 => ?_, lp⟩
              obtain ⟨g1, g2⟩ := kp a c ha e1 e2
              obtain ⟨g4, g5⟩ := k5 a c g1 (w4.2.2 a g2)
              obtain ⟨g6, g7⟩ := k6 a c g4 g5
              exact ⟨by simp only [if_neg ha]; exact g6, g7.wiped vs hs4⟩
            · cases lp
  · have e : i = ds.length := by omega
    subst e
    rw [List.drop_length] at lp
    cases lp
    refine .inl ⟨w2 (Nat.le_refl _), ?_⟩
    have bk : ∀ j, j ∉ vs → s[j]? = (wipe s vs)[j]? := fun j hj => (wipe_at hj).symm
    have R5 := (R3.wiped vs bk (wipe_length s vs).symm)
    refine q F2 O2 H' (Rel.backed R1 f2 vs R5) f2 (fun a c e1 e2 => ?_) A oA2 h0A ((frA2.wiped vs bk).backed vs) fun c0 e1 e2 => ?_
    · have ha : a ≠ A := fun z => by subst z; rw [oA] at e1; cases e1
      obtain ⟨g3, g4⟩ := kp a c ha e1 e2
      exact ⟨g3, (g4.wiped vs bk).backed vs⟩
    · rw [oA] at e1; cases e1
/-! ### a dict in a slot is walked -/
def fLCD (g : List (Key × D) → List D) (i : Nat) (vs : List Nat) (ft : FGt) (tt : FT) (fe : FE) : FO := fun r => match (frz [i] r)[i]? with
  | some (.val (.dct kvs)) => (match loopC vs ft tt fe (g kvs) (unAll (frz [i] r) vs) [] with
    | .ok p => .ok (.lst p.1, back vs (frz [i] r) (unAll p.2 vs))
    | _ => .stuck)
  | _ => .stuck
/-- how a dict at d is walked -/
structure WalkD (X : Cx) (g : List (Key × D) → List D) (i : Nat) (wi : TI) where
  J : Addr → Obj → List (Key × V) → It
  w : ∀ {F : Hp} {d : Addr} {od : Obj} {us : List (Key × V)} {kvs : List (Key × D)}, F d = some (.frz od (.dK us)) → RepsK X.K F kvs us → Walks X.K (J d od us) F (g kvs)
  i : ∀ {s : Sg} {H : Hp} {R : It → Hp → Prop} {d : Addr} {od : Obj} {us : List (Key × V)}, s[i]? = some (some (.ref d)) → H d = some (.frz od (.dK us)) → R (J d od us) H → wi s H R
theorem lcd_reads {g : List (Key × D) → List D} {i : Nat} {wi : TI} (W : WalkD X g i wi) {vs : List Nat} {ft : FGt} {tt : FT} {fe : FE} {s : Sg} {H : Hp} {Q : VK} (h : tO X.K X.mg E (fLCD g i vs ft tt fe) s H Q) :
    tLockE (tLc wi (tGt X.K vs ft) (tT X.K X.mg EF tt) (tE X.K X.mg EF fe) vs) s H Q ∨ tLc wi (tGt X.K vs ft) (tT X.K X.mg EF tt) (tE X.K X.mg EF fe) vs s H Q := by
  obtain ⟨B, F, O, r, R, q⟩ := h
  obtain ⟨F2, O2, f2, R2, k2⟩ := R.frzs (is := [i])
  have q : Post X.K X.mg E B F O r s (fLCD g i vs ft tt fe r) _ := q
  unfold fLCD at q
  generalize frz [i] r = r2 at *
  cases m : r2[i]? with
  | none => rw [m] at q; exact False.elim q
  | some sl =>
    rw [m] at q
    cases sl with
    | un => exact False.elim q
    | rf _ => exact False.elim q
    | own _ _ => exact False.elim q
    | val d =>
      cases d with
      | dct kvs =>
        cases ml : loopC vs ft tt fe (g kvs) (unAll r2 vs) [] with
        | stuck =>
          have q : Post X.K X.mg E B F O r s (match loopC vs ft tt fe (g kvs) (unAll r2 vs) [] with
            | .ok p => Res.ok (C.lst p.1, back vs r2 (unAll p.2 vs))
            | _ => .stuck) (fun c r' _ O' H' => ∀ a, O' a = some c → B.H0 a = none → Free s r' a → (∀ c0, O a = some c0 → ¬ Free s r a) → Q (.ref a) H') := q
          rw [ml] at q; exact False.elim q
        | ex x =>
          have q : Post X.K X.mg E B F O r s (match loopC vs ft tt fe (g kvs) (unAll r2 vs) [] with
            | .ok p => Res.ok (C.lst p.1, back vs r2 (unAll p.2 vs))
            | _ => .stuck) (fun c r' _ O' H' => ∀ a, O' a = some c → B.H0 a = none → Free s r' a → (∀ c0, O a = some c0 → ¬ Free s r a) → Q (.ref a) H') := q
          rw [ml] at q; exact False.elim q
        | ok pl =>
          obtain ⟨out, rF⟩ := pl
          have q : Post X.K X.mg E B F O r s (match loopC vs ft tt fe (g kvs) (unAll r2 vs) [] with
            | .ok p => Res.ok (C.lst p.1, back vs r2 (unAll p.2 vs))
            | _ => .stuck) (fun c r' _ O' H' => ∀ a, O' a = some c → B.H0 a = none → Free s r' a → (∀ c0, O a = some c0 → ¬ Free s r a) → Q (.ref a) H') := q
          rw [ml] at q
          have q : ∀ F' O' H', Rel X.K B F' O' H' (back vs r2 (unAll rF vs)) s → Same F F' → Keep s r (back vs r2 (unAll rF vs)) O O' → ∀ a, O' a = some (.lst out) → B.H0 a = none → Free s (back vs r2 (unAll rF vs)) a → (∀ c0, O a = some c0 → ¬ Free s r a) → Q (.ref a) H' := q
          obtain ⟨x, hs, a, us, e, h1, h2⟩ := R2.vl i _ m
          subst e
          have nw : ∀ c, (∀ c0, O2 c = some c0 → ¬ Free s r2 c) → ∀ c0, O c = some c0 → ¬ Free s r c := fun c hn c0 e1 e2 => by
            obtain ⟨g1, g2⟩ := k2 c c0 e1 e2
            exact hn c0 g1 g2
          rcases h1 with hd | ⟨od, hd⟩
          · refine .inl ⟨a, .dK us, R2.fh _ _ hd, True.intro, fun od => ?_⟩
            have RL := R2.lock (od := od) hd
            refine W.i hs lk_d (lc_turns (Q := fun v H' => H' a = some (HO.frz od (.dK us)) ∧ Q v (upd H' a (.dK us))) RL ml (fun F' O' H' R' f k c hO hB hF hn => ?_) _ (W.w lk_d (h2.monoR (lk_sameR hd))))
            obtain ⟨Ru, sF, hH'⟩ := R2.unlock hd R' f
            exact ⟨hH', q _ O' _ Ru (f2.trans sF) (k2.trans k) c hO (lkB_none R2 hB) hF (nw c hn)⟩
          · refine .inr (W.i hs (R2.fh _ _ hd) (lc_turns R2 ml (fun F' O' H' R' f k c hO hB hF hn => ?_) _ (W.w hd h2)))
            exact q F' O' H' R' (f2.trans f) (k2.trans k) c hO hB hF (nw c hn)
      | _ => exact False.elim q
def gKeys (kvs : List (Key × D)) : List D := kvs.map fun p => keyD p.1
def gVals (kvs : List (Key × D)) : List D := kvs.map (·.2)
def gItems (kvs : List (Key × D)) : List D := kvs.map fun p => D.tup [keyD p.1, p.2]
def wdKeys {i : Nat} : WalkD X gKeys i (iKeys (tVar i)) := ⟨Itk, fun h q => walks_keys h q, fun {s H R d od us} hs h q => ⟨.ref d, hs, d, od, rfl, .inl ⟨us, h, q⟩⟩⟩
def wdVals {i : Nat} : WalkD X gVals i (iVals (tVar i)) := ⟨Itd, fun h q => walks_vals h q, fun {s H R d od us} hs h q => ⟨.ref d, hs, d, od, us, rfl, h, q⟩⟩
def wdItems {i : Nat} : WalkD X gItems i (iItems (tVar i)) := ⟨Iti, fun h q => walks_items h q, fun {s H R d od us} hs h q => ⟨.ref d, hs, d, od, us, rfl, h, q⟩⟩
theorem eo_lcd {g : List (Key × D) → List D} {i : Nat} {wi : TI} {scope : Scope} {own : List (Str × Nat)} {ft : FGt} {tt : FT} {fe : FE} (hc : X.calm = true) (hN : X.N.Nodup) (W : WalkD X g i wi) (hi : PI X tg iter wi) (ok : BlkOk X.N X.env.scope scope own)
    (hg : ∀ (s : Shared) (H : Hp) (C : Addr) (cl : List (Str × Addr)) (fp : List Addr), EvG (X.blk s H scope (compEnvC scope cl C X.env) fp) tg (own.map (·.2)) ft)
    (ht : ∀ (s : Shared) (H : Hp) (C : Addr) (cl : List (Str × Addr)) (fp : List Addr), EvTs (X.blk s H scope (compEnvC scope cl C X.env) fp) EF ifs tt)
    (he : ∀ (s : Shared) (H : Hp) (C : Addr) (cl : List (Str × Addr)) (fp : List Addr), EvE (X.blk s H scope (compEnvC scope cl C X.env) fp) EF elt fe) (hs : ∀ x, foldedSetIterable iter X.env x = pure x := by intro _; rfl) :
    EvO X E (.ListComp elt [⟨tg, iter, ifs, 0⟩] scope pos) (fLCD g i (own.map (·.2)) ft tt fe) := by
  have p1 := pe_lc (pos := pos) (g := tGt X.K (own.map fun p : Str × Nat => p.2) ft) (elt := elt) (ifs := ifs) (tt := tT X.K X.mg EF tt) (te := tE X.K X.mg EF fe) hc hN hi ok hg ht he hs
  refine ⟨fun pins s σ H Q I h => ?_⟩
  rcases lcd_reads W h with h | h
  · exact (pe_lock p1).run pins s σ H Q I h
  · exact p1.run pins s σ H Q I h
/-- the keys of a dict, or what a list or tuple holds -/
def isDct : Option Slot → Bool
  | some (.val (.dct _)) => true
  | some (.own _ (.dct _)) => true
  | _ => false
def fEor (i : Nat) (f g : FO) : FO := fun r => brB (isDct r[i]?) (f r) (g r)
theorem eo_or {i : Nat} {f g : FO} (hf : EvO X E e f) (hg : EvO X E e g) : EvO X E e (fEor i f g) := ⟨fun pins s σ H Q I ⟨B, F, O, r, R, q⟩ => by
  have q : Post X.K X.mg E B F O r σ (brB (isDct r[i]?) (f r) (g r)) _ := q
  cases m : isDct r[i]? with
  | true => rw [m] at q; exact hf.run pins s σ H Q I ⟨B, F, O, r, R, q⟩
  | false => rw [m] at q; exact hg.run pins s σ H Q I ⟨B, F, O, r, R, q⟩⟩
end
def dLK {β : Type} (m : Option Slot) (k : List (Key × D) → Res β) (_ : Wt k) : Res β := match m with
  | some (.val (.dct kvs)) => k kvs
  | _ => .stuck
@[simp] theorem dLK_v {β : Type} (kvs : List (Key × D)) (k : List (Key × D) → Res β) (w : Wt k) : dLK (some (.val (.dct kvs))) k w = k kvs := (rfl)
theorem ap_fLCD0 (g : List (Key × D) → List D) (i : Nat) (vs : List Nat) (ft : FGt) (tt : FT) (fe : FE) (r : Env) : fLCD g i vs ft tt fe r = dLK (frz [i] r)[i]? (fun kvs => endC vs (frz [i] r) (loopC vs ft tt fe (g kvs) (unAll (frz [i] r) vs) [])) ⟨⟩ := by
  unfold fLCD dLK
  generalize frz [i] r = r2
  cases r2[i]? with
  | none => rfl
  | some sl =>
    cases sl with
    | val d => cases d <;> rfl
    | _ => rfl
@[simp ↓] theorem ap_fLCD (g : List (Key × D) → List D) (i : Nat) (vs : List Nat) (ft : FGt) (tt : FT) (fe : FE) (r : Env) : fLCD g i vs ft tt fe r = dLK (frz [i] r)[i]? (fun kvs => endC vs (frz [i] r) (loopC vs ft tt fe (g kvs) (unAll (frz [i] r) vs) [])) ⟨⟩ := (ap_fLCD0 g i vs ft tt fe r)
@[simp ↓] theorem ap_fEor (i : Nat) (f g : FO) (r : Env) : fEor i f g r = brK (isDct r[i]?) (f r) (g r) ⟨⟩ ⟨⟩ := (rfl)
@[simp] theorem isDct_vd (kvs : List (Key × D)) : isDct (some (.val (.dct kvs))) = true := rfl
@[simp] theorem isDct_od (p : Bool) (kvs : List (Key × D)) : isDct (some (.own p (.dct kvs))) = true := rfl
@[simp] theorem isDct_vl (ds : List D) : isDct (some (.val (.lst ds))) = false := rfl
@[simp] theorem isDct_vt (ds : List D) : isDct (some (.val (.tup ds))) = false := rfl
@[simp] theorem isDct_ol (p : Bool) (ds : List D) : isDct (some (.own p (.lst ds))) = false := rfl
end Ev

/-! E42: max and min of three. -/
namespace Ev
open PySem PySem.Spec PyProof.Rows L2
variable [TabsC]
def g3 (g : D → D → D → Option D) : List D → Option D
  | [x, y, z] => g x y z
  | _ => none
@[simp] theorem g3_ap (g : D → D → D → Option D) (x y z : D) : g3 g [x, y, z] = g x y z := rfl
def gMax3 : D → D → D → Option D
  | .int i, .int j, .int k => some (.int (max (max i j) k))
  | _, _, _ => none
def gMin3 : D → D → D → Option D
  | .int i, .int j, .int k => some (.int (min (min i j) k))
  | _, _, _ => none
@[simp] theorem gMax3_i (i j k : Int) : gMax3 (.int i) (.int j) (.int k) = some (.int (max (max i j) k)) := rfl
@[simp] theorem gMin3_i (i j k : Int) : gMin3 (.int i) (.int j) (.int k) = some (.int (min (min i j) k)) := rfl
section
variable {X : Cx}
theorem CallD.three {f : Value} {g : D → D → D → Option D} (h : ∀ dx dy dz d, g dx dy dz = some d → CallR X f (fun vs H Q => ∃ F x y z, vs = [x, y, z] ∧ Same F H ∧ RepB X.K F H dx x ∧ RepB X.K F H dy y ∧ RepB X.K F H dz z ∧ ∀ w F' H', Grow F H F' H' → Rep X.K F' d w → Q w H')) :
    CallD X f (g3 g) := fun pins s σ H xs us Q I r ⟨F, ds, d, f1, hr, e, q⟩ => by
  match ds, hr, e with
  | [dx, dy, dz], .cons hx (.cons hy (.cons hz .nil)), e => exact h dx dy dz d e pins s σ H _ us Q I r ⟨F, _, _, _, rfl, f1, hx, hy, hz, q⟩
  | [], _, e => cases e
  | [_], _, e => cases e
  | [_, _], _, e => cases e
  | _ :: _ :: _ :: _ :: _, _, e => cases e
theorem nu_max (i j : Int) : L2.nuMax2 (.int i) (.int j) = some (.int (max i j)) := by
  show some (if decide (i < j) = true then V.int j else V.int i) = _
  by_cases h : i < j
  · simp [h, Int.max_def] <;> omega
  · simp [h, Int.max_def] <;> omega
theorem nu_min (i j : Int) : L2.nuMin2 (.int i) (.int j) = some (.int (min i j)) := by
  show some (if decide (j < i) = true then V.int j else V.int i) = _
  by_cases h : j < i
  · simp [h, Int.min_def] <;> omega
  · simp [h, Int.min_def] <;> omega
theorem cd_max3 (hc : X.calm = true) : CallD X (.builtin "max") (g3 gMax3) := CallD.three fun dx dy dz d e => by
  cases dx <;> cases dy <;> cases dz <;> first | (cases e; done) | skip
  rename_i i j k
  cases e
  exact CallR.imp (L2.call_max3Nu hc) fun vs H Q ⟨F, x, y, z, e1, f1, e2, e3, e4, q⟩ => ⟨.int i, .int j, .int k, .int (max (max i j) k), by rw [e1, show x = V.int i from e2, show y = V.int j from e3, show z = V.int k from e4], by
    unfold L2.nuMax3
    rw [nu_max]
    exact nu_max _ _, q _ F H (.refl f1) rfl⟩
theorem cd_min3 (hc : X.calm = true) : CallD X (.builtin "min") (g3 gMin3) := CallD.three fun dx dy dz d e => by
  cases dx <;> cases dy <;> cases dz <;> first | (cases e; done) | skip
  rename_i i j k
  cases e
  exact CallR.imp (L2.call_min3Nu hc) fun vs H Q ⟨F, x, y, z, e1, f1, e2, e3, e4, q⟩ => ⟨.int i, .int j, .int k, .int (min (min i j) k), by rw [e1, show x = V.int i from e2, show y = V.int j from e3, show z = V.int k from e4], by
    unfold L2.nuMin3
    rw [nu_min]
    exact nu_min _ _, q _ F H (.refl f1) rfl⟩
end
end Ev

/-! E43: pairs of ints sorted. -/
namespace Ev
open PySem PySem.Spec PyProof.Rows L2
variable [TabsC]
def piD (p : Int × Int) : D := .tup [.int p.1, .int p.2]
def lePI (p q : Int × Int) : Bool := decide (p.1 < q.1 ∨ (p.1 = q.1 ∧ p.2 ≤ q.2))
def sortP (xs : List (Int × Int)) : List (Int × Int) := xs.mergeSort lePI
theorem okSort_pairs (xs : List (Int × Int)) : okSort (xs.map piD) = true := by
  have h1 : D.noDcts (xs.map piD) = true := noD_all _ fun d hd => by
    obtain ⟨x, _, rfl⟩ := List.mem_map.mp hd
    rfl
  have h2 : alikeD (xs.map piD) = true := by
    unfold alikeD
    rw [List.all_eq_true]
    intro d hd
    rw [List.all_eq_true]
    intro e he
    obtain ⟨x, _, rfl⟩ := List.mem_map.mp hd
    obtain ⟨y, _, rfl⟩ := List.mem_map.mp he
    simp [piD, D.py, D.pys, PySem.W.alike, PySem.W.alikeAll]
  have h3 : (xs.map piD).all tupD = true := by
    rw [List.all_eq_true]
    intro d hd
    obtain ⟨x, _, rfl⟩ := List.mem_map.mp hd
    rfl
  have h4 : (xs.map piD).all (fun x => decide (x.py.depth ≤ 60)) = true := by
    rw [List.all_eq_true]
    intro d hd
    obtain ⟨x, _, rfl⟩ := List.mem_map.mp hd
    simp [piD, D.py, D.pys, PyData.depth, PyData.depthAll]
  unfold okSort
  rw [h1, h2, h3, h4]
  simp
theorem sortD_pairs (xs : List (Int × Int)) : sortD (xs.map piD) = (sortP xs).map piD := by
  unfold sortD sortP
  refine sort_map _ _ _ (fun a b => ?_) xs
  have := congrFun (congrFun (PySem.W.dataLe_ii (fun p : Int × Int => p.1) (fun p : Int × Int => p.2)) a) b
  exact this
theorem gSort_pl (xs : List (Int × Int)) : gSort (.lst (xs.map piD)) = some ((sortP xs).map piD) := by
  unfold gSort
  show (if okSort (xs.map piD) = true then some (sortD (xs.map piD)) else none) = _
  rw [if_pos (okSort_pairs xs), sortD_pairs]
theorem gSort_pt (xs : List (Int × Int)) : gSort (.tup (xs.map piD)) = some ((sortP xs).map piD) := by
  unfold gSort
  show (if okSort (xs.map piD) = true then some (sortD (xs.map piD)) else none) = _
  rw [if_pos (okSort_pairs xs), sortD_pairs]
theorem sortP_perm (xs : List (Int × Int)) : (sortP xs).Perm xs := List.mergeSort_perm _ _
theorem sortP_sorted (xs : List (Int × Int)) : (sortP xs).Pairwise fun p q => p.1 < q.1 ∨ (p.1 = q.1 ∧ p.2 ≤ q.2) := by
  have := List.pairwise_mergeSort (le := lePI) (fun a b c h1 h2 => by simp [lePI] at *; omega) (fun a b => by simp [lePI]; omega) xs
  exact this.imp fun h => by simpa [lePI] using h
end Ev

/-! E44: tuples compared by <. -/
namespace Ev
open PySem PySem.Spec PyProof.Rows L2
variable [TabsC]
def okLt (x y : D) : Bool := x.noDct && y.noDct && PySem.W.alike x.py y.py && decide (x.py.depth ≤ 60)
def gLtA : D → D → Option D
  | .tup xs, .tup ys => if okLt (.tup xs) (.tup ys) = true then some (.bl (PySem.W.dataLt (D.py (.tup xs)) (D.py (.tup ys)))) else none
  | x, y => gLt x y
@[simp] theorem gLtA_i (i j : Int) : gLtA (.int i) (.int j) = some (.bl (decide (i < j))) := rfl
@[simp] theorem gLtA_s (i j : Str) : gLtA (.str i) (.str j) = some (.bl (decide (i.cps.toList < j.cps.toList))) := rfl
section
variable {X : Cx}
theorem lt_tups {xs ys : List D} (hr : X.A.units + 65 < cLine) (h : okLt (.tup xs) (.tup ys) = true) : OpR X (compareOp .Lt) (fun x y H Q => ∃ F, Same F H ∧ RepB X.K F H (.tup xs) x ∧ RepB X.K F H (.tup ys) y ∧ ∀ z F' H', Grow F H F' H' → Rep X.K F' (.bl (PySem.W.dataLt (D.py (.tup xs)) (D.py (.tup ys)))) z → Q z H') := by
  simp only [okLt, Bool.and_eq_true, decide_eq_true_eq] at h
  intro pins s σ H x y v u Q I rx ry ⟨F, f1, hx, hy, q⟩
  obtain ⟨as, r1⟩ := Dp.reads I _ x v (Rep.dp h.1.1.1 (hx.rep f1)) rx
  obtain ⟨bs, r2⟩ := Dp.reads I _ y u (Rep.dp h.1.1.2 (hy.rep f1)) ry
  exact PySem.W.lt_data r1 r2 h.1.2 (fun z => nomatch z) (by omega) ⟨.bl _, H, I, rfl, q _ F H (.refl f1) rfl⟩
theorem opD_ltA (hr : X.A.units + 65 < cLine) : OpD X (compareOp .Lt) gLtA := OpD.mk fun dx dy d e => by
  cases dx with
  | tup xs =>
    cases dy with
    | tup ys =>
      have e : (if okLt (.tup xs) (.tup ys) = true then some (D.bl (PySem.W.dataLt (D.py (.tup xs)) (D.py (.tup ys)))) else none) = some d := e
      split at e
      · rename_i h
        cases e
        exact lt_tups hr h
      · cases e
    | _ => cases e
  | int i =>
    cases dy <;> first | (cases e; done) | skip
    simp only [gLtA, gLt, Option.some.injEq] at e; subst e; exact op2_int0 op_lt fun _ => rfl
  | str i =>
    cases dy <;> first | (cases e; done) | skip
    simp only [gLtA, gLt, Option.some.injEq] at e; subst e
    exact OpR.imp op_lt_str fun x y H Q ⟨F, f1, hx, hy, q⟩ => ⟨_, _, hx, hy, q _ F H (.refl f1) rfl⟩
  | _ => cases dy <;> cases e
end
end Ev

/-! E45: min(xs, key=f): the walk of the built-in, with one state that tells of the best so far. -/
namespace MinL
open PySem
/-- min's own list -/
def own2 (xs : Array Value) (c : Nat) : Obj := { cls := .type "list", dict := none, data := .seq xs c, slots := #[] }
/-- J0 holds ahead of the first turn; J b kb while the b-th item is the best so far, its key kb -/
structure Turns (prog : Program) (w : World) (A : Around) (q S : Addr) (wr : List Addr) (G : Array GenState → Array GenState → Prop) (n : Nat) (P : Nat → Value → Prop) (St : Nat → Shared → Prop) (J0 : Shared → Prop) (J : Nat → Value → Shared → Prop) (bt : Nat → Nat → Bool) : Prop where
  k0 : ∀ s s', J0 s → Moved (S :: wr) G s s' → J0 s'
  k1 : ∀ b kb s s', J b kb s → Moved (S :: wr) G s s' → J b kb s'
  t0 : ∀ (v : Value) (s : Shared) (o : Obj) (Q : Value → Shared → Prop) (E : Value → Shared → Prop), P 0 v → J0 s → St 1 s → (∃ ys c, o = own2 ys c) → s.heap.get? S = some o →
    (∀ k s', J 0 k s' → St 1 s' → s'.heap.get? S = some o → Q k s') → wpAny (model prog w) A (call (.ref q) [v]) Q E s
  t1 : ∀ (i b : Nat) (kb v : Value) (s : Shared) (o : Obj) (Q : Value → Shared → Prop) (E : Value → Shared → Prop), i < n → b < i → P i v → J b kb s → St (i + 1) s → (∃ ys c, o = own2 ys c) → s.heap.get? S = some o →
    (∀ k s', J b kb s' → J i k s' → St (i + 1) s' → s'.heap.get? S = some o → (∀ (Q2 : Value → Shared → Prop) (E2 : Value → Shared → Prop), Q2 (.bool (bt i b)) s' → wpAny (model prog w) A (richCompare .Lt k kb) Q2 E2 s') → Q k s') → wpAny (model prog w) A (call (.ref q) [v]) Q E s
section
variable {prog : Program} {w : World} {A : Around} {R : Result → Shared → Prop} {I S q : Addr} {fp wr : List Addr} {G : Array GenState → Array GenState → Prop} {n : Nat} {P : Nat → Value → Prop} {St : Nat → Shared → Prop} {J0 : Shared → Prop} {J : Nat → Value → Shared → Prop} {bt : Nat → Nat → Bool}
theorem best_le : ∀ j, argBest bt j ≤ j
  | 0 => Nat.le_refl 0
  | j + 1 => by
    have h := best_le j
    show (if bt (j + 1) (argBest bt j) then j + 1 else argBest bt j) ≤ j + 1
    split <;> omega
theorem best_up {j : Nat} (h : bt (j + 1) (argBest bt j) = true) : argBest bt (j + 1) = j + 1 := by simp only [argBest, h, if_true]
theorem best_at {j : Nat} (h : bt (j + 1) (argBest bt j) = false) : argBest bt (j + 1) = argBest bt j := by simp only [argBest, h, Bool.false_eq_true, if_false]
theorem moved_S {s : Shared} {f : Obj → Obj} (g : ∀ a, G a a) : Moved (S :: wr) G s { s with heap := s.heap.update S f, toks := s.toks } :=
  (Moved.refl g).then_heap (Nat.le_refl _) fun b o hb e => (Heap.get?_update_other _ _ (show S ≠ b from fun z => hb (by rw [← z]; exact List.mem_cons_self))).trans e
theorem loop (W : WalksS prog w A.in1 I fp wr G n P St) (hS : S ∉ fp) (K : Turns prog w A.in1 q S wr G n P St J0 J bt) (kw : List (Str × Value))
    (hR : ∀ v kb s', P (argBest bt (n - 1)) v → J (argBest bt (n - 1)) kb s' → R (.ok (.ret v)) s') : ∀ (k j : Nat) (s : Shared) (vb kb : Value) (c : Nat), n - (j + 1) = k → j + 1 ≤ n → J (argBest bt j) kb s → St (j + 1) s → P (argBest bt j) vb →
      s.heap.get? S = some (own2 #[vb, kb] c) → codeAny (model prog w) A (.builtin "min.loop" ⟨[.ref I, .ref q, .ref S], kw⟩) R s := by
  have up : ∀ {b : Addr}, b ∈ wr → b ∈ S :: wr := fun h => List.mem_cons_of_mem _ h
  have nw : S ∉ wr := fun h => hS (W.sub S h)
  have nm : (toString "min" ++ toString ".loop" : String) = "min.loop" := by decide
  intro k; induction k with
  | zero =>
    intro j s vb kb c hk hj hJ hst hP hs
    have e : n = j + 1 := by omega
    refine codeAny_builtin (by exact F.entry_min_loop) ?_; rw [Around.under_plainId (by exact F.plain_min_loop)]
    refine wpAny_bind (wpAny_seqItems hs (by rfl) ?_)
    refine wpAny_bind (wpAny_tryCatch (W.done s _ _ (by rw [e]; exact hst) fun s1 m1 => ?_))
    refine wpAny_bind (wpAny_updateSeq (m1.heap S _ nw hs) (by rfl) (wpAny_bind (wpAny_letGo (wpAny_pure ?_))))
    have e2 : argBest bt (n - 1) = argBest bt j := by rw [e]; rfl
    refine hR vb kb _ (by rw [e2]; exact hP) ?_
    rw [e2]
    exact K.k1 _ _ _ _ (K.k1 _ _ _ _ hJ (m1.mono fun b hb => up hb)) (moved_S W.grefl)
  | succ k ih =>
    intro j s vb kb c hk hj hJ hst hP hs
    have lt : j + 1 < n := by omega
    refine codeAny_builtin (by exact F.entry_min_loop) ?_; rw [Around.under_plainId (by exact F.plain_min_loop)]
    refine wpAny_bind (wpAny_seqItems hs (by rfl) ?_)
    refine wpAny_bind (wpAny_tryCatch (W.item (j + 1) s _ _ lt hst fun v s1 hv st1 m1 => ?_))
    have hs1 := m1.heap S _ nw hs
    have hJ1 := K.k1 _ _ _ _ hJ (m1.mono fun b hb => up hb)
    have bl : argBest bt j < j + 1 := Nat.lt_succ_of_le (best_le j)
    refine wpAny_bind (wpAny_tryCatch (wpAny_holding (K.t1 (j + 1) _ kb v s1 _ _ _ lt bl hv hJ1 st1 ⟨_, _, rfl⟩ hs1 fun kx s2 hJb hJi st2 hs2 cmp => ?_)))
    refine wpAny_bind (wpAny_tryCatch (wpAny_holding (wpAny_bind (cmp _ _ (wpAny_bind (wpAny_holding (wpAny_truthy_bool (wpAny_bind (wpAny_letGo (wpAny_pure ?_))))))))))
    cases hb : bt (j + 1) (argBest bt j) with
    | true =>
      simp only [if_true]
      refine wpAny_bind (wpAny_updateSeq hs2 (by rfl) (wpAny_bind (wpAny_letGo ?_)))
      rw [nm]
      refine wpAny_pure ⟨plainId_quiet (by exact F.plain_min_loop) _, ih (j + 1) _ v kx _ (by omega) lt ?_ ?_ ?_ (Heap.get?_update_self _ hs2 (by rfl))⟩
      · rw [best_up hb]; exact K.k1 _ _ _ _ hJi (moved_S W.grefl)
      · exact W.frame _ s2 _ s2.toks st2 (Nat.le_refl _) fun b hbf o e => (Heap.get?_update_other _ _ (show S ≠ b from fun z => hS (by rw [z]; exact hbf))).trans e
      · rw [best_up hb]; exact hv
    | false =>
      simp only [Bool.false_eq_true, if_false]
      refine wpAny_bind (wpAny_letGo ?_)
      rw [nm]
      exact wpAny_pure ⟨plainId_quiet (by exact F.plain_min_loop) _, ih (j + 1) _ vb kb c (by omega) lt (by rw [best_at hb]; exact hJb) st2 (by rw [best_at hb]; exact hP) hs2⟩
theorem first (W : WalksS prog w A.in1 I fp wr G n P St) (hS : S ∉ fp) (K : Turns prog w A.in1 q S wr G n P St J0 J bt) (kw : List (Str × Value)) (hn : 0 < n) {s : Shared} {c : Nat} (h0 : J0 s) (hst : St 0 s) (hs : s.heap.get? S = some (own2 #[] c))
    (hR : ∀ v kb s', P (argBest bt (n - 1)) v → J (argBest bt (n - 1)) kb s' → R (.ok (.ret v)) s') : codeAny (model prog w) A (.builtin "min.loop" ⟨[.ref I, .ref q, .ref S], kw⟩) R s := by
  have up : ∀ {b : Addr}, b ∈ wr → b ∈ S :: wr := fun h => List.mem_cons_of_mem _ h
  have nm : (toString "min" ++ toString ".loop" : String) = "min.loop" := by decide
  refine codeAny_builtin (by exact F.entry_min_loop) ?_; rw [Around.under_plainId (by exact F.plain_min_loop)]
  refine wpAny_bind (wpAny_seqItems hs (by rfl) ?_)
  refine wpAny_bind (wpAny_tryCatch (W.item 0 s _ _ hn hst fun v s1 hv st1 m1 => ?_))
  have hs1 := m1.heap S _ (fun h => hS (W.sub S h)) hs
  refine wpAny_bind (wpAny_tryCatch (wpAny_holding (K.t0 v s1 _ _ _ hv (K.k0 _ _ h0 (m1.mono fun b hb => up hb)) st1 ⟨_, _, rfl⟩ hs1 fun kx s2 hJ2 st2 hs2 => ?_)))
  refine wpAny_bind (wpAny_updateSeq hs2 (by rfl) ?_)
  rw [nm]
  refine wpAny_pure ⟨plainId_quiet (by exact F.plain_min_loop) _, loop W hS K kw hR _ 0 _ v kx _ rfl hn (K.k1 _ _ _ _ hJ2 (moved_S W.grefl)) ?_ hv (Heap.get?_update_self _ hs2 (by rfl))⟩
  exact W.frame _ s2 _ s2.toks st2 (Nat.le_refl _) fun b hbf o e => (Heap.get?_update_other _ _ (show S ≠ b from fun z => hS (by rw [z]; exact hbf))).trans e
end
section
variable {prog : Program} {w : World} {A : Around} {E : Value → Shared → Prop} {s : Shared} {x : Value} {q : Addr} {Q : Value → Shared → Prop}
/-- min(x, key=f) -/
theorem call_min (h : wpAny (model prog w) A.in1 (pyIter x) (fun it s2 => ∃ I fp wr G n P St J0 J bt, it = .ref I ∧ WalksS prog w A.in1 I fp wr G n P St ∧ St 0 s2 ∧ (∀ b ∈ fp, b < s2.heap.objs.size) ∧ 0 < n ∧
      Turns prog w A.in1 q s2.heap.objs.size wr G n P St J0 J bt ∧ J0 s2 ∧ ∀ v kb s', P (argBest bt (n - 1)) v → J (argBest bt (n - 1)) kb s' → Q v s') E s) :
    wpAny (model prog w) A (call (.builtin "min") [x] [(Str.ofString "key", .ref q)]) Q E s := by
  have nm : (toString "min" ++ toString ".loop" : String) = "min.loop" := by decide
  refine PyProof.Rows.kmk_tree (by exact F.kind_min) (by exact F.plain_min) (by exact F.entry_min) (by exact PyProof.Rows.kmk_min_key _ _) ?_
  refine wpAny_bind (wpAny_of_eq (a := [some (.ref q), none]) (by rfl) (wpAny_bind (wpAny_pure (wpAny_bind (wpAny_mono h (fun it s2 h2 => ?_) fun _ _ e => e)))))
  obtain ⟨I, fp, wr, G, n, P, St, J0, J, bt, rfl, W, st, hfp, hn, K, h0, hQ⟩ := h2
  refine wpAny_bind (wpAny_newObj_type ?_)
  rw [nm]
  have nS : s2.heap.objs.size ∉ fp := fun hm => Nat.lt_irrefl _ (hfp _ hm)
  have kp : ∀ b o, s2.heap.get? b = some o → (s2.heap.push (own2 #[] 0)).get? b = some o := fun b o e => Heap.get?_push_of_some _ e
  have mv : Moved (s2.heap.objs.size :: wr) G s2 { s2 with heap := s2.heap.push (own2 #[] 0), toks := s2.toks } := (Moved.refl W.grefl).then_heap (Nat.le_refl _) fun b o _ e => kp b o e
  exact wpAny_pure ⟨plainId_quiet (by exact F.plain_min_loop) _, first W nS K _ hn (K.k0 _ _ h0 mv) (W.frame 0 s2 _ s2.toks st (Nat.le_refl _) fun b _ o e => kp b o e) (Heap.get?_push_size _ rfl) hQ⟩
end
end MinL

set_option maxHeartbeats 2000000
/-! E46: a lambda with one parameter is called. -/
namespace LamE
open PySem PySem.Spec PyProof.Rows L2 LamX
/-- one parameter y, no other name of its own -/
structure LamP (sc scope : Scope) (y : Str) : Prop where
  fn : scope.kind = .function
  nco : scope.isCoroutine = false
  nge : scope.isGenerator = false
  own : ∀ z ∈ scope.names, z.2 ≠ .cell ∧ (z.2 = .local → z.1 = y)
  par : scope.names.lookup y = some .local
  out : ∀ z ∈ scope.names, z.2 = .free → sc.names.lookup z.1 = some .cell ∨ sc.names.lookup z.1 = some .free
def lamPB (sc scope : Scope) (y : Str) : Bool :=
  decide (scope.kind = .function ∧ scope.isCoroutine = false ∧ scope.isGenerator = false ∧ scope.names.lookup y = some .local) &&
    scope.names.all fun z => decide (z.2 ≠ .cell ∧ (z.2 = .local → z.1 = y)) && decide (z.2 = .free → sc.names.lookup z.1 = some .cell ∨ sc.names.lookup z.1 = some .free)
theorem lamP_by {sc scope : Scope} {y : Str} (h : lamPB sc scope y = true) : LamP sc scope y := by
  obtain ⟨h1, h2⟩ := Bool.and_eq_true_iff.mp h
  obtain ⟨a, b, c, d⟩ := of_decide_eq_true h1
  have h3 := fun z hz => Bool.and_eq_true_iff.mp (List.all_eq_true.mp h2 z hz)
  exact ⟨a, b, c, fun z hz => of_decide_eq_true (h3 z hz).1, d, fun z hz => of_decide_eq_true (h3 z hz).2⟩
theorem LamP.has {X : Cx} {scope : Scope} {y : Str} (L : LamP X.env.scope scope y) (ok : X.Ok) : ∀ z ∈ scope.names, z.2 = .free → ∃ c, X.env.cells.lookup z.1 = some c := fun z hz e => ok.has z.1 (L.out z hz e)
/-- the context of its body; the names are told anew -/
def lamCxN (X : Cx) (N : List Str) (A : Around) (outer : List Env) (s : Shared) (H : Hp) (E : XK) (scope : Scope) (f c' : Addr) : Cx := { lamCx X A outer s H E scope f c' with N := N }
section
variable {X : Cx} {pins : List (Addr × Obj)} {σ σ' : L2.St} {H : Hp} {s : Shared}
theorem start1 {A : Around} {E : XK} {scope : Scope} {f c' : Addr} {h₁ : Heap} {tk : Nat} {N : List Str} {y : Str} {v : V} {u : Value} (I : Inv X pins σ H s) (L : LamP X.env.scope scope y) (e0 : Env0 X.prog X.w X.K X.mg X.base A X.stack s H) (hd : A.handled = none)
    (hns : h₁.Ns s.heap.objs.size fun z => ([(y, u)] : List (Str × Value)).reverse.lookup z) (kp : ∀ b o, s.heap.get? b = some o → h₁.get? b = some o) (ruv : RelV v u) (hl : σ'.length = N.length)
    (hN : ∀ (i : Nat) (z : Str) (t : V), N[i]? = some z → σ'[i]? = some (some t) → (z = y ∧ t = v) ∨ (z ≠ y ∧ X.N[i]? = some z ∧ σ[i]? = some (some t))) :
    Inv (lamCxN X N A X.stack s H E scope f c') [] σ' H { s with heap := h₁, toks := tk } := by
  have hf := L.has I.ok
  have old : ∀ {z c}, (cloFrom X.env.cells scope.names []).lookup z = some c → (z, NameKind.free) ∈ scope.names ∧ X.env.cells.lookup z = some c := fun {z c} e => by
    rcases cloFrom_mem (PySem.mem_of_lookup e) with m | ⟨m, e2⟩
    · exact absurd m (by simp)
    · obtain ⟨c1, e1⟩ := hf _ m rfl
      have e1 : X.env.cells.lookup z = some c1 := e1
      rw [e1] at e2
      exact ⟨m, by rw [e1, e2]; rfl⟩
  have new : ∀ {z}, scope.names.lookup z = some .free → ∃ c, (cloFrom X.env.cells scope.names []).lookup z = some c := fun {z} h => mem_lookup (cloFrom_has (acc := []) (PySem.mem_of_lookup h))
  have cel : ∀ {c : Addr} {t : Option Value}, s.heap.IsCell c t → h₁.IsCell c t := fun {c t} ⟨o, ho, hd⟩ => ⟨o, kp _ _ ho, hd⟩
  have nocell : ∀ {z}, scope.names.lookup z ≠ some .cell := fun {z} h => (L.own _ (PySem.mem_of_lookup h)).1 rfl
  refine ⟨?ok, rfl, e0.bare, Un.kept kp, ⟨_, hns, ?loc⟩, ?cell, e0.hok.fresh (Nat.le_refl _), ?freeC, fun p hp => absurd (show p ∈ ([] : List (Addr × Obj)) from hp) (by simp), e0.hok.kept kp, hl⟩
  case ok =>
    have n0 : ∀ {b : Addr}, b ∉ ([] : List Addr) := by simp
    refine ⟨e0.mod, L.fn, rfl, rfl, Nat.le_refl _, fun z t c e1 e2 => I.ok.inj z t c (old e1).2 (old e2).2, fun z hz => ?_, fun _ _ z _ => absurd (show false = true from z) (by simp), fun _ => hd, Around.frames_deeper e0.frames,
      .inr ⟨rfl, rfl⟩, fun b z => absurd z n0, e0.bs, e0.bsz, fun b _ _ => n0, fun b z => absurd z n0, e0.funs, e0.frf⟩
    rcases hz with hz | hz
    · exact absurd hz nocell
    · exact new hz
  case loc =>
    intro i z t e1 e2 e3
    rcases hN i z t e1 e2 with ⟨rfl, rfl⟩ | ⟨nz, e4, e5⟩
    · exact ⟨u, ruv, .inl ⟨L.par, by simp⟩⟩
    · have e3 : Vis scope z := e3
      rcases e3 with k | k | k
      · exact absurd ((L.own _ (PySem.mem_of_lookup k)).2 rfl) nz
      · exact absurd k nocell
      · obtain ⟨m, _, hlk⟩ := I.loc
        have o := L.out _ (PySem.mem_of_lookup k) rfl
        obtain ⟨w', r, q⟩ := hlk i z t e4 e5 (.inr o)
        obtain ⟨c2, h2⟩ := new k
        refine ⟨w', r, .inr ⟨.inr k, c2, h2, ?_⟩⟩
        rcases q with ⟨k', _⟩ | ⟨_, c3, e', zc⟩
        · have k' : X.env.scope.names.lookup z = some .local := k'
          rcases o with o | o <;> (have o : X.env.scope.names.lookup z = _ := o; rw [k'] at o; cases o)
        · rw [(old h2).2] at e'
          cases e'
          exact cel zc
  case cell =>
    intro z c e
    obtain ⟨w', q⟩ := I.cell z c (old e).2
    exact ⟨w', cel q⟩
  case freeC => exact fun z c e => I.freeC z c (old e).2
/-- f(v) -/
theorem call1 {f c' : Addr} {pm ctv : Value} {params : Arguments} {body : Expr} {scope : Scope} {k : Nat} {N : List Str} {y : Str} {v : V} {u : Value} {tb : XK → TE} {Q : VK} {E0 : Value → Shared → Prop} (I : Inv X pins σ H s) (gd : X.A.guards = some []) (L : LamP X.env.scope scope y)
    (hf : s.heap.get? f = some (PySem.W.kla_obj "<lambda>" (X.env.qual ++ "<lambda>") params body scope (cloFrom X.env.cells scope.names []) pm c' ctv)) (hco : H c' = some (CodeO c' (X.env.qual ++ "<lambda>")))
    (hbind : ∀ (q : Str) (cl : List (Str × Addr)) (pm cv ctv : Value) (u : Value), bindArgs (PySem.W.kla_fn "<lambda>" q params body scope cl pm cv ctv) ⟨[u], []⟩ = pure [(y, u)]) (hr : Room (k + 2) X.A)
    (hbody : ∀ (A : Around) (outer : List Env) (s : Shared) (H : Hp) (E : XK) (f c' : Addr), Room k (A.deeper (lamEnv X scope s.heap.objs.size f c')) → A.guards = some [] → PE (lamCxN X N A outer s H E scope f c') body (tb E))
    (ruv : RelV v u) (hl : σ'.length = N.length) (hN : ∀ (i : Nat) (z : Str) (t : V), N[i]? = some z → σ'[i]? = some (some t) → (z = y ∧ t = v) ∨ (z ≠ y ∧ X.N[i]? = some z ∧ σ[i]? = some (some t)))
    (q : tb (fun _ _ _ => False) σ' H Q) : wpAny (model X.prog X.w) X.A.in1 (call (.ref f) [u]) (EP X pins σ Q) E0 s := by
  obtain ⟨⟨oc, vs, t, hoc, hdc, hvc⟩, _, _⟩ := I.hok c' _ hco
  have hr1 : Room (k + 1) X.A.in1 := hr.in1
  refine wpAny_call (codeAny_mono (R := CR (L2.CX X.prog X.w) X.stack X.prog X.w H s Q fun _ _ _ => False) ?_ fun r s' hq => ?_)
  · refine PySem.W.kla_callFunE hr1.depth hf rfl L.nco L.nge rfl ⟨c', oc, vs, t, rfl, hoc, hdc, hvc⟩ ?_
    show wpAny _ _ (bindArgs (PySem.W.kla_fn "<lambda>" (X.env.qual ++ "<lambda>") params body scope (cloFrom X.env.cells scope.names []) pm (.ref c') ctv) ⟨[u], []⟩) _ _ _
    rw [hbind]
    refine wpAny_pure (wpAny_newFunctionEnv (fun z hz => (L.own z hz).1) (fun z hz => by rw [List.mem_singleton.mp hz]; exact L.par) (fun h₁ hns hsb => ⟨I.nolimit.fresh _ hsb, ?_⟩) L.fn)
    have J := start1 (A := X.A.in1) (E := fun _ _ _ => False) (f := f) (c' := c') (tk := s.toks + ([(y, u)] : List (Str × Value)).length) (N := N) (σ' := σ') I L I.env0.in1 hr1.hd hns (fun b o e => hsb.extBut b o (Nat.ne_of_lt (Heap.lt_size e)) (Heap.get?_push_of_some _ e)) ruv hl hN
    refine PySem.W.kla_codeExpr (wpAny_mono ((hbody X.A.in1 X.stack s H (fun _ _ _ => False) f c' (hr1.deeper _) gd).run [] _ _ H Q J q) (fun v s' ⟨w', H', J', rv, q⟩ => ⟨w', H', J'.os, J'.bare, J'.base, J'.hok, rv, q⟩) fun e s' hq => hq)
  · match r, hq with
    | .error e, hq =>
      obtain ⟨_, _, _, _, _, _, _, _, _, _, _, _, z⟩ := hq
      exact z.elim
    | .ok (.ret u), hq => exact I.after hq
end
end LamE

set_option maxHeartbeats 2000000
/-! E47: min(xs, key=lambda y: ..) of a list: the built-in with such a lambda. -/
namespace Ev
open PySem PySem.Spec PyProof.Rows L2 LamX LamE
variable [TabsC]
/-- a list that is walked, its items told by V -/
theorem walkV {prog : Program} {w : World} {A : Around} (hh : A.handled = none) {I l : Addr} (hne : l ≠ I) (xs : List V) :
    WalksS prog w A I [I, l] [I] (fun a b => b = a) xs.length (fun i v => ∃ x, xs[i]? = some x ∧ L2.RelV x v) (fun i s => s.heap.IsListIter I l i ∧ ∃ its : List Value, Vals xs its ∧ s.heap.IsList l its.toArray) where
  sub := fun b hb => by rw [List.mem_singleton.mp hb]; exact List.mem_cons_self
  grefl := fun _ => rfl
  gtrans := fun _ _ _ h1 h2 => h2.trans h1
  frame := fun i s h' tk st htk hk => by
    obtain ⟨it, its, rv, il⟩ := st
    obtain ⟨a, b⟩ := (Walks.list (prog := prog) (w := w) hh I l hne its.toArray).frame i s.heap h' ⟨it, il⟩ hk
    exact ⟨a, its, rv, b⟩
  item := fun i s Q E hi st hQ => by
    obtain ⟨it, its, rv, il⟩ := st
    have hz : its.toArray.size = xs.length := by rw [List.size_toArray]; exact rv.length.symm
    refine (Walks.list (prog := prog) (w := w) hh I l hne its.toArray).toS.item i s Q E (by rw [hz]; exact hi) ⟨it, il⟩ fun v s' hv st' m => ?_
    have hv : its[i]? = some v := by simpa using hv
    obtain ⟨x, h1, h2⟩ : ∃ x, xs[i]? = some x ∧ L2.RelV x v := by
      obtain ⟨u, e1, e2⟩ := Vals.get rv (List.getElem?_eq_getElem hi)
      rw [hv] at e1
      cases e1
      exact ⟨_, List.getElem?_eq_getElem hi, e2⟩
    exact hQ v s' ⟨x, h1, h2⟩ ⟨st'.1, its, rv, st'.2⟩ m
  done := fun s Q E st hQ => by
    obtain ⟨it, its, rv, il⟩ := st
    have hz : its.toArray.size = xs.length := by rw [List.size_toArray]; exact rv.length.symm
    exact (Walks.list (prog := prog) (w := w) hh I l hne its.toArray).toS.done s Q E (by rw [hz]; exact ⟨it, il⟩) hQ
  self := fun i s Q E st hQ => wpAny_pyIter_listiter st.1 hQ
/-- what a list holds stays so -/
theorem sqL_grow {K : PySem.W.Frag} {F F' H H' : Hp} {a : Addr} {xs : List V} (t : Tabs TabsC.T H) (g : Grow F H F' H') (h : SqL K H a xs) : SqL K H' a xs := by
  have nt : ∀ {u : HO}, H a = some u → (∀ ps, u ≠ .tbl ps) → NoT a := fun {u} e n p hp z => by
    obtain ⟨ps, e2, _⟩ := t p hp
    rw [z, e] at e2
    cases e2
    exact n _ rfl
  rcases h with (h | ⟨o, h⟩) | h
  · exact .inl (.inl (g.hh _ _ h (nt h (fun ps z => by cases z))))
  · exact .inl (.inr ⟨o, g.hh _ _ h (nt h (fun ps z => by cases z))⟩)
  · exact .inr h
section
variable {X : Cx} {pins : List (Addr × Obj)} {σ : L2.St} {H : Hp} {s s' : Shared}
/-- records of our own have changed -/
theorem inv_moved {I S : Addr} (J : L2.Inv X pins σ H s) (m : Moved [S, I] (fun a b => b = a) s s') (nI : H I = none) (nS : H S = none) (rI : FbM.Rec X pins I) (rS : FbM.Rec X pins S) : L2.Inv X pins σ H s' := by
  obtain ⟨h', g', d', t', o'⟩ := s'
  have e1 : g' = s.gens := m.gens
  have e2 : d' = s.drawn := m.drawn
  have e3 : o' = s.os := m.os
  subst e1; subst e2; subst e3
  have ne : ∀ b u, H b = some u → b ∉ [S, I] := fun b u e z => by
    rcases List.mem_cons.mp z with z | z
    · rw [z, nS] at e; cases e
    · rw [List.mem_singleton.mp z, nI] at e; cases e
  have un : ∀ b ∈ [S, I], H b = none := fun b z => by
    rcases List.mem_cons.mp z with z | z
    · rw [z]; exact nS
    · rw [List.mem_singleton.mp z]; exact nI
  have rc : ∀ b ∈ [S, I], FbM.Rec X pins b := fun b z => by
    rcases List.mem_cons.mp z with z | z
    · rw [z]; exact rS
    · rw [List.mem_singleton.mp z]; exact rI
  refine J.step (ch := [S, I]) (fun b hb => ⟨.inr (rc b hb).ge, (rc b hb).nl, (rc b hb).ce, (rc b hb).pn⟩) (fun b o _ _ hc e _ => m.heap b o hc e) (fun b o _ _ hc e _ => ⟨o.slots, m.heap b o hc e⟩) (fun _ _ _ _ n => n)
    (fun b o hc e => ⟨o, m.heap b o hc e⟩) (fun _ _ e => e) (fun _ _ _ e => e) (fun b ps e => ⟨#[], by rw [e]; simp⟩) (fun t ht => ?_) (fun b u e => ?_) J.bare
  · obtain ⟨o, es, ep, ho, r⟩ := ht
    refine ⟨o, es, ep, m.heap _ o (fun z => ?_) ho, r⟩
    exact (rc _ z).nl rfl
  · refine (J.hok b u e).stay (fun c v hc q => m.heap c v ?_ q) (fun _ q => q) fun _ _ q => q
    rcases hc with z | z
    · rw [z]; exact ne b u e
    · exact ne c _ z
/-- the key of the i-th item -/
def kAt (ks : List D) (i : Nat) : PyData := (ks.getD i .non).py
def okKeys (ks : List D) : Bool := D.noDcts ks && alikeD ks && ks.all (fun x => !x.isNon) && decide (PyData.depthAll (ks.map D.py) ≤ 60)
theorem depth_le : ∀ {ds : List PyData} {d : PyData}, d ∈ ds → d.depth ≤ PyData.depthAll ds
  | e :: ds, d, h => by
    have u : PyData.depthAll (e :: ds) = max e.depth (PyData.depthAll ds) := by simp [PyData.depthAll]
    rw [u]
    rcases List.mem_cons.mp h with h | h
    · rw [h]; exact Nat.le_max_left _ _
    · exact Nat.le_trans (depth_le h) (Nat.le_max_right _ _)
theorem kAt_ok {ks : List D} (h : okKeys ks = true) {i : Nat} (hi : i < ks.length) : ∃ kd, ks[i]? = some kd ∧ ks.getD i .non = kd ∧ kd.noDct = true ∧ kd.py ≠ .none ∧ kd.py.depth ≤ 60 := by
  unfold okKeys at h
  simp only [Bool.and_eq_true, decide_eq_true_eq] at h
  obtain ⟨⟨⟨h1, h2⟩, h3⟩, h4⟩ := h
  refine ⟨ks[i], List.getElem?_eq_getElem hi, by rw [List.getD_eq_getElem?_getD, List.getElem?_eq_getElem hi]; rfl, noD_mem h1 _ (List.getElem_mem hi), fun z => ?_, ?_⟩
  · have := List.all_eq_true.mp h3 _ (List.getElem_mem hi)
    cases e : ks[i] with
    | non => rw [e] at this; cases this
    | _ => rw [e] at z; cases z
  · exact Nat.le_trans (depth_le (List.mem_map.mpr ⟨_, List.getElem_mem hi, rfl⟩)) h4
theorem kAt_alike {ks : List D} (h : okKeys ks = true) {i j : Nat} (hi : i < ks.length) (hj : j < ks.length) : PySem.W.alike (kAt ks i) (kAt ks j) = true := by
  unfold okKeys at h
  simp only [Bool.and_eq_true] at h
  have h2 := h.1.1.2
  unfold alikeD at h2
  have := List.all_eq_true.mp (List.all_eq_true.mp h2 _ (List.getElem_mem hi)) _ (List.getElem_mem hj)
  unfold kAt
  rw [List.getD_eq_getElem?_getD, List.getD_eq_getElem?_getD, List.getElem?_eq_getElem hi, List.getElem?_eq_getElem hj]
  exact this
def btK (ks : List D) (i j : Nat) : Bool := PySem.W.dataLt (kAt ks i) (kAt ks j)
theorem min_lam {la f c' : Addr} {pm ctv : Value} {params : Arguments} {body : Expr} {scope : Scope} {k : Nat} {N : List Str} {y : Str} {tb : XK → TE} {Q : VK} {E0 : Value → Shared → Prop} {F : Hp} {ds ks : List D} {xs : List V} {σ' : V → L2.St}
    (I0 : L2.Inv X pins σ H s) (gd : X.A.guards = some []) (L : LamP X.env.scope scope y) (hf : s.heap.get? f = some (PySem.W.kla_obj "<lambda>" (X.env.qual ++ "<lambda>") params body scope (cloFrom X.env.cells scope.names []) pm c' ctv)) (hfn : H f = none) (hfr : f ∉ X.fs) (hfl : f ≠ X.env.locals)
    (hco : H c' = some (CodeO c' (X.env.qual ++ "<lambda>"))) (tH : Tabs TabsC.T H) (fh : Same F H)
    (hbind : ∀ (q : Str) (cl : List (Str × Addr)) (pm cv ctv : Value) (u : Value), bindArgs (PySem.W.kla_fn "<lambda>" q params body scope cl pm cv ctv) ⟨[u], []⟩ = pure [(y, u)]) (hr : Room (k + 3) X.A)
    (hbody : ∀ (A : Around) (outer : List PySem.Env) (s : Shared) (H : Hp) (E : XK) (f c' : Addr), Room k (A.deeper (lamEnv X scope s.heap.objs.size f c')) → A.guards = some [] → PE (lamCxN X N A outer s H E scope f c') body (tb E))
    (hl : ∀ v, (σ' v).length = N.length) (hN : ∀ (v : V) (i : Nat) (z : Str) (t : V), N[i]? = some z → (σ' v)[i]? = some (some t) → (z = y ∧ t = v) ∨ (z ≠ y ∧ X.N[i]? = some z ∧ σ[i]? = some (some t)))
    (hs : SqL X.K H la xs) (rs : Reps X.K F ds xs) (ne : 0 < ds.length) (ok : okKeys ks = true) (kl : ks.length = ds.length)
    (key : ∀ (i : Nat) (d kd : D), ds[i]? = some d → ks[i]? = some kd → ∀ F' H' v, Grow F H F' H' → Rep X.K F' d v → tb (fun _ _ _ => False) (σ' v) H' fun kv H'' => ∃ F'', Grow F' H' F'' H'' ∧ Rep X.K F'' kd kv)
    (q : ∀ d, ds[argBest (btK ks) (ds.length - 1)]? = some d → ∀ x F' H', Grow F H F' H' → Rep X.K F' d x → Q x H') :
    wpAny (model X.prog X.w) X.A (call (.builtin "min") [.ref la] [(Str.ofString "key", .ref f)]) (EP X pins σ Q) E0 s := by
  have hh : X.A.in1.handled = none := hr.hd
  obtain ⟨its0, rv0, pl0, _⟩ := I0.list hs
  have il0 : s.heap.IsList la its0.toArray := pl0.isList
  have lla : la < s.heap.objs.size := by obtain ⟨o, ho, _⟩ := il0; exact Heap.lt_size ho
  have xl : xs.length = ds.length := rs.length
  refine MinL.call_min (wpAny_pyIter_list il0 ?_)
  -- the records: the iterator, min's own list
  obtain ⟨it, hit⟩ : ∃ it, it = s.heap.objs.size := ⟨_, rfl⟩
  obtain ⟨h2, hh2⟩ : ∃ h2, h2 = s.heap.push { cls := .type "list_iterator", data := .fields #[.ref la, .int 0 0] } := ⟨_, rfl⟩
  obtain ⟨S, hS⟩ : ∃ S, S = h2.objs.size := ⟨_, rfl⟩
  rw [← hh2]
  have kp2 : ∀ b o, s.heap.get? b = some o → h2.get? b = some o := fun b o e => by rw [hh2]; exact Heap.get?_push_of_some _ e
  have z2 : S = s.heap.objs.size + 1 := by rw [hS, hh2]; exact Heap.size_push ..
  have at_it : h2.get? it = some { cls := .type "list_iterator", data := .fields #[.ref la, .int 0 0] } := by rw [hit, hh2]; exact Heap.get?_push_size _ rfl
  have I1 : L2.Inv X pins σ H { s with heap := h2 } := I0.kept (t' := s.toks) kp2
  have nIS : it ≠ S := by omega
  have rI : FbM.Rec X pins it := FbM.rec_new I0 (by omega)
  have rS : FbM.Rec X pins S := FbM.rec_new I0 (by omega)
  have fI : it ∉ X.fs := I0.nofs (by omega)
  have fS : S ∉ X.fs := I0.nofs (by omega)
  have nI : H it = none := I0.hok.fresh (by omega)
  have nS : H S = none := I0.hok.fresh (by omega)
  have ltf : f < s.heap.objs.size := Heap.lt_size hf
  have nfI : f ≠ it := by rw [hit]; exact Nat.ne_of_lt ltf
  have nfS : f ≠ S := by rw [z2]; exact Nat.ne_of_lt (Nat.lt_succ_of_lt ltf)
  have ntc : NoT c' := fun p hp z => by
    obtain ⟨ps, e, _⟩ := tH p hp
    rw [z, hco] at e
    unfold CodeO at e
    cases e
  -- what stays
  let fo : Obj := PySem.W.kla_obj "<lambda>" (X.env.qual ++ "<lambda>") params body scope (cloFrom X.env.cells scope.names []) pm c' ctv
  let At : Hp → Hp → Shared → Prop := fun F' H' s' => L2.Inv X pins σ H' s' ∧ Grow F H F' H' ∧ H' it = none ∧ H' S = none ∧ H' f = none ∧ s'.heap.get? f = some fo
  have mvAt : ∀ (F' H' : Hp) (s1 s2 : Shared), At F' H' s1 → Moved [S, it] (fun a b => b = a) s1 s2 → At F' H' s2 := by
    intro F' H' s1 s2 ⟨a, b, c, d, e, g⟩ m
    exact ⟨inv_moved a m c d rI rS, b, c, d, e, m.heap f _ (by simp [nfI, nfS]) g⟩
  let J0 : Shared → Prop := fun s' => ∃ F' H', At F' H' s'
  let J : Nat → Value → Shared → Prop := fun b kb s' => ∃ F' H' v, At F' H' s' ∧ L2.RelV v kb ∧ Rep X.K F' (ks.getD b .non) v
  let P : Nat → Value → Prop := fun i v => ∃ x, xs[i]? = some x ∧ L2.RelV x v
  let St : Nat → Shared → Prop := fun i s => s.heap.IsListIter it la i ∧ ∃ its : List Value, Vals xs its ∧ s.heap.IsList la its.toArray
  -- one call of the lambda
  have turn : ∀ (i : Nat) (v : Value) (s1 : Shared) (o : Obj) (F1 H1 : Hp) (Q1 : Value → Shared → Prop) (E1 : Value → Shared → Prop), P i v → At F1 H1 s1 → St (i + 1) s1 → (∃ ys c, o = MinL.own2 ys c) → s1.heap.get? S = some o →
      (∀ kv s2 F2 H2 u, At F2 H2 s2 → Grow F1 H1 F2 H2 → L2.RelV kv u → Rep X.K F2 (ks.getD i .non) kv → St (i + 1) s2 → s2.heap.get? S = some o → Q1 u s2) → wpAny (model X.prog X.w) X.A.in1 (call (.ref f) [v]) Q1 E1 s1 := by
    intro i v s1 o F1 H1 Q1 E1 ⟨x, hx, rx⟩ ⟨J1, g1, n1, n2, n3, e1⟩ ⟨⟨oI, hoI, oI1, oI2⟩, _⟩ ⟨ys, cc, ho⟩ hso q1
    have J2 : L2.Inv X ((it, oI) :: (S, o) :: (f, fo) :: pins) σ H1 s1 := J1.pins_of fun p hp => by
      rcases List.mem_cons.mp hp with z | hp
      · subst z; exact ⟨hoI, n1, rI.nl, fI, fun w z => by rw [oI2] at z; cases z⟩
      rcases List.mem_cons.mp hp with z | hp
      · subst z; exact ⟨hso, n2, rS.nl, fS, fun w z => by rw [ho] at z; cases z⟩
      rcases List.mem_cons.mp hp with z | hp
      · subst z; exact ⟨e1, n3, hfl, hfr, fun w z => by cases z⟩
      · exact J1.pin p (List.mem_append_right _ hp)
    have hi : i < ds.length := by have := (List.getElem?_eq_some_iff.mp hx).1; omega
    have hki : i < ks.length := by omega
    obtain ⟨x', e2, e3⟩ := rs.get (List.getElem?_eq_getElem hi)
    rw [hx] at e2; cases e2
    have tb1 := key i _ _ (List.getElem?_eq_getElem hi) (List.getElem?_eq_getElem hki) F1 H1 x g1 (e3.mono g1.ff)
    have gk : ks.getD i .non = ks[i] := by rw [List.getD_eq_getElem?_getD, List.getElem?_eq_getElem hki]; rfl
    refine wpAny_mono (call1 (E0 := E1) J2 gd L e1 (g1.hh _ _ hco ntc) hbind (hr.mono (by omega)) hbody rx (hl x) (hN x) tb1) (fun u s2 hq => ?_) fun _ _ e => e
    obtain ⟨kv, H2, J3, rk, F2, g2, hk⟩ := hq
    have p1 := J3.pin (it, oI) (List.mem_append_right _ (by simp))
    have p2 := J3.pin (S, o) (List.mem_append_right _ (by simp))
    have p3 := J3.pin (f, fo) (List.mem_append_right _ (by simp))
    have J4 : L2.Inv X pins σ H2 s2 := J3.pins_of fun p hp => J3.pin p (List.mem_append_right _ (by simp [hp]))
    have hs2 := sqL_grow (g1.tt tH) g2 (sqL_grow tH g1 hs)
    obtain ⟨its2, rv2, pl2, _⟩ := J4.list hs2
    exact q1 kv s2 F2 H2 u ⟨J4, g1.trans g2, p1.2.1, p2.2.1, p3.2.1, p3.1⟩ g2 rk (by rw [gk]; exact hk) ⟨⟨oI, p1.1, oI1, oI2⟩, its2, rv2, pl2.isList⟩ p2.1
  refine ⟨it, [it, la], [it], fun a b => b = a, xs.length, P, St, J0, J, btK ks, by rw [hit], walkV hh (by rw [hit]; exact Nat.ne_of_lt lla) xs, ⟨⟨_, at_it, rfl, rfl⟩, its0, rv0, ?_⟩, fun b hb => ?_, by omega, ?_, ⟨F, H, I1, .refl fh, nI, nS, hfn, kp2 _ _ hf⟩, fun v kb s1 hP hJ => ?_⟩
  · obtain ⟨o, ho, r⟩ := il0
    exact ⟨o, kp2 _ _ ho, r⟩
  · show b < h2.objs.size
    simp only [List.mem_cons, List.not_mem_nil, or_false] at hb
    rw [← hS, z2]
    rcases hb with z | z
    · rw [z, hit]; exact Nat.lt_succ_self _
    · rw [z]; exact Nat.lt_succ_of_lt lla
  · show MinL.Turns X.prog X.w X.A.in1 f h2.objs.size [it] (fun a b => b = a) xs.length P St J0 J (btK ks)
    rw [← hS]
    refine ⟨fun s1 s2 ⟨F1, H1, a⟩ m => ⟨F1, H1, mvAt _ _ _ _ a m⟩, fun b kb s1 s2 ⟨F1, H1, v, a, r1, r2⟩ m => ⟨F1, H1, v, mvAt _ _ _ _ a m, r1, r2⟩, fun v s1 o Q1 E1 hP ⟨F1, H1, a⟩ st oo hso hQ => ?_, fun i b kb v s1 o Q1 E1 hi hb hP ⟨F1, H1, w', a, r1, r2⟩ st oo hso hQ => ?_⟩
    · exact turn 0 v s1 o F1 H1 Q1 E1 hP a st oo hso fun kv s2 F2 H2 u a2 g2 rk hk st2 hs2 => hQ u s2 ⟨F2, H2, kv, a2, rk, hk⟩ st2 hs2
    · refine turn i v s1 o F1 H1 Q1 E1 hP a st oo hso fun kv s2 F2 H2 u a2 g2 rk hk st2 hs2 => ?_
      refine hQ u s2 ⟨F2, H2, w', a2, r1, r2.mono g2.ff⟩ ⟨F2, H2, kv, a2, rk, hk⟩ st2 hs2 fun Q2 E2 hq2 => ?_
      have hki : i < ks.length := by omega
      have hkb : b < ks.length := by omega
      obtain ⟨k1, _, a1, a2', a3, a4⟩ := kAt_ok ok hki
      obtain ⟨k2, _, b1, b2', b3, b4⟩ := kAt_ok ok hkb
      have al := kAt_alike ok hki hkb
      rw [a1] at hk
      rw [b1] at r2
      unfold kAt at al
      rw [a1, b1] at al
      obtain ⟨as, q3⟩ := Dp.reads a2.1 _ kv u (Rep.dp a2' (hk.mono a2.2.1.fh)) rk
      obtain ⟨bs, q4⟩ := Dp.reads a2.1 _ w' kb (Rep.dp b2' ((r2.mono g2.ff).mono a2.2.1.fh)) r1
      have hu := hr.in1.un
      refine PySem.W.lt_data (A := X.A.in1) q3 q4 al a3 (by omega) ?_
      have : btK ks i b = PySem.W.dataLt k1.py k2.py := by unfold btK kAt; rw [a1, b1]
      rw [← this]
      exact hq2
  · obtain ⟨x, hx, rx⟩ := hP
    obtain ⟨F1, H1, _, a, _, _⟩ := hJ
    rw [xl] at hx
    obtain ⟨d, e1, e2⟩ := rs.get' hx
    exact ⟨x, H1, a.1, rx, q d e1 x F1 H1 a.2.1 (e2.mono a.2.1.ff)⟩
end
end Ev

set_option maxHeartbeats 2000000
/-! E48: min(xs, key=lambda y: ..) as a plain function. -/
namespace Ev
open PySem PySem.Spec PyProof.Rows L2 LamX LamE
variable [TabsC]
/-- the lambda's parameter takes its place -/
def putE (i : Nat) (d : D) (r : Env) : Env := if i < r.length then r.set i (.val d) else r ++ [.val d]
def putS (i : Nat) (v : V) (s : Sg) : Sg := if i < s.length then s.set i (some v) else s ++ [some v]
section
variable {K : PySem.W.Frag} {F H : Hp} {r : Env} {s : Sg} {i : Nat} {d : D} {v : V}
theorem putE_len : (putE i d r).length = if i < r.length then r.length else r.length + 1 := by unfold putE; split <;> simp
theorem putS_len : (putS i v s).length = if i < s.length then s.length else s.length + 1 := by unfold putS; split <;> simp
theorem putE_at (hi : i ≤ r.length) (j : Nat) : (putE i d r)[j]? = if j = i then some (.val d) else r[j]? := by
  unfold putE
  by_cases h : i < r.length
  · rw [if_pos h]
    by_cases e : j = i
    · subst e; rw [if_pos rfl, List.getElem?_set_self h]
    · rw [if_neg e, List.getElem?_set_ne (Ne.symm e)]
  · have : i = r.length := by omega
    subst this
    rw [if_neg h]
    by_cases e : j = r.length
    · subst e; rw [if_pos rfl]; simp
    · rw [if_neg e]
      by_cases z : j < r.length
      · rw [List.getElem?_append_left z]
      · rw [List.getElem?_append_right (by omega), List.getElem?_eq_none (by simp; omega), List.getElem?_eq_none (by omega)]
theorem putS_at (hi : i ≤ s.length) (j : Nat) : (putS i v s)[j]? = if j = i then some (some v) else s[j]? := by
  unfold putS
  by_cases h : i < s.length
  · rw [if_pos h]
    by_cases e : j = i
    · subst e; rw [if_pos rfl, List.getElem?_set_self h]
    · rw [if_neg e, List.getElem?_set_ne (Ne.symm e)]
  · have : i = s.length := by omega
    subst this
    rw [if_neg h]
    by_cases e : j = s.length
    · subst e; rw [if_pos rfl]; simp
    · rw [if_neg e]
      by_cases z : j < s.length
      · rw [List.getElem?_append_left z]
      · rw [List.getElem?_append_right (by omega), List.getElem?_eq_none (by simp; omega), List.getElem?_eq_none (by omega)]
theorem vo_no {r : Env} {j : Nat} {p : Bool} {c : C} : (vo r)[j]? ≠ some (.own p c) := fun e => by
  obtain ⟨s0, _, h⟩ := vo_at e
  cases s0 <;> cases h
theorem Rel.put {r0 : Env} (R : Rel K ⟨H, F, fun _ => False, s⟩ F (fun _ => none) H (vo r0) s) (hi : i ≤ (vo r0).length) (hv : Rep K F d v) :
    Rel K ⟨H, F, fun _ => False, putS i v s⟩ F (fun _ => none) H (putE i d (vo r0)) (putS i v s) := by
  have hs : i ≤ s.length := by rw [R.len]; exact hi
  have no : ∀ {j : Nat} {p : Bool} {c : C}, (putE i d (vo r0))[j]? ≠ some (.own p c) := fun {j p c} e => by
    rw [putE_at hi] at e
    split at e
    · cases e
    · exact vo_no e
  refine ⟨R.fh, .refl _, fun _ _ e => .inl e, ⟨fun _ _ e _ _ => e, R.fr.t, R.fr.t0, R.fr.b⟩, fun _ e => e, fun _ _ e => absurd e (by simp), by rw [putE_len, putS_len, R.len], fun j e he => ?_, fun j p c e => absurd e no, fun j l p q c c' a e => absurd e no, fun j a he => ?_⟩
  · rw [putE_at hi] at he
    rw [putS_at hs]
    split at he
    · rename_i h
      cases he
      rw [if_pos h]
      exact ⟨v, rfl, hv⟩
    · rename_i h
      rw [if_neg h]
      exact R.vl j e he
  · rw [putE_at hi] at he
    rw [putS_at hs]
    split at he
    · cases he
    · rename_i h
      rw [if_neg h]
      exact R.rf j a he
end
def kOf (fe : FE) (i : Nat) (r : Env) (d : D) : Option D := match fe (putE i d r) with
  | .ok p => some p.1
  | _ => none
def kOfs (fe : FE) (i : Nat) (r : Env) : List D → Option (List D)
  | [] => some []
  | d :: ds => (kOf fe i r d).bind fun k => (kOfs fe i r ds).map (k :: ·)
theorem kOfs_at {fe : FE} {i : Nat} {r : Env} : ∀ {ds ks : List D}, kOfs fe i r ds = some ks → ks.length = ds.length ∧ ∀ (j : Nat) (d kd : D), ds[j]? = some d → ks[j]? = some kd → kOf fe i r d = some kd
  | [], ks, h => by cases h; exact ⟨rfl, fun j d kd e => by simp at e⟩
  | d :: ds, ks, h => by
    obtain ⟨k, h1, h2⟩ := Option.bind_eq_some_iff.mp h
    obtain ⟨ks', h3, rfl⟩ := Option.map_eq_some_iff.mp h2
    obtain ⟨a, b⟩ := kOfs_at h3
    refine ⟨by rw [List.length_cons, List.length_cons, a], fun j e kd e1 e2 => ?_⟩
    cases j with
    | zero => simp at e1 e2; subst e1; subst e2; exact h1
    | succ j => exact b j e kd (by simpa using e1) (by simpa using e2)
theorem kOfs_map {fe : FE} {i : Nat} {r : Env} {kf : D → D} : ∀ {ds : List D}, (∀ d ∈ ds, kOf fe i r d = some (kf d)) → kOfs fe i r ds = some (ds.map kf)
  | [], _ => rfl
  | d :: ds, h => by
    show (kOf fe i r d).bind _ = _
    rw [h d List.mem_cons_self, kOfs_map fun e he => h e (List.mem_cons_of_mem _ he)]
    rfl
def lstOf : List D → Option (List D)
  | [.lst ds] => some ds
  | _ => none
theorem lst_args {K : PySem.W.Frag} {F H : Hp} {l ds : List D} {vs : List V} {us : List Value} (e : lstOf l = some ds) (h : RepBs K F H l vs) (r : Vals vs us) : ∃ a xs, us = [.ref a] ∧ SqL K H a xs ∧ Reps K F ds xs := by
  have z : l = [.lst ds] := by
    unfold lstOf at e
    split at e
    · cases e; rfl
    · cases e
  subst z
  cases h with
  | cons hx t =>
    cases t
    obtain ⟨a, xs, e2, h1, h2⟩ := hx
    subst e2
    exact ⟨a, xs, Vals.ref1 r, h1, h2⟩
def minK (ds ks : List D) : Option D := if okKeys ks = true ∧ 0 < ds.length then ds[argBest (btK ks) (ds.length - 1)]? else none
/-- min(xs, key=lambda y: body): the names at is are in the lambda's hands, y has the i-th place -/
def fMinK (is : List Nat) (i : Nat) (fa : FA) (fe : FE) : FE := fun r => (fa r).bnd fun bs r1 => obnd (bGets r1 bs) fun l => obnd (lstOf l) fun ds => obnd (kOfs fe i (vo (frz is r1)) ds) fun ks => obnd (minK ds ks) fun d => .ok (d, frz is r1)
theorem frz_len : ∀ (is : List Nat) (r : Env), (frz is r).length = r.length
  | [], _ => rfl
  | i :: is, r => by
    show (frz is (match r[i]? with
      | some (.own false c) => r.set i (.val c.d)
      | _ => r)).length = _
    rw [frz_len is]
    split <;> simp
section
variable {X : Cx} {E : XK} {e : Expr} {fa : FA} {fe : FE} {is : List Nat} {i k : Nat} {y nm : Str} {c P : Addr} {N : List Str} {params : Arguments} {body : Expr} {scope : Scope} {p lpos kpos pos : Pos}
theorem ev_minK (hm : X.mg "min" = none) (ha : EvA X E [e] fa) (gd : X.A.guards = some []) (TB : TabB X.base X.mg c P) (hcode : X.env.code = .ref c) (hmT : (P, nm) ∈ TabsC.T) (hu : ∀ p ∈ TabsC.T, p.1 = P → p.2 = nm) (hnm : nm = X.env.qual ++ "<lambda>")
    (hr : Room (k + 3) X.A) (L : lamPB X.env.scope scope y = true) (hput : (i < X.N.length ∧ X.N[i]? = some y ∧ X.N.Nodup ∧ N = X.N) ∨ (i = X.N.length ∧ y ∉ X.N ∧ N = X.N ++ [y]))
    (hbody : ∀ (A : Around) (outer : List PySem.Env) (s : Shared) (H : Hp) (E : XK) (f c' : Addr), Room k (A.deeper (lamEnv X scope s.heap.objs.size f c')) → A.guards = some [] → EvE (lamCxN X N A outer s H E scope f c') E body fe)
    (hbind : ∀ (q : Str) (cl : List (Str × Addr)) (pm cv ctv : Value) (u : Value), bindArgs (PySem.W.kla_fn "<lambda>" q params body scope cl pm cv ctv) ⟨[u], []⟩ = pure [(y, u)] := by exact fun _ _ _ _ _ _ => rfl)
    (hdef : defaultsOf params X.env = ([], []) := by rfl) (hg : Gl X "min" := by rfl)
    (he : backTo pos (starEach [e] X.env) = (false, eval e X.env) :: backTo pos (starEach [] X.env) := by rfl) (hpl : (backTo pos (starEach [e] X.env)).any (·.1) = false := by rfl) :
    EvE X E (.Call (.Name "min" p) [e] [⟨some "key", .Lambda params body scope lpos, kpos⟩] pos) (fMinK is i fa fe) := ⟨fun pins s σ H Q I ⟨B, F, O, r, R, q⟩ => by
  subst hnm
  have L := lamP_by L
  unfold fMinK at q
  refine wpAny_Call_Name_kw (ld_blt I hg hm (by rfl) ?_ (by decide) (by decide))
  refine PyProof.Rows.callWith_kw (thn (ha.run pos pins s σ H (fun vs H1 => ∃ F1 O1 r1 bs, Rel X.K B F1 O1 H1 r1 σ ∧ BReps X.K F1 σ bs vs ∧ Post X.K X.mg E B F1 O1 r1 σ (obnd (bGets r1 bs) fun l => obnd (lstOf l) fun ds => obnd (kOfs fe i (vo (frz is r1)) ds) fun ks => obnd (minK ds ks) fun d => .ok (d, frz is r1)) fun d _ F' _ H' => ∀ v, Rep X.K F' d v → Q v H')
    I ⟨B, F, O, r, R, (Post.split q).mono fun bs r1 F1 O1 H1 R1 _ _ z vs hv => ⟨F1, O1, r1, bs, R1, hv, z⟩⟩) fun us s1 ⟨vs, H1, I1, ru, F1, O1, r1, bs, R1, hb, z⟩ => ?_) he hpl
  obtain ⟨l, e1, z⟩ := Post.opt z
  obtain ⟨ds, e2, z⟩ := Post.opt z
  obtain ⟨ks, e3, z⟩ := Post.opt z
  obtain ⟨d, e4, z⟩ := Post.opt z
  have T1 := R1.fr.t
  have hbs := R1.bgets hb e1
  obtain ⟨a, xs, rfl, hsq, hrs⟩ : ∃ a xs, us = [.ref a] ∧ SqL X.K H1 a xs ∧ Reps X.K F1 ds xs := by
    exact lst_args e2 hbs ru
  obtain ⟨F2, O2, f2, R2, k2⟩ := R1.frzs (is := is)
  show wpAny _ _ (evalAll ((do let v ← eval (.Lambda params body scope lpos) X.env; standAt pos; pure v) :: [])) _ _ s1
  refine wpAny_evalAll_cons (wpAny_bind (lam_made I1 TB hcode hmT hu T1 hdef (L.has I1.ok) fun f c' pm' ctv H2 s2 I2 one T2 hf hfn hfr hco hge => wpAny_bind (wpAny_standAt (wpAny_pure (wpAny_evalAll_nil ?_)))))
  have nP : F2 P = none := R2.noF _ hmT
  have g : Grow F2 H1 F2 H2 := ⟨.refl _, fun b o e n => one.k b o e (n _ hmT).symm, fun _ => T2, one.n, fun _ _ e => .inl e, fun b o e => one.k b o (R2.fh _ _ e) (fun z => by rw [z, nP] at e; cases e)⟩
  have R3 := R2.grow g
  obtain ⟨kl, kat⟩ := kOfs_at e3
  unfold minK at e4
  split at e4
  case isFalse => cases e4
  rename_i hok
  have sl : σ.length = X.N.length := I1.len
  have rl : (vo (frz is r1)).length = σ.length := by unfold vo; rw [List.length_map, frz_len, R1.len]
  have hi : i ≤ X.N.length := by rcases hput with h | h <;> omega
  have z : ∀ F3 O3 H3, Rel X.K B F3 O3 H3 (frz is r1) σ → Same F1 F3 → Keep σ r1 (frz is r1) O1 O3 → ∀ v, Rep X.K F3 d v → Q v H3 := z
  show wpAny _ _ (call (.builtin "min") [.ref a] [(Str.ofString "key", .ref f)]) (EP X pins σ Q) X.xe s2
  refine min_lam (σ' := fun v => putS i v σ) (tb := fun E => tE X.K X.mg E fe) (F := F2) (ds := ds) (ks := ks) (xs := xs) I2 gd L hf hfn (I1.nofs hge) (Nat.ne_of_gt (Nat.lt_of_lt_of_le I1.lt hge)) hco T2 R3.fh hbind hr hbody (fun v => ?_) (fun v j w t e5 e6 => ?_) (sqL_grow T1 g hsq) (hrs.mono f2) hok.2 hok.1 kl
    (fun j d' kd e5 e6 F' H' v g' hv => ?_) fun d' e5 x F' H' g' hx => ?_
  · rw [putS_len, sl]
    rcases hput with ⟨h1, _, _, rfl⟩ | ⟨h1, _, rfl⟩
    · rw [if_pos h1]
    · rw [if_neg (by omega), List.length_append]; rfl
  · rw [putS_at (by omega)] at e6
    rcases hput with ⟨h1, h2, h3, rfl⟩ | ⟨rfl, h2, rfl⟩
    · by_cases hj : j = i
      · subst hj
        rw [if_pos rfl] at e6
        rw [h2] at e5
        cases e5; cases e6
        exact .inl ⟨rfl, rfl⟩
      · rw [if_neg hj] at e6
        exact .inr ⟨fun q => hj (nodup_ix h3 e5 (by rw [q]; exact h2)), e5, e6⟩
    · by_cases hj : j = X.N.length
      · subst hj
        rw [if_pos rfl] at e6
        simp at e5
        cases e6
        exact .inl ⟨e5.symm, rfl⟩
      · rw [if_neg hj] at e6
        have lt : j < X.N.length := by rw [← sl]; exact (List.getElem?_eq_some_iff.mp e6).1
        rw [List.getElem?_append_left lt] at e5
        exact .inr ⟨fun q => h2 (by rw [← q]; exact List.mem_of_getElem? e5), e5, e6⟩
  · have R5 := ((R3.grow g').enter).put (i := i) (by rw [rl, sl]; exact hi) hv
    have hk := kat j d' kd e5 e6
    refine ⟨_, F', _, _, R5, ?_⟩
    unfold kOf at hk
    cases m : fe (putE i d' (vo (frz is r1))) with
    | stuck => rw [m] at hk; cases hk
    | ex x => rw [m] at hk; cases hk
    | ok p =>
      rw [m] at hk
      cases hk
      exact fun F'' O'' H'' R'' f'' k'' kv hv' => ⟨F'', R''.grown rfl rfl fun _ z => z, hv'⟩
  · rw [e4] at e5
    cases e5
    exact z F' O2 H' (R3.grow g') (f2.trans g'.ff) k2 x hx⟩
end
end Ev

/-! E49: min with a key, for simp and for plain proofs. -/
namespace Ev
open PySem PySem.Spec PyProof.Rows L2 LamX LamE
variable [TabsC]
theorem passes_lamN {X : Cx} {scope : Scope} (CX : CXT) (N : List Str) (A : Around) (outer : List PySem.Env) (s : Shared) (H : Hp) (E : XK) (f c' : Addr) (e : CX = L2.CX X.prog X.w := by rfl) : Passes CX (lamCxN X N A outer s H E scope f c') E := by
  subst e
  exact passes_call (W := fun cls dd _ H => E cls dd H) (takes_of rfl rfl rfl rfl) (fun _ _ _ _ z => z)
@[simp ↓] theorem ap_fMinK (is : List Nat) (i : Nat) (fa : FA) (fe : FE) (r : Env) : fMinK is i fa fe r = bK (fa r) (fun bs r1 => oK (bGets r1 bs) (fun l => oK (lstOf l) (fun ds => oK (kOfs fe i (vo (frz is r1)) ds) (fun ks => oK (minK ds ks) (fun d => .ok (d, frz is r1)) ⟨⟩) ⟨⟩) ⟨⟩) ⟨⟩) ⟨⟩ := (rfl)
omit [TabsC] in
@[simp] theorem lstOf_l (ds : List D) : lstOf [.lst ds] = some ds := rfl
omit [TabsC] in
/-- the least of the keys is that of the least item -/
theorem minDD_arg : ∀ (n : Nat) (ks : List D) (k0 : D), ks.length = n → minDD k0 ks = (k0 :: ks).getD (argBest (btK (k0 :: ks)) ks.length) .non
  | 0, ks, k0, h => by
    have : ks = [] := List.length_eq_zero_iff.mp h
    subst this
    rfl
  | n + 1, ks, k0, h => by
    obtain ⟨ks', z, rfl⟩ : ∃ ks' z, ks = ks' ++ [z] := ⟨ks.dropLast, ks.getLast (by intro e; rw [e] at h; cases h), (List.dropLast_concat_getLast _).symm⟩
    have hl : ks'.length = n := by simpa using h
    have ih := minDD_arg n ks' k0 hl
    have pre : ∀ j, j ≤ ks'.length → (k0 :: (ks' ++ [z])).getD j .non = (k0 :: ks').getD j .non := fun j hj => by
      rw [List.getD_eq_getElem?_getD, List.getD_eq_getElem?_getD, ← List.cons_append, List.getElem?_append_left (by simp; omega)]
    have last : (k0 :: (ks' ++ [z])).getD (ks'.length + 1) .non = z := by simp
    have arg : ∀ j, j ≤ ks'.length → argBest (btK (k0 :: (ks' ++ [z]))) j = argBest (btK (k0 :: ks')) j := by
      intro j
      induction j with
      | zero => intro _; rfl
      | succ j ij =>
        intro hj
        have e := ij (by omega)
        have b := MinL.best_le (bt := btK (k0 :: ks')) j
        show (if btK (k0 :: (ks' ++ [z])) (j + 1) (argBest (btK (k0 :: (ks' ++ [z]))) j) = true then j + 1 else argBest (btK (k0 :: (ks' ++ [z]))) j) = (if btK (k0 :: ks') (j + 1) (argBest (btK (k0 :: ks')) j) = true then j + 1 else argBest (btK (k0 :: ks')) j)
        rw [e]
        have : btK (k0 :: (ks' ++ [z])) (j + 1) (argBest (btK (k0 :: ks')) j) = btK (k0 :: ks') (j + 1) (argBest (btK (k0 :: ks')) j) := by
          generalize argBest (btK (k0 :: ks')) j = a at b
          unfold btK kAt
          rw [pre (j + 1) hj, pre a (by omega)]
        rw [this]
    have b := MinL.best_le (bt := btK (k0 :: ks')) ks'.length
    have step : minDD k0 (ks' ++ [z]) = if PySem.W.dataLt z.py (minDD k0 ks').py = true then z else minDD k0 ks' := by
      unfold minDD
      rw [List.foldl_append]
      rfl
    rw [step, ih, List.length_append]
    show _ = (k0 :: (ks' ++ [z])).getD (if btK (k0 :: (ks' ++ [z])) (ks'.length + 1) (argBest (btK (k0 :: (ks' ++ [z]))) ks'.length) = true then ks'.length + 1 else argBest (btK (k0 :: (ks' ++ [z]))) ks'.length) .non
    rw [arg _ (Nat.le_refl _)]
    have e2 : btK (k0 :: (ks' ++ [z])) (ks'.length + 1) (argBest (btK (k0 :: ks')) ks'.length) = PySem.W.dataLt z.py ((k0 :: ks').getD (argBest (btK (k0 :: ks')) ks'.length) .non).py := by
      generalize argBest (btK (k0 :: ks')) ks'.length = a at b
      unfold btK kAt
      rw [last, pre a b]
    rw [e2]
    split
    · rw [last]
    · rw [pre _ b]
omit [TabsC] in
/-- min(ks) is the key of what min(ds, key) tells -/
theorem min_key {ds ks : List D} (ok : okKeys ks = true) (h : ds.length = ks.length) (ne : 0 < ds.length) : ∃ b, b < ds.length ∧ minK ds ks = ds[b]? ∧ gMin1 (.lst ks) = ks[b]? := by
  have bl := MinL.best_le (bt := btK ks) (ds.length - 1)
  refine ⟨argBest (btK ks) (ds.length - 1), by omega, ?_, ?_⟩
  · unfold minK
    rw [if_pos ⟨ok, ne⟩]
  · cases ks with
    | nil => rw [List.length_nil] at h; omega
    | cons k0 ks =>
      show (if okMin (k0 :: ks) = true then some (minDD k0 ks) else none) = _
      have ok2 : okMin (k0 :: ks) = true := ok
      rw [if_pos ok2, minDD_arg _ ks k0 rfl]
      have e : ds.length - 1 = ks.length := by rw [h]; simp
      rw [e]
      have lt : argBest (btK (k0 :: ks)) ks.length < (k0 :: ks).length := by
        have := MinL.best_le (bt := btK (k0 :: ks)) ks.length
        simp; omega
      rw [List.getD_eq_getElem?_getD, List.getElem?_eq_getElem lt]
      rfl
end Ev

/-! E50: the least of data is no greater than any. -/
namespace Ev
open PySem PySem.Spec PyProof.Rows L2 PySem.W
theorem dlt_neg {a c : PyData} (b : PyData) (h : dataLt a c = true) : dataLt a b = true ∨ dataLt b c = true := lex_negTrans _ _ _ h
theorem dlt_trans {a b c : PyData} (h : dataLt a b = true) (h2 : dataLt b c = true) : dataLt a c = true := lex_trans _ _ _ h h2
theorem minDD_low : ∀ (xs : List D) (x : D), ∀ e ∈ x :: xs, dataLt e.py (minDD x xs).py = false
  | [], x, e, h => by
    rw [List.mem_singleton.mp h]
    exact dataLt_self _
  | y :: xs, x, e, h => by
    have u : minDD x (y :: xs) = minDD (if dataLt y.py x.py = true then y else x) xs := rfl
    rw [u]
    by_cases c : dataLt y.py x.py = true
    · rw [if_pos c]
      have ih := minDD_low xs y
      rcases List.mem_cons.mp h with h | h
      · subst h
        cases q : dataLt e.py (minDD y xs).py with
        | false => rfl
        | true =>
          have := dlt_trans c q
          rw [ih y List.mem_cons_self] at this
          cases this
      · exact ih e h
    · rw [if_neg c]
      have ih := minDD_low xs x
      rcases List.mem_cons.mp h with h | h
      · rw [h]; exact ih x List.mem_cons_self
      · rcases List.mem_cons.mp h with h | h
        · subst h
          cases q : dataLt e.py (minDD x xs).py with
          | false => rfl
          | true =>
            rcases dlt_neg x.py q with z | z
            · exact absurd z c
            · rw [ih x List.mem_cons_self] at z; cases z
        · exact ih e (List.mem_cons_of_mem _ h)
theorem lt_triple (r w r' w' : Int) (x x' : PyData) : dataLt (.tuple [.int r, .int w, x]) (.tuple [.int r', .int w', x']) = if r = r' then (if w = w' then rowLt [x] [x'] else decide (w < w')) else decide (r < r') := by
  rw [dataLt_tuple, dataLt_cons (by simp [alike]), dataLt_cons (by simp [alike])]
  by_cases h : r = r'
  · rw [if_pos (by simp [PyData.eqv, h]), if_pos h]
    by_cases h2 : w = w'
    · rw [if_pos (by simp [PyData.eqv, h2]), if_pos h2]; rfl
    · rw [if_neg (by simp [PyData.eqv, h2]), if_neg h2, dataLt_int]
  · rw [if_neg (by simp [PyData.eqv, h]), if_neg h, dataLt_int]
/-- min(ks) is the key of what min(ds, key) tells; no key is less -/
theorem min_key' {ds ks : List D} (ok : okKeys ks = true) (h : ds.length = ks.length) (ne : 0 < ds.length) : ∃ (b : Nat) (hb : b < ds.length) (hk : b < ks.length), minK ds ks = some ds[b] ∧ gMin1 (.lst ks) = some ks[b] ∧ ∀ e ∈ ks, dataLt e.py ks[b].py = false := by
  obtain ⟨b, hb, h1, h2⟩ := min_key ok h ne
  have hk : b < ks.length := by omega
  rw [List.getElem?_eq_getElem hb] at h1
  rw [List.getElem?_eq_getElem hk] at h2
  refine ⟨b, hb, hk, h1, h2, fun e he => ?_⟩
  cases ks with
  | nil => cases he
  | cons k0 ks =>
    have h3 : (if okMin (k0 :: ks) = true then some (minDD k0 ks) else none) = some (k0 :: ks)[b] := h2
    rw [if_pos (show okMin (k0 :: ks) = true from ok)] at h3
    rw [← Option.some.inj h3]
    exact minDD_low ks k0 e he
end Ev

/-! E51: a dict in a list of tuples. -/
namespace Ev
open PySem PySem.Spec PyProof.Rows L2 PySem.SeqAt PySem.MeetsSeq
variable [TabsC]
omit [TabsC] in
theorem tup_no_dict (l b : Addr) (xs : Array Value) (d2 : Data) (n : Nat) (dd dd2 : Option Addr) (sl sl2 : Array (Option Value)) :
    Meets (Builtin.«tuple.__eq__» ⟨[.ref l, .ref b], []⟩) (fun _ R s => s.heap.get? l = some { cls := .type "tuple", dict := dd, data := .seq xs n, slots := sl } ∧ s.heap.get? b = some { cls := .type "dict", dict := dd2, data := d2, slots := sl2 } ∧ R (.ok (.ret .notImplemented)) s) :=
  .of_wp fun prog w A R s h => by obtain ⟨hp, g, d, tk, os⟩ := s; obtain ⟨hl, hb, h⟩ := h; have f1 := F.sub_dict_tuple; wp_walk using wpAny_loadPart' hl, wpAny_loadPart' hb; exact ⟨_, rfl, h⟩
omit [TabsC] in
theorem dict_no_tup (l b : Addr) (es : Array DictEntry) (m : Nat) (xs : Array Value) (n : Nat) (dd dd2 : Option Addr) (sl sl2 : Array (Option Value)) :
    Meets (Builtin.«dict.__eq__» ⟨[.ref l, .ref b], []⟩) (fun _ R s => s.heap.get? l = some { cls := .type "dict", dict := dd, data := .dict es m, slots := sl } ∧ s.heap.get? b = some { cls := .type "tuple", dict := dd2, data := .seq xs n, slots := sl2 } ∧ R (.ok (.ret .notImplemented)) s) :=
  .of_wp fun prog w A R s h => by obtain ⟨hp, g, d, tk, os⟩ := s; obtain ⟨hl, hb, h⟩ := h; have f1 := F.sub_tuple_dict; wp_walk using wpAny_loadPart' hl, wpAny_loadPart' hb; exact ⟨_, rfl, h⟩
section
variable {A : Around} {s : Shared}
omit [TabsC] in
theorem eq_tup_dict {l b : Addr} {xs : Array Value} {o : Obj} {es : Array DictEntry} {m : Nat} (hl : s.heap.IsTuple l xs) (hb : s.heap.get? b = some o) (hc2 : o.cls = .type "dict") (hd2 : o.data = .dict es m) (hu : A.units < cLine) : EqAt A s (.ref l) (.ref b) false := by
  obtain ⟨⟨cls, dd, data, sl⟩, ho, hc, n, hd⟩ := hl
  obtain ⟨cls2, dd2, data2, sl2⟩ := o
  simp only at hc hd hc2 hd2
  subst hc hd hc2 hd2
  have ne : l ≠ b := fun z => by
    subst z
    rw [ho] at hb
    have := congrArg (fun o : Option Obj => o.map Obj.cls) hb
    simp at this
  refine .of_refs ne fun prog w E Q h => ?_
  exact rc_eq_decline_or (k := false) ⟨_, ho, rfl⟩ ⟨_, hb, rfl⟩ (by decide) F.sub_dict_tuple F.slot_tuple_eq F.slot_dict_eq_refl
    (fun _ hq => call_meets F.slot_tuple_eq ⟨_, ho, rfl⟩ F.entry_tuple_eq (F.args_tuple_eq_2 _ _) (tup_no_dict l b xs (.dict es m) n dd dd2 sl sl2) ⟨ho, hb, hq⟩)
    (fun _ hq => call_meets F.slot_dict_eq_refl ⟨_, hb, rfl⟩ F.entry_dict_eq (F.args_dict_eq_2 _ _) (dict_no_tup b l es m xs n dd2 dd sl2 sl) ⟨hb, ho, hq⟩)
    (fun _ hq => wpAny_isSame_ref_other' ne ho hb (by simp) hq) (.inr hu) h
end
/-- x in a list, x a dict or not -/
def gInA : D → D → Option D
  | .dct _, .lst ds => if ds.all D.isTup = true then some (.bl false) else none
  | x, y => gIn x y
@[simp] theorem gInA_t (xs : List D) (y : D) : gInA (.tup xs) y = gIn (.tup xs) y := by cases y <;> rfl
@[simp] theorem gInA_l (xs : List D) (y : D) : gInA (.lst xs) y = gIn (.lst xs) y := by cases y <;> rfl
@[simp] theorem gInA_n (y : D) : gInA .non y = gIn .non y := by cases y <;> rfl
@[simp] theorem gInA_i (i : Int) (y : D) : gInA (.int i) y = gIn (.int i) y := by cases y <;> rfl
@[simp] theorem gInA_s (i : Str) (y : D) : gInA (.str i) y = gIn (.str i) y := by cases y <;> rfl
@[simp] theorem gInA_b (i : Bool) (y : D) : gInA (.bl i) y = gIn (.bl i) y := by cases y <;> rfl
theorem gInA_d (kvs : List (Key × D)) {ds : List D} (h : ds.all D.isTup = true) : gInA (.dct kvs) (.lst ds) = some (.bl false) := if_pos h
theorem opD_inA {X : Cx} (hr : X.A.units + 65 < cLine) : OpD X (compareOp .In) gInA := OpD.mk fun dx dy d e => by
  have old : gIn dx dy = some d → OpR X (compareOp .In) (fun x y H Q => ∃ F, Same F H ∧ RepB X.K F H dx x ∧ RepB X.K F H dy y ∧ ∀ z F' H', Grow F H F' H' → Rep X.K F' d z → Q z H') := fun e pins s σ H x y v u Q I rx ry ⟨F, f1, hx, hy, q⟩ =>
    opD_in hr pins s σ H x y v u Q I rx ry ⟨F, _, _, d, f1, hx, hy, e, q⟩
  cases dx with
  | dct kvs =>
    cases dy with
    | lst ds =>
      have e : (if ds.all D.isTup = true then some (D.bl false) else none) = some d := e
      split at e
      case isFalse => cases e
      rename_i h
      cases e
      intro pins s σ H x y v u Q I rx ry ⟨F, f1, hx, ⟨la, xs, e2, hs, hrs⟩, q⟩
      subst e2
      obtain rfl : u = Value.ref la := ry
      obtain ⟨as, r1, _⟩ := Rep.readsA I _ x v (hx.rep f1) rx
      obtain ⟨its, rv, pl, _⟩ := I.list hs
      cases r1 with
      | dict h1 h2 h3 h4 h5 =>
        refine SeqAt.in_listAt (fun _ => false) pl.isList (fun z hz => ?_) ⟨.bl false, H, I, by simp [L2.RelV], q _ F H (.refl f1) rfl⟩
        obtain ⟨i, hi, hz⟩ := List.getElem_of_mem (show z ∈ its by simpa using hz)
        have hx' : i < xs.length := by rw [rv.length]; exact hi
        obtain ⟨w, e3, e4⟩ := Vals.get rv (List.getElem?_eq_getElem hx')
        rw [List.getElem?_eq_getElem hi, hz] at e3
        cases e3
        obtain ⟨dd, e5, e6⟩ := hrs.get' (List.getElem?_eq_getElem hx')
        have ht := List.all_eq_true.mp h dd (List.mem_of_getElem? e5)
        cases dd with
        | tup es =>
          obtain ⟨b, ys, e7, h7, _⟩ := e6
          rw [e7] at e4
          cases e4
          obtain ⟨its2, _, tt, _⟩ := I.tuple (same_seqT f1 h7)
          exact eq_tup_dict (A := X.A.in1) tt h1 h2 h3 (by show X.A.units + 1 < cLine; omega)
        | _ => cases ht
    | _ => exact old e
  | _ => exact old e
end Ev

set_option maxHeartbeats 2000000
/-! E52: zip of a list and a tuple, either way. -/
namespace ZipM
open PySem PySem.Spec PyProof.Rows L2
open PySem.Sem (wp)
/-- the iterator, the sequence: of a tuple (true), of a list -/
def sIt (b : Bool) (h : Heap) (it l : Addr) (i : Nat) : Prop := if b = true then h.IsTupleIter it l i else h.IsListIter it l i
def sSq (b : Bool) (h : Heap) (l : Addr) (xs : Array Value) : Prop := if b = true then h.IsTuple l xs else h.IsList l xs
theorem sIt.extBut {b : Bool} {h h' : Heap} {a c l : Addr} {i : Nat} (x : sIt b h a l i) (hs : Heap.ExtBut c h h') (hab : a ≠ c) : sIt b h' a l i := by
  cases b
  · exact Heap.IsListIter.extBut x hs hab
  · exact Heap.IsTupleIter.extBut x hs hab
theorem sSq.extBut {b : Bool} {h h' : Heap} {a c : Addr} {xs : Array Value} (x : sSq b h a xs) (hs : Heap.ExtBut c h h') (hab : a ≠ c) : sSq b h' a xs := by
  cases b
  · exact Heap.IsList.extBut x hs hab
  · exact Heap.IsTuple.extBut x hs hab
theorem sIt.at {b : Bool} {h h' : Heap} {a l : Addr} {i : Nat} (x : sIt b h a l i) (e : ∀ o, h.get? a = some o → h'.get? a = some o) : sIt b h' a l i := by
  cases b
  · exact Heap.IsListIter.at x e
  · exact Heap.IsTupleIter.at x e
theorem sIt.obj {b : Bool} {h : Heap} {a l : Addr} {i : Nat} (x : sIt b h a l i) : ∃ o, h.get? a = some o ∧ o.data = .fields #[.ref l, .int i 0] := by
  cases b
  · obtain ⟨o, e, _, d⟩ := (show h.IsListIter a l i from x); exact ⟨o, e, d⟩
  · obtain ⟨o, e, _, d⟩ := (show h.IsTupleIter a l i from x); exact ⟨o, e, d⟩
theorem sIt.lt {b : Bool} {h : Heap} {a l : Addr} {i : Nat} (x : sIt b h a l i) : a < h.objs.size := by
  obtain ⟨o, e, _⟩ := x.obj
  exact Heap.lt_size e
section
variable {prog : Program} {w : World} {A : Around} {E : Value → Shared → Prop} {s : Shared}
theorem s_next {b : Bool} {it l : Addr} {i : Nat} {items : Array Value} {x : Value} {Q : Value → Shared → Prop} (hit : sIt b s.heap it l i) (hl : sSq b s.heap l items) (hx : items[i]? = some x)
    (hQ : ∀ h', sIt b h' it l (i + 1) → Heap.SameBut it s.heap h' → Q x { s with heap := h' }) : wpAny (model prog w) A (Builtin.SmallTypes.nextOf (.ref it)) Q E s := by
  cases b
  · exact wpAny_nextOf_list_item hit hl hx hQ
  · exact RZ.nextOf_tuple_item hit hl hx hQ
theorem s_end {b : Bool} {it l : Addr} {i : Nat} {items : Array Value} {Q : Value → Shared → Prop} (hh : A.handled = none) (hit : sIt b s.heap it l i) (hl : sSq b s.heap l items) (hx : items[i]? = none)
    (hE : ∀ h' e, Heap.ExtBut it s.heap h' → (∃ o, h'.get? e = some o ∧ o.cls = .type "StopIteration") → E (.ref e) { s with heap := h' }) : wpAny (model prog w) A (Builtin.SmallTypes.nextOf (.ref it)) Q E s := by
  cases b
  · exact wpAny_nextOf_list_end hh hit hl hx hE
  · exact RZ.nextOf_tuple_end hh hit hl hx hE
theorem zipM_next_item {b1 b2 : Bool} {z TI TO i1 i2 l1 l2 : Addr} {k1 k2 : Nat} {xs ys : Array Value} {x y a b : Value} {Q : Value → Shared → Prop} (D : ZipApart z TI TO i1 i2 l1 l2) (hz : IsZip s.heap z TI TO .none) (hTI : IsPair s.heap TI (.ref i1) (.ref i2)) (hTO : IsPair s.heap TO a b) (h1 : sIt b1 s.heap i1 l1 k1) (h2 : sIt b2 s.heap i2 l2 k2) (hl1 : sSq b1 s.heap l1 xs) (hl2 : sSq b2 s.heap l2 ys) (hx : xs[k1]? = some x) (hy : ys[k2]? = some y) (hQ : ∀ h', IsZip h' z TI TO (rawInt s.heap.objs.size) → IsPair h' TO x y → sIt b1 h' i1 l1 (k1 + 1) → sIt b2 h' i2 l2 (k2 + 1) → IsPair h' s.heap.objs.size x y → h'.objs.size = s.heap.objs.size + 1 → (∀ c o, c ≠ z → c ≠ TO → c ≠ i1 → c ≠ i2 → s.heap.get? c = some o → h'.get? c = some o) → Q (.ref s.heap.objs.size) { s with heap := h' }) : wpAny (model prog w) A (Builtin.«zip.__next__» ⟨[.ref z], []⟩) (fun fin s' => ∃ v, fin = .done (.ret v) ∧ Q v s') E s := by
  show wpAny _ _ (field (.ref z) 2 >>= _) _ _ _; refine wpAny_bind (wpAny_field hz rfl (x := .bool false) rfl ?_)
  show wpAny _ _ (field (.ref z) 3 >>= _) _ _ _; refine wpAny_bind (wpAny_field hz rfl (x := .ref TI) rfl ?_)
  refine wpAny_bind (wpAny_seqItems hTI rfl ?_); show wpAny _ _ (Builtin.SmallTypes.ownedTupleIsFree (.ref z) >>= _) _ _ _
  refine wpAny_bind ?_; unfold Builtin.SmallTypes.ownedTupleIsFree
  refine wpAny_bind (wpAny_field hz rfl (x := .none) rfl (wpAny_pure ?_)); simp only [if_true]
  refine wpAny_bind (wpAny_rule ?_); refine wpAny_bind (wpAny_field hz rfl (x := .ref TO) rfl ?_)
  refine wpAny_bind (wpAny_setField_rec hz (by simp) fun h₁ hz₁ hs₁ => ?_); replace hz₁ : IsZip h₁ z TI TO .ellipsis := hz₁
  refine wpAny_bind ?_; simp only [List.zipIdx_cons, List.zipIdx_nil, List.forIn_cons, List.forIn_nil]
  refine wpAny_bind (wpAny_bind (wpAny_onRaise ?_)); show wpAny _ _ (Builtin.SmallTypes.nextOf (.ref i1) >>= _) _ _ _
  refine wpAny_bind (s_next (h1.extBut hs₁.extBut D.i1z) (hl1.extBut hs₁.extBut D.l1z) hx fun h₂ h1₂ hs₂ => wpAny_pure ?_); have hTO₂ : IsPair h₂ TO a b := hs₂.extBut _ _ D.TOi1 (hs₁.extBut _ _ D.TOz hTO)
  refine wpAny_bind (wpAny_seqItems hTO₂ rfl ?_); refine wpAny_bind (wpAny_updateSeq_pair hTO₂ fun h₃ hTO₃ hs₃ => ?_)
  replace hTO₃ : IsPair h₃ TO x b := hTO₃; refine wpAny_bind (wpAny_letGo (wpAny_pure ?_))
  refine wpAny_bind (wpAny_bind (wpAny_onRaise ?_)); show wpAny _ _ (Builtin.SmallTypes.nextOf (.ref i2) >>= _) _ _ _
  refine wpAny_bind (s_next (((h2.extBut hs₁.extBut D.i2z).extBut hs₂.extBut D.i12.symm).extBut hs₃.extBut D.TOi2.symm) (((hl2.extBut hs₁.extBut D.l2z).extBut hs₂.extBut D.l2i1).extBut hs₃.extBut D.l2TO) hy fun h₄ h2₄ hs₄ => wpAny_pure ?_); have hTO₄ : IsPair h₄ TO x b := hs₄.extBut _ _ D.TOi2 hTO₃
  refine wpAny_bind (wpAny_seqItems hTO₄ rfl ?_); refine wpAny_bind (wpAny_updateSeq_pair hTO₄ fun h₅ hTO₅ hs₅ => ?_)
  replace hTO₅ : IsPair h₅ TO x y := hTO₅; refine wpAny_bind (wpAny_letGo (wpAny_pure (wpAny_pure ?_)))
  refine wpAny_bind (wpAny_seqItems hTO₅ rfl ?_); refine wpAny_bind (wpAny_newTuple ?_)
  have hsz : h₅.objs.size = s.heap.objs.size := (by rw [hs₅.1, hs₄.1, hs₃.1, hs₂.1, hs₁.1]); have hz₅ : IsZip h₅ z TI TO .ellipsis := hs₅.extBut _ _ D.TOz.symm (hs₄.extBut _ _ D.i2z.symm (hs₃.extBut _ _ D.TOz.symm (hs₂.extBut _ _ D.i1z.symm hz₁)))
  have hk₅ : ∀ c o, c ≠ z → c ≠ TO → c ≠ i1 → c ≠ i2 → s.heap.get? c = some o → h₅.get? c = some o := fun c o c1 c2 c3 c4 e => hs₅.extBut _ _ c2 (hs₄.extBut _ _ c4 (hs₃.extBut _ _ c2 (hs₂.extBut _ _ c3 (hs₁.extBut _ _ c1 e)))); have h1₅ : sIt b1 h₅ i1 l1 (k1 + 1) := ((h1₂.extBut hs₃.extBut D.TOi1.symm).extBut hs₄.extBut D.i12).extBut hs₅.extBut D.TOi1.symm
  have h2₅ : sIt b2 h₅ i2 l2 (k2 + 1) := h2₄.extBut hs₅.extBut D.TOi2.symm; have hzlt : z < h₅.objs.size := Heap.lt_size hz₅
  have hTOlt : TO < h₅.objs.size := Heap.lt_size hTO₅; have hi1lt : i1 < h₅.objs.size := h1₅.lt
  have hi2lt : i2 < h₅.objs.size := h2₅.lt; show wpAny _ _ (Builtin.SmallTypes.ownedTupleHandOut (.ref z) (.ref h₅.objs.size) >>= _) _ _ _
  refine wpAny_bind ?_; unfold Builtin.SmallTypes.ownedTupleHandOut
  have hz₆ : IsZip (h₅.push { cls := .type "tuple", data := .seq #[x, y] }) z TI TO .ellipsis := Heap.get?_push_of_some _ hz₅; refine wpAny_bind (wpAny_setField_rec hz₆ (by simp) fun h₇ hz₇ hs₇ => ?_)
  replace hz₇ : IsZip h₇ z TI TO (rawInt h₅.objs.size) := hz₇; refine wpAny_setField_rec hz₇ (by simp) fun h₈ hz₈ hs₈ => ?_
  replace hz₈ : IsZip h₈ z TI TO (rawInt h₅.objs.size) := hz₈; have up : ∀ c o, c ≠ z → h₅.get? c = some o → h₈.get? c = some o := fun c o c1 e => hs₈.extBut _ _ c1 (hs₇.extBut _ _ c1 (Heap.get?_push_of_some _ e))
  have hT₈ : IsPair h₈ h₅.objs.size x y := hs₈.extBut _ _ (Nat.ne_of_gt hzlt) (hs₇.extBut _ _ (Nat.ne_of_gt hzlt) (Heap.get?_push_size _ rfl)); have hz8 : h₈.objs.size = h₅.objs.size + 1 := (by rw [hs₈.1, hs₇.1, Heap.size_push])
  rw [hsz] at hz₈ hT₈ hz8; refine wpAny_pure ⟨_, rfl, ?_⟩
  show Q (.ref h₅.objs.size) _; rw [hsz]
  exact hQ h₈ hz₈ (up _ _ D.TOz hTO₅) (h1₅.at fun o e => up _ o D.i1z e) (h2₅.at fun o e => up _ o D.i2z e) hT₈ hz8 fun c o c1 c2 c3 c4 e => up c o c1 (hk₅ c o c1 c2 c3 c4 e)
theorem zipM_next_end {b1 b2 : Bool} {z TI TO i1 i2 l1 l2 : Addr} {k1 k2 : Nat} {xs ys : Array Value} {a b : Value} {Q : Fin → Shared → Prop} (hh : A.handled = none) (D : ZipApart z TI TO i1 i2 l1 l2) (hz : IsZip s.heap z TI TO .none) (hTI : IsPair s.heap TI (.ref i1) (.ref i2)) (hTO : IsPair s.heap TO a b) (h1 : sIt b1 s.heap i1 l1 k1) (h2 : sIt b2 s.heap i2 l2 k2) (hl1 : sSq b1 s.heap l1 xs) (hl2 : sSq b2 s.heap l2 ys) (hend : xs[k1]? = none ∨ ys[k2]? = none) (hE : ∀ h' e, (∀ c o, c ≠ z → c ≠ TO → c ≠ i1 → c ≠ i2 → s.heap.get? c = some o → h'.get? c = some o) → (∃ o, h'.get? e = some o ∧ o.cls = .type "StopIteration") → E (.ref e) { s with heap := h' }) : wpAny (model prog w) A (Builtin.«zip.__next__» ⟨[.ref z], []⟩) Q E s := by
  show wpAny _ _ (field (.ref z) 2 >>= _) _ _ _; refine wpAny_bind (wpAny_field hz rfl (x := .bool false) rfl ?_)
  show wpAny _ _ (field (.ref z) 3 >>= _) _ _ _; refine wpAny_bind (wpAny_field hz rfl (x := .ref TI) rfl ?_)
  refine wpAny_bind (wpAny_seqItems hTI rfl ?_); show wpAny _ _ (Builtin.SmallTypes.ownedTupleIsFree (.ref z) >>= _) _ _ _
  refine wpAny_bind ?_; unfold Builtin.SmallTypes.ownedTupleIsFree
  refine wpAny_bind (wpAny_field hz rfl (x := .none) rfl (wpAny_pure ?_)); simp only [if_true]
  refine wpAny_bind (wpAny_rule ?_); refine wpAny_bind (wpAny_field hz rfl (x := .ref TO) rfl ?_)
  refine wpAny_bind (wpAny_setField_rec hz (by simp) fun h₁ hz₁ hs₁ => ?_); replace hz₁ : IsZip h₁ z TI TO .ellipsis := hz₁
  refine wpAny_bind ?_; simp only [List.zipIdx_cons, List.zipIdx_nil, List.forIn_cons, List.forIn_nil]
  refine wpAny_bind (wpAny_bind (wpAny_onRaise ?_)); show wpAny _ _ (Builtin.SmallTypes.nextOf (.ref i1) >>= _) _ _ _
  cases hx : xs[k1]? with
  | none =>
    refine wpAny_bind (s_end hh (h1.extBut hs₁.extBut D.i1z) (hl1.extBut hs₁.extBut D.l1z) hx fun h₂ e hs₂ he => ?_); obtain ⟨oe, hoe, hce⟩ := he
    have hz₂ : IsZip h₂ z TI TO .ellipsis := hs₂ _ _ D.i1z.symm hz₁; have hez : e ≠ z := fun x => (by subst x; rw [hz₂] at hoe; cases hoe; simp at hce)
    refine wpAny_setField_rec hz₂ (by simp) fun h₃ _ hs₃ => hE h₃ e (fun c o c1 _ c3 _ x => hs₃.extBut _ _ c1 (hs₂ _ _ c3 (hs₁.extBut _ _ c1 x))) ⟨oe, hs₃.extBut _ _ hez hoe, hce⟩
  | some x =>
    have hy : ys[k2]? = none := (by rcases hend with h | h; rw [hx] at h; cases h; exact h); refine wpAny_bind (s_next (h1.extBut hs₁.extBut D.i1z) (hl1.extBut hs₁.extBut D.l1z) hx fun h₂ h1₂ hs₂ => wpAny_pure ?_)
    have hTO₂ : IsPair h₂ TO a b := hs₂.extBut _ _ D.TOi1 (hs₁.extBut _ _ D.TOz hTO); refine wpAny_bind (wpAny_seqItems hTO₂ rfl ?_)
    refine wpAny_bind (wpAny_updateSeq_pair hTO₂ fun h₃ hTO₃ hs₃ => ?_); refine wpAny_bind (wpAny_letGo (wpAny_pure ?_))
    refine wpAny_bind (wpAny_bind (wpAny_onRaise ?_)); show wpAny _ _ (Builtin.SmallTypes.nextOf (.ref i2) >>= _) _ _ _
    refine wpAny_bind (s_end hh (((h2.extBut hs₁.extBut D.i2z).extBut hs₂.extBut D.i12.symm).extBut hs₃.extBut D.TOi2.symm) (((hl2.extBut hs₁.extBut D.l2z).extBut hs₂.extBut D.l2i1).extBut hs₃.extBut D.l2TO) hy fun h₄ e hs₄ he => ?_); obtain ⟨oe, hoe, hce⟩ := he
    have hz₄ : IsZip h₄ z TI TO .ellipsis := hs₄ _ _ D.i2z.symm (hs₃.extBut _ _ D.TOz.symm (hs₂.extBut _ _ D.i1z.symm hz₁)); have hez : e ≠ z := fun x => (by subst x; rw [hz₄] at hoe; cases hoe; simp at hce)
    refine wpAny_setField_rec hz₄ (by simp) fun h₅ _ hs₅ => hE h₅ e (fun c o c1 c2 c3 c4 x => hs₅.extBut _ _ c1 (hs₄ _ _ c4 (hs₃.extBut _ _ c2 (hs₂.extBut _ _ c3 (hs₁.extBut _ _ c1 x))))) ⟨oe, hs₅.extBut _ _ hez hoe, hce⟩
theorem pyNext_zipM_item {b1 b2 : Bool} {z TI TO i1 i2 l1 l2 : Addr} {k1 k2 : Nat} {xs ys : Array Value} {x y a b : Value} {Q : Option Value → Shared → Prop} (D : ZipApart z TI TO i1 i2 l1 l2) (hz : IsZip s.heap z TI TO .none) (hTI : IsPair s.heap TI (.ref i1) (.ref i2)) (hTO : IsPair s.heap TO a b) (h1 : sIt b1 s.heap i1 l1 k1) (h2 : sIt b2 s.heap i2 l2 k2) (hl1 : sSq b1 s.heap l1 xs) (hl2 : sSq b2 s.heap l2 ys) (hx : xs[k1]? = some x) (hy : ys[k2]? = some y) (hQ : ∀ h', IsZip h' z TI TO (rawInt s.heap.objs.size) → IsPair h' TO x y → sIt b1 h' i1 l1 (k1 + 1) → sIt b2 h' i2 l2 (k2 + 1) → IsPair h' s.heap.objs.size x y → h'.objs.size = s.heap.objs.size + 1 → (∀ c o, c ≠ z → c ≠ TO → c ≠ i1 → c ≠ i2 → s.heap.get? c = some o → h'.get? c = some o) → Q (some (.ref s.heap.objs.size)) { s with heap := h' }) : wpAny (model prog w) A (pyNext (.ref z)) Q E s := by
  have hT : s.TypeIs (.ref z) "zip" := ⟨_, hz, rfl⟩; unfold pyNext
  exact wpAny_bind (wpAny_attempt (wpAny_callSpecial?_slot (name := Str.ofString "__next__") hT F.slot_zip_next (wpAny_call_entry F.slot_zip_next hT F.entry_zip_next (zipM_next_item D hz hTI hTO h1 h2 hl1 hl2 hx hy fun h' a1 a2 a3 a4 a5 a6 a7 => wpAny_pure (hQ h' a1 a2 a3 a4 a5 a6 a7)) (F.args_zip_next_1 _))))
theorem pyNext_zipM_end {b1 b2 : Bool} {z TI TO i1 i2 l1 l2 : Addr} {k1 k2 : Nat} {xs ys : Array Value} {a b : Value} {Q : Option Value → Shared → Prop} (hh : A.handled = none) (D : ZipApart z TI TO i1 i2 l1 l2) (hz : IsZip s.heap z TI TO .none) (hTI : IsPair s.heap TI (.ref i1) (.ref i2)) (hTO : IsPair s.heap TO a b) (h1 : sIt b1 s.heap i1 l1 k1) (h2 : sIt b2 s.heap i2 l2 k2) (hl1 : sSq b1 s.heap l1 xs) (hl2 : sSq b2 s.heap l2 ys) (hend : xs[k1]? = none ∨ ys[k2]? = none) (hQ : ∀ h', (∀ c o, c ≠ z → c ≠ TO → c ≠ i1 → c ≠ i2 → s.heap.get? c = some o → h'.get? c = some o) → Q none { s with heap := h' }) : wpAny (model prog w) A (pyNext (.ref z)) Q E s := by
  have hT : s.TypeIs (.ref z) "zip" := ⟨_, hz, rfl⟩; unfold pyNext
  refine wpAny_bind (wpAny_attempt (wpAny_callSpecial?_slot (name := Str.ofString "__next__") hT F.slot_zip_next (wpAny_call_entry F.slot_zip_next hT F.entry_zip_next (zipM_next_end hh D hz hTI hTO h1 h2 hl1 hl2 hend fun h' e hk he => ?_) (F.args_zip_next_1 _)))); obtain ⟨o, ho, hc⟩ := he
  refine wpAny_bind (wpAny_isInstance (T := "StopIteration") (b := true) ⟨o, ho, hc⟩ isSubtype_stop ?_); exact wpAny_pure (hQ _ hk)
end
end ZipM

set_option maxHeartbeats 2000000
/-! E53: zip of a list and a tuple as what a loop walks. -/
namespace ZipM
open PySem PySem.Spec PyProof.Rows L2
/-- the heap with a new iterator -/
abbrev kN (b : Bool) : String := if b = true then "tuple_iterator" else "list_iterator"
abbrev zH1 (b : Bool) (h : Heap) (l1 : Addr) : Heap := h.push { cls := .type (kN b), data := .fields #[.ref l1, .int 0 0] }
abbrev zH2 (b c : Bool) (h : Heap) (l1 l2 : Addr) : Heap := (zH1 b h l1).push { cls := .type (kN c), data := .fields #[.ref l2, .int 0 0] }
abbrev zH3 (b c : Bool) (h : Heap) (l1 l2 : Addr) : Heap := (zH2 b c h l1 l2).push { cls := .type "tuple", data := .seq #[.ref h.objs.size, .ref (zH1 b h l1).objs.size] }
abbrev zH4 (b c : Bool) (h : Heap) (l1 l2 : Addr) : Heap := (zH3 b c h l1 l2).push { cls := .type "tuple", data := .seq #[.none, .none] }
abbrev zH5 (b c : Bool) (h : Heap) (l1 l2 : Addr) : Heap := (zH4 b c h l1 l2).push { cls := .type "zip", data := .fields #[.none, .bool false, .bool false, .ref (zH2 b c h l1 l2).objs.size, .ref (zH3 b c h l1 l2).objs.size] }
theorem meets_lt (l1 l2 : Addr) (xs ys : Array Value) : Meets (Builtin.«zip.__new__» ⟨[.type "zip", .ref l1, .ref l2], []⟩) (fun _ R s => s.heap.IsList l1 xs ∧ s.heap.IsTuple l2 ys ∧
      R (.ok (.ret (.ref (zH4 false true s.heap l1 l2).objs.size))) { s with heap := zH5 false true s.heap l1 l2 }) :=
  .of_wp fun prog w A R s h => by
    obtain ⟨hp, g, d, tk, os⟩ := s; obtain ⟨a1, a2, h⟩ := h; have hsub := sub_zip
    have hL1 : Heap.IsList (Shared.heap ⟨hp, g, d, tk, os⟩) l1 xs := a1; have hL2 : Heap.IsTuple (Shared.heap ⟨hp.push { cls := .type "list_iterator", data := .fields #[.ref l1, .int 0 0] }, g, d, tk, os⟩) l2 ys := Heap.IsTuple.push a2 _
    wp_walk using wpAny_pyIter_list hL1, wpAny_pyIter_tuple hL2
    exact ⟨_, rfl, h⟩
theorem meets_tl (l1 l2 : Addr) (xs ys : Array Value) : Meets (Builtin.«zip.__new__» ⟨[.type "zip", .ref l1, .ref l2], []⟩) (fun _ R s => s.heap.IsTuple l1 xs ∧ s.heap.IsList l2 ys ∧
      R (.ok (.ret (.ref (zH4 true false s.heap l1 l2).objs.size))) { s with heap := zH5 true false s.heap l1 l2 }) :=
  .of_wp fun prog w A R s h => by
    obtain ⟨hp, g, d, tk, os⟩ := s; obtain ⟨a1, a2, h⟩ := h; have hsub := sub_zip
    have hL1 : Heap.IsTuple (Shared.heap ⟨hp, g, d, tk, os⟩) l1 xs := a1; have hL2 : Heap.IsList (Shared.heap ⟨hp.push { cls := .type "tuple_iterator", data := .fields #[.ref l1, .int 0 0] }, g, d, tk, os⟩) l2 ys := Heap.IsList.push a2 _
    wp_walk using wpAny_pyIter_tuple hL1, wpAny_pyIter_list hL2
    exact ⟨_, rfl, h⟩
section
variable {prog : Program} {w : World} {A : Around} {E : Value → Shared → Prop} {s : Shared}
theorem place (b c : Bool) (h : Heap) (l1 l2 : Addr) : (zH4 b c h l1 l2).objs.size = h.objs.size + 4 ∧ IsZip (zH5 b c h l1 l2) (h.objs.size + 4) (h.objs.size + 2) (h.objs.size + 3) .none ∧ IsPair (zH5 b c h l1 l2) (h.objs.size + 2) (.ref h.objs.size) (.ref (h.objs.size + 1)) ∧
    IsPair (zH5 b c h l1 l2) (h.objs.size + 3) .none .none ∧ (zH5 b c h l1 l2).get? h.objs.size = some { cls := .type (kN b), data := .fields #[.ref l1, .int 0 0] } ∧ (zH5 b c h l1 l2).get? (h.objs.size + 1) = some { cls := .type (kN c), data := .fields #[.ref l2, .int 0 0] } ∧ ∀ d o, h.get? d = some o → (zH5 b c h l1 l2).get? d = some o := by
  have up : ∀ {h : Heap} {o o' : Obj} {d : Addr}, h.get? d = some o → (h.push o').get? d = some o := fun e => Heap.get?_push_of_some _ e
  have s1 : (zH1 b h l1).objs.size = h.objs.size + 1 := Heap.size_push ..
  have s2 : (zH2 b c h l1 l2).objs.size = h.objs.size + 2 := (Heap.size_push ..).trans (by rw [s1])
  have s3 : (zH3 b c h l1 l2).objs.size = h.objs.size + 3 := (Heap.size_push ..).trans (by rw [s2])
  have s4 : (zH4 b c h l1 l2).objs.size = h.objs.size + 4 := (Heap.size_push ..).trans (by rw [s3])
  have p1 : (zH1 b h l1).get? h.objs.size = some { cls := .type (kN b), data := .fields #[.ref l1, .int 0 0] } := Heap.get?_push_size _ rfl
  have p2 : (zH2 b c h l1 l2).get? (zH1 b h l1).objs.size = some { cls := .type (kN c), data := .fields #[.ref l2, .int 0 0] } := Heap.get?_push_size _ rfl
  have p3 : (zH3 b c h l1 l2).get? (zH2 b c h l1 l2).objs.size = some { cls := .type "tuple", data := .seq #[.ref h.objs.size, .ref (zH1 b h l1).objs.size] } := Heap.get?_push_size _ rfl
  have p4 : (zH4 b c h l1 l2).get? (zH3 b c h l1 l2).objs.size = some { cls := .type "tuple", data := .seq #[.none, .none] } := Heap.get?_push_size _ rfl
  have p5 : (zH5 b c h l1 l2).get? (zH4 b c h l1 l2).objs.size = some { cls := .type "zip", data := .fields #[.none, .bool false, .bool false, .ref (zH2 b c h l1 l2).objs.size, .ref (zH3 b c h l1 l2).objs.size] } := Heap.get?_push_size _ rfl
  rw [s1] at p2 p3
  rw [s2] at p3 p5
  rw [s3] at p4 p5
  rw [s4] at p5
  exact ⟨s4, p5, up (up p3), up p4, up (up (up (up p1))), up (up (up p2)), fun d o e => up (up (up (up (up e))))⟩
/-- zip(l1, l2) -/
theorem call_zipM {b c : Bool} {l1 l2 : Addr} {xs ys : Array Value} {Q : Value → Shared → Prop} (hl1 : sSq b s.heap l1 xs) (hl2 : sSq c s.heap l2 ys)
    (h : ∀ h', IsZip h' (s.heap.objs.size + 4) (s.heap.objs.size + 2) (s.heap.objs.size + 3) .none → IsPair h' (s.heap.objs.size + 2) (.ref s.heap.objs.size) (.ref (s.heap.objs.size + 1)) →
      IsPair h' (s.heap.objs.size + 3) .none .none → sIt b h' s.heap.objs.size l1 0 → sIt c h' (s.heap.objs.size + 1) l2 0 → (∀ c o, s.heap.get? c = some o → h'.get? c = some o) → Q (.ref (s.heap.objs.size + 4)) { s with heap := h' }) :
    wpAny (model prog w) A (call (.type "zip") [.ref l1, .ref l2]) Q E s := by
  cases b with
  | false =>
    cases c with
    | false => exact call_zip_2 hl1 hl2 fun h' a1 a2 a3 a4 a5 _ a7 => h h' a1 a2 a3 a4 a5 a7
    | true =>
      obtain ⟨e, a1, a2, a3, a4, a5, a6⟩ := place false true s.heap l1 l2
      have hz := h _ a1 a2 a3 ⟨_, a4, rfl, rfl⟩ ⟨_, a5, rfl, rfl⟩ a6
      rw [← e] at hz a1
      exact callType_new F.called_zip (by decide) (F.typeCall_zip_2 _ _) (F.newCall_zip_2 _ _) (fun obj => F.args_object_init_3 obj _ _) F.entry_zip_new (meets_lt l1 l2 xs ys) ⟨hl1, hl2, ⟨_, a1, rfl⟩, hz⟩
  | true =>
    cases c with
    | true => exact RZ.call_zipT hl1 hl2 fun h' a1 a2 a3 a4 a5 _ a7 => h h' a1 a2 a3 a4 a5 a7
    | false =>
      obtain ⟨e, a1, a2, a3, a4, a5, a6⟩ := place true false s.heap l1 l2
      have hz := h _ a1 a2 a3 ⟨_, a4, rfl, rfl⟩ ⟨_, a5, rfl, rfl⟩ a6
      rw [← e] at hz a1
      exact callType_new F.called_zip (by decide) (F.typeCall_zip_2 _ _) (F.newCall_zip_2 _ _) (fun obj => F.args_object_init_3 obj _ _) F.entry_zip_new (meets_tl l1 l2 xs ys) ⟨hl1, hl2, ⟨_, a1, rfl⟩, hz⟩
end
/-! ### as an iterable -/
def sV (b : Bool) (K : PySem.W.Frag) (H : Hp) (a : Addr) (xs : List V) : Prop := if b = true then SqT K H a xs else SqL K H a xs
section
variable {X : Cx} {pins : List (Addr × Obj)} {σ : L2.St} {H : Hp} {s : Shared} {b : Bool} {a : Addr} {xs ys : List V}
theorem sV.at (I : Inv X pins σ H s) (h : sV b X.K H a xs) : ∃ its : List Value, Vals xs its ∧ sSq b s.heap a its.toArray := by
  cases b with
  | false =>
    obtain ⟨its, r, p, _⟩ := I.list h
    exact ⟨its, r, p.isList⟩
  | true =>
    obtain ⟨its, r, p, _⟩ := I.tuple h
    exact ⟨its, r, p⟩
theorem sV.inj (I : Inv X pins σ H s) (h : sV b X.K H a xs) (h2 : sV b X.K H a ys) : xs = ys := by
  cases b
  · exact I.list_inj h h2
  · exact I.tuple_inj h h2
theorem sSq.lt {h : Heap} {a : Addr} {zs : Array Value} (x : sSq b h a zs) : a < h.objs.size := by
  cases b
  · obtain ⟨o, e, _⟩ := (show h.IsList a zs from x); exact Heap.lt_size e
  · obtain ⟨o, e, _⟩ := (show h.IsTuple a zs from x); exact Heap.lt_size e
end
/-- both as they stand at each turn -/
def ItzM (b c : Bool) (K : PySem.W.Frag) (a1 a2 : Addr) : It :=
  ⟨fun i H => ∃ (xs ys : List V) (x y : V), sV b K H a1 xs ∧ sV c K H a2 ys ∧ xs[i]? = some x ∧ ys[i]? = some y,
    fun i H v H' => ∃ T x y, v = .ref T ∧ H T = none ∧ H' = upd H T (.tup [x, y]) ∧ (∀ xs, sV b K H a1 xs → xs[i]? = some x) ∧ ∀ ys, sV c K H a2 ys → ys[i]? = some y,
    fun i H => ∃ xs ys : List V, sV b K H a1 xs ∧ sV c K H a2 ys ∧ (xs.length ≤ i ∨ ys.length ≤ i)⟩
theorem in5 {z TI TO i1 i2 c : Addr} (h : c ∈ [z, TI, TO, i1, i2]) : c = z ∨ c = TI ∨ c = TO ∨ c = i1 ∨ c = i2 := by simpa using h
theorem turn_zipM {b1 b2 : Bool} {P : Program} {w : World} {K : PySem.W.Frag} {elts : List Expr} {kk : Nat} {tpos : Pos} {a b z TI TO i1 i2 : Addr} (D : ZipApart z TI TO i1 i2 a b) :
    Turn P w K (.Tuple elts kk tpos) (ItzM b1 b2 K a b) [z, TI, TO, i1, i2] z (fun i h => IsZip h z TI TO .none ∧ IsPair h TI (.ref i1) (.ref i2) ∧ (∃ x y, IsPair h TO x y) ∧ sIt b1 h i1 a i ∧ sIt b2 h i2 b i) where
  mem := by simp
  obj := fun i h st c hc => by
    obtain ⟨hz, hTI, ⟨x, y, hTO⟩, h1, h2⟩ := st
    obtain ⟨o1, e1, d1⟩ := h1.obj
    obtain ⟨o2, e2, d2⟩ := h2.obj
    rcases in5 hc with rfl | rfl | rfl | rfl | rfl
    · exact ⟨_, hz, fun v q => by cases q⟩
    · exact ⟨_, hTI, fun v q => by cases q⟩
    · exact ⟨_, hTO, fun v q => by cases q⟩
    · exact ⟨o1, e1, fun v q => by rw [d1] at q; cases q⟩
    · exact ⟨o2, e2, fun v q => by rw [d2] at q; cases q⟩
  keep := fun i h h' st k => by
    obtain ⟨hz, hTI, ⟨x, y, hTO⟩, h1, h2⟩ := st
    refine ⟨k z ?_ _ hz, k TI ?_ _ hTI, ⟨x, y, k TO ?_ _ hTO⟩, h1.at fun o q => k i1 ?_ o q, h2.at fun o q => k i2 ?_ o q⟩ <;> simp
  item := by
    intro X hP hw hK hc i pins s σ H E I hf st hg
    subst hP hw hK
    obtain ⟨hz, hTI, ⟨x0, y0, hTO⟩, h1, h2⟩ := st
    obtain ⟨xs, ys, x, y, hqx, hqy, hx, hy⟩ := hg
    obtain ⟨its, rv, p⟩ := hqx.at I
    obtain ⟨its2, rv2, p2⟩ := hqy.at I
    obtain ⟨u, hu, ru⟩ := rv.get hx
    obtain ⟨u2, hu2, ru2⟩ := rv2.get hy
    have hzl : z < s.heap.objs.size := Heap.lt_size hz
    have l1 := h1.lt
    have l2 := h2.lt
    refine pyNext_zipM_item D hz hTI hTO h1 h2 p p2 (x := u) (y := u2) (by simpa using hu) (by simpa using hu2) fun h' z' TO' h1' h2' hT hsz hk => ⟨_, rfl, wpAny_letOwnedTupleGo_zip (s := { s with heap := h' }) z' fun h'' z'' sb => ?_⟩
    have hT2 : h''.get? s.heap.objs.size = some { cls := .type "tuple", data := .seq #[u, u2] } := (sb.2 _ (Nat.ne_of_gt hzl)).trans hT
    have nw : ObjOk X.prog X.w (upd H s.heap.objs.size (.tup [x, y])) h'' s.heap.objs.size (.tup [x, y]) := ⟨by show 2 ≤ sizeLine; decide, [u, u2], .cons ru (.cons ru2 .nil), ⟨_, hT2, rfl, _, rfl⟩⟩
    have kk : ∀ c o, c ∉ [z, TI, TO, i1, i2] → s.heap.get? c = some o → h''.get? c = some o := fun c o hb q => by
      simp only [List.mem_cons, List.not_mem_nil, or_false, not_or] at hb
      obtain ⟨n1, n2, n3, n4, n5⟩ := hb
      exact (sb.2 c n1).trans (hk c o n1 n3 n4 n5 q)
    have I1 : Inv X pins σ (upd H s.heap.objs.size (.tup [x, y])) { s with heap := h'' } := I.turnedNew (t' := s.toks) (ch := [z, TI, TO, i1, i2]) kk hf (Nat.le_refl _) nw
    refine ⟨.ref s.heap.objs.size, _, I1, rfl, ⟨_, x, y, rfl, I.hok.fresh (Nat.le_refl _), rfl, fun l hl => by rw [sV.inj I hl hqx]; exact hx, fun l hl => by rw [sV.inj I hl hqy]; exact hy⟩, ⟨z'', ?_, ⟨u, u2, ?_⟩, ?_, ?_⟩, fun c hcm => ?_⟩
    · exact (sb.2 _ D.TIz).trans (hk _ _ D.TIz D.TITO D.TIi1 D.TIi2 hTI)
    · exact (sb.2 _ D.TOz).trans TO'
    · exact h1'.at fun o q => (sb.2 _ D.i1z).trans q
    · exact h2'.at fun o q => (sb.2 _ D.i2z).trans q
    · have lt : c < s.heap.objs.size := by
        rcases in5 hcm with rfl | rfl | rfl | rfl | rfl
        · exact hzl
        · exact Heap.lt_size hTI
        · exact Heap.lt_size hTO
        · exact l1
        · exact l2
      rw [upd_ne (Nat.ne_of_lt lt)]
      exact (hf c hcm).1
  done := by
    intro X hP hw hK hc i pins s σ H E I hf st hg
    subst hP hw hK
    obtain ⟨hz, hTI, ⟨x0, y0, hTO⟩, h1, h2⟩ := st
    obtain ⟨xs, ys, hqx, hqy, hend⟩ := hg
    obtain ⟨its, rv, p⟩ := hqx.at I
    obtain ⟨its2, rv2, p2⟩ := hqy.at I
    have l1 := rv.length
    have l2 := rv2.length
    have he : its.toArray[i]? = none ∨ its2.toArray[i]? = none := by
      rcases hend with q | q
      · exact .inl (by simp; omega)
      · exact .inr (by simp; omega)
    refine pyNext_zipM_end (I.ok.hd hc) D hz hTI hTO h1 h2 p p2 he fun h' hk => ⟨rfl, I.turnedL (t' := s.toks) (ch := [z, TI, TO, i1, i2]) (fun c o hb q => ?_) hf⟩
    simp only [List.mem_cons, List.not_mem_nil, or_false, not_or] at hb
    obtain ⟨n1, n2, n3, n4, n5⟩ := hb
    exact hk c o n1 n3 n4 n5 q
  self := fun A i s Q E st h => wpAny_pyIter_zip st.1 h
def iZipM (K : PySem.W.Frag) (ta : TA) : TI := fun σ H R => ta σ H fun vs H1 => ∃ (b c : Bool) (a1 a2 : Addr) (xs ys : List V), vs = [.ref a1, .ref a2] ∧ sV b K H1 a1 xs ∧ sV c K H1 a2 ys ∧ R (ItzM b c K a1 a2) H1
theorem pi_zipM {X : Cx} {e e2 : Expr} {ta : TA} {p pos tpos : Pos} {elts : List Expr} {kk : Nat} (hg : Gl X "zip") (hm : X.mg "zip" = none) (ha : PA X [e, e2] ta)
    (hs : starEach [e, e2] X.env = (false, eval e X.env) :: starEach [e2] X.env := by rfl) (hpl : (backTo pos (starEach [e2] X.env)).any (·.1) = false := by rfl) : PI X (.Tuple elts kk tpos) (.Call (.Name "zip" p) [e, e2] [] pos) (iZipM X.K ta) := by
  refine ⟨fun pins s σ H R I h => Call_ (ld_blt I hg hm PyProof.Rows.boot_zip (PyProof.Rows.callWith_type1 (thn (ha.run pos pins s σ H _ I h) fun us s1 ⟨vs, H1, I1, r1, b, c, a1, a2, xs, ys, ex, hqx, hqy, q⟩ => ?_) hs hpl))⟩
  subst ex
  obtain ⟨u1, u2, rfl, e1, e2⟩ := vals2 r1
  cases e1
  cases e2
  obtain ⟨its, rv, p1⟩ := hqx.at I1
  obtain ⟨its2, rv2, p2⟩ := hqy.at I1
  have l1 := p1.lt
  have l2 := p2.lt
  refine call_zipM p1 p2 fun h' hz hTI hTO h1 h2 hk => wpAny_pyIter_zip hz ?_
  refine ⟨s1.heap.objs.size + 4, [s1.heap.objs.size + 4, s1.heap.objs.size + 2, s1.heap.objs.size + 3, s1.heap.objs.size, s1.heap.objs.size + 1], _, _, H1, rfl, I1.kept (t' := s1.toks) hk, turn_zipM (PySem.W.ktu_apart s1.heap.objs.size a1 a2 l1 l2), ⟨hz, hTI, ⟨_, _, hTO⟩, h1, h2⟩, fun d hd => ?_, q⟩
  have ge : s1.heap.objs.size ≤ d := by
    rcases in5 hd with rfl | rfl | rfl | rfl | rfl
    · exact Nat.le_add_right _ _
    · exact Nat.le_add_right _ _
    · exact Nat.le_add_right _ _
    · exact Nat.le_refl _
    · exact Nat.le_add_right _ _
  exact I1.fpOk ge (I1.hok.fresh ge)
end ZipM

/-! E54: zip of two lists or tuples, of either kind, as a plain function. -/
namespace Ev
open PySem PySem.Spec PyProof.Rows L2 ZipM
variable [TabsC]
def RepS (K : PySem.W.Frag) (F : Hp) (b : Bool) (ds : List D) (v : V) : Prop := ∃ a xs, v = .ref a ∧ sV b K F a xs ∧ Reps K F ds xs
theorem sV_same {K : PySem.W.Frag} {F F' : Hp} {b : Bool} {a : Addr} {xs : List V} (f : Same F F') (h : sV b K F a xs) : sV b K F' a xs := by
  cases b
  · exact f.seq h
  · exact same_seqT f h
theorem walks_zipM {K : PySem.W.Frag} {F : Hp} {b c : Bool} {a1 a2 : Addr} {xs ys : List V} {ds es : List D} (h : sV b K F a1 xs) (r : Reps K F ds xs) (h' : sV c K F a2 ys) (r' : Reps K F es ys) : Walks K (ItzM b c K a1 a2) F (zipD ds es) := fun i F1 H f1 f2 => by
  have hs : sV b K H a1 xs := sV_same (f1.trans f2) h
  have hs' : sV c K H a2 ys := sV_same (f1.trans f2) h'
  have lz : (zipD ds es).length = min ds.length es.length := by unfold zipD; rw [List.length_map, List.length_zip]
  refine ⟨fun d e => ?_, fun hl => ⟨xs, ys, hs, hs', by rw [lz] at hl; rw [r.length, r'.length]; omega⟩⟩
  have hi : i < (zipD ds es).length := (List.getElem?_eq_some_iff.mp e).1
  rw [lz] at hi
  have i1 : i < ds.length := by omega
  have i2 : i < es.length := by omega
  obtain ⟨x, h1, h2⟩ := r.get (List.getElem?_eq_getElem i1)
  obtain ⟨y, h3, h4⟩ := r'.get (List.getElem?_eq_getElem i2)
  have ed : d = .tup [ds[i], es[i]] := by
    unfold zipD at e
    rw [List.getElem?_map, (List.getElem?_zip_eq_some (z := (ds[i], es[i]))).mpr ⟨List.getElem?_eq_getElem i1, List.getElem?_eq_getElem i2⟩] at e
    cases e
    rfl
  subst ed
  refine ⟨⟨xs, ys, x, y, hs, hs', h1, h3⟩, fun v H' ⟨T, x', y', e1, e2, e3, e4, e5⟩ => ?_⟩
  have z1 := e4 xs hs
  have z2 := e5 ys hs'
  rw [h1] at z1; cases z1
  rw [h3] at z2; cases z2
  subst e1; subst e3
  exact ⟨_, rep_pair f2 e2 (h2.mono f1) (h4.mono f1)⟩
def sideD : D → Option (Bool × List D)
  | .lst xs => some (false, xs)
  | .tup xs => some (true, xs)
  | _ => none
theorem side_rep {K : PySem.W.Frag} {F : Hp} {d : D} {b : Bool} {ds : List D} {v : V} (e : sideD d = some (b, ds)) (h : Rep K F d v) : RepS K F b ds v := by
  cases d with
  | lst xs => cases e; exact h
  | tup xs => cases e; exact h
  | _ => cases e
def zipM2 : List D → Option (List D)
  | [d, e] => (sideD d).bind fun p => (sideD e).map fun q => zipD p.2 q.2
  | _ => none
def fZipM (fl : FL) : FI := fun r => (fl r).bnd fun ds r1 => obnd (zipM2 ds) fun es => .ok (es, r1)
theorem ei_zipM {X : Cx} {E : XK} {a b : Expr} {p pos tpos : Pos} {elts : List Expr} {kk : Nat} {fl : FL} (hm : X.mg "zip" = none) (ha : EvL X E [a, b] fl) (hg : Gl X "zip" := by rfl) (hs : starEach [a, b] X.env = (false, eval a X.env) :: starEach [b] X.env := by rfl) (hpl : (backTo pos (starEach [b] X.env)).any (·.1) = false := by rfl) :
    EvI X E (.Tuple elts kk tpos) (.Call (.Name "zip" p) [a, b] [] pos) (fZipM fl) := PI.imp (pi_zipM hg hm ha hs hpl) fun s H R' ⟨B, F, O, r, R, q⟩ => by
  refine ⟨B, F, O, r, R, (Post.split q).mono fun ds r1 F1 O1 H1 R1 f1 k1 q1 vs hv => ?_⟩
  obtain ⟨es, e1, q1⟩ := Post.opt q1
  obtain ⟨d1, d2, rfl⟩ : ∃ d1 d2, ds = [d1, d2] := by
    unfold zipM2 at e1
    split at e1
    · exact ⟨_, _, rfl⟩
    · cases e1
  obtain ⟨⟨b1, xs⟩, e2, e3⟩ := Option.bind_eq_some_iff.mp (show (sideD d1).bind (fun p => (sideD d2).map fun q => zipD p.2 q.2) = some es from e1)
  obtain ⟨⟨b2, ys⟩, e4, rfl⟩ := Option.map_eq_some_iff.mp e3
  obtain ⟨x, r2, g1, h1, y, r3, g2, h2, g3⟩ := hv
  subst g1; subst g2
  rw [show r3 = [] from g3]
  obtain ⟨a1, us, rfl, m1, m2⟩ := side_rep e2 h1
  obtain ⟨a2, ws, rfl, m3, m4⟩ := side_rep e4 h2
  exact ⟨b1, b2, a1, a2, us, ws, rfl, sV_same R1.fh m1, sV_same R1.fh m3, Post.ok (k := fun ds _ F' _ H' => ∀ J, Walks X.K J F' ds → R' J H') q1 R1 (.refl _) .refl _ (walks_zipM m1 m2 m3 m4)⟩
@[simp ↓] theorem ap_fZipM (fl : FL) (r : Env) : fZipM fl r = bK (fl r) (fun ds r1 => oK (zipM2 ds) (fun es => .ok (es, r1)) ⟨⟩) ⟨⟩ := (rfl)
omit [TabsC] in
@[simp] theorem sideD_l (xs : List D) : sideD (.lst xs) = some (false, xs) := rfl
omit [TabsC] in
@[simp] theorem sideD_t (xs : List D) : sideD (.tup xs) = some (true, xs) := rfl
omit [TabsC] in
theorem zipM2_of {d e : D} {b c : Bool} {xs ys : List D} (h : sideD d = some (b, xs)) (h2 : sideD e = some (c, ys)) : zipM2 [d, e] = some (zipD xs ys) := by
  show (sideD d).bind (fun p => (sideD e).map fun q => zipD p.2 q.2) = _
  rw [h, h2]
  rfl
end Ev

/-! E55: a comprehension over zip(data, own list): the own list stays own. -/
namespace Ev
open PySem PySem.Spec PyProof.Rows L2 ZipM
open LamX (TabS Tabs)
variable [TabsC]
open Classical in
/-- slot j still shows sl -/
noncomputable def chkG (j : Nat) (sl : Slot) (ft : FGt) : FGt := fun d r => if r[j]? = some sl then ft d r else none
def WalksO (K : PySem.W.Frag) (J : It) (F : Hp) (a : Addr) (es ds : List D) : Prop :=
  ∀ (i : Nat) (F1 H : Hp) (ys : List V), Same F F1 → Same F1 H → H a = some (.lst ys) → Reps K F1 es ys →
    (∀ d, ds[i]? = some d → J.go i H ∧ ∀ x H', J.yld i H x H' → ∃ F2, Grow F1 H F2 H' ∧ Rep K F2 d x) ∧ (ds.length ≤ i → J.stop i H)
section
variable {X : Cx} {E : XK} {e tg iter elt c : Expr} {ifs : List Expr} {st : Stmt} {pos : Pos}
theorem lc_turnsO {vs : List Nat} {ft : FGt} {tt : FT} {fe : FE} {B : Base} {F1 H1 : Hp} {O1 : Addr → Option C} {r1 rF : Env} {s : Sg} {ds out es : List D} {Q : VK} {j : Nat} {p : Bool} {a0 : Addr} (hj : j ∉ vs) (hs : s[j]? = some (some (.ref a0))) (R1 : Rel X.K B F1 O1 H1 r1 s)
    (ml : loopC vs (chkG j (.own p (.lst es)) ft) tt fe ds (unAll r1 vs) [] = .ok (out, rF)) (hF : rF[j]? = some (.own p (.lst es)))
    (q : ∀ F' O' H', Rel X.K B F' O' H' (back vs r1 (unAll rF vs)) s → Same F1 F' → Keep s r1 (back vs r1 (unAll rF vs)) O1 O' → ∀ a, O' a = some (.lst out) → B.H0 a = none → Free s (back vs r1 (unAll rF vs)) a → (∀ c0, O1 a = some c0 → ¬ Free s r1 a) → Q (.ref a) H') (J : It) (hJ : WalksO X.K J F1 a0 es ds) :
    ∀ D, H1 D = none → ∃ W : Nat → Nat → Hp → Prop, (∃ m, W 0 m (upd H1 D (.lst []))) ∧ ∀ i m H, W i m H →
      (J.stop i H ∧ Q (.ref D) H) ∨ (J.go i H ∧ ∃ Nx : Hp → Prop, (∀ H', Nx H' → ∃ m', m' < m ∧ W (i + 1) m' H') ∧ ∀ x H', J.yld i H x H' → tGt X.K vs ft x (wipe s vs) H' fun σ2 H2 => wipe σ2 vs = wipe s vs ∧ tT X.K X.mg EF tt σ2 H2 fun b H3 =>
        if b = true then tE X.K X.mg EF fe σ2 H3 fun y H4 => ∃ acc, H4 D = some (.lst acc) ∧ acc.length < sizeLine ∧ Nx (upd H4 D (.lst (acc ++ [y]))) else Nx H3) := by
  intro A nA
  obtain ⟨oA, h0A, frA, fA⟩ := R1.free_of nA
  have ws : ∀ i, i ∉ vs → (wipe s vs)[i]? = s[i]? := fun i hi => wipe_at hi
  obtain ⟨R2, k2⟩ := R1.born (o := .lst []) (c := .lst []) nA ⟨[], upd_same, rfl⟩
  have own : ∀ {F2 : Hp} {O2 : Addr → Option C} {H' : Hp} {r2 : Env}, Rel X.K B F2 O2 H' r2 (wipe s vs) → r2[j]? = some (.own p (.lst es)) → ∃ ys, H' a0 = some (.lst ys) ∧ Reps X.K F2 es ys := fun R e => by
    obtain ⟨a, h1, h2, _⟩ := R.on j p _ e
    rw [ws j hj, hs] at h1
    cases h1
    obtain ⟨_, ⟨ys, h3, h4⟩, _⟩ := R.ow _ _ h2
    exact ⟨ys, h3, h4⟩
  let W : Nat → Hp → Prop := fun i H' => ∃ F2 O2 r2 acc, Rel X.K B F2 O2 H' r2 (wipe s vs) ∧ Same F1 F2 ∧ O2 A = some (.lst acc) ∧ Free (wipe s vs) r2 A ∧
    (∀ a c, a ≠ A → O1 a = some c → Free s r1 a → O2 a = some c ∧ Free (wipe s vs) r2 a) ∧ loopC vs (chkG j (.own p (.lst es)) ft) tt fe (ds.drop i) r2 acc = .ok (out, rF)
  refine ⟨fun i m H' => m = ds.length - i ∧ i ≤ ds.length ∧ W i H', ⟨ds.length, rfl, Nat.zero_le _, F1, _, unAll r1 vs, [], R2.wiped vs ws (wipe_length s vs), .refl _, by simp, frA.wiped vs ws, fun a c ha e f => ⟨by simp only [if_neg ha]; exact e, f.wiped vs ws⟩, ml⟩, ?_⟩
  rintro i m H' ⟨rfl, hi, F2, O2, r2, acc, R3, f2, oA2, frA2, kp, lp⟩
  by_cases hlt : i < ds.length
  · rw [List.drop_eq_getElem_cons hlt] at lp
    have lp : (match chkG j (.own p (.lst es)) ft ds[i] r2 with
      | none => .stuck
      | some r1 => (tt r1).bnd fun b r2 => if b = true then (fe r2).bnd fun y r3 => if acc.length < sizeLine then loopC vs (chkG j (.own p (.lst es)) ft) tt fe (ds.drop (i + 1)) (unAll r3 vs) (acc ++ [y]) else .stuck else loopC vs (chkG j (.own p (.lst es)) ft) tt fe (ds.drop (i + 1)) (unAll r2 vs) acc) = Res.ok (out, rF) := lp
    cases m : chkG j (.own p (.lst es)) ft ds[i] r2 with
    | none => rw [m] at lp; cases lp
    | some r3 =>
      rw [m] at lp
      unfold chkG at m
      split at m
      · rename_i ck
        obtain ⟨ys, y1, y2⟩ := own R3 ck
        obtain ⟨w1, w2⟩ := hJ i F2 H' ys f2 R3.fh y1 y2
        obtain ⟨go, yld⟩ := w1 ds[i] (List.getElem?_eq_getElem hlt)
        refine .inr ⟨go, W (i + 1), fun H3 h3 => ⟨ds.length - (i + 1), by omega, rfl, hlt, h3⟩, fun x H3 hy => ?_⟩
        obtain ⟨F3, g3, rep⟩ := yld x H3 hy
        have R3' := R3.grow g3
        refine ⟨B, F3, O2, r2, ds[i], r3, R3', rep, m, fun s4 R4 w4 => ⟨w4.1.trans wipe_idem, ?_⟩⟩
        have hs4 : ∀ j, j ∉ vs → (wipe s vs)[j]? = s4[j]? := fun j hj =>
          ((wipe_at (s := wipe s vs) hj).symm.trans (by rw [w4.1])).trans (wipe_at (s := s4) hj)
        have l4 : (wipe s vs).length = s4.length := w4.2.1.symm
        have frA4 : Free s4 r3 A := w4.2.2 A frA2
        refine ⟨B, F3, O2, r3, R4, ?_⟩
        have lp : (tt r3).bnd (fun b r2 => if b = true then (fe r2).bnd fun y r3 => if acc.length < sizeLine then loopC vs (chkG j (.own p (.lst es)) ft) tt fe (ds.drop (i + 1)) (unAll r3 vs) (acc ++ [y]) else .stuck else loopC vs (chkG j (.own p (.lst es)) ft) tt fe (ds.drop (i + 1)) (unAll r2 vs) acc) = Res.ok (out, rF) := lp
        cases mt : tt r3 with
        | stuck => rw [mt] at lp; cases lp
        | ex x => rw [mt] at lp; cases lp
        | ok pt =>
          obtain ⟨b, r5⟩ := pt
          rw [mt] at lp
          intro F5 O5 H5 R5 f5 k5
          have lp : (if b = true then (fe r5).bnd fun y r3 => if acc.length < sizeLine then loopC vs (chkG j (.own p (.lst es)) ft) tt fe (ds.drop (i + 1)) (unAll r3 vs) (acc ++ [y]) else .stuck else loopC vs (chkG j (.own p (.lst es)) ft) tt fe (ds.drop (i + 1)) (unAll r5 vs) acc) = Res.ok (out, rF) := lp
          obtain ⟨oA5, frA5⟩ := k5 A _ oA2 frA4
          cases b with
          | false =>
            rw [if_neg Bool.false_ne_true] at lp
            show W (i + 1) H5
            refine ⟨F5, O5, unAll r5 vs, acc, R5.wiped vs hs4 l4, f2.trans (g3.ff.trans f5), oA5, frA5.wiped vs hs4, fun a c ha e1 e2 => ?_, lp⟩
            obtain ⟨g1, g2⟩ := kp a c ha e1 e2
            obtain ⟨g4, g5⟩ := k5 a c g1 (w4.2.2 a g2)
            exact ⟨g4, g5.wiped vs hs4⟩
          | true =>
            rw [if_pos rfl] at lp
            show tE X.K X.mg EF fe s4 H5 _
            refine ⟨B, F5, O5, r5, R5, ?_⟩
            cases me : fe r5 with
            | stuck => rw [me] at lp; cases lp
            | ex x => rw [me] at lp; cases lp
            | ok pe =>
              obtain ⟨y, r6⟩ := pe
              rw [me] at lp
              intro F6 O6 H6 R6 f6 k6 v hv
              have lp : (if acc.length < sizeLine then loopC vs (chkG j (.own p (.lst es)) ft) tt fe (ds.drop (i + 1)) (unAll r6 vs) (acc ++ [y]) else .stuck) = Res.ok (out, rF) := lp
              split at lp
              · rename_i hz
                obtain ⟨oA6, frA6⟩ := k6 A _ oA5 frA5
                obtain ⟨_, ⟨xs, hxs, hr⟩, _⟩ := R6.ow A _ oA6
                have R7 := R6.mutT (o := .lst (xs ++ [v])) (c' := .lst (acc ++ [y])) oA6 frA6 ⟨_, upd_same, hr.append (.cons hv .nil)⟩
                refine ⟨xs, hxs, by rw [hr.length]; exact hz, F6, _, unAll r6 vs, acc ++ [y], R7.wiped vs hs4 l4, f2.trans (g3.ff.trans (f5.trans f6)), by simp, frA6.wiped vs hs4, fun a c ha e1 e2 => ?_, lp⟩
                obtain ⟨g1, g2⟩ := kp a c ha e1 e2
                obtain ⟨g4, g5⟩ := k5 a c g1 (w4.2.2 a g2)
                obtain ⟨g6, g7⟩ := k6 a c g4 g5
                exact ⟨by simp only [if_neg ha]; exact g6, g7.wiped vs hs4⟩
              · cases lp
      · cases m
  · have e : i = ds.length := by omega
    subst e
    rw [List.drop_length] at lp
    cases lp
    obtain ⟨ys, y1, y2⟩ := own R3 hF
    obtain ⟨w1, w2⟩ := hJ ds.length F2 H' ys f2 R3.fh y1 y2
    refine .inl ⟨w2 (Nat.le_refl _), ?_⟩
    have bk : ∀ j, j ∉ vs → s[j]? = (wipe s vs)[j]? := fun j hj => (wipe_at hj).symm
    have R5 := (R3.wiped vs bk (wipe_length s vs).symm)
    refine q F2 O2 H' (Rel.backed R1 f2 vs R5) f2 (fun a c e1 e2 => ?_) A oA2 h0A ((frA2.wiped vs bk).backed vs) fun c0 e1 e2 => ?_
    · have ha : a ≠ A := fun z => by subst z; rw [oA] at e1; cases e1
      obtain ⟨g3, g4⟩ := kp a c ha e1 e2
      exact ⟨g3, (g4.wiped vs bk).backed vs⟩
    · rw [oA] at e1; cases e1
/-- the list as it stands is the second -/
theorem walksO_zip {K : PySem.W.Frag} {F : Hp} {b : Bool} {a1 a2 : Addr} {xs : List V} {ds es : List D} (h : sV b K F a1 xs) (r : Reps K F ds xs) : WalksO K (ItzM b false K a1 a2) F a2 es (zipD ds es) := fun i F1 H ys f1 f2 hy r' => by
  have hs : sV b K H a1 xs := sV_same (f1.trans f2) h
  have hs' : sV false K H a2 ys := .inl (.inl hy)
  have lz : (zipD ds es).length = min ds.length es.length := by unfold zipD; rw [List.length_map, List.length_zip]
  refine ⟨fun d e => ?_, fun hl => ⟨xs, ys, hs, hs', by rw [lz] at hl; rw [r.length, r'.length]; omega⟩⟩
  have hi : i < (zipD ds es).length := (List.getElem?_eq_some_iff.mp e).1
  rw [lz] at hi
  have i1 : i < ds.length := by omega
  have i2 : i < es.length := by omega
  obtain ⟨x, h1, h2⟩ := r.get (List.getElem?_eq_getElem i1)
  obtain ⟨y, h3, h4⟩ := r'.get (List.getElem?_eq_getElem i2)
  have ed : d = .tup [ds[i], es[i]] := by
    unfold zipD at e
    rw [List.getElem?_map, (List.getElem?_zip_eq_some (z := (ds[i], es[i]))).mpr ⟨List.getElem?_eq_getElem i1, List.getElem?_eq_getElem i2⟩] at e
    cases e
    rfl
  subst ed
  refine ⟨⟨xs, ys, x, y, hs, hs', h1, h3⟩, fun v H' ⟨T, x', y', e1, e2, e3, e4, e5⟩ => ?_⟩
  have z1 := e4 xs hs
  have z2 := e5 ys hs'
  rw [h1] at z1; cases z1
  rw [h3] at z2; cases z2
  subst e1; subst e3
  exact ⟨_, rep_pair f2 e2 (h2.mono f1) h4⟩
theorem walksO_zipL {K : PySem.W.Frag} {F : Hp} {b : Bool} {a1 a2 : Addr} {xs : List V} {ds es : List D} (h : sV b K F a2 xs) (r : Reps K F ds xs) : WalksO K (ItzM false b K a1 a2) F a1 es (zipD es ds) := fun i F1 H ys f1 f2 hy r' => by
  have hs : sV b K H a2 xs := sV_same (f1.trans f2) h
  have hs' : sV false K H a1 ys := .inl (.inl hy)
  have lz : (zipD es ds).length = min es.length ds.length := by unfold zipD; rw [List.length_map, List.length_zip]
  refine ⟨fun d e => ?_, fun hl => ⟨ys, xs, hs', hs, by rw [lz] at hl; rw [r.length, r'.length]; omega⟩⟩
  have hi : i < (zipD es ds).length := (List.getElem?_eq_some_iff.mp e).1
  rw [lz] at hi
  have i1 : i < ds.length := by omega
  have i2 : i < es.length := by omega
  obtain ⟨x, h1, h2⟩ := r.get (List.getElem?_eq_getElem i1)
  obtain ⟨y, h3, h4⟩ := r'.get (List.getElem?_eq_getElem i2)
  have ed : d = .tup [es[i], ds[i]] := by
    unfold zipD at e
    rw [List.getElem?_map, (List.getElem?_zip_eq_some (z := (es[i], ds[i]))).mpr ⟨List.getElem?_eq_getElem i2, List.getElem?_eq_getElem i1⟩] at e
    cases e
    rfl
  subst ed
  refine ⟨⟨ys, xs, y, x, hs', hs, h3, h1⟩, fun v H' ⟨T, x', y', e1, e2, e3, e4, e5⟩ => ?_⟩
  have z1 := e4 ys hs'
  have z2 := e5 xs hs
  rw [h3] at z1; cases z1
  rw [h1] at z2; cases z2
  subst e1; subst e3
  exact ⟨_, rep_pair f2 e2 h4 (h2.mono f1)⟩
def isOw : Option Slot → Bool
  | some (.own _ _) => true
  | _ => false
open Classical in
noncomputable def fLCZ0 (lf : Bool) (f1 : FE) (j : Nat) (vs : List Nat) (ft : FGt) (tt : FT) (fe : FE) : FO := fun r => (f1 r).bnd fun d r1 => match r1[j]?, sideD d with
  | some (.own p (.lst es)), some (_, xs) => (match loopC vs (chkG j (.own p (.lst es)) ft) tt fe (if lf = true then zipD es xs else zipD xs es) (unAll r1 vs) [] with
    | .ok q => if q.2[j]? = some (.own p (.lst es)) then .ok (.lst q.1, back vs r1 (unAll q.2 vs)) else .stuck
    | _ => .stuck)
  | _, _ => .stuck
/-- [.. for .. in zip(e, own)]; lf: zip(own, e) -/
noncomputable def fLCZ (lf : Bool) (f1 : FE) (j : Nat) (vs : List Nat) (ft : FGt) (tt : FT) (fe : FE) : FO := fun r => if (lf && !isOw r[j]?) = true then .stuck else fLCZ0 lf f1 j vs ft tt fe r
theorem lcz_reads {lf : Bool} {f1 : FE} {j : Nat} {vs : List Nat} {ft : FGt} {tt : FT} {fe : FE} {s : Sg} {H : Hp} {Q : VK} (hj : j ∉ vs) (h : tO X.K X.mg E (fLCZ lf f1 j vs ft tt fe) s H Q) :
    tLc (iZipM X.K (if lf = true then tCons (tVar j) (tCons (tE X.K X.mg E f1) tNil) else tCons (tE X.K X.mg E f1) (tCons (tVar j) tNil))) (tGt X.K vs ft) (tT X.K X.mg EF tt) (tE X.K X.mg EF fe) vs s H Q := by
  obtain ⟨B, F, O, r, R, q⟩ := h
  have q : Post X.K X.mg E B F O r s (fLCZ lf f1 j vs ft tt fe r) _ := q
  unfold fLCZ at q
  by_cases c : (lf && !isOw r[j]?) = true
  · rw [if_pos c] at q; exact False.elim q
  rw [if_neg c] at q
  unfold fLCZ0 at q
  -- the data
  have key : Post X.K X.mg E B F O r s (f1 r) fun d r1 F1 O1 H1 => ∀ v, Rep X.K F1 d v → ∃ a0 b a1, s[j]? = some (some (.ref a0)) ∧ v = .ref a1 ∧ (∃ xs ys, sV b X.K H1 a1 xs ∧ H1 a0 = some (.lst ys)) ∧
      ∀ J, J = (if lf = true then ItzM false b X.K a0 a1 else ItzM b false X.K a1 a0) → ∀ D, H1 D = none → ∃ W : Nat → Nat → Hp → Prop, (∃ m, W 0 m (upd H1 D (.lst []))) ∧ ∀ i m H, W i m H →
      (J.stop i H ∧ Q (.ref D) H) ∨ (J.go i H ∧ ∃ Nx : Hp → Prop, (∀ H', Nx H' → ∃ m', m' < m ∧ W (i + 1) m' H') ∧ ∀ x H', J.yld i H x H' → tGt X.K vs ft x (wipe s vs) H' fun σ2 H2 => wipe σ2 vs = wipe s vs ∧ tT X.K X.mg EF tt σ2 H2 fun b H3 =>
        if b = true then tE X.K X.mg EF fe σ2 H3 fun y H4 => ∃ acc, H4 D = some (.lst acc) ∧ acc.length < sizeLine ∧ Nx (upd H4 D (.lst (acc ++ [y]))) else Nx H3) := by
    refine (Post.split q).mono fun d r1 F1 O1 H1 R1 f1' k1 q1 v hv => ?_
    cases m1 : r1[j]? with
    | none => rw [m1] at q1; exact False.elim q1
    | some sl =>
      rw [m1] at q1
      cases sl with
      | un => exact False.elim q1
      | rf _ => exact False.elim q1
      | val _ => exact False.elim q1
      | own p c =>
        cases c with
        | dct _ => exact False.elim q1
        | lst es =>
          cases m2 : sideD d with
          | none => rw [m2] at q1; exact False.elim q1
          | some bx =>
            obtain ⟨b, xs⟩ := bx
            rw [m2] at q1
            obtain ⟨a1, us, rfl, g1, g2⟩ := side_rep m2 hv
            obtain ⟨a0, h1, h2, _⟩ := R1.on j p _ m1
            obtain ⟨_, ⟨ys, h3, h4⟩, _⟩ := R1.ow _ _ h2
            refine ⟨a0, b, a1, h1, rfl, ⟨us, ys, sV_same R1.fh g1, h3⟩, fun J hJ => ?_⟩
            cases ml : loopC vs (chkG j (.own p (.lst es)) ft) tt fe (if lf = true then zipD es xs else zipD xs es) (unAll r1 vs) [] with
            | stuck => simp only [ml] at q1; exact False.elim q1
            | ex x => simp only [ml] at q1; exact False.elim q1
            | ok pl =>
              obtain ⟨out, rF⟩ := pl
              simp only [ml] at q1
              by_cases hF : rF[j]? = some (.own p (.lst es))
              · rw [if_pos hF] at q1
                refine lc_turnsO hj h1 R1 ml hF (fun F' O' H' R' f k c hO hB hFr hn => ?_) J ?_
                · refine q1 F' O' H' R' f k c hO hB hFr fun c0 e1 e2 => ?_
                  obtain ⟨g3, g4⟩ := k1 c c0 e1 e2
                  exact hn c0 g3 g4
                · subst hJ
                  cases lf with
                  | true => exact walksO_zipL g1 g2
                  | false => exact walksO_zip g1 g2
              · rw [if_neg hF] at q1
                exact False.elim q1
  cases lf with
  | false =>
    show tE X.K X.mg E f1 s H _
    refine ⟨B, F, O, r, R, key.mono fun d r1 F1 O1 H1 R1 f1' k1 q1 v hv => ?_⟩
    obtain ⟨a0, b, a1, h1, rfl, ⟨xs, ys, g1, g2⟩, g3⟩ := q1 v hv
    exact ⟨.ref a0, h1, ⟨b, false, a1, a0, xs, ys, rfl, g1, .inl (.inl g2), g3 _ rfl⟩⟩
  | true =>
    have hs0 : ∃ a0, s[j]? = some (some (.ref a0)) := by
      cases m : r[j]? with
      | none => rw [m] at c; exact absurd rfl c
      | some sl =>
        rw [m] at c
        cases sl with
        | own p e => obtain ⟨a0, h1, _⟩ := R.on j p _ m; exact ⟨a0, h1⟩
        | _ => exact absurd rfl c
    obtain ⟨a0, h0⟩ := hs0
    show ∃ v, s[j]? = some (some v) ∧ tE X.K X.mg E f1 s H _
    refine ⟨.ref a0, h0, B, F, O, r, R, key.mono fun d r1 F1 O1 H1 R1 f1' k1 q1 v hv => ?_⟩
    obtain ⟨a0', b, a1, h1, rfl, ⟨xs, ys, g1, g2⟩, g3⟩ := q1 v hv
    rw [h0] at h1
    cases h1
    exact ⟨false, b, a0, a1, ys, xs, rfl, .inl (.inl g2), g1, g3 _ rfl⟩
/-- the rule: zip(e1, name) -/
theorem eo_lcz {e1 e2 : Expr} {pz pos2 tpos : Pos} {elts : List Expr} {kk j : Nat} {scope : Scope} {own : List (Str × Nat)} {f1 : FE} {ft : FGt} {tt : FT} {fe : FE} (hc : X.calm = true) (hN : X.N.Nodup) (h1 : EvE X E e1 f1) (h2 : PE X e2 (tVar j)) (hj : j ∉ own.map (·.2)) (ok : BlkOk X.N X.env.scope scope own)
    (hg : ∀ (s : Shared) (H : Hp) (C : Addr) (cl : List (Str × Addr)) (fp : List Addr), EvG (X.blk s H scope (compEnvC scope cl C X.env) fp) (.Tuple elts kk tpos) (own.map (·.2)) ft)
    (ht : ∀ (s : Shared) (H : Hp) (C : Addr) (cl : List (Str × Addr)) (fp : List Addr), EvTs (X.blk s H scope (compEnvC scope cl C X.env) fp) EF ifs tt)
    (he : ∀ (s : Shared) (H : Hp) (C : Addr) (cl : List (Str × Addr)) (fp : List Addr), EvE (X.blk s H scope (compEnvC scope cl C X.env) fp) EF elt fe) (hm : X.mg "zip" = none)
    (hs : ∀ x, foldedSetIterable (.Call (.Name "zip" pz) [e1, e2] [] pos2) X.env x = pure x := by intro _; rfl) (hgl : Gl X "zip" := by rfl) (hs1 : starEach [e1, e2] X.env = (false, eval e1 X.env) :: starEach [e2] X.env := by rfl) (hs2 : starEach [e2] X.env = (false, eval e2 X.env) :: starEach [] X.env := by rfl) (hpl : (backTo pos2 (starEach [e2] X.env)).any (·.1) = false := by rfl) :
    EvO X E (.ListComp elt [⟨.Tuple elts kk tpos, .Call (.Name "zip" pz) [e1, e2] [] pos2, ifs, 0⟩] scope pos) (fLCZ false f1 j (own.map (·.2)) ft tt fe) :=
  PE.imp (pe_lc (pos := pos) (g := tGt X.K (own.map fun p : Str × Nat => p.2) ft) hc hN (pi_zipM hgl hm (pa_cons h1 (pa_cons h2 pa_nil hs2) hs1) hs1 hpl) ok hg ht he hs) fun s H Q h => lcz_reads (lf := false) hj h
/-- the rule: zip(name, e1) -/
theorem eo_lczL {e1 e2 : Expr} {pz pos2 tpos : Pos} {elts : List Expr} {kk j : Nat} {scope : Scope} {own : List (Str × Nat)} {f1 : FE} {ft : FGt} {tt : FT} {fe : FE} (hc : X.calm = true) (hN : X.N.Nodup) (h1 : EvE X E e1 f1) (h2 : PE X e2 (tVar j)) (hj : j ∉ own.map (·.2)) (ok : BlkOk X.N X.env.scope scope own)
    (hg : ∀ (s : Shared) (H : Hp) (C : Addr) (cl : List (Str × Addr)) (fp : List Addr), EvG (X.blk s H scope (compEnvC scope cl C X.env) fp) (.Tuple elts kk tpos) (own.map (·.2)) ft)
    (ht : ∀ (s : Shared) (H : Hp) (C : Addr) (cl : List (Str × Addr)) (fp : List Addr), EvTs (X.blk s H scope (compEnvC scope cl C X.env) fp) EF ifs tt)
    (he : ∀ (s : Shared) (H : Hp) (C : Addr) (cl : List (Str × Addr)) (fp : List Addr), EvE (X.blk s H scope (compEnvC scope cl C X.env) fp) EF elt fe) (hm : X.mg "zip" = none)
    (hs : ∀ x, foldedSetIterable (.Call (.Name "zip" pz) [e2, e1] [] pos2) X.env x = pure x := by intro _; rfl) (hgl : Gl X "zip" := by rfl) (hs1 : starEach [e2, e1] X.env = (false, eval e2 X.env) :: starEach [e1] X.env := by rfl) (hs2 : starEach [e1] X.env = (false, eval e1 X.env) :: starEach [] X.env := by rfl) (hpl : (backTo pos2 (starEach [e1] X.env)).any (·.1) = false := by rfl) :
    EvO X E (.ListComp elt [⟨.Tuple elts kk tpos, .Call (.Name "zip" pz) [e2, e1] [] pos2, ifs, 0⟩] scope pos) (fLCZ true f1 j (own.map (·.2)) ft tt fe) :=
  PE.imp (pe_lc (pos := pos) (g := tGt X.K (own.map fun p : Str × Nat => p.2) ft) hc hN (pi_zipM hgl hm (pa_cons h2 (pa_cons h1 pa_nil hs2) hs1) hs1 hpl) ok hg ht he hs) fun s H Q h => lcz_reads (lf := true) hj h
/-- name = .. on one line -/
theorem es_setLcz {e1 e2 : Expr} {pz pos2 tpos : Pos} {elts : List Expr} {kk j : Nat} {i : Nat} {y : Str} {py spos : Pos} {scope : Scope} {own : List (Str × Nat)} {f1 : FE} {ft : FGt} {tt : FT} {fe : FE} (hc : X.calm = true) (hN : X.N.Nodup) (hy : X.N[i]? = some y) (hyl : X.env.scope.names.lookup y = some .local)
    (hsw : swapsWith (.ListComp elt [⟨.Tuple elts kk tpos, .Call (.Name "zip" pz) [e1, e2] [] pos2, ifs, 0⟩] scope pos) (some (.Name y py)) spos.line X.env = pure true) (h1 : EvE X E e1 f1) (h2 : PE X e2 (tVar j)) (hj : j ∉ own.map (·.2)) (ok : BlkOk X.N X.env.scope scope own)
    (hg : ∀ (s : Shared) (H : Hp) (C : Addr) (cl : List (Str × Addr)) (fp : List Addr), EvG (X.blk s H scope (compEnvC scope cl C X.env) fp) (.Tuple elts kk tpos) (own.map (·.2)) ft)
    (ht : ∀ (s : Shared) (H : Hp) (C : Addr) (cl : List (Str × Addr)) (fp : List Addr), EvTs (X.blk s H scope (compEnvC scope cl C X.env) fp) EF ifs tt)
    (he : ∀ (s : Shared) (H : Hp) (C : Addr) (cl : List (Str × Addr)) (fp : List Addr), EvE (X.blk s H scope (compEnvC scope cl C X.env) fp) EF elt fe) (hm : X.mg "zip" = none)
    (hs : ∀ x, foldedSetIterable (.Call (.Name "zip" pz) [e1, e2] [] pos2) X.env x = pure x := by intro _; rfl) (hgl : Gl X "zip" := by rfl) (hs1 : starEach [e1, e2] X.env = (false, eval e1 X.env) :: starEach [e2] X.env := by rfl) (hs2 : starEach [e2] X.env = (false, eval e2 X.env) :: starEach [] X.env := by rfl) (hpl : (backTo pos2 (starEach [e2] X.env)).any (·.1) = false := by rfl) :
    PS X (.Assign [.Name y py] (.ListComp elt [⟨.Tuple elts kk tpos, .Call (.Name "zip" pz) [e1, e2] [] pos2, ifs, 0⟩] scope pos) spos) (tAsg (tO X.K X.mg E (fLCZ false f1 j (own.map (·.2)) ft tt fe)) (gName i)) :=
  PS.imp (ps_setLc (g := tGt X.K (own.map fun p : Str × Nat => p.2) ft) hc hN hy hyl hsw (pi_zipM hgl hm (pa_cons h1 (pa_cons h2 pa_nil hs2) hs1) hs1 hpl) ok hg ht he hs) fun D' s H h => lcz_reads (lf := false) hj h
theorem es_setLczL {e1 e2 : Expr} {pz pos2 tpos : Pos} {elts : List Expr} {kk j : Nat} {i : Nat} {y : Str} {py spos : Pos} {scope : Scope} {own : List (Str × Nat)} {f1 : FE} {ft : FGt} {tt : FT} {fe : FE} (hc : X.calm = true) (hN : X.N.Nodup) (hy : X.N[i]? = some y) (hyl : X.env.scope.names.lookup y = some .local)
    (hsw : swapsWith (.ListComp elt [⟨.Tuple elts kk tpos, .Call (.Name "zip" pz) [e2, e1] [] pos2, ifs, 0⟩] scope pos) (some (.Name y py)) spos.line X.env = pure true) (h1 : EvE X E e1 f1) (h2 : PE X e2 (tVar j)) (hj : j ∉ own.map (·.2)) (ok : BlkOk X.N X.env.scope scope own)
    (hg : ∀ (s : Shared) (H : Hp) (C : Addr) (cl : List (Str × Addr)) (fp : List Addr), EvG (X.blk s H scope (compEnvC scope cl C X.env) fp) (.Tuple elts kk tpos) (own.map (·.2)) ft)
    (ht : ∀ (s : Shared) (H : Hp) (C : Addr) (cl : List (Str × Addr)) (fp : List Addr), EvTs (X.blk s H scope (compEnvC scope cl C X.env) fp) EF ifs tt)
    (he : ∀ (s : Shared) (H : Hp) (C : Addr) (cl : List (Str × Addr)) (fp : List Addr), EvE (X.blk s H scope (compEnvC scope cl C X.env) fp) EF elt fe) (hm : X.mg "zip" = none)
    (hs : ∀ x, foldedSetIterable (.Call (.Name "zip" pz) [e2, e1] [] pos2) X.env x = pure x := by intro _; rfl) (hgl : Gl X "zip" := by rfl) (hs1 : starEach [e2, e1] X.env = (false, eval e2 X.env) :: starEach [e1] X.env := by rfl) (hs2 : starEach [e1] X.env = (false, eval e1 X.env) :: starEach [] X.env := by rfl) (hpl : (backTo pos2 (starEach [e1] X.env)).any (·.1) = false := by rfl) :
    PS X (.Assign [.Name y py] (.ListComp elt [⟨.Tuple elts kk tpos, .Call (.Name "zip" pz) [e2, e1] [] pos2, ifs, 0⟩] scope pos) spos) (tAsg (tO X.K X.mg E (fLCZ true f1 j (own.map (·.2)) ft tt fe)) (gName i)) :=
  PS.imp (ps_setLc (g := tGt X.K (own.map fun p : Str × Nat => p.2) ft) hc hN hy hyl hsw (pi_zipM hgl hm (pa_cons h2 (pa_cons h1 pa_nil hs2) hs1) hs1 hpl) ok hg ht he hs) fun D' s H h => lcz_reads (lf := true) hj h
end
/-! ### as it is used -/
theorem fLCZ_of {f1 : FE} {j : Nat} {vs : List Nat} {ft : FGt} {tt : FT} {fe : FE} {r r1 rF : Env} {d : D} {p b : Bool} {es xs out : List D} (h1 : f1 r = .ok (d, r1)) (h2 : r1[j]? = some (.own p (.lst es))) (h3 : sideD d = some (b, xs))
    (h4 : loopC vs (chkG j (.own p (.lst es)) ft) tt fe (zipD xs es) (unAll r1 vs) [] = .ok (out, rF)) (h5 : rF[j]? = some (.own p (.lst es))) : fLCZ false f1 j vs ft tt fe r = .ok (.lst out, back vs r1 (unAll rF vs)) := by
  unfold fLCZ
  rw [if_neg (by simp)]
  unfold fLCZ0
  simp only [h1, Res.bnd, h2, h3, Bool.false_eq_true, if_false, h4, h5, if_true]
theorem fLCZ_ofL {f1 : FE} {j : Nat} {vs : List Nat} {ft : FGt} {tt : FT} {fe : FE} {r r1 rF : Env} {d : D} {p b : Bool} {es xs out : List D} (h0 : isOw r[j]? = true) (h1 : f1 r = .ok (d, r1)) (h2 : r1[j]? = some (.own p (.lst es))) (h3 : sideD d = some (b, xs))
    (h4 : loopC vs (chkG j (.own p (.lst es)) ft) tt fe (zipD es xs) (unAll r1 vs) [] = .ok (out, rF)) (h5 : rF[j]? = some (.own p (.lst es))) : fLCZ true f1 j vs ft tt fe r = .ok (.lst out, back vs r1 (unAll rF vs)) := by
  unfold fLCZ
  rw [if_neg (by simp [h0])]
  unfold fLCZ0
  simp only [h1, Res.bnd, h2, h3, if_true, h4, h5]
@[simp ↓] theorem ap_chkG (j : Nat) (sl : Slot) (ft : FGt) (d : D) (r : Env) (h : r[j]? = some sl) : chkG j sl ft d r = ft d r := by
  unfold chkG
  rw [if_pos h]
end Ev

/-! E56: l.index(k) of a list of ints that is data. -/
namespace Ev
open PySem PySem.Spec PyProof.Rows L2
variable [TabsC]
def inOf : List D → Option (List Int)
  | [] => some []
  | .int b :: ds => (inOf ds).map (b :: ·)
  | _ :: _ => none
theorem inOf_map : ∀ bs : List Int, inOf (bs.map .int) = some bs
  | [] => rfl
  | b :: bs => by rw [List.map_cons, inOf, inOf_map bs]; rfl
theorem inOf_eq : ∀ {ds : List D} {bs : List Int}, inOf ds = some bs → ds = bs.map .int
  | [], _, h => by cases h; rfl
  | d :: ds, bs, h => by
    cases d with
    | int b =>
      have h : (inOf ds).map (b :: ·) = some bs := h
      cases q : inOf ds with
      | none => rw [q] at h; cases h
      | some cs => rw [q] at h; cases h; rw [inOf_eq q]; rfl
    | _ => cases h
def gIdxI (ds : List D) : D → Option D
  | .int k => (match inOf ds with
    | some ns => if k ∈ ns then some (.int ((ns.idxOf k : Nat) : Int)) else none
    | none => none)
  | _ => none
def fIdx (fo fa : FE) : FE := fun r => (fo r).bnd fun d r1 => match d with
  | .lst ds => (fa r1).bnd fun y r2 => obnd (gIdxI ds y) fun z => .ok (z, r2)
  | _ => .stuck
theorem flat_ints (bs : List Int) : (bs.map V.int).all flatV = true := by
  rw [List.all_eq_true]
  intro x hx
  obtain ⟨b, _, rfl⟩ := List.mem_map.mp hx
  rfl
section
variable {X : Cx} {E : XK} {o e : Expr} {p apos cpos : Pos}
theorem idx_reads {fo fa : FE} {s : Sg} {H : Hp} {Q : VK} (h : tE X.K X.mg E (fIdx fo fa) s H Q) : tBM X.K "list" (rIndex X.K) (tE X.K X.mg E fo) (tCons (tE X.K X.mg E fa) tNil) s H Q := by
  obtain ⟨B, F, O, r, R, q⟩ := h
  refine ⟨B, F, O, r, R, (Post.split q).mono fun d r1 F1 O1 H1 R1 f1 k1 q1 v hv => ?_⟩
  cases d with
  | lst ds =>
    obtain ⟨a, us, rfl, g1, g2⟩ := hv
    refine ⟨.inl ⟨rfl, us, R1.fh.seq g1⟩, B, F1, O1, r1, R1, (Post.split q1).mono fun y r2 F2 O2 H2 R2 f2 k2 q2 w hw => ?_⟩
    obtain ⟨z, e1, q2⟩ := Post.opt q2
    cases y with
    | int k =>
      have e1 : (match inOf ds with
        | some ns => if k ∈ ns then some (D.int ((ns.idxOf k : Nat) : Int)) else none
        | none => none) = some z := e1
      cases m : inOf ds with
      | none => rw [m] at e1; cases e1
      | some ns =>
        rw [m] at e1
        simp only at e1
        split at e1
        · rename_i hb
          cases e1
          rw [inOf_eq m] at g2
          have hys := Reps.ints g2
          have hl := List.idxOf_lt_length_of_mem hb
          rw [show w = V.int k from hw]
          refine ⟨a, us, .int k, ns.idxOf k, .int k, rfl, rfl, R2.fh.seq (f2.seq g1), rfl, by rw [hys]; exact flat_ints ns, ?_, by show (k == k) = true; simp, fun n z' hn hz => ?_, ?_⟩
          · rw [hys, List.getElem?_map, List.getElem?_eq_getElem hl, List.getElem_idxOf]; rfl
          · rw [hys, List.getElem?_map] at hz
            have hn2 : n < ns.length := by omega
            rw [List.getElem?_eq_getElem hn2] at hz
            cases hz
            have := List.not_of_lt_findIdx (p := (· == k)) (xs := ns) (i := n) hn
            simpa [eqV] using this
          · exact Post.ok (k := fun d _ F' _ H' => ∀ v, Rep X.K F' d v → Q v H') q2 R2 (.refl _) .refl (.int ((ns.idxOf k : Nat) : Int)) rfl
        · cases e1
    | _ => cases e1
  | _ => exact False.elim q1
theorem ev_idx {fo fa : FE} (ho : EvE X E o fo) (ha : EvE X E e fa) (hbase : attributeBase o "index" X.env (eval o X.env) = eval o X.env := by rfl)
    (hfew : ((backTo cpos (starEach (e :: []) X.env)).all (fun x => !x.1) && (backToKw cpos (keywordEach [] X.env)).all (fun x => x.1.isSome)
      && decide ((e :: []).length + ([] : List Keyword).length + (if ([] : List Keyword).isEmpty then 0 else 1) < 30)) = true := by rfl)
    (hline : (apos.endLine == cpos.line) = true := by rfl) (hs : starEach (e :: []) X.env = (false, eval e X.env) :: starEach [] X.env := by rfl) (hplain : (backTo cpos (starEach [] X.env)).any (·.1) = false := by rfl) :
    EvE X E (.Call (.Attribute o "index" apos) [e] [] cpos) (fIdx fo fa) :=
  PE.imp (pe_bm PySem.F.plainAttrs_list PySem.F.slot_list_index PySem.F.type_list_index mt_index ho (pa_cons ha pa_nil hs) hbase hfew hline hs hplain) fun s H Q h => idx_reads h
end
theorem fIdx_of {fo fa : FE} {r r1 r2 : Env} {ns : List Int} {k : Int} (h1 : fo r = .ok (.lst (ns.map .int), r1)) (h2 : fa r1 = .ok (.int k, r2)) (h3 : k ∈ ns) : fIdx fo fa r = .ok (.int ((ns.idxOf k : Nat) : Int), r2) := by
  unfold fIdx
  simp only [h1, h2, Res.bnd, gIdxI, inOf_map, h3, if_true, obnd]
end Ev

namespace K24
open PySem L2 Ev LamX LamE
variable [TabsC]
def top (i : Nat) : Stmt := PySem.Challenge.pw_inkandlead_k24_whole_totals_and_more_wis.main.body.getD i (.Pass ⟨0, 0, 0, 0⟩)
abbrev s__law_flow : Stmt := top 30
abbrev s__law_draw : Stmt := top 31
abbrev s__law_some : Stmt := top 32
abbrev s__law_word : Stmt := top 40
abbrev s_is_integer : Stmt := top 1
abbrev s_is_within : Stmt := top 2
abbrev s_is_tuple_of : Stmt := top 3
abbrev s_is_wish : Stmt := top 17
abbrev s_check_wishes : Stmt := top 18
abbrev s_spans : Stmt := top 23
abbrev s_steps_of : Stmt := top 22
abbrev s_raw_least : Stmt := top 24
abbrev s_spread_out : Stmt := top 28
abbrev s__law_are_refused : Stmt := top 41
abbrev s__law_kept_wishes : Stmt := top 33
abbrev s_least_widths : Stmt := top 25
abbrev s__law_sums : Stmt := top 34
abbrev s__law_is_below : Stmt := top 35
abbrev s_does_keep : Stmt := top 19
abbrev s_raw_is_widths : Stmt := top 20
abbrev s_is_widths : Stmt := top 21
abbrev s_closed_ring : Stmt := top 27
abbrev s_clash : Stmt := top 26
abbrev s__law_is_more_right : Stmt := top 39
abbrev s__law_turned : Stmt := top 36
abbrev s__law_is_total_right : Stmt := top 37
abbrev s__law_are_totals_right : Stmt := top 38
abbrev s_law : Stmt := top 42
noncomputable section
def b__law_flow : FS := fRetO (fLst (fLCons (fEO (fCO (g1o seqOf) (fACons (fNB 0) (fANil)))) (fLCons (fC (.int 0)) (fLCons (fC (.int 24)) (fLCons (fC (.int 0)) (fLNil))))))
def g__law_flow : FG := fnRun 1 b__law_flow
def b__law_draw : FS := fSeq (fIfS (fTE (fBin gGt (fBE (fBin gIxA (fNB 0) (fBE (fC (.int 3))))) (fBE (fC (.int 0))))) (fSeq (fPutN 0 (fC (.int 3)) 2 (fTup (fLCons (fBin gFdiv (fBE (fBin gIxA (fNB 0) (fBE (fC (.int 3))))) (fNB 1)) (fLCons (fBin gIxA (fNB 0) (fBE (fC (.int 3)))) (fLNil))))) (fRet (fBin gMod (fBE (fCB (g1 gInt) (fACons (fNB 2) (fANil)))) (fNB 1)))) (fSkip)) (fSeq (fAsg (setN 3) (fBin gMod (fBE (fBin gIxA (fNB 0) (fBE (fC (.int 1))))) (fBE (fC (.int 5))))) (fSeq (fIfS (fTE (fBin gLt (fBE (fBin gIxA (fNB 0) (fBE (fC (.int 1))))) (fBE (fCB (g1 gLen) (fACons (fBE (fBin gIxA (fNB 0) (fBE (fC (.int 0))))) (fANil)))))) (fAsg (setN 3) (fBin gIxA (fBE (fBin gIxA (fNB 0) (fBE (fC (.int 0))))) (fBE (fBin gIxA (fNB 0) (fBE (fC (.int 1))))))) (fSkip)) (fSeq (fAugPut 0 (fC (.int 1)) gIAdd (fC (.int 1))) (fSeq (fIfS (fTE (fBin gGe (fNB 3) (fBE (fBin gPow (fBE (fC (.int 10))) (fBE (fC (.int 18))))))) (fSeq (fPut 0 (fC (.int 3)) (fBin gFdiv (fNB 3) (fNB 1))) (fRet (fBin gMod (fBE (fCB (g1 gInt) (fACons (fNB 3) (fANil)))) (fNB 1)))) (fSkip)) (fSeq (fPut 0 (fC (.int 2)) (fBin gMod (fBE (fCB (g1 gInt) (fACons (fBE (fBin gAdd (fBE (fBin gAdd (fBE (fBin gMulA (fBE (fBin gIxA (fNB 0) (fBE (fC (.int 2))))) (fBE (fC (.int 48271))))) (fBE (fBin gMod (fBE (fCB (g1 gInt) (fACons (fNB 3) (fANil)))) (fBE (fC (.int 2147483629))))))) (fBE (fBin gIxA (fNB 0) (fBE (fC (.int 1))))))) (fANil)))) (fBE (fC (.int 2147483647))))) (fRet (fBin gMod (fBE (fCB (g1 gInt) (fACons (fBE (fBin gFdiv (fBE (fBin gIxA (fNB 0) (fBE (fC (.int 2))))) (fBE (fC (.int 64))))) (fANil)))) (fNB 1))))))))
def g__law_draw : FG := fnRun 4 b__law_draw
def b__law_some : FS := fRet (fBin gIxA (fNB 1) (fBE (fCall g__law_draw (fACons (fNB 0) (fACons (fBE (fCB (g1 gLen) (fACons (fNB 1) (fANil)))) (fANil))))))
def g__law_some : FG := fnRun 2 b__law_some
def fs__law_word (a : Addr) (nm : Str) : FS := fSeq (fAsgO 3 (fLst (fLCons (fIsE 2 a (decide (nm = "NoColumns"))) (fLCons (fIsE 2 a (decide (nm = "NoWishes"))) (fLCons (fIsE 2 a (decide (nm = "NoNumber"))) (fLNil)))))) (fSeq (fAsg (setN 4) (fEO (fLst (fLCons (fC (.str ("columns" : Str))) (fLCons (fC (.str ("wishes" : Str))) (fLCons (fC (.str ("number" : Str))) (fLNil))))))) (fAsg (setN 1) (fIf (fTE (fBin gEqA (fBE (fMut 3 C.isL gCountB (fLCons (fC (.bl true)) (fLNil)))) (fBE (fC (.int 1))))) (fBin gIxA (fNB 4) (fBE (fMut 3 C.isL gIndexB (fLCons (fC (.bl true)) (fLNil))))) (fC (.str ("other" : Str))))))
def fr__law_word : FS := fRet (fN 1)
def f0__law_word : FS := fAsg (setN 1) (fC (.str ("told" : Str)))
def tab__law_word (nm : Str) : Option D := if nm = "NoColumns" then some (.str ("columns" : Str)) else if nm = "NoWishes" then some (.str ("wishes" : Str)) else if nm = "NoNumber" then some (.str ("number" : Str)) else none
def ans__law_word : Res D → Option D
  | .ok _ => some (.str ("told" : Str))
  | .ex x => match x.fld with
    | none => tab__law_word x.cls
    | some _ => none
  | .stuck => none
def b_is_integer : FS := fRet (fAndV (fUn (gIsi "int") (fNB 0)) (fNotV (fUn (gIsi "bool") (fNB 0))))
def g_is_integer : FG := fnRun 1 b_is_integer
def b_is_within : FS := fRet (fAndV (fCall g_is_integer (fACons (fBE (fN 0)) (fANil))) (fChain gLe gLe (fNB 1) (fNB 0) (fNB 2)))
def g_is_within : FG := fnRun 3 b_is_within
def b_is_tuple_of : FS := fRet (fAndV (fUn (gIsi "tuple") (fNB 0)) (fBin gEqA (fBE (fCB (g1 gLen) (fACons (fNB 0) (fANil)))) (fNB 1)))
def g_is_tuple_of : FG := fnRun 2 b_is_tuple_of
def b_is_wish : FS := fSeq (fIfS (fOr (fNot (fTE (fCall g_is_tuple_of (fACons (fBE (fN 1)) (fACons (fBE (fC (.int 4))) (fANil)))))) (fOr (fNot (fTE (fCall g_is_within (fACons (fBE (fBin gIxA (fNB 1) (fBE (fC (.int 1))))) (fACons (fBE (fC (.int 0))) (fACons (fBE (fBin gSub (fNB 0) (fBE (fC (.int 1))))) (fANil))))))) (fNot (fTE (fCall g_is_within (fACons (fBE (fBin gIxA (fNB 1) (fBE (fC (.int 0))))) (fACons (fBE (fC (.int 0))) (fACons (fBE (fBin gIxA (fNB 1) (fBE (fC (.int 1))))) (fANil))))))))) (fRet (fC (.bl false))) (fSkip)) (fRet (fAndV (fUn (gIsi "str") (fBE (fBin gIxA (fNB 1) (fBE (fC (.int 2)))))) (fAndV (fBin gIn (fBE (fBin gIxA (fNB 1) (fBE (fC (.int 2))))) (fBE (fTup (fLCons (fC (.str ("least" : Str))) (fLCons (fC (.str ("most" : Str))) (fLNil)))))) (fCall g_is_within (fACons (fBE (fBin gIxA (fNB 1) (fBE (fC (.int 3))))) (fACons (fBE (fC (.int 0))) (fACons (fBE (fC (.int 10000))) (fANil))))))))
def g_is_wish : FG := fnRun 2 b_is_wish
def b_check_wishes : FS := fSeq (fIfS (fNot (fTE (fCall g_is_within (fACons (fBE (fN 0)) (fACons (fBE (fC (.int 1))) (fACons (fBE (fC (.int 8))) (fANil))))))) (fRaise "NoColumns") (fSkip)) (fSeq (fIfS (fOr (fNot (fTE (fUn (gIsi "tuple") (fNB 1)))) (fTE (fBin gGt (fBE (fCB (g1 gLen) (fACons (fNB 1) (fANil)))) (fBE (fC (.int 30)))))) (fRaise "NoWishes") (fSkip)) (fIfS (fNot (fTE (fCB (g1 gAll) (fACons (fBE (fEO (fLC [2] (fSeqI (fN 1)) (setN 2) (fYes) (fCall g_is_wish (fACons (fBE (fN 0)) (fACons (fBE (fN 2)) (fANil))))))) (fANil))))) (fRaise "NoWishes") (fSkip)))
def g_check_wishes : FG := fnRun 3 b_check_wishes
def t_spans_1 : FGt := setN 6
def l_spans_1 : FS := fIfS (fTE (fBin gGt (fBE (fBin gAdd (fBE (fBin gIxA (fNB 2) (fBE (fBin gIxA (fNB 6) (fBE (fC (.int 0))))))) (fBE (fBin gIxA (fNB 6) (fBE (fC (.int 2))))))) (fBE (fBin gIxA (fNB 2) (fBE (fBin gIxA (fNB 6) (fBE (fC (.int 1))))))))) (fSeq (fPut 2 (fBin gIxA (fNB 6) (fBE (fC (.int 1)))) (fBin gAdd (fBE (fBin gIxA (fNB 2) (fBE (fBin gIxA (fNB 6) (fBE (fC (.int 0))))))) (fBE (fBin gIxA (fNB 6) (fBE (fC (.int 2))))))) (fSeq (fPut 3 (fBin gIxA (fNB 6) (fBE (fC (.int 1)))) (fN 6)) (fAsg (setN 4) (fBin gIxA (fNB 6) (fBE (fC (.int 1))))))) (fSkip)
def t_spans_2 : FGt := setN 5
def l_spans_2 : FS := fSeq (fAsg (setN 4) (fC .non)) (fSeq (fFor (fSeqI (fN 1)) t_spans_1 l_spans_1) (fIfS (fTE (fBin gIsB (fNB 4) (fBE (fC .non)))) (fRet (fTup (fLCons (fN 2) (fLCons (fN 3) (fLCons (fC .non) (fLNil)))))) (fSkip)))
def b_spans : FS := fSeq (fPar [2, 3, 4] (f2O (fBinO gRepL (fBE (fEO (fLst (fLCons (fC (.int 0)) (fLNil))))) (fBE (fBin gAdd (fNB 0) (fBE (fC (.int 1)))))) (f2O (fBinO gRepL (fBE (fEO (fLst (fLCons (fC .non) (fLNil))))) (fBE (fBin gAdd (fNB 0) (fBE (fC (.int 1)))))) (f2V (fC .non) (f2Nil))))) (fSeq (fFor (fRg rg1 (fLCons (fBin gAdd (fNB 0) (fBE (fC (.int 2)))) (fLNil))) t_spans_2 l_spans_2) (fRet (fTup (fLCons (fN 2) (fLCons (fN 3) (fLCons (fN 4) (fLNil)))))))
def g_spans : FG := fnRun 7 b_spans
def t_steps_of_1 : FGt := setTA 2 (setsCons (setN 4) (setsCons (setTA 4 (setsCons (setN 5) (setsCons (setN 6) (setsCons (setN 7) (setsCons (setN 8) (setsNil)))))) (setsNil)))
def l_steps_of_1 : FS := fIfS (fTE (fBin gEqA (fNB 7) (fBE (fC (.str ("least" : Str)))))) (fDrop (fMut 2 C.isL gAppend (fLCons (fTup (fLCons (fN 5) (fLCons (fBin gAdd (fNB 6) (fBE (fC (.int 1)))) (fLCons (fN 8) (fLCons (fTup (fLCons (fC (.str ("least" : Str))) (fLCons (fN 4) (fLNil)))) (fLNil)))))) (fLNil)))) (fDrop (fMut 2 C.isL gAppend (fLCons (fTup (fLCons (fBin gAdd (fNB 6) (fBE (fC (.int 1)))) (fLCons (fN 5) (fLCons (fUn gNeg (fNB 8)) (fLCons (fTup (fLCons (fC (.str ("most" : Str))) (fLCons (fN 4) (fLNil)))) (fLNil)))))) (fLNil))))
def b_steps_of : FS := fSeq (fAsgO 2 (fLC [3] (fRg rg1 (fLCons (fN 0) (fLNil))) (setN 3) (fYes) (fTup (fLCons (fN 3) (fLCons (fBin gAdd (fNB 3) (fBE (fC (.int 1)))) (fLCons (fC (.int 0)) (fLCons (fTup (fLCons (fC (.str ("none" : Str))) (fLCons (fN 3) (fLNil)))) (fLNil)))))))) (fSeq (fFor (fEnumA (fN 1)) t_steps_of_1 l_steps_of_1) (fRetO (fNO 2)))
def g_steps_of : FG := fnRun 9 b_steps_of
def b_raw_least : FS := fSeq (fAsg (setTA 3 (setsCons (setN 2) (setsCons (setN 3) (setsCons (setN 4) (setsNil))))) (fCall g_spans (fACons (fBE (fN 0)) (fACons (fBE (fEO (fCallO g_steps_of (fACons (fBE (fN 0)) (fACons (fBE (fN 1)) (fANil)))))) (fANil))))) (fSeq (fIfS (fOr (fTE (fBin gNotB (fNB 4) (fBE (fC .non)))) (fTE (fBin gGt (fBE (fBin gIxA (fNB 2) (fBE (fC (.int 0))))) (fBE (fC (.int 0)))))) (fRet (fC .non)) (fSkip)) (fRet (fCB (g1 gTupOf) (fACons (fBE (fEO (fLC [5] (fRg rg1 (fLCons (fN 0) (fLNil))) (setN 5) (fYes) (fBin gSub (fBE (fBin gIxA (fNB 2) (fBE (fBin gAdd (fNB 5) (fBE (fC (.int 1))))))) (fBE (fBin gIxA (fNB 2) (fNB 5))))))) (fANil)))))
def g_raw_least : FG := fnRun 6 b_raw_least
def b_spread_out : FS := fSeq (fDrop (fCall g_check_wishes (fACons (fBE (fN 0)) (fACons (fBE (fN 1)) (fANil))))) (fSeq (fIfS (fNot (fTE (fCall g_is_within (fACons (fBE (fN 2)) (fACons (fBE (fC (.int 0))) (fACons (fBE (fC (.int 1000000))) (fANil))))))) (fRaise "NoNumber") (fSkip)) (fSeq (fAsg (setN 3) (fTup (fLCons (fTup (fLCons (fC (.int 0)) (fLCons (fBin gSub (fNB 0) (fBE (fC (.int 1)))) (fLCons (fC (.str ("least" : Str))) (fLCons (fN 2) (fLNil)))))) (fLCons (fTup (fLCons (fC (.int 0)) (fLCons (fBin gSub (fNB 0) (fBE (fC (.int 1)))) (fLCons (fC (.str ("most" : Str))) (fLCons (fN 2) (fLNil)))))) (fLNil))))) (fRet (fCall g_raw_least (fACons (fBE (fN 0)) (fACons (fBE (fBin gAdd (fNB 1) (fNB 3))) (fANil)))))))
def g_spread_out : FG := fnRun 4 b_spread_out
def b__law_are_refused : FS := fSeq (fAsg (setN 1) (fCall g__law_some (fACons (fNB 0) (fACons (fBE (fEO (fLst (fLCons (fC .non) (fLCons (fUn gNeg (fBE (fC (.int 1)))) (fLCons (fBin gAdd (fBE (fBin gPow (fBE (fC (.int 10))) (fBE (fC (.int 6))))) (fBE (fC (.int 1)))) (fLCons (fC (.bl true)) (fLCons (fC (.str ("5" : Str))) (fLCons (fTup (fLCons (fC (.int 5)) (fLNil))) (fLNil)))))))))) (fANil))))) (fSeq (fAsgO 2 (fLst (fLCons (fWord [1] (fCall g_spread_out (fACons (fBE (fC (.int 0))) (fACons (fBE (fC .non)) (fACons (fBE (fN 1)) (fANil))))) ans__law_word) (fLNil)))) (fSeq (fDrop (fMut 2 C.isL gAppend (fLCons (fWord [1] (fCall g_spread_out (fACons (fBE (fC (.int 2))) (fACons (fBE (fC .non)) (fACons (fBE (fN 1)) (fANil))))) ans__law_word) (fLNil)))) (fSeq (fDrop (fMut 2 C.isL gAppend (fLCons (fWord [1] (fCall g_spread_out (fACons (fBE (fC (.int 2))) (fACons (fBE (fTup (fLNil))) (fACons (fBE (fN 1)) (fANil))))) ans__law_word) (fLNil)))) (fRet (fBin gEqA (fNB 2) (fBE (fEO (fLst (fLCons (fC (.str ("columns" : Str))) (fLCons (fC (.str ("wishes" : Str))) (fLCons (fC (.str ("number" : Str))) (fLNil))))))))))))
def g__law_are_refused : FG := fnRun 3 b__law_are_refused
def t__law_kept_wishes_1 : FGt := setN 4
def l__law_kept_wishes_1 : FS := fSeq (fAsg (setN 5) (fCall g__law_draw (fACons (fNB 0) (fACons (fBE (fCB (g1 gLen) (fACons (fNB 1) (fANil)))) (fANil))))) (fSeq (fAsg (setN 6) (fBin gAdd (fNB 5) (fBE (fCall g__law_draw (fACons (fNB 0) (fACons (fBE (fBin gSub (fBE (fCB (g1 gLen) (fACons (fNB 1) (fANil)))) (fNB 5))) (fANil))))))) (fSeq (fPar [7, 8] (f2V (fCB (g1 gSum) (fACons (fBE (fSl (fNB 1) (fPS (fN 5)) (fPS (fBin gAdd (fNB 6) (fBE (fC (.int 1))))))) (fANil))) (f2V (fCall g__law_draw (fACons (fNB 0) (fACons (fBE (fC (.int 6))) (fANil)))) (f2Nil)))) (fIfS (fTE (fBin gEqA (fBE (fCall g__law_draw (fACons (fNB 0) (fACons (fBE (fC (.int 2))) (fANil))))) (fBE (fC (.int 0))))) (fDrop (fMut 3 C.isL gAppend (fLCons (fTup (fLCons (fN 5) (fLCons (fN 6) (fLCons (fC (.str ("least" : Str))) (fLCons (fCB (g2 gMax2) (fACons (fBE (fC (.int 0))) (fACons (fBE (fBin gSub (fNB 7) (fNB 8))) (fANil)))) (fLNil)))))) (fLNil)))) (fDrop (fMut 3 C.isL gAppend (fLCons (fTup (fLCons (fN 5) (fLCons (fN 6) (fLCons (fC (.str ("most" : Str))) (fLCons (fCB (g2 gMin2) (fACons (fBE (fC (.int 10000))) (fACons (fBE (fBin gAdd (fNB 7) (fNB 8))) (fANil)))) (fLNil)))))) (fLNil)))))))
def b__law_kept_wishes : FS := fSeq (fAsgO 3 (fLst (fLNil))) (fSeq (fFor (fRg rg1 (fLCons (fN 2) (fLNil))) t__law_kept_wishes_1 l__law_kept_wishes_1) (fRet (fCB (g1 gTupOf) (fACons (fNB 3) (fANil)))))
def g__law_kept_wishes : FG := fnRun 9 b__law_kept_wishes
def b_least_widths : FS := fSeq (fDrop (fCall g_check_wishes (fACons (fBE (fN 0)) (fACons (fBE (fN 1)) (fANil))))) (fRet (fCall g_raw_least (fACons (fBE (fN 0)) (fACons (fBE (fN 1)) (fANil)))))
def g_least_widths : FG := fnRun 2 b_least_widths
def b__law_sums : FS := fRetO (fLC [1] (fRg rg1 (fLCons (fCB (g1 gLen) (fACons (fNB 0) (fANil))) (fLNil))) (setN 1) (fYes) (fCB (g1 gSum) (fACons (fBE (fSl (fNB 0) (fPN) (fPS (fBin gAdd (fNB 1) (fBE (fC (.int 1))))))) (fANil))))
def g__law_sums : FG := fnRun 2 b__law_sums
def b__law_is_below : FS := fRet (fCB (g1 gAll) (fACons (fBE (fEO (fLC [2, 3] (fZip (fLCons (fEO (fCallO g__law_sums (fACons (fBE (fN 0)) (fANil)))) (fLCons (fEO (fCallO g__law_sums (fACons (fBE (fN 1)) (fANil)))) (fLNil)))) (setTA 2 (setsCons (setN 2) (setsCons (setN 3) (setsNil)))) (fYes) (fBin gLe (fNB 2) (fNB 3))))) (fANil)))
def g__law_is_below : FG := fnRun 4 b__law_is_below
def b_does_keep : FS := fSeq (fAsg (setN 2) (fCB (g1 gSum) (fACons (fBE (fSl (fNB 0) (fPS (fBin gIxA (fNB 1) (fBE (fC (.int 0))))) (fPS (fBin gAdd (fBE (fBin gIxA (fNB 1) (fBE (fC (.int 1))))) (fBE (fC (.int 1))))))) (fANil)))) (fRet (fIf (fTE (fBin gEqA (fBE (fBin gIxA (fNB 1) (fBE (fC (.int 2))))) (fBE (fC (.str ("least" : Str)))))) (fBin gGe (fNB 2) (fBE (fBin gIxA (fNB 1) (fBE (fC (.int 3)))))) (fBin gLe (fNB 2) (fBE (fBin gIxA (fNB 1) (fBE (fC (.int 3))))))))
def g_does_keep : FG := fnRun 3 b_does_keep
def b_raw_is_widths : FS := fSeq (fIfS (fOr (fNot (fTE (fUn (gIsi "tuple") (fNB 2)))) (fTE (fBin gNeA (fBE (fCB (g1 gLen) (fACons (fNB 2) (fANil)))) (fNB 0)))) (fRet (fC (.bl false))) (fSkip)) (fSeq (fIfS (fNot (fTE (fCB (g1 gAll) (fACons (fBE (fEO (fLC [3] (fSeqI (fN 2)) (setN 3) (fYes) (fCall g_is_within (fACons (fBE (fN 3)) (fACons (fBE (fC (.int 0))) (fACons (fBE (fN 3)) (fANil)))))))) (fANil))))) (fRet (fC (.bl false))) (fSkip)) (fRet (fCB (g1 gAll) (fACons (fBE (fEO (fLC [4] (fSeqI (fN 1)) (setN 4) (fYes) (fCall g_does_keep (fACons (fBE (fN 2)) (fACons (fBE (fN 4)) (fANil))))))) (fANil)))))
def g_raw_is_widths : FG := fnRun 5 b_raw_is_widths
def b_is_widths : FS := fSeq (fDrop (fCall g_check_wishes (fACons (fBE (fN 0)) (fACons (fBE (fN 1)) (fANil))))) (fRet (fCall g_raw_is_widths (fACons (fBE (fN 0)) (fACons (fBE (fN 1)) (fACons (fBE (fN 2)) (fANil))))))
def g_is_widths : FG := fnRun 3 b_is_widths
def c_closed_ring_1 : FT := fAnd (fTE (fBin gNotB (fBE (fBin gIxA (fNB 0) (fNB 2))) (fBE (fC .non)))) (fTE (fBin gLe (fBE (fCB (g1 gLen) (fACons (fNB 3) (fANil)))) (fBE (fCB (g1 gLen) (fACons (fNB 0) (fANil))))))
def l_closed_ring_1 : FS := fSeq (fDrop (fMut 3 C.isL gAppend (fLCons (fBin gIxA (fNB 0) (fNB 2)) (fLNil)))) (fSeq (fAsg (setN 2) (fBin gIxA (fBE (fBin gIxA (fNB 0) (fNB 2))) (fBE (fC (.int 0))))) (fIfS (fTE (fBin gEqA (fNB 2) (fNB 1))) (fRet (fUn gRev (fNB 3))) (fSkip)))
def b_closed_ring : FS := fSeq (fPar [2, 3] (f2V (fN 1) (f2O (fLst (fLNil)) (f2Nil)))) (fSeq (fWhile fuel c_closed_ring_1 l_closed_ring_1) (fRet (fC .non)))
def g_closed_ring : FG := fnRun 4 b_closed_ring
def t_clash_1 : FGt := setN 6
def l_clash_1 : FS := fIfS (fTE (fBin gGt (fBE (fBin gAdd (fBE (fBin gIxA (fNB 3) (fBE (fBin gIxA (fNB 6) (fBE (fC (.int 0))))))) (fBE (fBin gIxA (fNB 6) (fBE (fC (.int 2))))))) (fBE (fBin gIxA (fNB 3) (fBE (fBin gIxA (fNB 6) (fBE (fC (.int 1))))))))) (fSeq (fPut 3 (fBin gIxA (fNB 6) (fBE (fC (.int 1)))) (fBin gAdd (fBE (fBin gIxA (fNB 3) (fBE (fBin gIxA (fNB 6) (fBE (fC (.int 0))))))) (fBE (fBin gIxA (fNB 6) (fBE (fC (.int 2))))))) (fSeq (fPut 4 (fBin gIxA (fNB 6) (fBE (fC (.int 1)))) (fN 6)) (fSeq (fAsg (setN 7) (fCall g_closed_ring (fACons (fNB 4) (fACons (fBE (fBin gIxA (fNB 6) (fBE (fC (.int 1))))) (fANil))))) (fIfS (fTE (fBin gNotB (fNB 7) (fBE (fC .non)))) (fRet (fCB (g1 gTupOf) (fACons (fBE (fEO (fLC [8] (fSeqI (fN 7)) (setN 8) (fYes) (fBin gIxA (fNB 8) (fBE (fC (.int 3))))))) (fANil)))) (fSkip))))) (fSkip)
def t_clash_2 : FGt := setN 5
def l_clash_2 : FS := fFor (fSeqI (fN 2)) t_clash_1 l_clash_1
def b_clash : FS := fSeq (fDrop (fCall g_check_wishes (fACons (fBE (fN 0)) (fACons (fBE (fN 1)) (fANil))))) (fSeq (fIfS (fTE (fBin gNotB (fBE (fCall g_raw_least (fACons (fBE (fN 0)) (fACons (fBE (fN 1)) (fANil))))) (fBE (fC .non)))) (fRet (fC .non)) (fSkip)) (fSeq (fAsg (setN 2) (fEO (fCallO g_steps_of (fACons (fBE (fN 0)) (fACons (fBE (fN 1)) (fANil)))))) (fSeq (fPar [3, 4] (f2O (fBinO gRepL (fBE (fEO (fLst (fLCons (fC (.int 0)) (fLNil))))) (fBE (fBin gAdd (fNB 0) (fBE (fC (.int 1)))))) (f2O (fBinO gRepL (fBE (fEO (fLst (fLCons (fC .non) (fLNil))))) (fBE (fBin gAdd (fNB 0) (fBE (fC (.int 1)))))) (f2Nil)))) (fSeq (fFor (fRg rg1 (fLCons (fBin gAdd (fNB 0) (fBE (fC (.int 2)))) (fLNil))) t_clash_2 l_clash_2) (fRet (fC .non))))))
def g_clash : FG := fnRun 9 b_clash
def b__law_is_more_right : FS := fSeq (fAsg (setN 4) (fCall g_least_widths (fACons (fBE (fN 1)) (fACons (fBE (fN 2)) (fANil))))) (fSeq (fIfS (fOr (fTE (fBin gIsB (fNB 4) (fBE (fC .non)))) (fOr (fNot (fTE (fCall g__law_is_below (fACons (fBE (fN 4)) (fACons (fBE (fN 3)) (fANil)))))) (fTE (fBin gNotB (fBE (fCall g_is_widths (fACons (fBE (fN 1)) (fACons (fBE (fN 2)) (fACons (fBE (fN 3)) (fANil)))))) (fBE (fC (.bl true))))))) (fRet (fC (.bl false))) (fSkip)) (fSeq (fAsg (setN 5) (fBin gAdd (fNB 2) (fBE (fCall g__law_kept_wishes (fACons (fNB 0) (fACons (fBE (fN 3)) (fACons (fBE (fC (.int 1))) (fANil)))))))) (fSeq (fIfS (fNot (fTE (fCall g__law_is_below (fACons (fBE (fN 4)) (fACons (fBE (fCall g_least_widths (fACons (fBE (fN 1)) (fACons (fBE (fN 5)) (fANil))))) (fANil)))))) (fRet (fC (.bl false))) (fSkip)) (fSeq (fAsg (setN 6) (fBin gAdd (fNB 2) (fBE (fCall g__law_kept_wishes (fACons (fNB 0) (fACons (fBE (fN 4)) (fACons (fBE (fC (.int 1))) (fANil)))))))) (fRet (fAndV (fBin gEqA (fBE (fCall g_least_widths (fACons (fBE (fN 1)) (fACons (fBE (fN 6)) (fANil))))) (fNB 4)) (fBin gIsB (fBE (fCall g_clash (fACons (fBE (fN 1)) (fACons (fBE (fN 6)) (fANil))))) (fBE (fC .non)))))))))
def g__law_is_more_right : FG := fnRun 7 b__law_is_more_right
def t__law_turned_1 : FGt := setTA 4 (setsCons (setN 3) (setsCons (setN 4) (setsCons (setN 5) (setsCons (setN 6) (setsNil)))))
def l__law_turned_1 : FS := fDrop (fMut 2 C.isL gAppend (fLCons (fTup (fLCons (fBin gSub (fBE (fBin gSub (fNB 0) (fBE (fC (.int 1))))) (fNB 4)) (fLCons (fBin gSub (fBE (fBin gSub (fNB 0) (fBE (fC (.int 1))))) (fNB 3)) (fLCons (fN 5) (fLCons (fN 6) (fLNil)))))) (fLNil)))
def b__law_turned : FS := fSeq (fAsgO 2 (fLst (fLNil))) (fSeq (fFor (fSeqI (fN 1)) t__law_turned_1 l__law_turned_1) (fRet (fCB (g1 gTupOf) (fACons (fNB 2) (fANil)))))
def g__law_turned : FG := fnRun 7 b__law_turned
def b__law_is_total_right : FS := fSeq (fAsg (setN 3) (fTup (fLCons (fTup (fLCons (fC (.int 0)) (fLCons (fBin gSub (fNB 0) (fBE (fC (.int 1)))) (fLCons (fC (.str ("least" : Str))) (fLCons (fN 2) (fLNil)))))) (fLCons (fTup (fLCons (fC (.int 0)) (fLCons (fBin gSub (fNB 0) (fBE (fC (.int 1)))) (fLCons (fC (.str ("most" : Str))) (fLCons (fN 2) (fLNil)))))) (fLNil))))) (fSeq (fAsg (setN 4) (fCall g_spread_out (fACons (fBE (fN 0)) (fACons (fBE (fN 1)) (fACons (fBE (fN 2)) (fANil)))))) (fSeq (fIfS (fAnd (fTE (fBin gLe (fNB 2) (fBE (fC (.int 10000))))) (fTE (fBin gLt (fBE (fCB (g1 gLen) (fACons (fNB 1) (fANil)))) (fBE (fC (.int 29)))))) (fIfS (fTE (fBin gNeA (fBE (fBin gIsB (fNB 4) (fBE (fC .non)))) (fBE (fBin gNotB (fBE (fCall g_clash (fACons (fBE (fN 0)) (fACons (fBE (fBin gAdd (fNB 1) (fNB 3))) (fANil))))) (fBE (fC .non)))))) (fRet (fC (.bl false))) (fSkip)) (fSkip)) (fRet (fOrV (fBin gIsB (fNB 4) (fBE (fC .non))) (fAndV (fBin gEqA (fBE (fCB (g1 gSum) (fACons (fNB 4) (fANil)))) (fNB 2)) (fBin gIsB (fBE (fCall g_is_widths (fACons (fBE (fN 0)) (fACons (fBE (fN 1)) (fACons (fBE (fN 4)) (fANil)))))) (fBE (fC (.bl true)))))))))
def g__law_is_total_right : FG := fnRun 5 b__law_is_total_right
def t__law_are_totals_right_1 : FGt := setN 6
def l__law_are_totals_right_1 : FS := fIfS (fNot (fTE (fCall g__law_is_total_right (fACons (fBE (fN 1)) (fACons (fBE (fN 2)) (fACons (fBE (fN 6)) (fANil))))))) (fRet (fC (.bl false))) (fSkip)
def b__law_are_totals_right : FS := fSeq (fPar [4, 5] (f2V (fCB (g1 gSum) (fACons (fBE (fCall g_least_widths (fACons (fBE (fN 1)) (fACons (fBE (fN 2)) (fANil))))) (fANil))) (f2V (fCB (g1 gSum) (fACons (fNB 3) (fANil))) (f2Nil)))) (fSeq (fFor (fSeqI (fTup (fLCons (fN 4) (fLCons (fN 5) (fLCons (fCall g__law_draw (fACons (fNB 0) (fACons (fBE (fC (.int 60))) (fANil)))) (fLCons (fCB (g2 gMax2) (fACons (fBE (fC (.int 0))) (fACons (fBE (fBin gSub (fNB 4) (fBE (fC (.int 1))))) (fANil)))) (fLCons (fBin gPow (fBE (fC (.int 10))) (fBE (fC (.int 6)))) (fLNil)))))))) t__law_are_totals_right_1 l__law_are_totals_right_1) (fSeq (fIfS (fOr (fTE (fBin gIsB (fBE (fCall g_spread_out (fACons (fBE (fN 1)) (fACons (fBE (fN 2)) (fACons (fBE (fN 4)) (fANil)))))) (fBE (fC .non)))) (fTE (fBin gIsB (fBE (fCall g_spread_out (fACons (fBE (fN 1)) (fACons (fBE (fN 2)) (fACons (fBE (fN 5)) (fANil)))))) (fBE (fC .non))))) (fRet (fC (.bl false))) (fSkip)) (fSeq (fIfS (fAnd (fTE (fBin gGt (fNB 4) (fBE (fC (.int 0))))) (fTE (fBin gNotB (fBE (fCall g_spread_out (fACons (fBE (fN 1)) (fACons (fBE (fN 2)) (fACons (fBE (fBin gSub (fNB 4) (fBE (fC (.int 1))))) (fANil)))))) (fBE (fC .non))))) (fRet (fC (.bl false))) (fSkip)) (fSeq (fAsg (setN 7) (fBin gAdd (fNB 4) (fBE (fCall g__law_draw (fACons (fNB 0) (fACons (fBE (fBin gAdd (fBE (fBin gSub (fNB 5) (fNB 4))) (fBE (fC (.int 1))))) (fANil))))))) (fSeq (fIfS (fTE (fBin gIsB (fBE (fCall g_spread_out (fACons (fBE (fN 1)) (fACons (fBE (fN 2)) (fACons (fBE (fN 7)) (fANil)))))) (fBE (fC .non)))) (fRet (fC (.bl false))) (fSkip)) (fSeq (fAsg (setN 8) (fCall g_least_widths (fACons (fBE (fN 1)) (fACons (fBE (fCall g__law_turned (fACons (fBE (fN 1)) (fACons (fBE (fN 2)) (fANil))))) (fANil))))) (fRet (fAndV (fBin gNotB (fNB 8) (fBE (fC .non))) (fBin gEqA (fBE (fCB (g1 gSum) (fACons (fNB 8) (fANil)))) (fNB 4))))))))))
def g__law_are_totals_right : FG := fnRun 9 b__law_are_totals_right
def t_law_1 : FGt := setN 2
def l_law_1 : FS := fSeq (fAsg (setN 3) (fBin gAdd (fBE (fC (.int 1))) (fBE (fCall g__law_draw (fACons (fNB 1) (fACons (fBE (fC (.int 8))) (fANil))))))) (fSeq (fAsg (setN 4) (fCB (g1 gTupOf) (fACons (fBE (fEO (fLC [5] (fRg rg1 (fLCons (fN 3) (fLNil))) (setN 5) (fYes) (fCall g__law_some (fACons (fNB 1) (fACons (fBE (fEO (fLst (fLCons (fC (.int 0)) (fLCons (fC (.int 1)) (fLCons (fC (.int 3)) (fLCons (fC (.int 7)) (fLCons (fC (.int 20)) (fLNil))))))))) (fANil))))))) (fANil)))) (fSeq (fAsg (setN 6) (fCall g__law_kept_wishes (fACons (fNB 1) (fACons (fBE (fN 4)) (fACons (fBE (fCall g__law_draw (fACons (fNB 1) (fACons (fBE (fC (.int 10))) (fANil))))) (fANil)))))) (fSeq (fIfS (fNot (fTE (fCall g__law_is_more_right (fACons (fNB 1) (fACons (fBE (fN 3)) (fACons (fBE (fN 6)) (fACons (fBE (fN 4)) (fANil)))))))) (fRet (fC (.bl false))) (fSkip)) (fIfS (fNot (fTE (fCall g__law_are_totals_right (fACons (fNB 1) (fACons (fBE (fN 3)) (fACons (fBE (fN 6)) (fACons (fBE (fN 4)) (fANil)))))))) (fRet (fC (.bl false))) (fSkip)))))
def b_law : FS := fSeq (fAsgO 1 (fCallO g__law_flow (fACons (fBE (fN 0)) (fANil)))) (fSeq (fFor (fRg rg1 (fLCons (fC (.int 5)) (fLNil))) t_law_1 l_law_1) (fRet (fCall g__law_are_refused (fACons (fNB 1) (fANil)))))
def g_law : FG := fnRun 7 b_law
end
theorem dn_NoColumns_NoWishes : decide (("NoColumns" : Str) = "NoWishes") = false := by decide
theorem dn_NoColumns_NoNumber : decide (("NoColumns" : Str) = "NoNumber") = false := by decide
theorem dn_NoWishes_NoColumns : decide (("NoWishes" : Str) = "NoColumns") = false := by decide
theorem dn_NoWishes_NoNumber : decide (("NoWishes" : Str) = "NoNumber") = false := by decide
theorem dn_NoNumber_NoColumns : decide (("NoNumber" : Str) = "NoColumns") = false := by decide
theorem dn_NoNumber_NoWishes : decide (("NoNumber" : Str) = "NoWishes") = false := by decide
def r1__law_word (f : Addr) : Ev.Env := (rStart 5 f).set 1 (.val (.str ("told" : Str)))
theorem r1ok__law_word (f : Addr) : f0__law_word (rStart 5 f) = .nx (r1__law_word f) ∧ (r1__law_word f)[0]? = some (.rf f) ∧ (r1__law_word f).length = 5 := by
  refine ⟨?_, rfl, rfl⟩
  simp [f0__law_word, r1__law_word, rStart]
theorem runk__law_word (f : Addr) : ∃ r, fr__law_word (r1__law_word f) = .rt (.str ("told" : Str)) r := by
  exact ⟨_, by simp [fr__law_word, r1__law_word, rStart]; exact rfl⟩
@[simp] theorem wo__law_word (d : D) : ans__law_word (.ok d) = some (.str ("told" : Str)) := rfl
@[simp] theorem wa__law_word_NoColumns : ans__law_word (.ex ⟨"NoColumns", none⟩) = some (.str ("columns" : Str)) := rfl
@[simp] theorem wa__law_word_NoWishes : ans__law_word (.ex ⟨"NoWishes", none⟩) = some (.str ("wishes" : Str)) := rfl
@[simp] theorem wa__law_word_NoNumber : ans__law_word (.ex ⟨"NoNumber", none⟩) = some (.str ("number" : Str)) := rfl
theorem run__law_word_NoColumns (f a : Addr) : ∃ r, runEx fs__law_word fr__law_word 2 a "NoColumns" (r1__law_word f) = .rt (.str ("columns" : Str)) r := by
  exact ⟨_, by simp [runEx, fs__law_word, fr__law_word, r1__law_word, rStart, gCountB, gIndexB, blsOf, gCatL_ll, C.isL, dn_NoColumns_NoWishes, dn_NoColumns_NoNumber]; exact rfl⟩
theorem run__law_word_NoWishes (f a : Addr) : ∃ r, runEx fs__law_word fr__law_word 2 a "NoWishes" (r1__law_word f) = .rt (.str ("wishes" : Str)) r := by
  exact ⟨_, by simp [runEx, fs__law_word, fr__law_word, r1__law_word, rStart, gCountB, gIndexB, blsOf, gCatL_ll, C.isL, dn_NoWishes_NoColumns, dn_NoWishes_NoNumber]; exact rfl⟩
theorem run__law_word_NoNumber (f a : Addr) : ∃ r, runEx fs__law_word fr__law_word 2 a "NoNumber" (r1__law_word f) = .rt (.str ("number" : Str)) r := by
  exact ⟨_, by simp [runEx, fs__law_word, fr__law_word, r1__law_word, rStart, gCountB, gIndexB, blsOf, gCatL_ll, C.isL, dn_NoNumber_NoColumns, dn_NoNumber_NoWishes]; exact rfl⟩
structure Txt (K : PySem.W.Frag) (mg : Str → Option Value) : Prop where
  b_all : mg "all" = none
  b_bool : mg "bool" = none
  b_enumerate : mg "enumerate" = none
  b_int : mg "int" = none
  b_isinstance : mg "isinstance" = none
  b_len : mg "len" = none
  b_list : mg "list" = none
  b_max : mg "max" = none
  b_min : mg "min" = none
  b_range : mg "range" = none
  b_str : mg "str" = none
  b_sum : mg "sum" = none
  b_tuple : mg "tuple" = none
  b_zip : mg "zip" = none
  m_LEAST : ∃ t, mg "LEAST" = some (.str ("least" : Str) t)
  m_MOST : ∃ t, mg "MOST" = some (.str ("most" : Str) t)
  m_MOST_COLUMNS : ∃ t, mg "MOST_COLUMNS" = some (.int 8 t)
  m_MOST_TOTAL : ∃ t, mg "MOST_TOTAL" = some (.int 1000000 t)
  m_MOST_WIDE : ∃ t, mg "MOST_WIDE" = some (.int 10000 t)
  m_MOST_WISHES : ∃ t, mg "MOST_WISHES" = some (.int 30 t)
  m_NONE : ∃ t, mg "NONE" = some (.str ("none" : Str) t)
  f__law_flow : ∃ (f : Addr) (fd : FuncData), mg "_law_flow" = some (.ref f) ∧ Fun K "_law_flow" "_law_flow" s__law_flow f fd
  f__law_draw : ∃ (f : Addr) (fd : FuncData), mg "_law_draw" = some (.ref f) ∧ Fun K "_law_draw" "_law_draw" s__law_draw f fd
  f__law_some : ∃ (f : Addr) (fd : FuncData), mg "_law_some" = some (.ref f) ∧ Fun K "_law_some" "_law_some" s__law_some f fd
  f__law_word : ∃ (f : Addr) (fd : FuncData), mg "_law_word" = some (.ref f) ∧ Fun K "_law_word" "_law_word" s__law_word f fd
  f_is_integer : ∃ (f : Addr) (fd : FuncData), mg "is_integer" = some (.ref f) ∧ Fun K "is_integer" "is_integer" s_is_integer f fd
  f_is_within : ∃ (f : Addr) (fd : FuncData), mg "is_within" = some (.ref f) ∧ Fun K "is_within" "is_within" s_is_within f fd
  f_is_tuple_of : ∃ (f : Addr) (fd : FuncData), mg "is_tuple_of" = some (.ref f) ∧ Fun K "is_tuple_of" "is_tuple_of" s_is_tuple_of f fd
  f_is_wish : ∃ (f : Addr) (fd : FuncData), mg "is_wish" = some (.ref f) ∧ Fun K "is_wish" "is_wish" s_is_wish f fd
  f_check_wishes : ∃ (f : Addr) (fd : FuncData), mg "check_wishes" = some (.ref f) ∧ Fun K "check_wishes" "check_wishes" s_check_wishes f fd
  f_spans : ∃ (f : Addr) (fd : FuncData), mg "spans" = some (.ref f) ∧ Fun K "spans" "spans" s_spans f fd
  f_steps_of : ∃ (f : Addr) (fd : FuncData), mg "steps_of" = some (.ref f) ∧ Fun K "steps_of" "steps_of" s_steps_of f fd
  f_raw_least : ∃ (f : Addr) (fd : FuncData), mg "raw_least" = some (.ref f) ∧ Fun K "raw_least" "raw_least" s_raw_least f fd
  f_spread_out : ∃ (f : Addr) (fd : FuncData), mg "spread_out" = some (.ref f) ∧ Fun K "spread_out" "spread_out" s_spread_out f fd
  f__law_are_refused : ∃ (f : Addr) (fd : FuncData), mg "_law_are_refused" = some (.ref f) ∧ Fun K "_law_are_refused" "_law_are_refused" s__law_are_refused f fd
  f__law_kept_wishes : ∃ (f : Addr) (fd : FuncData), mg "_law_kept_wishes" = some (.ref f) ∧ Fun K "_law_kept_wishes" "_law_kept_wishes" s__law_kept_wishes f fd
  f_least_widths : ∃ (f : Addr) (fd : FuncData), mg "least_widths" = some (.ref f) ∧ Fun K "least_widths" "least_widths" s_least_widths f fd
  f__law_sums : ∃ (f : Addr) (fd : FuncData), mg "_law_sums" = some (.ref f) ∧ Fun K "_law_sums" "_law_sums" s__law_sums f fd
  f__law_is_below : ∃ (f : Addr) (fd : FuncData), mg "_law_is_below" = some (.ref f) ∧ Fun K "_law_is_below" "_law_is_below" s__law_is_below f fd
  f_does_keep : ∃ (f : Addr) (fd : FuncData), mg "does_keep" = some (.ref f) ∧ Fun K "does_keep" "does_keep" s_does_keep f fd
  f_raw_is_widths : ∃ (f : Addr) (fd : FuncData), mg "raw_is_widths" = some (.ref f) ∧ Fun K "raw_is_widths" "raw_is_widths" s_raw_is_widths f fd
  f_is_widths : ∃ (f : Addr) (fd : FuncData), mg "is_widths" = some (.ref f) ∧ Fun K "is_widths" "is_widths" s_is_widths f fd
  f_closed_ring : ∃ (f : Addr) (fd : FuncData), mg "closed_ring" = some (.ref f) ∧ Fun K "closed_ring" "closed_ring" s_closed_ring f fd
  f_clash : ∃ (f : Addr) (fd : FuncData), mg "clash" = some (.ref f) ∧ Fun K "clash" "clash" s_clash f fd
  f__law_is_more_right : ∃ (f : Addr) (fd : FuncData), mg "_law_is_more_right" = some (.ref f) ∧ Fun K "_law_is_more_right" "_law_is_more_right" s__law_is_more_right f fd
  f__law_turned : ∃ (f : Addr) (fd : FuncData), mg "_law_turned" = some (.ref f) ∧ Fun K "_law_turned" "_law_turned" s__law_turned f fd
  f__law_is_total_right : ∃ (f : Addr) (fd : FuncData), mg "_law_is_total_right" = some (.ref f) ∧ Fun K "_law_is_total_right" "_law_is_total_right" s__law_is_total_right f fd
  f__law_are_totals_right : ∃ (f : Addr) (fd : FuncData), mg "_law_are_totals_right" = some (.ref f) ∧ Fun K "_law_are_totals_right" "_law_are_totals_right" s__law_are_totals_right f fd
  f_law : ∃ (f : Addr) (fd : FuncData), mg "law" = some (.ref f) ∧ Fun K "law" "law" s_law f fd
  c_NoColumns : ∃ c : Addr, mg "NoColumns" = some (.ref c) ∧ PySem.W.excIn K c [.type "ValueError", .type "Exception", .type "BaseException", .type "object"] "ValueError.__new__" = true ∧ PySem.W.keepIn K (.ref c) = true ∧ PySem.W.subIn K (.ref c) (.type "BaseException") = some true ∧ PySem.W.typeIn K (.ref c) = some (.type "type")
  c_NoNumber : ∃ c : Addr, mg "NoNumber" = some (.ref c) ∧ PySem.W.excIn K c [.type "ValueError", .type "Exception", .type "BaseException", .type "object"] "ValueError.__new__" = true ∧ PySem.W.keepIn K (.ref c) = true ∧ PySem.W.subIn K (.ref c) (.type "BaseException") = some true ∧ PySem.W.typeIn K (.ref c) = some (.type "type")
  c_NoWishes : ∃ c : Addr, mg "NoWishes" = some (.ref c) ∧ PySem.W.excIn K c [.type "ValueError", .type "Exception", .type "BaseException", .type "object"] "ValueError.__new__" = true ∧ PySem.W.keepIn K (.ref c) = true ∧ PySem.W.subIn K (.ref c) (.type "BaseException") = some true ∧ PySem.W.typeIn K (.ref c) = some (.type "type")
  y_b : ∃ c : Addr, mg "PressError" = some (.ref c)
  y_NoColumns : ∃ c : Addr, mg "NoColumns" = some (.ref c)
  y_NoWishes : ∃ c : Addr, mg "NoWishes" = some (.ref c)
  y_NoNumber : ∃ c : Addr, mg "NoNumber" = some (.ref c)
  y_x : ∀ nm ∈ (["NoColumns", "NoWishes", "NoNumber"] : List Str), ∀ D : Addr, mg nm = some (.ref D) → ExcC K D ∧ PySem.W.kitOne K (.ref D) (.type "ValueError") = some true
  y_p : ∀ nm ∈ (["NoColumns", "NoWishes", "NoNumber"] : List Str), ∀ D B : Addr, mg nm = some (.ref D) → mg "PressError" = some (.ref B) → PySem.W.exmOne K (.ref D) (.ref B) = some true
  y_k : ∀ nm ∈ (["NoColumns", "NoWishes", "NoNumber"] : List Str), ∀ nm2 ∈ (["NoColumns", "NoWishes", "NoNumber"] : List Str), ∀ D D2 : Addr, mg nm = some (.ref D) → mg nm2 = some (.ref D2) → PySem.W.kitOne K (.ref D) (.ref D2) = some (decide (nm = nm2))
structure Tbl (K : PySem.W.Frag) (mg : Str → Option Value) (base : Heap) : Prop where
  t__law_are_refused : TabAt K mg base "_law_are_refused" "_law_are_refused.<locals>.<lambda>"
  t_no : True
section
variable {P : Program} {w : World} {K : PySem.W.Frag} {mg : Str → Option Value} {base : Heap}
theorem sc__law_flow : FnScope ["script"] ["script"] (defScope s__law_flow) := ⟨rfl, rfl, rfl, by decide +kernel, rfl, by decide +kernel, by decide +kernel⟩
abbrev Ok__law_flow (P : Program) (w : World) (K : PySem.W.Frag) (mg : Str → Option Value) (base : Heap) : Prop := ∃ (f : Addr) (fd : FuncData), mg "_law_flow" = some (.ref f) ∧ Fun K "_law_flow" "_law_flow" s__law_flow f fd ∧ Binds K fd ["script"] [] ∧ GnOk P w K mg base (L2.CX P w) 1 f fd ["script"] (spF K mg 1 g__law_flow)
theorem ok__law_flow (T : Txt K mg) (U : Tbl K mg base) : Ok__law_flow P w K mg base := by
  obtain ⟨f, fd, hm, Fn⟩ := T.f__law_flow
  refine ⟨f, fd, hm, Fn, Fn.binds fun _ _ _ _ _ _ us hl => match us, hl with | [_], _ => rfl, fn_ok Fn sc__law_flow fun cdv A outer s H E hcv hr gd => ?_⟩
  have sc := sc__law_flow
  have hu := hr.units
  have hu1 := hu_of hr
  have tk : Takes (cxOf (L2.CX P w) P w K mg base ["script"] "_law_flow" (defScope s__law_flow) f cdv A outer s H E) (fun cls dd _ H => E cls dd H) := takes_of rfl rfl rfl rfl
  have hx : Passes (L2.CX P w) (cxOf (L2.CX P w) P w K mg base ["script"] "_law_flow" (defScope s__law_flow) f cdv A outer s H E) E := passes_call tk (fun _ _ _ _ z => z)
  exact ess_one (es_retO (eo_lst (el_cons (ev_eo (eo_callT cdo_list T.b_list rfl (ea_cons (ev_nb (pv 0)) (ea_nil)))) (el_cons (ev_int) (el_cons (ev_int) (el_cons (ev_int) (el_nil)))))))
theorem sc__law_draw : FnScope ["flow", "many", "left", "cell"] ["flow", "many"] (defScope s__law_draw) := ⟨rfl, rfl, rfl, by decide +kernel, rfl, by decide +kernel, by decide +kernel⟩
abbrev Ok__law_draw (P : Program) (w : World) (K : PySem.W.Frag) (mg : Str → Option Value) (base : Heap) : Prop := ∃ (f : Addr) (fd : FuncData), mg "_law_draw" = some (.ref f) ∧ Fun K "_law_draw" "_law_draw" s__law_draw f fd ∧ Binds K fd ["flow", "many"] [] ∧ GnOk P w K mg base (L2.CX P w) 1 f fd ["flow", "many"] (spF K mg 2 g__law_draw)
theorem ok__law_draw (T : Txt K mg) (U : Tbl K mg base) : Ok__law_draw P w K mg base := by
  obtain ⟨f, fd, hm, Fn⟩ := T.f__law_draw
  refine ⟨f, fd, hm, Fn, Fn.binds fun _ _ _ _ _ _ us hl => match us, hl with | [_, _], _ => rfl, fn_ok Fn sc__law_draw fun cdv A outer s H E hcv hr gd => ?_⟩
  have sc := sc__law_draw
  have hu := hr.units
  have hu1 := hu_of hr
  have tk : Takes (cxOf (L2.CX P w) P w K mg base ["flow", "many", "left", "cell"] "_law_draw" (defScope s__law_draw) f cdv A outer s H E) (fun cls dd _ H => E cls dd H) := takes_of rfl rfl rfl rfl
  have hx : Passes (L2.CX P w) (cxOf (L2.CX P w) P w K mg base ["flow", "many", "left", "cell"] "_law_draw" (defScope s__law_draw) f cdv A outer s H E) E := passes_call tk (fun _ _ _ _ z => z)
  exact ess_cons (es_if (et_cmp opD_gt (ev_be (ev_ixA hu1 (ev_nb (pv 0)) (ev_be (ev_int)))) (ev_be (ev_int))) (ess_cons (es_putN rfl hu1 (pv 0) (ev_int) (pg_name sc.nd rfl (Or.inl rfl)) (ev_tup (el_cons (ev_bin opD_fdiv (ev_be (ev_ixA hu1 (ev_nb (pv 0)) (ev_be (ev_int)))) (ev_nb (pv 1))) (el_cons (ev_ixA hu1 (ev_nb (pv 0)) (ev_be (ev_int))) (el_nil)))))
      (ess_one (es_ret (ev_bin opD_mod (ev_be (ev_callT cd_int T.b_int rfl (ea_cons (ev_nb (pv 2)) (ea_nil)))) (ev_nb (pv 1)))))) (ess_nil))
      (ess_cons (es_set (ps_set sc.nd rfl (Or.inl rfl) (ev_bin opD_mod (ev_be (ev_ixA hu1 (ev_nb (pv 0)) (ev_be (ev_int)))) (ev_be (ev_int)))))
      (ess_cons (es_if (et_cmp opD_lt (ev_be (ev_ixA hu1 (ev_nb (pv 0)) (ev_be (ev_int)))) (ev_be (ev_callB cd_len T.b_len rfl (ea_cons (ev_be (ev_ixA hu1 (ev_nb (pv 0)) (ev_be (ev_int)))) (ea_nil))))) (ess_one (es_set (ps_set sc.nd rfl (Or.inl rfl) (ev_ixA hu1 (ev_be (ev_ixA hu1 (ev_nb (pv 0)) (ev_be (ev_int)))) (ev_be (ev_ixA hu1 (ev_nb (pv 0)) (ev_be (ev_int)))))))) (ess_nil))
      (ess_cons (es_augPut hu1 (pv 0) (ev_int) (ev_int) opI_add)
      (ess_cons (es_if (et_cmp opD_ge (ev_nb (pv 3)) (ev_be (ev_bin opD_pow (ev_be (ev_int)) (ev_be (ev_int))))) (ess_cons (es_put hu1 (pv 0) (ev_int) (ev_bin opD_fdiv (ev_nb (pv 3)) (ev_nb (pv 1))))
      (ess_one (es_ret (ev_bin opD_mod (ev_be (ev_callT cd_int T.b_int rfl (ea_cons (ev_nb (pv 3)) (ea_nil)))) (ev_nb (pv 1)))))) (ess_nil))
      (ess_cons (es_put hu1 (pv 0) (ev_int) (ev_bin opD_mod (ev_be (ev_callT cd_int T.b_int rfl (ea_cons (ev_be (ev_bin opD_add (ev_be (ev_bin opD_add (ev_be (ev_bin opD_mulA (ev_be (ev_ixA hu1 (ev_nb (pv 0)) (ev_be (ev_int)))) (ev_be (ev_int)))) (ev_be (ev_bin opD_mod (ev_be (ev_callT cd_int T.b_int rfl (ea_cons (ev_nb (pv 3)) (ea_nil)))) (ev_be (ev_int)))))) (ev_be (ev_ixA hu1 (ev_nb (pv 0)) (ev_be (ev_int)))))) (ea_nil)))) (ev_be (ev_int))))
      (ess_one (es_ret (ev_bin opD_mod (ev_be (ev_callT cd_int T.b_int rfl (ea_cons (ev_be (ev_bin opD_fdiv (ev_be (ev_ixA hu1 (ev_nb (pv 0)) (ev_be (ev_int)))) (ev_be (ev_int)))) (ea_nil)))) (ev_nb (pv 1))))))))))
theorem sc__law_some : FnScope ["flow", "things"] ["flow", "things"] (defScope s__law_some) := ⟨rfl, rfl, rfl, by decide +kernel, rfl, by decide +kernel, by decide +kernel⟩
abbrev Ok__law_some (P : Program) (w : World) (K : PySem.W.Frag) (mg : Str → Option Value) (base : Heap) : Prop := ∃ (f : Addr) (fd : FuncData), mg "_law_some" = some (.ref f) ∧ Fun K "_law_some" "_law_some" s__law_some f fd ∧ Binds K fd ["flow", "things"] [] ∧ GnOk P w K mg base (L2.CX P w) 2 f fd ["flow", "things"] (spF K mg 2 g__law_some)
theorem ok__law_some (T : Txt K mg) (U : Tbl K mg base) : Ok__law_some P w K mg base := by
  obtain ⟨f, fd, hm, Fn⟩ := T.f__law_some
  obtain ⟨a__law_draw, fd__law_draw, m__law_draw, F__law_draw, B__law_draw, G__law_draw⟩ := ok__law_draw (P := P) (w := w) (base := base) T U
  refine ⟨f, fd, hm, Fn, Fn.binds fun _ _ _ _ _ _ us hl => match us, hl with | [_, _], _ => rfl, fn_ok Fn sc__law_some fun cdv A outer s H E hcv hr gd => ?_⟩
  have sc := sc__law_some
  have hu := hr.units
  have hu1 := hu_of hr
  have tk : Takes (cxOf (L2.CX P w) P w K mg base ["flow", "things"] "_law_some" (defScope s__law_some) f cdv A outer s H E) (fun cls dd _ H => E cls dd H) := takes_of rfl rfl rfl rfl
  have hx : Passes (L2.CX P w) (cxOf (L2.CX P w) P w K mg base ["flow", "things"] "_law_some" (defScope s__law_some) f cdv A outer s H E) E := passes_call tk (fun _ _ _ _ z => z)
  exact ess_one (es_ret (ev_ixA hu1 (ev_nb (pv 1)) (ev_be (ev_call G__law_draw (hr.mono (by decide)) gd m__law_draw F__law_draw.kp B__law_draw hx (ea_cons (ev_nb (pv 0)) (ea_cons (ev_be (ev_callB cd_len T.b_len rfl (ea_cons (ev_nb (pv 1)) (ea_nil)))) (ea_nil))) (alen_cons (alen_cons alen_nil))))))
theorem sc__law_word : FnScope ["call", "found", "error", "kinds", "words"] ["call"] (defScope s__law_word) := ⟨rfl, rfl, rfl, by decide +kernel, rfl, by decide +kernel, by decide +kernel⟩
theorem wd__law_word {X : Cx} (T : Txt X.K X.mg) (q : Str) (g : Addr) (cdv : Value) : Given X ["call", "found", "error", "kinds", "words"] "_law_word" (defScope s__law_word) g cdv (defBody s__law_word) "call" q (TTw X.K X.mg ans__law_word) := by
  have sc := sc__law_word
  obtain ⟨_, m_base⟩ := T.y_b
  obtain ⟨_, m_NoColumns⟩ := T.y_NoColumns
  obtain ⟨_, m_NoWishes⟩ := T.y_NoWishes
  obtain ⟨_, m_NoNumber⟩ := T.y_NoNumber
  exact word_given1 (i := 2) (names := ["NoColumns", "NoWishes", "NoNumber"]) (fs := fs__law_word) (fr := fr__law_word) sc.nd rfl rfl rfl m_base (by decide) (fun s H hr => by have hu := hr.units; have hu1 := hu_of hr; exact es_set (ps_set sc.nd rfl (Or.inl rfl) (ev_str))) (fun s H hr a oe Dc pn nm hn hD hz hf => by
    have hu := hr.units
    have hu1 := hu_of hr
    obtain ⟨hx0, hve⟩ := T.y_x nm (by simp only [List.mem_cons, List.not_mem_nil, or_false] at hn ⊢; first | exact hn | grind) Dc hD
    have kk_NoColumns := T.y_k nm (by simp only [List.mem_cons, List.not_mem_nil, or_false] at hn ⊢; first | exact hn | grind) "NoColumns" (by simp) Dc _ hD m_NoColumns
    have kk_NoWishes := T.y_k nm (by simp only [List.mem_cons, List.not_mem_nil, or_false] at hn ⊢; first | exact hn | grind) "NoWishes" (by simp) Dc _ hD m_NoWishes
    have kk_NoNumber := T.y_k nm (by simp only [List.mem_cons, List.not_mem_nil, or_false] at hn ⊢; first | exact hn | grind) "NoNumber" (by simp) Dc _ hD m_NoNumber
    exact ess_cons (es_setO (ps_set sc.nd rfl (Or.inl rfl) (eo_lst (el_cons (ev_isE hx0 hz hf T.b_isinstance rfl (Or.inl rfl) m_NoColumns kk_NoColumns) (el_cons (ev_isE hx0 hz hf T.b_isinstance rfl (Or.inl rfl) m_NoWishes kk_NoWishes) (el_cons (ev_isE hx0 hz hf T.b_isinstance rfl (Or.inl rfl) m_NoNumber kk_NoNumber) (el_nil)))))))
      (ess_cons (es_set (ps_set sc.nd rfl (Or.inl rfl) (ev_eo (eo_lst (el_cons (ev_str) (el_cons (ev_str) (el_cons (ev_str) (el_nil))))))))
      (ess_one (es_set (ps_set sc.nd rfl (Or.inl rfl) (ev_if (et_cmp (opD_eqA hu) (ev_be (ev_mut C.isL_ty PySem.F.plainAttrs_list PySem.F.slot_list_count PySem.F.type_list_count mut_count (pv 3) (el_cons (ev_bl) (el_nil)))) (ev_be (ev_int))) (ev_ixA hu1 (ev_nb (pv 4)) (ev_be (ev_mut C.isL_ty PySem.F.plainAttrs_list PySem.F.slot_list_index PySem.F.type_list_index mut_index (pv 3) (el_cons (ev_bl) (el_nil))))) (ev_str))))))) (fun s H hr => by have hu := hr.units; have hu1 := hu_of hr; exact ess_one (es_ret (ev_n (pv 1)))) (fun nm hn Dc hD => T.y_p nm (by simp only [List.mem_cons, List.not_mem_nil, or_false] at hn ⊢; first | exact hn | grind) Dc _ hD m_base) r1ok__law_word
    (fun d d2 h f => by cases h; exact runk__law_word f)
    (fun x d2 h => by
      obtain ⟨cls, fld⟩ := x
      cases fld with
      | some _ => cases h
      | none =>
        have h : tab__law_word cls = some d2 := h
        unfold tab__law_word at h
        by_cases q0 : cls = "NoColumns"
        · subst q0; simp at h; subst h; exact ⟨rfl, by simp, fun f a => run__law_word_NoColumns f a⟩
        rw [if_neg q0] at h
        by_cases q1 : cls = "NoWishes"
        · subst q1; simp at h; subst h; exact ⟨rfl, by simp, fun f a => run__law_word_NoWishes f a⟩
        rw [if_neg q1] at h
        by_cases q2 : cls = "NoNumber"
        · subst q2; simp at h; subst h; exact ⟨rfl, by simp, fun f a => run__law_word_NoNumber f a⟩
        rw [if_neg q2] at h
        cases h)
    rfl
theorem sc_is_integer : FnScope ["thing"] ["thing"] (defScope s_is_integer) := ⟨rfl, rfl, rfl, by decide +kernel, rfl, by decide +kernel, by decide +kernel⟩
abbrev Ok_is_integer (P : Program) (w : World) (K : PySem.W.Frag) (mg : Str → Option Value) (base : Heap) : Prop := ∃ (f : Addr) (fd : FuncData), mg "is_integer" = some (.ref f) ∧ Fun K "is_integer" "is_integer" s_is_integer f fd ∧ Binds K fd ["thing"] [] ∧ GnOk P w K mg base (L2.CX P w) 1 f fd ["thing"] (spF K mg 1 g_is_integer)
theorem ok_is_integer (T : Txt K mg) (U : Tbl K mg base) : Ok_is_integer P w K mg base := by
  obtain ⟨f, fd, hm, Fn⟩ := T.f_is_integer
  refine ⟨f, fd, hm, Fn, Fn.binds fun _ _ _ _ _ _ us hl => match us, hl with | [_], _ => rfl, fn_ok Fn sc_is_integer fun cdv A outer s H E hcv hr gd => ?_⟩
  have sc := sc_is_integer
  have hu := hr.units
  have hu1 := hu_of hr
  have tk : Takes (cxOf (L2.CX P w) P w K mg base ["thing"] "is_integer" (defScope s_is_integer) f cdv A outer s H E) (fun cls dd _ H => E cls dd H) := takes_of rfl rfl rfl rfl
  have hx : Passes (L2.CX P w) (cxOf (L2.CX P w) P w K mg base ["thing"] "is_integer" (defScope s_is_integer) f cdv A outer s H E) E := passes_call tk (fun _ _ _ _ z => z)
  exact ess_one (es_ret (ev_and (ev_isi T.b_isinstance (ev_nb (pv 0)) T.b_int rfl) (ev_one (ev_not (ev_isi T.b_isinstance (ev_nb (pv 0)) T.b_bool rfl)))))
theorem sc_is_within : FnScope ["thing", "least", "most"] ["thing", "least", "most"] (defScope s_is_within) := ⟨rfl, rfl, rfl, by decide +kernel, rfl, by decide +kernel, by decide +kernel⟩
abbrev Ok_is_within (P : Program) (w : World) (K : PySem.W.Frag) (mg : Str → Option Value) (base : Heap) : Prop := ∃ (f : Addr) (fd : FuncData), mg "is_within" = some (.ref f) ∧ Fun K "is_within" "is_within" s_is_within f fd ∧ Binds K fd ["thing", "least", "most"] [] ∧ GnOk P w K mg base (L2.CX P w) 2 f fd ["thing", "least", "most"] (spF K mg 3 g_is_within)
theorem ok_is_within (T : Txt K mg) (U : Tbl K mg base) : Ok_is_within P w K mg base := by
  obtain ⟨f, fd, hm, Fn⟩ := T.f_is_within
  obtain ⟨a_is_integer, fd_is_integer, m_is_integer, F_is_integer, B_is_integer, G_is_integer⟩ := ok_is_integer (P := P) (w := w) (base := base) T U
  refine ⟨f, fd, hm, Fn, Fn.binds fun _ _ _ _ _ _ us hl => match us, hl with | [_, _, _], _ => rfl, fn_ok Fn sc_is_within fun cdv A outer s H E hcv hr gd => ?_⟩
  have sc := sc_is_within
  have hu := hr.units
  have hu1 := hu_of hr
  have tk : Takes (cxOf (L2.CX P w) P w K mg base ["thing", "least", "most"] "is_within" (defScope s_is_within) f cdv A outer s H E) (fun cls dd _ H => E cls dd H) := takes_of rfl rfl rfl rfl
  have hx : Passes (L2.CX P w) (cxOf (L2.CX P w) P w K mg base ["thing", "least", "most"] "is_within" (defScope s_is_within) f cdv A outer s H E) E := passes_call tk (fun _ _ _ _ z => z)
  exact ess_one (es_ret (ev_and (ev_call G_is_integer (hr.mono (by decide)) gd m_is_integer F_is_integer.kp B_is_integer hx (ea_cons (ev_be (ev_n (pv 0))) (ea_nil)) (alen_cons alen_nil)) (ev_one (ev_chain opD_le opD_le (ev_nb (pv 1)) (ev_nb (pv 0)) (ev_nb (pv 2))))))
theorem sc_is_tuple_of : FnScope ["thing", "size"] ["thing", "size"] (defScope s_is_tuple_of) := ⟨rfl, rfl, rfl, by decide +kernel, rfl, by decide +kernel, by decide +kernel⟩
abbrev Ok_is_tuple_of (P : Program) (w : World) (K : PySem.W.Frag) (mg : Str → Option Value) (base : Heap) : Prop := ∃ (f : Addr) (fd : FuncData), mg "is_tuple_of" = some (.ref f) ∧ Fun K "is_tuple_of" "is_tuple_of" s_is_tuple_of f fd ∧ Binds K fd ["thing", "size"] [] ∧ GnOk P w K mg base (L2.CX P w) 1 f fd ["thing", "size"] (spF K mg 2 g_is_tuple_of)
theorem ok_is_tuple_of (T : Txt K mg) (U : Tbl K mg base) : Ok_is_tuple_of P w K mg base := by
  obtain ⟨f, fd, hm, Fn⟩ := T.f_is_tuple_of
  refine ⟨f, fd, hm, Fn, Fn.binds fun _ _ _ _ _ _ us hl => match us, hl with | [_, _], _ => rfl, fn_ok Fn sc_is_tuple_of fun cdv A outer s H E hcv hr gd => ?_⟩
  have sc := sc_is_tuple_of
  have hu := hr.units
  have hu1 := hu_of hr
  have tk : Takes (cxOf (L2.CX P w) P w K mg base ["thing", "size"] "is_tuple_of" (defScope s_is_tuple_of) f cdv A outer s H E) (fun cls dd _ H => E cls dd H) := takes_of rfl rfl rfl rfl
  have hx : Passes (L2.CX P w) (cxOf (L2.CX P w) P w K mg base ["thing", "size"] "is_tuple_of" (defScope s_is_tuple_of) f cdv A outer s H E) E := passes_call tk (fun _ _ _ _ z => z)
  exact ess_one (es_ret (ev_and (ev_isi T.b_isinstance (ev_nb (pv 0)) T.b_tuple rfl) (ev_one (ev_cmp (opD_eqA hu) (ev_be (ev_callB cd_len T.b_len rfl (ea_cons (ev_nb (pv 0)) (ea_nil)))) (ev_nb (pv 1))))))
theorem sc_is_wish : FnScope ["columns", "thing"] ["columns", "thing"] (defScope s_is_wish) := ⟨rfl, rfl, rfl, by decide +kernel, rfl, by decide +kernel, by decide +kernel⟩
abbrev Ok_is_wish (P : Program) (w : World) (K : PySem.W.Frag) (mg : Str → Option Value) (base : Heap) : Prop := ∃ (f : Addr) (fd : FuncData), mg "is_wish" = some (.ref f) ∧ Fun K "is_wish" "is_wish" s_is_wish f fd ∧ Binds K fd ["columns", "thing"] [] ∧ GnOk P w K mg base (L2.CX P w) 3 f fd ["columns", "thing"] (spF K mg 2 g_is_wish)
theorem ok_is_wish (T : Txt K mg) (U : Tbl K mg base) : Ok_is_wish P w K mg base := by
  obtain ⟨f, fd, hm, Fn⟩ := T.f_is_wish
  obtain ⟨a_is_tuple_of, fd_is_tuple_of, m_is_tuple_of, F_is_tuple_of, B_is_tuple_of, G_is_tuple_of⟩ := ok_is_tuple_of (P := P) (w := w) (base := base) T U
  obtain ⟨a_is_within, fd_is_within, m_is_within, F_is_within, B_is_within, G_is_within⟩ := ok_is_within (P := P) (w := w) (base := base) T U
  refine ⟨f, fd, hm, Fn, Fn.binds fun _ _ _ _ _ _ us hl => match us, hl with | [_, _], _ => rfl, fn_ok Fn sc_is_wish fun cdv A outer s H E hcv hr gd => ?_⟩
  have sc := sc_is_wish
  have hu := hr.units
  have hu1 := hu_of hr
  have hr65 := hu65_of hr
  have tk : Takes (cxOf (L2.CX P w) P w K mg base ["columns", "thing"] "is_wish" (defScope s_is_wish) f cdv A outer s H E) (fun cls dd _ H => E cls dd H) := takes_of rfl rfl rfl rfl
  have hx : Passes (L2.CX P w) (cxOf (L2.CX P w) P w K mg base ["columns", "thing"] "is_wish" (defScope s_is_wish) f cdv A outer s H E) E := passes_call tk (fun _ _ _ _ z => z)
  exact ess_cons (es_if (et_w (ew_or (et_not (et_val (ev_call G_is_tuple_of (hr.mono (by decide)) gd m_is_tuple_of F_is_tuple_of.kp B_is_tuple_of hx (ea_cons (ev_be (ev_n (pv 1))) (ea_cons (ev_be (ev_int)) (ea_nil))) (alen_cons (alen_cons alen_nil))))) (ew_or (et_not (et_val (ev_call G_is_within (hr.mono (by decide)) gd m_is_within F_is_within.kp B_is_within hx (ea_cons (ev_be (ev_ixA hu1 (ev_nb (pv 1)) (ev_be (ev_int)))) (ea_cons (ev_be (ev_int)) (ea_cons (ev_be (ev_bin opD_sub (ev_nb (pv 0)) (ev_be (ev_int)))) (ea_nil)))) (alen_cons (alen_cons (alen_cons alen_nil)))))) (ew_or1 (et_not (et_val (ev_call G_is_within (hr.mono (by decide)) gd m_is_within F_is_within.kp B_is_within hx (ea_cons (ev_be (ev_ixA hu1 (ev_nb (pv 1)) (ev_be (ev_int)))) (ea_cons (ev_be (ev_int)) (ea_cons (ev_be (ev_ixA hu1 (ev_nb (pv 1)) (ev_be (ev_int)))) (ea_nil)))) (alen_cons (alen_cons (alen_cons alen_nil)))))))))) (ess_one (es_ret (ev_bl))) (ess_nil))
      (ess_one (es_ret (ev_and (ev_isi T.b_isinstance (ev_be (ev_ixA hu1 (ev_nb (pv 1)) (ev_be (ev_int)))) T.b_str rfl) (ev_and (ev_cmp (opD_in hr65) (ev_be (ev_ixA hu1 (ev_nb (pv 1)) (ev_be (ev_int)))) (ev_be (ev_tup (el_cons (ev_glob (T.m_LEAST.choose_spec) (by exact ⟨_, rfl⟩) (fun _ => rfl)) (el_cons (ev_glob (T.m_MOST.choose_spec) (by exact ⟨_, rfl⟩) (fun _ => rfl)) (el_nil)))))) (ev_one (ev_call G_is_within (hr.mono (by decide)) gd m_is_within F_is_within.kp B_is_within hx (ea_cons (ev_be (ev_ixA hu1 (ev_nb (pv 1)) (ev_be (ev_int)))) (ea_cons (ev_be (ev_int)) (ea_cons (ev_be (ev_glob (T.m_MOST_WIDE.choose_spec) (by exact ⟨_, rfl⟩) (fun _ => rfl))) (ea_nil)))) (alen_cons (alen_cons (alen_cons alen_nil)))))))))
theorem sc_check_wishes : FnScope ["columns", "wishes", "wish"] ["columns", "wishes"] (defScope s_check_wishes) := ⟨rfl, rfl, rfl, by decide +kernel, rfl, by decide +kernel, by decide +kernel⟩
abbrev Ok_check_wishes (P : Program) (w : World) (K : PySem.W.Frag) (mg : Str → Option Value) (base : Heap) : Prop := ∃ (f : Addr) (fd : FuncData), mg "check_wishes" = some (.ref f) ∧ Fun K "check_wishes" "check_wishes" s_check_wishes f fd ∧ Binds K fd ["columns", "wishes"] [] ∧ GnOk P w K mg base (L2.CX P w) 4 f fd ["columns", "wishes"] (spF K mg 2 g_check_wishes)
theorem ok_check_wishes (T : Txt K mg) (U : Tbl K mg base) : Ok_check_wishes P w K mg base := by
  obtain ⟨f, fd, hm, Fn⟩ := T.f_check_wishes
  obtain ⟨a_is_within, fd_is_within, m_is_within, F_is_within, B_is_within, G_is_within⟩ := ok_is_within (P := P) (w := w) (base := base) T U
  obtain ⟨a_is_wish, fd_is_wish, m_is_wish, F_is_wish, B_is_wish, G_is_wish⟩ := ok_is_wish (P := P) (w := w) (base := base) T U
  obtain ⟨c_NoColumns, m_NoColumns, x_NoColumns, k_NoColumns, s_NoColumns, t_NoColumns⟩ := T.c_NoColumns
  obtain ⟨c_NoWishes, m_NoWishes, x_NoWishes, k_NoWishes, s_NoWishes, t_NoWishes⟩ := T.c_NoWishes
  refine ⟨f, fd, hm, Fn, Fn.binds fun _ _ _ _ _ _ us hl => match us, hl with | [_, _], _ => rfl, fn_ok Fn sc_check_wishes fun cdv A outer s H E hcv hr gd => ?_⟩
  have sc := sc_check_wishes
  have hu := hr.units
  have hu1 := hu_of hr
  have tk : Takes (cxOf (L2.CX P w) P w K mg base ["columns", "wishes", "wish"] "check_wishes" (defScope s_check_wishes) f cdv A outer s H E) (fun cls dd _ H => E cls dd H) := takes_of rfl rfl rfl rfl
  have hx : Passes (L2.CX P w) (cxOf (L2.CX P w) P w K mg base ["columns", "wishes", "wish"] "check_wishes" (defScope s_check_wishes) f cdv A outer s H E) E := passes_call tk (fun _ _ _ _ z => z)
  exact ess_cons (es_if (et_not (et_val (ev_call G_is_within (hr.mono (by decide)) gd m_is_within F_is_within.kp B_is_within hx (ea_cons (ev_be (ev_n (pv 0))) (ea_cons (ev_be (ev_int)) (ea_cons (ev_be (ev_glob (T.m_MOST_COLUMNS.choose_spec) (by exact ⟨_, rfl⟩) (fun _ => rfl))) (ea_nil)))) (alen_cons (alen_cons (alen_cons alen_nil)))))) (ess_one (es_raise0 rfl tk PySem.F.excBase_ValueError x_NoColumns m_NoColumns k_NoColumns (raises_own s_NoColumns t_NoColumns))) (ess_nil))
      (ess_cons (es_if (et_w (ew_or (et_not (et_val (ev_isi T.b_isinstance (ev_nb (pv 1)) T.b_tuple rfl))) (ew_or1 (et_cmp opD_gt (ev_be (ev_callB cd_len T.b_len rfl (ea_cons (ev_nb (pv 1)) (ea_nil)))) (ev_be (ev_glob (T.m_MOST_WISHES.choose_spec) (by exact ⟨_, rfl⟩) (fun _ => rfl))))))) (ess_one (es_raise0 rfl tk PySem.F.excBase_ValueError x_NoWishes m_NoWishes k_NoWishes (raises_own s_NoWishes t_NoWishes))) (ess_nil))
      (ess_one (es_if (et_not (et_val (ev_callB (cd_all rfl) T.b_all rfl (ea_cons (ev_be (ev_eo (eo_lc rfl sc.nd (own := [("wish", 2)]) (ei_seq (ev_n (pv 1))) (blkOk_by (N := ["columns", "wishes", "wish"]) (sc := defScope s_check_wishes) (own := [("wish", 2)]) (by decide +kernel)) (fun _ _ _ _ _ => eg_name (pg_name (i := 2) sc.nd rfl (Or.inl rfl))) (fun _ _ _ _ _ => ets_nil) (fun _ _ _ _ _ => ev_call G_is_wish (hr.mono (by decide)) gd m_is_wish F_is_wish.kp B_is_wish passEF (ea_cons (ev_be (ev_n (pv 0))) (ea_cons (ev_be (ev_n (pv 2))) (ea_nil))) (alen_cons (alen_cons alen_nil)))))) (ea_nil))))) (ess_one (es_raise0 rfl tk PySem.F.excBase_ValueError x_NoWishes m_NoWishes k_NoWishes (raises_own s_NoWishes t_NoWishes))) (ess_nil))))
theorem sc_spans : FnScope ["columns", "steps", "far", "came", "still", "turn", "step"] ["columns", "steps"] (defScope s_spans) := ⟨rfl, rfl, rfl, by decide +kernel, rfl, by decide +kernel, by decide +kernel⟩
abbrev Ok_spans (P : Program) (w : World) (K : PySem.W.Frag) (mg : Str → Option Value) (base : Heap) : Prop := ∃ (f : Addr) (fd : FuncData), mg "spans" = some (.ref f) ∧ Fun K "spans" "spans" s_spans f fd ∧ Binds K fd ["columns", "steps"] [] ∧ GnOk P w K mg base (L2.CX P w) 1 f fd ["columns", "steps"] (spF K mg 2 g_spans)
theorem ok_spans (T : Txt K mg) (U : Tbl K mg base) : Ok_spans P w K mg base := by
  obtain ⟨f, fd, hm, Fn⟩ := T.f_spans
  refine ⟨f, fd, hm, Fn, Fn.binds fun _ _ _ _ _ _ us hl => match us, hl with | [_, _], _ => rfl, fn_ok Fn sc_spans fun cdv A outer s H E hcv hr gd => ?_⟩
  have sc := sc_spans
  have hu := hr.units
  have hu1 := hu_of hr
  have tk : Takes (cxOf (L2.CX P w) P w K mg base ["columns", "steps", "far", "came", "still", "turn", "step"] "spans" (defScope s_spans) f cdv A outer s H E) (fun cls dd _ H => E cls dd H) := takes_of rfl rfl rfl rfl
  have hx : Passes (L2.CX P w) (cxOf (L2.CX P w) P w K mg base ["columns", "steps", "far", "came", "still", "turn", "step"] "spans" (defScope s_spans) f cdv A outer s H E) E := passes_call tk (fun _ _ _ _ z => z)
  exact ess_cons (es_par3 (fun ha => ps_par3 rfl sc.nd rfl rfl rfl (by decide) (by decide) (by decide) rfl rfl rfl ha rfl) (e2_o (eo_bin opO_rep (ev_be (ev_eo (eo_lst (el_cons (ev_int) (el_nil))))) (ev_be (ev_bin opD_add (ev_nb (pv 0)) (ev_be (ev_int))))) (e2_o (eo_bin opO_rep (ev_be (ev_eo (eo_lst (el_cons (ev_non) (el_nil))))) (ev_be (ev_bin opD_add (ev_nb (pv 0)) (ev_be (ev_int))))) (e2_v (ev_non) (e2_nil)))))
      (ess_cons (es_for (is := [5]) (passes_of rfl) rfl (ei_rg1 T.b_range (el_cons (ev_bin opD_add (ev_nb (pv 0)) (ev_be (ev_int))) (el_nil))) (eg_name (pg_name (i := 5) sc.nd rfl (Or.inl rfl))) (ess_cons (es_set (ps_set sc.nd rfl (Or.inl rfl) (ev_non)))
      (ess_cons (es_for (is := [6]) (passes_of rfl) rfl (ei_seq (ev_n (pv 1))) (eg_name (pg_name (i := 6) sc.nd rfl (Or.inl rfl))) (ess_one (es_if (et_cmp opD_gt (ev_be (ev_bin opD_add (ev_be (ev_ixA hu1 (ev_nb (pv 2)) (ev_be (ev_ixA hu1 (ev_nb (pv 6)) (ev_be (ev_int)))))) (ev_be (ev_ixA hu1 (ev_nb (pv 6)) (ev_be (ev_int)))))) (ev_be (ev_ixA hu1 (ev_nb (pv 2)) (ev_be (ev_ixA hu1 (ev_nb (pv 6)) (ev_be (ev_int))))))) (ess_cons (es_put hu1 (pv 2) (ev_ixA hu1 (ev_nb (pv 6)) (ev_be (ev_int))) (ev_bin opD_add (ev_be (ev_ixA hu1 (ev_nb (pv 2)) (ev_be (ev_ixA hu1 (ev_nb (pv 6)) (ev_be (ev_int)))))) (ev_be (ev_ixA hu1 (ev_nb (pv 6)) (ev_be (ev_int))))))
      (ess_cons (es_put hu1 (pv 3) (ev_ixA hu1 (ev_nb (pv 6)) (ev_be (ev_int))) (ev_n (pv 6)))
      (ess_one (es_set (ps_set sc.nd rfl (Or.inl rfl) (ev_ixA hu1 (ev_nb (pv 6)) (ev_be (ev_int)))))))) (ess_nil))))
      (ess_one (es_if (et_cmp opD_isB (ev_nb (pv 4)) (ev_be (ev_non))) (ess_one (es_ret (ev_tup (el_cons (ev_n (pv 2)) (el_cons (ev_n (pv 3)) (el_cons (ev_non) (el_nil))))))) (ess_nil))))))
      (ess_one (es_ret (ev_tup (el_cons (ev_n (pv 2)) (el_cons (ev_n (pv 3)) (el_cons (ev_n (pv 4)) (el_nil))))))))
theorem sc_steps_of : FnScope ["columns", "wishes", "found", "edge", "number", "first", "last", "way", "wide"] ["columns", "wishes"] (defScope s_steps_of) := ⟨rfl, rfl, rfl, by decide +kernel, rfl, by decide +kernel, by decide +kernel⟩
abbrev Ok_steps_of (P : Program) (w : World) (K : PySem.W.Frag) (mg : Str → Option Value) (base : Heap) : Prop := ∃ (f : Addr) (fd : FuncData), mg "steps_of" = some (.ref f) ∧ Fun K "steps_of" "steps_of" s_steps_of f fd ∧ Binds K fd ["columns", "wishes"] [] ∧ GnOk P w K mg base (L2.CX P w) 1 f fd ["columns", "wishes"] (spF K mg 2 g_steps_of)
theorem ok_steps_of (T : Txt K mg) (U : Tbl K mg base) : Ok_steps_of P w K mg base := by
  obtain ⟨f, fd, hm, Fn⟩ := T.f_steps_of
  refine ⟨f, fd, hm, Fn, Fn.binds fun _ _ _ _ _ _ us hl => match us, hl with | [_, _], _ => rfl, fn_ok Fn sc_steps_of fun cdv A outer s H E hcv hr gd => ?_⟩
  have sc := sc_steps_of
  have hu := hr.units
  have hu1 := hu_of hr
  have tk : Takes (cxOf (L2.CX P w) P w K mg base ["columns", "wishes", "found", "edge", "number", "first", "last", "way", "wide"] "steps_of" (defScope s_steps_of) f cdv A outer s H E) (fun cls dd _ H => E cls dd H) := takes_of rfl rfl rfl rfl
  have hx : Passes (L2.CX P w) (cxOf (L2.CX P w) P w K mg base ["columns", "wishes", "found", "edge", "number", "first", "last", "way", "wide"] "steps_of" (defScope s_steps_of) f cdv A outer s H E) E := passes_call tk (fun _ _ _ _ z => z)
  exact ess_cons (es_setO (es_setLc rfl sc.nd rfl rfl (sw_true rfl rfl rfl (by decide +kernel)) (own := [("edge", 3)]) (ei_rg1 T.b_range (el_cons (ev_n (pv 0)) (el_nil))) (blkOk_by (N := ["columns", "wishes", "found", "edge", "number", "first", "last", "way", "wide"]) (sc := defScope s_steps_of) (own := [("edge", 3)]) (by decide +kernel)) (fun _ _ _ _ _ => eg_name (pg_name (i := 3) sc.nd rfl (Or.inl rfl))) (fun _ _ _ _ _ => ets_nil) (fun _ _ _ _ _ => ev_tup (el_cons (ev_n (pv 3)) (el_cons (ev_bin opD_add (ev_nb (pv 3)) (ev_be (ev_int))) (el_cons (ev_int) (el_cons (ev_tup (el_cons (ev_glob (T.m_NONE.choose_spec) (by exact ⟨_, rfl⟩) (fun _ => rfl)) (el_cons (ev_n (pv 3)) (el_nil)))) (el_nil))))))))
      (ess_cons (es_for (is := [4, 5, 6, 7, 8]) (passes_of rfl) rfl (ei_enumA T.b_enumerate (ev_n (pv 1))) (eg_tupA rfl (egs_cons (eg_name (pg_name (i := 4) sc.nd rfl (Or.inl rfl))) (egs_cons (eg_tupA rfl (egs_cons (eg_name (pg_name (i := 5) sc.nd rfl (Or.inl rfl))) (egs_cons (eg_name (pg_name (i := 6) sc.nd rfl (Or.inl rfl))) (egs_cons (eg_name (pg_name (i := 7) sc.nd rfl (Or.inl rfl))) (egs_cons (eg_name (pg_name (i := 8) sc.nd rfl (Or.inl rfl))) (egs_nil)))))) (egs_nil)))) (ess_one (es_if (et_cmp (opD_eqA hu) (ev_nb (pv 7)) (ev_be (ev_glob (T.m_LEAST.choose_spec) (by exact ⟨_, rfl⟩) (fun _ => rfl)))) (ess_one (es_expr (ev_mut C.isL_ty PySem.F.plainAttrs_list PySem.F.slot_list_append PySem.F.type_list_append mut_append (pv 2) (el_cons (ev_tup (el_cons (ev_n (pv 5)) (el_cons (ev_bin opD_add (ev_nb (pv 6)) (ev_be (ev_int))) (el_cons (ev_n (pv 8)) (el_cons (ev_tup (el_cons (ev_glob (T.m_LEAST.choose_spec) (by exact ⟨_, rfl⟩) (fun _ => rfl)) (el_cons (ev_n (pv 4)) (el_nil)))) (el_nil)))))) (el_nil))))) (ess_one (es_expr (ev_mut C.isL_ty PySem.F.plainAttrs_list PySem.F.slot_list_append PySem.F.type_list_append mut_append (pv 2) (el_cons (ev_tup (el_cons (ev_bin opD_add (ev_nb (pv 6)) (ev_be (ev_int))) (el_cons (ev_n (pv 5)) (el_cons (ev_neg (ev_nb (pv 8))) (el_cons (ev_tup (el_cons (ev_glob (T.m_MOST.choose_spec) (by exact ⟨_, rfl⟩) (fun _ => rfl)) (el_cons (ev_n (pv 4)) (el_nil)))) (el_nil)))))) (el_nil))))))))
      (ess_one (es_retO (ev_no (pv 2)))))
theorem sc_raw_least : FnScope ["columns", "wishes", "far", "came", "still", "edge"] ["columns", "wishes"] (defScope s_raw_least) := ⟨rfl, rfl, rfl, by decide +kernel, rfl, by decide +kernel, by decide +kernel⟩
abbrev Ok_raw_least (P : Program) (w : World) (K : PySem.W.Frag) (mg : Str → Option Value) (base : Heap) : Prop := ∃ (f : Addr) (fd : FuncData), mg "raw_least" = some (.ref f) ∧ Fun K "raw_least" "raw_least" s_raw_least f fd ∧ Binds K fd ["columns", "wishes"] [] ∧ GnOk P w K mg base (L2.CX P w) 2 f fd ["columns", "wishes"] (spF K mg 2 g_raw_least)
theorem ok_raw_least (T : Txt K mg) (U : Tbl K mg base) : Ok_raw_least P w K mg base := by
  obtain ⟨f, fd, hm, Fn⟩ := T.f_raw_least
  obtain ⟨a_spans, fd_spans, m_spans, F_spans, B_spans, G_spans⟩ := ok_spans (P := P) (w := w) (base := base) T U
  obtain ⟨a_steps_of, fd_steps_of, m_steps_of, F_steps_of, B_steps_of, G_steps_of⟩ := ok_steps_of (P := P) (w := w) (base := base) T U
  refine ⟨f, fd, hm, Fn, Fn.binds fun _ _ _ _ _ _ us hl => match us, hl with | [_, _], _ => rfl, fn_ok Fn sc_raw_least fun cdv A outer s H E hcv hr gd => ?_⟩
  have sc := sc_raw_least
  have hu := hr.units
  have hu1 := hu_of hr
  have tk : Takes (cxOf (L2.CX P w) P w K mg base ["columns", "wishes", "far", "came", "still", "edge"] "raw_least" (defScope s_raw_least) f cdv A outer s H E) (fun cls dd _ H => E cls dd H) := takes_of rfl rfl rfl rfl
  have hx : Passes (L2.CX P w) (cxOf (L2.CX P w) P w K mg base ["columns", "wishes", "far", "came", "still", "edge"] "raw_least" (defScope s_raw_least) f cdv A outer s H E) E := passes_call tk (fun _ _ _ _ z => z)
  exact ess_cons (es_asg (is := [2, 3, 4]) (ev_call G_spans (hr.mono (by decide)) gd m_spans F_spans.kp B_spans hx (ea_cons (ev_be (ev_n (pv 0))) (ea_cons (ev_be (ev_eo (ev_callO G_steps_of (hr.mono (by decide)) gd m_steps_of F_steps_of.kp B_steps_of hx (ea_cons (ev_be (ev_n (pv 0))) (ea_cons (ev_be (ev_n (pv 1))) (ea_nil))) (alen_cons (alen_cons alen_nil))))) (ea_nil))) (alen_cons (alen_cons alen_nil))) (eg_tupA rfl (egs_cons (eg_name (pg_name (i := 2) sc.nd rfl (Or.inr rfl))) (egs_cons (eg_name (pg_name (i := 3) sc.nd rfl (Or.inl rfl))) (egs_cons (eg_name (pg_name (i := 4) sc.nd rfl (Or.inl rfl))) (egs_nil))))))
      (ess_cons (es_if (et_w (ew_or (et_cmp opD_notB (ev_nb (pv 4)) (ev_be (ev_non))) (ew_or1 (et_cmp opD_gt (ev_be (ev_ixA hu1 (ev_nb (pv 2)) (ev_be (ev_int)))) (ev_be (ev_int)))))) (ess_one (es_ret (ev_non))) (ess_nil))
      (ess_one (es_ret (ev_callT cd_tuple T.b_tuple rfl (ea_cons (ev_be (ev_eo (eo_lc rfl sc.nd (own := [("edge", 5)]) (ei_rg1 T.b_range (el_cons (ev_n (pv 0)) (el_nil))) (blkOk_by (N := ["columns", "wishes", "far", "came", "still", "edge"]) (sc := defScope s_raw_least) (own := [("edge", 5)]) (by decide +kernel)) (fun _ _ _ _ _ => eg_name (pg_name (i := 5) sc.nd rfl (Or.inl rfl))) (fun _ _ _ _ _ => ets_nil) (fun _ _ _ _ _ => ev_bin opD_sub (ev_be (ev_ixA hu1 (ev_nb (pv 2)) (ev_be (ev_bin opD_add (ev_nb (pv 5)) (ev_be (ev_int)))))) (ev_be (ev_ixA hu1 (ev_nb (pv 2)) (ev_nb (pv 5)))))))) (ea_nil))))))
theorem sc_spread_out : FnScope ["columns", "wishes", "total", "more"] ["columns", "wishes", "total"] (defScope s_spread_out) := ⟨rfl, rfl, rfl, by decide +kernel, rfl, by decide +kernel, by decide +kernel⟩
abbrev Ok_spread_out (P : Program) (w : World) (K : PySem.W.Frag) (mg : Str → Option Value) (base : Heap) : Prop := ∃ (f : Addr) (fd : FuncData), mg "spread_out" = some (.ref f) ∧ Fun K "spread_out" "spread_out" s_spread_out f fd ∧ Binds K fd ["columns", "wishes", "total"] [] ∧ GnOk P w K mg base (L2.CX P w) 5 f fd ["columns", "wishes", "total"] (spF K mg 3 g_spread_out)
theorem ok_spread_out (T : Txt K mg) (U : Tbl K mg base) : Ok_spread_out P w K mg base := by
  obtain ⟨f, fd, hm, Fn⟩ := T.f_spread_out
  obtain ⟨a_check_wishes, fd_check_wishes, m_check_wishes, F_check_wishes, B_check_wishes, G_check_wishes⟩ := ok_check_wishes (P := P) (w := w) (base := base) T U
  obtain ⟨a_is_within, fd_is_within, m_is_within, F_is_within, B_is_within, G_is_within⟩ := ok_is_within (P := P) (w := w) (base := base) T U
  obtain ⟨a_raw_least, fd_raw_least, m_raw_least, F_raw_least, B_raw_least, G_raw_least⟩ := ok_raw_least (P := P) (w := w) (base := base) T U
  obtain ⟨c_NoNumber, m_NoNumber, x_NoNumber, k_NoNumber, s_NoNumber, t_NoNumber⟩ := T.c_NoNumber
  refine ⟨f, fd, hm, Fn, Fn.binds fun _ _ _ _ _ _ us hl => match us, hl with | [_, _, _], _ => rfl, fn_ok Fn sc_spread_out fun cdv A outer s H E hcv hr gd => ?_⟩
  have sc := sc_spread_out
  have hu := hr.units
  have hu1 := hu_of hr
  have tk : Takes (cxOf (L2.CX P w) P w K mg base ["columns", "wishes", "total", "more"] "spread_out" (defScope s_spread_out) f cdv A outer s H E) (fun cls dd _ H => E cls dd H) := takes_of rfl rfl rfl rfl
  have hx : Passes (L2.CX P w) (cxOf (L2.CX P w) P w K mg base ["columns", "wishes", "total", "more"] "spread_out" (defScope s_spread_out) f cdv A outer s H E) E := passes_call tk (fun _ _ _ _ z => z)
  exact ess_cons (es_expr (ev_call G_check_wishes (hr.mono (by decide)) gd m_check_wishes F_check_wishes.kp B_check_wishes hx (ea_cons (ev_be (ev_n (pv 0))) (ea_cons (ev_be (ev_n (pv 1))) (ea_nil))) (alen_cons (alen_cons alen_nil))))
      (ess_cons (es_if (et_not (et_val (ev_call G_is_within (hr.mono (by decide)) gd m_is_within F_is_within.kp B_is_within hx (ea_cons (ev_be (ev_n (pv 2))) (ea_cons (ev_be (ev_int)) (ea_cons (ev_be (ev_glob (T.m_MOST_TOTAL.choose_spec) (by exact ⟨_, rfl⟩) (fun _ => rfl))) (ea_nil)))) (alen_cons (alen_cons (alen_cons alen_nil)))))) (ess_one (es_raise0 rfl tk PySem.F.excBase_ValueError x_NoNumber m_NoNumber k_NoNumber (raises_own s_NoNumber t_NoNumber))) (ess_nil))
      (ess_cons (es_set (ps_set sc.nd rfl (Or.inl rfl) (ev_tup (el_cons (ev_tup (el_cons (ev_int) (el_cons (ev_bin opD_sub (ev_nb (pv 0)) (ev_be (ev_int))) (el_cons (ev_glob (T.m_LEAST.choose_spec) (by exact ⟨_, rfl⟩) (fun _ => rfl)) (el_cons (ev_n (pv 2)) (el_nil)))))) (el_cons (ev_tup (el_cons (ev_int) (el_cons (ev_bin opD_sub (ev_nb (pv 0)) (ev_be (ev_int))) (el_cons (ev_glob (T.m_MOST.choose_spec) (by exact ⟨_, rfl⟩) (fun _ => rfl)) (el_cons (ev_n (pv 2)) (el_nil)))))) (el_nil))))))
      (ess_one (es_ret (ev_call G_raw_least (hr.mono (by decide)) gd m_raw_least F_raw_least.kp B_raw_least hx (ea_cons (ev_be (ev_n (pv 0))) (ea_cons (ev_be (ev_bin opD_add (ev_nb (pv 1)) (ev_nb (pv 3)))) (ea_nil))) (alen_cons (alen_cons alen_nil)))))))
theorem sc__law_are_refused : FnScope ["flow", "odd", "words"] ["flow"] (defScope s__law_are_refused) := ⟨rfl, rfl, rfl, by decide +kernel, rfl, by decide +kernel, by decide +kernel⟩
abbrev Ok__law_are_refused (P : Program) (w : World) (K : PySem.W.Frag) (mg : Str → Option Value) (base : Heap) : Prop := ∃ (f : Addr) (fd : FuncData), mg "_law_are_refused" = some (.ref f) ∧ Fun K "_law_are_refused" "_law_are_refused" s__law_are_refused f fd ∧ Binds K fd ["flow"] [] ∧ GnOk P w K mg base (L2.CX P w) 8 f fd ["flow"] (spF K mg 1 g__law_are_refused)
theorem ok__law_are_refused (T : Txt K mg) (U : Tbl K mg base) : Ok__law_are_refused P w K mg base := by
  obtain ⟨f, fd, hm, Fn⟩ := T.f__law_are_refused
  obtain ⟨a__law_some, fd__law_some, m__law_some, F__law_some, B__law_some, G__law_some⟩ := ok__law_some (P := P) (w := w) (base := base) T U
  obtain ⟨a_spread_out, fd_spread_out, m_spread_out, F_spread_out, B_spread_out, G_spread_out⟩ := ok_spread_out (P := P) (w := w) (base := base) T U
  obtain ⟨a__law_word, fd__law_word, m__law_word, Fn__law_word⟩ := T.f__law_word
  have Bn__law_word : Binds K fd__law_word ["call"] [] := Fn__law_word.binds fun _ _ _ _ _ _ us hl => match us, hl with | [_], _ => rfl
  refine ⟨f, fd, hm, Fn, Fn.binds fun _ _ _ _ _ _ us hl => match us, hl with | [_], _ => rfl, fn_ok Fn sc__law_are_refused fun cdv A outer s H E hcv hr gd => ?_⟩
  obtain ⟨c_tab, P_tab, rfl, TBt, hmTt, huTt⟩ := U.t__law_are_refused.get hm hcv
  have sc := sc__law_are_refused
  have hu := hr.units
  have hu1 := hu_of hr
  have tk : Takes (cxOf (L2.CX P w) P w K mg base ["flow", "odd", "words"] "_law_are_refused" (defScope s__law_are_refused) f (.ref c_tab) A outer s H E) (fun cls dd _ H => E cls dd H) := takes_of rfl rfl rfl rfl
  have hx : Passes (L2.CX P w) (cxOf (L2.CX P w) P w K mg base ["flow", "odd", "words"] "_law_are_refused" (defScope s__law_are_refused) f (.ref c_tab) A outer s H E) E := passes_call tk (fun _ _ _ _ z => z)
  exact ess_cons (es_set (ps_set sc.nd rfl (Or.inr rfl) (ev_call G__law_some (hr.mono (by decide)) gd m__law_some F__law_some.kp B__law_some hx (ea_cons (ev_nb (pv 0)) (ea_cons (ev_be (ev_eo (eo_lst (el_cons (ev_non) (el_cons (ev_neg (ev_be (ev_int))) (el_cons (ev_bin opD_add (ev_be (ev_bin opD_pow (ev_be (ev_int)) (ev_be (ev_int)))) (ev_be (ev_int))) (el_cons (ev_bl) (el_cons (ev_str) (el_cons (ev_tup (el_cons (ev_int) (el_nil))) (el_nil)))))))))) (ea_nil))) (alen_cons (alen_cons alen_nil)))))
      (ess_cons (es_setO (ps_set sc.nd rfl (Or.inl rfl) (eo_lst (el_cons (ev_word (k := 5) (nm := "_law_are_refused.<locals>.<lambda>") m__law_word gd Fn__law_word Bn__law_word sc__law_word rfl (Or.inl rfl) TBt rfl hmTt huTt rfl (fun cdv => wd__law_word T _ _ cdv) (hr.mono (by decide)) (show lamSB (defScope s__law_are_refused) _ = true from by decide +kernel) (fun A outer s H E f2 c2 hr gd => by have hu := hr.units; have hu1 := hu_of hr; exact ev_call G_spread_out (hr.mono (by decide)) gd m_spread_out F_spread_out.kp B_spread_out (passes_lam _ _ _ _ _ _ _ _) (ea_cons (ev_be (ev_int)) (ea_cons (ev_be (ev_non)) (ea_cons (ev_be (ev_n (pv 1))) (ea_nil)))) (alen_cons (alen_cons (alen_cons alen_nil))))) (el_nil)))))
      (ess_cons (es_expr (ev_mut C.isL_ty PySem.F.plainAttrs_list PySem.F.slot_list_append PySem.F.type_list_append mut_append (pv 2) (el_cons (ev_word (k := 5) (nm := "_law_are_refused.<locals>.<lambda>") m__law_word gd Fn__law_word Bn__law_word sc__law_word rfl (Or.inl rfl) TBt rfl hmTt huTt rfl (fun cdv => wd__law_word T _ _ cdv) (hr.mono (by decide)) (show lamSB (defScope s__law_are_refused) _ = true from by decide +kernel) (fun A outer s H E f2 c2 hr gd => by have hu := hr.units; have hu1 := hu_of hr; exact ev_call G_spread_out (hr.mono (by decide)) gd m_spread_out F_spread_out.kp B_spread_out (passes_lam _ _ _ _ _ _ _ _) (ea_cons (ev_be (ev_int)) (ea_cons (ev_be (ev_non)) (ea_cons (ev_be (ev_n (pv 1))) (ea_nil)))) (alen_cons (alen_cons (alen_cons alen_nil))))) (el_nil))))
      (ess_cons (es_expr (ev_mut C.isL_ty PySem.F.plainAttrs_list PySem.F.slot_list_append PySem.F.type_list_append mut_append (pv 2) (el_cons (ev_word (k := 5) (nm := "_law_are_refused.<locals>.<lambda>") m__law_word gd Fn__law_word Bn__law_word sc__law_word rfl (Or.inl rfl) TBt rfl hmTt huTt rfl (fun cdv => wd__law_word T _ _ cdv) (hr.mono (by decide)) (show lamSB (defScope s__law_are_refused) _ = true from by decide +kernel) (fun A outer s H E f2 c2 hr gd => by have hu := hr.units; have hu1 := hu_of hr; exact ev_call G_spread_out (hr.mono (by decide)) gd m_spread_out F_spread_out.kp B_spread_out (passes_lam _ _ _ _ _ _ _ _) (ea_cons (ev_be (ev_int)) (ea_cons (ev_be (ev_tup (el_nil))) (ea_cons (ev_be (ev_n (pv 1))) (ea_nil)))) (alen_cons (alen_cons (alen_cons alen_nil))))) (el_nil))))
      (ess_one (es_ret (ev_cmp (opD_eqA hu) (ev_nb (pv 2)) (ev_be (ev_eo (eo_lst (el_cons (ev_str) (el_cons (ev_str) (el_cons (ev_str) (el_nil)))))))))))))
theorem sc__law_kept_wishes : FnScope ["flow", "wide", "many", "found", "lap", "first", "last", "much", "slack"] ["flow", "wide", "many"] (defScope s__law_kept_wishes) := ⟨rfl, rfl, rfl, by decide +kernel, rfl, by decide +kernel, by decide +kernel⟩
abbrev Ok__law_kept_wishes (P : Program) (w : World) (K : PySem.W.Frag) (mg : Str → Option Value) (base : Heap) : Prop := ∃ (f : Addr) (fd : FuncData), mg "_law_kept_wishes" = some (.ref f) ∧ Fun K "_law_kept_wishes" "_law_kept_wishes" s__law_kept_wishes f fd ∧ Binds K fd ["flow", "wide", "many"] [] ∧ GnOk P w K mg base (L2.CX P w) 2 f fd ["flow", "wide", "many"] (spF K mg 3 g__law_kept_wishes)
theorem ok__law_kept_wishes (T : Txt K mg) (U : Tbl K mg base) : Ok__law_kept_wishes P w K mg base := by
  obtain ⟨f, fd, hm, Fn⟩ := T.f__law_kept_wishes
  obtain ⟨a__law_draw, fd__law_draw, m__law_draw, F__law_draw, B__law_draw, G__law_draw⟩ := ok__law_draw (P := P) (w := w) (base := base) T U
  refine ⟨f, fd, hm, Fn, Fn.binds fun _ _ _ _ _ _ us hl => match us, hl with | [_, _, _], _ => rfl, fn_ok Fn sc__law_kept_wishes fun cdv A outer s H E hcv hr gd => ?_⟩
  have sc := sc__law_kept_wishes
  have hu := hr.units
  have hu1 := hu_of hr
  have tk : Takes (cxOf (L2.CX P w) P w K mg base ["flow", "wide", "many", "found", "lap", "first", "last", "much", "slack"] "_law_kept_wishes" (defScope s__law_kept_wishes) f cdv A outer s H E) (fun cls dd _ H => E cls dd H) := takes_of rfl rfl rfl rfl
  have hx : Passes (L2.CX P w) (cxOf (L2.CX P w) P w K mg base ["flow", "wide", "many", "found", "lap", "first", "last", "much", "slack"] "_law_kept_wishes" (defScope s__law_kept_wishes) f cdv A outer s H E) E := passes_call tk (fun _ _ _ _ z => z)
  exact ess_cons (es_setO (ps_set sc.nd rfl (Or.inl rfl) (eo_lst (el_nil))))
      (ess_cons (es_for (is := [4]) (passes_of rfl) rfl (ei_rg1 T.b_range (el_cons (ev_n (pv 2)) (el_nil))) (eg_name (pg_name (i := 4) sc.nd rfl (Or.inl rfl))) (ess_cons (es_set (ps_set sc.nd rfl (Or.inl rfl) (ev_call G__law_draw (hr.mono (by decide)) gd m__law_draw F__law_draw.kp B__law_draw hx (ea_cons (ev_nb (pv 0)) (ea_cons (ev_be (ev_callB cd_len T.b_len rfl (ea_cons (ev_nb (pv 1)) (ea_nil)))) (ea_nil))) (alen_cons (alen_cons alen_nil)))))
      (ess_cons (es_set (ps_set sc.nd rfl (Or.inl rfl) (ev_bin opD_add (ev_nb (pv 5)) (ev_be (ev_call G__law_draw (hr.mono (by decide)) gd m__law_draw F__law_draw.kp B__law_draw hx (ea_cons (ev_nb (pv 0)) (ea_cons (ev_be (ev_bin opD_sub (ev_be (ev_callB cd_len T.b_len rfl (ea_cons (ev_nb (pv 1)) (ea_nil)))) (ev_nb (pv 5)))) (ea_nil))) (alen_cons (alen_cons alen_nil)))))))
      (ess_cons (es_par2 (fun ha => ps_par rfl sc.nd rfl rfl (by decide) rfl rfl ha rfl) (e2_v (ev_callB (cd_sum rfl) T.b_sum rfl (ea_cons (ev_be (ev_sl (ev_nb (pv 1)) (ep_s (ev_n (pv 5))) (ep_s (ev_bin opD_add (ev_nb (pv 6)) (ev_be (ev_int)))))) (ea_nil))) (e2_v (ev_call G__law_draw (hr.mono (by decide)) gd m__law_draw F__law_draw.kp B__law_draw hx (ea_cons (ev_nb (pv 0)) (ea_cons (ev_be (ev_int)) (ea_nil))) (alen_cons (alen_cons alen_nil))) (e2_nil))))
      (ess_one (es_if (et_cmp (opD_eqA hu) (ev_be (ev_call G__law_draw (hr.mono (by decide)) gd m__law_draw F__law_draw.kp B__law_draw hx (ea_cons (ev_nb (pv 0)) (ea_cons (ev_be (ev_int)) (ea_nil))) (alen_cons (alen_cons alen_nil)))) (ev_be (ev_int))) (ess_one (es_expr (ev_mut C.isL_ty PySem.F.plainAttrs_list PySem.F.slot_list_append PySem.F.type_list_append mut_append (pv 3) (el_cons (ev_tup (el_cons (ev_n (pv 5)) (el_cons (ev_n (pv 6)) (el_cons (ev_str) (el_cons (ev_callB (cd_max2 rfl) T.b_max rfl (ea_cons (ev_be (ev_int)) (ea_cons (ev_be (ev_bin opD_sub (ev_nb (pv 7)) (ev_nb (pv 8)))) (ea_nil)))) (el_nil)))))) (el_nil))))) (ess_one (es_expr (ev_mut C.isL_ty PySem.F.plainAttrs_list PySem.F.slot_list_append PySem.F.type_list_append mut_append (pv 3) (el_cons (ev_tup (el_cons (ev_n (pv 5)) (el_cons (ev_n (pv 6)) (el_cons (ev_str) (el_cons (ev_callB (cd_min2 rfl) T.b_min rfl (ea_cons (ev_be (ev_int)) (ea_cons (ev_be (ev_bin opD_add (ev_nb (pv 7)) (ev_nb (pv 8)))) (ea_nil)))) (el_nil)))))) (el_nil)))))))))))
      (ess_one (es_ret (ev_callT cd_tuple T.b_tuple rfl (ea_cons (ev_nb (pv 3)) (ea_nil))))))
theorem sc_least_widths : FnScope ["columns", "wishes"] ["columns", "wishes"] (defScope s_least_widths) := ⟨rfl, rfl, rfl, by decide +kernel, rfl, by decide +kernel, by decide +kernel⟩
abbrev Ok_least_widths (P : Program) (w : World) (K : PySem.W.Frag) (mg : Str → Option Value) (base : Heap) : Prop := ∃ (f : Addr) (fd : FuncData), mg "least_widths" = some (.ref f) ∧ Fun K "least_widths" "least_widths" s_least_widths f fd ∧ Binds K fd ["columns", "wishes"] [] ∧ GnOk P w K mg base (L2.CX P w) 5 f fd ["columns", "wishes"] (spF K mg 2 g_least_widths)
theorem ok_least_widths (T : Txt K mg) (U : Tbl K mg base) : Ok_least_widths P w K mg base := by
  obtain ⟨f, fd, hm, Fn⟩ := T.f_least_widths
  obtain ⟨a_check_wishes, fd_check_wishes, m_check_wishes, F_check_wishes, B_check_wishes, G_check_wishes⟩ := ok_check_wishes (P := P) (w := w) (base := base) T U
  obtain ⟨a_raw_least, fd_raw_least, m_raw_least, F_raw_least, B_raw_least, G_raw_least⟩ := ok_raw_least (P := P) (w := w) (base := base) T U
  refine ⟨f, fd, hm, Fn, Fn.binds fun _ _ _ _ _ _ us hl => match us, hl with | [_, _], _ => rfl, fn_ok Fn sc_least_widths fun cdv A outer s H E hcv hr gd => ?_⟩
  have sc := sc_least_widths
  have hu := hr.units
  have hu1 := hu_of hr
  have tk : Takes (cxOf (L2.CX P w) P w K mg base ["columns", "wishes"] "least_widths" (defScope s_least_widths) f cdv A outer s H E) (fun cls dd _ H => E cls dd H) := takes_of rfl rfl rfl rfl
  have hx : Passes (L2.CX P w) (cxOf (L2.CX P w) P w K mg base ["columns", "wishes"] "least_widths" (defScope s_least_widths) f cdv A outer s H E) E := passes_call tk (fun _ _ _ _ z => z)
  exact ess_cons (es_expr (ev_call G_check_wishes (hr.mono (by decide)) gd m_check_wishes F_check_wishes.kp B_check_wishes hx (ea_cons (ev_be (ev_n (pv 0))) (ea_cons (ev_be (ev_n (pv 1))) (ea_nil))) (alen_cons (alen_cons alen_nil))))
      (ess_one (es_ret (ev_call G_raw_least (hr.mono (by decide)) gd m_raw_least F_raw_least.kp B_raw_least hx (ea_cons (ev_be (ev_n (pv 0))) (ea_cons (ev_be (ev_n (pv 1))) (ea_nil))) (alen_cons (alen_cons alen_nil)))))
theorem sc__law_sums : FnScope ["wide", "at"] ["wide"] (defScope s__law_sums) := ⟨rfl, rfl, rfl, by decide +kernel, rfl, by decide +kernel, by decide +kernel⟩
abbrev Ok__law_sums (P : Program) (w : World) (K : PySem.W.Frag) (mg : Str → Option Value) (base : Heap) : Prop := ∃ (f : Addr) (fd : FuncData), mg "_law_sums" = some (.ref f) ∧ Fun K "_law_sums" "_law_sums" s__law_sums f fd ∧ Binds K fd ["wide"] [] ∧ GnOk P w K mg base (L2.CX P w) 1 f fd ["wide"] (spF K mg 1 g__law_sums)
theorem ok__law_sums (T : Txt K mg) (U : Tbl K mg base) : Ok__law_sums P w K mg base := by
  obtain ⟨f, fd, hm, Fn⟩ := T.f__law_sums
  refine ⟨f, fd, hm, Fn, Fn.binds fun _ _ _ _ _ _ us hl => match us, hl with | [_], _ => rfl, fn_ok Fn sc__law_sums fun cdv A outer s H E hcv hr gd => ?_⟩
  have sc := sc__law_sums
  have hu := hr.units
  have hu1 := hu_of hr
  have tk : Takes (cxOf (L2.CX P w) P w K mg base ["wide", "at"] "_law_sums" (defScope s__law_sums) f cdv A outer s H E) (fun cls dd _ H => E cls dd H) := takes_of rfl rfl rfl rfl
  have hx : Passes (L2.CX P w) (cxOf (L2.CX P w) P w K mg base ["wide", "at"] "_law_sums" (defScope s__law_sums) f cdv A outer s H E) E := passes_call tk (fun _ _ _ _ z => z)
  exact ess_one (es_retO (eo_lc rfl sc.nd (own := [("at", 1)]) (ei_rg1 T.b_range (el_cons (ev_callB cd_len T.b_len rfl (ea_cons (ev_nb (pv 0)) (ea_nil))) (el_nil))) (blkOk_by (N := ["wide", "at"]) (sc := defScope s__law_sums) (own := [("at", 1)]) (by decide +kernel)) (fun _ _ _ _ _ => eg_name (pg_name (i := 1) sc.nd rfl (Or.inl rfl))) (fun _ _ _ _ _ => ets_nil) (fun _ _ _ _ _ => ev_callB (cd_sum rfl) T.b_sum rfl (ea_cons (ev_be (ev_sl (ev_nb (pv 0)) (ep_n) (ep_s (ev_bin opD_add (ev_nb (pv 1)) (ev_be (ev_int)))))) (ea_nil)))))
theorem sc__law_is_below : FnScope ["one", "other", "first", "second"] ["one", "other"] (defScope s__law_is_below) := ⟨rfl, rfl, rfl, by decide +kernel, rfl, by decide +kernel, by decide +kernel⟩
abbrev Ok__law_is_below (P : Program) (w : World) (K : PySem.W.Frag) (mg : Str → Option Value) (base : Heap) : Prop := ∃ (f : Addr) (fd : FuncData), mg "_law_is_below" = some (.ref f) ∧ Fun K "_law_is_below" "_law_is_below" s__law_is_below f fd ∧ Binds K fd ["one", "other"] [] ∧ GnOk P w K mg base (L2.CX P w) 2 f fd ["one", "other"] (spF K mg 2 g__law_is_below)
theorem ok__law_is_below (T : Txt K mg) (U : Tbl K mg base) : Ok__law_is_below P w K mg base := by
  obtain ⟨f, fd, hm, Fn⟩ := T.f__law_is_below
  obtain ⟨a__law_sums, fd__law_sums, m__law_sums, F__law_sums, B__law_sums, G__law_sums⟩ := ok__law_sums (P := P) (w := w) (base := base) T U
  refine ⟨f, fd, hm, Fn, Fn.binds fun _ _ _ _ _ _ us hl => match us, hl with | [_, _], _ => rfl, fn_ok Fn sc__law_is_below fun cdv A outer s H E hcv hr gd => ?_⟩
  have sc := sc__law_is_below
  have hu := hr.units
  have hu1 := hu_of hr
  have tk : Takes (cxOf (L2.CX P w) P w K mg base ["one", "other", "first", "second"] "_law_is_below" (defScope s__law_is_below) f cdv A outer s H E) (fun cls dd _ H => E cls dd H) := takes_of rfl rfl rfl rfl
  have hx : Passes (L2.CX P w) (cxOf (L2.CX P w) P w K mg base ["one", "other", "first", "second"] "_law_is_below" (defScope s__law_is_below) f cdv A outer s H E) E := passes_call tk (fun _ _ _ _ z => z)
  exact ess_one (es_ret (ev_callB (cd_all rfl) T.b_all rfl (ea_cons (ev_be (ev_eo (eo_lc rfl sc.nd (own := [("first", 2), ("second", 3)]) (ei_zip T.b_zip (el_cons (ev_eo (ev_callO G__law_sums (hr.mono (by decide)) gd m__law_sums F__law_sums.kp B__law_sums hx (ea_cons (ev_be (ev_n (pv 0))) (ea_nil)) (alen_cons alen_nil))) (el_cons (ev_eo (ev_callO G__law_sums (hr.mono (by decide)) gd m__law_sums F__law_sums.kp B__law_sums hx (ea_cons (ev_be (ev_n (pv 1))) (ea_nil)) (alen_cons alen_nil))) (el_nil)))) (blkOk_by (N := ["one", "other", "first", "second"]) (sc := defScope s__law_is_below) (own := [("first", 2), ("second", 3)]) (by decide +kernel)) (fun _ _ _ _ _ => eg_tupA rfl (egs_cons (eg_name (pg_name (i := 2) sc.nd rfl (Or.inl rfl))) (egs_cons (eg_name (pg_name (i := 3) sc.nd rfl (Or.inl rfl))) (egs_nil)))) (fun _ _ _ _ _ => ets_nil) (fun _ _ _ _ _ => ev_cmp opD_le (ev_nb (pv 2)) (ev_nb (pv 3)))))) (ea_nil))))
theorem sc_does_keep : FnScope ["widths", "wish", "total"] ["widths", "wish"] (defScope s_does_keep) := ⟨rfl, rfl, rfl, by decide +kernel, rfl, by decide +kernel, by decide +kernel⟩
abbrev Ok_does_keep (P : Program) (w : World) (K : PySem.W.Frag) (mg : Str → Option Value) (base : Heap) : Prop := ∃ (f : Addr) (fd : FuncData), mg "does_keep" = some (.ref f) ∧ Fun K "does_keep" "does_keep" s_does_keep f fd ∧ Binds K fd ["widths", "wish"] [] ∧ GnOk P w K mg base (L2.CX P w) 1 f fd ["widths", "wish"] (spF K mg 2 g_does_keep)
theorem ok_does_keep (T : Txt K mg) (U : Tbl K mg base) : Ok_does_keep P w K mg base := by
  obtain ⟨f, fd, hm, Fn⟩ := T.f_does_keep
  refine ⟨f, fd, hm, Fn, Fn.binds fun _ _ _ _ _ _ us hl => match us, hl with | [_, _], _ => rfl, fn_ok Fn sc_does_keep fun cdv A outer s H E hcv hr gd => ?_⟩
  have sc := sc_does_keep
  have hu := hr.units
  have hu1 := hu_of hr
  have tk : Takes (cxOf (L2.CX P w) P w K mg base ["widths", "wish", "total"] "does_keep" (defScope s_does_keep) f cdv A outer s H E) (fun cls dd _ H => E cls dd H) := takes_of rfl rfl rfl rfl
  have hx : Passes (L2.CX P w) (cxOf (L2.CX P w) P w K mg base ["widths", "wish", "total"] "does_keep" (defScope s_does_keep) f cdv A outer s H E) E := passes_call tk (fun _ _ _ _ z => z)
  exact ess_cons (es_set (ps_set sc.nd rfl (Or.inl rfl) (ev_callB (cd_sum rfl) T.b_sum rfl (ea_cons (ev_be (ev_sl (ev_nb (pv 0)) (ep_s (ev_ixA hu1 (ev_nb (pv 1)) (ev_be (ev_int)))) (ep_s (ev_bin opD_add (ev_be (ev_ixA hu1 (ev_nb (pv 1)) (ev_be (ev_int)))) (ev_be (ev_int)))))) (ea_nil)))))
      (ess_one (es_ret (ev_if (et_cmp (opD_eqA hu) (ev_be (ev_ixA hu1 (ev_nb (pv 1)) (ev_be (ev_int)))) (ev_be (ev_glob (T.m_LEAST.choose_spec) (by exact ⟨_, rfl⟩) (fun _ => rfl)))) (ev_cmp opD_ge (ev_nb (pv 2)) (ev_be (ev_ixA hu1 (ev_nb (pv 1)) (ev_be (ev_int))))) (ev_cmp opD_le (ev_nb (pv 2)) (ev_be (ev_ixA hu1 (ev_nb (pv 1)) (ev_be (ev_int))))))))
theorem sc_raw_is_widths : FnScope ["columns", "wishes", "thing", "one", "wish"] ["columns", "wishes", "thing"] (defScope s_raw_is_widths) := ⟨rfl, rfl, rfl, by decide +kernel, rfl, by decide +kernel, by decide +kernel⟩
abbrev Ok_raw_is_widths (P : Program) (w : World) (K : PySem.W.Frag) (mg : Str → Option Value) (base : Heap) : Prop := ∃ (f : Addr) (fd : FuncData), mg "raw_is_widths" = some (.ref f) ∧ Fun K "raw_is_widths" "raw_is_widths" s_raw_is_widths f fd ∧ Binds K fd ["columns", "wishes", "thing"] [] ∧ GnOk P w K mg base (L2.CX P w) 3 f fd ["columns", "wishes", "thing"] (spF K mg 3 g_raw_is_widths)
theorem ok_raw_is_widths (T : Txt K mg) (U : Tbl K mg base) : Ok_raw_is_widths P w K mg base := by
  obtain ⟨f, fd, hm, Fn⟩ := T.f_raw_is_widths
  obtain ⟨a_is_within, fd_is_within, m_is_within, F_is_within, B_is_within, G_is_within⟩ := ok_is_within (P := P) (w := w) (base := base) T U
  obtain ⟨a_does_keep, fd_does_keep, m_does_keep, F_does_keep, B_does_keep, G_does_keep⟩ := ok_does_keep (P := P) (w := w) (base := base) T U
  refine ⟨f, fd, hm, Fn, Fn.binds fun _ _ _ _ _ _ us hl => match us, hl with | [_, _, _], _ => rfl, fn_ok Fn sc_raw_is_widths fun cdv A outer s H E hcv hr gd => ?_⟩
  have sc := sc_raw_is_widths
  have hu := hr.units
  have hu1 := hu_of hr
  have tk : Takes (cxOf (L2.CX P w) P w K mg base ["columns", "wishes", "thing", "one", "wish"] "raw_is_widths" (defScope s_raw_is_widths) f cdv A outer s H E) (fun cls dd _ H => E cls dd H) := takes_of rfl rfl rfl rfl
  have hx : Passes (L2.CX P w) (cxOf (L2.CX P w) P w K mg base ["columns", "wishes", "thing", "one", "wish"] "raw_is_widths" (defScope s_raw_is_widths) f cdv A outer s H E) E := passes_call tk (fun _ _ _ _ z => z)
  exact ess_cons (es_if (et_w (ew_or (et_not (et_val (ev_isi T.b_isinstance (ev_nb (pv 2)) T.b_tuple rfl))) (ew_or1 (et_cmp (opD_neA hu) (ev_be (ev_callB cd_len T.b_len rfl (ea_cons (ev_nb (pv 2)) (ea_nil)))) (ev_nb (pv 0)))))) (ess_one (es_ret (ev_bl))) (ess_nil))
      (ess_cons (es_if (et_not (et_val (ev_callB (cd_all rfl) T.b_all rfl (ea_cons (ev_be (ev_eo (eo_lc rfl sc.nd (own := [("one", 3)]) (ei_seq (ev_n (pv 2))) (blkOk_by (N := ["columns", "wishes", "thing", "one", "wish"]) (sc := defScope s_raw_is_widths) (own := [("one", 3)]) (by decide +kernel)) (fun _ _ _ _ _ => eg_name (pg_name (i := 3) sc.nd rfl (Or.inl rfl))) (fun _ _ _ _ _ => ets_nil) (fun _ _ _ _ _ => ev_call G_is_within (hr.mono (by decide)) gd m_is_within F_is_within.kp B_is_within passEF (ea_cons (ev_be (ev_n (pv 3))) (ea_cons (ev_be (ev_int)) (ea_cons (ev_be (ev_n (pv 3))) (ea_nil)))) (alen_cons (alen_cons (alen_cons alen_nil))))))) (ea_nil))))) (ess_one (es_ret (ev_bl))) (ess_nil))
      (ess_one (es_ret (ev_callB (cd_all rfl) T.b_all rfl (ea_cons (ev_be (ev_eo (eo_lc rfl sc.nd (own := [("wish", 4)]) (ei_seq (ev_n (pv 1))) (blkOk_by (N := ["columns", "wishes", "thing", "one", "wish"]) (sc := defScope s_raw_is_widths) (own := [("wish", 4)]) (by decide +kernel)) (fun _ _ _ _ _ => eg_name (pg_name (i := 4) sc.nd rfl (Or.inl rfl))) (fun _ _ _ _ _ => ets_nil) (fun _ _ _ _ _ => ev_call G_does_keep (hr.mono (by decide)) gd m_does_keep F_does_keep.kp B_does_keep passEF (ea_cons (ev_be (ev_n (pv 2))) (ea_cons (ev_be (ev_n (pv 4))) (ea_nil))) (alen_cons (alen_cons alen_nil)))))) (ea_nil))))))
theorem sc_is_widths : FnScope ["columns", "wishes", "thing"] ["columns", "wishes", "thing"] (defScope s_is_widths) := ⟨rfl, rfl, rfl, by decide +kernel, rfl, by decide +kernel, by decide +kernel⟩
abbrev Ok_is_widths (P : Program) (w : World) (K : PySem.W.Frag) (mg : Str → Option Value) (base : Heap) : Prop := ∃ (f : Addr) (fd : FuncData), mg "is_widths" = some (.ref f) ∧ Fun K "is_widths" "is_widths" s_is_widths f fd ∧ Binds K fd ["columns", "wishes", "thing"] [] ∧ GnOk P w K mg base (L2.CX P w) 5 f fd ["columns", "wishes", "thing"] (spF K mg 3 g_is_widths)
theorem ok_is_widths (T : Txt K mg) (U : Tbl K mg base) : Ok_is_widths P w K mg base := by
  obtain ⟨f, fd, hm, Fn⟩ := T.f_is_widths
  obtain ⟨a_check_wishes, fd_check_wishes, m_check_wishes, F_check_wishes, B_check_wishes, G_check_wishes⟩ := ok_check_wishes (P := P) (w := w) (base := base) T U
  obtain ⟨a_raw_is_widths, fd_raw_is_widths, m_raw_is_widths, F_raw_is_widths, B_raw_is_widths, G_raw_is_widths⟩ := ok_raw_is_widths (P := P) (w := w) (base := base) T U
  refine ⟨f, fd, hm, Fn, Fn.binds fun _ _ _ _ _ _ us hl => match us, hl with | [_, _, _], _ => rfl, fn_ok Fn sc_is_widths fun cdv A outer s H E hcv hr gd => ?_⟩
  have sc := sc_is_widths
  have hu := hr.units
  have hu1 := hu_of hr
  have tk : Takes (cxOf (L2.CX P w) P w K mg base ["columns", "wishes", "thing"] "is_widths" (defScope s_is_widths) f cdv A outer s H E) (fun cls dd _ H => E cls dd H) := takes_of rfl rfl rfl rfl
  have hx : Passes (L2.CX P w) (cxOf (L2.CX P w) P w K mg base ["columns", "wishes", "thing"] "is_widths" (defScope s_is_widths) f cdv A outer s H E) E := passes_call tk (fun _ _ _ _ z => z)
  exact ess_cons (es_expr (ev_call G_check_wishes (hr.mono (by decide)) gd m_check_wishes F_check_wishes.kp B_check_wishes hx (ea_cons (ev_be (ev_n (pv 0))) (ea_cons (ev_be (ev_n (pv 1))) (ea_nil))) (alen_cons (alen_cons alen_nil))))
      (ess_one (es_ret (ev_call G_raw_is_widths (hr.mono (by decide)) gd m_raw_is_widths F_raw_is_widths.kp B_raw_is_widths hx (ea_cons (ev_be (ev_n (pv 0))) (ea_cons (ev_be (ev_n (pv 1))) (ea_cons (ev_be (ev_n (pv 2))) (ea_nil)))) (alen_cons (alen_cons (alen_cons alen_nil))))))
theorem sc_closed_ring : FnScope ["came", "edge", "here", "found"] ["came", "edge"] (defScope s_closed_ring) := ⟨rfl, rfl, rfl, by decide +kernel, rfl, by decide +kernel, by decide +kernel⟩
abbrev Ok_closed_ring (P : Program) (w : World) (K : PySem.W.Frag) (mg : Str → Option Value) (base : Heap) : Prop := ∃ (f : Addr) (fd : FuncData), mg "closed_ring" = some (.ref f) ∧ Fun K "closed_ring" "closed_ring" s_closed_ring f fd ∧ Binds K fd ["came", "edge"] [] ∧ GnOk P w K mg base (L2.CX P w) 1 f fd ["came", "edge"] (spF K mg 2 g_closed_ring)
theorem ok_closed_ring (T : Txt K mg) (U : Tbl K mg base) : Ok_closed_ring P w K mg base := by
  obtain ⟨f, fd, hm, Fn⟩ := T.f_closed_ring
  refine ⟨f, fd, hm, Fn, Fn.binds fun _ _ _ _ _ _ us hl => match us, hl with | [_, _], _ => rfl, fn_ok Fn sc_closed_ring fun cdv A outer s H E hcv hr gd => ?_⟩
  have sc := sc_closed_ring
  have hu := hr.units
  have hu1 := hu_of hr
  have tk : Takes (cxOf (L2.CX P w) P w K mg base ["came", "edge", "here", "found"] "closed_ring" (defScope s_closed_ring) f cdv A outer s H E) (fun cls dd _ H => E cls dd H) := takes_of rfl rfl rfl rfl
  have hx : Passes (L2.CX P w) (cxOf (L2.CX P w) P w K mg base ["came", "edge", "here", "found"] "closed_ring" (defScope s_closed_ring) f cdv A outer s H E) E := passes_call tk (fun _ _ _ _ z => z)
  exact ess_cons (es_par2 (fun ha => ps_par rfl sc.nd rfl rfl (by decide) rfl rfl ha rfl) (e2_v (ev_n (pv 1)) (e2_o (eo_lst (el_nil)) (e2_nil))))
      (ess_cons (es_while (passes_of rfl) (et_w (ew_and (et_cmp opD_notB (ev_be (ev_ixA hu1 (ev_nb (pv 0)) (ev_nb (pv 2)))) (ev_be (ev_non))) (ew_and1 (et_cmp opD_le (ev_be (ev_callB cd_len T.b_len rfl (ea_cons (ev_nb (pv 3)) (ea_nil)))) (ev_be (ev_callB cd_len T.b_len rfl (ea_cons (ev_nb (pv 0)) (ea_nil)))))))) (ess_cons (es_expr (ev_mut C.isL_ty PySem.F.plainAttrs_list PySem.F.slot_list_append PySem.F.type_list_append mut_append (pv 3) (el_cons (ev_ixA hu1 (ev_nb (pv 0)) (ev_nb (pv 2))) (el_nil))))
      (ess_cons (es_set (ps_set sc.nd rfl (Or.inl rfl) (ev_ixA hu1 (ev_be (ev_ixA hu1 (ev_nb (pv 0)) (ev_nb (pv 2)))) (ev_be (ev_int)))))
      (ess_one (es_if (et_cmp (opD_eqA hu) (ev_nb (pv 2)) (ev_nb (pv 1))) (ess_one (es_ret (ev_rev (ev_nb (pv 3))))) (ess_nil))))))
      (ess_one (es_ret (ev_non))))
theorem sc_clash : FnScope ["columns", "wishes", "steps", "far", "came", "turn", "step", "ring", "one"] ["columns", "wishes"] (defScope s_clash) := ⟨rfl, rfl, rfl, by decide +kernel, rfl, by decide +kernel, by decide +kernel⟩
abbrev Ok_clash (P : Program) (w : World) (K : PySem.W.Frag) (mg : Str → Option Value) (base : Heap) : Prop := ∃ (f : Addr) (fd : FuncData), mg "clash" = some (.ref f) ∧ Fun K "clash" "clash" s_clash f fd ∧ Binds K fd ["columns", "wishes"] [] ∧ GnOk P w K mg base (L2.CX P w) 5 f fd ["columns", "wishes"] (spF K mg 2 g_clash)
theorem ok_clash (T : Txt K mg) (U : Tbl K mg base) : Ok_clash P w K mg base := by
  obtain ⟨f, fd, hm, Fn⟩ := T.f_clash
  obtain ⟨a_check_wishes, fd_check_wishes, m_check_wishes, F_check_wishes, B_check_wishes, G_check_wishes⟩ := ok_check_wishes (P := P) (w := w) (base := base) T U
  obtain ⟨a_raw_least, fd_raw_least, m_raw_least, F_raw_least, B_raw_least, G_raw_least⟩ := ok_raw_least (P := P) (w := w) (base := base) T U
  obtain ⟨a_steps_of, fd_steps_of, m_steps_of, F_steps_of, B_steps_of, G_steps_of⟩ := ok_steps_of (P := P) (w := w) (base := base) T U
  obtain ⟨a_closed_ring, fd_closed_ring, m_closed_ring, F_closed_ring, B_closed_ring, G_closed_ring⟩ := ok_closed_ring (P := P) (w := w) (base := base) T U
  refine ⟨f, fd, hm, Fn, Fn.binds fun _ _ _ _ _ _ us hl => match us, hl with | [_, _], _ => rfl, fn_ok Fn sc_clash fun cdv A outer s H E hcv hr gd => ?_⟩
  have sc := sc_clash
  have hu := hr.units
  have hu1 := hu_of hr
  have tk : Takes (cxOf (L2.CX P w) P w K mg base ["columns", "wishes", "steps", "far", "came", "turn", "step", "ring", "one"] "clash" (defScope s_clash) f cdv A outer s H E) (fun cls dd _ H => E cls dd H) := takes_of rfl rfl rfl rfl
  have hx : Passes (L2.CX P w) (cxOf (L2.CX P w) P w K mg base ["columns", "wishes", "steps", "far", "came", "turn", "step", "ring", "one"] "clash" (defScope s_clash) f cdv A outer s H E) E := passes_call tk (fun _ _ _ _ z => z)
  exact ess_cons (es_expr (ev_call G_check_wishes (hr.mono (by decide)) gd m_check_wishes F_check_wishes.kp B_check_wishes hx (ea_cons (ev_be (ev_n (pv 0))) (ea_cons (ev_be (ev_n (pv 1))) (ea_nil))) (alen_cons (alen_cons alen_nil))))
      (ess_cons (es_if (et_cmp opD_notB (ev_be (ev_call G_raw_least (hr.mono (by decide)) gd m_raw_least F_raw_least.kp B_raw_least hx (ea_cons (ev_be (ev_n (pv 0))) (ea_cons (ev_be (ev_n (pv 1))) (ea_nil))) (alen_cons (alen_cons alen_nil)))) (ev_be (ev_non))) (ess_one (es_ret (ev_non))) (ess_nil))
      (ess_cons (es_set (ps_set sc.nd rfl (Or.inl rfl) (ev_eo (ev_callO G_steps_of (hr.mono (by decide)) gd m_steps_of F_steps_of.kp B_steps_of hx (ea_cons (ev_be (ev_n (pv 0))) (ea_cons (ev_be (ev_n (pv 1))) (ea_nil))) (alen_cons (alen_cons alen_nil))))))
      (ess_cons (es_par2 (fun ha => ps_par rfl sc.nd rfl rfl (by decide) rfl rfl ha rfl) (e2_o (eo_bin opO_rep (ev_be (ev_eo (eo_lst (el_cons (ev_int) (el_nil))))) (ev_be (ev_bin opD_add (ev_nb (pv 0)) (ev_be (ev_int))))) (e2_o (eo_bin opO_rep (ev_be (ev_eo (eo_lst (el_cons (ev_non) (el_nil))))) (ev_be (ev_bin opD_add (ev_nb (pv 0)) (ev_be (ev_int))))) (e2_nil))))
      (ess_cons (es_for (is := [5]) (passes_of rfl) rfl (ei_rg1 T.b_range (el_cons (ev_bin opD_add (ev_nb (pv 0)) (ev_be (ev_int))) (el_nil))) (eg_name (pg_name (i := 5) sc.nd rfl (Or.inl rfl))) (ess_one (es_for (is := [6]) (passes_of rfl) rfl (ei_seq (ev_n (pv 2))) (eg_name (pg_name (i := 6) sc.nd rfl (Or.inl rfl))) (ess_one (es_if (et_cmp opD_gt (ev_be (ev_bin opD_add (ev_be (ev_ixA hu1 (ev_nb (pv 3)) (ev_be (ev_ixA hu1 (ev_nb (pv 6)) (ev_be (ev_int)))))) (ev_be (ev_ixA hu1 (ev_nb (pv 6)) (ev_be (ev_int)))))) (ev_be (ev_ixA hu1 (ev_nb (pv 3)) (ev_be (ev_ixA hu1 (ev_nb (pv 6)) (ev_be (ev_int))))))) (ess_cons (es_put hu1 (pv 3) (ev_ixA hu1 (ev_nb (pv 6)) (ev_be (ev_int))) (ev_bin opD_add (ev_be (ev_ixA hu1 (ev_nb (pv 3)) (ev_be (ev_ixA hu1 (ev_nb (pv 6)) (ev_be (ev_int)))))) (ev_be (ev_ixA hu1 (ev_nb (pv 6)) (ev_be (ev_int))))))
      (ess_cons (es_put hu1 (pv 4) (ev_ixA hu1 (ev_nb (pv 6)) (ev_be (ev_int))) (ev_n (pv 6)))
      (ess_cons (es_set (ps_set sc.nd rfl (Or.inl rfl) (ev_call G_closed_ring (hr.mono (by decide)) gd m_closed_ring F_closed_ring.kp B_closed_ring hx (ea_cons (ev_nb (pv 4)) (ea_cons (ev_be (ev_ixA hu1 (ev_nb (pv 6)) (ev_be (ev_int)))) (ea_nil))) (alen_cons (alen_cons alen_nil)))))
      (ess_one (es_if (et_cmp opD_notB (ev_nb (pv 7)) (ev_be (ev_non))) (ess_one (es_ret (ev_callT cd_tuple T.b_tuple rfl (ea_cons (ev_be (ev_eo (eo_lc rfl sc.nd (own := [("one", 8)]) (ei_seq (ev_n (pv 7))) (blkOk_by (N := ["columns", "wishes", "steps", "far", "came", "turn", "step", "ring", "one"]) (sc := defScope s_clash) (own := [("one", 8)]) (by decide +kernel)) (fun _ _ _ _ _ => eg_name (pg_name (i := 8) sc.nd rfl (Or.inl rfl))) (fun _ _ _ _ _ => ets_nil) (fun _ _ _ _ _ => ev_ixA hu1 (ev_nb (pv 8)) (ev_be (ev_int)))))) (ea_nil))))) (ess_nil)))))) (ess_nil))))))
      (ess_one (es_ret (ev_non)))))))
theorem sc__law_is_more_right : FnScope ["flow", "columns", "wishes", "wide", "least", "more", "same"] ["flow", "columns", "wishes", "wide"] (defScope s__law_is_more_right) := ⟨rfl, rfl, rfl, by decide +kernel, rfl, by decide +kernel, by decide +kernel⟩
abbrev Ok__law_is_more_right (P : Program) (w : World) (K : PySem.W.Frag) (mg : Str → Option Value) (base : Heap) : Prop := ∃ (f : Addr) (fd : FuncData), mg "_law_is_more_right" = some (.ref f) ∧ Fun K "_law_is_more_right" "_law_is_more_right" s__law_is_more_right f fd ∧ Binds K fd ["flow", "columns", "wishes", "wide"] [] ∧ GnOk P w K mg base (L2.CX P w) 6 f fd ["flow", "columns", "wishes", "wide"] (spF K mg 4 g__law_is_more_right)
theorem ok__law_is_more_right (T : Txt K mg) (U : Tbl K mg base) : Ok__law_is_more_right P w K mg base := by
  obtain ⟨f, fd, hm, Fn⟩ := T.f__law_is_more_right
  obtain ⟨a_least_widths, fd_least_widths, m_least_widths, F_least_widths, B_least_widths, G_least_widths⟩ := ok_least_widths (P := P) (w := w) (base := base) T U
  obtain ⟨a__law_is_below, fd__law_is_below, m__law_is_below, F__law_is_below, B__law_is_below, G__law_is_below⟩ := ok__law_is_below (P := P) (w := w) (base := base) T U
  obtain ⟨a_is_widths, fd_is_widths, m_is_widths, F_is_widths, B_is_widths, G_is_widths⟩ := ok_is_widths (P := P) (w := w) (base := base) T U
  obtain ⟨a__law_kept_wishes, fd__law_kept_wishes, m__law_kept_wishes, F__law_kept_wishes, B__law_kept_wishes, G__law_kept_wishes⟩ := ok__law_kept_wishes (P := P) (w := w) (base := base) T U
  obtain ⟨a_clash, fd_clash, m_clash, F_clash, B_clash, G_clash⟩ := ok_clash (P := P) (w := w) (base := base) T U
  refine ⟨f, fd, hm, Fn, Fn.binds fun _ _ _ _ _ _ us hl => match us, hl with | [_, _, _, _], _ => rfl, fn_ok Fn sc__law_is_more_right fun cdv A outer s H E hcv hr gd => ?_⟩
  have sc := sc__law_is_more_right
  have hu := hr.units
  have hu1 := hu_of hr
  have tk : Takes (cxOf (L2.CX P w) P w K mg base ["flow", "columns", "wishes", "wide", "least", "more", "same"] "_law_is_more_right" (defScope s__law_is_more_right) f cdv A outer s H E) (fun cls dd _ H => E cls dd H) := takes_of rfl rfl rfl rfl
  have hx : Passes (L2.CX P w) (cxOf (L2.CX P w) P w K mg base ["flow", "columns", "wishes", "wide", "least", "more", "same"] "_law_is_more_right" (defScope s__law_is_more_right) f cdv A outer s H E) E := passes_call tk (fun _ _ _ _ z => z)
  exact ess_cons (es_set (ps_set sc.nd rfl (Or.inl rfl) (ev_call G_least_widths (hr.mono (by decide)) gd m_least_widths F_least_widths.kp B_least_widths hx (ea_cons (ev_be (ev_n (pv 1))) (ea_cons (ev_be (ev_n (pv 2))) (ea_nil))) (alen_cons (alen_cons alen_nil)))))
      (ess_cons (es_if (et_w (ew_or (et_cmp opD_isB (ev_nb (pv 4)) (ev_be (ev_non))) (ew_or (et_not (et_val (ev_call G__law_is_below (hr.mono (by decide)) gd m__law_is_below F__law_is_below.kp B__law_is_below hx (ea_cons (ev_be (ev_n (pv 4))) (ea_cons (ev_be (ev_n (pv 3))) (ea_nil))) (alen_cons (alen_cons alen_nil))))) (ew_or1 (et_cmp opD_notB (ev_be (ev_call G_is_widths (hr.mono (by decide)) gd m_is_widths F_is_widths.kp B_is_widths hx (ea_cons (ev_be (ev_n (pv 1))) (ea_cons (ev_be (ev_n (pv 2))) (ea_cons (ev_be (ev_n (pv 3))) (ea_nil)))) (alen_cons (alen_cons (alen_cons alen_nil))))) (ev_be (ev_bl))))))) (ess_one (es_ret (ev_bl))) (ess_nil))
      (ess_cons (es_set (ps_set sc.nd rfl (Or.inl rfl) (ev_bin opD_add (ev_nb (pv 2)) (ev_be (ev_call G__law_kept_wishes (hr.mono (by decide)) gd m__law_kept_wishes F__law_kept_wishes.kp B__law_kept_wishes hx (ea_cons (ev_nb (pv 0)) (ea_cons (ev_be (ev_n (pv 3))) (ea_cons (ev_be (ev_int)) (ea_nil)))) (alen_cons (alen_cons (alen_cons alen_nil))))))))
      (ess_cons (es_if (et_not (et_val (ev_call G__law_is_below (hr.mono (by decide)) gd m__law_is_below F__law_is_below.kp B__law_is_below hx (ea_cons (ev_be (ev_n (pv 4))) (ea_cons (ev_be (ev_call G_least_widths (hr.mono (by decide)) gd m_least_widths F_least_widths.kp B_least_widths hx (ea_cons (ev_be (ev_n (pv 1))) (ea_cons (ev_be (ev_n (pv 5))) (ea_nil))) (alen_cons (alen_cons alen_nil)))) (ea_nil))) (alen_cons (alen_cons alen_nil))))) (ess_one (es_ret (ev_bl))) (ess_nil))
      (ess_cons (es_set (ps_set sc.nd rfl (Or.inl rfl) (ev_bin opD_add (ev_nb (pv 2)) (ev_be (ev_call G__law_kept_wishes (hr.mono (by decide)) gd m__law_kept_wishes F__law_kept_wishes.kp B__law_kept_wishes hx (ea_cons (ev_nb (pv 0)) (ea_cons (ev_be (ev_n (pv 4))) (ea_cons (ev_be (ev_int)) (ea_nil)))) (alen_cons (alen_cons (alen_cons alen_nil))))))))
      (ess_one (es_ret (ev_and (ev_cmp (opD_eqA hu) (ev_be (ev_call G_least_widths (hr.mono (by decide)) gd m_least_widths F_least_widths.kp B_least_widths hx (ea_cons (ev_be (ev_n (pv 1))) (ea_cons (ev_be (ev_n (pv 6))) (ea_nil))) (alen_cons (alen_cons alen_nil)))) (ev_nb (pv 4))) (ev_one (ev_cmp opD_isB (ev_be (ev_call G_clash (hr.mono (by decide)) gd m_clash F_clash.kp B_clash hx (ea_cons (ev_be (ev_n (pv 1))) (ea_cons (ev_be (ev_n (pv 6))) (ea_nil))) (alen_cons (alen_cons alen_nil)))) (ev_be (ev_non)))))))))))
theorem sc__law_turned : FnScope ["columns", "wishes", "found", "first", "last", "way", "number"] ["columns", "wishes"] (defScope s__law_turned) := ⟨rfl, rfl, rfl, by decide +kernel, rfl, by decide +kernel, by decide +kernel⟩
abbrev Ok__law_turned (P : Program) (w : World) (K : PySem.W.Frag) (mg : Str → Option Value) (base : Heap) : Prop := ∃ (f : Addr) (fd : FuncData), mg "_law_turned" = some (.ref f) ∧ Fun K "_law_turned" "_law_turned" s__law_turned f fd ∧ Binds K fd ["columns", "wishes"] [] ∧ GnOk P w K mg base (L2.CX P w) 1 f fd ["columns", "wishes"] (spF K mg 2 g__law_turned)
theorem ok__law_turned (T : Txt K mg) (U : Tbl K mg base) : Ok__law_turned P w K mg base := by
  obtain ⟨f, fd, hm, Fn⟩ := T.f__law_turned
  refine ⟨f, fd, hm, Fn, Fn.binds fun _ _ _ _ _ _ us hl => match us, hl with | [_, _], _ => rfl, fn_ok Fn sc__law_turned fun cdv A outer s H E hcv hr gd => ?_⟩
  have sc := sc__law_turned
  have hu := hr.units
  have hu1 := hu_of hr
  have tk : Takes (cxOf (L2.CX P w) P w K mg base ["columns", "wishes", "found", "first", "last", "way", "number"] "_law_turned" (defScope s__law_turned) f cdv A outer s H E) (fun cls dd _ H => E cls dd H) := takes_of rfl rfl rfl rfl
  have hx : Passes (L2.CX P w) (cxOf (L2.CX P w) P w K mg base ["columns", "wishes", "found", "first", "last", "way", "number"] "_law_turned" (defScope s__law_turned) f cdv A outer s H E) E := passes_call tk (fun _ _ _ _ z => z)
  exact ess_cons (es_setO (ps_set sc.nd rfl (Or.inl rfl) (eo_lst (el_nil))))
      (ess_cons (es_for (is := [3, 4, 5, 6]) (passes_of rfl) rfl (ei_seq (ev_n (pv 1))) (eg_tupA rfl (egs_cons (eg_name (pg_name (i := 3) sc.nd rfl (Or.inl rfl))) (egs_cons (eg_name (pg_name (i := 4) sc.nd rfl (Or.inl rfl))) (egs_cons (eg_name (pg_name (i := 5) sc.nd rfl (Or.inl rfl))) (egs_cons (eg_name (pg_name (i := 6) sc.nd rfl (Or.inl rfl))) (egs_nil)))))) (ess_one (es_expr (ev_mut C.isL_ty PySem.F.plainAttrs_list PySem.F.slot_list_append PySem.F.type_list_append mut_append (pv 2) (el_cons (ev_tup (el_cons (ev_bin opD_sub (ev_be (ev_bin opD_sub (ev_nb (pv 0)) (ev_be (ev_int)))) (ev_nb (pv 4))) (el_cons (ev_bin opD_sub (ev_be (ev_bin opD_sub (ev_nb (pv 0)) (ev_be (ev_int)))) (ev_nb (pv 3))) (el_cons (ev_n (pv 5)) (el_cons (ev_n (pv 6)) (el_nil)))))) (el_nil))))))
      (ess_one (es_ret (ev_callT cd_tuple T.b_tuple rfl (ea_cons (ev_nb (pv 2)) (ea_nil))))))
theorem sc__law_is_total_right : FnScope ["columns", "wishes", "much_in_all", "pinned", "told"] ["columns", "wishes", "much_in_all"] (defScope s__law_is_total_right) := ⟨rfl, rfl, rfl, by decide +kernel, rfl, by decide +kernel, by decide +kernel⟩
abbrev Ok__law_is_total_right (P : Program) (w : World) (K : PySem.W.Frag) (mg : Str → Option Value) (base : Heap) : Prop := ∃ (f : Addr) (fd : FuncData), mg "_law_is_total_right" = some (.ref f) ∧ Fun K "_law_is_total_right" "_law_is_total_right" s__law_is_total_right f fd ∧ Binds K fd ["columns", "wishes", "much_in_all"] [] ∧ GnOk P w K mg base (L2.CX P w) 6 f fd ["columns", "wishes", "much_in_all"] (spF K mg 3 g__law_is_total_right)
theorem ok__law_is_total_right (T : Txt K mg) (U : Tbl K mg base) : Ok__law_is_total_right P w K mg base := by
  obtain ⟨f, fd, hm, Fn⟩ := T.f__law_is_total_right
  obtain ⟨a_spread_out, fd_spread_out, m_spread_out, F_spread_out, B_spread_out, G_spread_out⟩ := ok_spread_out (P := P) (w := w) (base := base) T U
  obtain ⟨a_clash, fd_clash, m_clash, F_clash, B_clash, G_clash⟩ := ok_clash (P := P) (w := w) (base := base) T U
  obtain ⟨a_is_widths, fd_is_widths, m_is_widths, F_is_widths, B_is_widths, G_is_widths⟩ := ok_is_widths (P := P) (w := w) (base := base) T U
  refine ⟨f, fd, hm, Fn, Fn.binds fun _ _ _ _ _ _ us hl => match us, hl with | [_, _, _], _ => rfl, fn_ok Fn sc__law_is_total_right fun cdv A outer s H E hcv hr gd => ?_⟩
  have sc := sc__law_is_total_right
  have hu := hr.units
  have hu1 := hu_of hr
  have tk : Takes (cxOf (L2.CX P w) P w K mg base ["columns", "wishes", "much_in_all", "pinned", "told"] "_law_is_total_right" (defScope s__law_is_total_right) f cdv A outer s H E) (fun cls dd _ H => E cls dd H) := takes_of rfl rfl rfl rfl
  have hx : Passes (L2.CX P w) (cxOf (L2.CX P w) P w K mg base ["columns", "wishes", "much_in_all", "pinned", "told"] "_law_is_total_right" (defScope s__law_is_total_right) f cdv A outer s H E) E := passes_call tk (fun _ _ _ _ z => z)
  exact ess_cons (es_set (ps_set sc.nd rfl (Or.inl rfl) (ev_tup (el_cons (ev_tup (el_cons (ev_int) (el_cons (ev_bin opD_sub (ev_nb (pv 0)) (ev_be (ev_int))) (el_cons (ev_str) (el_cons (ev_n (pv 2)) (el_nil)))))) (el_cons (ev_tup (el_cons (ev_int) (el_cons (ev_bin opD_sub (ev_nb (pv 0)) (ev_be (ev_int))) (el_cons (ev_str) (el_cons (ev_n (pv 2)) (el_nil)))))) (el_nil))))))
      (ess_cons (es_set (ps_set sc.nd rfl (Or.inl rfl) (ev_call G_spread_out (hr.mono (by decide)) gd m_spread_out F_spread_out.kp B_spread_out hx (ea_cons (ev_be (ev_n (pv 0))) (ea_cons (ev_be (ev_n (pv 1))) (ea_cons (ev_be (ev_n (pv 2))) (ea_nil)))) (alen_cons (alen_cons (alen_cons alen_nil))))))
      (ess_cons (es_if (et_w (ew_and (et_cmp opD_le (ev_nb (pv 2)) (ev_be (ev_int))) (ew_and1 (et_cmp opD_lt (ev_be (ev_callB cd_len T.b_len rfl (ea_cons (ev_nb (pv 1)) (ea_nil)))) (ev_be (ev_int)))))) (ess_one (es_if (et_cmp (opD_neA hu) (ev_be (ev_cmp opD_isB (ev_nb (pv 4)) (ev_be (ev_non)))) (ev_be (ev_cmp opD_notB (ev_be (ev_call G_clash (hr.mono (by decide)) gd m_clash F_clash.kp B_clash hx (ea_cons (ev_be (ev_n (pv 0))) (ea_cons (ev_be (ev_bin opD_add (ev_nb (pv 1)) (ev_nb (pv 3)))) (ea_nil))) (alen_cons (alen_cons alen_nil)))) (ev_be (ev_non))))) (ess_one (es_ret (ev_bl))) (ess_nil))) (ess_nil))
      (ess_one (es_ret (ev_or (ev_cmp opD_isB (ev_nb (pv 4)) (ev_be (ev_non))) (ev_one (ev_and (ev_cmp (opD_eqA hu) (ev_be (ev_callB (cd_sum rfl) T.b_sum rfl (ea_cons (ev_nb (pv 4)) (ea_nil)))) (ev_nb (pv 2))) (ev_one (ev_cmp opD_isB (ev_be (ev_call G_is_widths (hr.mono (by decide)) gd m_is_widths F_is_widths.kp B_is_widths hx (ea_cons (ev_be (ev_n (pv 0))) (ea_cons (ev_be (ev_n (pv 1))) (ea_cons (ev_be (ev_n (pv 4))) (ea_nil)))) (alen_cons (alen_cons (alen_cons alen_nil))))) (ev_be (ev_bl)))))))))))
theorem sc__law_are_totals_right : FnScope ["flow", "columns", "wishes", "wide", "least", "here", "much_in_all", "between", "back"] ["flow", "columns", "wishes", "wide"] (defScope s__law_are_totals_right) := ⟨rfl, rfl, rfl, by decide +kernel, rfl, by decide +kernel, by decide +kernel⟩
abbrev Ok__law_are_totals_right (P : Program) (w : World) (K : PySem.W.Frag) (mg : Str → Option Value) (base : Heap) : Prop := ∃ (f : Addr) (fd : FuncData), mg "_law_are_totals_right" = some (.ref f) ∧ Fun K "_law_are_totals_right" "_law_are_totals_right" s__law_are_totals_right f fd ∧ Binds K fd ["flow", "columns", "wishes", "wide"] [] ∧ GnOk P w K mg base (L2.CX P w) 7 f fd ["flow", "columns", "wishes", "wide"] (spF K mg 4 g__law_are_totals_right)
theorem ok__law_are_totals_right (T : Txt K mg) (U : Tbl K mg base) : Ok__law_are_totals_right P w K mg base := by
  obtain ⟨f, fd, hm, Fn⟩ := T.f__law_are_totals_right
  obtain ⟨a_least_widths, fd_least_widths, m_least_widths, F_least_widths, B_least_widths, G_least_widths⟩ := ok_least_widths (P := P) (w := w) (base := base) T U
  obtain ⟨a__law_draw, fd__law_draw, m__law_draw, F__law_draw, B__law_draw, G__law_draw⟩ := ok__law_draw (P := P) (w := w) (base := base) T U
  obtain ⟨a__law_is_total_right, fd__law_is_total_right, m__law_is_total_right, F__law_is_total_right, B__law_is_total_right, G__law_is_total_right⟩ := ok__law_is_total_right (P := P) (w := w) (base := base) T U
  obtain ⟨a_spread_out, fd_spread_out, m_spread_out, F_spread_out, B_spread_out, G_spread_out⟩ := ok_spread_out (P := P) (w := w) (base := base) T U
  obtain ⟨a__law_turned, fd__law_turned, m__law_turned, F__law_turned, B__law_turned, G__law_turned⟩ := ok__law_turned (P := P) (w := w) (base := base) T U
  refine ⟨f, fd, hm, Fn, Fn.binds fun _ _ _ _ _ _ us hl => match us, hl with | [_, _, _, _], _ => rfl, fn_ok Fn sc__law_are_totals_right fun cdv A outer s H E hcv hr gd => ?_⟩
  have sc := sc__law_are_totals_right
  have hu := hr.units
  have hu1 := hu_of hr
  have tk : Takes (cxOf (L2.CX P w) P w K mg base ["flow", "columns", "wishes", "wide", "least", "here", "much_in_all", "between", "back"] "_law_are_totals_right" (defScope s__law_are_totals_right) f cdv A outer s H E) (fun cls dd _ H => E cls dd H) := takes_of rfl rfl rfl rfl
  have hx : Passes (L2.CX P w) (cxOf (L2.CX P w) P w K mg base ["flow", "columns", "wishes", "wide", "least", "here", "much_in_all", "between", "back"] "_law_are_totals_right" (defScope s__law_are_totals_right) f cdv A outer s H E) E := passes_call tk (fun _ _ _ _ z => z)
  exact ess_cons (es_par2 (fun ha => ps_par rfl sc.nd rfl rfl (by decide) rfl rfl ha rfl) (e2_v (ev_callB (cd_sum rfl) T.b_sum rfl (ea_cons (ev_be (ev_call G_least_widths (hr.mono (by decide)) gd m_least_widths F_least_widths.kp B_least_widths hx (ea_cons (ev_be (ev_n (pv 1))) (ea_cons (ev_be (ev_n (pv 2))) (ea_nil))) (alen_cons (alen_cons alen_nil)))) (ea_nil))) (e2_v (ev_callB (cd_sum rfl) T.b_sum rfl (ea_cons (ev_nb (pv 3)) (ea_nil))) (e2_nil))))
      (ess_cons (es_for (is := [6]) (passes_of rfl) rfl (ei_seq (ev_tup (el_cons (ev_n (pv 4)) (el_cons (ev_n (pv 5)) (el_cons (ev_call G__law_draw (hr.mono (by decide)) gd m__law_draw F__law_draw.kp B__law_draw hx (ea_cons (ev_nb (pv 0)) (ea_cons (ev_be (ev_int)) (ea_nil))) (alen_cons (alen_cons alen_nil))) (el_cons (ev_callB (cd_max2 rfl) T.b_max rfl (ea_cons (ev_be (ev_int)) (ea_cons (ev_be (ev_bin opD_sub (ev_nb (pv 4)) (ev_be (ev_int)))) (ea_nil)))) (el_cons (ev_bin opD_pow (ev_be (ev_int)) (ev_be (ev_int))) (el_nil)))))))) (eg_name (pg_name (i := 6) sc.nd rfl (Or.inl rfl))) (ess_one (es_if (et_not (et_val (ev_call G__law_is_total_right (hr.mono (by decide)) gd m__law_is_total_right F__law_is_total_right.kp B__law_is_total_right hx (ea_cons (ev_be (ev_n (pv 1))) (ea_cons (ev_be (ev_n (pv 2))) (ea_cons (ev_be (ev_n (pv 6))) (ea_nil)))) (alen_cons (alen_cons (alen_cons alen_nil)))))) (ess_one (es_ret (ev_bl))) (ess_nil))))
      (ess_cons (es_if (et_w (ew_or (et_cmp opD_isB (ev_be (ev_call G_spread_out (hr.mono (by decide)) gd m_spread_out F_spread_out.kp B_spread_out hx (ea_cons (ev_be (ev_n (pv 1))) (ea_cons (ev_be (ev_n (pv 2))) (ea_cons (ev_be (ev_n (pv 4))) (ea_nil)))) (alen_cons (alen_cons (alen_cons alen_nil))))) (ev_be (ev_non))) (ew_or1 (et_cmp opD_isB (ev_be (ev_call G_spread_out (hr.mono (by decide)) gd m_spread_out F_spread_out.kp B_spread_out hx (ea_cons (ev_be (ev_n (pv 1))) (ea_cons (ev_be (ev_n (pv 2))) (ea_cons (ev_be (ev_n (pv 5))) (ea_nil)))) (alen_cons (alen_cons (alen_cons alen_nil))))) (ev_be (ev_non)))))) (ess_one (es_ret (ev_bl))) (ess_nil))
      (ess_cons (es_if (et_w (ew_and (et_cmp opD_gt (ev_nb (pv 4)) (ev_be (ev_int))) (ew_and1 (et_cmp opD_notB (ev_be (ev_call G_spread_out (hr.mono (by decide)) gd m_spread_out F_spread_out.kp B_spread_out hx (ea_cons (ev_be (ev_n (pv 1))) (ea_cons (ev_be (ev_n (pv 2))) (ea_cons (ev_be (ev_bin opD_sub (ev_nb (pv 4)) (ev_be (ev_int)))) (ea_nil)))) (alen_cons (alen_cons (alen_cons alen_nil))))) (ev_be (ev_non)))))) (ess_one (es_ret (ev_bl))) (ess_nil))
      (ess_cons (es_set (ps_set sc.nd rfl (Or.inl rfl) (ev_bin opD_add (ev_nb (pv 4)) (ev_be (ev_call G__law_draw (hr.mono (by decide)) gd m__law_draw F__law_draw.kp B__law_draw hx (ea_cons (ev_nb (pv 0)) (ea_cons (ev_be (ev_bin opD_add (ev_be (ev_bin opD_sub (ev_nb (pv 5)) (ev_nb (pv 4)))) (ev_be (ev_int)))) (ea_nil))) (alen_cons (alen_cons alen_nil)))))))
      (ess_cons (es_if (et_cmp opD_isB (ev_be (ev_call G_spread_out (hr.mono (by decide)) gd m_spread_out F_spread_out.kp B_spread_out hx (ea_cons (ev_be (ev_n (pv 1))) (ea_cons (ev_be (ev_n (pv 2))) (ea_cons (ev_be (ev_n (pv 7))) (ea_nil)))) (alen_cons (alen_cons (alen_cons alen_nil))))) (ev_be (ev_non))) (ess_one (es_ret (ev_bl))) (ess_nil))
      (ess_cons (es_set (ps_set sc.nd rfl (Or.inl rfl) (ev_call G_least_widths (hr.mono (by decide)) gd m_least_widths F_least_widths.kp B_least_widths hx (ea_cons (ev_be (ev_n (pv 1))) (ea_cons (ev_be (ev_call G__law_turned (hr.mono (by decide)) gd m__law_turned F__law_turned.kp B__law_turned hx (ea_cons (ev_be (ev_n (pv 1))) (ea_cons (ev_be (ev_n (pv 2))) (ea_nil))) (alen_cons (alen_cons alen_nil)))) (ea_nil))) (alen_cons (alen_cons alen_nil)))))
      (ess_one (es_ret (ev_and (ev_cmp opD_notB (ev_nb (pv 8)) (ev_be (ev_non))) (ev_one (ev_cmp (opD_eqA hu) (ev_be (ev_callB (cd_sum rfl) T.b_sum rfl (ea_cons (ev_nb (pv 8)) (ea_nil)))) (ev_nb (pv 4)))))))))))))
theorem sc_law : FnScope ["script", "flow", "lap", "columns", "wide", "at", "wishes"] ["script"] (defScope s_law) := ⟨rfl, rfl, rfl, by decide +kernel, rfl, by decide +kernel, by decide +kernel⟩
abbrev Ok_law (P : Program) (w : World) (K : PySem.W.Frag) (mg : Str → Option Value) (base : Heap) : Prop := ∃ (f : Addr) (fd : FuncData), mg "law" = some (.ref f) ∧ Fun K "law" "law" s_law f fd ∧ Binds K fd ["script"] [] ∧ GnOk P w K mg base (L2.CX P w) 9 f fd ["script"] (spF K mg 1 g_law)
theorem ok_law (T : Txt K mg) (U : Tbl K mg base) : Ok_law P w K mg base := by
  obtain ⟨f, fd, hm, Fn⟩ := T.f_law
  obtain ⟨a__law_flow, fd__law_flow, m__law_flow, F__law_flow, B__law_flow, G__law_flow⟩ := ok__law_flow (P := P) (w := w) (base := base) T U
  obtain ⟨a__law_draw, fd__law_draw, m__law_draw, F__law_draw, B__law_draw, G__law_draw⟩ := ok__law_draw (P := P) (w := w) (base := base) T U
  obtain ⟨a__law_some, fd__law_some, m__law_some, F__law_some, B__law_some, G__law_some⟩ := ok__law_some (P := P) (w := w) (base := base) T U
  obtain ⟨a__law_kept_wishes, fd__law_kept_wishes, m__law_kept_wishes, F__law_kept_wishes, B__law_kept_wishes, G__law_kept_wishes⟩ := ok__law_kept_wishes (P := P) (w := w) (base := base) T U
  obtain ⟨a__law_is_more_right, fd__law_is_more_right, m__law_is_more_right, F__law_is_more_right, B__law_is_more_right, G__law_is_more_right⟩ := ok__law_is_more_right (P := P) (w := w) (base := base) T U
  obtain ⟨a__law_are_totals_right, fd__law_are_totals_right, m__law_are_totals_right, F__law_are_totals_right, B__law_are_totals_right, G__law_are_totals_right⟩ := ok__law_are_totals_right (P := P) (w := w) (base := base) T U
  obtain ⟨a__law_are_refused, fd__law_are_refused, m__law_are_refused, F__law_are_refused, B__law_are_refused, G__law_are_refused⟩ := ok__law_are_refused (P := P) (w := w) (base := base) T U
  refine ⟨f, fd, hm, Fn, Fn.binds fun _ _ _ _ _ _ us hl => match us, hl with | [_], _ => rfl, fn_ok Fn sc_law fun cdv A outer s H E hcv hr gd => ?_⟩
  have sc := sc_law
  have hu := hr.units
  have hu1 := hu_of hr
  have tk : Takes (cxOf (L2.CX P w) P w K mg base ["script", "flow", "lap", "columns", "wide", "at", "wishes"] "law" (defScope s_law) f cdv A outer s H E) (fun cls dd _ H => E cls dd H) := takes_of rfl rfl rfl rfl
  have hx : Passes (L2.CX P w) (cxOf (L2.CX P w) P w K mg base ["script", "flow", "lap", "columns", "wide", "at", "wishes"] "law" (defScope s_law) f cdv A outer s H E) E := passes_call tk (fun _ _ _ _ z => z)
  exact ess_cons (es_setO (ps_set sc.nd rfl (Or.inr rfl) (ev_callO G__law_flow (hr.mono (by decide)) gd m__law_flow F__law_flow.kp B__law_flow hx (ea_cons (ev_be (ev_n (pv 0))) (ea_nil)) (alen_cons alen_nil))))
      (ess_cons (es_for (is := [2]) (passes_of rfl) rfl (ei_rg1 T.b_range (el_cons (ev_int) (el_nil))) (eg_name (pg_name (i := 2) sc.nd rfl (Or.inl rfl))) (ess_cons (es_set (ps_set sc.nd rfl (Or.inl rfl) (ev_bin opD_add (ev_be (ev_int)) (ev_be (ev_call G__law_draw (hr.mono (by decide)) gd m__law_draw F__law_draw.kp B__law_draw hx (ea_cons (ev_nb (pv 1)) (ea_cons (ev_be (ev_int)) (ea_nil))) (alen_cons (alen_cons alen_nil)))))))
      (ess_cons (es_set (ps_set sc.nd rfl (Or.inl rfl) (ev_callT cd_tuple T.b_tuple rfl (ea_cons (ev_be (ev_eo (eo_lc rfl sc.nd (own := [("at", 5)]) (ei_rg1 T.b_range (el_cons (ev_n (pv 3)) (el_nil))) (blkOk_by (N := ["script", "flow", "lap", "columns", "wide", "at", "wishes"]) (sc := defScope s_law) (own := [("at", 5)]) (by decide +kernel)) (fun _ _ _ _ _ => eg_name (pg_name (i := 5) sc.nd rfl (Or.inl rfl))) (fun _ _ _ _ _ => ets_nil) (fun _ _ _ _ _ => ev_call G__law_some (hr.mono (by decide)) gd m__law_some F__law_some.kp B__law_some passEF (ea_cons (ev_nb (pv 1)) (ea_cons (ev_be (ev_eo (eo_lst (el_cons (ev_int) (el_cons (ev_int) (el_cons (ev_int) (el_cons (ev_int) (el_cons (ev_int) (el_nil))))))))) (ea_nil))) (alen_cons (alen_cons alen_nil)))))) (ea_nil)))))
      (ess_cons (es_set (ps_set sc.nd rfl (Or.inl rfl) (ev_call G__law_kept_wishes (hr.mono (by decide)) gd m__law_kept_wishes F__law_kept_wishes.kp B__law_kept_wishes hx (ea_cons (ev_nb (pv 1)) (ea_cons (ev_be (ev_n (pv 4))) (ea_cons (ev_be (ev_call G__law_draw (hr.mono (by decide)) gd m__law_draw F__law_draw.kp B__law_draw hx (ea_cons (ev_nb (pv 1)) (ea_cons (ev_be (ev_int)) (ea_nil))) (alen_cons (alen_cons alen_nil)))) (ea_nil)))) (alen_cons (alen_cons (alen_cons alen_nil))))))
      (ess_cons (es_if (et_not (et_val (ev_call G__law_is_more_right (hr.mono (by decide)) gd m__law_is_more_right F__law_is_more_right.kp B__law_is_more_right hx (ea_cons (ev_nb (pv 1)) (ea_cons (ev_be (ev_n (pv 3))) (ea_cons (ev_be (ev_n (pv 6))) (ea_cons (ev_be (ev_n (pv 4))) (ea_nil))))) (alen_cons (alen_cons (alen_cons (alen_cons alen_nil))))))) (ess_one (es_ret (ev_bl))) (ess_nil))
      (ess_one (es_if (et_not (et_val (ev_call G__law_are_totals_right (hr.mono (by decide)) gd m__law_are_totals_right F__law_are_totals_right.kp B__law_are_totals_right hx (ea_cons (ev_nb (pv 1)) (ea_cons (ev_be (ev_n (pv 3))) (ea_cons (ev_be (ev_n (pv 6))) (ea_cons (ev_be (ev_n (pv 4))) (ea_nil))))) (alen_cons (alen_cons (alen_cons (alen_cons alen_nil))))))) (ess_one (es_ret (ev_bl))) (ess_nil))))))))
      (ess_one (es_ret (ev_call G__law_are_refused (hr.mono (by decide)) gd m__law_are_refused F__law_are_refused.kp B__law_are_refused hx (ea_cons (ev_nb (pv 1)) (ea_nil)) (alen_cons alen_nil)))))
end
open PySem.W in
omit [TabsC] in
theorem all_mk {q : Program} {l : PySem.W.OpenLaw} {w : World} {K : PySem.W.Frag} {h : Heap} {mg : Str → Option Value} {fa : Addr} (hg : Keeps g_law) (X : K.In h) (G : h.Ns mainGlobals mg) (hfa : mg "law" = some (.ref fa))
    {f0 : Addr} {od0 an0 : Option Addr} {sl0 : Array (Option Value)} {oc0 kV0 dc0 pm0 cd0 ct0 : Value}
    {f1 : Addr} {od1 an1 : Option Addr} {sl1 : Array (Option Value)} {oc1 kV1 dc1 pm1 cd1 ct1 : Value}
    {f2 : Addr} {od2 an2 : Option Addr} {sl2 : Array (Option Value)} {oc2 kV2 dc2 pm2 cd2 ct2 : Value}
    {f3 : Addr} {od3 an3 : Option Addr} {sl3 : Array (Option Value)} {oc3 kV3 dc3 pm3 cd3 ct3 : Value}
    {f4 : Addr} {od4 an4 : Option Addr} {sl4 : Array (Option Value)} {oc4 kV4 dc4 pm4 cd4 ct4 : Value}
    {f5 : Addr} {od5 an5 : Option Addr} {sl5 : Array (Option Value)} {oc5 kV5 dc5 pm5 cd5 ct5 : Value}
    {f6 : Addr} {od6 an6 : Option Addr} {sl6 : Array (Option Value)} {oc6 kV6 dc6 pm6 cd6 ct6 : Value}
    {f7 : Addr} {od7 an7 : Option Addr} {sl7 : Array (Option Value)} {oc7 kV7 dc7 pm7 cd7 ct7 : Value}
    {f8 : Addr} {od8 an8 : Option Addr} {sl8 : Array (Option Value)} {oc8 kV8 dc8 pm8 cd8 ct8 : Value}
    {f9 : Addr} {od9 an9 : Option Addr} {sl9 : Array (Option Value)} {oc9 kV9 dc9 pm9 cd9 ct9 : Value}
    {f10 : Addr} {od10 an10 : Option Addr} {sl10 : Array (Option Value)} {oc10 kV10 dc10 pm10 cd10 ct10 : Value}
    {f11 : Addr} {od11 an11 : Option Addr} {sl11 : Array (Option Value)} {oc11 kV11 dc11 pm11 cd11 ct11 : Value}
    {f12 : Addr} {od12 an12 : Option Addr} {sl12 : Array (Option Value)} {oc12 kV12 dc12 pm12 cd12 ct12 : Value}
    {f13 : Addr} {od13 an13 : Option Addr} {sl13 : Array (Option Value)} {oc13 kV13 dc13 pm13 cd13 ct13 : Value}
    {f14 : Addr} {od14 an14 : Option Addr} {sl14 : Array (Option Value)} {oc14 kV14 dc14 pm14 cd14 ct14 : Value}
    {f15 : Addr} {od15 an15 : Option Addr} {sl15 : Array (Option Value)} {oc15 kV15 dc15 pm15 cd15 ct15 : Value}
    {f16 : Addr} {od16 an16 : Option Addr} {sl16 : Array (Option Value)} {oc16 kV16 dc16 pm16 cd16 ct16 : Value}
    {f17 : Addr} {od17 an17 : Option Addr} {sl17 : Array (Option Value)} {oc17 kV17 dc17 pm17 cd17 ct17 : Value}
    {f18 : Addr} {od18 an18 : Option Addr} {sl18 : Array (Option Value)} {oc18 kV18 dc18 pm18 cd18 ct18 : Value}
    {f19 : Addr} {od19 an19 : Option Addr} {sl19 : Array (Option Value)} {oc19 kV19 dc19 pm19 cd19 ct19 : Value}
    {f20 : Addr} {od20 an20 : Option Addr} {sl20 : Array (Option Value)} {oc20 kV20 dc20 pm20 cd20 ct20 : Value}
    {f21 : Addr} {od21 an21 : Option Addr} {sl21 : Array (Option Value)} {oc21 kV21 dc21 pm21 cd21 ct21 : Value}
    {f22 : Addr} {od22 an22 : Option Addr} {sl22 : Array (Option Value)} {oc22 kV22 dc22 pm22 cd22 ct22 : Value}
    {f23 : Addr} {od23 an23 : Option Addr} {sl23 : Array (Option Value)} {oc23 kV23 dc23 pm23 cd23 ct23 : Value}
    {f24 : Addr} {od24 an24 : Option Addr} {sl24 : Array (Option Value)} {oc24 kV24 dc24 pm24 cd24 ct24 : Value}
    {f25 : Addr} {od25 an25 : Option Addr} {sl25 : Array (Option Value)} {oc25 kV25 dc25 pm25 cd25 ct25 : Value}
    {f26 : Addr} {od26 an26 : Option Addr} {sl26 : Array (Option Value)} {oc26 kV26 dc26 pm26 cd26 ct26 : Value}
    {f27 : Addr} {od27 an27 : Option Addr} {sl27 : Array (Option Value)} {oc27 kV27 dc27 pm27 cd27 ct27 : Value}
    {t_LEAST : Tok}
    {t_MOST : Tok}
    {t_MOST_COLUMNS : Tok}
    {t_MOST_TOTAL : Tok}
    {t_MOST_WIDE : Tok}
    {t_MOST_WISHES : Tok}
    {t_NONE : Tok}
    {e_PressError : Addr}
    {e_NoColumns : Addr}
    {e_NoNumber : Addr}
    {e_NoWishes : Addr}
    {tc13 tP13 : Addr} {to13 : Value} {tq13 : Option Addr} {tv13 : Array Value} {ts13 : Array (Option Value)}
    (a0 : PySem.W.nsIn K mainGlobals "_law_flow" = some (some (.ref f0)))
    (l0 : K.lookup f0 = some ⟨oc0, od0, .func (PySem.W.fnOf "_law_flow" "_law_flow" (defArgs s__law_flow) (defBody s__law_flow) (defScope s__law_flow) .none kV0 dc0 pm0 an0 cd0 ct0), sl0⟩)
    (c0 : PySem.W.codeIn K cd0 "_law_flow" = true)
    (k0 : PySem.W.keepIn K (.ref f0) = true)
    (a1 : PySem.W.nsIn K mainGlobals "_law_draw" = some (some (.ref f1)))
    (l1 : K.lookup f1 = some ⟨oc1, od1, .func (PySem.W.fnOf "_law_draw" "_law_draw" (defArgs s__law_draw) (defBody s__law_draw) (defScope s__law_draw) .none kV1 dc1 pm1 an1 cd1 ct1), sl1⟩)
    (c1 : PySem.W.codeIn K cd1 "_law_draw" = true)
    (k1 : PySem.W.keepIn K (.ref f1) = true)
    (a2 : PySem.W.nsIn K mainGlobals "_law_some" = some (some (.ref f2)))
    (l2 : K.lookup f2 = some ⟨oc2, od2, .func (PySem.W.fnOf "_law_some" "_law_some" (defArgs s__law_some) (defBody s__law_some) (defScope s__law_some) .none kV2 dc2 pm2 an2 cd2 ct2), sl2⟩)
    (c2 : PySem.W.codeIn K cd2 "_law_some" = true)
    (k2 : PySem.W.keepIn K (.ref f2) = true)
    (a3 : PySem.W.nsIn K mainGlobals "_law_word" = some (some (.ref f3)))
    (l3 : K.lookup f3 = some ⟨oc3, od3, .func (PySem.W.fnOf "_law_word" "_law_word" (defArgs s__law_word) (defBody s__law_word) (defScope s__law_word) .none kV3 dc3 pm3 an3 cd3 ct3), sl3⟩)
    (c3 : PySem.W.codeIn K cd3 "_law_word" = true)
    (k3 : PySem.W.keepIn K (.ref f3) = true)
    (a4 : PySem.W.nsIn K mainGlobals "is_integer" = some (some (.ref f4)))
    (l4 : K.lookup f4 = some ⟨oc4, od4, .func (PySem.W.fnOf "is_integer" "is_integer" (defArgs s_is_integer) (defBody s_is_integer) (defScope s_is_integer) .none kV4 dc4 pm4 an4 cd4 ct4), sl4⟩)
    (c4 : PySem.W.codeIn K cd4 "is_integer" = true)
    (k4 : PySem.W.keepIn K (.ref f4) = true)
    (a5 : PySem.W.nsIn K mainGlobals "is_within" = some (some (.ref f5)))
    (l5 : K.lookup f5 = some ⟨oc5, od5, .func (PySem.W.fnOf "is_within" "is_within" (defArgs s_is_within) (defBody s_is_within) (defScope s_is_within) .none kV5 dc5 pm5 an5 cd5 ct5), sl5⟩)
    (c5 : PySem.W.codeIn K cd5 "is_within" = true)
    (k5 : PySem.W.keepIn K (.ref f5) = true)
    (a6 : PySem.W.nsIn K mainGlobals "is_tuple_of" = some (some (.ref f6)))
    (l6 : K.lookup f6 = some ⟨oc6, od6, .func (PySem.W.fnOf "is_tuple_of" "is_tuple_of" (defArgs s_is_tuple_of) (defBody s_is_tuple_of) (defScope s_is_tuple_of) .none kV6 dc6 pm6 an6 cd6 ct6), sl6⟩)
    (c6 : PySem.W.codeIn K cd6 "is_tuple_of" = true)
    (k6 : PySem.W.keepIn K (.ref f6) = true)
    (a7 : PySem.W.nsIn K mainGlobals "is_wish" = some (some (.ref f7)))
    (l7 : K.lookup f7 = some ⟨oc7, od7, .func (PySem.W.fnOf "is_wish" "is_wish" (defArgs s_is_wish) (defBody s_is_wish) (defScope s_is_wish) .none kV7 dc7 pm7 an7 cd7 ct7), sl7⟩)
    (c7 : PySem.W.codeIn K cd7 "is_wish" = true)
    (k7 : PySem.W.keepIn K (.ref f7) = true)
    (a8 : PySem.W.nsIn K mainGlobals "check_wishes" = some (some (.ref f8)))
    (l8 : K.lookup f8 = some ⟨oc8, od8, .func (PySem.W.fnOf "check_wishes" "check_wishes" (defArgs s_check_wishes) (defBody s_check_wishes) (defScope s_check_wishes) .none kV8 dc8 pm8 an8 cd8 ct8), sl8⟩)
    (c8 : PySem.W.codeIn K cd8 "check_wishes" = true)
    (k8 : PySem.W.keepIn K (.ref f8) = true)
    (a9 : PySem.W.nsIn K mainGlobals "spans" = some (some (.ref f9)))
    (l9 : K.lookup f9 = some ⟨oc9, od9, .func (PySem.W.fnOf "spans" "spans" (defArgs s_spans) (defBody s_spans) (defScope s_spans) .none kV9 dc9 pm9 an9 cd9 ct9), sl9⟩)
    (c9 : PySem.W.codeIn K cd9 "spans" = true)
    (k9 : PySem.W.keepIn K (.ref f9) = true)
    (a10 : PySem.W.nsIn K mainGlobals "steps_of" = some (some (.ref f10)))
    (l10 : K.lookup f10 = some ⟨oc10, od10, .func (PySem.W.fnOf "steps_of" "steps_of" (defArgs s_steps_of) (defBody s_steps_of) (defScope s_steps_of) .none kV10 dc10 pm10 an10 cd10 ct10), sl10⟩)
    (c10 : PySem.W.codeIn K cd10 "steps_of" = true)
    (k10 : PySem.W.keepIn K (.ref f10) = true)
    (a11 : PySem.W.nsIn K mainGlobals "raw_least" = some (some (.ref f11)))
    (l11 : K.lookup f11 = some ⟨oc11, od11, .func (PySem.W.fnOf "raw_least" "raw_least" (defArgs s_raw_least) (defBody s_raw_least) (defScope s_raw_least) .none kV11 dc11 pm11 an11 cd11 ct11), sl11⟩)
    (c11 : PySem.W.codeIn K cd11 "raw_least" = true)
    (k11 : PySem.W.keepIn K (.ref f11) = true)
    (a12 : PySem.W.nsIn K mainGlobals "spread_out" = some (some (.ref f12)))
    (l12 : K.lookup f12 = some ⟨oc12, od12, .func (PySem.W.fnOf "spread_out" "spread_out" (defArgs s_spread_out) (defBody s_spread_out) (defScope s_spread_out) .none kV12 dc12 pm12 an12 cd12 ct12), sl12⟩)
    (c12 : PySem.W.codeIn K cd12 "spread_out" = true)
    (k12 : PySem.W.keepIn K (.ref f12) = true)
    (a13 : PySem.W.nsIn K mainGlobals "_law_are_refused" = some (some (.ref f13)))
    (l13 : K.lookup f13 = some ⟨oc13, od13, .func (PySem.W.fnOf "_law_are_refused" "_law_are_refused" (defArgs s__law_are_refused) (defBody s__law_are_refused) (defScope s__law_are_refused) .none kV13 dc13 pm13 an13 cd13 ct13), sl13⟩)
    (c13 : PySem.W.codeIn K cd13 "_law_are_refused" = true)
    (k13 : PySem.W.keepIn K (.ref f13) = true)
    (a14 : PySem.W.nsIn K mainGlobals "_law_kept_wishes" = some (some (.ref f14)))
    (l14 : K.lookup f14 = some ⟨oc14, od14, .func (PySem.W.fnOf "_law_kept_wishes" "_law_kept_wishes" (defArgs s__law_kept_wishes) (defBody s__law_kept_wishes) (defScope s__law_kept_wishes) .none kV14 dc14 pm14 an14 cd14 ct14), sl14⟩)
    (c14 : PySem.W.codeIn K cd14 "_law_kept_wishes" = true)
    (k14 : PySem.W.keepIn K (.ref f14) = true)
    (a15 : PySem.W.nsIn K mainGlobals "least_widths" = some (some (.ref f15)))
    (l15 : K.lookup f15 = some ⟨oc15, od15, .func (PySem.W.fnOf "least_widths" "least_widths" (defArgs s_least_widths) (defBody s_least_widths) (defScope s_least_widths) .none kV15 dc15 pm15 an15 cd15 ct15), sl15⟩)
    (c15 : PySem.W.codeIn K cd15 "least_widths" = true)
    (k15 : PySem.W.keepIn K (.ref f15) = true)
    (a16 : PySem.W.nsIn K mainGlobals "_law_sums" = some (some (.ref f16)))
    (l16 : K.lookup f16 = some ⟨oc16, od16, .func (PySem.W.fnOf "_law_sums" "_law_sums" (defArgs s__law_sums) (defBody s__law_sums) (defScope s__law_sums) .none kV16 dc16 pm16 an16 cd16 ct16), sl16⟩)
    (c16 : PySem.W.codeIn K cd16 "_law_sums" = true)
    (k16 : PySem.W.keepIn K (.ref f16) = true)
    (a17 : PySem.W.nsIn K mainGlobals "_law_is_below" = some (some (.ref f17)))
    (l17 : K.lookup f17 = some ⟨oc17, od17, .func (PySem.W.fnOf "_law_is_below" "_law_is_below" (defArgs s__law_is_below) (defBody s__law_is_below) (defScope s__law_is_below) .none kV17 dc17 pm17 an17 cd17 ct17), sl17⟩)
    (c17 : PySem.W.codeIn K cd17 "_law_is_below" = true)
    (k17 : PySem.W.keepIn K (.ref f17) = true)
    (a18 : PySem.W.nsIn K mainGlobals "does_keep" = some (some (.ref f18)))
    (l18 : K.lookup f18 = some ⟨oc18, od18, .func (PySem.W.fnOf "does_keep" "does_keep" (defArgs s_does_keep) (defBody s_does_keep) (defScope s_does_keep) .none kV18 dc18 pm18 an18 cd18 ct18), sl18⟩)
    (c18 : PySem.W.codeIn K cd18 "does_keep" = true)
    (k18 : PySem.W.keepIn K (.ref f18) = true)
    (a19 : PySem.W.nsIn K mainGlobals "raw_is_widths" = some (some (.ref f19)))
    (l19 : K.lookup f19 = some ⟨oc19, od19, .func (PySem.W.fnOf "raw_is_widths" "raw_is_widths" (defArgs s_raw_is_widths) (defBody s_raw_is_widths) (defScope s_raw_is_widths) .none kV19 dc19 pm19 an19 cd19 ct19), sl19⟩)
    (c19 : PySem.W.codeIn K cd19 "raw_is_widths" = true)
    (k19 : PySem.W.keepIn K (.ref f19) = true)
    (a20 : PySem.W.nsIn K mainGlobals "is_widths" = some (some (.ref f20)))
    (l20 : K.lookup f20 = some ⟨oc20, od20, .func (PySem.W.fnOf "is_widths" "is_widths" (defArgs s_is_widths) (defBody s_is_widths) (defScope s_is_widths) .none kV20 dc20 pm20 an20 cd20 ct20), sl20⟩)
    (c20 : PySem.W.codeIn K cd20 "is_widths" = true)
    (k20 : PySem.W.keepIn K (.ref f20) = true)
    (a21 : PySem.W.nsIn K mainGlobals "closed_ring" = some (some (.ref f21)))
    (l21 : K.lookup f21 = some ⟨oc21, od21, .func (PySem.W.fnOf "closed_ring" "closed_ring" (defArgs s_closed_ring) (defBody s_closed_ring) (defScope s_closed_ring) .none kV21 dc21 pm21 an21 cd21 ct21), sl21⟩)
    (c21 : PySem.W.codeIn K cd21 "closed_ring" = true)
    (k21 : PySem.W.keepIn K (.ref f21) = true)
    (a22 : PySem.W.nsIn K mainGlobals "clash" = some (some (.ref f22)))
    (l22 : K.lookup f22 = some ⟨oc22, od22, .func (PySem.W.fnOf "clash" "clash" (defArgs s_clash) (defBody s_clash) (defScope s_clash) .none kV22 dc22 pm22 an22 cd22 ct22), sl22⟩)
    (c22 : PySem.W.codeIn K cd22 "clash" = true)
    (k22 : PySem.W.keepIn K (.ref f22) = true)
    (a23 : PySem.W.nsIn K mainGlobals "_law_is_more_right" = some (some (.ref f23)))
    (l23 : K.lookup f23 = some ⟨oc23, od23, .func (PySem.W.fnOf "_law_is_more_right" "_law_is_more_right" (defArgs s__law_is_more_right) (defBody s__law_is_more_right) (defScope s__law_is_more_right) .none kV23 dc23 pm23 an23 cd23 ct23), sl23⟩)
    (c23 : PySem.W.codeIn K cd23 "_law_is_more_right" = true)
    (k23 : PySem.W.keepIn K (.ref f23) = true)
    (a24 : PySem.W.nsIn K mainGlobals "_law_turned" = some (some (.ref f24)))
    (l24 : K.lookup f24 = some ⟨oc24, od24, .func (PySem.W.fnOf "_law_turned" "_law_turned" (defArgs s__law_turned) (defBody s__law_turned) (defScope s__law_turned) .none kV24 dc24 pm24 an24 cd24 ct24), sl24⟩)
    (c24 : PySem.W.codeIn K cd24 "_law_turned" = true)
    (k24 : PySem.W.keepIn K (.ref f24) = true)
    (a25 : PySem.W.nsIn K mainGlobals "_law_is_total_right" = some (some (.ref f25)))
    (l25 : K.lookup f25 = some ⟨oc25, od25, .func (PySem.W.fnOf "_law_is_total_right" "_law_is_total_right" (defArgs s__law_is_total_right) (defBody s__law_is_total_right) (defScope s__law_is_total_right) .none kV25 dc25 pm25 an25 cd25 ct25), sl25⟩)
    (c25 : PySem.W.codeIn K cd25 "_law_is_total_right" = true)
    (k25 : PySem.W.keepIn K (.ref f25) = true)
    (a26 : PySem.W.nsIn K mainGlobals "_law_are_totals_right" = some (some (.ref f26)))
    (l26 : K.lookup f26 = some ⟨oc26, od26, .func (PySem.W.fnOf "_law_are_totals_right" "_law_are_totals_right" (defArgs s__law_are_totals_right) (defBody s__law_are_totals_right) (defScope s__law_are_totals_right) .none kV26 dc26 pm26 an26 cd26 ct26), sl26⟩)
    (c26 : PySem.W.codeIn K cd26 "_law_are_totals_right" = true)
    (k26 : PySem.W.keepIn K (.ref f26) = true)
    (a27 : PySem.W.nsIn K mainGlobals "law" = some (some (.ref f27)))
    (l27 : K.lookup f27 = some ⟨oc27, od27, .func (PySem.W.fnOf "law" "law" (defArgs s_law) (defBody s_law) (defScope s_law) .none kV27 dc27 pm27 an27 cd27 ct27), sl27⟩)
    (c27 : PySem.W.codeIn K cd27 "law" = true)
    (k27 : PySem.W.keepIn K (.ref f27) = true)
    (z_all : PySem.W.nsIn K mainGlobals "all" = some none)
    (z_bool : PySem.W.nsIn K mainGlobals "bool" = some none)
    (z_enumerate : PySem.W.nsIn K mainGlobals "enumerate" = some none)
    (z_int : PySem.W.nsIn K mainGlobals "int" = some none)
    (z_isinstance : PySem.W.nsIn K mainGlobals "isinstance" = some none)
    (z_len : PySem.W.nsIn K mainGlobals "len" = some none)
    (z_list : PySem.W.nsIn K mainGlobals "list" = some none)
    (z_max : PySem.W.nsIn K mainGlobals "max" = some none)
    (z_min : PySem.W.nsIn K mainGlobals "min" = some none)
    (z_range : PySem.W.nsIn K mainGlobals "range" = some none)
    (z_str : PySem.W.nsIn K mainGlobals "str" = some none)
    (z_sum : PySem.W.nsIn K mainGlobals "sum" = some none)
    (z_tuple : PySem.W.nsIn K mainGlobals "tuple" = some none)
    (z_zip : PySem.W.nsIn K mainGlobals "zip" = some none)
    (v_LEAST : PySem.W.nsIn K mainGlobals "LEAST" = some (some (.str ("least" : Str) t_LEAST)))
    (v_MOST : PySem.W.nsIn K mainGlobals "MOST" = some (some (.str ("most" : Str) t_MOST)))
    (v_MOST_COLUMNS : PySem.W.nsIn K mainGlobals "MOST_COLUMNS" = some (some (.int 8 t_MOST_COLUMNS)))
    (v_MOST_TOTAL : PySem.W.nsIn K mainGlobals "MOST_TOTAL" = some (some (.int 1000000 t_MOST_TOTAL)))
    (v_MOST_WIDE : PySem.W.nsIn K mainGlobals "MOST_WIDE" = some (some (.int 10000 t_MOST_WIDE)))
    (v_MOST_WISHES : PySem.W.nsIn K mainGlobals "MOST_WISHES" = some (some (.int 30 t_MOST_WISHES)))
    (v_NONE : PySem.W.nsIn K mainGlobals "NONE" = some (some (.str ("none" : Str) t_NONE)))
    (ea_PressError : PySem.W.nsIn K mainGlobals "PressError" = some (some (.ref e_PressError)))
    (ea_NoColumns : PySem.W.nsIn K mainGlobals "NoColumns" = some (some (.ref e_NoColumns)))
    (ex_NoColumns : PySem.W.excIn K e_NoColumns [.type "ValueError", .type "Exception", .type "BaseException", .type "object"] "ValueError.__new__" = true)
    (ek_NoColumns : PySem.W.keepIn K (.ref e_NoColumns) = true)
    (es_NoColumns : PySem.W.subIn K (.ref e_NoColumns) (.type "BaseException") = some true)
    (et_NoColumns : PySem.W.typeIn K (.ref e_NoColumns) = some (.type "type"))
    (ea_NoNumber : PySem.W.nsIn K mainGlobals "NoNumber" = some (some (.ref e_NoNumber)))
    (ex_NoNumber : PySem.W.excIn K e_NoNumber [.type "ValueError", .type "Exception", .type "BaseException", .type "object"] "ValueError.__new__" = true)
    (ek_NoNumber : PySem.W.keepIn K (.ref e_NoNumber) = true)
    (es_NoNumber : PySem.W.subIn K (.ref e_NoNumber) (.type "BaseException") = some true)
    (et_NoNumber : PySem.W.typeIn K (.ref e_NoNumber) = some (.type "type"))
    (ea_NoWishes : PySem.W.nsIn K mainGlobals "NoWishes" = some (some (.ref e_NoWishes)))
    (ex_NoWishes : PySem.W.excIn K e_NoWishes [.type "ValueError", .type "Exception", .type "BaseException", .type "object"] "ValueError.__new__" = true)
    (ek_NoWishes : PySem.W.keepIn K (.ref e_NoWishes) = true)
    (es_NoWishes : PySem.W.subIn K (.ref e_NoWishes) (.type "BaseException") = some true)
    (et_NoWishes : PySem.W.typeIn K (.ref e_NoWishes) = some (.type "type"))
    (xn : PySem.W.specialIn K (.builtin "object.__class__") "__get__" = some (some (.builtin "getset_descriptor.__get__")))
    (xt : PySem.W.takesIn K (.builtin "object.__class__") = some true)
    (xg_NoColumns : PySem.W.findIn K (.ref e_NoColumns) "__getattribute__" = some (some (.builtin "BaseException.__getattribute__")))
    (xk_NoColumns : PySem.W.findIn K (.ref e_NoColumns) "__getattr__" = some none)
    (xd_NoColumns : PySem.W.hasDictIn K e_NoColumns = true)
    (xa_NoColumns : PySem.W.findIn K (.ref e_NoColumns) "__class__" = some (some (.builtin "object.__class__")))
    (xm_NoColumns : PySem.W.mroIn K e_NoColumns (.type "object") = some true)
    (xv_NoColumns : PySem.W.subIn K (.ref e_NoColumns) (.type "ValueError") = some true)
    (xp_NoColumns : PySem.W.subIn K (.ref e_NoColumns) (.ref e_PressError) = some true)
    (xx_NoColumns_NoWishes : PySem.W.subIn K (.ref e_NoColumns) (.ref e_NoWishes) = some false)
    (xn_NoColumns_NoWishes : (e_NoColumns == e_NoWishes) = false)
    (xx_NoColumns_NoNumber : PySem.W.subIn K (.ref e_NoColumns) (.ref e_NoNumber) = some false)
    (xn_NoColumns_NoNumber : (e_NoColumns == e_NoNumber) = false)
    (xg_NoWishes : PySem.W.findIn K (.ref e_NoWishes) "__getattribute__" = some (some (.builtin "BaseException.__getattribute__")))
    (xk_NoWishes : PySem.W.findIn K (.ref e_NoWishes) "__getattr__" = some none)
    (xd_NoWishes : PySem.W.hasDictIn K e_NoWishes = true)
    (xa_NoWishes : PySem.W.findIn K (.ref e_NoWishes) "__class__" = some (some (.builtin "object.__class__")))
    (xm_NoWishes : PySem.W.mroIn K e_NoWishes (.type "object") = some true)
    (xv_NoWishes : PySem.W.subIn K (.ref e_NoWishes) (.type "ValueError") = some true)
    (xp_NoWishes : PySem.W.subIn K (.ref e_NoWishes) (.ref e_PressError) = some true)
    (xx_NoWishes_NoColumns : PySem.W.subIn K (.ref e_NoWishes) (.ref e_NoColumns) = some false)
    (xn_NoWishes_NoColumns : (e_NoWishes == e_NoColumns) = false)
    (xx_NoWishes_NoNumber : PySem.W.subIn K (.ref e_NoWishes) (.ref e_NoNumber) = some false)
    (xn_NoWishes_NoNumber : (e_NoWishes == e_NoNumber) = false)
    (xg_NoNumber : PySem.W.findIn K (.ref e_NoNumber) "__getattribute__" = some (some (.builtin "BaseException.__getattribute__")))
    (xk_NoNumber : PySem.W.findIn K (.ref e_NoNumber) "__getattr__" = some none)
    (xd_NoNumber : PySem.W.hasDictIn K e_NoNumber = true)
    (xa_NoNumber : PySem.W.findIn K (.ref e_NoNumber) "__class__" = some (some (.builtin "object.__class__")))
    (xm_NoNumber : PySem.W.mroIn K e_NoNumber (.type "object") = some true)
    (xv_NoNumber : PySem.W.subIn K (.ref e_NoNumber) (.type "ValueError") = some true)
    (xp_NoNumber : PySem.W.subIn K (.ref e_NoNumber) (.ref e_PressError) = some true)
    (xx_NoNumber_NoColumns : PySem.W.subIn K (.ref e_NoNumber) (.ref e_NoColumns) = some false)
    (xn_NoNumber_NoColumns : (e_NoNumber == e_NoColumns) = false)
    (xx_NoNumber_NoWishes : PySem.W.subIn K (.ref e_NoNumber) (.ref e_NoWishes) = some false)
    (xn_NoNumber_NoWishes : (e_NoNumber == e_NoWishes) = false)
    (es_PressError : PySem.W.subIn K (.ref e_PressError) (.type "BaseException") = some true)
    (et_PressError : PySem.W.typeIn K (.ref e_PressError) = some (.type "type"))
    (xd_PressError : PySem.W.hasDictIn K e_PressError = true)
    (td13 : cd13 = .ref tc13)
    (tl13 : K.lookup tc13 = some ⟨to13, tq13, .fields tv13, ts13⟩)
    (tk13 : tv13[11]? = some (.ref tP13))
    (tn13 : K.lookup tP13 = none)
    (tr13 : ((PyProof.Rows.recsOf q).find? (fun e => e.name == ("_law_are_refused" : Str))).isSome = true)
    : ∃ (fd : FuncData) (cs : List (Addr × Addr × Str)), (∀ p ∈ cs, (∃ (x : Str), ∃ dx, (PyProof.Rows.recsOf q).find? (fun e => e.name == x) = some dx ∧ PySem.W.tabIn K x = some (p.1, p.2.1)) ∧ K.lookup p.2.1 = none) ∧
      (∀ (s : Shared) (v : Value), BindsTo s fd ⟨[v], []⟩ [("script", v)]) ∧ ∀ base : Heap, K.In base → base.Ns mainGlobals mg → (∀ p ∈ cs, TabB base mg p.1 p.2.1) → GnOk l.prog w K mg base (L2.CX l.prog w) 9 fa fd ["script"] (@spLw (tabsOf cs) K) := by
  have e := hfa.symm.trans (PySem.W.mg_of X G a27)
  cases e
  have T : Txt K mg := {
    f__law_flow := ⟨_, _, PySem.W.mg_of X G a0, fun_mk (st := s__law_flow) l0 c0 k0⟩
    f__law_draw := ⟨_, _, PySem.W.mg_of X G a1, fun_mk (st := s__law_draw) l1 c1 k1⟩
    f__law_some := ⟨_, _, PySem.W.mg_of X G a2, fun_mk (st := s__law_some) l2 c2 k2⟩
    f__law_word := ⟨_, _, PySem.W.mg_of X G a3, fun_mk (st := s__law_word) l3 c3 k3⟩
    f_is_integer := ⟨_, _, PySem.W.mg_of X G a4, fun_mk (st := s_is_integer) l4 c4 k4⟩
    f_is_within := ⟨_, _, PySem.W.mg_of X G a5, fun_mk (st := s_is_within) l5 c5 k5⟩
    f_is_tuple_of := ⟨_, _, PySem.W.mg_of X G a6, fun_mk (st := s_is_tuple_of) l6 c6 k6⟩
    f_is_wish := ⟨_, _, PySem.W.mg_of X G a7, fun_mk (st := s_is_wish) l7 c7 k7⟩
    f_check_wishes := ⟨_, _, PySem.W.mg_of X G a8, fun_mk (st := s_check_wishes) l8 c8 k8⟩
    f_spans := ⟨_, _, PySem.W.mg_of X G a9, fun_mk (st := s_spans) l9 c9 k9⟩
    f_steps_of := ⟨_, _, PySem.W.mg_of X G a10, fun_mk (st := s_steps_of) l10 c10 k10⟩
    f_raw_least := ⟨_, _, PySem.W.mg_of X G a11, fun_mk (st := s_raw_least) l11 c11 k11⟩
    f_spread_out := ⟨_, _, PySem.W.mg_of X G a12, fun_mk (st := s_spread_out) l12 c12 k12⟩
    f__law_are_refused := ⟨_, _, PySem.W.mg_of X G a13, fun_mk (st := s__law_are_refused) l13 c13 k13⟩
    f__law_kept_wishes := ⟨_, _, PySem.W.mg_of X G a14, fun_mk (st := s__law_kept_wishes) l14 c14 k14⟩
    f_least_widths := ⟨_, _, PySem.W.mg_of X G a15, fun_mk (st := s_least_widths) l15 c15 k15⟩
    f__law_sums := ⟨_, _, PySem.W.mg_of X G a16, fun_mk (st := s__law_sums) l16 c16 k16⟩
    f__law_is_below := ⟨_, _, PySem.W.mg_of X G a17, fun_mk (st := s__law_is_below) l17 c17 k17⟩
    f_does_keep := ⟨_, _, PySem.W.mg_of X G a18, fun_mk (st := s_does_keep) l18 c18 k18⟩
    f_raw_is_widths := ⟨_, _, PySem.W.mg_of X G a19, fun_mk (st := s_raw_is_widths) l19 c19 k19⟩
    f_is_widths := ⟨_, _, PySem.W.mg_of X G a20, fun_mk (st := s_is_widths) l20 c20 k20⟩
    f_closed_ring := ⟨_, _, PySem.W.mg_of X G a21, fun_mk (st := s_closed_ring) l21 c21 k21⟩
    f_clash := ⟨_, _, PySem.W.mg_of X G a22, fun_mk (st := s_clash) l22 c22 k22⟩
    f__law_is_more_right := ⟨_, _, PySem.W.mg_of X G a23, fun_mk (st := s__law_is_more_right) l23 c23 k23⟩
    f__law_turned := ⟨_, _, PySem.W.mg_of X G a24, fun_mk (st := s__law_turned) l24 c24 k24⟩
    f__law_is_total_right := ⟨_, _, PySem.W.mg_of X G a25, fun_mk (st := s__law_is_total_right) l25 c25 k25⟩
    f__law_are_totals_right := ⟨_, _, PySem.W.mg_of X G a26, fun_mk (st := s__law_are_totals_right) l26 c26 k26⟩
    f_law := ⟨_, _, PySem.W.mg_of X G a27, fun_mk (st := s_law) l27 c27 k27⟩
    b_all := PySem.W.mg_none_of X G z_all
    b_bool := PySem.W.mg_none_of X G z_bool
    b_enumerate := PySem.W.mg_none_of X G z_enumerate
    b_int := PySem.W.mg_none_of X G z_int
    b_isinstance := PySem.W.mg_none_of X G z_isinstance
    b_len := PySem.W.mg_none_of X G z_len
    b_list := PySem.W.mg_none_of X G z_list
    b_max := PySem.W.mg_none_of X G z_max
    b_min := PySem.W.mg_none_of X G z_min
    b_range := PySem.W.mg_none_of X G z_range
    b_str := PySem.W.mg_none_of X G z_str
    b_sum := PySem.W.mg_none_of X G z_sum
    b_tuple := PySem.W.mg_none_of X G z_tuple
    b_zip := PySem.W.mg_none_of X G z_zip
    m_LEAST := ⟨_, PySem.W.mg_of X G v_LEAST⟩
    m_MOST := ⟨_, PySem.W.mg_of X G v_MOST⟩
    m_MOST_COLUMNS := ⟨_, PySem.W.mg_of X G v_MOST_COLUMNS⟩
    m_MOST_TOTAL := ⟨_, PySem.W.mg_of X G v_MOST_TOTAL⟩
    m_MOST_WIDE := ⟨_, PySem.W.mg_of X G v_MOST_WIDE⟩
    m_MOST_WISHES := ⟨_, PySem.W.mg_of X G v_MOST_WISHES⟩
    m_NONE := ⟨_, PySem.W.mg_of X G v_NONE⟩
    c_NoColumns := ⟨e_NoColumns, PySem.W.mg_of X G ea_NoColumns, ex_NoColumns, ek_NoColumns, es_NoColumns, et_NoColumns⟩
    c_NoNumber := ⟨e_NoNumber, PySem.W.mg_of X G ea_NoNumber, ex_NoNumber, ek_NoNumber, es_NoNumber, et_NoNumber⟩
    c_NoWishes := ⟨e_NoWishes, PySem.W.mg_of X G ea_NoWishes, ex_NoWishes, ek_NoWishes, es_NoWishes, et_NoWishes⟩
    y_b := ⟨e_PressError, PySem.W.mg_of X G ea_PressError⟩
    y_NoColumns := ⟨e_NoColumns, PySem.W.mg_of X G ea_NoColumns⟩
    y_NoWishes := ⟨e_NoWishes, PySem.W.mg_of X G ea_NoWishes⟩
    y_NoNumber := ⟨e_NoNumber, PySem.W.mg_of X G ea_NoNumber⟩
    y_x := by
      intro nm hn D hD
      simp only [List.mem_cons, List.not_mem_nil, or_false] at hn
      rcases hn with rfl | rfl | rfl
      · obtain rfl := mg_ref (PySem.W.mg_of X G ea_NoColumns) hD; exact ⟨⟨xg_NoColumns, xk_NoColumns, es_NoColumns, xd_NoColumns, xa_NoColumns, xn, xt, xm_NoColumns⟩, kit_val xv_NoColumns⟩
      · obtain rfl := mg_ref (PySem.W.mg_of X G ea_NoWishes) hD; exact ⟨⟨xg_NoWishes, xk_NoWishes, es_NoWishes, xd_NoWishes, xa_NoWishes, xn, xt, xm_NoWishes⟩, kit_val xv_NoWishes⟩
      · obtain rfl := mg_ref (PySem.W.mg_of X G ea_NoNumber) hD; exact ⟨⟨xg_NoNumber, xk_NoNumber, es_NoNumber, xd_NoNumber, xa_NoNumber, xn, xt, xm_NoNumber⟩, kit_val xv_NoNumber⟩
    y_p := by
      intro nm hn D B hD hB
      obtain rfl := mg_ref (PySem.W.mg_of X G ea_PressError) hB
      simp only [List.mem_cons, List.not_mem_nil, or_false] at hn
      rcases hn with rfl | rfl | rfl
      · obtain rfl := mg_ref (PySem.W.mg_of X G ea_NoColumns) hD; exact PySem.W.exm_ref es_PressError xd_PressError et_PressError xp_NoColumns
      · obtain rfl := mg_ref (PySem.W.mg_of X G ea_NoWishes) hD; exact PySem.W.exm_ref es_PressError xd_PressError et_PressError xp_NoWishes
      · obtain rfl := mg_ref (PySem.W.mg_of X G ea_NoNumber) hD; exact PySem.W.exm_ref es_PressError xd_PressError et_PressError xp_NoNumber
    y_k := by
      intro nm hn nm2 hn2 D D2 hD hD2
      simp only [List.mem_cons, List.not_mem_nil, or_false] at hn hn2
      rcases hn with rfl | rfl | rfl
      · obtain rfl := mg_ref (PySem.W.mg_of X G ea_NoColumns) hD
        rcases hn2 with rfl | rfl | rfl
        · obtain rfl := mg_ref (PySem.W.mg_of X G ea_NoColumns) hD2; exact kit_same.trans (by decide)
        · obtain rfl := mg_ref (PySem.W.mg_of X G ea_NoWishes) hD2; exact (kit_own xd_NoWishes et_NoWishes xx_NoColumns_NoWishes xn_NoColumns_NoWishes).trans (by decide)
        · obtain rfl := mg_ref (PySem.W.mg_of X G ea_NoNumber) hD2; exact (kit_own xd_NoNumber et_NoNumber xx_NoColumns_NoNumber xn_NoColumns_NoNumber).trans (by decide)
      · obtain rfl := mg_ref (PySem.W.mg_of X G ea_NoWishes) hD
        rcases hn2 with rfl | rfl | rfl
        · obtain rfl := mg_ref (PySem.W.mg_of X G ea_NoColumns) hD2; exact (kit_own xd_NoColumns et_NoColumns xx_NoWishes_NoColumns xn_NoWishes_NoColumns).trans (by decide)
        · obtain rfl := mg_ref (PySem.W.mg_of X G ea_NoWishes) hD2; exact kit_same.trans (by decide)
        · obtain rfl := mg_ref (PySem.W.mg_of X G ea_NoNumber) hD2; exact (kit_own xd_NoNumber et_NoNumber xx_NoWishes_NoNumber xn_NoWishes_NoNumber).trans (by decide)
      · obtain rfl := mg_ref (PySem.W.mg_of X G ea_NoNumber) hD
        rcases hn2 with rfl | rfl | rfl
        · obtain rfl := mg_ref (PySem.W.mg_of X G ea_NoColumns) hD2; exact (kit_own xd_NoColumns et_NoColumns xx_NoNumber_NoColumns xn_NoNumber_NoColumns).trans (by decide)
        · obtain rfl := mg_ref (PySem.W.mg_of X G ea_NoWishes) hD2; exact (kit_own xd_NoWishes et_NoWishes xx_NoNumber_NoWishes xn_NoNumber_NoWishes).trans (by decide)
        · obtain rfl := mg_ref (PySem.W.mg_of X G ea_NoNumber) hD2; exact kit_same.trans (by decide)
  }
  refine ⟨PySem.W.fnOf "law" "law" (defArgs s_law) (defBody s_law) (defScope s_law) .none kV27 dc27 pm27 an27 cd27 ct27, [(tc13, tP13, "_law_are_refused.<locals>.<lambda>")], ?_, fun s v => .of_eq rfl, fun base _ _ TB => ?_⟩
  · intro p hp
    simp only [List.mem_cons, List.not_mem_nil, or_false] at hp
    rcases hp with rfl
    · obtain ⟨dx, hdx⟩ := Option.isSome_iff_exists.mp tr13
      exact ⟨⟨"_law_are_refused", dx, hdx, tab_in a13 l13 td13 tl13 tk13⟩, tn13⟩
  · letI : TabsC := tabsOf [(tc13, tP13, "_law_are_refused.<locals>.<lambda>")]
    have U : Tbl K mg base := {
      t__law_are_refused := tab_mk (PySem.W.mg_of X G a13) l13 td13 (TB (tc13, tP13, "_law_are_refused.<locals>.<lambda>") (by simp)) (by show _ ∈ List.map (fun p : Addr × Addr × Str => p.2) [(tc13, tP13, "_law_are_refused.<locals>.<lambda>")]; simp) (by
        intro p hp e
        have hp : p ∈ List.map (fun p : Addr × Addr × Str => p.2) [(tc13, tP13, "_law_are_refused.<locals>.<lambda>")] := hp
        simp only [List.map_cons, List.map_nil, List.mem_cons, List.not_mem_nil, or_false] at hp
        rcases hp with rfl
        · rfl
        )
      t_no := trivial
    }
    exact law_fn hg (ok_law T U) hfa (fun_mk (st := s_law) l27 c27 k27)
end K24

/-! k24: the flow (printed by hand.py). -/
namespace K24
open PySem L2 Ev
variable [TabsC]
theorem draw {c : C} (h : IsFlow c) {many : Int} (h1 : 1 ≤ many) (h2 : many < 1073741824) : ∃ c' k, IsFlow c' ∧ 0 ≤ k ∧ k < many ∧ g__law_draw [.own true c, .val (.int many)] = .ok (.d (.int k), [.own true c', .val (.int many)]) := by
  obtain ⟨cells, i, s, b, hi, rfl⟩ := h
  have m0 : 0 < many := by omega
  have md : ∀ x : Int, gMod (.int x) (.int many) = some (.int (x % many)) := fun x => fm m0
  have dv : ∀ x : Int, gFdiv (.int x) (.int many) = some (.int (x / many)) := fun x => fd ⟨m0, h2⟩
  have m5 : ∀ x : Int, gMod (.int x) (.int 5) = some (.int (x % 5)) := fun x => fm (by decide)
  have mA : ∀ x : Int, gMod (.int x) (.int 2147483629) = some (.int (x % 2147483629)) := fun x => fm (by decide)
  have mB : ∀ x : Int, gMod (.int x) (.int 2147483647) = some (.int (x % 2147483647)) := fun x => fm (by decide)
  have dA : ∀ x : Int, gFdiv (.int x) (.int 64) = some (.int (x / 64)) := fun x => fd (by decide)
  have pA : ∀ x : Int, gMulA (.int x) (.int 48271) = some (.int (x * 48271)) := fun x => mulR (by decide)
  have em : ∀ x : Int, 0 ≤ x % many ∧ x % many < many := fun x => ⟨Int.emod_nonneg x (by omega), Int.emod_lt_of_pos x m0⟩
  unfold g__law_draw b__law_draw
  rw [fnRun_fin]
  by_cases hb : 0 < b
  · simp [flw, fx0, fx1, fx2, fx3, fp1, fp2, fp3, md, dv, hb]
    exact ⟨_, isFlow _ _ _ _ hi, _, (em _).1, (em _).2, rfl, rfl⟩
  · by_cases hl : i < cells.length
    · obtain ⟨j, rfl⟩ := Int.eq_ofNat_of_zero_le hi
      have hj : j < cells.length := by omega
      have gc : gIxA (.lst (cells.map .int)) (.int j) = some (.int cells[j]) := gIxA_l (by simp [hj])
      by_cases hc : (1000000000000000000 : Int) ≤ cells[j]
      · simp [flw, fx0, fx1, fx2, fx3, fp1, fp2, fp3, md, dv, hb, hl, gc, hc, m5, pw18]
        exact ⟨_, isFlow _ _ _ _ (by omega), _, (em _).1, (em _).2, rfl, rfl⟩
      · simp [flw, fx0, fx1, fx2, fx3, fp1, fp2, fp3, md, dv, hb, hl, gc, hc, m5, mA, mB, dA, pA, pw18]
        exact ⟨_, isFlow _ _ _ _ (by omega), _, (em _).1, (em _).2, rfl, rfl⟩
    · have h5 : ¬ (1000000000000000000 : Int) ≤ i % 5 := by omega
      simp [flw, fx0, fx1, fx2, fx3, fp1, fp2, fp3, md, dv, hb, hl, h5, m5, mA, mB, dA, pA, pw18]
      exact ⟨_, isFlow _ _ _ _ (by omega), _, (em _).1, (em _).2, rfl, rfl⟩
theorem e_hand (ns : List Int) : ∃ c, IsFlow c ∧ g__law_flow [.val (.lst (ns.map .int))] = .ok (.o c, [.val (.lst (ns.map .int))]) := by
  unfold g__law_flow b__law_flow
  rw [fnRun_fin]
  simp
  exact ⟨ns, 0, 24, 0, Int.le_refl 0, rfl⟩
theorem e_some {c : C} (hc : IsFlow c) {ds : List D} (h1 : ds ≠ []) (h2 : ds.length ≤ 1000) : ∃ c' d, IsFlow c' ∧ d ∈ ds ∧ g__law_some [.own true c, .val (.lst ds)] = .ok (.d d, [.own true c', .val (.lst ds)]) := by
  have hl : 1 ≤ ds.length := by
    cases ds with
    | nil => exact absurd rfl h1
    | cons _ _ => simp
  obtain ⟨c', k, hc', k0, k1, e⟩ := draw hc (many := (ds.length : Int)) (by omega) (by omega)
  obtain ⟨j, rfl⟩ := Int.eq_ofNat_of_zero_le k0
  have hj : j < ds.length := by omega
  refine ⟨c', ds[j], hc', List.getElem_mem hj, ?_⟩
  unfold g__law_some b__law_some
  rw [fnRun_fin]
  have ix : gIxA (.lst ds) (.int j) = some ds[j] := gIxA_l (List.getElem?_eq_getElem hj)
  simp [e, ix]
theorem g_integer (d : D) : g_is_integer [.val d] = .ok (.d (.bl (isI d)), [.val d]) := by
  unfold g_is_integer b_is_integer
  rw [fnRun_fin]
  cases d <;> simp [D.isInt, D.isBl, isI]
theorem g_within (d : D) (a b : Int) : g_is_within [.val d, .val (.int a), .val (.int b)] = .ok (.d (.bl (inW a b d)), [.val d, .val (.int a), .val (.int b)]) := by
  unfold g_is_within b_is_within
  rw [fnRun_fin]
  cases d with
  | int i => by_cases h : a ≤ i <;> simp [g_integer, isI, inW, h]
  | _ => simp [g_integer, isI, inW]
end K24

/-! k24: least solutions of steps, plainly. -/
namespace K24
open PySem L2 Ev
variable [TabsC]
/-- a step: from u to v at least w -/
structure Sp where
  u : Nat
  v : Nat
  w : Int
  t : D
def upF (f : Nat → Int) (v : Nat) (a : Int) : Nat → Int := fun i => if i = v then a else f i
def lt1 (f : Nat → Int) (s : Sp) : Prop := f s.v < f s.u + s.w
instance (f : Nat → Int) (s : Sp) : Decidable (lt1 f s) := inferInstanceAs (Decidable (_ < _))
def rlx (f : Nat → Int) (s : Sp) : Nat → Int := if lt1 f s then upF f s.v (f s.u + s.w) else f
def pas (ss : List Sp) (f : Nat → Int) : Nat → Int := ss.foldl rlx f
def chg : List Sp → (Nat → Int) → Bool
  | [], _ => false
  | s :: ss, f => decide (lt1 f s) || chg ss (rlx f s)
def Sol (ss : List Sp) (x : Nat → Int) : Prop := ∀ s ∈ ss, x s.u + s.w ≤ x s.v
theorem rlx_ge (f : Nat → Int) (s : Sp) (i : Nat) : f i ≤ rlx f s i := by
  unfold rlx
  split
  · rename_i h
    unfold lt1 at h
    unfold upF
    split
    · rename_i e; subst e; omega
    · exact Int.le_refl _
  · exact Int.le_refl _
theorem rlx_at (f : Nat → Int) (s : Sp) : f s.u + s.w ≤ rlx f s s.v := by
  unfold rlx
  split
  · unfold upF; rw [if_pos rfl]; exact Int.le_refl _
  · rename_i h; unfold lt1 at h; omega
theorem rlx_le {f x : Nat → Int} {s : Sp} (h : ∀ i, f i ≤ x i) (hx : x s.u + s.w ≤ x s.v) (i : Nat) : rlx f s i ≤ x i := by
  unfold rlx
  split
  · unfold upF
    split
    · rename_i e; subst e; have := h s.u; omega
    · exact h i
  · exact h i
theorem pas_cons (s : Sp) (ss : List Sp) (f : Nat → Int) : pas (s :: ss) f = pas ss (rlx f s) := rfl
theorem pas_ge : ∀ (ss : List Sp) (f : Nat → Int) (i : Nat), f i ≤ pas ss f i
  | [], _, _ => Int.le_refl _
  | s :: ss, f, i => Int.le_trans (rlx_ge f s i) (pas_ge ss (rlx f s) i)
theorem pas_le {x : Nat → Int} : ∀ {ss : List Sp} {f : Nat → Int}, Sol ss x → (∀ i, f i ≤ x i) → ∀ i, pas ss f i ≤ x i
  | [], _, _, h, i => h i
  | s :: ss, f, hs, h, i => pas_le (ss := ss) (fun t ht => hs t (List.mem_cons_of_mem _ ht)) (rlx_le h (hs s List.mem_cons_self)) i
theorem pas_step : ∀ {ss : List Sp} {f : Nat → Int} {s : Sp}, s ∈ ss → f s.u + s.w ≤ pas ss f s.v
  | t :: ss, f, s, h => by
    rw [pas_cons]
    rcases List.mem_cons.mp h with rfl | h
    · exact Int.le_trans (rlx_at f s) (pas_ge ss _ _)
    · have := pas_step (f := rlx f t) h
      have := rlx_ge f t s.u
      omega
theorem chg_no : ∀ {ss : List Sp} {f : Nat → Int}, chg ss f = false → Sol ss f ∧ pas ss f = f
  | [], _, _ => ⟨fun _ h => (nomatch h), rfl⟩
  | s :: ss, f, h => by
    have h : (decide (lt1 f s) || chg ss (rlx f s)) = false := h
    rw [Bool.or_eq_false_iff, decide_eq_false_iff_not] at h
    have e : rlx f s = f := by unfold rlx; rw [if_neg h.1]
    rw [e] at h
    obtain ⟨a, b⟩ := chg_no h.2
    refine ⟨fun t ht => ?_, by rw [pas_cons, e, b]⟩
    rcases List.mem_cons.mp ht with rfl | ht
    · have := h.1; unfold lt1 at this; omega
    · exact a t ht
theorem chg_sol : ∀ {ss : List Sp} {f : Nat → Int}, Sol ss f → chg ss f = false
  | [], _, _ => rfl
  | s :: ss, f, h => by
    have n : ¬ lt1 f s := by have := h s List.mem_cons_self; unfold lt1; omega
    show (decide (lt1 f s) || chg ss (rlx f s)) = false
    have e : rlx f s = f := by unfold rlx; rw [if_neg n]
    rw [decide_eq_false n, e, chg_sol fun t ht => h t (List.mem_cons_of_mem _ ht)]
    rfl
/-- what changes, changes somewhere -/
theorem chg_yes : ∀ {ss : List Sp} {f : Nat → Int}, chg ss f = true → ∃ s ∈ ss, f s.v < pas ss f s.v
  | [], _, h => by cases h
  | s :: ss, f, h => by
    have h : (decide (lt1 f s) || chg ss (rlx f s)) = true := h
    by_cases c : lt1 f s
    · refine ⟨s, List.mem_cons_self, ?_⟩
      rw [pas_cons]
      have a := rlx_at f s
      have b := pas_ge ss (rlx f s) s.v
      unfold lt1 at c
      omega
    · rw [decide_eq_false c, Bool.false_or] at h
      obtain ⟨t, ht, lt⟩ := chg_yes h
      have e : rlx f s = f := by unfold rlx; rw [if_neg c]
      rw [e] at lt
      exact ⟨t, List.mem_cons_of_mem _ ht, by rw [pas_cons, e]; exact lt⟩
/-- k passes -/
def FF (ss : List Sp) : Nat → Nat → Int
  | 0 => fun _ => 0
  | k + 1 => pas ss (FF ss k)
theorem ff_mono (ss : List Sp) (i : Nat) : ∀ {k : Nat} (j : Nat), FF ss k i ≤ FF ss (k + j) i
  | k, 0 => Int.le_refl _
  | k, j + 1 => Int.le_trans (ff_mono ss i j) (pas_ge ss _ _)
theorem ff_nn (ss : List Sp) (k i : Nat) : 0 ≤ FF ss k i := by
  have := ff_mono ss i (k := 0) k
  rw [Nat.zero_add] at this
  exact this
theorem ff_le {ss : List Sp} {x : Nat → Int} (h : Sol ss x) (nn : ∀ i, 0 ≤ x i) : ∀ k i, FF ss k i ≤ x i
  | 0, i => nn i
  | k + 1, i => pas_le h (ff_le h nn k) i
/-- the least solution that is nowhere below 0 -/
structure Lea (ss : List Sp) (d : Nat → Int) : Prop where
  s : Sol ss d
  n : ∀ i, 0 ≤ d i
  l : ∀ x, Sol ss x → (∀ i, 0 ≤ x i) → ∀ i, d i ≤ x i
theorem cnt_lt {p q : Nat → Bool} : ∀ {l : List Nat}, (∀ i ∈ l, q i = true → p i = true) → (∃ j ∈ l, p j = true ∧ q j = false) → l.countP q < l.countP p
  | [], _, ⟨_, h, _⟩ => by cases h
  | i :: l, h, ⟨j, hj, pj, qj⟩ => by
    have le : ∀ {l : List Nat}, (∀ i ∈ l, q i = true → p i = true) → l.countP q ≤ l.countP p := by
      intro l h
      exact List.countP_mono_left h
    rw [List.countP_cons, List.countP_cons]
    have ht : ∀ i ∈ l, q i = true → p i = true := fun i hi => h i (List.mem_cons_of_mem _ hi)
    rcases List.mem_cons.mp hj with rfl | hj
    · have := le ht
      rw [pj, qj]
      simp
      omega
    · have ih := cnt_lt ht ⟨j, hj, pj, qj⟩
      have := h i List.mem_cons_self
      cases hq : q i <;> cases hp : p i <;> simp [hq, hp] at this ⊢ <;> omega
def sumTo (n : Nat) (f : Nat → Int) : Int := ((List.range n).map f).sum
theorem sum_le_of {f g : Nat → Int} : ∀ {l : List Nat}, (∀ i ∈ l, f i ≤ g i) → (l.map f).sum ≤ (l.map g).sum
  | [], _ => Int.le_refl _
  | i :: l, h => by
    have := sum_le_of (l := l) fun j hj => h j (List.mem_cons_of_mem _ hj)
    have := h i List.mem_cons_self
    simp only [List.map_cons, List.sum_cons]
    omega
theorem sum_lt_of {f g : Nat → Int} : ∀ {l : List Nat}, (∀ i ∈ l, f i ≤ g i) → (∃ j ∈ l, f j < g j) → (l.map f).sum < (l.map g).sum
  | [], _, ⟨_, h, _⟩ => by cases h
  | i :: l, h, ⟨j, hj, lt⟩ => by
    have a := h i List.mem_cons_self
    simp only [List.map_cons, List.sum_cons]
    rcases List.mem_cons.mp hj with rfl | hj
    · have := sum_le_of (l := l) fun j hj => h j (List.mem_cons_of_mem _ hj)
      omega
    · have := sum_lt_of (l := l) (fun j hj => h j (List.mem_cons_of_mem _ hj)) ⟨j, hj, lt⟩
      omega
theorem lea_exists {ss : List Sp} {n : Nat} (hn : ∀ s ∈ ss, s.u < n ∧ s.v < n) {x : Nat → Int} (h : Sol ss x) (nn : ∀ i, 0 ≤ x i) : ∃ d, Lea ss d := by
  have key : ∀ m k : Nat, sumTo n x - sumTo n (FF ss k) ≤ m → ∃ d, Lea ss d := by
    intro m
    induction m with
    | zero =>
      intro k hk
      cases c : chg ss (FF ss k) with
      | false => exact ⟨FF ss k, (chg_no c).1, fun i => ff_nn ss k i, fun y hy ny i => ff_le hy ny k i⟩
      | true =>
        exfalso
        obtain ⟨s, hs, lt⟩ := chg_yes c
        have a : sumTo n (FF ss k) < sumTo n (FF ss (k + 1)) := sum_lt_of (fun i _ => pas_ge ss _ i) ⟨s.v, List.mem_range.mpr (hn s hs).2, lt⟩
        have b : sumTo n (FF ss (k + 1)) ≤ sumTo n x := sum_le_of fun i _ => ff_le h nn (k + 1) i
        omega
    | succ m ih =>
      intro k hk
      cases c : chg ss (FF ss k) with
      | false => exact ⟨FF ss k, (chg_no c).1, fun i => ff_nn ss k i, fun y hy ny i => ff_le hy ny k i⟩
      | true =>
        obtain ⟨s, hs, lt⟩ := chg_yes c
        have a : sumTo n (FF ss k) < sumTo n (FF ss (k + 1)) := sum_lt_of (fun i _ => pas_ge ss _ i) ⟨s.v, List.mem_range.mpr (hn s hs).2, lt⟩
        exact ih (k + 1) (by omega)
  exact key (sumTo n x - sumTo n (FF ss 0)).toNat 0 (by omega)
/-- how many are not there yet -/
def mis (ss : List Sp) (n : Nat) (d : Nat → Int) (k : Nat) : Nat := (List.range n).countP fun i => decide (FF ss k i ≠ d i)
theorem ff_out {ss : List Sp} {n : Nat} (hn : ∀ s ∈ ss, s.u < n ∧ s.v < n) {i : Nat} (hi : n ≤ i) : ∀ k, FF ss k i = 0 := by
  have key : ∀ {ss : List Sp} {f : Nat → Int}, (∀ s ∈ ss, s.u < n ∧ s.v < n) → pas ss f i = f i := by
    intro ss
    induction ss with
    | nil => intro f _; rfl
    | cons s ss ih =>
      intro f h
      rw [pas_cons, ih fun t ht => h t (List.mem_cons_of_mem _ ht)]
      unfold rlx
      split
      · unfold upF
        have := (h s List.mem_cons_self).2
        rw [if_neg (by omega)]
      · rfl
  intro k
  induction k with
  | zero => rfl
  | succ k ih => show pas ss (FF ss k) i = 0; rw [key hn, ih]
theorem lea_out {ss : List Sp} {n : Nat} (hn : ∀ s ∈ ss, s.u < n ∧ s.v < n) {d : Nat → Int} (L : Lea ss d) {i : Nat} (hi : n ≤ i) : d i = 0 := by
  have a := L.n i
  have b := L.l (fun j => if j < n then d j else 0) (fun s hs => by
    obtain ⟨h1, h2⟩ := hn s hs
    simp only [h1, h2, if_true]
    exact L.s s hs) (fun j => by split; exact L.n j; exact Int.le_refl 0) i
  rw [if_neg (by omega)] at b
  omega
theorem mis_lt {ss : List Sp} {n : Nat} (hn : ∀ s ∈ ss, s.u < n ∧ s.v < n) {d : Nat → Int} (L : Lea ss d) (k : Nat) (h : 0 < mis ss n d k) : mis ss n d (k + 1) < mis ss n d k := by
  have fle := ff_le L.s L.n
  -- some vertex is off
  obtain ⟨j, hj, nj⟩ : ∃ j, j < n ∧ FF ss k j ≠ d j := by
    obtain ⟨j, hj, p⟩ := List.countP_pos_iff.mp h
    exact ⟨j, List.mem_range.mp hj, by simpa using p⟩
  -- lowered where it is off
  have nsol : ¬ Sol ss fun i => if FF ss k i = d i then d i else d i - 1 := fun hs => by
    have := L.l _ hs (fun i => by
      split
      · exact L.n i
      · rename_i e
        have := fle k i
        have := ff_nn ss k i
        omega) j
    rw [if_neg nj] at this
    omega
  obtain ⟨s, hs, bad⟩ : ∃ s ∈ ss, ¬ ((if FF ss k s.u = d s.u then d s.u else d s.u - 1) + s.w ≤ if FF ss k s.v = d s.v then d s.v else d s.v - 1) := by
    by_cases q : ∃ s ∈ ss, ¬ ((if FF ss k s.u = d s.u then d s.u else d s.u - 1) + s.w ≤ if FF ss k s.v = d s.v then d s.v else d s.v - 1)
    · exact q
    · exact absurd (fun s hs => by
        by_cases z : (if FF ss k s.u = d s.u then d s.u else d s.u - 1) + s.w ≤ if FF ss k s.v = d s.v then d s.v else d s.v - 1
        · exact z
        · exact absurd ⟨s, hs, z⟩ q) nsol
  have so := L.s s hs
  have eu : FF ss k s.u = d s.u := by
    by_cases z : FF ss k s.u = d s.u
    · exact z
    · exfalso; rw [if_neg z] at bad; split at bad <;> omega
  rw [if_pos eu] at bad
  have nv : FF ss k s.v ≠ d s.v := fun z => by rw [if_pos z] at bad; omega
  rw [if_neg nv] at bad
  have st := pas_step (f := FF ss k) hs
  have ev : FF ss (k + 1) s.v = d s.v := by
    have := fle (k + 1) s.v
    have : FF ss k s.u + s.w ≤ FF ss (k + 1) s.v := st
    omega
  refine cnt_lt (fun i _ hi => ?_) ⟨s.v, List.mem_range.mpr (hn s hs).2, by simpa using nv, by simp [ev]⟩
  have hi : FF ss (k + 1) i ≠ d i := by simpa using hi
  have : FF ss k i ≠ d i := fun z => by
    have a := ff_mono ss i (k := k) 1
    have b := fle (k + 1) i
    omega
  simpa using this
/-- as many passes as there are vertices but one -/
theorem ff_done {ss : List Sp} {n : Nat} (h1 : 1 ≤ n) (hn : ∀ s ∈ ss, s.u < n ∧ s.v < n) {d : Nat → Int} (L : Lea ss d) : FF ss (n - 1) = d := by
  have m0 : mis ss n d 0 ≤ n - 1 := by
    have lt : mis ss n d 0 < (List.range n).countP fun _ => true := by
      refine cnt_lt (fun _ _ _ => rfl) ?_
      by_cases q : ∃ j ∈ List.range n, d j = 0
      · obtain ⟨j, hj, e⟩ := q
        exact ⟨j, hj, rfl, by simp [FF, e]⟩
      · exfalso
        have ge : ∀ i, i < n → 1 ≤ d i := fun i hi => by
          have := L.n i
          have : d i ≠ 0 := fun z => q ⟨i, List.mem_range.mpr hi, z⟩
          omega
        have := L.l (fun i => if i < n then d i - 1 else 0) (fun s hs => by
          obtain ⟨a, b⟩ := hn s hs
          simp only [a, b, if_true]
          have := L.s s hs
          omega) (fun i => by
          split
          · rename_i hi; have := ge i hi; omega
          · exact Int.le_refl 0) 0
        rw [if_pos (by omega)] at this
        omega
    rw [List.countP_true, List.length_range] at lt
    omega
  have key : ∀ k, mis ss n d k + k ≤ n - 1 ∨ mis ss n d k = 0 := by
    intro k
    induction k with
    | zero => left; omega
    | succ k ih =>
      by_cases z : mis ss n d k = 0
      · right
        have : (List.range n).countP (fun i => decide (FF ss (k + 1) i ≠ d i)) ≤ (List.range n).countP fun i => decide (FF ss k i ≠ d i) := List.countP_mono_left fun i _ hi => by
          have hi : FF ss (k + 1) i ≠ d i := by simpa using hi
          have : FF ss k i ≠ d i := fun z => by
            have a := ff_mono ss i (k := k) 1
            have b := ff_le L.s L.n (k + 1) i
            omega
          simpa using this
        have e : mis ss n d k = (List.range n).countP fun i => decide (FF ss k i ≠ d i) := rfl
        have e2 : mis ss n d (k + 1) = (List.range n).countP fun i => decide (FF ss (k + 1) i ≠ d i) := rfl
        omega
      · have := mis_lt hn L k (by omega)
        rcases ih with ih | ih
        · left; omega
        · exact absurd ih z
  have z : mis ss n d (n - 1) = 0 := by
    rcases key (n - 1) with h | h <;> omega
  funext i
  by_cases hi : i < n
  · have := List.countP_eq_zero.mp z i (List.mem_range.mpr hi)
    simpa using this
  · rw [ff_out hn (by omega), lea_out hn L (by omega)]
end K24

/-! k24: where no widths are, a ring is closed. -/
namespace K24
open PySem L2 Ev
variable [TabsC]
abbrev Cm := Nat → Option Sp
def upC (cm : Cm) (s : Sp) : Cm := fun i => if i = s.v then some s else cm i
/-- going back from here until e is met -/
def rg (cm : Cm) (e : Nat) : Nat → Nat → List Sp → Option (List Sp)
  | 0, _, _ => none
  | k + 1, here, fd => match cm here with
    | none => none
    | some s => if s.u = e then some (fd ++ [s]) else rg cm e k s.u (fd ++ [s])
/-- so many steps lead back from x -/
inductive Ln (cm : Cm) : Nat → Nat → Prop where
  | no {x : Nat} (h : cm x = none) : Ln cm 0 x
  | st {x k : Nat} {s : Sp} (h : cm x = some s) (q : Ln cm k s.u) : Ln cm (k + 1) x
theorem Ln.uni {cm : Cm} {k x : Nat} (a : Ln cm k x) : ∀ {j : Nat}, Ln cm j x → k = j := by
  induction a with
  | no h =>
    intro j b
    cases b with
    | no _ => rfl
    | st h2 _ => rw [h] at h2; cases h2
  | st h _ ih =>
    intro j b
    cases b with
    | no h2 => rw [h] at h2; cases h2
    | st h2 q2 => rw [h] at h2; cases h2; rw [ih q2]
theorem Ln.chain {cm : Cm} {n : Nat} (hin : ∀ y s, cm y = some s → s.u < n) {k x : Nat} (a : Ln cm k x) : x < n → ∃ vs : List Nat, vs.length = k + 1 ∧ vs.Nodup ∧ ∀ y ∈ vs, y < n ∧ ∃ j, j ≤ k ∧ Ln cm j y := by
  induction a with
  | @no x h => exact fun hx => ⟨[x], rfl, by simp, fun y hy => by rw [List.mem_singleton.mp hy]; exact ⟨hx, 0, Nat.le_refl _, .no h⟩⟩
  | @st x k s h q ih =>
    intro hx
    obtain ⟨vs, h1, h2, h3⟩ := ih (hin x s h)
    refine ⟨x :: vs, by simp [h1], List.nodup_cons.mpr ⟨fun hm => ?_, h2⟩, fun y hy => ?_⟩
    · obtain ⟨_, j, hj, lj⟩ := h3 x hm
      have := lj.uni (.st h q)
      omega
    · rcases List.mem_cons.mp hy with rfl | hy
      · exact ⟨hx, k + 1, Nat.le_refl _, .st h q⟩
      · obtain ⟨h4, j, hj, lj⟩ := h3 y hy
        exact ⟨h4, j, by omega, lj⟩
theorem nodup_le {n : Nat} {vs : List Nat} (h : vs.Nodup) (hv : ∀ y ∈ vs, y < n) : vs.length ≤ n := by
  have b : ((List.range n).filter fun i => decide (i ∈ vs)).Perm vs := (List.perm_ext_iff_of_nodup (List.nodup_range.filter _) h).mpr fun i => by
    rw [List.mem_filter, List.mem_range, decide_eq_true_eq]
    exact ⟨fun z => z.2, fun z => ⟨hv i z, z⟩⟩
  rw [← b.length_eq]
  have := List.length_filter_le (fun i => decide (i ∈ vs)) (List.range n)
  rw [List.length_range] at this
  exact this
theorem Ln.lt {cm : Cm} {n : Nat} (hin : ∀ y s, cm y = some s → s.u < n) {k x : Nat} (a : Ln cm k x) (hx : x < n) : k + 1 ≤ n := by
  obtain ⟨vs, h1, h2, h3⟩ := a.chain hin hx
  rw [← h1]
  exact nodup_le h2 fun y hy => (h3 y hy).1
/-- a ring, or the way back as it was -/
theorem rg_or {cm : Cm} {s : Sp} : ∀ {k y fuel : Nat} {fd : List Sp}, Ln cm k y → k < fuel → y ≠ s.v → rg (upC cm s) s.v fuel y fd ≠ none ∨ Ln (upC cm s) k y
  | k, y, fuel, fd, a, hk, hy => by
    have e : upC cm s y = cm y := by unfold upC; rw [if_neg hy]
    cases a with
    | no h => exact .inr (.no (e.trans h))
    | @st _ k t h q =>
      obtain ⟨m, rfl⟩ : ∃ m, fuel = m + 1 := ⟨fuel - 1, by omega⟩
      have er : rg (upC cm s) s.v (m + 1) y fd = if t.u = s.v then some (fd ++ [t]) else rg (upC cm s) s.v m t.u (fd ++ [t]) := by
        show (match upC cm s y with
          | none => none
          | some t => if t.u = s.v then some (fd ++ [t]) else rg (upC cm s) s.v m t.u (fd ++ [t])) = _
        rw [e, h]
      by_cases z : t.u = s.v
      · left; rw [er, if_pos z]; exact fun w => nomatch w
      · rcases rg_or (fuel := m) (fd := fd ++ [t]) q (by omega) z with w | w
        · left; rw [er, if_neg z]; exact w
        · exact .inr (.st (e.trans h) w)
theorem up_ends {cm : Cm} {s : Sp} {n : Nat} (hin : ∀ y t, cm y = some t → t.u < n) (hs : s.u < n) (ac : ∀ x, x < n → ∃ k, Ln cm k x) (nr : rg (upC cm s) s.v (n + 1) s.v [] = none) : ∀ x, x < n → ∃ k, Ln (upC cm s) k x := by
  have ev : upC cm s s.v = some s := by unfold upC; rw [if_pos rfl]
  have hv : ∃ k, Ln (upC cm s) k s.v := by
    obtain ⟨k, a⟩ := ac s.u hs
    have er : rg (upC cm s) s.v (n + 1) s.v [] = if s.u = s.v then some [s] else rg (upC cm s) s.v n s.u [s] := by
      show (match upC cm s s.v with
        | none => none
        | some t => if t.u = s.v then some ([] ++ [t]) else rg (upC cm s) s.v n t.u ([] ++ [t])) = _
      rw [ev]
      rfl
    rw [er] at nr
    by_cases z : s.u = s.v
    · rw [if_pos z] at nr; cases nr
    · rw [if_neg z] at nr
      have lk := a.lt hin hs
      rcases rg_or (fuel := n) (fd := [s]) a (by omega) z with w | w
      · exact absurd nr w
      · exact ⟨k + 1, .st ev w⟩
  have key : ∀ {k x : Nat}, Ln cm k x → ∃ k, Ln (upC cm s) k x := by
    intro k x a
    induction a with
    | @no x h =>
      by_cases z : x = s.v
      · rw [z]; exact hv
      · exact ⟨0, .no (by unfold upC; rw [if_neg z]; exact h)⟩
    | @st x k t h q ih =>
      by_cases z : x = s.v
      · rw [z]; exact hv
      · obtain ⟨j, w⟩ := ih
        exact ⟨j + 1, .st (by unfold upC; rw [if_neg z]; exact h) w⟩
  intro x hx
  obtain ⟨k, a⟩ := ac x hx
  exact key a
/-- far and came together -/
structure St where
  f : Nat → Int
  c : Cm
def sc (st : St) (s : Sp) : St := if lt1 st.f s then ⟨rlx st.f s, upC st.c s⟩ else st
/-- the ring that a step closes -/
def ring (n : Nat) (st : St) (s : Sp) : Option (List Sp) := if lt1 st.f s then rg (upC st.c s) s.v (n + 1) s.v [] else none
theorem sc_f (st : St) (s : Sp) : (sc st s).f = rlx st.f s := by
  unfold sc
  split
  · rfl
  · rename_i h; unfold rlx; rw [if_neg h]
/-- pass p, with so many steps scanned; rk tells the last pass in which a vertex was raised -/
structure RI (ss : List Sp) (n p : Nat) (dn : List Sp) (st : St) (rk : Nat → Nat) : Prop where
  a : ∀ x, x < n → ∃ k, Ln st.c k x
  i : ∀ x s, st.c x = some s → s ∈ ss
  e : ∀ x s, st.c x = some s → rk x ≤ rk s.u + 1
  z : ∀ x, st.c x = none → rk x = 0
  b : ∀ x, rk x ≤ p
  j : ∀ s ∈ ss, rk s.u + 1 < p → ¬ lt1 st.f s
  k : ∀ s ∈ dn, rk s.u < p → ¬ lt1 st.f s
section
variable {ss : List Sp} {n p : Nat} {dn : List Sp} {st : St} {rk : Nat → Nat}
theorem Ln.rank {cm : Cm} (e : ∀ x s, cm x = some s → rk x ≤ rk s.u + 1) (z : ∀ x, cm x = none → rk x = 0) {k x : Nat} (a : Ln cm k x) : rk x ≤ k := by
  induction a with
  | no h => rw [z _ h]; exact Nat.le_refl _
  | st h _ ih => have := e _ _ h; omega
theorem ri_no (r : RI ss n p dn st rk) {s : Sp} (h : ¬ lt1 st.f s) : RI ss n p (dn ++ [s]) (sc st s) rk := by
  have e : sc st s = st := by unfold sc; rw [if_neg h]
  rw [e]
  refine ⟨r.a, r.i, r.e, r.z, r.b, r.j, fun t ht lt => ?_⟩
  rcases List.mem_append.mp ht with ht | ht
  · exact r.k t ht lt
  · rw [List.mem_singleton.mp ht]; exact h
theorem ri_up (hn : ∀ s ∈ ss, s.u < n ∧ s.v < n) (p1 : 1 ≤ p) (r : RI ss n p dn st rk) (hd : ∀ t ∈ dn, t ∈ ss) {s : Sp} (hs : s ∈ ss) (h : lt1 st.f s) (nr : ring n st s = none) :
    p + 1 ≤ n ∧ RI ss n p (dn ++ [s]) (sc st s) (fun i => if i = s.v then p else rk i) := by
  have e : sc st s = ⟨rlx st.f s, upC st.c s⟩ := by unfold sc; rw [if_pos h]
  unfold ring at nr
  rw [if_pos h] at nr
  have hin : ∀ y t, st.c y = some t → t.u < n := fun y t q => (hn t (r.i y t q)).1
  have ends := up_ends hin (hn s hs).1 r.a nr
  -- the step's begin was raised of late
  have late : p ≤ rk s.u + 1 := by
    by_cases c : p ≤ rk s.u + 1
    · exact c
    · exact absurd h (r.j s hs (by omega))
  have ci : ∀ x t, upC st.c s x = some t → t ∈ ss := fun x t q => by
    unfold upC at q
    split at q
    · cases q; exact hs
    · exact r.i x t q
  have ce : ∀ x t, upC st.c s x = some t → (if x = s.v then p else rk x) ≤ (if t.u = s.v then p else rk t.u) + 1 := fun x t q => by
    unfold upC at q
    split at q
    · rename_i hx
      cases q
      rw [if_pos hx]
      split
      · omega
      · exact late
    · rename_i hx
      rw [if_neg hx]
      have h1 := r.e x t q
      have h2 := r.b t.u
      have h3 := r.b x
      split <;> omega
  have cz : ∀ x, upC st.c s x = none → (if x = s.v then p else rk x) = 0 := fun x q => by
    unfold upC at q
    split at q
    · cases q
    · rename_i hx; rw [if_neg hx]; exact r.z x q
  have fe : ∀ i, i ≠ s.v → rlx st.f s i = st.f i := fun i hi => by
    unfold rlx
    rw [if_pos h]
    unfold upF
    rw [if_neg hi]
  have keep : ∀ t, t.u ≠ s.v → ¬ lt1 st.f t → ¬ lt1 (rlx st.f s) t := fun t ht nl => by
    unfold lt1 at nl ⊢
    have := rlx_ge st.f s t.v
    rw [fe t.u ht]
    omega
  refine ⟨?_, ?_⟩
  · obtain ⟨k, a⟩ := ends s.v (hn s hs).2
    have l1 := a.lt (n := n) (fun y t q => (hn t (ci y t q)).1) (hn s hs).2
    have l2 := Ln.rank (rk := fun i => if i = s.v then p else rk i) ce cz a
    simp only [if_true] at l2
    omega
  · rw [e]
    refine ⟨ends, ci, ce, cz, fun x => ?_, fun t ht lt => ?_, fun t ht lt => ?_⟩
    · have := r.b x
      show (if x = s.v then p else rk x) ≤ p
      split <;> omega
    · by_cases hu : t.u = s.v
      · simp only [hu, if_true] at lt; omega
      · simp only [hu, if_false] at lt
        exact keep t hu (r.j t ht lt)
    · by_cases hu : t.u = s.v
      · simp only [hu, if_true] at lt; omega
      · simp only [hu, if_false] at lt
        rcases List.mem_append.mp ht with ht | ht
        · exact keep t hu (r.k t ht lt)
        · rw [List.mem_singleton.mp ht] at hu ⊢
          have a := rlx_at st.f s
          rw [← fe s.u hu] at a
          show ¬ (rlx st.f s s.v < rlx st.f s s.u + s.w)
          omega
end
/-- the states of one pass -/
def scs (ss : List Sp) (st : St) : St := ss.foldl sc st
theorem scs_f : ∀ (ss : List Sp) (st : St), (scs ss st).f = pas ss st.f
  | [], _ => rfl
  | s :: ss, st => by
    show (scs ss (sc st s)).f = pas ss (rlx st.f s)
    rw [scs_f ss, sc_f]
/-- a ring in this pass -/
def rings (n : Nat) : List Sp → St → Bool
  | [], _ => false
  | s :: ss, st => (ring n st s).isSome || rings n ss (sc st s)
theorem ri_pass {ss : List Sp} {n p : Nat} (hn : ∀ s ∈ ss, s.u < n ∧ s.v < n) (p1 : 1 ≤ p) : ∀ {td dn : List Sp} {st : St} {rk : Nat → Nat}, RI ss n p dn st rk → (∀ t ∈ dn, t ∈ ss) → (∀ t ∈ td, t ∈ ss) → rings n td st = false →
    (chg td st.f = true → p + 1 ≤ n) ∧ ∃ rk', RI ss n p (dn ++ td) (scs td st) rk'
  | [], dn, st, rk, r, _, _, _ => ⟨fun h => (nomatch h), rk, by rw [List.append_nil]; exact r⟩
  | s :: td, dn, st, rk, r, hd, ht, nr => by
    have nr : ((ring n st s).isSome || rings n td (sc st s)) = false := nr
    rw [Bool.or_eq_false_iff] at nr
    have n1 : ring n st s = none := by
      cases q : ring n st s with
      | none => rfl
      | some _ => rw [q] at nr; cases nr.1
    have hs := ht s List.mem_cons_self
    have hd2 : ∀ t ∈ dn ++ [s], t ∈ ss := fun t h => by
      rcases List.mem_append.mp h with h | h
      · exact hd t h
      · rw [List.mem_singleton.mp h]; exact hs
    have ap : dn ++ s :: td = (dn ++ [s]) ++ td := by simp
    by_cases c : lt1 st.f s
    · obtain ⟨pn, r2⟩ := ri_up hn p1 r hd hs c n1
      obtain ⟨_, rk', r3⟩ := ri_pass hn p1 r2 hd2 (fun t h => ht t (List.mem_cons_of_mem _ h)) nr.2
      exact ⟨fun _ => pn, rk', by rw [ap]; exact r3⟩
    · obtain ⟨h1, rk', r3⟩ := ri_pass hn p1 (ri_no r c) hd2 (fun t h => ht t (List.mem_cons_of_mem _ h)) nr.2
      refine ⟨fun h => h1 ?_, rk', by rw [ap]; exact r3⟩
      have h : (decide (lt1 st.f s) || chg td (rlx st.f s)) = true := h
      rw [decide_eq_false c, Bool.false_or] at h
      rw [sc_f]
      exact h
/-- the states pass by pass -/
def GG (ss : List Sp) : Nat → St
  | 0 => ⟨fun _ => 0, fun _ => none⟩
  | k + 1 => scs ss (GG ss k)
theorem gg_f (ss : List Sp) : ∀ k, (GG ss k).f = FF ss k
  | 0 => rfl
  | k + 1 => by
    show (scs ss (GG ss k)).f = pas ss (FF ss k)
    rw [scs_f, gg_f ss k]
/-- where no widths are, a ring is closed in time -/
theorem ring_found {ss : List Sp} {n : Nat} (h1 : 1 ≤ n) (hn : ∀ s ∈ ss, s.u < n ∧ s.v < n) (no : ∀ x, (∀ i, 0 ≤ x i) → ¬ Sol ss x) : ∃ k, k < n ∧ rings n ss (GG ss k) = true := by
  by_cases q : ∃ k, k < n ∧ rings n ss (GG ss k) = true
  · exact q
  · exfalso
    have nr : ∀ k, k < n → rings n ss (GG ss k) = false := fun k hk => by
      cases c : rings n ss (GG ss k) with
      | false => rfl
      | true => exact absurd ⟨k, hk, c⟩ q
    have key : ∀ k, k < n → ∃ rk, RI ss n (k + 1) [] (GG ss k) rk := by
      intro k
      induction k with
      | zero => exact fun _ => ⟨fun _ => 0, fun x _ => ⟨0, .no rfl⟩, fun x s h => (nomatch h), fun x s h => (nomatch h), fun _ _ => rfl, fun _ => Nat.zero_le _, fun s _ lt => by omega, fun _ h => (nomatch h)⟩
      | succ k ih =>
        intro hk
        obtain ⟨rk, r⟩ := ih (by omega)
        obtain ⟨_, rk', r2⟩ := ri_pass hn (by omega) r (fun _ h => (nomatch h)) (fun _ h => h) (nr k (by omega))
        rw [List.nil_append] at r2
        exact ⟨rk', r2.a, r2.i, r2.e, r2.z, fun x => by have := r2.b x; omega, fun s hs lt => r2.k s hs (by omega), fun _ h => (nomatch h)⟩
    obtain ⟨rk, r⟩ := key (n - 1) (by omega)
    obtain ⟨h, _⟩ := ri_pass hn (by omega) r (fun _ h => (nomatch h)) (fun _ h => h) (nr (n - 1) (by omega))
    have c : chg ss (GG ss (n - 1)).f = true := by
      cases c : chg ss (GG ss (n - 1)).f with
      | true => rfl
      | false =>
        rw [gg_f] at c
        exact absurd (chg_no c).1 (no _ fun i => ff_nn ss _ i)
    have := h c
    omega
end K24

/-! k24: wishes, the steps of wishes. -/
namespace K24
open PySem L2 Ev
variable [TabsC]
structure Ws where
  a : Nat
  b : Nat
  le : Bool
  w : Int
def wyD (le : Bool) : D := if le = true then .str "least" else .str "most"
def wiD (x : Ws) : D := .tup [.int x.a, .int x.b, wyD x.le, .int x.w]
def wsD (ws : List Ws) : D := .tup (ws.map wiD)
def w0 : Ws := ⟨0, 0, true, 0⟩
def spD (s : Sp) : D := .tup [.int s.u, .int s.v, .int s.w, s.t]
def nonS (e : Nat) : Sp := ⟨e, e + 1, 0, .tup [.str "none", .int e]⟩
def stW (i : Nat) (x : Ws) : Sp := if x.le = true then ⟨x.a, x.b + 1, x.w, .tup [.str "least", .int i]⟩ else ⟨x.b + 1, x.a, -x.w, .tup [.str "most", .int i]⟩
def stI (m : Nat) (ws : List Ws) (i : Nat) : List Sp := (List.range m).map nonS ++ (List.range i).map fun i => stW i (ws.getD i w0)
def stp (m : Nat) (ws : List Ws) : List Sp := stI m ws ws.length
theorem stI_succ (m : Nat) (ws : List Ws) (i : Nat) : stI m ws (i + 1) = stI m ws i ++ [stW i (ws.getD i w0)] := by
  unfold stI
  rw [List.range_succ, List.map_append, List.append_assoc]
  rfl
theorem str_ne : (("most" : Str) == ("least" : Str)) = false := by decide
theorem e_steps {m : Nat} (hm : m ≤ 8) {ws : List Ws} (hw : ws.length ≤ 40) : g_steps_of [.val (.int (m : Nat)), .val (wsD ws)] = .ok (.o (.lst ((stp m ws).map spD)), [.val (.int (m : Nat)), .val (wsD ws)]) := by
  have r1 : rg1 [(m : Int)] = some ((rgI m).map .int) := rg1_nat m (by omega)
  have sq : seqOf (wsD ws) = some (ws.map wiD) := rfl
  have k1 : ∀ r : Ev.Env, r = [.val (.int (m : Nat)), .val (wsD ws), .un, .un, .un, .un, .un, .un, .un] → loopC [3] (setN 3) (fYes) (fTup (fLCons (fN 3) (fLCons (fBin gAdd (fNB 3) (fBE (fC (.int 1)))) (fLCons (fC (.int 0)) (fLCons (fTup (fLCons (fC (.str ("none" : Str))) (fLCons (fN 3) (fLNil)))) (fLNil)))))) ((rgI m).map .int) r [] = .ok ((stI m ws 0).map spD, r) := by
    intro r hr
    have e : (rgI m).map D.int = (List.range m).map fun n : Nat => D.int (n : Int) := by unfold rgI; rw [List.map_map]; rfl
    rw [e, loopC_mapM (fun n : Nat => D.int (n : Int)) (fun n => spD (nonS n))]
    · unfold stI
      rw [List.nil_append, List.range_zero, List.map_nil, List.append_nil, List.map_map]
      rfl
    · intro n hn
      have e1 : ((n + 1 : Nat) : Int) = (n : Int) + 1 := by omega
      subst hr
      unfold spD nonS
      simp only [e1]
      generalize wsD ws = T at *
      simp [turnC]
    · simp [bigZ]; omega
  have k1 := k1 _ rfl
  have lI : ∀ i, i ≤ ws.length → (stI m ws i).length = m + i := fun i hi => by unfold stI; simp
  obtain ⟨r', q1, o4, o5, o6, o7, o8, rfl⟩ := loopF_inv (ft := t_steps_of_1) (fb := l_steps_of_1) (ds := enumD (ws.map wiD))
    (fun i r => ∃ (o4 o5 o6 o7 o8 : Option D), r = [.val (.int (m : Nat)), .val (wsD ws), .own false (.lst ((stI m ws i).map spD)), .un, vsl o4, vsl o5, vsl o6, vsl o7, vsl o8]) 0
    (r := [.val (.int (m : Nat)), .val (wsD ws), .own false (.lst ((stI m ws 0).map spD)), .un, .un, .un, .un, .un, .un]) ⟨none, none, none, none, none, rfl⟩ (fun i d r hd ⟨o4, o5, o6, o7, o8, hr⟩ => by
      subst hr
      rw [Nat.zero_add]
      rw [enumD_get, List.getElem?_map] at hd
      cases hx : ws[i]? with
      | none => rw [hx] at hd; cases hd
      | some x =>
        rw [hx] at hd
        obtain ⟨hi, _⟩ := List.getElem?_eq_some_iff.mp hx
        have hd : d = .tup [.int (i : Nat), wiD x] := by
          have : some (D.tup [.int (i : Nat), wiD x]) = some d := hd
          exact (Option.some.inj this).symm
        subst hd
        have gx : ws.getD i w0 = x := by rw [List.getD_eq_getElem?_getD, hx]; rfl
        have ss := stI_succ m ws i
        rw [gx] at ss
        have fl : ((stI m ws i).map spD).length < sizeLine := by rw [List.length_map, lI i (by omega), bigZ]; omega
        have eb : ((x.b + 1 : Nat) : Int) = (x.b : Int) + 1 := by omega
        refine ⟨_, .inl ?_, some (.int (i : Nat)), some (.int x.a), some (.int x.b), some (wyD x.le), some (.int x.w), rfl⟩
        rw [ss, List.map_append]
        generalize (stI m ws i).map spD = L at *
        generalize wsD ws = T at *
        have q2 := str_ne
        unfold wiD
        cases c : x.le with
        | true =>
          have es : [stW i x].map spD = [.tup [.int x.a, .int ((x.b : Int) + 1), .int x.w, .tup [.str "least", .int i]]] := by
            unfold stW spD
            simp [c]
          rw [es]
          simp only [wyD, if_true]
          simp [t_steps_of_1, l_steps_of_1, gAppend, fl]
        | false =>
          have es : [stW i x].map spD = [.tup [.int ((x.b : Int) + 1), .int x.a, .int (-x.w), .tup [.str "most", .int i]]] := by
            unfold stW spD
            simp [c]
          rw [es]
          simp only [wyD, Bool.false_eq_true, if_false]
          simp [t_steps_of_1, l_steps_of_1, q2, gAppend, fl])
  have hl : (enumD (ws.map wiD)).length = ws.length := by
    rw [enumD_len, List.length_map]
  rw [hl, Nat.zero_add] at q1
  unfold stp
  generalize (stI m ws ws.length).map spD = L at *
  generalize (stI m ws 0).map spD = L0 at *
  generalize (rgI m).map D.int = L3 at *
  unfold g_steps_of b_steps_of
  rw [fnRun_fin]
  generalize wsD ws = T at *
  simp [r1, k1, sq, q1]
end K24

/-! k24: spans, the least widths. -/
namespace K24
open PySem L2 Ev
variable [TabsC]
def faD (n : Nat) (f : Nat → Int) : List D := (List.range n).map fun i => .int (f i)
def opS : Option Sp → D
  | some s => spD s
  | none => .non
def caD (n : Nat) (c : Cm) : List D := (List.range n).map fun i => opS (c i)
theorem fa_get {n : Nat} (f : Nat → Int) {i : Nat} (h : i < n) : (faD n f)[i]? = some (.int (f i)) := by
  unfold faD
  rw [List.getElem?_map, List.getElem?_range h]
  rfl
theorem ca_get {n : Nat} (c : Cm) {i : Nat} (h : i < n) : (caD n c)[i]? = some (opS (c i)) := by
  unfold caD
  rw [List.getElem?_map, List.getElem?_range h]
  rfl
theorem fa_set {n : Nat} (f : Nat → Int) {i : Nat} (h : i < n) (a : Int) : (faD n f).set i (.int a) = faD n (upF f i a) := by
  refine List.ext_getElem? fun j => ?_
  by_cases hj : j < n
  · rw [fa_get _ hj, List.getElem?_set]
    unfold upF
    by_cases e : i = j
    · subst e; simp [faD, h]
    · rw [if_neg e, if_neg (fun z => e z.symm), fa_get f hj]
  · rw [List.getElem?_eq_none (by rw [List.length_set]; unfold faD; simp; omega), List.getElem?_eq_none (by unfold faD; simp; omega)]
theorem ca_set {n : Nat} (c : Cm) (s : Sp) (h : s.v < n) : (caD n c).set s.v (spD s) = caD n (upC c s) := by
  refine List.ext_getElem? fun j => ?_
  by_cases hj : j < n
  · rw [ca_get _ hj, List.getElem?_set]
    unfold upC
    by_cases e : s.v = j
    · subst e; simp [caD, h, opS]
    · rw [if_neg e, if_neg (fun z => e z.symm), ca_get c hj]
  · rw [List.getElem?_eq_none (by rw [List.length_set]; unfold caD; simp; omega), List.getElem?_eq_none (by unfold caD; simp; omega)]
theorem fa_len (n : Nat) (f : Nat → Int) : (faD n f).length = n := by unfold faD; simp
theorem ca_len (n : Nat) (c : Cm) : (caD n c).length = n := by unfold caD; simp
theorem chg_snoc : ∀ (xs : List Sp) (s : Sp) (f : Nat → Int), chg (xs ++ [s]) f = (chg xs f || decide (lt1 (pas xs f) s))
  | [], s, f => by
    show (decide (lt1 f s) || false) = (false || decide (lt1 f s))
    simp
  | x :: xs, s, f => by
    show (decide (lt1 f x) || chg (xs ++ [s]) (rlx f x)) = ((decide (lt1 f x) || chg xs (rlx f x)) || decide (lt1 (pas xs (rlx f x)) s))
    rw [chg_snoc xs s, Bool.or_assoc]
theorem scs_snoc (xs : List Sp) (s : Sp) (st : St) : scs (xs ++ [s]) st = sc (scs xs st) s := by unfold scs; rw [List.foldl_append]; rfl
/-- what stands for the last vertex raised -/
def Stl (b : Bool) (d : D) : Prop := (b = false ∧ d = .non) ∨ (b = true ∧ ∃ x : Int, d = .int x)
section
variable {ss : List Sp} {n : Nat}
theorem e_scan (hn : ∀ s ∈ ss, s.u < n ∧ s.v < n) (st : St) {m : Nat} {T : D} (hT : seqOf T = some (ss.map spD)) (o5 : Option D) (o6 : Option D) :
    ∃ (d4 : D) (o6' : Option D), Stl (chg ss st.f) d4 ∧ loopF t_spans_1 l_spans_1 (ss.map spD) [.val (.int (m : Nat)), .val T, .own false (.lst (faD n st.f)), .own false (.lst (caD n st.c)), .val .non, vsl o5, vsl o6] =
      .nx [.val (.int (m : Nat)), .val T, .own false (.lst (faD n (scs ss st).f)), .own false (.lst (caD n (scs ss st).c)), .val d4, vsl o5, vsl o6'] := by
  obtain ⟨r', q1, d4, o6', hs, rfl⟩ := loopF_inv (ft := t_spans_1) (fb := l_spans_1) (ds := ss.map spD)
    (fun i r => ∃ (d4 : D) (o6 : Option D), Stl (chg (ss.take i) st.f) d4 ∧ r = [.val (.int (m : Nat)), .val T, .own false (.lst (faD n (scs (ss.take i) st).f)), .own false (.lst (caD n (scs (ss.take i) st).c)), .val d4, vsl o5, vsl o6]) 0
    (r := [.val (.int (m : Nat)), .val T, .own false (.lst (faD n st.f)), .own false (.lst (caD n st.c)), .val .non, vsl o5, vsl o6]) ⟨.non, o6, .inl ⟨rfl, rfl⟩, rfl⟩ (fun i d r hd ⟨d4, o6, hs, hr⟩ => by
      subst hr
      rw [Nat.zero_add] at hs ⊢
      rw [List.getElem?_map] at hd
      obtain ⟨s, hx, rfl⟩ := Option.map_eq_some_iff.mp hd
      obtain ⟨hi, hx'⟩ := List.getElem?_eq_some_iff.mp hx
      have mem := List.mem_of_getElem? hx
      obtain ⟨hu, hv⟩ := hn s mem
      have tk : ss.take (i + 1) = ss.take i ++ [s] := by rw [List.take_succ_eq_append_getElem hi, hx']
      have sx : scs (ss.take (i + 1)) st = sc (scs (ss.take i) st) s := by rw [tk, scs_snoc]
      have cx : chg (ss.take (i + 1)) st.f = (chg (ss.take i) st.f || decide (lt1 (scs (ss.take i) st).f s)) := by rw [tk, chg_snoc, scs_f]
      generalize scs (ss.take i) st = q at *
      have i0 : gIxA (spD s) (.int 0) = some (.int (s.u : Int)) := gIxA_t (j := 0) rfl
      have i1 : gIxA (spD s) (.int 1) = some (.int (s.v : Int)) := gIxA_t (j := 1) rfl
      have i2 : gIxA (spD s) (.int 2) = some (.int s.w) := gIxA_t (j := 2) rfl
      have fu : gIxA (.lst (faD n q.f)) (.int (s.u : Int)) = some (.int (q.f s.u)) := gIxA_l (fa_get _ hu)
      have fv : gIxA (.lst (faD n q.f)) (.int (s.v : Int)) = some (.int (q.f s.v)) := gIxA_l (fa_get _ hv)
      by_cases c : lt1 q.f s
      · have e : sc q s = ⟨rlx q.f s, upC q.c s⟩ := by unfold sc; rw [if_pos c]
        have er : rlx q.f s = upF q.f s.v (q.f s.u + s.w) := by unfold rlx; rw [if_pos c]
        have p1 : gPut (.lst (faD n q.f)) (.int (s.v : Int)) (.int (q.f s.u + s.w)) = some (.lst (faD n (upF q.f s.v (q.f s.u + s.w)))) := by
          rw [gPut_nat (by rw [fa_len]; exact hv), fa_set _ hv]
        have p2 : gPut (.lst (caD n q.c)) (.int (s.v : Int)) (spD s) = some (.lst (caD n (upC q.c s))) := by
          rw [gPut_nat (by rw [ca_len]; exact hv), ca_set _ _ hv]
        refine ⟨_, .inl ?_, .int (s.v : Int), some (spD s), .inr ⟨by rw [cx, decide_eq_true c, Bool.or_true], _, rfl⟩, rfl⟩
        rw [sx, e, er]
        unfold lt1 at c
        generalize faD n (upF q.f s.v (q.f s.u + s.w)) = F2 at *
        generalize faD n q.f = F1 at *
        generalize caD n (upC q.c s) = C2 at *
        generalize caD n q.c = C1 at *
        generalize spD s = SD at *
        generalize (s.u : Int) = U at *
        generalize (s.v : Int) = V at *
        simp [t_spans_1, l_spans_1, i0, i1, i2, fu, fv, c, p1, p2]
      · have e : sc q s = q := by unfold sc; rw [if_neg c]
        refine ⟨_, .inl ?_, d4, some (spD s), by rw [cx, decide_eq_false c, Bool.or_false]; exact hs, rfl⟩
        rw [sx, e]
        unfold lt1 at c
        generalize faD n q.f = F1 at *
        generalize caD n q.c = C1 at *
        generalize spD s = SD at *
        generalize (s.u : Int) = U at *
        generalize (s.v : Int) = V at *
        simp [t_spans_1, l_spans_1, i0, i1, i2, fu, fv, c])
  rw [List.length_map, Nat.zero_add, List.take_of_length_le (Nat.le_refl _)] at hs q1
  exact ⟨d4, o6', hs, q1⟩
/-- spans: the first pass that changes nothing, or none does -/
theorem e_spans (hn : ∀ s ∈ ss, s.u < n ∧ s.v < n) {m : Nat} (hm : m ≤ 8) (hnm : n = m + 1) :
    (∃ k, k < m + 2 ∧ chg ss (GG ss k).f = false ∧ g_spans [.val (.int (m : Nat)), .val (.lst (ss.map spD))] = .ok (.d (.tup [.lst (faD n (GG ss (k + 1)).f), .lst (caD n (GG ss (k + 1)).c), .non]), [.val (.int (m : Nat)), .val (.lst (ss.map spD))])) ∨
    ((∀ k, k < m + 2 → chg ss (GG ss k).f = true) ∧ ∃ (f c : List D) (x : Int), g_spans [.val (.int (m : Nat)), .val (.lst (ss.map spD))] = .ok (.d (.tup [.lst f, .lst c, .int x]), [.val (.int (m : Nat)), .val (.lst (ss.map spD))])) := by
  have r1 : rg1 [(m : Int) + 2] = some ((rgI (m + 2)).map .int) := by
    have := rg1_nat (m + 2) (by omega)
    rw [show ((m + 2 : Nat) : Int) = (m : Int) + 2 by omega] at this
    exact this
  have z1 : gRepL (.lst [.int 0]) (.int ((m : Int) + 1)) = some (faD n (GG ss 0).f) := by
    have := gRepL_one (.int 0) (m + 1) (by omega)
    rw [show ((m + 1 : Nat) : Int) = (m : Int) + 1 by omega] at this
    rw [this]
    unfold faD GG
    rw [hnm]
    show _ = some ((List.range (m + 1)).map fun _ => D.int 0)
    rw [List.map_const', List.length_range]
  have z2 : gRepL (.lst [.non]) (.int ((m : Int) + 1)) = some (caD n (GG ss 0).c) := by
    have := gRepL_one .non (m + 1) (by omega)
    rw [show ((m + 1 : Nat) : Int) = (m : Int) + 1 by omega] at this
    rw [this]
    unfold caD GG
    rw [hnm]
    show _ = some ((List.range (m + 1)).map fun _ => D.non)
    rw [List.map_const', List.length_range]
  have key := loopF_stop (ft := t_spans_2) (fb := l_spans_2) (ds := (rgI (m + 2)).map .int)
    (fun i r => ∃ (d4 : D) (o5 o6 : Option D), (1 ≤ i → ∃ x : Int, d4 = .int x) ∧ r = [.val (.int (m : Nat)), .val (.lst (ss.map spD)), .own false (.lst (faD n (GG ss i).f)), .own false (.lst (caD n (GG ss i).c)), .val d4, vsl o5, vsl o6])
    (fun r => ∃ r2, r = .val (.int (m : Nat)) :: .val (.lst (ss.map spD)) :: r2)
    (fun i => chg ss (GG ss i).f = false) (fun i => .tup [.lst (faD n (GG ss (i + 1)).f), .lst (caD n (GG ss (i + 1)).c), .non]) 0
    (r := [.val (.int (m : Nat)), .val (.lst (ss.map spD)), .own false (.lst (faD n (GG ss 0).f)), .own false (.lst (caD n (GG ss 0).c)), .val .non, .un, .un]) ⟨.non, none, none, fun h => by omega, rfl⟩ (fun i d r hd ⟨d4, o5, o6, hs, hr⟩ => by
      subst hr
      rw [Nat.zero_add] at hs ⊢
      obtain ⟨d4', o6', hs', q1⟩ := e_scan hn (GG ss i) (m := m) (T := .lst (ss.map spD)) rfl (some d) o6
      have q1 : loopF t_spans_1 l_spans_1 (ss.map spD) [.val (.int (m : Nat)), .val (.lst (ss.map spD)), .own false (.lst (faD n (GG ss i).f)), .own false (.lst (caD n (GG ss i).c)), .val .non, .val d, vsl o6] =
        .nx [.val (.int (m : Nat)), .val (.lst (ss.map spD)), .own false (.lst (faD n (GG ss (i + 1)).f)), .own false (.lst (caD n (GG ss (i + 1)).c)), .val d4', .val d, vsl o6'] := q1
      rcases hs' with ⟨c, rfl⟩ | ⟨c, x, rfl⟩
      · refine .inr ⟨c, [.val (.int (m : Nat)), .val (.lst (ss.map spD)), .val (.lst (faD n (GG ss (i + 1)).f)), .val (.lst (caD n (GG ss (i + 1)).c)), .val .non, .val d, vsl o6'], ?_, _, rfl⟩
        generalize faD n (GG ss i).f = F1 at *
        generalize faD n (GG ss (i + 1)).f = F2 at *
        generalize caD n (GG ss i).c = C1 at *
        generalize caD n (GG ss (i + 1)).c = C2 at *
        generalize ss.map spD = L at *
        simp [t_spans_2, l_spans_2, q1, D.isNon]
      · refine .inl ⟨by rw [c]; simp, _, .inl ?_, .int x, some d, o6', fun _ => ⟨x, rfl⟩, rfl⟩
        generalize faD n (GG ss i).f = F1 at *
        generalize faD n (GG ss (i + 1)).f = F2 at *
        generalize caD n (GG ss i).c = C1 at *
        generalize caD n (GG ss (i + 1)).c = C2 at *
        generalize ss.map spD = L at *
        simp [t_spans_2, l_spans_2, q1, D.isNon])
  rw [List.length_map, rgI_len] at key
  rcases key with ⟨nb, r', q1, d4, o5, o6, hs, rfl⟩ | ⟨k, hk, hb, _, r', q1, r2, rfl⟩
  · right
    refine ⟨fun k hk => by
      have := nb k hk
      rw [Nat.zero_add] at this
      cases c : chg ss (GG ss k).f with
      | true => rfl
      | false => exact absurd c this, ?_⟩
    obtain ⟨x, rfl⟩ := hs (by omega)
    refine ⟨faD n (GG ss (m + 2)).f, caD n (GG ss (m + 2)).c, x, ?_⟩
    rw [Nat.zero_add] at q1
    generalize faD n (GG ss (m + 2)).f = F2 at *
    generalize caD n (GG ss (m + 2)).c = C2 at *
    unfold g_spans b_spans
    rw [fnRun_fin]
    generalize faD n (GG ss 0).f = F0 at *
    generalize caD n (GG ss 0).c = C0 at *
    generalize (rgI (m + 2)).map D.int = L3 at *
    generalize ss.map spD = L at *
    simp [z1, z2, r1, q1]
  · left
    rw [Nat.zero_add] at hb q1
    refine ⟨k, hk, hb, ?_⟩
    unfold g_spans b_spans
    rw [fnRun_fin]
    generalize faD n (GG ss (k + 1)).f = F2 at *
    generalize caD n (GG ss (k + 1)).c = C2 at *
    generalize faD n (GG ss 0).f = F0 at *
    generalize caD n (GG ss 0).c = C0 at *
    generalize (rgI (m + 2)).map D.int = L3 at *
    generalize ss.map spD = L at *
    simp [z1, z2, r1, q1]
end
end K24

/-! k24: widths and solutions; the least widths. -/
namespace K24
open PySem L2 Ev
variable [TabsC]
/-- what a wish asks of sums -/
def Kp (x : Nat → Int) (w : Ws) : Prop := if w.le = true then w.w ≤ x (w.b + 1) - x w.a else x (w.b + 1) - x w.a ≤ w.w
/-- sums from 0 on that keep all wishes -/
structure Sm (m : Nat) (ws : List Ws) (x : Nat → Int) : Prop where
  z : x 0 = 0
  u : ∀ e, e < m → x e ≤ x (e + 1)
  k : ∀ w ∈ ws, Kp x w
/-- wishes of m columns -/
def WI (m : Nat) (ws : List Ws) : Prop := ∀ w ∈ ws, w.a ≤ w.b ∧ w.b < m
section
variable {m : Nat} {ws : List Ws}
theorem mem_stp {s : Sp} : s ∈ stp m ws ↔ (∃ e, e < m ∧ s = nonS e) ∨ ∃ i, i < ws.length ∧ s = stW i (ws.getD i w0) := by
  unfold stp stI
  rw [List.mem_append, List.mem_map, List.mem_map]
  constructor
  · rintro (⟨e, he, rfl⟩ | ⟨i, hi, rfl⟩)
    · exact .inl ⟨e, List.mem_range.mp he, rfl⟩
    · exact .inr ⟨i, List.mem_range.mp hi, rfl⟩
  · rintro (⟨e, he, rfl⟩ | ⟨i, hi, rfl⟩)
    · exact .inl ⟨e, List.mem_range.mpr he, rfl⟩
    · exact .inr ⟨i, List.mem_range.mpr hi, rfl⟩
theorem getD_mem {i : Nat} (h : i < ws.length) : ws.getD i w0 ∈ ws := by
  rw [List.getD_eq_getElem?_getD, List.getElem?_eq_getElem h]
  exact List.getElem_mem h
theorem stp_in (hw : WI m ws) : ∀ s ∈ stp m ws, s.u < m + 1 ∧ s.v < m + 1 := fun s hs => by
  rcases mem_stp.mp hs with ⟨e, he, rfl⟩ | ⟨i, hi, rfl⟩
  · exact ⟨by show e < m + 1; omega, by show e + 1 < m + 1; omega⟩
  · obtain ⟨h1, h2⟩ := hw _ (getD_mem hi)
    generalize ws.getD i w0 = w at *
    unfold stW
    split
    · exact ⟨by show w.a < m + 1; omega, by show w.b + 1 < m + 1; omega⟩
    · exact ⟨by show w.b + 1 < m + 1; omega, by show w.a < m + 1; omega⟩
theorem stW_kp (i : Nat) (w : Ws) (x : Nat → Int) : x (stW i w).u + (stW i w).w ≤ x (stW i w).v ↔ Kp x w := by
  unfold stW Kp
  cases w.le with
  | true => simp only [if_true]; omega
  | false => simp only [Bool.false_eq_true, if_false]; omega
theorem sol_iff (x : Nat → Int) : Sol (stp m ws) x ↔ (∀ e, e < m → x e ≤ x (e + 1)) ∧ ∀ w ∈ ws, Kp x w := by
  constructor
  · intro h
    refine ⟨fun e he => ?_, fun w hw => ?_⟩
    · have := h _ (mem_stp.mpr (.inl ⟨e, he, rfl⟩))
      have : x e + 0 ≤ x (e + 1) := this
      omega
    · obtain ⟨i, hi, rfl⟩ := List.mem_iff_getElem.mp hw
      have e : ws.getD i w0 = ws[i] := by rw [List.getD_eq_getElem?_getD, List.getElem?_eq_getElem hi]; rfl
      have := h _ (mem_stp.mpr (.inr ⟨i, hi, rfl⟩))
      rw [e] at this
      exact (stW_kp i _ x).mp this
  · rintro ⟨h1, h2⟩ s hs
    rcases mem_stp.mp hs with ⟨e, he, rfl⟩ | ⟨i, hi, rfl⟩
    · have := h1 e he
      show x e + 0 ≤ x (e + 1)
      omega
    · exact (stW_kp i _ x).mpr (h2 _ (getD_mem hi))
theorem Sm.nn {x : Nat → Int} (h : Sm m ws x) : ∀ i, i ≤ m → 0 ≤ x i
  | 0, _ => by rw [h.z]; exact Int.le_refl 0
  | i + 1, hi => by
    have := h.nn i (by omega)
    have := h.u i (by omega)
    omega
/-- only the vertices count -/
theorem sol_cut (hw : WI m ws) {x : Nat → Int} (h : Sol (stp m ws) x) : Sol (stp m ws) fun i => if i ≤ m then x i else 0 := fun s hs => by
  obtain ⟨a, b⟩ := stp_in hw s hs
  have := h s hs
  simp only
  rw [if_pos (by omega), if_pos (by omega)]
  exact this
theorem lea_sm (hw : WI m ws) {x : Nat → Int} (h : Sm m ws x) : ∃ d, Lea (stp m ws) d := by
  have s := sol_cut hw ((sol_iff x).mpr ⟨h.u, h.k⟩)
  exact lea_exists (n := m + 1) (stp_in hw) s fun i => by
    split
    · rename_i hi; exact h.nn i hi
    · exact Int.le_refl 0
theorem lea_is (hw : WI m ws) {d : Nat → Int} (L : Lea (stp m ws) d) : Sm m ws d := by
  obtain ⟨h1, h2⟩ := (sol_iff d).mp L.s
  refine ⟨?_, h1, h2⟩
  have up : ∀ i, i ≤ m → d 0 ≤ d i := by
    intro i
    induction i with
    | zero => intro _; exact Int.le_refl _
    | succ i ih => intro hi; have := ih (by omega); have := h1 i (by omega); omega
  have s := sol_cut hw (x := fun i => d i - d 0) fun s hs => by
    have := L.s s hs
    show d s.u - d 0 + s.w ≤ d s.v - d 0
    omega
  have := L.l _ s (fun i => by
    split
    · rename_i hi; have := up i hi; omega
    · exact Int.le_refl 0) 0
  rw [if_pos (by omega)] at this
  have := L.n 0
  omega
theorem lea_low (hw : WI m ws) {d x : Nat → Int} (L : Lea (stp m ws) d) (h : Sm m ws x) : ∀ i, i ≤ m → d i ≤ x i := fun i hi => by
  have := L.l _ (sol_cut hw ((sol_iff x).mpr ⟨h.u, h.k⟩)) (fun i => by
    split
    · rename_i hi; exact h.nn i hi
    · exact Int.le_refl 0) i
  rw [if_pos hi] at this
  exact this
/-- no widths: no solution at all -/
theorem no_sol (hw : WI m ws) (no : ∀ x, ¬ Sm m ws x) : ∀ x, (∀ i, 0 ≤ x i) → ¬ Sol (stp m ws) x := fun x nn h => by
  obtain ⟨d, L⟩ := lea_exists (n := m + 1) (stp_in hw) h nn
  exact no d (lea_is hw L)
def wid (m : Nat) (d : Nat → Int) : List Int := (List.range m).map fun e => d (e + 1) - d e
theorem e_raw1 (hm : m ≤ 8) (hw : WI m ws) (hl : ws.length ≤ 40) {d : Nat → Int} (L : Lea (stp m ws) d) : g_raw_least [.val (.int (m : Nat)), .val (wsD ws)] = .ok (.d (tpI (wid m d)), [.val (.int (m : Nat)), .val (wsD ws)]) := by
  have hn := stp_in hw
  have es := e_steps hm hl
  have done := ff_done (n := m + 1) (by omega) hn L
  rw [show m + 1 - 1 = m by omega] at done
  have ns : chg (stp m ws) (GG (stp m ws) m).f = false := by
    rw [gg_f, done]
    exact chg_sol L.s
  have sp : ∃ C : List D, g_spans [.val (.int (m : Nat)), .val (.lst ((stp m ws).map spD))] = .ok (.d (.tup [.lst (faD (m + 1) d), .lst C, .non]), [.val (.int (m : Nat)), .val (.lst ((stp m ws).map spD))]) := by
    rcases e_spans hn hm rfl with ⟨k, hk, c, e⟩ | ⟨all, _⟩
    · have fe : (GG (stp m ws) (k + 1)).f = d := by
        rw [gg_f] at c ⊢
        obtain ⟨s1, s2⟩ := chg_no c
        show pas (stp m ws) (FF (stp m ws) k) = d
        rw [s2]
        funext i
        have a := L.l _ s1 (fun i => ff_nn _ _ i) i
        have b := ff_le L.s L.n k i
        omega
      rw [fe] at e
      exact ⟨_, e⟩
    · have := all m (by omega)
      rw [ns] at this
      cases this
  obtain ⟨C, sp⟩ := sp
  have d0 := (lea_is hw L).z
  have f0 : gIxA (.lst (faD (m + 1) d)) (.int 0) = some (.int 0) := by
    have := gIxA_l (fa_get (n := m + 1) d (i := 0) (by omega))
    rw [d0] at this
    exact this
  have r1 : rg1 [(m : Int)] = some ((rgI m).map .int) := rg1_nat m (by omega)
  have in0 : D.isNon .non = true := rfl
  have kc : ∀ r : Ev.Env, r = [.val (.int (m : Nat)), .val (wsD ws), .val (.lst (faD (m + 1) d)), .val (.lst C), .val .non, .un] → loopC [5] (setN 5) (fYes) (fBin gSub (fBE (fBin gIxA (fNB 2) (fBE (fBin gAdd (fNB 5) (fBE (fC (.int 1))))))) (fBE (fBin gIxA (fNB 2) (fNB 5)))) ((rgI m).map .int) r [] = .ok ((wid m d).map .int, r) := by
    intro r hr
    have e : (rgI m).map D.int = (List.range m).map fun n : Nat => D.int (n : Int) := by unfold rgI; rw [List.map_map]; rfl
    rw [e, loopC_mapM (fun n : Nat => D.int (n : Int)) (fun n => .int (d (n + 1) - d n))]
    · unfold wid
      rw [List.nil_append, List.map_map]
      rfl
    · intro n hn
      have hn := List.mem_range.mp hn
      have a := gIxA_l (fa_get (n := m + 1) d (i := n) (by omega))
      have b := gIxA_l (fa_get (n := m + 1) d (i := n + 1) (by omega))
      rw [show ((n + 1 : Nat) : Int) = (n : Int) + 1 by omega] at b
      subst hr
      generalize wsD ws = T at *
      generalize faD (m + 1) d = F at *
      simp [turnC, a, b]
    · simp [bigZ]; omega
  have kc := kc _ rfl
  have tp : gTupOf (.lst ((wid m d).map .int)) = some (tpI (wid m d)) := rfl
  generalize faD (m + 1) d = F at *
  generalize (wid m d).map D.int = L1 at *
  generalize tpI (wid m d) = X at *
  generalize (stp m ws).map spD = SS at *
  generalize (rgI m).map D.int = L2 at *
  unfold g_raw_least b_raw_least
  rw [fnRun_fin]
  generalize wsD ws = T at *
  simp [es, sp, in0, f0, r1, kc, tp]
theorem e_raw0 (hm : m ≤ 8) (hw : WI m ws) (hl : ws.length ≤ 40) (no : ∀ x, ¬ Sm m ws x) : g_raw_least [.val (.int (m : Nat)), .val (wsD ws)] = .ok (.d .non, [.val (.int (m : Nat)), .val (wsD ws)]) := by
  have hn := stp_in hw
  have es := e_steps hm hl
  have ns := no_sol hw no
  rcases e_spans hn hm rfl with ⟨k, hk, c, e⟩ | ⟨all, F, C, x, e⟩
  · rw [gg_f] at c
    exact absurd (chg_no c).1 (ns _ fun i => ff_nn _ _ i)
  · have nn : D.isNon (.int x) = false := rfl
    generalize (stp m ws).map spD = SS at *
    unfold g_raw_least b_raw_least
    rw [fnRun_fin]
    generalize wsD ws = T at *
    simp [es, e, nn]
end
end K24

/-! k24: clash. -/
namespace K24
open PySem L2 Ev
variable [TabsC]
def firstR (n : Nat) : List Sp → St → Option (List Sp)
  | [], _ => none
  | s :: ss, st => match ring n st s with
    | some x => some x
    | none => firstR n ss (sc st s)
theorem firstR_is (n : Nat) : ∀ (ss : List Sp) (st : St), (firstR n ss st).isSome = rings n ss st
  | [], _ => rfl
  | s :: ss, st => by
    show (match ring n st s with
      | some x => some x
      | none => firstR n ss (sc st s)).isSome = ((ring n st s).isSome || rings n ss (sc st s))
    cases ring n st s with
    | none => exact firstR_is n ss (sc st s)
    | some x => rfl
def tags (xs : List Sp) : D := .tup (xs.reverse.map (·.t))
theorem loopW_no {ft : FT} {fb : FS} {N : Nat} {r r1 : Ev.Env} (h : ft r = .ok (false, r1)) : loopW ft fb (N + 1) r = .nx r1 := by
  show thenS (ft r) _ = _
  rw [h]
  rfl
theorem loopW_nx {ft : FT} {fb : FS} {N : Nat} {r r1 r2 : Ev.Env} (h : ft r = .ok (true, r1)) (h2 : fb r1 = .nx r2) : loopW ft fb (N + 1) r = loopW ft fb N r2 := by
  show thenS (ft r) _ = _
  rw [h, thenS_ok, if_pos rfl, h2]
theorem loopW_rt {ft : FT} {fb : FS} {N : Nat} {r r1 r2 : Ev.Env} {d : D} (h : ft r = .ok (true, r1)) (h2 : fb r1 = .rt d r2) : loopW ft fb (N + 1) r = .rt d r2 := by
  show thenS (ft r) _ = _
  rw [h, thenS_ok, if_pos rfl, h2]
section
variable {n : Nat} {cm : Cm} {e : Nat}
theorem ring_loop (hin : ∀ y s, cm y = some s → s.u < n) (hn : n ≤ 20) : ∀ (k F here : Nat) (fd : List Sp), here < n → fd.length + k = n + 1 → k < F →
    (rg cm e k here fd = none ∧ ∃ (h2 : Nat) (fd2 : List Sp), loopW c_closed_ring_1 l_closed_ring_1 F [.own true (.lst (caD n cm)), .val (.int (e : Nat)), .val (.int (here : Nat)), .own false (.lst (fd.map spD))] = .nx [.own true (.lst (caD n cm)), .val (.int (e : Nat)), .val (.int (h2 : Nat)), .own false (.lst (fd2.map spD))]) ∨
    ∃ (xs : List Sp) (h2 : D) (fd2 : Slot), rg cm e k here fd = some xs ∧ loopW c_closed_ring_1 l_closed_ring_1 F [.own true (.lst (caD n cm)), .val (.int (e : Nat)), .val (.int (here : Nat)), .own false (.lst (fd.map spD))] = .rt (.lst (xs.reverse.map spD)) [.own true (.lst (caD n cm)), .val (.int (e : Nat)), .val h2, fd2]
  | k, F, here, fd, hh, hl, hk => by
    obtain ⟨F, rfl⟩ : ∃ F', F = F' + 1 := ⟨F - 1, by omega⟩
    have ix : gIxA (.lst (caD n cm)) (.int (here : Nat)) = some (opS (cm here)) := gIxA_l (ca_get cm hh)
    have lf : gLen (.lst (fd.map spD)) = some (.int (fd.length : Int)) := by simp
    have lc : gLen (.lst (caD n cm)) = some (.int (n : Int)) := by simp [ca_len]
    have in0 : D.isNon .non = true := rfl
    cases hc : cm here with
    | none =>
      rw [hc] at ix
      simp only [opS] at ix
      left
      refine ⟨?_, here, fd, loopW_no ?_⟩
      · cases k with
        | zero => rfl
        | succ k =>
          show (match cm here with
            | none => none
            | some s => if s.u = e then some (fd ++ [s]) else rg cm e k s.u (fd ++ [s])) = none
          rw [hc]
      · generalize caD n cm = CD at *
        generalize fd.map spD = FD at *
        simp [c_closed_ring_1, ix, in0]
    | some s =>
      rw [hc] at ix
      simp only [opS] at ix
      have ns : (spD s).isNon = false := rfl
      cases k with
      | zero =>
        left
        refine ⟨rfl, here, fd, loopW_no ?_⟩
        have c : ¬ (fd.length : Int) ≤ (n : Int) := by omega
        generalize (fd.length : Int) = FL at *
        generalize caD n cm = CD at *
        generalize fd.map spD = FD at *
        generalize spD s = SD at *
        simp [c_closed_ring_1, ix, ns, lf, lc, c]
      | succ k =>
        have er : rg cm e (k + 1) here fd = if s.u = e then some (fd ++ [s]) else rg cm e k s.u (fd ++ [s]) := by
          show (match cm here with
            | none => none
            | some s => if s.u = e then some (fd ++ [s]) else rg cm e k s.u (fd ++ [s])) = _
          rw [hc]
        have c : (fd.length : Int) ≤ (n : Int) := by omega
        have fl : (fd.map spD).length < sizeLine := by rw [List.length_map, bigZ]; omega
        have i0 : gIxA (spD s) (.int 0) = some (.int (s.u : Int)) := gIxA_t (j := 0) rfl
        have ct : c_closed_ring_1 [.own true (.lst (caD n cm)), .val (.int (e : Nat)), .val (.int (here : Nat)), .own false (.lst (fd.map spD))] = .ok (true, [.own true (.lst (caD n cm)), .val (.int (e : Nat)), .val (.int (here : Nat)), .own false (.lst (fd.map spD))]) := by
          generalize (fd.length : Int) = FL at *
          generalize caD n cm = CD at *
          generalize fd.map spD = FD at *
          generalize spD s = SD at *
          simp [c_closed_ring_1, ix, ns, lf, lc, c]
        have ap : (fd ++ [s]).map spD = fd.map spD ++ [spD s] := by rw [List.map_append]; rfl
        by_cases z : s.u = e
        · right
          rw [if_pos z] at er
          have zi : (s.u : Int) = (e : Int) := by omega
          refine ⟨_, .int (s.u : Int), .own false (.lst ((fd ++ [s]).map spD)), er, loopW_rt ct ?_⟩
          rw [List.map_reverse, ap]
          rw [zi] at i0
          have zz : ((s.u : Nat) : Int) = (e : Int) := zi
          rw [zz]
          generalize caD n cm = CD at *
          generalize fd.map spD = FD at *
          generalize spD s = SD at *
          generalize (e : Int) = EI at *
          simp [l_closed_ring_1, ix, i0, gAppend, fl]
        · rw [if_neg z] at er
          have zi : ¬ (s.u : Int) = (e : Int) := by omega
          have lx : l_closed_ring_1 [.own true (.lst (caD n cm)), .val (.int (e : Nat)), .val (.int (here : Nat)), .own false (.lst (fd.map spD))] = .nx [.own true (.lst (caD n cm)), .val (.int (e : Nat)), .val (.int (s.u : Nat)), .own false (.lst ((fd ++ [s]).map spD))] := by
            rw [ap]
            generalize caD n cm = CD at *
            generalize fd.map spD = FD at *
            generalize spD s = SD at *
            generalize (s.u : Int) = U at *
            simp [l_closed_ring_1, ix, i0, gAppend, fl, zi]
          rcases ring_loop hin hn k F s.u (fd ++ [s]) (hin _ _ hc) (by simp; omega) (by omega) with ⟨h1, h2, fd2, h3⟩ | ⟨xs, h2, fd2, h1, h3⟩
          · left
            exact ⟨er.trans h1, h2, fd2, (loopW_nx ct lx).trans h3⟩
          · right
            exact ⟨xs, h2, fd2, er.trans h1, (loopW_nx ct lx).trans h3⟩
theorem e_ring (hin : ∀ y s, cm y = some s → s.u < n) (hn : n ≤ 20) (he : e < n) : g_closed_ring [.own true (.lst (caD n cm)), .val (.int (e : Nat))] = .ok (.d (match rg cm e (n + 1) e [] with | some xs => .lst (xs.reverse.map spD) | none => .non), [.own true (.lst (caD n cm)), .val (.int (e : Nat))]) := by
  have key := ring_loop hin hn (e := e) (n + 1) fuel e [] he (by simp) (by unfold fuel; omega)
  unfold g_closed_ring b_closed_ring
  rw [fnRun_fin]
  rcases key with ⟨h1, h2, fd2, h3⟩ | ⟨xs, h2, fd2, h1, h3⟩
  · rw [h1]
    have h3 : fWhile fuel c_closed_ring_1 l_closed_ring_1 [.own true (.lst (caD n cm)), .val (.int (e : Nat)), .val (.int (e : Nat)), .own false (.lst [])] = _ := h3
    generalize caD n cm = CD at *
    simp [h3]
  · rw [h1]
    have h3 : fWhile fuel c_closed_ring_1 l_closed_ring_1 [.own true (.lst (caD n cm)), .val (.int (e : Nat)), .val (.int (e : Nat)), .own false (.lst [])] = _ := h3
    generalize caD n cm = CD at *
    simp [h3]
end
end K24

/-! k24: clash tells a ring where no widths are. -/
namespace K24
open PySem L2 Ev
variable [TabsC]
/-- the wishes that check_wishes lets -/
structure Ck (m : Nat) (ws : List Ws) : Prop where
  m1 : 1 ≤ m
  m8 : m ≤ 8
  l : ws.length ≤ 30
  i : WI m ws
  w : ∀ x ∈ ws, 0 ≤ x.w ∧ x.w ≤ 10000
theorem ok_two : okEq (.str "least") = true ∧ okEq (.str "most") = true ∧ okEq (.tup [.str "least", .str "most"]) = true := by
  have a1 : PyData.strOk "least" = true := by decide +kernel
  have a2 : PyData.strOk "most" = true := by decide +kernel
  refine ⟨?_, ?_, ?_⟩ <;> (unfold okEq SeqAt.shaped; simp [D.noDct, D.noDcts, D.py, D.pys, PyData.canLay0, PyData.canLayAll0, PyData.depth, PyData.depthAll, a1, a2])
theorem str_in1 : gIn (.str "least") (.tup [.str "least", .str "most"]) = some (.bl true) := by
  show (if okEq (.str "least") && okEq (.tup [.str "least", .str "most"]) then some (D.bl (inD (.str "least") [.str "least", .str "most"])) else none) = _
  rw [ok_two.1, ok_two.2.2]
  simp [inD, D.py, PyData.eqv]
theorem str_in2 : gIn (.str "most") (.tup [.str "least", .str "most"]) = some (.bl true) := by
  show (if okEq (.str "most") && okEq (.tup [.str "least", .str "most"]) then some (D.bl (inD (.str "most") [.str "least", .str "most"])) else none) = _
  rw [ok_two.2.1, ok_two.2.2]
  simp [inD, D.py, PyData.eqv]
theorem e_wish {m : Nat} {x : Ws} (h1 : x.a ≤ x.b) (h2 : x.b < m) (h3 : 0 ≤ x.w ∧ x.w ≤ 10000) : g_is_wish [.val (.int (m : Nat)), .val (wiD x)] = .ok (.d (.bl true), [.val (.int (m : Nat)), .val (wiD x)]) := by
  have t : g_is_tuple_of [.val (.tup [.int x.a, .int x.b, wyD x.le, .int x.w]), .val (.int 4)] = .ok (.d (.bl true), [.val (.tup [.int x.a, .int x.b, wyD x.le, .int x.w]), .val (.int 4)]) := by
    unfold g_is_tuple_of b_is_tuple_of
    rw [fnRun_fin]
    simp [D.isTup]
  have i0 : gIxA (wiD x) (.int 0) = some (.int (x.a : Int)) := gIxA_t (j := 0) rfl
  have i1 : gIxA (wiD x) (.int 1) = some (.int (x.b : Int)) := gIxA_t (j := 1) rfl
  have i2 : gIxA (wiD x) (.int 2) = some (wyD x.le) := gIxA_t (j := 2) rfl
  have i3 : gIxA (wiD x) (.int 3) = some (.int x.w) := gIxA_t (j := 3) rfl
  have a1 := g_within (.int (x.b : Int)) 0 ((m : Int) - 1)
  rw [show inW 0 ((m : Int) - 1) (.int (x.b : Int)) = true from by simp [inW]; omega] at a1
  have a2 := g_within (.int (x.a : Int)) 0 (x.b : Int)
  rw [show inW 0 (x.b : Int) (.int (x.a : Int)) = true from by simp [inW]; omega] at a2
  have a3 := g_within (.int x.w) 0 10000
  rw [show inW 0 10000 (.int x.w) = true from by simp [inW]; omega] at a3
  have is : (gIsi "str") (wyD x.le) = some (.bl true) := by
    unfold wyD
    split <;> rfl
  have inn : gIn (wyD x.le) (.tup [.str "least", .str "most"]) = some (.bl true) := by
    unfold wyD
    split
    · exact str_in1
    · exact str_in2
  change g_is_tuple_of [.val (wiD x), _] = .ok (_, [.val (wiD x), _]) at t
  unfold g_is_wish b_is_wish
  rw [fnRun_fin]
  generalize wiD x = W at *
  generalize wyD x.le = Y at *
  generalize (x.a : Int) = A at *
  generalize (x.b : Int) = B at *
  simp [t, i0, i1, i2, i3, a1, a2, a3, is, inn]
theorem e_check {m : Nat} {ws : List Ws} (q : Ck m ws) : g_check_wishes [.val (.int (m : Nat)), .val (wsD ws)] = .ok (.d .non, [.val (.int (m : Nat)), .val (wsD ws)]) := by
  have m1 := q.m1
  have m8 := q.m8
  have l := q.l
  have a := g_within (.int (m : Nat)) 1 8
  rw [show inW 1 8 (.int (m : Nat)) = true from by simp [inW]; omega] at a
  have ln : gLen (wsD ws) = some (.int (ws.length : Int)) := by unfold wsD; simp
  have lt : ¬ (30 : Int) < (ws.length : Int) := by omega
  have is : (gIsi "tuple") (wsD ws) = some (.bl true) := rfl
  have sq : seqOf (wsD ws) = some (ws.map wiD) := rfl
  have kc : ∀ r : Ev.Env, r = [.val (.int (m : Nat)), .val (wsD ws), .un] → loopC [2] (setN 2) (fYes) (fCall g_is_wish (fACons (fBE (fN 0)) (fACons (fBE (fN 2)) (fANil)))) (ws.map wiD) r [] = .ok (ws.map (fun _ => .bl true), r) := by
    intro r hr
    rw [loopC_mapM wiD (fun _ => .bl true)]
    · rfl
    · intro x hx
      obtain ⟨h1, h2⟩ := q.i x hx
      have e := e_wish (m := m) h1 h2 (q.w x hx)
      subst hr
      generalize wsD ws = T at *
      generalize wiD x = W at *
      simp [turnC, e]
    · simp [bigZ]; omega
  have kc := kc _ rfl
  have al : gAll (.lst (ws.map fun _ => D.bl true)) = some (.bl true) := all_trueM ws
  generalize (ws.map fun _ => D.bl true) = L1 at *
  generalize ws.map wiD = L2 at *
  generalize (ws.length : Int) = M at *
  unfold g_check_wishes b_check_wishes
  rw [fnRun_fin]
  generalize wsD ws = T at *
  simp [a, ln, lt, is, sq, kc, al]
end K24

/-! k24: clash. -/
namespace K24
open PySem L2 Ev
variable [TabsC]
/-- came holds steps alone -/
def In (n : Nat) (c : Cm) : Prop := ∀ y s, c y = some s → s.u < n
theorem sc_in {n : Nat} {st : St} {s : Sp} (h : In n st.c) (hs : s.u < n) : In n (sc st s).c := by
  unfold sc
  split
  · intro y t q
    have q : upC st.c s y = some t := q
    unfold upC at q
    split at q
    · cases q; exact hs
    · exact h y t q
  · exact h
theorem rg_len {cm : Cm} {e : Nat} : ∀ {k here : Nat} {fd xs : List Sp}, rg cm e k here fd = some xs → xs.length ≤ fd.length + k
  | 0, _, _, _, h => by cases h
  | k + 1, here, fd, xs, h => by
    have h : (match cm here with
      | none => none
      | some s => if s.u = e then some (fd ++ [s]) else rg cm e k s.u (fd ++ [s])) = some xs := h
    cases hc : cm here with
    | none => rw [hc] at h; cases h
    | some s =>
      rw [hc] at h
      simp only at h
      split at h
      · cases h; simp
      · have := rg_len h
        simp at this
        omega
abbrev eC (m : Nat) (W S : D) (n : Nat) (st : St) (d5 : D) (o6 o7 : Option D) : Ev.Env := [.val (.int (m : Nat)), .val W, .val S, .own false (.lst (faD n st.f)), .own false (.lst (caD n st.c)), .val d5, vsl o6, vsl o7, .un]
section
variable {n m : Nat} {W S d5 : D}
theorem e_one {st : St} {s : Sp} (hn : n ≤ 20) (hu : s.u < n) (hv : s.v < n) (hin : In n st.c) (o6 o7 : Option D) :
    (ring n st s = none ∧ ∃ o7', obF (t_clash_1 (spD s) (eC m W S n st d5 o6 o7)) l_clash_1 = .nx (eC m W S n (sc st s) d5 (some (spD s)) o7')) ∨
    ∃ xs, ring n st s = some xs ∧ ∃ r', obF (t_clash_1 (spD s) (eC m W S n st d5 o6 o7)) l_clash_1 = .rt (tags xs) (.val (.int (m : Nat)) :: .val W :: r') := by
  have i0 : gIxA (spD s) (.int 0) = some (.int (s.u : Int)) := gIxA_t (j := 0) rfl
  have i1 : gIxA (spD s) (.int 1) = some (.int (s.v : Int)) := gIxA_t (j := 1) rfl
  have i2 : gIxA (spD s) (.int 2) = some (.int s.w) := gIxA_t (j := 2) rfl
  have fu : gIxA (.lst (faD n st.f)) (.int (s.u : Int)) = some (.int (st.f s.u)) := gIxA_l (fa_get _ hu)
  have fv : gIxA (.lst (faD n st.f)) (.int (s.v : Int)) = some (.int (st.f s.v)) := gIxA_l (fa_get _ hv)
  unfold ring
  by_cases c : lt1 st.f s
  · rw [if_pos c]
    have e : sc st s = ⟨rlx st.f s, upC st.c s⟩ := by unfold sc; rw [if_pos c]
    have er : rlx st.f s = upF st.f s.v (st.f s.u + s.w) := by unfold rlx; rw [if_pos c]
    have p1 : gPut (.lst (faD n st.f)) (.int (s.v : Int)) (.int (st.f s.u + s.w)) = some (.lst (faD n (upF st.f s.v (st.f s.u + s.w)))) := by
      rw [gPut_nat (by rw [fa_len]; exact hv), fa_set _ hv]
    have p2 : gPut (.lst (caD n st.c)) (.int (s.v : Int)) (spD s) = some (.lst (caD n (upC st.c s))) := by
      rw [gPut_nat (by rw [ca_len]; exact hv), ca_set _ _ hv]
    have hin2 := sc_in hin hu
    rw [e] at hin2
    have rr := e_ring (n := n) (cm := upC st.c s) (e := s.v) hin2 hn hv
    have in0 : D.isNon .non = true := rfl
    cases hr : rg (upC st.c s) s.v (n + 1) s.v [] with
    | none =>
      rw [hr] at rr
      left
      refine ⟨rfl, some .non, ?_⟩
      rw [e, er]
      unfold lt1 at c
      unfold eC
      simp only at rr
      generalize faD n (upF st.f s.v (st.f s.u + s.w)) = F2 at *
      generalize faD n st.f = F1 at *
      generalize caD n (upC st.c s) = C2 at *
      generalize caD n st.c = C1 at *
      generalize spD s = SD at *
      generalize (s.u : Int) = U at *
      generalize (s.v : Int) = V at *
      simp [t_clash_1, l_clash_1, i0, i1, i2, fu, fv, c, p1, p2, rr, in0]
    | some xs =>
      rw [hr] at rr
      right
      simp only at rr
      have xl : xs.length ≤ 1000 := by
        have := rg_len hr
        simp at this
        omega
      have sq : seqOf (.lst (xs.reverse.map spD)) = some (xs.reverse.map spD) := rfl
      have nn : D.isNon (.lst (xs.reverse.map spD)) = false := rfl
      have kc : ∀ (A3 A4 : Slot) (r : Ev.Env), r = [.val (.int (m : Nat)), .val W, .val S, A3, A4, .val d5, .val (spD s), .val (.lst (xs.reverse.map spD)), .un] → loopC [8] (setN 8) (fYes) (fBin gIxA (fNB 8) (fBE (fC (.int 3)))) (xs.reverse.map spD) r [] = .ok (xs.reverse.map (·.t), r) := by
        intro A3 A4 r hr
        rw [loopC_mapM spD (fun s => s.t)]
        · rfl
        · intro s' hs'
          have i3 : gIxA (spD s') (.int 3) = some s'.t := gIxA_t (j := 3) rfl
          subst hr
          generalize xs.reverse.map spD = L at *
          generalize spD s = SD at *
          generalize spD s' = SD' at *
          simp [turnC, i3]
        · simp [bigZ]; omega
      have kc := fun A3 A4 => kc A3 A4 _ rfl
      have tp : gTupOf (.lst (xs.reverse.map (·.t))) = some (tags xs) := rfl
      refine ⟨xs, rfl, [.val S, .own false (.lst (faD n (upF st.f s.v (st.f s.u + s.w)))), .own false (.lst (caD n (upC st.c s))), .val d5, .val (spD s), .val (.lst (xs.reverse.map spD)), .un], ?_⟩
      unfold lt1 at c
      unfold eC
      generalize xs.reverse.map spD = L at *
      generalize xs.reverse.map (·.t) = L2 at *
      generalize tags xs = TG at *
      generalize faD n (upF st.f s.v (st.f s.u + s.w)) = F2 at *
      generalize faD n st.f = F1 at *
      generalize caD n (upC st.c s) = C2 at *
      generalize caD n st.c = C1 at *
      generalize spD s = SD at *
      generalize (s.u : Int) = U at *
      generalize (s.v : Int) = V at *
      simp [t_clash_1, l_clash_1, i0, i1, i2, fu, fv, c, p1, p2, rr, nn, sq, kc, tp]
  · rw [if_neg c]
    have e : sc st s = st := by unfold sc; rw [if_neg c]
    left
    refine ⟨rfl, o7, ?_⟩
    rw [e]
    unfold lt1 at c
    unfold eC
    generalize faD n st.f = F1 at *
    generalize caD n st.c = C1 at *
    generalize spD s = SD at *
    generalize (s.u : Int) = U at *
    generalize (s.v : Int) = V at *
    simp [t_clash_1, l_clash_1, i0, i1, i2, fu, fv, c]
theorem e_pass (hn : n ≤ 20) : ∀ {ss : List Sp}, (∀ s ∈ ss, s.u < n ∧ s.v < n) → ∀ (st : St), In n st.c → ∀ o6 o7 : Option D,
    (firstR n ss st = none ∧ In n (scs ss st).c ∧ ∃ o6' o7', loopF t_clash_1 l_clash_1 (ss.map spD) (eC m W S n st d5 o6 o7) = .nx (eC m W S n (scs ss st) d5 o6' o7')) ∨
    ∃ xs, firstR n ss st = some xs ∧ ∃ r', loopF t_clash_1 l_clash_1 (ss.map spD) (eC m W S n st d5 o6 o7) = .rt (tags xs) (.val (.int (m : Nat)) :: .val W :: r')
  | [], _, st, hin, o6, o7 => .inl ⟨rfl, hin, o6, o7, rfl⟩
  | s :: ss, h, st, hin, o6, o7 => by
    obtain ⟨hu, hv⟩ := h s List.mem_cons_self
    have fe : firstR n (s :: ss) st = match ring n st s with
      | some x => some x
      | none => firstR n ss (sc st s) := rfl
    have le : ∀ r2, loopF t_clash_1 l_clash_1 ((s :: ss).map spD) (eC m W S n st d5 o6 o7) = r2 ↔ obF (t_clash_1 (spD s) (eC m W S n st d5 o6 o7)) (fun r1 => loopK t_clash_1 l_clash_1 (ss.map spD) (l_clash_1 r1)) = r2 := fun r2 => by
      rw [List.map_cons, loopF_cons]
    have tn : ∃ r1, t_clash_1 (spD s) (eC m W S n st d5 o6 o7) = some r1 := by
      unfold eC
      cases o6 <;> exact ⟨_, rfl⟩
    obtain ⟨r1, tn⟩ := tn
    rcases e_one (m := m) (W := W) (S := S) (d5 := d5) hn hu hv hin o6 o7 with ⟨h1, o7', h2⟩ | ⟨xs, h1, r', h2⟩
    · rw [tn] at h2
      have h2 : l_clash_1 r1 = _ := h2
      rcases e_pass hn (fun t ht => h t (List.mem_cons_of_mem _ ht)) (sc st s) (sc_in hin hu) (some (spD s)) o7' with ⟨f1, f2, a, b, f3⟩ | ⟨xs, f1, r', f3⟩
      · refine .inl ⟨by rw [fe, h1]; exact f1, f2, a, b, (le _).mpr ?_⟩
        rw [tn]
        show loopK t_clash_1 l_clash_1 (ss.map spD) (l_clash_1 r1) = _
        rw [h2, loopK_nx]
        exact f3
      · refine .inr ⟨xs, by rw [fe, h1]; exact f1, r', (le _).mpr ?_⟩
        rw [tn]
        show loopK t_clash_1 l_clash_1 (ss.map spD) (l_clash_1 r1) = _
        rw [h2, loopK_nx]
        exact f3
    · rw [tn] at h2
      have h2 : l_clash_1 r1 = _ := h2
      refine .inr ⟨xs, by rw [fe, h1], r', (le _).mpr ?_⟩
      rw [tn]
      show loopK t_clash_1 l_clash_1 (ss.map spD) (l_clash_1 r1) = _
      rw [h2, loopK_rt]
end
section
variable {m : Nat} {ws : List Ws}
theorem e_clash0 (q : Ck m ws) (h : ∃ x, Sm m ws x) : g_clash [.val (.int (m : Nat)), .val (wsD ws)] = .ok (.d .non, [.val (.int (m : Nat)), .val (wsD ws)]) := by
  obtain ⟨x, hx⟩ := h
  obtain ⟨d, L⟩ := lea_sm q.i hx
  have a := e_check q
  have b := e_raw1 q.m8 q.i (by have := q.l; omega) L
  have nn : (tpI (wid m d)).isNon = false := rfl
  unfold g_clash b_clash
  rw [fnRun_fin]
  generalize tpI (wid m d) = X at *
  generalize wsD ws = T at *
  simp [a, b, nn]
theorem e_clash1 (q : Ck m ws) (no : ∀ x, ¬ Sm m ws x) : ∃ xs, g_clash [.val (.int (m : Nat)), .val (wsD ws)] = .ok (.d (tags xs), [.val (.int (m : Nat)), .val (wsD ws)]) := by
  have m8 := q.m8
  have l := q.l
  have a := e_check q
  have b := e_raw0 q.m8 q.i (by omega) no
  have es := e_steps q.m8 (ws := ws) (by omega)
  have hn := stp_in q.i
  obtain ⟨k0, hk0, hr⟩ := ring_found (n := m + 1) (by omega) hn (no_sol q.i no)
  generalize stp m ws = ss at *
  have in0 : D.isNon .non = true := rfl
  have r1 : rg1 [(m : Int) + 2] = some ((rgI (m + 2)).map .int) := by
    have := rg1_nat (m + 2) (by omega)
    rw [show ((m + 2 : Nat) : Int) = (m : Int) + 2 by omega] at this
    exact this
  have z1 : gRepL (.lst [.int 0]) (.int ((m : Int) + 1)) = some (faD (m + 1) (GG ss 0).f) := by
    have := gRepL_one (.int 0) (m + 1) (by omega)
    rw [show ((m + 1 : Nat) : Int) = (m : Int) + 1 by omega] at this
    rw [this]
    unfold faD GG
    show _ = some ((List.range (m + 1)).map fun _ => D.int 0)
    rw [List.map_const', List.length_range]
  have z2 : gRepL (.lst [.non]) (.int ((m : Int) + 1)) = some (caD (m + 1) (GG ss 0).c) := by
    have := gRepL_one .non (m + 1) (by omega)
    rw [show ((m + 1 : Nat) : Int) = (m : Int) + 1 by omega] at this
    rw [this]
    unfold caD GG
    show _ = some ((List.range (m + 1)).map fun _ => D.non)
    rw [List.map_const', List.length_range]
  have key := loopF_stop (ft := t_clash_2) (fb := l_clash_2) (ds := (rgI (m + 2)).map .int)
    (fun i r => In (m + 1) (GG ss i).c ∧ ∃ (o5 o6 o7 : Option D), r = [.val (.int (m : Nat)), .val (wsD ws), .val (.lst (ss.map spD)), .own false (.lst (faD (m + 1) (GG ss i).f)), .own false (.lst (caD (m + 1) (GG ss i).c)), vsl o5, vsl o6, vsl o7, .un])
    (fun r => ∃ r2, r = .val (.int (m : Nat)) :: .val (wsD ws) :: r2)
    (fun i => rings (m + 1) ss (GG ss i) = true) (fun i => match firstR (m + 1) ss (GG ss i) with | some xs => tags xs | none => .non) 0
    (r := [.val (.int (m : Nat)), .val (wsD ws), .val (.lst (ss.map spD)), .own false (.lst (faD (m + 1) (GG ss 0).f)), .own false (.lst (caD (m + 1) (GG ss 0).c)), .un, .un, .un, .un]) ⟨fun y s h => (nomatch h), none, none, none, rfl⟩ (fun i d r hd ⟨hin, o5, o6, o7, hr⟩ => by
      subst hr
      rw [Nat.zero_add] at hin ⊢
      have fi := firstR_is (m + 1) ss (GG ss i)
      have t2 : t_clash_2 d [.val (.int (m : Nat)), .val (wsD ws), .val (.lst (ss.map spD)), .own false (.lst (faD (m + 1) (GG ss i).f)), .own false (.lst (caD (m + 1) (GG ss i).c)), vsl o5, vsl o6, vsl o7, .un] = some (eC m (wsD ws) (.lst (ss.map spD)) (m + 1) (GG ss i) d o6 o7) := by
        cases o5 <;> rfl
      have l2 : l_clash_2 (eC m (wsD ws) (.lst (ss.map spD)) (m + 1) (GG ss i) d o6 o7) = loopF t_clash_1 l_clash_1 (ss.map spD) (eC m (wsD ws) (.lst (ss.map spD)) (m + 1) (GG ss i) d o6 o7) := by
        unfold eC
        generalize faD (m + 1) (GG ss i).f = F1 at *
        generalize caD (m + 1) (GG ss i).c = C1 at *
        generalize ss.map spD = L at *
        generalize wsD ws = T at *
        simp [l_clash_2]
      rcases e_pass (n := m + 1) (m := m) (W := wsD ws) (S := .lst (ss.map spD)) (d5 := d) (by omega) hn (GG ss i) hin o6 o7 with ⟨f1, f2, o6', o7', f3⟩ | ⟨xs, f1, r', f3⟩
      · refine .inl ⟨?_, _, .inl ?_, f2, some d, o6', o7', rfl⟩
        · rw [← fi, f1]; simp
        · rw [t2]
          show l_clash_2 _ = _
          rw [l2, f3]
          rfl
      · refine .inr ⟨?_, _, ?_, r', rfl⟩
        · rw [← fi, f1]; rfl
        · rw [t2]
          show l_clash_2 _ = _
          rw [l2, f3, f1])
  rw [List.length_map, rgI_len] at key
  rcases key with ⟨nb, _⟩ | ⟨k, hk, hb, _, r', q1, r2, rfl⟩
  · have := nb k0 (by omega)
    rw [Nat.zero_add] at this
    exact absurd hr this
  · rw [Nat.zero_add] at hb q1
    have fi := firstR_is (m + 1) ss (GG ss k)
    rw [hb] at fi
    cases hf : firstR (m + 1) ss (GG ss k) with
    | none => rw [hf] at fi; cases fi
    | some xs =>
      rw [hf] at q1
      simp only at q1
      refine ⟨xs, ?_⟩
      generalize tags xs = X at *
      generalize faD (m + 1) (GG ss 0).f = F0 at *
      generalize caD (m + 1) (GG ss 0).c = C0 at *
      generalize (rgI (m + 2)).map D.int = L3 at *
      generalize ss.map spD = L at *
      unfold g_clash b_clash
      rw [fnRun_fin]
      generalize wsD ws = T at *
      simp [a, b, in0, es, z1, z2, r1, q1]
end
end K24

/-! k24: widths, their sums; what keeps all wishes. -/
namespace K24
open PySem L2 Ev
variable [TabsC]
def ps (xs : List Int) (i : Nat) : Int := (xs.take i).sum
theorem ps_succ {xs : List Int} {i : Nat} (h : i < xs.length) : ps xs (i + 1) = ps xs i + xs[i] := by
  unfold ps
  rw [List.take_succ_eq_append_getElem h, List.sum_append]
  simp
theorem ps_sub (xs : List Int) {a b : Nat} (h : a ≤ b) : ((xs.drop a).take (b - a)).sum = ps xs b - ps xs a := by
  unfold ps
  have : xs.take b = xs.take a ++ (xs.drop a).take (b - a) := by
    rw [← List.take_add]
    congr 1
    omega
  rw [this, List.sum_append]
  omega
/-- widths of m columns that keep all wishes -/
structure Wd (m : Nat) (ws : List Ws) (xs : List Int) : Prop where
  l : xs.length = m
  n : ∀ x ∈ xs, 0 ≤ x
  k : ∀ w ∈ ws, Kp (ps xs) w
section
variable {m : Nat} {ws : List Ws}
theorem Wd.sm {xs : List Int} (h : Wd m ws xs) : Sm m ws (ps xs) := ⟨rfl, fun e he => by
  have hl : e < xs.length := by rw [h.l]; exact he
  rw [ps_succ hl]
  have := h.n xs[e] (List.getElem_mem hl)
  omega, h.k⟩
theorem wid_len (m : Nat) (d : Nat → Int) : (wid m d).length = m := by unfold wid; simp
theorem ps_wid {d : Nat → Int} : ∀ {i : Nat}, i ≤ m → ps (wid m d) i = d i - d 0
  | 0, _ => by unfold ps; simp
  | i + 1, h => by
    rw [ps_succ (by rw [wid_len]; omega), ps_wid (by omega)]
    unfold wid
    rw [List.getElem_map, List.getElem_range]
    omega
theorem Sm.wd (hw : WI m ws) {d : Nat → Int} (h : Sm m ws d) : Wd m ws (wid m d) := by
  refine ⟨wid_len m d, fun x hx => ?_, fun w hk => ?_⟩
  · obtain ⟨e, he, rfl⟩ := List.mem_map.mp hx
    have := h.u e (List.mem_range.mp he)
    omega
  · have k := h.k w hk
    obtain ⟨h1, h2⟩ := hw w hk
    unfold Kp at k ⊢
    rw [ps_wid (by omega), ps_wid (by omega)]
    cases c : w.le with
    | true => rw [c] at k; simp only [if_true] at k ⊢; omega
    | false => rw [c] at k; simp only [Bool.false_eq_true, if_false] at k ⊢; omega
theorem e_least (q : Ck m ws) {d : Nat → Int} (L : Lea (stp m ws) d) : g_least_widths [.val (.int (m : Nat)), .val (wsD ws)] = .ok (.d (tpI (wid m d)), [.val (.int (m : Nat)), .val (wsD ws)]) := by
  have a := e_check q
  have b := e_raw1 q.m8 q.i (by have := q.l; omega) L
  unfold g_least_widths b_least_widths
  rw [fnRun_fin]
  generalize tpI (wid m d) = X at *
  generalize wsD ws = T at *
  simp [a, b]
/-- the total pinned -/
def pin (m : Nat) (t : Int) : List Ws := [⟨0, m - 1, true, t⟩, ⟨0, m - 1, false, t⟩]
theorem pin_wi (h1 : 1 ≤ m) (hw : WI m ws) (t : Int) : WI m (ws ++ pin m t) := fun w h => by
  rcases List.mem_append.mp h with h | h
  · exact hw w h
  · simp only [pin, List.mem_cons, List.not_mem_nil, or_false] at h
    rcases h with rfl | rfl <;> exact ⟨Nat.zero_le _, by show m - 1 < m; omega⟩
theorem pin_sm (h1 : 1 ≤ m) {t : Int} {x : Nat → Int} : Sm m (ws ++ pin m t) x ↔ Sm m ws x ∧ x m = t := by
  have e : m - 1 + 1 = m := by omega
  constructor
  · intro h
    refine ⟨⟨h.z, h.u, fun w hw => h.k w (List.mem_append_left _ hw)⟩, ?_⟩
    have a := h.k ⟨0, m - 1, true, t⟩ (List.mem_append_right _ (by simp [pin]))
    have b := h.k ⟨0, m - 1, false, t⟩ (List.mem_append_right _ (by simp [pin]))
    unfold Kp at a b
    simp only [if_true, Bool.false_eq_true, if_false] at a b
    rw [e] at a b
    have := h.z
    omega
  · rintro ⟨h, ht⟩
    refine ⟨h.z, h.u, fun w hw => ?_⟩
    rcases List.mem_append.mp hw with hw | hw
    · exact h.k w hw
    · simp only [pin, List.mem_cons, List.not_mem_nil, or_false] at hw
      have := h.z
      rcases hw with rfl | rfl <;> (unfold Kp; simp only [if_true, Bool.false_eq_true, if_false]; rw [e]; omega)
theorem e_spread (q : Ck m ws) {t : Int} (ht : 0 ≤ t ∧ t ≤ 1000000) {R : D} (e : g_raw_least [.val (.int (m : Nat)), .val (wsD (ws ++ pin m t))] = .ok (.d R, [.val (.int (m : Nat)), .val (wsD (ws ++ pin m t))])) :
    g_spread_out [.val (.int (m : Nat)), .val (wsD ws), .val (.int t)] = .ok (.d R, [.val (.int (m : Nat)), .val (wsD ws), .val (.int t)]) := by
  have m1 := q.m1
  have l := q.l
  have a := e_check q
  have b := g_within (.int t) 0 1000000
  rw [show inW 0 1000000 (.int t) = true from by simp [inW]; omega] at b
  have ad : gAdd (wsD ws) (.tup [.tup [.int 0, .int ((m : Int) - 1), .str "least", .int t], .tup [.int 0, .int ((m : Int) - 1), .str "most", .int t]]) = some (wsD (ws ++ pin m t)) := by
    have := gAdd_t (xs := ws.map wiD) (ys := (pin m t).map wiD) (by simp [pin]; omega)
    have ee : ((m - 1 : Nat) : Int) = (m : Int) - 1 := by omega
    have ep : (pin m t).map wiD = [.tup [.int 0, .int ((m : Int) - 1), .str "least", .int t], .tup [.int 0, .int ((m : Int) - 1), .str "most", .int t]] := by
      unfold pin wiD wyD
      simp [ee]
    rw [ep] at this
    show gAdd (.tup (ws.map wiD)) _ = some (.tup ((ws ++ pin m t).map wiD))
    rw [this, List.map_append, ep]
  generalize wsD (ws ++ pin m t) = T2 at *
  unfold g_spread_out b_spread_out
  rw [fnRun_fin]
  generalize wsD ws = T at *
  simp [a, b, ad, e]
theorem e_keep {xs : List Int} {w : Ws} (h1 : w.a ≤ w.b) (k : Kp (ps xs) w) : g_does_keep [.val (tpI xs), .val (wiD w)] = .ok (.d (.bl true), [.val (tpI xs), .val (wiD w)]) := by
  have i0 : gIxA (wiD w) (.int 0) = some (.int (w.a : Int)) := gIxA_t (j := 0) rfl
  have i1 : gIxA (wiD w) (.int 1) = some (.int (w.b : Int)) := gIxA_t (j := 1) rfl
  have i2 : gIxA (wiD w) (.int 2) = some (wyD w.le) := gIxA_t (j := 2) rfl
  have i3 : gIxA (wiD w) (.int 3) = some (.int w.w) := gIxA_t (j := 3) rfl
  have sl : gSl (tpI xs) (some (w.a : Int)) (some ((w.b : Int) + 1)) = some (tpI ((xs.drop w.a).take (w.b + 1 - w.a))) := by
    have := gSl_cut (xs.map D.int) w.a (w.b + 1)
    rw [← List.map_drop, ← List.map_take, show ((w.b + 1 : Nat) : Int) = (w.b : Int) + 1 by omega] at this
    exact this
  have sm : gSum (tpI ((xs.drop w.a).take (w.b + 1 - w.a))) = some (.int (ps xs (w.b + 1) - ps xs w.a)) := by
    rw [← ps_sub xs (show w.a ≤ w.b + 1 by omega)]
    exact gSum_of rfl
  have ne := str_ne
  unfold Kp at k
  generalize tpI ((xs.drop w.a).take (w.b + 1 - w.a)) = X2 at *
  generalize ps xs (w.b + 1) - ps xs w.a = DD at *
  unfold g_does_keep b_does_keep
  rw [fnRun_fin]
  generalize wiD w = W at *
  generalize tpI xs = X at *
  generalize (w.a : Int) = A at *
  generalize (w.b : Int) = B at *
  cases c : w.le with
  | true =>
    rw [c] at i2 k
    simp only [if_true] at k
    simp only [wyD, if_true] at i2
    simp [i0, i1, sl, sm, i2, i3, k]
  | false =>
    rw [c] at i2 k
    simp only [Bool.false_eq_true, if_false] at k
    simp only [wyD, Bool.false_eq_true, if_false] at i2
    simp [i0, i1, sl, sm, i2, i3, k, ne]
theorem e_isw (q : Ck m ws) {xs : List Int} (h : Wd m ws xs) : g_is_widths [.val (.int (m : Nat)), .val (wsD ws), .val (tpI xs)] = .ok (.d (.bl true), [.val (.int (m : Nat)), .val (wsD ws), .val (tpI xs)]) := by
  have l := q.l
  have m8 := q.m8
  have xl := h.l
  have a := e_check q
  have is : (gIsi "tuple") (tpI xs) = some (.bl true) := rfl
  have ln : gLen (tpI xs) = some (.int (m : Int)) := by simp [xl]
  have sq : seqOf (tpI xs) = some (xs.map .int) := rfl
  have sw : seqOf (wsD ws) = some (ws.map wiD) := rfl
  have k1 : ∀ r : Ev.Env, r = [.val (.int (m : Nat)), .val (wsD ws), .val (tpI xs), .un, .un] → loopC [3] (setN 3) (fYes) (fCall g_is_within (fACons (fBE (fN 3)) (fACons (fBE (fC (.int 0))) (fACons (fBE (fN 3)) (fANil))))) (xs.map .int) r [] = .ok (xs.map (fun _ => .bl true), r) := by
    intro r hr
    rw [loopC_mapM D.int (fun _ => .bl true)]
    · rfl
    · intro x hx
      have := h.n x hx
      have e := g_within (.int x) 0 x
      rw [show inW 0 x (.int x) = true from by simp [inW]; omega] at e
      subst hr
      generalize wsD ws = T at *
      generalize tpI xs = X at *
      simp [turnC, e]
    · simp [bigZ]; omega
  have k2 : ∀ r : Ev.Env, r = [.val (.int (m : Nat)), .val (wsD ws), .val (tpI xs), .un, .un] → loopC [4] (setN 4) (fYes) (fCall g_does_keep (fACons (fBE (fN 2)) (fACons (fBE (fN 4)) (fANil)))) (ws.map wiD) r [] = .ok (ws.map (fun _ => .bl true), r) := by
    intro r hr
    rw [loopC_mapM wiD (fun _ => .bl true)]
    · rfl
    · intro w hw
      have e := e_keep (q.i w hw).1 (h.k w hw)
      subst hr
      generalize wsD ws = T at *
      generalize tpI xs = X at *
      generalize wiD w = W at *
      simp [turnC, e]
    · simp [bigZ]; omega
  have k1 := k1 _ rfl
  have k2 := k2 _ rfl
  have a1 : gAll (.lst (xs.map fun _ => D.bl true)) = some (.bl true) := all_trueM xs
  have a2 : gAll (.lst (ws.map fun _ => D.bl true)) = some (.bl true) := all_trueM ws
  have r : g_raw_is_widths [.val (.int (m : Nat)), .val (wsD ws), .val (tpI xs)] = .ok (.d (.bl true), [.val (.int (m : Nat)), .val (wsD ws), .val (tpI xs)]) := by
    generalize (xs.map fun _ => D.bl true) = L1 at *
    generalize (ws.map fun _ => D.bl true) = L2 at *
    generalize xs.map D.int = L3 at *
    generalize ws.map wiD = L4 at *
    unfold g_raw_is_widths b_raw_is_widths
    rw [fnRun_fin]
    generalize wsD ws = T at *
    generalize tpI xs = X at *
    simp [is, ln, sq, k1, a1, sw, k2, a2]
  unfold g_is_widths b_is_widths
  rw [fnRun_fin]
  generalize wsD ws = T at *
  generalize tpI xs = X at *
  simp [a, r]
end
end K24

/-! k24: sums beside sums; wishes drawn, turned about. -/
namespace K24
open PySem L2 Ev
variable [TabsC]
def sums (xs : List Int) : List Int := (List.range xs.length).map fun i => ps xs (i + 1)
theorem e_sums {xs : List Int} (hl : xs.length ≤ 20) : g__law_sums [.val (tpI xs)] = .ok (.o (.lst ((sums xs).map .int)), [.val (tpI xs)]) := by
  have ln : gLen (tpI xs) = some (.int (xs.length : Int)) := by simp
  have r1 : rg1 [(xs.length : Int)] = some ((rgI xs.length).map .int) := rg1_nat _ (by omega)
  have kc : ∀ r : Ev.Env, r = [.val (tpI xs), .un] → loopC [1] (setN 1) (fYes) (fCB (g1 gSum) (fACons (fBE (fSl (fNB 0) (fPN) (fPS (fBin gAdd (fNB 1) (fBE (fC (.int 1))))))) (fANil))) ((rgI xs.length).map .int) r [] = .ok ((sums xs).map .int, r) := by
    intro r hr
    have e : (rgI xs.length).map D.int = (List.range xs.length).map fun n : Nat => D.int (n : Int) := by unfold rgI; rw [List.map_map]; rfl
    rw [e, loopC_mapM (fun n : Nat => D.int (n : Int)) (fun n => .int (ps xs (n + 1)))]
    · unfold sums
      rw [List.nil_append, List.map_map]
      rfl
    · intro n hn
      have sl : gSl (tpI xs) none (some ((n : Int) + 1)) = some (tpI (xs.take (n + 1))) := by
        have := gSl_take (xs.map D.int) (n + 1)
        rw [← List.map_take, show ((n + 1 : Nat) : Int) = (n : Int) + 1 by omega] at this
        exact this
      have sm : gSum (tpI (xs.take (n + 1))) = some (.int (ps xs (n + 1))) := gSum_of rfl
      subst hr
      generalize tpI (xs.take (n + 1)) = X2 at *
      generalize tpI xs = X at *
      simp [turnC, sl, sm]
    · simp [bigZ]; omega
  have kc := kc _ rfl
  generalize (sums xs).map D.int = L1 at *
  generalize (rgI xs.length).map D.int = L2 at *
  generalize (xs.length : Int) = M at *
  unfold g__law_sums b__law_sums
  rw [fnRun_fin]
  generalize tpI xs = X at *
  simp [ln, r1, kc]
theorem e_below {xs ys : List Int} (hl : xs.length ≤ 20) (e : xs.length = ys.length) (h : ∀ i, i ≤ xs.length → ps xs i ≤ ps ys i) : g__law_is_below [.val (tpI xs), .val (tpI ys)] = .ok (.d (.bl true), [.val (tpI xs), .val (tpI ys)]) := by
  have a := e_sums hl
  have b := e_sums (xs := ys) (by omega)
  have zz : zipD ((sums xs).map .int) ((sums ys).map .int) = (List.range xs.length).map fun i : Nat => D.tup [.int (ps xs (i + 1)), .int (ps ys (i + 1))] := by
    unfold sums
    rw [List.map_map, List.map_map, ← e, zipD_map]
    have : ∀ l : List Nat, (l.zip l) = l.map fun i => (i, i) := by
      intro l
      induction l with
      | nil => rfl
      | cons x l ih => rw [List.zip_cons_cons, ih]; rfl
    rw [this, List.map_map]
    rfl
  have z2 : zip2 [.lst ((sums xs).map .int), .lst ((sums ys).map .int)] = some ((List.range xs.length).map fun i : Nat => D.tup [.int (ps xs (i + 1)), .int (ps ys (i + 1))]) := by
    show some (zipD _ _) = _
    rw [zz]
  have kc : ∀ r : Ev.Env, r = [.val (tpI xs), .val (tpI ys), .un, .un] → loopC [2, 3] (setTA 2 (setsCons (setN 2) (setsCons (setN 3) (setsNil)))) (fYes) (fBin gLe (fNB 2) (fNB 3)) ((List.range xs.length).map fun i : Nat => D.tup [.int (ps xs (i + 1)), .int (ps ys (i + 1))]) r [] = .ok ((List.range xs.length).map (fun _ => .bl true), r) := by
    intro r hr
    rw [loopC_mapM (fun i : Nat => D.tup [.int (ps xs (i + 1)), .int (ps ys (i + 1))]) (fun _ => .bl true)]
    · rfl
    · intro i hi
      have le := h (i + 1) (by have := List.mem_range.mp hi; omega)
      subst hr
      generalize tpI xs = X at *
      generalize tpI ys = Y at *
      simp [turnC, le]
    · simp [bigZ]; omega
  have kc := kc _ rfl
  have al : gAll (.lst ((List.range xs.length).map fun _ => D.bl true)) = some (.bl true) := all_trueM _
  generalize ((List.range xs.length).map fun _ => D.bl true) = L1 at *
  generalize ((List.range xs.length).map fun i : Nat => D.tup [.int (ps xs (i + 1)), .int (ps ys (i + 1))]) = L2 at *
  generalize (sums xs).map D.int = L3 at *
  generalize (sums ys).map D.int = L4 at *
  unfold g__law_is_below b__law_is_below
  rw [fnRun_fin]
  generalize tpI xs = X at *
  generalize tpI ys = Y at *
  simp [a, b, z2, kc, al]
/-- wishes that some widths keep -/
structure Kw (m : Nat) (xs : List Int) (ws : List Ws) : Prop where
  i : WI m ws
  k : ∀ w ∈ ws, Kp (ps xs) w
  w : ∀ x ∈ ws, 0 ≤ x.w ∧ x.w ≤ 10000
theorem ps_mono {xs : List Int} (n : ∀ x ∈ xs, 0 ≤ x) : ∀ {i j : Nat}, i ≤ j → j ≤ xs.length → ps xs i ≤ ps xs j
  | i, 0, h, _ => by have : i = 0 := by omega
                     subst this; exact Int.le_refl _
  | i, j + 1, h, hl => by
    by_cases e : i = j + 1
    · subst e; exact Int.le_refl _
    · have a := ps_mono n (i := i) (j := j) (by omega) (by omega)
      rw [ps_succ (show j < xs.length by omega)]
      have := n xs[j] (List.getElem_mem (by omega))
      omega
theorem e_kept {c : C} (hc : IsFlow c) {xs : List Int} {m : Nat} (h1 : 1 ≤ m) (h8 : m ≤ 8) (hl : xs.length = m) (n : ∀ x ∈ xs, 0 ≤ x) (big : ps xs m ≤ 9000) {many : Nat} (hm : many ≤ 12) : ∃ (c' : C) (ws : List Ws), IsFlow c' ∧ Kw m xs ws ∧ ws.length = many ∧
    g__law_kept_wishes [.own true c, .val (tpI xs), .val (.int (many : Nat))] = .ok (.d (wsD ws), [.own true c', .val (tpI xs), .val (.int (many : Nat))]) := by
  have r1 : rg1 [(many : Int)] = some ((rgI many).map .int) := rg1_nat many (by omega)
  have ln : gLen (tpI xs) = some (.int (m : Int)) := by simp [hl]
  obtain ⟨r', q1, c', ws, o4, o5, o6, o7, o8, hc', kw, wl, rfl⟩ := loopF_inv (ft := t__law_kept_wishes_1) (fb := l__law_kept_wishes_1) (ds := (rgI many).map .int)
    (fun i r => ∃ (c' : C) (ws : List Ws) (o4 o5 o6 o7 o8 : Option D), IsFlow c' ∧ Kw m xs ws ∧ ws.length = i ∧ r = [.own true c', .val (tpI xs), .val (.int (many : Nat)), .own false (.lst (ws.map wiD)), vsl o4, vsl o5, vsl o6, vsl o7, vsl o8]) 0
    (r := [.own true c, .val (tpI xs), .val (.int (many : Nat)), .own false (.lst []), .un, .un, .un, .un, .un]) ⟨c, [], none, none, none, none, none, hc, ⟨fun _ z => (nomatch z), fun _ z => (nomatch z), fun _ z => (nomatch z)⟩, rfl, rfl⟩ (fun i d r hd ⟨c', ws, o4, o5, o6, o7, o8, hc', kw, wl, hr⟩ => by
      subst hr
      rw [Nat.zero_add] at wl ⊢
      obtain ⟨hi, rfl⟩ := rgI_at hd
      obtain ⟨c1, a, hc1, a0, a1, e1⟩ := draw hc' (many := (m : Int)) (by omega) (by omega)
      obtain ⟨a, rfl⟩ := Int.eq_ofNat_of_zero_le a0
      obtain ⟨c2, k, hc2, k0, k1, e2⟩ := draw hc1 (many := (m : Int) - (a : Int)) (by omega) (by omega)
      obtain ⟨k, rfl⟩ := Int.eq_ofNat_of_zero_le k0
      obtain ⟨c3, sk, hc3, s0, s1, e3⟩ := draw hc2 (many := 6) (by omega) (by omega)
      obtain ⟨c4, f, hc4, f0, f1, e4⟩ := draw hc3 (many := 2) (by omega) (by omega)
      have sl : gSl (tpI xs) (some (a : Int)) (some ((a : Int) + (k : Int) + 1)) = some (tpI ((xs.drop a).take (a + k + 1 - a))) := by
        have := gSl_cut (xs.map D.int) a (a + k + 1)
        rw [← List.map_drop, ← List.map_take, show ((a + k + 1 : Nat) : Int) = (a : Int) + (k : Int) + 1 by omega] at this
        exact this
      have sm : gSum (tpI ((xs.drop a).take (a + k + 1 - a))) = some (.int (ps xs (a + k + 1) - ps xs a)) := by
        rw [← ps_sub xs (show a ≤ a + k + 1 by omega)]
        exact gSum_of rfl
      have p1 := ps_mono n (i := a) (j := a + k + 1) (by omega) (by omega)
      have p2 := ps_mono n (i := a + k + 1) (j := m) (by omega) (by omega)
      have p3 := ps_mono n (i := 0) (j := a) (by omega) (by omega)
      have p4 : ps xs 0 = 0 := by unfold ps; simp
      obtain ⟨mu, hmu⟩ : ∃ mu, mu = ps xs (a + k + 1) - ps xs a := ⟨_, rfl⟩
      rw [← hmu] at sm
      have mx : gMax2 (.int 0) (.int (mu - sk)) = some (.int (max 0 (mu - sk))) := gMax2_ii _ _
      have mn : gMin2 (.int 10000) (.int (mu + sk)) = some (.int (min 10000 (mu + sk))) := gMin2_ii _ _
      have fl : (ws.map wiD).length < sizeLine := by rw [List.length_map, bigZ]; omega
      have ak : ((a + k : Nat) : Int) = (a : Int) + (k : Int) := by omega
      have kw2 : ∀ w : Ws, w.a = a → w.b = a + k → Kp (ps xs) w → 0 ≤ w.w ∧ w.w ≤ 10000 → Kw m xs (ws ++ [w]) := fun w wa wb wk ww => by
        refine ⟨fun x hx => ?_, fun x hx => ?_, fun x hx => ?_⟩ <;> rcases List.mem_append.mp hx with hx | hx
        · exact kw.i x hx
        · rw [List.mem_singleton.mp hx, wa, wb]; omega
        · exact kw.k x hx
        · rw [List.mem_singleton.mp hx]; exact wk
        · exact kw.w x hx
        · rw [List.mem_singleton.mp hx]; exact ww
      by_cases fz : f = 0
      · refine ⟨_, .inl ?_, c4, ws ++ [⟨a, a + k, true, max 0 (mu - sk)⟩], some (.int (i : Int)), some (.int (a : Int)), some (.int ((a : Int) + (k : Int))), some (.int mu), some (.int sk), hc4, kw2 _ rfl rfl (by unfold Kp; simp only [if_true]; omega) (by show 0 ≤ max 0 (mu - sk) ∧ max 0 (mu - sk) ≤ 10000; omega), by simp; omega, rfl⟩
        rw [List.map_append]
        have ew : ([⟨a, a + k, true, max 0 (mu - sk)⟩] : List Ws).map wiD = [.tup [.int (a : Int), .int ((a : Int) + (k : Int)), .str "least", .int (max 0 (mu - sk))]] := by
          unfold wiD wyD
          simp [ak]
        rw [ew]
        generalize max 0 (mu - sk) = MX at *
        generalize ws.map wiD = L at *
        generalize tpI ((xs.drop a).take (a + k + 1 - a)) = X2 at *
        generalize tpI xs = X at *
        simp [t__law_kept_wishes_1, l__law_kept_wishes_1, ln, e1, e2, sl, sm, e3, e4, fz, mx, gAppend, fl]
      · refine ⟨_, .inl ?_, c4, ws ++ [⟨a, a + k, false, min 10000 (mu + sk)⟩], some (.int (i : Int)), some (.int (a : Int)), some (.int ((a : Int) + (k : Int))), some (.int mu), some (.int sk), hc4, kw2 _ rfl rfl (by unfold Kp; simp only [Bool.false_eq_true, if_false]; omega) (by show 0 ≤ min 10000 (mu + sk) ∧ min 10000 (mu + sk) ≤ 10000; omega), by simp; omega, rfl⟩
        rw [List.map_append]
        have ew : ([⟨a, a + k, false, min 10000 (mu + sk)⟩] : List Ws).map wiD = [.tup [.int (a : Int), .int ((a : Int) + (k : Int)), .str "most", .int (min 10000 (mu + sk))]] := by
          unfold wiD wyD
          simp [ak]
        rw [ew]
        generalize min 10000 (mu + sk) = MN at *
        generalize ws.map wiD = L at *
        generalize tpI ((xs.drop a).take (a + k + 1 - a)) = X2 at *
        generalize tpI xs = X at *
        simp [t__law_kept_wishes_1, l__law_kept_wishes_1, ln, e1, e2, sl, sm, e3, e4, fz, mn, gAppend, fl])
  rw [List.length_map, rgI_len, Nat.zero_add] at wl
  refine ⟨c', ws, hc', kw, wl, ?_⟩
  have tp : gTupOf (.lst (ws.map wiD)) = some (wsD ws) := rfl
  generalize ws.map wiD = L at *
  generalize wsD ws = T at *
  generalize (rgI many).map D.int = L2 at *
  unfold g__law_kept_wishes b__law_kept_wishes
  rw [fnRun_fin]
  generalize tpI xs = X at *
  simp [r1, q1, tp]
/-- read from the other end -/
def tn (m : Nat) (w : Ws) : Ws := ⟨m - 1 - w.b, m - 1 - w.a, w.le, w.w⟩
theorem e_turned {m : Nat} (h8 : m ≤ 8) {ws : List Ws} (hw : WI m ws) (hl : ws.length ≤ 30) : g__law_turned [.val (.int (m : Nat)), .val (wsD ws)] = .ok (.d (wsD (ws.map (tn m))), [.val (.int (m : Nat)), .val (wsD ws)]) := by
  have sq : seqOf (wsD ws) = some (ws.map wiD) := rfl
  obtain ⟨r', q1, o3, o4, o5, o6, rfl⟩ := loopF_inv (ft := t__law_turned_1) (fb := l__law_turned_1) (ds := ws.map wiD)
    (fun i r => ∃ (o3 o4 o5 o6 : Option D), r = [.val (.int (m : Nat)), .val (wsD ws), .own false (.lst (((ws.take i).map (tn m)).map wiD)), vsl o3, vsl o4, vsl o5, vsl o6]) 0
    (r := [.val (.int (m : Nat)), .val (wsD ws), .own false (.lst []), .un, .un, .un, .un]) ⟨none, none, none, none, rfl⟩ (fun i d r hd ⟨o3, o4, o5, o6, hr⟩ => by
      subst hr
      rw [Nat.zero_add]
      rw [List.getElem?_map] at hd
      obtain ⟨w, hx, rfl⟩ := Option.map_eq_some_iff.mp hd
      obtain ⟨hi, hx'⟩ := List.getElem?_eq_some_iff.mp hx
      obtain ⟨h1, h2⟩ := hw w (List.mem_of_getElem? hx)
      have tk : ((ws.take (i + 1)).map (tn m)).map wiD = ((ws.take i).map (tn m)).map wiD ++ [.tup [.int ((m : Int) - 1 - (w.b : Int)), .int ((m : Int) - 1 - (w.a : Int)), wyD w.le, .int w.w]] := by
        rw [List.take_succ_eq_append_getElem hi, hx', List.map_append, List.map_append]
        congr 1
        unfold tn wiD
        simp
        omega
      have fl : (((ws.take i).map (tn m)).map wiD).length < sizeLine := by rw [List.length_map, List.length_map, List.length_take, bigZ]; omega
      refine ⟨_, .inl ?_, some (.int w.a), some (.int w.b), some (wyD w.le), some (.int w.w), rfl⟩
      rw [tk]
      unfold wiD at *
      generalize ((ws.take i).map (tn m)).map _ = L at *
      generalize wsD ws = T at *
      generalize wyD w.le = Y at *
      simp [t__law_turned_1, l__law_turned_1, gAppend, fl])
  rw [List.length_map, Nat.zero_add, List.take_of_length_le (Nat.le_refl _)] at q1
  have tp : gTupOf (.lst ((ws.map (tn m)).map wiD)) = some (wsD (ws.map (tn m))) := rfl
  generalize (ws.map (tn m)).map wiD = L at *
  generalize wsD (ws.map (tn m)) = T2 at *
  generalize ws.map wiD = L2 at *
  unfold g__law_turned b__law_turned
  rw [fnRun_fin]
  generalize wsD ws = T at *
  simp [sq, q1, tp]
end K24

/-! k24: totals, more wishes. -/
namespace K24
open PySem L2 Ev
variable [TabsC]
theorem pw6 : gPow (.int 10) (.int 6) = some (.int 1000000) := by
  rw [gPow_ii ⟨by decide, by decide, by decide⟩]; rfl
theorem ps_len (xs : List Int) : ps xs xs.length = xs.sum := by unfold ps; rw [List.take_length]
section
variable {m : Nat} {ws : List Ws}
theorem sp_yes (q : Ck m ws) {t : Int} (ht : 0 ≤ t ∧ t ≤ 1000000) (h : ∃ x, Sm m ws x ∧ x m = t) : ∃ xs, Wd m ws xs ∧ xs.sum = t ∧ g_spread_out [.val (.int (m : Nat)), .val (wsD ws), .val (.int t)] = .ok (.d (tpI xs), [.val (.int (m : Nat)), .val (wsD ws), .val (.int t)]) := by
  obtain ⟨x, hx, hxt⟩ := h
  have wi := pin_wi q.m1 q.i t
  have sx := (pin_sm q.m1).mpr ⟨hx, hxt⟩
  obtain ⟨d, L⟩ := lea_sm wi sx
  obtain ⟨s1, s2⟩ := (pin_sm q.m1).mp (lea_is wi L)
  refine ⟨wid m d, s1.wd q.i, ?_, e_spread q ht (e_raw1 q.m8 wi (by have := q.l; simp [pin]; omega) L)⟩
  rw [← ps_len, wid_len, ps_wid (Nat.le_refl m), s2, s1.z]
  omega
theorem sp_no (q : Ck m ws) {t : Int} (ht : 0 ≤ t ∧ t ≤ 1000000) (h : ∀ x, Sm m ws x → x m ≠ t) : g_spread_out [.val (.int (m : Nat)), .val (wsD ws), .val (.int t)] = .ok (.d .non, [.val (.int (m : Nat)), .val (wsD ws), .val (.int t)]) := by
  have wi := pin_wi q.m1 q.i t
  exact e_spread q ht (e_raw0 q.m8 wi (by have := q.l; simp [pin]; omega) fun x hx => by
    obtain ⟨a, b⟩ := (pin_sm q.m1).mp hx
    exact h x a b)
def pnD (m : Nat) (t : Int) : D := .tup [.tup [.int 0, .int ((m : Int) - 1), .str "least", .int t], .tup [.int 0, .int ((m : Int) - 1), .str "most", .int t]]
theorem pn_add (q : Ck m ws) (t : Int) : gAdd (wsD ws) (pnD m t) = some (wsD (ws ++ pin m t)) := by
  have m1 := q.m1
  have l := q.l
  have := gAdd_t (xs := ws.map wiD) (ys := (pin m t).map wiD) (by simp [pin]; omega)
  have ee : ((m - 1 : Nat) : Int) = (m : Int) - 1 := by omega
  have ep : (pin m t).map wiD = [.tup [.int 0, .int ((m : Int) - 1), .str "least", .int t], .tup [.int 0, .int ((m : Int) - 1), .str "most", .int t]] := by
    unfold pin wiD wyD
    simp [ee]
  rw [ep] at this
  show gAdd (.tup (ws.map wiD)) _ = some (.tup ((ws ++ pin m t).map wiD))
  unfold pnD
  rw [this, List.map_append, ep]
theorem pin_ck (q : Ck m ws) {t : Int} (h0 : 0 ≤ t) (ht : t ≤ 10000) (hl : ws.length < 29) : Ck m (ws ++ pin m t) := by
  refine ⟨q.m1, q.m8, by simp [pin]; omega, pin_wi q.m1 q.i t, fun x hx => ?_⟩
  rcases List.mem_append.mp hx with hx | hx
  · exact q.w x hx
  · simp only [pin, List.mem_cons, List.not_mem_nil, or_false] at hx
    rcases hx with rfl | rfl <;> exact ⟨h0, ht⟩
theorem e_total (q : Ck m ws) {t : Int} (ht : 0 ≤ t ∧ t ≤ 1000000) : g__law_is_total_right [.val (.int (m : Nat)), .val (wsD ws), .val (.int t)] = .ok (.d (.bl true), [.val (.int (m : Nat)), .val (wsD ws), .val (.int t)]) := by
  have ad := pn_add q t
  have ln : gLen (wsD ws) = some (.int (ws.length : Int)) := by unfold wsD; simp
  have in0 : D.isNon .non = true := rfl
  unfold pnD at ad
  by_cases h : ∃ x, Sm m ws x ∧ x m = t
  · obtain ⟨xs, wd, sm, e1⟩ := sp_yes q ht h
    have nn : (tpI xs).isNon = false := rfl
    have gs : gSum (tpI xs) = some (.int t) := by rw [← sm]; exact gSum_of rfl
    have e2 := e_isw q wd
    by_cases c : t ≤ 10000 ∧ (ws.length : Int) < 29
    · obtain ⟨x, hx, hxt⟩ := h
      have e3 := e_clash0 (pin_ck q ht.1 c.1 (by omega)) ⟨x, (pin_sm q.m1).mpr ⟨hx, hxt⟩⟩
      obtain ⟨c1, c2⟩ := c
      generalize wsD (ws ++ pin m t) = T2 at *
      generalize (ws.length : Int) = WL at *
      unfold g__law_is_total_right b__law_is_total_right
      rw [fnRun_fin]
      generalize wsD ws = T at *
      generalize tpI xs = X at *
      simp [e1, c1, ln, c2, nn, ad, e3, in0, gs, e2]
    · generalize wsD (ws ++ pin m t) = T2 at *
      generalize (ws.length : Int) = WL at *
      unfold g__law_is_total_right b__law_is_total_right
      rw [fnRun_fin]
      generalize wsD ws = T at *
      generalize tpI xs = X at *
      by_cases c1 : t ≤ 10000
      · have c2 : ¬ WL < 29 := fun z => c ⟨c1, z⟩
        simp [e1, c1, ln, c2, nn, gs, e2]
      · simp [e1, c1, ln, nn, gs, e2]
  · have no : ∀ x, Sm m ws x → x m ≠ t := fun x hx e => h ⟨x, hx, e⟩
    have e1 := sp_no q ht no
    by_cases c : t ≤ 10000 ∧ (ws.length : Int) < 29
    · obtain ⟨rs, e3⟩ := e_clash1 (pin_ck q ht.1 c.1 (by omega)) fun x hx => by
        obtain ⟨a, b⟩ := (pin_sm q.m1).mp hx
        exact no x a b
      have nn : (tags rs).isNon = false := rfl
      obtain ⟨c1, c2⟩ := c
      generalize wsD (ws ++ pin m t) = T2 at *
      generalize (ws.length : Int) = WL at *
      unfold g__law_is_total_right b__law_is_total_right
      rw [fnRun_fin]
      generalize wsD ws = T at *
      generalize tags rs = X at *
      simp [e1, c1, ln, c2, nn, ad, e3, in0]
    · generalize wsD (ws ++ pin m t) = T2 at *
      generalize (ws.length : Int) = WL at *
      unfold g__law_is_total_right b__law_is_total_right
      rw [fnRun_fin]
      generalize wsD ws = T at *
      by_cases c1 : t ≤ 10000
      · have c2 : ¬ WL < 29 := fun z => c ⟨c1, z⟩
        simp [e1, c1, ln, c2, in0]
      · simp [e1, c1, ln, in0]
/-- from the other end -/
theorem turn_sm (hw : WI m ws) {x : Nat → Int} (h : Sm m ws x) : Sm m (ws.map (tn m)) fun i => x m - x (m - i) := by
  refine ⟨by simp, fun e he => ?_, fun w hk => ?_⟩
  · have := h.u (m - (e + 1)) (by omega)
    rw [show m - (e + 1) + 1 = m - e by omega] at this
    omega
  · obtain ⟨v, hv, rfl⟩ := List.mem_map.mp hk
    obtain ⟨h1, h2⟩ := hw v hv
    have k := h.k v hv
    have e1 : m - (m - 1 - v.a + 1) = v.a := by omega
    have e2 : m - (m - 1 - v.b) = v.b + 1 := by omega
    unfold Kp tn at *
    simp only [e1, e2]
    cases c : v.le with
    | true => rw [c] at k; simp only [if_true] at k ⊢; omega
    | false => rw [c] at k; simp only [Bool.false_eq_true, if_false] at k ⊢; omega
theorem turn_wi (h1 : 1 ≤ m) (hw : WI m ws) : WI m (ws.map (tn m)) := fun w hk => by
  obtain ⟨v, hv, rfl⟩ := List.mem_map.mp hk
  obtain ⟨a, b⟩ := hw v hv
  unfold tn
  exact ⟨by show m - 1 - v.b ≤ m - 1 - v.a; omega, by show m - 1 - v.a < m; omega⟩
theorem turn_turn (hw : WI m ws) : (ws.map (tn m)).map (tn m) = ws := by
  rw [List.map_map]
  have : ∀ w ∈ ws, (tn m ∘ tn m) w = id w := fun w hk => by
    obtain ⟨a, b⟩ := hw w hk
    show tn m (tn m w) = w
    unfold tn
    cases w
    simp at *
    omega
  rw [List.map_congr_left this, List.map_id]
theorem turn_least (h1 : 1 ≤ m) (hw : WI m ws) {d e : Nat → Int} (L : Lea (stp m ws) d) (L2 : Lea (stp m (ws.map (tn m))) e) : e m = d m := by
  have wi2 := turn_wi h1 hw
  have sd := lea_is hw L
  have se := lea_is wi2 L2
  have a := lea_low wi2 L2 (turn_sm hw sd) m (Nat.le_refl m)
  have t2 := turn_sm wi2 se
  rw [turn_turn hw] at t2
  have b := lea_low hw L t2 m (Nat.le_refl m)
  simp only [Nat.sub_self] at a b
  have := sd.z
  have := se.z
  omega
/-- all between -/
theorem between (hw : WI m ws) {d x : Nat → Int} (sd : Sm m ws d) (sx : Sm m ws x) {t : Int} (h : d m ≤ t ∧ t ≤ x m) : ∃ y, Sm m ws y ∧ y m = t := by
  refine ⟨fun i => max (d i) (x i - (x m - t)), ⟨?_, fun e he => ?_, fun w hk => ?_⟩, ?_⟩
  · have := sd.z
    have := sx.z
    show max (d 0) (x 0 - (x m - t)) = 0
    omega
  · have := sd.u e he
    have := sx.u e he
    show max (d e) (x e - (x m - t)) ≤ max (d (e + 1)) (x (e + 1) - (x m - t))
    omega
  · have a := sd.k w hk
    have b := sx.k w hk
    unfold Kp at *
    cases c : w.le with
    | true => rw [c] at a b; simp only [if_true] at a b ⊢; omega
    | false => rw [c] at a b; simp only [Bool.false_eq_true, if_false] at a b ⊢; omega
  · show max (d m) (x m - (x m - t)) = t
    omega
theorem turn_ck (q : Ck m ws) : Ck m (ws.map (tn m)) := ⟨q.m1, q.m8, by rw [List.length_map]; exact q.l, turn_wi q.m1 q.i, fun x hx => by
  obtain ⟨v, hv, rfl⟩ := List.mem_map.mp hx
  exact q.w v hv⟩
theorem e_totals {c : C} (hc : IsFlow c) (q : Ck m ws) {xs : List Int} (wd : Wd m ws xs) (big : xs.sum ≤ 9000) : ∃ c', IsFlow c' ∧ g__law_are_totals_right [.own true c, .val (.int (m : Nat)), .val (wsD ws), .val (tpI xs)] = .ok (.d (.bl true), [.own true c', .val (.int (m : Nat)), .val (wsD ws), .val (tpI xs)]) := by
  obtain ⟨d, L⟩ := lea_sm q.i wd.sm
  have sd := lea_is q.i L
  have el := e_least q L
  have sl : (wid m d).sum = d m := by
    rw [← ps_len, wid_len, ps_wid (Nat.le_refl m), sd.z]; omega
  have gs1 : gSum (tpI (wid m d)) = some (.int (d m)) := by rw [← sl]; exact gSum_of rfl
  have gs2 : gSum (tpI xs) = some (.int xs.sum) := gSum_of rfl
  have hx : ps xs m = xs.sum := by rw [← wd.l]; exact ps_len xs
  have low := lea_low q.i L wd.sm m (Nat.le_refl m)
  rw [hx] at low
  have d0 := sd.nn m (Nat.le_refl m)
  obtain ⟨c1, k, hc1, k0, k1, e1⟩ := draw hc (many := 60) (by omega) (by omega)
  have mx : gMax2 (.int 0) (.int (d m - 1)) = some (.int (max 0 (d m - 1))) := gMax2_ii _ _
  have pw : gPow (.int 10) (.int 6) = some (.int 1000000) := pw6
  have lp : ∀ o6 : Option D, ∃ o6' : Option D, loopF t__law_are_totals_right_1 l__law_are_totals_right_1 [.int (d m), .int xs.sum, .int k, .int (max 0 (d m - 1)), .int 1000000] [.own true c1, .val (.int (m : Nat)), .val (wsD ws), .val (tpI xs), .val (.int (d m)), .val (.int xs.sum), vsl o6, .un, .un] = .nx [.own true c1, .val (.int (m : Nat)), .val (wsD ws), .val (tpI xs), .val (.int (d m)), .val (.int xs.sum), vsl o6', .un, .un] := fun o6 => by
    obtain ⟨r', q1, o6', rfl⟩ := loopF_inv (ft := t__law_are_totals_right_1) (fb := l__law_are_totals_right_1) (ds := [.int (d m), .int xs.sum, .int k, .int (max 0 (d m - 1)), .int 1000000])
      (fun i r => ∃ o6 : Option D, r = [.own true c1, .val (.int (m : Nat)), .val (wsD ws), .val (tpI xs), .val (.int (d m)), .val (.int xs.sum), vsl o6, .un, .un]) 0
      (r := [.own true c1, .val (.int (m : Nat)), .val (wsD ws), .val (tpI xs), .val (.int (d m)), .val (.int xs.sum), vsl o6, .un, .un]) ⟨o6, rfl⟩ (fun i e r hd ⟨o6, hr⟩ => by
        subst hr
        obtain ⟨t, rfl, ht⟩ : ∃ t : Int, e = .int t ∧ 0 ≤ t ∧ t ≤ 1000000 := by
          have := List.mem_of_getElem? hd
          simp only [List.mem_cons, List.not_mem_nil, or_false] at this
          rcases this with rfl | rfl | rfl | rfl | rfl <;> exact ⟨_, rfl, by omega⟩
        have et := e_total q ht
        refine ⟨_, .inl ?_, some (.int t), rfl⟩
        generalize wsD ws = T at *
        generalize tpI xs = X at *
        simp [t__law_are_totals_right_1, l__law_are_totals_right_1, et])
    exact ⟨o6', q1⟩
  obtain ⟨o6, q1⟩ := lp none
  obtain ⟨x1, _, _, f1⟩ := sp_yes q (t := d m) (by omega) ⟨d, sd, rfl⟩
  obtain ⟨x2, _, _, f2⟩ := sp_yes q (t := xs.sum) (by omega) ⟨_, wd.sm, hx⟩
  obtain ⟨c2, k2, hc2, k20, k21, e2⟩ := draw hc1 (many := xs.sum - d m + 1) (by omega) (by omega)
  obtain ⟨x3, _, _, f3⟩ := sp_yes q (t := d m + k2) (by omega) (between q.i sd wd.sm (by rw [hx]; omega))
  have q2 := turn_ck q
  obtain ⟨e, Le⟩ := lea_sm q2.i (turn_sm q.i wd.sm)
  have te := turn_least q.m1 q.i L Le
  have el2 := e_least q2 Le
  have sl2 : (wid m e).sum = d m := by
    rw [← ps_len, wid_len, ps_wid (Nat.le_refl m), te, (lea_is q2.i Le).z]; omega
  have gs3 : gSum (tpI (wid m e)) = some (.int (d m)) := by rw [← sl2]; exact gSum_of rfl
  have tu := e_turned q.m8 q.i q.l
  have n1 : (tpI x1).isNon = false := rfl
  have n2 : (tpI x2).isNon = false := rfl
  have n3 : (tpI x3).isNon = false := rfl
  have n4 : (tpI (wid m e)).isNon = false := rfl
  have in0 : D.isNon .non = true := rfl
  have f4 : d m ≤ 0 ∨ (0 < d m ∧ g_spread_out [.val (.int (m : Nat)), .val (wsD ws), .val (.int (d m - 1))] = .ok (.d .non, [.val (.int (m : Nat)), .val (wsD ws), .val (.int (d m - 1))])) := by
    by_cases z : d m ≤ 0
    · exact .inl z
    · refine .inr ⟨by omega, sp_no q (by omega) fun x hx e => ?_⟩
      have := lea_low q.i L hx m (Nat.le_refl m)
      omega
  refine ⟨c2, hc2, ?_⟩
  simp only [vsl] at q1
  generalize wsD (ws.map (tn m)) = T2 at *
  generalize tpI (wid m d) = X0 at *
  generalize tpI (wid m e) = X4 at *
  generalize tpI x1 = X1 at *
  generalize tpI x2 = X2 at *
  generalize tpI x3 = X3 at *
  generalize max 0 (d m - 1) = MX at *
  generalize d m = DM at *
  generalize xs.sum = XS at *
  unfold g__law_are_totals_right b__law_are_totals_right
  rw [fnRun_fin]
  generalize wsD ws = T at *
  generalize tpI xs = X at *
  rcases f4 with z | ⟨z, f4⟩
  · have z : ¬ 0 < DM := by omega
    simp [el, gs1, gs2, e1, mx, pw, q1, f1, n1, f2, n2, z, e2, f3, n3, tu, el2, n4, gs3]
  · simp [el, gs1, gs2, e1, mx, pw, q1, f1, n1, f2, n2, z, f4, in0, e2, f3, n3, tu, el2, n4, gs3]
end
end K24

/-! k24: more wishes; what is refused; the law holds. -/
namespace K24
open PySem L2 Ev
variable [TabsC]
section
variable {m : Nat} {ws : List Ws}
theorem more_ck (q : Ck m ws) {xs : List Int} {w1 : List Ws} (k : Kw m xs w1) (hl : ws.length + w1.length ≤ 30) : Ck m (ws ++ w1) := ⟨q.m1, q.m8, by simp; omega, fun x hx => by
  rcases List.mem_append.mp hx with hx | hx
  · exact q.i x hx
  · exact k.i x hx, fun x hx => by
  rcases List.mem_append.mp hx with hx | hx
  · exact q.w x hx
  · exact k.w x hx⟩
theorem add_ws {w1 : List Ws} (h1 : ws.length ≤ 30) (h2 : w1.length ≤ 30) : gAdd (wsD ws) (wsD w1) = some (wsD (ws ++ w1)) := by
  have := gAdd_t (xs := ws.map wiD) (ys := w1.map wiD) (by simp; omega)
  show gAdd (.tup (ws.map wiD)) (.tup (w1.map wiD)) = some (.tup ((ws ++ w1).map wiD))
  rw [this, List.map_append]
theorem Sm.add {x : Nat → Int} {w1 : List Ws} (h : Sm m ws x) (k : ∀ w ∈ w1, Kp x w) : Sm m (ws ++ w1) x := ⟨h.z, h.u, fun w hw => by
  rcases List.mem_append.mp hw with hw | hw
  · exact h.k w hw
  · exact k w hw⟩
theorem Sm.less {x : Nat → Int} {w1 : List Ws} (h : Sm m (ws ++ w1) x) : Sm m ws x := ⟨h.z, h.u, fun w hw => h.k w (List.mem_append_left _ hw)⟩
theorem e_more {c : C} (hc : IsFlow c) (q : Ck m ws) (hl : ws.length ≤ 20) {xs : List Int} (wd : Wd m ws xs) (big : xs.sum ≤ 9000) : ∃ c', IsFlow c' ∧ g__law_is_more_right [.own true c, .val (.int (m : Nat)), .val (wsD ws), .val (tpI xs)] = .ok (.d (.bl true), [.own true c', .val (.int (m : Nat)), .val (wsD ws), .val (tpI xs)]) := by
  have m1 := q.m1
  have m8 := q.m8
  have xl := wd.l
  obtain ⟨d, L⟩ := lea_sm q.i wd.sm
  have sd := lea_is q.i L
  have el := e_least q L
  have wl := wid_len m d
  have hx : ps xs m = xs.sum := by rw [← wd.l]; exact ps_len xs
  have low := lea_low q.i L wd.sm
  have pw : ∀ i, i ≤ m → ps (wid m d) i = d i := fun i hi => by rw [ps_wid hi, sd.z]; omega
  have b1 := e_below (xs := wid m d) (ys := xs) (by omega) (by omega) fun i hi => by
    rw [pw i (by omega)]; exact low i (by omega)
  have iw := e_isw q wd
  -- a wish more that the drawn widths keep
  obtain ⟨c1, w1, hc1, k1, l1, e1⟩ := e_kept hc m1 m8 xl wd.n (by rw [hx]; exact big) (many := 1) (by omega)
  rw [show ((1 : Nat) : Int) = 1 from rfl] at e1
  have q1 := more_ck q k1 (by omega)
  have ad1 := add_ws (ws := ws) (w1 := w1) (by omega) (by omega)
  obtain ⟨d1, L1⟩ := lea_sm q1.i (wd.sm.add k1.k)
  have sd1 := lea_is q1.i L1
  have el1 := e_least q1 L1
  have low1 := lea_low q.i L sd1.less
  have b2 := e_below (xs := wid m d) (ys := wid m d1) (by omega) (by rw [wid_len, wid_len]) fun i hi => by
    rw [pw i (by omega), ps_wid (by omega), sd1.z]
    have := low1 i (by omega)
    omega
  -- one that the least ones keep
  have wdl := sd.wd q.i
  obtain ⟨c2, w2, hc2, k2, l2, e2⟩ := e_kept hc1 m1 m8 wl wdl.n (by rw [pw m (Nat.le_refl m)]; have := low m (Nat.le_refl m); omega) (many := 1) (by omega)
  rw [show ((1 : Nat) : Int) = 1 from rfl] at e2
  have q2 := more_ck q k2 (by omega)
  have ad2 := add_ws (ws := ws) (w1 := w2) (by omega) (by omega)
  have sd2 := wdl.sm.add k2.k
  obtain ⟨d2, L2⟩ := lea_sm q2.i sd2
  have s2 := lea_is q2.i L2
  have same : wid m d2 = wid m d := by
    have eq : ∀ i, i ≤ m → d2 i = d i := fun i hi => by
      have a := lea_low q2.i L2 sd2 i hi
      rw [pw i hi] at a
      have b := lea_low q.i L s2.less i hi
      omega
    unfold wid
    refine List.map_congr_left fun e he => ?_
    have := List.mem_range.mp he
    rw [eq _ (by omega), eq _ (by omega)]
  have el2 := e_least q2 L2
  rw [same] at el2
  have cl := e_clash0 q2 ⟨_, sd2⟩
  have eg : gEqA (tpI (wid m d)) (tpI (wid m d)) = some (.bl true) := by
    have := gEq_tpI (wid m d) (wid m d)
    rw [decide_eq_true rfl] at this
    exact this
  have nn : (tpI (wid m d)).isNon = false := rfl
  have in0 : D.isNon .non = true := rfl
  refine ⟨c2, hc2, ?_⟩
  generalize wsD (ws ++ w1) = T1 at *
  generalize wsD (ws ++ w2) = T2 at *
  generalize wsD w1 = T3 at *
  generalize wsD w2 = T4 at *
  generalize tpI (wid m d) = X0 at *
  generalize tpI (wid m d1) = X1 at *
  unfold g__law_is_more_right b__law_is_more_right
  rw [fnRun_fin]
  generalize wsD ws = T at *
  generalize tpI xs = X at *
  simp [el, nn, b1, iw, e1, ad1, el1, b2, e2, ad2, el2, eg, cl, in0]
end
def oddL : List D := [.non, .int (-1), .int 1000001, .bl true, .str "5", .tup [.int 5]]
theorem odd_ok {d : D} (hd : d ∈ oddL) : inW 0 1000000 d = false := by
  simp only [oddL, List.mem_cons, List.not_mem_nil, or_false] at hd
  rcases hd with rfl | rfl | rfl | rfl | rfl | rfl <;> rfl
theorem x_col (w o : D) : g_spread_out [.val (.int 0), .val w, .val o] = .ex ⟨"NoColumns", none⟩ := by
  have a := g_within (.int 0) 1 8
  rw [show inW 1 8 (.int 0) = false from rfl] at a
  have b : g_check_wishes [.val (.int 0), .val w] = .ex ⟨"NoColumns", none⟩ := by
    unfold g_check_wishes b_check_wishes
    rw [fnRun_fin]
    simp [a]
  unfold g_spread_out b_spread_out
  rw [fnRun_fin]
  simp [b]
theorem x_wis (o : D) : g_spread_out [.val (.int 2), .val .non, .val o] = .ex ⟨"NoWishes", none⟩ := by
  have a := g_within (.int 2) 1 8
  rw [show inW 1 8 (.int 2) = true from rfl] at a
  have b : g_check_wishes [.val (.int 2), .val .non] = .ex ⟨"NoWishes", none⟩ := by
    unfold g_check_wishes b_check_wishes
    rw [fnRun_fin]
    simp [a, D.isTup]
  unfold g_spread_out b_spread_out
  rw [fnRun_fin]
  simp [b]
theorem x_num {o : D} (h : inW 0 1000000 o = false) : g_spread_out [.val (.int 2), .val (.tup []), .val o] = .ex ⟨"NoNumber", none⟩ := by
  have a := e_check (m := 2) (ws := []) ⟨by omega, by omega, by simp, (fun _ z => nomatch z), (fun _ z => nomatch z)⟩
  have a : g_check_wishes [.val (.int 2), .val (.tup [])] = .ok (.d .non, [.val (.int 2), .val (.tup [])]) := a
  have b := g_within o 0 1000000
  rw [h] at b
  unfold g_spread_out b_spread_out
  rw [fnRun_fin]
  simp [a, b]
theorem e_refused {c : C} (hc : IsFlow c) : ∃ c', IsFlow c' ∧ g__law_are_refused [.own true c] = .ok (.d (.bl true), [.own true c']) := by
  obtain ⟨c1, odd, hc1, ho, e1⟩ := e_some hc (ds := oddL) (by simp [oddL]) (by simp [oddL])
  have x1 := x_col .non odd
  have x2 := x_wis odd
  have x3 := x_num (odd_ok ho)
  have pw := pw6
  have q : gEq (.lst [.str "columns", .str "wishes", .str "number"]) (.lst [.str "columns", .str "wishes", .str "number"]) = some (.bl true) := eq_self (by
    have a1 : PyData.strOk "columns" = true := by decide +kernel
    have a2 : PyData.strOk "wishes" = true := by decide +kernel
    have a3 : PyData.strOk "number" = true := by decide +kernel
    unfold okEq SeqAt.shaped
    simp [D.noDct, D.noDcts, D.py, D.pys, PyData.canLay0, PyData.canLayAll0, PyData.depth, PyData.depthAll, a1, a2, a3])
  unfold oddL at e1
  refine ⟨c1, hc1, ?_⟩
  unfold g__law_are_refused b__law_are_refused
  rw [fnRun_fin]
  simp [frz, vo, voS, pw, e1, x1, x2, x3, gAppend, bigZ, q]
theorem keeps : Keeps g_law := by
  intro ns hns
  obtain ⟨c, hc, e⟩ := e_hand ns
  have r5 : rg1 [5] = some ((rgI 5).map .int) := rg1_nat 5 (by omega)
  generalize ns.map D.int = SC at *
  obtain ⟨r', q1, c', o2, o3, o4, o6, hc', rfl⟩ := loopF_inv (ft := t_law_1) (fb := l_law_1) (ds := (rgI 5).map .int)
    (fun i r => ∃ (c' : C) (o2 o3 o4 o6 : Option D), IsFlow c' ∧ r = [.val (.lst SC), .own false c', vsl o2, vsl o3, vsl o4, .un, vsl o6]) 0 (r := [.val (.lst SC), .own false c, .un, .un, .un, .un, .un])
    ⟨c, none, none, none, none, hc, rfl⟩ (fun i d r hd ⟨c', o2, o3, o4, o6, hc', hr⟩ => by
      subst hr
      obtain ⟨c1, k, hc1, k0, k1, e1⟩ := draw hc' (many := 8) (by omega) (by omega)
      obtain ⟨k, rfl⟩ := Int.eq_ofNat_of_zero_le k0
      have rr : rg1 [1 + (k : Int)] = some ((rgI (1 + k)).map .int) := by
        have := rg1_nat (1 + k) (by omega)
        rw [show ((1 + k : Nat) : Int) = 1 + (k : Int) by omega] at this
        exact this
      obtain ⟨out, r1, h3, c2, xs, hc2, rfl, rfl, hl, hx⟩ := loopC_inv (vs := [5]) (ft := setN 5) (tt := fYes) (fe := fCall g__law_some (fACons (fNB 1) (fACons (fBE (fEO (fLst (fLCons (fC (.int 0)) (fLCons (fC (.int 1)) (fLCons (fC (.int 3)) (fLCons (fC (.int 7)) (fLCons (fC (.int 20)) (fLNil))))))))) (fANil))))
        (fun i r acc => ∃ (c2 : C) (xs : List Int), IsFlow c2 ∧ r = [.val (.lst SC), .own false c2, .val d, .val (.int (1 + (k : Int))), vsl o4, .un, vsl o6] ∧ acc = xs.map .int ∧ xs.length = i ∧ ∀ x ∈ xs, 0 ≤ x ∧ x ≤ 20)
        (ds := (rgI (1 + k)).map .int) (acc := []) 0 (r := [.val (.lst SC), .own false c1, .val d, .val (.int (1 + (k : Int))), vsl o4, .un, vsl o6]) ⟨c1, [], hc1, rfl, rfl, rfl, by simp⟩ (by simp [bigZ, rgI_len]; omega)
        (fun i e r acc hd ⟨c2, xs, hc2, hr, ha, hl, hx⟩ => by
          subst hr
          obtain ⟨c3, w, hc3, hw, e3⟩ := e_some hc2 (ds := [.int 0, .int 1, .int 3, .int 7, .int 20]) (by simp) (by simp)
          obtain ⟨t, rfl, t0, t1⟩ : ∃ v : Int, w = .int v ∧ 0 ≤ v ∧ v ≤ 20 := by
            simp only [List.mem_cons, List.not_mem_nil, or_false] at hw
            rcases hw with rfl | rfl | rfl | rfl | rfl <;> exact ⟨_, rfl, by omega, by omega⟩
          refine ⟨some (.int t), [.val (.lst SC), .own false c3, .val d, .val (.int (1 + (k : Int))), vsl o4, .val e, vsl o6], by simp [turnC, e3], c3, xs ++ [t], hc3, by simp, by simp [ha], by simp; omega, fun y hy => ?_⟩
          rcases List.mem_append.mp hy with hy | hy
          · exact hx y hy
          · rw [List.mem_singleton.mp hy]; omega)
      rw [List.length_map, rgI_len, Nat.zero_add] at hl
      have sum20 : ∀ xs : List Int, (∀ x ∈ xs, 0 ≤ x ∧ x ≤ 20) → xs.sum ≤ 20 * xs.length := by
        intro xs
        induction xs with
        | nil => intro _; simp
        | cons x xs ih =>
          intro w
          have := ih fun y hy => w y (List.mem_cons_of_mem _ hy)
          have := w x List.mem_cons_self
          rw [List.sum_cons, List.length_cons]
          omega
      have big := sum20 xs hx
      have hps : ps xs (1 + k) = xs.sum := by rw [← hl]; exact ps_len xs
      obtain ⟨c4, mn, hc4, n0, n1, e4⟩ := draw hc2 (many := 10) (by omega) (by omega)
      obtain ⟨mn, rfl⟩ := Int.eq_ofNat_of_zero_le n0
      obtain ⟨c5, ws, hc5, kw, wl, e5⟩ := e_kept hc4 (m := 1 + k) (by omega) (by omega) hl (fun x h => (hx x h).1) (by rw [hps]; omega) (many := mn) (by omega)
      have ck : Ck (1 + k) ws := ⟨by omega, by omega, by omega, kw.i, kw.w⟩
      have wd : Wd (1 + k) ws xs := ⟨hl, fun x h => (hx x h).1, kw.k⟩
      obtain ⟨c6, hc6, e6⟩ := e_more hc5 ck (by omega) wd (by omega)
      obtain ⟨c7, hc7, e7⟩ := e_totals hc6 ck wd (by omega)
      rw [show ((1 + k : Nat) : Int) = 1 + (k : Int) by omega] at e6 e7
      have tp : gTupOf (.lst (xs.map .int)) = some (tpI xs) := rfl
      refine ⟨_, .inl ?_, c7, some d, some (.int (1 + (k : Int))), some (tpI xs), some (wsD ws), hc7, rfl⟩
      generalize xs.map D.int = L at *
      generalize tpI xs = X at *
      generalize wsD ws = T at *
      generalize (rgI (1 + k)).map D.int = L2 at *
      simp [t_law_1, l_law_1, e1, rr, h3, tp, e4, e5, e6, e7])
  obtain ⟨c9, hc9, e9⟩ := e_refused hc'
  generalize (rgI 5).map D.int = R4 at *
  unfold g_law b_law
  rw [fnRun_fin]
  simp [e, r5, q1, e9]
end K24

open PySem PySem.W PyProof.Rows in
set_option maxRecDepth 100000 in
set_option maxHeartbeats 0 in
theorem PySem.Challenge.cw_inkandlead_k24_whole_totals_and_more_wis_holds : PySem.Challenge.rw_inkandlead_k24_whole_totals_and_more_wis.Holds := by
  w_on; o_law; k_head; (case hw => w_witness2)
  k_fill
  refine Ev.law_walk (l := PySem.Challenge.rw_inkandlead_k24_whole_totals_and_more_wis) (k := 9) rfl rfl ⟨rfl, by decide, by decide⟩ (fun w h Y => PySem.W.km_in_of Y) ?F
  case F =>
    intro w mg fa h KX G hmg
    refine' K24.all_mk (@K24.keeps ⟨[]⟩) KX G hmg ?a0 ?l0 ?c0 ?k0 ?a1 ?l1 ?c1 ?k1 ?a2 ?l2 ?c2 ?k2 ?a3 ?l3 ?c3 ?k3 ?a4 ?l4 ?c4 ?k4 ?a5 ?l5 ?c5 ?k5 ?a6 ?l6 ?c6 ?k6 ?a7 ?l7 ?c7 ?k7 ?a8 ?l8 ?c8 ?k8 ?a9 ?l9 ?c9 ?k9 ?a10 ?l10 ?c10 ?k10 ?a11 ?l11 ?c11 ?k11 ?a12 ?l12 ?c12 ?k12 ?a13 ?l13 ?c13 ?k13 ?a14 ?l14 ?c14 ?k14 ?a15 ?l15 ?c15 ?k15 ?a16 ?l16 ?c16 ?k16 ?a17 ?l17 ?c17 ?k17 ?a18 ?l18 ?c18 ?k18 ?a19 ?l19 ?c19 ?k19 ?a20 ?l20 ?c20 ?k20 ?a21 ?l21 ?c21 ?k21 ?a22 ?l22 ?c22 ?k22 ?a23 ?l23 ?c23 ?k23 ?a24 ?l24 ?c24 ?k24 ?a25 ?l25 ?c25 ?k25 ?a26 ?l26 ?c26 ?k26 ?a27 ?l27 ?c27 ?k27 ?z_all ?z_bool ?z_enumerate ?z_int ?z_isinstance ?z_len ?z_list ?z_max ?z_min ?z_range ?z_str ?z_sum ?z_tuple ?z_zip ?v_LEAST ?v_MOST ?v_MOST_COLUMNS ?v_MOST_TOTAL ?v_MOST_WIDE ?v_MOST_WISHES ?v_NONE ?ea_PressError ?ea_NoColumns ?ex_NoColumns ?ek_NoColumns ?es_NoColumns ?et_NoColumns ?ea_NoNumber ?ex_NoNumber ?ek_NoNumber ?es_NoNumber ?et_NoNumber ?ea_NoWishes ?ex_NoWishes ?ek_NoWishes ?es_NoWishes ?et_NoWishes ?xn ?xt ?xg_NoColumns ?xk_NoColumns ?xd_NoColumns ?xa_NoColumns ?xm_NoColumns ?xv_NoColumns ?xp_NoColumns ?xx_NoColumns_NoWishes ?xn_NoColumns_NoWishes ?xx_NoColumns_NoNumber ?xn_NoColumns_NoNumber ?xg_NoWishes ?xk_NoWishes ?xd_NoWishes ?xa_NoWishes ?xm_NoWishes ?xv_NoWishes ?xp_NoWishes ?xx_NoWishes_NoColumns ?xn_NoWishes_NoColumns ?xx_NoWishes_NoNumber ?xn_NoWishes_NoNumber ?xg_NoNumber ?xk_NoNumber ?xd_NoNumber ?xa_NoNumber ?xm_NoNumber ?xv_NoNumber ?xp_NoNumber ?xx_NoNumber_NoColumns ?xn_NoNumber_NoColumns ?xx_NoNumber_NoWishes ?xn_NoNumber_NoWishes ?es_PressError ?et_PressError ?xd_PressError ?td13 ?tl13 ?tk13 ?tn13 ?tr13
    (case a0 => k_is)
    (case l0 => k_is)
    (case c0 => k_is)
    (case k0 => k_is)
    (case a1 => k_is)
    (case l1 => k_is)
    (case c1 => k_is)
    (case k1 => k_is)
    (case a2 => k_is)
    (case l2 => k_is)
    (case c2 => k_is)
    (case k2 => k_is)
    (case a3 => k_is)
    (case l3 => k_is)
    (case c3 => k_is)
    (case k3 => k_is)
    (case a4 => k_is)
    (case l4 => k_is)
    (case c4 => k_is)
    (case k4 => k_is)
    (case a5 => k_is)
    (case l5 => k_is)
    (case c5 => k_is)
    (case k5 => k_is)
    (case a6 => k_is)
    (case l6 => k_is)
    (case c6 => k_is)
    (case k6 => k_is)
    (case a7 => k_is)
    (case l7 => k_is)
    (case c7 => k_is)
    (case k7 => k_is)
    (case a8 => k_is)
    (case l8 => k_is)
    (case c8 => k_is)
    (case k8 => k_is)
    (case a9 => k_is)
    (case l9 => k_is)
    (case c9 => k_is)
    (case k9 => k_is)
    (case a10 => k_is)
    (case l10 => k_is)
    (case c10 => k_is)
    (case k10 => k_is)
    (case a11 => k_is)
    (case l11 => k_is)
    (case c11 => k_is)
    (case k11 => k_is)
    (case a12 => k_is)
    (case l12 => k_is)
    (case c12 => k_is)
    (case k12 => k_is)
    (case a13 => k_is)
    (case l13 => k_is)
    (case c13 => k_is)
    (case k13 => k_is)
    (case a14 => k_is)
    (case l14 => k_is)
    (case c14 => k_is)
    (case k14 => k_is)
    (case a15 => k_is)
    (case l15 => k_is)
    (case c15 => k_is)
    (case k15 => k_is)
    (case a16 => k_is)
    (case l16 => k_is)
    (case c16 => k_is)
    (case k16 => k_is)
    (case a17 => k_is)
    (case l17 => k_is)
    (case c17 => k_is)
    (case k17 => k_is)
    (case a18 => k_is)
    (case l18 => k_is)
    (case c18 => k_is)
    (case k18 => k_is)
    (case a19 => k_is)
    (case l19 => k_is)
    (case c19 => k_is)
    (case k19 => k_is)
    (case a20 => k_is)
    (case l20 => k_is)
    (case c20 => k_is)
    (case k20 => k_is)
    (case a21 => k_is)
    (case l21 => k_is)
    (case c21 => k_is)
    (case k21 => k_is)
    (case a22 => k_is)
    (case l22 => k_is)
    (case c22 => k_is)
    (case k22 => k_is)
    (case a23 => k_is)
    (case l23 => k_is)
    (case c23 => k_is)
    (case k23 => k_is)
    (case a24 => k_is)
    (case l24 => k_is)
    (case c24 => k_is)
    (case k24 => k_is)
    (case a25 => k_is)
    (case l25 => k_is)
    (case c25 => k_is)
    (case k25 => k_is)
    (case a26 => k_is)
    (case l26 => k_is)
    (case c26 => k_is)
    (case k26 => k_is)
    (case a27 => k_is)
    (case l27 => k_is)
    (case c27 => k_is)
    (case k27 => k_is)
    (case z_all => k_is)
    (case z_bool => k_is)
    (case z_enumerate => k_is)
    (case z_int => k_is)
    (case z_isinstance => k_is)
    (case z_len => k_is)
    (case z_list => k_is)
    (case z_max => k_is)
    (case z_min => k_is)
    (case z_range => k_is)
    (case z_str => k_is)
    (case z_sum => k_is)
    (case z_tuple => k_is)
    (case z_zip => k_is)
    (case v_LEAST => k_is)
    (case v_MOST => k_is)
    (case v_MOST_COLUMNS => k_is)
    (case v_MOST_TOTAL => k_is)
    (case v_MOST_WIDE => k_is)
    (case v_MOST_WISHES => k_is)
    (case v_NONE => k_is)
    (case ea_PressError => k_is)
    (case ea_NoColumns => k_is)
    (case ex_NoColumns => k_exc)
    (case ek_NoColumns => k_is)
    (case es_NoColumns => k_is)
    (case et_NoColumns => k_is)
    (case ea_NoNumber => k_is)
    (case ex_NoNumber => k_exc)
    (case ek_NoNumber => k_is)
    (case es_NoNumber => k_is)
    (case et_NoNumber => k_is)
    (case ea_NoWishes => k_is)
    (case ex_NoWishes => k_exc)
    (case ek_NoWishes => k_is)
    (case es_NoWishes => k_is)
    (case et_NoWishes => k_is)
    (case xn => k_is)
    (case xt => k_is)
    (case xg_NoColumns => k_is)
    (case xk_NoColumns => k_is)
    (case xd_NoColumns => k_is)
    (case xa_NoColumns => k_is)
    (case xm_NoColumns => k_is)
    (case xv_NoColumns => k_is)
    (case xp_NoColumns => k_is)
    (case xx_NoColumns_NoWishes => k_is)
    (case xn_NoColumns_NoWishes => decide)
    (case xx_NoColumns_NoNumber => k_is)
    (case xn_NoColumns_NoNumber => decide)
    (case xg_NoWishes => k_is)
    (case xk_NoWishes => k_is)
    (case xd_NoWishes => k_is)
    (case xa_NoWishes => k_is)
    (case xm_NoWishes => k_is)
    (case xv_NoWishes => k_is)
    (case xp_NoWishes => k_is)
    (case xx_NoWishes_NoColumns => k_is)
    (case xn_NoWishes_NoColumns => decide)
    (case xx_NoWishes_NoNumber => k_is)
    (case xn_NoWishes_NoNumber => decide)
    (case xg_NoNumber => k_is)
    (case xk_NoNumber => k_is)
    (case xd_NoNumber => k_is)
    (case xa_NoNumber => k_is)
    (case xm_NoNumber => k_is)
    (case xv_NoNumber => k_is)
    (case xp_NoNumber => k_is)
    (case xx_NoNumber_NoColumns => k_is)
    (case xn_NoNumber_NoColumns => decide)
    (case xx_NoNumber_NoWishes => k_is)
    (case xn_NoNumber_NoWishes => decide)
    (case es_PressError => k_is)
    (case et_PressError => k_is)
    (case xd_PressError => k_is)
    (case td13 => rfl)
    (case tl13 => k_is)
    (case tk13 => rfl)
    (case tn13 => kernel_rfl)
    (case tr13 => decide +kernel)
