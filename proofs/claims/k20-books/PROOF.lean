import PyProof.Rows.All
import Wide.All
import OpenK.AllK
import Wide.FinOn
import HandS.ForMost
import HandS.ForExc
import HandS.Wide
import HandS.SortInts
import HandS.IsInst
import HandS.Deep
import HandS.NoneIn
import HandS.ExcInit
import HandS.OwnEq
import HandS.More
import HandS.Style
import HandS.TupAny
import HandS.Rev
import KE.KExcIs
import HandS.ExcIs
import HandS.ExcValue
import HandS.IterVal
import HandS.OwnIter
import PySem.Challenge.RW_fullsides_k20_books
set_option Elab.async false
set_option linter.all false
set_option maxRecDepth 100000
set_option maxHeartbeats 4000000
/-! VL: a layer of plain data over the hand layer: what a def of the program does to plain values, without addresses. -/
namespace VL
open PySem PySem.Spec L2

/-- plain data -/
inductive D where
  | non | bl (b : Bool) | int (i : Int) | str (s : Str)
  | lst (xs : List D) | tup (xs : List D)
  | ins (c : Str) (ns : List Str) (xs : List D)
  | dct (ks : List (List Int)) (xs : List D)
  | scr (ns : List Int)
  | exc (c : Str) (ns : List Str) (xs : List D)

namespace D
def sc : D → Bool
  | .non | .bl _ | .int _ | .str _ => true
  | _ => false
/-- it stands in a cell of its own -/
def cell : D → Bool
  | .lst _ | .tup _ | .ins _ _ _ | .dct _ _ => true
  | _ => false
def mu : D → Bool
  | .lst _ | .ins _ _ _ | .dct _ _ => true
  | _ => false
theorem mu_cell {d : D} (h : d.mu = true) : d.cell = true := by
  cases d <;> first | rfl | exact h
end D

/-- the text's facts: the written part, where each class stands -/
structure Wd where
  K : PySem.W.Frag
  ct : Str → Addr

/-- an exception object of the class cls with the own dict d, at a, caught -/
def ExT (cls : Value) (d : Option Addr) (a : Addr) : HO := .ext fun h => ∃ (oe : Obj) (vs : Array Value), h.get? a = some oe ∧ Zc cls d oe ∧ oe.data = .fields vs
/-- the keys of a dict -/
abbrev keysOf (ks : List (List Int)) : List (List Key) := ks.map fun k => k.map Sum.inl

mutual
/-- the value v is the data d, all its cells in F -/
def Rep (w : Wd) (F : Hp) : D → V → Prop
  | .non, v => v = .non
  | .bl b, v => v = .bl b
  | .int i, v => v = .int i
  | .str s, v => v = .str s
  | .lst ds, v => ∃ a vs, v = .ref a ∧ F a = some (.lst vs) ∧ Reps w F ds vs
  | .tup ds, v => ∃ a vs, v = .ref a ∧ F a = some (.tup vs) ∧ Reps w F ds vs
  | .ins c ns ds, v => ∃ a dx vs, v = .ref a ∧ F a = some (.ins (w.ct c) dx (ns.zip vs)) ∧ ns.length = vs.length ∧ Reps w F ds vs
  | .dct ks ds, v => ∃ a vs, v = .ref a ∧ F a = some (.dT ((keysOf ks).zip vs)) ∧ ks.length = vs.length ∧ Reps w F ds vs
  | .scr ns, v => ∃ a, v = .ref a ∧ SqL w.K F a (ns.map V.int)
  | .exc c ns ds, v => ∃ a dopt, v = .ref a ∧ F a = some (ExT (.ref (w.ct c)) dopt a) ∧ ((ns = [] ∧ ds = [] ∧ dopt = none) ∨ ∃ dx vs, dopt = some dx ∧ F dx = some (.xd (ns.zip vs)) ∧ ns.length = vs.length ∧ Reps w F ds vs)
def Reps (w : Wd) (F : Hp) : List D → List V → Prop
  | [], vs => vs = []
  | d :: ds, vs => ∃ v r, vs = v :: r ∧ Rep w F d v ∧ Reps w F ds r
end

section
variable {w : Wd} {F F' : Hp}
mutual
theorem Rep.mono (s : Same F F') : ∀ (d : D) (v : V), Rep w F d v → Rep w F' d v
  | .non, _, h => h
  | .bl _, _, h => h
  | .int _, _, h => h
  | .str _, _, h => h
  | .lst ds, v, h => by
    obtain ⟨a, vs, e, h1, h2⟩ := h
    exact ⟨a, vs, e, s _ _ h1, Reps.mono s ds vs h2⟩
  | .tup ds, v, h => by
    obtain ⟨a, vs, e, h1, h2⟩ := h
    exact ⟨a, vs, e, s _ _ h1, Reps.mono s ds vs h2⟩
  | .ins c ns ds, v, h => by
    obtain ⟨a, dx, vs, e, h1, hl, h2⟩ := h
    exact ⟨a, dx, vs, e, s _ _ h1, hl, Reps.mono s ds vs h2⟩
  | .dct ks ds, v, h => by
    obtain ⟨a, vs, e, h1, hl, h2⟩ := h
    exact ⟨a, vs, e, s _ _ h1, hl, Reps.mono s ds vs h2⟩
  | .scr ns, v, h => by
    obtain ⟨a, e, h1⟩ := h
    exact ⟨a, e, s.seq h1⟩
  | .exc c ns ds, v, h => by
    obtain ⟨a, dopt, e, h1, h2⟩ := h
    refine ⟨a, dopt, e, s _ _ h1, ?_⟩
    rcases h2 with h2 | ⟨dx, vs, h3, h4, h5, h6⟩
    · exact .inl h2
    · exact .inr ⟨dx, vs, h3, s _ _ h4, h5, Reps.mono s ds vs h6⟩
theorem Reps.mono (s : Same F F') : ∀ (ds : List D) (vs : List V), Reps w F ds vs → Reps w F' ds vs
  | [], _, h => h
  | d :: ds, _, h => by
    obtain ⟨v, r, e, h1, h2⟩ := h
    exact ⟨v, r, e, Rep.mono s d v h1, Reps.mono s ds r h2⟩
end
theorem Reps.len : ∀ {ds : List D} {vs : List V}, Reps w F ds vs → ds.length = vs.length
  | [], _, h => by
    cases (show _ = [] from h)
    rfl
  | d :: ds, _, h => by
    obtain ⟨v, r, rfl, _, h2⟩ := h
    rw [List.length_cons, List.length_cons, Reps.len h2]
theorem Reps.get : ∀ {ds : List D} {vs : List V} {i : Nat} {d : D}, Reps w F ds vs → ds[i]? = some d → ∃ v, vs[i]? = some v ∧ Rep w F d v
  | [], _, _, _, _, e => by simp at e
  | x :: ds, _, 0, d, h, e => by
    obtain ⟨v, r, rfl, h1, _⟩ := h
    cases (show some x = some d from e)
    exact ⟨v, rfl, h1⟩
  | x :: ds, _, i + 1, d, h, e => by
    obtain ⟨v, r, rfl, _, h2⟩ := h
    obtain ⟨u, e1, e2⟩ := Reps.get (i := i) h2 (by simpa using e)
    exact ⟨u, by simpa using e1, e2⟩
theorem Reps.getV : ∀ {ds : List D} {vs : List V} {i : Nat} {v : V}, Reps w F ds vs → vs[i]? = some v → ∃ d, ds[i]? = some d ∧ Rep w F d v
  | [], _, _, _, h, e => by
    cases (show _ = [] from h)
    simp at e
  | x :: ds, _, 0, v, h, e => by
    obtain ⟨u, r, rfl, h1, _⟩ := h
    cases (show some u = some v from e)
    exact ⟨x, rfl, h1⟩
  | x :: ds, _, i + 1, v, h, e => by
    obtain ⟨u, r, rfl, _, h2⟩ := h
    obtain ⟨d, e1, e2⟩ := Reps.getV (i := i) h2 (by simpa using e)
    exact ⟨d, by simpa using e1, e2⟩
theorem Reps.of : ∀ {ds : List D} {vs : List V}, ds.length = vs.length → (∀ (i : Nat) d v, ds[i]? = some d → vs[i]? = some v → Rep w F d v) → Reps w F ds vs
  | [], [], _, _ => rfl
  | [], _ :: _, h, _ => by simp at h
  | _ :: _, [], h, _ => by simp at h
  | d :: ds, v :: vs, h, k => ⟨v, vs, rfl, k 0 d v rfl rfl, Reps.of (by simpa using h) fun i e u h1 h2 => k (i + 1) e u (by simpa using h1) (by simpa using h2)⟩
theorem Reps.two {ds : List D} {vs : List V} {i : Nat} {d : D} {v : V} (h : Reps w F ds vs) (h1 : ds[i]? = some d) (h2 : vs[i]? = some v) : Rep w F d v := by
  obtain ⟨u, e1, e2⟩ := h.get h1
  rw [h2] at e1
  cases e1
  exact e2
theorem Reps.app : ∀ {ds es : List D} {vs us : List V}, Reps w F ds vs → Reps w F es us → Reps w F (ds ++ es) (vs ++ us)
  | [], _, _, _, h, k => by
    cases (show _ = [] from h)
    exact k
  | d :: ds, _, _, _, h, k => by
    obtain ⟨v, r, rfl, h1, h2⟩ := h
    exact ⟨v, _, rfl, h1, Reps.app h2 k⟩
theorem Reps.nil : Reps w F [] [] := rfl
theorem Reps.cons {d : D} {ds : List D} {v : V} {vs : List V} (h : Rep w F d v) (k : Reps w F ds vs) : Reps w F (d :: ds) (v :: vs) := ⟨v, vs, rfl, h, k⟩
theorem Reps.one {d : D} {v : V} (h : Rep w F d v) : Reps w F [d] [v] := .cons h .nil
theorem Reps.take {ds : List D} {vs : List V} (n : Nat) (h : Reps w F ds vs) : Reps w F (ds.take n) (vs.take n) := by
  have hl := h.len
  refine Reps.of (by rw [List.length_take, List.length_take, hl]) fun i d v h1 h2 => ?_
  rw [List.getElem?_take] at h1 h2
  split at h1
  · rename_i hi
    rw [if_pos hi] at h2
    exact h.two h1 h2
  · cases h1
theorem Reps.drop {ds : List D} {vs : List V} (n : Nat) (h : Reps w F ds vs) : Reps w F (ds.drop n) (vs.drop n) := by
  have hl := h.len
  refine Reps.of (by rw [List.length_drop, List.length_drop, hl]) fun i d v h1 h2 => ?_
  rw [List.getElem?_drop] at h1 h2
  exact h.two h1 h2
theorem Reps.rev {ds : List D} {vs : List V} (h : Reps w F ds vs) : Reps w F ds.reverse vs.reverse := by
  have hl := h.len
  refine Reps.of (by rw [List.length_reverse, List.length_reverse, hl]) fun i d v h1 h2 => ?_
  have hi : i < ds.length := by
    have := (List.getElem?_eq_some_iff.mp h1).1
    simpa using this
  rw [List.getElem?_reverse (by omega)] at h1
  rw [List.getElem?_reverse (by omega)] at h2
  rw [← hl] at h2
  exact h.two h1 h2
theorem Reps.set {ds : List D} {vs : List V} {d : D} {v : V} (i : Nat) (h : Reps w F ds vs) (k : Rep w F d v) : Reps w F (ds.set i d) (vs.set i v) := by
  have hl := h.len
  refine Reps.of (by rw [List.length_set, List.length_set, hl]) fun j e u h1 h2 => ?_
  by_cases hj : j = i
  · subst hj
    have hi : j < ds.length := by
      have := (List.getElem?_eq_some_iff.mp h1).1
      simpa using this
    rw [List.getElem?_set_self hi] at h1
    rw [List.getElem?_set_self (by omega)] at h2
    cases h1
    cases h2
    exact k
  · rw [List.getElem?_set_ne (Ne.symm hj)] at h1 h2
    exact h.two h1 h2
theorem Reps.mem {ds : List D} {vs : List V} {v : V} (h : Reps w F ds vs) (hv : v ∈ vs) : ∃ d ∈ ds, Rep w F d v := by
  obtain ⟨i, hi⟩ := List.getElem?_of_mem hv
  obtain ⟨d, e1, e2⟩ := h.getV hi
  exact ⟨d, List.mem_of_getElem? e1, e2⟩
theorem Rep.scal {d : D} {v : V} (hs : d.sc = true) (h : Rep w F d v) : Rep w F' d v := by
  cases d <;> first | exact h | cases hs
theorem Reps.scal {ds : List D} : ∀ {vs : List V}, ds.all D.sc = true → Reps w F ds vs → Reps w F' ds vs := by
  induction ds with
  | nil => intro vs _ h; exact h
  | cons d ds ih =>
    intro vs hs h
    obtain ⟨v, r, e, h1, h2⟩ := h
    rw [List.all_cons, Bool.and_eq_true] at hs
    exact ⟨v, r, e, h1.scal hs.1, ih hs.2 h2⟩
theorem Reps.ints : ∀ {ns : List Int} {vs : List V}, Reps w F (ns.map D.int) vs → vs = ns.map V.int
  | [], _, h => h
  | n :: ns, _, h => by
    obtain ⟨v, r, rfl, h1, h2⟩ := h
    rw [Reps.ints h2]
    cases (show v = V.int n from h1)
    rfl
theorem Reps.of_ints : ∀ (ns : List Int), Reps w F (ns.map D.int) (ns.map V.int)
  | [] => rfl
  | n :: ns => ⟨_, _, rfl, rfl, Reps.of_ints ns⟩
end

/-! ### a cell -/
def Cell (w : Wd) (F : Hp) : D → HO → Prop
  | .lst ds, o => ∃ vs, o = .lst vs ∧ Reps w F ds vs
  | .tup ds, o => ∃ vs, o = .tup vs ∧ Reps w F ds vs
  | .ins c ns ds, o => ∃ dx vs, o = .ins (w.ct c) dx (ns.zip vs) ∧ ns.length = vs.length ∧ Reps w F ds vs
  | .dct ks ds, o => ∃ vs, o = .dT ((keysOf ks).zip vs) ∧ ks.length = vs.length ∧ Reps w F ds vs
  | _, _ => False
theorem Rep.toCell {w : Wd} {F : Hp} {d : D} {v : V} (hc : d.cell = true) (h : Rep w F d v) : ∃ a o, v = .ref a ∧ F a = some o ∧ Cell w F d o := by
  cases d with
  | lst ds => obtain ⟨a, vs, e, h1, h2⟩ := h; exact ⟨a, _, e, h1, vs, rfl, h2⟩
  | tup ds => obtain ⟨a, vs, e, h1, h2⟩ := h; exact ⟨a, _, e, h1, vs, rfl, h2⟩
  | ins c ns ds => obtain ⟨a, dx, vs, e, h1, hl, h2⟩ := h; exact ⟨a, _, e, h1, dx, vs, rfl, hl, h2⟩
  | dct ks ds => obtain ⟨a, vs, e, h1, hl, h2⟩ := h; exact ⟨a, _, e, h1, vs, rfl, hl, h2⟩
  | non => cases hc
  | bl _ => cases hc
  | int _ => cases hc
  | str _ => cases hc
  | scr _ => cases hc
  | exc _ _ _ => cases hc
theorem Cell.rep {w : Wd} {F : Hp} {d : D} {a : Addr} {o : HO} (h1 : F a = some o) (h : Cell w F d o) : Rep w F d (.ref a) := by
  cases d with
  | lst ds => obtain ⟨vs, rfl, h2⟩ := h; exact ⟨a, vs, rfl, h1, h2⟩
  | tup ds => obtain ⟨vs, rfl, h2⟩ := h; exact ⟨a, vs, rfl, h1, h2⟩
  | ins c ns ds => obtain ⟨dx, vs, rfl, hl, h2⟩ := h; exact ⟨a, dx, vs, rfl, h1, hl, h2⟩
  | dct ks ds => obtain ⟨vs, rfl, hl, h2⟩ := h; exact ⟨a, vs, rfl, h1, hl, h2⟩
  | non => cases h
  | bl _ => cases h
  | int _ => cases h
  | str _ => cases h
  | scr _ => cases h
  | exc _ _ _ => cases h
theorem Cell.mono {w : Wd} {F F' : Hp} {d : D} {o : HO} (s : Same F F') (h : Cell w F d o) : Cell w F' d o := by
  cases d with
  | lst ds => obtain ⟨vs, e, h2⟩ := h; exact ⟨vs, e, h2.mono s⟩
  | tup ds => obtain ⟨vs, e, h2⟩ := h; exact ⟨vs, e, h2.mono s⟩
  | ins c ns ds => obtain ⟨dx, vs, e, hl, h2⟩ := h; exact ⟨dx, vs, e, hl, h2.mono s⟩
  | dct ks ds => obtain ⟨vs, e, hl, h2⟩ := h; exact ⟨vs, e, hl, h2.mono s⟩
  | non => cases h
  | bl _ => cases h
  | int _ => cases h
  | str _ => cases h
  | scr _ => cases h
  | exc _ _ _ => cases h
theorem Cell.isCell {w : Wd} {F : Hp} {d : D} {o : HO} (h : Cell w F d o) : d.cell = true := by
  cases d <;> first | rfl | cases h
theorem Cell.isMut {w : Wd} {F : Hp} {d : D} {o : HO} (h : Cell w F d o) (m : d.mu = true) : Mut (some o) := by
  cases d with
  | lst ds => obtain ⟨vs, rfl, h2⟩ := h; trivial
  | ins c ns ds => obtain ⟨dx, vs, rfl, hl, h2⟩ := h; trivial
  | dct ks ds => obtain ⟨vs, rfl, hl, h2⟩ := h; trivial
  | _ => cases m

/-! ### extensions -/
structure Ext (F H F' H' : Hp) : Prop where
  f : Same F F'
  h : Same H H'
  n : ∀ a o, F a = none → F' a = some o → H a = none
theorem Ext.refl (F H : Hp) : Ext F H F H := ⟨Same.refl _, Same.refl _, fun a o h1 h2 => by rw [h1] at h2; cases h2⟩
theorem Ext.trans {F H F1 H1 F2 H2 : Hp} (a : Ext F H F1 H1) (b : Ext F1 H1 F2 H2) : Ext F H F2 H2 := by
  refine ⟨a.f.trans b.f, a.h.trans b.h, fun c o h1 h2 => ?_⟩
  cases q : F1 c with
  | some u => exact a.n c u h1 q
  | none => exact a.h.free (b.n c o q h2)
/-- a new cell of the heap alone -/
theorem Ext.new {F H : Hp} {p : Addr} {o : HO} (h : H p = none) : Ext F H F (upd H p o) :=
  ⟨Same.refl _, fun b u e => by rw [upd_ne (ne_of_none e h)]; exact e, fun a u h1 h2 => by rw [h1] at h2; cases h2⟩
theorem same_upd {H : Hp} {p : Addr} {o : HO} (h : H p = none) : Same H (upd H p o) := fun b u e => by rw [upd_ne (ne_of_none e h)]; exact e
/-- a new cell, laid in both -/
theorem Ext.newB {F H : Hp} {p : Addr} {o : HO} (s : Same F H) (h : H p = none) : Ext F H (upd F p o) (upd H p o) := by
  have hf : F p = none := s.free h
  refine ⟨same_upd hf, same_upd h, fun a u h1 h2 => ?_⟩
  by_cases e : a = p
  · rw [e]; exact h
  · rw [upd_ne e, h1] at h2; cases h2
theorem Same.newB {F H : Hp} {p : Addr} {o : HO} (s : Same F H) : Same (upd F p o) (upd H p o) := fun b u e => by
  by_cases q : b = p
  · subst q; rw [upd_same] at e ⊢; exact e
  · rw [upd_ne q] at e ⊢; exact s _ _ e
theorem Same.newH {F H : Hp} {p : Addr} {o : HO} (s : Same F H) (h : H p = none) : Same F (upd H p o) := s.trans (same_upd h)
/-- a cell of the heap is laid in F too -/
theorem Ext.lay {Fs Hs F H : Hp} {p : Addr} {o : HO} (x : Ext Fs Hs F H) (h : H p = some o) (hf : F p = none) (hn : Hs p = none) : Ext Fs Hs (upd F p o) H := by
  refine ⟨x.f.trans (same_upd hf), x.h, fun a u h1 h2 => ?_⟩
  by_cases e : a = p
  · rw [e]; exact hn
  · rw [upd_ne e] at h2; exact x.n a u h1 h2
theorem Same.lay {F H : Hp} {p : Addr} {o : HO} (s : Same F H) (h : H p = some o) : Same (upd F p o) H := fun b u e => by
  by_cases q : b = p
  · subst q; rw [upd_same] at e; cases e; exact h
  · rw [upd_ne q] at e; exact s _ _ e

/-! ### results -/
inductive Res (α : Type) where
  | ok (a : α) | exc (c : Str) (ns : List Str) (ds : List D) | bad
namespace Res
def bind {α β : Type} : Res α → (α → Res β) → Res β
  | .ok a, f => f a
  | .exc c ns ds, _ => .exc c ns ds
  | .bad, _ => .bad
theorem ok_bind {α β : Type} (a : α) (f : α → Res β) : (Res.ok a).bind f = f a := rfl
theorem exc_bind {α β : Type} (c ns ds) (f : α → Res β) : (Res.exc c ns ds : Res α).bind f = .exc c ns ds := rfl
theorem bad_bind {α β : Type} (f : α → Res β) : (Res.bad : Res α).bind f = .bad := rfl
end Res
abbrev DSt := List (Option D)
inductive Out where
  | nx (δ : DSt) | rt (d : D) | bk (δ : DSt) | ct (δ : DSt)

/-! ### how a slot's value is held -/
/-- im: in F, for good; ow: a cell of the slot's own (it may be written), what it holds in F; ln: a cell of the caller's, what it holds in F; bo: of the caller's; is: cells of the slot's own; xx: not to be read -/
inductive Kd where
  | im | ow | ln | bo | is | xx
  /-- the instance at a that is being made -/
  | me (a : Addr)
  deriving DecidableEq
/-- an exception's own dict -/
def XR (w : Wd) (H0 F H : Hp) (dopt : Option Addr) (ns : List Str) (ds : List D) : Prop :=
  match ns with
  | [] => dopt = none ∧ ds = []
  | _ => ∃ dx vs, dopt = some dx ∧ H0 dx = none ∧ F dx = none ∧ H dx = some (.xd (ns.zip vs)) ∧ ns.length = vs.length ∧ Reps w F ds vs

/-- what stays through a def's body: the text, the entry's frozen part and heap, the wish about exceptions -/
structure G where
  w : Wd
  F0 : Hp
  H0 : Hp
  E : XK

def Shl (w : Wd) (F H : Hp) (d : D) (v : V) : Prop := (d.cell = true ∧ ∃ a o, v = .ref a ∧ H a = some o ∧ Cell w F d o) ∨ (d.cell = false ∧ Rep w F d v)
theorem Shl.mono {w : Wd} {F H F' H' : Hp} {d : D} {v : V} (sf : Same F F') (sh : Same H H') (h : Shl w F H d v) : Shl w F' H' d v := by
  rcases h with ⟨c, a, o, e, h1, h2⟩ | ⟨c, h⟩
  · exact .inl ⟨c, a, o, e, sh _ _ h1, h2.mono sf⟩
  · exact .inr ⟨c, h.mono sf⟩
theorem Shl.of {w : Wd} {F H : Hp} {d : D} {v : V} (s : Same F H) (h : Rep w F d v) : Shl w F H d v := by
  cases c : d.cell with
  | true =>
    obtain ⟨a, o, e, h1, h2⟩ := h.toCell c
    exact .inl ⟨c, a, o, e, s _ _ h1, h2⟩
  | false => exact .inr ⟨c, h⟩
theorem Shl.rep {w : Wd} {F H : Hp} {d : D} {v : V} (s : Same F H) (h : Shl w F H d v) : Rep w H d v := by
  rcases h with ⟨c, a, o, e, h1, h2⟩ | ⟨c, h⟩
  · subst e; exact (h2.mono s).rep h1
  · exact h.mono s

def Sl (g : G) (F : Hp) (O : Addr → Option Nat) (H : Hp) (i : Nat) : Kd → D → V → Prop
  | .im, d, v => Rep g.w F d v
  | .ow, d, v => d.mu = true ∧ ∃ a o, v = .ref a ∧ O a = some i ∧ H a = some o ∧ Cell g.w F d o
  | .ln, d, v => Shl g.w F g.H0 d v
  | .bo, d, v => Rep g.w g.H0 d v
  | .is, d, v => ∃ I : Hp, Same I H ∧ (∀ a o, I a = some o → O a = some i) ∧ Rep g.w I d v
  | .xx, _, _ => True
  | .me x, d, v => v = .ref x ∧ O x = some i ∧ ∃ o, H x = some o ∧ Cell g.w F d o ∧ d.mu = true

structure Env (g : G) (κ : List Kd) (F : Hp) (O : Addr → Option Nat) (H : Hp) (σ : St) (δ : DSt) : Prop where
  e : Ext g.F0 g.H0 F H
  s : Same F H
  o : ∀ a i, O a = some i → g.H0 a = none ∧ F a = none ∧ ∃ u, H a = some u
  l : δ.length = σ.length
  lk : κ.length = σ.length
  sl : ∀ (i : Nat) k d, κ[i]? = some k → δ[i]? = some (some d) → ∃ v, σ[i]? = some (some v) ∧ Sl g F O H i k d v

theorem Env.ext {g : G} {κ : List Kd} {F F' : Hp} {O : Addr → Option Nat} {H H' : Hp} {σ : St} {δ : DSt} (N : Env g κ F O H σ δ) (x : Ext F H F' H') (s : Same F' H') : Env g κ F' O H' σ δ := by
  refine ⟨N.e.trans x, s, fun a i h => ?_, N.l, N.lk, fun i k d h1 h2 => ?_⟩
  · obtain ⟨o1, o2, u, o3⟩ := N.o a i h
    refine ⟨o1, ?_, u, x.h _ _ o3⟩
    cases q : F' a with
    | none => rfl
    | some z =>
      have := x.n a z o2 q
      rw [o3] at this
      cases this
  · obtain ⟨v, e1, e2⟩ := N.sl i k d h1 h2
    refine ⟨v, e1, ?_⟩
    cases k with
    | im => exact Rep.mono x.f _ _ e2
    | ow =>
      obtain ⟨m, a, o, e, h3, h4, h5⟩ := e2
      exact ⟨m, a, o, e, h3, x.h _ _ h4, h5.mono x.f⟩
    | ln => exact Shl.mono x.f (Same.refl _) e2
    | bo => exact e2
    | is =>
      obtain ⟨I, h3, h4, h5⟩ := e2
      exact ⟨I, h3.trans x.h, h4, h5⟩
    | xx => trivial
    | me y =>
      obtain ⟨e, h3, o, h4, h5, m⟩ := e2
      exact ⟨e, h3, o, x.h _ _ h4, h5.mono x.f, m⟩

/-! ### how an expression's value is held -/
inductive Rk where
  | im | ls | bo | sh | rd | fr
/-- where the cells within stand -/
def reg (g : G) (F H : Hp) : Rk → Hp
  | .im | .ls | .sh | .fr => F
  | .bo => g.H0
  | .rd => H
def RO (g : G) (Hs F H : Hp) : Rk → D → V → Prop
  | .im, d, v => Rep g.w F d v
  | .ls, d, v => Shl g.w F g.H0 d v
  | .bo, d, v => Rep g.w g.H0 d v
  | .sh, d, v => Shl g.w F H d v
  | .rd, d, v => Rep g.w H d v
  | .fr, d, v => d.mu = true ∧ ∃ a o, v = .ref a ∧ Hs a = none ∧ F a = none ∧ H a = some o ∧ Cell g.w F d o
theorem RO.ext {g : G} {Hs F H F' H' : Hp} {k : Rk} {d : D} {v : V} (x : Ext F H F' H') (h : RO g Hs F H k d v) : RO g Hs F' H' k d v := by
  cases k with
  | im => exact Rep.mono x.f _ _ h
  | ls => exact Shl.mono x.f (Same.refl _) h
  | bo => exact h
  | sh => exact Shl.mono x.f x.h h
  | rd => exact Rep.mono x.h _ _ h
  | fr =>
    obtain ⟨m, a, o, e, h1, h2, h3, h4⟩ := h
    refine ⟨m, a, o, e, h1, ?_, x.h _ _ h3, h4.mono x.f⟩
    cases q : F' a with
    | none => rfl
    | some z =>
      have := x.n a z h2 q
      rw [h3] at this
      cases this
/-- every value may be read now -/
theorem RO.rep {g : G} {Hs F H : Hp} {k : Rk} {d : D} {v : V} (s : Same F H) (s0 : Same g.H0 H) (h : RO g Hs F H k d v) : Rep g.w H d v := by
  cases k with
  | im => exact Rep.mono s _ _ h
  | ls => exact (h.mono (Same.refl _) s0).rep s
  | bo => exact Rep.mono s0 _ _ h
  | sh => exact Shl.rep s h
  | rd => exact h
  | fr =>
    obtain ⟨m, a, o, e, h1, h2, h3, h4⟩ := h
    subst e
    exact (h4.mono s).rep h3
theorem RO.cell {g : G} {Hs F H : Hp} {k : Rk} {d : D} {v : V} (s : Same F H) (s0 : Same g.H0 H) (c : d.cell = true) (h : RO g Hs F H k d v) : ∃ a o, v = .ref a ∧ H a = some o ∧ Cell g.w (reg g F H k) d o := by
  have sh : ∀ {H1 : Hp}, Same H1 H → Shl g.w F H1 d v → ∃ a o, v = .ref a ∧ H a = some o ∧ Cell g.w F d o := fun {H1} s1 h => by
    rcases h with ⟨_, a, o, e, h1, h2⟩ | ⟨z, _⟩
    · exact ⟨a, o, e, s1 _ _ h1, h2⟩
    · rw [c] at z; cases z
  cases k with
  | im =>
    obtain ⟨a, o, e, h1, h2⟩ := Rep.toCell c h
    exact ⟨a, o, e, s _ _ h1, h2⟩
  | ls => exact sh s0 h
  | bo =>
    obtain ⟨a, o, e, h1, h2⟩ := Rep.toCell c h
    exact ⟨a, o, e, s0 _ _ h1, h2⟩
  | sh => exact sh (Same.refl _) h
  | rd => exact Rep.toCell c h
  | fr =>
    obtain ⟨m, a, o, e, h1, h2, h3, h4⟩ := h
    exact ⟨a, o, e, h3, h4⟩
/-- the kind of what stands within -/
def Rk.it : Rk → Rk
  | .im | .ls | .sh | .fr => .im
  | .bo => .bo
  | .rd => .rd
theorem RO.it {g : G} {Hs Hs' F H : Hp} {k : Rk} {d : D} {v : V} (h : Rep g.w (reg g F H k) d v) : RO g Hs F H k.it d v := by
  cases k <;> exact h
theorem RO.sc {g : G} {Hs F H : Hp} {d : D} {v : V} (k : Rk) (hs : d.sc = true) (h : Rep g.w F d v) (k' : Rk) (hk : k' ≠ .fr) : RO g Hs F H k' d v := by
  have hc : d.cell = false := by cases d <;> first | rfl | cases hs
  cases k' with
  | im => exact h
  | ls => exact .inr ⟨hc, h⟩
  | bo => exact h.scal hs
  | sh => exact .inr ⟨hc, h⟩
  | rd => exact h.scal hs
  | fr => exact absurd rfl hk

/-! ### what is wanted behind -/
def Raise (g : G) (c : Str) (ns : List Str) (ds : List D) : Prop := ∀ F' H' dopt, Ext g.F0 g.H0 F' H' → Same F' H' → XR g.w g.H0 F' H' dopt ns ds → g.E (.ref (g.w.ct c)) dopt H'
def Post (g : G) (k : Rk) (F H : Hp) (r : Res D) (Q : VK) : Prop :=
  match r with
  | .ok d => ∀ v F' H', Ext F H F' H' → Same F' H' → RO g H F' H' k d v → Q v H'
  | .exc c ns ds => Raise g c ns ds
  | .bad => False
def PostT (g : G) (F H : Hp) (r : Res Bool) (Q : Bool → Hp → Prop) : Prop :=
  match r with
  | .ok b => ∀ F' H', Ext F H F' H' → Same F' H' → Q b H'
  | .exc c ns ds => Raise g c ns ds
  | .bad => False
def ROs (g : G) (Hs F H : Hp) : List Rk → List D → List V → Prop
  | [], ds, vs => ds = [] ∧ vs = []
  | k :: ks, ds, vs => ∃ d ds' v vs', ds = d :: ds' ∧ vs = v :: vs' ∧ RO g Hs F H k d v ∧ ROs g Hs F H ks ds' vs'
def PostA (g : G) (ks : List Rk) (F H : Hp) (r : Res (List D)) (Q : List V → Hp → Prop) : Prop :=
  match r with
  | .ok ds => ∀ vs F' H', Ext F H F' H' → Same F' H' → ROs g H F' H' ks ds vs → Q vs H'
  | .exc c ns ds => Raise g c ns ds
  | .bad => False
structure Ks where
  n : List Kd
  b : List Kd
  c : List Kd
def PostS (g : G) (K : Ks) (F : Hp) (r : Res Out) (D : Ends) : Prop :=
  match r with
  | .ok (.nx δ) => ∀ F' O H σ, Same F F' → Env g K.n F' O H σ δ → D.nx σ H
  | .ok (.bk δ) => ∀ F' O H σ, Same F F' → Env g K.b F' O H σ δ → D.bk σ H
  | .ok (.ct δ) => ∀ F' O H σ, Same F F' → Env g K.c F' O H σ δ → D.ct σ H
  | .ok (.rt d) => ∀ F H v, Ext g.F0 g.H0 F H → Same F H → Rep g.w F d v → D.rt v H
  | .exc c ns ds => Raise g c ns ds
  | .bad => False

abbrev DE := DSt → Res D
abbrev DT := DSt → Res Bool
abbrev DA := DSt → Res (List D)
abbrev DS := DSt → Res Out
def lowE (g : G) (κ : List Kd) (k : Rk) (f : DE) : TE := fun σ H Q => ∃ F O δ, Env g κ F O H σ δ ∧ Post g k F H (f δ) Q
def lowT (g : G) (κ : List Kd) (f : DT) : TT := fun σ H Q => ∃ F O δ, Env g κ F O H σ δ ∧ PostT g F H (f δ) Q
def lowA (g : G) (κ : List Kd) (ks : List Rk) (f : DA) : TA := fun σ H Q => ∃ F O δ, Env g κ F O H σ δ ∧ PostA g ks F H (f δ) Q
def lowS (g : G) (κ : List Kd) (K : Ks) (f : DS) : TS := fun D σ H => ∃ F O δ, Env g κ F O H σ δ ∧ PostS g K F (f δ) D

theorem _root_.L2.PE.weak {X : Cx} {e : Expr} {t t' : TE} (h : PE X e t) (i : ∀ σ H Q, t' σ H Q → t σ H Q) : PE X e t' := ⟨fun pins s σ H Q I q => h.run pins s σ H Q I (i _ _ _ q)⟩
theorem _root_.L2.PT.weak {X : Cx} {e : Expr} {t t' : TT} (h : PT X e t) (i : ∀ σ H Q, t' σ H Q → t σ H Q) : PT X e t' := ⟨fun pins s σ H Q I q => h.run pins s σ H Q I (i _ _ _ q)⟩
theorem _root_.L2.PA.weak {X : Cx} {e : List Expr} {t t' : TA} (h : PA X e t) (i : ∀ σ H Q, t' σ H Q → t σ H Q) : PA X e t' := ⟨fun pos pins s σ H Q I q => h.run pos pins s σ H Q I (i _ _ _ q)⟩
theorem _root_.L2.PS.weak {X : Cx} {e : Stmt} {t t' : TS} (h : PS X e t) (i : ∀ D σ H, t' D σ H → t D σ H) : PS X e t' := ⟨fun pins s σ H Q I q => h.run pins s σ H Q I (i _ _ _ q)⟩
theorem _root_.L2.PSs.weak {X : Cx} {e : List Stmt} {t t' : TS} (h : PSs X e t) (i : ∀ D σ H, t' D σ H → t D σ H) : PSs X e t' := ⟨fun pins s σ H Q I q => h.run pins s σ H Q I (i _ _ _ q)⟩

theorem Post.mono {g : G} {k : Rk} {F H F1 H1 : Hp} {r : Res D} {Q : VK} (x : Ext F H F1 H1) (h : Post g k F H r Q) : Post g k F1 H1 r Q := by
  cases r with
  | ok d =>
    intro v F' H' y s q
    refine h v F' H' (x.trans y) s ?_
    cases k with
    | fr =>
      obtain ⟨m, a, o, e, h1, h2⟩ := q
      exact ⟨m, a, o, e, x.h.free h1, h2⟩
    | im => exact q
    | ls => exact q
    | bo => exact q
    | sh => exact q
    | rd => exact q
  | exc c ns ds => exact h
  | bad => exact h
theorem PostT.mono {g : G} {F H F1 H1 : Hp} {r : Res Bool} {Q : Bool → Hp → Prop} (x : Ext F H F1 H1) (h : PostT g F H r Q) : PostT g F1 H1 r Q := by
  cases r with
  | ok d => exact fun F' H' y s => h F' H' (x.trans y) s
  | exc c ns ds => exact h
  | bad => exact h
theorem ROs.down {g : G} {Hs Hs' F H : Hp} (s : Same Hs Hs') : ∀ {ks : List Rk} {ds : List D} {vs : List V}, ROs g Hs' F H ks ds vs → ROs g Hs F H ks ds vs
  | [], _, _, h => h
  | k :: ks, _, _, h => by
    obtain ⟨d, ds', v, vs', e1, e2, h1, h2⟩ := h
    refine ⟨d, ds', v, vs', e1, e2, ?_, ROs.down s h2⟩
    cases k with
    | fr =>
      obtain ⟨m, a, o, e, h1, h2⟩ := h1
      exact ⟨m, a, o, e, s.free h1, h2⟩
    | im => exact h1
    | ls => exact h1
    | bo => exact h1
    | sh => exact h1
    | rd => exact h1
theorem ROs.ext {g : G} {Hs F H F' H' : Hp} (x : Ext F H F' H') : ∀ {ks : List Rk} {ds : List D} {vs : List V}, ROs g Hs F H ks ds vs → ROs g Hs F' H' ks ds vs
  | [], _, _, h => h
  | k :: ks, _, _, h => by
    obtain ⟨d, ds', v, vs', e1, e2, h1, h2⟩ := h
    exact ⟨d, ds', v, vs', e1, e2, h1.ext x, ROs.ext x h2⟩
theorem PostA.mono {g : G} {ks : List Rk} {F H F1 H1 : Hp} {r : Res (List D)} {Q : List V → Hp → Prop} (x : Ext F H F1 H1) (h : PostA g ks F H r Q) : PostA g ks F1 H1 r Q := by
  cases r with
  | ok d => exact fun vs F' H' y s q => h vs F' H' (x.trans y) s (q.down x.h)
  | exc c ns ds => exact h
  | bad => exact h
/-- one after the other -/
theorem Post.seq {g : G} {k k1 : Rk} {F H : Hp} {r : Res D} {f : D → Res D} {Q Q1 : VK} (h : Post g k F H (r.bind f) Q)
    (n : ∀ d v F' H', Ext F H F' H' → Same F' H' → RO g H F' H' k1 d v → Post g k F' H' (f d) Q → Q1 v H') : Post g k1 F H r Q1 := by
  cases r with
  | ok d => exact fun v F' H' x s q => n d v F' H' x s q (h.mono x)
  | exc c ns ds => exact h
  | bad => exact h
theorem PostT.seq {g : G} {k1 : Rk} {F H : Hp} {r : Res D} {f : D → Res Bool} {Q : Bool → Hp → Prop} {Q1 : VK} (h : PostT g F H (r.bind f) Q)
    (n : ∀ d v F' H', Ext F H F' H' → Same F' H' → RO g H F' H' k1 d v → PostT g F' H' (f d) Q → Q1 v H') : Post g k1 F H r Q1 := by
  cases r with
  | ok d => exact fun v F' H' x s q => n d v F' H' x s q (h.mono x)
  | exc c ns ds => exact h
  | bad => exact h
theorem Post.seqT {g : G} {k : Rk} {F H : Hp} {r : Res Bool} {f : Bool → Res D} {Q : VK} {Q1 : Bool → Hp → Prop} (h : Post g k F H (r.bind f) Q)
    (n : ∀ b F' H', Ext F H F' H' → Same F' H' → Post g k F' H' (f b) Q → Q1 b H') : PostT g F H r Q1 := by
  cases r with
  | ok d => exact fun F' H' x s => n d F' H' x s (h.mono x)
  | exc c ns ds => exact h
  | bad => exact h
theorem PostT.seqT {g : G} {F H : Hp} {r : Res Bool} {f : Bool → Res Bool} {Q : Bool → Hp → Prop} {Q1 : Bool → Hp → Prop} (h : PostT g F H (r.bind f) Q)
    (n : ∀ b F' H', Ext F H F' H' → Same F' H' → PostT g F' H' (f b) Q → Q1 b H') : PostT g F H r Q1 := by
  cases r with
  | ok d => exact fun F' H' x s => n d F' H' x s (h.mono x)
  | exc c ns ds => exact h
  | bad => exact h
theorem Post.seqA {g : G} {k : Rk} {ks : List Rk} {F H : Hp} {r : Res (List D)} {f : List D → Res D} {Q : VK} {Q1 : List V → Hp → Prop} (h : Post g k F H (r.bind f) Q)
    (n : ∀ ds vs F' H', Ext F H F' H' → Same F' H' → ROs g H F' H' ks ds vs → Post g k F' H' (f ds) Q → Q1 vs H') : PostA g ks F H r Q1 := by
  cases r with
  | ok d => exact fun vs F' H' x s q => n d vs F' H' x s q (h.mono x)
  | exc c ns ds => exact h
  | bad => exact h
theorem PostS.mono {g : G} {K : Ks} {F F1 : Hp} {r : Res Out} {D : Ends} (x : Same F F1) (h : PostS g K F r D) : PostS g K F1 r D := by
  cases r with
  | ok o =>
    cases o with
    | nx δ => exact fun F' O H σ y => h F' O H σ (x.trans y)
    | bk δ => exact fun F' O H σ y => h F' O H σ (x.trans y)
    | ct δ => exact fun F' O H σ y => h F' O H σ (x.trans y)
    | rt d => exact h
  | exc c ns ds => exact h
  | bad => exact h
theorem PostS.seq {g : G} {K : Ks} {k1 : Rk} {F H : Hp} {r : Res D} {f : D → Res Out} {D : Ends} {Q1 : VK} (h : PostS g K F (r.bind f) D)
    (n : ∀ d v F' H', Ext F H F' H' → Same F' H' → RO g H F' H' k1 d v → PostS g K F' (f d) D → Q1 v H') : Post g k1 F H r Q1 := by
  cases r with
  | ok d => exact fun v F' H' x s q => n d v F' H' x s q (h.mono x.f)
  | exc c ns ds => exact h
  | bad => exact h
theorem PostS.seqT {g : G} {K : Ks} {F H : Hp} {r : Res Bool} {f : Bool → Res Out} {D : Ends} {Q1 : Bool → Hp → Prop} (h : PostS g K F (r.bind f) D)
    (n : ∀ b F' H', Ext F H F' H' → Same F' H' → PostS g K F' (f b) D → Q1 b H') : PostT g F H r Q1 := by
  cases r with
  | ok d => exact fun F' H' x s => n d F' H' x s (h.mono x.f)
  | exc c ns ds => exact h
  | bad => exact h
end VL

namespace VL
open PySem PySem.Spec L2

/-! ### what an operator does on data -/
def addI : D → D → Res D
  | .int i, .int j => .ok (.int (i + j))
  | _, _ => .bad
def subI : D → D → Res D
  | .int i, .int j => .ok (.int (i - j))
  | _, _ => .bad
def mulOk (i j : Int) : Bool := decide (i.natAbs < 2 ^ 64 ∨ j.natAbs < 2 ^ 64 ∨ i.natAbs.log2 + j.natAbs.log2 < 1000000)
def mulI : D → D → Res D
  | .int i, .int j => if mulOk i j then .ok (.int (i * j)) else .bad
  | _, _ => .bad
def fdivI : D → D → Res D
  | .int i, .int j => if 0 < j ∧ j.natAbs.log2 < 9000 then .ok (.int (i / j)) else .bad
  | _, _ => .bad
def modI : D → D → Res D
  | .int i, .int j => if 0 < j then .ok (.int (i % j)) else .bad
  | _, _ => .bad
def powI : D → D → Res D
  | .int i, .int j => if 0 ≤ j ∧ j ≤ 1000000 ∧ i.natAbs < 2 ^ 64 then .ok (.int (i ^ j.toNat)) else .bad
  | _, _ => .bad
def shlI : D → D → Res D
  | .int i, .int j => if 0 ≤ j ∧ j ≤ 1000000 ∧ i.natAbs < 2 ^ 64 then .ok (.int (i * 2 ^ j.toNat)) else .bad
  | _, _ => .bad
def shrI : D → D → Res D
  | .int i, .int j => if 0 ≤ j then .ok (.int (i / 2 ^ j.toNat)) else .bad
  | _, _ => .bad
def andI : D → D → Res D
  | .int i, .int j => .ok (.int (Builtin.bitAnd i j))
  | _, _ => .bad
def orI : D → D → Res D
  | .int i, .int j => .ok (.int (Builtin.bitOr i j))
  | _, _ => .bad
def cmpI (p : Int → Int → Bool) : D → D → Res D
  | .int i, .int j => .ok (.bl (p i j))
  | _, _ => .bad
def ltI : D → D → Res D := cmpI fun i j => decide (i < j)
def leI : D → D → Res D := cmpI fun i j => decide (i ≤ j)
def gtI : D → D → Res D := cmpI fun i j => decide (j < i)
def geI : D → D → Res D := cmpI fun i j => decide (j ≤ i)
def negI : D → Res D
  | .int i => .ok (.int (-i))
  | _ => .bad
def invI : D → Res D
  | .int i => .ok (.int (Builtin.bitNot i))
  | _ => .bad
def asB : D → Res Bool
  | .bl b => .ok b
  | _ => .bad
def notB : D → Res D
  | .bl b => .ok (.bl (!b))
  | _ => .bad
def scD (d : D) : Res D := if d.sc then .ok d else .bad
def isB : D → D → Res D
  | .bl a, .bl b => .ok (.bl (decide (a = b)))
  | _, _ => .bad
def isNotB : D → D → Res D
  | .bl a, .bl b => .ok (.bl (!decide (a = b)))
  | _, _ => .bad
def isNon : D → Bool
  | .non => true
  | _ => false

/-! == of data -/
mutual
def D.py : D → PyData
  | .non => .none
  | .bl b => .bool b
  | .int i => .int i
  | .str s => .str s
  | .lst ds => .list (pys ds)
  | .tup ds => .tuple (pys ds)
  | _ => .none
def pys : List D → List PyData
  | [] => []
  | d :: ds => D.py d :: pys ds
end
theorem pys_map : ∀ ds : List D, pys ds = ds.map D.py
  | [] => rfl
  | d :: ds => by rw [pys, List.map_cons, pys_map ds]
mutual
def okD : Nat → D → Bool
  | _, .non | _, .bl _ | _, .int _ => true
  | _, .str s => PyData.strOk s
  | 0, _ => false
  | n + 1, .lst ds => oksD n ds
  | n + 1, .tup ds => oksD n ds
  | _ + 1, _ => false
def oksD : Nat → List D → Bool
  | _, [] => true
  | n, d :: ds => okD n d && oksD n ds
end
theorem oksD_all (n : Nat) : ∀ ds : List D, oksD n ds = ds.all (okD n)
  | [] => by simp [oksD]
  | d :: ds => by simp [oksD, oksD_all n ds]
mutual
theorem okD_shape : ∀ (n : Nat) (d : D), okD n d = true → (D.py d).canLay0 = true ∧ (D.py d).depth ≤ n
  | n, .non, _ => by simp [D.py, PyData.canLay0, PyData.depth]
  | n, .bl _, _ => by simp [D.py, PyData.canLay0, PyData.depth]
  | n, .int _, _ => by simp [D.py, PyData.canLay0, PyData.depth]
  | n, .str s, h => by
    have h' : PyData.strOk s = true := by cases n <;> simpa [okD] using h
    simp [D.py, PyData.canLay0, PyData.depth, h']
  | 0, .lst _, h => by simp [okD] at h
  | 0, .tup _, h => by simp [okD] at h
  | n + 1, .lst ds, h => by
    obtain ⟨h1, h2⟩ := oksD_shape n ds (by simpa [okD] using h)
    simp only [D.py, PyData.canLay0, PyData.depth]
    exact ⟨h1, by omega⟩
  | n + 1, .tup ds, h => by
    obtain ⟨h1, h2⟩ := oksD_shape n ds (by simpa [okD] using h)
    simp only [D.py, PyData.canLay0, PyData.depth]
    exact ⟨h1, by omega⟩
  | 0, .ins _ _ _, h => by simp [okD] at h
  | 0, .dct _ _, h => by simp [okD] at h
  | 0, .scr _, h => by simp [okD] at h
  | 0, .exc _ _ _, h => by simp [okD] at h
  | n + 1, .ins _ _ _, h => by simp [okD] at h
  | n + 1, .dct _ _, h => by simp [okD] at h
  | n + 1, .scr _, h => by simp [okD] at h
  | n + 1, .exc _ _ _, h => by simp [okD] at h
theorem oksD_shape : ∀ (n : Nat) (ds : List D), oksD n ds = true → PyData.canLayAll0 (pys ds) = true ∧ PyData.depthAll (pys ds) ≤ n
  | n, [], _ => by simp [pys, PyData.canLayAll0, PyData.depthAll]
  | n, d :: ds, h => by
    rw [oksD, Bool.and_eq_true] at h
    obtain ⟨h1, h2⟩ := okD_shape n d h.1
    obtain ⟨h3, h4⟩ := oksD_shape n ds h.2
    simp only [pys, PyData.canLayAll0, PyData.depthAll, h1, h3, Bool.and_self, true_and]
    omega
end
theorem okD_shaped {n : Nat} {d : D} (hn : n ≤ 64) (h : okD n d = true) : SeqAt.shaped (D.py d) = true := by
  obtain ⟨h1, h2⟩ := okD_shape n d h
  unfold SeqAt.shaped
  rw [h1, decide_eq_true (Nat.le_trans h2 hn)]
  rfl
mutual
theorem Rep.dp {w : Wd} {H : Hp} : ∀ (n : Nat) (d : D) (v : V), okD n d = true → Rep w H d v → Dp w.K H v (D.py d)
  | _, .non, v, _, r => by cases (show v = .non from r); exact .non
  | _, .bl b, v, _, r => by cases (show v = .bl b from r); exact .bl b
  | _, .int i, v, _, r => by cases (show v = .int i from r); exact .int i
  | _, .str i, v, _, r => by cases (show v = .str i from r); exact .str i
  | 0, .lst _, _, h, _ => by simp [okD] at h
  | 0, .tup _, _, h, _ => by simp [okD] at h
  | n + 1, .lst ds, v, h, r => by
    obtain ⟨a, vs, rfl, h1, h2⟩ := r
    rw [D.py]
    exact .lst (SqL.of h1) (Reps.dp n ds vs (by simpa [okD] using h) h2)
  | n + 1, .tup ds, v, h, r => by
    obtain ⟨a, vs, rfl, h1, h2⟩ := r
    rw [D.py]
    exact .tup (SqT.of h1) (Reps.dp n ds vs (by simpa [okD] using h) h2)
  | 0, .ins _ _ _, _, h, _ => by simp [okD] at h
  | 0, .dct _ _, _, h, _ => by simp [okD] at h
  | 0, .scr _, _, h, _ => by simp [okD] at h
  | 0, .exc _ _ _, _, h, _ => by simp [okD] at h
  | n + 1, .ins _ _ _, _, h, _ => by simp [okD] at h
  | n + 1, .dct _ _, _, h, _ => by simp [okD] at h
  | n + 1, .scr _, _, h, _ => by simp [okD] at h
  | n + 1, .exc _ _ _, _, h, _ => by simp [okD] at h
theorem Reps.dp {w : Wd} {H : Hp} : ∀ (n : Nat) (ds : List D) (vs : List V), oksD n ds = true → Reps w H ds vs → DpAll w.K H vs (pys ds)
  | _, [], vs, _, r => by cases (show vs = [] from r); exact .nil
  | n, d :: ds, _, h, r => by
    obtain ⟨v, r', rfl, h1, h2⟩ := r
    rw [oksD, Bool.and_eq_true] at h
    rw [pys]
    exact .cons (Rep.dp n d v h.1 h1) (Reps.dp n ds r' h.2 h2)
end
/-- the depth that == goes to -/
abbrev eqDepth : Nat := 8
def D.eqb (x y : D) : Bool := PyData.eqv x.py y.py
def eqD (x y : D) : Res D := if okD eqDepth x && okD eqDepth y then .ok (.bl (x.eqb y)) else .bad
def neD (x y : D) : Res D := if okD eqDepth x && okD eqDepth y then .ok (.bl (!x.eqb y)) else .bad
/-- the items of a list or tuple -/
def seqOf : D → Option (List D)
  | .lst ds => some ds
  | .tup ds => some ds
  | _ => none
def D.anyEq (x : D) (ds : List D) : Bool := ds.any fun y => y.eqb x
/-- x in xs -/
def inD (x y : D) : Res D := match y with
  | .lst ds => if okD eqDepth x && oksD eqDepth ds then .ok (.bl (D.anyEq x ds)) else .bad
  | _ => .bad
def notInD (x y : D) : Res D := match y with
  | .lst ds => if okD eqDepth x && oksD eqDepth ds then .ok (.bl (!D.anyEq x ds)) else .bad
  | _ => .bad
/-- x in t, flat items -/
def flatD : D → Bool
  | .non | .bl _ | .int _ | .str _ => true
  | _ => false
def inF (neg : Bool) (x y : D) : Res D := match y with
  | .lst ds | .tup ds => if flatD x && ds.all flatD then .ok (.bl (if neg then !D.anyEq x ds else D.anyEq x ds)) else .bad
  | _ => .bad

/-! ### rules: names, constants -/
section
variable {X : Cx} {g : G} {κ : List Kd}
def vVar (i : Nat) : DE := fun δ => match δ[i]? with
  | some (some d) => .ok d
  | _ => .bad
def Kd.rk : Kd → Option Rk
  | .im => some .im
  | .ow => some .sh
  | .ln => some .ls
  | .bo => some .bo
  | .is => some .rd
  | .xx => none
  | .me _ => some .sh
theorem Sl.ro {F : Hp} {O : Addr → Option Nat} {H Hs : Hp} {i : Nat} {kd : Kd} {k : Rk} {d : D} {v : V} (hk : kd.rk = some k) (h : Sl g F O H i kd d v) : RO g Hs F H k d v := by
  cases kd with
  | im => cases hk; exact h
  | ow =>
    cases hk
    obtain ⟨m, a, o, e, h1, h2, h3⟩ := h
    exact .inl ⟨D.mu_cell m, a, o, e, h2, h3⟩
  | ln => cases hk; exact h
  | bo => cases hk; exact h
  | is =>
    cases hk
    obtain ⟨I, h1, h2, h3⟩ := h
    exact h3.mono h1
  | xx => cases hk
  | me y =>
    cases hk
    obtain ⟨e, h1, o, h2, h3, m⟩ := h
    exact .inl ⟨D.mu_cell m, y, o, e, h2, h3⟩
theorem ve_var (i : Nat) {x : Str} {pos : Pos} {kd : Kd} {k : Rk} (hk : κ[i]? = some kd := by rfl) (hr : kd.rk = some k := by rfl) (hN : X.N[i]? = some x := by rfl)
    (hv : Vis X.env.scope x := by first | exact Or.inl rfl | exact Or.inr (Or.inl rfl) | exact Or.inr (Or.inr rfl)) (hd : (x == ("__debug__" : Str)) = false := by decide)
    (hcd : (x == ("__classdict__" : Str)) = false := by decide) : PE X (.Name x pos) (lowE g κ k (vVar i)) := by
  refine (pe_var hN hv hd hcd).weak fun σ H Q h => ?_
  obtain ⟨F, O, δ, N, p⟩ := h
  unfold vVar at p
  cases e : δ[i]? with
  | none => rw [e] at p; exact p.elim
  | some o =>
    cases o with
    | none => rw [e] at p; exact p.elim
    | some d =>
      rw [e] at p
      obtain ⟨v, e1, e2⟩ := N.sl i kd d hk e
      exact ⟨v, e1, p v F H (Ext.refl _ _) N.s (e2.ro hr)⟩
def vC (d : D) : DE := fun _ => .ok d
theorem ve_const {e : Expr} {v : V} {d : D} (h : PE X e (tC v)) (r : ∀ F, Rep g.w F d v) : PE X e (lowE g κ .im (vC d)) :=
  h.weak fun σ H Q ⟨F, O, δ, N, p⟩ => p v F H (Ext.refl _ _) N.s (r F)
theorem ve_int {i j pos} : PE X (.Constant (.int i) j pos) (lowE g κ .im (vC (.int i))) := ve_const pe_int fun _ => rfl
theorem ve_bl {b j pos} : PE X (.Constant (.bool b) j pos) (lowE g κ .im (vC (.bl b))) := ve_const pe_bl fun _ => rfl
theorem ve_non {j pos} : PE X (.Constant .none j pos) (lowE g κ .im (vC .non)) := ve_const pe_non fun _ => rfl
theorem ve_str {x j pos} : PE X (.Constant (.str x) j pos) (lowE g κ .im (vC (.str x))) := ve_const pe_str fun _ => rfl
/-- a module's constant that is an int or a text -/
theorem ve_glob {x : Str} {v : V} {d : D} {u : Value} {pos : Pos} (hg : Gl X x) (hm : X.mg x = some u) (r : RelV v u) (h : ∀ F, Rep g.w F d v) (hd : (x == ("__debug__" : Str)) = false := by decide) : PE X (.Name x pos) (lowE g κ .im (vC d)) :=
  ve_const (pe_glob hg hm r hd) h

/-! ### how a value is held: coercions -/
inductive Co : Rk → Rk → Prop where
  | imsh : Co .im .sh | imrd : Co .im .rd | lssh : Co .ls .sh | lsrd : Co .ls .rd | bord : Co .bo .rd | shrd : Co .sh .rd | frsh : Co .fr .sh | frrd : Co .fr .rd
  | refl {k : Rk} : Co k k
theorem Co.ro {k k' : Rk} (c : Co k k') {Hs F H : Hp} {d : D} {v : V} (s : Same F H) (s0 : Same g.H0 H) (h : RO g Hs F H k d v) : RO g Hs F H k' d v := by
  cases c with
  | imsh => exact Shl.of s h
  | imrd => exact RO.rep s s0 h
  | lssh => exact Shl.mono (Same.refl _) s0 h
  | lsrd => exact RO.rep s s0 h
  | bord => exact RO.rep s s0 h
  | shrd => exact RO.rep s s0 h
  | frsh =>
    obtain ⟨m, a, o, e, h1, h2, h3, h4⟩ := h
    exact .inl ⟨D.mu_cell m, a, o, e, h3, h4⟩
  | frrd => exact RO.rep s s0 h
  | refl => exact h
theorem ve_co {e : Expr} {k k' : Rk} {f : DE} (h : PE X e (lowE g κ k f)) (c : Co k k') : PE X e (lowE g κ k' f) := by
  refine h.weak fun σ H Q ⟨F, O, δ, N, p⟩ => ⟨F, O, δ, N, ?_⟩
  cases q : f δ with
  | ok d =>
    rw [q] at p
    exact fun v F' H' x s r => p v F' H' x s (c.ro s (N.e.h.trans x.h) r)
  | exc c ns ds => rw [q] at p; exact p
  | bad => rw [q] at p; exact p
/-- a new cell is laid in the frozen part -/
theorem ve_fz {e : Expr} {f : DE} (h : PE X e (lowE g κ .fr f)) : PE X e (lowE g κ .im f) := by
  refine h.weak fun σ H Q ⟨F, O, δ, N, p⟩ => ⟨F, O, δ, N, ?_⟩
  cases q : f δ with
  | ok d =>
    rw [q] at p
    intro v F' H' x s r
    obtain ⟨m, a, o, e, h1, h2, h3, h4⟩ := r
    subst e
    exact p _ (upd F' a o) H' (x.lay h3 h2 h1) (Same.lay s h3) ((h4.mono (same_upd h2)).rep upd_same)
  | exc c ns ds => rw [q] at p; exact p
  | bad => rw [q] at p; exact p
/-- a number, a text .. is held by itself -/
theorem ve_sc {e : Expr} {f : DE} {k : Rk} (hk : k ≠ .fr) (h : PE X e (lowE g κ k f)) : PE X e (lowE g κ .im fun δ => (f δ).bind scD) := by
  refine h.weak fun σ H Q ⟨F, O, δ, N, p⟩ => ⟨F, O, δ, N, ?_⟩
  refine Post.seq p fun d v F' H' x s r q => ?_
  unfold scD at q
  cases hs : d.sc with
  | true =>
    rw [hs, if_pos rfl] at q
    exact q v F' H' (Ext.refl _ _) s ((r.rep s (N.e.h.trans x.h)).scal hs)
  | false => rw [hs, if_neg Bool.false_ne_true] at q; exact q.elim

/-! ### operators -/
/-- f: what the operator does on data. The rule asks its own reading of the two values -/
theorem ve_op2 {e a b : Expr} {r : R2} {f : D → D → Res D} {fa fb : DE} {ka kb k : Rk} (hpe : PE X a (lowE g κ ka fa) → PE X b (lowE g κ kb fb) → PE X e (tOp r (lowE g κ ka fa) (lowE g κ kb fb)))
    (rule : ∀ (Hs Hs' F H : Hp) (x y : D) (u v : V) (Q : VK), Same F H → Same g.H0 H → RO g Hs F H ka x u → RO g Hs' F H kb y v → Post g k F H (f x y) Q → r u v H Q)
    (ha : PE X a (lowE g κ ka fa)) (hb : PE X b (lowE g κ kb fb)) : PE X e (lowE g κ k fun δ => (fa δ).bind fun x => (fb δ).bind fun y => f x y) := by
  refine (hpe ha hb).weak fun σ H Q ⟨F, O, δ, N, p⟩ => ?_
  refine ⟨F, O, δ, N, Post.seq p fun x u F1 H1 e1 s1 r1 p1 => ?_⟩
  have N1 := N.ext e1 s1
  refine ⟨F1, O, δ, N1, Post.seq p1 fun y v F2 H2 e2 s2 r2 p2 => ?_⟩
  exact rule _ _ F2 H2 x y u v Q s2 (N1.e.h.trans e2.h) (r1.ext e2) r2 p2
theorem ve_op1 {e a : Expr} {t : TE} {r : V → Hp → VK → Prop} {f : D → Res D} {fa : DE} {ka k : Rk} (hpe : PE X a (lowE g κ ka fa) → PE X e t) (ht : ∀ σ H Q, lowE g κ ka fa σ H (fun x H1 => r x H1 Q) → t σ H Q)
    (rule : ∀ (Hs F H : Hp) (x : D) (u : V) (Q : VK), Same F H → Same g.H0 H → RO g Hs F H ka x u → Post g k F H (f x) Q → r u H Q)
    (ha : PE X a (lowE g κ ka fa)) : PE X e (lowE g κ k fun δ => (fa δ).bind f) := by
  refine (hpe ha).weak fun σ H Q ⟨F, O, δ, N, p⟩ => ht _ _ _ ?_
  exact ⟨F, O, δ, N, Post.seq p fun x u F1 H1 e1 s1 r1 p1 => rule _ F1 H1 x u Q s1 (N.e.h.trans e1.h) r1 p1⟩

theorem RO.int {Hs F H : Hp} {k : Rk} {i : Int} {v : V} (s : Same F H) (s0 : Same g.H0 H) (h : RO g Hs F H k (.int i) v) : v = .int i := RO.rep (d := .int i) s s0 h
theorem RO.bl {Hs F H : Hp} {k : Rk} {i : Bool} {v : V} (s : Same F H) (s0 : Same g.H0 H) (h : RO g Hs F H k (.bl i) v) : v = .bl i := RO.rep (d := .bl i) s s0 h
theorem RO.str {Hs F H : Hp} {k : Rk} {i : Str} {v : V} (s : Same F H) (s0 : Same g.H0 H) (h : RO g Hs F H k (.str i) v) : v = .str i := RO.rep (d := .str i) s s0 h
theorem RO.non {Hs F H : Hp} {k : Rk} {v : V} (s : Same F H) (s0 : Same g.H0 H) (h : RO g Hs F H k .non v) : v = .non := RO.rep (d := .non) s s0 h

/-- two ints -/
theorem rule_I {C : Int → Int → Prop} {h : Int → Int → D} {hv : Int → Int → V} {f : D → D → Res D} {ka kb : Rk}
    (ok : ∀ x y, f x y = .bad ∨ ∃ i j, x = .int i ∧ y = .int j ∧ C i j ∧ f x y = .ok (h i j)) (hr : ∀ i j F, Rep g.w F (h i j) (hv i j)) (Hs Hs' F H : Hp) (x y : D) (u v : V) (Q : VK)
    (s : Same F H) (s0 : Same g.H0 H) (r1 : RO g Hs F H ka x u) (r2 : RO g Hs' F H kb y v) (p : Post g .im F H (f x y) Q) : rI C hv u v H Q := by
  rcases ok x y with e | ⟨i, j, rfl, rfl, c, e⟩
  · rw [e] at p; exact p.elim
  · rw [e] at p
    exact ⟨i, j, r1.int s s0, r2.int s s0, c, p _ F H (Ext.refl _ _) s (hr i j F)⟩
theorem rule_I0 {h : Int → Int → D} {hv : Int → Int → V} {f : D → D → Res D} {ka kb : Rk}
    (ok : ∀ x y, f x y = .bad ∨ ∃ i j, x = .int i ∧ y = .int j ∧ f x y = .ok (h i j)) (hr : ∀ i j F, Rep g.w F (h i j) (hv i j)) (Hs Hs' F H : Hp) (x y : D) (u v : V) (Q : VK)
    (s : Same F H) (s0 : Same g.H0 H) (r1 : RO g Hs F H ka x u) (r2 : RO g Hs' F H kb y v) (p : Post g .im F H (f x y) Q) : rI0 hv u v H Q := by
  rcases ok x y with e | ⟨i, j, rfl, rfl, e⟩
  · rw [e] at p; exact p.elim
  · rw [e] at p
    exact ⟨i, j, r1.int s s0, r2.int s s0, p _ F H (Ext.refl _ _) s (hr i j F)⟩
theorem two_ints {f : D → D → Res D} {C : Int → Int → Prop} {h : Int → Int → D} (k : ∀ i j, f (.int i) (.int j) = .bad ∨ (C i j ∧ f (.int i) (.int j) = .ok (h i j))) (n : ∀ x y, (∀ i j, ¬ (x = .int i ∧ y = .int j)) → f x y = .bad) (x y : D) :
    f x y = .bad ∨ ∃ i j, x = .int i ∧ y = .int j ∧ C i j ∧ f x y = .ok (h i j) := by
  by_cases q : ∃ i j, x = .int i ∧ y = .int j
  · obtain ⟨i, j, rfl, rfl⟩ := q
    rcases k i j with e | ⟨c, e⟩
    · exact .inl e
    · exact .inr ⟨i, j, rfl, rfl, c, e⟩
  · exact .inl (n x y fun i j z => q ⟨i, j, z⟩)
theorem two_ints0 {f : D → D → Res D} {h : Int → Int → D} (k : ∀ i j, f (.int i) (.int j) = .ok (h i j)) (n : ∀ x y, (∀ i j, ¬ (x = .int i ∧ y = .int j)) → f x y = .bad) (x y : D) :
    f x y = .bad ∨ ∃ i j, x = .int i ∧ y = .int j ∧ f x y = .ok (h i j) := by
  by_cases q : ∃ i j, x = .int i ∧ y = .int j
  · obtain ⟨i, j, rfl, rfl⟩ := q
    exact .inr ⟨i, j, rfl, rfl, k i j⟩
  · exact .inl (n x y fun i j z => q ⟨i, j, z⟩)
end
end VL
namespace VL
open PySem PySem.Spec L2
theorem addI_n : ∀ x y : D, (∀ i j, ¬ (x = .int i ∧ y = .int j)) → addI x y = .bad := by
  intro x y h
  cases x <;> cases y <;> first | rfl | exact (h _ _ ⟨rfl, rfl⟩).elim
theorem subI_n : ∀ x y : D, (∀ i j, ¬ (x = .int i ∧ y = .int j)) → subI x y = .bad := by
  intro x y h
  cases x <;> cases y <;> first | rfl | exact (h _ _ ⟨rfl, rfl⟩).elim
theorem mulI_n : ∀ x y : D, (∀ i j, ¬ (x = .int i ∧ y = .int j)) → mulI x y = .bad := by
  intro x y h
  cases x <;> cases y <;> first | rfl | exact (h _ _ ⟨rfl, rfl⟩).elim
theorem fdivI_n : ∀ x y : D, (∀ i j, ¬ (x = .int i ∧ y = .int j)) → fdivI x y = .bad := by
  intro x y h
  cases x <;> cases y <;> first | rfl | exact (h _ _ ⟨rfl, rfl⟩).elim
theorem modI_n : ∀ x y : D, (∀ i j, ¬ (x = .int i ∧ y = .int j)) → modI x y = .bad := by
  intro x y h
  cases x <;> cases y <;> first | rfl | exact (h _ _ ⟨rfl, rfl⟩).elim
theorem powI_n : ∀ x y : D, (∀ i j, ¬ (x = .int i ∧ y = .int j)) → powI x y = .bad := by
  intro x y h
  cases x <;> cases y <;> first | rfl | exact (h _ _ ⟨rfl, rfl⟩).elim
theorem shlI_n : ∀ x y : D, (∀ i j, ¬ (x = .int i ∧ y = .int j)) → shlI x y = .bad := by
  intro x y h
  cases x <;> cases y <;> first | rfl | exact (h _ _ ⟨rfl, rfl⟩).elim
theorem shrI_n : ∀ x y : D, (∀ i j, ¬ (x = .int i ∧ y = .int j)) → shrI x y = .bad := by
  intro x y h
  cases x <;> cases y <;> first | rfl | exact (h _ _ ⟨rfl, rfl⟩).elim
theorem andI_n : ∀ x y : D, (∀ i j, ¬ (x = .int i ∧ y = .int j)) → andI x y = .bad := by
  intro x y h
  cases x <;> cases y <;> first | rfl | exact (h _ _ ⟨rfl, rfl⟩).elim
theorem orI_n : ∀ x y : D, (∀ i j, ¬ (x = .int i ∧ y = .int j)) → orI x y = .bad := by
  intro x y h
  cases x <;> cases y <;> first | rfl | exact (h _ _ ⟨rfl, rfl⟩).elim
theorem cmpI_n (p : Int → Int → Bool) : ∀ x y : D, (∀ i j, ¬ (x = .int i ∧ y = .int j)) → cmpI p x y = .bad := by
  intro x y h
  cases x <;> cases y <;> first | rfl | exact (h _ _ ⟨rfl, rfl⟩).elim
theorem ite_or {α : Type} {c : Prop} [Decidable c] {C : Prop} {a : Res α} {b : α} (h : c → C) : (if c then .ok b else .bad : Res α) = .bad ∨ (C ∧ (if c then .ok b else .bad : Res α) = .ok b) := by
  by_cases q : c
  · exact .inr ⟨h q, if_pos q⟩
  · exact .inl (if_neg q)

section
variable {X : Cx} {g : G} {κ : List Kd} {a b : Expr} {fa fb : DE} {ka kb : Rk} {pos : Pos}
abbrev v2 (f : D → D → Res D) (fa fb : DE) : DE := fun δ => (fa δ).bind fun x => (fb δ).bind fun y => f x y
abbrev v1 (f : D → Res D) (fa : DE) : DE := fun δ => (fa δ).bind f
theorem ve_add (ha : PE X a (lowE g κ ka fa)) (hb : PE X b (lowE g κ kb fb)) : PE X (.BinOp a .Add b pos) (lowE g κ .im (v2 addI fa fb)) :=
  ve_op2 (pe_op op_add) (rule_I0 (two_ints0 (fun _ _ => rfl) addI_n) (fun _ _ _ => rfl)) ha hb
theorem ve_sub (ha : PE X a (lowE g κ ka fa)) (hb : PE X b (lowE g κ kb fb)) : PE X (.BinOp a .Sub b pos) (lowE g κ .im (v2 subI fa fb)) :=
  ve_op2 (pe_op op_sub) (rule_I0 (two_ints0 (fun _ _ => rfl) subI_n) (fun _ _ _ => rfl)) ha hb
theorem op_mulA : OpR X (binaryOp .Mult) (rI (fun i j => mulOk i j = true) fun i j => .int (i * j)) := opI fun i j _ _ _ _ _ hc q => by
  have h := of_decide_eq_true hc
  refine PyProof.Rows.mul_int q ?_
  rcases h with h | h | h
  · exact CMul.ok (.inl ⟨by omega, by omega⟩)
  · exact CMul.ok (.inr ⟨by omega, by omega⟩)
  · exact CMulW.ok h
theorem ve_mul (ha : PE X a (lowE g κ ka fa)) (hb : PE X b (lowE g κ kb fb)) : PE X (.BinOp a .Mult b pos) (lowE g κ .im (v2 mulI fa fb)) :=
  ve_op2 (pe_op op_mulA) (rule_I (two_ints (h := fun i j => .int (i * j)) (fun i j => ite_or (a := Res.bad) fun h => h) mulI_n) (fun _ _ _ => rfl)) ha hb
theorem ve_fdiv (ha : PE X a (lowE g κ ka fa)) (hb : PE X b (lowE g κ kb fb)) : PE X (.BinOp a .FloorDiv b pos) (lowE g κ .im (v2 fdivI fa fb)) :=
  ve_op2 (pe_op op_fdivW) (rule_I (two_ints (h := fun i j => .int (i / j)) (fun i j => ite_or (a := Res.bad) fun h => h) fdivI_n) (fun _ _ _ => rfl)) ha hb
theorem ve_mod (ha : PE X a (lowE g κ ka fa)) (hb : PE X b (lowE g κ kb fb)) : PE X (.BinOp a .Mod b pos) (lowE g κ .im (v2 modI fa fb)) :=
  ve_op2 (pe_op op_mod) (rule_I (two_ints (h := fun i j => .int (i % j)) (fun i j => ite_or (a := Res.bad) fun h => h) modI_n) (fun _ _ _ => rfl)) ha hb
theorem ve_pow (ha : PE X a (lowE g κ ka fa)) (hb : PE X b (lowE g κ kb fb)) : PE X (.BinOp a .Pow b pos) (lowE g κ .im (v2 powI fa fb)) :=
  ve_op2 (pe_op op_pow) (rule_I (two_ints (h := fun i j => .int (i ^ j.toNat)) (fun i j => ite_or (a := Res.bad) fun h => h) powI_n) (fun _ _ _ => rfl)) ha hb
theorem ve_shl (ha : PE X a (lowE g κ ka fa)) (hb : PE X b (lowE g κ kb fb)) : PE X (.BinOp a .LShift b pos) (lowE g κ .im (v2 shlI fa fb)) :=
  ve_op2 (pe_op op_shl) (rule_I (two_ints (h := fun i j => .int (i * 2 ^ j.toNat)) (fun i j => ite_or (a := Res.bad) fun h => h) shlI_n) (fun _ _ _ => rfl)) ha hb
theorem ve_shr (ha : PE X a (lowE g κ ka fa)) (hb : PE X b (lowE g κ kb fb)) : PE X (.BinOp a .RShift b pos) (lowE g κ .im (v2 shrI fa fb)) :=
  ve_op2 (pe_op op_shr) (rule_I (two_ints (h := fun i j => .int (i / 2 ^ j.toNat)) (fun i j => ite_or (a := Res.bad) fun h => h) shrI_n) (fun _ _ _ => rfl)) ha hb
theorem ve_and_ (ha : PE X a (lowE g κ ka fa)) (hb : PE X b (lowE g κ kb fb)) : PE X (.BinOp a .BitAnd b pos) (lowE g κ .im (v2 andI fa fb)) :=
  ve_op2 (pe_op op_and) (rule_I0 (two_ints0 (fun _ _ => rfl) andI_n) (fun _ _ _ => rfl)) ha hb
theorem ve_or_ (ha : PE X a (lowE g κ ka fa)) (hb : PE X b (lowE g κ kb fb)) : PE X (.BinOp a .BitOr b pos) (lowE g κ .im (v2 orI fa fb)) :=
  ve_op2 (pe_op op_or) (rule_I0 (two_ints0 (fun _ _ => rfl) orI_n) (fun _ _ _ => rfl)) ha hb
theorem ve_neg (ha : PE X a (lowE g κ ka fa)) : PE X (.UnaryOp .USub a pos) (lowE g κ .im (v1 negI fa)) :=
  ve_op1 (r := rU fun i => .int (-i)) (pe_un un_neg) (fun _ _ _ h => h) (fun Hs F H x u Q s s0 r p => by
    cases x with
    | int i => exact ⟨i, r.int s s0, p _ F H (Ext.refl _ _) s rfl⟩
    | _ => exact p.elim) ha
theorem ve_inv (ha : PE X a (lowE g κ ka fa)) : PE X (.UnaryOp .Invert a pos) (lowE g κ .im (v1 invI fa)) :=
  ve_op1 (r := rU fun i => .int (Builtin.bitNot i)) (pe_un un_inv) (fun _ _ _ h => h) (fun Hs F H x u Q s s0 r p => by
    cases x with
    | int i => exact ⟨i, r.int s s0, p _ F H (Ext.refl _ _) s rfl⟩
    | _ => exact p.elim) ha

/-! comparisons: by a rule on two values -/
/-- CmpR: the operator op does f on data held as ka, kb -/
structure CmpR (X : Cx) (g : G) (op : CmpOp) (ka kb : Rk) (f : D → D → Res D) where
  r : R2
  or : OpR X (compareOp op) r
  rule : ∀ (Hs Hs' F H : Hp) (x y : D) (u v : V) (Q : VK), Same F H → Same g.H0 H → RO g Hs F H ka x u → RO g Hs' F H kb y v → Post g .im F H (f x y) Q → r u v H Q
def c_lt : CmpR X g .Lt ka kb ltI := ⟨_, op_lt, rule_I0 (two_ints0 (fun _ _ => rfl) (cmpI_n _)) (fun _ _ _ => rfl)⟩
def c_le : CmpR X g .LtE ka kb leI := ⟨_, op_le, rule_I0 (two_ints0 (fun _ _ => rfl) (cmpI_n _)) (fun _ _ _ => rfl)⟩
def c_gt : CmpR X g .Gt ka kb gtI := ⟨_, op_gt, rule_I0 (two_ints0 (fun _ _ => rfl) (cmpI_n _)) (fun _ _ _ => rfl)⟩
def c_ge : CmpR X g .GtE ka kb geI := ⟨_, op_ge, rule_I0 (two_ints0 (fun _ _ => rfl) (cmpI_n _)) (fun _ _ _ => rfl)⟩
def c_eq (hK : X.K = g.w.K) {n : Nat} (hr : Room n X.A) : CmpR X g .Eq ka kb eqD := ⟨_, op_eqD hr.units, fun Hs Hs' F H x y u v Q s s0 r1 r2 p => by
  unfold eqD at p
  by_cases c : (okD eqDepth x && okD eqDepth y) = true
  · rw [if_pos c] at p
    rw [Bool.and_eq_true] at c
    rw [hK]
    exact ⟨_, _, Rep.dp _ _ _ c.1 (r1.rep s s0), Rep.dp _ _ _ c.2 (r2.rep s s0), okD_shaped (by decide) c.1, okD_shaped (by decide) c.2, p _ F H (Ext.refl _ _) s rfl⟩
  · rw [if_neg c] at p; exact p.elim⟩
def c_ne (hK : X.K = g.w.K) {n : Nat} (hr : Room n X.A) : CmpR X g .NotEq ka kb neD := ⟨_, op_neD hr.units, fun Hs Hs' F H x y u v Q s s0 r1 r2 p => by
  unfold neD at p
  by_cases c : (okD eqDepth x && okD eqDepth y) = true
  · rw [if_pos c] at p
    rw [Bool.and_eq_true] at c
    rw [hK]
    exact ⟨_, _, Rep.dp _ _ _ c.1 (r1.rep s s0), Rep.dp _ _ _ c.2 (r2.rep s s0), okD_shaped (by decide) c.1, okD_shaped (by decide) c.2, p _ F H (Ext.refl _ _) s rfl⟩
  · rw [if_neg c] at p; exact p.elim⟩
theorem any_pys (x : D) (ds : List D) : (pys ds).any (fun z => PyData.eqv z x.py) = D.anyEq x ds := by
  rw [pys_map, List.any_map]
  rfl
theorem lst_dp {H : Hp} {ds : List D} {v : V} {w : Wd} (h : oksD eqDepth ds = true) (r : Rep w H (.lst ds) v) : Dp w.K H v (.list (pys ds)) ∧ SeqAt.shaped (.list (pys ds)) = true := by
  have h' : okD (eqDepth + 1) (.lst ds) = true := by rw [okD]; exact h
  have e : D.py (.lst ds) = .list (pys ds) := by rw [D.py]
  rw [← e]
  exact ⟨Rep.dp _ _ _ h' r, okD_shaped (by decide) h'⟩
def c_in (hK : X.K = g.w.K) {n : Nat} (hr : Room n X.A) : CmpR X g .In ka kb inD := ⟨_, op_inD (by have := hr.un; omega), fun Hs Hs' F H x y u v Q s s0 r1 r2 p => by
  cases y with
  | lst ds =>
    unfold inD at p
    by_cases c : (okD eqDepth x && oksD eqDepth ds) = true
    · simp only [c, if_true] at p
      rw [Bool.and_eq_true] at c
      obtain ⟨q1, q2⟩ := lst_dp c.2 (r2.rep s s0)
      rw [hK]
      refine ⟨_, _, Rep.dp _ _ _ c.1 (r1.rep s s0), q1, okD_shaped (by decide) c.1, q2, ?_⟩
      rw [any_pys]
      exact p _ F H (Ext.refl _ _) s rfl
    · simp only [c, if_false] at p; exact p.elim
  | _ => exact p.elim⟩
def c_notIn (hK : X.K = g.w.K) {n : Nat} (hr : Room n X.A) : CmpR X g .NotIn ka kb notInD := ⟨_, op_notInD (by have := hr.un; omega), fun Hs Hs' F H x y u v Q s s0 r1 r2 p => by
  cases y with
  | lst ds =>
    unfold notInD at p
    by_cases c : (okD eqDepth x && oksD eqDepth ds) = true
    · simp only [c, if_true] at p
      rw [Bool.and_eq_true] at c
      obtain ⟨q1, q2⟩ := lst_dp c.2 (r2.rep s s0)
      rw [hK]
      refine ⟨_, _, Rep.dp _ _ _ c.1 (r1.rep s s0), q1, okD_shaped (by decide) c.1, q2, ?_⟩
      rw [any_pys]
      exact p _ F H (Ext.refl _ _) s rfl
    · simp only [c, if_false] at p; exact p.elim
  | _ => exact p.elim⟩
theorem flat_rep {w : Wd} {H : Hp} {d : D} {v : V} (h : flatD d = true) (r : Rep w H d v) : flatV v = true := by
  cases d with
  | non => cases (show v = .non from r); rfl
  | bl b => cases (show v = .bl b from r); rfl
  | int b => cases (show v = .int b from r); rfl
  | str b => cases (show v = .str b from r); rfl
  | _ => cases h
theorem flats_rep {w : Wd} {H : Hp} : ∀ {ds : List D} {vs : List V}, ds.all flatD = true → Reps w H ds vs → vs.all flatV = true
  | [], _, _, r => by cases (show _ = [] from r); rfl
  | d :: ds, _, h, r => by
    obtain ⟨v, r', rfl, h1, h2⟩ := r
    rw [List.all_cons, Bool.and_eq_true] at h
    rw [List.all_cons, flat_rep h.1 h1, flats_rep h.2 h2]
    rfl
theorem eqV_rep {w w' : Wd} {H H' : Hp} {d e : D} {v u : V} (hd : flatD d = true) (he : flatD e = true) (r : Rep w H d v) (q : Rep w' H' e u) : eqV v u = d.eqb e := by
  cases d <;> first | (cases hd; done) | skip
  all_goals (cases e <;> first | (cases he; done) | skip)
  all_goals (cases r; cases q; simp [eqV, D.eqb, D.py, PyData.eqv])
theorem inV_rep {w w' : Wd} {H H' : Hp} {x : D} {u : V} (hx : flatD x = true) (rx : Rep w H x u) : ∀ {ds : List D} {vs : List V}, ds.all flatD = true → Reps w' H' ds vs → inV u vs = D.anyEq x ds
  | [], _, _, r => by cases (show _ = [] from r); rfl
  | d :: ds, _, h, r => by
    obtain ⟨v, r', rfl, h1, h2⟩ := r
    rw [List.all_cons, Bool.and_eq_true] at h
    show (eqV v u || inV u r') = (d.eqb x || D.anyEq x ds)
    rw [eqV_rep h.1 hx h1 rx, inV_rep hx rx h.2 h2]
theorem inF_rule (neg : Bool) (Hs Hs' F H : Hp) (x y : D) (u v : V) (Q : VK) (s : Same F H) (s0 : Same g.H0 H) (r1 : RO g Hs F H ka x u) (r2 : RO g Hs' F H kb y v) (p : Post g .im F H (inF neg x y) Q) : rIn g.w.K neg u v H Q := by
  have key : ∀ (ds : List D) (vs : List V) (a : Addr), v = .ref a → Reps g.w H ds vs → (SqL g.w.K H a vs ∨ SqT g.w.K H a vs) → Post g .im F H (if flatD x && ds.all flatD then .ok (.bl (if neg then !D.anyEq x ds else D.anyEq x ds)) else .bad) Q → rIn g.w.K neg u v H Q := by
    intro ds vs a e h1 h2 p
    by_cases c : (flatD x && ds.all flatD) = true
    · rw [if_pos c] at p
      rw [Bool.and_eq_true] at c
      refine ⟨a, vs, e, h2, flat_rep c.1 (r1.rep s s0), flats_rep c.2 h1, ?_⟩
      rw [inV_rep c.1 (r1.rep s s0) c.2 h1]
      exact p _ F H (Ext.refl _ _) s rfl
    · rw [if_neg c] at p; exact p.elim
  cases y with
  | lst ds =>
    obtain ⟨a, vs, e, h1, h2⟩ := (show Rep g.w H (.lst ds) v from r2.rep s s0)
    exact key ds vs a e h2 (.inl (SqL.of h1)) p
  | tup ds =>
    obtain ⟨a, vs, e, h1, h2⟩ := (show Rep g.w H (.tup ds) v from r2.rep s s0)
    exact key ds vs a e h2 (.inr (SqT.of h1)) p
  | _ => exact p.elim
def c_inF (hK : X.K = g.w.K) : CmpR X g .In ka kb (inF false) := ⟨_, op_in_seq, fun Hs Hs' F H x y u v Q s s0 r1 r2 p => by rw [hK]; exact inF_rule false Hs Hs' F H x y u v Q s s0 r1 r2 p⟩
def c_notInF (hK : X.K = g.w.K) : CmpR X g .NotIn ka kb (inF true) := ⟨_, op_notIn_seq, fun Hs Hs' F H x y u v Q s s0 r1 r2 p => by rw [hK]; exact inF_rule true Hs Hs' F H x y u v Q s s0 r1 r2 p⟩
def c_isB : CmpR X g .Is ka kb isB := ⟨_, op_isBl, fun Hs Hs' F H x y u v Q s s0 r1 r2 p => by
  cases x <;> cases y <;> first | exact p.elim | exact ⟨_, _, r1.bl s s0, r2.bl s s0, p _ F H (Ext.refl _ _) s rfl⟩⟩
def c_isNotB : CmpR X g .IsNot ka kb isNotB := ⟨_, op_notBl, fun Hs Hs' F H x y u v Q s s0 r1 r2 p => by
  cases x <;> cases y <;> first | exact p.elim | exact ⟨_, _, r1.bl s s0, r2.bl s s0, p _ F H (Ext.refl _ _) s rfl⟩⟩
theorem rep_non {w : Wd} {H : Hp} {d : D} {v : V} (r : Rep w H d v) : decide (v = .non) = isNon d := by
  cases d with
  | non => cases (show v = .non from r); rfl
  | bl b => cases (show v = .bl b from r); rfl
  | int b => cases (show v = .int b from r); rfl
  | str b => cases (show v = .str b from r); rfl
  | lst ds => obtain ⟨a, vs, rfl, _⟩ := r; rfl
  | tup ds => obtain ⟨a, vs, rfl, _⟩ := r; rfl
  | ins c ns ds => obtain ⟨a, dx, vs, rfl, _⟩ := r; rfl
  | dct ks ds => obtain ⟨a, vs, rfl, _⟩ := r; rfl
  | scr ns => obtain ⟨a, rfl, _⟩ := r; rfl
  | exc c ns ds => obtain ⟨a, dopt, rfl, _⟩ := r; rfl
def isN (x y : D) : Res D := if isNon y then .ok (.bl (isNon x)) else .bad
def notN (x y : D) : Res D := if isNon y then .ok (.bl (!isNon x)) else .bad
def c_isN : CmpR X g .Is ka kb isN := ⟨_, op_isN, fun Hs Hs' F H x y u v Q s s0 r1 r2 p => by
  cases y <;> first | exact p.elim | exact ⟨r2.non s s0, by rw [rep_non (r1.rep s s0)]; exact p _ F H (Ext.refl _ _) s rfl⟩⟩
def c_notN : CmpR X g .IsNot ka kb notN := ⟨_, op_notN, fun Hs Hs' F H x y u v Q s s0 r1 r2 p => by
  cases y <;> first | exact p.elim | exact ⟨r2.non s s0, by rw [rep_non (r1.rep s s0)]; exact p _ F H (Ext.refl _ _) s rfl⟩⟩
theorem ve_cmp {op : CmpOp} {f : D → D → Res D} (c : CmpR X g op ka kb f) (ha : PE X a (lowE g κ ka fa)) (hb : PE X b (lowE g κ kb fb)) (hm : behindInMarks op b = false := by first | exact nomark _ | rfl) :
    PE X (.Compare a [op] [b] pos) (lowE g κ .im (v2 f fa fb)) := ve_op2 (fun ha hb => pe_cmpR c.or ha hb hm) c.rule ha hb
abbrev v3 (f f' : D → D → Res D) (fa fb fc : DE) : DE := fun δ => (fa δ).bind fun x => (fb δ).bind fun y => (f x y).bind fun z => (asB z).bind fun k => if k then (fc δ).bind fun w => f' y w else .ok (.bl false)
theorem ve_chain {op op' : CmpOp} {f f' : D → D → Res D} {c : Expr} {fc : DE} {kc : Rk} (r : CmpR X g op ka kb f) (r' : CmpR X g op' kb kc f') (ha : PE X a (lowE g κ ka fa)) (hb : PE X b (lowE g κ kb fb)) (hc : PE X c (lowE g κ kc fc))
    (hm : lastMarks [op, op'] [b, c] = false := by with_unfolding_all rfl) : PE X (.Compare a [op, op'] [b, c] pos) (lowE g κ .im (v3 f f' fa fb fc)) := by
  refine (pe_chain r.or r'.or ha hb hc hm).weak fun σ H Q ⟨F, O, δ, N, p⟩ => ?_
  refine ⟨F, O, δ, N, Post.seq p fun x u F1 H1 e1 s1 r1 p1 => ?_⟩
  have N1 := N.ext e1 s1
  refine ⟨F1, O, δ, N1, Post.seq p1 fun y v F2 H2 e2 s2 r2 p2 => ?_⟩
  have N2 := N1.ext e2 s2
  refine r.rule _ _ F2 H2 x y u v _ s2 N2.e.h (r1.ext e2) r2 (Post.seq (k1 := .im) p2 fun z zv F3 H3 e3 s3 r3 p3 => ?_)
  cases z with
  | bl k =>
    refine ⟨k, r3, ?_⟩
    cases k with
    | true =>
      rw [if_pos rfl]
      have N3 := N2.ext e3 s3
      refine ⟨F3, O, δ, N3, Post.seq p3 fun w wv F4 H4 e4 s4 r4 p4 => ?_⟩
      exact r'.rule _ _ F4 H4 y w v wv Q s4 (N3.e.h.trans e4.h) ((r2.ext e3).ext e4) r4 p4
    | false =>
      rw [if_neg Bool.false_ne_true]
      exact p3 _ F3 H3 (Ext.refl _ _) s3 rfl
  | _ => exact p3.elim
end
end VL

namespace VL
open PySem PySem.Spec L2
section
variable {X : Cx} {g : G} {κ : List Kd} {a b c : Expr} {fa fb fc : DE} {ka kb kc k : Rk} {pos : Pos}

/-! ### new cells -/
theorem Post.fresh {F H : Hp} {d : D} {o : HO} {Q : VK} (p : Post g .fr F H (.ok d) Q) (s : Same F H) (m : d.mu = true) (h : Cell g.w F d o) (q : Addr) (hq : H q = none) : Q (.ref q) (upd H q o) :=
  p _ F _ (Ext.new hq) (Same.newH s hq) ⟨m, q, o, rfl, hq, s.free hq, upd_same, h⟩
theorem Post.laid {F H : Hp} {d : D} {o : HO} {Q : VK} (p : Post g .im F H (.ok d) Q) (s : Same F H) (h : Cell g.w F d o) (q : Addr) (hq : H q = none) : Q (.ref q) (upd H q o) :=
  p _ _ _ (Ext.newB s hq) (Same.newB s) ((h.mono (same_upd (s.free hq))).rep upd_same)
/-- the value as it stands -/
theorem Post.here {F H : Hp} {d : D} {Q : VK} {v : V} (p : Post g .im F H (.ok d) Q) (s : Same F H) (h : Rep g.w F d v) : Q v H := p v F H (Ext.refl _ _) s h

/-! ### tests, and, or, not -/
theorem lowT_val {f : DE} {σ : L2.St} {H : Hp} {Q : Bool → Hp → Prop} (h : lowT g κ (fun δ => (f δ).bind asB) σ H Q) : lowE g κ .im f σ H (fun x H' => ∃ k, x = .bl k ∧ Q k H') := by
  obtain ⟨F, O, δ, N, p⟩ := h
  refine ⟨F, O, δ, N, PostT.seq p fun d v F' H' x s r q => ?_⟩
  cases d with
  | bl b => exact ⟨b, r, q F' H' (Ext.refl _ _) s⟩
  | _ => exact q.elim
abbrev vT (f : DE) : DT := fun δ => (f δ).bind asB
theorem vt_val {e : Expr} {f : DE} (h : PE X e (lowE g κ .im f)) (he : ∀ whole, isTrue e X.env whole = (do let v ← whole; standAt e.pos; holding [v] (truthy v)) := by intro _; rfl) : PT X e (lowT g κ (vT f)) :=
  (pt_val h he).weak fun σ H Q q => lowT_val q
theorem low_op2 {r : R2} {f : D → D → Res D} (rule : ∀ (Hs Hs' F H : Hp) (x y : D) (u v : V) (Q : VK), Same F H → Same g.H0 H → RO g Hs F H ka x u → RO g Hs' F H kb y v → Post g k F H (f x y) Q → r u v H Q)
    {σ : L2.St} {H : Hp} {Q : VK} (h : lowE g κ k (v2 f fa fb) σ H Q) : tOp r (lowE g κ ka fa) (lowE g κ kb fb) σ H Q := by
  obtain ⟨F, O, δ, N, p⟩ := h
  refine ⟨F, O, δ, N, Post.seq p fun x u F1 H1 e1 s1 r1 p1 => ?_⟩
  have N1 := N.ext e1 s1
  refine ⟨F1, O, δ, N1, Post.seq p1 fun y v F2 H2 e2 s2 r2 p2 => ?_⟩
  exact rule _ _ F2 H2 x y u v Q s2 (N1.e.h.trans e2.h) (r1.ext e2) r2 p2
theorem vt_cmp {op : CmpOp} {f : D → D → Res D} (c : CmpR X g op ka kb f) (ha : PE X a (lowE g κ ka fa)) (hb : PE X b (lowE g κ kb fb)) (hm : behindInMarks op b = false := by first | exact nomark _ | rfl) :
    PT X (.Compare a [op] [b] pos) (lowT g κ (vT (v2 f fa fb))) := (pt_cmpR c.or ha hb hm).weak fun σ H Q q => low_op2 c.rule (lowT_val q)
theorem low_chain {op op' : CmpOp} {f f' : D → D → Res D} (r : CmpR X g op ka kb f) (r' : CmpR X g op' kb kc f') {σ : L2.St} {H : Hp} {Q : VK} (h : lowE g κ .im (v3 f f' fa fb fc) σ H Q) :
    tChain r.r r'.r (lowE g κ ka fa) (lowE g κ kb fb) (lowE g κ kc fc) σ H Q := by
  obtain ⟨F, O, δ, N, p⟩ := h
  refine ⟨F, O, δ, N, Post.seq p fun x u F1 H1 e1 s1 r1 p1 => ?_⟩
  have N1 := N.ext e1 s1
  refine ⟨F1, O, δ, N1, Post.seq p1 fun y v F2 H2 e2 s2 r2 p2 => ?_⟩
  have N2 := N1.ext e2 s2
  refine r.rule _ _ F2 H2 x y u v _ s2 N2.e.h (r1.ext e2) r2 (Post.seq (k1 := .im) p2 fun z zv F3 H3 e3 s3 r3 p3 => ?_)
  cases z with
  | bl k =>
    refine ⟨k, r3, ?_⟩
    cases k with
    | true =>
      rw [if_pos rfl]
      have N3 := N2.ext e3 s3
      refine ⟨F3, O, δ, N3, Post.seq p3 fun w wv F4 H4 e4 s4 r4 p4 => ?_⟩
      exact r'.rule _ _ F4 H4 y w v wv Q s4 (N3.e.h.trans e4.h) ((r2.ext e3).ext e4) r4 p4
    | false =>
      rw [if_neg Bool.false_ne_true]
      exact p3 _ F3 H3 (Ext.refl _ _) s3 rfl
  | _ => exact p3.elim
theorem vt_chain {op op' : CmpOp} {f f' : D → D → Res D} (r : CmpR X g op ka kb f) (r' : CmpR X g op' kb kc f') (ha : PE X a (lowE g κ ka fa)) (hb : PE X b (lowE g κ kb fb)) (hc : PE X c (lowE g κ kc fc))
    (hm : lastMarks [op, op'] [b, c] = false := by with_unfolding_all rfl) : PT X (.Compare a [op, op'] [b, c] pos) (lowT g κ (vT (v3 f f' fa fb fc))) :=
  (pt_chain r.or r'.or ha hb hc hm).weak fun σ H Q q => low_chain r r' (lowT_val q)

def tAndD (ta tb : DT) : DT := fun δ => (ta δ).bind fun b => if b then tb δ else .ok false
def tOrD (ta tb : DT) : DT := fun δ => (ta δ).bind fun b => if b then .ok true else tb δ
def tNotD (ta : DT) : DT := fun δ => (ta δ).bind fun b => .ok (!b)
variable {ta tb : DT} {rest : List Expr}
theorem vw_and1 (ha : PT X a (lowT g κ ta)) : PW X (.BoolOp .And [a] pos) (lowT g κ ta) := pw_and1 ha
theorem vw_or1 (ha : PT X a (lowT g κ ta)) : PW X (.BoolOp .Or [a] pos) (lowT g κ ta) := pw_or1 ha
theorem _root_.L2.PW.weak {X : Cx} {e : Expr} {t t' : TT} (h : PW X e t) (i : ∀ σ H Q, t' σ H Q → t σ H Q) : PW X e t' := ⟨fun whole pins s σ H Q I q => h.run whole pins s σ H Q I (i _ _ _ q)⟩
theorem vw_and (ha : PT X a (lowT g κ ta)) (hb : PW X (.BoolOp .And (b :: rest) pos) (lowT g κ tb)) : PW X (.BoolOp .And (a :: b :: rest) pos) (lowT g κ (tAndD ta tb)) := by
  refine (pw_and ha hb).weak fun σ H Q ⟨F, O, δ, N, p⟩ => ?_
  refine ⟨F, O, δ, N, PostT.seqT p fun b F1 H1 x s q => ?_⟩
  cases b with
  | true => rw [if_pos rfl]; exact ⟨F1, O, δ, N.ext x s, q⟩
  | false => rw [if_neg Bool.false_ne_true]; exact q F1 H1 (Ext.refl _ _) s
theorem vw_or (ha : PT X a (lowT g κ ta)) (hb : PW X (.BoolOp .Or (b :: rest) pos) (lowT g κ tb)) : PW X (.BoolOp .Or (a :: b :: rest) pos) (lowT g κ (tOrD ta tb)) := by
  refine (pw_or ha hb).weak fun σ H Q ⟨F, O, δ, N, p⟩ => ?_
  refine ⟨F, O, δ, N, PostT.seqT p fun b F1 H1 x s q => ?_⟩
  cases b with
  | false => rw [if_neg Bool.false_ne_true]; exact ⟨F1, O, δ, N.ext x s, q⟩
  | true => rw [if_pos rfl]; exact q F1 H1 (Ext.refl _ _) s
theorem vt_bool {e : Expr} {t : DT} (h : PW X e (lowT g κ t)) : PT X e (lowT g κ t) := h.pt
theorem vt_not (ha : PT X a (lowT g κ ta)) : PT X (.UnaryOp .Not a pos) (lowT g κ (tNotD ta)) := by
  refine (pt_not ha).weak fun σ H Q ⟨F, O, δ, N, p⟩ => ?_
  exact ⟨F, O, δ, N, PostT.seqT p fun b F1 H1 x s q => q F1 H1 (Ext.refl _ _) s⟩
/-- as values -/
def vAnd (fa fb : DE) : DE := fun δ => (fa δ).bind fun x => (asB x).bind fun b => if b then fb δ else .ok (.bl false)
def vOr (fa fb : DE) : DE := fun δ => (fa δ).bind fun x => (asB x).bind fun b => if b then .ok (.bl true) else fb δ
theorem ve_one {op : BoolOp} {f : DE} (h : PE X a (lowE g κ k f)) : PE X (.BoolOp op [a] pos) (lowE g κ k f) := pe_one h
theorem ve_and (ha : PE X a (lowE g κ ka fa)) (hb : PE X (.BoolOp .And (b :: rest) pos) (lowE g κ .im fb)) : PE X (.BoolOp .And (a :: b :: rest) pos) (lowE g κ .im (vAnd fa fb)) := by
  refine (pe_and ha hb).weak fun σ H Q ⟨F, O, δ, N, p⟩ => ?_
  refine ⟨F, O, δ, N, Post.seq p fun d v F1 H1 x s r q => ?_⟩
  cases d with
  | bl b =>
    refine ⟨b, RO.bl s (N.e.h.trans x.h) r, ?_⟩
    cases b with
    | true => rw [if_pos rfl]; exact ⟨F1, O, δ, N.ext x s, q⟩
    | false => rw [if_neg Bool.false_ne_true]; exact q _ F1 H1 (Ext.refl _ _) s rfl
  | _ => exact q.elim
theorem ve_or (ha : PE X a (lowE g κ ka fa)) (hb : PE X (.BoolOp .Or (b :: rest) pos) (lowE g κ .im fb)) : PE X (.BoolOp .Or (a :: b :: rest) pos) (lowE g κ .im (vOr fa fb)) := by
  refine (pe_or ha hb).weak fun σ H Q ⟨F, O, δ, N, p⟩ => ?_
  refine ⟨F, O, δ, N, Post.seq p fun d v F1 H1 x s r q => ?_⟩
  cases d with
  | bl b =>
    refine ⟨b, RO.bl s (N.e.h.trans x.h) r, ?_⟩
    cases b with
    | false => rw [if_neg Bool.false_ne_true]; exact ⟨F1, O, δ, N.ext x s, q⟩
    | true => rw [if_pos rfl]; exact q _ F1 H1 (Ext.refl _ _) s rfl
  | _ => exact q.elim
theorem ve_not (ha : PE X a (lowE g κ ka fa)) : PE X (.UnaryOp .Not a pos) (lowE g κ .im (v1 notB fa)) := by
  refine (pe_not ha).weak fun σ H Q ⟨F, O, δ, N, p⟩ => ?_
  refine ⟨F, O, δ, N, Post.seq p fun d v F1 H1 x s r q => ?_⟩
  cases d with
  | bl b => exact ⟨b, RO.bl s (N.e.h.trans x.h) r, q _ F1 H1 (Ext.refl _ _) s rfl⟩
  | _ => exact q.elim
def vIf (t : DT) (fa fb : DE) : DE := fun δ => (t δ).bind fun b => if b then fa δ else fb δ
theorem ve_if {t : DT} (hc : PT X c (lowT g κ t)) (ha : PE X a (lowE g κ k fa)) (hb : PE X b (lowE g κ k fb)) : PE X (.IfExp c a b pos) (lowE g κ k (vIf t fa fb)) := by
  refine (pe_ifExp hc ha hb).weak fun σ H Q ⟨F, O, δ, N, p⟩ => ?_
  refine ⟨F, O, δ, N, Post.seqT p fun b F1 H1 x s q => ?_⟩
  cases b with
  | true => rw [if_pos rfl]; exact ⟨F1, O, δ, N.ext x s, q⟩
  | false => rw [if_neg Bool.false_ne_true]; exact ⟨F1, O, δ, N.ext x s, q⟩

/-! ### argument lists, displays -/
def aNil : DA := fun _ => .ok []
def aCons (f : DE) (fs : DA) : DA := fun δ => (f δ).bind fun d => (fs δ).bind fun ds => .ok (d :: ds)
theorem va_nil : PA X [] (lowA g κ [] aNil) := pa_nil.weak fun σ H Q ⟨F, O, δ, N, p⟩ => p [] F H (Ext.refl _ _) N.s ⟨rfl, rfl⟩
theorem va_cons {e : Expr} {es : List Expr} {f : DE} {fs : DA} {ks : List Rk} (ha : PE X e (lowE g κ k f)) (hr : PA X es (lowA g κ ks fs))
    (hs : starEach (e :: es) X.env = (false, eval e X.env) :: starEach es X.env := by rfl) : PA X (e :: es) (lowA g κ (k :: ks) (aCons f fs)) := by
  refine (pa_cons ha hr hs).weak fun σ H Q ⟨F, O, δ, N, p⟩ => ?_
  refine ⟨F, O, δ, N, ?_⟩
  cases q1 : f δ with
  | ok d =>
    intro v F1 H1 x1 s1 r1
    refine ⟨F1, O, δ, N.ext x1 s1, ?_⟩
    have p' := p
    unfold aCons at p'
    rw [q1] at p'
    cases q2 : fs δ with
    | ok ds =>
      intro vs F2 H2 x2 s2 r2
      rw [Res.ok_bind, q2] at p'
      exact p' (v :: vs) F2 H2 (x1.trans x2) s2 ⟨d, ds, v, vs, rfl, rfl, r1.ext x2, r2.down x1.h⟩
    | exc c ns ds => rw [Res.ok_bind, q2] at p'; exact p'
    | bad => rw [Res.ok_bind, q2] at p'; exact p'
  | exc c ns ds =>
    have p' := p
    unfold aCons at p'
    rw [q1] at p'
    exact p'
  | bad =>
    have p' := p
    unfold aCons at p'
    rw [q1] at p'
    exact p'
/-- all held in the frozen part -/
def allIm : List Rk → Bool
  | [] => true
  | .im :: ks => allIm ks
  | _ => false
theorem ROs.im {Hs F H : Hp} : ∀ {ks : List Rk} {ds : List D} {vs : List V}, allIm ks = true → ROs g Hs F H ks ds vs → Reps g.w F ds vs ∧ vs.length = ks.length
  | [], _, _, _, h => by obtain ⟨rfl, rfl⟩ := h; exact ⟨rfl, rfl⟩
  | .im :: ks, _, _, ha, h => by
    obtain ⟨d, ds', v, vs', rfl, rfl, h1, h2⟩ := h
    obtain ⟨q1, q2⟩ := ROs.im (ks := ks) ha h2
    exact ⟨⟨v, vs', rfl, h1, q1⟩, by rw [List.length_cons, List.length_cons, q2]⟩
  | .ls :: _, _, _, ha, _ => by cases ha
  | .bo :: _, _, _, ha, _ => by cases ha
  | .sh :: _, _, _, ha, _ => by cases ha
  | .rd :: _, _, _, ha, _ => by cases ha
  | .fr :: _, _, _, ha, _ => by cases ha
abbrev vA (f : List D → Res D) (fs : DA) : DE := fun δ => (fs δ).bind f
theorem ve_tup {es : List Expr} {x1 : Nat} {ks : List Rk} {fs : DA} (h : PA X es (lowA g κ ks fs)) (hk : allIm ks = true := by rfl) (hl : ks.length ≤ 1000 := by decide) : PE X (.Tuple es x1 pos) (lowE g κ .im (vA (fun ds => .ok (.tup ds)) fs)) := by
  refine (pe_tup h).weak fun σ H Q ⟨F, O, δ, N, p⟩ => ?_
  refine ⟨F, O, δ, N, Post.seqA p fun ds vs F1 H1 x s r q => ?_⟩
  obtain ⟨r1, r2⟩ := r.im hk
  exact ⟨by rw [r2, sizeLine_eq]; omega, fun pp hp => Post.laid q s ⟨vs, rfl, r1⟩ pp hp⟩
theorem ve_lst {es : List Expr} {ks : List Rk} {fs : DA} (h : PA X es (lowA g κ ks fs)) (hk : allIm ks = true := by rfl) (hl : ks.length ≤ 1000 := by decide) : PE X (.List es pos) (lowE g κ .fr (vA (fun ds => .ok (.lst ds)) fs)) := by
  refine (pe_lst h).weak fun σ H Q ⟨F, O, δ, N, p⟩ => ?_
  refine ⟨F, O, δ, N, Post.seqA p fun ds vs F1 H1 x s r q => ?_⟩
  obtain ⟨r1, r2⟩ := r.im hk
  exact ⟨by rw [r2, sizeLine_eq]; omega, fun pp hp => Post.fresh q s rfl ⟨vs, rfl, r1⟩ pp hp⟩
theorem ve_dct : PE X (.Dict [] [] pos) (lowE g κ .fr (vC (.dct [] []))) := by
  refine pe_dnewT.weak fun σ H Q ⟨F, O, δ, N, p⟩ pp hp => ?_
  exact Post.fresh p N.s rfl ⟨[], rfl, rfl, rfl⟩ pp hp

/-! ### built-in calls of one argument -/
theorem ve_b1 {e : Expr} {r : List V → Hp → VK → Prop} {f : D → Res D} (hpe : ∀ t, PA X [a] t → PE X e (tCB r t)) (hs : starEach [a] X.env = (false, eval a X.env) :: starEach [] X.env)
    (rule : ∀ (Hs F H : Hp) (x : D) (u : V) (Q : VK), Same F H → Same g.H0 H → RO g Hs F H ka x u → Post g k F H (f x) Q → r [u] H Q) (ha : PE X a (lowE g κ ka fa)) : PE X e (lowE g κ k (v1 f fa)) := by
  refine (hpe _ (pa_cons ha pa_nil hs)).weak fun σ H Q ⟨F, O, δ, N, p⟩ => ?_
  exact ⟨F, O, δ, N, Post.seq p fun d v F1 H1 x s r q => rule _ F1 H1 d v Q s (N.e.h.trans x.h) r q⟩
theorem ve_b2 {e : Expr} {r : List V → Hp → VK → Prop} {f : D → D → Res D} (hpe : ∀ t, PA X [a, b] t → PE X e (tCB r t)) (hs : starEach [a, b] X.env = (false, eval a X.env) :: starEach [b] X.env) (hs2 : starEach [b] X.env = (false, eval b X.env) :: starEach [] X.env)
    (rule : ∀ (Hs Hs' F H : Hp) (x y : D) (u v : V) (Q : VK), Same F H → Same g.H0 H → RO g Hs F H ka x u → RO g Hs' F H kb y v → Post g k F H (f x y) Q → r [u, v] H Q) (ha : PE X a (lowE g κ ka fa)) (hb : PE X b (lowE g κ kb fb)) :
    PE X e (lowE g κ k (v2 f fa fb)) := by
  refine (hpe _ (pa_cons ha (pa_cons hb pa_nil hs2) hs)).weak fun σ H Q ⟨F, O, δ, N, p⟩ => ?_
  refine ⟨F, O, δ, N, Post.seq p fun d v F1 H1 x s r q => ?_⟩
  have N1 := N.ext x s
  exact ⟨F1, O, δ, N1, Post.seq q fun d2 v2 F2 H2 x2 s2 r2 q2 => rule _ _ F2 H2 d d2 v v2 Q s2 (N1.e.h.trans x2.h) (r.ext x2) r2 q2⟩

def lenD : D → Res D
  | .lst ds => .ok (.int ds.length)
  | .tup ds => .ok (.int ds.length)
  | .scr ns => .ok (.int ns.length)
  | .str s => if s.length ≤ sizeLine then .ok (.int s.length) else .bad
  | _ => .bad
variable {p1 : Pos}
theorem ve_len (hm : X.mg "len" = none) (ha : PE X a (lowE g κ ka fa)) (hK : X.K = g.w.K := by rfl) (hg : Gl X "len" := by rfl) (hs : starEach [a] X.env = (false, eval a X.env) :: starEach [] X.env := by rfl) :
    PE X (.Call (.Name "len" p1) [a] [] pos) (lowE g κ .im (v1 lenD fa)) := by
  refine ve_b1 (r := fun xs H Q => (∃ p ys, xs = [.ref p] ∧ (SqL X.K H p ys ∨ SqT X.K H p ys) ∧ Q (.int ys.length) H) ∨ ∃ z, xs = [.str z] ∧ z.length ≤ sizeLine ∧ Q (.int z.length) H) (fun t h => pe_callB (call_len_seq.or call_len_str) hg hm PySem.boot_len h (he := hs)) hs (fun Hs F H x u Q s s0 r p => ?_) ha
  cases x with
  | lst ds =>
    obtain ⟨a, vs, e, h1, h2⟩ := (show Rep g.w H (.lst ds) u from r.rep s s0)
    subst e
    exact .inl ⟨a, vs, rfl, .inl (SqL.of h1), by rw [← h2.len]; exact Post.here p s rfl⟩
  | tup ds =>
    obtain ⟨a, vs, e, h1, h2⟩ := (show Rep g.w H (.tup ds) u from r.rep s s0)
    subst e
    exact .inl ⟨a, vs, rfl, .inr (SqT.of h1), by rw [← h2.len]; exact Post.here p s rfl⟩
  | scr ns =>
    obtain ⟨a, e, h1⟩ := (show Rep g.w H (.scr ns) u from r.rep s s0)
    subst e
    exact .inl ⟨a, _, rfl, .inl (by rw [hK]; exact h1), by rw [List.length_map]; exact Post.here p s rfl⟩
  | str z =>
    have e := r.str s s0
    subst e
    unfold lenD at p
    by_cases c : z.length ≤ sizeLine
    · simp only [c, if_true] at p
      exact .inr ⟨z, rfl, c, Post.here p s rfl⟩
    · simp only [c, if_false] at p; exact p.elim
  | _ => exact p.elim
def intD : D → Res D
  | .int i => .ok (.int i)
  | .bl b => .ok (.int (if b then 1 else 0))
  | _ => .bad
theorem ve_intC (hm : X.mg "int" = none) (ha : PE X a (lowE g κ ka fa)) (hg : Gl X "int" := by rfl) (hs : starEach [a] X.env = (false, eval a X.env) :: starEach [] X.env := by rfl) :
    PE X (.Call (.Name "int" p1) [a] [] pos) (lowE g κ .im (v1 intD fa)) := by
  refine ve_b1 (fun t h => pe_callTy call_int1 hg hm (by decide +kernel) h (he := hs)) hs (fun Hs F H x u Q s s0 r p => ?_) ha
  cases x with
  | int i => exact .inl ⟨i, by rw [r.int s s0], Post.here p s rfl⟩
  | bl b => exact .inr ⟨b, by rw [r.bl s s0], Post.here p s rfl⟩
  | _ => exact p.elim
def absD : D → Res D
  | .int i => .ok (.int (if i < 0 then -i else i))
  | _ => .bad
theorem ve_abs (hm : X.mg "abs" = none) (ha : PE X a (lowE g κ ka fa)) (hg : Gl X "abs" := by rfl) (hs : starEach [a] X.env = (false, eval a X.env) :: starEach [] X.env := by rfl) :
    PE X (.Call (.Name "abs" p1) [a] [] pos) (lowE g κ .im (v1 absD fa)) := by
  refine ve_b1 (fun t h => pe_callB call_abs hg hm (by decide +kernel) h (he := hs)) hs (fun Hs F H x u Q s s0 r p => ?_) ha
  cases x with
  | int i => exact ⟨i, by rw [r.int s s0], Post.here p s rfl⟩
  | _ => exact p.elim
def max2D : D → D → Res D
  | .int i, .int j => .ok (.int (if j > i then j else i))
  | _, _ => .bad
def min2D : D → D → Res D
  | .int i, .int j => .ok (.int (if j < i then j else i))
  | _, _ => .bad
theorem ve_max2 (hc : X.calm = true) (hm : X.mg "max" = none) (ha : PE X a (lowE g κ ka fa)) (hb : PE X b (lowE g κ kb fb)) (hg : Gl X "max" := by rfl) (hs : starEach [a, b] X.env = (false, eval a X.env) :: starEach [b] X.env := by rfl)
    (hs2 : starEach [b] X.env = (false, eval b X.env) :: starEach [] X.env := by rfl) (hpl : (backTo pos (starEach [b] X.env)).any (·.1) = false := by rfl) : PE X (.Call (.Name "max" p1) [a, b] [] pos) (lowE g κ .im (v2 max2D fa fb)) := by
  refine ve_b2 (fun t h => pe_callB (call_max2 hc) hg hm (by decide +kernel) h (he := hs) (hpl := hpl)) hs hs2 (fun Hs Hs' F H x y u v Q s s0 r r2 p => ?_) ha hb
  cases x <;> cases y <;> first | exact p.elim | exact ⟨_, _, by rw [r.int s s0, r2.int s s0], Post.here p s rfl⟩
theorem ve_min2 (hc : X.calm = true) (hm : X.mg "min" = none) (ha : PE X a (lowE g κ ka fa)) (hb : PE X b (lowE g κ kb fb)) (hg : Gl X "min" := by rfl) (hs : starEach [a, b] X.env = (false, eval a X.env) :: starEach [b] X.env := by rfl)
    (hs2 : starEach [b] X.env = (false, eval b X.env) :: starEach [] X.env := by rfl) (hpl : (backTo pos (starEach [b] X.env)).any (·.1) = false := by rfl) : PE X (.Call (.Name "min" p1) [a, b] [] pos) (lowE g κ .im (v2 min2D fa fb)) := by
  refine ve_b2 (fun t h => pe_callB (call_min2 hc) hg hm (by decide +kernel) h (he := hs) (hpl := hpl)) hs hs2 (fun Hs Hs' F H x y u v Q s s0 r r2 p => ?_) ha hb
  cases x <;> cases y <;> first | exact p.elim | exact ⟨_, _, by rw [r.int s s0, r2.int s s0], Post.here p s rfl⟩
/-- list(xs): a new list -/
def listD : D → Res D
  | .lst ds => .ok (.lst ds)
  | .tup ds => .ok (.lst ds)
  | _ => .bad
theorem ve_listC (hm : X.mg "list" = none) (ha : PE X a (lowE g κ ka fa)) (hk : ka.it = .im := by rfl) (hg : Gl X "list" := by rfl) (hs : starEach [a] X.env = (false, eval a X.env) :: starEach [] X.env := by rfl) :
    PE X (.Call (.Name "list" p1) [a] [] pos) (lowE g κ .fr (v1 listD fa)) := by
  refine ve_b1 (fun t h => pe_callTy call_list_of hg hm (by decide +kernel) h (he := hs)) hs (fun Hs F H x u Q s s0 r p => ?_) ha
  have hreg : reg g F H ka = F := by cases ka <;> first | rfl | cases hk
  cases x with
  | lst ds =>
    obtain ⟨a, o, e, h1, vs, e2, h2⟩ := RO.cell s s0 rfl r
    subst e e2
    rw [hreg] at h2
    exact ⟨a, vs, rfl, .inl (SqL.of h1), fun q hq => Post.fresh p s rfl ⟨vs, rfl, h2⟩ q hq⟩
  | tup ds =>
    obtain ⟨a, o, e, h1, vs, e2, h2⟩ := RO.cell s s0 rfl r
    subst e e2
    rw [hreg] at h2
    exact ⟨a, vs, rfl, .inr (SqT.of h1), fun q hq => Post.fresh p s rfl ⟨vs, rfl, h2⟩ q hq⟩
  | _ => exact p.elim
/-- .. of what is the caller's, its items numbers and texts -/
def listScD : D → Res D
  | .lst ds => if ds.all D.sc then .ok (.lst ds) else .bad
  | .tup ds => if ds.all D.sc then .ok (.lst ds) else .bad
  | _ => .bad
theorem ve_listSc (hm : X.mg "list" = none) (ha : PE X a (lowE g κ ka fa)) (hg : Gl X "list" := by rfl) (hs : starEach [a] X.env = (false, eval a X.env) :: starEach [] X.env := by rfl) :
    PE X (.Call (.Name "list" p1) [a] [] pos) (lowE g κ .fr (v1 listScD fa)) := by
  refine ve_b1 (fun t h => pe_callTy call_list_of hg hm (by decide +kernel) h (he := hs)) hs (fun Hs F H x u Q s s0 r p => ?_) ha
  cases x with
  | lst ds =>
    obtain ⟨a, vs, e, h1, h2⟩ := (show Rep g.w H (.lst ds) u from r.rep s s0)
    subst e
    unfold listScD at p
    by_cases c : ds.all D.sc = true
    · simp only [c, if_true] at p
      exact ⟨a, vs, rfl, .inl (SqL.of h1), fun q hq => Post.fresh p s rfl ⟨vs, rfl, h2.scal c⟩ q hq⟩
    · simp only [c] at p; exact p.elim
  | tup ds =>
    obtain ⟨a, vs, e, h1, h2⟩ := (show Rep g.w H (.tup ds) u from r.rep s s0)
    subst e
    unfold listScD at p
    by_cases c : ds.all D.sc = true
    · simp only [c, if_true] at p
      exact ⟨a, vs, rfl, .inr (SqT.of h1), fun q hq => Post.fresh p s rfl ⟨vs, rfl, h2.scal c⟩ q hq⟩
    · simp only [c] at p; exact p.elim
  | _ => exact p.elim
/-- tuple(xs) of a list: new -/
def tupleD : D → Res D
  | .lst ds => .ok (.tup ds)
  | .tup ds => .ok (.tup ds)
  | _ => .bad
/-- of a list -/
def tupleLD : D → Res D
  | .lst ds => .ok (.tup ds)
  | _ => .bad
theorem ve_tupleC (hm : X.mg "tuple" = none) (ha : PE X a (lowE g κ ka fa)) (hk : ka.it = .im := by rfl) (hg : Gl X "tuple" := by rfl) (hs : starEach [a] X.env = (false, eval a X.env) :: starEach [] X.env := by rfl) :
    PE X (.Call (.Name "tuple" p1) [a] [] pos) (lowE g κ .im (v1 tupleLD fa)) := by
  refine ve_b1 (fun t h => pe_callTy call_tuple_of hg hm (by decide +kernel) h (he := hs)) hs (fun Hs F H x u Q s s0 r p => ?_) ha
  have hreg : reg g F H ka = F := by cases ka <;> first | rfl | cases hk
  cases x with
  | lst ds =>
    obtain ⟨a, o, e, h1, vs, e2, h2⟩ := RO.cell s s0 rfl r
    subst e e2
    rw [hreg] at h2
    exact ⟨a, vs, rfl, .inl ⟨SqL.of h1, fun q hq => Post.laid p s ⟨vs, rfl, h2⟩ q hq⟩⟩
  | _ => exact p.elim
theorem ve_tupleI (hm : X.mg "tuple" = none) (ha : PE X a (lowE g κ .im fa)) (hg : Gl X "tuple" := by rfl) (hs : starEach [a] X.env = (false, eval a X.env) :: starEach [] X.env := by rfl) :
    PE X (.Call (.Name "tuple" p1) [a] [] pos) (lowE g κ .im (v1 tupleD fa)) := by
  refine ve_b1 (fun t h => pe_callTy call_tuple_of hg hm (by decide +kernel) h (he := hs)) hs (fun Hs F H x u Q s s0 r p => ?_) ha
  cases x with
  | lst ds =>
    obtain ⟨a, o, e, h1, vs, e2, h2⟩ := RO.cell s s0 rfl r
    subst e e2
    exact ⟨a, vs, rfl, .inl ⟨SqL.of h1, fun q hq => Post.laid p s ⟨vs, rfl, h2⟩ q hq⟩⟩
  | tup ds =>
    obtain ⟨a, vs, e, h1, h2⟩ := (show Rep g.w F (.tup ds) u from r)
    subst e
    exact ⟨a, vs, rfl, .inr ⟨SqT.of (s _ _ h1), Post.here p s ⟨a, vs, rfl, h1, h2⟩⟩⟩
  | _ => exact p.elim
/-- ints of a list of data -/
def intsOf : List D → Option (List Int)
  | [] => some []
  | .int i :: ds => (intsOf ds).map (i :: ·)
  | _ :: _ => none
theorem intsOf_map : ∀ ns : List Int, intsOf (ns.map D.int) = some ns
  | [] => rfl
  | n :: ns => by rw [List.map_cons, intsOf, intsOf_map ns]; rfl
theorem intsOf_eq : ∀ {ds : List D} {ns : List Int}, intsOf ds = some ns → ds = ns.map D.int
  | [], _, h => by cases h; rfl
  | .int i :: ds, ns, h => by
    rw [intsOf] at h
    obtain ⟨m, h1, rfl⟩ := Option.map_eq_some_iff.mp h
    rw [List.map_cons, ← intsOf_eq h1]
  | .non :: _, _, h => by cases h
  | .bl _ :: _, _, h => by cases h
  | .str _ :: _, _, h => by cases h
  | .lst _ :: _, _, h => by cases h
  | .tup _ :: _, _, h => by cases h
  | .ins _ _ _ :: _, _, h => by cases h
  | .dct _ _ :: _, _, h => by cases h
  | .exc _ _ _ :: _, _, h => by cases h
  | .scr _ :: _, _, h => by cases h
def sortI (ns : List Int) : List Int := ns.mergeSort fun a b => decide (a ≤ b)
theorem sortI_perm (ns : List Int) : (sortI ns).Perm ns := List.mergeSort_perm ..
theorem sortI_sorted (ns : List Int) : (sortI ns).Pairwise (· ≤ ·) := by
  have := List.pairwise_mergeSort (le := fun a b : Int => decide (a ≤ b)) (fun a b c h1 h2 => by simp at *; omega) (fun a b => by simp; omega) ns
  exact this.imp fun h => by simpa using h
theorem sorted_unique : ∀ {a b : List Int}, a.Perm b → a.Pairwise (· ≤ ·) → b.Pairwise (· ≤ ·) → a = b := by
  intro a b p h1 h2
  exact List.Perm.eq_of_pairwise (le := (· ≤ ·)) (fun x y _ _ q1 q2 => by omega) h1 h2 p
def sortedD : D → Res D
  | .lst ds => match intsOf ds with
    | some ns => .ok (.lst ((sortI ns).map D.int))
    | none => .bad
  | _ => .bad
theorem ve_sorted (hm : X.mg "sorted" = none) (ha : PE X a (lowE g κ ka fa)) (hK : X.K = g.w.K := by rfl) (hg : Gl X "sorted" := by rfl) (hs : starEach [a] X.env = (false, eval a X.env) :: starEach [] X.env := by rfl) :
    PE X (.Call (.Name "sorted" p1) [a] [] pos) (lowE g κ .fr (v1 sortedD fa)) := by
  refine ve_b1 (fun t h => pe_callB cr_sortedI hg hm (by decide +kernel) h (he := hs)) hs (fun Hs F H x u Q s s0 r p => ?_) ha
  cases x with
  | lst ds =>
    unfold sortedD at p
    cases q : intsOf ds with
    | none => simp only [q] at p; exact p.elim
    | some ns =>
      simp only [q] at p
      have e := intsOf_eq q
      subst e
      obtain ⟨a, vs, e, h1, h2⟩ := (show Rep g.w H (.lst (ns.map D.int)) u from r.rep s s0)
      subst e
      have e3 := h2.ints
      subst e3
      refine ⟨a, ns, rfl, SqL.of h1, fun ns' pp hp hso hn => ?_⟩
      have e4 : ns' = sortI ns := sorted_unique (hp.trans (sortI_perm ns).symm) hso (sortI_sorted ns)
      subst e4
      exact Post.fresh p s rfl ⟨_, rfl, Reps.of_ints _⟩ pp hn
  | _ => exact p.elim
def sumD : D → Res D
  | .lst ds => match intsOf ds with
    | some ns => .ok (.int ns.sum)
    | none => .bad
  | .tup ds => .bad
  | _ => .bad
theorem ve_sum (hc : X.calm = true) (hm : X.mg "sum" = none) (ha : PE X a (lowE g κ ka fa)) (hg : Gl X "sum" := by rfl) (hs : starEach [a] X.env = (false, eval a X.env) :: starEach [] X.env := by rfl) :
    PE X (.Call (.Name "sum" p1) [a] [] pos) (lowE g κ .im (v1 sumD fa)) := by
  refine ve_b1 (fun t h => pe_callB (cr_sum hc) hg hm (by decide +kernel) h (he := hs)) hs (fun Hs F H x u Q s s0 r p => ?_) ha
  cases x with
  | lst ds =>
    unfold sumD at p
    cases q : intsOf ds with
    | none => simp only [q] at p; exact p.elim
    | some ns =>
      simp only [q] at p
      have e := intsOf_eq q
      subst e
      obtain ⟨a, vs, e, h1, h2⟩ := (show Rep g.w H (.lst (ns.map D.int)) u from r.rep s s0)
      subst e
      have e3 := h2.ints
      subst e3
      exact ⟨a, ns, rfl, SqL.of h1, Post.here p s rfl⟩
  | _ => exact p.elim
end
end VL

namespace VL
open PySem PySem.Spec L2
section
variable {X : Cx} {g : G} {κ : List Kd} {a b c : Expr} {fa fb fc : DE} {ka kb kc k : Rk} {pos : Pos}

/-! ### subscripts -/
def atD (ds : List D) (i : Int) : Res D := match atI ds i with
  | some d => .ok d
  | none => .bad
def idxD : D → D → Res D
  | .lst ds, .int i => atD ds i
  | .tup ds, .int i => atD ds i
  | .scr ns, .int i => match atI ns i with
    | some n => .ok (.int n)
    | none => .bad
  | .str z, .int i => if z.length ≤ 16777216 then (match atI z.cps.toList i with
    | some c => .ok (.str ⟨#[c]⟩)
    | none => .bad) else .bad
  | _, _ => .bad
theorem atI_rep {F : Hp} {w : Wd} {ds : List D} {vs : List V} {i : Int} {d : D} (h : Reps w F ds vs) (e : atI ds i = some d) : ∃ v, atI vs i = some v ∧ Rep w F d v := by
  unfold atI at e ⊢
  rw [← h.len]
  cases q : ixN ds.length i with
  | none => rw [q] at e; cases e
  | some j =>
    rw [q] at e
    exact h.get e
theorem ro_it {Hs F H : Hp} {d : D} {v : V} (h : Rep g.w (reg g F H k) d v) : RO g Hs F H k.it d v := by
  cases k <;> exact h
theorem ro_sc {Hs F H F1 : Hp} {d : D} {v : V} (hs : d.sc = true) (h : Rep g.w F1 d v) : RO g Hs F H k.it d v := by
  cases k <;> exact h.scal hs
theorem Post.herek {F H : Hp} {d : D} {Q : VK} {v : V} (p : Post g k F H (.ok d) Q) (s : Same F H) (h : RO g H F H k d v) : Q v H := p v F H (Ext.refl _ _) s h
theorem ve_ix (ha : PE X a (lowE g κ ka fa)) (hb : PE X b (lowE g κ kb fb)) (hK : X.K = g.w.K := by rfl) (hs : PlainIx b := by exact fun _ _ => rfl) : PE X (.Subscript a b pos) (lowE g κ ka.it (v2 idxD fa fb)) := by
  refine ve_op2 (fun ha hb => pe_ix ix_seq ha hb hs) (fun Hs Hs' F H x y u v Q s s0 r1 r2 p => ?_) ha hb
  cases y with
  | int i =>
    have ev := r2.int s s0
    subst ev
    cases x with
    | lst ds =>
      obtain ⟨a, o, e, h1, vs, e2, h2⟩ := RO.cell s s0 rfl r1
      subst e e2
      have p' : Post g ka.it F H (atD ds i) Q := p
      unfold atD at p'
      cases q : atI ds i with
      | none => rw [q] at p'; exact p'.elim
      | some d =>
        rw [q] at p'
        obtain ⟨v, e1, e2⟩ := atI_rep h2 q
        exact .inl ⟨a, vs, i, v, rfl, rfl, SqL.of h1, e1, Post.herek p' s (ro_it e2)⟩
    | tup ds =>
      obtain ⟨a, o, e, h1, vs, e2, h2⟩ := RO.cell s s0 rfl r1
      subst e e2
      have p' : Post g ka.it F H (atD ds i) Q := p
      unfold atD at p'
      cases q : atI ds i with
      | none => rw [q] at p'; exact p'.elim
      | some d =>
        rw [q] at p'
        obtain ⟨v, e1, e2⟩ := atI_rep h2 q
        exact .inr (.inl ⟨a, vs, i, v, rfl, rfl, SqT.of h1, e1, Post.herek p' s (ro_it e2)⟩)
    | scr ns =>
      obtain ⟨a, e, h1⟩ := (show Rep g.w H (.scr ns) u from r1.rep s s0)
      subst e
      have p' : Post g ka.it F H (match atI ns i with | some n => .ok (.int n) | none => .bad) Q := p
      cases q : atI ns i with
      | none => rw [q] at p'; exact p'.elim
      | some n =>
        rw [q] at p'
        refine .inl ⟨a, _, i, .int n, rfl, rfl, by rw [hK]; exact h1, ?_, Post.herek p' s (ro_sc (F1 := H) rfl rfl)⟩
        unfold atI at q ⊢
        rw [List.length_map]
        cases q2 : ixN ns.length i with
        | none => rw [q2] at q; cases q
        | some j =>
          rw [q2] at q
          show (ns.map V.int)[j]? = _
          rw [List.getElem?_map, show ns[j]? = some n from q]
          rfl
    | str z =>
      have e := r1.str s s0
      subst e
      have p' : Post g ka.it F H (if z.length ≤ 16777216 then (match atI z.cps.toList i with | some c => .ok (.str ⟨#[c]⟩) | none => .bad) else .bad) Q := p
      by_cases c : z.length ≤ 16777216
      · rw [if_pos c] at p'
        cases q : atI z.cps.toList i with
        | none => rw [q] at p'; exact p'.elim
        | some n =>
          rw [q] at p'
          exact .inr (.inr ⟨z, i, n, rfl, rfl, by rw [sizeLine_eq]; exact c, q, Post.herek p' s (ro_sc (F1 := H) rfl rfl)⟩)
      · rw [if_neg c] at p'; exact p'.elim
    | _ => exact p.elim
  | _ => cases x <;> exact p.elim

/-! ### slices -/
abbrev DO := DSt → Res (Option Int)
def PostO (g : G) (F H : Hp) (r : Res (Option Int)) (Q : Option Int → Hp → Prop) : Prop :=
  match r with
  | .ok b => ∀ F' H', Ext F H F' H' → Same F' H' → Q b H'
  | .exc c ns ds => Raise g c ns ds
  | .bad => False
def lowO (g : G) (κ : List Kd) (f : DO) : TO := fun σ H Q => ∃ F O δ, Env g κ F O H σ δ ∧ PostO g F H (f δ) Q
theorem _root_.L2.PO.weak {X : Cx} {e : Option Expr} {t t' : TO} (h : PO X e t) (i : ∀ σ H Q, t' σ H Q → t σ H Q) : PO X e t' := ⟨fun pins s σ H Q I q => h.run pins s σ H Q I (i _ _ _ q)⟩
def oNone : DO := fun _ => .ok none
def oSome (f : DE) : DO := fun δ => (f δ).bind fun d => match d with
  | .int i => .ok (some i)
  | _ => .bad
theorem vo_none : PO X none (lowO g κ oNone) := po_none.weak fun σ H Q ⟨F, O, δ, N, p⟩ => p F H (Ext.refl _ _) N.s
theorem vo_some (ha : PE X a (lowE g κ ka fa)) : PO X (some a) (lowO g κ (oSome fa)) := by
  refine (po_some ha).weak fun σ H Q ⟨F, O, δ, N, p⟩ => ?_
  refine ⟨F, O, δ, N, ?_⟩
  unfold oSome at p
  cases q : fa δ with
  | ok d =>
    rw [q] at p
    intro v F' H' x s r
    cases d with
    | int i => exact ⟨i, RO.int s (N.e.h.trans x.h) r, p F' H' x s⟩
    | _ => exact p.elim
  | exc c ns ds => rw [q] at p; exact p
  | bad => rw [q] at p; exact p
theorem Post.seqO {F H : Hp} {r : Res (Option Int)} {f : Option Int → Res D} {Q : VK} {Q1 : Option Int → Hp → Prop} (h : Post g k F H (r.bind f) Q)
    (n : ∀ b F' H', Ext F H F' H' → Same F' H' → Post g k F' H' (f b) Q → Q1 b H') : PostO g F H r Q1 := by
  cases r with
  | ok d => exact fun F' H' x s => n d F' H' x s (h.mono x)
  | exc c ns ds => exact h
  | bad => exact h
def cutD {α : Type} (xs : List α) (lo hi : Option Int) : List α := (xs.drop (HT.sIx xs.length 0 lo)).take (HT.sIx xs.length xs.length hi - HT.sIx xs.length 0 lo)
theorem cut_rep {F : Hp} {w : Wd} {ds : List D} {vs : List V} (lo hi : Option Int) (h : Reps w F ds vs) : Reps w F (cutD ds lo hi) (cutV vs lo hi) := by
  unfold cutD cutV
  rw [← h.len]
  exact (h.drop _).take _
abbrev vSl (f : Option Int → Option Int → D → Res D) (fa : DE) (fl fh : DO) : DE := fun δ => (fa δ).bind fun x => (fl δ).bind fun l => (fh δ).bind fun h => f l h x
def sliceLD (l h : Option Int) : D → Res D
  | .lst ds => .ok (.lst (cutD ds l h))
  | _ => .bad
def sliceTD (l h : Option Int) : D → Res D
  | .tup ds => .ok (.tup (cutD ds l h))
  | _ => .bad
variable {lo hi : Option Expr} {fl fh : DO} {p2 : Pos}
theorem ve_slGen {r : V → Option Int → Option Int → Hp → VK → Prop} {f : Option Int → Option Int → D → Res D} (hr : SlR X r)
    (rule : ∀ (Hs F H : Hp) (x : D) (u : V) (l h : Option Int) (Q : VK), Same F H → Same g.H0 H → RO g Hs F H ka x u → Post g k F H (f l h x) Q → r u l h H Q)
    (ha : PE X a (lowE g κ ka fa)) (hl : PO X lo (lowO g κ fl)) (hh : PO X hi (lowO g κ fh)) : PE X (.Subscript a (.Slice lo hi none p2) pos) (lowE g κ k (vSl f fa fl fh)) := by
  refine (pe_slice hr ha hl hh).weak fun σ H Q ⟨F, O, δ, N, p⟩ => ?_
  refine ⟨F, O, δ, N, Post.seq p fun d v F1 H1 x s r1 q => ?_⟩
  have N1 := N.ext x s
  refine ⟨F1, O, δ, N1, Post.seqO q fun l F2 H2 x2 s2 q2 => ?_⟩
  have N2 := N1.ext x2 s2
  refine ⟨F2, O, δ, N2, Post.seqO q2 fun h F3 H3 x3 s3 q3 => ?_⟩
  exact rule _ F3 H3 d v l h Q s3 (N2.e.h.trans x3.h) ((r1.ext x2).ext x3) q3
theorem ve_sliceL (ha : PE X a (lowE g κ ka fa)) (hl : PO X lo (lowO g κ fl)) (hh : PO X hi (lowO g κ fh)) (hk : ka.it = .im := by rfl) : PE X (.Subscript a (.Slice lo hi none p2) pos) (lowE g κ .fr (vSl sliceLD fa fl fh)) := by
  refine ve_slGen sl_list (fun Hs F H x u l h Q s s0 r p => ?_) ha hl hh
  have hreg : reg g F H ka = F := by cases ka <;> first | rfl | cases hk
  cases x with
  | lst ds =>
    obtain ⟨a, o, e, h1, vs, e2, h2⟩ := RO.cell s s0 rfl r
    subst e e2
    rw [hreg] at h2
    exact ⟨a, vs, rfl, SqL.of h1, fun q hq => Post.fresh p s rfl ⟨_, rfl, cut_rep l h h2⟩ q hq⟩
  | _ => exact p.elim
theorem whole_cut {α : Type} {xs : List α} {l h : Option Int} (e : HT.sIx xs.length 0 l = 0 ∧ HT.sIx xs.length xs.length h = xs.length) : cutD xs l h = xs := by
  unfold cutD
  rw [e.1, e.2, List.drop_zero, Nat.sub_zero, List.take_length]
theorem ve_sliceT (ha : PE X a (lowE g κ .im fa)) (hl : PO X lo (lowO g κ fl)) (hh : PO X hi (lowO g κ fh)) : PE X (.Subscript a (.Slice lo hi none p2) pos) (lowE g κ .im (vSl sliceTD fa fl fh)) := by
  refine ve_slGen sl_tupA (fun Hs F H x u l h Q s s0 r p => ?_) ha hl hh
  cases x with
  | tup ds =>
    obtain ⟨a, vs, e, h1, h2⟩ := (show Rep g.w F (.tup ds) u from r)
    subst e
    refine ⟨a, vs, rfl, SqT.of (s _ _ h1), fun e => ?_, fun _ q hq => Post.laid p s ⟨_, rfl, cut_rep l h h2⟩ q hq⟩
    have e' := whole_cut (xs := ds) (l := l) (h := h) (by rw [h2.len]; exact e)
    refine Post.here p s ?_
    rw [e']
    exact ⟨a, vs, rfl, h1, h2⟩
  | _ => exact p.elim

/-! ### + and * of lists, tuples, texts -/
def catL : D → D → Res D
  | .lst xs, .lst ys => if xs.length + ys.length ≤ 16777216 then .ok (.lst (xs ++ ys)) else .bad
  | _, _ => .bad
def catT : D → D → Res D
  | .tup xs, .tup ys => if xs.length + ys.length ≤ 16777216 then .ok (.tup (xs ++ ys)) else .bad
  | _, _ => .bad
def catS : D → D → Res D
  | .str x, .str y => if x.length + y.length ≤ 16777216 then .ok (.str (x ++ y)) else .bad
  | _, _ => .bad
def repL : D → D → Res D
  | .lst xs, .int n => if -(2 ^ 63) ≤ n ∧ n < 2 ^ 63 ∧ xs.length * n.toNat ≤ 16777216 then .ok (.lst (List.replicate n.toNat xs).flatten) else .bad
  | _, _ => .bad
theorem reg_im {F H : Hp} (hk : ka.it = .im) : reg g F H ka = F := by cases ka <;> first | rfl | cases hk
theorem ve_catL (ha : PE X a (lowE g κ ka fa)) (hb : PE X b (lowE g κ kb fb)) (hk : ka.it = .im := by rfl) (hk2 : kb.it = .im := by rfl) : PE X (.BinOp a .Add b pos) (lowE g κ .fr (v2 catL fa fb)) := by
  refine ve_op2 (pe_op op_cat) (fun Hs Hs' F H x y u v Q s s0 r1 r2 p => ?_) ha hb
  cases x with
  | lst xs =>
    cases y with
    | lst ys =>
      obtain ⟨a, o, e, h1, vs, e2, h2⟩ := RO.cell s s0 rfl r1
      obtain ⟨b, o', e', h1', vs', e2', h2'⟩ := RO.cell s s0 rfl r2
      subst e e2 e' e2'
      rw [reg_im hk] at h2
      rw [reg_im hk2] at h2'
      have p' : Post g .fr F H (if xs.length + ys.length ≤ 16777216 then .ok (.lst (xs ++ ys)) else .bad) Q := p
      by_cases c : xs.length + ys.length ≤ 16777216
      · rw [if_pos c] at p'
        exact ⟨a, b, vs, vs', rfl, rfl, h1, h1', by rw [← h2.len, ← h2'.len, sizeLine_eq]; exact c, fun q hq => Post.fresh p' s rfl ⟨_, rfl, h2.app h2'⟩ q hq⟩
      · rw [if_neg c] at p'; exact p'.elim
    | _ => exact p.elim
  | _ => cases y <;> exact p.elim
theorem ve_catT (ha : PE X a (lowE g κ .im fa)) (hb : PE X b (lowE g κ .im fb)) : PE X (.BinOp a .Add b pos) (lowE g κ .im (v2 catT fa fb)) := by
  refine ve_op2 (pe_op op_catA) (fun Hs Hs' F H x y u v Q s s0 r1 r2 p => ?_) ha hb
  cases x with
  | tup xs =>
    cases y with
    | tup ys =>
      obtain ⟨a, vs, e, h1, h2⟩ := (show Rep g.w F (.tup xs) u from r1)
      obtain ⟨b, vs', e', h1', h2'⟩ := (show Rep g.w F (.tup ys) v from r2)
      subst e e'
      have p' : Post g .im F H (if xs.length + ys.length ≤ 16777216 then .ok (.tup (xs ++ ys)) else .bad) Q := p
      by_cases c : xs.length + ys.length ≤ 16777216
      · rw [if_pos c] at p'
        refine ⟨a, b, vs, vs', rfl, rfl, SqT.of (s _ _ h1), SqT.of (s _ _ h1'), by rw [← h2.len, ← h2'.len, sizeLine_eq]; exact c, fun e => ?_, fun _ e => ?_, fun _ _ q hq => Post.laid p' s ⟨_, rfl, h2.app h2'⟩ q hq⟩
        · subst e
          have e2 : xs = [] := List.eq_nil_of_length_eq_zero h2.len
          subst e2
          exact Post.here p' s ⟨b, vs', rfl, h1', h2'⟩
        · subst e
          have e2 : ys = [] := List.eq_nil_of_length_eq_zero h2'.len
          subst e2
          refine Post.here p' s ?_
          rw [List.append_nil]
          exact ⟨a, vs, rfl, h1, h2⟩
      · rw [if_neg c] at p'; exact p'.elim
    | _ => exact p.elim
  | _ => cases y <;> exact p.elim
theorem ve_catS (ha : PE X a (lowE g κ ka fa)) (hb : PE X b (lowE g κ kb fb)) : PE X (.BinOp a .Add b pos) (lowE g κ .im (v2 catS fa fb)) := by
  refine ve_op2 (pe_op op_add_str) (fun Hs Hs' F H x y u v Q s s0 r1 r2 p => ?_) ha hb
  cases x with
  | str xs =>
    cases y with
    | str ys =>
      have p' : Post g .im F H (if xs.length + ys.length ≤ 16777216 then .ok (.str (xs ++ ys)) else .bad) Q := p
      by_cases c : xs.length + ys.length ≤ 16777216
      · rw [if_pos c] at p'
        exact ⟨xs, ys, r1.str s s0, r2.str s s0, by rw [sizeLine_eq]; exact c, Post.here p' s rfl⟩
      · rw [if_neg c] at p'; exact p'.elim
    | _ => exact p.elim
  | _ => cases y <;> exact p.elim
theorem Reps.rep {F : Hp} {w : Wd} {ds : List D} {vs : List V} (h : Reps w F ds vs) : ∀ n, Reps w F (List.replicate n ds).flatten (List.replicate n vs).flatten
  | 0 => rfl
  | n + 1 => by
    rw [List.replicate_succ, List.replicate_succ, List.flatten_cons, List.flatten_cons]
    exact h.app (Reps.rep h n)
theorem ve_repL (ha : PE X a (lowE g κ ka fa)) (hb : PE X b (lowE g κ kb fb)) (hk : ka.it = .im := by rfl) : PE X (.BinOp a .Mult b pos) (lowE g κ .fr (v2 repL fa fb)) := by
  refine ve_op2 (pe_op op_rep) (fun Hs Hs' F H x y u v Q s s0 r1 r2 p => ?_) ha hb
  cases x with
  | lst xs =>
    cases y with
    | int n =>
      obtain ⟨a, o, e, h1, vs, e2, h2⟩ := RO.cell s s0 rfl r1
      subst e e2
      rw [reg_im hk] at h2
      have p' : Post g .fr F H (if -(2 ^ 63) ≤ n ∧ n < 2 ^ 63 ∧ xs.length * n.toNat ≤ 16777216 then .ok (.lst (List.replicate n.toNat xs).flatten) else .bad) Q := p
      by_cases c : -(2 ^ 63) ≤ n ∧ n < 2 ^ 63 ∧ xs.length * n.toNat ≤ 16777216
      · rw [if_pos c] at p'
        exact ⟨a, n, vs, rfl, r2.int s s0, h1, c.1, c.2.1, by rw [← h2.len, sizeLine_eq]; exact c.2.2, fun q hq => Post.fresh p' s rfl ⟨_, rfl, h2.rep _⟩ q hq⟩
      · rw [if_neg c] at p'; exact p'.elim
    | _ => exact p.elim
  | _ => cases y <;> exact p.elim

/-! ### fields of instances -/
def getF (cs : List Str) (f : Str) : D → Res D
  | .ins c ns ds => if cs.contains c then (match (ns.zip ds).lookup f with
    | some d => .ok d
    | none => .bad) else .bad
  | _ => .bad
theorem lookup_rep {F : Hp} {w : Wd} {f : Str} {d : D} : ∀ {ns : List Str} {ds : List D} {vs : List V}, Reps w F ds vs → ns.length = vs.length → (ns.zip ds).lookup f = some d → ∃ v, (ns.zip vs).lookup f = some v ∧ Rep w F d v
  | [], _, _, _, _, e => by simp at e
  | n :: ns, [], _, _, _, e => by simp at e
  | n :: ns, d' :: ds, _, h, hl, e => by
    obtain ⟨v, r, rfl, h1, h2⟩ := h
    rw [List.zip_cons_cons, List.lookup_cons] at e ⊢
    by_cases q : (f == n) = true
    · rw [q] at e ⊢
      cases e
      exact ⟨v, rfl, h1⟩
    · have q' : (f == n) = false := by simpa using q
      rw [q'] at e ⊢
      exact lookup_rep h2 (by simpa using hl) e
/-- what a class must have for its field f to be read -/
structure FldOk (w : Wd) (c f : Str) : Prop where
  cl : Cls w.K (w.ct c)
  na : NoAttr w.K (w.ct c) f
theorem ve_fld {f : Str} (cs : List Str) (hf : ∀ c, cs.contains c = true → FldOk g.w c f) (ha : PE X a (lowE g κ ka fa)) (hK : X.K = g.w.K := by rfl) (hb : attributeBase a f X.env (eval a X.env) = eval a X.env := by rfl) :
    PE X (.Attribute a f pos) (lowE g κ ka.it (v1 (getF cs f) fa)) := by
  refine (pe_fld ha hb).weak fun σ H Q ⟨F, O, δ, N, p⟩ => ?_
  refine ⟨F, O, δ, N, Post.seq p fun d v F1 H1 x s r q => ?_⟩
  have s0 := N.e.h.trans x.h
  cases d with
  | ins c ns ds =>
    obtain ⟨a, o, e, h1, dx, vs, e2, hl, h2⟩ := RO.cell s s0 rfl r
    subst e e2
    have q' : Post g ka.it F1 H1 (if cs.contains c then (match (ns.zip ds).lookup f with | some d => .ok d | none => .bad) else .bad) Q := q
    by_cases cc : cs.contains c = true
    · rw [if_pos cc] at q'
      cases e3 : (ns.zip ds).lookup f with
      | none => rw [e3] at q'; exact q'.elim
      | some d =>
        rw [e3] at q'
        obtain ⟨u, e4, e5⟩ := lookup_rep h2 hl e3
        have ff := hf c cc
        exact ⟨a, g.w.ct c, dx, _, u, rfl, h1, by rw [hK]; exact ff.cl, by rw [hK]; exact ff.na, e4, Post.herek q' s (ro_it e5)⟩
    · rw [if_neg cc] at q'; exact q'.elim
  | _ => exact q.elim

/-! ### calls of the program's own defs -/
def Kd.arg : Kd → Rk
  | .im => .im
  | .ln => .sh
  | _ => .rd
def isPar : Kd → Bool
  | .im | .ln | .bo => true
  | _ => false
theorem ROs.args {g g' : G} (hw : g.w = g'.w) {Hs Hs' F H : Hp} : ∀ {ks : List Kd} {ds : List D} {vs : List V}, ROs g Hs F H (ks.map Kd.arg) ds vs → ROs g' Hs' F H (ks.map Kd.arg) ds vs
  | [], _, _, h => h
  | k :: ks, _, _, h => by
    obtain ⟨d, ds', v, vs', e1, e2, h1, h2⟩ := h
    refine ⟨d, ds', v, vs', e1, e2, ?_, ROs.args hw h2⟩
    cases k with
    | im => show Rep g'.w F d v; rw [← hw]; exact h1
    | ln => show Shl g'.w F H d v; rw [← hw]; exact h1
    | ow => show Rep g'.w H d v; rw [← hw]; exact h1
    | bo => show Rep g'.w H d v; rw [← hw]; exact h1
    | is => show Rep g'.w H d v; rw [← hw]; exact h1
    | xx => show Rep g'.w H d v; rw [← hw]; exact h1
    | me y => show Rep g'.w H d v; rw [← hw]; exact h1
theorem ROs.len {Hs F H : Hp} : ∀ {ks : List Rk} {ds : List D} {vs : List V}, ROs g Hs F H ks ds vs → vs.length = ks.length ∧ ds.length = ks.length
  | [], _, _, h => by obtain ⟨rfl, rfl⟩ := h; exact ⟨rfl, rfl⟩
  | k :: ks, _, _, h => by
    obtain ⟨d, ds', v, vs', rfl, rfl, h1, h2⟩ := h
    obtain ⟨q1, q2⟩ := ROs.len h2
    exact ⟨by rw [List.length_cons, List.length_cons, q1], by rw [List.length_cons, List.length_cons, q2]⟩
/-- a def's promise: on the data ds it does what f does -/
def lift (w : Wd) (ks : List Kd) (f : List D → Res D) : Sp := fun vs H Q E => ∃ F ds, Same F H ∧ ROs ⟨w, F, H, E⟩ H F H (ks.map Kd.arg) ds vs ∧ Post ⟨w, F, H, E⟩ .im F H (f ds) Q
theorem XR.down {w : Wd} {H0 H1 F H : Hp} {dopt : Option Addr} {ns : List Str} {ds : List D} (s : Same H0 H1) (h : XR w H1 F H dopt ns ds) : XR w H0 F H dopt ns ds := by
  cases ns with
  | nil => exact h
  | cons n ns =>
    obtain ⟨dx, vs, e, h1, h2⟩ := h
    exact ⟨dx, vs, e, s.free h1, h2⟩
theorem Raise.call {F H : Hp} {c : Str} {ns : List Str} {ds : List D} (x : Ext g.F0 g.H0 F H) (h : Raise g c ns ds) : Raise ⟨g.w, F, H, g.E⟩ c ns ds := fun F' H' dopt y s q => h F' H' dopt (x.trans y) s (q.down x.h)
theorem Post.call {F H : Hp} {r : Res D} {Q : VK} (x : Ext g.F0 g.H0 F H) (h : Post g .im F H r Q) : Post ⟨g.w, F, H, g.E⟩ .im F H r Q := by
  cases r with
  | ok d => exact h
  | exc c ns ds => exact Raise.call x h
  | bad => exact h
variable {n : Nat} {f : Addr} {fd : FuncData} {ps : List Str} {ks : List Kd} {ef : List D → Res D} {x : Str} {p : Pos} {e : Expr} {es : List Expr} {fs : DA}
theorem ve_call (Fk : FnOk X.prog X.w X.K X.mg X.base (L2.CX X.prog X.w) n f fd ps (lift g.w ks ef)) (hr : Room n X.A) (hm : X.mg x = some (.ref f)) (hk : PySem.W.keepIn X.K (.ref f) = true) (hb : Binds X.K fd ps []) (hx : Passes (L2.CX X.prog X.w) X g.E)
    (ha : PA X (e :: es) (lowA g κ (ks.map Kd.arg) fs)) (hg : Gl X x := by rfl) (hdb : (x == ("__debug__" : Str)) = false := by decide)
    (he : starEach (e :: es) X.env = (false, eval e X.env) :: starEach es X.env := by rfl) (hpl : (backTo pos (starEach es X.env)).any (·.1) = false := by rfl) : PE X (.Call (.Name x p) (e :: es) [] pos) (lowE g κ .im (vA ef fs)) := by
  refine (pe_call Fk hr hg hm hk hb .nil hx ha hdb he hpl).weak fun σ H Q ⟨F, O, δ, N, p⟩ => ?_
  refine ⟨F, O, δ, N, Post.seqA p fun ds vs F1 H1 x s r q => ?_⟩
  refine ⟨F1, ds, s, ?_, Post.call (N.e.trans x) q⟩
  rw [List.append_nil]
  exact ROs.args (by rfl) r

/-! ### instances made -/
def PostI (g : G) (x : Addr) (r : Res D) (Q : VK) : Prop :=
  match r with
  | .ok d => ∀ F' H' o, Ext g.F0 g.H0 F' H' → Same F' H' → F' x = none → H' x = some o → Cell g.w F' d o → Q .non H'
  | .exc c ns ds => Raise g c ns ds
  | .bad => False
def liftI (w : Wd) (c : Str) (ks : List Kd) (f : List D → Res D) : Sp := fun vs H Q E => ∃ Hb x dx us F ds, vs = .ref x :: us ∧ Hb x = none ∧ Hb dx = none ∧ dx ≠ x ∧ H = upd (upd Hb dx (.own x)) x (.ins (w.ct c) dx []) ∧
  Same F Hb ∧ ROs ⟨w, F, Hb, E⟩ Hb F Hb (ks.map Kd.arg) ds us ∧ PostI ⟨w, F, Hb, E⟩ x (f ds) Q
theorem ve_make {C : Str} (M : Mk X.K (g.w.ct C) f) (Fk : FnOk X.prog X.w X.K X.mg X.base (L2.CX X.prog X.w) n f fd ps (liftI g.w C ks ef)) (hr : Room (n + 1) X.A) (hm : X.mg x = some (.ref (g.w.ct C))) (hb : Binds X.K fd ps []) (hx : Passes (L2.CX X.prog X.w) X g.E)
    (ha : PA X (e :: es) (lowA g κ (ks.map Kd.arg) fs)) (hg : Gl X x := by rfl) (hdb : (x == ("__debug__" : Str)) = false := by decide)
    (he : starEach (e :: es) X.env = (false, eval e X.env) :: starEach es X.env := by rfl) (hpl : (backTo pos (starEach es X.env)).any (·.1) = false := by rfl) : PE X (.Call (.Name x p) (e :: es) [] pos) (lowE g κ .im (vA ef fs)) := by
  refine (pe_make M Fk hr hg hm hb .nil hx ha hdb he hpl).weak fun σ H Q ⟨F, O, δ, N, p⟩ => ?_
  refine ⟨F, O, δ, N, Post.seqA p fun ds vs F1 H1 x s r q => ?_⟩
  intro y dx hy hdx hne
  refine ⟨H1, y, dx, vs, F1, ds, by rw [List.append_nil], hy, hdx, hne, rfl, s, ROs.args (by rfl) r, ?_⟩
  cases e : ef ds with
  | ok d =>
    rw [e] at q
    intro F' H' o x' s' h1 h2 h3
    refine ⟨rfl, ?_⟩
    exact q _ (upd F' y o) H' (x'.lay h2 h1 hy) (Same.lay s' h2) ((h3.mono (same_upd h1)).rep upd_same)
  | exc c ns ds' =>
    rw [e] at q
    exact Raise.call (N.e.trans x) q
  | bad => rw [e] at q; exact q
end
end VL

namespace VL
open PySem PySem.Spec L2

/-! ### the slots -/
section
variable {g : G} {κ : List Kd} {F : Hp} {O : Addr → Option Nat} {H : Hp} {σ : L2.St} {δ : DSt}
theorem Env.lt (N : Env g κ F O H σ δ) {i : Nat} {k : Kd} (h : κ[i]? = some k) : i < σ.length := by
  have := (List.getElem?_eq_some_iff.mp h).1
  rw [N.lk] at this
  exact this
theorem Env.set (N : Env g κ F O H σ δ) {i : Nat} {k : Kd} {d : D} {v : V} (hk : κ[i]? = some k) (h : Sl g F O H i k d v) : Env g κ F O H (σ.set i (some v)) (δ.set i (some d)) := by
  have hi := N.lt hk
  refine ⟨N.e, N.s, N.o, by rw [List.length_set, List.length_set, N.l], by rw [List.length_set, N.lk], fun j k' d' h1 h2 => ?_⟩
  by_cases e : j = i
  · subst e
    rw [hk] at h1
    cases h1
    rw [List.getElem?_set_self (by rw [N.l]; exact hi)] at h2
    cases h2
    exact ⟨v, List.getElem?_set_self hi, h⟩
  · rw [List.getElem?_set_ne (Ne.symm e)] at h2
    obtain ⟨v', e1, e2⟩ := N.sl j k' d' h1 h2
    exact ⟨v', by rw [List.getElem?_set_ne (Ne.symm e)]; exact e1, e2⟩
/-- a new cell becomes the slot's own -/
theorem Env.own (N : Env g κ F O H σ δ) {i : Nat} {a : Addr} {u : HO} (h0 : g.H0 a = none) (hf : F a = none) (hu : H a = some u) (ho : ∀ j, O a = some j → False) : Env g κ F (fun b => if b = a then some i else O b) H σ δ := by
  refine ⟨N.e, N.s, fun b j h => ?_, N.l, N.lk, fun j k d h1 h2 => ?_⟩
  · by_cases e : b = a
    · rw [e]; exact ⟨h0, hf, u, hu⟩
    · simp only [e, if_false] at h; exact N.o b j h
  · obtain ⟨v, e1, e2⟩ := N.sl j k d h1 h2
    refine ⟨v, e1, ?_⟩
    have keep : ∀ {b : Addr} {m : Nat}, O b = some m → (if b = a then some i else O b) = some m := fun {b m} q => by
      have e : b ≠ a := fun e => ho m (e ▸ q)
      rw [if_neg e]; exact q
    cases k with
    | im => exact e2
    | ow =>
      obtain ⟨m, b, o, e, h3, h4, h5⟩ := e2
      exact ⟨m, b, o, e, keep h3, h4, h5⟩
    | ln => exact e2
    | bo => exact e2
    | is =>
      obtain ⟨I, h3, h4, h5⟩ := e2
      exact ⟨I, h3, fun b o q => keep (h4 b o q), h5⟩
    | xx => trivial
    | me y =>
      obtain ⟨e, h3, r⟩ := e2
      exact ⟨e, keep h3, r⟩
/-- an own cell is written -/
theorem Env.write (N : Env g κ F O H σ δ) {i : Nat} {a : Addr} {o : HO} {d : D} (hi : i < σ.length) (ha : O a = some i) (hs : ∀ k v, κ[i]? = some k → σ[i]? = some (some v) → Sl g F O (upd H a o) i k d v) (hd : ∃ d0, δ[i]? = some (some d0)) :
    Env g κ F O (upd H a o) σ (δ.set i (some d)) := by
  obtain ⟨o1, o2, u, o3⟩ := N.o a i ha
  have ne : ∀ {b : Addr} {z : HO} {H1 : Hp}, H1 a = none → H1 b = some z → b ≠ a := fun {b z H1} h h' e => by rw [e, h] at h'; cases h'
  have sm : ∀ {H1 : Hp}, H1 a = none → Same H1 H → Same H1 (upd H a o) := fun {H1} h h' b z q => by rw [upd_ne (ne h q)]; exact h' b z q
  refine ⟨⟨N.e.f, sm o1 N.e.h, N.e.n⟩, sm o2 N.s, fun b j h => ?_, by rw [List.length_set, N.l], N.lk, fun j k d' h1 h2 => ?_⟩
  · obtain ⟨q1, q2, z, q3⟩ := N.o b j h
    refine ⟨q1, q2, ?_⟩
    by_cases e : b = a
    · rw [e]; exact ⟨o, upd_same⟩
    · exact ⟨z, by rw [upd_ne e]; exact q3⟩
  · by_cases e : j = i
    · subst e
      rw [List.getElem?_set_self (by rw [N.l]; exact hi)] at h2
      cases h2
      obtain ⟨d0, h3⟩ := hd
      obtain ⟨v, e1, _⟩ := N.sl j k d0 h1 h3
      exact ⟨v, e1, hs k v h1 e1⟩
    · rw [List.getElem?_set_ne (Ne.symm e)] at h2
      obtain ⟨v, e1, e2⟩ := N.sl j k d' h1 h2
      refine ⟨v, e1, ?_⟩
      have nj : ∀ {b : Addr}, O b = some j → b ≠ a := fun {b} q z => by rw [z, ha] at q; cases q; exact e rfl
      cases k with
      | im => exact e2
      | ow =>
        obtain ⟨m, b, o', e', h3, h4, h5⟩ := e2
        exact ⟨m, b, o', e', h3, by rw [upd_ne (nj h3)]; exact h4, h5⟩
      | ln => exact e2
      | bo => exact e2
      | is =>
        obtain ⟨I, h3, h4, h5⟩ := e2
        exact ⟨I, fun b z q => by rw [upd_ne (nj (h4 b z q))]; exact h3 b z q, h4, h5⟩
      | xx => trivial
      | me y =>
        obtain ⟨e', h3, o', h4, r⟩ := e2
        exact ⟨e', h3, o', by rw [upd_ne (nj h3)]; exact h4, r⟩
/-- the slot's own cell is frozen -/
theorem Env.freeze (N : Env g κ F O H σ δ) {i : Nat} (hk : κ[i]? = some .ow) : ∃ F' O', Same F F' ∧ Env g (κ.set i .im) F' O' H σ δ := by
  have hi := N.lt hk
  have lk : (κ.set i .im).length = σ.length := by rw [List.length_set, N.lk]
  by_cases hd : ∃ d, δ[i]? = some (some d)
  · obtain ⟨d, hd⟩ := hd
    obtain ⟨v, e1, m, a, o, e, h1, h2, h3⟩ := N.sl i .ow d hk hd
    obtain ⟨o1, o2, _⟩ := N.o a i h1
    have sF : Same F (upd F a o) := same_upd o2
    refine ⟨upd F a o, fun b => if O b = some i then none else O b, sF, N.e.lay h2 o2 o1, Same.lay N.s h2, fun b j h => ?_, N.l, lk, fun j k d' q1 q2 => ?_⟩
    · by_cases e : O b = some i
      · simp only [e, if_true] at h; cases h
      · simp only [e, if_false] at h
        obtain ⟨p1, p2, p3⟩ := N.o b j h
        have hb : b ≠ a := fun z => e (z ▸ h1)
        exact ⟨p1, by rw [upd_ne hb]; exact p2, p3⟩
    · by_cases ej : j = i
      · subst ej
        rw [List.getElem?_set_self (by rw [N.lk]; exact hi)] at q1
        cases q1
        rw [hd] at q2
        cases q2
        subst e
        exact ⟨_, e1, (h3.mono sF).rep upd_same⟩
      · rw [List.getElem?_set_ne (Ne.symm ej)] at q1
        obtain ⟨v', e1', e2'⟩ := N.sl j k d' q1 q2
        refine ⟨v', e1', ?_⟩
        have keep : ∀ {b : Addr}, O b = some j → (if O b = some i then none else O b) = some j := fun {b} q => by
          rw [if_neg (fun z => ej (Option.some.inj (q.symm.trans z)))]; exact q
        cases k with
        | im => exact Rep.mono sF _ _ e2'
        | ow =>
          obtain ⟨m, b, o', e', h3, h4, h5⟩ := e2'
          exact ⟨m, b, o', e', keep h3, h4, h5.mono sF⟩
        | ln => exact Shl.mono sF (Same.refl _) e2'
        | bo => exact e2'
        | is =>
          obtain ⟨I, h3, h4, h5⟩ := e2'
          exact ⟨I, h3, fun b z q => keep (h4 b z q), h5⟩
        | xx => trivial
        | me y =>
          obtain ⟨e', h3, o', h4, h5, m⟩ := e2'
          exact ⟨e', keep h3, o', h4, h5.mono sF, m⟩
  · refine ⟨F, O, Same.refl _, N.e, N.s, N.o, N.l, lk, fun j k d' q1 q2 => ?_⟩
    by_cases ej : j = i
    · subst ej; exact absurd ⟨d', q2⟩ hd
    · rw [List.getElem?_set_ne (Ne.symm ej)] at q1
      exact N.sl j k d' q1 q2
/-- the slot is read no more -/
theorem Env.kill (N : Env g κ F O H σ δ) (i : Nat) : Env g (κ.set i .xx) F O H σ δ := by
  refine ⟨N.e, N.s, N.o, N.l, by rw [List.length_set, N.lk], fun j k d' q1 q2 => ?_⟩
  by_cases ej : j = i
  · subst ej
    by_cases hj : j < κ.length
    · rw [List.getElem?_set_self hj] at q1
      cases q1
      have hd : ∃ o, κ[j]? = some o := ⟨κ[j], List.getElem?_eq_getElem hj⟩
      obtain ⟨o, ho⟩ := hd
      obtain ⟨v, e1, _⟩ := N.sl j o d' ho q2
      exact ⟨v, e1, trivial⟩
    · rw [List.getElem?_set, if_pos rfl, if_neg hj] at q1
      cases q1
  · rw [List.getElem?_set_ne (Ne.symm ej)] at q1
    exact N.sl j k d' q1 q2
end

/-- what a body's context has -/
structure Okx (X : Cx) (g : G) : Prop where
  K : X.K = g.w.K
  calm : X.calm = true
  nd : X.N.Nodup
  own : PassesOwn (model X.prog X.w) X.A X.env X.xe
  ps : Passes (L2.CX X.prog X.w) X g.E

section
variable {X : Cx} {g : G} {κ κ1 κ2 kb kc : List Kd} {e c : Expr} {f : DE} {k : Rk} {pos : Pos} {st : Stmt} {sts : List Stmt}

/-! ### statements -/
def sNil : DS := fun δ => .ok (.nx δ)
def sSeq (a b : DS) : DS := fun δ => (a δ).bind fun o => match o with
  | .nx δ' => b δ'
  | o => .ok o
theorem vs_nil : PSs X [] (lowS g κ ⟨κ, kb, kc⟩ sNil) := pss_nil.weak fun D σ H ⟨F, O, δ, N, p⟩ => p F O H σ (Same.refl _) N
theorem vs_cons {K2 : Ks} {a b : DS} (h1 : PS X st (lowS g κ ⟨κ1, K2.b, K2.c⟩ a)) (h2 : PSs X sts (lowS g κ1 K2 b)) : PSs X (st :: sts) (lowS g κ K2 (sSeq a b)) := by
  refine (pss_cons h1 h2).weak fun D σ H ⟨F, O, δ, N, p⟩ => ?_
  refine ⟨F, O, δ, N, ?_⟩
  unfold sSeq at p
  cases q : a δ with
  | ok o =>
    rw [q] at p
    cases o with
    | nx δ' => exact fun F' O' H' σ' s N' => ⟨F', O', δ', N', p.mono s⟩
    | rt d => exact p
    | bk δ' => exact p
    | ct δ' => exact p
  | exc c ns ds => rw [q] at p; exact p
  | bad => rw [q] at p; exact p
theorem vs_one {K2 : Ks} {a : DS} (h1 : PS X st (lowS g κ K2 a)) : PSs X [st] (lowS g κ K2 a) := pss_one h1
/-- a slot's own cell is frozen ahead -/
theorem vs_fz (i : Nat) {K2 : Ks} {a : DS} (h : PSs X sts (lowS g κ1 K2 a)) (hk : κ[i]? = some .ow := by rfl) (he : κ.set i .im = κ1 := by rfl) : PSs X sts (lowS g κ K2 a) := by
  refine h.weak fun D σ H ⟨F, O, δ, N, p⟩ => ?_
  obtain ⟨F', O', s, N'⟩ := N.freeze hk
  rw [he] at N'
  exact ⟨F', O', δ, N', p.mono s⟩
theorem vs_kill (i : Nat) {K2 : Ks} {a : DS} (h : PSs X sts (lowS g κ1 K2 a)) (he : κ.set i .xx = κ1 := by rfl) : PSs X sts (lowS g κ K2 a) := by
  refine h.weak fun D σ H ⟨F, O, δ, N, p⟩ => ?_
  have N' := N.kill i
  rw [he] at N'
  exact ⟨F, O, δ, N', p⟩
/-- .. and behind -/
theorem PostS.killed {K2 : Ks} {F : Hp} {r : Res Out} {D : Ends} (i : Nat) (he : κ.set i .xx = κ1) (p : PostS g ⟨κ1, kb, kc⟩ F r D) : PostS g ⟨κ, kb, kc⟩ F r D := by
  cases r with
  | ok o =>
    cases o with
    | nx δ' =>
      intro F' O' H' σ' s N
      have N' := N.kill i
      rw [he] at N'
      exact p F' O' H' σ' s N'
    | rt d => exact p
    | bk δ' => exact p
    | ct δ' => exact p
  | exc c ns ds => exact p
  | bad => exact p
theorem vs_killN (i : Nat) {a : DS} (h : PSs X sts (lowS g κ2 ⟨κ, kb, kc⟩ a)) (he : κ.set i .xx = κ1 := by rfl) : PSs X sts (lowS g κ2 ⟨κ1, kb, kc⟩ a) :=
  h.weak fun D σ H ⟨F, O, δ, N, p⟩ => ⟨F, O, δ, N, PostS.killed (K2 := ⟨κ, kb, kc⟩) i he p⟩
theorem vs_fzN (i : Nat) {a : DS} (h : PSs X sts (lowS g κ2 ⟨κ, kb, kc⟩ a)) (hk : κ[i]? = some .ow := by rfl) (he : κ.set i .im = κ1 := by rfl) : PSs X sts (lowS g κ2 ⟨κ1, kb, kc⟩ a) := by
  refine h.weak fun D σ H ⟨F, O, δ, N, p⟩ => ⟨F, O, δ, N, ?_⟩
  cases q : a δ with
  | ok o =>
    rw [q] at p
    cases o with
    | nx δ' =>
      intro F' O' H' σ' s N
      obtain ⟨F2, O2, s2, N'⟩ := N.freeze hk
      rw [he] at N'
      exact p F2 O2 H' σ' (s.trans s2) N'
    | rt d => exact p
    | bk δ' => exact p
    | ct δ' => exact p
  | exc c ns ds => rw [q] at p; exact p
  | bad => rw [q] at p; exact p

def sSet (i : Nat) (f : DE) : DS := fun δ => (f δ).bind fun d => .ok (.nx (δ.set i (some d)))
/-- how a value goes into a slot -/
def fits : Rk → Kd → Bool
  | .im, .im => true
  | .bo, .bo => true
  | .ls, .ln => true
  | _, .xx => true
  | _, _ => false
theorem RO.sl {Hs F H : Hp} {O : Addr → Option Nat} {i : Nat} {kd : Kd} {d : D} {v : V} (hf : fits k kd = true) (r : RO g Hs F H k d v) : Sl g F O H i kd d v := by
  cases kd with
  | xx => trivial
  | im => cases k <;> first | exact r | cases hf
  | bo => cases k <;> first | exact r | cases hf
  | ln => cases k <;> first | exact r | cases hf
  | ow => cases k <;> cases hf
  | is => cases k <;> cases hf
  | me _ => cases k <;> cases hf
theorem vs_set (i : Nat) {x : Str} {pos' : Pos} {kd : Kd} (he : PE X e (lowE g κ k f)) (ox : Okx X g) (hk : κ[i]? = some kd := by rfl) (hf : fits k kd = true := by rfl) (hi : X.N[i]? = some x := by rfl)
    (hx : Loc X.env.scope x := by first | exact Or.inl rfl | exact Or.inr rfl) (hs : swapsWith e (some (.Name x pos')) pos.line X.env = pure false := by rfl)
    (hfn : X.fn x = true ∨ X.env.scope.names.lookup x = some .local := by first | exact .inl rfl | exact .inr rfl) : PS X (.Assign [.Name x pos'] e pos) (lowS g κ ⟨κ, kb, kc⟩ (sSet i f)) := by
  refine (ps_set ox.nd hi hx he hs hfn).weak fun D σ H ⟨F, O, δ, N, p⟩ => ?_
  refine ⟨F, O, δ, N, PostS.seq p fun d v F1 H1 x1 s1 r1 p1 => ?_⟩
  exact p1 F1 O H1 _ (Same.refl _) ((N.ext x1 s1).set hk (r1.sl hf))
theorem vs_setOw (i : Nat) {x : Str} {pos' : Pos} (he : PE X e (lowE g κ .fr f)) (ox : Okx X g) (hk : κ[i]? = some .ow := by rfl) (hi : X.N[i]? = some x := by rfl)
    (hx : Loc X.env.scope x := by first | exact Or.inl rfl | exact Or.inr rfl) (hs : swapsWith e (some (.Name x pos')) pos.line X.env = pure false := by rfl)
    (hfn : X.fn x = true ∨ X.env.scope.names.lookup x = some .local := by first | exact .inl rfl | exact .inr rfl) : PS X (.Assign [.Name x pos'] e pos) (lowS g κ ⟨κ, kb, kc⟩ (sSet i f)) := by
  refine (ps_set ox.nd hi hx he hs hfn).weak fun D σ H ⟨F, O, δ, N, p⟩ => ?_
  refine ⟨F, O, δ, N, PostS.seq p fun d v F1 H1 x1 s1 r1 p1 => ?_⟩
  obtain ⟨m, a, o, e, h1, h2, h3, h4⟩ := r1
  have N1 := N.ext x1 s1
  have h0 : g.H0 a = none := N.e.h.free h1
  have N2 := N1.own (i := i) h0 h2 h3 fun j hj => by
    obtain ⟨_, _, u, hu⟩ := N.o a j hj
    rw [h1] at hu
    cases hu
  exact p1 F1 _ H1 _ (Same.refl _) (N2.set hk ⟨m, a, o, e, by simp, h3, h4⟩)

def sRet (f : DE) : DS := fun δ => (f δ).bind fun d => .ok (.rt d)
theorem vs_ret {K2 : Ks} (he : PE X e (lowE g κ .im f)) : PS X (.Return (some e) pos) (lowS g κ K2 (sRet f)) := by
  refine (ps_ret he).weak fun D σ H ⟨F, O, δ, N, p⟩ => ?_
  exact ⟨F, O, δ, N, PostS.seq p fun d v F1 H1 x1 s1 r1 p1 => p1 F1 H1 v (N.e.trans x1) s1 r1⟩
theorem vs_retN {K2 : Ks} : PS X (.Return none pos) (lowS g κ K2 (sRet (vC .non))) :=
  ps_retN.weak fun D σ H ⟨F, O, δ, N, p⟩ => p F H .non N.e N.s rfl
def sExpr (f : DE) : DS := fun δ => (f δ).bind fun _ => .ok (.nx δ)
theorem vs_expr (he : PE X e (lowE g κ k f)) (hs : swapsWith e none pos.line X.env = pure false := by rfl) : PS X (.Expr e pos) (lowS g κ ⟨κ, kb, kc⟩ (sExpr f)) := by
  refine (ps_expr he hs).weak fun D σ H ⟨F, O, δ, N, p⟩ => ?_
  exact ⟨F, O, δ, N, PostS.seq p fun d v F1 H1 x1 s1 r1 p1 => p1 F1 O H1 _ (Same.refl _) (N.ext x1 s1)⟩
theorem vs_pass : PS X (.Pass pos) (lowS g κ ⟨κ, kb, kc⟩ sNil) := ps_pass.weak fun D σ H ⟨F, O, δ, N, p⟩ => p F O H σ (Same.refl _) N
def sBreak : DS := fun δ => .ok (.bk δ)
def sCont : DS := fun δ => .ok (.ct δ)
theorem vs_break {kn : List Kd} : PS X (.Break pos) (lowS g κ ⟨kn, κ, kc⟩ sBreak) := ps_break.weak fun D σ H ⟨F, O, δ, N, p⟩ => p F O H σ (Same.refl _) N
theorem vs_continue {kn : List Kd} : PS X (.Continue pos) (lowS g κ ⟨kn, kb, κ⟩ sCont) := ps_continue.weak fun D σ H ⟨F, O, δ, N, p⟩ => p F O H σ (Same.refl _) N
def sIf (t : DT) (a b : DS) : DS := fun δ => (t δ).bind fun q => if q then a δ else b δ
theorem vs_if {K2 : Ks} {t : DT} {as bs : List Stmt} {a b : DS} (hc : PT X c (lowT g κ t)) (ha : PSs X as (lowS g κ K2 a)) (hb : PSs X bs (lowS g κ K2 b)) : PS X (.If c as bs pos) (lowS g κ K2 (sIf t a b)) := by
  refine (ps_if hc ha hb).weak fun D σ H ⟨F, O, δ, N, p⟩ => ?_
  refine ⟨F, O, δ, N, PostS.seqT p fun q F1 H1 x1 s1 p1 => ?_⟩
  cases q with
  | true => rw [if_pos rfl]; exact ⟨F1, O, δ, N.ext x1 s1, p1⟩
  | false => rw [if_neg Bool.false_ne_true]; exact ⟨F1, O, δ, N.ext x1 s1, p1⟩

/-! ### targets -/
abbrev DG := D → DSt → Res DSt
def PostG (g : G) (κ : List Kd) (F : Hp) (r : Res DSt) (Q : L2.St → Hp → Prop) : Prop :=
  match r with
  | .ok δ => ∀ F' O H σ, Same F F' → Env g κ F' O H σ δ → Q σ H
  | .exc c ns ds => Raise g c ns ds
  | .bad => False
def lowG (g : G) (κ : List Kd) (k : Rk) (t : DG) : TG := fun v σ H Q => ∃ Hs F O δ d, Env g κ F O H σ δ ∧ RO g Hs F H k d v ∧ PostG g κ F (t d δ) Q
theorem _root_.L2.PG.weak {X : Cx} {e : Expr} {t t' : TG} (h : PG X e t) (i : ∀ v σ H Q, t' v σ H Q → t v σ H Q) : PG X e t' := ⟨fun pins s σ H v u Q I r q => h.run pins s σ H v u Q I r (i _ _ _ _ q)⟩
def tN (i : Nat) : DG := fun d δ => .ok (δ.set i (some d))
theorem vg_name (i : Nat) {x : Str} {kd : Kd} (ox : Okx X g) (hk : κ[i]? = some kd := by rfl) (hf : fits k kd = true := by rfl) (hi : X.N[i]? = some x := by rfl) (hx : Loc X.env.scope x := by first | exact Or.inl rfl | exact Or.inr rfl)
    (hfn : X.fn x = true ∨ X.env.scope.names.lookup x = some .local := by first | exact .inl rfl | exact .inr rfl) : PG X (.Name x pos) (lowG g κ k (tN i)) := by
  refine (pg_name ox.nd hi hx hfn).weak fun v σ H Q ⟨Hs, F, O, δ, d, N, r, p⟩ => ?_
  exact p F O H _ (Same.refl _) (N.set hk (r.sl hf))
/-- several targets: the items one by one -/
abbrev DGs := List D → DSt → Res DSt
def lowGs (g : G) (κ : List Kd) (k : Rk) (t : DGs) : TGs := fun vs σ H Q => ∃ F O δ ds R, Env g κ F O H σ δ ∧ Reps g.w R ds vs ∧ (∀ d v, Rep g.w R d v → ∀ F' H', Same F F' → Same H H' → RO g H F' H' k d v) ∧ PostG g κ F (t ds δ) Q
def tsNil : DGs := fun ds δ => match ds with
  | [] => .ok δ
  | _ => .bad
def tsCons (t : DG) (u : DGs) : DGs := fun ds δ => match ds with
  | d :: r => (t d δ).bind fun δ' => u r δ'
  | [] => .bad
theorem _root_.L2.PGs.weak {X : Cx} {e : List Expr} {t t' : TGs} (h : PGs X e t) (i : ∀ v σ H Q, t' v σ H Q → t v σ H Q) : PGs X e t' := ⟨fun pins s σ H v u Q I r q => h.run pins s σ H v u Q I r (i _ _ _ _ q)⟩
theorem vgs_nil : PGs X [] (lowGs g κ k tsNil) := pgs_nil.weak fun vs σ H Q ⟨F, O, δ, ds, R, N, r, _, p⟩ => by
  cases ds with
  | nil =>
    cases (show vs = [] from r)
    exact ⟨rfl, p F O H σ (Same.refl _) N⟩
  | cons d ds => exact p.elim
end
/-- a slot stored: the heap stays -/
theorem vgs_name {X : Cx} {g : G} {κ : List Kd} {k : Rk} {pos : Pos} (i : Nat) {x : Str} {kd : Kd} {es : List Expr} {u : DGs} (ox : Okx X g) (h2 : PGs X es (lowGs g κ k u)) (hk : κ[i]? = some kd := by rfl) (hf : fits k kd = true := by rfl) (hi : X.N[i]? = some x := by rfl)
    (hx : Loc X.env.scope x := by first | exact Or.inl rfl | exact Or.inr rfl) (hfn : X.fn x = true ∨ X.env.scope.names.lookup x = some .local := by first | exact .inl rfl | exact .inr rfl)
    (hs : (assignEach (.Name x pos :: es) X.env).map (·.2) = assign (.Name x pos) X.env :: (assignEach es X.env).map (·.2) := by rfl) : PGs X (.Name x pos :: es) (lowGs g κ k (tsCons (tN i) u)) := by
  refine (pgs_cons (pg_name ox.nd hi hx hfn) h2 hs).weak fun vs σ H Q ⟨F, O, δ, ds, R, N, r, ro, p⟩ => ?_
  cases ds with
  | nil => exact p.elim
  | cons d ds =>
    obtain ⟨v, vr, rfl, h3, h4⟩ := r
    refine ⟨v, vr, rfl, ?_⟩
    show lowGs g κ k u vr (σ.set i (some v)) H Q
    exact ⟨F, O, δ.set i (some d), ds, R, N.set hk ((ro d v h3 F H (Same.refl _) (Same.refl _)).sl hf), h4, ro, p⟩

section
variable {X : Cx} {g : G} {κ κ1 κ2 kb kc : List Kd} {e c : Expr} {f : DE} {k : Rk} {pos : Pos} {st : Stmt} {sts : List Stmt}
def tTupD (t : DGs) : DG := fun d δ => match seqOf d with
  | some ds => t ds δ
  | none => .bad
theorem _root_.L2.PG.or {X : Cx} {e : Expr} {t t' : TG} (h : PG X e t) (h' : PG X e t') : PG X e (fun v σ H Q => t v σ H Q ∨ t' v σ H Q) := ⟨fun pins s σ H v u Q I r q => by
  rcases q with q | q
  · exact h.run pins s σ H v u Q I r q
  · exact h'.run pins s σ H v u Q I r q⟩
/-- the items of a value held as k are held as k.it, however the heap grows -/
theorem it_stay {F H : Hp} (d : D) (v : V) (hk : k ≠ .rd) (s : Same F H) (h : Rep g.w (reg g F H k) d v) (F' H' : Hp) (sf : Same F F') (sh : Same H H') (Hs : Hp) : RO g Hs F' H' k.it d v := by
  cases k with
  | im => exact Rep.mono sf _ _ h
  | ls => exact Rep.mono sf _ _ h
  | sh => exact Rep.mono sf _ _ h
  | fr => exact Rep.mono sf _ _ h
  | bo => exact h
  | rd => exact absurd rfl hk
theorem tsLen {u : DGs} (n : Nat) (hu : ∀ ds δ, ds.length ≠ n → u ds δ = .bad) {ds : List D} {δ : DSt} {F : Hp} {Q : L2.St → Hp → Prop} (p : PostG g κ F (u ds δ) Q) : ds.length = n := by
  by_cases e : ds.length = n
  · exact e
  · rw [hu ds δ e] at p; exact p.elim
theorem vg_tup {es : List Expr} {j : Nat} {n : Nat} {u : DGs} (ox : Okx X g) (h : PGs X es (lowGs g κ k.it u)) (hu : ∀ ds δ, ds.length ≠ n → u ds δ = .bad) (hk : k ≠ .rd := by intro h; cases h)
    (hn : (assignEach es X.env).length = n := by rfl) (hst : (assignEach es X.env).findIdx? (·.1) = none := by rfl) : PG X (.Tuple es j pos) (lowG g κ k (tTupD u)) := by
  refine ((pg_tup ox.calm h hn hst).or (pg_unl ox.calm h hn hst)).weak fun v σ H Q ⟨Hs, F, O, δ, d, N, r, p⟩ => ?_
  unfold tTupD at p
  have key : ∀ (ds : List D) (vs : List V), Reps g.w (reg g F H k) ds vs → PostG g κ F (u ds δ) Q → vs.length = n ∧ lowGs g κ k.it u vs σ H Q := fun ds vs h2 p =>
    ⟨by rw [← h2.len]; exact tsLen n hu p, F, O, δ, ds, _, N, h2, fun d v q F' H' sf sh => it_stay d v hk N.s q F' H' sf sh H, p⟩
  cases d with
  | lst ds =>
    obtain ⟨a, o, e, h1, vs, e2, h2⟩ := RO.cell N.s N.e.h rfl r
    subst e e2
    obtain ⟨q1, q2⟩ := key ds vs h2 p
    exact .inr ⟨a, vs, rfl, SqL.of h1, q1, q2⟩
  | tup ds =>
    obtain ⟨a, o, e, h1, vs, e2, h2⟩ := RO.cell N.s N.e.h rfl r
    subst e e2
    obtain ⟨q1, q2⟩ := key ds vs h2 p
    exact .inl ⟨a, vs, rfl, SqT.of h1, q1, q2⟩
  | _ => exact p.elim
/-- target = value -/
def sAsg (f : DE) (t : DG) : DS := fun δ => (f δ).bind fun d => (t d δ).bind fun δ' => .ok (.nx δ')
theorem vs_asg {tg : Expr} {t : DG} (he : PE X e (lowE g κ k f)) (hg : PG X tg (lowG g κ k t)) (hs : swapsWithSole [tg] e pos.line X.env = pure false := by rfl) (hw : swappedStores [tg] e X.env = pure none := by rfl)
    (h1 : (assignEach [tg] X.env).map (·.2) = [assign tg X.env] := by rfl) : PS X (.Assign [tg] e pos) (lowS g κ ⟨κ, kb, kc⟩ (sAsg f t)) := by
  refine (ps_asg he hg hs hw h1).weak fun D σ H ⟨F, O, δ, N, p⟩ => ?_
  refine ⟨F, O, δ, N, PostS.seq p fun d v F1 H1 x1 s1 r1 p1 => ?_⟩
  refine ⟨H, F1, O, δ, d, N.ext x1 s1, r1, ?_⟩
  cases q : t d δ with
  | ok δ' => rw [q] at p1; exact p1
  | exc c ns ds => rw [q] at p1; exact p1
  | bad => rw [q] at p1; exact p1

/-! ### loops -/
def sLoop (t : DG) (b : DS) : List D → DS
  | [], δ => .ok (.nx δ)
  | d :: r, δ => (t d δ).bind fun δ1 => (b δ1).bind fun o => match o with
    | .nx δ2 => sLoop t b r δ2
    | .ct δ2 => sLoop t b r δ2
    | .bk δ2 => .ok (.nx δ2)
    | .rt d => .ok (.rt d)
def sFor (f : DE) (t : DG) (b : DS) : DS := fun δ => (f δ).bind fun d => match seqOf d with
  | some ds => sLoop t b ds δ
  | none => .bad
theorem _root_.L2.PI.or {X : Cx} {tg iter : Expr} {wi wi' : TI} (h : PI X tg iter wi) (h' : PI X tg iter wi') : PI X tg iter (fun σ H R => wi σ H R ∨ wi' σ H R) := ⟨fun pins s σ H R I q => by
  rcases q with q | q
  · exact h.run pins s σ H R I q
  · exact h'.run pins s σ H R I q⟩
/-- the loop's turn over the rest of the items -/
theorem loop_turn {t : DG} {b : DS} {d : D} {r : List D} {ki : Rk} {F : Hp} {O : Addr → Option Nat} {δ : DSt} {H : Hp} {σ : L2.St} {De : Ends} {v : V} {g0 : TG} {tb : TS} {Hs : Hp}
    (hg0 : ∀ v σ H Q, lowG g κ ki t v σ H Q → g0 v σ H Q) (hb0 : ∀ D σ H, lowS g κ ⟨κ, κ, κ⟩ b D σ H → tb D σ H)
    (N : Env g κ F O H σ δ) (ro : RO g Hs F H ki d v) (p : PostS g ⟨κ, kb, kc⟩ F (sLoop t b (d :: r) δ) De) (Nx : L2.St → Hp → Prop)
    (nx : ∀ F' O' H' σ' δ', Same F F' → Env g κ F' O' H' σ' δ' → PostS g ⟨κ, kb, kc⟩ F' (sLoop t b r δ') De → Nx σ' H') : g0 v σ H fun σ2 H2 => tb { De with nx := Nx, ct := Nx, bk := De.nx } σ2 H2 := by
  refine hg0 _ _ _ _ ⟨Hs, F, O, δ, d, N, ro, ?_⟩
  have p' : PostS g ⟨κ, kb, kc⟩ F ((t d δ).bind fun δ1 => (b δ1).bind fun o => match o with
    | .nx δ2 => sLoop t b r δ2
    | .ct δ2 => sLoop t b r δ2
    | .bk δ2 => .ok (.nx δ2)
    | .rt d => .ok (.rt d)) De := p
  cases q : t d δ with
  | ok δ1 =>
    rw [q] at p'
    intro F1 O1 H1 σ1 s1 N1
    refine hb0 _ _ _ ⟨F1, O1, δ1, N1, ?_⟩
    cases q2 : b δ1 with
    | ok o =>
      rw [Res.ok_bind, q2] at p'
      cases o with
      | nx δ2 => exact fun F2 O2 H2 σ2 s2 N2 => nx F2 O2 H2 σ2 δ2 (s1.trans s2) N2 (PostS.mono (s1.trans s2) p')
      | ct δ2 => exact fun F2 O2 H2 σ2 s2 N2 => nx F2 O2 H2 σ2 δ2 (s1.trans s2) N2 (PostS.mono (s1.trans s2) p')
      | bk δ2 => exact fun F2 O2 H2 σ2 s2 N2 => p' F2 O2 H2 σ2 (s1.trans s2) N2
      | rt d => exact p'
    | exc c ns ds => rw [Res.ok_bind, q2] at p'; exact p'
    | bad => rw [Res.ok_bind, q2] at p'; exact p'
  | exc c ns ds => rw [q] at p'; exact p'
  | bad => rw [q] at p'; exact p'
/-- where the walked list itself stands -/
def creg (g : G) (F : Hp) : Rk → Hp
  | .ls | .bo => g.H0
  | _ => F
def stab : Rk → Bool
  | .im | .ls | .bo => true
  | _ => false
theorem RO.stabCell {Hs F H : Hp} {d : D} {v : V} (hs : stab k = true) (c : d.cell = true) (h : RO g Hs F H k d v) : ∃ a o, v = .ref a ∧ creg g F k a = some o ∧ Cell g.w (reg g F H k) d o := by
  cases k with
  | im => exact Rep.toCell c h
  | ls =>
    rcases h with ⟨_, a, o, e, h1, h2⟩ | ⟨z, _⟩
    · exact ⟨a, o, e, h1, h2⟩
    · rw [c] at z; cases z
  | bo => exact Rep.toCell c h
  | sh => cases hs
  | rd => cases hs
  | fr => cases hs
theorem vs_for {tg iter : Expr} {body : List Stmt} {ki : Rk} {src : DE} {t : DG} {b : DS} (hi : PE X iter (lowE g κ ki src)) (hg : PG X tg (lowG g κ ki.it t)) (hb : PSs X body (lowS g κ ⟨κ, κ, κ⟩ b)) (ox : Okx X g) (hst : stab ki = true := by rfl)
    (hs : ∀ x, foldedSetIterable iter X.env x = pure x := by intro _; rfl) : PS X (.For tg iter body [] pos) (lowS g κ ⟨κ, kb, kc⟩ (sFor src t b)) := by
  refine (ps_for ox.own ox.calm ((pi_list hi).or (pi_tup hi)) hg hb hs).weak fun De σ H ⟨F, O, δ, N, p⟩ => ?_
  have hrd : ki ≠ .rd := fun z => by rw [z] at hst; cases hst
  unfold sFor at p
  -- over the items ds, whose values vs stand in the cell a
  have key : ∀ (ds : List D) (vs : List V) (F1 H1 : Hp), Ext F H F1 H1 → Same F1 H1 → Reps g.w (reg g F1 H1 ki) ds vs → PostS g ⟨κ, kb, kc⟩ F1 (sLoop t b ds δ) De →
      ∃ Pv : Nat → L2.St → Hp → Prop, Pv 0 σ H1 ∧ (∀ i σ H, Pv i σ H → ∃ F2, Same F1 F2 ∧ Same F2 H ∧ Same g.H0 H) ∧
        (∀ i x σ H, vs[i]? = some x → Pv i σ H → lowG g κ ki.it t x σ H fun σ2 H2 => lowS g κ ⟨κ, κ, κ⟩ b { De with nx := Pv (i + 1), ct := Pv (i + 1), bk := De.nx } σ2 H2) ∧ (∀ σ H, Pv vs.length σ H → De.nx σ H) := by
    intro ds vs F1 H1 x1 s1 hr p1
    refine ⟨fun i σ H => ∃ F2 O2 δ2, Same F1 F2 ∧ Env g κ F2 O2 H σ δ2 ∧ PostS g ⟨κ, kb, kc⟩ F2 (sLoop t b (ds.drop i) δ2) De, ⟨F1, O, δ, Same.refl _, N.ext x1 s1, p1⟩,
      fun i σ H ⟨F2, O2, δ2, h1, h2, _⟩ => ⟨F2, h1, h2.s, h2.e.h⟩, fun i x σ H hx ⟨F2, O2, δ2, h1, N2, p2⟩ => ?_, fun σ H ⟨F2, O2, δ2, h1, N2, p2⟩ => ?_⟩
    · obtain ⟨d, hd, rd⟩ := hr.getV hx
      have hlt := (List.getElem?_eq_some_iff.mp hd).1
      have e := List.drop_eq_getElem_cons hlt
      have e2 : ds[i] = d := (List.getElem?_eq_some_iff.mp hd).2
      rw [e2] at e
      rw [e] at p2
      have ro : RO g H F2 H ki.it d x := by
        cases ki with
        | im => exact Rep.mono h1 _ _ rd
        | ls => exact Rep.mono h1 _ _ rd
        | bo => exact rd
        | sh => cases hst
        | rd => cases hst
        | fr => cases hst
      exact loop_turn (fun _ _ _ _ q => q) (fun _ _ _ q => q) N2 ro p2 _ fun F' O' H' σ' δ' s' N' p' => ⟨F', O', δ', h1.trans s', N', p'⟩
    · rw [← hr.len, List.drop_length] at p2
      exact p2 F2 O2 H σ (Same.refl _) N2
  have stay : ∀ {F1 F2 H : Hp} {a : Addr} {o : HO}, creg g F1 ki a = some o → Same F1 F2 → Same F2 H → Same g.H0 H → H a = some o := fun {F1 F2 H a o} h1 h2 h3 h4 => by
    cases ki with
    | im => exact h3 _ _ (h2 _ _ h1)
    | ls => exact h4 _ _ h1
    | bo => exact h4 _ _ h1
    | sh => cases hst
    | rd => cases hst
    | fr => cases hst
  cases q : src δ with
  | ok d =>
    rw [q] at p
    cases d with
    | lst ds =>
      refine .inl ⟨F, O, δ, N, ?_⟩
      rw [q]
      intro v F1 H1 x1 s1 r1
      obtain ⟨a, o, e, h1, vs, e2, h2⟩ := r1.stabCell hst rfl
      subst e e2
      obtain ⟨Pv, p0, p1, p2, p3⟩ := key ds vs F1 H1 x1 s1 h2 (PostS.mono x1.f p)
      have N1 := N.ext x1 s1
      exact ⟨a, rfl, ⟨vs, SqL.of (stay h1 (Same.refl _) s1 N1.e.h)⟩, for_list (K := X.K) (a := a) (xs := vs) Pv p0 (fun i σ H _ hp => by
        obtain ⟨F2, k1, k2, k3⟩ := p1 i σ H hp
        exact SqL.of (stay h1 k1 k2 k3)) p2 p3⟩
    | tup ds =>
      refine .inr ⟨F, O, δ, N, ?_⟩
      rw [q]
      intro v F1 H1 x1 s1 r1
      obtain ⟨a, o, e, h1, vs, e2, h2⟩ := r1.stabCell hst rfl
      subst e e2
      obtain ⟨Pv, p0, p1, p2, p3⟩ := key ds vs F1 H1 x1 s1 h2 (PostS.mono x1.f p)
      have N1 := N.ext x1 s1
      exact ⟨a, rfl, ⟨vs, SqT.of (stay h1 (Same.refl _) s1 N1.e.h)⟩, for_tup (K := X.K) (a := a) (xs := vs) Pv p0 (fun i σ H _ hp => by
        obtain ⟨F2, k1, k2, k3⟩ := p1 i σ H hp
        exact SqT.of (stay h1 k1 k2 k3)) p2 p3⟩
    | _ => exact p.elim
  | exc c ns ds => rw [q] at p; exact .inl ⟨F, O, δ, N, by rw [q]; exact p⟩
  | bad => rw [q] at p; exact p.elim
/-- over ints lo, lo + 1, .. -/
def rangeD (lo : Int) (n : Nat) : List D := (List.range n).map fun m => D.int (lo + (m : Nat))
theorem loop_range {t : DG} {b : DS} {lo : Int} {n : Nat} {F1 : Hp} {O : Addr → Option Nat} {δ : DSt} {σ : L2.St} {H1 : Hp} {De : Ends} (N1 : Env g κ F1 O H1 σ δ) (p1 : PostS g ⟨κ, kb, kc⟩ F1 (sLoop t b (rangeD lo n) δ) De) :
    ∃ W : Nat → Nat → L2.St → Hp → Prop, (∃ m, W 0 m σ H1) ∧ ∀ i m σ H, W i m σ H →
      ((Itr lo n).stop i H ∧ De.nx σ H) ∨ ((Itr lo n).go i H ∧ ∃ N : L2.St → Hp → Prop, (∀ σ' H', N σ' H' → ∃ m', m' < m ∧ W (i + 1) m' σ' H') ∧ ∀ x H', (Itr lo n).yld i H x H' → lowG g κ .im t x σ H' fun σ2 H2 => lowS g κ ⟨κ, κ, κ⟩ b { De with nx := N, ct := N, bk := De.nx } σ2 H2) := by
  refine for_range (lo := lo) (n := n) (g := lowG g κ .im t) (tb := lowS g κ ⟨κ, κ, κ⟩ b) (D := De) (σ := σ) (H := H1)
    (fun i σ H => ∃ F2 O2 δ2, Env g κ F2 O2 H σ δ2 ∧ PostS g ⟨κ, kb, kc⟩ F2 (sLoop t b ((rangeD lo n).drop i) δ2) De) ⟨F1, O, δ, N1, p1⟩ (fun i σ H hi ⟨F2, O2, δ2, N2, p2⟩ => ?_) (fun σ H ⟨F2, O2, δ2, N2, p2⟩ => ?_)
  · have hlt : i < (rangeD lo n).length := by rw [rangeD, List.length_map, List.length_range]; exact hi
    have e := List.drop_eq_getElem_cons hlt
    have e2 : (rangeD lo n)[i] = .int (lo + (i : Nat)) := by simp [rangeD]
    rw [e2] at e
    rw [e] at p2
    exact loop_turn (Hs := H) (fun _ _ _ _ q => q) (fun _ _ _ q => q) N2 (show RO g H F2 H .im (.int (lo + (i : Nat))) (.int (lo + (i : Nat))) from rfl) p2 _ fun F' O' H' σ' δ' s' N' p' => ⟨F', O', δ', N', p'⟩
  · have e : (rangeD lo n).drop n = [] := by rw [List.drop_eq_nil_iff, rangeD, List.length_map, List.length_range]; exact Nat.le_refl _
    rw [e] at p2
    exact p2 F2 O2 H σ (Same.refl _) N2
def rngOk (i j : Int) : Bool := decide (-(2 ^ 62) ≤ i ∧ i < 2 ^ 62 ∧ -(2 ^ 62) ≤ j ∧ j < 2 ^ 62)
def sForR (fi fj : DE) (t : DG) (b : DS) : DS := fun δ => (fi δ).bind fun x => (fj δ).bind fun y => match x, y with
  | .int i, .int j => if rngOk i j then sLoop t b (rangeD i (j - i).toNat) δ else .bad
  | _, _ => .bad
def sForR1 (fj : DE) (t : DG) (b : DS) : DS := fun δ => (fj δ).bind fun y => match y with
  | .int j => if rngOk 0 j then sLoop t b (rangeD 0 j.toNat) δ else .bad
  | _ => .bad
variable {a b2 : Expr} {ka kb2 : Rk} {fa fb : DE} {p1 : Pos}
theorem vs_forR {tg : Expr} {body : List Stmt} {t : DG} {b : DS} {q : Pos} (hm : X.mg "range" = none) (ha : PE X a (lowE g κ ka fa)) (hb2 : PE X b2 (lowE g κ kb2 fb)) (hgt : PG X tg (lowG g κ .im t)) (hb : PSs X body (lowS g κ ⟨κ, κ, κ⟩ b)) (ox : Okx X g)
    (hg : Gl X "range" := by rfl) (h1 : starEach [a, b2] X.env = [(false, eval a X.env), (false, eval b2 X.env)] := by rfl) (h2 : starEach [b2] X.env = [(false, eval b2 X.env)] := by rfl)
    (hs : ∀ x, foldedSetIterable (.Call (.Name "range" p1) [a, b2] [] q) X.env x = pure x := by intro _; rfl) : PS X (.For tg (.Call (.Name "range" p1) [a, b2] [] q) body [] pos) (lowS g κ ⟨κ, kb, kc⟩ (sForR fa fb t b)) := by
  refine (ps_for ox.own ox.calm (pi_range2 hg hm (pa_cons ha (pa_cons hb2 pa_nil h2) (h1.trans (by rw [h2]))) h1 h2) hgt hb hs).weak fun De σ H ⟨F, O, δ, N, p⟩ => ?_
  refine ⟨F, O, δ, N, PostS.seq p fun x u F1 H1 x1 s1 r1 q1 => ?_⟩
  have N1 := N.ext x1 s1
  refine ⟨F1, O, δ, N1, PostS.seq q1 fun y v F2 H2 x2 s2 r2 q2 => ?_⟩
  have N2 := N1.ext x2 s2
  have s0 := N2.e.h
  cases x with
  | int i =>
    cases y with
    | int j =>
      have q3 : PostS g ⟨κ, kb, kc⟩ F2 (if rngOk i j then sLoop t b (rangeD i (j - i).toNat) δ else .bad) De := q2
      by_cases c : rngOk i j = true
      · rw [if_pos c] at q3
        have c' := of_decide_eq_true c
        exact ⟨i, j, by rw [RO.int s2 s0 (r1.ext x2), RO.int s2 s0 r2], c', loop_range N2 q3⟩
      · rw [if_neg c] at q3; exact q3.elim
    | _ => exact q2.elim
  | _ => cases y <;> exact q2.elim
theorem vs_forR1 {tg : Expr} {body : List Stmt} {t : DG} {b : DS} {q : Pos} (hm : X.mg "range" = none) (hb2 : PE X b2 (lowE g κ kb2 fb)) (hgt : PG X tg (lowG g κ .im t)) (hb : PSs X body (lowS g κ ⟨κ, κ, κ⟩ b)) (ox : Okx X g)
    (hg : Gl X "range" := by rfl) (h2 : starEach [b2] X.env = [(false, eval b2 X.env)] := by rfl)
    (hs : ∀ x, foldedSetIterable (.Call (.Name "range" p1) [b2] [] q) X.env x = pure x := by intro _; rfl) : PS X (.For tg (.Call (.Name "range" p1) [b2] [] q) body [] pos) (lowS g κ ⟨κ, kb, kc⟩ (sForR1 fb t b)) := by
  refine (ps_for ox.own ox.calm (pi_range1 hg hm (pa_cons hb2 pa_nil h2) h2) hgt hb hs).weak fun De σ H ⟨F, O, δ, N, p⟩ => ?_
  refine ⟨F, O, δ, N, PostS.seq p fun y v F2 H2 x2 s2 r2 q2 => ?_⟩
  have N2 := N.ext x2 s2
  have s0 := N2.e.h
  cases y with
  | int j =>
    have q3 : PostS g ⟨κ, kb, kc⟩ F2 (if rngOk 0 j then sLoop t b (rangeD 0 j.toNat) δ else .bad) De := q2
    by_cases c : rngOk 0 j = true
    · rw [if_pos c] at q3
      have c' := of_decide_eq_true c
      exact ⟨j, by rw [RO.int s2 s0 r2], c'.2.2.1, c'.2.2.2, loop_range N2 q3⟩
    · rw [if_neg c] at q3; exact q3.elim
  | _ => exact q2.elim
/-- the script: a list of ints that is read -/
def sForS (f : DE) (t : DG) (b : DS) : DS := fun δ => (f δ).bind fun d => match d with
  | .scr ns => sLoop t b (ns.map D.int) δ
  | _ => .bad
theorem vs_forS {tg iter : Expr} {body : List Stmt} {src : DE} {t : DG} {b : DS} (hi : PE X iter (lowE g κ .im src)) (hg : PG X tg (lowG g κ .im t)) (hb : PSs X body (lowS g κ ⟨κ, κ, κ⟩ b)) (ox : Okx X g)
    (hs : ∀ x, foldedSetIterable iter X.env x = pure x := by intro _; rfl) : PS X (.For tg iter body [] pos) (lowS g κ ⟨κ, kb, kc⟩ (sForS src t b)) := by
  refine (ps_for ox.own ox.calm (pi_list hi) hg hb hs).weak fun De σ H ⟨F, O, δ, N, p⟩ => ?_
  refine ⟨F, O, δ, N, PostS.seq p fun d v F1 H1 x1 s1 r1 p1 => ?_⟩
  have N1 := N.ext x1 s1
  cases d with
  | scr ns =>
    obtain ⟨a, e, h1⟩ := (show Rep g.w F1 (.scr ns) v from r1)
    subst e
    refine ⟨a, rfl, ⟨_, by rw [ox.K]; exact s1.seq h1⟩, for_list (K := X.K) (a := a) (xs := ns.map V.int) (fun i σ H => ∃ F2 O2 δ2, Same F1 F2 ∧ Env g κ F2 O2 H σ δ2 ∧ PostS g ⟨κ, kb, kc⟩ F2 (sLoop t b ((ns.map D.int).drop i) δ2) De)
      ⟨F1, O, δ, Same.refl _, N1, p1⟩ (fun i σ H _ ⟨F2, O2, δ2, k1, N2, _⟩ => by rw [ox.K]; exact (k1.trans N2.s).seq h1) (fun i x σ H hx ⟨F2, O2, δ2, k1, N2, p2⟩ => ?_) (fun σ H ⟨F2, O2, δ2, k1, N2, p2⟩ => ?_)⟩
    · rw [List.getElem?_map] at hx
      obtain ⟨n, hn, rfl⟩ := Option.map_eq_some_iff.mp hx
      have hlt : i < (ns.map D.int).length := by
        have := (List.getElem?_eq_some_iff.mp hn).1
        simpa using this
      have e := List.drop_eq_getElem_cons hlt
      have e2 : (ns.map D.int)[i] = .int n := by
        have := (List.getElem?_eq_some_iff.mp hn).2
        simp [this]
      rw [e2] at e
      rw [e] at p2
      exact loop_turn (Hs := H) (fun _ _ _ _ q => q) (fun _ _ _ q => q) N2 (show RO g H F2 H .im (.int n) (.int n) from rfl) p2 _ fun F' O' H' σ' δ' s' N' p' => ⟨F', O', δ', k1.trans s', N', p'⟩
    · have e : (ns.map D.int).drop (ns.map V.int).length = [] := by rw [List.drop_eq_nil_iff]; simp
      rw [e] at p2
      exact p2 F2 O2 H σ (Same.refl _) N2
  | _ => exact p1.elim
/-- while; n: how often at most -/
def sWhileN (t : DT) (b : DS) : Nat → DS
  | 0, _ => .bad
  | n + 1, δ => (t δ).bind fun q => if q then ((b δ).bind fun o => match o with
    | .nx δ2 => sWhileN t b n δ2
    | .ct δ2 => sWhileN t b n δ2
    | .bk δ2 => .ok (.nx δ2)
    | .rt d => .ok (.rt d)) else .ok (.nx δ)
def sWhile (m : DSt → Nat) (t : DT) (b : DS) : DS := fun δ => sWhileN t b (m δ) δ
theorem vs_while (m : DSt → Nat) {t : DT} {body : List Stmt} {b : DS} (hc : PT X c (lowT g κ t)) (hb : PSs X body (lowS g κ ⟨κ, κ, κ⟩ b)) (ox : Okx X g) : PS X (.While c body [] pos) (lowS g κ ⟨κ, kb, kc⟩ (sWhile m t b)) := by
  refine (ps_while ox.own hc hb).weak fun De σ H ⟨F, O, δ, N, p⟩ => ?_
  refine ⟨fun n σ H => ∃ F O δ, Env g κ F O H σ δ ∧ PostS g ⟨κ, kb, kc⟩ F (sWhileN t b n δ) De, ⟨m δ, F, O, δ, N, p⟩, fun n σ H ⟨F, O, δ, N, p⟩ => ?_⟩
  refine ⟨F, O, δ, N, ?_⟩
  cases n with
  | zero => exact p.elim
  | succ n =>
    have p' : PostS g ⟨κ, kb, kc⟩ F ((t δ).bind fun q => if q then ((b δ).bind fun o => match o with
      | .nx δ2 => sWhileN t b n δ2
      | .ct δ2 => sWhileN t b n δ2
      | .bk δ2 => .ok (.nx δ2)
      | .rt d => .ok (.rt d)) else .ok (.nx δ)) De := p
    refine PostS.seqT p' fun q F1 H1 x1 s1 p1 => ?_
    have N1 := N.ext x1 s1
    cases q with
    | false =>
      rw [if_neg Bool.false_ne_true] at p1 ⊢
      exact p1 F1 O H1 σ (Same.refl _) N1
    | true =>
      rw [if_pos rfl] at p1 ⊢
      refine ⟨fun σ' H' => ∃ F O δ, Env g κ F O H' σ' δ ∧ PostS g ⟨κ, kb, kc⟩ F (sWhileN t b n δ) De, fun σ' H' q => ⟨n, Nat.lt_succ_self _, q⟩, F1, O, δ, N1, ?_⟩
      cases q2 : b δ with
      | ok o =>
        rw [q2] at p1
        cases o with
        | nx δ2 => exact fun F2 O2 H2 σ2 s2 N2 => ⟨F2, O2, δ2, N2, PostS.mono s2 p1⟩
        | ct δ2 => exact fun F2 O2 H2 σ2 s2 N2 => ⟨F2, O2, δ2, N2, PostS.mono s2 p1⟩
        | bk δ2 => exact fun F2 O2 H2 σ2 s2 N2 => p1 F2 O2 H2 σ2 s2 N2
        | rt d => exact p1
      | exc c ns ds => rw [q2] at p1; exact p1
      | bad => rw [q2] at p1; exact p1
end
end VL

namespace VL
open PySem PySem.Spec L2

/-! ### a def keeps its promise -/
def runF (n : Nat) (b : DS) (ds : List D) : Res D := match b (ds.map some ++ List.replicate (n - ds.length) none) with
  | .ok (.rt d) => .ok d
  | .ok (.nx _) => .ok .non
  | .exc c ns xs => .exc c ns xs
  | _ => .bad
theorem ROs.get {g : G} {Hs F H : Hp} : ∀ {ks : List Rk} {ds : List D} {vs : List V} {i : Nat} {k : Rk} {d : D}, ROs g Hs F H ks ds vs → ks[i]? = some k → ds[i]? = some d → ∃ v, vs[i]? = some v ∧ RO g Hs F H k d v
  | [], _, _, _, _, _, _, e, _ => by simp at e
  | k :: ks, _, _, 0, k', d', h, e, e2 => by
    obtain ⟨d, ds', v, vs', rfl, rfl, h1, h2⟩ := h
    cases (show some k = some k' from e)
    cases (show some d = some d' from e2)
    exact ⟨v, rfl, h1⟩
  | k :: ks, _, _, i + 1, k', d', h, e, e2 => by
    obtain ⟨d, ds', v, vs', rfl, rfl, h1, h2⟩ := h
    obtain ⟨u, q1, q2⟩ := ROs.get (i := i) h2 (by simpa using e) (by simpa using e2)
    exact ⟨u, by simpa using q1, q2⟩
theorem par_sl {g : G} {Hs F : Hp} {O : Addr → Option Nat} {i : Nat} {k : Kd} {d : D} {v : V} (h : isPar k = true) (r : RO g Hs F g.H0 k.arg d v) {H : Hp} : Sl g F O H i k d v := by
  cases k with
  | im => exact r
  | ln => exact r
  | bo => exact r
  | ow => cases h
  | is => cases h
  | xx => cases h
  | me _ => cases h
theorem start_get {N : List Str} {vs : List V} {i : Nat} {v : V} (h : vs[i]? = some v) : (L2.start N vs)[i]? = some (some v) := by
  unfold L2.start
  have hl := (List.getElem?_eq_some_iff.mp h).1
  rw [List.getElem?_append_left (by simpa using hl), List.getElem?_map, h]
  rfl
theorem okx_def {P : Program} {wd : Wd} {w : World} {mg : Str → Option Value} {base : Heap} {N : List Str} {qual : Str} {scope : Scope} {f : Addr} {cd : Value} {A : Around} {outer : List PySem.Env} {s : Shared} {H : Hp} {E : XK} {F0 H0 : Hp} (nd : N.Nodup) :
    Okx (cxOf (L2.CX P w) P w wd.K mg base N qual scope f cd A outer s H E) ⟨wd, F0, H0, E⟩ :=
  ⟨rfl, rfl, nd, passes_of (K := fun e s'' => L2.CX P w outer H s E e s'') (E₁ := fun e' s'' => L2.CX P w outer H s E e' s'') rfl, passes_call (W := fun cls d _ H => E cls d H) (takes_of rfl rfl rfl rfl) (fun _ _ _ _ h => h)⟩
theorem takes_def {P : Program} {wd : Wd} {w : World} {mg : Str → Option Value} {base : Heap} {N : List Str} {qual : Str} {scope : Scope} {f : Addr} {cd : Value} {A : Around} {outer : List PySem.Env} {s : Shared} {H : Hp} {E : XK} :
    Takes (cxOf (L2.CX P w) P w wd.K mg base N qual scope f cd A outer s H E) (fun cls d _ H => E cls d H) := takes_of rfl rfl rfl rfl

section
variable {P : Program} {wd : Wd} {w : World} {mg : Str → Option Value} {base : Heap} {x qual : Str} {st : Stmt} {f : Addr} {fd : FuncData} {N ps : List Str} {n : Nat} {ks kl : List Kd} {K2 : Ks} {b : DS}
theorem fn_lift (Fn : Fun wd.K x qual st f fd) (S : FnScope N ps (defScope st)) (hp : ks.length = ps.length) (hN : ks.length + kl.length = N.length) (hk : ks.all isPar = true)
    (hb : ∀ (cdv : Value) (A : Around) (outer : List PySem.Env) (s : Shared) (H : Hp) (E : XK) (F0 : Hp), Room n (A.deeper (PyProof.Rows.envOfC qual (defScope st) s.heap.objs.size f cdv)) →
      PSs (cxOf (L2.CX P w) P w wd.K mg base N qual (defScope st) f cdv A outer s H E) (defBody st) (lowS ⟨wd, F0, H, E⟩ (ks ++ kl) K2 b)) :
    FnOk P w wd.K mg base (L2.CX P w) (n + 1) f fd ps (lift wd ks (runF N.length b)) := by
  refine Fn.okX S (fun vs H Q E h => ?_) (fun cdv A outer s H vs Q E hr h => ?_)
  · obtain ⟨F, ds, _, r, _⟩ := h
    have := (ROs.len r).1
    rw [List.length_map] at this
    rw [this, hp]
  · obtain ⟨F, ds, sm, r, p⟩ := h
    refine ⟨_, hb cdv A outer s H E F hr, F, fun _ => none, ds.map some ++ List.replicate (N.length - ds.length) none, ⟨Ext.refl _ _, sm, fun a i h => (nomatch h), ?_, ?_, fun i k d h1 h2 => ?_⟩, ?_⟩
    · have l1 := (ROs.len r).1
      have l2 := (ROs.len r).2
      rw [List.length_map] at l1 l2
      unfold L2.start
      simp only [List.length_append, List.length_map, List.length_replicate]
      omega
    · have l1 := (ROs.len r).1
      rw [List.length_map] at l1
      unfold L2.start
      simp only [List.length_append, List.length_map, List.length_replicate]
      omega
    · have l2 := (ROs.len r).2
      rw [List.length_map] at l2
      have hi : i < ds.length := by
        by_cases hi : i < ds.length
        · exact hi
        · rw [List.getElem?_append_right (by simpa using hi), List.getElem?_replicate] at h2
          split at h2 <;> cases h2
      rw [List.getElem?_append_left (by simpa using hi), List.getElem?_map] at h2
      rw [List.getElem?_append_left (by omega)] at h1
      obtain ⟨d', e1, e2⟩ := Option.map_eq_some_iff.mp h2
      cases e2
      obtain ⟨v, q1, q2⟩ := r.get (k := k.arg) (by rw [List.getElem?_map, h1]; rfl) e1
      exact ⟨v, start_get q1, par_sl (g := ⟨wd, F, H, E⟩) (List.all_eq_true.mp hk k (List.mem_of_getElem? h1)) q2⟩
    · unfold runF at p
      cases q : b (ds.map some ++ List.replicate (N.length - ds.length) none) with
      | ok o =>
        rw [q] at p
        cases o with
        | nx δ => exact fun F' O H' σ _ N => p .non F' H' N.e N.s rfl
        | rt d => exact fun F' H' v x s r => p v F' H' x s r
        | bk δ => exact p.elim
        | ct δ => exact p.elim
      | exc c ns xs => rw [q] at p; exact p
      | bad => rw [q] at p; exact p
/-- __init__ of an instance's class -/
def runI (n : Nat) (c : Str) (b : DS) (ds : List D) : Res D := match b (some (.ins c [] []) :: (ds.map some ++ List.replicate (n - (ds.length + 1)) none)) with
  | .ok (.nx δ) => (match δ[0]? with
    | some (some d) => .ok d
    | _ => .bad)
  | .exc c ns xs => .exc c ns xs
  | _ => .bad
theorem fn_liftI {c : Str} (Fn : Fun wd.K x qual st f fd) (S : FnScope N ps (defScope st)) (hp : ks.length + 1 = ps.length) (hN : ks.length + 1 + kl.length = N.length) (hk : ks.all isPar = true) {κn : Addr → List Kd} (hn : ∀ x, (κn x)[0]? = some (.me x))
    (hb : ∀ (cdv : Value) (A : Around) (outer : List PySem.Env) (s : Shared) (H Hb : Hp) (E : XK) (F0 : Hp) (y : Addr), Room n (A.deeper (PyProof.Rows.envOfC qual (defScope st) s.heap.objs.size f cdv)) →
      PSs (cxOf (L2.CX P w) P w wd.K mg base N qual (defScope st) f cdv A outer s H E) (defBody st) (lowS ⟨wd, F0, Hb, E⟩ (.me y :: (ks ++ kl)) ⟨κn y, [], []⟩ b)) :
    FnOk P w wd.K mg base (L2.CX P w) (n + 1) f fd ps (liftI wd c ks (runI N.length c b)) := by
  refine Fn.okX S (fun vs H Q E h => ?_) (fun cdv A outer s H vs Q E hr h => ?_)
  · obtain ⟨Hb, y, dx, us, F, ds, rfl, _, _, _, _, _, r, _⟩ := h
    have := (ROs.len r).1
    rw [List.length_map] at this
    rw [List.length_cons, this, hp]
  · obtain ⟨Hb, y, dx, us, F, ds, rfl, hy, hdx, hne, eH, sm, r, p⟩ := h
    have l1 := (ROs.len r).1
    have l2 := (ROs.len r).2
    rw [List.length_map] at l1 l2
    have fy : F y = none := sm.free hy
    have sH : Same Hb H := by
      rw [eH]
      intro b o e
      rw [upd_ne (ne_of_none e hy), upd_ne (ne_of_none e hdx)]
      exact e
    have hHy : H y = some (.ins (wd.ct c) dx []) := by rw [eH, upd_same]
    refine ⟨_, hb cdv A outer s H Hb E F y hr, F, fun a => if a = y then some 0 else none, some (.ins c [] []) :: (ds.map some ++ List.replicate (N.length - (ds.length + 1)) none),
      ⟨⟨Same.refl _, sH, fun a o h1 h2 => by have h1' : F a = none := h1; rw [h1'] at h2; cases h2⟩, sm.trans sH, fun a i h => ?_, ?_, ?_, fun i k d h1 h2 => ?_⟩, ?_⟩
    · by_cases e : a = y
      · subst e; exact ⟨hy, fy, _, hHy⟩
      · simp only [e, if_false] at h; cases h
    · unfold L2.start
      simp only [List.length_append, List.length_map, List.length_replicate, List.length_cons]
      omega
    · unfold L2.start
      simp only [List.length_append, List.length_map, List.length_replicate, List.length_cons]
      omega
    · cases i with
      | zero =>
        cases (show some (Kd.me y) = some k from h1)
        cases (show some (some (D.ins c [] [])) = some (some d) from h2)
        exact ⟨.ref y, rfl, rfl, by simp, _, hHy, ⟨dx, [], rfl, rfl, rfl⟩, rfl⟩
      | succ i =>
        have h1' : (ks ++ kl)[i]? = some k := by simpa using h1
        have h2' : (ds.map some ++ List.replicate (N.length - (ds.length + 1)) none)[i]? = some (some d) := by simpa using h2
        have hi : i < ds.length := by
          by_cases hi : i < ds.length
          · exact hi
          · rw [List.getElem?_append_right (by simpa using hi), List.getElem?_replicate] at h2'
            split at h2' <;> cases h2'
        rw [List.getElem?_append_left (by simpa using hi), List.getElem?_map] at h2'
        rw [List.getElem?_append_left (by omega)] at h1'
        obtain ⟨d', e1, e2⟩ := Option.map_eq_some_iff.mp h2'
        cases e2
        obtain ⟨v, q1, q2⟩ := r.get (k := k.arg) (by rw [List.getElem?_map, h1']; rfl) e1
        exact ⟨v, start_get (vs := .ref y :: us) (i := i + 1) (by simpa using q1), par_sl (g := ⟨wd, F, Hb, E⟩) (List.all_eq_true.mp hk k (List.mem_of_getElem? h1')) q2⟩
    · unfold runI at p
      cases q : b (some (.ins c [] []) :: (ds.map some ++ List.replicate (N.length - (ds.length + 1)) none)) with
      | ok o =>
        rw [q] at p
        cases o with
        | nx δ =>
          intro F' O H' σ _ N
          cases e : δ[0]? with
          | none => simp only [e] at p; exact p.elim
          | some o =>
            cases o with
            | none => simp only [e] at p; exact p.elim
            | some d =>
              simp only [e] at p
              obtain ⟨v, q1, q2, q3, o, q4, q5, q6⟩ := N.sl 0 _ d (hn y) e
              obtain ⟨_, o2, _⟩ := N.o y 0 q3
              exact p F' H' o N.e N.s o2 q4 q5
        | rt d => exact p.elim
        | bk δ => exact p.elim
        | ct δ => exact p.elim
      | exc c ns xs => rw [q] at p; exact p
      | bad => rw [q] at p; exact p
end

section
variable {X : Cx} {g : G} {κ κ1 κ2 kb kc : List Kd} {a b e c : Expr} {f fa fb : DE} {k ka : Rk} {pos : Pos} {st : Stmt} {sts : List Stmt}
/-! ### stores -/
/-- self.f = e, self being made -/
def putNew (f : Str) (d : D) : D → Res D
  | .ins c ns ds => if ns.contains f then .bad else if ns.length < 1000 then .ok (.ins c (ns ++ [f]) (ds ++ [d])) else .bad
  | _ => .bad
def sFldS (i : Nat) (f : Str) (fe : DE) : DS := fun δ => (fe δ).bind fun d => match δ[i]? with
  | some (some s) => (putNew f d s).bind fun s' => .ok (.nx (δ.set i (some s')))
  | _ => .bad
theorem putF_zip (f : Str) (y : V) : ∀ (ns : List Str) (vs : List V), ns.length = vs.length → ns.contains f = false → putF f y (ns.zip vs) = (ns ++ [f]).zip (vs ++ [y])
  | [], [], _, _ => rfl
  | [], _ :: _, h, _ => by simp at h
  | _ :: _, [], h, _ => by simp at h
  | n :: ns, v :: vs, h, hc => by
    rw [List.contains_cons, Bool.or_eq_false_iff] at hc
    have hn : ¬ n = f := fun e => by rw [e] at hc; simp at hc
    rw [List.zip_cons_cons]
    show (if n = f then (n, y) :: ns.zip vs else (n, v) :: putF f y (ns.zip vs)) = _
    rw [if_neg hn, putF_zip f y ns vs (by simpa using h) hc.2]
    rfl
abbrev sFldI (i : Nat) (cn f : Str) (fe : DE) : DS := fun δ => (fe δ).bind fun d => match δ[i]? with
  | some (some (.ins c ns ds)) => if c = cn then (putNew f d (.ins c ns ds)).bind fun s' => .ok (.nx (δ.set i (some s'))) else .bad
  | _ => .bad
theorem vs_fld (i : Nat) {x f : Str} {y : Addr} {p1 p2 : Pos} {fe : DE} (cn : Str) (hf : FldOk g.w cn f) (he : PE X e (lowE g κ .im fe)) (ox : Okx X g) (hk : κ[i]? = some (.me y) := by rfl) (hN : X.N[i]? = some x := by rfl)
    (hv : Vis X.env.scope x := by first | exact Or.inl rfl | exact Or.inr (Or.inl rfl)) (hs : swapsWith e (some (.Attribute (.Name x p1) f p2)) pos.line X.env = pure false := by rfl)
    (hd : (x == ("__debug__" : Str)) = false := by decide) (hcd : (x == ("__classdict__" : Str)) = false := by decide) :
    PS X (.Assign [.Attribute (.Name x p1) f p2] e pos) (lowS g κ ⟨κ, kb, kc⟩ (sFldI i cn f fe)) := by
  refine (ps_fld (pe_var hN hv hd hcd) he hs).weak fun De σ H ⟨F, O, δ, N, p⟩ => ?_
  refine ⟨F, O, δ, N, PostS.seq p fun d v F1 H1 x1 s1 r1 p1 => ?_⟩
  have N1 := N.ext x1 s1
  cases e1 : δ[i]? with
  | none => simp only [e1] at p1; exact p1.elim
  | some o =>
    cases o with
    | none => simp only [e1] at p1; exact p1.elim
    | some s =>
      simp only [e1] at p1
      obtain ⟨u, e2, e3, e4, o, e5, e6, e7⟩ := N1.sl i _ s hk e1
      refine ⟨u, e2, ?_⟩
      cases s with
      | ins c ns ds =>
        obtain ⟨dx, vs, rfl, hl, h2⟩ := e6
        have p2 : PostS g ⟨κ, kb, kc⟩ F1 (if c = cn then (putNew f d (.ins c ns ds)).bind fun s' => .ok (.nx (δ.set i (some s'))) else .bad) De := p1
        by_cases cc : c = cn
        · subst cc
          rw [if_pos rfl] at p2
          unfold putNew at p2
          by_cases c1 : ns.contains f = true
          · simp only [c1, if_true] at p2; exact p2.elim
          · have c1' : ns.contains f = false := by simpa using c1
            by_cases c2 : ns.length < 1000
            · simp only [c1', c2, if_true] at p2
              subst e3
              refine ⟨y, g.w.ct c, dx, ns.zip vs, rfl, e5, by rw [ox.K]; exact hf.cl, by rw [ox.K]; exact hf.na, by rw [List.length_zip, ← hl]; omega, ?_⟩
              rw [putF_zip f v ns vs hl c1']
              have N2 := N1.write (d := .ins c (ns ++ [f]) (ds ++ [d])) (o := .ins (g.w.ct c) dx ((ns ++ [f]).zip (vs ++ [v]))) (N1.lt hk) e4 (fun k' v' h3 h4 => by
                rw [hk] at h3
                cases h3
                rw [e2] at h4
                cases h4
                exact ⟨rfl, e4, _, upd_same, ⟨dx, vs ++ [v], rfl, by simp [hl], h2.app (.one r1)⟩, rfl⟩) ⟨_, e1⟩
              exact p2 F1 O _ σ (Same.refl _) N2
            · simp only [c1', c2, if_false] at p2; exact p2.elim
        · rw [if_neg cc] at p2; exact p2.elim
      | _ => exact p1.elim

/-- xs.append(e) -/
def sApp (i : Nat) (fe : DE) : DS := fun δ => match δ[i]? with
  | some (some (.lst ds)) => (fe δ).bind fun d => if ds.length < 16777216 then .ok (.nx (δ.set i (some (.lst (ds ++ [d]))))) else .bad
  | _ => .bad
theorem vs_app (i : Nat) {x : Str} {p1 p2 p3 : Pos} {fe : DE} (he : PE X e (lowE g κ .im fe)) (ox : Okx X g) (hk : κ[i]? = some .ow := by rfl) (hN : X.N[i]? = some x := by rfl)
    (hv : Vis X.env.scope x := by first | exact Or.inl rfl | exact Or.inr (Or.inl rfl)) (hd : (x == ("__debug__" : Str)) = false := by decide) (hcd : (x == ("__classdict__" : Str)) = false := by decide)
    (hbase : attributeBase (.Name x p1) "append" X.env (eval (.Name x p1) X.env) = eval (.Name x p1) X.env := by rfl)
    (hfew : ((backTo p3 (starEach (e :: []) X.env)).all (fun x => !x.1) && (backToKw p3 (keywordEach [] X.env)).all (fun x => x.1.isSome)
      && decide ((e :: []).length + ([] : List Keyword).length + (if ([] : List Keyword).isEmpty then 0 else 1) < 30)) = true := by rfl)
    (hline : (p2.endLine == p3.line) = true := by rfl) (hs : starEach (e :: []) X.env = (false, eval e X.env) :: starEach [] X.env := by rfl) (hplain : (backTo p3 (starEach [] X.env)).any (·.1) = false := by rfl)
    (hsw : swapsWith (.Call (.Attribute (.Name x p1) "append" p2) [e] [] p3) none pos.line X.env = pure false := by rfl) :
    PS X (.Expr (.Call (.Attribute (.Name x p1) "append" p2) [e] [] p3) pos) (lowS g κ ⟨κ, kb, kc⟩ (sApp i fe)) := by
  refine (ps_expr (pe_bm PySem.F.plainAttrs_list PySem.F.slot_list_append PySem.F.type_list_append mt_append (pe_var hN hv hd hcd) (pa_cons he pa_nil hs) hbase hfew hline hs hplain) hsw).weak fun De σ H ⟨F, O, δ, N, p⟩ => ?_
  unfold sApp at p
  cases e1 : δ[i]? with
  | none => simp only [e1] at p; exact p.elim
  | some o =>
    cases o with
    | none => simp only [e1] at p; exact p.elim
    | some s =>
      cases s with
      | lst ds =>
        simp only [e1] at p
        obtain ⟨u, e2, m, y, o, e3, e4, e5, vs, e6, e7⟩ := N.sl i _ _ hk e1
        subst e3 e6
        refine ⟨_, e2, .inl ⟨rfl, _, SqL.of e5⟩, F, O, δ, N, PostS.seq p fun d v F1 H1 x1 s1 r1 p1 => ?_⟩
        have N1 := N.ext x1 s1
        by_cases cc : ds.length < 16777216
        · rw [if_pos cc] at p1
          have r' := e7.mono x1.f
          refine ⟨y, vs, v, rfl, rfl, x1.h _ _ e5, by rw [← e7.len, sizeLine_eq]; exact cc, ?_⟩
          have N2 := N1.write (d := .lst (ds ++ [d])) (o := .lst (vs ++ [v])) (N1.lt hk) e4 (fun k' v' h3 h4 => by
            rw [hk] at h3
            cases h3
            rw [e2] at h4
            cases h4
            exact ⟨rfl, y, _, rfl, e4, upd_same, vs ++ [v], rfl, r'.app (.one r1)⟩) ⟨_, e1⟩
          exact p1 F1 O _ σ (Same.refl _) N2
        · rw [if_neg cc] at p1; exact p1.elim
      | _ => simp only [e1] at p; exact p.elim

/-- xs[j] = e, xs the slot's own list -/
def sSetIx (i : Nat) (fj fe : DE) : DS := fun δ => (fe δ).bind fun d => match δ[i]? with
  | some (some (.lst ds)) => (fj δ).bind fun x => (match x with
    | .int n => (match ixN ds.length n with
      | some j => .ok (.nx (δ.set i (some (.lst (ds.set j d)))))
      | none => .bad)
    | _ => .bad)
  | _ => .bad
theorem vs_setIx (i : Nat) {x : Str} {j : Expr} {p1 p2 : Pos} {fe fj : DE} {kj : Rk} (he : PE X e (lowE g κ .im fe)) (hj : PE X j (lowE g κ kj fj)) (ox : Okx X g) (hk : κ[i]? = some .ow := by rfl) (hN : X.N[i]? = some x := by rfl)
    (hv : Vis X.env.scope x := by first | exact Or.inl rfl | exact Or.inr (Or.inl rfl)) (hd : (x == ("__debug__" : Str)) = false := by decide) (hcd : (x == ("__classdict__" : Str)) = false := by decide)
    (ha : ∀ v, assign (.Subscript (.Name x p1) j p2) X.env v = (do
      let ov ← holding [v] (eval (.Name x p1) X.env)
      let iv ← holding [v, ov] (eval j X.env)
      standAt p2
      holding [v, ov, iv] (setItem ov iv v)
      release [v, ov, iv] []) := by intro _; rfl)
    (hs : swapsWithSole [.Subscript (.Name x p1) j p2] e pos.line X.env = pure false := by rfl) (hw : swappedStores [.Subscript (.Name x p1) j p2] e X.env = pure none := by rfl)
    (h1 : (assignEach [.Subscript (.Name x p1) j p2] X.env).map (·.2) = [assign (.Subscript (.Name x p1) j p2) X.env] := by rfl) :
    PS X (.Assign [.Subscript (.Name x p1) j p2] e pos) (lowS g κ ⟨κ, kb, kc⟩ (sSetIx i fj fe)) := by
  refine (ps_asg he (pg_sub (pe_var hN hv hd hcd) hj set_list ha) hs hw h1).weak fun De σ H ⟨F, O, δ, N, p⟩ => ?_
  refine ⟨F, O, δ, N, PostS.seq p fun d v F1 H1 x1 s1 r1 p1 => ?_⟩
  have N1 := N.ext x1 s1
  cases e1 : δ[i]? with
  | none => simp only [e1] at p1; exact p1.elim
  | some o =>
    cases o with
    | none => simp only [e1] at p1; exact p1.elim
    | some s =>
      cases s with
      | lst ds =>
        simp only [e1] at p1
        obtain ⟨u, e2, m, y, o, e3, e4, e5, vs, e6, e7⟩ := N1.sl i _ _ hk e1
        subst e3 e6
        refine ⟨_, e2, F1, O, δ, N1, PostS.seq p1 fun z zv F2 H2 x2 s2 r2 p2 => ?_⟩
        have N2 := N1.ext x2 s2
        cases z with
        | int n =>
          have ez := RO.int s2 N2.e.h r2
          subst ez
          have p3 : PostS g ⟨κ, kb, kc⟩ F2 (match ixN ds.length n with | some j => .ok (.nx (δ.set i (some (.lst (ds.set j d))))) | none => .bad) De := p2
          cases e8 : ixN ds.length n with
          | none => rw [e8] at p3; exact p3.elim
          | some j =>
            rw [e8] at p3
            have r' := e7.mono x2.f
            refine ⟨y, vs, n, j, rfl, rfl, x2.h _ _ e5, by rw [← e7.len]; exact e8, ?_⟩
            have N3 := N2.write (d := .lst (ds.set j d)) (o := .lst (vs.set j v)) (N2.lt hk) e4 (fun k' v' h3 h4 => by
              rw [hk] at h3
              cases h3
              rw [e2] at h4
              cases h4
              exact ⟨rfl, y, _, rfl, e4, upd_same, vs.set j v, rfl, r'.set j (Rep.mono x2.f _ _ r1)⟩) ⟨_, e1⟩
            exact p3 F2 O _ σ (Same.refl _) N3
        | _ => exact p2.elim
      | _ => simp only [e1] at p1; exact p1.elim

/-! ### raise -/
/-- raise C('text'), C without own __init__ -/
theorem vs_raiseT {K2 : Ks} {C x m : Str} {j : Nat} {p p2 p3 : Pos} (ox : Okx X g) (tk : Takes X (fun cls d _ H => g.E cls d H)) (q : PySem.W.excIn X.K (g.w.ct C) [.type "ValueError", .type "Exception", .type "BaseException", .type "object"] "ValueError.__new__" = true) (gC : X.mg x = some (.ref (g.w.ct C)))
    (kC : PySem.W.keepIn X.K (.ref (g.w.ct C)) = true) (h1 : PySem.W.subIn X.K (.ref (g.w.ct C)) (.type "BaseException") = some true) (h2 : PySem.W.typeIn X.K (.ref (g.w.ct C)) = some (.type "type")) (hg : Gl X x := by rfl)
    (hdb : (x == ("__debug__" : Str)) = false := by decide) : PS X (.Raise (some (.Call (.Name x p) [.Constant (.str m) j p2] [] p3)) none pos) (lowS g κ K2 (fun _ => .exc C [] [])) := by
  refine (ps_raise ox.calm tk (pmk_own PySem.F.excBase_ValueError q gC kC (raises_own h1 h2) hg (hdb := hdb))).weak fun De σ H ⟨F, O, δ, N, p⟩ => ?_
  exact p F H none N.e N.s ⟨rfl, rfl⟩
end
end VL

namespace VL
open PySem PySem.Spec L2

/-! ### list comprehensions -/
/-- within a block nothing may be raised -/
abbrev G.e0 (g : G) : G := { g with E := E0 }
theorem Env.e0 {g : G} {κ : List Kd} {F : Hp} {O : Addr → Option Nat} {H : Hp} {σ : L2.St} {δ : DSt} (N : Env g κ F O H σ δ) : Env g.e0 κ F O H σ δ := ⟨N.e, N.s, N.o, N.l, N.lk, N.sl⟩
theorem Env.e1 {g : G} {κ : List Kd} {F : Hp} {O : Addr → Option Nat} {H : Hp} {σ : L2.St} {δ : DSt} (N : Env g.e0 κ F O H σ δ) : Env g κ F O H σ δ := ⟨N.e, N.s, N.o, N.l, N.lk, N.sl⟩
theorem Okx.blk {X : Cx} {g : G} (ox : Okx X g) (s : Shared) (H : Hp) (scope : Scope) (cenv : PySem.Env) (fp : List Addr) : Okx (X.blk s H scope cenv fp) g.e0 :=
  ⟨ox.K, ox.calm, ox.nd, PassesOwn.never, passL⟩
def Res.nox {α : Type} : Res α → Res α
  | .ok a => .ok a
  | _ => .bad
def wipeD (δ : DSt) : List Nat → DSt
  | [] => δ
  | v :: vs => (wipeD δ vs).set v none
theorem wipeD_length (δ : DSt) : ∀ vs : List Nat, (wipeD δ vs).length = δ.length
  | [] => rfl
  | v :: vs => by unfold wipeD; rw [List.length_set, wipeD_length δ vs]
theorem wipe_get {σ : L2.St} {i : Nat} : ∀ {vs : List Nat}, i ∉ vs → (wipe σ vs)[i]? = σ[i]?
  | [], _ => rfl
  | v :: vs, h => by
    simp only [List.mem_cons, not_or] at h
    unfold wipe
    rw [List.getElem?_set_ne (fun e => h.1 e.symm), wipe_get h.2]
theorem wipeD_some {δ : DSt} {i : Nat} {d : D} : ∀ {vs : List Nat}, (wipeD δ vs)[i]? = some (some d) → δ[i]? = some (some d) ∧ i ∉ vs
  | [], h => ⟨h, by simp⟩
  | v :: vs, h => by
    unfold wipeD at h
    by_cases hi : v = i
    · subst hi
      by_cases hv : v < (wipeD δ vs).length
      · rw [List.getElem?_set_self hv] at h; cases h
      · rw [List.getElem?_eq_none (by simpa using hv)] at h; cases h
    · rw [List.getElem?_set_ne hi] at h
      obtain ⟨h1, h2⟩ := wipeD_some h
      exact ⟨h1, by simp only [List.mem_cons, not_or]; exact ⟨fun e => hi e.symm, h2⟩⟩
theorem Env.wipe {g : G} {κ : List Kd} {F : Hp} {O : Addr → Option Nat} {H : Hp} {σ : L2.St} {δ : DSt} (N : Env g κ F O H σ δ) (vs : List Nat) : Env g κ F O H (wipe σ vs) (wipeD δ vs) := by
  refine ⟨N.e, N.s, N.o, by rw [wipeD_length, wipe_length, N.l], by rw [wipe_length, N.lk], fun i k d h1 h2 => ?_⟩
  obtain ⟨h3, h4⟩ := wipeD_some h2
  obtain ⟨v, e1, e2⟩ := N.sl i k d h1 h3
  exact ⟨v, by rw [wipe_get h4]; exact e1, e2⟩
/-- a cell of nobody's is written -/
theorem Env.other {g : G} {κ : List Kd} {F : Hp} {O : Addr → Option Nat} {H : Hp} {σ : L2.St} {δ : DSt} (N : Env g κ F O H σ δ) {a : Addr} {o : HO} (h0 : g.H0 a = none) (hf : F a = none) (ho : ∀ j, O a = some j → False) : Env g κ F O (upd H a o) σ δ := by
  have ne : ∀ {b : Addr} {z : HO} {H1 : Hp}, H1 a = none → H1 b = some z → b ≠ a := fun {b z H1} h h' e => by rw [e, h] at h'; cases h'
  have sm : ∀ {H1 : Hp}, H1 a = none → Same H1 H → Same H1 (upd H a o) := fun {H1} h h' b z q => by rw [upd_ne (ne h q)]; exact h' b z q
  have nj : ∀ {b : Addr} {j : Nat}, O b = some j → b ≠ a := fun {b j} q z => ho j (z ▸ q)
  refine ⟨⟨N.e.f, sm h0 N.e.h, N.e.n⟩, sm hf N.s, fun b j h => ?_, N.l, N.lk, fun j k d' h1 h2 => ?_⟩
  · obtain ⟨q1, q2, z, q3⟩ := N.o b j h
    exact ⟨q1, q2, z, by rw [upd_ne (nj h)]; exact q3⟩
  · obtain ⟨v, e1, e2⟩ := N.sl j k d' h1 h2
    refine ⟨v, e1, ?_⟩
    cases k with
    | im => exact e2
    | ow =>
      obtain ⟨m, b, o', e', h3, h4, h5⟩ := e2
      exact ⟨m, b, o', e', h3, by rw [upd_ne (nj h3)]; exact h4, h5⟩
    | ln => exact e2
    | bo => exact e2
    | is =>
      obtain ⟨I, h3, h4, h5⟩ := e2
      exact ⟨I, fun b z q => by rw [upd_ne (nj (h4 b z q))]; exact h3 b z q, h4, h5⟩
    | xx => trivial
    | me y =>
      obtain ⟨e', h3, o', h4, r⟩ := e2
      exact ⟨e', h3, o', by rw [upd_ne (nj h3)]; exact h4, r⟩

/-- the turns: t the target, tt the test, fe the element; δ: the slots with the block's own forgotten -/
def lcD (t : DG) (tt : DT) (fe : DE) (δ : DSt) : List D → Res (List D)
  | [] => .ok []
  | d :: r => (t d δ).bind fun δ2 => (tt δ2).bind fun b => if b then (fe δ2).bind fun y => (lcD t tt fe δ r).bind fun ys => .ok (y :: ys) else lcD t tt fe δ r
def lcOf (t : DG) (tt : DT) (fe : DE) (own : List Nat) (ds : List D) (δ : DSt) : Res D :=
  if ds.length ≤ 16777216 then ((lcD t tt fe (wipeD δ own) ds).bind fun l => .ok (.lst l)).nox else .bad
def vLc (src : DE) (t : DG) (tt : DT) (fe : DE) (own : List Nat) : DE := fun δ => (src δ).bind fun d => match seqOf d with
  | some ds => lcOf t tt fe own ds δ
  | none => .bad
def vLcR (fi fj : DE) (t : DG) (tt : DT) (fe : DE) (own : List Nat) : DE := fun δ => (fi δ).bind fun x => (fj δ).bind fun y => match x, y with
  | .int i, .int j => if rngOk i j then lcOf t tt fe own (rangeD i (j - i).toNat) δ else .bad
  | _, _ => .bad
def vLcR1 (fj : DE) (t : DG) (tt : DT) (fe : DE) (own : List Nat) : DE := fun δ => (fj δ).bind fun y => match y with
  | .int j => if rngOk 0 j then lcOf t tt fe own (rangeD 0 j.toNat) δ else .bad
  | _ => .bad
def tYesD : DT := fun _ => .ok true
/-- a target of a block: t stores the item's data as g0 stores its value, in the block's own slots alone -/
structure LcG (K : PySem.W.Frag) (own : List Nat) (ki : Rk) (κ : List Kd) (t : DG) (g0 : TG) : Prop where
  run : ∀ (g : G) (Hs F : Hp) (O : Addr → Option Nat) (H : Hp) (σ : L2.St) (δ δ2 : DSt) (d : D) (v : V) (Q : L2.St → Hp → Prop), g.w.K = K → Env g κ F O H σ δ → RO g Hs F H ki d v → t d δ = .ok δ2 →
    (∀ σ2, wipe σ2 own = wipe σ own → Env g κ F O H σ2 δ2 → Q σ2 H) → g0 v σ H Q
theorem wipe_set (σ : L2.St) (i : Nat) (o : Option V) : ∀ {vs : List Nat}, i ∈ vs → wipe (σ.set i o) vs = wipe σ vs
  | [], h => by simp at h
  | v :: vs, h => by
    unfold wipe
    by_cases e : i ∈ vs
    · rw [wipe_set σ i o e]
    · have hv : i = v := by simpa [e] using h
      subst hv
      have key : ∀ ws : List Nat, i ∉ ws → wipe (σ.set i o) ws = (wipe σ ws).set i o := by
        intro ws
        induction ws with
        | nil => intro _; rfl
        | cons u us ih =>
          intro hn
          simp only [List.mem_cons, not_or] at hn
          unfold wipe
          rw [ih hn.2, List.set_comm _ _ hn.1]
      rw [key vs e, List.set_set]
theorem lcg_name {K : PySem.W.Frag} {own : List Nat} {ki : Rk} {κ : List Kd} (i : Nat) {kd : Kd} (hk : κ[i]? = some kd := by rfl) (hf : fits ki kd = true := by rfl) (ho : i ∈ own := by decide) : LcG K own ki κ (tN i) (gName i) :=
  ⟨fun g Hs F O H σ δ δ2 d v Q hK N r e q => by
    cases e
    exact q _ (wipe_set σ i _ ho) (N.set hk (r.sl hf))⟩
/-- a tuple of names -/
def tsN : List Nat → DGs
  | [] => tsNil
  | i :: is => tsCons (tN i) (tsN is)
def gsN : List Nat → TGs
  | [] => gNil
  | i :: is => gCons (gName i) (gsN is)
def fitAll (κ : List Kd) (k : Rk) (own : List Nat) : List Nat → Bool
  | [] => true
  | i :: is => (match κ[i]? with | some kd => fits k kd | none => false) && decide (i ∈ own) && fitAll κ k own is
theorem gsN_run {own : List Nat} {k : Rk} {κ : List Kd} {g : G} {R : Hp} : ∀ (is : List Nat), fitAll κ k own is = true → ∀ (F : Hp) (O : Addr → Option Nat) (H : Hp) (σ : L2.St) (δ δ2 : DSt) (ds : List D) (vs : List V) (Q : L2.St → Hp → Prop), Env g κ F O H σ δ → Reps g.w R ds vs →
    (∀ d v, Rep g.w R d v → RO g H F H k d v) → tsN is ds δ = .ok δ2 → (∀ σ2, wipe σ2 own = wipe σ own → Env g κ F O H σ2 δ2 → Q σ2 H) → gsN is vs σ H Q
  | [], _, F, O, H, σ, δ, δ2, ds, vs, Q, N, r, ro, e, q => by
    cases ds with
    | nil =>
      cases (show vs = [] from r)
      cases (show Res.ok δ = .ok δ2 from e)
      exact ⟨rfl, q σ rfl N⟩
    | cons d ds => cases (show (Res.bad : Res DSt) = .ok δ2 from e)
  | i :: is, hf, F, O, H, σ, δ, δ2, ds, vs, Q, N, r, ro, e, q => by
    cases ds with
    | nil => cases (show (Res.bad : Res DSt) = .ok δ2 from e)
    | cons d ds =>
      obtain ⟨v, vr, rfl, h1, h2⟩ := r
      have hf' : ((match κ[i]? with | some kd => fits k kd | none => false) && decide (i ∈ own) && fitAll κ k own is) = true := hf
      rw [Bool.and_eq_true, Bool.and_eq_true] at hf'
      obtain ⟨⟨f1, f2⟩, f3⟩ := hf'
      have f2' := of_decide_eq_true f2
      cases hk : κ[i]? with
      | none => rw [hk] at f1; cases f1
      | some kd =>
        rw [hk] at f1
        have N' := N.set hk ((ro d v h1).sl f1)
        exact ⟨v, vr, rfl, gsN_run is f3 F O H _ _ δ2 ds vr Q N' h2 ro e fun σ2 w => q σ2 (w.trans (wipe_set σ i _ f2'))⟩
theorem lcg_tup {K : PySem.W.Frag} {own : List Nat} {ki : Rk} {κ : List Kd} (is : List Nat) (hki : ki ≠ .rd := by intro h; cases h) (hf : fitAll κ ki.it own is = true := by rfl) : LcG K own ki κ (tTupD (tsN is)) (fun v σ H Q => gTup K is.length (gsN is) v σ H Q ∨ gUnl K is.length (gsN is) v σ H Q) :=
  ⟨fun g Hs F O H σ δ δ2 d v Q hK N r e q => by
    have hl : ∀ (is : List Nat) (ds : List D) (δ : DSt), tsN is ds δ = .ok δ2 → ds.length = is.length := by
      intro is
      induction is with
      | nil =>
        intro ds δ e
        cases ds with
        | nil => rfl
        | cons d ds => cases (show (Res.bad : Res DSt) = .ok δ2 from e)
      | cons i is ih =>
        intro ds δ e
        cases ds with
        | nil => cases (show (Res.bad : Res DSt) = .ok δ2 from e)
        | cons d ds => rw [List.length_cons, List.length_cons, ih ds _ e]
    unfold tTupD at e
    have key : ∀ (ds : List D) (vs : List V), Reps g.w (reg g F H ki) ds vs → tsN is ds δ = .ok δ2 → vs.length = is.length ∧ gsN is vs σ H Q := fun ds vs h2 e =>
      ⟨by rw [← h2.len]; exact hl is ds δ e, gsN_run is hf F O H σ δ δ2 ds vs Q N h2 (fun d v q => it_stay d v hki N.s q F H (Same.refl _) (Same.refl _) H) e q⟩
    cases d with
    | lst ds =>
      obtain ⟨a, o, e1, h1, vs, e2, h2⟩ := RO.cell N.s N.e.h rfl r
      subst e1 e2
      obtain ⟨q1, q2⟩ := key ds vs h2 e
      exact .inr ⟨a, vs, rfl, SqL.of h1, q1, q2⟩
    | tup ds =>
      obtain ⟨a, o, e1, h1, vs, e2, h2⟩ := RO.cell N.s N.e.h rfl r
      subst e1 e2
      obtain ⟨q1, q2⟩ := key ds vs h2 e
      exact .inl ⟨a, vs, rfl, SqT.of h1, q1, q2⟩
    | _ => cases e⟩

section
variable {X : Cx} {g : G} {κ kb kc : List Kd} {pos : Pos} {K : PySem.W.Frag} {own : List Nat} {ki : Rk} {t : DG} {tt : DT} {fe : DE} {g0 : TG}
theorem Ext.put {F Hs F' H' : Hp} {a : Addr} {o : HO} (x : Ext F Hs F' H') (h : Hs a = none) : Ext F Hs F' (upd H' a o) := ⟨x.f, fun b u e => by rw [upd_ne (ne_of_none e h)]; exact x.h b u e, x.n⟩
/-- what is so ahead of turn i: the new list D holds what was made, the rest is still to come -/
def LcInv (g : G) (κ : List Kd) (σw : L2.St) (δw : DSt) (t : DG) (tt : DT) (fe : DE) (ds total : List D) (F1 Hs : Hp) (D0 : Addr) (i : Nat) (H : Hp) : Prop :=
  ∃ (F : Hp) (O : Addr → Option Nat) (acc : List V) (accd rest : List D), Ext F1 Hs F H ∧ Env g κ F O H σw δw ∧ H D0 = some (.lst acc) ∧ F D0 = none ∧ g.H0 D0 = none ∧ (∀ j, O D0 = some j → False) ∧ Reps g.w F accd acc ∧
    lcD t tt fe δw (ds.drop i) = .ok rest ∧ accd ++ rest = total ∧ accd.length ≤ i
theorem lc_turn (hK : g.w.K = K) (hg : LcG K own ki κ t g0) {σ : L2.St} {δ : DSt} {ds total : List D} {F1 Hs : Hp} {D0 : Addr} {i : Nat} {H : Hp} {d : D} {v : V} (hd : ds[i]? = some d) (hlen : ds.length ≤ 16777216) (hs : Hs D0 = none)
    (I : LcInv g κ (wipe σ own) (wipeD δ own) t tt fe ds total F1 Hs D0 i H) (ro : ∀ F, Same F1 F → Same F H → Same g.H0 H → RO g H F H ki d v) :
    g0 v (wipe σ own) H fun σ2 H2 => wipe σ2 own = wipe σ own ∧ lowT g.e0 κ tt σ2 H2 fun b H3 => if b = true then lowE g.e0 κ .im fe σ2 H3 fun y H4 => ∃ acc, H4 D0 = some (.lst acc) ∧ acc.length < sizeLine ∧ LcInv g κ (wipe σ own) (wipeD δ own) t tt fe ds total F1 Hs D0 (i + 1) (upd H4 D0 (.lst (acc ++ [y])))
      else LcInv g κ (wipe σ own) (wipeD δ own) t tt fe ds total F1 Hs D0 (i + 1) H3 := by
  obtain ⟨F, O, acc, accd, rest, s1, N, hD, fD, zD, oD, hr, hc, he, hl⟩ := I
  have hlt := (List.getElem?_eq_some_iff.mp hd).1
  have ed := List.drop_eq_getElem_cons hlt
  have ed2 : ds[i] = d := (List.getElem?_eq_some_iff.mp hd).2
  rw [ed2] at ed
  rw [ed, lcD] at hc
  cases q1 : t d (wipeD δ own) with
  | ok δ2 =>
    rw [q1, Res.ok_bind] at hc
    cases q2 : tt δ2 with
    | ok b =>
      rw [q2, Res.ok_bind] at hc
      refine hg.run g H F O H _ _ δ2 d v _ hK N (ro F s1.f N.s N.e.h) q1 fun σ2 w2 N2 => ⟨?_, F, O, δ2, N2.e0, ?_⟩
      · rw [w2]
        have wipe2 : ∀ (vs us : List Nat), (∀ x ∈ vs, x ∈ us) → wipe (wipe σ us) vs = wipe σ us := by
          intro vs us
          induction vs with
          | nil => intro _; rfl
          | cons x vs ih =>
            intro hx
            show (wipe (wipe σ us) vs).set x none = wipe σ us
            rw [ih fun y hy => hx y (List.mem_cons_of_mem _ hy)]
            have : ∀ us : List Nat, x ∈ us → (wipe σ us).set x none = wipe σ us := by
              intro us
              induction us with
              | nil => intro h; simp at h
              | cons u us ih2 =>
                intro h
                unfold wipe
                by_cases e : x = u
                · subst e; rw [List.set_set]
                · rw [List.set_comm _ _ (fun z => e z.symm), ih2 (by simpa [e] using h)]
            exact this us (hx x List.mem_cons_self)
        exact wipe2 own own fun _ h => h
      rw [q2]
      intro F3 H3 x3 s3
      have N3 := N.ext x3 s3
      have N3' := N2.ext x3 s3
      have nO : ∀ {F' H' : Hp}, Ext F3 H3 F' H' → F' D0 = none := fun {F' H'} x => by
        cases q : F' D0 with
        | none => rfl
        | some z =>
          have := (x3.trans x).n D0 z fD q
          rw [hD] at this
          cases this
      cases b with
      | false =>
        rw [if_neg Bool.false_ne_true] at hc ⊢
        exact ⟨F3, O, acc, accd, rest, s1.trans x3, N3, x3.h _ _ hD, nO (Ext.refl _ _), zD, oD, hr.mono x3.f, hc, he, Nat.le_succ_of_le hl⟩
      | true =>
        rw [if_pos rfl] at hc ⊢
        cases q3 : fe δ2 with
        | ok yd =>
          rw [q3, Res.ok_bind] at hc
          cases q4 : lcD t tt fe (wipeD δ own) (ds.drop (i + 1)) with
          | ok ys =>
            rw [q4, Res.ok_bind] at hc
            cases hc
            refine ⟨F3, O, δ2, N3'.e0, ?_⟩
            rw [q3]
            intro y F4 H4 x4 s4 r4
            have N4 := N3.ext x4 s4
            refine ⟨acc, x4.h _ _ (x3.h _ _ hD), ?_, F4, O, acc ++ [y], accd ++ [yd], ys, ((s1.trans x3).trans x4).put hs, N4.other zD (nO x4) oD, upd_same, nO x4, zD, oD, ((hr.mono x3.f).mono x4.f).app (.one r4), q4, by rw [← he]; simp, by rw [List.length_append, List.length_singleton]; omega⟩
            rw [← hr.len, sizeLine_eq]
            omega
          | exc c ns xs => rw [q4] at hc; cases hc
          | bad => rw [q4] at hc; cases hc
        | exc c ns xs => rw [q3] at hc; cases hc
        | bad => rw [q3] at hc; cases hc
    | exc c ns xs => rw [q2] at hc; cases hc
    | bad => rw [q2] at hc; cases hc
  | exc c ns xs => rw [q1] at hc; cases hc
  | bad => rw [q1] at hc; cases hc
theorem lcOf_ok {δ : DSt} {ds : List D} {F H : Hp} {Q : VK} {k : Rk} (p : Post g k F H (lcOf t tt fe own ds δ) Q) : ds.length ≤ 16777216 ∧ ∃ total, lcD t tt fe (wipeD δ own) ds = .ok total ∧ Post g k F H (.ok (.lst total)) Q := by
  unfold lcOf at p
  by_cases c : ds.length ≤ 16777216
  · rw [if_pos c] at p
    refine ⟨c, ?_⟩
    cases q : lcD t tt fe (wipeD δ own) ds with
    | ok total => rw [q] at p; exact ⟨total, rfl, p⟩
    | exc c ns xs => rw [q] at p; exact p.elim
    | bad => rw [q] at p; exact p.elim
  · rw [if_neg c] at p; exact p.elim
theorem lc_start {δ : DSt} {ds total : List D} {F1 H1 : Hp} {O : Addr → Option Nat} {σ : L2.St} {D0 : Addr} (N : Env g κ F1 O H1 σ δ) (e : lcD t tt fe (wipeD δ own) ds = .ok total) (hD : H1 D0 = none) :
    LcInv g κ (wipe σ own) (wipeD δ own) t tt fe ds total F1 H1 D0 0 (upd H1 D0 (.lst [])) := by
  have oD : ∀ j, O D0 = some j → False := fun j h => by
    obtain ⟨_, _, u, hu⟩ := N.o D0 j h
    rw [hD] at hu
    cases hu
  exact ⟨F1, O, [], [], total, (Ext.refl _ _).put hD, (N.wipe own).other (N.e.h.free hD) (N.s.free hD) oD, upd_same, N.s.free hD, N.e.h.free hD, oD, rfl, e, rfl, Nat.le_refl _⟩
theorem lc_end {δ : DSt} {ds total : List D} {F1 Hs H : Hp} {σ : L2.St} {D0 : Addr} {n : Nat} {Q : VK} (hn : ds.length ≤ n) (I : LcInv g κ (wipe σ own) (wipeD δ own) t tt fe ds total F1 Hs D0 n H) (hs : Hs D0 = none) (p : Post g .fr F1 Hs (.ok (.lst total)) Q) : Q (.ref D0) H := by
  obtain ⟨F, O, acc, accd, rest, s1, N, hD, fD, zD, oD, hr, hc, he, hl⟩ := I
  rw [List.drop_eq_nil_iff.mpr hn] at hc
  cases hc
  rw [List.append_nil] at he
  subst he
  exact p _ F H s1 N.s ⟨rfl, D0, _, rfl, hs, fD, hD, acc, rfl, hr⟩
end
end VL

namespace VL
open PySem PySem.Spec L2
section
variable {X : Cx} {g : G} {κ kb kc : List Kd} {pos : Pos} {own : List Nat} {ki : Rk} {t : DG} {tt : DT} {fe : DE} {g0 : TG}
theorem reg_stay {k : Rk} {F H F' H' : Hp} (sf : Same F F') (sh : Same H H') {d : D} {v : V} (h : Rep g.w (reg g F H k) d v) : Rep g.w (reg g F' H' k) d v := by
  cases k with
  | im => exact Rep.mono sf _ _ h
  | ls => exact Rep.mono sf _ _ h
  | sh => exact Rep.mono sf _ _ h
  | fr => exact Rep.mono sf _ _ h
  | bo => exact h
  | rd => exact Rep.mono sh _ _ h
theorem low_lc {src : DE} (hrd : ki ≠ .rd) (hK : X.K = g.w.K) (hg : LcG g.w.K own ki.it κ t g0) {σ : L2.St} {H : Hp} {Q : VK} (h : lowE g κ .fr (vLc src t tt fe own) σ H Q) :
    tLc (fun σ H R => iList X.K (lowE g κ ki src) σ H R ∨ iTup X.K (lowE g κ ki src) σ H R) g0 (lowT g.e0 κ tt) (lowE g.e0 κ .im fe) own σ H Q := by
  obtain ⟨F, O, δ, N, p⟩ := h
  unfold vLc at p
  -- the list ds, its values vs
  have key : ∀ (ds : List D) (vs : List V) (F1 H1 : Hp), Ext F H F1 H1 → Same F1 H1 → Reps g.w (reg g F1 H1 ki) ds vs → Post g .fr F1 H1 (lcOf t tt fe own ds δ) Q → ∀ D0, H1 D0 = none →
      ∃ Pv : Nat → Hp → Prop, Pv 0 (upd H1 D0 (.lst [])) ∧ (∀ i H, Pv i H → Same H1 H) ∧
        (∀ i x H, vs[i]? = some x → Pv i H → g0 x (wipe σ own) H fun σ2 H2 => wipe σ2 own = wipe σ own ∧ lowT g.e0 κ tt σ2 H2 fun b H3 => if b = true then lowE g.e0 κ .im fe σ2 H3 fun y H4 => ∃ acc, H4 D0 = some (.lst acc) ∧ acc.length < sizeLine ∧ Pv (i + 1) (upd H4 D0 (.lst (acc ++ [y])))
          else Pv (i + 1) H3) ∧ (∀ H, Pv vs.length H → Q (.ref D0) H) := by
    intro ds vs F1 H1 x1 s1 hr p1 D0 hD
    obtain ⟨hlen, total, e, p2⟩ := lcOf_ok p1
    have N1 := N.ext x1 s1
    refine ⟨fun i H => LcInv g κ (wipe σ own) (wipeD δ own) t tt fe ds total F1 H1 D0 i H, lc_start N1 e hD, fun i H ⟨_, _, _, _, _, x, _⟩ => x.h, fun i x H hx I => ?_, fun H I => ?_⟩
    · obtain ⟨d, hd, rd⟩ := hr.getV hx
      have I' := I
      obtain ⟨_, _, _, _, _, x0, _⟩ := I'
      exact lc_turn rfl hg hd hlen hD I fun F' sf s' s0' => it_stay d x hrd s' (reg_stay (k := ki) sf x0.h rd) F' H (Same.refl _) (Same.refl _) H
    · exact lc_end (by rw [hr.len]; exact Nat.le_refl _) I hD p2
  cases q : src δ with
  | ok d =>
    rw [q] at p
    cases d with
    | lst ds =>
      refine .inl ⟨F, O, δ, N, ?_⟩
      rw [q]
      intro v F1 H1 x1 s1 r1
      have N1 := N.ext x1 s1
      obtain ⟨a, o, e, h1, vs, e2, h2⟩ := r1.cell s1 N1.e.h rfl
      subst e e2
      refine ⟨a, rfl, ⟨vs, SqL.of h1⟩, fun D0 hD => ?_⟩
      obtain ⟨Pv, p0, p1, p2, p3⟩ := key ds vs F1 H1 x1 s1 h2 (Post.mono x1 p) D0 hD
      exact lc_list (K := X.K) (a := a) (xs := vs) Pv p0 (fun i H _ hp => SqL.of (p1 i H hp _ _ h1)) p2 p3
    | tup ds =>
      refine .inr ⟨F, O, δ, N, ?_⟩
      rw [q]
      intro v F1 H1 x1 s1 r1
      have N1 := N.ext x1 s1
      obtain ⟨a, o, e, h1, vs, e2, h2⟩ := r1.cell s1 N1.e.h rfl
      subst e e2
      refine ⟨a, rfl, ⟨vs, SqT.of h1⟩, fun D0 hD => ?_⟩
      obtain ⟨Pv, p0, p1, p2, p3⟩ := key ds vs F1 H1 x1 s1 h2 (Post.mono x1 p) D0 hD
      exact lc_tup (K := X.K) (a := a) (xs := vs) Pv p0 (fun i H _ hp => SqT.of (p1 i H hp _ _ h1)) p2 p3
    | _ => exact p.elim
  | exc c ns ds => rw [q] at p; exact .inl ⟨F, O, δ, N, by rw [q]; exact p⟩
  | bad => rw [q] at p; exact p.elim
theorem low_lcRng {lo : Int} {n : Nat} (hg : LcG g.w.K own .im κ t g0) {σ : L2.St} {H1 F1 : Hp} {O : Addr → Option Nat} {δ : DSt} {Q : VK} (N1 : Env g κ F1 O H1 σ δ) (p : Post g .fr F1 H1 (lcOf t tt fe own (rangeD lo n) δ) Q) (D0 : Addr) (hD : H1 D0 = none) :
    ∃ W : Nat → Nat → Hp → Prop, (∃ m, W 0 m (upd H1 D0 (.lst []))) ∧ ∀ i m H, W i m H →
      ((Itr lo n).stop i H ∧ Q (.ref D0) H) ∨ ((Itr lo n).go i H ∧ ∃ Nx : Hp → Prop, (∀ H', Nx H' → ∃ m', m' < m ∧ W (i + 1) m' H') ∧ ∀ x H', (Itr lo n).yld i H x H' → g0 x (wipe σ own) H' fun σ2 H2 => wipe σ2 own = wipe σ own ∧ lowT g.e0 κ tt σ2 H2 fun b H3 =>
        if b = true then lowE g.e0 κ .im fe σ2 H3 fun y H4 => ∃ acc, H4 D0 = some (.lst acc) ∧ acc.length < sizeLine ∧ Nx (upd H4 D0 (.lst (acc ++ [y]))) else Nx H3) := by
  obtain ⟨hlen, total, e, p2⟩ := lcOf_ok p
  have hl : (rangeD lo n).length = n := by rw [rangeD, List.length_map, List.length_range]
  refine lc_range (lo := lo) (n := n) (Qd := fun H => Q (.ref D0) H) (fun i H => LcInv g κ (wipe σ own) (wipeD δ own) t tt fe (rangeD lo n) total F1 H1 D0 i H) (lc_start N1 e hD) (fun i H hi I => ?_) (fun H I => ?_)
  · have hd : (rangeD lo n)[i]? = some (.int (lo + (i : Nat))) := by
      rw [rangeD, List.getElem?_map, List.getElem?_range hi]
      rfl
    exact lc_turn rfl hg hd hlen hD I fun F' _ _ _ => (show RO g H F' H .im (.int (lo + (i : Nat))) (.int (lo + (i : Nat))) from rfl)
  · exact lc_end (by rw [hl]; exact Nat.le_refl _) I hD p2

variable {elt tg iter : Expr} {ifs : List Expr} {scope : Scope} {ownS : List (Str × Nat)} {src : DE}
theorem ve_lc (ox : Okx X g) (hi : PE X iter (lowE g κ ki src)) (ok : BlkOk X.N X.env.scope scope ownS) (hg : LcG g.w.K (ownS.map (·.2)) ki.it κ t g0)
    (hgt : ∀ (s : Shared) (H : Hp) (C : Addr) (cl : List (Str × Addr)) (fp : List Addr), PG (X.blk s H scope (compEnvC scope cl C X.env) fp) tg g0) (ht : ∀ (s : Shared) (H : Hp) (C : Addr) (cl : List (Str × Addr)) (fp : List Addr), PTs (X.blk s H scope (compEnvC scope cl C X.env) fp) ifs (lowT g.e0 κ tt))
    (he : ∀ (s : Shared) (H : Hp) (C : Addr) (cl : List (Str × Addr)) (fp : List Addr), PE (X.blk s H scope (compEnvC scope cl C X.env) fp) elt (lowE g.e0 κ .im fe)) (hrd : ki ≠ .rd := by intro h; cases h) (hs : ∀ x, foldedSetIterable iter X.env x = pure x := by intro _; rfl) :
    PE X (.ListComp elt [⟨tg, iter, ifs, 0⟩] scope pos) (lowE g κ .fr (vLc src t tt fe (ownS.map (·.2)))) :=
  (pe_lc ox.calm ox.nd ((pi_list hi).or (pi_tup hi)) ok hgt ht he hs).weak fun σ H Q h => low_lc hrd ox.K hg h
/-- name = [..] on one line -/
theorem vs_setLc (i : Nat) {y : Str} {py spos : Pos} (ox : Okx X g) (hi : PE X iter (lowE g κ ki src)) (ok : BlkOk X.N X.env.scope scope ownS) (hg : LcG g.w.K (ownS.map (·.2)) ki.it κ t g0)
    (hgt : ∀ (s : Shared) (H : Hp) (C : Addr) (cl : List (Str × Addr)) (fp : List Addr), PG (X.blk s H scope (compEnvC scope cl C X.env) fp) tg g0) (ht : ∀ (s : Shared) (H : Hp) (C : Addr) (cl : List (Str × Addr)) (fp : List Addr), PTs (X.blk s H scope (compEnvC scope cl C X.env) fp) ifs (lowT g.e0 κ tt))
    (he : ∀ (s : Shared) (H : Hp) (C : Addr) (cl : List (Str × Addr)) (fp : List Addr), PE (X.blk s H scope (compEnvC scope cl C X.env) fp) elt (lowE g.e0 κ .im fe)) (own_ : Bool) (hk : κ[i]? = some (if own_ then .ow else .im) := by rfl) (hrd : ki ≠ .rd := by intro h; cases h) (hy : X.N[i]? = some y := by rfl) (hyl : X.env.scope.names.lookup y = some .local := by rfl)
    (hsw : swapsWith (.ListComp elt [⟨tg, iter, ifs, 0⟩] scope pos) (some (.Name y py)) spos.line X.env = pure true := by exact sw_true rfl rfl rfl (by decide +kernel)) (hs : ∀ x, foldedSetIterable iter X.env x = pure x := by intro _; rfl) :
    PS X (.Assign [.Name y py] (.ListComp elt [⟨tg, iter, ifs, 0⟩] scope pos) spos) (lowS g κ ⟨κ, kb, kc⟩ (sSet i (vLc src t tt fe (ownS.map (·.2))))) := by
  refine (ps_setLc ox.calm ox.nd hy hyl hsw ((pi_list hi).or (pi_tup hi)) ok hgt ht he hs).weak fun De σ H ⟨F, O, δ, N, p⟩ => ?_
  refine low_lc hrd ox.K hg ⟨F, O, δ, N, PostS.seq p fun d v F1 H1 x1 s1 r1 p1 => ?_⟩
  obtain ⟨m, a, o, e, h1, h2, h3, h4⟩ := r1
  have N1 := N.ext x1 s1
  have h0 : g.H0 a = none := N.e.h.free h1
  have hO : ∀ j, O a = some j → False := fun j hj => by
    obtain ⟨_, _, u, hu⟩ := N.o a j hj
    rw [h1] at hu
    cases hu
  cases own_ with
  | true =>
    have N2 := N1.own (i := i) h0 h2 h3 hO
    exact p1 F1 _ H1 _ (Same.refl _) (N2.set hk ⟨m, a, o, e, by simp, h3, h4⟩)
  | false =>
    subst e
    exact p1 (upd F1 a o) _ H1 _ (same_upd h2) ((N.ext (x1.lay h3 h2 h1) (Same.lay s1 h3)).set hk ((h4.mono (same_upd h2)).rep upd_same))
end
end VL

namespace VL
open PySem PySem.Spec L2

/-! ### isinstance -/
def tyN : D → Option String
  | .non => some "NoneType"
  | .bl _ => some "bool"
  | .int _ => some "int"
  | .str _ => some "str"
  | .lst _ => some "list"
  | .tup _ => some "tuple"
  | .dct _ _ => some "dict"
  | _ => none
theorem tyx_of {w : Wd} {H : Hp} {d : D} {v : V} {n : String} (e : tyN d = some n) (r : Rep w H d v) : TyX w.K H v (.type n) := by
  cases d with
  | non => cases e; cases (show v = .non from r); exact .base .non
  | bl b => cases e; cases (show v = .bl b from r); exact .base (.bl b)
  | int i => cases e; cases (show v = .int i from r); exact .base (.int i)
  | str s => cases e; cases (show v = .str s from r); exact .base (.str s)
  | lst ds => cases e; obtain ⟨a, vs, rfl, h1, _⟩ := r; exact .base (.lst h1)
  | tup ds => cases e; obtain ⟨a, vs, rfl, h1, _⟩ := r; exact .base (.tup h1)
  | dct ks ds => cases e; obtain ⟨a, vs, rfl, h1, _⟩ := r; exact .base (.dT h1)
  | ins c ns ds => cases e
  | scr ns => cases e
  | exc _ _ _ => cases e
def isTy (f : D → Option Bool) (d : D) : Res D := match f d with
  | some b => .ok (.bl b)
  | none => .bad
section
variable {X : Cx} {g : G} {κ : List Kd} {a e : Expr} {fa : DE} {ka : Rk} {pos p1 p2 : Pos}
theorem ve_isi {x : Str} (T : String) (fD : D → Option Bool) (hT : ∀ d b, fD d = some b → ∃ n, tyN d = some n ∧ kitB n T = some b) (hmI : X.mg "isinstance" = none) (hm : X.mg x = none) (hv : bootBuiltins x = some (.type T)) (ha : PE X a (lowE g κ ka fa)) (hK : X.K = g.w.K := by rfl)
    (hg : Gl X x := by rfl) (hgI : Gl X "isinstance" := by rfl) (hn : x ≠ "__name__" := by decide) (hd : (x == ("__debug__" : Str)) = false := by decide) (hs : starEach [a, .Name x p2] X.env = (false, eval a X.env) :: starEach [.Name x p2] X.env := by rfl)
    (hs2 : starEach [.Name x p2] X.env = (false, eval (.Name x p2) X.env) :: starEach [] X.env := by rfl) (hpl : (backTo pos (starEach [.Name x p2] X.env)).any (·.1) = false := by rfl) :
    PE X (.Call (.Name "isinstance" p1) [a, .Name x p2] [] pos) (lowE g κ .im (v1 (isTy fD) fa)) := by
  refine (pe_callB call_isi hgI hmI (by decide +kernel) (pa_cons ha (pa_cons (pe_bltn (v := .ty T) hg hm hv rfl hn hd) pa_nil hs2) hs) (he := hs) (hpl := hpl)).weak fun σ H Q ⟨F, O, δ, N, p⟩ => ?_
  refine ⟨F, O, δ, N, Post.seq p fun d v F1 H1 x s r q => ?_⟩
  have s0 := N.e.h.trans x.h
  unfold isTy at q
  cases hb : fD d with
  | none => rw [hb] at q; exact q.elim
  | some b =>
    rw [hb] at q
    obtain ⟨n, h1, h2⟩ := hT d b hb
    exact ⟨v, .ty T, .type n, .type T, b, rfl, .ty T, by rw [hK]; exact tyx_of h1 (r.rep s s0), by rw [hK]; exact kit_ty h2, Post.here q s rfl⟩
def fInt : D → Option Bool
  | .int _ | .bl _ => some true
  | .non | .str _ | .lst _ | .tup _ | .dct _ _ => some false
  | _ => none
def fBool : D → Option Bool
  | .bl _ => some true
  | .int _ | .non | .str _ | .lst _ | .tup _ | .dct _ _ => some false
  | _ => none
def fStr : D → Option Bool
  | .str _ => some true
  | .int _ | .bl _ | .non | .lst _ | .tup _ | .dct _ _ => some false
  | _ => none
def fTup : D → Option Bool
  | .tup _ => some true
  | .int _ | .bl _ | .non | .str _ | .lst _ | .dct _ _ => some false
  | _ => none
def fLst : D → Option Bool
  | .lst _ => some true
  | .int _ | .bl _ | .non | .str _ | .tup _ | .dct _ _ => some false
  | _ => none
theorem fInt_ok : ∀ d b, fInt d = some b → ∃ n, tyN d = some n ∧ kitB n "int" = some b := by
  intro d b h
  cases d <;> first | (cases h; exact ⟨_, rfl, by decide +kernel⟩) | cases h
theorem fBool_ok : ∀ d b, fBool d = some b → ∃ n, tyN d = some n ∧ kitB n "bool" = some b := by
  intro d b h
  cases d <;> first | (cases h; exact ⟨_, rfl, by decide +kernel⟩) | cases h
theorem fStr_ok : ∀ d b, fStr d = some b → ∃ n, tyN d = some n ∧ kitB n "str" = some b := by
  intro d b h
  cases d <;> first | (cases h; exact ⟨_, rfl, by decide +kernel⟩) | cases h
theorem fTup_ok : ∀ d b, fTup d = some b → ∃ n, tyN d = some n ∧ kitB n "tuple" = some b := by
  intro d b h
  cases d <;> first | (cases h; exact ⟨_, rfl, by decide +kernel⟩) | cases h
theorem fLst_ok : ∀ d b, fLst d = some b → ∃ n, tyN d = some n ∧ kitB n "list" = some b := by
  intro d b h
  cases d <;> first | (cases h; exact ⟨_, rfl, by decide +kernel⟩) | cases h
theorem ve_isInt (hmI : X.mg "isinstance" = none) (hm : X.mg "int" = none) (ha : PE X a (lowE g κ ka fa)) (hK : X.K = g.w.K := by rfl) (hg : Gl X "int" := by rfl) (hgI : Gl X "isinstance" := by rfl)
    (hs : starEach [a, .Name "int" p2] X.env = (false, eval a X.env) :: starEach [.Name "int" p2] X.env := by rfl) : PE X (.Call (.Name "isinstance" p1) [a, .Name "int" p2] [] pos) (lowE g κ .im (v1 (isTy fInt) fa)) :=
  ve_isi "int" fInt fInt_ok hmI hm (by decide +kernel) ha hK hg hgI (by decide) (by decide) hs
theorem ve_isBool (hmI : X.mg "isinstance" = none) (hm : X.mg "bool" = none) (ha : PE X a (lowE g κ ka fa)) (hK : X.K = g.w.K := by rfl) (hg : Gl X "bool" := by rfl) (hgI : Gl X "isinstance" := by rfl)
    (hs : starEach [a, .Name "bool" p2] X.env = (false, eval a X.env) :: starEach [.Name "bool" p2] X.env := by rfl) : PE X (.Call (.Name "isinstance" p1) [a, .Name "bool" p2] [] pos) (lowE g κ .im (v1 (isTy fBool) fa)) :=
  ve_isi "bool" fBool fBool_ok hmI hm (by decide +kernel) ha hK hg hgI (by decide) (by decide) hs
theorem ve_isStr (hmI : X.mg "isinstance" = none) (hm : X.mg "str" = none) (ha : PE X a (lowE g κ ka fa)) (hK : X.K = g.w.K := by rfl) (hg : Gl X "str" := by rfl) (hgI : Gl X "isinstance" := by rfl)
    (hs : starEach [a, .Name "str" p2] X.env = (false, eval a X.env) :: starEach [.Name "str" p2] X.env := by rfl) : PE X (.Call (.Name "isinstance" p1) [a, .Name "str" p2] [] pos) (lowE g κ .im (v1 (isTy fStr) fa)) :=
  ve_isi "str" fStr fStr_ok hmI hm (by decide +kernel) ha hK hg hgI (by decide) (by decide) hs
theorem ve_isTup (hmI : X.mg "isinstance" = none) (hm : X.mg "tuple" = none) (ha : PE X a (lowE g κ ka fa)) (hK : X.K = g.w.K := by rfl) (hg : Gl X "tuple" := by rfl) (hgI : Gl X "isinstance" := by rfl)
    (hs : starEach [a, .Name "tuple" p2] X.env = (false, eval a X.env) :: starEach [.Name "tuple" p2] X.env := by rfl) : PE X (.Call (.Name "isinstance" p1) [a, .Name "tuple" p2] [] pos) (lowE g κ .im (v1 (isTy fTup) fa)) :=
  ve_isi "tuple" fTup fTup_ok hmI hm (by decide +kernel) ha hK hg hgI (by decide) (by decide) hs
/-- isinstance(x, (list, tuple)) -/
def fSeq : D → Option Bool
  | .tup _ | .lst _ => some true
  | .int _ | .bl _ | .non | .str _ | .dct _ _ => some false
  | _ => none
theorem ve_isSeq {j : Nat} {p3 p4 : Pos} (hmI : X.mg "isinstance" = none) (hm1 : X.mg "list" = none) (hm2 : X.mg "tuple" = none) (ha : PE X a (lowE g κ ka fa)) (hK : X.K = g.w.K := by rfl)
    (hg1 : Gl X "list" := by rfl) (hg2 : Gl X "tuple" := by rfl) (hgI : Gl X "isinstance" := by rfl) (hs : starEach [a, .Tuple [.Name "list" p2, .Name "tuple" p3] j p4] X.env = (false, eval a X.env) :: starEach [.Tuple [.Name "list" p2, .Name "tuple" p3] j p4] X.env := by rfl) :
    PE X (.Call (.Name "isinstance" p1) [a, .Tuple [.Name "list" p2, .Name "tuple" p3] j p4] [] pos) (lowE g κ .im (v1 (isTy fSeq) fa)) := by
  refine (pe_callB call_isiT hgI hmI (by decide +kernel) (pa_cons ha (pa_cons (pe_tup (pa_cons (pe_bltn (v := .ty "list") hg1 hm1 (by decide +kernel) rfl) (pa_cons (pe_bltn (v := .ty "tuple") hg2 hm2 (by decide +kernel) rfl) pa_nil))) pa_nil) hs) (he := hs)).weak fun σ H Q ⟨F, O, δ, N, p⟩ => ?_
  refine ⟨F, O, δ, N, Post.seq p fun d v F1 H1 x s r q => ?_⟩
  have s0 := N.e.h.trans x.h
  refine ⟨by show 2 ≤ sizeLine; decide, fun t ht => ?_⟩
  have sT : Same H1 (upd H1 t (.tup [.ty "list", .ty "tuple"])) := same_upd ht
  unfold isTy at q
  have fin : ∀ b, Post g .im F1 H1 (.ok (.bl b)) Q → Q (.bl b) (upd H1 t (.tup [.ty "list", .ty "tuple"])) := fun b q => q _ F1 _ (Ext.new ht) (Same.newH s ht) rfl
  have go : ∀ n b, tyN d = some n → PySem.W.kitAny g.w.K (.type n) [.type "list", .type "tuple"] = some b → Post g .im F1 H1 (.ok (.bl b)) Q → rIsiT X.K [v, .ref t] (upd H1 t (.tup [.ty "list", .ty "tuple"])) Q := fun n b h1 h2 q =>
    ⟨v, t, [.ty "list", .ty "tuple"], .type n, [.type "list", .type "tuple"], b, rfl, upd_same, .cons (.ty _) (.cons (.ty _) .nil), by rw [hK]; exact tyx_of h1 (Rep.mono sT _ _ (r.rep s s0)), by rw [hK]; exact h2, fin b q⟩
  have kt : ∀ {n : String}, kitB n "list" = some true → PySem.W.kitAny g.w.K (.type n) [.type "list", .type "tuple"] = some true := fun h => kitAny_cons (kit_ty h) (fun z => nomatch z) fun _ => rfl
  have kt2 : ∀ {n : String} {b : Bool}, kitB n "list" = some false → kitB n "tuple" = some b → PySem.W.kitAny g.w.K (.type n) [.type "list", .type "tuple"] = some b := fun {n b} h h' =>
    kitAny_cons (kit_ty h) (fun _ => kitAny_cons (r := b) (kit_ty h') (fun z => by rw [z]; exact kitAny_nil) fun z => z) fun z => nomatch z
  cases d with
  | tup ds => exact go _ _ rfl (kt2 (by decide +kernel) (by decide +kernel)) q
  | lst ds => exact go _ _ rfl (kt (by decide +kernel)) q
  | int i => exact go _ _ rfl (kt2 (by decide +kernel) (by decide +kernel)) q
  | bl i => exact go _ _ rfl (kt2 (by decide +kernel) (by decide +kernel)) q
  | non => exact go _ _ rfl (kt2 (by decide +kernel) (by decide +kernel)) q
  | str i => exact go _ _ rfl (kt2 (by decide +kernel) (by decide +kernel)) q
  | dct _ _ => exact go _ _ rfl (kt2 (by decide +kernel) (by decide +kernel)) q
  | ins _ _ _ => exact q.elim
  | scr _ => exact q.elim
  | exc _ _ _ => exact q.elim

/-! own classes -/
/-- an own class, as isinstance reads its instances -/
structure ClsI (w : Wd) (c : Str) : Prop where
  cl : Cls w.K (w.ct c)
  ha : PySem.W.findIn w.K (.ref (w.ct c)) "__class__" = some (some (.builtin "object.__class__"))
  hn : PySem.W.specialIn w.K (.builtin "object.__class__") "__get__" = some (some (.builtin "getset_descriptor.__get__"))
  htk : PySem.W.takesIn w.K (.builtin "object.__class__") = some true
  hm : PySem.W.mroIn w.K (w.ct c) (.type "object") = some true
/-- .. as the second argument: T is a built-in type's name of a plain value, cs the other own classes -/
structure ClsT (w : Wd) (c : Str) (cs : List Str) : Prop where
  self : PySem.W.kitOne w.K (.ref (w.ct c)) (.ref (w.ct c)) = some true
  ty : ∀ d n, tyN d = some n → PySem.W.kitOne w.K (.type n) (.ref (w.ct c)) = some false
  oth : ∀ c', cs.contains c' = true → PySem.W.kitOne w.K (.ref (w.ct c')) (.ref (w.ct c)) = some false ∧ ClsI w c'
  own : ClsI w c
def fCls (c : Str) (cs : List Str) : D → Option Bool
  | .ins c' _ _ => if c' = c then some true else if cs.contains c' then some false else none
  | .scr _ => none
  | .exc _ _ _ => none
  | _ => some false
theorem tyx_ins {w : Wd} {H : Hp} {c : Str} {ns : List Str} {ds : List D} {v : V} (C : ClsI w c) (r : Rep w H (.ins c ns ds) v) : TyX w.K H v (.ref (w.ct c)) := by
  obtain ⟨a, dx, vs, rfl, h1, _⟩ := r
  exact .base (.ins h1 C.cl C.ha C.hn C.htk C.hm)
theorem cls_kit {w : Wd} {H : Hp} {c : Str} {cs : List Str} {d : D} {v : V} {b : Bool} (T : ClsT w c cs) (e : fCls c cs d = some b) (r : Rep w H d v) : ∃ t, TyX w.K H v t ∧ PySem.W.kitOne w.K t (.ref (w.ct c)) = some b := by
  cases d with
  | ins c' ns ds =>
    have e' : (if c' = c then some true else if cs.contains c' then some false else none) = some b := e
    by_cases q : c' = c
    · subst q
      rw [if_pos rfl] at e'
      cases e'
      exact ⟨_, tyx_ins T.own r, T.self⟩
    · rw [if_neg q] at e'
      by_cases q2 : cs.contains c' = true
      · rw [if_pos q2] at e'
        cases e'
        exact ⟨_, tyx_ins (T.oth c' q2).2 r, (T.oth c' q2).1⟩
      · rw [if_neg q2] at e'; cases e'
  | scr ns => cases e
  | exc _ _ _ => cases e
  | non => cases e; exact ⟨_, tyx_of (d := .non) rfl r, T.ty .non _ rfl⟩
  | bl b => cases e; exact ⟨_, tyx_of (d := .bl b) rfl r, T.ty (.bl b) _ rfl⟩
  | int b => cases e; exact ⟨_, tyx_of (d := .int b) rfl r, T.ty (.int b) _ rfl⟩
  | str b => cases e; exact ⟨_, tyx_of (d := .str b) rfl r, T.ty (.str b) _ rfl⟩
  | lst b => cases e; exact ⟨_, tyx_of (d := .lst b) rfl r, T.ty (.lst b) _ rfl⟩
  | tup b => cases e; exact ⟨_, tyx_of (d := .tup b) rfl r, T.ty (.tup b) _ rfl⟩
  | dct k b => cases e; exact ⟨_, tyx_of (d := .dct k b) rfl r, T.ty (.dct k b) _ rfl⟩
theorem ve_isCls {x : Str} {c : Str} {cs : List Str} (T : ClsT g.w c cs) (hmI : X.mg "isinstance" = none) (hm : X.mg x = some (.ref (g.w.ct c))) (ha : PE X a (lowE g κ ka fa)) (hK : X.K = g.w.K := by rfl) (hg : Gl X x := by rfl) (hgI : Gl X "isinstance" := by rfl)
    (hd : (x == ("__debug__" : Str)) = false := by decide) (hs : starEach [a, .Name x p2] X.env = (false, eval a X.env) :: starEach [.Name x p2] X.env := by rfl)
    (hs2 : starEach [.Name x p2] X.env = (false, eval (.Name x p2) X.env) :: starEach [] X.env := by rfl) (hpl : (backTo pos (starEach [.Name x p2] X.env)).any (·.1) = false := by rfl) : PE X (.Call (.Name "isinstance" p1) [a, .Name x p2] [] pos) (lowE g κ .im (v1 (isTy (fCls c cs)) fa)) := by
  refine (pe_callB call_isi hgI hmI (by decide +kernel) (pa_cons ha (pa_cons (pe_glob (v := .ref (g.w.ct c)) hg hm rfl hd) pa_nil hs2) hs) (he := hs) (hpl := hpl)).weak fun σ H Q ⟨F, O, δ, N, p⟩ => ?_
  refine ⟨F, O, δ, N, Post.seq p fun d v F1 H1 x s r q => ?_⟩
  have s0 := N.e.h.trans x.h
  unfold isTy at q
  cases hb : fCls c cs d with
  | none => rw [hb] at q; exact q.elim
  | some b =>
    rw [hb] at q
    obtain ⟨t, h1, h2⟩ := cls_kit T hb (r.rep s s0)
    exact ⟨v, .ref (g.w.ct c), t, .ref (g.w.ct c), b, rfl, .own _, by rw [hK]; exact h1, by rw [hK]; exact h2, Post.here q s rfl⟩

/-! ### raise of an own class with fields -/
structure XcI (w : Wd) (c : Str) (fs : List Str) : Prop where
  oex : OexC w.K (w.ct c)
  no : ∀ f, fs.contains f = true → PySem.W.findIn w.K (.ref (w.ct c)) f = some none
/-- its __init__ stores its arguments one after the other -/
def spX (C : Addr) (fs : List Str) : Sp := fun vs H Q _ => ∃ a us, vs = .ref a :: us ∧ us.length = fs.length ∧ H a = some (exo a C none) ∧
  ∀ dx H', H dx = none → dx ≠ a → H' a = some (exo a C (some dx)) → H' dx = some (exd dx (fs.zip us).reverse) → (∀ b, b ≠ a → b ≠ dx → H' b = H b) → Q .non H'
theorem zip_rev : ∀ {ns : List Str} {vs : List V}, ns.length = vs.length → (ns.zip vs).reverse = ns.reverse.zip vs.reverse
  | [], [], _ => rfl
  | [], _ :: _, h => by simp at h
  | _ :: _, [], h => by simp at h
  | n :: ns, v :: vs, h => by
    have h' : ns.length = vs.length := by simpa using h
    rw [List.zip_cons_cons, List.reverse_cons, List.reverse_cons, List.reverse_cons, zip_rev h', List.zip_append (by simp [h'])]
    rfl
variable {n : Nat} {f : Addr} {fd : FuncData} {ps : List Str} {es : List Expr} {fs : DA} {ks : List Rk} {st : Stmt}
theorem vs_raiseX {K2 : Ks} {C x : Str} {fns : List Str} {p : Pos} (ox : Okx X g) (tk : Takes X (fun cls d _ H => g.E cls d H)) (T : XcI g.w C fns) (iC : PySem.W.findIn X.K (.ref (g.w.ct C)) "__init__" = some (some (.ref f))) (tI : PySem.W.typeIn X.K (.ref f) = some (.type "function"))
    (F1 : FnOk X.prog X.w X.K X.mg X.base (L2.CX X.prog X.w) n f fd ps (spX (g.w.ct C) fns)) (hr : Room (n + 1) X.A) (hb : Binds X.K fd ps []) (hm : X.mg x = some (.ref (g.w.ct C))) (ha : PA X (e :: es) (lowA g κ ks fs)) (hk : allIm ks = true := by rfl) (hl : ks.length = fns.length := by rfl) (hl2 : ks.length ≤ 1000 := by decide) (h0 : fns ≠ [] := by simp)
    (hg : Gl X x := by rfl) (hdb : (x == ("__debug__" : Str)) = false := by decide) (he : starEach (e :: es) X.env = (false, eval e X.env) :: starEach es X.env := by rfl) (hpl : (backTo p2 (starEach es X.env)).any (·.1) = false := by rfl) :
    PS X (.Raise (some (.Call (.Name x p) (e :: es) [] p2)) none pos) (lowS g κ K2 (fun δ => (fs δ).bind fun ds => .exc C fns.reverse ds.reverse)) := by
  refine (ps_raise ox.calm tk (pmk_oex (by rw [ox.K]; exact T.oex) iC tI F1 hr hb .nil passL hg hm ha hdb he hpl)).weak fun De σ H ⟨F, O, δ, N, p⟩ => ?_
  refine ⟨F, O, δ, N, ?_⟩
  replace p : PostS g K2 F ((fs δ).bind fun ds => Res.exc C fns.reverse ds.reverse) De := p
  cases q : fs δ with
  | exc c ns ds => rw [q] at p; exact p
  | bad => rw [q] at p; exact p
  | ok ds =>
    rw [q] at p
    have p' : Raise g C fns.reverse ds.reverse := p
    intro vs F1 H1 x1 s1 r1
    obtain ⟨r2, r3⟩ := r1.im hk
    refine ⟨by rw [r3]; exact hl2, fun y hy => ?_⟩
    rw [List.append_nil]
    refine ⟨y, vs, rfl, r3.trans hl, upd_same, fun dx H' hdx hne h1 h2 h3 => ?_⟩
    have hdx' : H1 dx = none := by rw [upd_ne hne] at hdx; exact hdx
    refine ⟨rfl, dx, _, h1, h2, hdx', ?_⟩
    have sm : Same H1 (upd (del H' y) dx (.xd (fns.zip vs).reverse)) := fun b o e => by
      have b1 : b ≠ y := ne_of_none e hy
      have b2 : b ≠ dx := ne_of_none e hdx'
      rw [upd_ne b2, del_ne b1, h3 b b1 b2, upd_ne b1]
      exact e
    have x2 : Ext F1 H1 F1 (upd (del H' y) dx (.xd (fns.zip vs).reverse)) := ⟨Same.refl _, sm, fun a o h1 h2 => by rw [h1] at h2; cases h2⟩
    refine p' F1 _ (some dx) ((N.e.trans x1).trans x2) (s1.trans sm) ?_
    cases hf : fns.reverse with
    | nil => exact absurd (List.reverse_eq_nil_iff.mp hf) h0
    | cons f0 fr =>
      refine ⟨dx, vs.reverse, rfl, (N.e.trans x1).h.free hdx', s1.free hdx', ?_, ?_, r2.rev⟩
      · rw [← hf, ← zip_rev (hl.symm.trans r3.symm), upd_same]
      · rw [← hf, List.length_reverse, List.length_reverse, r3, hl]
end
/-- an exception's __init__ with one field, with two -/
theorem ok_x1 {P : Program} {w : World} {wd : Wd} {mg : Str → Option Value} {base : Heap} {qual : Str} {st : Stmt} {f : Addr} {fd : FuncData} {C f1 : Str} (F : Fun wd.K "__init__" qual st f fd) (S : FnScope [("self" : Str), f1] [("self" : Str), f1] (defScope st)) (T : XcI wd C [f1])
    (hb : ∀ (X : Cx), X.N = [("self" : Str), f1] → X.env.scope = defScope st → PSs X (defBody st) (tOst X.K f1 (tVar 0) (tVar 1))) : FnOk P w wd.K mg base (L2.CX P w) 1 f fd [("self" : Str), f1] (spX (wd.ct C) [f1]) := by
  refine F.okX S (fun vs H Q E h => ?_) (fun cdv A outer s H vs Q E hr h => ?_)
  · obtain ⟨a, us, rfl, hl, _⟩ := h
    rw [List.length_cons, hl]
    rfl
  · obtain ⟨a, us, rfl, hl, ha, k⟩ := h
    obtain ⟨u, rfl⟩ : ∃ u, us = [u] := by
      cases us with
      | nil => cases hl
      | cons u r =>
        cases r with
        | nil => exact ⟨u, rfl⟩
        | cons _ _ => simp at hl
    refine ⟨_, hb _ rfl rfl, u, rfl, .ref a, rfl, a, wd.ct C, rfl, T.oex, T.no f1 (by simp), .inl ⟨ha, fun dx hdx hne => ?_⟩⟩
    refine k dx _ hdx hne upd_same (by rw [upd_ne hne, upd_same]; rfl) fun b h1 h2 => by rw [upd_ne h1, upd_ne h2]
theorem ok_x2 {P : Program} {w : World} {wd : Wd} {mg : Str → Option Value} {base : Heap} {qual : Str} {st : Stmt} {f : Addr} {fd : FuncData} {C f1 f2 : Str} (F : Fun wd.K "__init__" qual st f fd) (S : FnScope [("self" : Str), f1, f2] [("self" : Str), f1, f2] (defScope st)) (T : XcI wd C [f1, f2])
    (hb : ∀ (X : Cx), X.N = [("self" : Str), f1, f2] → X.env.scope = defScope st → PSs X (defBody st) (tSeq (tOst X.K f1 (tVar 0) (tVar 1)) (tOst X.K f2 (tVar 0) (tVar 2)))) : FnOk P w wd.K mg base (L2.CX P w) 1 f fd [("self" : Str), f1, f2] (spX (wd.ct C) [f1, f2]) := by
  refine F.okX S (fun vs H Q E h => ?_) (fun cdv A outer s H vs Q E hr h => ?_)
  · obtain ⟨a, us, rfl, hl, _⟩ := h
    rw [List.length_cons, hl]
    rfl
  · obtain ⟨a, us, rfl, hl, ha, k⟩ := h
    obtain ⟨u, u', rfl⟩ : ∃ u u', us = [u, u'] := by
      cases us with
      | nil => cases hl
      | cons u r =>
        cases r with
        | nil => simp at hl
        | cons u' r =>
          cases r with
          | nil => exact ⟨u, u', rfl⟩
          | cons _ _ => simp at hl
    refine ⟨_, hb _ rfl rfl, u, rfl, .ref a, rfl, a, wd.ct C, rfl, T.oex, T.no f1 (by simp), .inl ⟨ha, fun dx hdx hne => ?_⟩⟩
    refine ⟨u', rfl, .ref a, rfl, a, wd.ct C, rfl, T.oex, T.no f2 (by simp), .inr ⟨dx, _, upd_same, by rw [upd_ne hne, upd_same], by simp, ?_⟩⟩
    exact k dx _ hdx hne (by rw [upd_ne hne.symm, upd_same]) (by rw [upd_same]; rfl) fun b h1 h2 => by rw [upd_ne h2, upd_ne h1, upd_ne h2]
end VL

namespace VL
open PySem PySem.Spec L2

/-! ### own classes' operators -/
/-- an own class, as the first of two; cs: the other own classes that may stand second -/
structure OwnC (w : Wd) (c : Str) (cs : List Str) : Prop where
  own : ClsI w c
  ty : ∀ d n, tyN d = some n → PySem.W.notFirst w.K (w.ct c) (.type n) = true
  oth : ∀ c', cs.contains c' = true → ClsI w c' ∧ PySem.W.notFirst w.K (w.ct c) (.ref (w.ct c')) = true
def bOk (c : Str) (cs : List Str) : D → Bool
  | .ins c' _ _ => decide (c' = c) || cs.contains c'
  | .scr _ => false
  | .exc _ _ _ => false
  | _ => true
theorem own_first {w : Wd} {H : Hp} {c : Str} {cs : List Str} {d : D} {v : V} (C : OwnC w c cs) (e : bOk c cs d = true) (r : Rep w H d v) : ∃ t, TyX w.K H v t ∧ PySem.W.notFirst w.K (w.ct c) t = true := by
  cases d with
  | ins c' ns ds =>
    have e' : (decide (c' = c) || cs.contains c') = true := e
    rw [Bool.or_eq_true] at e'
    rcases e' with q | q
    · have q := of_decide_eq_true q
      subst q
      exact ⟨_, tyx_ins C.own r, by simp [PySem.W.notFirst]⟩
    · exact ⟨_, tyx_ins (C.oth c' q).1 r, (C.oth c' q).2⟩
  | scr ns => cases e
  | exc _ _ _ => cases e
  | non => exact ⟨_, tyx_of (d := .non) rfl r, C.ty .non _ rfl⟩
  | bl b => exact ⟨_, tyx_of (d := .bl b) rfl r, C.ty (.bl b) _ rfl⟩
  | int b => exact ⟨_, tyx_of (d := .int b) rfl r, C.ty (.int b) _ rfl⟩
  | str b => exact ⟨_, tyx_of (d := .str b) rfl r, C.ty (.str b) _ rfl⟩
  | lst b => exact ⟨_, tyx_of (d := .lst b) rfl r, C.ty (.lst b) _ rfl⟩
  | tup b => exact ⟨_, tyx_of (d := .tup b) rfl r, C.ty (.tup b) _ rfl⟩
  | dct k b => exact ⟨_, tyx_of (d := .dct k b) rfl r, C.ty (.dct k b) _ rfl⟩
/-- no NotImplemented -/
def NI (v : V) : Prop := ∀ u, RelV v u → u ≠ .notImplemented
theorem rep_ni {w : Wd} {H : Hp} {d : D} {v : V} (r : Rep w H d v) : NI v := by
  intro u ru
  cases d with
  | non => cases (show v = .non from r); cases (show u = Value.none from ru); exact fun z => nomatch z
  | bl b => cases (show v = .bl b from r); cases (show u = Value.bool b from ru); exact fun z => nomatch z
  | int i => cases (show v = .int i from r); obtain ⟨t, q⟩ := (show ∃ t, u = Value.int i t from ru); cases q; exact fun z => nomatch z
  | str s => cases (show v = .str s from r); obtain ⟨t, q⟩ := (show ∃ t, u = Value.str s t from ru); cases q; exact fun z => nomatch z
  | lst ds => obtain ⟨a, vs, rfl, _⟩ := r; cases (show u = Value.ref a from ru); exact fun z => nomatch z
  | tup ds => obtain ⟨a, vs, rfl, _⟩ := r; cases (show u = Value.ref a from ru); exact fun z => nomatch z
  | ins c ns ds => obtain ⟨a, dx, vs, rfl, _⟩ := r; cases (show u = Value.ref a from ru); exact fun z => nomatch z
  | dct ks ds => obtain ⟨a, vs, rfl, _⟩ := r; cases (show u = Value.ref a from ru); exact fun z => nomatch z
  | scr ns => obtain ⟨a, rfl, _⟩ := r; cases (show u = Value.ref a from ru); exact fun z => nomatch z
  | exc c ns ds => obtain ⟨a, dopt, rfl, _⟩ := r; cases (show u = Value.ref a from ru); exact fun z => nomatch z
theorem back_of {Q : Value → Shared → Prop} {u : Value} {s : Shared} (h : u ≠ .notImplemented) (q : Q u s) : PySem.W.CmpBack Q u s := by
  unfold PySem.W.CmpBack
  cases u <;> first | exact absurd rfl h | exact q
theorem Post.ni {g : G} {F H : Hp} {r : Res D} {Q : VK} (h : Post g .im F H r Q) : Post g .im F H r (fun v H' => Q v H' ∧ NI v) := by
  cases r with
  | ok d => exact fun v F' H' x s q => ⟨h v F' H' x s q, rep_ni q⟩
  | exc c ns ds => exact h
  | bad => exact h
/-- a call that raises nothing -/
theorem Post.nox {g : G} {w : Wd} {F F0 H H0 : Hp} {E : XK} {r : Res D} {Q : VK} (hw : g.w = w) (h : Post g .im F H r.nox Q) : Post ⟨w, F0, H0, E⟩ .im F H r Q := by
  subst hw
  cases r with
  | ok d => exact h
  | exc c ns ds => exact h.elim
  | bad => exact h
section
variable {X : Cx} {g : G} {κ : List Kd} {a b e : Expr} {fa fb : DE} {ka kb : Rk} {pos : Pos} {n : Nat} {f : Addr} {fd : FuncData} {ps : List Str} {ef : List D → Res D} {c : Str} {cs : List Str}

def rOwn (g : G) (ef : List D → Res D) (K : PySem.W.Frag) (c : Str) (ks : List Kd) : R2 := fun x y H Q => ∃ p dx fs t, x = .ref p ∧ H p = some (.ins (g.w.ct c) dx fs) ∧ TyX K H y t ∧ PySem.W.notFirst K (g.w.ct c) t = true ∧ lift g.w ks ef [x, y] H (fun v H' => Q v H' ∧ NI v) g.E
theorem op_own {op : CmpOp} {ks : List Kd} (hco : ∀ v u, compareOp op v u = richCompare op v u) (Fk : FnOk X.prog X.w X.K X.mg X.base (L2.CX X.prog X.w) n f fd ps (lift g.w ks ef)) (hr : Room n X.A) (hb : Binds X.K fd ps []) (hx : Passes (L2.CX X.prog X.w) X g.E)
    (hs : PySem.W.findIn X.K (.ref (g.w.ct c)) (cmpInfo op).2.1 = some (some (.ref f))) (hf : PySem.W.isFn X.K (.ref f) = true) : OpR X (compareOp op) (rOwn g ef X.K c ks) := by
  intro pins s σ H x y v u Q I rx ry h
  obtain ⟨p, dx, fs, t, rfl, hp, ht, hn, hl⟩ := h
  cases (show v = Value.ref p from rx)
  obtain ⟨mA, J, _⟩ := ins_get I.hok hp
  obtain ⟨od, J, _⟩ := J.look
  obtain ⟨m, hF⟩ := I.fr
  obtain ⟨P, Z, pz, _⟩ := kit_of I ry ht
  rw [hco]
  refine PySem.W.cmp_K (op := op) (tb := t) hr.units0 hF I.ok.mod.kin J (Z.ty _ _ I.kIn pz) hn hs hf ?_
  have q := run_fn (Q := fun v H' => Q v H' ∧ NI v) (vs := [.ref p, y]) (us := [.ref p, u]) Fk hr hb .nil hx I (.cons rx (.cons ry .nil)) hl
  refine wpAny_mono q (fun r s' z => ?_) fun _ _ z => z
  obtain ⟨v', H', I', rv, q1, q2⟩ := z
  exact back_of (q2 _ rv) ⟨v', H', I', rv, q1⟩
/-- x op y by x's own method -/
def ownCmp (c : Str) (cs : List Str) (ef : List D → Res D) (x y : D) : Res D := match x with
  | .ins c' ns ds => if c' = c ∧ bOk c cs y = true then (ef [.ins c' ns ds, y]).nox else .bad
  | _ => .bad
theorem ownCmp_rule {ks : List Kd} (hK : X.K = g.w.K) (hks : ks = [.bo, .bo]) (C : OwnC g.w c cs) (Hs Hs' F H : Hp) (x y : D) (u v : V) (Q : VK) (s : Same F H) (s0 : Same g.H0 H) (r1 : RO g Hs F H ka x u) (r2 : RO g Hs' F H kb y v) (p : Post g .im F H (ownCmp c cs ef x y) Q) : rOwn g ef X.K c ks u v H Q := by
  subst hks
  cases x with
  | ins c' ns ds =>
    have p' : Post g .im F H (if c' = c ∧ bOk c cs y = true then (ef [.ins c' ns ds, y]).nox else .bad) Q := p
    by_cases q : c' = c ∧ bOk c cs y = true
    · rw [if_pos q] at p'
      obtain ⟨q1, q2⟩ := q
      subst q1
      obtain ⟨t, h1, h2⟩ := own_first C q2 (r2.rep s s0)
      obtain ⟨a, dx, vs, e, h3, h4⟩ := (show Rep g.w H (.ins c' ns ds) u from r1.rep s s0)
      refine ⟨a, dx, _, t, e, h3, by rw [hK]; exact h1, by rw [hK]; exact h2, F, [.ins c' ns ds, y], s, ?_, (Post.nox rfl p').ni⟩
      exact ⟨_, _, _, _, rfl, rfl, RO.rep (g := g) s s0 r1, _, _, _, _, rfl, rfl, RO.rep (g := g) s s0 r2, rfl, rfl⟩
    · rw [if_neg q] at p'; exact p'.elim
  | _ => exact p.elim
def c_eqO (hK : X.K = g.w.K) (C : OwnC g.w c cs) (Fk : FnOk X.prog X.w X.K X.mg X.base (L2.CX X.prog X.w) n f fd ps (lift g.w [.bo, .bo] ef)) (hr : Room n X.A) (hb : Binds X.K fd ps []) (hx : Passes (L2.CX X.prog X.w) X g.E)
    (hs : PySem.W.findIn X.K (.ref (g.w.ct c)) "__eq__" = some (some (.ref f))) (hf : PySem.W.isFn X.K (.ref f) = true) : CmpR X g .Eq ka kb (ownCmp c cs ef) :=
  ⟨_, op_own (op := .Eq) (c := c) (fun _ _ => rfl) Fk hr hb hx hs hf, fun Hs Hs' F H x y u v Q s s0 r1 r2 p => ownCmp_rule hK rfl C Hs Hs' F H x y u v Q s s0 r1 r2 p⟩
def c_neO (hK : X.K = g.w.K) (C : OwnC g.w c cs) (Fk : FnOk X.prog X.w X.K X.mg X.base (L2.CX X.prog X.w) n f fd ps (lift g.w [.bo, .bo] ef)) (hr : Room n X.A) (hb : Binds X.K fd ps []) (hx : Passes (L2.CX X.prog X.w) X g.E)
    (hs : PySem.W.findIn X.K (.ref (g.w.ct c)) "__ne__" = some (some (.ref f))) (hf : PySem.W.isFn X.K (.ref f) = true) : CmpR X g .NotEq ka kb (ownCmp c cs ef) :=
  ⟨_, op_own (op := .NotEq) (c := c) (fun _ _ => rfl) Fk hr hb hx hs hf, fun Hs Hs' F H x y u v Q s s0 r1 r2 p => ownCmp_rule hK rfl C Hs Hs' F H x y u v Q s s0 r1 r2 p⟩

/-! in -/
def rOwnIn (g : G) (neg : Bool) (ef : List D → Res D) (c : Str) : R2 := fun x y H Q => ∃ p dx fs, y = .ref p ∧ H p = some (.ins (g.w.ct c) dx fs) ∧ lift g.w [.bo, .bo] ef [y, x] H (fun v H' => ∃ b, v = .bl b ∧ Q (.bl (if neg then !b else b)) H') g.E
theorem op_ownIn (Fk : FnOk X.prog X.w X.K X.mg X.base (L2.CX X.prog X.w) n f fd ps (lift g.w [.bo, .bo] ef)) (hr : Room n X.A) (hb : Binds X.K fd ps []) (hx : Passes (L2.CX X.prog X.w) X g.E)
    (hs : PySem.W.findIn X.K (.ref (g.w.ct c)) "__contains__" = some (some (.ref f))) (hf : PySem.W.isFn X.K (.ref f) = true) : OpR X (compareOp .In) (rOwnIn g false ef c) := by
  intro pins s σ H x y v u Q I rx ry h
  obtain ⟨p, dx, fs, rfl, hp, hl⟩ := h
  cases (show u = Value.ref p from ry)
  obtain ⟨mA, J, _⟩ := ins_get I.hok hp
  obtain ⟨od, J, _⟩ := J.look
  obtain ⟨m, hF⟩ := I.fr
  refine PySem.W.in_K hF I.ok.mod.kin J hs hf ?_
  refine wpAny_mono (run_fn (vs := [.ref p, x]) (us := [.ref p, v]) Fk hr hb .nil hx I (.cons ry (.cons rx .nil)) hl) (fun r s' z => ?_) fun _ _ z => z
  obtain ⟨v', H', I', rv, b, rfl, q⟩ := z
  cases (show r = Value.bool b from rv)
  exact wpAny_truthy_bool ⟨.bl b, H', I', rfl, q⟩
theorem op_ownNotIn (Fk : FnOk X.prog X.w X.K X.mg X.base (L2.CX X.prog X.w) n f fd ps (lift g.w [.bo, .bo] ef)) (hr : Room n X.A) (hb : Binds X.K fd ps []) (hx : Passes (L2.CX X.prog X.w) X g.E)
    (hs : PySem.W.findIn X.K (.ref (g.w.ct c)) "__contains__" = some (some (.ref f))) (hf : PySem.W.isFn X.K (.ref f) = true) : OpR X (compareOp .NotIn) (rOwnIn g true ef c) := by
  intro pins s σ H x y v u Q I rx ry h
  obtain ⟨p, dx, fs, rfl, hp, hl⟩ := h
  cases (show u = Value.ref p from ry)
  obtain ⟨mA, J, _⟩ := ins_get I.hok hp
  obtain ⟨od, J, _⟩ := J.look
  obtain ⟨m, hF⟩ := I.fr
  refine PySem.W.notIn_K hF I.ok.mod.kin J hs hf ?_
  refine wpAny_mono (run_fn (vs := [.ref p, x]) (us := [.ref p, v]) Fk hr hb .nil hx I (.cons ry (.cons rx .nil)) hl) (fun r s' z => ?_) fun _ _ z => z
  obtain ⟨v', H', I', rv, b, rfl, q⟩ := z
  cases (show r = Value.bool b from rv)
  exact wpAny_truthy_bool ⟨.bl (!b), H', I', rfl, q⟩
def ownIn (neg : Bool) (c : Str) (ef : List D → Res D) (x y : D) : Res D := match y with
  | .ins c' ns ds => if c' = c then (match ef [.ins c' ns ds, x] with
    | .ok (.bl b) => .ok (.bl (if neg then !b else b))
    | _ => .bad) else .bad
  | _ => .bad
theorem ownIn_rule {neg : Bool} (Hs Hs' F H : Hp) (x y : D) (u v : V) (Q : VK) (s : Same F H) (s0 : Same g.H0 H) (r1 : RO g Hs F H ka x u) (r2 : RO g Hs' F H kb y v) (p : Post g .im F H (ownIn neg c ef x y) Q) : rOwnIn g neg ef c u v H Q := by
  cases y with
  | ins c' ns ds =>
    have p' : Post g .im F H (if c' = c then (match ef [.ins c' ns ds, x] with
      | .ok (.bl b) => .ok (.bl (if neg then !b else b))
      | _ => .bad) else .bad) Q := p
    by_cases q : c' = c
    · rw [if_pos q] at p'
      subst q
      obtain ⟨a, dx, vs, e, h3, h4⟩ := (show Rep g.w H (.ins c' ns ds) v from r2.rep s s0)
      refine ⟨a, dx, _, e, h3, F, [.ins c' ns ds, x], s, ?_, ?_⟩
      · exact ⟨_, _, _, _, rfl, rfl, RO.rep (g := g) s s0 r2, _, _, _, _, rfl, rfl, RO.rep (g := g) s s0 r1, rfl, rfl⟩
      · cases e5 : ef [.ins c' ns ds, x] with
        | ok d =>
          rw [e5] at p'
          cases d with
          | bl b => exact fun v' F' H' x' s' r' => ⟨b, r', p' _ F' H' x' s' rfl⟩
          | _ => exact p'.elim
        | exc c ns ds => rw [e5] at p'; exact p'.elim
        | bad => rw [e5] at p'; exact p'.elim
    · rw [if_neg q] at p'; exact p'.elim
  | _ => exact p.elim
def c_inO (Fk : FnOk X.prog X.w X.K X.mg X.base (L2.CX X.prog X.w) n f fd ps (lift g.w [.bo, .bo] ef)) (hr : Room n X.A) (hb : Binds X.K fd ps []) (hx : Passes (L2.CX X.prog X.w) X g.E)
    (hs : PySem.W.findIn X.K (.ref (g.w.ct c)) "__contains__" = some (some (.ref f))) (hf : PySem.W.isFn X.K (.ref f) = true) : CmpR X g .In ka kb (ownIn false c ef) :=
  ⟨_, op_ownIn (c := c) Fk hr hb hx hs hf, fun Hs Hs' F H x y u v Q s s0 r1 r2 p => ownIn_rule Hs Hs' F H x y u v Q s s0 r1 r2 p⟩
def c_notInO (Fk : FnOk X.prog X.w X.K X.mg X.base (L2.CX X.prog X.w) n f fd ps (lift g.w [.bo, .bo] ef)) (hr : Room n X.A) (hb : Binds X.K fd ps []) (hx : Passes (L2.CX X.prog X.w) X g.E)
    (hs : PySem.W.findIn X.K (.ref (g.w.ct c)) "__contains__" = some (some (.ref f))) (hf : PySem.W.isFn X.K (.ref f) = true) : CmpR X g .NotIn ka kb (ownIn true c ef) :=
  ⟨_, op_ownNotIn (c := c) Fk hr hb hx hs hf, fun Hs Hs' F H x y u v Q s s0 r1 r2 p => ownIn_rule Hs Hs' F H x y u v Q s s0 r1 r2 p⟩

theorem RO.hs {g : G} {Hs Hs' F H : Hp} {k : Kd} {d : D} {v : V} (h : RO g Hs F H k.arg d v) : RO g Hs' F H k.arg d v := by
  cases k <;> exact h
/-! +, - of two instances of the class -/
def rOwnB (g : G) (ef : List D → Res D) (c : Str) (ks : List Kd) : R2 := fun x y H Q => ∃ p dx fs q dy gs, x = .ref p ∧ H p = some (.ins (g.w.ct c) dx fs) ∧ y = .ref q ∧ H q = some (.ins (g.w.ct c) dy gs) ∧ lift g.w ks ef [x, y] H (fun v H' => Q v H' ∧ NI v) g.E
theorem op_ownB {op : Operator} {ks : List Kd} (Fk : FnOk X.prog X.w X.K X.mg X.base (L2.CX X.prog X.w) n f fd ps (lift g.w ks ef)) (hr : Room n X.A) (hb : Binds X.K fd ps []) (hx : Passes (L2.CX X.prog X.w) X g.E) (hc : PySem.W.selfFirst X.K (g.w.ct c) = true)
    (hs : PySem.W.findIn X.K (.ref (g.w.ct c)) (PySem.dunder op.info.2) = some (some (.ref f))) (hf : PySem.W.isFn X.K (.ref f) = true) : OpR X (binaryOp op) (rOwnB g ef c ks) := by
  intro pins s σ H x y v u Q I rx ry h
  obtain ⟨p, dx, fs, q, dy, gs, rfl, hp, rfl, hq, hl⟩ := h
  cases (show v = Value.ref p from rx)
  cases (show u = Value.ref q from ry)
  obtain ⟨mA, J, _⟩ := ins_get I.hok hp
  obtain ⟨od, J, _⟩ := J.look
  obtain ⟨mB, J', _⟩ := ins_get I.hok hq
  obtain ⟨od', J', _⟩ := J'.look
  obtain ⟨m, hF⟩ := I.fr
  refine PySem.W.binop_K hF I.ok.mod.kin J J'.type hc hs hf ?_
  have z := run_fn (Q := fun v H' => Q v H' ∧ NI v) (vs := [.ref p, .ref q]) (us := [.ref p, .ref q]) Fk hr hb .nil hx I (.cons rx (.cons ry .nil)) hl
  refine wpAny_mono z (fun r s' z => ?_) fun _ _ z => z
  obtain ⟨v', H', I', rv, q1, q2⟩ := z
  exact back_of (q2 _ rv) ⟨v', H', I', rv, q1⟩
def ownBin (c : Str) (ef : List D → Res D) (x y : D) : Res D := match x, y with
  | .ins c1 ns ds, .ins c2 ms es => if c1 = c ∧ c2 = c then ef [.ins c1 ns ds, .ins c2 ms es] else .bad
  | _, _ => .bad
theorem ve_ownB {op : Operator} {k1 k2 : Kd} (Fk : FnOk X.prog X.w X.K X.mg X.base (L2.CX X.prog X.w) n f fd ps (lift g.w [k1, k2] ef)) (hr : Room n X.A) (hb : Binds X.K fd ps []) (hx : Passes (L2.CX X.prog X.w) X g.E) (hc : PySem.W.selfFirst X.K (g.w.ct c) = true)
    (hs : PySem.W.findIn X.K (.ref (g.w.ct c)) (PySem.dunder op.info.2) = some (some (.ref f))) (hf : PySem.W.isFn X.K (.ref f) = true) (ha : PE X a (lowE g κ k1.arg fa)) (hb' : PE X b (lowE g κ k2.arg fb)) :
    PE X (.BinOp a op b pos) (lowE g κ .im (v2 (ownBin c ef) fa fb)) := by
  have r0 := op_ownB (X := X) (g := g) (op := op) (c := c) Fk hr hb hx hc hs hf
  refine (pe_op r0 ha hb').weak fun σ H Q ⟨F, O, δ, N, p⟩ => ?_
  -- Fk hr hb hx hc hs hf) ha hb').weak fun σ H Q ⟨F, O, δ, N, p⟩ => ?_
  refine ⟨F, O, δ, N, Post.seq p fun x u F1 H1 e1 s1 r1 p1 => ?_⟩
  have N1 := N.ext e1 s1
  refine ⟨F1, O, δ, N1, Post.seq p1 fun y v F2 H2 e2 s2 r2 p2 => ?_⟩
  have N2 := N1.ext e2 s2
  have s0 := N2.e.h
  have r1' := r1.ext e2
  cases x with
  | ins c1 ns ds =>
    cases y with
    | ins c2 ms es =>
      have p' : Post g .im F2 H2 (if c1 = c ∧ c2 = c then ef [.ins c1 ns ds, .ins c2 ms es] else .bad) Q := p2
      by_cases q : c1 = c ∧ c2 = c
      · rw [if_pos q] at p'
        obtain ⟨q1, q2⟩ := q
        subst q1 q2
        obtain ⟨a, dx, vs, ea, h3, _⟩ := (show Rep g.w H2 (.ins c2 ns ds) u from r1'.rep s2 s0)
        obtain ⟨a', dx', vs', eb, h3', _⟩ := (show Rep g.w H2 (.ins c2 ms es) v from r2.rep s2 s0)
        refine ⟨a, dx, _, a', dx', _, ea, h3, eb, h3', F2, _, s2, ?_, (Post.call N2.e p').ni⟩
        have rr : ROs g H1 F2 H2 (List.map Kd.arg [k1, k2]) [_, _] [u, v] := ⟨_, _, _, _, rfl, rfl, r1'.hs, _, _, _, _, rfl, rfl, r2, rfl, rfl⟩
        exact ROs.args (by rfl) rr
      · rw [if_neg q] at p'; exact p'.elim
    | _ => exact p2.elim
  | _ => cases y <;> exact p2.elim

/-! len -/
def rOwnLen (g : G) (ef : List D → Res D) (c : Str) : List V → Hp → VK → Prop := fun xs H Q => ∃ p dx fs, xs = [.ref p] ∧ H p = some (.ins (g.w.ct c) dx fs) ∧ lift g.w [.bo] ef [.ref p] H (fun v H' => ∃ n : Int, v = .int n ∧ (0 ≤ n ∧ n < 2 ^ 63) ∧ Q (.int n) H') g.E
theorem run_fn1 {A : Around} {CX : CXT} {sp : Sp} {E : XK} {pins : List (Addr × Obj)} {σ : L2.St} {H : Hp} {s : Shared} {Q : VK} {us : List Value} {vs : List V} (F : FnOk X.prog X.w X.K X.mg X.base CX n f fd ps sp) (hr : Room n A) (fr : A.frames = X.A.frames) (hb : Binds X.K fd ps []) (hx : Passes CX X E)
    (I : Inv X pins σ H s) (r : Vals vs us) (h : sp vs H Q E) : wpAny (model X.prog X.w) A (call (.ref f) us) (EP X pins σ Q) X.xe s := by
  have hl : us.length = ps.length := by rw [← r.length]; exact F.len _ _ _ _ h
  have e0 : Env0 X.prog X.w X.K X.mg X.base A X.stack s H := by
    have e := I.env0
    exact ⟨by rw [fr]; exact e.frames, e.mod, e.bs, e.bsz, e.funs, e.frf, e.hok, e.bare⟩
  have hb2 := hb s us I.kIn (by simpa using hl)
  rw [List.append_nil] at hb2
  refine wpAny_call (codeAny_mono (F.run A X.stack s H ⟨us, []⟩ us vs Q E hr e0 hb2 r h) fun r s' hq => ?_)
  cases r with
  | error e => exact hx pins σ H s e s' I hq
  | ok fl =>
    cases fl with
    | ret u => exact I.after hq
    | next => exact False.elim hq
    | brk => exact False.elim hq
    | cont => exact False.elim hq
theorem call_ownLen (Fk : FnOk X.prog X.w X.K X.mg X.base (L2.CX X.prog X.w) n f fd ps (lift g.w [.bo] ef)) (hr : Room (n + 1) X.A) (hb : Binds X.K fd ps []) (hx : Passes (L2.CX X.prog X.w) X g.E)
    (hs : PySem.W.findIn X.K (.ref (g.w.ct c)) "__len__" = some (some (.ref f))) (hf : PySem.W.isFn X.K (.ref f) = true) : CallR X (.builtin "len") (rOwnLen g ef c) := by
  intro pins s σ H xs us Q I r h
  obtain ⟨p, dx, fs, rfl, hp, hl⟩ := h
  obtain ⟨u, rfl, ru⟩ := vals1 r
  cases (show u = Value.ref p from ru)
  obtain ⟨mA, J, _⟩ := ins_get I.hok hp
  obtain ⟨od, J, _⟩ := J.look
  obtain ⟨m, hF⟩ := I.fr
  refine PySem.W.len_K hF I.ok.mod.kin J hs hf ?_
  refine wpAny_mono (run_fn1 (A := X.A.in1) (vs := [.ref p]) (us := [.ref p]) Fk hr.in1 rfl hb hx I (.cons rfl .nil) hl) (fun r s' z => ?_) fun _ _ z => z
  obtain ⟨v', H', I', rv, k, rfl, hk, q⟩ := z
  obtain ⟨t, rfl⟩ := (show ∃ t, r = Value.int k t from rv)
  exact ⟨hk, .int k, H', I'.tok _, ⟨_, rfl⟩, q⟩
def ownLen (c : Str) (ef : List D → Res D) (x : D) : Res D := match x with
  | .ins c' ns ds => if c' = c then (match ef [.ins c' ns ds] with
    | .ok (.int n) => if 0 ≤ n ∧ n < 2 ^ 63 then .ok (.int n) else .bad
    | _ => .bad) else .bad
  | _ => .bad
theorem ve_ownLen {p1 : Pos} (Fk : FnOk X.prog X.w X.K X.mg X.base (L2.CX X.prog X.w) n f fd ps (lift g.w [.bo] ef)) (hr : Room (n + 1) X.A) (hb : Binds X.K fd ps []) (hx : Passes (L2.CX X.prog X.w) X g.E)
    (hs : PySem.W.findIn X.K (.ref (g.w.ct c)) "__len__" = some (some (.ref f))) (hf : PySem.W.isFn X.K (.ref f) = true) (hm : X.mg "len" = none) (ha : PE X a (lowE g κ ka fa)) (hg : Gl X "len" := by rfl) (hst : starEach [a] X.env = (false, eval a X.env) :: starEach [] X.env := by rfl) :
    PE X (.Call (.Name "len" p1) [a] [] pos) (lowE g κ .im (v1 (ownLen c ef) fa)) := by
  refine ve_b1 (fun t h => pe_callB (call_ownLen (c := c) Fk hr hb hx hs hf) hg hm PySem.boot_len h (he := hst)) hst (fun Hs F H x u Q s s0 r p => ?_) ha
  cases x with
  | ins c' ns ds =>
    have p' : Post g .im F H (if c' = c then (match ef [.ins c' ns ds] with
      | .ok (.int n) => if 0 ≤ n ∧ n < 2 ^ 63 then .ok (.int n) else .bad
      | _ => .bad) else .bad) Q := p
    by_cases q : c' = c
    · rw [if_pos q] at p'
      subst q
      obtain ⟨a, dx, vs, e, h3, h4⟩ := (show Rep g.w H (.ins c' ns ds) u from r.rep s s0)
      subst e
      refine ⟨a, dx, _, rfl, h3, F, [.ins c' ns ds], s, ⟨_, _, _, _, rfl, rfl, RO.rep (g := g) s s0 r, rfl, rfl⟩, ?_⟩
      cases e5 : ef [.ins c' ns ds] with
      | ok d =>
        rw [e5] at p'
        cases d with
        | int b =>
          have p2 : Post g .im F H (if 0 ≤ b ∧ b < 2 ^ 63 then .ok (.int b) else .bad) Q := p'
          by_cases hb : 0 ≤ b ∧ b < 2 ^ 63
          · rw [if_pos hb] at p2
            exact fun v' F' H' x' s' r' => ⟨b, r', hb, p2 _ F' H' x' s' rfl⟩
          · rw [if_neg hb] at p2; exact p2.elim
        | _ => exact p'.elim
      | exc c ns ds => rw [e5] at p'; exact p'.elim
      | bad => rw [e5] at p'; exact p'.elim
    · rw [if_neg q] at p'; exact p'.elim
  | _ => exact p.elim

/-! o.m(..) -/
variable {m : Str} {apos : Pos} {es : List Expr} {fs : DA} {k1 : Kd} {ks : List Kd} {x : Expr}
def vMeth (c : Str) (m : Str) (ef : List D → Res D) (fa : DE) (fs : DA) : DE := fun δ => (fa δ).bind fun o => match o with
  | .ins c' ns ds => if c' = c ∧ ns.contains m = false then (fs δ).bind fun as => ef (.ins c' ns ds :: as) else .bad
  | _ => .bad
theorem lookup_none {m : Str} : ∀ {ns : List Str} {vs : List V}, ns.contains m = false → (ns.zip vs).lookup m = none
  | [], _, _ => by simp
  | _ :: _, [], _ => by simp
  | n :: ns, v :: vs, h => by
    rw [List.contains_cons, Bool.or_eq_false_iff] at h
    rw [List.zip_cons_cons, List.lookup_cons, h.1]
    exact lookup_none h.2
theorem low_meth (hK : X.K = g.w.K) {σ : L2.St} {H : Hp} {Q : VK} (h : lowE g κ .im (vMeth c m ef fa fs) σ H Q) : tMeth (g.w.ct c) m (lift g.w (k1 :: ks) ef) [] g.E (lowE g κ k1.arg fa) (lowA g κ (ks.map Kd.arg) fs) σ H Q := by
  obtain ⟨F, O, δ, N, p⟩ := h
  refine ⟨F, O, δ, N, Post.seq p fun d v F1 H1 x1 s1 r1 p1 => ?_⟩
  have N1 := N.ext x1 s1
  cases d with
  | ins c' ns ds =>
    have p' : Post g .im F1 H1 (if c' = c ∧ ns.contains m = false then (fs δ).bind fun as => ef (.ins c' ns ds :: as) else .bad) Q := p1
    by_cases q : c' = c ∧ ns.contains m = false
    · rw [if_pos q] at p'
      obtain ⟨q1, q2⟩ := q
      subst q1
      obtain ⟨a, dx, vs, e, h3, _⟩ := (show Rep g.w H1 (.ins c' ns ds) v from r1.rep s1 N1.e.h)
      refine ⟨a, dx, _, e, h3, lookup_none q2, F1, O, δ, N1, Post.seqA p' fun as vs F2 H2 x2 s2 r2 p2 => ?_⟩
      refine ⟨F2, .ins c' ns ds :: as, s2, ?_, Post.call (N1.e.trans x2) p2⟩
      rw [List.append_nil]
      have rr : ROs g H1 F2 H2 (List.map Kd.arg (k1 :: ks)) (.ins c' ns ds :: as) (v :: vs) := ⟨_, _, _, _, rfl, rfl, (r1.ext x2).hs, r2⟩
      exact ROs.args (by rfl) rr
    · rw [if_neg q] at p'; exact p'.elim
  | _ => exact p1.elim
theorem ve_meth {pl : Sem Bool} (hc : Cls X.K (g.w.ct c)) (hm : Meth X.K (g.w.ct c) m f) (Fk : FnOk X.prog X.w X.K X.mg X.base (L2.CX X.prog X.w) n f fd ps (lift g.w (k1 :: ks) ef)) (hr : Room n X.A) (hb : Binds X.K fd ps []) (hx : Passes (L2.CX X.prog X.w) X g.E)
    (hK : X.K = g.w.K) (ho : PE X x (lowE g κ k1.arg fa)) (ha : PA X (e :: es) (lowA g κ (ks.map Kd.arg) fs)) (hst : starEach (e :: es) X.env = (false, eval e X.env) :: starEach es X.env := by rfl) (hpl : (backTo pos (starEach es X.env)).any (·.1) = false := by rfl)
    (ht : eval (.Call (.Attribute x m apos) (e :: es) [] pos) X.env = (do
      let ov ← eval x X.env
      standAt apos.atName
      let (f, first) ← holding [ov] (getMethod ov m pl)
      callWith pos f first (backTo pos (starEach (e :: es) X.env)) (backToKw pos (keywordEach [] X.env))) := by rfl) :
    PE X (.Call (.Attribute x m apos) (e :: es) [] pos) (lowE g κ .im (vMeth c m ef fa fs)) := (pe_meth ho hc hm Fk hr hb .nil hx ha hst hpl ht).weak fun σ H Q h => low_meth hK h
theorem low_nil {σ : L2.St} {H : Hp} {Q : List V → Hp → Prop} (h : lowA g κ [] aNil σ H Q) : tNil σ H Q := by
  obtain ⟨F, O, δ, N, p⟩ := h
  exact p [] F H (Ext.refl _ _) N.s ⟨rfl, rfl⟩
theorem ve_meth0 {pl : Sem Bool} (hc : Cls X.K (g.w.ct c)) (hm : Meth X.K (g.w.ct c) m f) (Fk : FnOk X.prog X.w X.K X.mg X.base (L2.CX X.prog X.w) n f fd ps (lift g.w [k1] ef)) (hr : Room n X.A) (hb : Binds X.K fd ps []) (hx : Passes (L2.CX X.prog X.w) X g.E)
    (hK : X.K = g.w.K) (ho : PE X x (lowE g κ k1.arg fa))
    (ht : eval (.Call (.Attribute x m apos) [] [] pos) X.env = (do
      let ov ← eval x X.env
      standAt apos.atName
      let (f, first) ← holding [ov] (getMethod ov m pl)
      callWith pos f first (backTo pos (starEach [] X.env)) (backToKw pos (keywordEach [] X.env))) := by rfl) :
    PE X (.Call (.Attribute x m apos) [] [] pos) (lowE g κ .im (vMeth c m ef fa aNil)) := (pe_meth0 ho hc hm Fk hr hb .nil hx ht).weak fun σ H Q h => by
  have q := low_meth (k1 := k1) (ks := []) (fs := aNil) hK h
  unfold tMeth at q ⊢
  obtain ⟨F, O, δ, N, p⟩ := q
  refine ⟨F, O, δ, N, ?_⟩
  cases e1 : fa δ with
  | ok d =>
    rw [e1] at p
    intro v F' H' x' s' r'
    obtain ⟨a, dx, fs', e2, e3, e4, e5⟩ := p v F' H' x' s' r'
    exact ⟨a, dx, fs', e2, e3, e4, low_nil e5⟩
  | exc c ns ds => rw [e1] at p; exact p
  | bad => rw [e1] at p; exact p
end
end VL

namespace VL
open PySem PySem.Spec L2

/-! ### what is walked, in general -/
/-- the iterator J yields the items ds, while F1 and the entry's heap stay -/
structure ItD (g : G) (F1 : Hp) (ki : Rk) (J : It) (ds : List D) : Prop where
  go : ∀ i d H, ds[i]? = some d → Same F1 H → Same g.H0 H → J.go i H ∧ ∀ x H', J.yld i H x H' → H' = H ∧ Rep g.w (reg g F1 F1 ki) d x
  stop : ∀ H, Same F1 H → Same g.H0 H → J.stop ds.length H
abbrev DIt := DSt → Res (List D)
def lowI (g : G) (κ : List Kd) (ki : Rk) (f : DIt) : TI := fun σ H R => ∃ F O δ, Env g κ F O H σ δ ∧ match f δ with
  | .ok ds => ∀ J F1 H1, Ext F H F1 H1 → Same F1 H1 → ItD g F1 ki J ds → R J H1
  | .exc c ns ds => Raise g c ns ds
  | .bad => False
theorem _root_.L2.PI.weak {X : Cx} {tg iter : Expr} {wi wi' : TI} (h : PI X tg iter wi) (i : ∀ σ H R, wi' σ H R → wi σ H R) : PI X tg iter wi' := ⟨fun pins s σ H R I q => h.run pins s σ H R I (i _ _ _ q)⟩
/-- kinds that items may have -/
def itk : Rk → Bool
  | .im | .bo => true
  | _ => false
theorem itk_reg {g : G} {ki : Rk} (h : itk ki = true) {F1 F2 Ha Hb Hs : Hp} {d : D} {v : V} (s : Same F1 F2) (r : Rep g.w (reg g F1 Ha ki) d v) : RO g Hs F2 Hb ki d v := by
  cases ki with
  | im => exact Rep.mono s _ _ r
  | bo => exact r
  | _ => cases h

section
variable {X : Cx} {g : G} {κ kb kc : List Kd} {pos : Pos} {e : Expr} {f : DE} {k : Rk} {tg : Expr}
theorem itd_list {F1 : Hp} {ki : Rk} {a : Addr} {vs : List V} {ds : List D} (hC : ∀ H, Same F1 H → Same g.H0 H → SqL g.w.K H a vs) (hr : Reps g.w (reg g F1 F1 ki) ds vs) : ItD g F1 ki (Itl g.w.K a) ds := by
  refine ⟨fun i d H hd sf s0 => ?_, fun H sf s0 => ⟨vs, hC H sf s0, by rw [hr.len]; exact Nat.le_refl _⟩⟩
  obtain ⟨v, hv, rv⟩ := hr.get hd
  refine ⟨⟨vs, v, hC H sf s0, hv⟩, fun x H' ⟨e, y⟩ => ⟨e, ?_⟩⟩
  have := y vs (hC H sf s0)
  rw [hv] at this
  cases this
  exact rv
theorem itd_tup {F1 : Hp} {ki : Rk} {a : Addr} {vs : List V} {ds : List D} (hC : ∀ H, Same F1 H → Same g.H0 H → SqT g.w.K H a vs) (hr : Reps g.w (reg g F1 F1 ki) ds vs) : ItD g F1 ki (Itt g.w.K a) ds := by
  refine ⟨fun i d H hd sf s0 => ?_, fun H sf s0 => ⟨vs, hC H sf s0, by rw [hr.len]; exact Nat.le_refl _⟩⟩
  obtain ⟨v, hv, rv⟩ := hr.get hd
  refine ⟨⟨vs, v, hC H sf s0, hv⟩, fun x H' ⟨e, y⟩ => ⟨e, ?_⟩⟩
  have := y vs (hC H sf s0)
  rw [hv] at this
  cases this
  exact rv
theorem itd_rng {F1 : Hp} {lo : Int} {n : Nat} : ItD g F1 .im (Itr lo n) (rangeD lo n) := by
  have hl : (rangeD lo n).length = n := by rw [rangeD, List.length_map, List.length_range]
  refine ⟨fun i d H hd _ _ => ?_, fun H _ _ => by rw [hl]; exact Nat.le_refl n⟩
  have hi : i < n := by rw [← hl]; exact (List.getElem?_eq_some_iff.mp hd).1
  refine ⟨hi, fun x H' ⟨e, y⟩ => ⟨e, ?_⟩⟩
  rw [rangeD, List.getElem?_map, List.getElem?_range hi] at hd
  cases hd
  exact y
/-- the items of a value -/
def itemsD : D → Res (List D)
  | .lst ds => .ok ds
  | .tup ds => .ok ds
  | .scr ns => .ok (ns.map D.int)
  | _ => .bad
abbrev vIt (f : DE) : DIt := fun δ => (f δ).bind itemsD
theorem creg_stay {ki : Rk} (hst : stab ki = true) {F1 H : Hp} {a : Addr} {o : HO} (h1 : creg g F1 ki a = some o) (h2 : Same F1 H) (h3 : Same g.H0 H) : H a = some o := by
  cases ki with
  | im => exact h2 _ _ h1
  | ls => exact h3 _ _ h1
  | bo => exact h3 _ _ h1
  | sh => cases hst
  | rd => cases hst
  | fr => cases hst
theorem reg_it {k : Rk} {F H : Hp} (h : stab k = true) : reg g F H k = reg g F F k.it := by cases k <;> first | rfl | cases h
theorem vi_val (hi : PE X e (lowE g κ k f)) (hK : X.K = g.w.K) (hst : stab k = true := by rfl) : PI X tg e (lowI g κ k.it (vIt f)) := by
  refine ((pi_list hi).or (pi_tup hi)).weak fun σ H R ⟨F, O, δ, N, p⟩ => ?_
  cases q : f δ with
  | ok d =>
    have p' := p
    unfold vIt at p'
    rw [q] at p'
    cases d with
    | lst ds =>
      refine .inl ⟨F, O, δ, N, ?_⟩
      rw [q]
      intro v F1 H1 x1 s1 r1
      obtain ⟨a, o, e, h1, vs, e2, h2⟩ := r1.stabCell hst rfl
      subst e e2
      rw [reg_it hst] at h2
      have N1 := N.ext x1 s1
      exact ⟨a, rfl, ⟨vs, SqL.of (creg_stay hst h1 s1 N1.e.h)⟩, by rw [hK]; exact p' _ F1 H1 x1 s1 (itd_list (fun H sf s0 => SqL.of (creg_stay hst h1 sf s0)) h2)⟩
    | tup ds =>
      refine .inr ⟨F, O, δ, N, ?_⟩
      rw [q]
      intro v F1 H1 x1 s1 r1
      obtain ⟨a, o, e, h1, vs, e2, h2⟩ := r1.stabCell hst rfl
      subst e e2
      rw [reg_it hst] at h2
      have N1 := N.ext x1 s1
      exact ⟨a, rfl, ⟨vs, SqT.of (creg_stay hst h1 s1 N1.e.h)⟩, by rw [hK]; exact p' _ F1 H1 x1 s1 (itd_tup (fun H sf s0 => SqT.of (creg_stay hst h1 sf s0)) h2)⟩
    | scr ns =>
      refine .inl ⟨F, O, δ, N, ?_⟩
      rw [q]
      intro v F1 H1 x1 s1 r1
      have N1 := N.ext x1 s1
      have key : ∃ a, v = .ref a ∧ ∀ H, Same F1 H → Same g.H0 H → SqL g.w.K H a (ns.map V.int) := by
        cases k with
        | im => obtain ⟨a, e, h⟩ := r1; exact ⟨a, e, fun H sf s0 => sf.seq h⟩
        | ls =>
          rcases r1 with ⟨z, _⟩ | ⟨_, h⟩
          · cases z
          · obtain ⟨a, e, h⟩ := h; exact ⟨a, e, fun H sf s0 => sf.seq h⟩
        | bo => obtain ⟨a, e, h⟩ := r1; exact ⟨a, e, fun H sf s0 => s0.seq h⟩
        | sh => cases hst
        | rd => cases hst
        | fr => cases hst
      obtain ⟨a, e, h⟩ := key
      subst e
      refine ⟨a, rfl, ⟨_, by rw [hK]; exact h H1 s1 N1.e.h⟩, by rw [hK]; exact p' _ F1 H1 x1 s1 (itd_list h (Reps.of_ints ns))⟩
    | _ => exact p'.elim
  | exc c ns ds =>
    refine .inl ⟨F, O, δ, N, ?_⟩
    unfold vIt at p
    rw [q] at p ⊢
    exact p
  | bad => unfold vIt at p; rw [q] at p; exact p.elim
variable {a b : Expr} {fa fb : DE} {ka kb2 : Rk} {p1 q : Pos}
def rngD (x y : D) : Res (List D) := match x, y with
  | .int i, .int j => if rngOk i j then .ok (rangeD i (j - i).toNat) else .bad
  | _, _ => .bad
def vRng (fa fb : DE) : DIt := fun δ => (fa δ).bind fun x => (fb δ).bind fun y => rngD x y
theorem lowI_seq {kk : Rk} {h : D → Res (List D)} {r : Res D} {F H : Hp} {R : It → Hp → Prop} {Q1 : VK} {ki : Rk} (p : match r.bind h with
    | .ok ds => ∀ J F1 H1, Ext F H F1 H1 → Same F1 H1 → ItD g F1 ki J ds → R J H1
    | .exc c ns ds => Raise g c ns ds
    | .bad => False)
    (n : ∀ d v F' H', Ext F H F' H' → Same F' H' → RO g H F' H' kk d v → (match h d with
      | .ok ds => ∀ J F1 H1, Ext F' H' F1 H1 → Same F1 H1 → ItD g F1 ki J ds → R J H1
      | .exc c ns ds => Raise g c ns ds
      | .bad => False) → Q1 v H') : Post g kk F H r Q1 := by
  cases r with
  | ok d =>
    intro v F' H' x s q
    refine n d v F' H' x s q ?_
    rw [Res.ok_bind] at p
    cases e : h d with
    | ok ds => rw [e] at p; exact fun J F1 H1 y => p J F1 H1 (x.trans y)
    | exc c ns ds => rw [e] at p; exact p
    | bad => rw [e] at p; exact p
  | exc c ns ds => exact p
  | bad => exact p
theorem vi_rng (hm : X.mg "range" = none) (ha : PE X a (lowE g κ ka fa)) (hb : PE X b (lowE g κ kb2 fb)) (hg : Gl X "range" := by rfl) (h1 : starEach [a, b] X.env = [(false, eval a X.env), (false, eval b X.env)] := by rfl) (h2 : starEach [b] X.env = [(false, eval b X.env)] := by rfl) :
    PI X tg (.Call (.Name "range" p1) [a, b] [] q) (lowI g κ .im (vRng fa fb)) := by
  refine (pi_range2 hg hm (pa_cons ha (pa_cons hb pa_nil h2) (h1.trans (by rw [h2]))) h1 h2).weak fun σ H R ⟨F, O, δ, N, p⟩ => ?_
  refine ⟨F, O, δ, N, lowI_seq (h := fun x => (fb δ).bind fun y => rngD x y) p fun x u F1 H1 x1 s1 r1 q1 => ?_⟩
  have N1 := N.ext x1 s1
  refine ⟨F1, O, δ, N1, lowI_seq (h := rngD x) q1 fun y v F2 H2 x2 s2 r2 q2 => ?_⟩
  have N2 := N1.ext x2 s2
  have s0 := N2.e.h
  unfold rngD at q2
  cases x with
  | int i =>
    cases y with
    | int j =>
      by_cases c : rngOk i j = true
      · simp only [c, if_true] at q2
        have c' := of_decide_eq_true c
        exact ⟨i, j, by rw [RO.int s2 s0 (r1.ext x2), RO.int s2 s0 r2], c', q2 _ F2 H2 (Ext.refl _ _) s2 itd_rng⟩
      · simp only [c, if_false] at q2; exact q2.elim
    | _ => exact q2.elim
  | _ => cases y <;> exact q2.elim
def rngD1 (y : D) : Res (List D) := match y with
  | .int j => if rngOk 0 j then .ok (rangeD 0 j.toNat) else .bad
  | _ => .bad
def vRng1 (fb : DE) : DIt := fun δ => (fb δ).bind rngD1
theorem vi_rng1 (hm : X.mg "range" = none) (hb : PE X b (lowE g κ kb2 fb)) (hg : Gl X "range" := by rfl) (h2 : starEach [b] X.env = [(false, eval b X.env)] := by rfl) : PI X tg (.Call (.Name "range" p1) [b] [] q) (lowI g κ .im (vRng1 fb)) := by
  refine (pi_range1 hg hm (pa_cons hb pa_nil h2) h2).weak fun σ H R ⟨F, O, δ, N, p⟩ => ?_
  refine ⟨F, O, δ, N, lowI_seq (h := rngD1) p fun y v F2 H2 x2 s2 r2 q2 => ?_⟩
  have N2 := N.ext x2 s2
  have s0 := N2.e.h
  unfold rngD1 at q2
  cases y with
  | int j =>
    by_cases c : rngOk 0 j = true
    · simp only [c, if_true] at q2
      have c' := of_decide_eq_true c
      exact ⟨j, by rw [RO.int s2 s0 r2], c'.2.2.1, c'.2.2.2, q2 _ F2 H2 (Ext.refl _ _) s2 itd_rng⟩
    · simp only [c, if_false] at q2; exact q2.elim
  | _ => exact q2.elim
/-! reversed -/
theorem itd_rev {F1 : Hp} {ki : Rk} {a : Addr} {vs : List V} {ds : List D} (hC : ∀ H, Same F1 H → Same g.H0 H → SqL g.w.K H a vs) (hr : Reps g.w (reg g F1 F1 ki) ds vs) : ItD g F1 ki (Itv g.w.K a vs.length) ds.reverse := by
  have hl := hr.len
  refine ⟨fun i d H hd sf s0 => ?_, fun H sf s0 => by rw [List.length_reverse, hl]; exact Nat.le_refl vs.length⟩
  have hi : i < ds.length := by
    have := (List.getElem?_eq_some_iff.mp hd).1
    rwa [List.length_reverse] at this
  rw [List.getElem?_reverse hi] at hd
  obtain ⟨v, hv, rv⟩ := hr.get hd
  rw [hl] at hv hi
  refine ⟨⟨hi, vs, v, hC H sf s0, hv⟩, fun x H' ⟨e, y⟩ => ⟨e, ?_⟩⟩
  have := y vs (hC H sf s0)
  rw [hv] at this
  cases this
  exact rv
theorem itd_revT {F1 : Hp} {ki : Rk} {a : Addr} {vs : List V} {ds : List D} (hC : ∀ H, Same F1 H → Same g.H0 H → SqT g.w.K H a vs) (hr : Reps g.w (reg g F1 F1 ki) ds vs) : ItD g F1 ki (RT.ItvT g.w.K a vs.length) ds.reverse := by
  have hl := hr.len
  refine ⟨fun i d H hd sf s0 => ?_, fun H sf s0 => by rw [List.length_reverse, hl]; exact Nat.le_refl vs.length⟩
  have hi : i < ds.length := by
    have := (List.getElem?_eq_some_iff.mp hd).1
    rwa [List.length_reverse] at this
  rw [List.getElem?_reverse hi] at hd
  obtain ⟨v, hv, rv⟩ := hr.get hd
  rw [hl] at hv hi
  refine ⟨⟨hi, vs, v, hC H sf s0, hv⟩, fun x H' ⟨e, y⟩ => ⟨e, ?_⟩⟩
  have := y vs (hC H sf s0)
  rw [hv] at this
  cases this
  exact rv
def revD : D → Res (List D)
  | .lst ds => .ok ds.reverse
  | .tup ds => .ok ds.reverse
  | _ => .bad
def vRev (f : DE) : DIt := fun δ => (f δ).bind revD
theorem vi_rev (hm : X.mg "reversed" = none) (hi : PE X e (lowE g κ k f)) (hK : X.K = g.w.K) (hst : stab k = true := by rfl) (hg : Gl X "reversed" := by rfl) (hs : starEach [e] X.env = (false, eval e X.env) :: starEach [] X.env := by rfl) :
    PI X tg (.Call (.Name "reversed" p1) [e] [] q) (lowI g κ k.it (vRev f)) := by
  refine (RT.pi_revA hg hm hi hs).weak fun σ H R ⟨F, O, δ, N, p⟩ => ?_
  refine ⟨F, O, δ, N, lowI_seq (h := revD) p fun d v F1 H1 x1 s1 r1 p' => ?_⟩
  have N1 := N.ext x1 s1
  unfold revD at p'
  cases d with
  | lst ds =>
    obtain ⟨a, o, e, h1, vs, e2, h2⟩ := r1.stabCell hst rfl
    subst e e2
    rw [reg_it hst] at h2
    exact ⟨a, vs, rfl, .inl ⟨SqL.of (creg_stay hst h1 s1 N1.e.h), by rw [hK]; exact p' _ F1 H1 (Ext.refl _ _) s1 (itd_rev (fun H sf s0 => SqL.of (creg_stay hst h1 sf s0)) h2)⟩⟩
  | tup ds =>
    obtain ⟨a, o, e, h1, vs, e2, h2⟩ := r1.stabCell hst rfl
    subst e e2
    rw [reg_it hst] at h2
    exact ⟨a, vs, rfl, .inr ⟨SqT.of (creg_stay hst h1 s1 N1.e.h), by rw [hK]; exact p' _ F1 H1 (Ext.refl _ _) s1 (itd_revT (fun H sf s0 => SqT.of (creg_stay hst h1 sf s0)) h2)⟩⟩
  | _ => exact p'.elim

/-! ### for -/
def sForI (f : DIt) (t : DG) (b : DS) : DS := fun δ => (f δ).bind fun ds => sLoop t b ds δ
theorem vs_forI {iter : Expr} {body : List Stmt} {ki : Rk} {f : DIt} {t : DG} {b : DS} (hi : PI X tg iter (lowI g κ ki f)) (hg : PG X tg (lowG g κ ki t)) (hb : PSs X body (lowS g κ ⟨κ, κ, κ⟩ b)) (ox : Okx X g) (hk : itk ki = true := by rfl)
    (hs : ∀ x, foldedSetIterable iter X.env x = pure x := by intro _; rfl) : PS X (.For tg iter body [] pos) (lowS g κ ⟨κ, kb, kc⟩ (sForI f t b)) := by
  refine (ps_for ox.own ox.calm hi hg hb hs).weak fun De σ H ⟨F, O, δ, N, p⟩ => ?_
  unfold sForI at p
  refine ⟨F, O, δ, N, ?_⟩
  cases q : f δ with
  | exc c ns ds => rw [q] at p; exact p
  | bad => rw [q] at p; exact p
  | ok ds =>
    rw [q] at p
    intro J F1 H1 x1 s1 it
    have N1 := N.ext x1 s1
    refine ⟨fun i m σ H => m = ds.length - i ∧ i ≤ ds.length ∧ ∃ F2 O2 δ2, Same F1 F2 ∧ Env g κ F2 O2 H σ δ2 ∧ PostS g ⟨κ, kb, kc⟩ F2 (sLoop t b (ds.drop i) δ2) De, ⟨ds.length, rfl, Nat.zero_le _, F1, O, δ, Same.refl _, N1, PostS.mono x1.f p⟩, ?_⟩
    rintro i m σ H ⟨rfl, hi, F2, O2, δ2, h1, N2, p2⟩
    by_cases hlt : i < ds.length
    · have e := List.drop_eq_getElem_cons hlt
      obtain ⟨g1, g2⟩ := it.go i _ H (List.getElem?_eq_getElem hlt) (h1.trans N2.s) N2.e.h
      refine .inr ⟨g1, fun σ' H' => ∃ F3 O3 δ3, Same F1 F3 ∧ Env g κ F3 O3 H' σ' δ3 ∧ PostS g ⟨κ, kb, kc⟩ F3 (sLoop t b (ds.drop (i + 1)) δ3) De, fun σ' H' z => ⟨ds.length - (i + 1), by omega, rfl, hlt, z⟩, fun x H' y => ?_⟩
      obtain ⟨eH, rv⟩ := g2 x H' y
      subst eH
      rw [e] at p2
      exact loop_turn (Hs := H') (fun _ _ _ _ q => q) (fun _ _ _ q => q) N2 (itk_reg hk h1 rv) p2 _ fun F' O' H' σ' δ' s' N' p' => ⟨F', O', δ', h1.trans s', N', p'⟩
    · have e : i = ds.length := by omega
      subst e
      rw [List.drop_length] at p2
      exact .inl ⟨it.stop H (h1.trans N2.s) N2.e.h, p2 F2 O2 H σ (Same.refl _) N2⟩

/-! ### comprehensions -/
variable {elt iter : Expr} {ifs : List Expr} {scope : Scope} {ownS : List (Str × Nat)} {own : List Nat} {ki : Rk} {t : DG} {tt : DT} {fe : DE} {g0 : TG}
def vLcI (f : DIt) (t : DG) (tt : DT) (fe : DE) (own : List Nat) : DE := fun δ => (f δ).bind fun ds => lcOf t tt fe own ds δ
theorem low_lcI {f : DIt} (hk : itk ki = true) (hg : LcG g.w.K own ki κ t g0) {σ : L2.St} {H : Hp} {Q : VK} (h : lowE g κ .fr (vLcI f t tt fe own) σ H Q) : tLc (lowI g κ ki f) g0 (lowT g.e0 κ tt) (lowE g.e0 κ .im fe) own σ H Q := by
  obtain ⟨F, O, δ, N, p⟩ := h
  unfold vLcI at p
  refine ⟨F, O, δ, N, ?_⟩
  cases q : f δ with
  | exc c ns ds => rw [q] at p; exact p
  | bad => rw [q] at p; exact p
  | ok ds =>
    rw [q] at p
    intro J F1 H1 x1 s1 it D0 hD
    have N1 := N.ext x1 s1
    obtain ⟨hlen, total, e, p2⟩ := lcOf_ok (Post.mono x1 p)
    refine ⟨fun i m H => m = ds.length - i ∧ i ≤ ds.length ∧ LcInv g κ (wipe σ own) (wipeD δ own) t tt fe ds total F1 H1 D0 i H, ⟨ds.length, rfl, Nat.zero_le _, lc_start N1 e hD⟩, ?_⟩
    rintro i m H ⟨rfl, hi, I⟩
    have I' := I
    obtain ⟨F2, O2, _, _, _, x2, N2, _⟩ := I'
    by_cases hlt : i < ds.length
    · have hd := List.getElem?_eq_getElem hlt
      obtain ⟨g1, g2⟩ := it.go i _ H hd (s1.trans x2.h) N2.e.h
      refine .inr ⟨g1, fun H' => LcInv g κ (wipe σ own) (wipeD δ own) t tt fe ds total F1 H1 D0 (i + 1) H', fun H' z => ⟨ds.length - (i + 1), by omega, rfl, hlt, z⟩, fun x H' y => ?_⟩
      obtain ⟨eH, rv⟩ := g2 x H' y
      subst eH
      exact lc_turn rfl hg hd hlen hD I fun F' sf s' s0' => itk_reg hk sf rv
    · have e : i = ds.length := by omega
      subst e
      exact .inl ⟨it.stop H (s1.trans x2.h) N2.e.h, lc_end (Nat.le_refl _) I hD p2⟩
theorem ve_lcI {f : DIt} (ox : Okx X g) (hi : PI X tg iter (lowI g κ ki f)) (ok : BlkOk X.N X.env.scope scope ownS) (hg : LcG g.w.K (ownS.map (·.2)) ki κ t g0)
    (hgt : ∀ (s : Shared) (H : Hp) (C : Addr) (cl : List (Str × Addr)) (fp : List Addr), PG (X.blk s H scope (compEnvC scope cl C X.env) fp) tg g0) (ht : ∀ (s : Shared) (H : Hp) (C : Addr) (cl : List (Str × Addr)) (fp : List Addr), PTs (X.blk s H scope (compEnvC scope cl C X.env) fp) ifs (lowT g.e0 κ tt))
    (he : ∀ (s : Shared) (H : Hp) (C : Addr) (cl : List (Str × Addr)) (fp : List Addr), PE (X.blk s H scope (compEnvC scope cl C X.env) fp) elt (lowE g.e0 κ .im fe)) (hk : itk ki = true := by rfl) (hs : ∀ x, foldedSetIterable iter X.env x = pure x := by intro _; rfl) :
    PE X (.ListComp elt [⟨tg, iter, ifs, 0⟩] scope pos) (lowE g κ .fr (vLcI f t tt fe (ownS.map (·.2)))) :=
  (pe_lc ox.calm ox.nd hi ok hgt ht he hs).weak fun σ H Q h => low_lcI hk hg h
/-- name = [..] on one line -/
theorem vs_setLcI {f : DIt} (i : Nat) {y : Str} {py spos : Pos} (ox : Okx X g) (hi : PI X tg iter (lowI g κ ki f)) (ok : BlkOk X.N X.env.scope scope ownS) (hg : LcG g.w.K (ownS.map (·.2)) ki κ t g0)
    (hgt : ∀ (s : Shared) (H : Hp) (C : Addr) (cl : List (Str × Addr)) (fp : List Addr), PG (X.blk s H scope (compEnvC scope cl C X.env) fp) tg g0) (ht : ∀ (s : Shared) (H : Hp) (C : Addr) (cl : List (Str × Addr)) (fp : List Addr), PTs (X.blk s H scope (compEnvC scope cl C X.env) fp) ifs (lowT g.e0 κ tt))
    (he : ∀ (s : Shared) (H : Hp) (C : Addr) (cl : List (Str × Addr)) (fp : List Addr), PE (X.blk s H scope (compEnvC scope cl C X.env) fp) elt (lowE g.e0 κ .im fe)) (own_ : Bool) (hkd : κ[i]? = some (if own_ then .ow else .im) := by rfl) (hk : itk ki = true := by rfl) (hy : X.N[i]? = some y := by rfl) (hyl : X.env.scope.names.lookup y = some .local := by rfl)
    (hsw : swapsWith (.ListComp elt [⟨tg, iter, ifs, 0⟩] scope pos) (some (.Name y py)) spos.line X.env = pure true := by exact sw_true rfl rfl rfl (by decide +kernel)) (hs : ∀ x, foldedSetIterable iter X.env x = pure x := by intro _; rfl) :
    PS X (.Assign [.Name y py] (.ListComp elt [⟨tg, iter, ifs, 0⟩] scope pos) spos) (lowS g κ ⟨κ, kb, kc⟩ (sSet i (vLcI f t tt fe (ownS.map (·.2))))) := by
  refine (ps_setLc ox.calm ox.nd hy hyl hsw hi ok hgt ht he hs).weak fun De σ H ⟨F, O, δ, N, p⟩ => ?_
  refine low_lcI hk hg ⟨F, O, δ, N, PostS.seq p fun d v F1 H1 x1 s1 r1 p1 => ?_⟩
  obtain ⟨m, a, o, e, h1, h2, h3, h4⟩ := r1
  have N1 := N.ext x1 s1
  have h0 : g.H0 a = none := N.e.h.free h1
  have hO : ∀ j, O a = some j → False := fun j hj => by
    obtain ⟨_, _, u, hu⟩ := N.o a j hj
    rw [h1] at hu
    cases hu
  cases own_ with
  | true =>
    have N2 := N1.own (i := i) h0 h2 h3 hO
    exact p1 F1 _ H1 _ (Same.refl _) (N2.set hkd ⟨m, a, o, e, by simp, h3, h4⟩)
  | false =>
    subst e
    exact p1 (upd F1 a o) _ H1 _ (same_upd h2) ((N.ext (x1.lay h3 h2 h1) (Same.lay s1 h3)).set hkd ((h4.mono (same_upd h2)).rep upd_same))
/-! xs.reverse() -/
def sRev (i : Nat) : DS := fun δ => match δ[i]? with
  | some (some (.lst ds)) => .ok (.nx (δ.set i (some (.lst ds.reverse))))
  | _ => .bad
end
end VL

namespace VL
open PySem PySem.Spec L2

/-! ### try, with the caught exception as data -/
/-- one clause: the class it names, the slot of its name, its suite's reading -/
structure Clz where
  c : Value
  i : Option Nat
  ts : Addr → Value → Option Addr → TS
def Clz.st (k : Clz) (σ : L2.St) (a : Addr) : L2.St := match k.i with
  | some i => σ.set i (some (.ref a))
  | none => σ
def Clz.ends (k : Clz) (De : Ends) : Ends := match k.i with
  | some i => { nx := fun σ' H' => De.nx (σ'.set i none) H', rt := De.rt, bk := fun σ' H' => De.bk (σ'.set i none) H', ct := fun σ' H' => De.ct (σ'.set i none) H' }
  | none => De
def wG (K : PySem.W.Frag) (Wo : WX) (De : Ends) : List Clz → WX
  | [] => Wo
  | k :: r => fun cls d σ H => ∃ b, PySem.W.exmOne K cls k.c = some b ∧ (b = true → ∀ a, H a = none → k.ts a cls d (k.ends De) (k.st σ a) (upd H a (ExT cls d a))) ∧ (b = false → wG K Wo De r cls d σ H)
def NameAt (X : Cx) : Option Nat → Option Str → Prop
  | none, none => True
  | some i, some n => X.N[i]? = some n ∧ X.env.kindOf n = some .local
  | _, _ => False
inductive HdG (X : Cx) : List ExceptHandler → List Clz → Prop
  | nil : HdG X [] []
  | cons {x : Str} {nm : Option Str} {b0 : Stmt} {su : List Stmt} {np pos' : Pos} {hds : List ExceptHandler} {k : Clz} {l : List Clz} (hc : Names X x k.c) (hn : NameAt X k.i nm)
      (hsu : ∀ (a : Addr) (cls : Value) (d : Option Addr) (pn : List (Addr × Obj)), PSs (X.suite a pn) (b0 :: su) (k.ts a cls d)) (r : HdG X hds l) : HdG X (.ExceptHandler (some (.Name x np)) nm (b0 :: su) pos' :: hds) (k :: l)
theorem exT_ok {P : Program} {w : World} {H : Hp} {h : Heap} {a : Addr} {cls : Value} {d : Option Addr} {oe : Obj} {vs : Array Value} (e : h.get? a = some oe) (z : Zc cls d oe) (f : oe.data = .fields vs) : ObjOk P w H h a (ExT cls d a) :=
  ⟨⟨oe, vs, e, z, f⟩, ⟨oe, e⟩, fun _ _ ⟨o, v, q, r⟩ k => ⟨o, v, k o q, r⟩⟩
section
variable {X : Cx} {pins : List (Addr × Obj)} {σ : L2.St} {H : Hp} {s : Shared}
theorem inv_suite (I : Inv X pins σ H s) {a : Addr} {cls : Value} {d : Option Addr} {oe : Obj} {vs : Array Value} (ha : s.heap.get? a = some oe) (z : Zc cls d oe) (hd : oe.data = .fields vs) (na : H a = none) (nL : a ≠ X.env.locals) (n0 : X.s_0.heap.get? a = none)
    (np : ∀ p ∈ X.pn ++ pins, p.1 ≠ a) : Inv (X.suite a (X.pn ++ pins)) [] σ (upd H a (ExT cls d a)) s := by
  have B := I.base
  have ne0 : ∀ b o, X.s_0.heap.get? b = some o → b ≠ a := fun b o e q => by rw [q, n0] at e; cases e
  refine ⟨I.ok.suite _ _, I.os, I.bare, ⟨B.keep, B.slot, fun b o e n hx => ?_, B.there, fun b xs e => ?_, fun b o u e => ?_, fun b ps e => ?_⟩, I.loc, I.cell, ?_, fun x c e => ?_, fun p hp => ?_, I.hok.laidN (fun _ _ q => q) na (exT_ok ha z hd), I.len⟩
  · rw [upd_ne (ne0 b o e)]; exact B.free b o e n hx
  · have q := B.tups b xs e
    rw [upd_ne (ne_of_none q na)]; exact q
  · have q := B.frzs b o u e
    rw [upd_ne (ne_of_none q na)]; exact q
  · obtain ⟨m, q⟩ := B.tbls b ps e
    exact ⟨m, by rw [upd_ne (ne_of_none q na)]; exact q⟩
  · rw [upd_ne (Ne.symm nL)]; exact I.free
  · obtain ⟨v, hv⟩ := I.cell x c e
    have nc : c ≠ a := fun q => by
      rw [q] at hv
      obtain ⟨o, e1, e2⟩ := hv
      rw [ha] at e1
      cases e1
      rw [hd] at e2
      first | cases e2 | (obtain ⟨e2, _⟩ := e2; cases e2) | (obtain ⟨_, e2⟩ := e2; cases e2)
    rw [upd_ne nc]; exact I.freeC x c e
  · rw [List.append_nil] at hp
    obtain ⟨q1, q2, q3⟩ := I.pin p hp
    exact ⟨q1, by rw [upd_ne (np p hp)]; exact q2, q3⟩
theorem inv_unsuite {a : Addr} {pn' : List (Addr × Obj)} {H' : Hp} (I : Inv (X.suite a (X.pn ++ pins)) pn' σ H' s) (ok : X.Ok) : Inv X pins σ H' s :=
  ⟨ok, I.os, I.bare, I.base, I.loc, I.cell, I.free, I.freeC, fun p hp => I.pin p (List.mem_append_left _ hp), I.hok, I.len⟩
end
theorem inv_nF {X : Cx} {a : Addr} (h : a ∉ frs (X.env :: X.outer)) : a ∉ X.fs := fun hm => by
  obtain ⟨e, he, q⟩ := List.mem_filterMap.mp hm
  exact h (List.mem_filterMap.mpr ⟨e, List.mem_cons_of_mem _ he, q⟩)
theorem ps_tryG {X : Cx} {body : List Stmt} {h0 : ExceptHandler} {hds : List ExceptHandler} {l : List Clz} {pos : Pos} {tb : WX → TS} {Wo : WX} (hs : X.stack = X.env :: X.outer) (hf : X.env.frame = some X.env.locals) (hex : X.ex = []) (hN : X.N.Nodup) (tk : Takes X Wo)
    (hb : ∀ (W : WX) (pn : List (Addr × Obj)) (xe : Value → Shared → Prop), Takes (X.tr pn xe) W → PassesOwn (model X.prog X.w) X.A X.env xe → PSs (X.tr pn xe) body (tb W)) (hh : HdG X (h0 :: hds) l) :
    PS X (.Try body (h0 :: hds) [] [] pos) (fun De σ H => tb (wG X.K Wo De l) De σ H) := by
  refine ⟨fun pins s σ H De I h => ?_⟩
  have ok := I.ok
  have fr : X.A.frames = some (X.env :: X.outer) := ok.frames.trans (congrArg some hs)
  refine wpAny_Try_except ?_
  have run := (hb (wG X.K Wo De l) (X.pn ++ pins) (fun e s1 => wpAny (model X.prog X.w) X.A (noteFrame e X.env) (fun _ s2 => wpAny (model X.prog X.w) X.A (setFlight e none) (fun _ s3 => wpAny (model X.prog X.w) X.A (handleBy e X.env (h0 :: hds)) (SP X pins De) X.xe s3) X.xe s2) X.xe s1)
    (fun u s' xx => ?_) PassesOwn.looking).run [] s σ H De (I.toTry _) h
  · refine wpAny_mono run (fun f s1 hsp => ?_) (fun e s1 he => he)
    cases f with
    | next => obtain ⟨σ', H', J, q⟩ := hsp; exact wpAny_execs_nil ⟨σ', H', J.ofTry ok, q⟩
    | ret u => obtain ⟨v, σ', H', J, r, q⟩ := hsp; exact ⟨v, σ', H', J.ofTry ok, r, q⟩
    | brk => obtain ⟨σ', H', J, q⟩ := hsp; exact ⟨σ', H', J.ofTry ok, q⟩
    | cont => obtain ⟨σ', H', J, q⟩ := hsp; exact ⟨σ', H', J.ofTry ok, q⟩
  · obtain ⟨a, B, sI, pins', σ', H', cls, d, rfl, JT, nb, up, sky, na, os, ag, w⟩ := xx
    have J : Inv X pins σ' H' sI := JT.ofTry ok
    have pinI : ∀ p ∈ X.pn ++ pins, sI.heap.get? p.1 = some p.2 := fun p hp => (J.pin p hp).1
    have sky1 : Sky B (X.env :: X.outer) a (Zc cls d) X.env.locals s'.heap := hs ▸ sky
    show wpAny (model X.prog X.w) X.A (noteFrame (.ref a) X.env) _ _ _
    refine Sky.land Zc.steady fr hf sky1 fun hA flA upA => ?_
    have JA : Inv X pins σ' H' { s' with heap := hA } := J.landed nb flA.1 (up.trans upA) os ag
    obtain ⟨oA, vA, eA, zA, dA⟩ := flA.there
    have offF : ∀ {hh : Heap} {o : Obj} {vs : Array Value}, hh.FunFrames B (X.env :: X.outer) → hh.get? a = some o → o.data = .fields vs → a ∉ frs (X.env :: X.outer) := fun {hh o vs} ff e dd hm => by
      obtain ⟨_, o', e', q⟩ := ff.mem hm
      rw [e] at e'
      cases e'
      exact q _ dd
    have nfA := offF flA.2.2.1 eA dA
    have nL : a ≠ X.env.locals := fun z => nfA (List.mem_filterMap.mpr ⟨X.env, List.mem_cons_self, by rw [hf, z]⟩)
    have nI : sI.heap.get? a = none := by
      cases q : sI.heap.get? a with
      | none => rfl
      | some o =>
        have z := nb a o q (by rw [hs]; exact nfA)
        rw [flA.2.1] at z
        cases z
    have n0 : X.s_0.heap.get? a = none := by
      cases q : X.s_0.heap.get? a with
      | none => rfl
      | some o =>
        obtain ⟨o', z⟩ := J.base.there a o q (by rw [hex]; exact fun z => nomatch z)
        rw [nI] at z
        cases z
    have np : ∀ p ∈ X.pn ++ pins, p.1 ≠ a := fun p hp z => by
      have q := pinI p hp
      rw [z, nI] at q
      cases q
    have SA := inv_suite JA eA zA dA na nL n0 np
    have go : ∀ {hl : List ExceptHandler} {ll : List Clz}, HdG X hl ll → wG X.K Wo De ll cls d σ' H' → wpAny (model X.prog X.w) X.A (handleBy (.ref a) X.env hl) (SP X pins De) X.xe { s' with heap := hA } := by
      intro hl ll hk
      induction hk with
      | nil =>
        intro w
        refine wpAny_handleBy_nil ?_
        obtain ⟨k1, k2, k3, o, vs, T, oT, ts', e, z, dd, e1, r⟩ := id flA
        have out : wpAny (model X.prog X.w) X.A (setFlight (.ref a) X.env.frame) (fun _ s4 => wpAny (model X.prog X.w) X.A (throw (.ref a) : Sem Flow) (SP X pins De) X.xe s4) X.xe { s' with heap := hA } := by
          rw [hf]
          refine HandSPX.setFlight_upZ flA fun hB fB upB => wpAny_throw (tk _ _ ⟨a, B, sI, pins, σ', H', cls, d, rfl, J, nb, (up.trans upA).trans upB, .inr (.inr (by rw [hs]; exact fB)), na, os, ag, w⟩)
        unfold PySem.passOn
        refine wpAny_bind (wpAny_field e dd e1 ?_)
        rw [if_neg (show ¬ ((Value.ref T == Value.none) = true) by simp)]
        first
          | exact wpAny_bind (wpAny_pure (wpAny_bind out))
          | exact wpAny_bind out
      | @cons x nm b0 su np' pos' hl2 k ll2 hc hn hsu r ih =>
        intro w
        obtain ⟨b, hb1, hyes, hno⟩ := w
        have look : PySem.W.Looks (model X.prog X.w) hA (typeOf (.ref a)) cls := fun A Q E s k q => wpAny_typeOf_ref (k _ _ eA) (by rw [zA.1]; exact q)
        have exm := PySem.W.exm_one (M := model X.prog X.w) JA.kIn look hb1
        refine wpAny_handleBy_cons (codeAny_handlers_test ?_) (by intro q; cases q)
        have named : ∀ {Q E : Value → Shared → Prop}, Q k.c { s' with heap := hA } → wpAny (model X.prog X.w) (X.A.mark (some (.ref a))) (eval (.Name x np') X.env) Q E { s' with heap := hA } := fun {Q E} q => by
          obtain ⟨g1, g2, g3 | ⟨g3, g4, g5⟩⟩ := hc
          · exact ld_glob (X := X.suite a (X.pn ++ pins)) SA g1 g3 q g2
          · exact ld_blt (X := X.suite a (X.pn ++ pins)) SA g1 g3 g4 q g5 g2
        refine named (exm.here ?_)
        cases b with
        | false => exact ih (hno rfl)
        | true =>
          have hy := hyes rfl a na
          cases ki : k.i with
          | none =>
            cases hnm : nm with
            | some n => rw [ki, hnm] at hn; exact hn.elim
            | none =>
              refine codeAny_handlers_suite ?_
              refine HandSPX.lands_againZ flA fun hC flC upC => ?_
              have JC : Inv X pins σ' H' { s' with heap := hC } := J.landed nb flC.1 ((up.trans upA).trans upC) os ag
              obtain ⟨oC, vC, eC, zC, dC⟩ := flC.there
              have SC := inv_suite JC eC zC dC na nL n0 np
              have e1 : k.st σ' a = σ' := by unfold Clz.st; rw [ki]
              have e2 : k.ends De = De := by unfold Clz.ends; rw [ki]
              rw [e1, e2] at hy
              refine wpAny_mono ((hsu a cls d (X.pn ++ pins)).run [] _ _ _ De SC hy) (fun f s6 q => ?_) (fun _ _ z => False.elim z)
              cases f with
              | next => obtain ⟨σ6, H6, S6, q6⟩ := q; exact ⟨_, _, inv_unsuite S6 ok, q6⟩
              | brk => obtain ⟨σ6, H6, S6, q6⟩ := q; exact ⟨_, _, inv_unsuite S6 ok, q6⟩
              | cont => obtain ⟨σ6, H6, S6, q6⟩ := q; exact ⟨_, _, inv_unsuite S6 ok, q6⟩
              | ret u => obtain ⟨v6, σ6, H6, S6, r6, q6⟩ := q; exact ⟨_, _, _, inv_unsuite S6 ok, r6, q6⟩
          | some i =>
            cases hnm : nm with
            | none => rw [ki, hnm] at hn; exact hn.elim
            | some n =>
              rw [ki, hnm] at hn
              obtain ⟨hi, hln⟩ := hn
              refine codeAny_handlers_suite_as ?_
              refine HandSPX.lands_againZ flA fun hC flC upC => ?_
              have JC : Inv X pins σ' H' { s' with heap := hC } := J.landed nb flC.1 ((up.trans upA).trans upC) os ag
              obtain ⟨oC, vC, eC, zC, dC⟩ := flC.there
              have SC := inv_suite JC eC zC dC na nL n0 np
              have e1 : k.st σ' a = σ'.set i (some (.ref a)) := by unfold Clz.st; rw [ki]
              have e2 : k.ends De = { nx := fun σ' H' => De.nx (σ'.set i none) H', rt := De.rt, bk := fun σ' H' => De.bk (σ'.set i none) H', ct := fun σ' H' => De.ct (σ'.set i none) H' } := by unfold Clz.ends; rw [ki]
              rw [e1, e2] at hy
              refine store_ok (X := X.suite a (X.pn ++ pins)) (v := .ref a) SC hN hi (.inl hln) rfl (fun s5 S5 => ?_) (.inr hln)
              refine wpAny_mono ((hsu a cls d (X.pn ++ pins)).run [] s5 _ _ _ S5 hy) (fun f s6 q => ?_) (fun _ _ z => False.elim z)
              have fin : ∀ {σ6 : L2.St} {H6 : Hp} {Q : Shared → Prop}, Inv (X.suite a (X.pn ++ pins)) [] σ6 H6 s6 → (∀ s7, Inv X pins (σ6.set i none) H6 s7 → Q s7) →
                  wpAny (model X.prog X.w) X.A (do bindName X.env n .none; unbindBehindTheSuite X.env n pos') (fun _ s7 => Q s7) X.xe s6 := fun {σ6 H6 Q} S6 hq => gone_ok (inv_unsuite S6 ok) hN hi hln hq
              cases f with
              | next => obtain ⟨σ6, H6, S6, q6⟩ := q; exact fin S6 fun s7 J7 => ⟨_, _, J7, q6⟩
              | brk => obtain ⟨σ6, H6, S6, q6⟩ := q; exact fin S6 fun s7 J7 => ⟨_, _, J7, q6⟩
              | cont => obtain ⟨σ6, H6, S6, q6⟩ := q; exact fin S6 fun s7 J7 => ⟨_, _, J7, q6⟩
              | ret u => obtain ⟨v6, σ6, H6, S6, r6, q6⟩ := q; exact fin S6 fun s7 J7 => ⟨_, _, _, J7, r6, q6⟩
    exact go hh w
end VL

namespace VL
open PySem PySem.Spec L2

/-- one clause, on data -/
structure Clause where
  c : Str
  i : Option Nat
  h : DS
def Clause.dst (n : Nat) (k : Clause) (d : D) : DSt := match k.i with
  | some i => (List.replicate n none).set i (some d)
  | none => List.replicate n none
def kdH (n : Nat) (i : Option Nat) : List Kd := match i with
  | some i => (List.replicate n .xx).set i .im
  | none => List.replicate n .xx
def runH (n : Nat) (sub : Str → Str → Option Bool) : List Clause → Str → List Str → List D → Res Out
  | [], c, ns, ds => .exc c ns ds
  | k :: r, c, ns, ds => match sub c k.c with
    | some true => match k.h (k.dst n (.exc c ns ds)) with
      | .ok (.rt d) => .ok (.rt d)
      | _ => .bad
    | some false => runH n sub r c ns ds
    | none => .bad
def sTry (n : Nat) (sub : Str → Str → Option Bool) (fb : DS) (hs : List Clause) : DS := fun δ => match fb δ with
  | .exc c ns ds => runH n sub hs c ns ds
  | r => r
abbrev G.wE (g : G) (E : XK) : G := { g with E := E }
theorem Env.wE {g : G} {E : XK} {κ : List Kd} {F : Hp} {O : Addr → Option Nat} {H : Hp} {σ : L2.St} {δ : DSt} (N : Env g κ F O H σ δ) : Env (g.wE E) κ F O H σ δ := ⟨N.e, N.s, N.o, N.l, N.lk, N.sl⟩
theorem Env.ofE {g : G} {E : XK} {κ : List Kd} {F : Hp} {O : Addr → Option Nat} {H : Hp} {σ : L2.St} {δ : DSt} (N : Env (g.wE E) κ F O H σ δ) : Env g κ F O H σ δ := ⟨N.e, N.s, N.o, N.l, N.lk, N.sl⟩
theorem exc_rep {g : G} {F H : Hp} {c : Str} {ns : List Str} {ds : List D} {dopt : Option Addr} {a : Addr} (x : Ext g.F0 g.H0 F H) (s : Same F H) (xr : XR g.w g.H0 F H dopt ns ds) (na : H a = none) :
    ∃ F2, Ext g.F0 g.H0 F2 (upd H a (ExT (.ref (g.w.ct c)) dopt a)) ∧ Same F2 (upd H a (ExT (.ref (g.w.ct c)) dopt a)) ∧ Rep g.w F2 (.exc c ns ds) (.ref a) := by
  cases ns with
  | nil =>
    obtain ⟨e1, e2⟩ := xr
    refine ⟨upd F a (ExT (.ref (g.w.ct c)) dopt a), ?_, Same.newB s, a, dopt, rfl, upd_same, .inl ⟨rfl, e2, e1⟩⟩
    exact x.trans (Ext.newB s na)
  | cons n ns =>
    obtain ⟨dx, vs, e1, h0, hF, hH, hl, hr⟩ := xr
    have s1 : Same (upd F dx (.xd ((n :: ns).zip vs))) H := Same.lay s hH
    have x1 : Ext g.F0 g.H0 (upd F dx (.xd ((n :: ns).zip vs))) H := x.lay hH hF h0
    have ne : dx ≠ a := fun z => by rw [z, na] at hH; cases hH
    have fa : F a = none := s.free na
    have sF : Same F (upd (upd F dx (.xd ((n :: ns).zip vs))) a (ExT (.ref (g.w.ct c)) dopt a)) := (same_upd hF).trans (same_upd (by rw [upd_ne ne.symm]; exact fa))
    refine ⟨upd (upd F dx (.xd ((n :: ns).zip vs))) a (ExT (.ref (g.w.ct c)) dopt a), x1.trans (Ext.newB s1 na), Same.newB s1, a, dopt, rfl, upd_same, .inr ⟨dx, vs, e1, by rw [upd_ne ne, upd_same], hl, hr.mono sF⟩⟩
theorem env_H {g : G} {F H : Hp} {k : Clause} {n : Nat} {σ : L2.St} {a : Addr} {d : D} {cv : Value} {ts : Addr → Value → Option Addr → TS} (x : Ext g.F0 g.H0 F H) (s : Same F H) (hl : σ.length = n) (hi : ∀ i, k.i = some i → i < n) (r : Rep g.w F d (.ref a)) :
    Env g (kdH n k.i) F (fun _ => none) H ((Clz.mk cv k.i ts).st σ a) (k.dst n d) := by
  cases e : k.i with
  | none =>
    have e1 : (Clz.mk cv none ts).st σ a = σ := rfl
    have e2 : k.dst n d = List.replicate n none := by unfold Clause.dst; rw [e]
    have e3 : kdH n none = List.replicate n .xx := rfl
    rw [e1, e2, e3]
    refine ⟨x, s, fun b i h => (by cases h), by simp [hl], by simp [hl], fun i k d h1 h2 => ?_⟩
    rw [List.getElem?_replicate] at h2
    split at h2 <;> cases h2
  | some i =>
    have e1 : (Clz.mk cv (some i) ts).st σ a = σ.set i (some (.ref a)) := rfl
    have e2 : k.dst n d = (List.replicate n none).set i (some d) := by unfold Clause.dst; rw [e]
    have e3 : kdH n (some i) = (List.replicate n .xx).set i .im := rfl
    rw [e1, e2, e3]
    have hin := hi i e
    refine ⟨x, s, fun b i h => (by cases h), by simp [hl], by simp [hl], fun j kd d' h1 h2 => ?_⟩
    by_cases ej : j = i
    · subst ej
      rw [List.getElem?_set_self (by simpa using hin)] at h1 h2
      cases h1
      cases h2
      exact ⟨_, List.getElem?_set_self (by omega), r⟩
    · rw [List.getElem?_set_ne (Ne.symm ej), List.getElem?_replicate] at h2
      split at h2 <;> cases h2
section
variable {X : Cx} {g : G} {κ kn kb kc : List Kd} {pos : Pos} {fb : DS} {n : Nat} {sub : Str → Str → Option Bool}
inductive HdV (X : Cx) (g : G) (n : Nat) : List ExceptHandler → List Clause → Prop
  | nil : HdV X g n [] []
  | cons {x : Str} {nm : Option Str} {b0 : Stmt} {su : List Stmt} {np pos' : Pos} {hds : List ExceptHandler} {k : Clause} {l : List Clause} (hm : X.mg x = some (.ref (g.w.ct k.c))) (hg : Gl X x) (hd : (x == ("__debug__" : Str)) = false) (hn : NameAt X k.i nm)
      (hsu : ∀ (a : Addr) (pn : List (Addr × Obj)), PSs (X.suite a pn) (b0 :: su) (lowS g.e0 (kdH n k.i) ⟨kdH n k.i, [], []⟩ k.h)) (r : HdV X g n hds l) : HdV X g n (.ExceptHandler (some (.Name x np)) nm (b0 :: su) pos' :: hds) (k :: l)
def clzOf (g : G) (n : Nat) (k : Clause) : Clz := ⟨.ref (g.w.ct k.c), k.i, fun _ _ _ => lowS g.e0 (kdH n k.i) ⟨kdH n k.i, [], []⟩ k.h⟩
theorem HdV.toG : ∀ {hds : List ExceptHandler} {l : List Clause}, HdV X g n hds l → HdG X hds (l.map (clzOf g n))
  | _, _, .nil => .nil
  | _, _, .cons (k := k) hm hg hd hn hsu r => .cons (k := clzOf g n k) ⟨hg, hd, .inl hm⟩ hn (fun a _ _ pn => hsu a pn) r.toG
theorem HdV.lt : ∀ {hds : List ExceptHandler} {l : List Clause}, HdV X g n hds l → ∀ k ∈ l, ∀ i, k.i = some i → i < X.N.length
  | _, _, .nil, k, hk, _, _ => by cases hk
  | _, _, .cons (k := k0) (nm := nm) hm hg hd hn hsu r, k, hk, i, e => by
    rcases List.mem_cons.mp hk with h | h
    · subst h
      rw [e] at hn
      cases nm with
      | none => exact hn.elim
      | some nm => exact (List.getElem?_eq_some_iff.mp hn.1).1
    · exact r.lt k h i e
theorem vs_try {b : List Stmt} {h0 : ExceptHandler} {hds : List ExceptHandler} {l : List Clause} (ox : Okx X g) (tk : Takes X (fun cls d _ H => g.E cls d H)) (hn : n = X.N.length)
    (hsub : ∀ c c' b, sub c c' = some b → PySem.W.exmOne X.K (.ref (g.w.ct c)) (.ref (g.w.ct c')) = some b)
    (hb : ∀ (pn : List (Addr × Obj)) (xe : Value → Shared → Prop) (E : XK), Okx (X.tr pn xe) (g.wE E) → PSs (X.tr pn xe) b (lowS (g.wE E) κ ⟨kn, kb, kc⟩ fb)) (hh : HdV X g n (h0 :: hds) l)
    (hs : X.stack = X.env :: X.outer := by rfl) (hf : X.env.frame = some X.env.locals := by rfl) (hex : X.ex = [] := by rfl) :
    PS X (.Try b (h0 :: hds) [] [] pos) (lowS g κ ⟨kn, kb, kc⟩ (sTry n sub fb l)) := by
  refine (ps_tryG (tb := fun W => lowS (g.wE fun cls d H => ∀ σ : L2.St, σ.length = X.N.length → W cls d σ H) κ ⟨kn, kb, kc⟩ fb) hs hf hex ox.nd tk (fun W pn xe tkW own => ?_) hh.toG).weak fun De σ H ⟨F, O, δ, N, p⟩ => ?_
  · refine hb pn xe _ ⟨ox.K, ox.calm, ox.nd, own, fun pins σ H s e s' I c => ?_⟩
    exact tkW e s' (XE.of_call (W := W) I (fun cls d H' h => h σ I.len) c)
  · refine ⟨F, O, δ, N.wE, ?_⟩
    unfold sTry at p
    cases q : fb δ with
    | bad => rw [q] at p; exact p
    | ok o =>
      rw [q] at p
      cases o with
      | nx δ' => exact fun F' O' H' σ' s' N' => p F' O' H' σ' s' N'.ofE
      | bk δ' => exact fun F' O' H' σ' s' N' => p F' O' H' σ' s' N'.ofE
      | ct δ' => exact fun F' O' H' σ' s' N' => p F' O' H' σ' s' N'.ofE
      | rt d => exact p
    | exc c ns ds =>
      rw [q] at p
      intro F' H' dopt x s xr σ' hl
      have key : ∀ (l : List Clause), (∀ k ∈ l, ∀ i, k.i = some i → i < X.N.length) → PostS g ⟨kn, kb, kc⟩ F (runH n sub l c ns ds) De → wG X.K (fun cls d _ H => g.E cls d H) De (l.map (clzOf g n)) (.ref (g.w.ct c)) dopt σ' H' := by
        intro l
        induction l with
        | nil => exact fun _ p => p F' H' dopt x s xr
        | cons k l ih =>
          intro hlt p
          unfold runH at p
          cases e : sub c k.c with
          | none => rw [e] at p; exact p.elim
          | some b =>
            refine ⟨b, hsub _ _ _ e, fun hb a na => ?_, fun hb => ?_⟩
            · subst hb
              rw [e] at p
              obtain ⟨F2, x2, s2, r2⟩ := exc_rep (c := c) x s xr na
              refine ⟨F2, fun _ => none, k.dst n (.exc c ns ds), (env_H x2 s2 (hl.trans hn.symm) (fun i hi => by rw [hn]; exact hlt k List.mem_cons_self i hi) r2).e0, ?_⟩
              cases e2 : k.h (k.dst n (.exc c ns ds)) with
              | exc c' ns' ds' => simp only [e2] at p; exact p.elim
              | bad => simp only [e2] at p; exact p.elim
              | ok o =>
                cases o with
                | rt d =>
                  simp only [e2] at p
                  intro F3 H3 v x3 s3 r3
                  have := p F3 H3 v x3 s3 r3
                  have e4 : ((clzOf g n k).ends De).rt = De.rt := by
                    unfold Clz.ends
                    split <;> rfl
                  rw [e4]
                  exact this
                | nx δ' => simp only [e2] at p; exact p.elim
                | bk δ' => simp only [e2] at p; exact p.elim
                | ct δ' => simp only [e2] at p; exact p.elim
            · subst hb
              rw [e] at p
              exact ih (fun k hk => hlt k (List.mem_cons_of_mem _ hk)) p
      exact key l hh.lt p
end

/-! ### isinstance(e, C), e.f, e a caught exception -/
/-- what a class of exceptions must say for isinstance -/
structure ExcK (K : PySem.W.Frag) (C : Addr) : Prop where
  hcl : PySem.W.isClsIn K C = true
  hga : PySem.W.findIn K (.ref C) "__getattribute__" = some (some (.builtin "BaseException.__getattribute__"))
  hgt : PySem.W.findIn K (.ref C) "__getattr__" = some none
  hsub : PySem.W.subIn K (.ref C) (.type "BaseException") = some true
  ha : PySem.W.findIn K (.ref C) "__class__" = some (some (.builtin "object.__class__"))
  hn : PySem.W.specialIn K (.builtin "object.__class__") "__get__" = some (some (.builtin "getset_descriptor.__get__"))
  htk : PySem.W.takesIn K (.builtin "object.__class__") = some true
  hm : PySem.W.mroIn K C (.type "object") = some true
  hd : PySem.W.hasDictIn K C = true
theorem exc_inst {X : Cx} {pins : List (Addr × Obj)} {σ : L2.St} {H : Hp} {s : Shared} {a C : Addr} {dopt : Option Addr} (I : Inv X pins σ H s) (h : H a = some (ExT (.ref C) dopt a)) (hx : ∀ dx, dopt = some dx → ∃ fs, H dx = some (.xd fs)) :
    ∃ oe od, PySem.W.InstAt s.heap a oe C od ∧ ∀ dx, dopt = some dx → ∃ o, od = some o ∧ s.heap.get? dx = some o := by
  obtain ⟨⟨oe, vs, e, z, f⟩, _⟩ := I.hok a _ h
  cases dopt with
  | none =>
    obtain ⟨oc, od, oda, osl⟩ := oe
    obtain ⟨h1, h2⟩ := z
    dsimp only at h1 h2 f
    subst h1 h2 f
    exact ⟨_, none, ⟨e, rfl, rfl, trivial⟩, fun dx q => by cases q⟩
  | some dx =>
    obtain ⟨fs, hdx⟩ := hx dx rfl
    obtain ⟨mA, hns, hr⟩ := (show ObjOk X.prog X.w H s.heap dx (.xd fs) from I.hok dx _ hdx)
    obtain ⟨o, ho, _⟩ := lookIn_ns hns
    obtain ⟨oc, od, oda, osl⟩ := oe
    obtain ⟨h1, h2⟩ := z
    dsimp only at h1 h2 f
    subst h1 h2 f
    exact ⟨_, some o, ⟨e, rfl, rfl, ho⟩, fun dx' q => by cases q; exact ⟨o, rfl, ho⟩⟩
def rIsX (K : PySem.W.Frag) : List V → Hp → VK → Prop := fun xs H Q => ∃ (a C : Addr) (dopt : Option Addr) (c : V) (u : Value) (b : Bool), xs = [.ref a, c] ∧ H a = some (ExT (.ref C) dopt a) ∧ (∀ dx, dopt = some dx → ∃ fs, H dx = some (.xd fs)) ∧ ExcK K C ∧ ClsV c u ∧ PySem.W.kitOne K (.ref C) u = some b ∧ Q (.bl b) H
theorem call_isX {X : Cx} : CallR X (.builtin "isinstance") (rIsX X.K) := by
  intro pins s σ H xs us Q I r h
  obtain ⟨a, C, dopt, c, u, b, rfl, ha, hx, T, k, e, q⟩ := h
  obtain ⟨u1, u2, rfl, r1, r2⟩ := vals2 r
  have e2 := k.eq r2
  subst e2
  cases (show u1 = Value.ref a from r1)
  obtain ⟨oe, od, J, _⟩ := exc_inst I ha hx
  exact PySem.W.kia_one (PySem.W.kitx_exc T.hcl T.hga T.hgt T.hsub T.ha T.hn T.htk T.hm) I.kIn J e (fun z => nomatch z) fun tk => ⟨.bl b, H, I.tok tk, rfl, q⟩
def rIsXT (K : PySem.W.Frag) : List V → Hp → VK → Prop := fun xs H Q => ∃ (a C : Addr) (dopt : Option Addr) (tp : Addr) (cs : List V) (us : List Value) (b : Bool), xs = [.ref a, .ref tp] ∧ H a = some (ExT (.ref C) dopt a) ∧ (∀ dx, dopt = some dx → ∃ fs, H dx = some (.xd fs)) ∧ ExcK K C ∧
  H tp = some (.tup cs) ∧ Paired ClsV cs us ∧ PySem.W.kitAny K (.ref C) us = some b ∧ Q (.bl b) H
theorem call_isXT {X : Cx} : CallR X (.builtin "isinstance") (rIsXT X.K) := by
  intro pins s σ H xs us Q I r h
  obtain ⟨a, C, dopt, tp, cs, ws, b, rfl, ha, hx, T, hT, k, e, q⟩ := h
  obtain ⟨u1, u2, rfl, r1, r2⟩ := vals2 r
  cases (show u1 = Value.ref a from r1)
  cases (show u2 = Value.ref tp from r2)
  obtain ⟨oe, od, J, _⟩ := exc_inst I ha hx
  obtain ⟨_, its, rv, o, h1, h2, n, h3⟩ := (show ObjOk X.prog X.w H s.heap tp (.tup cs) from I.hok tp _ hT)
  have e3 := ClsV.all k rv
  subst e3
  obtain ⟨oc, od', dt, sl⟩ := o
  simp only at h2 h3
  subst h2 h3
  exact PySem.W.kia_tup (PySem.W.kitx_exc T.hcl T.hga T.hgt T.hsub T.ha T.hn T.htk T.hm) I.kIn J h1 e (fun z => nomatch z) fun tk => ⟨.bl b, H, I.tok tk, rfl, q⟩
theorem rep_exc {w : Wd} {F : Hp} {c : Str} {ns : List Str} {ds : List D} {v : V} (r : Rep w F (.exc c ns ds) v) : ∃ a dopt, v = .ref a ∧ F a = some (ExT (.ref (w.ct c)) dopt a) ∧ ∀ dx, dopt = some dx → ∃ fs, F dx = some (.xd fs) := by
  obtain ⟨a, dopt, e, h1, h2⟩ := r
  refine ⟨a, dopt, e, h1, fun dx q => ?_⟩
  rcases h2 with ⟨_, _, h⟩ | ⟨dx', vs, h, h3, _⟩
  · rw [h] at q; cases q
  · rw [h] at q; cases q; exact ⟨_, h3⟩
section
variable {X : Cx} {g : G} {κ : List Kd} {a e : Expr} {fa : DE} {ka : Rk} {pos p1 p2 p3 p4 : Pos}
/-- tab: the exceptions' classes, with the answers -/
def isX (tab : List (Str × Bool)) (d : D) : Res D := match d with
  | .exc c _ _ => match tab.lookup c with
    | some b => .ok (.bl b)
    | none => .bad
  | _ => .bad
theorem lookup_mem {tab : List (Str × Bool)} {c : Str} {b : Bool} (h : tab.lookup c = some b) : (c, b) ∈ tab := by
  induction tab with
  | nil => cases h
  | cons p r ih =>
    obtain ⟨k, v⟩ := p
    rw [List.lookup_cons] at h
    by_cases q : (c == k) = true
    · rw [q] at h
      cases h
      rw [beq_iff_eq.mp q]
      exact List.mem_cons_self
    · have q' : (c == k) = false := by simpa using q
      rw [q'] at h
      exact List.mem_cons_of_mem _ (ih h)
theorem ve_isX {x : Str} {cv : V} {u : Value} (tab : List (Str × Bool)) (hcv : ClsV cv u) (hc : PE X (.Name x p2) (tC cv)) (hT : ∀ p ∈ tab, ExcK g.w.K (g.w.ct p.1) ∧ PySem.W.kitOne g.w.K (.ref (g.w.ct p.1)) u = some p.2) (hmI : X.mg "isinstance" = none) (ha : PE X a (lowE g κ ka fa)) (hK : X.K = g.w.K := by rfl) (hgI : Gl X "isinstance" := by rfl)
    (hs : starEach [a, .Name x p2] X.env = (false, eval a X.env) :: starEach [.Name x p2] X.env := by rfl) (hs2 : starEach [.Name x p2] X.env = (false, eval (.Name x p2) X.env) :: starEach [] X.env := by rfl) (hpl : (backTo pos (starEach [.Name x p2] X.env)).any (·.1) = false := by rfl) :
    PE X (.Call (.Name "isinstance" p1) [a, .Name x p2] [] pos) (lowE g κ .im (v1 (isX tab) fa)) := by
  refine (pe_callB call_isX hgI hmI (by decide +kernel) (pa_cons ha (pa_cons hc pa_nil hs2) hs) (he := hs) (hpl := hpl)).weak fun σ H Q ⟨F, O, δ, N, p⟩ => ?_
  refine ⟨F, O, δ, N, Post.seq p fun d v F1 H1 x s r q => ?_⟩
  have s0 := N.e.h.trans x.h
  cases d with
  | exc c ns ds =>
    have q' : Post g .im F1 H1 (match tab.lookup c with | some b => .ok (.bl b) | none => .bad) Q := q
    cases hb : tab.lookup c with
    | none => rw [hb] at q'; exact q'.elim
    | some b =>
      rw [hb] at q'
      obtain ⟨T, k⟩ := hT _ (lookup_mem hb)
      obtain ⟨a, dopt, ev, h1, h2⟩ := rep_exc (r.rep s s0)
      subst ev
      exact ⟨a, _, dopt, cv, u, b, rfl, h1, h2, by rw [hK]; exact T, hcv, by rw [hK]; exact k, Post.here q' s rfl⟩
  | _ => exact q.elim
/-- the classes of a tuple -/
def tCs (vs : List V) : TA := fun σ H Q => Q vs H
theorem pa_cs_nil : PA X [] (tCs []) := pa_nil
theorem pa_cs_cons {x : Str} {v : V} {vs : List V} {es : List Expr} (h : PE X (.Name x p2) (tC v)) (hr : PA X es (tCs vs)) (hs : starEach (.Name x p2 :: es) X.env = (false, eval (.Name x p2) X.env) :: starEach es X.env := by rfl) : PA X (.Name x p2 :: es) (tCs (v :: vs)) :=
  (pa_cons h hr hs).weak fun σ H Q q => q
theorem ve_isXT {es : List Expr} {cs : List V} {us : List Value} {j : Nat} (tab : List (Str × Bool)) (hcs : Paired ClsV cs us) (hes : PA X es (tCs cs)) (hlen : cs.length ≤ 1000) (hT : ∀ p ∈ tab, ExcK g.w.K (g.w.ct p.1) ∧ PySem.W.kitAny g.w.K (.ref (g.w.ct p.1)) us = some p.2) (hmI : X.mg "isinstance" = none) (ha : PE X a (lowE g κ ka fa)) (hK : X.K = g.w.K := by rfl) (hgI : Gl X "isinstance" := by rfl)
    (hs : starEach [a, .Tuple es j p4] X.env = (false, eval a X.env) :: starEach [.Tuple es j p4] X.env := by rfl) (hs2 : starEach [.Tuple es j p4] X.env = (false, eval (.Tuple es j p4) X.env) :: starEach [] X.env := by rfl) (hpl : (backTo pos (starEach [.Tuple es j p4] X.env)).any (·.1) = false := by rfl) :
    PE X (.Call (.Name "isinstance" p1) [a, .Tuple es j p4] [] pos) (lowE g κ .im (v1 (isX tab) fa)) := by
  refine (pe_callB call_isXT hgI hmI (by decide +kernel) (pa_cons ha (pa_cons (pe_tup hes) pa_nil hs2) hs) (he := hs) (hpl := hpl)).weak fun σ H Q ⟨F, O, δ, N, p⟩ => ?_
  refine ⟨F, O, δ, N, Post.seq p fun d v F1 H1 x s r q => ?_⟩
  have s0 := N.e.h.trans x.h
  refine ⟨by rw [sizeLine_eq]; omega, fun t ht => ?_⟩
  have sT : Same H1 (upd H1 t (.tup cs)) := same_upd ht
  cases d with
  | exc c ns ds =>
    have q' : Post g .im F1 H1 (match tab.lookup c with | some b => .ok (.bl b) | none => .bad) Q := q
    cases hb : tab.lookup c with
    | none => rw [hb] at q'; exact q'.elim
    | some b =>
      rw [hb] at q'
      obtain ⟨T, k⟩ := hT _ (lookup_mem hb)
      obtain ⟨a, dopt, ev, h1, h2⟩ := rep_exc (Rep.mono sT _ _ (r.rep s s0))
      subst ev
      exact ⟨a, _, dopt, t, cs, us, b, rfl, h1, h2, by rw [hK]; exact T, upd_same, hcs, by rw [hK]; exact k, q' _ F1 _ (Ext.new ht) (Same.newH s ht) rfl⟩
  | _ => exact q.elim
/-- e.f -/
def getX (cs : List Str) (f : Str) : D → Res D
  | .exc c ns ds => if cs.contains c then (match (ns.zip ds).lookup f with
    | some d => .ok d
    | none => .bad) else .bad
  | _ => .bad
def tXg (K : PySem.W.Frag) (f : Str) (te : TE) : TE := fun σ H Q => te σ H fun x H1 => ∃ (a C dx : Addr) (fs : List (Str × V)) (v : V), x = .ref a ∧ H1 a = some (ExT (.ref C) (some dx) a) ∧ H1 dx = some (.xd fs) ∧ ExcK K C ∧ PySem.W.findIn K (.ref C) f = some none ∧ fs.lookup f = some v ∧ Q v H1
theorem pe_xg {te : TE} {f : Str} (he : PE X e te) (hb : attributeBase e f X.env (eval e X.env) = eval e X.env := by rfl) : PE X (.Attribute e f pos) (tXg X.K f te) := by
  refine ⟨fun pins s σ H Q I h => ?_⟩
  refine attr_of hb (thn (he.run pins s σ H _ I h) fun u s1 hh => ?_)
  obtain ⟨x, H1, I1, rx, a, C, dx, fs, v, ex, ha, hd, T, hno, l, q⟩ := hh
  subst ex
  obtain rfl : u = Value.ref a := rx
  obtain ⟨oe, od, J, hod⟩ := exc_inst I1 ha fun dx' z => by cases z; exact ⟨fs, hd⟩
  obtain ⟨o, eo, ho⟩ := hod dx rfl
  subst eo
  obtain ⟨mA, hns, hr⟩ := (show ObjOk X.prog X.w H1 s1.heap dx (.xd fs) from I1.hok dx _ hd)
  obtain ⟨o2, ho2, hl⟩ := lookIn_ns hns
  rw [ho] at ho2
  cases ho2
  obtain ⟨u, hu, ru⟩ := RelO.some_of (v := v) (o := mA f) (by rw [← l]; exact hr f)
  exact HandSPX.exc_get I1.kIn J T.hga T.hgt T.hsub (PySem.W.findObj_own T.hd hno rfl (by rw [hl, hu])) (handed_of ru) ⟨v, H1, I1.tok _, ru, q⟩
theorem ve_xf {f : Str} (cs : List Str) (hT : ∀ c ∈ cs, ExcK g.w.K (g.w.ct c) ∧ PySem.W.findIn g.w.K (.ref (g.w.ct c)) f = some none) (ha : PE X a (lowE g κ .im fa)) (hK : X.K = g.w.K := by rfl) (hb : attributeBase a f X.env (eval a X.env) = eval a X.env := by rfl) :
    PE X (.Attribute a f pos) (lowE g κ .im (v1 (getX cs f) fa)) := by
  refine (pe_xg ha hb).weak fun σ H Q ⟨F, O, δ, N, p⟩ => ?_
  refine ⟨F, O, δ, N, Post.seq p fun d v F1 H1 x s r q => ?_⟩
  cases d with
  | exc c ns ds =>
    have q' : Post g .im F1 H1 (if cs.contains c then (match (ns.zip ds).lookup f with | some d => .ok d | none => .bad) else .bad) Q := q
    by_cases cc : cs.contains c = true
    · rw [if_pos cc] at q'
      cases e3 : (ns.zip ds).lookup f with
      | none => rw [e3] at q'; exact q'.elim
      | some d =>
        rw [e3] at q'
        obtain ⟨T, no⟩ := hT c (List.contains_iff_mem.mp cc)
        obtain ⟨a, dopt, ev, h1, h2⟩ := (show Rep g.w F1 (.exc c ns ds) v from r)
        rcases h2 with ⟨z1, z2, z3⟩ | ⟨dx, vs, z, h3, hl, h4⟩
        · subst z1
          simp at e3
        · subst z
          obtain ⟨u, e4, e5⟩ := lookup_rep h4 hl e3
          exact ⟨a, _, dx, _, u, ev, s _ _ h1, s _ _ h3, by rw [hK]; exact T, by rw [hK]; exact no, e4, Post.here q' s e5⟩
    · rw [if_neg cc] at q'; exact q'.elim
  | _ => exact q.elim

/-! ### xs.reverse(), xs.clear() -/
variable {kb kc : List Kd}
theorem vs_rev (i : Nat) {x : Str} (ox : Okx X g) (hk : κ[i]? = some .ow := by rfl) (hN : X.N[i]? = some x := by rfl) (hv : Vis X.env.scope x := by first | exact Or.inl rfl | exact Or.inr (Or.inl rfl)) (hd : (x == ("__debug__" : Str)) = false := by decide) (hcd : (x == ("__classdict__" : Str)) = false := by decide)
    (hbase : attributeBase (.Name x p1) "reverse" X.env (eval (.Name x p1) X.env) = eval (.Name x p1) X.env := by rfl) (hline : (p2.endLine == p3.line) = true := by rfl)
    (hsw : swapsWith (.Call (.Attribute (.Name x p1) "reverse" p2) [] [] p3) none pos.line X.env = pure false := by rfl) :
    PS X (.Expr (.Call (.Attribute (.Name x p1) "reverse" p2) [] [] p3) pos) (lowS g κ ⟨κ, kb, kc⟩ (sRev i)) := by
  refine (ps_expr (pe_bm0 PySem.F.plainAttrs_list PySem.F.slot_list_reverse PySem.F.type_list_reverse mt_reverse (pe_var hN hv hd hcd) hbase hline) hsw).weak fun De σ H ⟨F, O, δ, N, p⟩ => ?_
  unfold sRev at p
  cases e1 : δ[i]? with
  | none => simp only [e1] at p; exact p.elim
  | some o =>
    cases o with
    | none => simp only [e1] at p; exact p.elim
    | some s =>
      cases s with
      | lst ds =>
        simp only [e1] at p
        obtain ⟨u, e2, m, y, o, e3, e4, e5, vs, e6, e7⟩ := N.sl i _ _ hk e1
        subst e3 e6
        refine ⟨_, e2, .inl ⟨rfl, _, SqL.of e5⟩, y, vs, rfl, rfl, e5, ?_⟩
        have N2 := N.write (d := .lst ds.reverse) (o := .lst vs.reverse) (N.lt hk) e4 (fun k' v' h3 h4 => by
          rw [hk] at h3
          cases h3
          rw [e2] at h4
          cases h4
          exact ⟨rfl, y, _, rfl, e4, upd_same, vs.reverse, rfl, e7.rev⟩) ⟨_, e1⟩
        exact p F O _ σ (Same.refl _) N2
      | _ => simp only [e1] at p; exact p.elim
end
end VL

namespace VL
open PySem PySem.Spec L2

/-! ### an own __iter__ that returns iter(self.f), f a tuple -/
/-- at it an iterator over the tuple at t, at its start -/
def TtO (t it : Addr) : HO := .ext fun h => h.IsTupleIter it t 0
theorem ttO_ok {P : Program} {w : World} {H : Hp} {h : Heap} {t it : Addr} (e : h.IsTupleIter it t 0) : ObjOk P w H h it (TtO t it) := by
  obtain ⟨o, q, _⟩ := id e
  exact ⟨e, ⟨o, q⟩, fun h1 h2 ⟨o, q, r⟩ k => ⟨o, k o q, r⟩⟩
section
variable {prog : Program} {w : World} {A : Around} {E : Value → Shared → Prop} {s : Shared}
theorem iter_tup {t : Addr} {items : Array Value} {Q : Value → Shared → Prop} (ht : s.heap.IsTuple t items)
    (h : Q (.ref s.heap.objs.size) { s with heap := s.heap.push { cls := .type "tuple_iterator", data := .fields #[.ref t, .int 0 0] } }) : wpAny (model prog w) A (call (.builtin "iter") [.ref t]) Q E s := by
  refine Calls.call_function_entry (by decide +kernel) (by decide +kernel) PySem.W.kdk_entry_iter (PySem.W.kdk_args_iter _) ?_
  unfold Builtin.«iter»
  refine wpAny_bind (m := someArgs "iter" 1 2 _) (wpAny_of_eq (a := [Value.ref t]) (by first | rfl | kernel_rfl!) ?_)
  show wpAny _ _ (pyIter (.ref t) >>= _) _ _ _
  exact wpAny_bind (wpAny_pyIter_tuple ht (wpAny_pure ⟨_, rfl, h⟩))
end
def rItT (K : PySem.W.Frag) (n : Nat) : List V → Hp → VK → Prop := fun xs H Q => ∃ (t : Addr) (zs : List V), xs = [.ref t] ∧ SqT K H t zs ∧ ∀ it, H it = none → n ≤ it → Q (.ref it) (upd H it (TtO t it))
theorem call_iterT {X : Cx} : CallR X (.builtin "iter") (rItT X.K X.base.objs.size) := by
  intro pins s σ H xs us Q I r h
  obtain ⟨t, zs, rfl, hq, q⟩ := h
  obtain ⟨u, rfl, ru⟩ := vals1 r
  cases ru
  obtain ⟨its, rv, pl, hz⟩ := I.tuple hq
  refine iter_tup (show s.heap.IsTuple t its.toArray from pl) ?_
  exact ⟨.ref s.heap.objs.size, _, I.laid (t' := s.toks) (fun b u e => Heap.get?_push_of_some _ e) (Nat.le_refl _) (ttO_ok ⟨_, Heap.get?_push_size _ rfl, rfl, rfl⟩), rfl, q _ (I.hok.fresh (Nat.le_refl _)) (Nat.le_trans I.ok.bsz I.sz)⟩
/-- its promise; n: an address behind all that stood there -/
def spIt (K : PySem.W.Frag) (C : Addr) (fld : Str) (n : Nat) : Sp := fun vs H Q _ => ∃ a dx fs t xs, vs = [.ref a] ∧ H a = some (.ins C dx fs) ∧ fs.lookup fld = some (.ref t) ∧ SqT K H t xs ∧ ∀ it, H it = none → n ≤ it → Q (.ref it) (upd H it (TtO t it))
theorem ok_iter {P : Program} {w : World} {wd : Wd} {mg : Str → Option Value} {base : Heap} {qual x : Str} {st : Stmt} {f : Addr} {fd : FuncData} {C : Addr} {fld : Str} (F : Fun wd.K x qual st f fd) (S : FnScope [("self" : Str)] [("self" : Str)] (defScope st)) (cl : Cls wd.K C) (na : NoAttr wd.K C fld) (hm : mg "iter" = none)
    {p1 p2 p3 p4 p5 : Pos} (hbd : defBody st = [.Return (some (.Call (.Name "iter" p1) [.Attribute (.Name "self" p2) fld p3] [] p4)) p5])
    (hg : ∀ (X : Cx), X.env.scope = defScope st → Gl X "iter") (hv : ∀ (X : Cx), X.env.scope = defScope st → Vis X.env.scope ("self" : Str))
    (hb1 : ∀ (X : Cx), attributeBase (.Name "self" p2) fld X.env (eval (.Name "self" p2) X.env) = eval (.Name "self" p2) X.env)
    (hst : ∀ X : Cx, starEach [.Attribute (.Name "self" p2) fld p3] X.env = (false, eval (.Attribute (.Name "self" p2) fld p3) X.env) :: starEach [] X.env) : FnOk P w wd.K mg base (L2.CX P w) 1 f fd [("self" : Str)] (spIt wd.K C fld base.objs.size) := by
  refine F.okX S (fun vs H Q E h => ?_) (fun cdv A outer s H vs Q E hr h => ?_)
  · obtain ⟨a, dx, fs, t, xs, rfl, _⟩ := h
    rfl
  · obtain ⟨a, dx, fs, t, xs, rfl, ha, hf, ht, q⟩ := h
    refine ⟨_, hbd ▸ pss_one (ps_ret (pe_callB call_iterT (hg _ rfl) hm (by decide +kernel) (pa_cons (pe_fld (pe_var (i := 0) rfl (hv _ rfl) (by decide) (by decide)) (hb1 _)) pa_nil (hst _)) (he := hst _))), ?_⟩
    exact ⟨.ref a, rfl, a, C, dx, fs, .ref t, rfl, ha, cl, na, hf, t, xs, rfl, ht, fun it h1 h2 => q it h1 h2⟩

/-! the base, padded -/
theorem pad_heap (h : Heap) (n : Nat) (hn : h.objs.size ≤ n) : ∃ h' : Heap, (∀ b, h'.get? b = h.get? b) ∧ h'.objs.size = n := by
  refine ⟨{ h with objs := h.objs ++ Array.replicate (n - h.objs.size) ⟨.none, none, .freed, #[]⟩ }, fun b => ?_, by simp; omega⟩
  unfold Heap.get?
  by_cases hb : b < h.objs.size
  · rw [Array.getElem?_append_left hb]
  · have hb' : h.objs.size ≤ b := Nat.le_of_not_lt hb
    rw [Array.getElem?_append_right hb', Array.getElem?_eq_none hb', Array.getElem?_replicate]
    by_cases c : b - h.objs.size < n - h.objs.size
    · rw [if_pos c]
    · rw [if_neg c]
theorem frames_pad {h b b' : Heap} (e : ∀ a, b'.get? a = b.get? a) : ∀ {l : List PySem.Env}, h.FunFrames b l → h.FunFrames b' l
  | [], _ => trivial
  | _ :: _, ⟨h1, ⟨L, o, h2, h3, h4⟩, h5⟩ => ⟨h1, ⟨L, o, h2, by rw [e]; exact h3, h4⟩, frames_pad e h5⟩
section
variable {X : Cx} {pins : List (Addr × Obj)} {σ : L2.St} {H : Hp} {s : Shared} {A : Around} {n : Nat} {f : Addr} {fd : FuncData} {ps : List Str} {C : Addr} {fld : Str}
/-- what the class must have -/
structure OwnIt (X : Cx) (n : Nat) (C : Addr) (fld : Str) (f : Addr) (fd : FuncData) : Prop where
  run : ∀ base : Heap, FnOk X.prog X.w X.K X.mg base (L2.CX X.prog X.w) n f fd [("self" : Str)] (spIt X.K C fld base.objs.size)
  it : PySem.W.findIn X.K (.ref C) "__iter__" = some (some (.ref f))
  itF : PySem.W.isFn X.K (.ref f) = true
  bd : Binds X.K fd [("self" : Str)] []
theorem own_iter_run {a dx t : Addr} {fs : List (Str × V)} {xs : List V} (T : OwnIt X n C fld f fd) (hr : Room n A) (fr : A.frames = X.A.frames) (I : Inv X pins σ H s) (ha : H a = some (.ins C dx fs)) (hf : fs.lookup fld = some (.ref t)) (ht : SqT X.K H t xs) :
    wpAny (model X.prog X.w) A (call (.ref f) [.ref a]) (fun u s' => ∃ it, u = .ref it ∧ H it = none ∧ X.s_0.heap.objs.size ≤ it ∧ Inv X pins σ (upd H it (TtO t it)) s') X.xe s := by
  obtain ⟨B, hB, hsz⟩ := pad_heap X.base X.s_0.heap.objs.size I.ok.bsz
  have e := I.env0
  have k1 : ∀ b o, X.base.get? b = some o → B.get? b = some o := fun b o q => by rw [hB]; exact q
  have e0 : Env0 X.prog X.w X.K X.mg B A X.stack s H :=
    ⟨by rw [fr]; exact e.frames, ⟨e.mod.kin.keeps k1, e.mod.glob.keeps k1, (by obtain ⟨mb, h1, h2⟩ := e.mod.blt; exact ⟨mb, h1.keeps k1, h2⟩), e.mod.nolimit.keeps k1⟩, fun b o q => e.bs b o (by rw [← hB]; exact q), by rw [hsz]; exact I.sz, frames_pad hB e.funs, e.frf, e.hok, e.bare⟩
  have hb2 := T.bd s [.ref a] I.kIn rfl
  rw [List.append_nil] at hb2
  refine wpAny_call (codeAny_mono ((T.run B).run A X.stack s H ⟨[.ref a], []⟩ [.ref a] [.ref a] (fun v H' => ∃ it, v = .ref it ∧ H it = none ∧ X.s_0.heap.objs.size ≤ it ∧ H' = upd H it (TtO t it)) E0 hr e0 hb2 (.cons rfl .nil) ⟨a, dx, fs, t, xs, rfl, ha, hf, ht, fun it h1 h2 => ⟨it, rfl, h1, by rw [← hsz]; exact h2, rfl⟩⟩) fun r s' hq => ?_)
  cases r with
  | error e => exact passL pins σ H s e s' I hq
  | ok fl =>
    cases fl with
    | ret u =>
      obtain ⟨v, H', I', rv, it, ev, h1, h2, eH⟩ := I.after hq
      subst ev eH
      cases rv
      exact ⟨it, rfl, h1, h2, I'⟩
    | next => exact False.elim hq
    | brk => exact False.elim hq
    | cont => exact False.elim hq
/-- an iterator it is ours, and may turn once it is forgotten -/
theorem own_it {Q : Value → Shared → Prop} {E : Value → Shared → Prop} {a dx t : Addr} {fs : List (Str × V)} {xs : List V} (T : OwnIt X n C fld f fd) (hr : Room n A) (fr : A.frames = X.A.frames) (I : Inv X pins σ H s) (ha : H a = some (.ins C dx fs)) (hf : fs.lookup fld = some (.ref t)) (ht : SqT X.K H t xs)
    (hE : ∀ e s', X.xe e s' → E e s') (h : ∀ it s', H it = none → X.s_0.heap.objs.size ≤ it → Inv X pins σ (upd H it (TtO t it)) s' → Q (.ref it) s') : wpAny (model X.prog X.w) A (pyIter (.ref a)) Q E s := by
  obtain ⟨mA, J, _⟩ := ins_get I.hok ha
  obtain ⟨od, J, _⟩ := J.look
  obtain ⟨m, hF⟩ := I.fr
  refine PySem.W.owit_iter hF I.ok.mod.kin J T.it T.itF (wpAny_mono (own_iter_run T hr fr I ha hf ht) (fun u s' z => ?_) fun e s' z => hE e s' z)
  obtain ⟨it, eu, h1, h2, I'⟩ := z
  subst eu
  unfold PySem.W.OwitIt
  have hI : s'.heap.IsTupleIter it t 0 := (I'.hok it _ upd_same).1
  exact wpAny_specialOf (name := Str.ofString "__next__") hI.typeIs F.slot_tuple_iterator_next.lookup (h it s' h1 h2 I')
def iOwn (K : PySem.W.Frag) (C : Addr) (fld : Str) (te : TE) : TI := fun σ H R => te σ H fun x H1 => ∃ a dx fs t xs, x = .ref a ∧ H1 a = some (.ins C dx fs) ∧ fs.lookup fld = some (.ref t) ∧ SqT K H1 t xs ∧ R (Itt K t) H1
theorem pi_own {e tg : Expr} {te : TE} (T : OwnIt X n C fld f fd) (hr : Room n X.A) (he : PE X e te) : PI X tg e (iOwn X.K C fld te) := by
  refine ⟨fun pins s σ H R I h => ?_⟩
  refine thn (he.run pins s σ H _ I h) fun v s1 ⟨x, H1, I1, r1, q1⟩ => ?_
  obtain ⟨a, dx, fs, t, xs, ex, ha, hf, ht, q⟩ := q1
  subst ex
  cases r1
  refine own_it T hr rfl I1 ha hf ht (fun _ _ z => z) fun it s' h1 h2 I' => ?_
  have hI : s'.heap.IsTupleIter it t 0 := (I'.hok it _ upd_same).1
  have I2 := ItX.inv_drop I' upd_same
  have f2 := ItX.inv_fp I' upd_same h2
  rw [ItX.dropH_upd h1] at I2 f2
  refine ⟨it, [it], _, _, H1, rfl, I2, turn_tuple t it, hI, fun b hb => ?_, q⟩
  have e : b = it := by simpa using hb
  rw [e]
  exact f2
end

/-! list(o) -/
section
variable {X : Cx} {pins : List (Addr × Obj)} {σ : L2.St} {s : Shared} {A1 : Around} {n : Nat} {f fl : Addr} {fd fdl : FuncData} {psl : List Str} {C : Addr} {fld : Str} {spl : Sp}
theorem own_loopT {it t q : Addr} {xs : List V} {H3 : Hp} {Rs : Result → Shared → Prop} (hh : A1.handled = none) (ht : SqT X.K H3 t xs) (tq : t ≠ q) (hz : xs.length ≤ sizeLine) (hi : FpOk X pins H3 it) (iq : it ≠ q)
    (hd : ∀ H s, Inv X pins σ H s → H q = some (.lst xs) → (∀ b, b ≠ q → H b = H3 b) → Rs (.ok (.ret .none)) s) :
    ∀ (k i : Nat) (H : Hp) (s : Shared), xs.length - i = k → i ≤ xs.length → Inv X pins σ H s → H q = some (.lst (xs.take i)) → (∀ b, b ≠ q → H b = H3 b) → s.heap.IsTupleIter it t i →
      codeAny (model X.prog X.w) A1 (.builtin "list.extend.loop" ⟨[.ref q, .ref it, .none], []⟩) Rs s := by
  intro k
  induction k with
  | zero =>
    intro i H s hk hle I hq hO st
    have hin : i = xs.length := by omega
    have ht' : SqT X.K H t xs := by
      have e : H t = H3 t := hO t tq
      unfold SqT Rd at ht ⊢
      simp only [e]
      exact ht
    obtain ⟨its, rv, pl, hz'⟩ := I.tuple ht'
    obtain ⟨f0, f1, f2, f3, f4, f5⟩ := hi
    have fH : H it = none := by rw [hO it iq]; exact f0
    refine codeAny_builtin PySem.F.entry_extend_loop ?_
    rw [Around.under_plainId PySem.F.plain_extend_loop _]
    show wpAny _ A1.in1 (pyNext (.ref it) >>= _) _ _ s
    refine wpAny_bind (wpAny_pyNext_tuple_end (A := A1.in1) hh st (show s.heap.IsTuple t its.toArray from pl) (by have := rv.length; simp; omega) fun h' eb => ?_)
    have I1 : Inv X pins σ H { s with heap := h' } := I.turned (t' := s.toks) (fun b o hb e => eb b o hb e) fH f1 f3 f4 f5
    rw [hin, List.take_length] at hq
    exact wpAny_pure (hd H _ I1 hq hO)
  | succ k ih =>
    intro i H s hk hle I hq hO st
    have hlt : i < xs.length := by omega
    have ht' : SqT X.K H t xs := by
      have e : H t = H3 t := hO t tq
      unfold SqT Rd at ht ⊢
      simp only [e]
      exact ht
    obtain ⟨its, rv, pl, hz'⟩ := I.tuple ht'
    obtain ⟨u, hu, ru⟩ := rv.get (List.getElem?_eq_getElem hlt)
    obtain ⟨f0, f1, f2, f3, f4, f5⟩ := id hi
    have fH : H it = none := by rw [hO it iq]; exact f0
    refine codeAny_builtin PySem.F.entry_extend_loop ?_
    rw [Around.under_plainId PySem.F.plain_extend_loop _]
    show wpAny _ A1.in1 (pyNext (.ref it) >>= _) _ _ s
    refine wpAny_bind (wpAny_pyNext_tuple_item (A := A1.in1) st (show s.heap.IsTuple t its.toArray from pl) (x := u) (by simpa using hu) fun h' st' sb => ?_)
    have I1 : Inv X pins σ H { s with heap := h' } := I.turned (t' := s.toks) (fun b o hb e => (sb.2 b hb).trans e) fH f1 f3 f4 f5
    show wpAny _ A1.in1 (updateSeq q (·.push u) >>= _) _ _ _
    obtain ⟨z, its2, c, r2, hl2, e2⟩ := I1.lstM hq
    have l2 := r2.length
    rw [List.length_take] at l2
    refine wpAny_bind (wpAny_updateSeq e2 rfl (wpAny_pure ⟨plainId_quiet PySem.F.plain_extend_loop _, ?_⟩) (by rw [List.size_toArray]; omega) (by show (its2.toArray.push u).size ≤ sizeLine + 1; rw [Array.size_push, List.size_toArray]; omega))
    have I2 := I1.lset (f := (·.push u)) (its' := its2 ++ [u]) (t' := s.toks) hq e2 (by simp) (r2.append (.cons ru .nil)) (by rw [List.length_append, List.length_singleton, List.length_take]; omega)
    refine ih (i + 1) _ _ (by omega) hlt I2 ?_ (fun b hb => by rw [upd_ne hb]; exact hO b hb) ?_
    · rw [upd_same, List.take_succ, List.getElem?_eq_getElem hlt]
      rfl
    · obtain ⟨o, q1, q2⟩ := st'
      exact ⟨o, (Heap.get?_update_other _ _ (Ne.symm iq)).trans q1, q2⟩
end
end VL

namespace VL
open PySem PySem.Spec L2
section
variable {X : Cx} {pins : List (Addr × Obj)} {σ : L2.St} {s : Shared} {A1 : Around} {n : Nat} {f fl : Addr} {fd fdl : FuncData} {psl : List Str} {C : Addr} {fld : Str} {spl : Sp} {g : G} {ef : List D → Res D}
/-- the length is told by an own __len__ -/
structure OwnLn (X : Cx) (n : Nat) (C : Addr) (fl : Addr) (fdl : FuncData) (psl : List Str) (spl : Sp) : Prop where
  run : FnOk X.prog X.w X.K X.mg X.base (L2.CX X.prog X.w) n fl fdl psl spl
  ln : PySem.W.findIn X.K (.ref C) "__len__" = some (some (.ref fl))
  lnF : PySem.W.isFn X.K (.ref fl) = true
  bd : Binds X.K fdl psl []
theorem own_hintT {a dx : Addr} {fs : List (Str × V)} {H : Hp} {E : XK} {A : Around} {Q : Bool → Shared → Prop} {E' : Value → Shared → Prop} (T : OwnLn X n C fl fdl psl spl) (hr : Room (n + 1) A) (fr : A.frames = X.A.frames) (hx : Passes (L2.CX X.prog X.w) X E0) (I : Inv X pins σ H s) (ha : H a = some (.ins C dx fs))
    (hsp : spl [.ref a] H (fun v H' => ∃ k : Int, v = .int k ∧ (0 ≤ k ∧ k ≤ 16777216) ∧ Same H H') E0) (h : ∀ b s' H', Inv X pins σ H' s' → Same H H' → Q b s') : wpAny (model X.prog X.w) A (Builtin.List.listLengthHint (.ref a)) Q E' s := by
  obtain ⟨mA, J, _⟩ := ins_get I.hok ha
  obtain ⟨od, J, _⟩ := J.look
  obtain ⟨m, hF⟩ := I.fr
  unfold Builtin.List.listLengthHint
  refine wpAny_bind (wpAny_bind (J.type.here ((PySem.W.looks_findIn I.kIn T.ln).here ?_)))
  refine PySem.W.KFB.if_not rfl ?_
  refine wpAny_ite_split (fun _ => ?_) (fun z => absurd rfl z)
  refine wpAny_bind (wpAny_rule ?_)
  refine wpAny_bind (wpAny_attempt ?_)
  refine PySem.W.len_K hF I.ok.mod.kin J T.ln T.lnF ?_
  refine wpAny_mono (run_fn1 (X := X.nox) (A := A.in1) (Q := fun v H' => ∃ k : Int, v = .int k ∧ (0 ≤ k ∧ k ≤ 16777216) ∧ Same H H') (vs := [.ref a]) (us := [.ref a]) T.run hr.in1 fr T.bd passL (I.wish _) (.cons rfl .nil) hsp) (fun u s' z => ?_) fun _ _ z => False.elim z
  obtain ⟨v, H', I', rv, k, ev, hk, sm⟩ := z
  subst ev
  obtain ⟨tk, rfl⟩ := (show ∃ t, u = Value.int k t from rv)
  refine ⟨⟨hk.1, by omega⟩, ?_⟩
  refine wpAny_bind (m := asInt? _) (wpAny_pure ?_)
  have nl : Builtin.List.listTooLong k.toNat = false := by
    unfold Builtin.List.listTooLong
    rw [sizeLine_eq]
    exact decide_eq_false (by omega)
  simp only [nl]
  exact wpAny_pure (h _ _ H' (I'.unwish.tok _) sm)
theorem own_extendT {a dx t q : Addr} {fs : List (Str × V)} {xs : List V} {H : Hp} {Rs : Result → Shared → Prop} (Ti : OwnIt X n C fld f fd) (Tl : OwnLn X n C fl fdl psl spl) (hr : Room (n + 1) A1.in1) (fr : A1.frames = X.A.frames) (I : Inv X pins σ H s) (ha : H a = some (.ins C dx fs)) (hf : fs.lookup fld = some (.ref t)) (ht : H t = some (.tup xs))
    (hq : H q = some (.lst [])) (hz : xs.length ≤ sizeLine) (hsp : ∀ H1, Same H H1 → spl [.ref a] H1 (fun v H' => ∃ k : Int, v = .int k ∧ (0 ≤ k ∧ k ≤ 16777216) ∧ Same H1 H') E0)
    (hd : ∀ H' s, Inv X pins σ H' s → H' q = some (.lst xs) → (∀ b o, b ≠ q → H b = some o → H' b = some o) → Rs (.ok (.ret .none)) s) (herr : ∀ e s, X.xe e s → Rs (.error e) s) :
    wpAny (model X.prog X.w) A1.in1 (Builtin.List.listExtendWith (.ref q) (.ref a) .none)
      (fun fin s' => match fin with | .done f => Rs (.ok f) s' | .again c' => c'.quiet = true ∧ codeAny (model X.prog X.w) A1 c' Rs s') (fun e s' => Rs (.error e) s') s := by
  have hne : q ≠ a := ne_of hq ha (fun z => nomatch z)
  obtain ⟨mA, J, _⟩ := ins_get I.hok ha
  obtain ⟨od, J, _⟩ := J.look
  unfold Builtin.List.listExtendWith
  refine wpAny_bind (J.type.here ?_)
  have h1 : Builtin.List.listSameRef (.ref q) (.ref a) = false := by simp [Builtin.List.listSameRef, hne]
  have h2 : (Value.ref C == Value.type "list") = false := rfl
  have h3 : (Value.ref C == Value.type "tuple") = false := rfl
  simp only [h1, h2, h3, Bool.or_false, Bool.false_eq_true, if_false]
  refine wpAny_bind (own_it Ti (hr.mono (Nat.le_succ _)) fr I ha hf (SqT.of ht) (fun e s' z => herr e s' z) fun it s1 ni ai I1 => ?_)
  have iq : it ≠ q := fun z => by rw [z, hq] at ni; cases ni
  have it_ : it ≠ a := fun z => by rw [z, ha] at ni; cases ni
  have sm1 : Same H (upd H it (TtO t it)) := same_upd ni
  refine wpAny_bind (wpAny_holding (own_hintT (E := E0) Tl hr fr passL I1 (sm1 _ _ ha) (hsp _ sm1) fun b s2 H2 I2 sm2 => ?_))
  have hit : H2 it = some (TtO t it) := sm2 _ _ upd_same
  have hq2 : H2 q = some (.lst []) := sm2 _ _ (sm1 _ _ hq)
  have ht2 : H2 t = some (.tup xs) := sm2 _ _ (sm1 _ _ ht)
  have st : s2.heap.IsTupleIter it t 0 := (I2.hok it _ hit).1
  have tq : t ≠ q := fun z => by rw [z, hq] at ht; cases ht
  have ti : t ≠ it := fun z => by rw [z, ni] at ht; cases ht
  have I3 := ItX.inv_drop I2 hit
  have f3 := ItX.inv_fp I2 hit ai
  have hq3 : ItX.dropH H2 it q = some (.lst []) := by rw [ItX.dropH_ne (Ne.symm iq)]; exact hq2
  have ht3 : ItX.dropH H2 it t = some (.tup xs) := by rw [ItX.dropH_ne ti]; exact ht2
  have fin : ∀ H' s, Inv X pins σ H' s → H' q = some (.lst xs) → (∀ b, b ≠ q → H' b = ItX.dropH H2 it b) → Rs (.ok (.ret .none)) s := fun H' s I' e1 e2 => hd H' s I' e1 fun b o nb e => by
    have bi : b ≠ it := fun z => by rw [z, ni] at e; cases e
    rw [e2 b nb, ItX.dropH_ne bi]
    exact sm2 _ _ (sm1 _ _ e)
  have loop := own_loopT (X := X) (A1 := A1) (Rs := Rs) (H3 := ItX.dropH H2 it) (pins := pins) (σ := σ) (it := it) (t := t) (q := q) (xs := xs) hr.hd (SqT.of ht3) tq hz f3 iq fin
  obtain ⟨z, its, k, r3, hl3, e3⟩ := I3.lstM hq3
  cases r3
  refine wpAny_ite_split (fun _ => ?_) (fun _ => wpAny_pure ⟨plainId_quiet PySem.F.plain_extend_loop _, loop _ 0 _ s2 rfl (Nat.zero_le _) I3 hq3 (fun _ _ => rfl) st⟩)
  refine wpAny_bind (wpAny_rule ?_)
  refine wpAny_bind ?_
  show wpAny _ _ (updateSeq q (·.push .none) >>= fun _ => updateSeq q (·.pop)) _ _ _
  refine wpAny_bind (wpAny_updateSeq e3 rfl ?_)
  have I4 := I3.lset (f := (·.push Value.none)) (its' := [Value.none]) (ys := [.non]) (t' := s2.toks) hq3 e3 (by simp) (.cons rfl .nil) (by rw [List.length_singleton, sizeLine_eq]; decide)
  obtain ⟨z4, its4, k4, r4, hl4, e4⟩ := I4.lstM upd_same
  obtain ⟨u4, rfl, ru4⟩ := r4.one
  refine wpAny_updateSeq e4 rfl ?_ (by show 1 ≤ sizeLine; rw [sizeLine_eq]; decide) (by show 0 ≤ sizeLine + 1; exact Nat.zero_le _)
  have I5 := I4.lset (f := (·.pop)) (its := [u4]) (its' := []) (ys := []) (t' := s2.toks) upd_same e4 (by rfl) .nil (Nat.zero_le _)
  rw [upd_upd] at I5
  have hH : upd (ItX.dropH H2 it) q (.lst []) = ItX.dropH H2 it := by
    funext b
    by_cases hb : b = q
    · rw [hb, upd_same, hq3]
    · rw [upd_ne hb]
  rw [hH] at I5
  refine wpAny_pure ⟨plainId_quiet PySem.F.plain_extend_loop _, loop _ 0 _ _ rfl (Nat.zero_le _) I5 hq3 (fun _ _ => rfl) ?_⟩
  obtain ⟨o, q1, q2⟩ := st
  exact ⟨o, (Heap.get?_update_other _ _ (Ne.symm iq)).trans ((Heap.get?_update_other _ _ (Ne.symm iq)).trans q1), q2⟩
def rOwnL (C : Addr) (fld : Str) (spl : Sp) : List V → Hp → VK → Prop := fun ws H Q => ∃ a dx fs t xs, ws = [.ref a] ∧ H a = some (.ins C dx fs) ∧ fs.lookup fld = some (.ref t) ∧ H t = some (.tup xs) ∧ xs.length ≤ sizeLine ∧
  (∀ H1, Same H H1 → spl [.ref a] H1 (fun v H' => ∃ k : Int, v = .int k ∧ (0 ≤ k ∧ k ≤ 16777216) ∧ Same H1 H') E0) ∧ ∀ q H', H q = none → H' q = some (.lst xs) → Same H H' → Q (.ref q) H'
theorem call_listOwnT (Ti : OwnIt X n C fld f fd) (Tl : OwnLn X n C fl fdl psl spl) (hr : Room (n + 3) X.A) : CallR X (.type "list") (rOwnL C fld spl) := by
  intro pins s σ H ws us Q I rv h
  obtain ⟨a, dx, fs, t, xs, rfl, ha, hf, ht, hz, hsp, hQ⟩ := h
  obtain ⟨u, rfl, ru⟩ := rv.one
  cases ru
  refine callType_codes (Q₁ := fun obj s₁ => obj = .ref s.heap.objs.size ∧ s₁ = { s with heap := s.heap.push { cls := .type "list", data := .seq #[] } }) PySem.F.called_list (PySem.F.typeCall_list_1 _) PySem.F.entry_list_init
    (code_list_new _ ⟨rfl, rfl⟩) fun obj s₁ h₁ => ?_
  obtain ⟨rfl, rfl⟩ := h₁
  have hS : (s.heap.push { cls := .type "list", data := .seq #[] }).get? s.heap.objs.size = some { cls := .type "list", data := .seq #[] } := Heap.get?_push_size _ rfl
  refine ⟨⟨_, hS, rfl⟩, PySem.F.args_list_init_2 _ _, ?_⟩
  have nq : H s.heap.objs.size = none := I.hok.fresh (Nat.le_refl _)
  have I1 : Inv X pins σ (upd H s.heap.objs.size (.lst [])) { s with heap := s.heap.push { cls := .type "list", data := .seq #[] } } := I.lnew (its := []) (t' := s.toks) .nil (Nat.zero_le _)
  have sm : Same H (upd H s.heap.objs.size (.lst [])) := same_upd nq
  show wpAny _ _ (do let old ← Builtin.List.listItems (.ref s.heap.objs.size); Builtin.List.listUpdate (.ref s.heap.objs.size) (fun _ => #[]); letGo old.toList.reverse; Builtin.List.listExtendWith (.ref s.heap.objs.size) (.ref a) .none) _ _ _
  refine wpAny_bind ?_
  unfold Builtin.List.listItems
  refine wpAny_bind (wpAny_seqItems hS rfl (wpAny_pure ?_))
  show wpAny _ _ (updateSeq s.heap.objs.size (fun _ => #[]) >>= fun _ => letGo (#[] : Array Value).toList.reverse >>= fun _ => Builtin.List.listExtendWith (.ref s.heap.objs.size) (.ref a) .none) _ _ _
  refine wpAny_bind (wpAny_updateSeq hS rfl ?_)
  have I2 := I1.lset (f := fun _ => #[]) (its := []) (its' := []) (ys := []) (t' := s.toks) upd_same hS rfl .nil (Nat.zero_le _)
  rw [upd_upd] at I2
  refine wpAny_bind (wpAny_letGo ?_)
  exact own_extendT (A1 := X.A.in1) (Rs := wants (fun r s₂ => r = .none ∧ EP X pins σ Q (.ref s.heap.objs.size) s₂) X.xe) Ti Tl (Room.in1 (Room.in1 hr)) rfl I2 (sm _ _ ha) hf (sm _ _ ht) upd_same hz (fun H1 s1 => hsp H1 (sm.trans s1))
    (fun H' s' I' e1 e2 => ⟨rfl, .ref s.heap.objs.size, H', I', rfl, hQ _ H' nq e1 fun b o e => e2 b o (ne_of_none e nq) (sm _ _ e)⟩) (fun e s' he => he)
end

/-! on data -/
section
variable {X : Cx} {g : G} {κ : List Kd} {n : Nat} {f fl : Addr} {fd fdl : FuncData} {psl : List Str} {c fld : Str} {ef : List D → Res D} {e tg : Expr} {fa : DE} {pos p1 : Pos}
def ownItems (c fld : Str) : D → Res (List D)
  | .ins c' ns ds => if c' = c then (match (ns.zip ds).lookup fld with
    | some (.tup xs) => .ok xs
    | _ => .bad) else .bad
  | _ => .bad
theorem own_tup {F : Hp} {w : Wd} {ns : List Str} {ds : List D} {c' : Str} {v : V} {xs : List D} (r : Rep w F (.ins c' ns ds) v) (e : (ns.zip ds).lookup fld = some (.tup xs)) :
    ∃ a dx fs t vs, v = .ref a ∧ F a = some (.ins (w.ct c') dx fs) ∧ fs.lookup fld = some (.ref t) ∧ F t = some (.tup vs) ∧ Reps w F xs vs := by
  obtain ⟨a, dx, vs, ev, h1, hl, h2⟩ := r
  obtain ⟨u, h3, h4⟩ := lookup_rep h2 hl e
  obtain ⟨t, ws, rfl, h5, h6⟩ := h4
  exact ⟨a, dx, _, t, ws, ev, h1, h3, h5, h6⟩
theorem vi_own (Ti : OwnIt X n (g.w.ct c) fld f fd) (hr : Room n X.A) (hK : X.K = g.w.K) (he : PE X e (lowE g κ .im fa)) : PI X tg e (lowI g κ .im fun δ => (fa δ).bind (ownItems c fld)) := by
  refine (pi_own Ti hr he).weak fun σ H R ⟨F, O, δ, N, p⟩ => ?_
  refine ⟨F, O, δ, N, lowI_seq (h := ownItems c fld) p fun d v F1 H1 x1 s1 r1 p' => ?_⟩
  unfold ownItems at p'
  cases d with
  | ins c' ns ds =>
    by_cases q : c' = c
    · subst q
      simp only [if_true] at p'
      cases e1 : (ns.zip ds).lookup fld with
      | none => rw [e1] at p'; exact p'.elim
      | some d =>
        rw [e1] at p'
        cases d with
        | tup xs =>
          obtain ⟨a, dx, fs, t, vs, ev, h1, h2, h3, h4⟩ := own_tup (show Rep g.w F1 (.ins c' ns ds) v from r1) e1
          exact ⟨a, dx, fs, t, vs, ev, s1 _ _ h1, h2, SqT.of (s1 _ _ h3), by rw [hK]; exact p' _ F1 H1 (Ext.refl _ _) s1 (itd_tup (fun H sf _ => SqT.of (sf _ _ h3)) h4)⟩
        | _ => exact p'.elim
    · simp only [q, if_false] at p'
  | _ => exact p'.elim
/-- list(o); ef: what its __len__ does -/
def ownList (c fld : Str) (ef : List D → Res D) (d : D) : Res D := (ownItems c fld d).bind fun xs => match ef [d] with
  | .ok (.int k) => if 0 ≤ k ∧ k ≤ 16777216 ∧ xs.length ≤ 16777216 then .ok (.lst xs) else .bad
  | _ => .bad
theorem ve_listOwn (Ti : OwnIt X n (g.w.ct c) fld f fd) (Tl : OwnLn X n (g.w.ct c) fl fdl psl (lift g.w [.bo] ef)) (hr : Room (n + 3) X.A) (hm : X.mg "list" = none) (he : PE X e (lowE g κ .im fa)) (hg : Gl X "list" := by rfl) (hst : starEach [e] X.env = (false, eval e X.env) :: starEach [] X.env := by rfl) :
    PE X (.Call (.Name "list" p1) [e] [] pos) (lowE g κ .fr (v1 (ownList c fld ef) fa)) := by
  refine ve_b1 (fun t h => pe_callTy (call_listOwnT Ti Tl hr) hg hm (by decide +kernel) h (he := hst)) hst (fun Hs F H x u Q s s0 r p => ?_) he
  unfold ownList ownItems at p
  cases x with
  | ins c' ns ds =>
    by_cases q : c' = c
    · subst q
      simp only [if_true] at p
      cases e1 : (ns.zip ds).lookup fld with
      | none => rw [e1] at p; exact p.elim
      | some d =>
        rw [e1] at p
        cases d with
        | tup xs =>
          obtain ⟨a, dx, fs, t, vs, ev, h1, h2, h3, h4⟩ := own_tup (show Rep g.w F (.ins c' ns ds) u from r) e1
          simp only [Res.ok_bind] at p
          cases e2 : ef [.ins c' ns ds] with
          | exc c ns ds => rw [e2] at p; exact p.elim
          | bad => rw [e2] at p; exact p.elim
          | ok dk =>
            rw [e2] at p
            cases dk with
            | int k =>
              have p : Post g .fr F H (if 0 ≤ k ∧ k ≤ 16777216 ∧ xs.length ≤ 16777216 then .ok (.lst xs) else .bad) Q := p
              by_cases hk : 0 ≤ k ∧ k ≤ 16777216 ∧ xs.length ≤ 16777216
              · rw [if_pos hk] at p
                subst ev
                refine ⟨a, dx, fs, t, vs, rfl, s _ _ h1, h2, s _ _ h3, by rw [← h4.len, sizeLine_eq]; exact hk.2.2, fun H1 s1 => ?_, fun q H' nq hq sm => ?_⟩
                · refine ⟨H1, [.ins c' ns ds], Same.refl _, ⟨_, _, _, _, rfl, rfl, (show Rep g.w H1 (.ins c' ns ds) (.ref a) from Rep.mono (s.trans s1) _ _ r), rfl, rfl⟩, ?_⟩
                  rw [e2]
                  exact fun v F' H' x' s' r' => ⟨k, r', ⟨hk.1, hk.2.1⟩, x'.h⟩
                · exact p _ F H' ⟨Same.refl _, sm, fun a o h1 h2 => by rw [h1] at h2; cases h2⟩ (s.trans sm) ⟨rfl, q, _, rfl, nq, s.free nq, hq, vs, rfl, h4⟩
              · rw [if_neg hk] at p; exact p.elim
            | _ => exact p.elim
        | _ => exact p.elim
    · simp only [q, if_false] at p; exact p.elim
  | _ => exact p.elim
end
end VL

namespace VL
open PySem PySem.Spec L2

/-! ### a slot that changes its kind -/
section
variable {g : G} {κ κ1 : List Kd} {F : Hp} {O : Addr → Option Nat} {H : Hp} {σ : L2.St} {δ : DSt}
/-- the slot's value is stored anew, held in another way -/
theorem Env.setK (N : Env g κ F O H σ δ) {i : Nat} {k : Kd} {d : D} {v : V} (hi : i < κ.length) (h : Sl g F O H i k d v) : Env g (κ.set i k) F O H (σ.set i (some v)) (δ.set i (some d)) := by
  have hs : i < σ.length := by rw [← N.lk]; exact hi
  refine ⟨N.e, N.s, N.o, by rw [List.length_set, List.length_set, N.l], by rw [List.length_set, List.length_set, N.lk], fun j k' d' h1 h2 => ?_⟩
  by_cases e : j = i
  · subst e
    rw [List.getElem?_set_self hi] at h1
    cases h1
    rw [List.getElem?_set_self (by rw [N.l]; exact hs)] at h2
    cases h2
    exact ⟨v, List.getElem?_set_self hs, h⟩
  · rw [List.getElem?_set_ne (Ne.symm e)] at h1 h2
    obtain ⟨v', e1, e2⟩ := N.sl j k' d' h1 h2
    exact ⟨v', by rw [List.getElem?_set_ne (Ne.symm e)]; exact e1, e2⟩
end
/-- freeze (true) or forget (false) slots, one after the other -/
def cvK (κ : List Kd) : List (Nat × Bool) → List Kd
  | [] => κ
  | (i, true) :: r => cvK (κ.set i .im) r
  | (i, false) :: r => cvK (κ.set i .xx) r
def cvOk (κ : List Kd) : List (Nat × Bool) → Bool
  | [] => true
  | (i, true) :: r => (match κ[i]? with | some .ow => true | _ => false) && cvOk (κ.set i .im) r
  | (i, false) :: r => cvOk (κ.set i .xx) r
theorem Env.cv {g : G} {H : Hp} {σ : L2.St} {δ : DSt} : ∀ (ops : List (Nat × Bool)) {κ : List Kd} {F : Hp} {O : Addr → Option Nat}, cvOk κ ops = true → Env g κ F O H σ δ → ∃ F' O', Same F F' ∧ Env g (cvK κ ops) F' O' H σ δ
  | [], κ, F, O, _, N => ⟨F, O, Same.refl _, N⟩
  | (i, true) :: r, κ, F, O, h, N => by
    rw [cvOk, Bool.and_eq_true] at h
    have hk : κ[i]? = some .ow := by
      have h1 := h.1
      split at h1
      · assumption
      · cases h1
    obtain ⟨F1, O1, s1, N1⟩ := N.freeze hk
    obtain ⟨F2, O2, s2, N2⟩ := Env.cv r h.2 N1
    exact ⟨F2, O2, s1.trans s2, N2⟩
  | (i, false) :: r, κ, F, O, h, N => Env.cv r h (N.kill i)
section
variable {X : Cx} {g : G} {κ κ1 κ2 kb kc : List Kd} {e c : Expr} {f : DE} {k : Rk} {pos : Pos} {st : Stmt} {sts : List Stmt}
theorem vs_cv (ops : List (Nat × Bool)) {K2 : Ks} {a : DS} (h : PSs X sts (lowS g κ1 K2 a)) (hk : cvOk κ ops = true := by rfl) (he : cvK κ ops = κ1 := by rfl) : PSs X sts (lowS g κ K2 a) := by
  refine h.weak fun D σ H ⟨F, O, δ, N, p⟩ => ?_
  obtain ⟨F', O', s, N'⟩ := Env.cv ops hk N
  rw [he] at N'
  exact ⟨F', O', δ, N', p.mono s⟩
theorem vs_cvN (ops : List (Nat × Bool)) {a : DS} (h : PSs X sts (lowS g κ2 ⟨κ, kb, kc⟩ a)) (hk : cvOk κ ops = true := by rfl) (he : cvK κ ops = κ1 := by rfl) : PSs X sts (lowS g κ2 ⟨κ1, kb, kc⟩ a) := by
  refine h.weak fun D σ H ⟨F, O, δ, N, p⟩ => ⟨F, O, δ, N, ?_⟩
  cases q : a δ with
  | ok o =>
    rw [q] at p
    cases o with
    | nx δ' =>
      intro F' O' H' σ' s N
      obtain ⟨F2, O2, s2, N'⟩ := Env.cv ops hk N
      rw [he] at N'
      exact p F2 O2 H' σ' (s.trans s2) N'
    | rt d => exact p
    | bk δ' => exact p
    | ct δ' => exact p
  | exc c ns ds => rw [q] at p; exact p
  | bad => rw [q] at p; exact p
/-- x = e, a new cell that becomes the slot's own -/
theorem vs_setOwK (i : Nat) {x : Str} {pos' : Pos} (he : PE X e (lowE g κ .fr f)) (ox : Okx X g) (hk : κ.set i .ow = κ1 := by rfl) (hl : i < κ.length := by exact Nat.le_of_ble_eq_true rfl) (hi : X.N[i]? = some x := by rfl)
    (hx : Loc X.env.scope x := by first | exact Or.inl rfl | exact Or.inr rfl) (hs : swapsWith e (some (.Name x pos')) pos.line X.env = pure false := by rfl)
    (hfn : X.fn x = true ∨ X.env.scope.names.lookup x = some .local := by first | exact .inl rfl | exact .inr rfl) : PS X (.Assign [.Name x pos'] e pos) (lowS g κ ⟨κ1, kb, kc⟩ (sSet i f)) := by
  refine (ps_set ox.nd hi hx he hs hfn).weak fun D σ H ⟨F, O, δ, N, p⟩ => ?_
  refine ⟨F, O, δ, N, PostS.seq p fun d v F1 H1 x1 s1 r1 p1 => ?_⟩
  obtain ⟨m, a, o, e, h1, h2, h3, h4⟩ := r1
  have N1 := N.ext x1 s1
  have h0 : g.H0 a = none := N.e.h.free h1
  have N2 := N1.own (i := i) h0 h2 h3 fun j hj => by
    obtain ⟨_, _, u, hu⟩ := N.o a j hj
    rw [h1] at hu
    cases hu
  have N3 := N2.setK (k := .ow) (d := d) (v := v) hl ⟨m, a, o, e, by simp, h3, h4⟩
  rw [hk] at N3
  exact p1 F1 _ H1 _ (Same.refl _) N3
/-- x = e, in general: how the value is held decides the slot's kind -/
theorem vs_setK (i : Nat) (kd : Kd) {x : Str} {pos' : Pos} (he : PE X e (lowE g κ k f)) (ox : Okx X g) (hf : fits k kd = true := by rfl) (hk : κ.set i kd = κ1 := by rfl) (hl : i < κ.length := by exact Nat.le_of_ble_eq_true rfl) (hi : X.N[i]? = some x := by rfl)
    (hx : Loc X.env.scope x := by first | exact Or.inl rfl | exact Or.inr rfl) (hs : swapsWith e (some (.Name x pos')) pos.line X.env = pure false := by rfl)
    (hfn : X.fn x = true ∨ X.env.scope.names.lookup x = some .local := by first | exact .inl rfl | exact .inr rfl) : PS X (.Assign [.Name x pos'] e pos) (lowS g κ ⟨κ1, kb, kc⟩ (sSet i f)) := by
  refine (ps_set ox.nd hi hx he hs hfn).weak fun D σ H ⟨F, O, δ, N, p⟩ => ?_
  refine ⟨F, O, δ, N, PostS.seq p fun d v F1 H1 x1 s1 r1 p1 => ?_⟩
  have N3 := (N.ext x1 s1).setK (k := kd) hl (r1.sl (O := O) (i := i) hf)
  rw [hk] at N3
  exact p1 F1 O H1 _ (Same.refl _) N3
variable {elt tg iter : Expr} {ifs : List Expr} {scope : Scope} {ownS : List (Str × Nat)} {own : List Nat} {ki : Rk} {t : DG} {tt : DT} {fe : DE} {g0 : TG}
theorem vs_setLcOwK {f : DIt} (i : Nat) {y : Str} {py spos : Pos} (ox : Okx X g) (hi : PI X tg iter (lowI g κ ki f)) (ok : BlkOk X.N X.env.scope scope ownS) (hg : LcG g.w.K (ownS.map (·.2)) ki κ t g0)
    (hgt : ∀ (s : Shared) (H : Hp) (C : Addr) (cl : List (Str × Addr)) (fp : List Addr), PG (X.blk s H scope (compEnvC scope cl C X.env) fp) tg g0) (ht : ∀ (s : Shared) (H : Hp) (C : Addr) (cl : List (Str × Addr)) (fp : List Addr), PTs (X.blk s H scope (compEnvC scope cl C X.env) fp) ifs (lowT g.e0 κ tt))
    (he : ∀ (s : Shared) (H : Hp) (C : Addr) (cl : List (Str × Addr)) (fp : List Addr), PE (X.blk s H scope (compEnvC scope cl C X.env) fp) elt (lowE g.e0 κ .im fe)) (hkd : κ.set i .ow = κ1 := by rfl) (hl : i < κ.length := by exact Nat.le_of_ble_eq_true rfl) (hk : itk ki = true := by rfl) (hy : X.N[i]? = some y := by rfl) (hyl : X.env.scope.names.lookup y = some .local := by rfl)
    (hsw : swapsWith (.ListComp elt [⟨tg, iter, ifs, 0⟩] scope pos) (some (.Name y py)) spos.line X.env = pure true := by exact sw_true rfl rfl rfl (by decide +kernel)) (hs : ∀ x, foldedSetIterable iter X.env x = pure x := by intro _; rfl) :
    PS X (.Assign [.Name y py] (.ListComp elt [⟨tg, iter, ifs, 0⟩] scope pos) spos) (lowS g κ ⟨κ1, kb, kc⟩ (sSet i (vLcI f t tt fe (ownS.map (·.2))))) := by
  refine (ps_setLc ox.calm ox.nd hy hyl hsw hi ok hgt ht he hs).weak fun De σ H ⟨F, O, δ, N, p⟩ => ?_
  refine low_lcI hk hg ⟨F, O, δ, N, PostS.seq p fun d v F1 H1 x1 s1 r1 p1 => ?_⟩
  obtain ⟨m, a, o, e, h1, h2, h3, h4⟩ := r1
  have N1 := N.ext x1 s1
  have h0 : g.H0 a = none := N.e.h.free h1
  have hO : ∀ j, O a = some j → False := fun j hj => by
    obtain ⟨_, _, u, hu⟩ := N.o a j hj
    rw [h1] at hu
    cases hu
  have N2 := N1.own (i := i) h0 h2 h3 hO
  have N3 := N2.setK (k := .ow) (d := d) (v := v) hl ⟨m, a, o, e, by simp, h3, h4⟩
  rw [hkd] at N3
  exact p1 F1 _ H1 _ (Same.refl _) N3

/-! ### tests of a comprehension -/
theorem _root_.L2.PTs.weak {X : Cx} {e : List Expr} {t t' : TT} (h : PTs X e t) (i : ∀ σ H Q, t' σ H Q → t σ H Q) : PTs X e t' := ⟨fun pins s σ H Q I q => h.run pins s σ H Q I (i _ _ _ q)⟩
theorem vts_nil : PTs X [] (lowT g κ tYesD) := pts_nil.weak fun σ H Q ⟨F, O, δ, N, p⟩ => p F H (Ext.refl _ _) N.s
theorem vts_one {t : DT} (h : PT X c (lowT g κ t)) : PTs X [c] (lowT g κ t) := pts_one h
/-- nothing follows -/
theorem PostS.endK {K2 : Ks} {kn : List Kd} {F : Hp} {r : Res Out} {D : Ends} (h : ∀ δ, r ≠ .ok (.nx δ)) (p : PostS g ⟨kn, kb, kc⟩ F r D) : PostS g ⟨κ, kb, kc⟩ F r D := by
  cases r with
  | ok o =>
    cases o with
    | nx δ => exact absurd rfl (h δ)
    | rt d => exact p
    | bk δ => exact p
    | ct δ => exact p
  | exc c ns ds => exact p
  | bad => exact p
end
end VL

namespace VL
open PySem PySem.Spec L2

/-! ### an expression whose exceptions are wished for at the slots -/
def PostR (g : G) (W : WX) (σ : L2.St) (F H : Hp) (r : Res D) (Q : VK) : Prop :=
  match r with
  | .ok d => ∀ v F' H', Ext F H F' H' → Same F' H' → Rep g.w F' d v → Q v H'
  | .exc c ns ds => ∀ F' H' dopt, Ext F H F' H' → Same F' H' → XR g.w H F' H' dopt ns ds → W (.ref (g.w.ct c)) dopt σ H'
  | .bad => False
def lowR (g : G) (κ : List Kd) (W : WX) (f : DE) : TE := fun σ H Q => ∃ F O δ, Env g κ F O H σ δ ∧ PostR g W σ F H (f δ) Q
theorem lowR.mono {g : G} {κ : List Kd} {W : WX} {f : DE} {σ : L2.St} {H : Hp} {Q Q' : VK} (h : lowR g κ W f σ H Q) (i : ∀ v H, Q v H → Q' v H) : lowR g κ W f σ H Q' := by
  obtain ⟨F, O, δ, N, p⟩ := h
  refine ⟨F, O, δ, N, ?_⟩
  cases q : f δ with
  | ok d => rw [q] at p; exact fun v F' H' x s r => i _ _ (p v F' H' x s r)
  | exc c ns ds => rw [q] at p; exact p
  | bad => rw [q] at p; exact p
theorem PostR.call {g : G} {W : WX} {σ : L2.St} {F H F1 H1 : Hp} {r : Res D} {Q : VK} (x : Ext F H F1 H1) (h : PostR g W σ F H r Q) : Post ⟨g.w, F1, H1, WE W σ⟩ .im F1 H1 r Q := by
  cases r with
  | ok d => exact fun v F' H' y s q => h v F' H' (x.trans y) s q
  | exc c ns ds => exact fun F' H' dopt y s q => h F' H' dopt (x.trans y) s (q.down x.h)
  | bad => exact h
section
variable {X : Cx} {g : G} {κ kb kc : List Kd} {a b e : Expr} {fa fb : DE} {ka kb2 : Rk} {pos p : Pos} {n : Nat} {f : Addr} {fd : FuncData} {ps : List Str} {ef : List D → Res D} {c : Str} {W : WX}
/-- a op b by an own method; the operands raise nothing -/
theorem pe_ownBR {op : Operator} {k1 k2 : Kd} (tk : Takes X W) (Fk : FnOk X.prog X.w X.K X.mg X.base (L2.CX X.prog X.w) n f fd ps (lift g.w [k1, k2] ef)) (hr : Room n X.A) (hb : Binds X.K fd ps []) (hc : PySem.W.selfFirst X.K (g.w.ct c) = true)
    (hs : PySem.W.findIn X.K (.ref (g.w.ct c)) (PySem.dunder op.info.2) = some (some (.ref f))) (hf : PySem.W.isFn X.K (.ref f) = true) (ha : PE X a (lowE g.e0 κ k1.arg fa)) (hb' : PE X b (lowE g.e0 κ k2.arg fb)) :
    PE X (.BinOp a op b pos) (lowR g κ W (fun δ => match fa δ, fb δ with
      | .ok x, .ok y => ownBin c ef x y
      | _, _ => .bad)) := by
  refine ⟨fun pins s σ H Q I h => ?_⟩
  obtain ⟨F, O, δ, N, q⟩ := h
  replace q : PostR g W σ F H (match fa δ, fb δ with
      | .ok x, .ok y => ownBin c ef x y
      | _, _ => .bad) Q := q
  cases e1 : fa δ with
  | exc c ns ds => rw [e1] at q; exact q.elim
  | bad => rw [e1] at q; exact q.elim
  | ok x =>
    rw [e1] at q
    cases e2 : fb δ with
    | exc c ns ds => rw [e2] at q; exact q.elim
    | bad => rw [e2] at q; exact q.elim
    | ok y =>
      rw [e2] at q
      replace q : PostR g W σ F H (ownBin c ef x y) Q := q
      refine wpAny_BinOp (binT ha hb' (R := fun u v H2 => ∃ F2, Ext F H F2 H2 ∧ Same F2 H2 ∧ ROs g H F2 H2 [k1.arg, k2.arg] [x, y] [u, v]) I ⟨F, O, δ, N.e0, ?_⟩ fun v u s2 xv yv H2 I2 rx ry ⟨F2, x2, sm2, ros⟩ => ?_)
      · rw [e1]
        intro u F1 H1 x1 s1 r1
        refine ⟨F1, O, δ, (N.ext x1 s1).e0, ?_⟩
        rw [e2]
        intro v F2 H2 x2 s2 r2
        exact ⟨F2, x1.trans x2, s2, _, _, _, _, rfl, rfl, RO.hs (g := g) ((show RO g H F1 H1 k1.arg x u from RO.hs (g := g) r1).ext x2), _, _, _, _, rfl, rfl, RO.hs (g := g) r2, rfl, rfl⟩
      · unfold ownBin at q
        cases x with
        | ins c1 ns ds =>
          cases y with
          | ins c2 ms es =>
            replace q : PostR g W σ F H (if c1 = c ∧ c2 = c then ef [.ins c1 ns ds, .ins c2 ms es] else .bad) Q := q
            by_cases cc : c1 = c ∧ c2 = c
            · rw [if_pos cc] at q
              obtain ⟨q1, q2⟩ := cc
              subst q1 q2
              have N2 := N.ext x2 sm2
              obtain ⟨d, ds', w, vs', z1, z2, rr1, d2, ds2, w2, vs2, z3, z4, rr2, z5, z6⟩ := id ros
              cases z1
              cases z2
              cases z3
              cases z4
              obtain ⟨ad, dx, vs, ea, h3, _⟩ := (show Rep g.w H2 (.ins c2 ns ds) xv from rr1.rep sm2 N2.e.h)
              obtain ⟨ad', dx', vs', eb, h3', _⟩ := (show Rep g.w H2 (.ins c2 ms es) yv from rr2.rep sm2 N2.e.h)
              subst ea eb
              cases (show v = Value.ref ad from rx)
              cases (show u = Value.ref ad' from ry)
              obtain ⟨mA, J, _⟩ := ins_get I2.hok h3
              obtain ⟨od, J, _⟩ := J.look
              obtain ⟨mB, J', _⟩ := ins_get I2.hok h3'
              obtain ⟨od', J', _⟩ := J'.look
              obtain ⟨m, hF⟩ := I2.fr
              refine PySem.W.binop_K hF I2.ok.mod.kin J J'.type hc hs hf ?_
              have z := run_fnS (E := WE W) (Q := fun v H' => Q v H' ∧ NI v) (vs := [.ref ad, .ref ad']) (us := [.ref ad, .ref ad']) Fk hr hb (passAt tk σ) I2 (.cons rx (.cons ry .nil)) ⟨F2, _, sm2, ROs.args (by rfl) ros, (q.call x2).ni⟩
              refine wpAny_mono z (fun r s' z => ?_) fun _ _ z => z
              obtain ⟨v', H', I', rv, q1, q2⟩ := z
              exact back_of (q2 _ rv) ⟨v', H', I', rv, q1⟩
            · rw [if_neg cc] at q; exact q.elim
          | _ => exact q.elim
        | _ => cases y <;> exact q.elim
end

/-! ### try, where the body surely raises -/
section
variable {X : Cx} {g : G} {κ kb kc : List Kd} {pos : Pos} {fx : DE} {h : DS} {cn : Str} {sub : Str → Str → Option Bool}
def sTrySure (i : Nat) (sub : Str → Str → Option Bool) (fx : DE) (cn : Str) (h : DS) : DS := fun δ => match fx δ with
  | .exc c ns ds => match sub c cn with
    | some true => match h (δ.set i (some (.exc c ns ds))) with
      | .ok (.nx δ') => .ok (.nx (δ'.set i none))
      | .ok (.rt d) => .ok (.rt d)
      | _ => .bad
    | _ => .bad
  | _ => .bad
theorem Env.unset {F : Hp} {O : Addr → Option Nat} {H : Hp} {σ : L2.St} {δ : DSt} (N : Env g κ F O H σ δ) (i : Nat) : Env g κ F O H (σ.set i none) (δ.set i none) := by
  refine ⟨N.e, N.s, N.o, by rw [List.length_set, List.length_set, N.l], by rw [List.length_set, N.lk], fun j k d h1 h2 => ?_⟩
  by_cases e : j = i
  · subst e
    by_cases hj : j < δ.length
    · rw [List.getElem?_set_self hj] at h2; cases h2
    · rw [List.getElem?_eq_none (by simpa using hj)] at h2; cases h2
  · rw [List.getElem?_set_ne (Ne.symm e)] at h2
    obtain ⟨v, e1, e2⟩ := N.sl j k d h1 h2
    exact ⟨v, by rw [List.getElem?_set_ne (Ne.symm e)]; exact e1, e2⟩
theorem vs_trySure (i : Nat) {x nm : Str} {b : List Stmt} {b0 : Stmt} {su : List Stmt} {np pos' : Pos} (ox : Okx X g) (tk : Takes X (fun cls d _ H => g.E cls d H)) (hsub : ∀ c c' b, sub c c' = some b → PySem.W.exmOne X.K (.ref (g.w.ct c)) (.ref (g.w.ct c')) = some b)
    (hb : ∀ (W : WX) (pn : List (Addr × Obj)) (xe : Value → Shared → Prop), Takes (X.tr pn xe) W → PSs (X.tr pn xe) b (fun _ σ H => lowR g κ W fx σ H fun _ _ => False)) (hm : X.mg x = some (.ref (g.w.ct cn)))
    (hsu : ∀ (a : Addr) (pn : List (Addr × Obj)), PSs (X.suite a pn) (b0 :: su) (lowS g.e0 κ ⟨κ, [], []⟩ h)) (hk : κ[i]? = some .im := by rfl) (hn : X.N[i]? = some nm ∧ X.env.kindOf nm = some .local := by exact ⟨rfl, rfl⟩) (hg : Gl X x := by rfl) (hd : (x == ("__debug__" : Str)) = false := by decide)
    (hs : X.stack = X.env :: X.outer := by rfl) (hf : X.env.frame = some X.env.locals := by rfl) (hex : X.ex = [] := by rfl) :
    PS X (.Try b [.ExceptHandler (some (.Name x np)) (some nm) (b0 :: su) pos'] [] [] pos) (lowS g κ ⟨κ, kb, kc⟩ (sTrySure i sub fx cn h)) := by
  refine (ps_tryG (tb := fun W _ σ H => lowR g κ W fx σ H fun _ _ => False) (l := [⟨.ref (g.w.ct cn), some i, fun _ _ _ => lowS g.e0 κ ⟨κ, [], []⟩ h⟩]) hs hf hex ox.nd tk (fun W pn xe tkW _ => hb W pn xe tkW) (HdG.cons (k := ⟨.ref (g.w.ct cn), some i, fun _ _ _ => lowS g.e0 κ ⟨κ, [], []⟩ h⟩) ⟨hg, hd, .inl hm⟩ (show NameAt X (some i) (some nm) from hn) (fun a _ _ pn => hsu a pn) .nil)).weak fun De σ H ⟨F, O, δ, N, p⟩ => ?_
  refine ⟨F, O, δ, N, ?_⟩
  unfold sTrySure at p
  cases q : fx δ with
  | bad => rw [q] at p; exact p
  | ok d => rw [q] at p; exact p.elim
  | exc c ns ds =>
    rw [q] at p
    intro F' H' dopt x1 s1 xr
    cases e : sub c cn with
    | none => simp only [e] at p; exact p.elim
    | some b =>
      cases b with
      | false => simp only [e] at p; exact p.elim
      | true =>
        simp only [e] at p
        refine ⟨true, hsub _ _ _ e, fun _ a na => ?_, fun z => by cases z⟩
        obtain ⟨F2, x2, s2, r2⟩ := exc_rep (g := ⟨g.w, F, H, g.E⟩) (c := c) x1 s1 xr na
        have N2 := (N.ext x2 s2).set hk (show Sl g F2 O _ i .im (.exc c ns ds) (.ref a) from r2)
        refine ⟨F2, O, _, N2.e0, ?_⟩
        cases e2 : h (δ.set i (some (.exc c ns ds))) with
        | exc c' ns' ds' => rw [e2] at p; exact p.elim
        | bad => rw [e2] at p; exact p.elim
        | ok o =>
          rw [e2] at p
          cases o with
          | nx δ' => exact fun F6 O6 H6 σ6 s6 N6 => p F6 O6 H6 _ (x2.f.trans s6) (N6.e1.unset i)
          | rt d => exact p
          | bk δ' => exact p.elim
          | ct δ' => exact p.elim
/-- the test of the comparison never comes -/
theorem pss_never {sts : List Stmt} : PSs X sts tNever := ⟨fun _ _ _ _ _ _ h => h.elim⟩
theorem pss_sure {a b2 : Expr} {op : CmpOp} {W : WX} {fb : DE} {kb2 : Rk} {f : D → D → Res D} {kx : Rk} {th : List Stmt} {p1 p2 : Pos} {g2 : G} (ha : PE X a (lowR g κ W fx)) (c : CmpR X g2 op kx kb2 f) (hb : PE X b2 (lowE g2 κ kb2 fb)) (hm : behindInMarks op b2 = false := by first | exact nomark _ | rfl) :
    PSs X [.If (.Compare a [op] [b2] p1) th [] p2] (fun _ σ H => lowR g κ W fx σ H fun _ _ => False) :=
  (pss_one (ps_if (pt_cmpR c.or ha hb hm) (pss_never (X := X)) pss_nil)).weak fun De σ H q => q.mono fun _ _ z => z.elim
/-- x = e in a suite -/
theorem vs_setN (i : Nat) {x : Str} {pos' : Pos} {e : Expr} {k : Rk} {f : DE} {kd : Kd} (he : PE X e (lowE g κ k f)) (nd : X.N.Nodup) (hk : κ[i]? = some kd := by rfl) (hf : fits k kd = true := by rfl) (hi : X.N[i]? = some x := by rfl)
    (hx : Loc X.env.scope x := by first | exact Or.inl rfl | exact Or.inr rfl) (hs : swapsWith e (some (.Name x pos')) pos.line X.env = pure false := by rfl)
    (hfn : X.fn x = true ∨ X.env.scope.names.lookup x = some .local := by first | exact .inl rfl | exact .inr rfl) : PS X (.Assign [.Name x pos'] e pos) (lowS g κ ⟨κ, kb, kc⟩ (sSet i f)) := by
  refine (ps_set nd hi hx he hs hfn).weak fun D σ H ⟨F, O, δ, N, p⟩ => ?_
  refine ⟨F, O, δ, N, PostS.seq p fun d v F1 H1 x1 s1 r1 p1 => ?_⟩
  exact p1 F1 O H1 _ (Same.refl _) ((N.ext x1 s1).set hk (r1.sl hf))
end

/-! ### what the text says, in words for the head -/
/-- a def of the top -/
structure FnT (wd : Wd) (mg : Str → Option Value) (nm qual : Str) (st : Stmt) (f : Addr) (fd : FuncData) (ps : List Str) : Prop where
  F : Fun wd.K nm qual st f fd
  B : Binds wd.K fd ps []
  g : mg nm = some (.ref f)
  k : PySem.W.keepIn wd.K (.ref f) = true
/-- a method of the class c -/
structure MtT (wd : Wd) (c nm qual : Str) (st : Stmt) (f : Addr) (fd : FuncData) (ps : List Str) : Prop where
  F : Fun wd.K nm qual st f fd
  B : Binds wd.K fd ps []
  at_ : PySem.W.findIn wd.K (.ref (wd.ct c)) nm = some (some (.ref f))
  fn : PySem.W.isFn wd.K (.ref f) = true
  k : PySem.W.keepIn wd.K (.ref f) = true
theorem MtT.fnT {wd : Wd} {c nm qual : Str} {st : Stmt} {f : Addr} {fd : FuncData} {ps : List Str} (T : MtT wd c nm qual st f fd ps) : PySem.W.typeIn wd.K (.ref f) = some (.type "function") := beq_iff_eq.mp T.fn
theorem MtT.meth {wd : Wd} {c nm qual : Str} {st : Stmt} {f : Addr} {fd : FuncData} {ps : List Str} (T : MtT wd c nm qual st f fd ps) : Meth wd.K (wd.ct c) nm f := ⟨T.at_, T.fn, T.k⟩
/-- a function object that stands in the written part -/
def FnE (K : PySem.W.Frag) (nm qual : Str) (st : Stmt) (f : Addr) : Prop := ∃ (oc : Value) (od an : Option Addr) (osl : Array (Option Value)) (kV doc pm cdv ct : Value),
  K.lookup f = some ⟨oc, od, .func (PySem.W.fnOf nm qual (defArgs st) (defBody st) (defScope st) .none kV doc pm an cdv ct), osl⟩ ∧ PySem.W.codeIn K cdv qual = true ∧ PySem.W.keepIn K (.ref f) = true
theorem FnE.get {K : PySem.W.Frag} {nm qual : Str} {st : Stmt} {f : Addr} {ps : List Str} (h : FnE K nm qual st f) (hb : ∀ {fd : FuncData}, Fun K nm qual st f fd → Binds K fd ps []) : ∃ fd, Fun K nm qual st f fd ∧ Binds K fd ps [] ∧ PySem.W.keepIn K (.ref f) = true := by
  obtain ⟨oc, od, an, osl, kV, doc, pm, cdv, ct, l, c, k⟩ := h
  exact ⟨_, fun_mk l c k, hb (fun_mk l c k), k⟩
theorem FnE.getL {K : PySem.W.Frag} {nm qual x : Str} {st : Stmt} {f : Addr} {ps : List Str} (h : FnE K nm qual st f) (hb : ∀ {fd : FuncData}, Fun K nm qual st f fd → Binds K fd ps [])
    (hl : ∀ (an : Option Addr) (kV doc pm cdv ct : Value) (s : Shared) (v : Value), BindsTo s (PySem.W.fnOf nm qual (defArgs st) (defBody st) (defScope st) .none kV doc pm an cdv ct) ⟨[v], []⟩ [(x, v)]) :
    ∃ fd, Fun K nm qual st f fd ∧ Binds K fd ps [] ∧ PySem.W.keepIn K (.ref f) = true ∧ ∀ (s : Shared) (v : Value), BindsTo s fd ⟨[v], []⟩ [(x, v)] := by
  obtain ⟨oc, od, an, osl, kV, doc, pm, cdv, ct, l, c, k⟩ := h
  exact ⟨_, fun_mk l c k, hb (fun_mk l c k), k, fun s v => hl an kV doc pm cdv ct s v⟩
/-- the seven types of plain values -/
def tys : List String := ["NoneType", "bool", "int", "str", "list", "tuple", "dict"]
theorem tyN_mem {d : D} {n : String} (h : tyN d = some n) : n ∈ tys := by
  cases d <;> cases h <;> decide
/-- no value of these types is an instance of the class at C; such values may stand behind it -/
def tysNo (K : PySem.W.Frag) (C : Addr) : Bool := tys.all fun n => PySem.W.kitOne K (.type n) (.ref C) == some false && PySem.W.notFirst K C (.type n)
theorem tysNo_kit {K : PySem.W.Frag} {C : Addr} (h : tysNo K C = true) {d : D} {n : String} (e : tyN d = some n) : PySem.W.kitOne K (.type n) (.ref C) = some false ∧ PySem.W.notFirst K C (.type n) = true := by
  have q := List.all_eq_true.mp h n (tyN_mem e)
  rw [Bool.and_eq_true] at q
  exact ⟨beq_iff_eq.mp q.1, q.2⟩
theorem tysNo_mk {K : PySem.W.Frag} {C : Addr} (k1 : PySem.W.kitOne K (.type "NoneType") (.ref C) = some false) (k2 : PySem.W.kitOne K (.type "bool") (.ref C) = some false) (k3 : PySem.W.kitOne K (.type "int") (.ref C) = some false) (k4 : PySem.W.kitOne K (.type "str") (.ref C) = some false)
    (k5 : PySem.W.kitOne K (.type "list") (.ref C) = some false) (k6 : PySem.W.kitOne K (.type "tuple") (.ref C) = some false) (k7 : PySem.W.kitOne K (.type "dict") (.ref C) = some false)
    (n1 : PySem.W.notFirst K C (.type "NoneType") = true) (n2 : PySem.W.notFirst K C (.type "bool") = true) (n3 : PySem.W.notFirst K C (.type "int") = true) (n4 : PySem.W.notFirst K C (.type "str") = true) (n5 : PySem.W.notFirst K C (.type "list") = true) (n6 : PySem.W.notFirst K C (.type "tuple") = true) (n7 : PySem.W.notFirst K C (.type "dict") = true) : tysNo K C = true := by
  simp only [tysNo, tys, List.all_cons, List.all_nil, k1, k2, k3, k4, k5, k6, k7, n1, n2, n3, n4, n5, n6, n7, beq_self_eq_true, Bool.and_self]
theorem kit_self {K : PySem.W.Frag} {C : Addr} : PySem.W.kitOne K (.ref C) (.ref C) = some true := by
  unfold PySem.W.kitOne
  rw [if_pos (beq_self_eq_true _)]
/-- what an own class says -/
structure ClsB (K : PySem.W.Frag) (C : Addr) : Prop where
  pg : PySem.W.plainGet K C Str.empty = true
  hd : PySem.W.hasDictIn K C = true
  po : PySem.W.plainOver K C = true
  sa : PySem.W.findIn K (.ref C) "__setattr__" = some (some (.builtin "object.__setattr__"))
  ha : PySem.W.findIn K (.ref C) "__class__" = some (some (.builtin "object.__class__"))
  hn : PySem.W.specialIn K (.builtin "object.__class__") "__get__" = some (some (.builtin "getset_descriptor.__get__"))
  htk : PySem.W.takesIn K (.builtin "object.__class__") = some true
  hm : PySem.W.mroIn K C (.type "object") = some true
  no : tysNo K C = true
  sf : PySem.W.selfFirst K C = true
theorem ClsB.cls {K : PySem.W.Frag} {C : Addr} (T : ClsB K C) : Cls K C := ⟨T.pg, T.hd, T.po, T.sa⟩
theorem ClsB.clsI {w : Wd} {c : Str} (T : ClsB w.K (w.ct c)) : ClsI w c := ⟨T.cls, T.ha, T.hn, T.htk, T.hm⟩
theorem tsN_bad : ∀ (is : List Nat) (ds : List D) (δ : DSt), ds.length ≠ is.length → tsN is ds δ = .bad
  | [], [], _, h => absurd rfl h
  | [], _ :: _, _, _ => rfl
  | _ :: _, [], _, _ => rfl
  | i :: is, d :: ds, δ, h => tsN_bad is ds (δ.set i (some d)) (by simpa using h)
/-- a class that is raised with a text -/
structure RtC (K : PySem.W.Frag) (C : Addr) : Prop where
  q : PySem.W.excIn K C [.type "ValueError", .type "Exception", .type "BaseException", .type "object"] "ValueError.__new__" = true
  k : PySem.W.keepIn K (.ref C) = true
  h1 : PySem.W.subIn K (.ref C) (.type "BaseException") = some true
  h2 : PySem.W.typeIn K (.ref C) = some (.type "type")
end VL
namespace VL
open PySem PySem.Spec L2
/-- a table of what is a subclass of what -/
def subL (tab : List (Str × Str × Bool)) (c d : Str) : Option Bool := (tab.find? fun p => p.1 == c && p.2.1 == d).map (·.2.2)
theorem subL_mem {tab : List (Str × Str × Bool)} {c d : Str} {b : Bool} (h : subL tab c d = some b) : (c, d, b) ∈ tab := by
  unfold subL at h
  obtain ⟨⟨x, y, z⟩, h1, h2⟩ := Option.map_eq_some_iff.mp h
  have h3 := List.find?_some h1
  have h4 := List.mem_of_find?_eq_some h1
  simp only [Bool.and_eq_true, beq_iff_eq] at h3
  obtain ⟨rfl, rfl⟩ := h3
  subst h2
  exact h4
theorem ct_ex : ∀ (tab : List (Str × Addr)), (tab.map (·.1)).Nodup → ∃ ct : Str → Addr, ∀ p ∈ tab, ct p.1 = p.2
  | [], _ => ⟨fun _ => 0, fun p h => by cases h⟩
  | (n, a) :: tab, h => by
    rw [List.map_cons, List.nodup_cons] at h
    obtain ⟨ct, hct⟩ := ct_ex tab h.2
    refine ⟨fun s => if s = n then a else ct s, fun p hp => ?_⟩
    rcases List.mem_cons.mp hp with e | hp
    · subst e
      exact if_pos rfl
    · have hne : p.1 ≠ n := fun e => h.1 (e ▸ List.mem_map.mpr ⟨p, hp, rfl⟩)
      show (if p.1 = n then a else ct p.1) = p.2
      rw [if_neg hne]
      exact hct p hp
end VL

namespace VL
open PySem PySem.Spec L2
/-! ### what the data functions come to: small rules -/
abbrev It (ns : List Int) : List D := ns.map D.int
section
variable {f fa fb : DE} {a b : DS} {δ δ' δ1 : DSt} {r : Res Out} {d e : D} {i : Nat} {t : DT} {g : DG}
theorem seq_nx (h : a δ = .ok (.nx δ')) (k : b δ' = r) : sSeq a b δ = r := by unfold sSeq; rw [h]; exact k
theorem seq_rt (h : a δ = .ok (.rt d)) : sSeq a b δ = .ok (.rt d) := by unfold sSeq; rw [h]; rfl
theorem seq_exc {c : Str} {ns : List Str} {ds : List D} (h : a δ = .exc c ns ds) : sSeq a b δ = .exc c ns ds := by unfold sSeq; rw [h]; rfl
theorem set_ok (h : f δ = .ok d) : sSet i f δ = .ok (.nx (δ.set i (some d))) := by unfold sSet; rw [h]; rfl
theorem ret_ok (h : f δ = .ok d) : sRet f δ = .ok (.rt d) := by unfold sRet; rw [h]; rfl
theorem ret_exc {c : Str} {ns : List Str} {ds : List D} (h : f δ = .exc c ns ds) : sRet f δ = .exc c ns ds := by unfold sRet; rw [h]; rfl
theorem expr_ok (h : f δ = .ok d) : sExpr f δ = .ok (.nx δ) := by unfold sExpr; rw [h]; rfl
theorem if_t (h : t δ = .ok true) : sIf t a b δ = a δ := by unfold sIf; rw [h]; rfl
theorem if_f (h : t δ = .ok false) : sIf t a b δ = b δ := by unfold sIf; rw [h]; rfl
theorem for_eq {fi : DIt} {ds : List D} (h : fi δ = .ok ds) : sForI fi g a δ = sLoop g a ds δ := by unfold sForI; rw [h]; rfl
theorem runF_rt {n : Nat} {ds : List D} (h : a (ds.map some ++ List.replicate (n - ds.length) none) = .ok (.rt d)) : runF n a ds = .ok d := by unfold runF; rw [h]
theorem runF_nx {n : Nat} {ds : List D} (h : a (ds.map some ++ List.replicate (n - ds.length) none) = .ok (.nx δ)) : runF n a ds = .ok .non := by unfold runF; rw [h]
theorem runF_exc {n : Nat} {ds : List D} {c : Str} {ns : List Str} {es : List D} (h : a (ds.map some ++ List.replicate (n - ds.length) none) = .exc c ns es) : runF n a ds = .exc c ns es := by unfold runF; rw [h]
theorem v1_ok {o : D → Res D} (h : f δ = .ok d) : v1 o f δ = o d := by show (f δ).bind o = _; rw [h]; rfl
theorem v2_ok {o : D → D → Res D} (h : fa δ = .ok d) (k : fb δ = .ok e) : v2 o fa fb δ = o d e := by show (fa δ).bind _ = _; rw [h]; show (fb δ).bind _ = _; rw [k]; rfl
theorem vA_ok {o : List D → Res D} {fs : DA} {ds : List D} (h : fs δ = .ok ds) : vA o fs δ = o ds := by show (fs δ).bind o = _; rw [h]; rfl
theorem vT_ok {q : Bool} (h : f δ = .ok (.bl q)) : vT f δ = .ok q := by show (f δ).bind asB = _; rw [h]; rfl
theorem and_ft {t u : DT} (h : t δ = .ok false) : tAndD t u δ = .ok false := by unfold tAndD; rw [h]; rfl
theorem and_tt {t u : DT} {r : Res Bool} (h : t δ = .ok true) (k : u δ = r) : tAndD t u δ = r := by unfold tAndD; rw [h]; exact k
theorem or_t {t u : DT} (h : t δ = .ok true) : tOrD t u δ = .ok true := by unfold tOrD; rw [h]; rfl
theorem or_f {t u : DT} {r : Res Bool} (h : t δ = .ok false) (k : u δ = r) : tOrD t u δ = r := by unfold tOrD; rw [h]; exact k
theorem not_ok {t : DT} {q : Bool} (h : t δ = .ok q) : tNotD t δ = .ok (!q) := by unfold tNotD; rw [h]; rfl
theorem vAnd_t {r : Res D} (h : fa δ = .ok (.bl true)) (k : fb δ = r) : vAnd fa fb δ = r := by unfold vAnd; rw [h]; exact k
theorem vAnd_f (h : fa δ = .ok (.bl false)) : vAnd fa fb δ = .ok (.bl false) := by unfold vAnd; rw [h]; rfl
theorem vOr_f {r : Res D} (h : fa δ = .ok (.bl false)) (k : fb δ = r) : vOr fa fb δ = r := by unfold vOr; rw [h]; exact k
theorem vOr_t (h : fa δ = .ok (.bl true)) : vOr fa fb δ = .ok (.bl true) := by unfold vOr; rw [h]; rfl
theorem aCons_ok {fs : DA} {ds : List D} (h : f δ = .ok d) (k : fs δ = .ok ds) : aCons f fs δ = .ok (d :: ds) := by unfold aCons; rw [h]; show (fs δ).bind _ = _; rw [k]; rfl
end
/-- a loop that runs to its end -/
theorem loop_run {t : DG} {b : DS} : ∀ (ds : List D) (δ : DSt) (P : List D → DSt → Prop), P [] δ →
    (∀ (done : List D) (d : D) (rest : List D) (δ : DSt), ds = done ++ d :: rest → P done δ → ∃ δ1 δ2, t d δ = .ok δ1 ∧ (b δ1 = .ok (.nx δ2) ∨ b δ1 = .ok (.ct δ2)) ∧ P (done ++ [d]) δ2) →
    ∃ δ', sLoop t b ds δ = .ok (.nx δ') ∧ P ds δ'
  | [], δ, P, h0, _ => ⟨δ, rfl, h0⟩
  | d :: ds, δ, P, h0, step => by
    obtain ⟨δ1, δ2, h1, h2, h3⟩ := step [] d ds δ rfl h0
    obtain ⟨δ', h4, h5⟩ := loop_run ds δ2 (fun done δ => P (d :: done) δ) h3 fun done d' rest δ e p => by
      obtain ⟨δ1, δ2, q1, q2, q3⟩ := step (d :: done) d' rest δ (by rw [e]; rfl) p
      exact ⟨δ1, δ2, q1, q2, q3⟩
    refine ⟨δ', ?_, h5⟩
    unfold sLoop
    rw [h1]
    show (b δ1).bind _ = _
    rcases h2 with h2 | h2 <;> rw [h2] <;> exact h4
/-- .. over ints -/
theorem loop_ints {t : DG} {b : DS} (ns : List Int) (δ : DSt) (P : List Int → DSt → Prop) (h0 : P [] δ)
    (step : ∀ (done : List Int) (n : Int) (rest : List Int) (δ : DSt), ns = done ++ n :: rest → P done δ → ∃ δ1 δ2, t (.int n) δ = .ok δ1 ∧ (b δ1 = .ok (.nx δ2) ∨ b δ1 = .ok (.ct δ2)) ∧ P (done ++ [n]) δ2) :
    ∃ δ', sLoop t b (It ns) δ = .ok (.nx δ') ∧ P ns δ' := by
  obtain ⟨δ', h1, h2⟩ := loop_run (t := t) (b := b) (It ns) δ (fun ds δ => ∃ ms : List Int, ds = It ms ∧ ms <+: ns ∧ P ms δ) ⟨[], rfl, List.nil_prefix, h0⟩ fun done d rest δ e ⟨ms, em, hm, p⟩ => by
    obtain ⟨tl, etl⟩ := hm
    subst em
    rw [← etl] at e
    have e2 : It tl = d :: rest := by
      have : It (ms ++ tl) = It ms ++ It tl := List.map_append ..
      rw [this] at e
      exact List.append_cancel_left e
    cases tl with
    | nil => cases e2
    | cons n tl =>
      cases e2
      obtain ⟨δ1, δ2, q1, q2, q3⟩ := step ms n tl δ etl.symm p
      exact ⟨δ1, δ2, q1, q2, ms ++ [n], (List.map_append (f := D.int) (l₁ := ms) (l₂ := [n])).symm, ⟨tl, by rw [← etl]; simp⟩, q3⟩
  obtain ⟨ms, em, hm, p⟩ := h2
  have : ms = ns := by
    have h3 := List.map_inj_right (f := D.int) (fun _ _ h => by cases h; rfl) |>.mp em
    exact h3.symm
  exact ⟨δ', h1, this ▸ p⟩
/-- comprehensions -/
theorem lcD_all {t : DG} {tt : DT} {fe : DE} {δ : DSt} (p : D → Bool) (f : D → D) : ∀ (ds : List D), (∀ d ∈ ds, ∃ δ2, t d δ = .ok δ2 ∧ tt δ2 = .ok (p d) ∧ (p d = true → fe δ2 = .ok (f d))) → lcD t tt fe δ ds = .ok ((ds.filter p).map f)
  | [], _ => rfl
  | d :: ds, h => by
    obtain ⟨δ2, h1, h2, h3⟩ := h d List.mem_cons_self
    have ih := lcD_all p f ds fun x hx => h x (List.mem_cons_of_mem _ hx)
    unfold lcD
    rw [h1]
    show (tt δ2).bind _ = _
    rw [h2]
    cases hp : p d with
    | true =>
      show (fe δ2).bind _ = _
      rw [h3 hp]
      show (lcD t tt fe δ ds).bind _ = _
      rw [ih, List.filter_cons, hp]
      rfl
    | false =>
      show lcD t tt fe δ ds = _
      rw [ih, List.filter_cons, hp]
      rfl
theorem lcOf_all {t : DG} {tt : DT} {fe : DE} {δ : DSt} {own : List Nat} (p : D → Bool) (f : D → D) (ds : List D) (hl : ds.length ≤ 16777216) (h : ∀ d ∈ ds, ∃ δ2, t d (wipeD δ own) = .ok δ2 ∧ tt δ2 = .ok (p d) ∧ (p d = true → fe δ2 = .ok (f d))) :
    lcOf t tt fe own ds δ = .ok (.lst ((ds.filter p).map f)) := by
  unfold lcOf
  rw [if_pos hl, lcD_all p f ds h]
  rfl
theorem filter_ints (p : Int → Bool) (f : Int → Int) : ∀ ns : List Int, ((It ns).filter (fun d => match d with | .int n => p n | _ => false)).map (fun d => match d with | .int n => .int (f n) | d => d) = It ((ns.filter p).map f)
  | [] => rfl
  | n :: ns => by
    have ih := filter_ints p f ns
    show (((D.int n) :: It ns).filter _).map _ = _
    rw [List.filter_cons, List.filter_cons]
    by_cases hp : p n = true
    · rw [if_pos hp]
      rw [if_pos (show (match D.int n with | .int n => p n | _ => false) = true from hp)]
      exact congrArg (D.int (f n) :: ·) ih
    · rw [if_neg hp]
      rw [if_neg (show ¬ (match D.int n with | .int n => p n | _ => false) = true from hp)]
      exact ih
theorem lc_ints {fi : DIt} {t : DG} {tt : DT} {fe : DE} {δ : DSt} {own : List Nat} (ns : List Int) (p : Int → Bool) (f : Int → Int) (hi : fi δ = .ok (It ns)) (hl : ns.length ≤ 16777216)
    (h : ∀ n ∈ ns, ∃ δ2, t (.int n) (wipeD δ own) = .ok δ2 ∧ tt δ2 = .ok (p n) ∧ (p n = true → fe δ2 = .ok (.int (f n)))) : vLcI fi t tt fe own δ = .ok (.lst (It ((ns.filter p).map f))) := by
  unfold vLcI
  rw [hi]
  show lcOf t tt fe own (It ns) δ = _
  rw [lcOf_all (fun d => match d with | .int n => p n | _ => false) (fun d => match d with | .int n => .int (f n) | d => d) (It ns) (by rw [List.length_map]; exact hl) (fun d hd => by
    obtain ⟨n, hn, rfl⟩ := List.mem_map.mp hd
    exact h n hn)]
  exact congrArg (fun x => Res.ok (D.lst x)) (filter_ints p f ns)
theorem lc_ints1 {fi : DIt} {t : DG} {fe : DE} {δ : DSt} {own : List Nat} (ns : List Int) (f : Int → Int) (hi : fi δ = .ok (It ns)) (hl : ns.length ≤ 16777216)
    (h : ∀ n ∈ ns, ∃ δ2, t (.int n) (wipeD δ own) = .ok δ2 ∧ fe δ2 = .ok (.int (f n))) : vLcI fi t tYesD fe own δ = .ok (.lst (It (ns.map f))) := by
  have := lc_ints (tt := tYesD) ns (fun _ => true) f hi hl fun n hn => by
    obtain ⟨δ2, h1, h2⟩ := h n hn
    exact ⟨δ2, h1, rfl, fun _ => h2⟩
  rw [this, List.filter_eq_self.mpr (fun _ _ => rfl)]
/-! ints as data -/
theorem it_inj {a b : List Int} : It a = It b ↔ a = b := List.map_inj_right (fun _ _ h => by cases h; rfl)
theorem eqb_int (i j : Int) : D.eqb (.int i) (.int j) = decide (i = j) := by
  unfold D.eqb
  rw [D.py, D.py, PyData.eqv]
  by_cases h : i = j <;> simp [h]
theorem eqb_bl (a b : Bool) : D.eqb (.bl a) (.bl b) = decide (a = b) := by
  unfold D.eqb
  rw [D.py, D.py, PyData.eqv]
  cases a <;> cases b <;> rfl
theorem eqb_str (a b : Str) : D.eqb (.str a) (.str b) = (a == b) := by
  unfold D.eqb
  rw [D.py, D.py, PyData.eqv]
theorem eqD_int (i j : Int) : eqD (.int i) (.int j) = .ok (.bl (decide (i = j))) := by rw [← eqb_int]; rfl
theorem neD_int (i j : Int) : neD (.int i) (.int j) = .ok (.bl (!decide (i = j))) := by rw [← eqb_int]; rfl
theorem eqD_bl (i j : Bool) : eqD (.bl i) (.bl j) = .ok (.bl (decide (i = j))) := by rw [← eqb_bl]; rfl
theorem neD_bl (i j : Bool) : neD (.bl i) (.bl j) = .ok (.bl (!decide (i = j))) := by rw [← eqb_bl]; rfl
theorem anyEq_it (i : Int) (ns : List Int) : D.anyEq (.int i) (It ns) = decide (i ∈ ns) := by
  unfold D.anyEq
  induction ns with
  | nil => rfl
  | cons n ns ih =>
    show ((D.int n :: It ns).any fun y => D.eqb y (.int i)) = _
    rw [List.any_cons, ih, eqb_int]
    by_cases h : n = i
    · subst h; simp
    · simp [h, Ne.symm h]
theorem intsOf_it (ns : List Int) : intsOf (It ns) = some ns := intsOf_map ns
theorem flat_it (ns : List Int) : (It ns).all flatD = true := by
  rw [List.all_eq_true]
  intro d hd
  obtain ⟨n, _, rfl⟩ := List.mem_map.mp hd
  rfl
theorem okD_int (m : Nat) (n : Int) : okD m (.int n) = true := by cases m <;> rfl
theorem oks_it (m : Nat) (ns : List Int) : oksD m (It ns) = true := by
  rw [oksD_all, List.all_eq_true]
  intro d hd
  obtain ⟨n, _, rfl⟩ := List.mem_map.mp hd
  exact okD_int m n
theorem eqv_ints : ∀ (a b : List Int), PyData.eqvAll (pys (It a)) (pys (It b)) = decide (a = b)
  | [], [] => rfl
  | [], _ :: _ => rfl
  | _ :: _, [] => rfl
  | x :: a, y :: b => by
    have ih := eqv_ints a b
    show PyData.eqvAll (D.py (.int x) :: pys (It a)) (D.py (.int y) :: pys (It b)) = _
    rw [PyData.eqvAll, ih, show PyData.eqv (D.py (.int x)) (D.py (.int y)) = decide (x = y) from eqb_int x y]
    by_cases h : x = y <;> by_cases k : a = b <;> simp [h, k]
theorem eqb_lst (a b : List Int) : D.eqb (.lst (It a)) (.lst (It b)) = decide (a = b) := by
  unfold D.eqb
  rw [D.py, D.py, PyData.eqv]
  exact eqv_ints a b
theorem eqb_tup (a b : List Int) : D.eqb (.tup (It a)) (.tup (It b)) = decide (a = b) := by
  unfold D.eqb
  rw [D.py, D.py, PyData.eqv]
  exact eqv_ints a b
theorem eqD_lst (a b : List Int) : eqD (.lst (It a)) (.lst (It b)) = .ok (.bl (decide (a = b))) := by
  unfold eqD
  rw [show okD eqDepth (.lst (It a)) = true from oks_it 7 a, show okD eqDepth (.lst (It b)) = true from oks_it 7 b, if_pos (show (true && true) = true from rfl), eqb_lst]
theorem neD_lst (a b : List Int) : neD (.lst (It a)) (.lst (It b)) = .ok (.bl (!decide (a = b))) := by
  unfold neD
  rw [show okD eqDepth (.lst (It a)) = true from oks_it 7 a, show okD eqDepth (.lst (It b)) = true from oks_it 7 b, if_pos (show (true && true) = true from rfl), eqb_lst]
theorem eqD_tup (a b : List Int) : eqD (.tup (It a)) (.tup (It b)) = .ok (.bl (decide (a = b))) := by
  unfold eqD
  rw [show okD eqDepth (.tup (It a)) = true from oks_it 7 a, show okD eqDepth (.tup (It b)) = true from oks_it 7 b, if_pos (show (true && true) = true from rfl), eqb_tup]
theorem inF_lst (neg : Bool) (i : Int) (ns : List Int) : inF neg (.int i) (.lst (It ns)) = .ok (.bl (if neg then !decide (i ∈ ns) else decide (i ∈ ns))) := by
  show (if flatD (.int i) && (It ns).all flatD then Res.ok (D.bl (if neg then !D.anyEq (.int i) (It ns) else D.anyEq (.int i) (It ns))) else .bad) = _
  rw [flat_it, anyEq_it]
  rfl
theorem inF_tup (neg : Bool) (i : Int) (ns : List Int) : inF neg (.int i) (.tup (It ns)) = .ok (.bl (if neg then !decide (i ∈ ns) else decide (i ∈ ns))) := by
  show (if flatD (.int i) && (It ns).all flatD then Res.ok (D.bl (if neg then !D.anyEq (.int i) (It ns) else D.anyEq (.int i) (It ns))) else .bad) = _
  rw [flat_it, anyEq_it]
  rfl
theorem notInD_lst (i : Int) (ns : List Int) : notInD (.int i) (.lst (It ns)) = .ok (.bl (!decide (i ∈ ns))) := by
  show (if okD eqDepth (.int i) && oksD eqDepth (It ns) then Res.ok (D.bl (!D.anyEq (.int i) (It ns))) else .bad) = _
  rw [oks_it, anyEq_it]
  rfl
theorem inD_lst (i : Int) (ns : List Int) : inD (.int i) (.lst (It ns)) = .ok (.bl (decide (i ∈ ns))) := by
  show (if okD eqDepth (.int i) && oksD eqDepth (It ns) then Res.ok (D.bl (D.anyEq (.int i) (It ns))) else .bad) = _
  rw [oks_it, anyEq_it]
  rfl
theorem modI_ok {i j : Int} (h : 0 < j) : modI (.int i) (.int j) = .ok (.int (i % j)) := if_pos h
theorem fdivI_ok {i j : Int} (h : 0 < j) (k : j.natAbs.log2 < 9000) : fdivI (.int i) (.int j) = .ok (.int (i / j)) := if_pos ⟨h, k⟩
theorem mulI_ok {i j : Int} (h : i.natAbs < 2 ^ 64 ∨ j.natAbs < 2 ^ 64) : mulI (.int i) (.int j) = .ok (.int (i * j)) := if_pos (decide_eq_true (by rcases h with h | h; exact .inl h; exact .inr (.inl h)))
theorem shlI_ok {i j : Int} (h : 0 ≤ j) (h2 : j ≤ 1000000) (k : i.natAbs < 2 ^ 64) : shlI (.int i) (.int j) = .ok (.int (i * 2 ^ j.toNat)) := if_pos ⟨h, h2, k⟩
theorem sorted_ok (ns : List Int) : sortedD (.lst (It ns)) = .ok (.lst (It (sortI ns))) := by
  show (match intsOf (It ns) with
    | some ns => Res.ok (D.lst ((sortI ns).map D.int))
    | none => .bad) = _
  rw [intsOf_it]
theorem rangeD_it (lo : Int) (n : Nat) : rangeD lo n = It ((List.range n).map fun m => lo + (m : Nat)) := by unfold rangeD It; rw [List.map_map]; rfl

/-! ### the cells, the digits -/
/-- each below its size -/
def Fit (xs sizes : List Int) : Prop := xs.length = sizes.length ∧ ∀ (i : Nat) (x s : Int), xs[i]? = some x → sizes[i]? = some s → 0 ≤ x ∧ x < s
theorem Fit.nil : Fit [] [] := ⟨rfl, fun i x s h => by simp at h⟩
theorem Fit.snoc {xs ss : List Int} {x s : Int} (h : Fit xs ss) (h0 : 0 ≤ x) (h1 : x < s) : Fit (xs ++ [x]) (ss ++ [s]) := by
  refine ⟨by simp [h.1], fun i y t e1 e2 => ?_⟩
  by_cases hi : i < xs.length
  · rw [List.getElem?_append_left hi] at e1
    rw [List.getElem?_append_left (by have := h.1; omega)] at e2
    exact h.2 i y t e1 e2
  · rw [List.getElem?_append_right (by omega)] at e1
    rw [List.getElem?_append_right (by have := h.1; omega)] at e2
    have e3 : i - xs.length = 0 := by
      by_cases z : i - xs.length = 0
      · exact z
      · rw [List.getElem?_eq_none (by simp; omega)] at e1; cases e1
    have e4 : i - ss.length = 0 := by have := h.1; omega
    rw [e3] at e1
    rw [e4] at e2
    cases e1
    cases e2
    exact ⟨h0, h1⟩
theorem Fit.uncons {x s : Int} {xs ss : List Int} (h : Fit (x :: xs) (s :: ss)) : (0 ≤ x ∧ x < s) ∧ Fit xs ss := by
  refine ⟨h.2 0 x s rfl rfl, by have := h.1; simpa using this, fun i y t e1 e2 => h.2 (i + 1) y t (by simpa using e1) (by simpa using e2)⟩
end VL
namespace VL
open PySem PySem.Spec L2
theorem mulI_l {i j : Int} (h : i.natAbs < 2 ^ 64) : mulI (.int i) (.int j) = .ok (.int (i * j)) := mulI_ok (.inl h)
theorem mulI_r {i j : Int} (h : j.natAbs < 2 ^ 64) : mulI (.int i) (.int j) = .ok (.int (i * j)) := mulI_ok (.inr h)
theorem powI_ok {i j : Int} (h : 0 ≤ j) (h2 : j ≤ 1000000) (k : i.natAbs < 2 ^ 64) : powI (.int i) (.int j) = .ok (.int (i ^ j.toNat)) := if_pos ⟨h, h2, k⟩
end VL
namespace VL
open PySem PySem.Spec L2
/-- lo, lo + 1, .. -/
def rngL (lo : Int) (n : Nat) : List Int := (List.range n).map fun m => lo + (m : Nat)
theorem rngL_length (lo : Int) (n : Nat) : (rngL lo n).length = n := by unfold rngL; rw [List.length_map, List.length_range]
theorem rngL_get {lo : Int} {n i : Nat} (h : i < n) : (rngL lo n)[i]? = some (lo + (i : Nat)) := by unfold rngL; rw [List.getElem?_map, List.getElem?_range h]; rfl
theorem rngL_mem {lo x : Int} {n : Nat} : x ∈ rngL lo n ↔ lo ≤ x ∧ x < lo + (n : Nat) := by
  unfold rngL
  rw [List.mem_map]
  constructor
  · rintro ⟨m, hm, rfl⟩
    have := List.mem_range.mp hm
    omega
  · rintro ⟨h1, h2⟩
    exact ⟨(x - lo).toNat, List.mem_range.mpr (by omega), by omega⟩
theorem rng_ok {i j : Int} (h1 : -(2 ^ 62) ≤ i) (h2 : i < 2 ^ 62) (h3 : -(2 ^ 62) ≤ j) (h4 : j < 2 ^ 62) : rngD (.int i) (.int j) = .ok (It (rngL i (j - i).toNat)) := by
  have h : rngOk i j = true := by unfold rngOk; exact decide_eq_true ⟨h1, h2, h3, h4⟩
  show (if rngOk i j then Res.ok (rangeD i (j - i).toNat) else .bad) = _
  rw [h, rangeD_it]
  rfl
theorem rng1_ok {j : Int} (h3 : -(2 ^ 62) ≤ j) (h4 : j < 2 ^ 62) : rngD1 (.int j) = .ok (It (rngL 0 j.toNat)) := by
  have h : rngOk 0 j = true := by unfold rngOk; exact decide_eq_true ⟨by decide, by decide, h3, h4⟩
  show (if rngOk 0 j then Res.ok (rangeD 0 j.toNat) else .bad) = _
  rw [h, rangeD_it]
  rfl
end VL
namespace VL
open PySem PySem.Spec L2
theorem vRng1_ok {f : DE} {δ : DSt} {j : Int} (h : f δ = .ok (.int j)) (h3 : -(2 ^ 62) ≤ j) (h4 : j < 2 ^ 62) : vRng1 f δ = .ok (It (rngL 0 j.toNat)) := by
  unfold vRng1
  rw [h, Res.ok_bind, rng1_ok h3 h4]
theorem vRng_ok {f k : DE} {δ : DSt} {i j : Int} (h : f δ = .ok (.int i)) (h' : k δ = .ok (.int j)) (h1 : -(2 ^ 62) ≤ i) (h2 : i < 2 ^ 62) (h3 : -(2 ^ 62) ≤ j) (h4 : j < 2 ^ 62) : vRng f k δ = .ok (It (rngL i (j - i).toNat)) := by
  unfold vRng
  rw [h, Res.ok_bind, h', Res.ok_bind, rng_ok h1 h2 h3 h4]
theorem vIt_lst {f : DE} {δ : DSt} {ds : List D} (h : f δ = .ok (.lst ds)) : vIt f δ = .ok ds := by
  show (f δ).bind itemsD = _
  rw [h]
  rfl
theorem vIt_tup {f : DE} {δ : DSt} {ds : List D} (h : f δ = .ok (.tup ds)) : vIt f δ = .ok ds := by
  show (f δ).bind itemsD = _
  rw [h]
  rfl
theorem vIt_scr {f : DE} {δ : DSt} {ns : List Int} (h : f δ = .ok (.scr ns)) : vIt f δ = .ok (It ns) := by
  show (f δ).bind itemsD = _
  rw [h]
  rfl
end VL

namespace VL
open PySem PySem.Spec L2
section
variable {f fa fb : DE} {a b : DS} {δ δ' δ1 : DSt} {r : Res Out} {q : Res D} {d e : D} {i : Nat} {t : DT} {g : DG}
theorem v1_to {o : D → Res D} (h : f δ = .ok d) (k : o d = q) : v1 o f δ = q := (v1_ok h).trans k
theorem v2_to {o : D → D → Res D} (h : fa δ = .ok d) (k : fb δ = .ok e) (l : o d e = q) : v2 o fa fb δ = q := (v2_ok h k).trans l
theorem vA_to {o : List D → Res D} {fs : DA} {ds : List D} (h : fs δ = .ok ds) (k : o ds = q) : vA o fs δ = q := (vA_ok h).trans k
theorem seq_set (h : f δ = .ok d) (k : b (δ.set i (some d)) = r) : sSeq (sSet i f) b δ = r := seq_nx (set_ok h) k
theorem seq_ift {x y : DS} (h : t δ = .ok true) (k : sSeq x b δ = r) : sSeq (sIf t x y) b δ = r := by
  have e : sIf t x y δ = x δ := if_t h
  unfold sSeq at k ⊢
  rw [e]
  exact k
theorem seq_iff {x : DS} (h : t δ = .ok false) (k : b δ = r) : sSeq (sIf t x sNil) b δ = r := seq_nx ((if_f h).trans rfl) k
theorem one_iff {x : DS} (h : t δ = .ok false) : sIf t x sNil δ = .ok (.nx δ) := (if_f h).trans rfl
theorem or_ff {t u : DT} (h : t δ = .ok false) (k : u δ = .ok false) : tOrD t u δ = .ok false := or_f h k
theorem not_t {t : DT} (h : t δ = .ok true) : tNotD t δ = .ok false := not_ok h
theorem not_f {t : DT} (h : t δ = .ok false) : tNotD t δ = .ok true := not_ok h
end
/-- a loop's turns up to some item -/
theorem loop_pre {t : DG} {b : DS} (rest : List D) : ∀ (ds : List D) (δ : DSt) (P : List D → DSt → Prop), P [] δ →
    (∀ (done : List D) (d : D) (tl : List D) (δ : DSt), ds = done ++ d :: tl → P done δ → ∃ δ1 δ2, t d δ = .ok δ1 ∧ (b δ1 = .ok (.nx δ2) ∨ b δ1 = .ok (.ct δ2)) ∧ P (done ++ [d]) δ2) →
    ∃ δ', sLoop t b (ds ++ rest) δ = sLoop t b rest δ' ∧ P ds δ'
  | [], δ, P, h0, _ => ⟨δ, rfl, h0⟩
  | d :: ds, δ, P, h0, step => by
    obtain ⟨δ1, δ2, h1, h2, h3⟩ := step [] d ds δ rfl h0
    obtain ⟨δ', h4, h5⟩ := loop_pre rest ds δ2 (fun done δ => P (d :: done) δ) h3 fun done d' tl δ e p => by
      obtain ⟨δ1, δ2, q1, q2, q3⟩ := step (d :: done) d' tl δ (by rw [e]; rfl) p
      exact ⟨δ1, δ2, q1, q2, q3⟩
    refine ⟨δ', ?_, h5⟩
    rw [List.cons_append]
    conv => lhs; unfold sLoop
    rw [h1]
    show (b δ1).bind _ = _
    rcases h2 with h2 | h2 <;> rw [h2] <;> exact h4
theorem loop_pre_ints {t : DG} {b : DS} (rest : List D) (ns : List Int) (δ : DSt) (P : List Int → DSt → Prop) (h0 : P [] δ)
    (step : ∀ (done : List Int) (n : Int) (tl : List Int) (δ : DSt), ns = done ++ n :: tl → P done δ → ∃ δ1 δ2, t (.int n) δ = .ok δ1 ∧ (b δ1 = .ok (.nx δ2) ∨ b δ1 = .ok (.ct δ2)) ∧ P (done ++ [n]) δ2) :
    ∃ δ', sLoop t b (It ns ++ rest) δ = sLoop t b rest δ' ∧ P ns δ' := by
  obtain ⟨δ', h1, h2⟩ := loop_pre (t := t) (b := b) rest (It ns) δ (fun ds δ => ∃ ms : List Int, ds = It ms ∧ ms <+: ns ∧ P ms δ) ⟨[], rfl, List.nil_prefix, h0⟩ fun done d tl0 δ e ⟨ms, em, hm, p⟩ => by
    obtain ⟨tl, etl⟩ := hm
    subst em
    rw [← etl] at e
    have e2 : It tl = d :: tl0 := by
      have : It (ms ++ tl) = It ms ++ It tl := List.map_append ..
      rw [this] at e
      exact List.append_cancel_left e
    cases tl with
    | nil => cases e2
    | cons n tl =>
      cases e2
      obtain ⟨δ1, δ2, q1, q2, q3⟩ := step ms n tl δ etl.symm p
      exact ⟨δ1, δ2, q1, q2, ms ++ [n], (List.map_append (f := D.int) (l₁ := ms) (l₂ := [n])).symm, ⟨tl, by rw [← etl]; simp⟩, q3⟩
  obtain ⟨ms, em, hm, p⟩ := h2
  have : ms = ns := (it_inj.mp em).symm
  exact ⟨δ', h1, this ▸ p⟩
/-- a loop whose turns change nothing that counts -/
theorem loop_inv {t : DG} {b : DS} (ds : List D) (δ : DSt) (P : DSt → Prop) (h0 : P δ) (step : ∀ d ∈ ds, ∀ δ, P δ → ∃ δ1 δ2, t d δ = .ok δ1 ∧ (b δ1 = .ok (.nx δ2) ∨ b δ1 = .ok (.ct δ2)) ∧ P δ2) :
    ∃ δ', sLoop t b ds δ = .ok (.nx δ') ∧ P δ' :=
  loop_run ds δ (fun _ δ => P δ) h0 fun done d rest δ e p => step d (by rw [e]; simp) δ p
theorem loop_exc {t : DG} {b : DS} {d : D} {rest : List D} {δ δ1 : DSt} {c : Str} {ns : List Str} {es : List D} (h : t d δ = .ok δ1) (k : b δ1 = .exc c ns es) : sLoop t b (d :: rest) δ = .exc c ns es := by
  conv => lhs; unfold sLoop
  rw [h]
  show (b δ1).bind _ = _
  rw [k]
  rfl
/-! ### lists without repeats -/
/-- each once, in the order met -/
def dd (xs : List Int) : List Int := xs.foldl (fun r x => if x ∈ r then r else r ++ [x]) []
theorem dd_snoc (xs : List Int) (x : Int) : dd (xs ++ [x]) = if x ∈ dd xs then dd xs else dd xs ++ [x] := by unfold dd; rw [List.foldl_append]; rfl
theorem dd_gen (xs : List Int) : ∀ acc : List Int, acc.Nodup → (xs.foldl (fun r x => if x ∈ r then r else r ++ [x]) acc).Nodup ∧ ∀ y, y ∈ xs.foldl (fun r x => if x ∈ r then r else r ++ [x]) acc ↔ y ∈ acc ∨ y ∈ xs := by
  induction xs with
  | nil => intro acc h; exact ⟨h, fun y => by simp⟩
  | cons x xs ih =>
    intro acc h
    show (xs.foldl _ (if x ∈ acc then acc else acc ++ [x])).Nodup ∧ ∀ y, y ∈ xs.foldl _ (if x ∈ acc then acc else acc ++ [x]) ↔ _
    by_cases hx : x ∈ acc
    · rw [if_pos hx]
      obtain ⟨h1, h2⟩ := ih acc h
      refine ⟨h1, fun y => (h2 y).trans ?_⟩
      rw [List.mem_cons]
      constructor
      · rintro (h | h)
        · exact .inl h
        · exact .inr (.inr h)
      · rintro (h | rfl | h)
        · exact .inl h
        · exact .inl hx
        · exact .inr h
    · rw [if_neg hx]
      obtain ⟨h1, h2⟩ := ih (acc ++ [x]) (by
        rw [List.nodup_append]
        exact ⟨h, by simp, fun a ha b hb => by simp at hb; subst hb; exact fun e => hx (e ▸ ha)⟩)
      refine ⟨h1, fun y => (h2 y).trans ?_⟩
      simp only [List.mem_append, List.mem_cons, List.not_mem_nil, or_false, or_assoc]
theorem dd_nodup (xs : List Int) : (dd xs).Nodup := (dd_gen xs [] List.nodup_nil).1
theorem dd_mem {xs : List Int} {y : Int} : y ∈ dd xs ↔ y ∈ xs := ((dd_gen xs [] List.nodup_nil).2 y).trans (by simp)
theorem dd_len (xs : List Int) : (dd xs).length ≤ xs.length := by
  have : ∀ (xs acc : List Int), (xs.foldl (fun r x => if x ∈ r then r else r ++ [x]) acc).length ≤ acc.length + xs.length := by
    intro xs
    induction xs with
    | nil => intro acc; simp
    | cons x xs ih =>
      intro acc
      show (xs.foldl _ (if x ∈ acc then acc else acc ++ [x])).length ≤ _
      have := ih (if x ∈ acc then acc else acc ++ [x])
      by_cases hx : x ∈ acc
      · rw [if_pos hx] at this ⊢; simp; omega
      · rw [if_neg hx] at this ⊢; simp at this ⊢; omega
  have := this xs []
  unfold dd
  simpa using this
theorem sortI_mem {xs : List Int} {y : Int} : y ∈ sortI xs ↔ y ∈ xs := (sortI_perm xs).mem_iff
theorem sortI_nodup {xs : List Int} (h : xs.Nodup) : (sortI xs).Nodup := (sortI_perm xs).nodup_iff.mpr h
theorem sortI_len (xs : List Int) : (sortI xs).length = xs.length := (sortI_perm xs).length_eq
/-- ascending lists without repeats, of the same members -/
theorem asc_ext {a b : List Int} (h1 : a.Nodup) (h2 : a.Pairwise (· ≤ ·)) (k1 : b.Nodup) (k2 : b.Pairwise (· ≤ ·)) (h : ∀ x, x ∈ a ↔ x ∈ b) : a = b :=
  sorted_unique ((List.perm_ext_iff_of_nodup h1 k1).mpr h) h2 k2
theorem sortI_id {a : List Int} (h : a.Pairwise (· ≤ ·)) : sortI a = a := sorted_unique (sortI_perm a) (sortI_sorted a) h
/-! ### slices -/
theorem cut_take {α : Type} (xs : List α) (k : Nat) : cutD xs none (some (k : Int)) = xs.take k := by
  unfold cutD
  rw [HT.sIx_none, HT.sIx_nat, List.drop_zero, Nat.sub_zero]
  by_cases h : k ≤ xs.length
  · rw [Nat.min_eq_left h]
  · rw [Nat.min_eq_right (by omega), List.take_length, List.take_of_length_le (by omega)]
theorem cut_drop {α : Type} (xs : List α) (k : Nat) : cutD xs (some (k : Int)) none = xs.drop k := by
  unfold cutD
  rw [HT.sIx_none, HT.sIx_nat]
  by_cases h : k ≤ xs.length
  · rw [Nat.min_eq_left h, List.take_of_length_le (by rw [List.length_drop]; omega)]
  · rw [Nat.min_eq_right (by omega), List.drop_of_length_le (l := xs) (i := xs.length) (Nat.le_refl _), List.drop_of_length_le (l := xs) (i := k) (by omega), List.take_nil]
theorem cut_mid {α : Type} (xs : List α) (j k : Nat) : cutD xs (some (j : Int)) (some (k : Int)) = (xs.drop j).take (k - j) := by
  unfold cutD
  rw [HT.sIx_nat, HT.sIx_nat]
  by_cases h : j ≤ xs.length
  · rw [Nat.min_eq_left h]
    by_cases h2 : k ≤ xs.length
    · rw [Nat.min_eq_left h2]
    · rw [Nat.min_eq_right (by omega), List.take_of_length_le (by rw [List.length_drop]; omega), List.take_of_length_le (by rw [List.length_drop]; omega)]
  · rw [Nat.min_eq_right (show xs.length ≤ j by omega), List.drop_of_length_le (l := xs) (i := xs.length) (Nat.le_refl _), List.drop_of_length_le (l := xs) (i := j) (by omega), List.take_nil, List.take_nil]
theorem cut_mem {α : Type} {xs : List α} {l h : Option Int} {x : α} (m : x ∈ cutD xs l h) : x ∈ xs := List.mem_of_mem_drop (List.mem_of_mem_take m)
theorem cut_map {α β : Type} (f : α → β) (xs : List α) (l h : Option Int) : cutD (xs.map f) l h = (cutD xs l h).map f := by
  unfold cutD
  rw [List.length_map, List.map_take, List.map_drop]
theorem cut_len {α : Type} (xs : List α) (l h : Option Int) : (cutD xs l h).length ≤ xs.length := by
  unfold cutD
  rw [List.length_take, List.length_drop]
  omega
theorem catL_ok {xs ys : List D} (h : xs.length + ys.length ≤ 16777216) : catL (.lst xs) (.lst ys) = .ok (.lst (xs ++ ys)) := if_pos h
theorem catT_ok {xs ys : List D} (h : xs.length + ys.length ≤ 16777216) : catT (.tup xs) (.tup ys) = .ok (.tup (xs ++ ys)) := if_pos h
theorem it_app (a b : List Int) : It a ++ It b = It (a ++ b) := (List.map_append ..).symm
theorem it_len (a : List Int) : (It a).length = a.length := List.length_map ..
theorem app_ok {f : DE} {δ : DSt} {i : Nat} {ds : List D} {d : D} (h : δ[i]? = some (some (.lst ds))) (k : f δ = .ok d) (l : ds.length < 16777216) : sApp i f δ = .ok (.nx (δ.set i (some (.lst (ds ++ [d]))))) := by
  unfold sApp
  rw [h]
  show (f δ).bind _ = _
  rw [k]
  exact if_pos l
theorem rev_ok {δ : DSt} {i : Nat} {ds : List D} (h : δ[i]? = some (some (.lst ds))) : sRev i δ = .ok (.nx (δ.set i (some (.lst ds.reverse)))) := by
  unfold sRev
  rw [h]
theorem vSl_to {f : Option Int → Option Int → D → Res D} {fa : DE} {fl fh : DO} {δ : DSt} {d : D} {l h : Option Int} {q : Res D} (h1 : fa δ = .ok d) (h2 : fl δ = .ok l) (h3 : fh δ = .ok h) (h4 : f l h d = q) : vSl f fa fl fh δ = q := by
  show (fa δ).bind _ = _
  rw [h1]
  show (fl δ).bind _ = _
  rw [h2]
  show (fh δ).bind _ = _
  rw [h3]
  exact h4
theorem oSome_ok {f : DE} {δ : DSt} {i : Int} (h : f δ = .ok (.int i)) : oSome f δ = .ok (some i) := by
  unfold oSome
  rw [h]
  rfl
theorem flat_one {α : Type} (x : α) : ∀ n : Nat, (List.replicate n [x]).flatten = List.replicate n x
  | 0 => rfl
  | n + 1 => by rw [List.replicate_succ, List.flatten_cons, flat_one x n]; rfl
theorem rep_one (x : D) {n : Nat} (h : n ≤ 1000) : repL (.lst [x]) (.int (n : Nat)) = .ok (.lst (List.replicate n x)) := by
  have h3 : [x].length * ((n : Nat) : Int).toNat ≤ 16777216 := by rw [List.length_singleton, Int.toNat_natCast]; omega
  have h4 : ((n : Nat) : Int) < 2 ^ 63 := by omega
  have h5 : -(2 ^ 63) ≤ ((n : Nat) : Int) := by omega
  have e : repL (.lst [x]) (.int (n : Nat)) = .ok (.lst (List.replicate (n : Int).toNat [x]).flatten) := by
    unfold repL
    exact if_pos ⟨h5, h4, h3⟩
  rw [e, Int.toNat_natCast, flat_one]
theorem runI_nx {n : Nat} {c : Str} {b : DS} {ds : List D} {δ : DSt} {d : D} (h : b (some (.ins c [] []) :: (ds.map some ++ List.replicate (n - (ds.length + 1)) none)) = .ok (.nx δ)) (k : δ[0]? = some (some d)) : runI n c b ds = .ok d := by
  unfold runI
  rw [h]
  show (match δ[0]? with
    | some (some d) => Res.ok d
    | _ => .bad) = _
  rw [k]
theorem runI_exc {n : Nat} {c : Str} {b : DS} {ds : List D} {c' : Str} {ns : List Str} {es : List D} (h : b (some (.ins c [] []) :: (ds.map some ++ List.replicate (n - (ds.length + 1)) none)) = .exc c' ns es) : runI n c b ds = .exc c' ns es := by
  unfold runI
  rw [h]
theorem vT_to {f : DE} {δ : DSt} {q q' : Bool} (h : f δ = .ok (.bl q)) (e : q = q') : vT f δ = .ok q' := by rw [← e]; exact vT_ok h
theorem it_take (n : Nat) (a : List Int) : (It a).take n = It (a.take n) := List.map_take.symm
theorem it_drop (n : Nat) (a : List Int) : (It a).drop n = It (a.drop n) := List.map_drop.symm
theorem it_cut (l h : Option Int) (a : List Int) : cutD (It a) l h = It (cutD a l h) := cut_map D.int a l h
theorem it_rep (n : Nat) (x : Int) : List.replicate n (D.int x) = It (List.replicate n x) := List.map_replicate.symm
theorem it_rev (a : List Int) : (It a).reverse = It a.reverse := List.map_reverse.symm
theorem seq_for1 {j : Nat} {fi : DIt} {body tail : DS} {δ0 : DSt} {r : Res Out} {ds : List D} (h : fi δ0 = .ok ds) (hj : j < δ0.length) (step : ∀ d ∈ ds, body (δ0.set j (some d)) = .ok (.nx (δ0.set j (some d)))) (k : ∀ a, tail (δ0.set j a) = r) : sSeq (sForI fi (tN j) body) tail δ0 = r := by
  obtain ⟨δ', h1, a, e⟩ := loop_inv (t := tN j) (b := body) ds δ0 (fun δ => ∃ a, δ = δ0.set j a) ⟨δ0[j], (List.set_getElem_self hj).symm⟩ (by
    rintro d hd δ ⟨a, rfl⟩
    refine ⟨_, _, rfl, .inl ?_, some d, rfl⟩
    rw [List.set_set]
    exact step d hd)
  subst e
  exact seq_nx ((for_eq h).trans h1) (k a)
theorem Fit.inv {s : Int} {xs ss : List Int} (h : Fit xs (s :: ss)) : ∃ y ys, xs = y :: ys ∧ (0 ≤ y ∧ y < s) ∧ Fit ys ss := by
  cases xs with
  | nil => have := h.1; simp at this
  | cons y ys => exact ⟨y, ys, rfl, h.uncons⟩
theorem Fit.rep {x : Int} : ∀ {n : Nat} {xs : List Int}, Fit xs (List.replicate n x) → xs.length = n ∧ ∀ y ∈ xs, 0 ≤ y ∧ y < x := by
  intro n xs h
  refine ⟨by have := h.1; rwa [List.length_replicate] at this, fun y hy => ?_⟩
  obtain ⟨i, hi⟩ := List.getElem?_of_mem hy
  have h1 : i < n := by
    have := (List.getElem?_eq_some_iff.mp hi).1
    have h2 := h.1
    rw [List.length_replicate] at h2
    omega
  exact h.2 i y x hi (by rw [List.getElem?_replicate, if_pos h1])
end VL

namespace VL
open PySem PySem.Spec L2
def top (i : Nat) : Stmt := PySem.Challenge.pw_fullsides_k20_books.main.body.getD i (.Pass ⟨0, 0, 0, 0⟩)
abbrev s__law_digits : Stmt := top 15
abbrev s__law_cell : Stmt := top 14
abbrev s_is_whole : Stmt := top 5
abbrev s_is_side_lot : Stmt := top 7
abbrev s_BadLot___init__ : Stmt := inClass (top 2) 0
abbrev s_side : Stmt := top 8
abbrev s_Book___init__ : Stmt := inClass (top 10) 0
abbrev s__law_bit : Stmt := top 16
abbrev s__law_side : Stmt := top 17
abbrev s__law_own : Stmt := top 18
abbrev s_Book___contains__ : Stmt := inClass (top 10) 3
abbrev s__law_in : Stmt := top 20
abbrev s__law_whole : Stmt := top 13
abbrev s_Book___len__ : Stmt := inClass (top 10) 1
abbrev s_Book___iter__ : Stmt := inClass (top 10) 2
abbrev s__law_is_book : Stmt := top 19
abbrev s_check_counts : Stmt := top 11
abbrev s_Book___sub__ : Stmt := inClass (top 10) 7
abbrev s_Book___add__ : Stmt := inClass (top 10) 6
abbrev s_Book___eq__ : Stmt := inClass (top 10) 4
abbrev s_Book___ne__ : Stmt := inClass (top 10) 5
abbrev s__law_refusals : Stmt := top 22
abbrev s__law_apart : Stmt := top 23
abbrev s__law_refused : Stmt := top 21
abbrev s_law : Stmt := top 24
abbrev ot_Book : List Str := []
abbrev tb_k0 : List (Str × Bool) := [(("CountsDiffer" : Str), false)]
abbrev tb_k1 : List (Str × Bool) := [(("CountsDiffer" : Str), true)]
abbrev tb_k2 : List (Str × Bool) := [(("BadLot" : Str), true)]
abbrev tb_k3 : List (Str × Bool) := [(("BadLot" : Str), false)]
abbrev sub_k0 : Str → Str → Option Bool := subL [(("CountsDiffer" : Str), ("CountsDiffer" : Str), true)]
abbrev sub_k1 : Str → Str → Option Bool := subL [(("BadLot" : Str), ("BadLot" : Str), true)]
structure Tx (wd : Wd) (mg : Str → Option Value) (ad : Nat → Addr) (fdt : Nat → FuncData) : Prop where
  z_bool : mg ("bool" : Str) = none
  z_int : mg ("int" : Str) = none
  z_isinstance : mg ("isinstance" : Str) = none
  z_iter : mg ("iter" : Str) = none
  z_len : mg ("len" : Str) = none
  z_list : mg ("list" : Str) = none
  z_range : mg ("range" : Str) = none
  z_reversed : mg ("reversed" : Str) = none
  z_sorted : mg ("sorted" : Str) = none
  z_tuple : mg ("tuple" : Str) = none
  g_Book : mg ("Book" : Str) = some (.ref (wd.ct ("Book" : Str)))
  g_BadLot : mg ("BadLot" : Str) = some (.ref (wd.ct ("BadLot" : Str)))
  g_CountsDiffer : mg ("CountsDiffer" : Str) = some (.ref (wd.ct ("CountsDiffer" : Str)))
  g_TownError : mg ("TownError" : Str) = some (.ref (wd.ct ("TownError" : Str)))
  b_Book : ClsB wd.K (wd.ct ("Book" : Str))
  na_Book_many : NoAttr wd.K (wd.ct ("Book" : Str)) ("many" : Str)
  na_Book_sides : NoAttr wd.K (wd.ct ("Book" : Str)) ("sides" : Str)
  mi_Book : PySem.W.makesIn wd.K (wd.ct ("Book" : Str)) = true
  kc_Book : PySem.W.keepIn wd.K (.ref (wd.ct ("Book" : Str))) = true
  ox_BadLot : OexC wd.K (wd.ct ("BadLot" : Str))
  xn_BadLot_lot : PySem.W.findIn wd.K (.ref (wd.ct ("BadLot" : Str))) ("lot" : Str) = some none
  ek_BadLot : ExcK wd.K (wd.ct ("BadLot" : Str))
  rt_CountsDiffer : RtC wd.K (wd.ct ("CountsDiffer" : Str))
  ek_CountsDiffer : ExcK wd.K (wd.ct ("CountsDiffer" : Str))
  ko_CountsDiffer_BadLot : PySem.W.kitOne wd.K (.ref (wd.ct ("CountsDiffer" : Str))) (.ref (wd.ct ("BadLot" : Str))) = some false
  ko_CountsDiffer_TownError : PySem.W.kitOne wd.K (.ref (wd.ct ("CountsDiffer" : Str))) (.ref (wd.ct ("TownError" : Str))) = some true
  ko_BadLot_TownError : PySem.W.kitOne wd.K (.ref (wd.ct ("BadLot" : Str))) (.ref (wd.ct ("TownError" : Str))) = some true
  ko_BadLot_CountsDiffer : PySem.W.kitOne wd.K (.ref (wd.ct ("BadLot" : Str))) (.ref (wd.ct ("CountsDiffer" : Str))) = some false
  em_CountsDiffer_CountsDiffer : PySem.W.exmOne wd.K (.ref (wd.ct ("CountsDiffer" : Str))) (.ref (wd.ct ("CountsDiffer" : Str))) = some true
  em_BadLot_BadLot : PySem.W.exmOne wd.K (.ref (wd.ct ("BadLot" : Str))) (.ref (wd.ct ("BadLot" : Str))) = some true
  _law_digits : FnT wd mg ("_law_digits" : Str) ("_law_digits" : Str) s__law_digits (ad 0) (fdt 0) [("cell" : Str), ("sizes" : Str)]
  _law_cell : FnT wd mg ("_law_cell" : Str) ("_law_cell" : Str) s__law_cell (ad 1) (fdt 1) [("script" : Str), ("k" : Str)]
  is_whole : FnT wd mg ("is_whole" : Str) ("is_whole" : Str) s_is_whole (ad 2) (fdt 2) [("value" : Str)]
  is_side_lot : FnT wd mg ("is_side_lot" : Str) ("is_side_lot" : Str) s_is_side_lot (ad 3) (fdt 3) [("many" : Str), ("lot" : Str)]
  BadLot___init__ : MtT wd ("BadLot" : Str) ("__init__" : Str) ("BadLot.__init__" : Str) s_BadLot___init__ (ad 4) (fdt 4) [("self" : Str), ("lot" : Str)]
  side : FnT wd mg ("side" : Str) ("side" : Str) s_side (ad 5) (fdt 5) [("many" : Str), ("lot" : Str)]
  Book___init__ : MtT wd ("Book" : Str) ("__init__" : Str) ("Book.__init__" : Str) s_Book___init__ (ad 6) (fdt 6) [("self" : Str), ("many" : Str), ("lots" : Str)]
  _law_bit : FnT wd mg ("_law_bit" : Str) ("_law_bit" : Str) s__law_bit (ad 7) (fdt 7) [("lot" : Str), ("number" : Str)]
  _law_side : FnT wd mg ("_law_side" : Str) ("_law_side" : Str) s__law_side (ad 8) (fdt 8) [("g" : Str), ("lot" : Str)]
  _law_own : FnT wd mg ("_law_own" : Str) ("_law_own" : Str) s__law_own (ad 9) (fdt 9) [("many" : Str), ("lots" : Str)]
  Book___contains__ : MtT wd ("Book" : Str) ("__contains__" : Str) ("Book.__contains__" : Str) s_Book___contains__ (ad 10) (fdt 10) [("self" : Str), ("lot" : Str)]
  _law_in : FnT wd mg ("_law_in" : Str) ("_law_in" : Str) s__law_in (ad 11) (fdt 11) [("book" : Str), ("many" : Str), ("sides" : Str)]
  _law_whole : FnT wd mg ("_law_whole" : Str) ("_law_whole" : Str) s__law_whole (ad 12) (fdt 12) [("value" : Str)]
  Book___len__ : MtT wd ("Book" : Str) ("__len__" : Str) ("Book.__len__" : Str) s_Book___len__ (ad 13) (fdt 13) [("self" : Str)]
  Book___iter__ : MtT wd ("Book" : Str) ("__iter__" : Str) ("Book.__iter__" : Str) s_Book___iter__ (ad 14) (fdt 14) [("self" : Str)]
  _law_is_book : FnT wd mg ("_law_is_book" : Str) ("_law_is_book" : Str) s__law_is_book (ad 15) (fdt 15) [("book" : Str), ("many" : Str), ("sides" : Str)]
  check_counts : FnT wd mg ("check_counts" : Str) ("check_counts" : Str) s_check_counts (ad 16) (fdt 16) [("one" : Str), ("two" : Str)]
  Book___sub__ : MtT wd ("Book" : Str) ("__sub__" : Str) ("Book.__sub__" : Str) s_Book___sub__ (ad 17) (fdt 17) [("self" : Str), ("other" : Str)]
  Book___add__ : MtT wd ("Book" : Str) ("__add__" : Str) ("Book.__add__" : Str) s_Book___add__ (ad 18) (fdt 18) [("self" : Str), ("other" : Str)]
  Book___eq__ : MtT wd ("Book" : Str) ("__eq__" : Str) ("Book.__eq__" : Str) s_Book___eq__ (ad 19) (fdt 19) [("self" : Str), ("other" : Str)]
  Book___ne__ : MtT wd ("Book" : Str) ("__ne__" : Str) ("Book.__ne__" : Str) s_Book___ne__ (ad 20) (fdt 20) [("self" : Str), ("other" : Str)]
  _law_refusals : FnT wd mg ("_law_refusals" : Str) ("_law_refusals" : Str) s__law_refusals (ad 21) (fdt 21) [("one" : Str), ("two" : Str)]
  _law_apart : FnT wd mg ("_law_apart" : Str) ("_law_apart" : Str) s__law_apart (ad 22) (fdt 22) [("book" : Str), ("many" : Str), ("other" : Str)]
  _law_refused : FnT wd mg ("_law_refused" : Str) ("_law_refused" : Str) s__law_refused (ad 23) (fdt 23) [("many" : Str), ("lots" : Str)]
  law : FnT wd mg ("law" : Str) ("law" : Str) s_law (ad 24) (fdt 24) [("script" : Str)]
section
variable {P : Program} {w : World} {wd : Wd} {mg : Str → Option Value} {base : Heap} {ad : Nat → Addr} {fdt : Nat → FuncData}
theorem it_Book (T : Tx wd mg ad fdt) : ClsT wd ("Book" : Str) ot_Book := ⟨kit_self, fun d n e => (tysNo_kit T.b_Book.no e).1, fun c h => by simp at h, T.b_Book.clsI⟩
theorem oc_Book (T : Tx wd mg ad fdt) : OwnC wd ("Book" : Str) ot_Book := ⟨T.b_Book.clsI, fun d n e => (tysNo_kit T.b_Book.no e).2, fun c h => by simp at h⟩
theorem mk_Book (T : Tx wd mg ad fdt) : Mk wd.K (wd.ct ("Book" : Str)) (ad 6) := ⟨T.mi_Book, T.Book___init__.at_, T.Book___init__.fn, T.kc_Book⟩
theorem xi_BadLot (T : Tx wd mg ad fdt) : XcI wd ("BadLot" : Str) [("lot" : Str)] := ⟨T.ox_BadLot, fun f h => by
    have h := List.contains_iff_mem.mp h
    simp only [List.mem_cons, List.not_mem_nil, or_false] at h
    obtain rfl := h
    exact T.xn_BadLot_lot⟩
theorem ff_0 (T : Tx wd mg ad fdt) : ∀ c, ([("Book" : Str)] : List Str).contains c = true → FldOk wd c ("many" : Str) := fun c h => by
  have h := List.contains_iff_mem.mp h
  simp only [List.mem_cons, List.not_mem_nil, or_false] at h
  obtain rfl := h
  exact ⟨T.b_Book.cls, T.na_Book_many⟩
theorem ff_1 (T : Tx wd mg ad fdt) : ∀ c, ([("Book" : Str)] : List Str).contains c = true → FldOk wd c ("sides" : Str) := fun c h => by
  have h := List.contains_iff_mem.mp h
  simp only [List.mem_cons, List.not_mem_nil, or_false] at h
  obtain rfl := h
  exact ⟨T.b_Book.cls, T.na_Book_sides⟩
theorem xf_0 (T : Tx wd mg ad fdt) : ∀ c ∈ ([("BadLot" : Str)] : List Str), ExcK wd.K (wd.ct c) ∧ PySem.W.findIn wd.K (.ref (wd.ct c)) ("lot" : Str) = some none := fun c h => by
  have h := h
  simp only [List.mem_cons, List.not_mem_nil, or_false] at h
  obtain rfl := h
  exact ⟨T.ek_BadLot, T.xn_BadLot_lot⟩
theorem hx_k0 (T : Tx wd mg ad fdt) : ∀ p ∈ tb_k0, ExcK wd.K (wd.ct p.1) ∧ PySem.W.kitOne wd.K (.ref (wd.ct p.1)) (.ref (wd.ct ("BadLot" : Str))) = some p.2 := fun p h => by
  have h := h
  simp only [List.mem_cons, List.not_mem_nil, or_false] at h
  obtain rfl := h
  exact ⟨T.ek_CountsDiffer, T.ko_CountsDiffer_BadLot⟩
theorem hx_k1 (T : Tx wd mg ad fdt) : ∀ p ∈ tb_k1, ExcK wd.K (wd.ct p.1) ∧ PySem.W.kitOne wd.K (.ref (wd.ct p.1)) (.ref (wd.ct ("TownError" : Str))) = some p.2 := fun p h => by
  have h := h
  simp only [List.mem_cons, List.not_mem_nil, or_false] at h
  obtain rfl := h
  exact ⟨T.ek_CountsDiffer, T.ko_CountsDiffer_TownError⟩
theorem hx_k2 (T : Tx wd mg ad fdt) : ∀ p ∈ tb_k2, ExcK wd.K (wd.ct p.1) ∧ PySem.W.kitOne wd.K (.ref (wd.ct p.1)) (.ref (wd.ct ("TownError" : Str))) = some p.2 := fun p h => by
  have h := h
  simp only [List.mem_cons, List.not_mem_nil, or_false] at h
  obtain rfl := h
  exact ⟨T.ek_BadLot, T.ko_BadLot_TownError⟩
theorem hx_k3 (T : Tx wd mg ad fdt) : ∀ p ∈ tb_k3, ExcK wd.K (wd.ct p.1) ∧ PySem.W.kitOne wd.K (.ref (wd.ct p.1)) (.ref (wd.ct ("CountsDiffer" : Str))) = some p.2 := fun p h => by
  have h := h
  simp only [List.mem_cons, List.not_mem_nil, or_false] at h
  obtain rfl := h
  exact ⟨T.ek_BadLot, T.ko_BadLot_CountsDiffer⟩
theorem sub_k0_ok (T : Tx wd mg ad fdt) : ∀ c c1 b, sub_k0 c c1 = some b → PySem.W.exmOne wd.K (.ref (wd.ct c)) (.ref (wd.ct c1)) = some b := fun c c1 b h => by
  have h := subL_mem h
  simp only [List.mem_cons, List.not_mem_nil, or_false, Prod.mk.injEq] at h
  obtain ⟨rfl, rfl, rfl⟩ := h
  exact T.em_CountsDiffer_CountsDiffer
theorem sub_k1_ok (T : Tx wd mg ad fdt) : ∀ c c1 b, sub_k1 c c1 = some b → PySem.W.exmOne wd.K (.ref (wd.ct c)) (.ref (wd.ct c1)) = some b := fun c c1 b h => by
  have h := subL_mem h
  simp only [List.mem_cons, List.not_mem_nil, or_false, Prod.mk.injEq] at h
  obtain ⟨rfl, rfl, rfl⟩ := h
  exact T.em_BadLot_BadLot
theorem sc__law_digits : FnScope [("cell" : Str), ("sizes" : Str), ("found" : Str), ("rest" : Str), ("base" : Str), ("seed" : Str), ("k" : Str), ("twice" : Str)] [("cell" : Str), ("sizes" : Str)] (defScope s__law_digits) := ⟨rfl, rfl, rfl, by decide +kernel, rfl, by decide +kernel, by decide +kernel⟩
abbrev b__law_digits : DS :=
  (sSeq (sSet 2 (vA (fun ds => .ok (.lst ds)) aNil)) <|
  (sSeq (sSet 3 (v2 modI (v1 intD (vVar 0)) (v2 mulI (v2 mulI (v2 powI (vC (.int 10)) (vC (.int 60))) (v2 powI (vC (.int 10)) (vC (.int 60)))) (v2 powI (vC (.int 10)) (vC (.int 60)))))) <|
  (sSeq (sIf (vT (v2 geI (vVar 3) (v2 powI (vC (.int 10)) (vC (.int 18))))) (sSeq (sSet 3 (v2 subI (vVar 3) (v2 powI (vC (.int 10)) (vC (.int 18))))) <|
  (sSeq (sForI (vIt (vVar 1)) (tN 4) (sSeq (sApp 2 (v2 modI (v1 intD (vVar 3)) (vVar 4))) <|
  (sSet 3 (v2 fdivI (v1 intD (vVar 3)) (vVar 4))))) <|
  (sRet (vVar 2)))) sNil) <|
  (sSeq (sSet 5 (v2 modI (v1 intD (vVar 3)) (vC (.int 2147483629)))) <|
  (sSeq (sForI (vRng1 (v1 lenD (vVar 1))) (tN 6) (sSeq (sSet 5 (v2 modI (v1 intD (v2 addI (v2 addI (v2 mulI (vVar 5) (vC (.int 48271))) (v2 mulI (vC (.int 974711)) (vVar 6))) (vC (.int 12345)))) (vC (.int 2147483647)))) <|
  (sSeq (sSet 7 (v2 modI (v1 intD (v2 mulI (vVar 5) (v2 addI (v2 fdivI (vVar 5) (vC (.int 65537))) (vC (.int 3))))) (vC (.int 2147483629)))) <|
  (sApp 2 (v2 modI (v1 intD (v2 fdivI (vVar 7) (vC (.int 19)))) (v2 idxD (vVar 1) (vVar 6))))))) <|
  (sRet (vVar 2)))))))
def e__law_digits (ds : List D) : Res D := runF 8 b__law_digits ds
theorem ok__law_digits (T : Tx wd mg ad fdt) : FnOk P w wd.K mg base (L2.CX P w) 1 (ad 0) (fdt 0) [("cell" : Str), ("sizes" : Str)] (lift wd [.im, .ln] e__law_digits) :=
  fn_lift (kl := [.im, .im, .im, .im, .im, .im]) (K2 := ⟨[.im, .ln, .im, .im, .im, .im, .im, .im], [], []⟩) T._law_digits.F sc__law_digits rfl rfl rfl (fun cdv A outer s H E F0 hr =>
    have ox : Okx (cxOf (L2.CX P w) P w wd.K mg base [("cell" : Str), ("sizes" : Str), ("found" : Str), ("rest" : Str), ("base" : Str), ("seed" : Str), ("k" : Str), ("twice" : Str)] ("_law_digits" : Str) (defScope s__law_digits) (ad 0) cdv A outer s H E) ⟨wd, F0, H, E⟩ := okx_def sc__law_digits.nd
    (vs_cons (vs_setOwK (κ1 := [.im, .ln, .ow, .im, .im, .im, .im, .im]) 2 (ve_lst va_nil) ox) <|
  (vs_cons (vs_set 3 (ve_mod (ve_intC T.z_int (ve_var 0)) (ve_mul (ve_mul (ve_pow ve_int ve_int) (ve_pow ve_int ve_int)) (ve_pow ve_int ve_int))) ox) <|
  (vs_cons (vs_if (vt_cmp c_ge (ve_var 3) (ve_pow ve_int ve_int)) (vs_cons (vs_set 3 (ve_sub (ve_var 3) (ve_pow ve_int ve_int)) ox) <|
  (vs_cons (vs_forI (vi_val (k := .ls) (ve_var 1) rfl) (vg_name 4 ox) (vs_cons (vs_app 2 (ve_mod (ve_intC T.z_int (ve_var 3)) (ve_var 4)) ox) <|
  (vs_one (vs_set 3 (ve_fdiv (ve_intC T.z_int (ve_var 3)) (ve_var 4)) ox))) ox) <|
  (vs_cv (κ1 := [.im, .ln, .im, .im, .im, .im, .im, .im]) [(2, true)] (vs_one (vs_ret (ve_var 2)))))) vs_nil) <|
  (vs_cons (vs_set 5 (ve_mod (ve_intC T.z_int (ve_var 3)) ve_int) ox) <|
  (vs_cons (vs_forI (vi_rng1 T.z_range (ve_len T.z_len (ve_var 1))) (vg_name 6 ox) (vs_cons (vs_set 5 (ve_mod (ve_intC T.z_int (ve_add (ve_add (ve_mul (ve_var 5) ve_int) (ve_mul ve_int (ve_var 6))) ve_int)) ve_int) ox) <|
  (vs_cons (vs_set 7 (ve_mod (ve_intC T.z_int (ve_mul (ve_var 5) (ve_add (ve_fdiv (ve_var 5) ve_int) ve_int))) ve_int) ox) <|
  (vs_one (vs_app 2 (ve_mod (ve_intC T.z_int (ve_fdiv (ve_var 7) ve_int)) (ve_ix (ka := .ls) (ve_var 1) (ve_var 6))) ox)))) ox) <|
  (vs_cv (κ1 := [.im, .ln, .im, .im, .im, .im, .im, .im]) [(2, true)] (vs_one (vs_ret (ve_var 2))))))))))

theorem sc__law_cell : FnScope [("script" : Str), ("k" : Str), ("seed" : Str), ("cell" : Str)] [("script" : Str), ("k" : Str)] (defScope s__law_cell) := ⟨rfl, rfl, rfl, by decide +kernel, rfl, by decide +kernel, by decide +kernel⟩
abbrev b__law_cell : DS :=
  (sSeq (sIf (vT (v2 ltI (vVar 1) (v1 lenD (vVar 0)))) (sRet (v1 intD (v2 idxD (vVar 0) (vVar 1)))) sNil) <|
  (sSeq (sSet 2 (vC (.int 7))) <|
  (sSeq (sForI (vIt (vVar 0)) (tN 3) (sSet 2 (v2 modI (v1 intD (v2 addI (v2 mulI (vVar 2) (vC (.int 33))) (v2 modI (v1 intD (vVar 3)) (vC (.int 999983))))) (vC (.int 999983))))) <|
  (sRet (v2 modI (v1 intD (v2 mulI (v2 mulI (v2 addI (vVar 2) (vC (.int 11))) (v2 addI (vVar 1) (vC (.int 5)))) (vC (.int 48271)))) (vC (.int 2147483647)))))))
def e__law_cell (ds : List D) : Res D := runF 4 b__law_cell ds
theorem ok__law_cell (T : Tx wd mg ad fdt) : FnOk P w wd.K mg base (L2.CX P w) 1 (ad 1) (fdt 1) [("script" : Str), ("k" : Str)] (lift wd [.im, .im] e__law_cell) :=
  fn_lift (kl := [.im, .im]) (K2 := ⟨[.im, .im, .im, .im], [], []⟩) T._law_cell.F sc__law_cell rfl rfl rfl (fun cdv A outer s H E F0 hr =>
    have ox : Okx (cxOf (L2.CX P w) P w wd.K mg base [("script" : Str), ("k" : Str), ("seed" : Str), ("cell" : Str)] ("_law_cell" : Str) (defScope s__law_cell) (ad 1) cdv A outer s H E) ⟨wd, F0, H, E⟩ := okx_def sc__law_cell.nd
    (vs_cons (vs_if (vt_cmp c_lt (ve_var 1) (ve_len T.z_len (ve_var 0))) (vs_one (vs_ret (ve_intC T.z_int (ve_ix (ka := .im) (ve_var 0) (ve_var 1))))) vs_nil) <|
  (vs_cons (vs_set 2 ve_int ox) <|
  (vs_cons (vs_forI (vi_val (k := .im) (ve_var 0) rfl) (vg_name 3 ox) (vs_one (vs_set 2 (ve_mod (ve_intC T.z_int (ve_add (ve_mul (ve_var 2) ve_int) (ve_mod (ve_intC T.z_int (ve_var 3)) ve_int))) ve_int) ox)) ox) <|
  (vs_one (vs_ret (ve_mod (ve_intC T.z_int (ve_mul (ve_mul (ve_add (ve_var 2) ve_int) (ve_add (ve_var 1) ve_int)) ve_int)) ve_int)))))))

theorem sc_is_whole : FnScope [("value" : Str)] [("value" : Str)] (defScope s_is_whole) := ⟨rfl, rfl, rfl, by decide +kernel, rfl, by decide +kernel, by decide +kernel⟩
abbrev b_is_whole : DS :=
  (sRet (vAnd (v1 (isTy fInt) (vVar 0)) (v1 notB (v1 (isTy fBool) (vVar 0)))))
def e_is_whole (ds : List D) : Res D := runF 1 b_is_whole ds
theorem ok_is_whole (T : Tx wd mg ad fdt) : FnOk P w wd.K mg base (L2.CX P w) 1 (ad 2) (fdt 2) [("value" : Str)] (lift wd [.bo] e_is_whole) :=
  fn_lift (kl := []) (K2 := ⟨[.bo], [], []⟩) T.is_whole.F sc_is_whole rfl rfl rfl (fun cdv A outer s H E F0 hr =>
    have ox : Okx (cxOf (L2.CX P w) P w wd.K mg base [("value" : Str)] ("is_whole" : Str) (defScope s_is_whole) (ad 2) cdv A outer s H E) ⟨wd, F0, H, E⟩ := okx_def sc_is_whole.nd
    (vs_one (vs_ret (ve_and (ve_isInt T.z_isinstance T.z_int (ve_var 0)) (ve_one (ve_not (ve_isBool T.z_isinstance T.z_bool (ve_var 0))))))))

theorem sc_is_side_lot : FnScope [("many" : Str), ("lot" : Str)] [("many" : Str), ("lot" : Str)] (defScope s_is_side_lot) := ⟨rfl, rfl, rfl, by decide +kernel, rfl, by decide +kernel, by decide +kernel⟩
abbrev b_is_side_lot : DS :=
  (sRet (vAnd (vA e_is_whole (aCons (vVar 1) aNil)) (v3 ltI ltI (vC (.int 0)) (vVar 1) (v2 subI (v2 shlI (vC (.int 1)) (vVar 0)) (vC (.int 1))))))
def e_is_side_lot (ds : List D) : Res D := runF 2 b_is_side_lot ds
theorem ok_is_side_lot (T : Tx wd mg ad fdt) : FnOk P w wd.K mg base (L2.CX P w) 2 (ad 3) (fdt 3) [("many" : Str), ("lot" : Str)] (lift wd [.im, .bo] e_is_side_lot) :=
  fn_lift (kl := []) (K2 := ⟨[.im, .bo], [], []⟩) T.is_side_lot.F sc_is_side_lot rfl rfl rfl (fun cdv A outer s H E F0 hr =>
    have ox : Okx (cxOf (L2.CX P w) P w wd.K mg base [("many" : Str), ("lot" : Str)] ("is_side_lot" : Str) (defScope s_is_side_lot) (ad 3) cdv A outer s H E) ⟨wd, F0, H, E⟩ := okx_def sc_is_side_lot.nd
    (vs_one (vs_ret (ve_and (ve_call (ok_is_whole T) (hr.mono (by decide)) T.is_whole.g T.is_whole.k T.is_whole.B ox.ps (va_cons (ve_co (ve_var 1) .bord) va_nil)) (ve_one (ve_chain c_lt c_lt ve_int (ve_var 1) (ve_sub (ve_shl ve_int (ve_var 0)) ve_int)))))))

theorem sc_BadLot___init__ : FnScope [("self" : Str), ("lot" : Str)] [("self" : Str), ("lot" : Str)] (defScope s_BadLot___init__) := ⟨rfl, rfl, rfl, by decide +kernel, rfl, by decide +kernel, by decide +kernel⟩
theorem ok_BadLot___init__ (T : Tx wd mg ad fdt) : FnOk P w wd.K mg base (L2.CX P w) 1 (ad 4) (fdt 4) [("self" : Str), ("lot" : Str)] (spX (wd.ct ("BadLot" : Str)) [("lot" : Str)]) :=
  ok_x1 T.BadLot___init__.F sc_BadLot___init__ (xi_BadLot T) (fun X hN hS => pss_one (ps_ost (pe_var (i := 0) (by rw [hN]; rfl) (by rw [hS]; exact .inl rfl)) (pe_var (i := 1) (by rw [hN]; rfl) (by rw [hS]; exact .inl rfl))))

theorem sc_side : FnScope [("many" : Str), ("lot" : Str)] [("many" : Str), ("lot" : Str)] (defScope s_side) := ⟨rfl, rfl, rfl, by decide +kernel, rfl, by decide +kernel, by decide +kernel⟩
abbrev b_side : DS :=
  (sSeq (sIf (tNotD (vT (vA e_is_side_lot (aCons (vVar 0) (aCons (vVar 1) aNil))))) (fun δ => ((aCons (vVar 1) aNil) δ).bind fun ds => .exc ("BadLot" : Str) ([("lot" : Str)]).reverse ds.reverse) sNil) <|
  (sSeq (sIf (vT (v2 eqD (v2 andI (vVar 1) (vC (.int 1))) (vC (.int 1)))) (sRet (v2 subI (v2 subI (v2 shlI (vC (.int 1)) (vVar 0)) (vC (.int 1))) (vVar 1))) sNil) <|
  (sRet (vVar 1))))
def e_side (ds : List D) : Res D := runF 2 b_side ds
theorem ok_side (T : Tx wd mg ad fdt) : FnOk P w wd.K mg base (L2.CX P w) 3 (ad 5) (fdt 5) [("many" : Str), ("lot" : Str)] (lift wd [.im, .im] e_side) :=
  fn_lift (kl := []) (K2 := ⟨[.im, .im], [], []⟩) T.side.F sc_side rfl rfl rfl (fun cdv A outer s H E F0 hr =>
    have ox : Okx (cxOf (L2.CX P w) P w wd.K mg base [("many" : Str), ("lot" : Str)] ("side" : Str) (defScope s_side) (ad 5) cdv A outer s H E) ⟨wd, F0, H, E⟩ := okx_def sc_side.nd
    (vs_cons (vs_if (vt_not (vt_val (ve_call (ok_is_side_lot T) (hr.mono (by decide)) T.is_side_lot.g T.is_side_lot.k T.is_side_lot.B ox.ps (va_cons (ve_var 0) (va_cons (ve_co (ve_var 1) .imrd) va_nil))))) (vs_one (vs_raiseX (C := ("BadLot" : Str)) (fns := [("lot" : Str)]) ox takes_def (xi_BadLot T) T.BadLot___init__.at_ T.BadLot___init__.fnT (ok_BadLot___init__ T) (hr.mono (by decide)) T.BadLot___init__.B T.g_BadLot (va_cons (ve_var 1) va_nil))) vs_nil) <|
  (vs_cons (vs_if (vt_cmp (c_eq rfl hr) (ve_and_ (ve_var 1) ve_int) ve_int) (vs_one (vs_ret (ve_sub (ve_sub (ve_shl ve_int (ve_var 0)) ve_int) (ve_var 1)))) vs_nil) <|
  (vs_one (vs_ret (ve_var 1))))))

theorem sc_Book___init__ : FnScope [("self" : Str), ("many" : Str), ("lots" : Str), ("found" : Str), ("lot" : Str), ("one" : Str)] [("self" : Str), ("many" : Str), ("lots" : Str)] (defScope s_Book___init__) := ⟨rfl, rfl, rfl, by decide +kernel, rfl, by decide +kernel, by decide +kernel⟩
abbrev b_Book___init__ : DS :=
  (sSeq (sSet 3 (vA (fun ds => .ok (.lst ds)) aNil)) <|
  (sSeq (sForI (vIt (vVar 2)) (tN 4) (sSeq (sSet 5 (vA e_side (aCons (vVar 1) (aCons (vVar 4) aNil)))) <|
  (sIf (vT (v2 notInD (vVar 5) (vVar 3))) (sApp 3 (vVar 5)) sNil))) <|
  (sSeq (sFldI 0 ("Book" : Str) ("many" : Str) (vVar 1)) <|
  (sFldI 0 ("Book" : Str) ("sides" : Str) (v1 tupleLD (v1 sortedD (vVar 3)))))))
def e_Book___init__ (ds : List D) : Res D := runI 6 ("Book" : Str) b_Book___init__ ds
theorem ok_Book___init__ (T : Tx wd mg ad fdt) : FnOk P w wd.K mg base (L2.CX P w) 4 (ad 6) (fdt 6) [("self" : Str), ("many" : Str), ("lots" : Str)] (liftI wd ("Book" : Str) [.im, .ln] e_Book___init__) :=
  fn_liftI (kl := [.im, .im, .im]) (κn := fun y => [.me y, .im, .ln, .ow, .im, .im]) T.Book___init__.F sc_Book___init__ rfl rfl rfl (fun _ => rfl) (fun cdv A outer s H Hb E F0 y hr =>
    have ox : Okx (cxOf (L2.CX P w) P w wd.K mg base [("self" : Str), ("many" : Str), ("lots" : Str), ("found" : Str), ("lot" : Str), ("one" : Str)] ("Book.__init__" : Str) (defScope s_Book___init__) (ad 6) cdv A outer s H E) ⟨wd, F0, Hb, E⟩ := okx_def sc_Book___init__.nd
    (vs_cons (vs_setOwK (κ1 := [.me y, .im, .ln, .ow, .im, .im]) 3 (ve_lst va_nil) ox) <|
  (vs_cons (vs_forI (vi_val (k := .ls) (ve_var 2) rfl) (vg_name 4 ox) (vs_cons (vs_set 5 (ve_call (ok_side T) (hr.mono (by decide)) T.side.g T.side.k T.side.B ox.ps (va_cons (ve_var 1) (va_cons (ve_var 4) va_nil))) ox) <|
  (vs_one (vs_if (vt_cmp (c_notIn rfl hr) (ve_var 5) (ve_var 3)) (vs_one (vs_app 3 (ve_var 5) ox)) vs_nil))) ox) <|
  (vs_cons (vs_fld 0 ("Book" : Str) ⟨T.b_Book.cls, T.na_Book_many⟩ (ve_var 1) ox) <|
  (vs_one (vs_fld 0 ("Book" : Str) ⟨T.b_Book.cls, T.na_Book_sides⟩ (ve_tupleC T.z_tuple (ve_sorted T.z_sorted (ve_var 3))) ox))))))

theorem sc__law_bit : FnScope [("lot" : Str), ("number" : Str)] [("lot" : Str), ("number" : Str)] (defScope s__law_bit) := ⟨rfl, rfl, rfl, by decide +kernel, rfl, by decide +kernel, by decide +kernel⟩
abbrev b__law_bit : DS :=
  (sRet (v2 modI (v1 intD (v2 fdivI (vVar 0) (v2 shlI (vC (.int 1)) (vVar 1)))) (vC (.int 2))))
def e__law_bit (ds : List D) : Res D := runF 2 b__law_bit ds
theorem ok__law_bit (T : Tx wd mg ad fdt) : FnOk P w wd.K mg base (L2.CX P w) 1 (ad 7) (fdt 7) [("lot" : Str), ("number" : Str)] (lift wd [.im, .im] e__law_bit) :=
  fn_lift (kl := []) (K2 := ⟨[.im, .im], [], []⟩) T._law_bit.F sc__law_bit rfl rfl rfl (fun cdv A outer s H E F0 hr =>
    have ox : Okx (cxOf (L2.CX P w) P w wd.K mg base [("lot" : Str), ("number" : Str)] ("_law_bit" : Str) (defScope s__law_bit) (ad 7) cdv A outer s H E) ⟨wd, F0, H, E⟩ := okx_def sc__law_bit.nd
    (vs_one (vs_ret (ve_mod (ve_intC T.z_int (ve_fdiv (ve_var 0) (ve_shl ve_int (ve_var 1)))) ve_int))))

theorem sc__law_side : FnScope [("g" : Str), ("lot" : Str)] [("g" : Str), ("lot" : Str)] (defScope s__law_side) := ⟨rfl, rfl, rfl, by decide +kernel, rfl, by decide +kernel, by decide +kernel⟩
abbrev b__law_side : DS :=
  (sSeq (sIf (vT (v2 eqD (vA e__law_bit (aCons (vVar 1) (aCons (vC (.int 0)) aNil))) (vC (.int 1)))) (sRet (v2 subI (v2 subI (v2 shlI (vC (.int 1)) (vVar 0)) (vC (.int 1))) (vVar 1))) sNil) <|
  (sRet (vVar 1)))
def e__law_side (ds : List D) : Res D := runF 2 b__law_side ds
theorem ok__law_side (T : Tx wd mg ad fdt) : FnOk P w wd.K mg base (L2.CX P w) 2 (ad 8) (fdt 8) [("g" : Str), ("lot" : Str)] (lift wd [.im, .im] e__law_side) :=
  fn_lift (kl := []) (K2 := ⟨[.im, .im], [], []⟩) T._law_side.F sc__law_side rfl rfl rfl (fun cdv A outer s H E F0 hr =>
    have ox : Okx (cxOf (L2.CX P w) P w wd.K mg base [("g" : Str), ("lot" : Str)] ("_law_side" : Str) (defScope s__law_side) (ad 8) cdv A outer s H E) ⟨wd, F0, H, E⟩ := okx_def sc__law_side.nd
    (vs_cons (vs_if (vt_cmp (c_eq rfl hr) (ve_call (ok__law_bit T) (hr.mono (by decide)) T._law_bit.g T._law_bit.k T._law_bit.B ox.ps (va_cons (ve_var 1) (va_cons ve_int va_nil))) ve_int) (vs_one (vs_ret (ve_sub (ve_sub (ve_shl ve_int (ve_var 0)) ve_int) (ve_var 1)))) vs_nil) <|
  (vs_one (vs_ret (ve_var 1)))))

theorem sc__law_own : FnScope [("many" : Str), ("lots" : Str), ("found" : Str), ("lot" : Str), ("one" : Str)] [("many" : Str), ("lots" : Str)] (defScope s__law_own) := ⟨rfl, rfl, rfl, by decide +kernel, rfl, by decide +kernel, by decide +kernel⟩
abbrev b__law_own : DS :=
  (sSeq (sSet 2 (vA (fun ds => .ok (.lst ds)) aNil)) <|
  (sSeq (sForI (vIt (vVar 1)) (tN 3) (sSeq (sSet 4 (vA e__law_side (aCons (vVar 0) (aCons (vVar 3) aNil)))) <|
  (sIf (vT (v2 (inF true) (vVar 4) (vVar 2))) (sApp 2 (vVar 4)) sNil))) <|
  (sRet (v1 sortedD (vVar 2)))))
def e__law_own (ds : List D) : Res D := runF 5 b__law_own ds
theorem ok__law_own (T : Tx wd mg ad fdt) : FnOk P w wd.K mg base (L2.CX P w) 3 (ad 9) (fdt 9) [("many" : Str), ("lots" : Str)] (lift wd [.im, .ln] e__law_own) :=
  fn_lift (kl := [.im, .im, .im]) (K2 := ⟨[.im, .ln, .im, .im, .im], [], []⟩) T._law_own.F sc__law_own rfl rfl rfl (fun cdv A outer s H E F0 hr =>
    have ox : Okx (cxOf (L2.CX P w) P w wd.K mg base [("many" : Str), ("lots" : Str), ("found" : Str), ("lot" : Str), ("one" : Str)] ("_law_own" : Str) (defScope s__law_own) (ad 9) cdv A outer s H E) ⟨wd, F0, H, E⟩ := okx_def sc__law_own.nd
    (vs_cons (vs_setOwK (κ1 := [.im, .ln, .ow, .im, .im]) 2 (ve_lst va_nil) ox) <|
  (vs_cons (vs_forI (vi_val (k := .ls) (ve_var 1) rfl) (vg_name 3 ox) (vs_cons (vs_set 4 (ve_call (ok__law_side T) (hr.mono (by decide)) T._law_side.g T._law_side.k T._law_side.B ox.ps (va_cons (ve_var 0) (va_cons (ve_var 3) va_nil))) ox) <|
  (vs_one (vs_if (vt_cmp (c_notInF rfl) (ve_var 4) (ve_var 2)) (vs_one (vs_app 2 (ve_var 4) ox)) vs_nil))) ox) <|
  (vs_one (vs_ret (ve_fz (ve_sorted T.z_sorted (ve_var 2))))))))

theorem sc_Book___contains__ : FnScope [("self" : Str), ("lot" : Str)] [("self" : Str), ("lot" : Str)] (defScope s_Book___contains__) := ⟨rfl, rfl, rfl, by decide +kernel, rfl, by decide +kernel, by decide +kernel⟩
abbrev b_Book___contains__ : DS :=
  (sRet (vAnd (vA e_is_side_lot (aCons (v1 scD (v1 (getF [("Book" : Str)] ("many" : Str)) (vVar 0))) (aCons (vVar 1) aNil))) (v2 (inF false) (vA e_side (aCons (v1 scD (v1 (getF [("Book" : Str)] ("many" : Str)) (vVar 0))) (aCons (v1 scD (vVar 1)) aNil))) (v1 (getF [("Book" : Str)] ("sides" : Str)) (vVar 0)))))
def e_Book___contains__ (ds : List D) : Res D := runF 2 b_Book___contains__ ds
theorem ok_Book___contains__ (T : Tx wd mg ad fdt) : FnOk P w wd.K mg base (L2.CX P w) 4 (ad 10) (fdt 10) [("self" : Str), ("lot" : Str)] (lift wd [.bo, .bo] e_Book___contains__) :=
  fn_lift (kl := []) (K2 := ⟨[.bo, .bo], [], []⟩) T.Book___contains__.F sc_Book___contains__ rfl rfl rfl (fun cdv A outer s H E F0 hr =>
    have ox : Okx (cxOf (L2.CX P w) P w wd.K mg base [("self" : Str), ("lot" : Str)] ("Book.__contains__" : Str) (defScope s_Book___contains__) (ad 10) cdv A outer s H E) ⟨wd, F0, H, E⟩ := okx_def sc_Book___contains__.nd
    (vs_one (vs_ret (ve_and (ve_call (ok_is_side_lot T) (hr.mono (by decide)) T.is_side_lot.g T.is_side_lot.k T.is_side_lot.B ox.ps (va_cons (ve_sc (k := .bo) (by intro h; cases h) (ve_fld (ka := .bo) [("Book" : Str)] (ff_0 T) (ve_var 0))) (va_cons (ve_co (ve_var 1) .bord) va_nil))) (ve_one (ve_cmp (c_inF rfl) (ve_call (ok_side T) (hr.mono (by decide)) T.side.g T.side.k T.side.B ox.ps (va_cons (ve_sc (k := .bo) (by intro h; cases h) (ve_fld (ka := .bo) [("Book" : Str)] (ff_0 T) (ve_var 0))) (va_cons (ve_sc (k := .bo) (by intro h; cases h) (ve_var 1)) va_nil))) (ve_fld (ka := .bo) [("Book" : Str)] (ff_1 T) (ve_var 0))))))))

theorem sc__law_in : FnScope [("book" : Str), ("many" : Str), ("sides" : Str), ("full" : Str), ("lot" : Str), ("due" : Str), ("value" : Str)] [("book" : Str), ("many" : Str), ("sides" : Str)] (defScope s__law_in) := ⟨rfl, rfl, rfl, by decide +kernel, rfl, by decide +kernel, by decide +kernel⟩
abbrev b__law_in : DS :=
  (sSeq (sSet 3 (v2 subI (v2 shlI (vC (.int 1)) (vVar 1)) (vC (.int 1)))) <|
  (sSeq (sForI (vRng (v1 negI (vC (.int 2))) (v2 addI (vVar 3) (vC (.int 3)))) (tN 4) (sSeq (sSet 5 (vAnd (v3 ltI ltI (vC (.int 0)) (vVar 4) (vVar 3)) (v2 (inF false) (vA e__law_side (aCons (vVar 1) (aCons (vVar 4) aNil))) (vVar 2)))) <|
  (sIf (vT (v2 neD (v2 (ownIn false ("Book" : Str) e_Book___contains__) (vVar 4) (vVar 0)) (vVar 5))) (sRet (vC (.bl false))) sNil))) <|
  (sSeq (sForI (vIt (vA (fun ds => .ok (.lst ds)) (aCons (vC (.bl true)) (aCons (vC (.bl false)) (aCons (vC .non) (aCons (vC (.str ("2" : Str))) (aCons (vA (fun ds => .ok (.tup ds)) (aCons (vC (.int 2)) aNil)) (aCons (vA (fun ds => .ok (.lst ds)) (aCons (vC (.int 2)) aNil)) (aCons (v2 powI (vC (.int 10)) (vC (.int 20))) aNil))))))))) (tN 6) (sIf (vT (v2 (ownIn false ("Book" : Str) e_Book___contains__) (vVar 6) (vVar 0))) (sRet (vC (.bl false))) sNil)) <|
  (sRet (vC (.bl true))))))
def e__law_in (ds : List D) : Res D := runF 7 b__law_in ds
theorem ok__law_in (T : Tx wd mg ad fdt) : FnOk P w wd.K mg base (L2.CX P w) 5 (ad 11) (fdt 11) [("book" : Str), ("many" : Str), ("sides" : Str)] (lift wd [.im, .im, .ln] e__law_in) :=
  fn_lift (kl := [.im, .im, .im, .im]) (K2 := ⟨[.im, .im, .ln, .im, .im, .im, .im], [], []⟩) T._law_in.F sc__law_in rfl rfl rfl (fun cdv A outer s H E F0 hr =>
    have ox : Okx (cxOf (L2.CX P w) P w wd.K mg base [("book" : Str), ("many" : Str), ("sides" : Str), ("full" : Str), ("lot" : Str), ("due" : Str), ("value" : Str)] ("_law_in" : Str) (defScope s__law_in) (ad 11) cdv A outer s H E) ⟨wd, F0, H, E⟩ := okx_def sc__law_in.nd
    (vs_cons (vs_set 3 (ve_sub (ve_shl ve_int (ve_var 1)) ve_int) ox) <|
  (vs_cons (vs_forI (vi_rng T.z_range (ve_neg ve_int) (ve_add (ve_var 3) ve_int)) (vg_name 4 ox) (vs_cons (vs_set 5 (ve_and (ve_chain c_lt c_lt ve_int (ve_var 4) (ve_var 3)) (ve_one (ve_cmp (c_inF rfl) (ve_call (ok__law_side T) (hr.mono (by decide)) T._law_side.g T._law_side.k T._law_side.B ox.ps (va_cons (ve_var 1) (va_cons (ve_var 4) va_nil))) (ve_var 2)))) ox) <|
  (vs_one (vs_if (vt_cmp (c_ne rfl hr) (ve_cmp (c_inO (c := ("Book" : Str)) (ok_Book___contains__ T) (hr.mono (by decide)) T.Book___contains__.B ox.ps T.Book___contains__.at_ T.Book___contains__.fn) (ve_var 4) (ve_var 0)) (ve_var 5)) (vs_one (vs_ret ve_bl)) vs_nil))) ox) <|
  (vs_cons (vs_forI (vi_val (k := .im) (ve_fz (ve_lst (va_cons ve_bl (va_cons ve_bl (va_cons ve_non (va_cons ve_str (va_cons (ve_tup (va_cons ve_int va_nil)) (va_cons (ve_fz (ve_lst (va_cons ve_int va_nil))) (va_cons (ve_pow ve_int ve_int) va_nil))))))))) rfl) (vg_name 6 ox) (vs_one (vs_if (vt_cmp (c_inO (c := ("Book" : Str)) (ok_Book___contains__ T) (hr.mono (by decide)) T.Book___contains__.B ox.ps T.Book___contains__.at_ T.Book___contains__.fn) (ve_var 6) (ve_var 0)) (vs_one (vs_ret ve_bl)) vs_nil)) ox) <|
  (vs_one (vs_ret ve_bl))))))

theorem sc__law_whole : FnScope [("value" : Str)] [("value" : Str)] (defScope s__law_whole) := ⟨rfl, rfl, rfl, by decide +kernel, rfl, by decide +kernel, by decide +kernel⟩
abbrev b__law_whole : DS :=
  (sRet (vAnd (v1 (isTy fInt) (vVar 0)) (v1 notB (v1 (isTy fBool) (vVar 0)))))
def e__law_whole (ds : List D) : Res D := runF 1 b__law_whole ds
theorem ok__law_whole (T : Tx wd mg ad fdt) : FnOk P w wd.K mg base (L2.CX P w) 1 (ad 12) (fdt 12) [("value" : Str)] (lift wd [.bo] e__law_whole) :=
  fn_lift (kl := []) (K2 := ⟨[.bo], [], []⟩) T._law_whole.F sc__law_whole rfl rfl rfl (fun cdv A outer s H E F0 hr =>
    have ox : Okx (cxOf (L2.CX P w) P w wd.K mg base [("value" : Str)] ("_law_whole" : Str) (defScope s__law_whole) (ad 12) cdv A outer s H E) ⟨wd, F0, H, E⟩ := okx_def sc__law_whole.nd
    (vs_one (vs_ret (ve_and (ve_isInt T.z_isinstance T.z_int (ve_var 0)) (ve_one (ve_not (ve_isBool T.z_isinstance T.z_bool (ve_var 0))))))))

theorem sc_Book___len__ : FnScope [("self" : Str)] [("self" : Str)] (defScope s_Book___len__) := ⟨rfl, rfl, rfl, by decide +kernel, rfl, by decide +kernel, by decide +kernel⟩
abbrev b_Book___len__ : DS :=
  (sRet (v1 lenD (v1 (getF [("Book" : Str)] ("sides" : Str)) (vVar 0))))
def e_Book___len__ (ds : List D) : Res D := runF 1 b_Book___len__ ds
theorem ok_Book___len__ (T : Tx wd mg ad fdt) : FnOk P w wd.K mg base (L2.CX P w) 1 (ad 13) (fdt 13) [("self" : Str)] (lift wd [.bo] e_Book___len__) :=
  fn_lift (kl := []) (K2 := ⟨[.bo], [], []⟩) T.Book___len__.F sc_Book___len__ rfl rfl rfl (fun cdv A outer s H E F0 hr =>
    have ox : Okx (cxOf (L2.CX P w) P w wd.K mg base [("self" : Str)] ("Book.__len__" : Str) (defScope s_Book___len__) (ad 13) cdv A outer s H E) ⟨wd, F0, H, E⟩ := okx_def sc_Book___len__.nd
    (vs_one (vs_ret (ve_len T.z_len (ve_fld (ka := .bo) [("Book" : Str)] (ff_1 T) (ve_var 0))))))

theorem sc_Book___iter__ : FnScope [("self" : Str)] [("self" : Str)] (defScope s_Book___iter__) := ⟨rfl, rfl, rfl, by decide +kernel, rfl, by decide +kernel, by decide +kernel⟩
theorem oi_Book (T : Tx wd mg ad fdt) {X : Cx} (hK : X.K = wd.K := by rfl) (hm : X.mg = mg := by rfl) : OwnIt X 1 (wd.ct ("Book" : Str)) ("sides" : Str) (ad 14) (fdt 14) :=
  ⟨fun base => by rw [hK, hm]; exact ok_iter T.Book___iter__.F sc_Book___iter__ T.b_Book.cls T.na_Book_sides T.z_iter rfl (fun X h => by show X.env.scope.names.lookup _ = _; rw [h]; rfl) (fun X h => by rw [h]; exact .inl rfl) (fun _ => rfl) (fun _ => rfl), by rw [hK]; exact T.Book___iter__.at_, by rw [hK]; exact T.Book___iter__.fn, by rw [hK]; exact T.Book___iter__.B⟩
theorem ol_Book (T : Tx wd mg ad fdt) {X : Cx} (hK : X.K = wd.K := by rfl) (hm : X.mg = mg := by rfl) : OwnLn X 1 (wd.ct ("Book" : Str)) (ad 13) (fdt 13) ["self"] (lift wd [.bo] e_Book___len__) :=
  ⟨by rw [hK, hm]; exact ok_Book___len__ T, by rw [hK]; exact T.Book___len__.at_, by rw [hK]; exact T.Book___len__.fn, by rw [hK]; exact T.Book___len__.B⟩


theorem sc__law_is_book : FnScope [("book" : Str), ("many" : Str), ("sides" : Str), ("lot" : Str)] [("book" : Str), ("many" : Str), ("sides" : Str)] (defScope s__law_is_book) := ⟨rfl, rfl, rfl, by decide +kernel, rfl, by decide +kernel, by decide +kernel⟩
abbrev b__law_is_book : DS :=
  (sSeq (sIf (tOrD (tNotD (vT (v1 (isTy (fCls ("Book" : Str) ot_Book)) (vVar 0)))) (tOrD (tNotD (vT (vA e__law_whole (aCons (v1 (getF [("Book" : Str)] ("many" : Str)) (vVar 0)) aNil)))) (vT (v2 neD (v1 (getF [("Book" : Str)] ("many" : Str)) (vVar 0)) (vVar 1))))) (sRet (vC (.bl false))) sNil) <|
  (sSeq (sIf (tOrD (tNotD (vT (v1 (isTy fTup) (v1 (getF [("Book" : Str)] ("sides" : Str)) (vVar 0))))) (tOrD (vT (v2 neD (v1 listD (v1 (getF [("Book" : Str)] ("sides" : Str)) (vVar 0))) (vVar 2))) (vT (v2 neD (v1 (ownLen ("Book" : Str) e_Book___len__) (vVar 0)) (v1 lenD (vVar 2)))))) (sRet (vC (.bl false))) sNil) <|
  (sSeq (sForI (vIt (v1 (getF [("Book" : Str)] ("sides" : Str)) (vVar 0))) (tN 3) (sIf (tNotD (vT (vA e__law_whole (aCons (vVar 3) aNil)))) (sRet (vC (.bl false))) sNil)) <|
  (sRet (vAnd (v2 eqD (vLcI (fun δ => ((vVar 0) δ).bind (ownItems ("Book" : Str) ("sides" : Str))) (tN 3) tYesD (vVar 3) [3]) (vVar 2)) (v2 eqD (v1 (ownList ("Book" : Str) ("sides" : Str) e_Book___len__) (vVar 0)) (vVar 2)))))))
def e__law_is_book (ds : List D) : Res D := runF 4 b__law_is_book ds
theorem ok__law_is_book (T : Tx wd mg ad fdt) : FnOk P w wd.K mg base (L2.CX P w) 5 (ad 15) (fdt 15) [("book" : Str), ("many" : Str), ("sides" : Str)] (lift wd [.im, .im, .ln] e__law_is_book) :=
  fn_lift (kl := [.im]) (K2 := ⟨[.im, .im, .ln, .im], [], []⟩) T._law_is_book.F sc__law_is_book rfl rfl rfl (fun cdv A outer s H E F0 hr =>
    have ox : Okx (cxOf (L2.CX P w) P w wd.K mg base [("book" : Str), ("many" : Str), ("sides" : Str), ("lot" : Str)] ("_law_is_book" : Str) (defScope s__law_is_book) (ad 15) cdv A outer s H E) ⟨wd, F0, H, E⟩ := okx_def sc__law_is_book.nd
    (vs_cons (vs_if (vt_bool (vw_or (vt_not (vt_val (ve_isCls (it_Book T) T.z_isinstance T.g_Book (ve_var 0)))) (vw_or (vt_not (vt_val (ve_call (ok__law_whole T) (hr.mono (by decide)) T._law_whole.g T._law_whole.k T._law_whole.B ox.ps (va_cons (ve_co (ve_fld (ka := .im) [("Book" : Str)] (ff_0 T) (ve_var 0)) .imrd) va_nil)))) (vw_or1 (vt_cmp (c_ne rfl hr) (ve_fld (ka := .im) [("Book" : Str)] (ff_0 T) (ve_var 0)) (ve_var 1)))))) (vs_one (vs_ret ve_bl)) vs_nil) <|
  (vs_cons (vs_if (vt_bool (vw_or (vt_not (vt_val (ve_isTup T.z_isinstance T.z_tuple (ve_fld (ka := .im) [("Book" : Str)] (ff_1 T) (ve_var 0))))) (vw_or (vt_cmp (c_ne rfl hr) (ve_listC T.z_list (ve_fld (ka := .im) [("Book" : Str)] (ff_1 T) (ve_var 0))) (ve_var 2)) (vw_or1 (vt_cmp (c_ne rfl hr) (ve_ownLen (c := ("Book" : Str)) (ok_Book___len__ T) (hr.mono (by decide)) T.Book___len__.B ox.ps T.Book___len__.at_ T.Book___len__.fn T.z_len (ve_var 0)) (ve_len T.z_len (ve_var 2))))))) (vs_one (vs_ret ve_bl)) vs_nil) <|
  (vs_cons (vs_forI (vi_val (k := .im) (ve_fld (ka := .im) [("Book" : Str)] (ff_1 T) (ve_var 0)) rfl) (vg_name 3 ox) (vs_one (vs_if (vt_not (vt_val (ve_call (ok__law_whole T) (hr.mono (by decide)) T._law_whole.g T._law_whole.k T._law_whole.B ox.ps (va_cons (ve_co (ve_var 3) .imrd) va_nil)))) (vs_one (vs_ret ve_bl)) vs_nil)) ox) <|
  (vs_one (vs_ret (ve_and (ve_cmp (c_eq rfl hr) (ve_lcI ox (vi_own (oi_Book T) (hr.mono (by decide)) rfl (ve_var 0)) (ownS := [(("lot" : Str), 3)]) (blkOk_by (N := [("book" : Str), ("many" : Str), ("sides" : Str), ("lot" : Str)]) (sc := defScope s__law_is_book) (by decide +kernel)) (lcg_name 3) (fun _ _ _ _ _ => pg_name (i := 3) ox.nd rfl (by first | exact Or.inl rfl | exact Or.inr rfl)) (fun _ _ _ _ _ => vts_nil) (fun _ _ _ _ _ => (ve_var 3))) (ve_var 2)) (ve_one (ve_cmp (c_eq rfl hr) (ve_listOwn (oi_Book T) (ol_Book T) (hr.mono (by decide)) T.z_list (ve_var 0)) (ve_var 2))))))))))

theorem sc_check_counts : FnScope [("one" : Str), ("two" : Str)] [("one" : Str), ("two" : Str)] (defScope s_check_counts) := ⟨rfl, rfl, rfl, by decide +kernel, rfl, by decide +kernel, by decide +kernel⟩
abbrev b_check_counts : DS :=
  (sIf (vT (v2 neD (vVar 0) (vVar 1))) (fun _ => .exc ("CountsDiffer" : Str) [] []) sNil)
def e_check_counts (ds : List D) : Res D := runF 2 b_check_counts ds
theorem ok_check_counts (T : Tx wd mg ad fdt) : FnOk P w wd.K mg base (L2.CX P w) 1 (ad 16) (fdt 16) [("one" : Str), ("two" : Str)] (lift wd [.im, .im] e_check_counts) :=
  fn_lift (kl := []) (K2 := ⟨[.im, .im], [], []⟩) T.check_counts.F sc_check_counts rfl rfl rfl (fun cdv A outer s H E F0 hr =>
    have ox : Okx (cxOf (L2.CX P w) P w wd.K mg base [("one" : Str), ("two" : Str)] ("check_counts" : Str) (defScope s_check_counts) (ad 16) cdv A outer s H E) ⟨wd, F0, H, E⟩ := okx_def sc_check_counts.nd
    (vs_one (vs_if (vt_cmp (c_ne rfl hr) (ve_var 0) (ve_var 1)) (vs_one (vs_raiseT (C := ("CountsDiffer" : Str)) ox takes_def T.rt_CountsDiffer.q T.g_CountsDiffer T.rt_CountsDiffer.k T.rt_CountsDiffer.h1 T.rt_CountsDiffer.h2)) vs_nil)))

theorem sc_Book___sub__ : FnScope [("self" : Str), ("other" : Str), ("lot" : Str)] [("self" : Str), ("other" : Str)] (defScope s_Book___sub__) := ⟨rfl, rfl, rfl, by decide +kernel, rfl, by decide +kernel, by decide +kernel⟩
abbrev b_Book___sub__ : DS :=
  (sSeq (sExpr (vA e_check_counts (aCons (v1 (getF [("Book" : Str)] ("many" : Str)) (vVar 0)) (aCons (v1 (getF [("Book" : Str)] ("many" : Str)) (vVar 1)) aNil)))) <|
  (sRet (vA e_Book___init__ (aCons (v1 (getF [("Book" : Str)] ("many" : Str)) (vVar 0)) (aCons (vLcI (vIt (v1 (getF [("Book" : Str)] ("sides" : Str)) (vVar 0))) (tN 2) (vT (v2 (inF true) (vVar 2) (v1 (getF [("Book" : Str)] ("sides" : Str)) (vVar 1)))) (vVar 2) [2]) aNil)))))
def e_Book___sub__ (ds : List D) : Res D := runF 3 b_Book___sub__ ds
theorem ok_Book___sub__ (T : Tx wd mg ad fdt) : FnOk P w wd.K mg base (L2.CX P w) 6 (ad 17) (fdt 17) [("self" : Str), ("other" : Str)] (lift wd [.im, .im] e_Book___sub__) :=
  fn_lift (kl := [.im]) (K2 := ⟨[.im, .im, .im], [], []⟩) T.Book___sub__.F sc_Book___sub__ rfl rfl rfl (fun cdv A outer s H E F0 hr =>
    have ox : Okx (cxOf (L2.CX P w) P w wd.K mg base [("self" : Str), ("other" : Str), ("lot" : Str)] ("Book.__sub__" : Str) (defScope s_Book___sub__) (ad 17) cdv A outer s H E) ⟨wd, F0, H, E⟩ := okx_def sc_Book___sub__.nd
    (vs_cons (vs_expr (ve_call (ok_check_counts T) (hr.mono (by decide)) T.check_counts.g T.check_counts.k T.check_counts.B ox.ps (va_cons (ve_fld (ka := .im) [("Book" : Str)] (ff_0 T) (ve_var 0)) (va_cons (ve_fld (ka := .im) [("Book" : Str)] (ff_0 T) (ve_var 1)) va_nil)))) <|
  (vs_one (vs_ret (ve_make (C := ("Book" : Str)) (mk_Book T) (ok_Book___init__ T) (hr.mono (by decide)) T.g_Book T.Book___init__.B ox.ps (va_cons (ve_fld (ka := .im) [("Book" : Str)] (ff_0 T) (ve_var 0)) (va_cons (ve_co (ve_lcI ox (vi_val (k := .im) (ve_fld (ka := .im) [("Book" : Str)] (ff_1 T) (ve_var 0)) rfl) (ownS := [(("lot" : Str), 2)]) (blkOk_by (N := [("self" : Str), ("other" : Str), ("lot" : Str)]) (sc := defScope s_Book___sub__) (by decide +kernel)) (lcg_name 2) (fun _ _ _ _ _ => pg_name (i := 2) ox.nd rfl (by first | exact Or.inl rfl | exact Or.inr rfl)) (fun _ _ _ _ _ => (vts_one (vt_cmp (c_notInF rfl) (ve_var 2) (ve_fld (ka := .im) [("Book" : Str)] (ff_1 T) (ve_var 1))))) (fun _ _ _ _ _ => (ve_var 2))) .frsh) va_nil)))))))

theorem sc_Book___add__ : FnScope [("self" : Str), ("other" : Str)] [("self" : Str), ("other" : Str)] (defScope s_Book___add__) := ⟨rfl, rfl, rfl, by decide +kernel, rfl, by decide +kernel, by decide +kernel⟩
abbrev b_Book___add__ : DS :=
  (sSeq (sExpr (vA e_check_counts (aCons (v1 (getF [("Book" : Str)] ("many" : Str)) (vVar 0)) (aCons (v1 (getF [("Book" : Str)] ("many" : Str)) (vVar 1)) aNil)))) <|
  (sRet (vA e_Book___init__ (aCons (v1 (getF [("Book" : Str)] ("many" : Str)) (vVar 0)) (aCons (v2 catT (v1 (getF [("Book" : Str)] ("sides" : Str)) (vVar 0)) (v1 (getF [("Book" : Str)] ("sides" : Str)) (vVar 1))) aNil)))))
def e_Book___add__ (ds : List D) : Res D := runF 2 b_Book___add__ ds
theorem ok_Book___add__ (T : Tx wd mg ad fdt) : FnOk P w wd.K mg base (L2.CX P w) 6 (ad 18) (fdt 18) [("self" : Str), ("other" : Str)] (lift wd [.im, .im] e_Book___add__) :=
  fn_lift (kl := []) (K2 := ⟨[.im, .im], [], []⟩) T.Book___add__.F sc_Book___add__ rfl rfl rfl (fun cdv A outer s H E F0 hr =>
    have ox : Okx (cxOf (L2.CX P w) P w wd.K mg base [("self" : Str), ("other" : Str)] ("Book.__add__" : Str) (defScope s_Book___add__) (ad 18) cdv A outer s H E) ⟨wd, F0, H, E⟩ := okx_def sc_Book___add__.nd
    (vs_cons (vs_expr (ve_call (ok_check_counts T) (hr.mono (by decide)) T.check_counts.g T.check_counts.k T.check_counts.B ox.ps (va_cons (ve_fld (ka := .im) [("Book" : Str)] (ff_0 T) (ve_var 0)) (va_cons (ve_fld (ka := .im) [("Book" : Str)] (ff_0 T) (ve_var 1)) va_nil)))) <|
  (vs_one (vs_ret (ve_make (C := ("Book" : Str)) (mk_Book T) (ok_Book___init__ T) (hr.mono (by decide)) T.g_Book T.Book___init__.B ox.ps (va_cons (ve_fld (ka := .im) [("Book" : Str)] (ff_0 T) (ve_var 0)) (va_cons (ve_co (ve_catT (ve_fld (ka := .im) [("Book" : Str)] (ff_1 T) (ve_var 0)) (ve_fld (ka := .im) [("Book" : Str)] (ff_1 T) (ve_var 1))) .imsh) va_nil)))))))

theorem sc_Book___eq__ : FnScope [("self" : Str), ("other" : Str)] [("self" : Str), ("other" : Str)] (defScope s_Book___eq__) := ⟨rfl, rfl, rfl, by decide +kernel, rfl, by decide +kernel, by decide +kernel⟩
abbrev b_Book___eq__ : DS :=
  (sSeq (sIf (tNotD (vT (v1 (isTy (fCls ("Book" : Str) ot_Book)) (vVar 1)))) (sRet (vC (.bl false))) sNil) <|
  (sRet (vAnd (v2 eqD (v1 (getF [("Book" : Str)] ("many" : Str)) (vVar 0)) (v1 (getF [("Book" : Str)] ("many" : Str)) (vVar 1))) (v2 eqD (v1 (getF [("Book" : Str)] ("sides" : Str)) (vVar 0)) (v1 (getF [("Book" : Str)] ("sides" : Str)) (vVar 1))))))
def e_Book___eq__ (ds : List D) : Res D := runF 2 b_Book___eq__ ds
theorem ok_Book___eq__ (T : Tx wd mg ad fdt) : FnOk P w wd.K mg base (L2.CX P w) 1 (ad 19) (fdt 19) [("self" : Str), ("other" : Str)] (lift wd [.bo, .bo] e_Book___eq__) :=
  fn_lift (kl := []) (K2 := ⟨[.bo, .bo], [], []⟩) T.Book___eq__.F sc_Book___eq__ rfl rfl rfl (fun cdv A outer s H E F0 hr =>
    have ox : Okx (cxOf (L2.CX P w) P w wd.K mg base [("self" : Str), ("other" : Str)] ("Book.__eq__" : Str) (defScope s_Book___eq__) (ad 19) cdv A outer s H E) ⟨wd, F0, H, E⟩ := okx_def sc_Book___eq__.nd
    (vs_cons (vs_if (vt_not (vt_val (ve_isCls (it_Book T) T.z_isinstance T.g_Book (ve_var 1)))) (vs_one (vs_ret ve_bl)) vs_nil) <|
  (vs_one (vs_ret (ve_and (ve_cmp (c_eq rfl hr) (ve_fld (ka := .bo) [("Book" : Str)] (ff_0 T) (ve_var 0)) (ve_fld (ka := .bo) [("Book" : Str)] (ff_0 T) (ve_var 1))) (ve_one (ve_cmp (c_eq rfl hr) (ve_fld (ka := .bo) [("Book" : Str)] (ff_1 T) (ve_var 0)) (ve_fld (ka := .bo) [("Book" : Str)] (ff_1 T) (ve_var 1)))))))))

theorem sc_Book___ne__ : FnScope [("self" : Str), ("other" : Str)] [("self" : Str), ("other" : Str)] (defScope s_Book___ne__) := ⟨rfl, rfl, rfl, by decide +kernel, rfl, by decide +kernel, by decide +kernel⟩
abbrev b_Book___ne__ : DS :=
  (sRet (v1 notB (v2 (ownCmp ("Book" : Str) ot_Book e_Book___eq__) (vVar 0) (vVar 1))))
def e_Book___ne__ (ds : List D) : Res D := runF 2 b_Book___ne__ ds
theorem ok_Book___ne__ (T : Tx wd mg ad fdt) : FnOk P w wd.K mg base (L2.CX P w) 2 (ad 20) (fdt 20) [("self" : Str), ("other" : Str)] (lift wd [.bo, .bo] e_Book___ne__) :=
  fn_lift (kl := []) (K2 := ⟨[.bo, .bo], [], []⟩) T.Book___ne__.F sc_Book___ne__ rfl rfl rfl (fun cdv A outer s H E F0 hr =>
    have ox : Okx (cxOf (L2.CX P w) P w wd.K mg base [("self" : Str), ("other" : Str)] ("Book.__ne__" : Str) (defScope s_Book___ne__) (ad 20) cdv A outer s H E) ⟨wd, F0, H, E⟩ := okx_def sc_Book___ne__.nd
    (vs_one (vs_ret (ve_not (ve_cmp (c_eqO rfl (oc_Book T) (ok_Book___eq__ T) (hr.mono (by decide)) T.Book___eq__.B ox.ps T.Book___eq__.at_ T.Book___eq__.fn) (ve_var 0) (ve_var 1))))))

theorem sc__law_refusals : FnScope [("one" : Str), ("two" : Str), ("found" : Str), ("e" : Str)] [("one" : Str), ("two" : Str)] (defScope s__law_refusals) := ⟨rfl, rfl, rfl, by decide +kernel, rfl, by decide +kernel, by decide +kernel⟩
abbrev b__law_refusals : DS :=
  (sSeq (sSet 2 (vC (.int 0))) <|
  (sSeq (sTrySure 3 sub_k0 (fun δ => match (vVar 0) δ, (vVar 1) δ with | .ok x, .ok y => ownBin ("Book" : Str) e_Book___add__ x y | _, _ => .bad) ("CountsDiffer" : Str) (sSet 2 (v2 addI (vVar 2) (v1 intD (vAnd (v1 (isX tb_k1) (vVar 3)) (v1 notB (v1 (isX tb_k0) (vVar 3)))))))) <|
  (sSeq (sTrySure 3 sub_k0 (fun δ => match (vVar 0) δ, (vVar 1) δ with | .ok x, .ok y => ownBin ("Book" : Str) e_Book___sub__ x y | _, _ => .bad) ("CountsDiffer" : Str) (sSet 2 (v2 addI (vVar 2) (v1 intD (vAnd (v1 (isX tb_k1) (vVar 3)) (v1 notB (v1 (isX tb_k0) (vVar 3)))))))) <|
  (sRet (vVar 2)))))
def e__law_refusals (ds : List D) : Res D := runF 4 b__law_refusals ds
theorem ok__law_refusals (T : Tx wd mg ad fdt) : FnOk P w wd.K mg base (L2.CX P w) 7 (ad 21) (fdt 21) [("one" : Str), ("two" : Str)] (lift wd [.im, .im] e__law_refusals) :=
  fn_lift (kl := [.im, .im]) (K2 := ⟨[.im, .im, .im, .im], [], []⟩) T._law_refusals.F sc__law_refusals rfl rfl rfl (fun cdv A outer s H E F0 hr =>
    have ox : Okx (cxOf (L2.CX P w) P w wd.K mg base [("one" : Str), ("two" : Str), ("found" : Str), ("e" : Str)] ("_law_refusals" : Str) (defScope s__law_refusals) (ad 21) cdv A outer s H E) ⟨wd, F0, H, E⟩ := okx_def sc__law_refusals.nd
    (vs_cons (vs_set 2 ve_int ox) <|
  (vs_cons (vs_trySure 3 ox takes_def (sub_k0_ok T) (fun W pn xe tk => pss_sure (pe_ownBR (c := ("Book" : Str)) tk (ok_Book___add__ T) (hr.mono (by decide)) T.Book___add__.B T.b_Book.sf T.Book___add__.at_ T.Book___add__.fn (ve_var 0) (ve_var 1)) (c_eqO (g := ⟨wd, F0, H, E0⟩) rfl (oc_Book T) (ok_Book___eq__ T) (hr.mono (by decide)) T.Book___eq__.B passL T.Book___eq__.at_ T.Book___eq__.fn : CmpR _ ⟨wd, F0, H, E0⟩ _ .im .im _) (ve_var 0)) T.g_CountsDiffer (fun _ _ => vs_one (vs_setN 2 (ve_add (ve_var 2) (ve_intC T.z_int (ve_and (ve_isX tb_k1 (.own _) (pe_glob (v := .ref (wd.ct ("TownError" : Str))) rfl T.g_TownError rfl) (hx_k1 T) T.z_isinstance (ve_var 3)) (ve_one (ve_not (ve_isX tb_k0 (.own _) (pe_glob (v := .ref (wd.ct ("BadLot" : Str))) rfl T.g_BadLot rfl) (hx_k0 T) T.z_isinstance (ve_var 3))))))) sc__law_refusals.nd))) <|
  (vs_cons (vs_trySure 3 ox takes_def (sub_k0_ok T) (fun W pn xe tk => pss_sure (pe_ownBR (c := ("Book" : Str)) tk (ok_Book___sub__ T) (hr.mono (by decide)) T.Book___sub__.B T.b_Book.sf T.Book___sub__.at_ T.Book___sub__.fn (ve_var 0) (ve_var 1)) (c_eqO (g := ⟨wd, F0, H, E0⟩) rfl (oc_Book T) (ok_Book___eq__ T) (hr.mono (by decide)) T.Book___eq__.B passL T.Book___eq__.at_ T.Book___eq__.fn : CmpR _ ⟨wd, F0, H, E0⟩ _ .im .im _) (ve_var 0)) T.g_CountsDiffer (fun _ _ => vs_one (vs_setN 2 (ve_add (ve_var 2) (ve_intC T.z_int (ve_and (ve_isX tb_k1 (.own _) (pe_glob (v := .ref (wd.ct ("TownError" : Str))) rfl T.g_TownError rfl) (hx_k1 T) T.z_isinstance (ve_var 3)) (ve_one (ve_not (ve_isX tb_k0 (.own _) (pe_glob (v := .ref (wd.ct ("BadLot" : Str))) rfl T.g_BadLot rfl) (hx_k0 T) T.z_isinstance (ve_var 3))))))) sc__law_refusals.nd))) <|
  (vs_one (vs_ret (ve_var 2)))))))

theorem sc__law_apart : FnScope [("book" : Str), ("many" : Str), ("other" : Str), ("mine" : Str), ("lots" : Str), ("strange" : Str)] [("book" : Str), ("many" : Str), ("other" : Str)] (defScope s__law_apart) := ⟨rfl, rfl, rfl, by decide +kernel, rfl, by decide +kernel, by decide +kernel⟩
abbrev b__law_apart : DS :=
  (sSeq (sForI (vIt (vA (fun ds => .ok (.lst ds)) (aCons (vVar 0) (aCons (vA e_Book___init__ (aCons (vVar 1) (aCons (vA (fun ds => .ok (.lst ds)) aNil) aNil))) (aCons (vA e_Book___init__ (aCons (vVar 1) (aCons (vA (fun ds => .ok (.lst ds)) (aCons (vC (.int 2)) aNil)) aNil))) aNil))))) (tN 3) (sForI (vIt (vA (fun ds => .ok (.lst ds)) (aCons (vA (fun ds => .ok (.lst ds)) (aCons (vC (.int 2)) aNil)) (aCons (vA (fun ds => .ok (.lst ds)) aNil) aNil)))) (tN 4) (sSeq (sSet 5 (vA e_Book___init__ (aCons (vVar 2) (aCons (vVar 4) aNil)))) <|
  (sSeq (sIf (tOrD (vT (v2 isNotB (v2 (ownCmp ("Book" : Str) ot_Book e_Book___eq__) (vVar 3) (vVar 5)) (vC (.bl false)))) (vT (v2 isNotB (v2 (ownCmp ("Book" : Str) ot_Book e_Book___ne__) (vVar 5) (vVar 3)) (vC (.bl true))))) (sRet (vC (.bl false))) sNil) <|
  (sSeq (sIf (tOrD (vT (v2 neD (vA e__law_refusals (aCons (vVar 3) (aCons (vVar 5) aNil))) (vC (.int 2)))) (vT (v2 neD (vA e__law_refusals (aCons (vVar 5) (aCons (vVar 3) aNil))) (vC (.int 2))))) (sRet (vC (.bl false))) sNil) <|
  (sIf (tNotD (vT (vA e__law_is_book (aCons (vVar 5) (aCons (vVar 2) (aCons (vVar 4) aNil)))))) (sRet (vC (.bl false))) sNil)))))) <|
  (sRet (vC (.bl true))))
def e__law_apart (ds : List D) : Res D := runF 6 b__law_apart ds
theorem ok__law_apart (T : Tx wd mg ad fdt) : FnOk P w wd.K mg base (L2.CX P w) 8 (ad 22) (fdt 22) [("book" : Str), ("many" : Str), ("other" : Str)] (lift wd [.im, .im, .im] e__law_apart) :=
  fn_lift (kl := [.im, .im, .im]) (K2 := ⟨[.im, .im, .im, .im, .im, .im], [], []⟩) T._law_apart.F sc__law_apart rfl rfl rfl (fun cdv A outer s H E F0 hr =>
    have ox : Okx (cxOf (L2.CX P w) P w wd.K mg base [("book" : Str), ("many" : Str), ("other" : Str), ("mine" : Str), ("lots" : Str), ("strange" : Str)] ("_law_apart" : Str) (defScope s__law_apart) (ad 22) cdv A outer s H E) ⟨wd, F0, H, E⟩ := okx_def sc__law_apart.nd
    (vs_cons (vs_forI (vi_val (k := .im) (ve_fz (ve_lst (va_cons (ve_var 0) (va_cons (ve_make (C := ("Book" : Str)) (mk_Book T) (ok_Book___init__ T) (hr.mono (by decide)) T.g_Book T.Book___init__.B ox.ps (va_cons (ve_var 1) (va_cons (ve_co (ve_lst va_nil) .frsh) va_nil))) (va_cons (ve_make (C := ("Book" : Str)) (mk_Book T) (ok_Book___init__ T) (hr.mono (by decide)) T.g_Book T.Book___init__.B ox.ps (va_cons (ve_var 1) (va_cons (ve_co (ve_lst (va_cons ve_int va_nil)) .frsh) va_nil))) va_nil))))) rfl) (vg_name 3 ox) (vs_one (vs_forI (vi_val (k := .im) (ve_fz (ve_lst (va_cons (ve_fz (ve_lst (va_cons ve_int va_nil))) (va_cons (ve_fz (ve_lst va_nil)) va_nil)))) rfl) (vg_name 4 ox) (vs_cons (vs_set 5 (ve_make (C := ("Book" : Str)) (mk_Book T) (ok_Book___init__ T) (hr.mono (by decide)) T.g_Book T.Book___init__.B ox.ps (va_cons (ve_var 2) (va_cons (ve_co (ve_var 4) .imsh) va_nil))) ox) <|
  (vs_cons (vs_if (vt_bool (vw_or (vt_cmp c_isNotB (ve_cmp (c_eqO rfl (oc_Book T) (ok_Book___eq__ T) (hr.mono (by decide)) T.Book___eq__.B ox.ps T.Book___eq__.at_ T.Book___eq__.fn) (ve_var 3) (ve_var 5)) ve_bl) (vw_or1 (vt_cmp c_isNotB (ve_cmp (c_neO rfl (oc_Book T) (ok_Book___ne__ T) (hr.mono (by decide)) T.Book___ne__.B ox.ps T.Book___ne__.at_ T.Book___ne__.fn) (ve_var 5) (ve_var 3)) ve_bl)))) (vs_one (vs_ret ve_bl)) vs_nil) <|
  (vs_cons (vs_if (vt_bool (vw_or (vt_cmp (c_ne rfl hr) (ve_call (ok__law_refusals T) (hr.mono (by decide)) T._law_refusals.g T._law_refusals.k T._law_refusals.B ox.ps (va_cons (ve_var 3) (va_cons (ve_var 5) va_nil))) ve_int) (vw_or1 (vt_cmp (c_ne rfl hr) (ve_call (ok__law_refusals T) (hr.mono (by decide)) T._law_refusals.g T._law_refusals.k T._law_refusals.B ox.ps (va_cons (ve_var 5) (va_cons (ve_var 3) va_nil))) ve_int)))) (vs_one (vs_ret ve_bl)) vs_nil) <|
  (vs_one (vs_if (vt_not (vt_val (ve_call (ok__law_is_book T) (hr.mono (by decide)) T._law_is_book.g T._law_is_book.k T._law_is_book.B ox.ps (va_cons (ve_var 5) (va_cons (ve_var 2) (va_cons (ve_co (ve_var 4) .imsh) va_nil)))))) (vs_one (vs_ret ve_bl)) vs_nil))))) ox)) ox) <|
  (vs_one (vs_ret ve_bl))))

theorem sc__law_refused : FnScope [("many" : Str), ("lots" : Str), ("e" : Str)] [("many" : Str), ("lots" : Str)] (defScope s__law_refused) := ⟨rfl, rfl, rfl, by decide +kernel, rfl, by decide +kernel, by decide +kernel⟩
abbrev b__law_refused : DS :=
  (sSeq (sTry 3 sub_k1 (sExpr (vA e_Book___init__ (aCons (vVar 0) (aCons (vVar 1) aNil)))) [⟨("BadLot" : Str), some 2, (sSeq (sIf (tOrD (vT (v1 (isX tb_k3) (vVar 2))) (tNotD (vT (v1 (isX tb_k2) (vVar 2))))) (sRet (vC (.str ("other" : Str)))) sNil) <|
  (sRet (vA (fun ds => .ok (.lst ds)) (aCons (v1 (getX [("BadLot" : Str)] ("lot" : Str)) (vVar 2)) aNil))))⟩]) <|
  (sRet (vC (.str ("none" : Str)))))
def e__law_refused (ds : List D) : Res D := runF 3 b__law_refused ds
theorem ok__law_refused (T : Tx wd mg ad fdt) : FnOk P w wd.K mg base (L2.CX P w) 6 (ad 23) (fdt 23) [("many" : Str), ("lots" : Str)] (lift wd [.im, .ln] e__law_refused) :=
  fn_lift (kl := [.im]) (K2 := ⟨[.im, .ln, .im], [], []⟩) T._law_refused.F sc__law_refused rfl rfl rfl (fun cdv A outer s H E F0 hr =>
    have ox : Okx (cxOf (L2.CX P w) P w wd.K mg base [("many" : Str), ("lots" : Str), ("e" : Str)] ("_law_refused" : Str) (defScope s__law_refused) (ad 23) cdv A outer s H E) ⟨wd, F0, H, E⟩ := okx_def sc__law_refused.nd
    (vs_cons (vs_try (n := 3) ox takes_def rfl (sub_k1_ok T) (fun pn xe E ox => (vs_one (vs_expr (ve_make (C := ("Book" : Str)) (mk_Book T) (ok_Book___init__ T) (hr.mono (by decide)) T.g_Book T.Book___init__.B ox.ps (va_cons (ve_var 0) (va_cons (ve_co (ve_var 1) .lssh) va_nil)))))) (HdV.cons T.g_BadLot rfl (by decide) ⟨rfl, rfl⟩ (fun _ _ => (vs_cons (vs_if (vt_bool (vw_or (vt_val (ve_isX tb_k3 (.own _) (pe_glob (v := .ref (wd.ct ("CountsDiffer" : Str))) rfl T.g_CountsDiffer rfl) (hx_k3 T) T.z_isinstance (ve_var 2))) (vw_or1 (vt_not (vt_val (ve_isX tb_k2 (.own _) (pe_glob (v := .ref (wd.ct ("TownError" : Str))) rfl T.g_TownError rfl) (hx_k2 T) T.z_isinstance (ve_var 2))))))) (vs_one (vs_ret ve_str)) vs_nil) <|
  (vs_one (vs_ret (ve_fz (ve_lst (va_cons (ve_xf [("BadLot" : Str)] (xf_0 T) (ve_var 2)) va_nil))))))) HdV.nil)) <|
  (vs_one (vs_ret ve_str))))

theorem sc_law : FnScope [("script" : Str), ("row" : Str), ("many" : Str), ("full" : Str), ("cells" : Str), ("lots" : Str), ("others" : Str), ("handed" : Str), ("book" : Str), ("other" : Str), ("sides" : Str), ("besides" : Str), ("both" : Str), ("left" : Str), ("again" : Str), ("value" : Str), ("alike" : Str), ("unlike" : Str), ("bad" : Str), ("spot" : Str), ("spoilt" : Str), ("cell" : Str), ("lot" : Str), ("k" : Str)] [("script" : Str)] (defScope s_law) := ⟨rfl, rfl, rfl, by decide +kernel, rfl, by decide +kernel, by decide +kernel⟩
abbrev b_law : DS :=
  (sSeq (sSet 1 (vA e__law_digits (aCons (vA e__law_cell (aCons (vVar 0) (aCons (vC (.int 0)) aNil))) (aCons (vA (fun ds => .ok (.lst ds)) (aCons (vC (.int 5)) (aCons (vC (.int 11)) (aCons (vC (.int 11)) (aCons (vC (.int 4)) (aCons (vC (.int 9)) (aCons (vC (.int 9)) (aCons (vC (.int 64)) (aCons (vC (.int 8)) aNil))))))))) aNil)))) <|
  (sSeq (sSet 2 (v2 addI (vC (.int 2)) (v2 idxD (vVar 1) (vC (.int 0))))) <|
  (sSeq (sSet 3 (v2 subI (v2 shlI (vC (.int 1)) (vVar 2)) (vC (.int 1)))) <|
  (sSeq (sSet 4 (vA e__law_digits (aCons (vA e__law_cell (aCons (vVar 0) (aCons (vC (.int 1)) aNil))) (aCons (v2 repL (vA (fun ds => .ok (.lst ds)) (aCons (v2 subI (vVar 3) (vC (.int 1))) aNil)) (vC (.int 22))) aNil)))) <|
  (sSeq (sSet 5 (vLcI (vIt (vSl sliceLD (vVar 4) oNone (oSome (v2 idxD (vVar 1) (vC (.int 1)))))) (tN 21) tYesD (v2 addI (vC (.int 1)) (vVar 21)) [21])) <|
  (sSeq (sSet 6 (vLcI (vIt (vSl sliceLD (vVar 4) (oSome (vC (.int 11))) (oSome (v2 addI (vC (.int 11)) (v2 idxD (vVar 1) (vC (.int 2))))))) (tN 21) tYesD (v2 addI (vC (.int 1)) (vVar 21)) [21])) <|
  (sSeq (sIf (vT (v2 eqD (v2 idxD (vVar 1) (vC (.int 3))) (vC (.int 1)))) (sSet 5 (v2 catL (v2 catL (vVar 5) (vLcI (vIt (vSl sliceLD (vVar 5) oNone (oSome (vC (.int 3))))) (tN 22) tYesD (v2 subI (vVar 3) (vVar 22)) [22])) (vSl sliceLD (vVar 5) oNone (oSome (vC (.int 2)))))) sNil) <|
  (sSeq (sIf (vT (v2 eqD (v2 idxD (vVar 1) (vC (.int 7))) (vC (.int 5)))) (sSet 5 (vLcI (vRng1 (v2 subI (vVar 3) (vC (.int 1)))) (tN 23) tYesD (v2 addI (vC (.int 1)) (v2 modI (v1 intD (v2 addI (v2 idxD (vVar 1) (vC (.int 6))) (vVar 23))) (v2 subI (vVar 3) (vC (.int 1))))) [23])) sNil) <|
  (sSeq (sSet 7 (v1 listD (vVar 5))) <|
  (sSeq (sSet 8 (vA e_Book___init__ (aCons (vVar 2) (aCons (vVar 7) aNil)))) <|
  (sSeq (sSet 9 (vA e_Book___init__ (aCons (vVar 2) (aCons (v1 tupleD (vVar 6)) aNil)))) <|
  (sSeq (sSet 10 (vA e__law_own (aCons (vVar 2) (aCons (vVar 5) aNil)))) <|
  (sSeq (sSet 11 (vA e__law_own (aCons (vVar 2) (aCons (vVar 6) aNil)))) <|
  (sSeq (sIf (vT (v2 neD (vVar 7) (vVar 5))) (sRet (vC (.bl false))) sNil) <|
  (sSeq (sApp 7 (vC (.int 1))) <|
  (sSeq (sRev 7) <|
  (sSeq (sIf (tOrD (tNotD (vT (vA e__law_is_book (aCons (vVar 8) (aCons (vVar 2) (aCons (vVar 10) aNil)))))) (tOrD (tNotD (vT (vA e__law_is_book (aCons (vVar 9) (aCons (vVar 2) (aCons (vVar 11) aNil)))))) (tNotD (vT (vA e__law_in (aCons (vVar 8) (aCons (vVar 2) (aCons (vVar 10) aNil)))))))) (sRet (vC (.bl false))) sNil) <|
  (sSeq (sSet 12 (v1 sortedD (v2 catL (vVar 10) (vLcI (vIt (vVar 11)) (tN 22) (vT (v2 (inF true) (vVar 22) (vVar 10))) (vVar 22) [22])))) <|
  (sSeq (sSet 13 (vLcI (vIt (vVar 10)) (tN 22) (vT (v2 (inF true) (vVar 22) (vVar 11))) (vVar 22) [22])) <|
  (sSeq (sIf (tOrD (tNotD (vT (vA e__law_is_book (aCons (v2 (ownBin ("Book" : Str) e_Book___add__) (vVar 8) (vVar 9)) (aCons (vVar 2) (aCons (vVar 12) aNil)))))) (tNotD (vT (vA e__law_is_book (aCons (v2 (ownBin ("Book" : Str) e_Book___sub__) (vVar 8) (vVar 9)) (aCons (vVar 2) (aCons (vVar 13) aNil))))))) (sRet (vC (.bl false))) sNil) <|
  (sSeq (sIf (tOrD (tNotD (vT (vA e__law_is_book (aCons (v2 (ownBin ("Book" : Str) e_Book___add__) (vVar 8) (vVar 8)) (aCons (vVar 2) (aCons (vVar 10) aNil)))))) (tNotD (vT (vA e__law_is_book (aCons (v2 (ownBin ("Book" : Str) e_Book___sub__) (vVar 8) (vVar 8)) (aCons (vVar 2) (aCons (vA (fun ds => .ok (.lst ds)) aNil) aNil))))))) (sRet (vC (.bl false))) sNil) <|
  (sSeq (sSet 14 (vA e_Book___init__ (aCons (vVar 2) (aCons (vLcI (vRev (vVar 5)) (tN 22) tYesD (v2 subI (vVar 3) (vVar 22)) [22]) aNil)))) <|
  (sSeq (sIf (tOrD (vT (v2 isNotB (v2 (ownCmp ("Book" : Str) ot_Book e_Book___eq__) (vVar 8) (vVar 14)) (vC (.bl true)))) (vT (v2 isNotB (v2 (ownCmp ("Book" : Str) ot_Book e_Book___ne__) (vVar 8) (vVar 14)) (vC (.bl false))))) (sRet (vC (.bl false))) sNil) <|
  (sSeq (sForI (vIt (vA (fun ds => .ok (.lst ds)) (aCons (v1 listD (vVar 10)) (aCons (v1 tupleD (vVar 10)) (aCons (vSl sliceLD (vVar 10) oNone (oSome (vC (.int 1)))) (aCons (vC (.str ("2" : Str))) (aCons (vVar 2) aNil))))))) (tN 15) (sIf (tOrD (vT (v2 isNotB (v2 (ownCmp ("Book" : Str) ot_Book e_Book___eq__) (vVar 8) (vVar 15)) (vC (.bl false)))) (vT (v2 isNotB (v2 (ownCmp ("Book" : Str) ot_Book e_Book___ne__) (vVar 8) (vVar 15)) (vC (.bl true))))) (sRet (vC (.bl false))) sNil)) <|
  (sSeq (sSet 16 (v2 (ownCmp ("Book" : Str) ot_Book e_Book___eq__) (vVar 8) (vVar 9))) <|
  (sSeq (sSet 17 (v2 (ownCmp ("Book" : Str) ot_Book e_Book___ne__) (vVar 8) (vVar 9))) <|
  (sSeq (sIf (tOrD (tNotD (vT (v1 (isTy fBool) (vVar 16)))) (tOrD (tNotD (vT (v1 (isTy fBool) (vVar 17)))) (tOrD (vT (v2 neD (vVar 16) (v2 eqD (vVar 10) (vVar 11)))) (vT (v2 eqD (vVar 17) (vVar 16)))))) (sRet (vC (.bl false))) sNil) <|
  (sSeq (sIf (tNotD (vT (vA e__law_apart (aCons (vVar 8) (aCons (vVar 2) (aCons (v2 addI (vC (.int 2)) (v2 modI (v1 intD (v2 addI (v2 idxD (vVar 1) (vC (.int 0))) (vC (.int 1)))) (vC (.int 5)))) aNil)))))) (sRet (vC (.bl false))) sNil) <|
  (sSeq (sSet 18 (vA (fun ds => .ok (.lst ds)) (aCons (vC (.int 0)) (aCons (vVar 3) (aCons (v2 addI (vVar 3) (vC (.int 1))) (aCons (v1 negI (vC (.int 1))) (aCons (vC (.bl true)) (aCons (vC (.bl false)) (aCons (vC .non) (aCons (vC (.str ("2" : Str))) (aCons (vA (fun ds => .ok (.lst ds)) (aCons (vC (.int 2)) aNil)) aNil))))))))))) <|
  (sSeq (sSet 19 (v2 modI (v1 intD (v2 idxD (vVar 1) (vC (.int 6)))) (v2 addI (v1 lenD (vVar 5)) (vC (.int 1))))) <|
  (sSeq (sSet 20 (v2 catL (v2 catL (v2 catL (vSl sliceLD (vVar 5) oNone (oSome (vVar 19))) (vA (fun ds => .ok (.lst ds)) (aCons (v2 idxD (vVar 18) (v2 idxD (vVar 1) (vC (.int 4)))) aNil))) (vSl sliceLD (vVar 5) (oSome (vVar 19)) oNone)) (vA (fun ds => .ok (.lst ds)) (aCons (v2 idxD (vVar 18) (v2 idxD (vVar 1) (vC (.int 5)))) aNil)))) <|
  (sSeq (sIf (vT (v2 neD (vA e__law_refused (aCons (vVar 2) (aCons (vVar 20) aNil))) (vA (fun ds => .ok (.lst ds)) (aCons (v2 idxD (vVar 18) (v2 idxD (vVar 1) (vC (.int 4)))) aNil)))) (sRet (vC (.bl false))) sNil) <|
  (sRet (vAnd (vA e__law_is_book (aCons (vVar 8) (aCons (vVar 2) (aCons (vVar 10) aNil)))) (vA e__law_is_book (aCons (vVar 9) (aCons (vVar 2) (aCons (vVar 11) aNil))))))))))))))))))))))))))))))))))))))
def e_law (ds : List D) : Res D := runF 24 b_law ds
theorem ok_law (T : Tx wd mg ad fdt) : FnOk P w wd.K mg base (L2.CX P w) 9 (ad 24) (fdt 24) [("script" : Str)] (lift wd [.im] e_law) :=
  fn_lift (kl := [.im, .im, .im, .im, .im, .im, .im, .im, .im, .im, .im, .im, .im, .im, .im, .im, .im, .im, .im, .im, .im, .im, .im]) (K2 := ⟨[.im, .im, .im, .im, .im, .im, .im, .im, .im, .im, .im, .im, .im, .im, .im, .im, .im, .im, .im, .im, .im, .im, .im, .im], [], []⟩) T.law.F sc_law rfl rfl rfl (fun cdv A outer s H E F0 hr =>
    have ox : Okx (cxOf (L2.CX P w) P w wd.K mg base [("script" : Str), ("row" : Str), ("many" : Str), ("full" : Str), ("cells" : Str), ("lots" : Str), ("others" : Str), ("handed" : Str), ("book" : Str), ("other" : Str), ("sides" : Str), ("besides" : Str), ("both" : Str), ("left" : Str), ("again" : Str), ("value" : Str), ("alike" : Str), ("unlike" : Str), ("bad" : Str), ("spot" : Str), ("spoilt" : Str), ("cell" : Str), ("lot" : Str), ("k" : Str)] ("law" : Str) (defScope s_law) (ad 24) cdv A outer s H E) ⟨wd, F0, H, E⟩ := okx_def sc_law.nd
    (vs_cons (vs_set 1 (ve_call (ok__law_digits T) (hr.mono (by decide)) T._law_digits.g T._law_digits.k T._law_digits.B ox.ps (va_cons (ve_call (ok__law_cell T) (hr.mono (by decide)) T._law_cell.g T._law_cell.k T._law_cell.B ox.ps (va_cons (ve_var 0) (va_cons ve_int va_nil))) (va_cons (ve_co (ve_lst (va_cons ve_int (va_cons ve_int (va_cons ve_int (va_cons ve_int (va_cons ve_int (va_cons ve_int (va_cons ve_int (va_cons ve_int va_nil))))))))) .frsh) va_nil))) ox) <|
  (vs_cons (vs_set 2 (ve_add ve_int (ve_ix (ka := .im) (ve_var 1) ve_int)) ox) <|
  (vs_cons (vs_set 3 (ve_sub (ve_shl ve_int (ve_var 2)) ve_int) ox) <|
  (vs_cons (vs_set 4 (ve_call (ok__law_digits T) (hr.mono (by decide)) T._law_digits.g T._law_digits.k T._law_digits.B ox.ps (va_cons (ve_call (ok__law_cell T) (hr.mono (by decide)) T._law_cell.g T._law_cell.k T._law_cell.B ox.ps (va_cons (ve_var 0) (va_cons ve_int va_nil))) (va_cons (ve_co (ve_repL (ve_lst (va_cons (ve_sub (ve_var 3) ve_int) va_nil)) ve_int) .frsh) va_nil))) ox) <|
  (vs_cons (vs_setLcI 5 ox (vi_val (k := .im) (ve_fz (ve_sliceL (ve_var 4) vo_none (vo_some (ve_ix (ka := .im) (ve_var 1) ve_int)))) rfl) (ownS := [(("cell" : Str), 21)]) (blkOk_by (N := [("script" : Str), ("row" : Str), ("many" : Str), ("full" : Str), ("cells" : Str), ("lots" : Str), ("others" : Str), ("handed" : Str), ("book" : Str), ("other" : Str), ("sides" : Str), ("besides" : Str), ("both" : Str), ("left" : Str), ("again" : Str), ("value" : Str), ("alike" : Str), ("unlike" : Str), ("bad" : Str), ("spot" : Str), ("spoilt" : Str), ("cell" : Str), ("lot" : Str), ("k" : Str)]) (sc := defScope s_law) (by decide +kernel)) (lcg_name 21) (fun _ _ _ _ _ => pg_name (i := 21) ox.nd rfl (by first | exact Or.inl rfl | exact Or.inr rfl)) (fun _ _ _ _ _ => vts_nil) (fun _ _ _ _ _ => (ve_add ve_int (ve_var 21))) false) <|
  (vs_cons (vs_setLcI 6 ox (vi_val (k := .im) (ve_fz (ve_sliceL (ve_var 4) (vo_some ve_int) (vo_some (ve_add ve_int (ve_ix (ka := .im) (ve_var 1) ve_int))))) rfl) (ownS := [(("cell" : Str), 21)]) (blkOk_by (N := [("script" : Str), ("row" : Str), ("many" : Str), ("full" : Str), ("cells" : Str), ("lots" : Str), ("others" : Str), ("handed" : Str), ("book" : Str), ("other" : Str), ("sides" : Str), ("besides" : Str), ("both" : Str), ("left" : Str), ("again" : Str), ("value" : Str), ("alike" : Str), ("unlike" : Str), ("bad" : Str), ("spot" : Str), ("spoilt" : Str), ("cell" : Str), ("lot" : Str), ("k" : Str)]) (sc := defScope s_law) (by decide +kernel)) (lcg_name 21) (fun _ _ _ _ _ => pg_name (i := 21) ox.nd rfl (by first | exact Or.inl rfl | exact Or.inr rfl)) (fun _ _ _ _ _ => vts_nil) (fun _ _ _ _ _ => (ve_add ve_int (ve_var 21))) false) <|
  (vs_cons (vs_if (vt_cmp (c_eq rfl hr) (ve_ix (ka := .im) (ve_var 1) ve_int) ve_int) (vs_one (vs_set 5 (ve_fz (ve_catL (ve_catL (ve_var 5) (ve_lcI ox (vi_val (k := .im) (ve_fz (ve_sliceL (ve_var 5) vo_none (vo_some ve_int))) rfl) (ownS := [(("lot" : Str), 22)]) (blkOk_by (N := [("script" : Str), ("row" : Str), ("many" : Str), ("full" : Str), ("cells" : Str), ("lots" : Str), ("others" : Str), ("handed" : Str), ("book" : Str), ("other" : Str), ("sides" : Str), ("besides" : Str), ("both" : Str), ("left" : Str), ("again" : Str), ("value" : Str), ("alike" : Str), ("unlike" : Str), ("bad" : Str), ("spot" : Str), ("spoilt" : Str), ("cell" : Str), ("lot" : Str), ("k" : Str)]) (sc := defScope s_law) (by decide +kernel)) (lcg_name 22) (fun _ _ _ _ _ => pg_name (i := 22) ox.nd rfl (by first | exact Or.inl rfl | exact Or.inr rfl)) (fun _ _ _ _ _ => vts_nil) (fun _ _ _ _ _ => (ve_sub (ve_var 3) (ve_var 22))))) (ve_sliceL (ve_var 5) vo_none (vo_some ve_int)))) ox)) vs_nil) <|
  (vs_cons (vs_if (vt_cmp (c_eq rfl hr) (ve_ix (ka := .im) (ve_var 1) ve_int) ve_int) (vs_one (vs_setLcI 5 ox (vi_rng1 T.z_range (ve_sub (ve_var 3) ve_int)) (ownS := [(("k" : Str), 23)]) (blkOk_by (N := [("script" : Str), ("row" : Str), ("many" : Str), ("full" : Str), ("cells" : Str), ("lots" : Str), ("others" : Str), ("handed" : Str), ("book" : Str), ("other" : Str), ("sides" : Str), ("besides" : Str), ("both" : Str), ("left" : Str), ("again" : Str), ("value" : Str), ("alike" : Str), ("unlike" : Str), ("bad" : Str), ("spot" : Str), ("spoilt" : Str), ("cell" : Str), ("lot" : Str), ("k" : Str)]) (sc := defScope s_law) (by decide +kernel)) (lcg_name 23) (fun _ _ _ _ _ => pg_name (i := 23) ox.nd rfl (by first | exact Or.inl rfl | exact Or.inr rfl)) (fun _ _ _ _ _ => vts_nil) (fun _ _ _ _ _ => (ve_add ve_int (ve_mod (ve_intC T.z_int (ve_add (ve_ix (ka := .im) (ve_var 1) ve_int) (ve_var 23))) (ve_sub (ve_var 3) ve_int)))) false)) vs_nil) <|
  (vs_cons (vs_setOwK (κ1 := [.im, .im, .im, .im, .im, .im, .im, .ow, .im, .im, .im, .im, .im, .im, .im, .im, .im, .im, .im, .im, .im, .im, .im, .im]) 7 (ve_listC T.z_list (ve_var 5)) ox) <|
  (vs_cons (vs_set 8 (ve_make (C := ("Book" : Str)) (mk_Book T) (ok_Book___init__ T) (hr.mono (by decide)) T.g_Book T.Book___init__.B ox.ps (va_cons (ve_var 2) (va_cons (ve_var 7) va_nil))) ox) <|
  (vs_cons (vs_set 9 (ve_make (C := ("Book" : Str)) (mk_Book T) (ok_Book___init__ T) (hr.mono (by decide)) T.g_Book T.Book___init__.B ox.ps (va_cons (ve_var 2) (va_cons (ve_co (ve_tupleI T.z_tuple (ve_var 6)) .imsh) va_nil))) ox) <|
  (vs_cons (vs_set 10 (ve_call (ok__law_own T) (hr.mono (by decide)) T._law_own.g T._law_own.k T._law_own.B ox.ps (va_cons (ve_var 2) (va_cons (ve_co (ve_var 5) .imsh) va_nil))) ox) <|
  (vs_cons (vs_set 11 (ve_call (ok__law_own T) (hr.mono (by decide)) T._law_own.g T._law_own.k T._law_own.B ox.ps (va_cons (ve_var 2) (va_cons (ve_co (ve_var 6) .imsh) va_nil))) ox) <|
  (vs_cons (vs_if (vt_cmp (c_ne rfl hr) (ve_var 7) (ve_var 5)) (vs_one (vs_ret ve_bl)) vs_nil) <|
  (vs_cons (vs_app 7 ve_int ox) <|
  (vs_cons (vs_rev 7 ox) <|
  (vs_cons (vs_if (vt_bool (vw_or (vt_not (vt_val (ve_call (ok__law_is_book T) (hr.mono (by decide)) T._law_is_book.g T._law_is_book.k T._law_is_book.B ox.ps (va_cons (ve_var 8) (va_cons (ve_var 2) (va_cons (ve_co (ve_var 10) .imsh) va_nil)))))) (vw_or (vt_not (vt_val (ve_call (ok__law_is_book T) (hr.mono (by decide)) T._law_is_book.g T._law_is_book.k T._law_is_book.B ox.ps (va_cons (ve_var 9) (va_cons (ve_var 2) (va_cons (ve_co (ve_var 11) .imsh) va_nil)))))) (vw_or1 (vt_not (vt_val (ve_call (ok__law_in T) (hr.mono (by decide)) T._law_in.g T._law_in.k T._law_in.B ox.ps (va_cons (ve_var 8) (va_cons (ve_var 2) (va_cons (ve_co (ve_var 10) .imsh) va_nil)))))))))) (vs_one (vs_ret ve_bl)) vs_nil) <|
  (vs_cons (vs_set 12 (ve_fz (ve_sorted T.z_sorted (ve_catL (ve_var 10) (ve_lcI ox (vi_val (k := .im) (ve_var 11) rfl) (ownS := [(("lot" : Str), 22)]) (blkOk_by (N := [("script" : Str), ("row" : Str), ("many" : Str), ("full" : Str), ("cells" : Str), ("lots" : Str), ("others" : Str), ("handed" : Str), ("book" : Str), ("other" : Str), ("sides" : Str), ("besides" : Str), ("both" : Str), ("left" : Str), ("again" : Str), ("value" : Str), ("alike" : Str), ("unlike" : Str), ("bad" : Str), ("spot" : Str), ("spoilt" : Str), ("cell" : Str), ("lot" : Str), ("k" : Str)]) (sc := defScope s_law) (by decide +kernel)) (lcg_name 22) (fun _ _ _ _ _ => pg_name (i := 22) ox.nd rfl (by first | exact Or.inl rfl | exact Or.inr rfl)) (fun _ _ _ _ _ => (vts_one (vt_cmp (c_notInF rfl) (ve_var 22) (ve_var 10)))) (fun _ _ _ _ _ => (ve_var 22)))))) ox) <|
  (vs_cons (vs_setLcI 13 ox (vi_val (k := .im) (ve_var 10) rfl) (ownS := [(("lot" : Str), 22)]) (blkOk_by (N := [("script" : Str), ("row" : Str), ("many" : Str), ("full" : Str), ("cells" : Str), ("lots" : Str), ("others" : Str), ("handed" : Str), ("book" : Str), ("other" : Str), ("sides" : Str), ("besides" : Str), ("both" : Str), ("left" : Str), ("again" : Str), ("value" : Str), ("alike" : Str), ("unlike" : Str), ("bad" : Str), ("spot" : Str), ("spoilt" : Str), ("cell" : Str), ("lot" : Str), ("k" : Str)]) (sc := defScope s_law) (by decide +kernel)) (lcg_name 22) (fun _ _ _ _ _ => pg_name (i := 22) ox.nd rfl (by first | exact Or.inl rfl | exact Or.inr rfl)) (fun _ _ _ _ _ => (vts_one (vt_cmp (c_notInF rfl) (ve_var 22) (ve_var 11)))) (fun _ _ _ _ _ => (ve_var 22)) false) <|
  (vs_cons (vs_if (vt_bool (vw_or (vt_not (vt_val (ve_call (ok__law_is_book T) (hr.mono (by decide)) T._law_is_book.g T._law_is_book.k T._law_is_book.B ox.ps (va_cons (ve_ownB (c := ("Book" : Str)) (ok_Book___add__ T) (hr.mono (by decide)) T.Book___add__.B ox.ps T.b_Book.sf T.Book___add__.at_ T.Book___add__.fn (ve_var 8) (ve_var 9)) (va_cons (ve_var 2) (va_cons (ve_co (ve_var 12) .imsh) va_nil)))))) (vw_or1 (vt_not (vt_val (ve_call (ok__law_is_book T) (hr.mono (by decide)) T._law_is_book.g T._law_is_book.k T._law_is_book.B ox.ps (va_cons (ve_ownB (c := ("Book" : Str)) (ok_Book___sub__ T) (hr.mono (by decide)) T.Book___sub__.B ox.ps T.b_Book.sf T.Book___sub__.at_ T.Book___sub__.fn (ve_var 8) (ve_var 9)) (va_cons (ve_var 2) (va_cons (ve_co (ve_var 13) .imsh) va_nil))))))))) (vs_one (vs_ret ve_bl)) vs_nil) <|
  (vs_cons (vs_if (vt_bool (vw_or (vt_not (vt_val (ve_call (ok__law_is_book T) (hr.mono (by decide)) T._law_is_book.g T._law_is_book.k T._law_is_book.B ox.ps (va_cons (ve_ownB (c := ("Book" : Str)) (ok_Book___add__ T) (hr.mono (by decide)) T.Book___add__.B ox.ps T.b_Book.sf T.Book___add__.at_ T.Book___add__.fn (ve_var 8) (ve_var 8)) (va_cons (ve_var 2) (va_cons (ve_co (ve_var 10) .imsh) va_nil)))))) (vw_or1 (vt_not (vt_val (ve_call (ok__law_is_book T) (hr.mono (by decide)) T._law_is_book.g T._law_is_book.k T._law_is_book.B ox.ps (va_cons (ve_ownB (c := ("Book" : Str)) (ok_Book___sub__ T) (hr.mono (by decide)) T.Book___sub__.B ox.ps T.b_Book.sf T.Book___sub__.at_ T.Book___sub__.fn (ve_var 8) (ve_var 8)) (va_cons (ve_var 2) (va_cons (ve_co (ve_lst va_nil) .frsh) va_nil))))))))) (vs_one (vs_ret ve_bl)) vs_nil) <|
  (vs_cons (vs_set 14 (ve_make (C := ("Book" : Str)) (mk_Book T) (ok_Book___init__ T) (hr.mono (by decide)) T.g_Book T.Book___init__.B ox.ps (va_cons (ve_var 2) (va_cons (ve_co (ve_lcI ox (vi_rev (k := .im) T.z_reversed (ve_var 5) rfl) (ownS := [(("lot" : Str), 22)]) (blkOk_by (N := [("script" : Str), ("row" : Str), ("many" : Str), ("full" : Str), ("cells" : Str), ("lots" : Str), ("others" : Str), ("handed" : Str), ("book" : Str), ("other" : Str), ("sides" : Str), ("besides" : Str), ("both" : Str), ("left" : Str), ("again" : Str), ("value" : Str), ("alike" : Str), ("unlike" : Str), ("bad" : Str), ("spot" : Str), ("spoilt" : Str), ("cell" : Str), ("lot" : Str), ("k" : Str)]) (sc := defScope s_law) (by decide +kernel)) (lcg_name 22) (fun _ _ _ _ _ => pg_name (i := 22) ox.nd rfl (by first | exact Or.inl rfl | exact Or.inr rfl)) (fun _ _ _ _ _ => vts_nil) (fun _ _ _ _ _ => (ve_sub (ve_var 3) (ve_var 22)))) .frsh) va_nil))) ox) <|
  (vs_cons (vs_if (vt_bool (vw_or (vt_cmp c_isNotB (ve_cmp (c_eqO rfl (oc_Book T) (ok_Book___eq__ T) (hr.mono (by decide)) T.Book___eq__.B ox.ps T.Book___eq__.at_ T.Book___eq__.fn) (ve_var 8) (ve_var 14)) ve_bl) (vw_or1 (vt_cmp c_isNotB (ve_cmp (c_neO rfl (oc_Book T) (ok_Book___ne__ T) (hr.mono (by decide)) T.Book___ne__.B ox.ps T.Book___ne__.at_ T.Book___ne__.fn) (ve_var 8) (ve_var 14)) ve_bl)))) (vs_one (vs_ret ve_bl)) vs_nil) <|
  (vs_cons (vs_forI (vi_val (k := .im) (ve_fz (ve_lst (va_cons (ve_fz (ve_listC T.z_list (ve_var 10))) (va_cons (ve_tupleI T.z_tuple (ve_var 10)) (va_cons (ve_fz (ve_sliceL (ve_var 10) vo_none (vo_some ve_int))) (va_cons ve_str (va_cons (ve_var 2) va_nil))))))) rfl) (vg_name 15 ox) (vs_one (vs_if (vt_bool (vw_or (vt_cmp c_isNotB (ve_cmp (c_eqO rfl (oc_Book T) (ok_Book___eq__ T) (hr.mono (by decide)) T.Book___eq__.B ox.ps T.Book___eq__.at_ T.Book___eq__.fn) (ve_var 8) (ve_var 15)) ve_bl) (vw_or1 (vt_cmp c_isNotB (ve_cmp (c_neO rfl (oc_Book T) (ok_Book___ne__ T) (hr.mono (by decide)) T.Book___ne__.B ox.ps T.Book___ne__.at_ T.Book___ne__.fn) (ve_var 8) (ve_var 15)) ve_bl)))) (vs_one (vs_ret ve_bl)) vs_nil)) ox) <|
  (vs_cons (vs_set 16 (ve_cmp (c_eqO rfl (oc_Book T) (ok_Book___eq__ T) (hr.mono (by decide)) T.Book___eq__.B ox.ps T.Book___eq__.at_ T.Book___eq__.fn) (ve_var 8) (ve_var 9)) ox) <|
  (vs_cons (vs_set 17 (ve_cmp (c_neO rfl (oc_Book T) (ok_Book___ne__ T) (hr.mono (by decide)) T.Book___ne__.B ox.ps T.Book___ne__.at_ T.Book___ne__.fn) (ve_var 8) (ve_var 9)) ox) <|
  (vs_cons (vs_if (vt_bool (vw_or (vt_not (vt_val (ve_isBool T.z_isinstance T.z_bool (ve_var 16)))) (vw_or (vt_not (vt_val (ve_isBool T.z_isinstance T.z_bool (ve_var 17)))) (vw_or (vt_cmp (c_ne rfl hr) (ve_var 16) (ve_cmp (c_eq rfl hr) (ve_var 10) (ve_var 11))) (vw_or1 (vt_cmp (c_eq rfl hr) (ve_var 17) (ve_var 16))))))) (vs_one (vs_ret ve_bl)) vs_nil) <|
  (vs_cons (vs_if (vt_not (vt_val (ve_call (ok__law_apart T) (hr.mono (by decide)) T._law_apart.g T._law_apart.k T._law_apart.B ox.ps (va_cons (ve_var 8) (va_cons (ve_var 2) (va_cons (ve_add ve_int (ve_mod (ve_intC T.z_int (ve_add (ve_ix (ka := .im) (ve_var 1) ve_int) ve_int)) ve_int)) va_nil)))))) (vs_one (vs_ret ve_bl)) vs_nil) <|
  (vs_cons (vs_set 18 (ve_fz (ve_lst (va_cons ve_int (va_cons (ve_var 3) (va_cons (ve_add (ve_var 3) ve_int) (va_cons (ve_neg ve_int) (va_cons ve_bl (va_cons ve_bl (va_cons ve_non (va_cons ve_str (va_cons (ve_fz (ve_lst (va_cons ve_int va_nil))) va_nil))))))))))) ox) <|
  (vs_cons (vs_set 19 (ve_mod (ve_intC T.z_int (ve_ix (ka := .im) (ve_var 1) ve_int)) (ve_add (ve_len T.z_len (ve_var 5)) ve_int)) ox) <|
  (vs_cons (vs_set 20 (ve_fz (ve_catL (ve_catL (ve_catL (ve_sliceL (ve_var 5) vo_none (vo_some (ve_var 19))) (ve_lst (va_cons (ve_ix (ka := .im) (ve_var 18) (ve_ix (ka := .im) (ve_var 1) ve_int)) va_nil))) (ve_sliceL (ve_var 5) (vo_some (ve_var 19)) vo_none)) (ve_lst (va_cons (ve_ix (ka := .im) (ve_var 18) (ve_ix (ka := .im) (ve_var 1) ve_int)) va_nil)))) ox) <|
  (vs_cons (vs_if (vt_cmp (c_ne rfl hr) (ve_call (ok__law_refused T) (hr.mono (by decide)) T._law_refused.g T._law_refused.k T._law_refused.B ox.ps (va_cons (ve_var 2) (va_cons (ve_co (ve_var 20) .imsh) va_nil))) (ve_lst (va_cons (ve_ix (ka := .im) (ve_var 18) (ve_ix (ka := .im) (ve_var 1) ve_int)) va_nil))) (vs_one (vs_ret ve_bl)) vs_nil) <|
  (vs_one (vs_ret (ve_and (ve_call (ok__law_is_book T) (hr.mono (by decide)) T._law_is_book.g T._law_is_book.k T._law_is_book.B ox.ps (va_cons (ve_var 8) (va_cons (ve_var 2) (va_cons (ve_co (ve_var 10) .imsh) va_nil)))) (ve_one (ve_call (ok__law_is_book T) (hr.mono (by decide)) T._law_is_book.g T._law_is_book.k T._law_is_book.B ox.ps (va_cons (ve_var 9) (va_cons (ve_var 2) (va_cons (ve_co (ve_var 11) .imsh) va_nil)))))))))))))))))))))))))))))))))))))))))

end
end VL

namespace VL
open PySem PySem.Spec L2
/-! ### the digits -/
theorem log2_lt {j : Int} (h0 : 0 < j) (h : j < 2 ^ 64) : j.natAbs.log2 < 9000 := by
  have h1 : j.natAbs < 2 ^ 64 := by omega
  have h2 : j.natAbs ≠ 0 := by omega
  have := (Nat.log2_lt h2).mpr h1
  omega
theorem ixN_nat {n i : Nat} (h : i < n) : ixN n (i : Int) = some i := by
  unfold ixN
  first
    | (rw [if_pos (by omega)]; simp; done)
    | (simp; omega)
theorem idxD_nat {ds : List D} {i : Nat} {d : D} (h : ds[i]? = some d) : idxD (.lst ds) (.int (i : Nat)) = .ok d := by
  have hi := (List.getElem?_eq_some_iff.mp h).1
  show atD ds (i : Nat) = _
  unfold atD atI
  rw [ixN_nat hi]
  show (match ds[i]? with | some d => Res.ok d | none => .bad) = _
  rw [h]
theorem idxD_natT {ds : List D} {i : Nat} {d : D} (h : ds[i]? = some d) : idxD (.tup ds) (.int (i : Nat)) = .ok d := idxD_nat (ds := ds) h
theorem mulI_of {i j : Int} (h : mulOk i j = true) : mulI (.int i) (.int j) = .ok (.int (i * j)) := if_pos h
theorem digits_ok (c : Int) (sizes : List Int) (hp : ∀ s ∈ sizes, 0 < s ∧ s < 2 ^ 62) (hl : sizes.length ≤ 1000) : ∃ ds : List Int, e__law_digits [.int c, .lst (It sizes)] = .ok (.lst (It ds)) ∧ Fit ds sizes := by
  obtain ⟨R, hR⟩ : ∃ R : Int, R = c % (10 ^ 60 * 10 ^ 60 * 10 ^ 60) := ⟨_, rfl⟩
  have hr : modI (.int c) (.int (10 ^ 60 * 10 ^ 60 * 10 ^ 60)) = .ok (.int R) := by rw [hR]; exact modI_ok (by decide)
  have hm : mulI (.int (10 ^ 60)) (.int (10 ^ 60)) = .ok (.int (10 ^ 60 * 10 ^ 60)) := mulI_of (by decide +kernel)
  have hm2 : mulI (.int (10 ^ 60 * 10 ^ 60)) (.int (10 ^ 60)) = .ok (.int (10 ^ 60 * 10 ^ 60 * 10 ^ 60)) := mulI_of (by decide +kernel)
  have hp60 : powI (.int 10) (.int 60) = .ok (.int (10 ^ 60)) := rfl
  have hp18 : powI (.int 10) (.int 18) = .ok (.int (10 ^ 18)) := rfl
  have hR0 : 0 ≤ R := by rw [hR]; exact Int.emod_nonneg _ (by decide)
  have s1 : ∀ (δ : DSt), sSet 3 (v2 modI (v1 intD (vVar 0)) (v2 mulI (v2 mulI (v2 powI (vC (.int 10)) (vC (.int 60))) (v2 powI (vC (.int 10)) (vC (.int 60)))) (v2 powI (vC (.int 10)) (vC (.int 60))))) (some (.int c) :: δ) = .ok (.nx ((some (.int c) :: δ).set 3 (some (.int R)))) := fun δ =>
    set_ok (v2_ok (o := modI) (d := .int c) (e := .int (10 ^ 60 * 10 ^ 60 * 10 ^ 60)) rfl (v2_ok (o := mulI) (d := .int (10 ^ 60 * 10 ^ 60)) (e := .int (10 ^ 60)) (v2_ok (o := mulI) (d := .int (10 ^ 60)) (e := .int (10 ^ 60)) hp60 hp60 |>.trans hm) hp60 |>.trans hm2) |>.trans hr)
  by_cases hb : (10 : Int) ^ 18 ≤ R
  · obtain ⟨δ', h1, found, rest, b, e1, fit⟩ := loop_ints (t := tN 4) (b := sSeq (sApp 2 (v2 modI (v1 intD (vVar 3)) (vVar 4))) (sSet 3 (v2 fdivI (v1 intD (vVar 3)) (vVar 4)))) sizes
      [some (.int c), some (.lst (It sizes)), some (.lst []), some (.int (R - 10 ^ 18)), none, none, none, none]
      (fun done δ => ∃ (found : List Int) (rest : Int) (b : Option D), δ = [some (.int c), some (.lst (It sizes)), some (.lst (It found)), some (.int rest), b, none, none, none] ∧ Fit found done) ⟨[], _, none, rfl, Fit.nil⟩ (by
        rintro done n rest δ e ⟨found, r, b, rfl, fit⟩
        have hn := hp n (by rw [e]; simp)
        have hlen : (It found).length < 16777216 := by
          have h1 := congrArg List.length e
          have h2 := fit.1
          simp at *
          omega
        have ea : It found ++ [.int (r % n)] = It (found ++ [r % n]) := by simp [It]
        refine ⟨_, _, rfl, .inl ?_, found ++ [r % n], r / n, some (.int n), rfl, fit.snoc (Int.emod_nonneg _ (by omega)) (Int.emod_lt_of_pos _ hn.1)⟩
        simp only [sSeq, sSet, sRet, sIf, sNil, sApp, sExpr, sRev, tN, vVar, vC, v1, v2, v3, vA, vT, aNil, aCons, tAndD, tOrD, tNotD, vAnd, vOr, asB, notB, Res.ok_bind, Res.exc_bind, List.getElem?_cons_succ, List.getElem?_cons_zero, List.set_cons_zero, List.set_cons_succ, intD, addI, subI, negI, cmpI, ltI, leI, gtI, geI, modI_ok, fdivI_ok, mulI_l, mulI_r, shlI_ok, powI_ok, if_true, if_false, Bool.false_eq_true, eqD_int, neD_int, eqD_bl, neD_bl, eqD_lst, neD_lst, eqD_tup, inF_lst, inF_tup, notInD_lst, inD_lst, sorted_ok, decide_eq_true_eq, lenD, scD, D.sc, listD, tupleD, tupleLD, isB, isNotB, modI_ok hn.1, fdivI_ok hn.1 (log2_lt hn.1 (by omega)), hlen, ea])
    subst e1
    refine ⟨found, runF_rt (seq_nx (δ' := [some (.int c), some (.lst (It sizes)), some (.lst []), none, none, none, none, none]) rfl (seq_nx (s1 _) (seq_rt ?_))), fit⟩
    rw [if_t (vT_ok (q := true) (v2_ok (o := geI) (d := .int R) (e := .int (10 ^ 18)) rfl hp18 |>.trans (by show Res.ok (D.bl (decide ((10 : Int) ^ 18 ≤ R))) = _; rw [decide_eq_true hb])))]
    refine seq_nx (set_ok (d := .int (R - 10 ^ 18)) (v2_ok (o := subI) (d := .int R) (e := .int (10 ^ 18)) rfl hp18)) (seq_nx ((for_eq (ds := It sizes) rfl).trans h1) (ret_ok rfl))
  · obtain ⟨δ', h1, found, s, kk, tw, e1, fit⟩ := loop_ints (t := tN 6) (b := (sSeq (sSet 5 (v2 modI (v1 intD (v2 addI (v2 addI (v2 mulI (vVar 5) (vC (.int 48271))) (v2 mulI (vC (.int 974711)) (vVar 6))) (vC (.int 12345)))) (vC (.int 2147483647)))) <|
        (sSeq (sSet 7 (v2 modI (v1 intD (v2 mulI (vVar 5) (v2 addI (v2 fdivI (vVar 5) (vC (.int 65537))) (vC (.int 3))))) (vC (.int 2147483629)))) <|
        (sApp 2 (v2 modI (v1 intD (v2 fdivI (vVar 7) (vC (.int 19)))) (v2 idxD (vVar 1) (vVar 6))))))) (rngL 0 sizes.length)
      [some (.int c), some (.lst (It sizes)), some (.lst []), some (.int R), none, some (.int (R % 2147483629)), none, none]
      (fun done δ => ∃ (found : List Int) (s : Int) (kk tw : Option D), δ = [some (.int c), some (.lst (It sizes)), some (.lst (It found)), some (.int R), none, some (.int s), kk, tw] ∧ Fit found (sizes.take done.length)) ⟨[], _, none, none, rfl, by simp; exact Fit.nil⟩ (by
        rintro done n rest δ e ⟨found, s, kk, tw, rfl, fit⟩
        have hd : done.length < sizes.length := by
          have := congrArg List.length e
          rw [rngL_length] at this
          simp at this
          omega
        have hn : n = (done.length : Nat) := by
          have h1 := congrArg (fun l => l[done.length]?) e
          simp only [List.getElem?_append_right (Nat.le_refl _), Nat.sub_self, List.getElem?_cons_zero, rngL_get hd] at h1
          cases h1
          omega
        subst hn
        obtain ⟨z, hz⟩ : ∃ z, sizes[done.length]? = some z := ⟨_, List.getElem?_eq_getElem hd⟩
        have hzz := hp z (List.mem_of_getElem? hz)
        have hix : idxD (.lst (It sizes)) (.int (done.length : Nat)) = .ok (.int z) := idxD_nat (by rw [List.getElem?_map, hz]; rfl)
        have hlen : (It found).length < 16777216 := by
          have h2 := fit.1
          simp at *
          omega
        have tk : sizes.take (done ++ [((done.length : Nat) : Int)]).length = sizes.take done.length ++ [z] := by
          rw [List.length_append, List.length_singleton, List.take_succ, hz]
          rfl
        obtain ⟨x, hx⟩ : ∃ x : Int, x = (s * 48271 + 974711 * (done.length : Nat) + 12345) % 2147483647 := ⟨_, rfl⟩
        have hx0 : 0 ≤ x ∧ x < 2147483647 := by rw [hx]; exact ⟨Int.emod_nonneg _ (by decide), Int.emod_lt_of_pos _ (by decide)⟩
        obtain ⟨y, hy⟩ : ∃ y : Int, y = (x * (x / 65537 + 3)) % 2147483629 := ⟨_, rfl⟩
        have ea : It found ++ [.int (y / 19 % z)] = It (found ++ [y / 19 % z]) := by simp [It]
        have hk : ((done.length : Nat) : Int).natAbs < 2 ^ 64 := by omega
        have hxa : x.natAbs < 2 ^ 64 := by omega
        refine ⟨_, _, rfl, .inl ?_, found ++ [y / 19 % z], x, some (.int (done.length : Nat)), some (.int y), rfl, by rw [tk]; exact fit.snoc (Int.emod_nonneg _ (by omega)) (Int.emod_lt_of_pos _ hzz.1)⟩
        have q1 : mulI (.int s) (.int 48271) = .ok (.int (s * 48271)) := mulI_r (by decide)
        have q2 : mulI (.int 974711) (.int (done.length : Nat)) = .ok (.int (974711 * (done.length : Nat))) := mulI_l (by decide)
        have q3 : modI (.int (s * 48271 + 974711 * (done.length : Nat) + 12345)) (.int 2147483647) = .ok (.int x) := by rw [hx]; exact modI_ok (by decide)
        have q4 : fdivI (.int x) (.int 65537) = .ok (.int (x / 65537)) := fdivI_ok (by decide) (by decide +kernel)
        have q5 : mulI (.int x) (.int (x / 65537 + 3)) = .ok (.int (x * (x / 65537 + 3))) := mulI_l hxa
        have q6 : modI (.int (x * (x / 65537 + 3))) (.int 2147483629) = .ok (.int y) := by rw [hy]; exact modI_ok (by decide)
        have q7 : fdivI (.int y) (.int 19) = .ok (.int (y / 19)) := fdivI_ok (by decide) (by decide +kernel)
        have q8 : modI (.int (y / 19)) (.int z) = .ok (.int (y / 19 % z)) := modI_ok hzz.1
        simp only [sSeq, sSet, sApp, tN, vVar, vC, v1, v2, Res.ok_bind, List.getElem?_cons_succ, List.getElem?_cons_zero, List.set_cons_zero, List.set_cons_succ, intD, addI, q1, q2, q3, q4, q5, q6, q7, q8, hix, hlen, if_true, ea])
    subst e1
    refine ⟨found, runF_rt (seq_nx (δ' := [some (.int c), some (.lst (It sizes)), some (.lst []), none, none, none, none, none]) rfl (seq_nx (s1 _) (seq_nx (δ' := [some (.int c), some (.lst (It sizes)), some (.lst []), some (.int R), none, none, none, none]) ?_ (seq_nx (set_ok (d := .int (R % 2147483629)) (v2_ok (o := modI) (d := .int R) (e := .int 2147483629) rfl rfl |>.trans (modI_ok (by decide)))) (seq_nx (Eq.trans (for_eq (ds := It (rngL 0 sizes.length)) ?_) h1) (ret_ok rfl)))))), by rw [rngL_length, List.take_length] at fit; exact fit⟩
    · rw [if_f (vT_ok (q := false) (v2_ok (o := geI) (d := .int R) (e := .int (10 ^ 18)) rfl hp18 |>.trans (by show Res.ok (D.bl (decide ((10 : Int) ^ 18 ≤ R))) = _; rw [decide_eq_false hb])))]
      rfl
    · rw [vRng1_ok (f := v1 lenD (vVar 1)) (j := ((It sizes).length : Nat)) (v1_ok (d := .lst (It sizes)) rfl) (by have : (It sizes).length = sizes.length := List.length_map ..; omega) (by have : (It sizes).length = sizes.length := List.length_map ..; omega), Int.toNat_natCast, List.length_map]
/-! ### the cells -/
theorem cell_ok (ns : List Int) (k : Int) (h0 : 0 ≤ k) (h1 : k < 1000000) (hl : ns.length ≤ 63) : ∃ c : Int, e__law_cell [.scr ns, .int k] = .ok (.int c) := by
  by_cases hk : k < (ns.length : Nat)
  · obtain ⟨m, hm⟩ : ∃ m : Nat, k = (m : Nat) := ⟨k.toNat, by omega⟩
    subst hm
    obtain ⟨c, hc⟩ : ∃ c, ns[m]? = some c := ⟨_, List.getElem?_eq_getElem (by omega)⟩
    have hix : idxD (.scr ns) (.int (m : Nat)) = .ok (.int c) := by
      show (match atI ns (m : Nat) with | some n => Res.ok (D.int n) | none => .bad) = _
      unfold atI
      rw [ixN_nat (by omega)]
      show (match ns[m]? with | some n => Res.ok (D.int n) | none => .bad) = _
      rw [hc]
    refine ⟨c, runF_rt (seq_rt ?_)⟩
    rw [if_t (vT_ok (q := true) ?_)]
    · exact ret_ok (v1_ok (d := .int c) (v2_ok (o := idxD) (d := .scr ns) (e := .int (m : Nat)) rfl rfl |>.trans hix))
    · refine (v2_ok (o := ltI) (d := .int (m : Nat)) (e := .int (ns.length : Nat)) rfl rfl).trans ?_
      show Res.ok (D.bl (decide _)) = _
      rw [decide_eq_true hk]
  · obtain ⟨δ', h2, s, cl, e1, hs⟩ := loop_ints (t := tN 3) (b := sSet 2 (v2 modI (v1 intD (v2 addI (v2 mulI (vVar 2) (vC (.int 33))) (v2 modI (v1 intD (vVar 3)) (vC (.int 999983))))) (vC (.int 999983)))) ns
      [some (.scr ns), some (.int k), some (.int 7), none] (fun _ δ => ∃ (s : Int) (cl : Option D), δ = [some (.scr ns), some (.int k), some (.int s), cl] ∧ (0 ≤ s ∧ s < 999983)) ⟨7, none, rfl, by decide⟩ (by
        rintro done n rest δ e ⟨s, cl, rfl, hs⟩
        have q1 : mulI (.int s) (.int 33) = .ok (.int (s * 33)) := mulI_r (by decide)
        have q2 : modI (.int n) (.int 999983) = .ok (.int (n % 999983)) := modI_ok (by decide)
        have q3 : modI (.int (s * 33 + n % 999983)) (.int 999983) = .ok (.int ((s * 33 + n % 999983) % 999983)) := modI_ok (by decide)
        refine ⟨_, _, rfl, .inl ?_, (s * 33 + n % 999983) % 999983, some (.int n), rfl, Int.emod_nonneg _ (by decide), Int.emod_lt_of_pos _ (by decide)⟩
        simp only [sSet, tN, vVar, vC, v1, v2, Res.ok_bind, List.getElem?_cons_succ, List.getElem?_cons_zero, List.set_cons_zero, List.set_cons_succ, intD, addI, q1, q2, q3])
    subst e1
    refine ⟨(s + 11) * (k + 5) * 48271 % 2147483647, runF_rt (seq_nx (δ' := [some (.scr ns), some (.int k), none, none]) ?_ (seq_nx (set_ok (d := .int 7) rfl) (seq_nx (Eq.trans (for_eq (ds := It ns) (vIt_scr rfl)) h2) (ret_ok ?_))))⟩
    · rw [if_f (vT_ok (q := false) ?_)]
      · rfl
      · refine (v2_ok (o := ltI) (d := .int k) (e := .int (ns.length : Nat)) rfl rfl).trans ?_
        show Res.ok (D.bl (decide _)) = _
        rw [decide_eq_false hk]
    · have q1 : mulI (.int (s + 11)) (.int (k + 5)) = .ok (.int ((s + 11) * (k + 5))) := mulI_l (by omega)
      have q2 : mulI (.int ((s + 11) * (k + 5))) (.int 48271) = .ok (.int ((s + 11) * (k + 5) * 48271)) := mulI_r (by decide)
      have q3 : modI (.int ((s + 11) * (k + 5) * 48271)) (.int 2147483647) = .ok (.int ((s + 11) * (k + 5) * 48271 % 2147483647)) := modI_ok (by decide)
      simp only [vVar, vC, v1, v2, Res.ok_bind, List.getElem?_cons_succ, List.getElem?_cons_zero, intD, addI, q1, q2, q3]
/-! ### lots and sides -/
/-- all lots of m gates -/
def full (m : Nat) : Int := 2 ^ m - 1
def sdI (m : Nat) (l : Int) : Int := if l % 2 = 1 then full m - l else l
def proper (m : Nat) (l : Int) : Prop := 0 < l ∧ l < full m
instance (m : Nat) (l : Int) : Decidable (proper m l) := inferInstanceAs (Decidable (_ ∧ _))
theorem shl1 {m : Nat} (h : m ≤ 1000) : shlI (.int 1) (.int (m : Nat)) = .ok (.int (2 ^ m)) := by
  rw [shlI_ok (by omega) (by omega) (by decide), Int.toNat_natCast, Int.one_mul]
theorem bit0_ok (l : Int) : e__law_bit [.int l, .int 0] = .ok (.int (l % 2)) := by
  refine runF_rt (ret_ok ?_)
  have q1 : shlI (.int 1) (.int 0) = .ok (.int 1) := rfl
  have q2 : fdivI (.int l) (.int 1) = .ok (.int l) := (fdivI_ok (by decide) (by decide +kernel)).trans (by rw [Int.ediv_one])
  have q3 : modI (.int l) (.int 2) = .ok (.int (l % 2)) := modI_ok (by decide)
  simp only [List.map_cons, List.map_nil, List.cons_append, vVar, vC, v1, v2, Res.ok_bind, List.getElem?_cons_succ, List.getElem?_cons_zero, intD, q1, q2, q3]
theorem lawside_ok {m : Nat} (h : m ≤ 1000) (l : Int) : e__law_side [.int m, .int l] = .ok (.int (sdI m l)) := by
  have hb : ∀ δ : DSt, vT (v2 eqD (vA e__law_bit (aCons (vVar 1) (aCons (vC (.int 0)) aNil))) (vC (.int 1))) (some (.int m) :: some (.int l) :: δ) = .ok (decide (l % 2 = 1)) := fun δ =>
    vT_ok ((v2_ok (o := eqD) (d := .int (l % 2)) (e := .int 1) ((vA_ok (ds := [.int l, .int 0]) rfl).trans (bit0_ok l)) rfl).trans (eqD_int _ _))
  by_cases hl : l % 2 = 1
  · refine runF_rt (seq_rt ?_)
    refine (if_t ((hb _).trans (by rw [decide_eq_true hl]))).trans (ret_ok ?_)
    have q := shl1 h
    unfold sdI full
    rw [if_pos hl]
    simp only [List.map_cons, List.map_nil, List.cons_append, vVar, vC, v1, v2, Res.ok_bind, List.getElem?_cons_succ, List.getElem?_cons_zero, subI, q]
  · refine runF_rt (seq_nx ((if_f ((hb _).trans (by rw [decide_eq_false hl]))).trans rfl) (ret_ok ?_))
    unfold sdI
    rw [if_neg hl]
    rfl
/-- a lot of a side -/
def lotOk (m : Nat) : D → Bool
  | .int l => decide (0 < l) && decide (l < full m)
  | _ => false
/-- values that isinstance tells -/
def plainD (d : D) : Bool := (tyN d).isSome
theorem whole_ok {d : D} (h : plainD d = true) : e_is_whole [d] = .ok (.bl (match d with | .int _ => true | _ => false)) := by
  cases d <;> first | rfl | cases h
theorem lwhole_ok {d : D} (h : plainD d = true) : e__law_whole [d] = .ok (.bl (match d with | .int _ => true | _ => false)) := by
  cases d <;> first | rfl | cases h
theorem isLot_ok {m : Nat} (hm : m ≤ 1000) {d : D} (h : plainD d = true) : e_is_side_lot [.int m, d] = .ok (.bl (lotOk m d)) := by
  refine runF_rt (ret_ok ?_)
  have hw : vA e_is_whole (aCons (vVar 1) aNil) [some (.int m), some d] = .ok (.bl (match d with | .int _ => true | _ => false)) := (vA_ok (ds := [d]) rfl).trans (whole_ok h)
  cases d with
  | int l =>
    refine vAnd_t hw ?_
    have q := shl1 hm
    have q2 : ltI (.int 0) (.int l) = .ok (.bl (decide (0 < l))) := rfl
    have q3 : ltI (.int l) (.int (2 ^ m - 1)) = .ok (.bl (decide (l < 2 ^ m - 1))) := rfl
    show v3 ltI ltI (vC (.int 0)) (vVar 1) (v2 subI (v2 shlI (vC (.int 1)) (vVar 0)) (vC (.int 1))) [some (.int m), some (.int l)] = _
    simp only [v3, vVar, vC, v2, Res.ok_bind, List.getElem?_cons_succ, List.getElem?_cons_zero, subI, q, q2, q3, asB]
    show _ = Res.ok (D.bl (decide (0 < l) && decide (l < full m)))
    cases decide (0 < l) <;> rfl
  | bl b => exact vAnd_f hw
  | non => exact vAnd_f hw
  | str s => exact vAnd_f hw
  | lst ds => exact vAnd_f hw
  | tup ds => exact vAnd_f hw
  | dct ks ds => exact vAnd_f hw
  | ins c ns ds => cases h
  | scr ns => cases h
  | exc c ns ds => cases h
theorem lotOk_p {m : Nat} {l : Int} (h : proper m l) : lotOk m (.int l) = true := by
  show (decide (0 < l) && decide (l < full m)) = true
  rw [decide_eq_true h.1, decide_eq_true h.2]
  rfl
theorem and1 {l : Int} (h : 0 ≤ l) : Builtin.bitAnd l 1 = l % 2 := Bits.bitAnd_mask 1 h
theorem side_ok {m : Nat} (hm : m ≤ 1000) {l : Int} (h : proper m l) : e_side [.int m, .int l] = .ok (.int (sdI m l)) := by
  have h1 : vA e_is_side_lot (aCons (vVar 0) (aCons (vVar 1) aNil)) [some (.int m), some (.int l)] = .ok (.bl true) := ((vA_ok (ds := [.int m, .int l]) rfl).trans (isLot_ok hm rfl)).trans (by rw [lotOk_p h])
  have q := shl1 hm
  have hb : vT (v2 eqD (v2 andI (vVar 1) (vC (.int 1))) (vC (.int 1))) [some (.int m), some (.int l)] = .ok (decide (l % 2 = 1)) := by
    refine vT_ok ((v2_ok (o := eqD) (d := .int (l % 2)) (e := .int 1) ?_ rfl).trans (eqD_int _ _))
    show Res.ok (D.int (Builtin.bitAnd l 1)) = _
    rw [and1 (by have := h.1; omega)]
  refine runF_rt (seq_nx (if_f (not_ok (vT_ok h1))) ?_)
  unfold sdI full
  by_cases hl : l % 2 = 1
  · refine seq_rt ((if_t (hb.trans (by rw [decide_eq_true hl]))).trans (ret_ok ?_))
    rw [if_pos hl]
    simp only [vVar, vC, v1, v2, Res.ok_bind, List.getElem?_cons_succ, List.getElem?_cons_zero, subI, q]
  · refine seq_nx ((if_f (hb.trans (by rw [decide_eq_false hl]))).trans rfl) (ret_ok ?_)
    rw [if_neg hl]
    rfl
theorem side_bad {m : Nat} (hm : m ≤ 1000) {d : D} (hp : plainD d = true) (h : lotOk m d = false) : e_side [.int m, d] = .exc "BadLot" ["lot"] [d] := by
  have h1 : vA e_is_side_lot (aCons (vVar 0) (aCons (vVar 1) aNil)) [some (.int m), some d] = .ok (.bl false) := ((vA_ok (ds := [.int m, d]) rfl).trans (isLot_ok hm hp)).trans (by rw [h])
  refine runF_exc (seq_exc ((if_t (not_ok (vT_ok h1))).trans ?_))
  rfl
end VL

namespace VL
open PySem PySem.Spec L2
/-! ### books -/
abbrev bk (m : Nat) (S : List Int) : D := .ins ("Book" : Str) ["many", "sides"] [.int m, .tup (It S)]
def canon (m : Nat) (ls : List Int) : List Int := sortI (dd (ls.map (sdI m)))
abbrev bkBody : DS := (sSeq (sSet 5 (vA e_side (aCons (vVar 1) (aCons (vVar 4) aNil)))) <|
  (sIf (vT (v2 notInD (vVar 5) (vVar 3))) (sApp 3 (vVar 5)) sNil))
theorem book_loop {m : Nat} (hm : m ≤ 1000) (sq : D) (rest : List D) (ls : List Int) (hl : ls.length ≤ 1000000) (hp : ∀ l ∈ ls, proper m l) :
    ∃ δ' a b, sLoop (tN 4) bkBody (It ls ++ rest) [some (.ins ("Book" : Str) [] []), some (.int m), some sq, some (.lst []), none, none] = sLoop (tN 4) bkBody rest δ' ∧
      δ' = [some (.ins ("Book" : Str) [] []), some (.int m), some sq, some (.lst (It (dd (ls.map (sdI m))))), a, b] := by
  obtain ⟨δ', h1, a, b, h2⟩ := loop_pre_ints (t := tN 4) (b := bkBody) rest ls [some (.ins ("Book" : Str) [] []), some (.int m), some sq, some (.lst []), none, none]
    (fun done δ => ∃ a b, δ = [some (.ins ("Book" : Str) [] []), some (.int m), some sq, some (.lst (It (dd (done.map (sdI m))))), a, b]) ⟨none, none, rfl⟩ (by
      rintro done n tl δ e ⟨a, b, rfl⟩
      have hn : proper m n := hp n (by rw [e]; simp)
      have hdl : (It (dd (done.map (sdI m)))).length < 16777216 := by
        have h1 := dd_len (done.map (sdI m))
        have h2 := congrArg List.length e
        rw [it_len]
        simp at h1 h2
        omega
      refine ⟨_, [some (.ins ("Book" : Str) [] []), some (.int m), some sq, some (.lst (It (dd ((done ++ [n]).map (sdI m))))), some (.int n), some (.int (sdI m n))], rfl, .inl ?_, _, _, rfl⟩
      refine seq_set (d := .int (sdI m n)) (vA_to (ds := [.int m, .int n]) rfl (side_ok hm hn)) ?_
      rw [List.map_append, List.map_cons, List.map_nil, dd_snoc]
      by_cases hx : sdI m n ∈ dd (done.map (sdI m))
      · rw [if_pos hx]
        refine (one_iff (vT_to (v2_to (d := .int (sdI m n)) (e := .lst (It (dd (done.map (sdI m))))) rfl rfl (notInD_lst _ _)) (by rw [decide_eq_true hx]; rfl))).trans rfl
      · rw [if_neg hx]
        refine (if_t (vT_to (v2_to (d := .int (sdI m n)) (e := .lst (It (dd (done.map (sdI m))))) rfl rfl (notInD_lst _ _)) (by rw [decide_eq_false hx]; rfl))).trans ?_
        refine (app_ok (ds := It (dd (done.map (sdI m)))) (d := .int (sdI m n)) rfl rfl hdl).trans ?_
        rw [show It (dd (done.map (sdI m))) ++ [D.int (sdI m n)] = It (dd (done.map (sdI m)) ++ [sdI m n]) from (it_app _ [sdI m n]).symm ▸ rfl]
        rfl)
  exact ⟨δ', a, b, h1, h2⟩
theorem fld_many (m : D) (s l a b : Option D) : sFldI 0 ("Book" : Str) ("many" : Str) (vVar 1) [some (.ins ("Book" : Str) [] []), some m, s, l, a, b] = .ok (.nx [some (.ins ("Book" : Str) ["many"] [m]), some m, s, l, a, b]) := by
  simp [sFldI, vVar, putNew, Res.bind]
theorem fld_sides {fe : DE} {d : D} (m : D) (s l a b : Option D) (h : fe [some (.ins ("Book" : Str) ["many"] [m]), some m, s, l, a, b] = .ok d) : sFldI 0 ("Book" : Str) ("sides" : Str) fe [some (.ins ("Book" : Str) ["many"] [m]), some m, s, l, a, b] = .ok (.nx [some (.ins ("Book" : Str) ["many", "sides"] [m, d]), some m, s, l, a, b]) := by
  have e : ¬ (("sides" : Str) = ("many" : Str)) := by decide
  unfold sFldI
  rw [h]
  simp [putNew, Res.bind, e]
theorem book_ok {m : Nat} (hm : m ≤ 1000) {sq : D} {ls : List Int} (hs : itemsD sq = .ok (It ls)) (hl : ls.length ≤ 1000000) (hp : ∀ l ∈ ls, proper m l) : e_Book___init__ [.int m, sq] = .ok (bk m (canon m ls)) := by
  obtain ⟨δ', a, b, h1, h2⟩ := book_loop hm sq [] ls hl hp
  rw [List.append_nil] at h1
  have key : b_Book___init__ [some (.ins ("Book" : Str) [] []), some (.int m), some sq, none, none, none] = .ok (.nx [some (bk m (canon m ls)), some (.int m), some sq, some (.lst (It (dd (ls.map (sdI m))))), a, b]) := by
    refine seq_set (d := .lst []) rfl (seq_nx (δ' := δ') ?_ ?_)
    · refine (for_eq (ds := It ls) ?_).trans (h1.trans rfl)
      show (vVar 2 _).bind itemsD = _
      exact hs
    · subst h2
      refine seq_nx (fld_many _ _ _ _ _) (fld_sides _ _ _ _ _ (d := .tup (It (canon m ls))) ?_)
      refine v1_to (d := .lst (It (canon m ls))) (v1_to (d := .lst (It (dd (ls.map (sdI m))))) rfl (sorted_ok _)) rfl
  exact runI_nx key rfl
theorem book_bad {m : Nat} (hm : m ≤ 1000) {d : D} {ls : List Int} {tl : List D} (hl : ls.length ≤ 1000000) (hp : ∀ l ∈ ls, proper m l) (hd : plainD d = true) (hb : lotOk m d = false) :
    e_Book___init__ [.int m, .lst (It ls ++ d :: tl)] = .exc ("BadLot" : Str) ["lot"] [d] := by
  obtain ⟨δ', a, b, h1, h2⟩ := book_loop hm (.lst (It ls ++ d :: tl)) (d :: tl) ls hl hp
  have key : b_Book___init__ [some (.ins ("Book" : Str) [] []), some (.int m), some (.lst (It ls ++ d :: tl)), none, none, none] = .exc ("BadLot" : Str) ["lot"] [d] := by
    refine seq_set (d := .lst []) rfl (seq_exc ?_)
    refine (for_eq (ds := It ls ++ d :: tl) rfl).trans (h1.trans ?_)
    subst h2
    refine loop_exc rfl (seq_exc ?_)
    show (vA e_side _ _).bind _ = _
    rw [vA_to (q := .exc ("BadLot" : Str) ["lot"] [d]) (ds := [.int m, d]) rfl (side_bad hm hd hb)]
    rfl
  exact runI_exc key
theorem own_ok {m : Nat} (hm : m ≤ 1000) {ls : List Int} (hl : ls.length ≤ 1000000) : e__law_own [.int m, .lst (It ls)] = .ok (.lst (It (canon m ls))) := by
  obtain ⟨δ', h1, a, b, h2⟩ := loop_ints (t := tN 3) (b := (sSeq (sSet 4 (vA e__law_side (aCons (vVar 0) (aCons (vVar 3) aNil)))) <|
  (sIf (vT (v2 (inF true) (vVar 4) (vVar 2))) (sApp 2 (vVar 4)) sNil))) ls [some (.int m), some (.lst (It ls)), some (.lst []), none, none]
    (fun done δ => ∃ a b, δ = [some (.int m), some (.lst (It ls)), some (.lst (It (dd (done.map (sdI m))))), a, b]) ⟨none, none, rfl⟩ (by
      rintro done n tl δ e ⟨a, b, rfl⟩
      have hdl : (It (dd (done.map (sdI m)))).length < 16777216 := by
        have h1 := dd_len (done.map (sdI m))
        have h2 := congrArg List.length e
        rw [it_len]
        simp at h1 h2
        omega
      refine ⟨_, [some (.int m), some (.lst (It ls)), some (.lst (It (dd ((done ++ [n]).map (sdI m))))), some (.int n), some (.int (sdI m n))], rfl, .inl ?_, _, _, rfl⟩
      refine seq_set (d := .int (sdI m n)) (vA_to (ds := [.int m, .int n]) rfl (lawside_ok hm n)) ?_
      rw [List.map_append, List.map_cons, List.map_nil, dd_snoc]
      by_cases hx : sdI m n ∈ dd (done.map (sdI m))
      · rw [if_pos hx]
        refine (one_iff (vT_to (v2_to (d := .int (sdI m n)) (e := .lst (It (dd (done.map (sdI m))))) rfl rfl (inF_lst true _ _)) (by rw [decide_eq_true hx]; rfl))).trans rfl
      · rw [if_neg hx]
        refine (if_t (vT_to (v2_to (d := .int (sdI m n)) (e := .lst (It (dd (done.map (sdI m))))) rfl rfl (inF_lst true _ _)) (by rw [decide_eq_false hx]; rfl))).trans ?_
        refine (app_ok (ds := It (dd (done.map (sdI m)))) (d := .int (sdI m n)) rfl rfl hdl).trans ?_
        rw [show It (dd (done.map (sdI m))) ++ [D.int (sdI m n)] = It (dd (done.map (sdI m)) ++ [sdI m n]) from (it_app _ [sdI m n]).symm ▸ rfl]
        rfl)
  subst h2
  refine runF_rt (seq_set (d := .lst []) rfl (seq_nx ((for_eq (ds := It ls) rfl).trans h1) (ret_ok ?_)))
  exact v1_to (d := .lst (It (dd (ls.map (sdI m))))) rfl (sorted_ok _)
end VL

namespace VL
open PySem PySem.Spec L2
/-! ### what the sides are -/
theorem full_odd {m : Nat} (h : 1 ≤ m) : full m % 2 = 1 := by
  obtain ⟨k, rfl⟩ : ∃ k, m = k + 1 := ⟨m - 1, by omega⟩
  unfold full
  rw [Int.pow_succ]
  omega
theorem sdI_even {m : Nat} (h : 1 ≤ m) (l : Int) : sdI m l % 2 = 0 := by
  have := full_odd h
  unfold sdI
  split <;> omega
theorem sdI_proper {m : Nat} {l : Int} (h : proper m l) : proper m (sdI m l) := by
  obtain ⟨h1, h2⟩ := h
  unfold sdI
  split
  · exact ⟨by omega, by omega⟩
  · exact ⟨h1, h2⟩
theorem sdI_fix {m : Nat} {l : Int} (h : l % 2 = 0) : sdI m l = l := by
  unfold sdI
  rw [if_neg (by omega)]
theorem sdI_flip {m : Nat} (h : 1 ≤ m) (l : Int) : sdI m (full m - l) = sdI m l := by
  have := full_odd h
  unfold sdI
  by_cases q : l % 2 = 1
  · rw [if_pos q, if_neg (by omega)]
  · rw [if_neg q, if_pos (by omega)]
    omega
theorem canon_mem {m : Nat} {ls : List Int} {x : Int} : x ∈ canon m ls ↔ ∃ l ∈ ls, sdI m l = x := by unfold canon; rw [sortI_mem, dd_mem, List.mem_map]
theorem canon_nodup (m : Nat) (ls : List Int) : (canon m ls).Nodup := sortI_nodup (dd_nodup _)
theorem canon_asc (m : Nat) (ls : List Int) : (canon m ls).Pairwise (· ≤ ·) := sortI_sorted _
theorem canon_len (m : Nat) (ls : List Int) : (canon m ls).length ≤ ls.length := by
  unfold canon
  rw [sortI_len]
  have := dd_len (ls.map (sdI m))
  rwa [List.length_map] at this
theorem canon_eq {m : Nat} {ls : List Int} {S : List Int} (h1 : S.Nodup) (h2 : S.Pairwise (· ≤ ·)) (h : ∀ x, (∃ l ∈ ls, sdI m l = x) ↔ x ∈ S) : canon m ls = S :=
  asc_ext (canon_nodup m ls) (canon_asc m ls) h1 h2 fun x => canon_mem.trans (h x)
theorem canon_fix {m : Nat} (h : 1 ≤ m) {ls : List Int} {x : Int} (hx : x ∈ canon m ls) : sdI m x = x := by
  obtain ⟨l, _, rfl⟩ := canon_mem.mp hx
  exact sdI_fix (sdI_even h l)
theorem canon_proper {m : Nat} {ls : List Int} (hp : ∀ l ∈ ls, proper m l) : ∀ l ∈ canon m ls, proper m l := fun x hx => by
  obtain ⟨l, hl, rfl⟩ := canon_mem.mp hx
  exact sdI_proper (hp l hl)
/-- members that are sides: their book is they in order -/
theorem canon_self {m : Nat} {ls S : List Int} (hf : ∀ l ∈ ls, sdI m l = l) (h1 : S.Nodup) (h2 : S.Pairwise (· ≤ ·)) (h : ∀ x, x ∈ ls ↔ x ∈ S) : canon m ls = S :=
  canon_eq h1 h2 fun x => by
    rw [← h]
    constructor
    · rintro ⟨l, hl, rfl⟩; rw [hf l hl]; exact hl
    · intro hx; exact ⟨x, hx, hf x hx⟩
/-! ### reading books -/
theorem getF_many (m : Nat) (S : List Int) : getF [("Book" : Str)] ("many" : Str) (bk m S) = .ok (.int m) := rfl
theorem getF_sides (m : Nat) (S : List Int) : getF [("Book" : Str)] ("sides" : Str) (bk m S) = .ok (.tup (It S)) := rfl
theorem blen_ok (m : Nat) (S : List Int) : e_Book___len__ [bk m S] = .ok (.int (S.length : Nat)) := by
  refine runF_rt (ret_ok (v1_to (d := .tup (It S)) rfl ?_))
  show Res.ok (D.int ((It S).length : Nat)) = _
  rw [it_len]
theorem blen2_ok (m : Nat) (S : List Int) (h : S.length ≤ 1000000) : ownLen ("Book" : Str) e_Book___len__ (bk m S) = .ok (.int (S.length : Nat)) := by
  have h2 : ((S.length : Nat) : Int) < 2 ^ 63 := by omega
  have h1 : 0 ≤ ((S.length : Nat) : Int) := by omega
  simp only [ownLen, if_true, blen_ok]
  exact if_pos ⟨h1, h2⟩
theorem bitems_ok (m : Nat) (S : List Int) : ownItems ("Book" : Str) ("sides" : Str) (bk m S) = .ok (It S) := by
  unfold ownItems
  exact if_pos rfl
theorem blist_ok (m : Nat) (S : List Int) (h : S.length ≤ 1000000) : ownList ("Book" : Str) ("sides" : Str) e_Book___len__ (bk m S) = .ok (.lst (It S)) := by
  unfold ownList
  rw [bitems_ok]
  show (match e_Book___len__ [bk m S] with
  | .ok (.int k) => if 0 ≤ k ∧ k ≤ 16777216 ∧ (It S).length ≤ 16777216 then Res.ok (D.lst (It S)) else .bad
  | _ => .bad) = _
  rw [blen_ok]
  exact if_pos ⟨by omega, by omega, by rw [it_len]; omega⟩
def scOf : D → Bool
  | .int _ => true
  | _ => false
theorem cont_int {m : Nat} (hm : m ≤ 1000) (S : List Int) (l : Int) : e_Book___contains__ [bk m S, .int l] = .ok (.bl (lotOk m (.int l) && decide (sdI m l ∈ S))) := by
  refine runF_rt (ret_ok ?_)
  have h1 := isLot_ok hm (d := .int l) rfl
  by_cases hp : proper m l
  · rw [lotOk_p hp] at h1 ⊢
    refine (vAnd_t (vA_to (ds := [.int m, .int l]) rfl h1) (v2_to (d := .int (sdI m l)) (e := .tup (It S)) (vA_to (ds := [.int m, .int l]) rfl (side_ok hm hp)) rfl (inF_tup false _ _))).trans ?_
    simp
  · have hn : lotOk m (.int l) = false := by
      cases q : lotOk m (.int l) with
      | false => rfl
      | true =>
        exfalso
        apply hp
        have q' : (decide (0 < l) && decide (l < full m)) = true := q
        rw [Bool.and_eq_true] at q'
        exact ⟨of_decide_eq_true q'.1, of_decide_eq_true q'.2⟩
    rw [hn] at h1 ⊢
    exact vAnd_f (vA_to (ds := [.int m, .int l]) rfl h1)
theorem cont_bad {m : Nat} (hm : m ≤ 1000) (S : List Int) {d : D} (hp : plainD d = true) (hb : lotOk m d = false) : e_Book___contains__ [bk m S, d] = .ok (.bl false) := by
  refine runF_rt (ret_ok ?_)
  have h1 := isLot_ok hm hp
  rw [hb] at h1
  exact vAnd_f (vA_to (ds := [.int m, d]) rfl h1)
theorem in_of {m : Nat} {S : List Int} {d : D} {q : Bool} (h : e_Book___contains__ [bk m S, d] = .ok (.bl q)) : ownIn false ("Book" : Str) e_Book___contains__ d (bk m S) = .ok (.bl q) := by
  show (if ("Book" : Str) = "Book" then (match e_Book___contains__ [bk m S, d] with
    | .ok (.bl b) => Res.ok (D.bl (if false then !b else b))
    | _ => .bad) else .bad) = _
  rw [if_pos rfl, h]
  rfl
theorem full_small {m : Nat} (h : m ≤ 6) : 0 ≤ full m ∧ full m ≤ 63 := by
  obtain h | h | h | h | h | h | h : m = 0 ∨ m = 1 ∨ m = 2 ∨ m = 3 ∨ m = 4 ∨ m = 5 ∨ m = 6 := by omega
  all_goals (subst h; unfold full; decide)
theorem in_ok {m : Nat} (hm : m ≤ 6) (S : List Int) : e__law_in [bk m S, .int m, .lst (It S)] = .ok (.bl true) := by
  have hf := full_small hm
  have hbase : ∀ d ∈ ([.bl true, .bl false, .non, .str ("2" : Str), .tup [.int 2], .lst [.int 2], .int (10 ^ 20)] : List D), plainD d = true ∧ lotOk m d = false := by
    have hl : lotOk m (.int (10 ^ 20)) = false := by
      show (decide (0 < (10 : Int) ^ 20) && decide ((10 : Int) ^ 20 < full m)) = false
      rw [decide_eq_false (show ¬ (10 : Int) ^ 20 < full m by omega), Bool.and_false]
    intro d hd
    simp only [List.mem_cons, List.not_mem_nil, or_false] at hd
    rcases hd with rfl | rfl | rfl | rfl | rfl | rfl | rfl
    all_goals first | exact ⟨rfl, hl⟩ | exact ⟨rfl, rfl⟩
  obtain ⟨δ1, h1, a1, b1, e1⟩ := loop_ints (t := tN 4) (b := (sSeq (sSet 5 (vAnd (v3 ltI ltI (vC (.int 0)) (vVar 4) (vVar 3)) (v2 (inF false) (vA e__law_side (aCons (vVar 1) (aCons (vVar 4) aNil))) (vVar 2)))) <|
  (sIf (vT (v2 neD (v2 (ownIn false ("Book" : Str) e_Book___contains__) (vVar 4) (vVar 0)) (vVar 5))) (sRet (vC (.bl false))) sNil))) (rngL (-2) (full m + 3 - -2).toNat)
    [some (bk m S), some (.int m), some (.lst (It S)), some (.int (full m)), none, none, none]
    (fun _ δ => ∃ a b, δ = [some (bk m S), some (.int m), some (.lst (It S)), some (.int (full m)), a, b, none]) ⟨none, none, rfl⟩ (by
      rintro done n tl δ e ⟨a, b, rfl⟩
      refine ⟨_, [some (bk m S), some (.int m), some (.lst (It S)), some (.int (full m)), some (.int n), some (.bl (lotOk m (.int n) && decide (sdI m n ∈ S))), none], rfl, .inl ?_, _, _, rfl⟩
      refine seq_set (d := .bl (lotOk m (.int n) && decide (sdI m n ∈ S))) ?_ ?_
      · have h3 : v3 ltI ltI (vC (.int 0)) (vVar 4) (vVar 3) [some (bk m S), some (.int m), some (.lst (It S)), some (.int (full m)), some (.int n), b, none] = .ok (.bl (lotOk m (.int n))) := by
          have q2 : ltI (.int 0) (.int n) = .ok (.bl (decide (0 < n))) := rfl
          have q3 : ltI (.int n) (.int (full m)) = .ok (.bl (decide (n < full m))) := rfl
          simp only [v3, vVar, vC, v2, Res.ok_bind, List.getElem?_cons_succ, List.getElem?_cons_zero, q2, q3, asB]
          show _ = Res.ok (D.bl (decide (0 < n) && decide (n < full m)))
          cases decide (0 < n) <;> rfl
        cases hq : lotOk m (.int n) with
        | true =>
          rw [hq] at h3
          refine (vAnd_t h3 (v2_to (d := .int (sdI m n)) (e := .lst (It S)) (vA_to (ds := [.int m, .int n]) rfl (lawside_ok (by omega) n)) rfl (inF_lst false _ _))).trans ?_
          simp
        | false =>
          rw [hq] at h3
          exact vAnd_f h3
      · exact one_iff (vT_to (v2_to (d := .bl (lotOk m (.int n) && decide (sdI m n ∈ S))) (e := .bl (lotOk m (.int n) && decide (sdI m n ∈ S))) (v2_to (d := .int n) (e := bk m S) rfl rfl (in_of (cont_int (by omega) S n))) rfl (neD_bl _ _)) (by simp)))
  subst e1
  obtain ⟨δ2, h2, c2, e2⟩ := loop_inv (t := tN 6) (b := (sIf (vT (v2 (ownIn false ("Book" : Str) e_Book___contains__) (vVar 6) (vVar 0))) (sRet (vC (.bl false))) sNil)) [.bl true, .bl false, .non, .str ("2" : Str), .tup [.int 2], .lst [.int 2], .int (10 ^ 20)]
    [some (bk m S), some (.int m), some (.lst (It S)), some (.int (full m)), a1, b1, none] (fun δ => ∃ c, δ = [some (bk m S), some (.int m), some (.lst (It S)), some (.int (full m)), a1, b1, c]) ⟨none, rfl⟩ (by
      rintro d hd δ ⟨c, rfl⟩
      obtain ⟨p1, p2⟩ := hbase d hd
      refine ⟨_, _, rfl, .inl (one_iff (vT_to (v2_to (d := d) (e := bk m S) rfl rfl (in_of (cont_bad (by omega) S p1 p2))) rfl)), _, rfl⟩)
  subst e2
  refine runF_rt (seq_set (d := .int (full m)) (v2_to (d := .int (2 ^ m)) (e := .int 1) (v2_to (d := .int 1) (e := .int m) rfl rfl (shl1 (by omega))) rfl rfl) (seq_nx ((for_eq (ds := It (rngL (-2) (full m + 3 - -2).toNat)) ?_).trans h1) (seq_nx ((for_eq (ds := [.bl true, .bl false, .non, .str ("2" : Str), .tup [.int 2], .lst [.int 2], .int (10 ^ 20)]) ?_).trans h2) (ret_ok rfl))))
  · exact vRng_ok (i := -2) (j := full m + 3) rfl rfl (by omega) (by omega) (by omega) (by omega)
  · rfl
theorem is_ok {m : Nat} {S : List Int} (h : S.length ≤ 1000000) : e__law_is_book [bk m S, .int m, .lst (It S)] = .ok (.bl true) := by
  obtain ⟨δ1, h1, a1, e1⟩ := loop_ints (t := tN 3) (b := (sIf (tNotD (vT (vA e__law_whole (aCons (vVar 3) aNil)))) (sRet (vC (.bl false))) sNil)) S
    [some (bk m S), some (.int m), some (.lst (It S)), none] (fun _ δ => ∃ a, δ = [some (bk m S), some (.int m), some (.lst (It S)), a]) ⟨none, rfl⟩ (by
      rintro done n tl δ e ⟨a, rfl⟩
      exact ⟨_, _, rfl, .inl (one_iff (not_t (vT_to (vA_to (ds := [.int n]) rfl (lwhole_ok rfl)) rfl))), _, rfl⟩)
  subst e1
  refine runF_rt (seq_iff (or_ff (not_t (vT_to ?_ rfl)) (or_ff (not_t (vT_to (vA_to (ds := [.int m]) rfl (lwhole_ok rfl)) rfl)) (vT_to (v2_to (d := .int m) (e := .int m) rfl rfl (neD_int _ _)) (by simp)))) (seq_iff (or_ff (not_t (vT_to ?_ rfl)) (or_ff (vT_to (v2_to (d := .lst (It S)) (e := .lst (It S)) rfl rfl (neD_lst _ _)) (by simp)) (vT_to (v2_to (d := .int (S.length : Nat)) (e := .int (S.length : Nat)) (v1_to (d := bk m S) rfl (blen2_ok m S h)) ?_ (neD_int _ _)) (by simp)))) (seq_nx ((for_eq (ds := It S) rfl).trans h1) (ret_ok (vAnd_t ?_ ?_)))))
  · rfl
  · rfl
  · refine v1_to (d := .lst (It S)) rfl ?_
    show Res.ok (D.int ((It S).length : Nat)) = _
    rw [it_len]
  · refine (v2_to (d := .lst (It S)) (e := .lst (It S)) ?_ rfl (eqD_lst _ _)).trans (by simp)
    refine (lc_ints1 S (fun n => n) ?_ (by omega) fun n hn => ⟨_, rfl, rfl⟩).trans (by simp)
    show (vVar 0 _).bind _ = _
    exact bitems_ok m S
  · refine (v2_to (d := .lst (It S)) (e := .lst (It S)) (v1_to (d := bk m S) rfl (blist_ok m S h)) rfl (eqD_lst _ _)).trans (by simp)
theorem counts_eq (m : Nat) : e_check_counts [.int m, .int m] = .ok .non := by
  refine runF_nx (δ := [some (.int m), some (.int m)]) (one_iff (vT_to (v2_to (d := .int m) (e := .int m) rfl rfl (neD_int _ _)) (by simp)))
theorem counts_ne {m k : Nat} (h : m ≠ k) : e_check_counts [.int m, .int k] = .exc ("CountsDiffer" : Str) [] [] := by
  refine runF_exc ((if_t (vT_to (v2_to (d := .int m) (e := .int k) rfl rfl (neD_int _ _)) ?_)).trans rfl)
  simp
  omega
theorem badd_ok {m : Nat} (hm : m ≤ 1000) {S T : List Int} (hS : ∀ l ∈ S, proper m l) (hT : ∀ l ∈ T, proper m l) (hl : S.length + T.length ≤ 1000000) : ownBin ("Book" : Str) e_Book___add__ (bk m S) (bk m T) = .ok (bk m (canon m (S ++ T))) := by
  show (if ("Book" : Str) = "Book" ∧ ("Book" : Str) = "Book" then e_Book___add__ [bk m S, bk m T] else .bad) = _
  rw [if_pos ⟨rfl, rfl⟩]
  refine runF_rt (seq_nx (expr_ok (vA_to (ds := [.int m, .int m]) rfl (counts_eq m))) (ret_ok (vA_to (ds := [.int m, .tup (It (S ++ T))]) ?_ (book_ok hm rfl ?_ ?_))))
  · refine aCons_ok rfl (aCons_ok (v2_to (d := .tup (It S)) (e := .tup (It T)) rfl rfl ((catT_ok (by rw [it_len, it_len]; omega)).trans (by rw [it_app]))) rfl)
  · rw [List.length_append]; omega
  · intro l hl
    rcases List.mem_append.mp hl with h | h
    · exact hS l h
    · exact hT l h
theorem bsub_ok {m : Nat} (hm : m ≤ 1000) {S T : List Int} (hS : ∀ l ∈ S, proper m l) (hl : S.length ≤ 1000000) : ownBin ("Book" : Str) e_Book___sub__ (bk m S) (bk m T) = .ok (bk m (canon m (S.filter fun x => !decide (x ∈ T)))) := by
  show (if ("Book" : Str) = "Book" ∧ ("Book" : Str) = "Book" then e_Book___sub__ [bk m S, bk m T] else .bad) = _
  rw [if_pos ⟨rfl, rfl⟩]
  refine runF_rt (seq_nx (expr_ok (vA_to (ds := [.int m, .int m]) rfl (counts_eq m))) (ret_ok (vA_to (ds := [.int m, .lst (It (S.filter fun x => !decide (x ∈ T)))]) ?_ (book_ok hm rfl ?_ ?_))))
  · refine aCons_ok rfl (aCons_ok ((lc_ints S (fun x => !decide (x ∈ T)) (fun x => x) rfl (by omega) fun n hn => ⟨_, rfl, vT_to (v2_to (d := .int n) (e := .tup (It T)) rfl rfl (inF_tup true n T)) (by simp), fun _ => rfl⟩).trans (by simp)) rfl)
  · exact Nat.le_trans (List.length_filter_le ..) hl
  · intro l hl
    exact hS l (List.mem_filter.mp hl).1
theorem badd_ne {m k : Nat} (h : m ≠ k) (S T : List Int) : ownBin ("Book" : Str) e_Book___add__ (bk m S) (bk k T) = .exc ("CountsDiffer" : Str) [] [] := by
  show (if ("Book" : Str) = "Book" ∧ ("Book" : Str) = "Book" then e_Book___add__ [bk m S, bk k T] else .bad) = _
  rw [if_pos ⟨rfl, rfl⟩]
  refine runF_exc (seq_exc ?_)
  unfold sExpr
  rw [vA_to (q := .exc ("CountsDiffer" : Str) [] []) (ds := [.int m, .int k]) rfl (counts_ne h)]
  rfl
theorem bsub_ne {m k : Nat} (h : m ≠ k) (S T : List Int) : ownBin ("Book" : Str) e_Book___sub__ (bk m S) (bk k T) = .exc ("CountsDiffer" : Str) [] [] := by
  show (if ("Book" : Str) = "Book" ∧ ("Book" : Str) = "Book" then e_Book___sub__ [bk m S, bk k T] else .bad) = _
  rw [if_pos ⟨rfl, rfl⟩]
  refine runF_exc (seq_exc ?_)
  unfold sExpr
  rw [vA_to (q := .exc ("CountsDiffer" : Str) [] []) (ds := [.int m, .int k]) rfl (counts_ne h)]
  rfl
theorem beq_ok (m k : Nat) (S T : List Int) : e_Book___eq__ [bk m S, bk k T] = .ok (.bl (decide (m = k) && decide (S = T))) := by
  refine runF_rt (seq_iff (not_t (vT_to ?_ rfl)) (ret_ok ?_))
  · rfl
  · have h1 : ∀ δ : DSt, v2 eqD (v1 (getF [("Book" : Str)] ("many" : Str)) (vVar 0)) (v1 (getF [("Book" : Str)] ("many" : Str)) (vVar 1)) (some (bk m S) :: some (bk k T) :: δ) = .ok (.bl (decide (m = k))) := fun δ => by
      refine (v2_to (d := .int m) (e := .int k) rfl rfl (eqD_int _ _)).trans ?_
      by_cases q : m = k
      · rw [decide_eq_true q, decide_eq_true (by rw [q])]
      · rw [decide_eq_false q, decide_eq_false (by omega)]
    by_cases q : m = k
    · rw [decide_eq_true q, Bool.true_and]
      refine vAnd_t ((h1 _).trans (by rw [decide_eq_true q])) (v2_to (d := .tup (It S)) (e := .tup (It T)) rfl rfl (eqD_tup _ _))
    · rw [decide_eq_false q, Bool.false_and]
      exact vAnd_f ((h1 _).trans (by rw [decide_eq_false q]))
theorem beq_no {m : Nat} {S : List Int} {d : D} (h : fCls ("Book" : Str) ot_Book d = some false) : e_Book___eq__ [bk m S, d] = .ok (.bl false) := by
  refine runF_rt (seq_rt ((if_t (not_f (vT_to (q := false) (v1_to (d := d) rfl ?_) rfl))).trans (ret_ok rfl)))
  unfold isTy
  rw [h]
theorem cmp_of {c : Str} {cs : List Str} {ef : List D → Res D} {ns : List Str} {ds : List D} {y q : D} (h : ef [.ins c ns ds, y] = .ok q) (hb : bOk c cs y = true) : ownCmp c cs ef (.ins c ns ds) y = .ok q := by
  show (if c = c ∧ bOk c cs y = true then (ef [.ins c ns ds, y]).nox else .bad) = _
  rw [if_pos ⟨rfl, hb⟩, h]
  rfl
theorem bne_of {m : Nat} {S : List Int} {y : D} {q : Bool} (hb : bOk ("Book" : Str) ot_Book y = true) (h : e_Book___eq__ [bk m S, y] = .ok (.bl q)) : e_Book___ne__ [bk m S, y] = .ok (.bl (!q)) := by
  refine runF_rt (ret_ok (v1_to (d := .bl q) (v2_to (d := bk m S) (e := y) rfl rfl (cmp_of h hb)) rfl))
theorem eqO {m k : Nat} {S T : List Int} : ownCmp ("Book" : Str) ot_Book e_Book___eq__ (bk m S) (bk k T) = .ok (.bl (decide (m = k) && decide (S = T))) := cmp_of (beq_ok m k S T) rfl
theorem neO {m k : Nat} {S T : List Int} : ownCmp ("Book" : Str) ot_Book e_Book___ne__ (bk m S) (bk k T) = .ok (.bl (!(decide (m = k) && decide (S = T)))) := cmp_of (bne_of rfl (beq_ok m k S T)) rfl
theorem refused_ok {m : Nat} (hm : m ≤ 1000) {d : D} {ls : List Int} {tl : List D} (hl : ls.length ≤ 1000000) (hp : ∀ l ∈ ls, proper m l) (hd : plainD d = true) (hb : lotOk m d = false) : e__law_refused [.int m, .lst (It ls ++ d :: tl)] = .ok (.lst [d]) := by
  refine runF_rt (seq_rt ?_)
  unfold sTry
  have h1 : sExpr (vA e_Book___init__ (aCons (vVar 0) (aCons (vVar 1) aNil))) [some (.int m), some (.lst (It ls ++ d :: tl)), none] = .exc ("BadLot" : Str) ["lot"] [d] := by
    unfold sExpr
    rw [vA_to (q := .exc ("BadLot" : Str) ["lot"] [d]) (ds := [.int m, .lst (It ls ++ d :: tl)]) rfl (book_bad hm hl hp hd hb)]
    rfl
  show (match sExpr (vA e_Book___init__ (aCons (vVar 0) (aCons (vVar 1) aNil))) [some (.int m), some (.lst (It ls ++ d :: tl)), none] with
    | .exc c ns ds => runH 3 sub_k1 _ c ns ds
    | r => r) = _
  rw [h1]
  rfl
theorem refusals_ok {m k : Nat} (h : m ≠ k) (S T : List Int) : e__law_refusals [bk m S, bk k T] = .ok (.int 2) := by
  have s1 : ∀ (n : Int) (ef : List D → Res D), ownBin ("Book" : Str) ef (bk m S) (bk k T) = .exc ("CountsDiffer" : Str) [] [] →
      sTrySure 3 sub_k0 (fun δ => match (vVar 0) δ, (vVar 1) δ with | .ok x, .ok y => ownBin ("Book" : Str) ef x y | _, _ => .bad) ("CountsDiffer" : Str) (sSet 2 (v2 addI (vVar 2) (v1 intD (vAnd (v1 (isX tb_k1) (vVar 3)) (v1 notB (v1 (isX tb_k0) (vVar 3))))))) [some (bk m S), some (bk k T), some (.int n), none]
        = .ok (.nx [some (bk m S), some (bk k T), some (.int (n + 1)), none]) := fun n ef e => by
    unfold sTrySure
    simp only [vVar, List.getElem?_cons_succ, List.getElem?_cons_zero, e]
    rfl
  refine runF_rt (seq_set (d := .int 0) rfl (seq_nx (s1 0 _ (badd_ne h S T)) (seq_nx (s1 _ _ (bsub_ne h S T)) (ret_ok rfl))))
end VL

namespace VL
open PySem PySem.Spec L2
theorem canon_two {o : Nat} (h : 2 ≤ o) {ls : List Int} (hl : ls = [2] ∨ ls = []) : canon o ls = ls := by
  rcases hl with rfl | rfl
  · exact canon_self (fun l hl => by simp at hl; subst hl; exact sdI_fix (by decide)) (by decide) (by decide) fun x => Iff.rfl
  · exact canon_self (fun l hl => by simp at hl) (by decide) (by decide) fun x => Iff.rfl
theorem full_ge {m : Nat} (h : 2 ≤ m) (h2 : m ≤ 6) : 3 ≤ full m := by
  obtain h | h | h | h | h : m = 2 ∨ m = 3 ∨ m = 4 ∨ m = 5 ∨ m = 6 := by omega
  all_goals (subst h; unfold full; decide)
theorem two_proper {o : Nat} (h : 2 ≤ o) (h2 : o ≤ 6) {ls : List Int} (hl : ls = [2] ∨ ls = []) : ∀ l ∈ ls, proper o l := by
  have := full_ge h h2
  rcases hl with rfl | rfl
  · intro l hl
    simp at hl
    subst hl
    exact ⟨by decide, by omega⟩
  · intro l hl; simp at hl
theorem apart_ok {m o : Nat} (hm : 2 ≤ m ∧ m ≤ 6) (ho : 2 ≤ o ∧ o ≤ 6) (hne : m ≠ o) (S : List Int) : e__law_apart [bk m S, .int m, .int o] = .ok (.bl true) := by
  · obtain ⟨δ1, h1, a1, b1, c1, e1⟩ := loop_inv (t := tN 3) (b := (sForI (vIt (vA (fun ds => .ok (.lst ds)) (aCons (vA (fun ds => .ok (.lst ds)) (aCons (vC (.int 2)) aNil)) (aCons (vA (fun ds => .ok (.lst ds)) aNil) aNil)))) (tN 4) (sSeq (sSet 5 (vA e_Book___init__ (aCons (vVar 2) (aCons (vVar 4) aNil)))) <|
      (sSeq (sIf (tOrD (vT (v2 isNotB (v2 (ownCmp ("Book" : Str) ot_Book e_Book___eq__) (vVar 3) (vVar 5)) (vC (.bl false)))) (vT (v2 isNotB (v2 (ownCmp ("Book" : Str) ot_Book e_Book___ne__) (vVar 5) (vVar 3)) (vC (.bl true))))) (sRet (vC (.bl false))) sNil) <|
      (sSeq (sIf (tOrD (vT (v2 neD (vA e__law_refusals (aCons (vVar 3) (aCons (vVar 5) aNil))) (vC (.int 2)))) (vT (v2 neD (vA e__law_refusals (aCons (vVar 5) (aCons (vVar 3) aNil))) (vC (.int 2))))) (sRet (vC (.bl false))) sNil) <|
      (sIf (tNotD (vT (vA e__law_is_book (aCons (vVar 5) (aCons (vVar 2) (aCons (vVar 4) aNil)))))) (sRet (vC (.bl false))) sNil))))))
      [bk m S, bk m (canon m []), bk m (canon m [2])] [some (bk m S), some (.int m), some (.int o), none, none, none] (fun δ => ∃ a b c, δ = [some (bk m S), some (.int m), some (.int o), a, b, c]) ⟨none, none, none, rfl⟩ (by
        rintro d hd δ ⟨a, b, c, rfl⟩
        obtain ⟨T, rfl⟩ : ∃ T, d = bk m T := by
          simp only [List.mem_cons, List.not_mem_nil, or_false] at hd
          rcases hd with rfl | rfl | rfl
          · exact ⟨_, rfl⟩
          · exact ⟨_, rfl⟩
          · exact ⟨_, rfl⟩
        refine ⟨[some (bk m S), some (.int m), some (.int o), some (bk m T), b, c], ?_⟩
        obtain ⟨δ2, h2, b2, c2, e2⟩ := loop_inv (t := tN 4) (b := (sSeq (sSet 5 (vA e_Book___init__ (aCons (vVar 2) (aCons (vVar 4) aNil)))) <|
          (sSeq (sIf (tOrD (vT (v2 isNotB (v2 (ownCmp ("Book" : Str) ot_Book e_Book___eq__) (vVar 3) (vVar 5)) (vC (.bl false)))) (vT (v2 isNotB (v2 (ownCmp ("Book" : Str) ot_Book e_Book___ne__) (vVar 5) (vVar 3)) (vC (.bl true))))) (sRet (vC (.bl false))) sNil) <|
          (sSeq (sIf (tOrD (vT (v2 neD (vA e__law_refusals (aCons (vVar 3) (aCons (vVar 5) aNil))) (vC (.int 2)))) (vT (v2 neD (vA e__law_refusals (aCons (vVar 5) (aCons (vVar 3) aNil))) (vC (.int 2))))) (sRet (vC (.bl false))) sNil) <|
          (sIf (tNotD (vT (vA e__law_is_book (aCons (vVar 5) (aCons (vVar 2) (aCons (vVar 4) aNil)))))) (sRet (vC (.bl false))) sNil)))))
          [.lst (It [2]), .lst (It [])] [some (bk m S), some (.int m), some (.int o), some (bk m T), b, c] (fun δ => ∃ b c, δ = [some (bk m S), some (.int m), some (.int o), some (bk m T), b, c]) ⟨b, c, rfl⟩ (by
            rintro d hd δ ⟨b, c, rfl⟩
            obtain ⟨ls, rfl, hls⟩ : ∃ ls, d = .lst (It ls) ∧ (ls = [2] ∨ ls = []) := by
              simp only [List.mem_cons, List.not_mem_nil, or_false] at hd
              rcases hd with rfl | rfl
              · exact ⟨_, rfl, .inl rfl⟩
              · exact ⟨_, rfl, .inr rfl⟩
            have hlen : ls.length ≤ 1000000 := by rcases hls with rfl | rfl <;> simp
            have hb := book_ok (m := o) (by omega) (sq := .lst (It ls)) rfl hlen (two_proper ho.1 ho.2 hls)
            rw [canon_two ho.1 hls] at hb
            refine ⟨_, [some (bk m S), some (.int m), some (.int o), some (bk m T), some (.lst (It ls)), some (bk o ls)], rfl, .inl ?_, _, _, rfl⟩
            refine seq_set (vA_to (ds := [.int o, .lst (It ls)]) rfl hb) (seq_iff (or_ff ?_ ?_) (seq_iff (or_ff ?_ ?_) (one_iff (not_t ?_))))
            · refine vT_to (v2_to (d := .bl false) (e := .bl false) (v2_to (d := bk m T) (e := bk o ls) rfl rfl (eqO.trans (by rw [decide_eq_false hne]; rfl))) rfl rfl) rfl
            · refine vT_to (v2_to (d := .bl true) (e := .bl true) (v2_to (d := bk o ls) (e := bk m T) rfl rfl (neO.trans (by rw [decide_eq_false (Ne.symm hne)]; rfl))) rfl rfl) rfl
            · exact vT_to (v2_to (d := .int 2) (e := .int 2) (vA_to (ds := [bk m T, bk o ls]) rfl (refusals_ok hne _ _)) rfl (neD_int _ _)) rfl
            · exact vT_to (v2_to (d := .int 2) (e := .int 2) (vA_to (ds := [bk o ls, bk m T]) rfl (refusals_ok (Ne.symm hne) _ _)) rfl (neD_int _ _)) rfl
            · exact vT_to (vA_to (ds := [bk o ls, .int o, .lst (It ls)]) rfl (is_ok hlen)) rfl)
        subst e2
        exact ⟨_, rfl, .inl ((for_eq (ds := [.lst (It [2]), .lst (It [])]) rfl).trans h2), _, _, _, rfl⟩)
    refine runF_rt (seq_nx (δ' := δ1) ((for_eq (ds := [bk m S, bk m (canon m []), bk m (canon m [2])]) ?_).trans h1) (ret_ok rfl))
    have b0 := book_ok (m := m) (by omega) (sq := .lst (It [])) rfl (by simp) (two_proper hm.1 hm.2 (.inr rfl))
    have b2 := book_ok (m := m) (by omega) (sq := .lst (It [2])) rfl (by simp) (two_proper hm.1 hm.2 (.inl rfl))
    refine vIt_lst (vA_to (ds := [bk m S, bk m (canon m []), bk m (canon m [2])]) (aCons_ok rfl (aCons_ok (vA_to (ds := [.int m, .lst (It [])]) rfl b0) (aCons_ok (vA_to (ds := [.int m, .lst (It [2])]) rfl b2) rfl))) rfl)
end VL

namespace VL
open PySem PySem.Spec L2
theorem proper_flip {m : Nat} {l : Int} (h : proper m l) : proper m (full m - l) := ⟨by have := h.2; omega, by have := h.1; omega⟩
def bads (m : Nat) : List D := [.int 0, .int (full m), .int (full m + 1), .int (-1), .bl true, .bl false, .non, .str ("2" : Str), .lst [.int 2]]
theorem bads_ok {m : Nat} (hm : 2 ≤ m ∧ m ≤ 6) : ∀ d ∈ bads m, plainD d = true ∧ lotOk m d = false ∧ neD (.lst [d]) (.lst [d]) = .ok (.bl false) := by
  have hi : ∀ n : Int, neD (.lst [.int n]) (.lst [.int n]) = .ok (.bl false) := fun n => (neD_lst [n] [n]).trans (by simp)
  have hl : ∀ n : Int, (n ≤ 0 ∨ full m ≤ n) → lotOk m (.int n) = false := fun n h => by
    show (decide (0 < n) && decide (n < full m)) = false
    rcases h with h | h
    · rw [decide_eq_false (by omega), Bool.false_and]
    · rw [decide_eq_false (show ¬ n < full m by omega), Bool.and_false]
  intro d hd
  unfold bads at hd
  simp only [List.mem_cons, List.not_mem_nil, or_false] at hd
  rcases hd with rfl | rfl | rfl | rfl | rfl | rfl | rfl | rfl | rfl
  · exact ⟨rfl, hl _ (.inl (by omega)), hi _⟩
  · exact ⟨rfl, hl _ (.inr (by omega)), hi _⟩
  · exact ⟨rfl, hl _ (.inr (by omega)), hi _⟩
  · exact ⟨rfl, hl _ (.inl (by omega)), hi _⟩
  · exact ⟨rfl, rfl, rfl⟩
  · exact ⟨rfl, rfl, rfl⟩
  · exact ⟨rfl, rfl, rfl⟩
  · refine ⟨rfl, rfl, ?_⟩
    unfold neD
    rw [if_pos (show (okD eqDepth (.lst [.str ("2" : Str)]) && okD eqDepth (.lst [.str ("2" : Str)])) = true from by decide +kernel), show D.eqb (.lst [.str ("2" : Str)]) (.lst [.str ("2" : Str)]) = true from by decide +kernel]
    rfl
  · exact ⟨rfl, rfl, rfl⟩
/-- the slots once the lots are drawn -/
abbrev stt (ns row : List Int) (m : Nat) (cells ls os : List Int) : DSt := some (.scr ns) :: some (.lst (It row)) :: some (.int m) :: some (.int (full m)) :: some (.lst (It cells)) :: some (.lst (It ls)) :: some (.lst (It os)) :: none :: none :: none :: none :: none :: none :: none :: none :: none :: none :: none :: none :: none :: none :: none :: none :: none :: []
theorem law_true : ∀ ns, ns.length ≤ 63 → e_law [.scr ns] = .ok (.bl true) := by
  intro ns hns
  obtain ⟨c0, hc0⟩ := cell_ok ns 0 (by decide) (by decide) hns
  obtain ⟨row, hrow, frow⟩ := digits_ok c0 [5, 11, 11, 4, 9, 9, 64, 8] (by
    intro s hs
    simp only [List.mem_cons, List.not_mem_nil, or_false] at hs
    rcases hs with rfl | rfl | rfl | rfl | rfl | rfl | rfl | rfl <;> decide) (by decide)
  obtain ⟨r0, t0, e0, b0, frow⟩ := frow.inv
  obtain ⟨r1, t1, e1, b1, frow⟩ := frow.inv
  obtain ⟨r2, t2, e2, b2, frow⟩ := frow.inv
  obtain ⟨r3, t3, e3, b3, frow⟩ := frow.inv
  obtain ⟨r4, t4, e4, b4, frow⟩ := frow.inv
  obtain ⟨r5, t5, e5, b5, frow⟩ := frow.inv
  obtain ⟨r6, t6, e6, b6, frow⟩ := frow.inv
  obtain ⟨r7, t7, e7, b7, frow⟩ := frow.inv
  have e8 : t7 = [] := List.length_eq_zero_iff.mp frow.1
  subst e8 e7 e6 e5 e4 e3 e2 e1
  subst e0
  obtain ⟨m, hm0⟩ : ∃ m : Nat, m = (2 + r0).toNat := ⟨_, rfl⟩
  have hm : (m : Int) = 2 + r0 := by omega
  have hm2 : 2 ≤ m ∧ m ≤ 6 := by omega
  have hmk : m ≤ 1000 := by omega
  have hf := full_small hm2.2
  have hf3 := full_ge hm2.1 hm2.2
  obtain ⟨c1, hc1⟩ := cell_ok ns 1 (by decide) (by decide) hns
  obtain ⟨cells, hcells, fcells⟩ := digits_ok c1 (List.replicate 22 (full m - 1)) (by
    intro s hs
    have := List.eq_of_mem_replicate hs
    omega) (by rw [List.length_replicate]; decide)
  obtain ⟨cl, cb⟩ := fcells.rep
  have cprop : ∀ c ∈ cells, proper m (1 + c) := fun c hc => by
    have := cb c hc
    exact ⟨by omega, by omega⟩
  -- the two lists of lots
  obtain ⟨k1, hk1⟩ : ∃ k1 : Nat, r1 = (k1 : Nat) := ⟨r1.toNat, by omega⟩
  obtain ⟨k2, hk2⟩ : ∃ k2 : Nat, 11 + r2 = (k2 : Nat) := ⟨(11 + r2).toNat, by omega⟩
  obtain ⟨os, hos⟩ : ∃ os, os = (cutD cells (some 11) (some (k2 : Int))).map (fun c => 1 + c) := ⟨_, rfl⟩
  have hosp : ∀ l ∈ os, proper m l := fun l hl => by
    rw [hos] at hl
    obtain ⟨c, hc, rfl⟩ := List.mem_map.mp hl
    exact cprop c (cut_mem hc)
  have hosl : os.length ≤ 22 := by
    rw [hos, List.length_map]
    exact Nat.le_trans (cut_len ..) (by omega)
  obtain ⟨ls0, hls0⟩ : ∃ ls, ls = (cutD cells none (some (k1 : Int))).map (fun c => 1 + c) := ⟨_, rfl⟩
  have hls0p : ∀ l ∈ ls0, proper m l := fun l hl => by
    rw [hls0] at hl
    obtain ⟨c, hc, rfl⟩ := List.mem_map.mp hl
    exact cprop c (cut_mem hc)
  have hls0l : ls0.length ≤ 22 := by
    rw [hls0, List.length_map]
    exact Nat.le_trans (cut_len ..) (by omega)
  obtain ⟨row, hrw⟩ : ∃ row, row = [r0, r1, r2, r3, r4, r5, r6, r7] := ⟨_, rfl⟩
  obtain ⟨ls1, h7, hls1p, hls1l⟩ : ∃ ls1 : List Int, sIf (vT (v2 eqD (v2 idxD (vVar 1) (vC (.int 3))) (vC (.int 1)))) (sSet 5 (v2 catL (v2 catL (vVar 5) (vLcI (vIt (vSl sliceLD (vVar 5) oNone (oSome (vC (.int 3))))) (tN 22) tYesD (v2 subI (vVar 3) (vVar 22)) [22])) (vSl sliceLD (vVar 5) oNone (oSome (vC (.int 2)))))) sNil
      (stt ns row m cells ls0 os) = .ok (.nx (stt ns row m cells ls1 os)) ∧ (∀ l ∈ ls1, proper m l) ∧ ls1.length ≤ 66 := by
    have ht : ∀ q, decide (r3 = 1) = q → vT (v2 eqD (v2 idxD (vVar 1) (vC (.int 3))) (vC (.int 1))) (stt ns row m cells ls0 os) = .ok q := fun q e => by
      refine vT_to (v2_to (d := .int r3) (e := .int 1) (v2_to (d := .lst (It row)) (e := .int 3) rfl rfl ?_) rfl (eqD_int _ _)) e
      rw [hrw]
      exact idxD_nat (i := 3) rfl
    by_cases h3 : r3 = 1
    · refine ⟨ls0 ++ (ls0.take 3).map (fun l => full m - l) ++ ls0.take 2, (if_t (ht true (decide_eq_true h3))).trans ((set_ok (d := .lst (It (ls0 ++ (ls0.take 3).map (fun l => full m - l) ++ ls0.take 2))) ?_).trans rfl), ?_, ?_⟩
      · have hl3 : (ls0.take 3).length ≤ 3 := List.length_take_le ..
        have hl2 : (ls0.take 2).length ≤ 2 := List.length_take_le ..
        refine v2_to (d := .lst (It (ls0 ++ (ls0.take 3).map (fun l => full m - l)))) (e := .lst (It (ls0.take 2))) (v2_to (d := .lst (It ls0)) (e := .lst (It ((ls0.take 3).map (fun l => full m - l)))) rfl ?_ ?_) ?_ ?_
        · refine lc_ints1 (ls0.take 3) (fun l => full m - l) (vIt_lst (vSl_to (d := .lst (It ls0)) (l := none) (h := some 3) rfl rfl rfl ?_)) (by omega) fun n hn => ⟨_, rfl, rfl⟩
          show Res.ok (D.lst (cutD (It ls0) none (some ((3 : Nat) : Int)))) = _
          rw [cut_take, it_take]
        · refine (catL_ok (by rw [it_len, it_len, List.length_map]; omega)).trans ?_
          rw [it_app]
        · refine vSl_to (d := .lst (It ls0)) (l := none) (h := some 2) rfl rfl rfl ?_
          show Res.ok (D.lst (cutD (It ls0) none (some ((2 : Nat) : Int)))) = _
          rw [cut_take, it_take]
        · refine (catL_ok (by rw [it_len, it_len, List.length_append, List.length_map]; omega)).trans ?_
          rw [it_app]
      · intro l hl
        rcases List.mem_append.mp hl with hl | hl
        · rcases List.mem_append.mp hl with hl | hl
          · exact hls0p l hl
          · obtain ⟨x, hx, rfl⟩ := List.mem_map.mp hl
            exact proper_flip (hls0p x (List.mem_of_mem_take hx))
        · exact hls0p l (List.mem_of_mem_take hl)
      · have hl3 : (ls0.take 3).length ≤ 3 := List.length_take_le ..
        have hl2 : (ls0.take 2).length ≤ 2 := List.length_take_le ..
        rw [List.length_append, List.length_append, List.length_map]
        omega
    · exact ⟨ls0, one_iff (ht false (decide_eq_false h3)), hls0p, by omega⟩
  obtain ⟨ls, h8, hlsp, hlsl⟩ : ∃ ls : List Int, sIf (vT (v2 eqD (v2 idxD (vVar 1) (vC (.int 7))) (vC (.int 5)))) (sSet 5 (vLcI (vRng1 (v2 subI (vVar 3) (vC (.int 1)))) (tN 23) tYesD (v2 addI (vC (.int 1)) (v2 modI (v1 intD (v2 addI (v2 idxD (vVar 1) (vC (.int 6))) (vVar 23))) (v2 subI (vVar 3) (vC (.int 1))))) [23])) sNil
      (stt ns row m cells ls1 os) = .ok (.nx (stt ns row m cells ls os)) ∧ (∀ l ∈ ls, proper m l) ∧ ls.length ≤ 66 := by
    have ht : ∀ q, decide (r7 = 5) = q → vT (v2 eqD (v2 idxD (vVar 1) (vC (.int 7))) (vC (.int 5))) (stt ns row m cells ls1 os) = .ok q := fun q e => by
      refine vT_to (v2_to (d := .int r7) (e := .int 5) (v2_to (d := .lst (It row)) (e := .int 7) rfl rfl ?_) rfl (eqD_int _ _)) e
      rw [hrw]
      exact idxD_nat (i := 7) rfl
    by_cases h3 : r7 = 5
    · refine ⟨(rngL 0 (full m - 1).toNat).map (fun k => 1 + (r6 + k) % (full m - 1)), (if_t (ht true (decide_eq_true h3))).trans ((set_ok (d := .lst (It ((rngL 0 (full m - 1).toNat).map (fun k => 1 + (r6 + k) % (full m - 1))))) ?_).trans rfl), ?_, ?_⟩
      · refine lc_ints1 (rngL 0 (full m - 1).toNat) (fun k => 1 + (r6 + k) % (full m - 1)) (vRng1_ok (j := full m - 1) rfl (by omega) (by omega)) (by rw [rngL_length]; omega) fun n hn => ⟨_, rfl, ?_⟩
        refine v2_to (d := .int 1) (e := .int ((r6 + n) % (full m - 1))) rfl (v2_to (d := .int (r6 + n)) (e := .int (full m - 1)) (v1_to (d := .int (r6 + n)) (v2_to (d := .int r6) (e := .int n) (v2_to (d := .lst (It row)) (e := .int 6) rfl rfl ?_) rfl rfl) rfl) rfl (modI_ok (by omega))) rfl
        rw [hrw]
        exact idxD_nat (i := 6) rfl
      · intro l hl
        obtain ⟨k, hk, rfl⟩ := List.mem_map.mp hl
        have q1 := Int.emod_nonneg (r6 + k) (show full m - 1 ≠ 0 by omega)
        have q2 := Int.emod_lt_of_pos (r6 + k) (show 0 < full m - 1 by omega)
        exact ⟨by omega, by omega⟩
      · rw [List.length_map, rngL_length]; omega
    · exact ⟨ls1, one_iff (ht false (decide_eq_false h3)), hls1p, hls1l⟩
  have hk2' : (k2 : Int) = 11 + r2 := hk2.symm
  obtain ⟨A, hA⟩ : ∃ A, A = canon m ls := ⟨_, rfl⟩
  obtain ⟨B, hB⟩ : ∃ B, B = canon m os := ⟨_, rfl⟩
  have hAp : ∀ l ∈ A, proper m l := hA ▸ canon_proper hlsp
  have hBp : ∀ l ∈ B, proper m l := hB ▸ canon_proper hosp
  have hAl : A.length ≤ 66 := by rw [hA]; exact Nat.le_trans (canon_len ..) hlsl
  have hBl : B.length ≤ 22 := by rw [hB]; exact Nat.le_trans (canon_len ..) hosl
  have hAf : ∀ l ∈ A, sdI m l = l := fun l hl => canon_fix (by omega) (hA ▸ hl)
  have hBf : ∀ l ∈ B, sdI m l = l := fun l hl => canon_fix (by omega) (hB ▸ hl)
  have hAn : A.Nodup := hA ▸ canon_nodup m ls
  have hBn : B.Nodup := hB ▸ canon_nodup m os
  have hAs : A.Pairwise (· ≤ ·) := hA ▸ canon_asc m ls
  have hBs : B.Pairwise (· ≤ ·) := hB ▸ canon_asc m os
  -- what the books are
  have bk1 : e_Book___init__ [.int m, .lst (It ls)] = .ok (bk m A) := hA ▸ book_ok hmk rfl (by omega) hlsp
  have bk2 : e_Book___init__ [.int m, .tup (It os)] = .ok (bk m B) := hB ▸ book_ok hmk rfl (by omega) hosp
  have ow1 : e__law_own [.int m, .lst (It ls)] = .ok (.lst (It A)) := hA ▸ own_ok hmk (by omega)
  have ow2 : e__law_own [.int m, .lst (It os)] = .ok (.lst (It B)) := hB ▸ own_ok hmk (by omega)
  have is1 : e__law_is_book [bk m A, .int m, .lst (It A)] = .ok (.bl true) := is_ok (by omega)
  have is2 : e__law_is_book [bk m B, .int m, .lst (It B)] = .ok (.bl true) := is_ok (by omega)
  -- the sum, the difference
  obtain ⟨Bo, hBo⟩ : ∃ Bo, Bo = B.filter (fun x => !decide (x ∈ A)) := ⟨_, rfl⟩
  obtain ⟨L, hL⟩ : ∃ L, L = A.filter (fun x => !decide (x ∈ B)) := ⟨_, rfl⟩
  have hBol : Bo.length ≤ 22 := by rw [hBo]; exact Nat.le_trans (List.length_filter_le ..) hBl
  have hLl : L.length ≤ 66 := by rw [hL]; exact Nat.le_trans (List.length_filter_le ..) hAl
  have hsum : canon m (A ++ B) = sortI (A ++ Bo) := by
    refine canon_self (fun l hl => ?_) (sortI_nodup ?_) (sortI_sorted _) fun x => ?_
    · rcases List.mem_append.mp hl with h | h
      · exact hAf l h
      · exact hBf l h
    · rw [List.nodup_append]
      refine ⟨hAn, hBo ▸ hBn.filter _, fun x hx y hy e => ?_⟩
      subst e
      rw [hBo, List.mem_filter] at hy
      have := hy.2
      simp [hx] at this
    · rw [sortI_mem, List.mem_append, List.mem_append, hBo, List.mem_filter]
      by_cases hx : x ∈ A
      · simp [hx]
      · simp [hx]
  have hdif : canon m L = L := canon_self (fun l hl => hAf l (by rw [hL] at hl; exact (List.mem_filter.mp hl).1)) (hL ▸ hAn.filter _) (hL ▸ hAs.filter _) fun x => Iff.rfl
  have hAA : canon m (A ++ A) = A := canon_self (fun l hl => by
    rcases List.mem_append.mp hl with h | h
    · exact hAf l h
    · exact hAf l h) hAn hAs fun x => by simp
  have hno : A.filter (fun x => !decide (x ∈ A)) = [] := List.filter_eq_nil_iff.mpr fun x hx => by simp [hx]
  have add1 : ownBin ("Book" : Str) e_Book___add__ (bk m A) (bk m B) = .ok (bk m (sortI (A ++ Bo))) := (badd_ok hmk hAp hBp (by omega)).trans (by rw [hsum])
  have sub1 : ownBin ("Book" : Str) e_Book___sub__ (bk m A) (bk m B) = .ok (bk m L) := (bsub_ok hmk hAp (by omega)).trans (by rw [← hL, hdif])
  have add2 : ownBin ("Book" : Str) e_Book___add__ (bk m A) (bk m A) = .ok (bk m A) := (badd_ok hmk hAp hAp (by omega)).trans (by rw [hAA])
  have sub2 : ownBin ("Book" : Str) e_Book___sub__ (bk m A) (bk m A) = .ok (bk m []) := (bsub_ok hmk hAp (by omega)).trans (by rw [hno, canon_two hm2.1 (.inr rfl)])
  have bk3 : e_Book___init__ [.int m, .lst (It (ls.reverse.map (fun l => full m - l)))] = .ok (bk m A) := by
    refine (book_ok hmk rfl (by rw [List.length_map, List.length_reverse]; omega) fun l hl => ?_).trans ?_
    · obtain ⟨x, hx, rfl⟩ := List.mem_map.mp hl
      exact proper_flip (hlsp x (List.mem_reverse.mp hx))
    · have : canon m (ls.reverse.map (fun l => full m - l)) = A := by
        rw [hA]
        refine canon_eq (canon_nodup _ _) (canon_asc _ _) fun x => ?_
        rw [canon_mem]
        constructor
        · rintro ⟨l, hl, e⟩
          obtain ⟨y, hy, rfl⟩ := List.mem_map.mp hl
          exact ⟨y, List.mem_reverse.mp hy, by rw [← e, sdI_flip (by omega)]⟩
        · rintro ⟨l, hl, e⟩
          exact ⟨full m - l, List.mem_map.mpr ⟨l, List.mem_reverse.mpr hl, rfl⟩, by rw [sdI_flip (by omega), e]⟩
      rw [this]
  -- the other count
  obtain ⟨o, ho⟩ : ∃ o : Nat, (o : Int) = 2 + (r0 + 1) % 5 := ⟨(2 + (r0 + 1) % 5).toNat, by omega⟩
  have ho2 : 2 ≤ o ∧ o ≤ 6 := by omega
  have hmo : m ≠ o := by omega
  -- the bad lot
  obtain ⟨k4, hk4⟩ : ∃ k4 : Nat, r4 = (k4 : Nat) := ⟨r4.toNat, by omega⟩
  obtain ⟨k5, hk5⟩ : ∃ k5 : Nat, r5 = (k5 : Nat) := ⟨r5.toNat, by omega⟩
  obtain ⟨d4, hd4⟩ : ∃ d4, (bads m)[k4]? = some d4 := ⟨_, List.getElem?_eq_getElem (show k4 < (bads m).length by show k4 < 9; omega)⟩
  obtain ⟨d5, hd5⟩ : ∃ d5, (bads m)[k5]? = some d5 := ⟨_, List.getElem?_eq_getElem (show k5 < (bads m).length by show k5 < 9; omega)⟩
  obtain ⟨p4, q4, n4⟩ := bads_ok hm2 d4 (List.mem_of_getElem? hd4)
  obtain ⟨sp, hsp⟩ : ∃ sp : Nat, (sp : Int) = r6 % ((ls.length : Nat) + 1) := ⟨(r6 % ((ls.length : Nat) + 1)).toNat, by
    have := Int.emod_nonneg r6 (show ((ls.length : Nat) : Int) + 1 ≠ 0 by omega)
    omega⟩
  have ix : ∀ (i : Nat) (r : Int), row[i]? = some r → idxD (.lst (It row)) (.int (i : Nat)) = .ok (.int r) := fun i r h => idxD_nat (by rw [List.getElem?_map, h]; rfl)
  have x0 := ix 0 r0 (by rw [hrw]; rfl)
  have x1 := ix 1 r1 (by rw [hrw]; rfl)
  have x2 := ix 2 r2 (by rw [hrw]; rfl)
  have x4 := ix 4 r4 (by rw [hrw]; rfl)
  have x5 := ix 5 r5 (by rw [hrw]; rfl)
  have x6 := ix 6 r6 (by rw [hrw]; rfl)
  rw [hk4] at x4
  rw [hk5] at x5
  suffices hh : b_law (some (.scr ns) :: none :: none :: none :: none :: none :: none :: none :: none :: none :: none :: none :: none :: none :: none :: none :: none :: none :: none :: none :: none :: none :: none :: none :: []) = .ok (.rt (.bl true)) from runF_rt hh
  show b_law (some (.scr ns) :: none :: none :: none :: none :: none :: none :: none :: none :: none :: none :: none :: none :: none :: none :: none :: none :: none :: none :: none :: none :: none :: none :: none :: []) = .ok (.rt (.bl true))
  refine seq_set (d := .lst (It row)) (vA_to (ds := [.int c0, .lst (It [5, 11, 11, 4, 9, 9, 64, 8])]) (aCons_ok (vA_to (ds := [.scr ns, .int 0]) rfl hc0) rfl) (hrw ▸ hrow)) ?_
  try dsimp only [List.set_cons_succ, List.set_cons_zero]
  refine seq_set (d := .int m) (v2_to (d := .int 2) (e := .int r0) rfl (v2_to (d := .lst (It row)) (e := .int 0) rfl rfl x0) (by show Res.ok (D.int (2 + r0)) = _; rw [hm])) ?_
  try dsimp only [List.set_cons_succ, List.set_cons_zero]
  refine seq_set (d := .int (full m)) (v2_to (d := .int (2 ^ m)) (e := .int 1) (v2_to (d := .int 1) (e := .int m) rfl rfl (shl1 hmk)) rfl rfl) ?_
  try dsimp only [List.set_cons_succ, List.set_cons_zero]
  refine seq_set (d := .lst (It cells)) (vA_to (ds := [.int c1, .lst (It (List.replicate 22 (full m - 1)))]) (aCons_ok (vA_to (ds := [.scr ns, .int 1]) rfl hc1) (aCons_ok (v2_to (d := .lst [.int (full m - 1)]) (e := .int 22) rfl rfl ((rep_one (n := 22) _ (by decide)).trans (by rw [it_rep]))) rfl)) hcells) ?_
  try dsimp only [List.set_cons_succ, List.set_cons_zero]
  refine seq_set (d := .lst (It ls0)) ?_ ?_
  · rw [hls0]
    refine lc_ints1 (cutD cells none (some (k1 : Int))) (fun c => 1 + c) (vIt_lst (vSl_to (d := .lst (It cells)) (l := none) (h := some (k1 : Int)) rfl rfl (oSome_ok (v2_to (d := .lst (It row)) (e := .int 1) rfl rfl (hk1 ▸ x1))) ?_)) (Nat.le_trans (cut_len ..) (by omega)) fun n hn => ⟨_, rfl, rfl⟩
    show Res.ok (D.lst (cutD (It cells) _ _)) = _
    rw [it_cut]
  try dsimp only [List.set_cons_succ, List.set_cons_zero]
  refine seq_set (d := .lst (It os)) ?_ ?_
  · rw [hos]
    refine lc_ints1 (cutD cells (some 11) (some (k2 : Int))) (fun c => 1 + c) (vIt_lst (vSl_to (d := .lst (It cells)) (l := some 11) (h := some (k2 : Int)) rfl rfl (oSome_ok (v2_to (d := .int 11) (e := .int r2) rfl (v2_to (d := .lst (It row)) (e := .int 2) rfl rfl x2) (by show Res.ok (D.int (11 + r2)) = _; rw [hk2]))) ?_)) (Nat.le_trans (cut_len ..) (by omega)) fun n hn => ⟨_, rfl, rfl⟩
    show Res.ok (D.lst (cutD (It cells) _ _)) = _
    rw [it_cut]
  try dsimp only [List.set_cons_succ, List.set_cons_zero]
  refine seq_nx (δ' := stt ns row m cells ls1 os) h7 ?_
  try dsimp only [List.set_cons_succ, List.set_cons_zero]
  refine seq_nx (δ' := stt ns row m cells ls os) h8 ?_
  try dsimp only [List.set_cons_succ, List.set_cons_zero]
  refine seq_set (d := .lst (It ls)) rfl ?_
  try dsimp only [List.set_cons_succ, List.set_cons_zero]
  refine seq_set (d := bk m A) (vA_to (ds := [.int m, .lst (It ls)]) rfl bk1) ?_
  try dsimp only [List.set_cons_succ, List.set_cons_zero]
  refine seq_set (d := bk m B) (vA_to (ds := [.int m, .tup (It os)]) rfl bk2) ?_
  try dsimp only [List.set_cons_succ, List.set_cons_zero]
  refine seq_set (d := .lst (It A)) (vA_to (ds := [.int m, .lst (It ls)]) rfl ow1) ?_
  try dsimp only [List.set_cons_succ, List.set_cons_zero]
  refine seq_set (d := .lst (It B)) (vA_to (ds := [.int m, .lst (It os)]) rfl ow2) ?_
  try dsimp only [List.set_cons_succ, List.set_cons_zero]
  refine seq_iff (vT_to (v2_to (d := .lst (It ls)) (e := .lst (It ls)) rfl rfl (neD_lst _ _)) (by simp)) ?_
  refine seq_nx (app_ok (ds := It ls) (d := .int 1) rfl rfl (by rw [it_len]; omega)) ?_
  try dsimp only [List.set_cons_succ, List.set_cons_zero]
  refine seq_nx (rev_ok (ds := It ls ++ [.int 1]) rfl) ?_
  try dsimp only [List.set_cons_succ, List.set_cons_zero]
  refine seq_iff (or_ff (not_t (vT_to (vA_to (ds := [bk m A, .int m, .lst (It A)]) rfl is1) rfl)) (or_ff (not_t (vT_to (vA_to (ds := [bk m B, .int m, .lst (It B)]) rfl is2) rfl)) (not_t (vT_to (vA_to (ds := [bk m A, .int m, .lst (It A)]) rfl (in_ok hm2.2 A)) rfl)))) ?_
  refine seq_set (d := .lst (It (sortI (A ++ Bo)))) ?_ ?_
  · refine v1_to (d := .lst (It (A ++ Bo))) (v2_to (d := .lst (It A)) (e := .lst (It Bo)) rfl ?_ ((catL_ok (by rw [it_len, it_len]; omega)).trans (by rw [it_app]))) (sorted_ok _)
    refine (lc_ints B (fun x => !decide (x ∈ A)) (fun x => x) (vIt_lst rfl) (by omega) fun n hn => ⟨_, rfl, vT_to (v2_to (d := .int n) (e := .lst (It A)) rfl rfl (inF_lst true n A)) (by simp), fun _ => rfl⟩).trans (by rw [hBo]; simp)
  try dsimp only [List.set_cons_succ, List.set_cons_zero]
  refine seq_set (d := .lst (It L)) ?_ ?_
  · refine (lc_ints A (fun x => !decide (x ∈ B)) (fun x => x) (vIt_lst rfl) (by omega) fun n hn => ⟨_, rfl, vT_to (v2_to (d := .int n) (e := .lst (It B)) rfl rfl (inF_lst true n B)) (by simp), fun _ => rfl⟩).trans (by rw [hL]; simp)
  try dsimp only [List.set_cons_succ, List.set_cons_zero]
  refine seq_iff (or_ff (not_t (vT_to (vA_to (ds := [bk m (sortI (A ++ Bo)), .int m, .lst (It (sortI (A ++ Bo)))]) (aCons_ok (v2_to (d := bk m A) (e := bk m B) rfl rfl add1) rfl) (is_ok (by rw [sortI_len, List.length_append]; omega))) rfl)) (not_t (vT_to (vA_to (ds := [bk m L, .int m, .lst (It L)]) (aCons_ok (v2_to (d := bk m A) (e := bk m B) rfl rfl sub1) rfl) (is_ok (by omega))) rfl))) ?_
  refine seq_iff (or_ff (not_t (vT_to (vA_to (ds := [bk m A, .int m, .lst (It A)]) (aCons_ok (v2_to (d := bk m A) (e := bk m A) rfl rfl add2) rfl) is1) rfl)) (not_t (vT_to (vA_to (ds := [bk m [], .int m, .lst (It [])]) (aCons_ok (v2_to (d := bk m A) (e := bk m A) rfl rfl sub2) rfl) (is_ok (by simp))) rfl))) ?_
  refine seq_set (d := bk m A) (vA_to (ds := [.int m, .lst (It (ls.reverse.map (fun l => full m - l)))]) (aCons_ok rfl (aCons_ok ?_ rfl)) bk3) ?_
  try dsimp only [List.set_cons_succ, List.set_cons_zero]
  · refine lc_ints1 ls.reverse (fun l => full m - l) ?_ (by rw [List.length_reverse]; omega) fun n hn => ⟨_, rfl, rfl⟩
    show Res.ok (It ls).reverse = _
    rw [it_rev]
  refine seq_iff (or_ff (vT_to (v2_to (d := .bl true) (e := .bl true) (v2_to (d := bk m A) (e := bk m A) rfl rfl (eqO.trans (by simp))) rfl rfl) rfl) (vT_to (v2_to (d := .bl false) (e := .bl false) (v2_to (d := bk m A) (e := bk m A) rfl rfl (neO.trans (by simp))) rfl rfl) rfl)) ?_
  refine seq_for1 (ds := [.lst (It A), .tup (It A), .lst (It (A.take 1)), .str ("2" : Str), .int m]) ?_ (by show 15 < 24; decide) (fun d hd => ?_) (fun vv => ?_)
  · refine vIt_lst (vA_to (ds := [.lst (It A), .tup (It A), .lst (It (A.take 1)), .str ("2" : Str), .int m]) (aCons_ok rfl (aCons_ok rfl (aCons_ok (vSl_to (d := .lst (It A)) (l := none) (h := some 1) rfl rfl rfl ?_) rfl))) rfl)
    show Res.ok (D.lst (cutD (It A) none (some ((1 : Nat) : Int)))) = _
    rw [cut_take, it_take]
  · have hh : fCls ("Book" : Str) ot_Book d = some false ∧ bOk ("Book" : Str) ot_Book d = true := by
      simp only [List.mem_cons, List.not_mem_nil, or_false] at hd
      rcases hd with rfl | rfl | rfl | rfl | rfl <;> exact ⟨rfl, rfl⟩
    refine one_iff (or_ff (vT_to (v2_to (d := .bl false) (e := .bl false) (v2_to (d := bk m A) (e := d) rfl rfl (cmp_of (beq_no hh.1) hh.2)) rfl rfl) rfl) (vT_to (v2_to (d := .bl true) (e := .bl true) (v2_to (d := bk m A) (e := d) rfl rfl (cmp_of (bne_of hh.2 (beq_no hh.1)) hh.2)) rfl rfl) rfl))
  try dsimp only [List.set_cons_succ, List.set_cons_zero]
  refine seq_set (d := .bl (decide (A = B))) (v2_to (d := bk m A) (e := bk m B) rfl rfl (eqO.trans (by simp))) ?_
  try dsimp only [List.set_cons_succ, List.set_cons_zero]
  refine seq_set (d := .bl (!decide (A = B))) (v2_to (d := bk m A) (e := bk m B) rfl rfl (neO.trans (by simp))) ?_
  try dsimp only [List.set_cons_succ, List.set_cons_zero]
  refine seq_iff (or_ff (not_t (vT_to (v1_to (d := .bl (decide (A = B))) rfl rfl) rfl)) (or_ff (not_t (vT_to (v1_to (d := .bl (!decide (A = B))) rfl rfl) rfl)) (or_ff (vT_to (v2_to (d := .bl (decide (A = B))) (e := .bl (decide (A = B))) rfl (v2_to (d := .lst (It A)) (e := .lst (It B)) rfl rfl (eqD_lst _ _)) (neD_bl _ _)) (by simp)) (vT_to (v2_to (d := .bl (!decide (A = B))) (e := .bl (decide (A = B))) rfl rfl (eqD_bl _ _)) (by simp))))) ?_
  refine seq_iff (not_t (vT_to (vA_to (ds := [bk m A, .int m, .int o]) (aCons_ok rfl (aCons_ok rfl (aCons_ok (v2_to (d := .int 2) (e := .int ((r0 + 1) % 5)) rfl (v2_to (d := .int (r0 + 1)) (e := .int 5) (v1_to (d := .int (r0 + 1)) (v2_to (d := .int r0) (e := .int 1) (v2_to (d := .lst (It row)) (e := .int 0) rfl rfl x0) rfl rfl) rfl) rfl (modI_ok (by decide))) (by show Res.ok (D.int (2 + (r0 + 1) % 5)) = _; rw [ho])) rfl))) (apart_ok hm2 ho2 hmo A)) rfl)) ?_
  refine seq_set (d := .lst (bads m)) rfl ?_
  try dsimp only [List.set_cons_succ, List.set_cons_zero]
  refine seq_set (d := .int sp) (v2_to (d := .int r6) (e := .int ((ls.length : Nat) + 1)) (v1_to (d := .int r6) (v2_to (d := .lst (It row)) (e := .int 6) rfl rfl x6) rfl) (v2_to (d := .int (ls.length : Nat)) (e := .int 1) (v1_to (d := .lst (It ls)) rfl (by show Res.ok (D.int ((It ls).length : Nat)) = _; rw [it_len])) rfl rfl) ((modI_ok (by omega)).trans (by rw [hsp]))) ?_
  try dsimp only [List.set_cons_succ, List.set_cons_zero]
  have b4 : ∀ δ : DSt, δ[1]? = some (some (.lst (It row))) → δ[18]? = some (some (.lst (bads m))) → v2 idxD (vVar 18) (v2 idxD (vVar 1) (vC (.int 4))) δ = .ok d4 := fun δ e1 e18 => v2_to (d := .lst (bads m)) (e := .int k4) (by show vVar 18 δ = _; unfold vVar; rw [e18]) (v2_to (d := .lst (It row)) (e := .int 4) (by show vVar 1 δ = _; unfold vVar; rw [e1]) rfl x4) (idxD_nat hd4)
  have b5 : ∀ δ : DSt, δ[1]? = some (some (.lst (It row))) → δ[18]? = some (some (.lst (bads m))) → v2 idxD (vVar 18) (v2 idxD (vVar 1) (vC (.int 5))) δ = .ok d5 := fun δ e1 e18 => v2_to (d := .lst (bads m)) (e := .int k5) (by show vVar 18 δ = _; unfold vVar; rw [e18]) (v2_to (d := .lst (It row)) (e := .int 5) (by show vVar 1 δ = _; unfold vVar; rw [e1]) rfl x5) (idxD_nat hd5)
  have hsl : (ls.take sp).length ≤ 66 := Nat.le_trans (List.length_take_le' ..) hlsl
  have hsd : (ls.drop sp).length ≤ 66 := by rw [List.length_drop]; omega
  refine seq_set (d := .lst (It (ls.take sp) ++ d4 :: (It (ls.drop sp) ++ [d5]))) ?_ ?_
  · refine v2_to (d := .lst (It (ls.take sp) ++ [d4] ++ It (ls.drop sp))) (e := .lst [d5]) (v2_to (d := .lst (It (ls.take sp) ++ [d4])) (e := .lst (It (ls.drop sp))) (v2_to (d := .lst (It (ls.take sp))) (e := .lst [d4]) (vSl_to (d := .lst (It ls)) (l := none) (h := some (sp : Int)) rfl rfl (oSome_ok rfl) ?_) (vA_to (ds := [d4]) (aCons_ok (b4 _ rfl rfl) rfl) rfl) (catL_ok ?_)) (vSl_to (d := .lst (It ls)) (l := some (sp : Int)) (h := none) rfl (oSome_ok rfl) rfl ?_) (catL_ok ?_)) (vA_to (ds := [d5]) (aCons_ok (b5 _ rfl rfl) rfl) rfl) ((catL_ok ?_).trans (by simp))
    · show Res.ok (D.lst (cutD (It ls) none (some (sp : Int)))) = _
      rw [cut_take, it_take]
    · rw [it_len]; simp only [List.length_singleton]; omega
    · show Res.ok (D.lst (cutD (It ls) (some (sp : Int)) none)) = _
      rw [cut_drop, it_drop]
    · rw [List.length_append, it_len, it_len]; simp only [List.length_singleton]; omega
    · rw [List.length_append, List.length_append, it_len, it_len]; simp only [List.length_singleton]; omega
  try dsimp only [List.set_cons_succ, List.set_cons_zero]
  refine seq_iff (vT_to (v2_to (d := .lst [d4]) (e := .lst [d4]) (vA_to (ds := [.int m, .lst (It (ls.take sp) ++ d4 :: (It (ls.drop sp) ++ [d5]))]) rfl (refused_ok hmk (by omega) (fun l hl => hlsp l (List.mem_of_mem_take hl)) p4 q4)) (vA_to (ds := [d4]) (aCons_ok (b4 _ rfl rfl) rfl) rfl) n4) rfl) ?_
  refine ret_ok (vAnd_t (vA_to (ds := [bk m A, .int m, .lst (It A)]) rfl is1) (vA_to (ds := [bk m B, .int m, .lst (It B)]) rfl is2))
end VL

namespace VL
open PySem PySem.Spec L2
/-- the promise: True, whatever the script -/
def spLaw (K : PySem.W.Frag) : Sp := fun vs H Q _ => ∃ (a : Addr) (ns : List Int), vs = [.ref a] ∧ SqL K H a (ns.map V.int) ∧ ns.length ≤ 63 ∧ ∀ H', Q (.bl true) H'
theorem law_sp {P : Program} {w : World} {wd : Wd} {mg : Str → Option Value} {base : Heap} {k : Nat} {f : Addr} {fd : FuncData} (F : FnOk P w wd.K mg base (L2.CX P w) k f fd ["script"] (lift wd [.im] e_law)) (h : ∀ ns : List Int, ns.length ≤ 63 → e_law [.scr ns] = .ok (.bl true)) :
    FnOk P w wd.K mg base (L2.CX P w) k f fd ["script"] (spLaw wd.K) := F.imp fun vs H Q E ⟨a, ns, e, hs, hl, q⟩ => by
  subst e
  refine ⟨H, [.scr ns], Same.refl _, ⟨_, _, _, _, rfl, rfl, ⟨a, rfl, hs⟩, rfl, rfl⟩, ?_⟩
  rw [h ns hl]
  intro v F' H' x s r
  cases (show v = .bl true from r)
  exact q H'
theorem all_mk {l : PySem.W.OpenLaw} {w : World} {K : PySem.W.Frag} {h : Heap} {mg : Str → Option Value} {fa C_Book C_BadLot C_CountsDiffer C_TownError f0 f1 f2 f3 f4 f5 f6 f7 f8 f9 f10 f11 f12 f13 f14 f15 f16 f17 f18 f19 f20 f21 f22 f23 f24 : Addr} (X : K.In h) (G : h.Ns mainGlobals mg) (hfa : mg "law" = some (.ref fa))
    (z_bool : PySem.W.nsIn K mainGlobals ("bool" : Str) = some none)
    (z_int : PySem.W.nsIn K mainGlobals ("int" : Str) = some none)
    (z_isinstance : PySem.W.nsIn K mainGlobals ("isinstance" : Str) = some none)
    (z_iter : PySem.W.nsIn K mainGlobals ("iter" : Str) = some none)
    (z_len : PySem.W.nsIn K mainGlobals ("len" : Str) = some none)
    (z_list : PySem.W.nsIn K mainGlobals ("list" : Str) = some none)
    (z_range : PySem.W.nsIn K mainGlobals ("range" : Str) = some none)
    (z_reversed : PySem.W.nsIn K mainGlobals ("reversed" : Str) = some none)
    (z_sorted : PySem.W.nsIn K mainGlobals ("sorted" : Str) = some none)
    (z_tuple : PySem.W.nsIn K mainGlobals ("tuple" : Str) = some none)
    (g_Book : PySem.W.nsIn K mainGlobals ("Book" : Str) = some (some (.ref C_Book)))
    (g_BadLot : PySem.W.nsIn K mainGlobals ("BadLot" : Str) = some (some (.ref C_BadLot)))
    (g_CountsDiffer : PySem.W.nsIn K mainGlobals ("CountsDiffer" : Str) = some (some (.ref C_CountsDiffer)))
    (g_TownError : PySem.W.nsIn K mainGlobals ("TownError" : Str) = some (some (.ref C_TownError)))
    (b_Book : ClsB K C_Book)
    (na_Book_many : PySem.W.findIn K (.ref C_Book) ("many" : Str) = some none)
    (na_Book_sides : PySem.W.findIn K (.ref C_Book) ("sides" : Str) = some none)
    (mi_Book : PySem.W.makesIn K C_Book = true)
    (kc_Book : PySem.W.keepIn K (.ref C_Book) = true)
    (ox_BadLot : OexC K C_BadLot)
    (xn_BadLot_lot : PySem.W.findIn K (.ref C_BadLot) ("lot" : Str) = some none)
    (ek_BadLot : ExcK K C_BadLot)
    (rt_CountsDiffer : RtC K C_CountsDiffer)
    (ek_CountsDiffer : ExcK K C_CountsDiffer)
    (ko_CountsDiffer_BadLot : PySem.W.kitOne K (.ref C_CountsDiffer) (.ref C_BadLot) = some false)
    (ko_CountsDiffer_TownError : PySem.W.kitOne K (.ref C_CountsDiffer) (.ref C_TownError) = some true)
    (ko_BadLot_TownError : PySem.W.kitOne K (.ref C_BadLot) (.ref C_TownError) = some true)
    (ko_BadLot_CountsDiffer : PySem.W.kitOne K (.ref C_BadLot) (.ref C_CountsDiffer) = some false)
    (em_CountsDiffer_CountsDiffer : PySem.W.exmOne K (.ref C_CountsDiffer) (.ref C_CountsDiffer) = some true)
    (em_BadLot_BadLot : PySem.W.exmOne K (.ref C_BadLot) (.ref C_BadLot) = some true)
    (a0 : PySem.W.nsIn K mainGlobals ("_law_digits" : Str) = some (some (.ref f0))) (l0 : FnE K ("_law_digits" : Str) ("_law_digits" : Str) s__law_digits f0)
    (a1 : PySem.W.nsIn K mainGlobals ("_law_cell" : Str) = some (some (.ref f1))) (l1 : FnE K ("_law_cell" : Str) ("_law_cell" : Str) s__law_cell f1)
    (a2 : PySem.W.nsIn K mainGlobals ("is_whole" : Str) = some (some (.ref f2))) (l2 : FnE K ("is_whole" : Str) ("is_whole" : Str) s_is_whole f2)
    (a3 : PySem.W.nsIn K mainGlobals ("is_side_lot" : Str) = some (some (.ref f3))) (l3 : FnE K ("is_side_lot" : Str) ("is_side_lot" : Str) s_is_side_lot f3)
    (a4 : PySem.W.findIn K (.ref C_BadLot) ("__init__" : Str) = some (some (.ref f4))) (i4 : PySem.W.isFn K (.ref f4) = true) (l4 : FnE K ("__init__" : Str) ("BadLot.__init__" : Str) s_BadLot___init__ f4)
    (a5 : PySem.W.nsIn K mainGlobals ("side" : Str) = some (some (.ref f5))) (l5 : FnE K ("side" : Str) ("side" : Str) s_side f5)
    (a6 : PySem.W.findIn K (.ref C_Book) ("__init__" : Str) = some (some (.ref f6))) (i6 : PySem.W.isFn K (.ref f6) = true) (l6 : FnE K ("__init__" : Str) ("Book.__init__" : Str) s_Book___init__ f6)
    (a7 : PySem.W.nsIn K mainGlobals ("_law_bit" : Str) = some (some (.ref f7))) (l7 : FnE K ("_law_bit" : Str) ("_law_bit" : Str) s__law_bit f7)
    (a8 : PySem.W.nsIn K mainGlobals ("_law_side" : Str) = some (some (.ref f8))) (l8 : FnE K ("_law_side" : Str) ("_law_side" : Str) s__law_side f8)
    (a9 : PySem.W.nsIn K mainGlobals ("_law_own" : Str) = some (some (.ref f9))) (l9 : FnE K ("_law_own" : Str) ("_law_own" : Str) s__law_own f9)
    (a10 : PySem.W.findIn K (.ref C_Book) ("__contains__" : Str) = some (some (.ref f10))) (i10 : PySem.W.isFn K (.ref f10) = true) (l10 : FnE K ("__contains__" : Str) ("Book.__contains__" : Str) s_Book___contains__ f10)
    (a11 : PySem.W.nsIn K mainGlobals ("_law_in" : Str) = some (some (.ref f11))) (l11 : FnE K ("_law_in" : Str) ("_law_in" : Str) s__law_in f11)
    (a12 : PySem.W.nsIn K mainGlobals ("_law_whole" : Str) = some (some (.ref f12))) (l12 : FnE K ("_law_whole" : Str) ("_law_whole" : Str) s__law_whole f12)
    (a13 : PySem.W.findIn K (.ref C_Book) ("__len__" : Str) = some (some (.ref f13))) (i13 : PySem.W.isFn K (.ref f13) = true) (l13 : FnE K ("__len__" : Str) ("Book.__len__" : Str) s_Book___len__ f13)
    (a14 : PySem.W.findIn K (.ref C_Book) ("__iter__" : Str) = some (some (.ref f14))) (i14 : PySem.W.isFn K (.ref f14) = true) (l14 : FnE K ("__iter__" : Str) ("Book.__iter__" : Str) s_Book___iter__ f14)
    (a15 : PySem.W.nsIn K mainGlobals ("_law_is_book" : Str) = some (some (.ref f15))) (l15 : FnE K ("_law_is_book" : Str) ("_law_is_book" : Str) s__law_is_book f15)
    (a16 : PySem.W.nsIn K mainGlobals ("check_counts" : Str) = some (some (.ref f16))) (l16 : FnE K ("check_counts" : Str) ("check_counts" : Str) s_check_counts f16)
    (a17 : PySem.W.findIn K (.ref C_Book) ("__sub__" : Str) = some (some (.ref f17))) (i17 : PySem.W.isFn K (.ref f17) = true) (l17 : FnE K ("__sub__" : Str) ("Book.__sub__" : Str) s_Book___sub__ f17)
    (a18 : PySem.W.findIn K (.ref C_Book) ("__add__" : Str) = some (some (.ref f18))) (i18 : PySem.W.isFn K (.ref f18) = true) (l18 : FnE K ("__add__" : Str) ("Book.__add__" : Str) s_Book___add__ f18)
    (a19 : PySem.W.findIn K (.ref C_Book) ("__eq__" : Str) = some (some (.ref f19))) (i19 : PySem.W.isFn K (.ref f19) = true) (l19 : FnE K ("__eq__" : Str) ("Book.__eq__" : Str) s_Book___eq__ f19)
    (a20 : PySem.W.findIn K (.ref C_Book) ("__ne__" : Str) = some (some (.ref f20))) (i20 : PySem.W.isFn K (.ref f20) = true) (l20 : FnE K ("__ne__" : Str) ("Book.__ne__" : Str) s_Book___ne__ f20)
    (a21 : PySem.W.nsIn K mainGlobals ("_law_refusals" : Str) = some (some (.ref f21))) (l21 : FnE K ("_law_refusals" : Str) ("_law_refusals" : Str) s__law_refusals f21)
    (a22 : PySem.W.nsIn K mainGlobals ("_law_apart" : Str) = some (some (.ref f22))) (l22 : FnE K ("_law_apart" : Str) ("_law_apart" : Str) s__law_apart f22)
    (a23 : PySem.W.nsIn K mainGlobals ("_law_refused" : Str) = some (some (.ref f23))) (l23 : FnE K ("_law_refused" : Str) ("_law_refused" : Str) s__law_refused f23)
    (a24 : PySem.W.nsIn K mainGlobals ("law" : Str) = some (some (.ref f24))) (l24 : FnE K ("law" : Str) ("law" : Str) s_law f24)
    (hL : ∀ ns : List Int, ns.length ≤ 63 → e_law [.scr ns] = .ok (.bl true)) :
    ∃ fd : FuncData, (∀ (s : Shared) (v : Value), BindsTo s fd ⟨[v], []⟩ [("script", v)]) ∧ ∀ base : Heap, K.In base → base.Ns mainGlobals mg → FnOk l.prog w K mg base (L2.CX l.prog w) 9 fa fd ["script"] (spLaw K) := by
  have e := hfa.symm.trans (PySem.W.mg_of X G a24)
  cases e
  obtain ⟨ct, hct⟩ := ct_ex [(("Book" : Str), C_Book), (("BadLot" : Str), C_BadLot), (("CountsDiffer" : Str), C_CountsDiffer), (("TownError" : Str), C_TownError)] (show ([("Book" : Str), ("BadLot" : Str), ("CountsDiffer" : Str), ("TownError" : Str)] : List Str).Nodup by decide +kernel)
  have e_Book : C_Book = ct ("Book" : Str) := (hct _ List.mem_cons_self).symm
  have e_BadLot : C_BadLot = ct ("BadLot" : Str) := (hct _ (List.mem_cons_of_mem _ List.mem_cons_self)).symm
  have e_CountsDiffer : C_CountsDiffer = ct ("CountsDiffer" : Str) := (hct _ (List.mem_cons_of_mem _ (List.mem_cons_of_mem _ List.mem_cons_self))).symm
  have e_TownError : C_TownError = ct ("TownError" : Str) := (hct _ (List.mem_cons_of_mem _ (List.mem_cons_of_mem _ (List.mem_cons_of_mem _ List.mem_cons_self)))).symm
  subst e_Book
  subst e_BadLot
  subst e_CountsDiffer
  subst e_TownError
  obtain ⟨d0, F0, B0, k0⟩ := l0.get (ps := [("cell" : Str), ("sizes" : Str)]) (fun F => F.binds fun _ _ _ _ _ _ us hl => match us, hl with | [_, _], _ => rfl)
  obtain ⟨d1, F1, B1, k1⟩ := l1.get (ps := [("script" : Str), ("k" : Str)]) (fun F => F.binds fun _ _ _ _ _ _ us hl => match us, hl with | [_, _], _ => rfl)
  obtain ⟨d2, F2, B2, k2⟩ := l2.get (ps := [("value" : Str)]) (fun F => F.binds fun _ _ _ _ _ _ us hl => match us, hl with | [_], _ => rfl)
  obtain ⟨d3, F3, B3, k3⟩ := l3.get (ps := [("many" : Str), ("lot" : Str)]) (fun F => F.binds fun _ _ _ _ _ _ us hl => match us, hl with | [_, _], _ => rfl)
  obtain ⟨d4, F4, B4, k4⟩ := l4.get (ps := [("self" : Str), ("lot" : Str)]) (fun F => F.binds fun _ _ _ _ _ _ us hl => match us, hl with | [_, _], _ => rfl)
  obtain ⟨d5, F5, B5, k5⟩ := l5.get (ps := [("many" : Str), ("lot" : Str)]) (fun F => F.binds fun _ _ _ _ _ _ us hl => match us, hl with | [_, _], _ => rfl)
  obtain ⟨d6, F6, B6, k6⟩ := l6.get (ps := [("self" : Str), ("many" : Str), ("lots" : Str)]) (fun F => F.binds fun _ _ _ _ _ _ us hl => match us, hl with | [_, _, _], _ => rfl)
  obtain ⟨d7, F7, B7, k7⟩ := l7.get (ps := [("lot" : Str), ("number" : Str)]) (fun F => F.binds fun _ _ _ _ _ _ us hl => match us, hl with | [_, _], _ => rfl)
  obtain ⟨d8, F8, B8, k8⟩ := l8.get (ps := [("g" : Str), ("lot" : Str)]) (fun F => F.binds fun _ _ _ _ _ _ us hl => match us, hl with | [_, _], _ => rfl)
  obtain ⟨d9, F9, B9, k9⟩ := l9.get (ps := [("many" : Str), ("lots" : Str)]) (fun F => F.binds fun _ _ _ _ _ _ us hl => match us, hl with | [_, _], _ => rfl)
  obtain ⟨d10, F10, B10, k10⟩ := l10.get (ps := [("self" : Str), ("lot" : Str)]) (fun F => F.binds fun _ _ _ _ _ _ us hl => match us, hl with | [_, _], _ => rfl)
  obtain ⟨d11, F11, B11, k11⟩ := l11.get (ps := [("book" : Str), ("many" : Str), ("sides" : Str)]) (fun F => F.binds fun _ _ _ _ _ _ us hl => match us, hl with | [_, _, _], _ => rfl)
  obtain ⟨d12, F12, B12, k12⟩ := l12.get (ps := [("value" : Str)]) (fun F => F.binds fun _ _ _ _ _ _ us hl => match us, hl with | [_], _ => rfl)
  obtain ⟨d13, F13, B13, k13⟩ := l13.get (ps := [("self" : Str)]) (fun F => F.binds fun _ _ _ _ _ _ us hl => match us, hl with | [_], _ => rfl)
  obtain ⟨d14, F14, B14, k14⟩ := l14.get (ps := [("self" : Str)]) (fun F => F.binds fun _ _ _ _ _ _ us hl => match us, hl with | [_], _ => rfl)
  obtain ⟨d15, F15, B15, k15⟩ := l15.get (ps := [("book" : Str), ("many" : Str), ("sides" : Str)]) (fun F => F.binds fun _ _ _ _ _ _ us hl => match us, hl with | [_, _, _], _ => rfl)
  obtain ⟨d16, F16, B16, k16⟩ := l16.get (ps := [("one" : Str), ("two" : Str)]) (fun F => F.binds fun _ _ _ _ _ _ us hl => match us, hl with | [_, _], _ => rfl)
  obtain ⟨d17, F17, B17, k17⟩ := l17.get (ps := [("self" : Str), ("other" : Str)]) (fun F => F.binds fun _ _ _ _ _ _ us hl => match us, hl with | [_, _], _ => rfl)
  obtain ⟨d18, F18, B18, k18⟩ := l18.get (ps := [("self" : Str), ("other" : Str)]) (fun F => F.binds fun _ _ _ _ _ _ us hl => match us, hl with | [_, _], _ => rfl)
  obtain ⟨d19, F19, B19, k19⟩ := l19.get (ps := [("self" : Str), ("other" : Str)]) (fun F => F.binds fun _ _ _ _ _ _ us hl => match us, hl with | [_, _], _ => rfl)
  obtain ⟨d20, F20, B20, k20⟩ := l20.get (ps := [("self" : Str), ("other" : Str)]) (fun F => F.binds fun _ _ _ _ _ _ us hl => match us, hl with | [_, _], _ => rfl)
  obtain ⟨d21, F21, B21, k21⟩ := l21.get (ps := [("one" : Str), ("two" : Str)]) (fun F => F.binds fun _ _ _ _ _ _ us hl => match us, hl with | [_, _], _ => rfl)
  obtain ⟨d22, F22, B22, k22⟩ := l22.get (ps := [("book" : Str), ("many" : Str), ("other" : Str)]) (fun F => F.binds fun _ _ _ _ _ _ us hl => match us, hl with | [_, _, _], _ => rfl)
  obtain ⟨d23, F23, B23, k23⟩ := l23.get (ps := [("many" : Str), ("lots" : Str)]) (fun F => F.binds fun _ _ _ _ _ _ us hl => match us, hl with | [_, _], _ => rfl)
  obtain ⟨d24, F24, B24, k24, bl⟩ := l24.getL (x := "script") (ps := [("script" : Str)]) (fun F => F.binds fun _ _ _ _ _ _ us hl => match us, hl with | [_], _ => rfl) (fun _ _ _ _ _ _ s v => .of_eq rfl)
  have T : Tx ⟨K, ct⟩ mg (fun n => [f0, f1, f2, f3, f4, f5, f6, f7, f8, f9, f10, f11, f12, f13, f14, f15, f16, f17, f18, f19, f20, f21, f22, f23, fa].getD n 0) (fun n => [d0, d1, d2, d3, d4, d5, d6, d7, d8, d9, d10, d11, d12, d13, d14, d15, d16, d17, d18, d19, d20, d21, d22, d23, d24].getD n d24) := {
    z_bool := PySem.W.mg_none_of X G z_bool,
    z_int := PySem.W.mg_none_of X G z_int,
    z_isinstance := PySem.W.mg_none_of X G z_isinstance,
    z_iter := PySem.W.mg_none_of X G z_iter,
    z_len := PySem.W.mg_none_of X G z_len,
    z_list := PySem.W.mg_none_of X G z_list,
    z_range := PySem.W.mg_none_of X G z_range,
    z_reversed := PySem.W.mg_none_of X G z_reversed,
    z_sorted := PySem.W.mg_none_of X G z_sorted,
    z_tuple := PySem.W.mg_none_of X G z_tuple,
    g_Book := PySem.W.mg_of X G g_Book,
    g_BadLot := PySem.W.mg_of X G g_BadLot,
    g_CountsDiffer := PySem.W.mg_of X G g_CountsDiffer,
    g_TownError := PySem.W.mg_of X G g_TownError,
    b_Book := b_Book,
    na_Book_many := na_Book_many,
    na_Book_sides := na_Book_sides,
    mi_Book := mi_Book,
    kc_Book := kc_Book,
    ox_BadLot := ox_BadLot,
    xn_BadLot_lot := xn_BadLot_lot,
    ek_BadLot := ek_BadLot,
    rt_CountsDiffer := rt_CountsDiffer,
    ek_CountsDiffer := ek_CountsDiffer,
    ko_CountsDiffer_BadLot := ko_CountsDiffer_BadLot,
    ko_CountsDiffer_TownError := ko_CountsDiffer_TownError,
    ko_BadLot_TownError := ko_BadLot_TownError,
    ko_BadLot_CountsDiffer := ko_BadLot_CountsDiffer,
    em_CountsDiffer_CountsDiffer := em_CountsDiffer_CountsDiffer,
    em_BadLot_BadLot := em_BadLot_BadLot,
    _law_digits := ⟨F0, B0, PySem.W.mg_of X G a0, k0⟩,
    _law_cell := ⟨F1, B1, PySem.W.mg_of X G a1, k1⟩,
    is_whole := ⟨F2, B2, PySem.W.mg_of X G a2, k2⟩,
    is_side_lot := ⟨F3, B3, PySem.W.mg_of X G a3, k3⟩,
    BadLot___init__ := ⟨F4, B4, a4, i4, k4⟩,
    side := ⟨F5, B5, PySem.W.mg_of X G a5, k5⟩,
    Book___init__ := ⟨F6, B6, a6, i6, k6⟩,
    _law_bit := ⟨F7, B7, PySem.W.mg_of X G a7, k7⟩,
    _law_side := ⟨F8, B8, PySem.W.mg_of X G a8, k8⟩,
    _law_own := ⟨F9, B9, PySem.W.mg_of X G a9, k9⟩,
    Book___contains__ := ⟨F10, B10, a10, i10, k10⟩,
    _law_in := ⟨F11, B11, PySem.W.mg_of X G a11, k11⟩,
    _law_whole := ⟨F12, B12, PySem.W.mg_of X G a12, k12⟩,
    Book___len__ := ⟨F13, B13, a13, i13, k13⟩,
    Book___iter__ := ⟨F14, B14, a14, i14, k14⟩,
    _law_is_book := ⟨F15, B15, PySem.W.mg_of X G a15, k15⟩,
    check_counts := ⟨F16, B16, PySem.W.mg_of X G a16, k16⟩,
    Book___sub__ := ⟨F17, B17, a17, i17, k17⟩,
    Book___add__ := ⟨F18, B18, a18, i18, k18⟩,
    Book___eq__ := ⟨F19, B19, a19, i19, k19⟩,
    Book___ne__ := ⟨F20, B20, a20, i20, k20⟩,
    _law_refusals := ⟨F21, B21, PySem.W.mg_of X G a21, k21⟩,
    _law_apart := ⟨F22, B22, PySem.W.mg_of X G a22, k22⟩,
    _law_refused := ⟨F23, B23, PySem.W.mg_of X G a23, k23⟩,
    law := ⟨F24, B24, PySem.W.mg_of X G a24, k24⟩ }
  exact ⟨d24, bl, fun base _ _ => law_sp (wd := ⟨K, ct⟩) (ok_law T) hL⟩
end VL

namespace VL
open PySem PySem.Spec L2
theorem walk {l : PySem.W.OpenLaw} {q : Program} {loose : List Str} {XP : (Str → Option Value) → Heap → Prop} {YP : World → Heap → Prop} {d : DefRec} {K : Params → PySem.W.Frag} (hn : l.most = some 63) (hdf : d.params.defaults = [])
    (hY : ∀ (w : World) (h : Heap), YP w h → (K w.params).In h)
    (F : ∀ (w : World) (mg : Str → Option Value) (fa : Addr) (h : Heap), (K w.params).In h → h.Ns mainGlobals mg → mg d.name = some (.ref fa) →
      ∃ fd : FuncData, (∀ (s : Shared) (u : Value), BindsTo s fd ⟨[u], []⟩ [("script", u)]) ∧ ∀ base : Heap, (K w.params).In base → base.Ns mainGlobals mg → FnOk l.prog w (K w.params) mg base (L2.CX l.prog w) 9 fa fd ["script"] (spLaw (K w.params))) :
    PySem.W.WalkO q loose XP YP l.row.toRowW d [] (fun f vs => PySem.call f vs) :=
  L2.walk_of (n := 63) (k := 9) (x := "script") (CX := fun w => L2.CX l.prog w) (sp := fun w => spLaw (K w.params)) hn (by decide) hdf ⟨rfl, by decide, by decide⟩ hY F (fun _ _ a ns hl _ hS => ⟨a, ns, rfl, hS, hl, fun _ => rfl⟩) fun _ _ _ _ _ h => by
    obtain ⟨_, _, _, _, _, _, _, _, _, _, _, _, z⟩ := h
    exact z
end VL
open PySem PySem.W PyProof.Rows in
set_option maxRecDepth 100000 in
set_option maxHeartbeats 0 in
theorem PySem.Challenge.cw_fullsides_k20_books_holds : PySem.Challenge.rw_fullsides_k20_books.Holds := by
  w_on; o_law; k_head; (case hw => w_witness2)
  k_fill
  refine VL.walk (l := PySem.Challenge.rw_fullsides_k20_books) rfl rfl (fun w h Y => PySem.W.kIn_of Y) ?F
  case F =>
    intro w mg fa h KX G hmg
    refine' VL.all_mk KX G hmg ?z_bool ?z_int ?z_isinstance ?z_iter ?z_len ?z_list ?z_range ?z_reversed ?z_sorted ?z_tuple ?g_Book ?g_BadLot ?g_CountsDiffer ?g_TownError ?b_Book ?na_Book_many ?na_Book_sides ?mi_Book ?kc_Book ?ox_BadLot ?xn_BadLot_lot ?ek_BadLot ?rt_CountsDiffer ?ek_CountsDiffer ?ko_CountsDiffer_BadLot ?ko_CountsDiffer_TownError ?ko_BadLot_TownError ?ko_BadLot_CountsDiffer ?em_CountsDiffer_CountsDiffer ?em_BadLot_BadLot ?a0 ?l0 ?a1 ?l1 ?a2 ?l2 ?a3 ?l3 ?a4 ?i4 ?l4 ?a5 ?l5 ?a6 ?i6 ?l6 ?a7 ?l7 ?a8 ?l8 ?a9 ?l9 ?a10 ?i10 ?l10 ?a11 ?l11 ?a12 ?l12 ?a13 ?i13 ?l13 ?a14 ?i14 ?l14 ?a15 ?l15 ?a16 ?l16 ?a17 ?i17 ?l17 ?a18 ?i18 ?l18 ?a19 ?i19 ?l19 ?a20 ?i20 ?l20 ?a21 ?l21 ?a22 ?l22 ?a23 ?l23 ?a24 ?l24 VL.law_true
    (case g_Book => k_is)
    (case g_BadLot => k_is)
    (case g_CountsDiffer => k_is)
    (case g_TownError => k_is)
    (case z_bool => k_is)
    (case z_int => k_is)
    (case z_isinstance => k_is)
    (case z_iter => k_is)
    (case z_len => k_is)
    (case z_list => k_is)
    (case z_range => k_is)
    (case z_reversed => k_is)
    (case z_sorted => k_is)
    (case z_tuple => k_is)
    (case b_Book => exact ⟨by k_is, by k_is, by k_is, by k_is, by k_is, by k_is, by k_is, by k_is, VL.tysNo_mk (by kit_is) (by kit_is) (by kit_is) (by kit_is) (by kit_is) (by kit_is) (by kit_is) (by k_is) (by k_is) (by k_is) (by k_is) (by k_is) (by k_is) (by k_is), by k_is⟩)
    (case na_Book_many => k_is)
    (case na_Book_sides => k_is)
    (case mi_Book => k_is)
    (case kc_Book => k_is)
    (case ox_BadLot => exact ⟨⟨_, _, _, _, _, _, _, _, _, _, _, _, _, _, _, by k_is, by decide +kernel⟩, by k_is, by k_is, by k_is, by k_is⟩)
    (case xn_BadLot_lot => k_is)
    (case ek_BadLot => exact ⟨by k_is, by k_is, by k_is, by k_is, by k_is, by k_is, by k_is, by k_is, by k_is⟩)
    (case rt_CountsDiffer => exact ⟨by k_exc, by k_is, by k_is, by k_is⟩)
    (case ek_CountsDiffer => exact ⟨by k_is, by k_is, by k_is, by k_is, by k_is, by k_is, by k_is, by k_is, by k_is⟩)
    (case ko_CountsDiffer_BadLot => kit_is)
    (case ko_CountsDiffer_TownError => kit_is)
    (case ko_BadLot_TownError => kit_is)
    (case ko_BadLot_CountsDiffer => kit_is)
    (case em_CountsDiffer_CountsDiffer => kts_exm)
    (case em_BadLot_BadLot => kts_exm)
    (case a0 => k_is)
    (case l0 => exact ⟨_, _, _, _, _, _, _, _, _, by k_is, by k_is, by k_is⟩)
    (case a1 => k_is)
    (case l1 => exact ⟨_, _, _, _, _, _, _, _, _, by k_is, by k_is, by k_is⟩)
    (case a2 => k_is)
    (case l2 => exact ⟨_, _, _, _, _, _, _, _, _, by k_is, by k_is, by k_is⟩)
    (case a3 => k_is)
    (case l3 => exact ⟨_, _, _, _, _, _, _, _, _, by k_is, by k_is, by k_is⟩)
    (case a4 => k_is)
    (case i4 => k_is)
    (case l4 => exact ⟨_, _, _, _, _, _, _, _, _, by k_is, by k_is, by k_is⟩)
    (case a5 => k_is)
    (case l5 => exact ⟨_, _, _, _, _, _, _, _, _, by k_is, by k_is, by k_is⟩)
    (case a6 => k_is)
    (case i6 => k_is)
    (case l6 => exact ⟨_, _, _, _, _, _, _, _, _, by k_is, by k_is, by k_is⟩)
    (case a7 => k_is)
    (case l7 => exact ⟨_, _, _, _, _, _, _, _, _, by k_is, by k_is, by k_is⟩)
    (case a8 => k_is)
    (case l8 => exact ⟨_, _, _, _, _, _, _, _, _, by k_is, by k_is, by k_is⟩)
    (case a9 => k_is)
    (case l9 => exact ⟨_, _, _, _, _, _, _, _, _, by k_is, by k_is, by k_is⟩)
    (case a10 => k_is)
    (case i10 => k_is)
    (case l10 => exact ⟨_, _, _, _, _, _, _, _, _, by k_is, by k_is, by k_is⟩)
    (case a11 => k_is)
    (case l11 => exact ⟨_, _, _, _, _, _, _, _, _, by k_is, by k_is, by k_is⟩)
    (case a12 => k_is)
    (case l12 => exact ⟨_, _, _, _, _, _, _, _, _, by k_is, by k_is, by k_is⟩)
    (case a13 => k_is)
    (case i13 => k_is)
    (case l13 => exact ⟨_, _, _, _, _, _, _, _, _, by k_is, by k_is, by k_is⟩)
    (case a14 => k_is)
    (case i14 => k_is)
    (case l14 => exact ⟨_, _, _, _, _, _, _, _, _, by k_is, by k_is, by k_is⟩)
    (case a15 => k_is)
    (case l15 => exact ⟨_, _, _, _, _, _, _, _, _, by k_is, by k_is, by k_is⟩)
    (case a16 => k_is)
    (case l16 => exact ⟨_, _, _, _, _, _, _, _, _, by k_is, by k_is, by k_is⟩)
    (case a17 => k_is)
    (case i17 => k_is)
    (case l17 => exact ⟨_, _, _, _, _, _, _, _, _, by k_is, by k_is, by k_is⟩)
    (case a18 => k_is)
    (case i18 => k_is)
    (case l18 => exact ⟨_, _, _, _, _, _, _, _, _, by k_is, by k_is, by k_is⟩)
    (case a19 => k_is)
    (case i19 => k_is)
    (case l19 => exact ⟨_, _, _, _, _, _, _, _, _, by k_is, by k_is, by k_is⟩)
    (case a20 => k_is)
    (case i20 => k_is)
    (case l20 => exact ⟨_, _, _, _, _, _, _, _, _, by k_is, by k_is, by k_is⟩)
    (case a21 => k_is)
    (case l21 => exact ⟨_, _, _, _, _, _, _, _, _, by k_is, by k_is, by k_is⟩)
    (case a22 => k_is)
    (case l22 => exact ⟨_, _, _, _, _, _, _, _, _, by k_is, by k_is, by k_is⟩)
    (case a23 => k_is)
    (case l23 => exact ⟨_, _, _, _, _, _, _, _, _, by k_is, by k_is, by k_is⟩)
    (case a24 => k_is)
    (case l24 => exact ⟨_, _, _, _, _, _, _, _, _, by k_is, by k_is, by k_is⟩)

