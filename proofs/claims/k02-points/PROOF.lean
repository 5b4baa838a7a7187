import PyProof.Rows.All
import Wide.All
import OpenK.AllK
import Wide.FinOn
import HandS.ForMost
import HandS.ForExc
import HandS.Wide
import HandS.WideBits
import HandS.Gcd
import HandS.IsInst
import HandS.ExcIs
import HandS.FStr
import HandS.TupAny
import HandS.TupMul
import HandS.Deep
import HandS.SortInts
import Lean
import HandS.Defaults
import HandS.Head0
import HandS.Head1
import HandS.Head2
import HandS.Head3
import HandS.HeadEnd
import HandS.HeadHook1
import HandS.HeadHook2
import HandS.Zip
import PySem.Challenge.RW_costsexplained_k02_points_in_lowest_term
set_option Elab.async false
set_option linter.all false
set_option maxRecDepth 100000
set_option maxHeartbeats 4000000
/-! # PF: a def's body read as a function on data. Data (D) are values without a heap; a heap is split in a shared part (never changed) and lists that one slot alone holds. -/
namespace PF
open PySem PySem.Spec L2

inductive D where
  | non | bl (b : Bool) | int (i : Int) | str (x : Str) | lst (xs : List D) | rol (xs : List D) | tup (xs : List D) | obj (c : Str) (ns : List Str) (vs : List D)

mutual
/-- the value v stands for the data d, in the heap H -/
inductive Rp (K : PySem.W.Frag) (mg : Str → Option Value) (H : Hp) : V → D → Prop
  | non : Rp K mg H .non .non
  | bl (b : Bool) : Rp K mg H (.bl b) (.bl b)
  | int (i : Int) : Rp K mg H (.int i) (.int i)
  | str (x : Str) : Rp K mg H (.str x) (.str x)
  | lst {a : Addr} {xs : List V} {ds : List D} : H a = some (.lst xs) → RpA K mg H xs ds → Rp K mg H (.ref a) (.lst ds)
  | rol {a : Addr} {xs : List V} {ds : List D} : SqL K H a xs → RpA K mg H xs ds → Rp K mg H (.ref a) (.rol ds)
  | tup {a : Addr} {xs : List V} {ds : List D} : SqT K H a xs → RpA K mg H xs ds → Rp K mg H (.ref a) (.tup ds)
  | obj {a C dx : Addr} {fs : List (Str × V)} {c : Str} {ns : List Str} {xs : List V} {ds : List D} : H a = some (.ins C dx fs) → mg c = some (.ref C) → fs = ns.zip xs → ns.length = xs.length → RpA K mg H xs ds → Rp K mg H (.ref a) (.obj c ns ds)
inductive RpA (K : PySem.W.Frag) (mg : Str → Option Value) (H : Hp) : List V → List D → Prop
  | nil : RpA K mg H [] []
  | cons {v : V} {vs : List V} {d : D} {ds : List D} : Rp K mg H v d → RpA K mg H vs ds → RpA K mg H (v :: vs) (d :: ds)
end

section
variable {K : PySem.W.Frag} {mg : Str → Option Value} {H H' : Hp}
theorem same_rd {a : Addr} {u : HO} (e : Same H H') (h : Rd H a u) : Rd H' a u := by
  rcases h with h | ⟨o, h⟩
  · exact .inl (e _ _ h)
  · exact .inr ⟨o, e _ _ h⟩
theorem same_l {a : Addr} {xs : List V} (e : Same H H') (h : SqL K H a xs) : SqL K H' a xs := by
  rcases h with h | h
  · exact .inl (same_rd e h)
  · exact .inr h
theorem same_t {a : Addr} {xs : List V} (e : Same H H') (h : SqT K H a xs) : SqT K H' a xs := by
  rcases h with h | h
  · exact .inl (same_rd e h)
  · exact .inr h
mutual
theorem Rp.up (e : Same H H') : ∀ (d : D) (v : V), Rp K mg H v d → Rp K mg H' v d
  | .non, _, h => by cases h; exact .non
  | .bl b, _, h => by cases h; exact .bl b
  | .int i, _, h => by cases h; exact .int i
  | .str x, _, h => by cases h; exact .str x
  | .lst ds, _, h => by
    cases h with
    | lst a b => exact .lst (e _ _ a) (RpA.up e ds _ b)
  | .rol ds, _, h => by
    cases h with
    | rol a b => exact .rol (same_l e a) (RpA.up e ds _ b)
  | .tup ds, _, h => by
    cases h with
    | tup a b => exact .tup (same_t e a) (RpA.up e ds _ b)
  | .obj c ns ds, _, h => by
    cases h with
    | obj a b c d f => exact .obj (e _ _ a) b c d (RpA.up e ds _ f)
theorem RpA.up (e : Same H H') : ∀ (ds : List D) (vs : List V), RpA K mg H vs ds → RpA K mg H' vs ds
  | [], _, h => by cases h; exact .nil
  | d :: ds, _, h => by
    cases h with
    | cons a b => exact .cons (Rp.up e d _ a) (RpA.up e ds _ b)
end
theorem RpA.len : ∀ {vs : List V} {ds : List D}, RpA K mg H vs ds → vs.length = ds.length
  | _, _, .nil => rfl
  | _, _, .cons _ t => by simp [RpA.len t]
theorem RpA.app : ∀ {vs ws : List V} {ds es : List D}, RpA K mg H vs ds → RpA K mg H ws es → RpA K mg H (vs ++ ws) (ds ++ es)
  | _, _, _, _, .nil, s => s
  | _, _, _, _, .cons r t, s => .cons r (t.app s)
theorem RpA.get : ∀ {vs : List V} {ds : List D} {i : Nat} {d : D}, RpA K mg H vs ds → ds[i]? = some d → ∃ v, vs[i]? = some v ∧ Rp K mg H v d
  | _, _, _, _, .nil, e => by simp at e
  | _, _, 0, _, .cons r _, e => by simp at e; subst e; exact ⟨_, rfl, r⟩
  | _, _, i + 1, d, .cons _ t, e => by
    obtain ⟨v, h1, h2⟩ := RpA.get (i := i) t (by simpa using e)
    exact ⟨v, by simpa using h1, h2⟩
theorem RpA.getV : ∀ {vs : List V} {ds : List D} {i : Nat} {v : V}, RpA K mg H vs ds → vs[i]? = some v → ∃ d, ds[i]? = some d ∧ Rp K mg H v d
  | _, _, _, _, .nil, e => by simp at e
  | _, _, 0, _, .cons r _, e => by simp at e; subst e; exact ⟨_, rfl, r⟩
  | _, _, i + 1, v, .cons _ t, e => by
    obtain ⟨d, h1, h2⟩ := RpA.getV (i := i) t (by simpa using e)
    exact ⟨d, by simpa using h1, h2⟩
theorem RpA.take : ∀ {vs : List V} {ds : List D} (n : Nat), RpA K mg H vs ds → RpA K mg H (vs.take n) (ds.take n)
  | _, _, 0, _ => .nil
  | _, _, n + 1, .nil => .nil
  | _, _, n + 1, .cons r t => .cons r (t.take n)
theorem RpA.drop : ∀ {vs : List V} {ds : List D} (n : Nat), RpA K mg H vs ds → RpA K mg H (vs.drop n) (ds.drop n)
  | _, _, 0, r => r
  | _, _, n + 1, .nil => .nil
  | _, _, n + 1, .cons r t => t.drop n
theorem RpA.set {v : V} {d : D} (r : Rp K mg H v d) : ∀ {vs : List V} {ds : List D} (i : Nat), RpA K mg H vs ds → RpA K mg H (vs.set i v) (ds.set i d)
  | _, _, _, .nil => .nil
  | _, _, 0, .cons _ t => .cons r t
  | _, _, i + 1, .cons q t => .cons q (t.set r i)
theorem RpA.erase : ∀ {vs : List V} {ds : List D} (i : Nat), RpA K mg H vs ds → RpA K mg H (vs.eraseIdx i) (ds.eraseIdx i)
  | _, _, _, .nil => .nil
  | _, _, 0, .cons _ t => t
  | _, _, i + 1, .cons q t => .cons q (t.erase i)
theorem RpA.rev : ∀ {vs : List V} {ds : List D}, RpA K mg H vs ds → RpA K mg H vs.reverse ds.reverse
  | _, _, .nil => .nil
  | _, _, .cons q t => by
    rw [List.reverse_cons, List.reverse_cons]
    exact t.rev.app (.cons q .nil)
theorem RpA.ints : ∀ {vs : List V} {ns : List Int}, RpA K mg H vs (ns.map D.int) → vs = ns.map V.int
  | _, [], h => by cases h; rfl
  | _, n :: ns, h => by
    cases h with
    | cons a b => cases a; rw [RpA.ints b]; rfl
theorem RpA.bls : ∀ {vs : List V} {ns : List Bool}, RpA K mg H vs (ns.map D.bl) → vs = ns.map V.bl
  | _, [], h => by cases h; rfl
  | _, n :: ns, h => by
    cases h with
    | cons a b => cases a; rw [RpA.bls b]; rfl
theorem RpA.strs : ∀ {vs : List V} {ns : List Str}, RpA K mg H vs (ns.map D.str) → vs = ns.map V.str
  | _, [], h => by cases h; rfl
  | _, n :: ns, h => by
    cases h with
    | cons a b => cases a; rw [RpA.strs b]; rfl
theorem RpA.of_ints : ∀ (ns : List Int), RpA K mg H (ns.map V.int) (ns.map D.int)
  | [] => .nil
  | n :: ns => .cons (.int n) (RpA.of_ints ns)
theorem RpA.of_strs : ∀ (ns : List Str), RpA K mg H (ns.map V.str) (ns.map D.str)
  | [] => .nil
  | n :: ns => .cons (.str n) (RpA.of_strs ns)
end

/-! ### data as the library's data, for == -/
mutual
def D.py : D → PyData
  | .non => .none
  | .bl b => .bool b
  | .int i => .int i
  | .str x => .str x
  | .lst ds => .list (D.pyA ds)
  | .rol ds => .list (D.pyA ds)
  | .tup ds => .tuple (D.pyA ds)
  | .obj _ _ _ => .dict []
def D.pyA : List D → List PyData
  | [] => []
  | d :: ds => d.py :: D.pyA ds
end
mutual
theorem Rp.dp {K : PySem.W.Frag} {mg : Str → Option Value} {H : Hp} : ∀ (d : D) (v : V), d.py.canLay0 = true → Rp K mg H v d → Dp K H v d.py
  | .non, _, _, h => by cases h; exact .non
  | .bl b, _, _, h => by cases h; exact .bl b
  | .int i, _, _, h => by cases h; exact .int i
  | .str x, _, _, h => by cases h; exact .str x
  | .lst ds, _, c, h => by
    cases h with
    | lst a b => exact .lst (SqL.of a) (RpA.dp ds _ (by simpa [D.py, PyData.canLay0] using c) b)
  | .rol ds, _, c, h => by
    cases h with
    | rol a b => exact .lst a (RpA.dp ds _ (by simpa [D.py, PyData.canLay0] using c) b)
  | .tup ds, _, c, h => by
    cases h with
    | tup a b => exact .tup a (RpA.dp ds _ (by simpa [D.py, PyData.canLay0] using c) b)
  | .obj c ns ds, _, c', h => by simp [D.py, PyData.canLay0] at c'
theorem RpA.dp {K : PySem.W.Frag} {mg : Str → Option Value} {H : Hp} : ∀ (ds : List D) (vs : List V), PyData.canLayAll0 (D.pyA ds) = true → RpA K mg H vs ds → DpAll K H vs (D.pyA ds)
  | [], _, _, h => by cases h; exact .nil
  | d :: ds, _, c, h => by
    have c' : d.py.canLay0 = true ∧ PyData.canLayAll0 (D.pyA ds) = true := by simpa [D.pyA, PyData.canLayAll0] using c
    cases h with
    | cons a b => exact .cons (Rp.dp d _ c'.1 a) (RpA.dp ds _ c'.2 b)
end

/-! ### results -/
/-- a condition as a Bool that nothing unfolds -/
noncomputable def cb (p : Prop) : Bool := @decide p (Classical.propDecidable p)
theorem cb_t {p : Prop} (h : p) : cb p = true := @decide_eq_true p (Classical.propDecidable p) h
theorem cb_f {p : Prop} (h : ¬ p) : cb p = false := @decide_eq_false p (Classical.propDecidable p) h
theorem of_cb {p : Prop} (h : cb p = true) : p := @of_decide_eq_true p (Classical.propDecidable p) h
@[simp] theorem cb_iff {p : Prop} : (cb p = true) = p := propext ⟨of_cb, cb_t⟩
@[simp] theorem cb_nif {p : Prop} : (cb p = false) = ¬ p := propext ⟨fun h q => (by rw [cb_t q] at h; cases h), cb_f⟩
theorem cb_dec {p : Prop} [Decidable p] : cb p = decide p := by
  by_cases h : p
  · rw [cb_t h, decide_eq_true h]
  · rw [cb_f h, decide_eq_false h]
/-- a value; an exception of the class named x with its fields; or: nothing is said -/
inductive Res (α : Type) where
  | ok (a : α) | exc (x : Str) (fs : List (Str × D)) | bad
def Res.bind {α β : Type} (r : Res α) (k : α → Res β) : Res β := match r with
  | .ok a => k a
  | .exc x fs => .exc x fs
  | .bad => .bad
instance : Monad Res where
  pure := .ok
  bind := Res.bind
@[simp] theorem Res.bind_ok {α β : Type} (a : α) (k : α → Res β) : (Res.ok a).bind k = k a := rfl
@[simp] theorem Res.bind_exc {α β : Type} (x : Str) (fs : List (Str × D)) (k : α → Res β) : (Res.exc x fs).bind k = .exc x fs := rfl
@[simp] theorem Res.bind_bad {α β : Type} (k : α → Res β) : (Res.bad : Res α).bind k = .bad := rfl

/-- a slot: nothing is known; a shared value; a list that this slot alone holds -/
inductive Cell where
  | e | v (d : D) | o (ds : List D) | xc (c : Str) (fs : List (Str × D))
abbrev Sl := List Cell
abbrev Frg := PySem.W.Frag
abbrev Mg := Str → Option Value
/-- what an exception carries -/
def Xd (K : Frg) (mg : Mg) (S H : Hp) (dx : Option Addr) (fs : List (Str × D)) : Prop := match dx with
  | none => fs = []
  | some a => ∃ (ns : List Str) (xs : List V) (ds : List D), fs = ns.zip ds ∧ (ns ≠ [] ∧ ns.length = xs.length) ∧ H a = some (.xd (ns.zip xs)) ∧ RpA K mg S xs ds
theorem Xd.keep {K : Frg} {mg : Mg} {S H S' H' : Hp} {dx : Option Addr} {fs : List (Str × D)} (s : Same S S') (k : ∀ a gs, H a = some (.xd gs) → H' a = some (.xd gs)) (h : Xd K mg S H dx fs) : Xd K mg S' H' dx fs := by
  cases dx with
  | none => exact h
  | some a =>
    obtain ⟨ns, xs, ds, h1, h2, h3, h4⟩ := h
    exact ⟨ns, xs, ds, h1, h2, k _ _ h3, h4.up s ds xs⟩
/-- the exception that an except suite holds: its address, its class, its dict -/
abbrev Hx := Option (Addr × Addr × Option Addr)

/-! ### heaps that grow -/
structure Gr (S H S' H' : Hp) : Prop where
  s : Same S S'
  h : Same H H'
  i : Same S' H'
  n : ∀ a, H a ≠ none → S a = none → S' a = none
theorem Gr.refl {S H : Hp} (i : Same S H) : Gr S H S H := ⟨Same.refl _, Same.refl _, i, fun _ _ e => e⟩
theorem Gr.trans {S H S1 H1 S2 H2 : Hp} (a : Gr S H S1 H1) (b : Gr S1 H1 S2 H2) : Gr S H S2 H2 :=
  ⟨a.s.trans b.s, a.h.trans b.h, b.i, fun x h e => b.n x (fun q => by
    cases r : H x with
    | none => exact h r
    | some o => rw [a.h x o r] at q; cases q) (a.n x h e)⟩
theorem same_new {H : Hp} {p : Addr} {o : HO} (h : H p = none) : Same H (upd H p o) := fun b u e => by
  rw [upd_ne (ne_of_none e h)]; exact e
theorem same_none {S H : Hp} {p : Addr} (i : Same S H) (h : H p = none) : S p = none := by
  cases e : S p with
  | none => rfl
  | some o => rw [i p o e] at h; cases h
/-- a new shared object -/
theorem Gr.new {S H : Hp} {p : Addr} {o : HO} (i : Same S H) (h : H p = none) : Gr S H (upd S p o) (upd H p o) :=
  ⟨same_new (same_none i h), same_new h, fun b u e => by
    by_cases q : b = p
    · subst q; rw [upd_same] at e ⊢; exact e
    · rw [upd_ne q] at e ⊢; exact i b u e, fun a ha e => by
    have q : a ≠ p := fun z => ha (z ▸ h)
    rw [upd_ne q]; exact e⟩
/-- a new object that is not shared -/
theorem Gr.lay {S H : Hp} {p : Addr} {o : HO} (i : Same S H) (h : H p = none) : Gr S H S (upd H p o) :=
  ⟨Same.refl _, same_new h, i.trans (same_new h), fun _ _ e => e⟩
/-- the heap alone grows -/
theorem Gr.heap {S H H' : Hp} (i : Same S H) (h : Same H H') : Gr S H S H' := ⟨Same.refl _, h, i.trans h, fun _ _ e => e⟩

/-- the base of a def's call: the heap and its shared part at the entry -/
structure Bs where
  H0 : Hp
  S0 : Hp
structure Rel (K : PySem.W.Frag) (mg : Str → Option Value) (hx : Hx) (b : Bs) (S : Hp) (ρ : Sl) (σ : St) (H : Hp) : Prop where
  s0 : Same b.S0 S
  sh : Same S H
  h0 : Same b.H0 H
  nw : ∀ a, b.H0 a ≠ none → b.S0 a = none → S a = none
  len : ρ.length = σ.length
  val : ∀ (i : Nat) (d : D), ρ[i]? = some (.v d) → ∃ v, σ[i]? = some (some v) ∧ Rp K mg S v d
  own : ∀ (i : Nat) (ds : List D), ρ[i]? = some (.o ds) → ∃ p vs, σ[i]? = some (some (.ref p)) ∧ H p = some (.lst vs) ∧ S p = none ∧ b.H0 p = none ∧ RpA K mg S vs ds
  xc : ∀ (i : Nat) (c : Str) (fs : List (Str × D)), ρ[i]? = some (.xc c fs) → ∃ a C dx, hx = some (a, C, dx) ∧ σ[i]? = some (some (.ref a)) ∧ mg c = some (.ref C) ∧ Xd K mg S H dx fs
  apart : ∀ (i j : Nat) (ds es : List D) (p : Addr), i ≠ j → ρ[i]? = some (.o ds) → ρ[j]? = some (.o es) → σ[i]? = some (some (.ref p)) → σ[j]? = some (some (.ref p)) → False
section
variable {K : PySem.W.Frag} {mg : Str → Option Value} {hx : Hx} {b : Bs} {S H S' H' : Hp} {ρ : Sl} {σ : St}
theorem Rel.grow (R : Rel K mg hx b S ρ σ H) (g : Gr S H S' H') : Rel K mg hx b S' ρ σ H' where
  s0 := R.s0.trans g.s
  sh := g.i
  h0 := R.h0.trans g.h
  nw := fun a h e => g.n a (fun q => by
    cases r : b.H0 a with
    | none => exact h r
    | some o => rw [R.h0 a o r] at q; cases q) (R.nw a h e)
  len := R.len
  val := fun i d e => let ⟨v, h1, h2⟩ := R.val i d e; ⟨v, h1, h2.up g.s d v⟩
  own := fun i ds e => let ⟨p, vs, h1, h2, h3, h4, h5⟩ := R.own i ds e
    ⟨p, vs, h1, g.h _ _ h2, g.n p (by rw [h2]; simp) h3, h4, h5.up g.s ds vs⟩
  xc := fun i c fs e => let ⟨a, C, dx, h1, h2, h3, h4⟩ := R.xc i c fs e; ⟨a, C, dx, h1, h2, h3, h4.keep g.s fun _ _ q => g.h _ _ q⟩
  apart := R.apart
theorem getset {α : Type} {l : List α} {i j : Nat} {x y : α} (h : (l.set i x)[j]? = some y) : (i = j ∧ x = y ∧ j < l.length) ∨ (i ≠ j ∧ l[j]? = some y) := by
  by_cases e : i = j
  · subst e
    rw [List.getElem?_set] at h
    simp only [if_true] at h
    split at h
    · rename_i q; exact .inl ⟨rfl, Option.some.inj h, q⟩
    · cases h
  · rw [List.getElem?_set_ne e] at h
    exact .inr ⟨e, h⟩
/-- a slot gets a shared value -/
theorem Rel.put (R : Rel K mg hx b S ρ σ H) {i : Nat} {v : V} {d : D} (r : Rp K mg S v d) : Rel K mg hx b S (ρ.set i (.v d)) (σ.set i (some v)) H where
  s0 := R.s0
  sh := R.sh
  h0 := R.h0
  nw := R.nw
  len := by simp [R.len]
  val := fun j d' e => by
    rcases getset e with ⟨rfl, h2, h3⟩ | ⟨h1, h2⟩
    · cases h2
      exact ⟨v, by rw [List.getElem?_set_self (by rw [← R.len]; exact h3)], r⟩
    · obtain ⟨v', h3, h4⟩ := R.val j d' h2
      exact ⟨v', by rw [List.getElem?_set_ne h1]; exact h3, h4⟩
  own := fun j ds e => by
    rcases getset e with ⟨rfl, h2, h3⟩ | ⟨h1, h2⟩
    · cases h2
    · obtain ⟨p, vs, h3, h4⟩ := R.own j ds h2
      exact ⟨p, vs, by rw [List.getElem?_set_ne h1]; exact h3, h4⟩
  xc := fun j c fs e => by
    rcases getset e with ⟨_, h2, _⟩ | ⟨h1, h2⟩
    · cases h2
    · obtain ⟨a, C, dx, q1, q2, q3⟩ := R.xc j c fs h2
      exact ⟨a, C, dx, q1, by rw [List.getElem?_set_ne h1]; exact q2, q3⟩
  apart := fun j k ds es p ne e1 e2 e3 e4 => by
    rcases getset e1 with ⟨_, h2, _⟩ | ⟨h1, h2⟩
    · cases h2
    · rcases getset e2 with ⟨_, h4, _⟩ | ⟨h3, h4⟩
      · cases h4
      · rw [List.getElem?_set_ne h1] at e3
        rw [List.getElem?_set_ne h3] at e4
        exact R.apart j k ds es p ne h2 h4 e3 e4
/-- a slot gets a new list of its own -/
theorem Rel.putO (R : Rel K mg hx b S ρ σ H) {i : Nat} {p : Addr} {vs : List V} {ds : List D} (h : H p = some (.lst vs)) (hs : S p = none) (h0 : b.H0 p = none) (hn : ∀ (j : Nat) (es : List D), ρ[j]? = some (.o es) → σ[j]? ≠ some (some (.ref p))) (r : RpA K mg S vs ds) : Rel K mg hx b S (ρ.set i (.o ds)) (σ.set i (some (.ref p))) H where
  s0 := R.s0
  sh := R.sh
  h0 := R.h0
  nw := R.nw
  len := by simp [R.len]
  val := fun j d' e => by
    rcases getset e with ⟨rfl, h2, h3⟩ | ⟨h1, h2⟩
    · cases h2
    · obtain ⟨v', h3, h4⟩ := R.val j d' h2
      exact ⟨v', by rw [List.getElem?_set_ne h1]; exact h3, h4⟩
  own := fun j es e => by
    rcases getset e with ⟨rfl, h2, h3⟩ | ⟨h1, h2⟩
    · cases h2
      exact ⟨p, vs, by rw [List.getElem?_set_self (by rw [← R.len]; exact h3)], h, hs, h0, r⟩
    · obtain ⟨p, vs, h3, h4⟩ := R.own j es h2
      exact ⟨p, vs, by rw [List.getElem?_set_ne h1]; exact h3, h4⟩
  xc := fun j c fs e => by
    rcases getset e with ⟨_, h2, _⟩ | ⟨h1, h2⟩
    · cases h2
    · obtain ⟨a, C, dx, q1, q2, q3⟩ := R.xc j c fs h2
      exact ⟨a, C, dx, q1, by rw [List.getElem?_set_ne h1]; exact q2, q3⟩
  apart := fun j k ds es q ne e1 e2 e3 e4 => by
    rcases getset e1 with ⟨j1, _, h3⟩ | ⟨h1, h2⟩
    · rcases getset e2 with ⟨k1, _, _⟩ | ⟨h4, h5⟩
      · exact ne (j1.symm.trans k1)
      · subst j1
        rw [List.getElem?_set_self (by rw [← R.len]; exact h3)] at e3
        rw [List.getElem?_set_ne h4] at e4
        cases e3
        exact hn k es h5 e4
    · rw [List.getElem?_set_ne h1] at e3
      rcases getset e2 with ⟨k1, _, h3⟩ | ⟨h4, h5⟩
      · subst k1
        rw [List.getElem?_set_self (by rw [← R.len]; exact h3)] at e4
        cases e4
        exact hn j ds h2 e3
      · rw [List.getElem?_set_ne h4] at e4
        exact R.apart j k ds es q ne h2 h5 e3 e4
/-- nothing is known of a slot any more -/
theorem Rel.wipe1 (R : Rel K mg hx b S ρ σ H) {i : Nat} {x : Option V} : Rel K mg hx b S (ρ.set i .e) (σ.set i x) H where
  s0 := R.s0
  sh := R.sh
  h0 := R.h0
  nw := R.nw
  len := by simp [R.len]
  val := fun j d' e => by
    rcases getset e with ⟨_, h2, _⟩ | ⟨h1, h2⟩
    · cases h2
    · obtain ⟨v', h3, h4⟩ := R.val j d' h2
      exact ⟨v', by rw [List.getElem?_set_ne h1]; exact h3, h4⟩
  own := fun j ds e => by
    rcases getset e with ⟨_, h2, _⟩ | ⟨h1, h2⟩
    · cases h2
    · obtain ⟨p, vs, h3, h4⟩ := R.own j ds h2
      exact ⟨p, vs, by rw [List.getElem?_set_ne h1]; exact h3, h4⟩
  xc := fun j c fs e => by
    rcases getset e with ⟨_, h2, _⟩ | ⟨h1, h2⟩
    · cases h2
    · obtain ⟨a, C, dx, q1, q2, q3⟩ := R.xc j c fs h2
      exact ⟨a, C, dx, q1, by rw [List.getElem?_set_ne h1]; exact q2, q3⟩
  apart := fun j k ds es p ne e1 e2 e3 e4 => by
    rcases getset e1 with ⟨_, h2, _⟩ | ⟨h1, h2⟩
    · cases h2
    · rcases getset e2 with ⟨_, h4, _⟩ | ⟨h3, h4⟩
      · cases h4
      · rw [List.getElem?_set_ne h1] at e3
        rw [List.getElem?_set_ne h3] at e4
        exact R.apart j k ds es p ne h2 h4 e3 e4
/-- the list of slot i is changed in its place -/
theorem Rel.mut (R : Rel K mg hx b S ρ σ H) {i : Nat} {p : Addr} {vs : List V} {ds ds' : List D} (e : ρ[i]? = some (.o ds)) (es : σ[i]? = some (some (.ref p))) (r : RpA K mg S vs ds') : Rel K mg hx b S (ρ.set i (.o ds')) σ (upd H p (.lst vs)) := by
  obtain ⟨p', vs', q1, q2, q3, q4, q5⟩ := R.own i ds e
  rw [es] at q1
  cases q1
  have il : i < ρ.length := (List.getElem?_eq_some_iff.mp e).1
  refine ⟨R.s0, fun a o h => ?_, fun a o h => ?_, R.nw, by simp [R.len], fun j d' e' => ?_, fun j es' e' => ?_, fun j c fs e' => ?_, fun j k ds1 es1 q ne e1 e2 e3 e4 => ?_⟩
  · rw [upd_ne (fun z => by rw [z, q3] at h; cases h)]; exact R.sh a o h
  · rw [upd_ne (fun z => by rw [z, q4] at h; cases h)]; exact R.h0 a o h
  · rcases getset e' with ⟨_, h2, _⟩ | ⟨h1, h2⟩
    · cases h2
    · exact R.val j d' h2
  · rcases getset e' with ⟨rfl, h2, _⟩ | ⟨h1, h2⟩
    · cases h2
      exact ⟨p, vs, es, upd_same, q3, q4, r⟩
    · obtain ⟨p2, vs2, h3, h4, h5⟩ := R.own j es' h2
      refine ⟨p2, vs2, h3, ?_, h5⟩
      rw [upd_ne (fun z => by subst z; exact R.apart i j ds es' p2 h1 e h2 es h3)]
      exact h4
  · rcases getset e' with ⟨_, h2, _⟩ | ⟨h1, h2⟩
    · cases h2
    · obtain ⟨a, C, dx, z1, z2, z3, z4⟩ := R.xc j c fs h2
      exact ⟨a, C, dx, z1, z2, z3, z4.keep (Same.refl _) fun d gs z => by rw [upd_ne (fun w => by rw [w, q2] at z; cases z)]; exact z⟩
  · have old : ∀ (m : Nat) (ms : List D), (ρ.set i (.o ds'))[m]? = some (.o ms) → ∃ ms' : List D, ρ[m]? = some (.o ms') := fun m ms z => by
      rcases getset z with ⟨rfl, _, _⟩ | ⟨_, h2⟩
      · exact ⟨ds, e⟩
      · exact ⟨ms, h2⟩
    obtain ⟨a1, b1⟩ := old j ds1 e1
    obtain ⟨a2, b2⟩ := old k es1 e2
    exact R.apart j k a1 a2 q ne b1 b2 e3 e4
/-- the list of slot i is shared from now on -/
theorem Rel.freeze (R : Rel K mg hx b S ρ σ H) {i : Nat} {ds : List D} (e : ρ[i]? = some (.o ds)) : ∃ S', Same S S' ∧ Rel K mg hx b S' (ρ.set i (.v (.lst ds))) σ H := by
  obtain ⟨p, vs, q1, q2, q3, q4, q5⟩ := R.own i ds e
  have up : Same S (upd S p (.lst vs)) := same_new q3
  refine ⟨upd S p (.lst vs), up, R.s0.trans up, fun a o h => ?_, R.h0, fun a h e' => ?_, by simp [R.len], fun j d' e' => ?_, fun j es' e' => ?_, fun j c fs e' => ?_, fun j k ds1 es1 q ne e1 e2 e3 e4 => ?_⟩
  · by_cases z : a = p
    · subst z; rw [upd_same] at h; cases h; exact q2
    · rw [upd_ne z] at h; exact R.sh a o h
  · rw [upd_ne (fun z => by rw [z] at h; exact h q4)]
    exact R.nw a h e'
  · rcases getset e' with ⟨rfl, h2, _⟩ | ⟨h1, h2⟩
    · cases h2
      exact ⟨_, q1, .lst upd_same (q5.up up ds vs)⟩
    · obtain ⟨v', h3, h4⟩ := R.val j d' h2
      exact ⟨v', h3, h4.up up _ _⟩
  · rcases getset e' with ⟨_, h2, _⟩ | ⟨h1, h2⟩
    · cases h2
    · obtain ⟨p2, vs2, h3, h4, h5, h6, h7⟩ := R.own j es' h2
      refine ⟨p2, vs2, h3, h4, ?_, h6, h7.up up _ _⟩
      rw [upd_ne (fun z => by subst z; exact R.apart i j ds es' p2 h1 e h2 q1 h3)]
      exact h5
  · rcases getset e' with ⟨_, h2, _⟩ | ⟨h1, h2⟩
    · cases h2
    · obtain ⟨a, C, dx, z1, z2, z3, z4⟩ := R.xc j c fs h2
      exact ⟨a, C, dx, z1, z2, z3, z4.keep up fun _ _ z => z⟩
  · rcases getset e1 with ⟨_, h2, _⟩ | ⟨h1, h2⟩
    · cases h2
    · rcases getset e2 with ⟨_, h4, _⟩ | ⟨h3, h4⟩
      · cases h4
      · exact R.apart j k ds1 es1 q ne h2 h4 e3 e4
end
end PF

set_option Elab.async false
set_option linter.all false
set_option maxRecDepth 100000
set_option maxHeartbeats 4000000
namespace PF
open PySem PySem.Spec L2

abbrev RR (α β : Type) := Hp → Hp → Hp → α → β → Prop
def Po {α β : Type} (K : Frg) (mg : Mg) (R : RR α β) (W : WX) (S : Hp) (σ : L2.St) (H : Hp) (r : Res β) (Q : α → Hp → Prop) : Prop := match r with
  | .ok d => ∀ v S' H', Gr S H S' H' → R H S' H' v d → Q v H'
  | .exc x fs => ∀ S' H' C dx, Gr S H S' H' → mg x = some (.ref C) → Xd K mg S' H' dx fs → W (.ref C) dx σ H'
  | .bad => False
abbrev rrE (K : Frg) (mg : Mg) : RR V D := fun _ S _ v d => Rp K mg S v d
abbrev rrA (K : Frg) (mg : Mg) : RR (List V) (List D) := fun _ S _ v d => RpA K mg S v d
abbrev rrT : RR Bool Bool := fun _ _ _ b c => b = c
/-- an operand that is only read: a list may be a slot's own -/
def Rd1 (K : Frg) (mg : Mg) (S H : Hp) (v : V) (d : D) : Prop := match d with
  | .lst ds => ∃ (p : Addr) (vs : List V), v = .ref p ∧ H p = some (.lst vs) ∧ RpA K mg S vs ds
  | d => Rp K mg S v d
abbrev rrR (K : Frg) (mg : Mg) : RR V D := fun _ S H v d => Rd1 K mg S H v d
/-- a new list that nobody else holds -/
abbrev rrF (K : Frg) (mg : Mg) : RR V (List D) := fun H0 S H v ds => ∃ (p : Addr) (vs : List V), v = .ref p ∧ H0 p = none ∧ S p = none ∧ H p = some (.lst vs) ∧ RpA K mg S vs ds
section
variable {K : Frg} {mg : Mg} {S H S' H' : Hp}
theorem Rd1.of {v : V} {d : D} (i : Same S H) (h : Rp K mg S v d) : Rd1 K mg S H v d := by
  cases d <;> first | exact h | skip
  cases h with
  | lst a b => exact ⟨_, _, rfl, i _ _ a, b⟩
theorem Rd1.up {v : V} {d : D} (g : Gr S H S' H') (h : Rd1 K mg S H v d) : Rd1 K mg S' H' v d := by
  cases d with
  | lst ds =>
    obtain ⟨p, vs, h1, h2, h3⟩ := h
    exact ⟨p, vs, h1, g.h _ _ h2, h3.up g.s ds vs⟩
  | _ => exact Rp.up g.s _ v h
theorem Xd.up {dx : Option Addr} {fs : List (Str × D)} (g : Gr S H S' H') (h : Xd K mg S H dx fs) : Xd K mg S' H' dx fs := by
  exact h.keep g.s fun _ _ q => g.h _ _ q
end
section
variable {α β γ δ : Type} {K : Frg} {mg : Mg} {R : RR α β} {R2 : RR γ δ} {W : WX} {S H S' H' : Hp} {σ : L2.St}
theorem Po.bind {r : Res β} {k : β → Res δ} {Q : α → Hp → Prop} {Q2 : γ → Hp → Prop} (h : Po K mg R2 W S σ H (r.bind k) Q2)
    (n : ∀ d v S' H', Gr S H S' H' → R H S' H' v d → Po K mg R2 W S σ H (k d) Q2 → Q v H') : Po K mg R W S σ H r Q := by
  cases r with
  | ok d => exact fun v S' H' g q => n d v S' H' g q h
  | exc x fs => exact h
  | bad => exact h
theorem Po.up {r : Res β} {Q : α → Hp → Prop} (g : Gr S H S' H') (hr : ∀ S2 H2 v d, Gr S' H' S2 H2 → R H' S2 H2 v d → R H S2 H2 v d) (h : Po K mg R W S σ H r Q) : Po K mg R W S' σ H' r Q := by
  cases r with
  | ok d => exact fun v S2 H2 g2 q => h v S2 H2 (g.trans g2) (hr _ _ _ _ g2 q)
  | exc x fs => exact fun S2 H2 C dx g2 q1 q2 => h S2 H2 C dx (g.trans g2) q1 q2
  | bad => exact h
theorem Po.wk {R' : RR α β} {r : Res β} {Q : α → Hp → Prop} (h : Po K mg R W S σ H r Q) (hr : ∀ S2 H2 v d, Gr S H S2 H2 → R' H S2 H2 v d → R H S2 H2 v d) : Po K mg R' W S σ H r Q := by
  cases r with
  | ok d => exact fun v S2 H2 g2 q => h v S2 H2 g2 (hr _ _ _ _ g2 q)
  | exc x fs => exact h
  | bad => exact h
theorem Po.q {r : Res β} {Q Q' : α → Hp → Prop} (h : Po K mg R W S σ H r Q) (hq : ∀ v H', Q v H' → Q' v H') : Po K mg R W S σ H r Q' := by
  cases r with
  | ok d => exact fun v S2 H2 g2 q => hq _ _ (h v S2 H2 g2 q)
  | exc x fs => exact h
  | bad => exact h
end
theorem Po.upE {K : Frg} {mg : Mg} {W : WX} {S H S' H' : Hp} {σ : L2.St} {r : Res D} {Q : VK} (g : Gr S H S' H') (h : Po K mg (rrE K mg) W S σ H r Q) : Po K mg (rrE K mg) W S' σ H' r Q := h.up g fun _ _ _ _ _ q => q
theorem Po.upR {K : Frg} {mg : Mg} {W : WX} {S H S' H' : Hp} {σ : L2.St} {r : Res D} {Q : VK} (g : Gr S H S' H') (h : Po K mg (rrR K mg) W S σ H r Q) : Po K mg (rrR K mg) W S' σ H' r Q := h.up g fun _ _ _ _ _ q => q
theorem Po.upA {K : Frg} {mg : Mg} {W : WX} {S H S' H' : Hp} {σ : L2.St} {r : Res (List D)} {Q : List V → Hp → Prop} (g : Gr S H S' H') (h : Po K mg (rrA K mg) W S σ H r Q) : Po K mg (rrA K mg) W S' σ H' r Q := h.up g fun _ _ _ _ _ q => q
theorem Po.upT {K : Frg} {mg : Mg} {W : WX} {S H S' H' : Hp} {σ : L2.St} {r : Res Bool} {Q : Bool → Hp → Prop} (g : Gr S H S' H') (h : Po K mg rrT W S σ H r Q) : Po K mg rrT W S' σ H' r Q := h.up g fun _ _ _ _ _ q => q
theorem Po.upF {K : Frg} {mg : Mg} {W : WX} {S H S' H' : Hp} {σ : L2.St} {r : Res (List D)} {Q : VK} (g : Gr S H S' H') (h : Po K mg (rrF K mg) W S σ H r Q) : Po K mg (rrF K mg) W S' σ H' r Q := h.up g fun S2 H2 v d g2 ⟨p, vs, h1, h2, h3⟩ => ⟨p, vs, h1, same_none g.h h2, h3⟩

/-- the canonical reading of an expression (an argument list, a test) that yields f of the slots -/
def tG {α β : Type} (K : Frg) (mg : Mg) (hx : Hx) (R : RR α β) (W : WX) (f : Sl → Res β) : L2.St → Hp → (α → Hp → Prop) → Prop := fun σ H Q => ∃ b S ρ, Rel K mg hx b S ρ σ H ∧ Po K mg R W S σ H (f ρ) Q
abbrev ME (X : Cx) (hx : Hx) (W : WX) (e : Expr) (f : Sl → Res D) : Prop := PE X e (tG X.K X.mg hx (rrE X.K X.mg) W f)
abbrev MR (X : Cx) (hx : Hx) (W : WX) (e : Expr) (f : Sl → Res D) : Prop := PE X e (tG X.K X.mg hx (rrR X.K X.mg) W f)
abbrev MF (X : Cx) (hx : Hx) (W : WX) (e : Expr) (f : Sl → Res (List D)) : Prop := PE X e (tG X.K X.mg hx (rrF X.K X.mg) W f)
abbrev MA (X : Cx) (hx : Hx) (W : WX) (es : List Expr) (f : Sl → Res (List D)) : Prop := PA X es (tG X.K X.mg hx (rrA X.K X.mg) W f)
abbrev MT (X : Cx) (hx : Hx) (W : WX) (e : Expr) (f : Sl → Res Bool) : Prop := PT X e (tG X.K X.mg hx rrT W f)
abbrev MW (X : Cx) (hx : Hx) (W : WX) (e : Expr) (f : Sl → Res Bool) : Prop := PW X e (tG X.K X.mg hx rrT W f)

theorem pe_imp {X : Cx} {e : Expr} {t t' : TE} (h : PE X e t) (i : ∀ σ H Q, t' σ H Q → t σ H Q) : PE X e t' := ⟨fun pins s σ H Q I q => h.run pins s σ H Q I (i σ H Q q)⟩
theorem pa_imp {X : Cx} {e : List Expr} {t t' : TA} (h : PA X e t) (i : ∀ σ H Q, t' σ H Q → t σ H Q) : PA X e t' := ⟨fun ps pins s σ H Q I q => h.run ps pins s σ H Q I (i σ H Q q)⟩
theorem pt_imp {X : Cx} {e : Expr} {t t' : TT} (h : PT X e t) (i : ∀ σ H Q, t' σ H Q → t σ H Q) : PT X e t' := ⟨fun pins s σ H Q I q => h.run pins s σ H Q I (i σ H Q q)⟩
theorem pw_imp {X : Cx} {e : Expr} {t t' : TT} (h : PW X e t) (i : ∀ σ H Q, t' σ H Q → t σ H Q) : PW X e t' := ⟨fun w pins s σ H Q I q => h.run w pins s σ H Q I (i σ H Q q)⟩
theorem ps_imp {X : Cx} {st : Stmt} {t t' : TS} (h : PS X st t) (i : ∀ D σ H, t' D σ H → t D σ H) : PS X st t' := ⟨fun pins s σ H D I q => h.run pins s σ H D I (i D σ H q)⟩
theorem pss_imp {X : Cx} {st : List Stmt} {t t' : TS} (h : PSs X st t) (i : ∀ D σ H, t' D σ H → t D σ H) : PSs X st t' := ⟨fun pins s σ H D I q => h.run pins s σ H D I (i D σ H q)⟩
theorem pg_imp {X : Cx} {e : Expr} {t t' : TG} (h : PG X e t) (i : ∀ v σ H Q, t' v σ H Q → t v σ H Q) : PG X e t' := ⟨fun pins s σ H v u Q I r q => h.run pins s σ H v u Q I r (i v σ H Q q)⟩
theorem pi_imp {X : Cx} {tg e : Expr} {t t' : TI} (h : PI X tg e t) (i : ∀ σ H R, t' σ H R → t σ H R) : PI X tg e t' := ⟨fun pins s σ H R I q => h.run pins s σ H R I (i σ H R q)⟩

/-! ### expressions -/
@[simp] def sVar (i : Nat) (ρ : Sl) : Res D := match ρ[i]? with
  | some (.v d) => .ok d
  | _ => .bad
@[simp] def sRd (i : Nat) (ρ : Sl) : Res D := match ρ[i]? with
  | some (.v d) => .ok d
  | some (.o ds) => .ok (.lst ds)
  | _ => .bad
@[simp] def sC (d : D) (_ : Sl) : Res D := .ok d
@[simp] def sUn (g : D → Res D) (f : Sl → Res D) (ρ : Sl) : Res D := (f ρ).bind g
@[simp] def sOp (g : D → D → Res D) (f h : Sl → Res D) (ρ : Sl) : Res D := (f ρ).bind fun x => (h ρ).bind fun y => g x y
@[simp] def aNil (_ : Sl) : Res (List D) := .ok []
@[simp] def aCons (f : Sl → Res D) (h : Sl → Res (List D)) (ρ : Sl) : Res (List D) := (f ρ).bind fun x => (h ρ).bind fun y => .ok (x :: y)
@[simp] def sTup (h : Sl → Res (List D)) (ρ : Sl) : Res D := (h ρ).bind fun ds => if ds.length ≤ 16777216 then .ok (.tup ds) else .bad
@[simp] def fLst (h : Sl → Res (List D)) (ρ : Sl) : Res (List D) := (h ρ).bind fun ds => if ds.length ≤ 16777216 then .ok ds else .bad
@[simp] def fOp (g : D → D → Res (List D)) (f h : Sl → Res D) (ρ : Sl) : Res (List D) := (f ρ).bind fun x => (h ρ).bind fun y => g x y
@[simp] def fUn (g : D → Res (List D)) (f : Sl → Res D) (ρ : Sl) : Res (List D) := (f ρ).bind g
@[simp] def sLst (h : Sl → Res (List D)) (ρ : Sl) : Res D := (h ρ).bind fun ds => .ok (.lst ds)
@[simp] def sCall (g : List D → Res D) (h : Sl → Res (List D)) (ρ : Sl) : Res D := (h ρ).bind g
@[simp] def tBl (d : D) : Res Bool := match d with
  | .bl b => .ok b
  | _ => .bad
@[simp] def sTest (f : Sl → Res D) (ρ : Sl) : Res Bool := (f ρ).bind tBl
@[simp] def tAnd (f h : Sl → Res Bool) (ρ : Sl) : Res Bool := (f ρ).bind fun b => if b then h ρ else .ok false
@[simp] def tOr (f h : Sl → Res Bool) (ρ : Sl) : Res Bool := (f ρ).bind fun b => if b then .ok true else h ρ
@[simp] def tNot (f : Sl → Res Bool) (ρ : Sl) : Res Bool := (f ρ).bind fun b => .ok (!b)
@[simp] def sAnd (f h : Sl → Res D) (ρ : Sl) : Res D := (f ρ).bind fun x => (tBl x).bind fun b => if b then h ρ else .ok (.bl false)
@[simp] def sOr (f h : Sl → Res D) (ρ : Sl) : Res D := (f ρ).bind fun x => (tBl x).bind fun b => if b then .ok (.bl true) else h ρ
@[simp] def sNot (f : Sl → Res D) (ρ : Sl) : Res D := (f ρ).bind fun x => (tBl x).bind fun b => .ok (.bl (!b))
@[simp] def sIte (t : Sl → Res Bool) (f h : Sl → Res D) (ρ : Sl) : Res D := (t ρ).bind fun b => if b then f ρ else h ρ

/-- an operation by values is the function g on data -/
def U1 (K : Frg) (mg : Mg) (r : V → Hp → VK → Prop) (g : D → Res D) : Prop := ∀ S σ H v d W Q, Same S H → Rd1 K mg S H v d → Po K mg (rrE K mg) W S σ H (g d) Q → r v H Q
def O2 (K : Frg) (mg : Mg) (r : R2) (g : D → D → Res D) : Prop := ∀ S σ H x y d e W Q, Same S H → Rd1 K mg S H x d → Rd1 K mg S H y e → Po K mg (rrE K mg) W S σ H (g d e) Q → r x y H Q
/-- .. that makes a new list -/
def U1F (K : Frg) (mg : Mg) (r : V → Hp → VK → Prop) (g : D → Res (List D)) : Prop := ∀ S σ H v d W Q, Same S H → Rd1 K mg S H v d → Po K mg (rrF K mg) W S σ H (g d) Q → r v H Q
def O2F (K : Frg) (mg : Mg) (r : R2) (g : D → D → Res (List D)) : Prop := ∀ S σ H x y d e W Q, Same S H → Rd1 K mg S H x d → Rd1 K mg S H y e → Po K mg (rrF K mg) W S σ H (g d e) Q → r x y H Q
section
variable {X : Cx} {hx : Hx} {W : WX} {a b c e : Expr} {pos : Pos} {fa fb fc : Sl → Res D}
theorem me_var (i : Nat) {x : Str} (h : PE X (.Name x pos) (tVar i)) : ME X hx W (.Name x pos) (sVar i) := pe_imp h fun σ H Q ⟨b, S, ρ, R, h⟩ => by
  unfold sVar at h
  split at h
  · rename_i d e
    obtain ⟨v, h1, h2⟩ := R.val i d e
    exact ⟨v, h1, h v S H (Gr.refl R.sh) h2⟩
  · exact h.elim
theorem mr_rd (i : Nat) {x : Str} (h : PE X (.Name x pos) (tVar i)) : MR X hx W (.Name x pos) (sRd i) := pe_imp h fun σ H Q ⟨b, S, ρ, R, h⟩ => by
  unfold sRd at h
  split at h
  · rename_i d e
    obtain ⟨v, h1, h2⟩ := R.val i d e
    exact ⟨v, h1, h v S H (Gr.refl R.sh) (Rd1.of R.sh h2)⟩
  · rename_i ds e
    obtain ⟨p, vs, h1, h2, h3, h4, h5⟩ := R.own i ds e
    exact ⟨_, h1, h _ S H (Gr.refl R.sh) ⟨p, vs, rfl, h2, h5⟩⟩
  · exact h.elim
theorem mr_of (h : ME X hx W e fa) : MR X hx W e fa := pe_imp h fun σ H Q ⟨b, S, ρ, R, h⟩ => ⟨b, S, ρ, R, h.wk fun _ _ _ _ g q => Rd1.of g.i q⟩
theorem me_of {ff : Sl → Res (List D)} (h : MF X hx W e ff) : ME X hx W e (sLst ff) := pe_imp h fun σ H Q ⟨b, S, ρ, R, h⟩ => ⟨b, S, ρ, R, h.bind fun d v S' H' g ⟨p, vs, h1, h2, h3, h4, h5⟩ k => by
  subst h1
  have up : Same S' (upd S' p (.lst vs)) := same_new h3
  refine k _ (upd S' p (.lst vs)) H' ⟨g.s.trans up, g.h, fun a o q => ?_, fun a ha q => ?_⟩ (.lst upd_same (h5.up up _ _))
  · by_cases z : a = p
    · subst z; rw [upd_same] at q; cases q; exact h4
    · rw [upd_ne z] at q; exact g.i a o q
  · rw [upd_ne (fun z => ha (by rw [z]; exact h2))]; exact g.n a ha q⟩
theorem mr_f {ff : Sl → Res (List D)} (h : MF X hx W e ff) : MR X hx W e (sLst ff) := mr_of (me_of h)
theorem me_con {v : V} {d : D} (h : PE X e (tC v)) (r : ∀ S, Rp X.K X.mg S v d) : ME X hx W e (sC d) := pe_imp h fun σ H Q ⟨b, S, ρ, R, h⟩ => h v S H (Gr.refl R.sh) (r S)
theorem me_int {i : Int} {j} : ME X hx W (.Constant (.int i) j pos) (sC (.int i)) := me_con pe_int fun _ => .int i
theorem me_bl {i : Bool} {j} : ME X hx W (.Constant (.bool i) j pos) (sC (.bl i)) := me_con pe_bl fun _ => .bl i
theorem me_non {j} : ME X hx W (.Constant .none j pos) (sC .non) := me_con pe_non fun _ => .non
theorem me_str {x : Str} {j} : ME X hx W (.Constant (.str x) j pos) (sC (.str x)) := me_con pe_str fun _ => .str x
theorem me_un {op : UnaryOp} {r : V → Hp → VK → Prop} {g : D → Res D} (ho : UnR X (unaryOp op) r) (hr : U1 X.K X.mg r g) (ha : MR X hx W a fa) : ME X hx W (.UnaryOp op a pos) (sUn g fa) :=
  pe_imp (pe_un ho ha) fun σ H Q ⟨b, S, ρ, R, h⟩ => ⟨b, S, ρ, R, h.bind fun d v S1 H1 g1 r1 k => hr S1 σ H1 v d W Q g1.i r1 (k.upE g1)⟩
theorem op_seq {f h : Sl → Res D} {g : D → D → Res D} {r : R2} (hr : O2 X.K X.mg r g) : ∀ σ H Q, tG X.K X.mg hx (rrE X.K X.mg) W (sOp g f h) σ H Q → tOp r (tG X.K X.mg hx (rrR X.K X.mg) W f) (tG X.K X.mg hx (rrR X.K X.mg) W h) σ H Q := fun σ H Q ⟨b, S, ρ, R, q⟩ =>
  ⟨b, S, ρ, R, q.bind fun d v S1 H1 g1 r1 k => ⟨b, S1, ρ, R.grow g1, (k.upE g1).bind fun d2 v2 S2 H2 g2 r2 k2 => hr S2 σ H2 v v2 d d2 W Q g2.i (r1.up g2) r2 (k2.upE g2)⟩⟩
theorem me_op {op : Operator} {r : R2} {g : D → D → Res D} (ho : OpR X (binaryOp op) r) (hr : O2 X.K X.mg r g) (ha : MR X hx W a fa) (hb : MR X hx W b fb) : ME X hx W (.BinOp a op b pos) (sOp g fa fb) := pe_imp (pe_op ho ha hb) (op_seq hr)
theorem me_cmp {op : CmpOp} {r : R2} {g : D → D → Res D} (ho : OpR X (compareOp op) r) (hr : O2 X.K X.mg r g) (ha : MR X hx W a fa) (hb : MR X hx W b fb) (hm : behindInMarks op b = false) : ME X hx W (.Compare a [op] [b] pos) (sOp g fa fb) := pe_imp (pe_cmpR ho ha hb hm) (op_seq hr)
theorem me_ix {r : R2} {g : D → D → Res D} (hi : IxR X r) (hr : O2 X.K X.mg r g) (ha : MR X hx W a fa) (hb : MR X hx W b fb) (hs : PlainIx b) : ME X hx W (.Subscript a b pos) (sOp g fa fb) := pe_imp (pe_ix hi ha hb hs) (op_seq hr)
theorem opF_seq {f h : Sl → Res D} {g : D → D → Res (List D)} {r : R2} (hr : O2F X.K X.mg r g) : ∀ σ H Q, tG X.K X.mg hx (rrF X.K X.mg) W (fOp g f h) σ H Q → tOp r (tG X.K X.mg hx (rrR X.K X.mg) W f) (tG X.K X.mg hx (rrR X.K X.mg) W h) σ H Q := fun σ H Q ⟨b, S, ρ, R, q⟩ =>
  ⟨b, S, ρ, R, q.bind fun d v S1 H1 g1 r1 k => ⟨b, S1, ρ, R.grow g1, (k.upF g1).bind fun d2 v2 S2 H2 g2 r2 k2 => hr S2 σ H2 v v2 d d2 W Q g2.i (r1.up g2) r2 (k2.upF g2)⟩⟩
theorem mf_op {op : Operator} {r : R2} {g : D → D → Res (List D)} (ho : OpR X (binaryOp op) r) (hr : O2F X.K X.mg r g) (ha : MR X hx W a fa) (hb : MR X hx W b fb) : MF X hx W (.BinOp a op b pos) (fOp g fa fb) := pe_imp (pe_op ho ha hb) (opF_seq hr)
theorem ma_nil : MA X hx W [] aNil := pa_imp pa_nil fun σ H Q ⟨b, S, ρ, R, q⟩ => q [] S H (Gr.refl R.sh) .nil
theorem ma_cons {es : List Expr} {fs : Sl → Res (List D)} (ha : ME X hx W e fa) (hr : MA X hx W es fs) (hs : starEach (e :: es) X.env = (false, eval e X.env) :: starEach es X.env := by rfl) : MA X hx W (e :: es) (aCons fa fs) :=
  pa_imp (pa_cons ha hr hs) fun σ H Q ⟨b, S, ρ, R, q⟩ => ⟨b, S, ρ, R, q.bind fun d v S1 H1 g1 r1 k => ⟨b, S1, ρ, R.grow g1, (k.upA g1).bind fun d2 v2 S2 H2 g2 r2 k2 => k2 _ S2 H2 g2 (.cons (r1.up g2.s d v) r2)⟩⟩
theorem sizeLine16 {n : Nat} (h : n ≤ 16777216) : n ≤ sizeLine := by rw [sizeLine_eq]; exact h
theorem me_tup {es : List Expr} {fs : Sl → Res (List D)} {x1} (h : MA X hx W es fs) : ME X hx W (.Tuple es x1 pos) (sTup fs) :=
  pe_imp (pe_tup h) fun σ H Q ⟨b, S, ρ, R, q⟩ => ⟨b, S, ρ, R, q.bind fun d v S1 H1 g1 r1 k => by
    split at k
    · rename_i hl
      refine ⟨sizeLine16 (by rw [r1.len]; exact hl), fun p hp => ?_⟩
      refine k _ _ _ (g1.trans (Gr.new g1.i hp)) (.tup (SqT.of upd_same) (r1.up (same_new (same_none g1.i hp)) _ _))
    · exact k.elim⟩
theorem mf_lst {es : List Expr} {fs : Sl → Res (List D)} {x1} (h : MA X hx W es fs) : MF X hx W (.List es x1) (fLst fs) :=
  pe_imp (pe_lst h) fun σ H Q ⟨b, S, ρ, R, q⟩ => ⟨b, S, ρ, R, q.bind fun d v S1 H1 g1 r1 k => by
    split at k
    · rename_i hl
      refine ⟨sizeLine16 (by rw [r1.len]; exact hl), fun p hp => ?_⟩
      refine k _ S1 _ (g1.trans (Gr.lay g1.i hp)) ⟨p, v, rfl, same_none g1.h hp, same_none g1.i hp, upd_same, r1⟩
    · exact k.elim⟩

/-! ### tests -/
theorem mt_val (h : ME X hx W e fa) (he : ∀ whole, isTrue e X.env whole = (do let v ← whole; standAt e.pos; holding [v] (truthy v)) := by intro _; rfl) : MT X hx W e (sTest fa) :=
  pt_imp (pt_val h he) fun σ H Q ⟨b, S, ρ, R, q⟩ => ⟨b, S, ρ, R, q.bind fun d v S1 H1 g1 r1 k => by
    cases r1 <;> first | exact k.elim | skip
    rename_i c
    exact ⟨c, rfl, k c S1 H1 g1 rfl⟩⟩
theorem mt_cmp {op : CmpOp} {r : R2} {g : D → D → Res D} (ho : OpR X (compareOp op) r) (hr : O2 X.K X.mg r g) (ha : MR X hx W a fa) (hb : MR X hx W b fb) (hm : behindInMarks op b = false) : MT X hx W (.Compare a [op] [b] pos) (sTest (sOp g fa fb)) :=
  pt_imp (pt_cmpR ho ha hb hm) fun σ H Q ⟨b, S, ρ, R, q⟩ => op_seq hr σ H _ ⟨b, S, ρ, R, q.bind fun d v S1 H1 g1 r1 k => by
    cases r1 <;> first | exact k.elim | skip
    rename_i c
    exact ⟨c, rfl, k c S1 H1 g1 rfl⟩⟩
theorem mt_not {t : Sl → Res Bool} (h : MT X hx W a t) : MT X hx W (.UnaryOp .Not a pos) (tNot t) :=
  pt_imp (pt_not h) fun σ H Q ⟨b, S, ρ, R, q⟩ => ⟨b, S, ρ, R, q.bind fun d v S1 H1 g1 r1 k => by
    cases r1
    exact k _ S1 H1 g1 rfl⟩
theorem mw_and1 {t : Sl → Res Bool} (h : MT X hx W a t) : MW X hx W (.BoolOp .And [a] pos) t := pw_and1 h
theorem mw_or1 {t : Sl → Res Bool} (h : MT X hx W a t) : MW X hx W (.BoolOp .Or [a] pos) t := pw_or1 h
theorem mw_and {t u : Sl → Res Bool} {rest : List Expr} (ha : MT X hx W a t) (hb : MW X hx W (.BoolOp .And (b :: rest) pos) u) : MW X hx W (.BoolOp .And (a :: b :: rest) pos) (tAnd t u) :=
  pw_imp (pw_and ha hb) fun σ H Q ⟨b, S, ρ, R, q⟩ => ⟨b, S, ρ, R, q.bind fun d v S1 H1 g1 r1 k => by
    cases r1
    cases d with
    | true => exact iteT ⟨b, S1, ρ, R.grow g1, Po.upT g1 k⟩
    | false => exact iteF (k _ S1 H1 g1 rfl)⟩
theorem mw_or {t u : Sl → Res Bool} {rest : List Expr} (ha : MT X hx W a t) (hb : MW X hx W (.BoolOp .Or (b :: rest) pos) u) : MW X hx W (.BoolOp .Or (a :: b :: rest) pos) (tOr t u) :=
  pw_imp (pw_or ha hb) fun σ H Q ⟨b, S, ρ, R, q⟩ => ⟨b, S, ρ, R, q.bind fun d v S1 H1 g1 r1 k => by
    cases r1
    cases d with
    | true => exact iteT (k _ S1 H1 g1 rfl)
    | false => exact iteF ⟨b, S1, ρ, R.grow g1, Po.upT g1 k⟩⟩
theorem me_and {rest : List Expr} (ha : ME X hx W a fa) (hb : ME X hx W (.BoolOp .And (b :: rest) pos) fb) : ME X hx W (.BoolOp .And (a :: b :: rest) pos) (sAnd fa fb) :=
  pe_imp (pe_and ha hb) fun σ H Q ⟨b, S, ρ, R, q⟩ => ⟨b, S, ρ, R, q.bind fun d v S1 H1 g1 r1 k => by
    cases r1 <;> first | exact k.elim | skip
    rename_i c
    refine ⟨c, rfl, ?_⟩
    cases c with
    | true => exact iteT ⟨b, S1, ρ, R.grow g1, Po.upE g1 k⟩
    | false => exact iteF (k _ S1 H1 g1 (.bl false))⟩
theorem me_or {rest : List Expr} (ha : ME X hx W a fa) (hb : ME X hx W (.BoolOp .Or (b :: rest) pos) fb) : ME X hx W (.BoolOp .Or (a :: b :: rest) pos) (sOr fa fb) :=
  pe_imp (pe_or ha hb) fun σ H Q ⟨b, S, ρ, R, q⟩ => ⟨b, S, ρ, R, q.bind fun d v S1 H1 g1 r1 k => by
    cases r1 <;> first | exact k.elim | skip
    rename_i c
    refine ⟨c, rfl, ?_⟩
    cases c with
    | true => exact iteT (k _ S1 H1 g1 (.bl true))
    | false => exact iteF ⟨b, S1, ρ, R.grow g1, Po.upE g1 k⟩⟩
theorem me_not (h : ME X hx W a fa) : ME X hx W (.UnaryOp .Not a pos) (sNot fa) :=
  pe_imp (pe_not h) fun σ H Q ⟨b, S, ρ, R, q⟩ => ⟨b, S, ρ, R, q.bind fun d v S1 H1 g1 r1 k => by
    cases r1 <;> first | exact k.elim | skip
    rename_i c
    exact ⟨c, rfl, k _ S1 H1 g1 (.bl _)⟩⟩
theorem me_ite {t : Sl → Res Bool} (hc : MT X hx W c t) (ha : ME X hx W a fa) (hb : ME X hx W b fb) : ME X hx W (.IfExp c a b pos) (sIte t fa fb) :=
  pe_imp (pe_ifExp hc ha hb) fun σ H Q ⟨b, S, ρ, R, q⟩ => ⟨b, S, ρ, R, q.bind fun d v S1 H1 g1 r1 k => by
    cases r1
    cases d with
    | true => exact iteT ⟨b, S1, ρ, R.grow g1, Po.upE g1 k⟩
    | false => exact iteF ⟨b, S1, ρ, R.grow g1, Po.upE g1 k⟩⟩
/-- the truth of a value -/
@[simp] def gTru (d : D) : Res Bool := match d with
  | .non => .ok false
  | .bl b => .ok b
  | .int i => .ok (i != 0)
  | .str x => if x.length ≤ 16777216 then .ok ((x.length : Int) != 0) else .bad
  | .lst ds => .ok (!ds.isEmpty)
  | .rol ds => .ok (!ds.isEmpty)
  | .tup ds => .ok (!ds.isEmpty)
  | .obj _ _ _ => .bad
@[simp] def tTru (f : Sl → Res D) (ρ : Sl) : Res Bool := (f ρ).bind gTru
theorem RpA.emp {K : Frg} {mg : Mg} {H : Hp} {vs : List V} {ds : List D} (h : RpA K mg H vs ds) : vs.isEmpty = ds.isEmpty := by cases h <;> rfl
theorem mt_tru (h : MR X hx W e fa) (he : ∀ whole, isTrue e X.env whole = (do let v ← whole; standAt e.pos; holding [v] (truthy v)) := by intro _; rfl) : MT X hx W e (tTru fa) :=
  pt_imp (pt_truth h he) fun σ H Q ⟨b, S, ρ, R, q⟩ => ⟨b, S, ρ, R, q.bind fun d v S1 H1 g1 r1 k => by
    cases d with
    | non => cases r1; exact ⟨_, rfl, k _ S1 H1 g1 rfl⟩
    | bl _ => cases r1; exact ⟨_, rfl, k _ S1 H1 g1 rfl⟩
    | int _ => cases r1; exact ⟨_, rfl, k _ S1 H1 g1 rfl⟩
    | str x =>
      cases r1
      simp only [gTru] at k
      split at k
      · rename_i hl
        exact ⟨_, ⟨sizeLine16 hl, rfl⟩, k _ S1 H1 g1 rfl⟩
      · exact k.elim
    | lst ds =>
      obtain ⟨p, vs, rfl, h2, h3⟩ := r1
      exact ⟨_, .inl ⟨vs, SqL.of h2, rfl⟩, k _ S1 H1 g1 (by rw [h3.emp])⟩
    | rol ds =>
      cases r1 with
      | rol h2 h3 => exact ⟨_, .inl ⟨_, same_l g1.i h2, rfl⟩, k _ S1 H1 g1 (by rw [h3.emp])⟩
    | tup ds =>
      cases r1 with
      | tup h2 h3 => exact ⟨_, .inr (.inl ⟨_, same_t g1.i h2, rfl⟩), k _ S1 H1 g1 (by rw [h3.emp])⟩
    | obj _ _ _ => exact k.elim⟩
/-- a < b < c -/
def sChain (g h : D → D → Res D) (fa fb fc : Sl → Res D) (ρ : Sl) : Res D := (fa ρ).bind fun x => (fb ρ).bind fun y => (g x y).bind fun z => (tBl z).bind fun b => if b then (fc ρ).bind fun w => h y w else .ok (.bl false)
end
end PF

set_option Elab.async false
set_option linter.all false
set_option maxRecDepth 100000
set_option maxHeartbeats 4000000
namespace PF
open PySem PySem.Spec L2

/-! ### statements -/
inductive Out where
  | nx (ρ : Sl) | ret (d : D) | bk (ρ : Sl) | ct (ρ : Sl) | exc (x : Str) (fs : List (Str × D)) (ρ : Sl) | bad
structure Bok (b : Bs) (S H : Hp) : Prop where
  s0 : Same b.S0 S
  sh : Same S H
  h0 : Same b.H0 H
  nw : ∀ a, b.H0 a ≠ none → b.S0 a = none → S a = none
theorem Rel.bok {K : Frg} {mg : Mg} {hx : Hx} {b : Bs} {S H : Hp} {ρ : Sl} {σ : L2.St} (R : Rel K mg hx b S ρ σ H) : Bok b S H := ⟨R.s0, R.sh, R.h0, R.nw⟩
def PoS (K : Frg) (mg : Mg) (hx : Hx) (W : WX) (b : Bs) (S : Hp) (o : Out) (D : Ends) : Prop := match o with
  | .nx ρ => ∀ S' σ H, Same S S' → Rel K mg hx b S' ρ σ H → D.nx σ H
  | .ret d => ∀ S' H v, Bok b S' H → Rp K mg S' v d → D.rt v H
  | .bk ρ => ∀ S' σ H, Same S S' → Rel K mg hx b S' ρ σ H → D.bk σ H
  | .ct ρ => ∀ S' σ H, Same S S' → Rel K mg hx b S' ρ σ H → D.ct σ H
  | .exc x fs ρ => ∀ S' σ H C dx, Same S S' → Rel K mg hx b S' ρ σ H → mg x = some (.ref C) → Xd K mg S' H dx fs → W (.ref C) dx σ H
  | .bad => False
def tS (K : Frg) (mg : Mg) (hx : Hx) (W : WX) (g : Sl → Out) : TS := fun D σ H => ∃ b S ρ, Rel K mg hx b S ρ σ H ∧ PoS K mg hx W b S (g ρ) D
abbrev MS (X : Cx) (hx : Hx) (W : WX) (st : Stmt) (g : Sl → Out) : Prop := PS X st (tS X.K X.mg hx W g)
abbrev MSs (X : Cx) (hx : Hx) (W : WX) (st : List Stmt) (g : Sl → Out) : Prop := PSs X st (tS X.K X.mg hx W g)
theorem PoS.up {K : Frg} {mg : Mg} {hx : Hx} {W : WX} {b : Bs} {S S1 : Hp} {o : Out} {D : Ends} (e : Same S S1) (h : PoS K mg hx W b S o D) : PoS K mg hx W b S1 o D := by
  cases o with
  | nx ρ => exact fun S' σ H q => h S' σ H (e.trans q)
  | ret d => exact h
  | bk ρ => exact fun S' σ H q => h S' σ H (e.trans q)
  | ct ρ => exact fun S' σ H q => h S' σ H (e.trans q)
  | exc x fs ρ => exact fun S' σ H C dx q => h S' σ H C dx (e.trans q)
  | bad => exact h
/-- an expression's result, then k -/
def rS {α : Type} (r : Res α) (ρ : Sl) (k : α → Out) : Out := match r with
  | .ok a => k a
  | .exc x fs => .exc x fs ρ
  | .bad => .bad
@[simp] theorem rS_ok {α : Type} (a : α) (ρ : Sl) (k : α → Out) : rS (.ok a) ρ k = k a := rfl
@[simp] theorem rS_exc {α : Type} (x : Str) (fs) (ρ : Sl) (k : α → Out) : rS (.exc x fs) ρ k = .exc x fs ρ := rfl
@[simp] theorem rS_bad {α : Type} (ρ : Sl) (k : α → Out) : rS .bad ρ k = .bad := rfl
theorem rS_po {α β : Type} {K : Frg} {mg : Mg} {hx : Hx} {RX : RR α β} {W : WX} {b : Bs} {S H : Hp} {ρ : Sl} {σ : L2.St} {r : Res β} {k : β → Out} {D : Ends} {Q : α → Hp → Prop} (R : Rel K mg hx b S ρ σ H) (h : PoS K mg hx W b S (rS r ρ k) D)
    (n : ∀ d v S' H', Gr S H S' H' → RX H S' H' v d → PoS K mg hx W b S (k d) D → Q v H') : Po K mg RX W S σ H r Q := by
  cases r with
  | ok d => exact fun v S' H' g q => n d v S' H' g q h
  | exc x fs => exact fun S' H' C dx g q1 q2 => h S' σ H' C dx g.s (R.grow g) q1 q2
  | bad => exact h
@[simp] def gSeq (g h : Sl → Out) (ρ : Sl) : Out := match g ρ with
  | .nx ρ' => h ρ'
  | o => o
@[simp] def gNil (ρ : Sl) : Out := .nx ρ
@[simp] def gIf (t : Sl → Res Bool) (g h : Sl → Out) (ρ : Sl) : Out := rS (t ρ) ρ fun b => if b then g ρ else h ρ
@[simp] def gRet (f : Sl → Res D) (ρ : Sl) : Out := rS (f ρ) ρ .ret
@[simp] def gRetN (_ : Sl) : Out := .ret .non
@[simp] def gBk (ρ : Sl) : Out := .bk ρ
@[simp] def gCt (ρ : Sl) : Out := .ct ρ
@[simp] def gDrop (f : Sl → Res D) (ρ : Sl) : Out := rS (f ρ) ρ fun _ => .nx ρ
/-- i = f -/
@[simp] def gSet (i : Nat) (f : Sl → Res D) (ρ : Sl) : Out := rS (f ρ) ρ fun d => .nx (ρ.set i (.v d))
/-- i = f, a new list that i alone holds -/
@[simp] def gSetO (i : Nat) (f : Sl → Res (List D)) (ρ : Sl) : Out := rS (f ρ) ρ fun d => .nx (ρ.set i (.o d))
/-- the list of slot i is shared from here on (no statement of the text) -/
@[simp] def gFrz (i : Nat) (g : Sl → Out) (ρ : Sl) : Out := match ρ[i]? with
  | some (.o ds) => g (ρ.set i (.v (.lst ds)))
  | some (.v _) => g ρ
  | _ => .bad
section
variable {X : Cx} {hx : Hx} {W : WX} {st : Stmt} {rest body : List Stmt} {g h : Sl → Out} {e c : Expr} {f : Sl → Res D} {pos : Pos}
theorem ms_nil : MSs X hx W [] gNil := pss_imp pss_nil fun D σ H ⟨b, S, ρ, R, q⟩ => q S σ H (Same.refl _) R
theorem ms_pass : MS X hx W (.Pass pos) gNil := ps_imp ps_pass fun D σ H ⟨b, S, ρ, R, q⟩ => q S σ H (Same.refl _) R
theorem ms_bk : MS X hx W (.Break pos) gBk := ps_imp ps_break fun D σ H ⟨b, S, ρ, R, q⟩ => q S σ H (Same.refl _) R
theorem ms_ct : MS X hx W (.Continue pos) gCt := ps_imp ps_continue fun D σ H ⟨b, S, ρ, R, q⟩ => q S σ H (Same.refl _) R
theorem ms_cons (h1 : MS X hx W st g) (h2 : MSs X hx W rest h) : MSs X hx W (st :: rest) (gSeq g h) := pss_imp (pss_cons h1 h2) fun D σ H ⟨b, S, ρ, R, q⟩ => by
  refine ⟨b, S, ρ, R, ?_⟩
  unfold gSeq at q
  cases e : g ρ with
  | nx ρ' => rw [e] at q; exact fun S' σ' H' s1 R' => ⟨b, S', ρ', R', PoS.up s1 q⟩
  | ret d => rw [e] at q; exact q
  | bk ρ' => rw [e] at q; exact q
  | ct ρ' => rw [e] at q; exact q
  | exc x fs ρ' => rw [e] at q; exact q
  | bad => rw [e] at q; exact q
theorem ms_one (h1 : MS X hx W st g) : MSs X hx W [st] g := pss_one h1
theorem ms_frz (i : Nat) (h1 : MSs X hx W rest g) : MSs X hx W rest (gFrz i g) := pss_imp h1 fun D σ H ⟨b, S, ρ, R, q⟩ => by
  unfold gFrz at q
  split at q
  · rename_i ds e
    obtain ⟨S', s1, R'⟩ := R.freeze e
    exact ⟨b, S', _, R', PoS.up s1 q⟩
  · exact ⟨b, S, ρ, R, q⟩
  · exact q.elim
theorem ms_if {t : Sl → Res Bool} {a1 a2 : List Stmt} (hc : MT X hx W c t) (h1 : MSs X hx W a1 g) (h2 : MSs X hx W a2 h) : MS X hx W (.If c a1 a2 pos) (gIf t g h) := ps_imp (ps_if hc h1 h2) fun D σ H ⟨b, S, ρ, R, q⟩ =>
  ⟨b, S, ρ, R, rS_po R q fun d v S1 H1 g1 r1 k => by
    cases r1
    cases d with
    | true => exact iteT ⟨b, S1, ρ, R.grow g1, PoS.up g1.s k⟩
    | false => exact iteF ⟨b, S1, ρ, R.grow g1, PoS.up g1.s k⟩⟩
theorem ms_ret (he : ME X hx W e f) : MS X hx W (.Return (some e) pos) (gRet f) := ps_imp (ps_ret he) fun D σ H ⟨b, S, ρ, R, q⟩ =>
  ⟨b, S, ρ, R, rS_po R q fun d v S1 H1 g1 r1 k => k S1 H1 v (R.grow g1).bok r1⟩
theorem ms_retN : MS X hx W (.Return none pos) gRetN := ps_imp ps_retN fun D σ H ⟨b, S, ρ, R, q⟩ => q S H .non R.bok .non
theorem ms_drop (he : MR X hx W e f) (hs : swapsWith e none pos.line X.env = pure false := by rfl) : MS X hx W (.Expr e pos) (gDrop f) := ps_imp (ps_expr he hs) fun D σ H ⟨b, S, ρ, R, q⟩ =>
  ⟨b, S, ρ, R, rS_po R q fun d v S1 H1 g1 r1 k => k S1 σ H1 g1.s (R.grow g1)⟩
theorem ms_doc {x j pos'} : MS X hx W (.Expr (.Constant (.str x) j pos) pos') gNil := ps_imp ps_doc fun D σ H ⟨b, S, ρ, R, q⟩ => q S σ H (Same.refl _) R
theorem ms_set (i : Nat) {x : Str} {pos' : Pos} (hN : X.N.Nodup) (he : ME X hx W e f) (hi : X.N[i]? = some x := by rfl) (hl : Loc X.env.scope x := by first | exact Or.inl rfl | exact Or.inr rfl) (hs : swapsWith e (some (.Name x pos')) pos.line X.env = pure false := by rfl) (hf : X.fn x = true ∨ X.env.scope.names.lookup x = some .local := by first | exact .inl rfl | exact .inr rfl | assumption) :
    MS X hx W (.Assign [.Name x pos'] e pos) (gSet i f) := ps_imp (ps_set hN hi hl he hs hf) fun D σ H ⟨b, S, ρ, R, q⟩ =>
  ⟨b, S, ρ, R, rS_po R q fun d v S1 H1 g1 r1 k => k S1 _ H1 g1.s ((R.grow g1).put r1)⟩
theorem Rel.putN {K : Frg} {mg : Mg} {hx : Hx} {b : Bs} {S H S1 H1 : Hp} {ρ : Sl} {σ : L2.St} (R : Rel K mg hx b S ρ σ H) (g1 : Gr S H S1 H1) {i : Nat} {p : Addr} {vs : List V} {ds : List D} (h2 : H p = none) (h3 : S1 p = none) (h4 : H1 p = some (.lst vs)) (h5 : RpA K mg S1 vs ds) : Rel K mg hx b S1 (ρ.set i (.o ds)) (σ.set i (some (.ref p))) H1 :=
  (R.grow g1).putO h4 h3 (same_none R.h0 h2) (fun j es e1 e2 => by
    obtain ⟨p', vs', q1, q2, _⟩ := R.own j es e1
    rw [e2] at q1
    cases q1
    rw [h2] at q2
    cases q2) h5
theorem ms_setO (i : Nat) {ff : Sl → Res (List D)} {x : Str} {pos' : Pos} (hN : X.N.Nodup) (he : MF X hx W e ff) (hi : X.N[i]? = some x := by rfl) (hl : Loc X.env.scope x := by first | exact Or.inl rfl | exact Or.inr rfl) (hs : swapsWith e (some (.Name x pos')) pos.line X.env = pure false := by rfl) (hf : X.fn x = true ∨ X.env.scope.names.lookup x = some .local := by first | exact .inl rfl | exact .inr rfl | assumption) :
    MS X hx W (.Assign [.Name x pos'] e pos) (gSetO i ff) := ps_imp (ps_set hN hi hl he hs hf) fun D σ H ⟨b, S, ρ, R, q⟩ =>
  ⟨b, S, ρ, R, rS_po R q fun d v S1 H1 g1 ⟨p, vs, h1, h2, h3, h4, h5⟩ k => by
    subst h1
    exact k S1 _ H1 g1.s (R.putN g1 h2 h3 h4 h5)⟩
end

/-! ### targets -/
abbrev FG := D → Sl → Option Sl
def AgreeOff (is : List Nat) (σ σ' : L2.St) : Prop := σ'.length = σ.length ∧ ∀ i, i ∉ is → σ'[i]? = σ[i]?
def gG (K : Frg) (mg : Mg) (hx : Hx) (is : List Nat) (g : FG) : TG := fun v σ H Q => ∃ b S ρ d, Rel K mg hx b S ρ σ H ∧ Rp K mg S v d ∧ match g d ρ with
  | some ρ' => ∀ σ', Rel K mg hx b S ρ' σ' H → AgreeOff is σ σ' → Q σ' H
  | _ => False
abbrev MG (X : Cx) (hx : Hx) (tg : Expr) (is : List Nat) (g : FG) : Prop := PG X tg (gG X.K X.mg hx is g)
@[simp] def gName (i : Nat) : FG := fun d ρ => some (ρ.set i (.v d))
/-- a tuple's targets, from the left -/
abbrev FGs := List D → Sl → Option Sl
def gGs (K : Frg) (mg : Mg) (hx : Hx) (is : List Nat) (g : FGs) : TGs := fun vs σ H Q => ∃ b S ρ ds, Rel K mg hx b S ρ σ H ∧ RpA K mg S vs ds ∧ match g ds ρ with
  | some ρ' => ∀ σ', Rel K mg hx b S ρ' σ' H → AgreeOff is σ σ' → Q σ' H
  | _ => False
abbrev MGs (X : Cx) (hx : Hx) (tg : List Expr) (is : List Nat) (g : FGs) : Prop := PGs X tg (gGs X.K X.mg hx is g)
@[simp] def gsNil : FGs := fun ds ρ => match ds with
  | [] => some ρ
  | _ => none
@[simp] def gsCons (g : FG) (h : FGs) : FGs := fun ds ρ => match ds with
  | d :: r => (g d ρ).bind fun ρ1 => h r ρ1
  | _ => none
@[simp] def gTup (n : Nat) (h : FGs) : FG := fun d ρ => match d with
  | .tup ds => if ds.length = n then h ds ρ else none
  | _ => none
section
variable {X : Cx} {hx : Hx} {pos : Pos}
theorem agree_set {i : Nat} {σ : L2.St} {v : Option V} : AgreeOff [i] σ (σ.set i v) := ⟨by simp, fun j h => by rw [List.getElem?_set_ne (by simpa [eq_comm] using h)]⟩
theorem agree_trans {is js : List Nat} {a b c : L2.St} (h : AgreeOff is a b) (k : AgreeOff js b c) : AgreeOff (is ++ js) a c := ⟨k.1.trans h.1, fun i hi => by
  simp only [List.mem_append, not_or] at hi
  exact (k.2 i hi.2).trans (h.2 i hi.1)⟩
theorem mg_name (i : Nat) {x : Str} (hN : X.N.Nodup) (hi : X.N[i]? = some x := by rfl) (hl : Loc X.env.scope x := by first | exact Or.inl rfl | exact Or.inr rfl) (hf : X.fn x = true ∨ X.env.scope.names.lookup x = some .local := by first | exact .inl rfl | exact .inr rfl | assumption) : MG X hx (.Name x pos) [i] (gName i) :=
  pg_imp (pg_name hN hi hl hf) fun v σ H Q ⟨b, S, ρ, d, R, r, q⟩ => q _ (R.put r) agree_set
theorem pgs_imp {X : Cx} {es : List Expr} {t t' : TGs} (h : PGs X es t) (i : ∀ vs σ H Q, t' vs σ H Q → t vs σ H Q) : PGs X es t' := ⟨fun pins s σ H v u Q I r q => h.run pins s σ H v u Q I r (i v σ H Q q)⟩
theorem mgs_nil : MGs X hx [] [] gsNil := pgs_imp pgs_nil fun vs σ H Q ⟨b, S, ρ, ds, R, r, q⟩ => by
  cases r with
  | nil => exact ⟨rfl, q σ R ⟨rfl, fun _ _ => rfl⟩⟩
  | cons _ _ => exact q.elim
theorem mgs_cons {e : Expr} {es : List Expr} {is js : List Nat} {g : FG} {h : FGs} (h1 : MG X hx e is g) (h2 : MGs X hx es js h) (hs : (assignEach (e :: es) X.env).map (·.2) = assign e X.env :: (assignEach es X.env).map (·.2) := by rfl) : MGs X hx (e :: es) (is ++ js) (gsCons g h) :=
  pgs_imp (pgs_cons h1 h2 hs) fun vs σ H Q ⟨b, S, ρ, ds, R, r, q⟩ => by
    cases r with
    | nil => exact q.elim
    | @cons v vs d ds r1 r2 =>
      refine ⟨v, vs, rfl, b, S, ρ, d, R, r1, ?_⟩
      simp only [gsCons] at q
      cases e : g d ρ with
      | some ρ1 =>
        rw [e] at q
        exact fun σ1 R1 a1 => ⟨b, S, ρ1, ds, R1, r2, by
          simp only [Option.bind_some] at q
          split at q
          · exact fun σ2 R2 a2 => q σ2 R2 (agree_trans a1 a2)
          · exact q.elim⟩
      | none => rw [e] at q; exact q.elim
theorem mg_tup {es : List Expr} {k : Nat} {is : List Nat} {t : FGs} {n : Nat} (hc : X.calm = true) (h : MGs X hx es is t) (hn : (assignEach es X.env).length = n := by rfl) (hst : (assignEach es X.env).findIdx? (·.1) = none := by rfl) : MG X hx (.Tuple es k pos) is (gTup n t) :=
  pg_imp (pg_tup hc h hn hst) fun v σ H Q ⟨b, S, ρ, d, R, r, q⟩ => by
    cases r with
    | @tup a xs ds h1 h2 =>
      by_cases hl : ds.length = n
      · have e : gTup n t (.tup ds) ρ = t ds ρ := if_pos hl
        rw [e] at q
        exact ⟨a, xs, rfl, same_t R.sh h1, by rw [h2.len]; exact hl, b, S, ρ, ds, R, h2, q⟩
      · have e : gTup n t (.tup ds) ρ = none := if_neg hl
        rw [e] at q
        exact q.elim
    | _ => exact q.elim
/-- a, b = e -/
@[simp] def gAsg (g : FG) (f : Sl → Res D) (ρ : Sl) : Out := rS (f ρ) ρ fun d => match g d ρ with
  | some ρ' => .nx ρ'
  | none => .bad
theorem ms_asg {W : WX} {tg e : Expr} {is : List Nat} {g : FG} {f : Sl → Res D} (he : ME X hx W e f) (hg : MG X hx tg is g) (hs : swapsWithSole [tg] e pos.line X.env = pure false := by rfl) (hw : swappedStores [tg] e X.env = pure none := by rfl)
    (h1 : (assignEach [tg] X.env).map (·.2) = [assign tg X.env] := by rfl) : MS X hx W (.Assign [tg] e pos) (gAsg g f) := ps_imp (ps_asg he hg hs hw h1) fun D σ H ⟨b, S, ρ, R, q⟩ =>
  ⟨b, S, ρ, R, rS_po R q fun d v S1 H1 g1 r1 k => by
    refine ⟨b, S1, ρ, d, R.grow g1, r1, ?_⟩
    cases e : g d ρ with
    | some ρ' => rw [e] at k; exact fun σ' R' _ => k S1 σ' H1 g1.s R'
    | none => rw [e] at k; exact k⟩
end
end PF

set_option Elab.async false
set_option linter.all false
set_option maxRecDepth 100000
set_option maxHeartbeats 4000000
namespace PF
open PySem PySem.Spec L2

/-! ### lists that a slot alone holds -/
@[simp] def gApp (i : Nat) (f : Sl → Res D) (ρ : Sl) : Out := match ρ[i]? with
  | some (.o ds) => rS (f ρ) ρ fun d => if ds.length < 16777216 then .nx (ρ.set i (.o (ds ++ [d]))) else .bad
  | _ => .bad
@[simp] def gSto (i : Nat) (fi f : Sl → Res D) (ρ : Sl) : Out := match ρ[i]? with
  | some (.o ds) => rS (f ρ) ρ fun d => rS (fi ρ) ρ fun k => match k with
    | .int n => match ixN ds.length n with
      | some j => .nx (ρ.set i (.o (ds.set j d)))
      | none => .bad
    | _ => .bad
  | _ => .bad
@[simp] noncomputable def gPopAt (j i : Nat) (f : Sl → Res D) (ρ : Sl) : Out := match ρ[i]? with
  | some (.o ds) => rS (f ρ) ρ fun k => match k with
    | .int n => if cb (-(2 ^ 63) ≤ n ∧ n < 2 ^ 63) then (match seqIndex? n ds.length with
      | some m => match ds[m]? with
        | some d => .nx ((ρ.set i (.o (ds.eraseIdx m))).set j (.v d))
        | none => .bad
      | none => .bad) else .bad
    | _ => .bad
  | _ => .bad
@[simp] def gAug (i : Nat) (g : D → D → Res D) (f : Sl → Res D) (ρ : Sl) : Out := match ρ[i]? with
  | some (.v x) => rS (f ρ) ρ fun y => rS (g x y) ρ fun z => .nx (ρ.set i (.v z))
  | _ => .bad
theorem size16 {n : Nat} (h : n < 16777216) : n < sizeLine := by rw [sizeLine_eq]; exact h
section
variable {X : Cx} {hx : Hx} {W : WX} {e c o : Expr} {f : Sl → Res D} {pos : Pos}
theorem ms_app (i : Nat) {x : Str} {p ap ep : Pos} (hv : PE X (.Name x p) (tVar i)) (he : ME X hx W e f) (hs : swapsWith (.Call (.Attribute (.Name x p) "append" ap) [e] [] ep) none pos.line X.env = pure false := by rfl)
    (h : ∀ {t}, PE X e t → PE X (.Call (.Attribute (.Name x p) "append" ap) [e] [] ep) (tBM X.K "list" rAppend (tVar i) (tCons t tNil)) := by
      intro t ht; exact pe_bm PySem.F.plainAttrs_list PySem.F.slot_list_append PySem.F.type_list_append mt_append (pv _) (pa_cons ht pa_nil)) :
    MS X hx W (.Expr (.Call (.Attribute (.Name x p) "append" ap) [e] [] ep) pos) (gApp i f) := ps_imp (ps_expr (h he) hs) fun D σ H ⟨b, S, ρ, R, q⟩ => by
  unfold gApp at q
  split at q
  · rename_i ds e1
    obtain ⟨p, vs, h1, h2, h3, h4, h5⟩ := R.own i ds e1
    refine ⟨_, h1, .inl ⟨rfl, _, SqL.of h2⟩, b, S, ρ, R, rS_po R q fun d v S1 H1 g1 r1 k => ?_⟩
    split at k
    · rename_i hl
      refine ⟨p, vs, v, rfl, rfl, g1.h _ _ h2, size16 (by rw [h5.len]; exact hl), ?_⟩
      exact k S1 σ _ g1.s ((R.grow g1).mut e1 h1 ((h5.up g1.s _ _).app (.cons r1 .nil)))
    · exact k.elim
  · exact q.elim
theorem ms_sto (i : Nat) {x : Str} {ix : Expr} {fi : Sl → Res D} {p sp : Pos} (hv : PE X (.Name x p) (tVar i)) (hi : ME X hx W ix fi) (he : ME X hx W e f)
    (ha : ∀ v, assign (.Subscript (.Name x p) ix sp) X.env v = (do
      let ov ← holding [v] (eval (.Name x p) X.env)
      let iv ← holding [v, ov] (eval ix X.env)
      standAt sp
      holding [v, ov, iv] (setItem ov iv v)
      release [v, ov, iv] []) := by intro _; rfl)
    (hs : swapsWithSole [.Subscript (.Name x p) ix sp] e pos.line X.env = pure false := by rfl) (hw : swappedStores [.Subscript (.Name x p) ix sp] e X.env = pure none := by rfl)
    (h1 : (assignEach [.Subscript (.Name x p) ix sp] X.env).map (·.2) = [assign (.Subscript (.Name x p) ix sp) X.env] := by rfl) :
    MS X hx W (.Assign [.Subscript (.Name x p) ix sp] e pos) (gSto i fi f) := ps_imp (ps_asg he (pg_sub hv hi set_list ha) hs hw h1) fun D σ H ⟨b, S, ρ, R, q⟩ => by
  unfold gSto at q
  split at q
  · rename_i ds e1
    obtain ⟨p, vs, h1, h2, h3, h4, h5⟩ := R.own i ds e1
    refine ⟨b, S, ρ, R, rS_po R q fun d v S1 H1 g1 r1 k => ?_⟩
    refine ⟨_, h1, b, S1, ρ, R.grow g1, rS_po (R.grow g1) (PoS.up g1.s k) fun d2 v2 S2 H2 g2 r2 k2 => ?_⟩
    cases d2 with
    | int n =>
      cases r2
      simp only at k2
      split at k2
      · rename_i j hj
        have g := g1.trans g2
        refine ⟨p, vs, n, j, rfl, rfl, g.h _ _ h2, by rw [h5.len]; exact hj, ?_⟩
        exact k2 S2 σ _ g2.s ((R.grow g).mut e1 h1 ((h5.up g.s _ _).set (r1.up g2.s _ _) j))
      · exact k2.elim
    | _ => exact k2.elim
  · exact q.elim
theorem ms_popAt (j i : Nat) {y x : Str} {p py ap ep : Pos} (hN : X.N.Nodup) (hv : PE X (.Name x p) (tVar i)) (he : ME X hx W e f) (hi : X.N[j]? = some y := by rfl) (hl : Loc X.env.scope y := by first | exact Or.inl rfl | exact Or.inr rfl)
    (hs : swapsWith (.Call (.Attribute (.Name x p) "pop" ap) [e] [] ep) (some (.Name y py)) pos.line X.env = pure false := by rfl) (hf : X.fn y = true ∨ X.env.scope.names.lookup y = some .local := by first | exact .inl rfl | exact .inr rfl | assumption)
    (h : ∀ {t}, PE X e t → PE X (.Call (.Attribute (.Name x p) "pop" ap) [e] [] ep) (tBM X.K "list" rPopAt (tVar i) (tCons t tNil)) := by
      intro t ht; exact pe_bm PySem.F.plainAttrs_list PySem.F.slot_list_pop PySem.F.type_list_pop mt_popAt (pv _) (pa_cons ht pa_nil)) :
    MS X hx W (.Assign [.Name y py] (.Call (.Attribute (.Name x p) "pop" ap) [e] [] ep) pos) (gPopAt j i f) := ps_imp (ps_set hN hi hl (h he) hs hf) fun D σ H ⟨b, S, ρ, R, q⟩ => by
  unfold gPopAt at q
  split at q
  · rename_i ds e1
    obtain ⟨p, vs, h1, h2, h3, h4, h5⟩ := R.own i ds e1
    refine ⟨_, h1, .inl ⟨rfl, _, SqL.of h2⟩, b, S, ρ, R, rS_po R q fun d v S1 H1 g1 r1 k => ?_⟩
    cases d with
    | int n =>
      cases r1
      simp only at k
      split at k
      · rename_i hb0
        have hb := of_cb hb0
        split at k
        · rename_i m hm
          split at k
          · rename_i d hd
            obtain ⟨u, hu, ru⟩ := (h5.up g1.s _ _).get hd
            refine ⟨p, vs, n, m, u, rfl, rfl, g1.h _ _ h2, hb.1, hb.2, by rw [h5.len]; exact hm, hu, ?_⟩
            exact k S1 _ _ g1.s (((R.grow g1).mut e1 h1 ((h5.up g1.s _ _).erase m)).put ru)
          · exact k.elim
        · exact k.elim
      · exact k.elim
    | _ => exact k.elim
  · exact q.elim
theorem ms_aug (i : Nat) {x : Str} {op : Operator} {ti : TIp} {g : D → D → Res D} {pos' : Pos} (hN : X.N.Nodup) (ho : PIp X op ti) (hr : O2 X.K X.mg ti g) (he : ME X hx W e f) (hi : X.N[i]? = some x := by rfl) (hl : Loc X.env.scope x := by first | exact Or.inl rfl | exact Or.inr rfl) (hf : X.fn x = true ∨ X.env.scope.names.lookup x = some .local := by first | exact .inl rfl | exact .inr rfl | assumption) :
    MS X hx W (.AugAssign (.Name x pos') op e pos) (gAug i g f) := ps_imp (ps_aug hN hi hl he ho hf) fun D σ H ⟨b, S, ρ, R, q⟩ => by
  unfold gAug at q
  split at q
  · rename_i d e1
    obtain ⟨v, h1, h2⟩ := R.val i d e1
    refine ⟨v, h1, b, S, ρ, R, rS_po R q fun d2 v2 S1 H1 g1 r1 k => ?_⟩
    refine hr S1 σ H1 v v2 d d2 W _ g1.i (Rd1.of g1.i (h2.up g1.s _ _)) (Rd1.of g1.i r1) (rS_po (R.grow g1) (PoS.up g1.s k) fun d3 v3 S3 H3 g3 r3 k3 => ?_)
    exact k3 S3 _ H3 g3.s (((R.grow g1).grow g3).put r3)
  · exact q.elim
end

/-! ### what is walked -/
structure ItD (K : Frg) (mg : Mg) (S1 : Hp) (J : It) (ds : List D) : Prop where
  go : ∀ S H i d, Same S1 S → Same S H → ds[i]? = some d → J.go i H ∧ ∀ x H', J.yld i H x H' → ∃ S', Gr S H S' H' ∧ Rp K mg S' x d
  stop : ∀ S H, Same S1 S → Same S H → J.stop ds.length H
abbrev rrI (K : Frg) (mg : Mg) : RR It (List D) := fun _ S _ J ds => ItD K mg S J ds
abbrev MI (X : Cx) (hx : Hx) (W : WX) (tg e : Expr) (f : Sl → Res (List D)) : Prop := PI X tg e (tG X.K X.mg hx (rrI X.K X.mg) W f)
theorem Po.upI {K : Frg} {mg : Mg} {W : WX} {S H S' H' : Hp} {σ : L2.St} {r : Res (List D)} {Q : It → Hp → Prop} (g : Gr S H S' H') (h : Po K mg (rrI K mg) W S σ H r Q) : Po K mg (rrI K mg) W S' σ H' r Q := h.up g fun _ _ _ _ _ q => q
section
variable {K : Frg} {mg : Mg} {S : Hp} {a : Addr} {vs : List V} {ds : List D}
theorem itd_list (h : SqL K S a vs) (r : RpA K mg S vs ds) : ItD K mg S (Itl K a) ds where
  go := fun S' H i d s1 s2 e => by
    obtain ⟨v, h1, h2⟩ := (r.up s1 _ _).get e
    have q : SqL K H a vs := same_l (s1.trans s2) h
    exact ⟨⟨vs, v, q, h1⟩, fun x H' y => ⟨S', by rw [y.1]; exact Gr.refl s2, by
      have z := y.2 vs q
      rw [h1] at z
      cases z
      exact h2⟩⟩
  stop := fun S' H s1 s2 => ⟨vs, same_l (s1.trans s2) h, by rw [r.len]; exact Nat.le_refl _⟩
theorem itd_tup (h : SqT K S a vs) (r : RpA K mg S vs ds) : ItD K mg S (Itt K a) ds where
  go := fun S' H i d s1 s2 e => by
    obtain ⟨v, h1, h2⟩ := (r.up s1 _ _).get e
    have q : SqT K H a vs := same_t (s1.trans s2) h
    exact ⟨⟨vs, v, q, h1⟩, fun x H' y => ⟨S', by rw [y.1]; exact Gr.refl s2, by
      have z := y.2 vs q
      rw [h1] at z
      cases z
      exact h2⟩⟩
  stop := fun S' H s1 s2 => ⟨vs, same_t (s1.trans s2) h, by rw [r.len]; exact Nat.le_refl _⟩
/-- lo, lo + 1, .. -/
def rngD (lo : Int) (n : Nat) : List D := (List.range n).map fun (k : Nat) => .int (lo + (k : Int))
theorem rngD_len (lo : Int) (n : Nat) : (rngD lo n).length = n := by simp [rngD]
theorem rngD_get {lo : Int} {n i : Nat} {d : D} (h : (rngD lo n)[i]? = some d) : i < n ∧ d = .int (lo + (i : Int)) := by
  unfold rngD at h
  rw [List.getElem?_map] at h
  by_cases hi : i < n
  · rw [List.getElem?_range hi] at h
    exact ⟨hi, (Option.some.inj h).symm⟩
  · rw [List.getElem?_eq_none (by simpa using hi)] at h
    cases h
theorem itd_rng (lo : Int) (n : Nat) : ItD K mg S (Itr lo n) (rngD lo n) where
  go := fun S' H i d s1 s2 e => by
    obtain ⟨h1, rfl⟩ := rngD_get e
    exact ⟨h1, fun x H' y => ⟨S', by rw [y.1]; exact Gr.refl s2, by rw [y.2]; exact .int _⟩⟩
  stop := fun S' H s1 s2 => by rw [rngD_len]; exact Nat.le_refl n
/-- the signs of a text -/
def signsD (x : Str) : List D := x.cps.toList.map fun c => .str ⟨#[c]⟩
theorem itd_str (x : Str) : ItD K mg S (Its x) (signsD x) where
  go := fun S' H i d s1 s2 e => by
    unfold signsD at e
    rw [List.getElem?_map, Array.getElem?_toList] at e
    cases q : x.cps[i]? with
    | none => rw [q] at e; cases e
    | some c =>
      rw [q] at e
      cases (Option.some.inj e)
      have hi : i < x.cps.size := (Array.getElem?_eq_some_iff.mp q).1
      refine ⟨hi, fun y H' z => ⟨S', by rw [z.1]; exact Gr.refl s2, ?_⟩⟩
      obtain ⟨_, c', h1, h2⟩ := z
      rw [q] at h1
      cases h1
      rw [h2]
      exact .str _
  stop := fun S' H s1 s2 => by
    show x.cps.size ≤ (signsD x).length
    simp [signsD]
end
section
variable {X : Cx} {hx : Hx} {W : WX} {tg e a b c : Expr} {f fa fb : Sl → Res D} {pos p : Pos}
theorem pi_or {w1 w2 : TI} (h1 : PI X tg e w1) (h2 : PI X tg e w2) : PI X tg e (fun σ H R => w1 σ H R ∨ w2 σ H R) := ⟨fun pins s σ H R I h => h.elim (h1.run pins s σ H R I) (h2.run pins s σ H R I)⟩
@[simp] def dSeq (d : D) : Res (List D) := match d with
  | .lst ds => .ok ds
  | .rol ds => .ok ds
  | .tup ds => .ok ds
  | .str x => .ok (signsD x)
  | _ => .bad
@[simp] def iSeq (f : Sl → Res D) (ρ : Sl) : Res (List D) := (f ρ).bind dSeq
theorem mi_seq (h : ME X hx W e f) : MI X hx W tg e (iSeq f) := pi_imp (pi_or (pi_list h) (pi_or (pi_tup h) (pi_str h))) fun σ H Q ⟨b, S, ρ, R, q⟩ => by
  unfold iSeq at q
  cases ef : f ρ with
  | ok d =>
    rw [ef] at q
    have go : ∀ {Q' : VK}, (∀ v S' H', Gr S H S' H' → Rp X.K X.mg S' v d → Q' v H') → tG X.K X.mg hx (rrE X.K X.mg) W f σ H Q' := fun {Q'} k => ⟨b, S, ρ, R, by rw [ef]; exact k⟩
    cases d with
    | lst ds => exact .inl (go fun v S1 H1 g1 r1 => by
        cases r1 with
        | lst h1 h2 => exact ⟨_, rfl, ⟨_, SqL.of (g1.i _ _ h1)⟩, q _ S1 H1 g1 (itd_list (SqL.of h1) h2)⟩)
    | rol ds => exact .inl (go fun v S1 H1 g1 r1 => by
        cases r1 with
        | rol h1 h2 => exact ⟨_, rfl, ⟨_, same_l g1.i h1⟩, q _ S1 H1 g1 (itd_list h1 h2)⟩)
    | tup ds => exact .inr (.inl (go fun v S1 H1 g1 r1 => by
        cases r1 with
        | tup h1 h2 => exact ⟨_, rfl, ⟨_, same_t g1.i h1⟩, q _ S1 H1 g1 (itd_tup h1 h2)⟩))
    | str x => exact .inr (.inr (go fun v S1 H1 g1 r1 => by
        cases r1 with
        | str _ => exact ⟨_, rfl, q _ S1 H1 g1 (itd_str x)⟩))
    | _ => exact q.elim
  | exc x fs =>
    rw [ef] at q
    exact .inl ⟨b, S, ρ, R, by rw [ef]; exact q⟩
  | bad => rw [ef] at q; exact q.elim
@[simp] noncomputable def gRng1 (ds : List D) : Res (List D) := match ds with
  | [.int j] => if cb (-(2 ^ 62) ≤ j ∧ j < 2 ^ 62) then .ok (rngD 0 j.toNat) else .bad
  | _ => .bad
@[simp] noncomputable def gRng2 (ds : List D) : Res (List D) := match ds with
  | [.int i, .int j] => if cb ((-(2 ^ 62) ≤ i ∧ i < 2 ^ 62) ∧ -(2 ^ 62) ≤ j ∧ j < 2 ^ 62) then .ok (rngD i (j - i).toNat) else .bad
  | _ => .bad
theorem RpA.two {K : Frg} {mg : Mg} {S : Hp} {vs : List V} {d e : D} (r : RpA K mg S vs [d, e]) : ∃ v w, vs = [v, w] ∧ Rp K mg S v d ∧ Rp K mg S w e := by
  cases r with
  | cons a t =>
    cases t with
    | cons b t => cases t; exact ⟨_, _, rfl, a, b⟩
theorem RpA.one {K : Frg} {mg : Mg} {S : Hp} {vs : List V} {d : D} (r : RpA K mg S vs [d]) : ∃ v, vs = [v] ∧ Rp K mg S v d := by
  cases r with
  | cons a t => cases t; exact ⟨_, rfl, a⟩
@[simp] noncomputable def iRg1 (fs : Sl → Res (List D)) (ρ : Sl) : Res (List D) := (fs ρ).bind gRng1
@[simp] noncomputable def iRg2 (fs : Sl → Res (List D)) (ρ : Sl) : Res (List D) := (fs ρ).bind gRng2
theorem mi_rng1 {fs : Sl → Res (List D)} (hg : Gl X "range") (hm : X.mg "range" = none) (ha : MA X hx W [a] fs) (hs : starEach [a] X.env = [(false, eval a X.env)] := by rfl) : MI X hx W tg (.Call (.Name "range" p) [a] [] pos) (iRg1 fs) :=
  pi_imp (pi_range1 hg hm ha hs) fun σ H Q ⟨b, S, ρ, R, q⟩ => ⟨b, S, ρ, R, q.bind fun d v S1 H1 g1 r1 k => by
    unfold gRng1 at k
    split at k
    · rename_i j
      obtain ⟨v1, rfl, r2⟩ := r1.one
      cases r2
      split at k
      · rename_i hb0
        have hb := of_cb hb0
        exact ⟨j, rfl, hb.1, hb.2, k _ S1 H1 g1 (itd_rng 0 _)⟩
      · exact k.elim
    · exact k.elim⟩
theorem mi_rng2 {fs : Sl → Res (List D)} (hg : Gl X "range") (hm : X.mg "range" = none) (ha : MA X hx W [a, c] fs) (hs : starEach [a, c] X.env = [(false, eval a X.env), (false, eval c X.env)] := by rfl) (hs2 : starEach [c] X.env = [(false, eval c X.env)] := by rfl) : MI X hx W tg (.Call (.Name "range" p) [a, c] [] pos) (iRg2 fs) :=
  pi_imp (pi_range2 hg hm ha hs hs2) fun σ H Q ⟨b, S, ρ, R, q⟩ => ⟨b, S, ρ, R, q.bind fun d v S1 H1 g1 r1 k => by
    unfold gRng2 at k
    split at k
    · rename_i i j
      obtain ⟨v1, v2, rfl, r2, r3⟩ := r1.two
      cases r2
      cases r3
      split at k
      · rename_i hb0
        have hb := of_cb hb0
        exact ⟨i, j, rfl, ⟨hb.1.1, hb.1.2, hb.2.1, hb.2.2⟩, k _ S1 H1 g1 (itd_rng i _)⟩
      · exact k.elim
    · exact k.elim⟩
end

/-! ### for, while -/
def forRun (g : FG) (body : Sl → Out) : List D → Sl → Out
  | [], ρ => .nx ρ
  | d :: ds, ρ => match g d ρ with
    | some ρ1 => match body ρ1 with
      | .nx ρ2 => forRun g body ds ρ2
      | .ct ρ2 => forRun g body ds ρ2
      | .bk ρ2 => .nx ρ2
      | .ret d => .ret d
      | .exc x fs ρ2 => .exc x fs ρ2
      | .bad => .bad
    | none => .bad
@[simp] def gFor (items : Sl → Res (List D)) (g : FG) (body : Sl → Out) (ρ : Sl) : Out := rS (items ρ) ρ fun ds => forRun g body ds ρ
def whRun (t : Sl → Res Bool) (body : Sl → Out) : Nat → Sl → Out
  | 0, _ => .bad
  | n + 1, ρ => rS (t ρ) ρ fun b => if b then (match body ρ with
      | .nx ρ2 => whRun t body n ρ2
      | .ct ρ2 => whRun t body n ρ2
      | .bk ρ2 => .nx ρ2
      | .ret d => .ret d
      | .exc x fs ρ2 => .exc x fs ρ2
      | .bad => .bad) else .nx ρ
def gWh (fuel : Sl → Nat) (t : Sl → Res Bool) (body : Sl → Out) (ρ : Sl) : Out := whRun t body (fuel ρ) ρ
section
variable {X : Cx} {hx : Hx} {W : WX} {tg e c : Expr} {body : List Stmt} {pos : Pos}
theorem ms_for {is : List Nat} {items : Sl → Res (List D)} {g : FG} {gb : Sl → Out} (hp : PassesOwn (model X.prog X.w) X.A X.env X.xe) (hc : X.calm = true) (hi : MI X hx W tg e items) (hg : MG X hx tg is g) (hb : MSs X hx W body gb)
    (hs : ∀ x, foldedSetIterable e X.env x = pure x := by intro _; rfl) : MS X hx W (.For tg e body [] pos) (gFor items g gb) := ps_imp (ps_for hp hc hi hg hb hs) fun D σ H ⟨b, S, ρ, R, q⟩ =>
  ⟨b, S, ρ, R, rS_po R q fun ds J S1 H1 g1 r1 k => by
    refine ⟨fun i m σ' H' => m = ds.length - i ∧ i ≤ ds.length ∧ ∃ S' ρ', Same S1 S' ∧ Rel X.K X.mg hx b S' ρ' σ' H' ∧ PoS X.K X.mg hx W b S' (forRun g gb (ds.drop i) ρ') D, ⟨ds.length, rfl, Nat.zero_le _, S1, ρ, Same.refl _, R.grow g1, PoS.up g1.s k⟩, ?_⟩
    rintro i m σ' H' ⟨rfl, hi, S', ρ', s1, R', k'⟩
    by_cases hlt : i < ds.length
    · have ed : ds.drop i = ds[i] :: ds.drop (i + 1) := List.drop_eq_getElem_cons hlt
      obtain ⟨go, yl⟩ := r1.go S' H' i ds[i] s1 R'.sh (List.getElem?_eq_getElem hlt)
      refine .inr ⟨go, fun σ2 H2 => ∃ S2 ρ2, Same S1 S2 ∧ Rel X.K X.mg hx b S2 ρ2 σ2 H2 ∧ PoS X.K X.mg hx W b S2 (forRun g gb (ds.drop (i + 1)) ρ2) D, fun σ2 H2 w => ⟨ds.length - (i + 1), by omega, rfl, hlt, w⟩, fun x H2 y => ?_⟩
      obtain ⟨S2, g2, r2⟩ := yl x H2 y
      refine ⟨b, S2, ρ', ds[i], R'.grow g2, r2, ?_⟩
      rw [ed] at k'
      unfold forRun at k'
      cases eg : g ds[i] ρ' with
      | none => rw [eg] at k'; exact k'.elim
      | some ρ1 =>
        rw [eg] at k'
        intro σ3 R3 _
        refine ⟨b, S2, ρ1, R3, ?_⟩
        simp only at k'
        cases eb : gb ρ1 with
        | nx ρ2 => rw [eb] at k'; exact fun S4 σ4 H4 s4 R4 => ⟨S4, ρ2, (s1.trans g2.s).trans s4, R4, PoS.up (g2.s.trans s4) k'⟩
        | ct ρ2 => rw [eb] at k'; exact fun S4 σ4 H4 s4 R4 => ⟨S4, ρ2, (s1.trans g2.s).trans s4, R4, PoS.up (g2.s.trans s4) k'⟩
        | bk ρ2 => rw [eb] at k'; exact fun S4 σ4 H4 s4 R4 => k' S4 σ4 H4 (g2.s.trans s4) R4
        | ret d => rw [eb] at k'; exact k'
        | exc x fs ρ2 => rw [eb] at k'; exact PoS.up g2.s k'
        | bad => rw [eb] at k'; exact k'.elim
    · have ei : i = ds.length := by omega
      subst ei
      rw [List.drop_length] at k'
      exact .inl ⟨r1.stop S' H' s1 R'.sh, k' S' σ' H' (Same.refl _) R'⟩⟩
theorem ms_while {t : Sl → Res Bool} {gb : Sl → Out} (fuel : Sl → Nat) (hp : PassesOwn (model X.prog X.w) X.A X.env X.xe) (hc : MT X hx W c t) (hb : MSs X hx W body gb) : MS X hx W (.While c body [] pos) (gWh fuel t gb) := ps_imp (ps_while hp hc hb) fun D σ H ⟨b, S, ρ, R, q⟩ => by
  refine ⟨fun m σ' H' => ∃ S' ρ', Same S S' ∧ Rel X.K X.mg hx b S' ρ' σ' H' ∧ PoS X.K X.mg hx W b S' (whRun t gb m ρ') D, ⟨fuel ρ, S, ρ, Same.refl _, R, q⟩, ?_⟩
  rintro m σ' H' ⟨S', ρ', s1, R', k'⟩
  cases m with
  | zero => exact k'.elim
  | succ m =>
    refine ⟨b, S', ρ', R', rS_po R' k' fun d v S1 H1 g1 r1 k => ?_⟩
    cases r1
    cases d with
    | false => exact iteF (k S1 σ' H1 g1.s (R'.grow g1))
    | true =>
      refine iteT ⟨fun σ2 H2 => ∃ S2 ρ2, Same S S2 ∧ Rel X.K X.mg hx b S2 ρ2 σ2 H2 ∧ PoS X.K X.mg hx W b S2 (whRun t gb m ρ2) D, fun σ2 H2 w => ⟨m, Nat.lt_succ_self _, w⟩, b, S1, ρ', R'.grow g1, ?_⟩
      simp only [if_true] at k
      cases eb : gb ρ' with
      | nx ρ2 => rw [eb] at k; exact fun S4 σ4 H4 s4 R4 => ⟨S4, ρ2, (s1.trans g1.s).trans s4, R4, PoS.up (g1.s.trans s4) k⟩
      | ct ρ2 => rw [eb] at k; exact fun S4 σ4 H4 s4 R4 => ⟨S4, ρ2, (s1.trans g1.s).trans s4, R4, PoS.up (g1.s.trans s4) k⟩
      | bk ρ2 => rw [eb] at k; exact fun S4 σ4 H4 s4 R4 => k S4 σ4 H4 (g1.s.trans s4) R4
      | ret d => rw [eb] at k; exact k
      | exc x fs ρ2 => rw [eb] at k; exact PoS.up g1.s k
      | bad => rw [eb] at k; exact k.elim
end

/-! ### comprehensions -/
@[simp] def wipeS (ρ : Sl) : List Nat → Sl
  | [] => ρ
  | v :: vs => (wipeS ρ vs).set v .e
theorem Rel.wipeL {K : Frg} {mg : Mg} {hx : Hx} {b : Bs} {S H : Hp} {ρ : Sl} {σ : L2.St} (R : Rel K mg hx b S ρ σ H) : ∀ vs : List Nat, Rel K mg hx b S (wipeS ρ vs) (wipe σ vs) H
  | [] => R
  | v :: vs => (R.wipeL vs).wipe1
def Res.nx {α : Type} (r : Res α) : Res α := match r with
  | .ok a => .ok a
  | _ => .bad
def W0 : WX := fun _ _ _ _ => False
def lcRun (g : FG) (t : Sl → Res Bool) (f : Sl → Res D) (ρ : Sl) : List D → List D → Res (List D)
  | [], acc => .ok acc
  | d :: ds, acc => match g d ρ with
    | none => .bad
    | some ρ1 => (t ρ1).nx.bind fun b => if b then (f ρ1).nx.bind fun y => if acc.length < 16777216 then lcRun g t f ρ ds (acc ++ [y]) else .bad
      else lcRun g t f ρ ds acc
@[simp] def fLc (items : Sl → Res (List D)) (g : FG) (t : Sl → Res Bool) (f : Sl → Res D) (vs : List Nat) (ρ : Sl) : Res (List D) := (items ρ).bind fun ds => lcRun g t f (wipeS ρ vs) ds []
theorem wipe_get {σ : L2.St} {i : Nat} : ∀ {vs : List Nat}, i < σ.length → (wipe σ vs)[i]? = if i ∈ vs then some none else σ[i]?
  | [], _ => by simp [wipe]
  | v :: vs, h => by
    unfold wipe
    by_cases e : v = i
    · subst e
      rw [List.getElem?_set_self (by rw [wipe_length]; exact h)]
      simp
    · rw [List.getElem?_set_ne e, wipe_get (vs := vs) h]
      have : (i ∈ v :: vs) ↔ i ∈ vs := by simp [Ne.symm e]
      simp only [this]
theorem agree_wipe {is vs : List Nat} {σ σ' : L2.St} (h : AgreeOff is (wipe σ vs) σ') (hs : ∀ i ∈ is, i ∈ vs) : wipe σ' vs = wipe σ vs := by
  have hl : σ'.length = σ.length := h.1.trans (wipe_length σ vs)
  apply List.ext_getElem?
  intro i
  by_cases hi : i < σ.length
  · rw [wipe_get (by rw [hl]; exact hi), wipe_get hi]
    by_cases hm : i ∈ vs
    · simp [hm]
    · simp only [hm, if_false]
      rw [h.2 i (fun z => hm (hs i z)), wipe_get hi]
      simp [hm]
  · rw [List.getElem?_eq_none (by rw [wipe_length, hl]; omega), List.getElem?_eq_none (by rw [wipe_length]; omega)]
theorem Po.nx0 {α β : Type} {K : Frg} {mg : Mg} {R : RR α β} {W : WX} {S : Hp} {σ : L2.St} {H : Hp} {r : Res β} {Q : α → Hp → Prop} (h : Po K mg R W S σ H r.nx Q) : Po K mg R W0 S σ H r Q := by
  cases r with
  | ok d => exact h
  | exc x fs => exact h.elim
  | bad => exact h
section
variable {X : Cx} {hx : Hx} {W : WX}
abbrev MTs (X : Cx) (hx : Hx) (W : WX) (ifs : List Expr) (t : Sl → Res Bool) : Prop := PTs X ifs (tG X.K X.mg hx rrT W t)
@[simp] def tYesF (_ : Sl) : Res Bool := .ok true
theorem mts_nil : MTs X hx W [] tYesF := ⟨fun pins s σ H Q I ⟨b, S, ρ, R, q⟩ => pts_nil.run pins s σ H Q I (q true S H (Gr.refl R.sh) rfl)⟩
theorem mts_one {c : Expr} {t : Sl → Res Bool} (h : MT X hx W c t) : MTs X hx W [c] t := pts_one h
theorem lc_ok {items : Sl → Res (List D)} {g : FG} {t : Sl → Res Bool} {f : Sl → Res D} {is vs : List Nat} {K : Frg} {mg : Mg} {ts : TE} (his : ∀ i ∈ is, i ∈ vs) : ∀ σ H Q, tG K mg hx (rrF K mg) W (fLc items g t f vs) σ H Q →
    tLc (tG K mg hx (rrI K mg) W items) (gG K mg hx is g) (tG K mg hx rrT W0 t) (tG K mg hx (rrE K mg) W0 f) vs σ H Q := fun σ H Q ⟨b, S, ρ, R, q⟩ =>
  ⟨b, S, ρ, R, q.bind fun ds J S1 H1 g1 r1 k Dl hD => by
    have k1 : Po K mg (rrF K mg) W S1 σ H1 (lcRun g t f (wipeS ρ vs) ds []) Q := Po.upF g1 k
    have hS : S1 Dl = none := same_none g1.i hD
    refine ⟨fun i m H' => m = ds.length - i ∧ i ≤ ds.length ∧ ∃ S' acc vacc, Gr S1 H1 S' H' ∧ S' Dl = none ∧ H' Dl = some (.lst vacc) ∧ RpA K mg S' vacc acc ∧ Po K mg (rrF K mg) W S1 σ H1 (lcRun g t f (wipeS ρ vs) (ds.drop i) acc) Q,
      ⟨ds.length, rfl, Nat.zero_le _, S1, [], [], Gr.lay g1.i hD, hS, upd_same, .nil, k1⟩, ?_⟩
    rintro i m H' ⟨rfl, hi, S', acc, vacc, g', hS', hH', ra, k'⟩
    have R' : Rel K mg hx b S' (wipeS ρ vs) (wipe σ vs) H' := ((R.grow g1).grow g').wipeL vs
    by_cases hlt : i < ds.length
    · have ed : ds.drop i = ds[i] :: ds.drop (i + 1) := List.drop_eq_getElem_cons hlt
      obtain ⟨go, yl⟩ := r1.go S' H' i ds[i] g'.s g'.i (List.getElem?_eq_getElem hlt)
      refine .inr ⟨go, fun H2 => ∃ S2 acc2 vacc2, Gr S1 H1 S2 H2 ∧ S2 Dl = none ∧ H2 Dl = some (.lst vacc2) ∧ RpA K mg S2 vacc2 acc2 ∧ Po K mg (rrF K mg) W S1 σ H1 (lcRun g t f (wipeS ρ vs) (ds.drop (i + 1)) acc2) Q, fun H2 w => ⟨ds.length - (i + 1), by omega, rfl, hlt, w⟩, fun x H2 y => ?_⟩
      obtain ⟨S2, g2, r2⟩ := yl x H2 y
      have nD : S2 Dl = none := g2.n Dl (by rw [hH']; simp) hS'
      refine ⟨b, S2, wipeS ρ vs, ds[i], R'.grow g2, r2, ?_⟩
      rw [ed] at k'
      unfold lcRun at k'
      cases eg : g ds[i] (wipeS ρ vs) with
      | none => rw [eg] at k'; exact k'.elim
      | some ρ1 =>
        rw [eg] at k'
        intro σ3 R3 ag
        refine ⟨agree_wipe ag his, b, S2, ρ1, R3, ?_⟩
        simp only at k'
        refine Po.nx0 (W := W) ?_
        cases et : (t ρ1).nx with
        | exc x fs => cases e2 : t ρ1 <;> rw [e2] at et <;> cases et
        | bad => rw [et] at k'; exact k'.elim
        | ok bt =>
          rw [et] at k'
          intro bb S4 H4 g4 e4
          cases e4
          have gg := (g'.trans g2).trans g4
          have h4D : H4 Dl = some (.lst vacc) := g4.h _ _ (g2.h _ _ hH')
          have n4 : S4 Dl = none := g4.n Dl (by rw [g2.h _ _ hH']; simp) nD
          cases bt with
          | false => exact iteF ⟨S4, acc, vacc, gg, n4, h4D, ra.up (g2.s.trans g4.s) _ _, k'⟩
          | true =>
            refine iteT ⟨b, S4, ρ1, R3.grow g4, ?_⟩
            simp only [Res.bind_ok, if_true] at k'
            refine Po.nx0 (W := W) ?_
            cases ef : (f ρ1).nx with
            | exc x fs => cases e2 : f ρ1 <;> rw [e2] at ef <;> cases ef
            | bad => rw [ef] at k'; exact k'.elim
            | ok y =>
              rw [ef] at k'
              intro v S5 H5 g5 r5
              simp only [Res.bind_ok] at k'
              split at k'
              · rename_i hl
                have g45 := gg.trans g5
                have h5D : H5 Dl = some (.lst vacc) := g5.h _ _ h4D
                have n5 : S5 Dl = none := g5.n Dl (by rw [h4D]; simp) n4
                refine ⟨vacc, h5D, size16 (by rw [ra.len]; exact hl), S5, acc ++ [y], vacc ++ [v], ⟨g45.s, fun a o e => ?_, fun a o e => ?_, g45.n⟩, n5, upd_same, (ra.up ((g2.s.trans g4.s).trans g5.s) _ _).app (.cons r5 .nil), k'⟩
                · rw [upd_ne (fun z => by rw [z, hD] at e; cases e)]; exact g45.h a o e
                · rw [upd_ne (fun z => by rw [z, n5] at e; cases e)]; exact g45.i a o e
              · exact k'.elim
    · have ei : i = ds.length := by omega
      subst ei
      rw [List.drop_length] at k'
      exact .inl ⟨r1.stop S' H' g'.s g'.i, k' _ S' H' g' ⟨Dl, vacc, rfl, hD, hS', hH', ra⟩⟩⟩
theorem mf_lc {elt tg iter : Expr} {ifs : List Expr} {scope : Scope} {own : List (Str × Nat)} {pos : Pos} {items : Sl → Res (List D)} {is : List Nat} {g : FG} {t : Sl → Res Bool} {f : Sl → Res D} (hc : X.calm = true) (hN : X.N.Nodup) (hi : MI X hx W tg iter items) (ok : BlkOk X.N X.env.scope scope own)
    (hg : ∀ (s : Shared) (H : Hp) (C : Addr) (cl : List (Str × Addr)) (fp : List Addr), MG (X.blk s H scope (compEnvC scope cl C X.env) fp) hx tg is g) (ht : ∀ (s : Shared) (H : Hp) (C : Addr) (cl : List (Str × Addr)) (fp : List Addr), MTs (X.blk s H scope (compEnvC scope cl C X.env) fp) hx W0 ifs t)
    (he : ∀ (s : Shared) (H : Hp) (C : Addr) (cl : List (Str × Addr)) (fp : List Addr), ME (X.blk s H scope (compEnvC scope cl C X.env) fp) hx W0 elt f) (his : (is.all fun i => (own.map (·.2)).contains i) = true := by decide) (hs : ∀ x, foldedSetIterable iter X.env x = pure x := by intro _; rfl) :
    MF X hx W (.ListComp elt [⟨tg, iter, ifs, 0⟩] scope pos) (fLc items g t f (own.map (·.2))) :=
  pe_imp (pe_lc hc hN hi ok hg ht he hs) (lc_ok (ts := fun _ _ _ => True) fun i hi => by
    have h1 := List.all_eq_true.mp his i hi
    simpa using h1)
theorem ms_setLcO (i : Nat) {y : Str} {py : Pos} {elt tg iter : Expr} {ifs : List Expr} {scope : Scope} {own : List (Str × Nat)} {pos spos : Pos} {items : Sl → Res (List D)} {is : List Nat} {g : FG} {t : Sl → Res Bool} {f : Sl → Res D} (hc : X.calm = true) (hN : X.N.Nodup)
    (hsw : swapsWith (.ListComp elt [⟨tg, iter, ifs, 0⟩] scope pos) (some (.Name y py)) spos.line X.env = pure true) (hi : MI X hx W tg iter items) (ok : BlkOk X.N X.env.scope scope own)
    (hg : ∀ (s : Shared) (H : Hp) (C : Addr) (cl : List (Str × Addr)) (fp : List Addr), MG (X.blk s H scope (compEnvC scope cl C X.env) fp) hx tg is g) (ht : ∀ (s : Shared) (H : Hp) (C : Addr) (cl : List (Str × Addr)) (fp : List Addr), MTs (X.blk s H scope (compEnvC scope cl C X.env) fp) hx W0 ifs t)
    (he : ∀ (s : Shared) (H : Hp) (C : Addr) (cl : List (Str × Addr)) (fp : List Addr), ME (X.blk s H scope (compEnvC scope cl C X.env) fp) hx W0 elt f) (hy : X.N[i]? = some y := by rfl) (hyl : X.env.scope.names.lookup y = some .local := by rfl) (his : (is.all fun i => (own.map (·.2)).contains i) = true := by decide) (hs : ∀ x, foldedSetIterable iter X.env x = pure x := by intro _; rfl) :
    MS X hx W (.Assign [.Name y py] (.ListComp elt [⟨tg, iter, ifs, 0⟩] scope pos) spos) (gSetO i (fLc items g t f (own.map (·.2)))) :=
  ps_imp (ps_setLc hc hN hy hyl hsw hi ok hg ht he hs) fun D σ H ⟨b, S, ρ, R, q⟩ => lc_ok (ts := fun _ _ _ => True) (fun i hi => by
    have h1 := List.all_eq_true.mp his i hi
    simpa using h1) σ H _ ⟨b, S, ρ, R, rS_po R q fun d v S1 H1 g1 ⟨p, vs, h1, h2, h3, h4, h5⟩ k => by
      subst h1
      exact k S1 _ H1 g1.s (R.putN g1 h2 h3 h4 h5)⟩
end
end PF

set_option Elab.async false
set_option linter.all false
set_option maxRecDepth 100000
set_option maxHeartbeats 4000000
namespace PF
open PySem PySem.Spec L2

/-! ### defs and calls -/
/-- the promise of a def that hands back g of its arguments' data, and changes nothing -/
def spF (K : Frg) (mg : Mg) (n : Nat) (g : List D → Res D) : Sp := fun vs H Q E => ∃ ds S, vs.length = n ∧ Same S H ∧ RpA K mg S vs ds ∧ Po K mg (rrE K mg) (fun cls d _ H' => E cls d H') S [] H (g ds) Q
/-- what a body makes of its arguments: n slots -/
@[simp] def semF (n : Nat) (g : Sl → Out) (ds : List D) : Res D := match g (ds.map Cell.v ++ List.replicate (n - ds.length) .e) with
  | .nx _ => .ok .non
  | .ret d => .ok d
  | .exc x fs _ => .exc x fs
  | _ => .bad
theorem Rel.start {K : Frg} {mg : Mg} {N : List Str} {S H : Hp} {vs : List V} {ds : List D} (i : Same S H) (r : RpA K mg S vs ds) : Rel K mg none ⟨H, S⟩ S (ds.map Cell.v ++ List.replicate (N.length - ds.length) .e) (L2.start N vs) H where
  s0 := Same.refl _
  sh := i
  h0 := Same.refl _
  nw := fun _ _ e => e
  len := by simp [L2.start, r.len]
  val := fun j d e => by
    have hl := r.len
    rw [List.getElem?_append] at e
    split at e
    · rename_i hj
      rw [List.getElem?_map] at e
      cases q : ds[j]? with
      | none => rw [q] at e; cases e
      | some d' =>
        rw [q] at e
        cases e
        obtain ⟨v, h1, h2⟩ := r.get q
        refine ⟨v, ?_, h2⟩
        have hj' : j < vs.length := (List.getElem?_eq_some_iff.mp h1).1
        unfold L2.start
        rw [List.getElem?_append_left (by simpa using hj'), List.getElem?_map, h1]
        rfl
    · rw [List.getElem?_replicate] at e
      split at e <;> cases e
  own := fun j es e => by
    rw [List.getElem?_append] at e
    split at e
    · rw [List.getElem?_map] at e
      cases q : ds[j]? with
      | none => rw [q] at e; cases e
      | some d' => rw [q] at e; cases e
    · rw [List.getElem?_replicate] at e
      split at e <;> cases e
  xc := fun j c fs e => by
    rw [List.getElem?_append] at e
    split at e
    · rw [List.getElem?_map] at e
      cases q : ds[j]? with
      | none => rw [q] at e; cases e
      | some d' => rw [q] at e; cases e
    · rw [List.getElem?_replicate] at e
      split at e <;> cases e
  apart := fun j k es gs p ne e1 => by
    rw [List.getElem?_append] at e1
    split at e1
    · rw [List.getElem?_map] at e1
      cases q : ds[j]? with
      | none => rw [q] at e1; cases e1
      | some d' => rw [q] at e1; cases e1
    · rw [List.getElem?_replicate] at e1
      split at e1 <;> cases e1
theorem Bok.gr {b : Bs} {S H : Hp} (h : Bok b S H) : Gr b.S0 b.H0 S H := ⟨h.s0, h.h0, h.sh, h.nw⟩
abbrev WE0 (E : XK) : WX := fun cls d _ H => E cls d H
/-- what a body's statements may lean on -/
structure Cs (X : Cx) (W : WX) : Prop where
  tk : Takes X W
  po : PassesOwn (model X.prog X.w) X.A X.env X.xe
  hc : X.calm = true
section
variable {P : Program} {w : World} {K : Frg} {mg : Mg} {base : Heap}
theorem fn_ok {x qual : Str} {st : Stmt} {f : Addr} {fd : FuncData} {N ps : List Str} {k : Nat} {g : Sl → Out} (F : Fun K x qual st f fd) (Sc : FnScope N ps (defScope st))
    (hb : ∀ (cdv : Value) (A : Around) (outer : List Env) (s : Shared) (H : Hp) (E : XK), Room k (cxOf (L2.CX P w) P w K mg base N qual (defScope st) f cdv A outer s H E).A → Cs (cxOf (L2.CX P w) P w K mg base N qual (defScope st) f cdv A outer s H E) (WE0 E) →
      MSs (cxOf (L2.CX P w) P w K mg base N qual (defScope st) f cdv A outer s H E) none (WE0 E) (defBody st) g) : FnOk P w K mg base (L2.CX P w) (k + 1) f fd ps (spF K mg ps.length (semF N.length g)) :=
  F.okX Sc (fun vs H Q E h => by obtain ⟨ds, S, h1, _⟩ := h; exact h1) fun cdv A outer s H vs Q E hr h => by
    obtain ⟨ds, S, h1, h2, h3, h4⟩ := h
    refine ⟨_, hb cdv A outer s H E hr ⟨takes_of rfl rfl rfl rfl, passes_of rfl, rfl⟩, ⟨H, S⟩, S, ds.map Cell.v ++ List.replicate (N.length - ds.length) Cell.e, Rel.start (N := N) h2 h3, ?_⟩
    unfold semF at h4
    cases e : g (ds.map Cell.v ++ List.replicate (N.length - ds.length) .e) with
    | nx ρ => rw [e] at h4; exact fun S' σ' H' s1 R' => h4 .non S' H' R'.bok.gr .non
    | ret d => rw [e] at h4; exact fun S' H' v bk r => h4 v S' H' bk.gr r
    | exc x fs ρ => rw [e] at h4; exact fun S' σ' H' C dx s1 R' m xd => h4 S' H' C dx R'.bok.gr m xd
    | bk ρ => rw [e] at h4; exact h4.elim
    | ct ρ => rw [e] at h4; exact h4.elim
    | bad => rw [e] at h4; exact h4.elim
/-- a promise of less -/
theorem FnOk.less {k f} {fd : FuncData} {ps : List Str} {n : Nat} {g g' : List D → Res D} (F : FnOk P w K mg base (L2.CX P w) k f fd ps (spF K mg n g)) (h : ∀ ds, g' ds = g ds ∨ g' ds = .bad) : FnOk P w K mg base (L2.CX P w) k f fd ps (spF K mg n g') :=
  F.imp fun vs H Q E ⟨ds, S, h1, h2, h3, h4⟩ => ⟨ds, S, h1, h2, h3, by
    rcases h ds with q | q
    · rw [← q]; exact h4
    · rw [q] at h4; exact h4.elim⟩
end
/-- what a call of a def asks of its place -/
abbrev Cw (X : Cx) (W : WX) : Prop := ∀ σ, PassesAt (L2.CX X.prog X.w) X σ (WE W σ)
theorem Cs.cw {X : Cx} {W : WX} (c : Cs X W) : Cw X W := fun σ => passAt c.tk σ
theorem cw0 {X : Cx} : Cw X W0 := fun σ pins H s e s' I h => by
  obtain ⟨_, _, _, _, _, _, _, _, _, _, _, _, z⟩ := h
  exact z.elim
section
variable {X : Cx} {hx : Hx} {W : WX} {k : Nat} {f : Addr} {fd : FuncData} {ps : List Str} {n : Nat} {g : List D → Res D} {x : Str} {p pos : Pos} {e : Expr} {es : List Expr} {fs : Sl → Res (List D)}
theorem me_call (F : FnOk X.prog X.w X.K X.mg X.base (L2.CX X.prog X.w) k f fd ps (spF X.K X.mg n g)) (hn : ps.length = n) (hr : Room k X.A) (hm : X.mg x = some (.ref f)) (hk : PySem.W.keepIn X.K (.ref f) = true) (hb : Binds X.K fd ps []) (cw : Cw X W)
    (ha : MA X hx W (e :: es) fs) (hl : (e :: es).length = n := by rfl) (hg : Gl X x := by rfl) (hdb : (x == ("__debug__" : Str)) = false := by decide) (he : starEach (e :: es) X.env = (false, eval e X.env) :: starEach es X.env := by rfl) (hpl : (backTo pos (starEach es X.env)).any (·.1) = false := by rfl)
    (hfl : ∀ ρ ds, fs ρ = .ok ds → ds.length = n) : ME X hx W (.Call (.Name x p) (e :: es) [] pos) (sCall g fs) :=
  pe_imp (pe_callS F hr hg hm hk hb cw ha hdb he hpl) fun σ H Q ⟨b, S, ρ, R, q⟩ => ⟨b, S, ρ, R, by
    unfold sCall at q
    cases ef : fs ρ with
    | exc y ys => rw [ef] at q; exact q
    | bad => rw [ef] at q; exact q
    | ok ds =>
      rw [ef] at q
      intro v S1 H1 g1 r1
      refine ⟨ds, S1, by rw [r1.len]; exact hfl ρ ds ef, g1.i, r1, ?_⟩
      have q1 : Po X.K X.mg (rrE X.K X.mg) W S1 σ H1 (g ds) Q := Po.upE g1 q
      cases eg : g ds with
      | ok d => rw [eg] at q1; exact q1
      | exc y ys => rw [eg] at q1; exact q1
      | bad => rw [eg] at q1; exact q1⟩
end
/-- an argument list has its length -/
theorem len_nil {ρ : Sl} {ds : List D} (h : aNil ρ = .ok ds) : ds.length = 0 := by cases h; rfl
theorem len_cons {f : Sl → Res D} {fs : Sl → Res (List D)} {n : Nat} (ih : ∀ ρ ds, fs ρ = .ok ds → ds.length = n) : ∀ ρ ds, aCons f fs ρ = .ok ds → ds.length = n + 1 := fun ρ ds h => by
  unfold aCons at h
  cases e1 : f ρ with
  | ok d =>
    rw [e1] at h
    cases e2 : fs ρ with
    | ok r =>
      rw [Res.bind_ok, e2] at h
      cases h
      simp [ih ρ r e2]
    | exc y ys => rw [Res.bind_ok, e2] at h; cases h
    | bad => rw [Res.bind_ok, e2] at h; cases h
  | exc y ys => rw [e1] at h; cases h
  | bad => rw [e1] at h; cases h

/-! ### built-ins by their names -/
def aR1 (f : Sl → Res D) (ρ : Sl) : Res D := f ρ
section
variable {X : Cx} {hx : Hx} {W : WX} {x : Str} {p pos : Pos} {a b c : Expr} {id T : String} {r : List V → Hp → VK → Prop} {fa fb fc : Sl → Res D}
/-- a built-in of one operand that it only reads -/
theorem call1_imp {t : TE} {g : D → Res D} (hr : U1 X.K X.mg (fun v => r [v]) g) (h : PE X c (tCB r (tCons t tNil))) (hi : t = tG X.K X.mg hx (rrR X.K X.mg) W fa) : ME X hx W c (sUn g fa) := pe_imp h fun σ H Q ⟨b, S, ρ, R, q⟩ => by
  subst hi
  exact ⟨b, S, ρ, R, q.bind fun d v S1 H1 g1 r1 k => hr S1 σ H1 v d W Q g1.i r1 (k.upE g1)⟩
theorem me_b1 {g : D → Res D} (hc : CallR X (.builtin id) r) (hr : U1 X.K X.mg (fun v => r [v]) g) (hm : X.mg x = none) (hv : bootBuiltins x = some (.builtin id)) (ha : MR X hx W a fa) (hg : Gl X x := by rfl) (hn : x ≠ "__name__" := by decide) (hdb : (x == ("__debug__" : Str)) = false := by decide)
    (hs : starEach [a] X.env = (false, eval a X.env) :: starEach [] X.env := by rfl) (hpl : (backTo pos (starEach [] X.env)).any (·.1) = false := by rfl) : ME X hx W (.Call (.Name x p) [a] [] pos) (sUn g fa) :=
  call1_imp hr (pe_callB hc hg hm hv (pa_cons ha pa_nil hs) hn hdb hs hpl) rfl
theorem me_t1 {g : D → Res D} (hc : CallR X (.type T) r) (hr : U1 X.K X.mg (fun v => r [v]) g) (hm : X.mg x = none) (hv : bootBuiltins x = some (.type T)) (ha : MR X hx W a fa) (hg : Gl X x := by rfl) (hn : x ≠ "__name__" := by decide) (hdb : (x == ("__debug__" : Str)) = false := by decide)
    (hs : starEach [a] X.env = (false, eval a X.env) :: starEach [] X.env := by rfl) (hpl : (backTo pos (starEach [] X.env)).any (·.1) = false := by rfl) : ME X hx W (.Call (.Name x p) [a] [] pos) (sUn g fa) :=
  call1_imp hr (pe_callTy hc hg hm hv (pa_cons ha pa_nil hs) hn hdb hs hpl) rfl
theorem call1F_imp {t : TE} {g : D → Res (List D)} (hr : U1F X.K X.mg (fun v => r [v]) g) (h : PE X c (tCB r (tCons t tNil))) (hi : t = tG X.K X.mg hx (rrR X.K X.mg) W fa) : MF X hx W c (fUn g fa) := pe_imp h fun σ H Q ⟨b, S, ρ, R, q⟩ => by
  subst hi
  exact ⟨b, S, ρ, R, q.bind fun d v S1 H1 g1 r1 k => hr S1 σ H1 v d W Q g1.i r1 (k.upF g1)⟩
theorem mf_b1 {g : D → Res (List D)} (hc : CallR X (.builtin id) r) (hr : U1F X.K X.mg (fun v => r [v]) g) (hm : X.mg x = none) (hv : bootBuiltins x = some (.builtin id)) (ha : MR X hx W a fa) (hg : Gl X x := by rfl) (hn : x ≠ "__name__" := by decide) (hdb : (x == ("__debug__" : Str)) = false := by decide)
    (hs : starEach [a] X.env = (false, eval a X.env) :: starEach [] X.env := by rfl) (hpl : (backTo pos (starEach [] X.env)).any (·.1) = false := by rfl) : MF X hx W (.Call (.Name x p) [a] [] pos) (fUn g fa) :=
  call1F_imp hr (pe_callB hc hg hm hv (pa_cons ha pa_nil hs) hn hdb hs hpl) rfl
theorem mf_t1 {g : D → Res (List D)} (hc : CallR X (.type T) r) (hr : U1F X.K X.mg (fun v => r [v]) g) (hm : X.mg x = none) (hv : bootBuiltins x = some (.type T)) (ha : MR X hx W a fa) (hg : Gl X x := by rfl) (hn : x ≠ "__name__" := by decide) (hdb : (x == ("__debug__" : Str)) = false := by decide)
    (hs : starEach [a] X.env = (false, eval a X.env) :: starEach [] X.env := by rfl) (hpl : (backTo pos (starEach [] X.env)).any (·.1) = false := by rfl) : MF X hx W (.Call (.Name x p) [a] [] pos) (fUn g fa) :=
  call1F_imp hr (pe_callTy hc hg hm hv (pa_cons ha pa_nil hs) hn hdb hs hpl) rfl
theorem call2_imp {t u : TE} {g : D → D → Res D} (hr : O2 X.K X.mg (fun v w => r [v, w]) g) (h : PE X c (tCB r (tCons t (tCons u tNil)))) (hi : t = tG X.K X.mg hx (rrR X.K X.mg) W fa) (hj : u = tG X.K X.mg hx (rrR X.K X.mg) W fb) : ME X hx W c (sOp g fa fb) := pe_imp h fun σ H Q ⟨b, S, ρ, R, q⟩ => by
  subst hi hj
  exact ⟨b, S, ρ, R, q.bind fun d v S1 H1 g1 r1 k => ⟨b, S1, ρ, R.grow g1, (k.upE g1).bind fun d2 v2 S2 H2 g2 r2 k2 => hr S2 σ H2 v v2 d d2 W Q g2.i (r1.up g2) r2 (k2.upE g2)⟩⟩
theorem me_b2 {g : D → D → Res D} (hc : CallR X (.builtin id) r) (hr : O2 X.K X.mg (fun v w => r [v, w]) g) (hm : X.mg x = none) (hv : bootBuiltins x = some (.builtin id)) (ha : MR X hx W a fa) (hb : MR X hx W b fb) (hg : Gl X x := by rfl) (hn : x ≠ "__name__" := by decide) (hdb : (x == ("__debug__" : Str)) = false := by decide)
    (hs : starEach [a, b] X.env = (false, eval a X.env) :: starEach [b] X.env := by rfl) (hs2 : starEach [b] X.env = (false, eval b X.env) :: starEach [] X.env := by rfl) (hpl : (backTo pos (starEach [b] X.env)).any (·.1) = false := by rfl) : ME X hx W (.Call (.Name x p) [a, b] [] pos) (sOp g fa fb) :=
  call2_imp hr (pe_callB hc hg hm hv (pa_cons ha (pa_cons hb pa_nil hs2) hs) hn hdb hs hpl) rfl rfl
/-- a built-in function that a module brings (gcd) -/
theorem me_bf2 {g : D → D → Res D} (hc : CallR X (.builtin id) r) (hr : O2 X.K X.mg (fun v w => r [v, w]) g) (hm : X.mg x = some (.builtin id)) (ha : MR X hx W a fa) (hb : MR X hx W b fb) (hg : Gl X x := by rfl) (hdb : (x == ("__debug__" : Str)) = false := by decide)
    (hs : starEach [a, b] X.env = (false, eval a X.env) :: starEach [b] X.env := by rfl) (hs2 : starEach [b] X.env = (false, eval b X.env) :: starEach [] X.env := by rfl) (hpl : (backTo pos (starEach [b] X.env)).any (·.1) = false := by rfl) : ME X hx W (.Call (.Name x p) [a, b] [] pos) (sOp g fa fb) :=
  call2_imp hr (pe_callBfun hc hg hm (pa_cons ha (pa_cons hb pa_nil hs2) hs) hdb hs hpl) rfl rfl
end

/-! ### raise, try -/
/-- an exception class of the program, without an own __init__ -/
structure ExcT (K : Frg) (mg : Mg) (x : Str) (C : Addr) : Prop where
  g : mg x = some (.ref C)
  xk : PySem.W.excIn K C [.type "ValueError", .type "Exception", .type "BaseException", .type "object"] "ValueError.__new__" = true
  kp : PySem.W.keepIn K (.ref C) = true
  sb : PySem.W.subIn K (.ref C) (.type "BaseException") = some true
  ty : PySem.W.typeIn K (.ref C) = some (.type "type")
@[simp] def gRaise (x : Str) (ρ : Sl) : Out := .exc x [] ρ
theorem ms_raise {X : Cx} {hx : Hx} {W : WX} {x m : Str} {C : Addr} {j : Nat} {p p2 pos pos' : Pos} (c : Cs X W) (T : ExcT X.K X.mg x C) (hg : Gl X x := by rfl) (hdb : (x == ("__debug__" : Str)) = false := by decide) :
    MS X hx W (.Raise (some (.Call (.Name x p) [.Constant (.str m) j p2] [] pos')) none pos) (gRaise x) :=
  ps_imp (ps_raise c.hc c.tk (pmk_own PySem.F.excBase_ValueError T.xk T.g T.kp (raises_own T.sb T.ty) hg hdb)) fun D σ H ⟨b, S, ρ, R, q⟩ => q S σ H C none (Same.refl _) R T.g rfl

/-- try: body / except c as n: suite. tab: which exceptions the clause takes; slot i is n's -/
@[simp] def clrC (c : Cell) : Cell := match c with
  | .xc _ _ => .e
  | c => c
@[simp] def gTry (i : Nat) (tab : Str → Option Bool) (body : Sl → Out) (suite : Sl → Out) (ρ : Sl) : Out := match body ρ with
  | .exc x fs ρ1 => match tab x with
    | some true => if i < ρ1.length then (match suite (ρ1.set i (.xc x fs)) with
      | .nx ρ2 => .nx ((ρ2.set i .e).map clrC)
      | .bk ρ2 => .bk ((ρ2.set i .e).map clrC)
      | .ct ρ2 => .ct ((ρ2.set i .e).map clrC)
      | .ret d => .ret d
      | _ => .bad) else .bad
    | some false => .exc x fs ρ1
    | none => .bad
  | o => o
/-- the clause's class takes what the table says -/
def Tab (K : Frg) (mg : Mg) (tab : Str → Option Bool) (c : Value) : Prop := ∀ x C b, mg x = some (.ref C) → tab x = some b → PySem.W.exmOne K (.ref C) c = some b
def hxOf (a : Addr) (cls : Value) (d : Option Addr) : Hx := match cls with
  | .ref C => some (a, C, d)
  | _ => none
theorem Rel.exc {K : Frg} {mg : Mg} {b : Bs} {S H : Hp} {ρ : Sl} {σ : L2.St} {i : Nat} {a C : Addr} {dx : Option Addr} {c : Str} {fs : List (Str × D)} (R : Rel K mg none b S ρ σ H) (hi : i < ρ.length) (hm : mg c = some (.ref C)) (x : Xd K mg S H dx fs) : Rel K mg (some (a, C, dx)) b S (ρ.set i (.xc c fs)) (σ.set i (some (.ref a))) H where
  s0 := R.s0
  sh := R.sh
  h0 := R.h0
  nw := R.nw
  len := by simp [R.len]
  val := fun j d' e => by
    rcases getset e with ⟨_, h2, _⟩ | ⟨h1, h2⟩
    · cases h2
    · obtain ⟨v', h3, h4⟩ := R.val j d' h2
      exact ⟨v', by rw [List.getElem?_set_ne h1]; exact h3, h4⟩
  own := fun j ds e => by
    rcases getset e with ⟨_, h2, _⟩ | ⟨h1, h2⟩
    · cases h2
    · obtain ⟨p, vs, h3, h4⟩ := R.own j ds h2
      exact ⟨p, vs, by rw [List.getElem?_set_ne h1]; exact h3, h4⟩
  xc := fun j c' fs' e => by
    rcases getset e with ⟨h1, h2, h3⟩ | ⟨h1, h2⟩
    · cases h2
      subst h1
      exact ⟨a, C, dx, rfl, by rw [List.getElem?_set_self (by rw [← R.len]; exact hi)], hm, x⟩
    · obtain ⟨_, _, _, q1, _⟩ := R.xc j c' fs' h2
      cases q1
  apart := fun j k ds es p ne e1 e2 e3 e4 => by
    rcases getset e1 with ⟨_, h2, _⟩ | ⟨h1, h2⟩
    · cases h2
    · rcases getset e2 with ⟨_, h4, _⟩ | ⟨h3, h4⟩
      · cases h4
      · rw [List.getElem?_set_ne h1] at e3
        rw [List.getElem?_set_ne h3] at e4
        exact R.apart j k ds es p ne h2 h4 e3 e4
theorem clr_get {ρ : Sl} {i : Nat} {c : Cell} (h : (ρ.map clrC)[i]? = some c) : ∃ c0, ρ[i]? = some c0 ∧ clrC c0 = c := by
  rw [List.getElem?_map] at h
  cases e : ρ[i]? with
  | none => rw [e] at h; cases h
  | some c0 => rw [e] at h; exact ⟨c0, rfl, Option.some.inj h⟩
theorem Rel.clear {K : Frg} {mg : Mg} {hx : Hx} {b : Bs} {S H : Hp} {ρ : Sl} {σ : L2.St} (R : Rel K mg hx b S ρ σ H) : Rel K mg none b S (ρ.map clrC) σ H where
  s0 := R.s0
  sh := R.sh
  h0 := R.h0
  nw := R.nw
  len := by simp [R.len]
  val := fun i d e => by
    obtain ⟨c0, h1, h2⟩ := clr_get e
    cases c0 <;> cases h2
    exact R.val i _ h1
  own := fun i d e => by
    obtain ⟨c0, h1, h2⟩ := clr_get e
    cases c0 <;> cases h2
    exact R.own i _ h1
  xc := fun i c fs e => by
    obtain ⟨c0, h1, h2⟩ := clr_get e
    cases c0 <;> cases h2
  apart := fun i j ds es p ne e1 e2 => by
    obtain ⟨c0, h1, h2⟩ := clr_get e1
    obtain ⟨c1, h3, h4⟩ := clr_get e2
    cases c0 <;> cases h2
    cases c1 <;> cases h4
    exact R.apart i j _ _ p ne h1 h3
theorem ms_try {X : Cx} {W : WX} (i : Nat) {x n : Str} {c : Value} {body suite : List Stmt} {b₀ : Stmt} {np pos pos' : Pos} {gb gs : Sl → Out} {tab : Str → Option Bool} (cs : Cs X W) (hs : X.stack = X.env :: X.outer) (hf : X.env.frame = some X.env.locals) (hN : X.N.Nodup)
    (hc : Names X x c) (ht : Tab X.K X.mg tab c)
    (hb : ∀ (W' : WX) (pn : List (Addr × Obj)) (xe : Value → Shared → Prop), Cs (X.tr pn xe) W' → MSs (X.tr pn xe) none W' body gb)
    (hsu : ∀ (a : Addr) (oe : Obj) (C : Addr) (d : Option Addr) (pn : List (Addr × Obj)), Zc (.ref C) d oe → (∃ vs, oe.data = .fields vs) → MSs (X.suite a ((a, oe) :: pn)) (some (a, C, d)) W0 (b₀ :: suite) gs)
    (hi : X.N[i]? = some n := by rfl) (hln : X.env.kindOf n = some .local := by rfl) :
    MS X none W (.Try body [.ExceptHandler (some (.Name x np)) (some n) (b₀ :: suite) pos'] [] [] pos) (gTry i tab gb gs) :=
  ps_imp (ps_try_as (tb := fun W' => tS X.K X.mg none W' gb) (ts := fun a cls d D σ H => ∃ C, cls = .ref C ∧ tS X.K X.mg (some (a, C, d)) W0 gs D σ H) (Wout := W) hs hf hN hi hln hc cs.tk (fun W' pn xe tk po => hb W' pn xe ⟨tk, po, cs.hc⟩) (fun a oe cls d pn z hv => ⟨fun pins s σ H D I ⟨C, e, q⟩ => by
      subst e
      exact (hsu a oe C d pn z hv).run pins s σ H D I q⟩)) fun D σ H ⟨b, S, ρ, R, q⟩ => by
    refine ⟨b, S, ρ, R, ?_⟩
    unfold gTry at q
    cases e : gb ρ with
    | nx ρ' => rw [e] at q; exact q
    | ret d => rw [e] at q; exact q
    | bk ρ' => rw [e] at q; exact q
    | ct ρ' => rw [e] at q; exact q
    | bad => rw [e] at q; exact q
    | exc y fs ρ1 =>
      rw [e] at q
      intro S1 σ1 H1 C dx s1 R1 hm hxd
      simp only at q
      cases et : tab y with
      | none => rw [et] at q; exact q.elim
      | some tb =>
        rw [et] at q
        refine ⟨tb, ht y C tb hm et, fun e2 a _ => ?_, fun e2 => ?_⟩
        · subst e2
          simp only at q
          split at q
          · rename_i hil
            refine ⟨C, rfl, b, S1, _, Rel.exc R1 hil hm hxd, ?_⟩
            cases es : gs (ρ1.set i (.xc y fs)) with
            | nx ρ2 => rw [es] at q; exact fun S2 σ2 H2 s2 R2 => q S2 _ H2 (s1.trans s2) (R2.wipe1.clear)
            | bk ρ2 => rw [es] at q; exact fun S2 σ2 H2 s2 R2 => q S2 _ H2 (s1.trans s2) (R2.wipe1.clear)
            | ct ρ2 => rw [es] at q; exact fun S2 σ2 H2 s2 R2 => q S2 _ H2 (s1.trans s2) (R2.wipe1.clear)
            | ret d => rw [es] at q; exact q
            | exc y2 fs2 ρ2 => rw [es] at q; exact q.elim
            | bad => rw [es] at q; exact q.elim
          · exact q.elim
        · subst e2
          exact q S1 σ1 H1 C dx s1 R1 hm hxd

/-! ### isinstance of the exception that a suite holds -/
@[simp] def sIsE (i : Nat) (tab : Str → Option Bool) (ρ : Sl) : Res D := match ρ[i]? with
  | some (.xc x []) => match tab x with
    | some b => .ok (.bl b)
    | none => .bad
  | _ => .bad
/-- isinstance(e, c) by the table: every class that may be held is fit to be asked -/
def TabI (K : Frg) (mg : Mg) (tab : Str → Option Bool) (cv : Value) : Prop := ∀ x C b, mg x = some (.ref C) → tab x = some b → ExcC K C ∧ PySem.W.kitOne K (.ref C) cv = some b
def TabT (K : Frg) (mg : Mg) (tab : Str → Option Bool) (cvs : List Value) : Prop := ∀ x C b, mg x = some (.ref C) → tab x = some b → ExcC K C ∧ PySem.W.kitAny K (.ref C) cvs = some b
section
variable {X : Cx} {a D0 : Addr} {oe : Obj} {pn : List (Addr × Obj)} {d : Option Addr} {W : WX} {ce : Expr} {n : Str} {p p1 pos : Pos} {cv : V} {cu : Value}
theorem xd_none {K : Frg} {mg : Mg} {S H : Hp} {dx : Option Addr} (h : Xd K mg S H dx []) : dx = none := by
  cases dx with
  | none => rfl
  | some a =>
    obtain ⟨ns, xs, ds, h1, ⟨h2, h3⟩, h4, h5⟩ := h
    have hl := h5.len
    cases ns with
    | nil => exact absurd rfl h2
    | cons n ns =>
      cases ds with
      | nil => rw [List.length_nil] at hl; rw [hl] at h3; cases h3
      | cons d ds => cases h1
theorem me_isE (i : Nat) {tab : Str → Option Bool} (hz : Zc (.ref D0) d oe) (hf : ∃ vs, oe.data = .fields vs) (ht : TabI X.K X.mg tab cu) (hv : PE (X.suite a ((a, oe) :: pn)) (.Name n p1) (tVar i)) (hc : PE (X.suite a ((a, oe) :: pn)) ce (tC cv)) (k : ClsV cv cu)
    (hm : X.mg "isinstance" = none) (hg : Gl X "isinstance" := by rfl) (hs : starEach [.Name n p1, ce] X.env = (false, eval (.Name n p1) X.env) :: starEach [ce] X.env := by rfl) (hs2 : starEach [ce] X.env = (false, eval ce X.env) :: starEach [] X.env := by rfl) (hpl : (backTo pos (starEach [ce] X.env)).any (·.1) = false := by rfl) :
    ME (X.suite a ((a, oe) :: pn)) (some (a, D0, d)) W (.Call (.Name "isinstance" p) [.Name n p1, ce] [] pos) (sIsE i tab) := ⟨fun pins s σ H Q I ⟨b, S, ρ, R, q⟩ => by
  unfold sIsE at q
  split at q
  · rename_i x e
    obtain ⟨a1, C1, d1, h1, h2, h3, h4⟩ := R.xc i x [] e
    cases h1
    split at q
    · rename_i tb et
      obtain ⟨t1, t2⟩ := ht x D0 tb h3 et
      have hd := xd_none h4
      subst hd
      exact (pe_callB (x := "isinstance") (call_isE (X := X) (a := a) (pn := pn) t1 hz hf) hg hm PyProof.Rows.boot_isinstance (pa_cons hv (pa_cons hc pa_nil hs2) hs) (by decide) (by decide) hs hpl).run pins s σ H Q I ⟨_, h2, cv, cu, tb, rfl, fun u r => k.eq r, t2, q _ S H (Gr.refl R.sh) (.bl tb)⟩
    · exact q.elim
  · exact q.elim⟩
end
end PF

set_option Elab.async false
set_option linter.all false
set_option maxRecDepth 100000
set_option maxHeartbeats 4000000
namespace PF
open PySem PySem.Spec L2

section
variable {K : Frg} {mg : Mg} {S H : Hp}
theorem Rd1.dp {v : V} {d : D} (i : Same S H) (c : d.py.canLay0 = true) (h : Rd1 K mg S H v d) : Dp K H v d.py := by
  cases d with
  | lst ds =>
    obtain ⟨p, vs, rfl, h2, h3⟩ := h
    exact .lst (SqL.of h2) (RpA.dp ds _ (by simpa [D.py, PyData.canLay0] using c) (h3.up i ds vs))
  | _ => exact Rp.dp _ _ c (Rp.up i _ v h)
theorem Rd1.int {v : V} {i : Int} (h : Rd1 K mg S H v (.int i)) : v = .int i := by
  have h' : Rp K mg S v (.int i) := h
  cases h'; rfl
theorem Rd1.bl {v : V} {i : Bool} (h : Rd1 K mg S H v (.bl i)) : v = .bl i := by
  have h' : Rp K mg S v (.bl i) := h
  cases h'; rfl
theorem Rd1.str {v : V} {i : Str} (h : Rd1 K mg S H v (.str i)) : v = .str i := by
  have h' : Rp K mg S v (.str i) := h
  cases h'; rfl
theorem Rd1.lst {v : V} {ds : List D} (h : Rd1 K mg S H v (.lst ds)) : ∃ (p : Addr) (vs : List V), v = .ref p ∧ H p = some (.lst vs) ∧ RpA K mg S vs ds := h
theorem Rd1.rol {v : V} {ds : List D} (i : Same S H) (h : Rd1 K mg S H v (.rol ds)) : ∃ (p : Addr) (vs : List V), v = .ref p ∧ SqL K H p vs ∧ RpA K mg S vs ds := by
  have h' : Rp K mg S v (.rol ds) := h
  cases h' with
  | rol a b => exact ⟨_, _, rfl, same_l i a, b⟩
theorem Rd1.tup {v : V} {ds : List D} (i : Same S H) (h : Rd1 K mg S H v (.tup ds)) : ∃ (p : Addr) (vs : List V), v = .ref p ∧ SqT K H p vs ∧ SqT K S p vs ∧ RpA K mg S vs ds := by
  have h' : Rp K mg S v (.tup ds) := h
  cases h' with
  | tup a b => exact ⟨_, _, rfl, same_t i a, a, b⟩
theorem Rd1.non {v : V} (h : Rd1 K mg S H v .non) : v = .non := by
  have h' : Rp K mg S v .non := h
  cases h'; rfl
end
theorem po_new {K : Frg} {mg : Mg} {W : WX} {S H : Hp} {σ : L2.St} {ds : List D} {vs : List V} {Q : VK} (i : Same S H) (r : RpA K mg S vs ds) (q : Po K mg (rrE K mg) W S σ H (.ok (.tup ds)) Q) : ∀ p, H p = none → Q (.ref p) (upd H p (.tup vs)) := fun p hp =>
  q _ _ _ (Gr.new i hp) (.tup (SqT.of upd_same) (r.up (same_new (same_none i hp)) _ _))
theorem po_newL {K : Frg} {mg : Mg} {W : WX} {S H : Hp} {σ : L2.St} {ds : List D} {vs : List V} {Q : VK} (i : Same S H) (r : RpA K mg S vs ds) (q : Po K mg (rrF K mg) W S σ H (.ok ds) Q) : ∀ p, H p = none → Q (.ref p) (upd H p (.lst vs)) := fun p hp =>
  q _ S _ (Gr.lay i hp) ⟨p, vs, rfl, hp, same_none i hp, upd_same, r⟩

/-! ### operators -/
@[simp] def oAdd (d e : D) : Res D := match d, e with
  | .int i, .int j => .ok (.int (i + j))
  | .str x, .str y => if x.length + y.length ≤ 16777216 then .ok (.str (x ++ y)) else .bad
  | .tup a, .tup b => if a.length + b.length ≤ 16777216 then .ok (.tup (a ++ b)) else .bad
  | _, _ => .bad
@[simp] def oAddI (d e : D) : Res D := match d, e with
  | .int i, .int j => .ok (.int (i + j))
  | _, _ => .bad
@[simp] def oSub (d e : D) : Res D := match d, e with
  | .int i, .int j => .ok (.int (i - j))
  | _, _ => .bad
noncomputable def mulOk (i j : Int) : Bool := cb ((Builtin.Int.intBits i : Int) + Builtin.Int.intBits j ≤ 134217728 ∨ i.natAbs < 18446744073709551616 ∨ j.natAbs < 18446744073709551616)
@[simp] noncomputable def oMul (d e : D) : Res D := match d, e with
  | .int i, .int j => if mulOk i j then .ok (.int (i * j)) else .bad
  | _, _ => .bad
noncomputable def divOk (j : Int) : Bool := cb (j ≠ 0 ∧ j.natAbs.log2 < 9000)
@[simp] noncomputable def oFdiv (d e : D) : Res D := match d, e with
  | .int i, .int j => if divOk j then .ok (.int (i.fdiv j)) else .bad
  | _, _ => .bad
@[simp] def oMod (d e : D) : Res D := match d, e with
  | .int i, .int j => if j ≠ 0 then .ok (.int (i.fmod j)) else .bad
  | _, _ => .bad
@[simp] noncomputable def oPow (d e : D) : Res D := match d, e with
  | .int i, .int j => if cb (0 ≤ j ∧ j ≤ 1000000 ∧ i.natAbs < 2 ^ 64) then .ok (.int (i ^ j.toNat)) else .bad
  | _, _ => .bad
@[simp] def oNeg (d : D) : Res D := match d with
  | .int i => .ok (.int (-i))
  | _ => .bad
def eqOk (d : D) : Bool := SeqAt.shaped d.py
def eqv (d e : D) : Bool := PyData.eqv d.py e.py
@[simp] def oEq (d e : D) : Res D := if eqOk d && eqOk e then .ok (.bl (eqv d e)) else .bad
@[simp] def oNe (d e : D) : Res D := if eqOk d && eqOk e then .ok (.bl (!eqv d e)) else .bad
@[simp] noncomputable def oLt (d e : D) : Res D := match d, e with
  | .int i, .int j => .ok (.bl (cb (i < j)))
  | _, _ => .bad
@[simp] noncomputable def oLe (d e : D) : Res D := match d, e with
  | .int i, .int j => .ok (.bl (cb (i ≤ j)))
  | _, _ => .bad
@[simp] noncomputable def oGt (d e : D) : Res D := match d, e with
  | .int i, .int j => .ok (.bl (cb (j < i)))
  | _, _ => .bad
@[simp] noncomputable def oGe (d e : D) : Res D := match d, e with
  | .int i, .int j => .ok (.bl (cb (j ≤ i)))
  | _, _ => .bad
@[simp] def isNon (d : D) : Bool := match d with
  | .non => true
  | _ => false
@[simp] def oIsN (d e : D) : Res D := match e with
  | .non => .ok (.bl (isNon d))
  | _ => .bad
@[simp] def oNotN (d e : D) : Res D := match e with
  | .non => .ok (.bl (!isNon d))
  | _ => .bad
@[simp] noncomputable def fRep (d e : D) : Res (List D) := match d, e with
  | .lst xs, .int k => if cb (-(2 ^ 63) ≤ k ∧ k < 2 ^ 63 ∧ xs.length * k.toNat ≤ 16777216) then .ok (List.replicate k.toNat xs).flatten else .bad
  | _, _ => .bad
@[simp] def fCat (d e : D) : Res (List D) := match d, e with
  | .lst xs, .lst ys => if xs.length + ys.length ≤ 16777216 then .ok (xs ++ ys) else .bad
  | _, _ => .bad
section
variable {X : Cx}
theorem CMulX_of_small {i j : Int} (h : mulOk i j = true) : IntMulOk i j := by
  rcases of_cb h with h | h | h
  · exact CMulX.ok h
  · exact CMul.ok (.inl ⟨by omega, by omega⟩)
  · exact CMul.ok (.inr ⟨by omega, by omega⟩)
theorem op_mulU : OpR X (binaryOp .Mult) (rI (fun i j => mulOk i j = true) fun i j => .int (i * j)) := opI fun _ _ _ _ _ _ _ hc q => PyProof.Rows.mul_int q (CMulX_of_small hc)
theorem op_fdivU : OpR X (binaryOp .FloorDiv) (rI (fun _ j => divOk j = true) fun i j => .int (i.fdiv j)) := opI fun i j _ _ _ _ _ hc q => by
  obtain ⟨h1, h2⟩ := of_cb hc
  exact PyProof.Rows.floordiv_int h1 q (.inl (PyProof.noPylong_of_log2 h2))
abbrev rAddU (K : Frg) : R2 := fun x y H Q => rI0 (fun i j => .int (i + j)) x y H Q ∨ ((fun x y H Q => ∃ i j, x = V.str i ∧ y = V.str j ∧ i.length + j.length ≤ sizeLine ∧ Q (V.str (i ++ j)) H : R2) x y H Q ∨ rCatA K x y H Q)
theorem op_addU : OpR X (binaryOp .Add) (rAddU X.K) := op_add.or (op_add_str.or op_catA)
end
section
variable {K : Frg} {mg : Mg}
theorem o_add : O2 K mg (rAddU K) oAdd := fun S σ H x y d e W Q i hx hy q => by
  unfold oAdd at q
  split at q
  · exact .inl ⟨_, _, hx.int, hy.int, q _ _ _ (Gr.refl i) (.int _)⟩
  · split at q
    · rename_i hl
      exact .inr (.inl ⟨_, _, hx.str, hy.str, sizeLine16 hl, q _ _ _ (Gr.refl i) (.str _)⟩)
    · exact q.elim
  · rename_i a b
    split at q
    · rename_i hl
      obtain ⟨p1, v1, rfl, h1, k1, r1⟩ := hx.tup i
      obtain ⟨p2, v2, rfl, h2, k2, r2⟩ := hy.tup i
      refine .inr (.inr ⟨p1, p2, v1, v2, rfl, rfl, h1, h2, sizeLine16 (by rw [r1.len, r2.len]; exact hl), fun e => ?_, fun _ e => ?_, fun _ _ => po_new i (r1.app r2) q⟩)
      · subst e
        cases r1
        exact q _ S H (Gr.refl i) (.tup k2 r2)
      · subst e
        cases r2
        rw [List.append_nil] at q
        exact q _ S H (Gr.refl i) (.tup k1 r1)
    · exact q.elim
  · exact q.elim
theorem o_sub : O2 K mg (rI0 fun i j => .int (i - j)) oSub := fun S σ H x y d e W Q i hx hy q => by
  unfold oSub at q
  split at q
  · exact ⟨_, _, hx.int, hy.int, q _ _ _ (Gr.refl i) (.int _)⟩
  · exact q.elim
theorem o_addI : O2 K mg (rI0 fun i j => .int (i + j)) oAddI := fun S σ H x y d e W Q i hx hy q => by
  unfold oAddI at q
  split at q
  · exact ⟨_, _, hx.int, hy.int, q _ _ _ (Gr.refl i) (.int _)⟩
  · exact q.elim
theorem o_mul : O2 K mg (rI (fun i j => mulOk i j = true) fun i j => .int (i * j)) oMul := fun S σ H x y d e W Q i hx hy q => by
  unfold oMul at q
  split at q
  · split at q
    · rename_i hc
      exact ⟨_, _, hx.int, hy.int, hc, q _ _ _ (Gr.refl i) (.int _)⟩
    · exact q.elim
  · exact q.elim
theorem o_fdiv : O2 K mg (rI (fun _ j => divOk j = true) fun i j => .int (i.fdiv j)) oFdiv := fun S σ H x y d e W Q i hx hy q => by
  unfold oFdiv at q
  split at q
  · split at q
    · rename_i hc
      exact ⟨_, _, hx.int, hy.int, hc, q _ _ _ (Gr.refl i) (.int _)⟩
    · exact q.elim
  · exact q.elim
theorem o_mod : O2 K mg (rI (fun _ j => j ≠ 0) fun i j => .int (i.fmod j)) oMod := fun S σ H x y d e W Q i hx hy q => by
  unfold oMod at q
  split at q
  · split at q
    · rename_i hc
      exact ⟨_, _, hx.int, hy.int, hc, q _ _ _ (Gr.refl i) (.int _)⟩
    · exact q.elim
  · exact q.elim
theorem o_pow : O2 K mg (rI CPow fun i j => .int (i ^ j.toNat)) oPow := fun S σ H x y d e W Q i hx hy q => by
  unfold oPow at q
  split at q
  · split at q
    · rename_i hc
      exact ⟨_, _, hx.int, hy.int, of_cb hc, q _ _ _ (Gr.refl i) (.int _)⟩
    · exact q.elim
  · exact q.elim
theorem o_neg : U1 K mg (rU fun i => .int (-i)) oNeg := fun S σ H v d W Q i hx q => by
  unfold oNeg at q
  split at q
  · exact ⟨_, hx.int, q _ _ _ (Gr.refl i) (.int _)⟩
  · exact q.elim
theorem o_eq : O2 K mg (rEqD K) oEq := fun S σ H x y d e W Q i hx hy q => by
  unfold oEq at q
  split at q
  · rename_i hc
    obtain ⟨c1, c2⟩ := Bool.and_eq_true_iff.mp hc
    exact ⟨_, _, hx.dp i (SeqAt.canLay_of_shaped c1), hy.dp i (SeqAt.canLay_of_shaped c2), c1, c2, q _ _ _ (Gr.refl i) (.bl _)⟩
  · exact q.elim
theorem o_ne : O2 K mg (rNeD K) oNe := fun S σ H x y d e W Q i hx hy q => by
  unfold oNe at q
  split at q
  · rename_i hc
    obtain ⟨c1, c2⟩ := Bool.and_eq_true_iff.mp hc
    exact ⟨_, _, hx.dp i (SeqAt.canLay_of_shaped c1), hy.dp i (SeqAt.canLay_of_shaped c2), c1, c2, q _ _ _ (Gr.refl i) (.bl _)⟩
  · exact q.elim
theorem o_lt : O2 K mg (rI0 fun i j => .bl (decide (i < j))) oLt := fun S σ H x y d e W Q i hx hy q => by
  unfold oLt at q
  split at q
  · exact ⟨_, _, hx.int, hy.int, by dsimp only; rw [← cb_dec]; exact q _ _ _ (Gr.refl i) (.bl _)⟩
  · exact q.elim
theorem o_le : O2 K mg (rI0 fun i j => .bl (decide (i ≤ j))) oLe := fun S σ H x y d e W Q i hx hy q => by
  unfold oLe at q
  split at q
  · exact ⟨_, _, hx.int, hy.int, by dsimp only; rw [← cb_dec]; exact q _ _ _ (Gr.refl i) (.bl _)⟩
  · exact q.elim
theorem o_gt : O2 K mg (rI0 fun i j => .bl (decide (j < i))) oGt := fun S σ H x y d e W Q i hx hy q => by
  unfold oGt at q
  split at q
  · exact ⟨_, _, hx.int, hy.int, by dsimp only; rw [← cb_dec]; exact q _ _ _ (Gr.refl i) (.bl _)⟩
  · exact q.elim
theorem o_ge : O2 K mg (rI0 fun i j => .bl (decide (j ≤ i))) oGe := fun S σ H x y d e W Q i hx hy q => by
  unfold oGe at q
  split at q
  · exact ⟨_, _, hx.int, hy.int, by dsimp only; rw [← cb_dec]; exact q _ _ _ (Gr.refl i) (.bl _)⟩
  · exact q.elim
theorem isNon_v {S H : Hp} {v : V} {d : D} (h : Rd1 K mg S H v d) : decide (v = .non) = isNon d := by
  cases d with
  | lst ds => obtain ⟨p, vs, rfl, _⟩ := h; rfl
  | non => have h' : Rp K mg S v _ := h; cases h'; rfl
  | bl b => have h' : Rp K mg S v _ := h; cases h'; rfl
  | int i => have h' : Rp K mg S v _ := h; cases h'; rfl
  | str x => have h' : Rp K mg S v _ := h; cases h'; rfl
  | rol ds => have h' : Rp K mg S v _ := h; cases h'; rfl
  | tup ds => have h' : Rp K mg S v _ := h; cases h'; rfl
  | obj c ns ds => have h' : Rp K mg S v _ := h; cases h'; rfl
theorem o_isN : O2 K mg (fun x y H Q => y = .non ∧ Q (.bl (decide (x = .non))) H) oIsN := fun S σ H x y d e W Q i hx hy q => by
  unfold oIsN at q
  split at q
  · exact ⟨hy.non, by rw [isNon_v hx]; exact q _ _ _ (Gr.refl i) (.bl _)⟩
  · exact q.elim
theorem o_notN : O2 K mg (fun x y H Q => y = .non ∧ Q (.bl (!decide (x = .non))) H) oNotN := fun S σ H x y d e W Q i hx hy q => by
  unfold oNotN at q
  split at q
  · exact ⟨hy.non, by rw [isNon_v hx]; exact q _ _ _ (Gr.refl i) (.bl _)⟩
  · exact q.elim
theorem RpA.rep {S : Hp} {vs : List V} {ds : List D} (r : RpA K mg S vs ds) : ∀ n, RpA K mg S (List.replicate n vs).flatten (List.replicate n ds).flatten
  | 0 => .nil
  | n + 1 => by
    rw [List.replicate_succ, List.replicate_succ, List.flatten_cons, List.flatten_cons]
    exact r.app (r.rep n)
theorem f_rep : O2F K mg rRep fRep := fun S σ H x y d e W Q i hx hy q => by
  unfold fRep at q
  split at q
  · split at q
    · rename_i hc0
      have hc := of_cb hc0
      obtain ⟨p, vs, rfl, h1, h2⟩ := hx.lst
      exact ⟨p, _, vs, rfl, hy.int, h1, hc.1, hc.2.1, sizeLine16 (by rw [h2.len]; exact hc.2.2), po_newL i (h2.rep _) q⟩
    · exact q.elim
  · exact q.elim
theorem f_cat : O2F K mg rCat fCat := fun S σ H x y d e W Q i hx hy q => by
  unfold fCat at q
  split at q
  · split at q
    · rename_i hc
      obtain ⟨p, vs, rfl, h1, h2⟩ := hx.lst
      obtain ⟨p', vs', rfl, h3, h4⟩ := hy.lst
      exact ⟨p, p', vs, vs', rfl, rfl, h1, h3, sizeLine16 (by rw [h2.len, h4.len]; exact hc), po_newL i (h2.app h4) q⟩
    · exact q.elim
  · exact q.elim
end
/-- t * k of a tuple (fewer than a thousand items of either) -/
def oRepT (d e : D) : Res D := match d, e with
  | .tup xs, .int k => if xs.isEmpty then .ok (.tup []) else .bad
  | _, _ => .bad

/-! ### places and parts -/
@[simp] def oIx (d e : D) : Res D := match d, e with
  | .lst xs, .int i => match atI xs i with
    | some v => .ok v
    | none => .bad
  | .rol xs, .int i => match atI xs i with
    | some v => .ok v
    | none => .bad
  | .tup xs, .int i => match atI xs i with
    | some v => .ok v
    | none => .bad
  | .str x, .int i => if x.length ≤ 16777216 then (match atI x.cps.toList i with
    | some c => .ok (.str ⟨#[c]⟩)
    | none => .bad) else .bad
  | _, _ => .bad
theorem atI_up {K : Frg} {mg : Mg} {S : Hp} {vs : List V} {ds : List D} {i : Int} {d : D} (r : RpA K mg S vs ds) (h : atI ds i = some d) : ∃ v, atI vs i = some v ∧ Rp K mg S v d := by
  unfold atI at h ⊢
  rw [r.len]
  cases e : ixN ds.length i with
  | none => rw [e] at h; cases h
  | some j =>
    rw [e] at h
    exact r.get h
theorem o_ix {K : Frg} {mg : Mg} : O2 K mg (rIx K) oIx := fun S σ H x y d e W Q i hx hy q => by
  unfold oIx at q
  split at q
  · split at q
    · rename_i v ha
      obtain ⟨p, vs, rfl, h1, h2⟩ := hx.lst
      obtain ⟨u, h3, h4⟩ := atI_up h2 ha
      exact .inl ⟨p, vs, _, u, rfl, hy.int, SqL.of h1, h3, q _ _ _ (Gr.refl i) h4⟩
    · exact q.elim
  · split at q
    · rename_i v ha
      obtain ⟨p, vs, rfl, h1, h2⟩ := hx.rol i
      obtain ⟨u, h3, h4⟩ := atI_up h2 ha
      exact .inl ⟨p, vs, _, u, rfl, hy.int, h1, h3, q _ _ _ (Gr.refl i) h4⟩
    · exact q.elim
  · split at q
    · rename_i v ha
      obtain ⟨p, vs, rfl, h1, _, h2⟩ := hx.tup i
      obtain ⟨u, h3, h4⟩ := atI_up h2 ha
      exact .inr (.inl ⟨p, vs, _, u, rfl, hy.int, h1, h3, q _ _ _ (Gr.refl i) h4⟩)
    · exact q.elim
  · split at q
    · rename_i hl
      split at q
      · rename_i c hc
        exact .inr (.inr ⟨_, _, c, hx.str, hy.int, sizeLine16 hl, hc, q _ _ _ (Gr.refl i) (.str _)⟩)
      · exact q.elim
    · exact q.elim
  · exact q.elim

/-! ### built-ins -/
@[simp] def bLen (d : D) : Res D := match d with
  | .lst xs => .ok (.int xs.length)
  | .rol xs => .ok (.int xs.length)
  | .tup xs => .ok (.int xs.length)
  | .str x => if x.length ≤ 16777216 then .ok (.int x.length) else .bad
  | _ => .bad
@[simp] def bAbs (d : D) : Res D := match d with
  | .int i => .ok (.int (if i < 0 then -i else i))
  | _ => .bad
@[simp] def bInt (d : D) : Res D := match d with
  | .int i => .ok (.int i)
  | .bl b => .ok (.int (if b then 1 else 0))
  | _ => .bad
@[simp] def bTup (d : D) : Res D := match d with
  | .lst xs => .ok (.tup xs)
  | .rol xs => .ok (.tup xs)
  | .tup xs => .ok (.tup xs)
  | _ => .bad
@[simp] def bLst (d : D) : Res (List D) := match d with
  | .lst xs => .ok xs
  | .rol xs => .ok xs
  | .tup xs => .ok xs
  | _ => .bad
@[simp] def bGcd (d e : D) : Res D := match d, e with
  | .int i, .int j => .ok (.int ((Nat.gcd i.natAbs j.natAbs : Nat) : Int))
  | _, _ => .bad
def dInts : List D → Option (List Int)
  | [] => some []
  | .int i :: r => (dInts r).map (i :: ·)
  | _ => none
def dBls : List D → Option (List Bool)
  | [] => some []
  | .bl i :: r => (dBls r).map (i :: ·)
  | _ => none
theorem dInts_map : ∀ {ds : List D} {ns : List Int}, dInts ds = some ns → ds = ns.map D.int
  | [], ns, h => by cases h; rfl
  | d :: r, ns, h => by
    cases d <;> first | cases h | skip
    rename_i i
    simp only [dInts, Option.map_eq_some_iff] at h
    obtain ⟨ms, h1, rfl⟩ := h
    rw [dInts_map h1]
    rfl
theorem dBls_map : ∀ {ds : List D} {ns : List Bool}, dBls ds = some ns → ds = ns.map D.bl
  | [], ns, h => by cases h; rfl
  | d :: r, ns, h => by
    cases d <;> first | cases h | skip
    rename_i i
    simp only [dBls, Option.map_eq_some_iff] at h
    obtain ⟨ms, h1, rfl⟩ := h
    rw [dBls_map h1]
    rfl
@[simp] theorem dInts_ok : ∀ ns : List Int, dInts (ns.map D.int) = some ns
  | [] => rfl
  | n :: ns => by simp [dInts, dInts_ok ns]
@[simp] theorem dBls_ok : ∀ ns : List Bool, dBls (ns.map D.bl) = some ns
  | [] => rfl
  | n :: ns => by simp [dBls, dBls_ok ns]
@[simp] def seqOf (d : D) : Option (List D) := match d with
  | .lst ds => some ds
  | .rol ds => some ds
  | _ => none
theorem Rd1.seq {K : Frg} {mg : Mg} {S H : Hp} {v : V} {d : D} {ds : List D} (i : Same S H) (h : Rd1 K mg S H v d) (e : seqOf d = some ds) : ∃ (p : Addr) (vs : List V), v = .ref p ∧ SqL K H p vs ∧ RpA K mg S vs ds := by
  cases d <;> cases e
  · obtain ⟨p, vs, h1, h2, h3⟩ := h.lst
    exact ⟨p, vs, h1, SqL.of h2, h3⟩
  · exact h.rol i
@[simp] def bSum (d : D) : Res D := match seqOf d with
  | some ds => match dInts ds with
    | some ns => .ok (.int ns.sum)
    | none => .bad
  | none => .bad
@[simp] def bAll (d : D) : Res D := match seqOf d with
  | some ds => match dBls ds with
    | some ns => .ok (.bl (ns.all id))
    | none => .bad
  | none => .bad
@[simp] def bAny (d : D) : Res D := match seqOf d with
  | some ds => match dBls ds with
    | some ns => .ok (.bl (ns.any id))
    | none => .bad
  | none => .bad
@[simp] def bBits (d : D) : Res D := match d with
  | .int i => .ok (.int (Builtin.Int.intBits i : Nat))
  | _ => .bad
/-- the built-in type of a value -/
@[simp] def dTy (d : D) : Option String := match d with
  | .non => some "NoneType"
  | .bl _ => some "bool"
  | .int _ => some "int"
  | .str _ => some "str"
  | .lst _ => some "list"
  | .tup _ => some "tuple"
  | _ => none
@[simp] def bIsi (t : String) (d : D) : Res D := match dTy d with
  | some a => match kitB a t with
    | some b => .ok (.bl b)
    | none => .bad
  | none => .bad
section
variable {K : Frg} {mg : Mg}
theorem b_len : U1 K mg (fun v => (fun xs H Q => ∃ x n, xs = [x] ∧ LenV K x H n ∧ Q (V.int n) H : List V → Hp → VK → Prop) [v]) bLen := fun S σ H v d W Q i hx q => by
  unfold bLen at q
  split at q
  · obtain ⟨p, vs, rfl, h1, h2⟩ := hx.lst
    exact ⟨_, _, rfl, .inl ⟨vs, SqL.of h1, rfl⟩, by rw [h2.len]; exact q _ _ _ (Gr.refl i) (.int _)⟩
  · obtain ⟨p, vs, rfl, h1, h2⟩ := hx.rol i
    exact ⟨_, _, rfl, .inl ⟨vs, h1, rfl⟩, by rw [h2.len]; exact q _ _ _ (Gr.refl i) (.int _)⟩
  · obtain ⟨p, vs, rfl, h1, _, h2⟩ := hx.tup i
    exact ⟨_, _, rfl, .inr ⟨vs, h1, rfl⟩, by rw [h2.len]; exact q _ _ _ (Gr.refl i) (.int _)⟩
  · split at q
    · rename_i hl
      rw [hx.str]
      exact ⟨_, _, rfl, ⟨sizeLine16 hl, rfl⟩, q _ _ _ (Gr.refl i) (.int _)⟩
    · exact q.elim
  · exact q.elim
theorem b_abs : U1 K mg (fun v => (fun xs H Q => ∃ i, xs = [V.int i] ∧ Q (V.int (if i < 0 then -i else i)) H : List V → Hp → VK → Prop) [v]) bAbs := fun S σ H v d W Q i hx q => by
  unfold bAbs at q
  split at q
  · rw [hx.int]; exact ⟨_, rfl, q _ _ _ (Gr.refl i) (.int _)⟩
  · exact q.elim
theorem b_int : U1 K mg (fun v => (fun xs H Q => (∃ i, xs = [V.int i] ∧ Q (V.int i) H) ∨ ∃ k, xs = [V.bl k] ∧ Q (V.int (if k then 1 else 0)) H : List V → Hp → VK → Prop) [v]) bInt := fun S σ H v d W Q i hx q => by
  unfold bInt at q
  split at q
  · rw [hx.int]; exact .inl ⟨_, rfl, q _ _ _ (Gr.refl i) (.int _)⟩
  · rw [hx.bl]; exact .inr ⟨_, rfl, q _ _ _ (Gr.refl i) (.int _)⟩
  · exact q.elim
theorem b_tup : U1 K mg (fun v => (fun xs H Q => ∃ p ys, xs = [V.ref p] ∧ ((SqL K H p ys ∧ ∀ l, H l = none → Q (V.ref l) (upd H l (.tup ys))) ∨ (SqT K H p ys ∧ Q (V.ref p) H)) : List V → Hp → VK → Prop) [v]) bTup := fun S σ H v d W Q i hx q => by
  unfold bTup at q
  split at q
  · obtain ⟨p, vs, rfl, h1, h2⟩ := hx.lst
    exact ⟨p, vs, rfl, .inl ⟨SqL.of h1, po_new i h2 q⟩⟩
  · obtain ⟨p, vs, rfl, h1, h2⟩ := hx.rol i
    exact ⟨p, vs, rfl, .inl ⟨h1, po_new i h2 q⟩⟩
  · obtain ⟨p, vs, rfl, h1, h2, h3⟩ := hx.tup i
    exact ⟨p, vs, rfl, .inr ⟨h1, q _ _ _ (Gr.refl i) (.tup h2 h3)⟩⟩
  · exact q.elim
theorem b_lst : U1F K mg (fun v => (fun xs H Q => ∃ p ys, xs = [V.ref p] ∧ (SqL K H p ys ∨ SqT K H p ys) ∧ ∀ l, H l = none → Q (V.ref l) (upd H l (.lst ys)) : List V → Hp → VK → Prop) [v]) bLst := fun S σ H v d W Q i hx q => by
  unfold bLst at q
  split at q
  · obtain ⟨p, vs, rfl, h1, h2⟩ := hx.lst
    exact ⟨p, vs, rfl, .inl (SqL.of h1), po_newL i h2 q⟩
  · obtain ⟨p, vs, rfl, h1, h2⟩ := hx.rol i
    exact ⟨p, vs, rfl, .inl h1, po_newL i h2 q⟩
  · obtain ⟨p, vs, rfl, h1, h2, h3⟩ := hx.tup i
    exact ⟨p, vs, rfl, .inr h1, po_newL i h3 q⟩
  · exact q.elim
theorem b_gcd : O2 K mg (fun v w => rGcd [v, w]) bGcd := fun S σ H x y d e W Q i hx hy q => by
  unfold bGcd at q
  split at q
  · rw [hx.int, hy.int]; exact ⟨_, _, rfl, q _ _ _ (Gr.refl i) (.int _)⟩
  · exact q.elim
theorem b_sum : U1 K mg (fun v => rSum K [v]) bSum := fun S σ H v d W Q i hx q => by
  unfold bSum at q
  split at q
  · rename_i ds e
    split at q
    · rename_i ns e2
      obtain ⟨p, vs, rfl, h1, h2⟩ := hx.seq i e
      rw [dInts_map e2] at h2
      rw [h2.ints] at h1
      exact ⟨p, ns, rfl, h1, q _ _ _ (Gr.refl i) (.int _)⟩
    · exact q.elim
  · exact q.elim
theorem b_all : U1 K mg (fun v => rAll K [v]) bAll := fun S σ H v d W Q i hx q => by
  unfold bAll at q
  split at q
  · rename_i ds e
    split at q
    · rename_i ns e2
      obtain ⟨p, vs, rfl, h1, h2⟩ := hx.seq i e
      rw [dBls_map e2] at h2
      rw [h2.bls] at h1
      exact ⟨p, ns, rfl, h1, q _ _ _ (Gr.refl i) (.bl _)⟩
    · exact q.elim
  · exact q.elim
theorem b_any : U1 K mg (fun v => rAny K [v]) bAny := fun S σ H v d W Q i hx q => by
  unfold bAny at q
  split at q
  · rename_i ds e
    split at q
    · rename_i ns e2
      obtain ⟨p, vs, rfl, h1, h2⟩ := hx.seq i e
      rw [dBls_map e2] at h2
      rw [h2.bls] at h1
      exact ⟨p, ns, rfl, h1, q _ _ _ (Gr.refl i) (.bl _)⟩
    · exact q.elim
  · exact q.elim
theorem Rd1.tyx {S H : Hp} {v : V} {d : D} {a : String} (i : Same S H) (h : Rd1 K mg S H v d) (e : dTy d = some a) : TyX K H v (.type a) := by
  cases d with
  | non => cases e; rw [h.non]; exact .base .non
  | bl b => cases e; rw [h.bl]; exact .base (.bl b)
  | int n => cases e; rw [h.int]; exact .base (.int n)
  | str x => cases e; rw [h.str]; exact .base (.str x)
  | lst ds => cases e; obtain ⟨p, vs, rfl, h1, h2⟩ := h.lst; exact .base (.lst h1)
  | tup ds =>
    cases e
    obtain ⟨p, vs, rfl, h1, h2, h3⟩ := h.tup i
    rcases h1 with (h1 | ⟨o, h1⟩) | ⟨o, its, n, h1, h2, _⟩
    · exact .base (.tup h1)
    · exact .fTuple h1
    · exact .kTuple h1 h2
  | _ => cases e
/-- isinstance(x, T), T a built-in class -/
theorem me_isi {X : Cx} {hx : Hx} {W : WX} {a : Expr} {fa : Sl → Res D} {t : Str} {T : String} {p p1 pos : Pos} (ha : MR X hx W a fa) (hv : bootBuiltins t = some (.type T)) (hm : X.mg "isinstance" = none) (hm2 : X.mg t = none) (hg : Gl X "isinstance" := by rfl) (hg2 : Gl X t := by rfl) (hn : t ≠ "__name__" := by decide) (hdb : (t == ("__debug__" : Str)) = false := by decide)
    (hs : starEach [a, .Name t p1] X.env = (false, eval a X.env) :: starEach [.Name t p1] X.env := by rfl) (hs2 : starEach [.Name t p1] X.env = (false, eval (.Name t p1) X.env) :: starEach [] X.env := by rfl) (hpl : (backTo pos (starEach [.Name t p1] X.env)).any (·.1) = false := by rfl) :
    ME X hx W (.Call (.Name "isinstance" p) [a, .Name t p1] [] pos) (sUn (bIsi T) fa) :=
  pe_imp (pe_callB (x := "isinstance") call_isi hg hm PyProof.Rows.boot_isinstance (pa_cons ha (pa_cons (pe_bltn (v := .ty T) hg2 hm2 hv rfl hn hdb) pa_nil hs2) hs) (by decide) (by decide) hs hpl) fun σ H Q ⟨b, S, ρ, R, q⟩ => ⟨b, S, ρ, R, q.bind fun d v S1 H1 g1 r1 k => by
    unfold bIsi at k
    split at k
    · rename_i a e1
      split at k
      · rename_i tb e2
        exact ⟨v, .ty T, .type a, .type T, tb, rfl, .ty T, Rd1.tyx g1.i r1 e1, kit_ty e2, k _ S1 H1 g1 (.bl tb)⟩
      · exact k.elim
    · exact k.elim⟩
/-- x.bit_length() -/
theorem me_bits {X : Cx} {hx : Hx} {W : WX} {o : Expr} {fo : Sl → Res D} {apos pos : Pos} (ho : MR X hx W o fo) (hbase : attributeBase o "bit_length" X.env (eval o X.env) = eval o X.env := by rfl) (hline : (apos.endLine == pos.line) = true := by rfl) :
    ME X hx W (.Call (.Attribute o "bit_length" apos) [] [] pos) (sUn bBits fo) := pe_imp (pe_bits ho hbase hline) fun σ H Q ⟨b, S, ρ, R, q⟩ => ⟨b, S, ρ, R, q.bind fun d v S1 H1 g1 r1 k => by
    unfold bBits at k
    split at k
    · exact ⟨_, r1.int, k _ S1 H1 g1 (.int _)⟩
    · exact k.elim⟩
/-- a slice's part -/
abbrev rrP : RR (Option Int) (Option Int) := fun _ _ _ b c => b = c
@[simp] def pNone (_ : Sl) : Res (Option Int) := .ok none
@[simp] def pSome (f : Sl → Res D) (ρ : Sl) : Res (Option Int) := (f ρ).bind fun d => match d with
  | .int i => .ok (some i)
  | _ => .bad
abbrev MP (X : Cx) (hx : Hx) (W : WX) (e : Option Expr) (f : Sl → Res (Option Int)) : Prop := PO X e (tG X.K X.mg hx rrP W f)
theorem po_imp {X : Cx} {e : Option Expr} {t t' : TO} (h : PO X e t) (i : ∀ σ H Q, t' σ H Q → t σ H Q) : PO X e t' := ⟨fun pins s σ H Q I q => h.run pins s σ H Q I (i σ H Q q)⟩
theorem mp_none {X : Cx} {hx : Hx} {W : WX} : MP X hx W none pNone := po_imp po_none fun σ H Q ⟨b, S, ρ, R, q⟩ => q none S H (Gr.refl R.sh) rfl
theorem mp_some {X : Cx} {hx : Hx} {W : WX} {e : Expr} {f : Sl → Res D} (h : ME X hx W e f) : MP X hx W (some e) (pSome f) := po_imp (po_some h) fun σ H Q ⟨b, S, ρ, R, q⟩ => ⟨b, S, ρ, R, q.bind fun d v S1 H1 g1 r1 k => by
  cases d <;> first | exact k.elim | skip
  cases r1
  exact ⟨_, rfl, k _ S1 H1 g1 rfl⟩⟩
theorem Po.upP {W : WX} {S H S' H' : Hp} {σ : L2.St} {r : Res (Option Int)} {Q : Option Int → Hp → Prop} (g : Gr S H S' H') (h : Po K mg rrP W S σ H r Q) : Po K mg rrP W S' σ H' r Q := h.up g fun _ _ _ _ _ q => q
def cutD (xs : List D) (lo hi : Option Int) : List D := (xs.drop (HT.sIx xs.length 0 lo)).take (HT.sIx xs.length xs.length hi - HT.sIx xs.length 0 lo)
theorem RpA.cut {S : Hp} {vs : List V} {ds : List D} (r : RpA K mg S vs ds) (lo hi : Option Int) : RpA K mg S (cutV vs lo hi) (cutD ds lo hi) := by
  unfold cutV cutD
  rw [r.len]
  exact (r.drop _).take _
@[simp] def fSl (f : Sl → Res D) (l h : Sl → Res (Option Int)) (ρ : Sl) : Res (List D) := (f ρ).bind fun d => (l ρ).bind fun lo => (h ρ).bind fun hi => match seqOf d with
  | some xs => .ok (cutD xs lo hi)
  | none => .bad
/-- a slice of a list: new -/
theorem mf_sl {X : Cx} {hx : Hx} {W : WX} {e : Expr} {lo hi : Option Expr} {f : Sl → Res D} {l h : Sl → Res (Option Int)} {pos p2 : Pos} (he : MR X hx W e f) (hl : MP X hx W lo l) (hh : MP X hx W hi h) : MF X hx W (.Subscript e (.Slice lo hi none p2) pos) (fSl f l h) :=
  pe_imp (pe_slice sl_list he hl hh) fun σ H Q ⟨b, S, ρ, R, q⟩ => ⟨b, S, ρ, R, q.bind fun d v S1 H1 g1 r1 k => ⟨b, S1, ρ, R.grow g1, (k.upF g1).bind fun d2 v2 S2 H2 g2 r2 k2 => ⟨b, S2, ρ, (R.grow g1).grow g2, (k2.upF g2).bind fun d3 v3 S3 H3 g3 r3 k3 => by
    cases r2
    cases r3
    split at k3
    · rename_i xs e1
      obtain ⟨p, vs, rfl, h1, h2⟩ := ((r1.up g2).up g3).seq g3.i e1
      exact ⟨p, vs, rfl, h1, po_newL g3.i (h2.cut _ _) (Po.upF g3 k3)⟩
    · exact k3.elim⟩⟩⟩
@[simp] def sSl (f : Sl → Res D) (l h : Sl → Res (Option Int)) (ρ : Sl) : Res D := (f ρ).bind fun d => (l ρ).bind fun lo => (h ρ).bind fun hi => match d with
  | .tup xs => .ok (.tup (cutD xs lo hi))
  | .str x => if x.length ≤ 16777216 then .ok (.str (cutS x lo hi)) else .bad
  | .lst xs => .ok (.lst (cutD xs lo hi))
  | .rol xs => .ok (.lst (cutD xs lo hi))
  | _ => .bad
end
end PF

set_option Elab.async false
set_option linter.all false
set_option maxRecDepth 100000
set_option maxHeartbeats 4000000
namespace PF
open PySem PySem.Spec L2

/-- a def of the text that keeps its promise, as its callers see it -/
structure Df (P : Program) (w : World) (K : Frg) (mg : Mg) (base : Heap) (x : Str) (k : Nat) (f : Addr) (fd : FuncData) (ps : List Str) (g : List D → Res D) : Prop where
  ok : FnOk P w K mg base (L2.CX P w) k f fd ps (spF K mg ps.length g)
  mg : mg x = some (.ref f)
  kp : PySem.W.keepIn K (.ref f) = true
  bi : Binds K fd ps []
theorem me_calD {X : Cx} {hx : Hx} {W : WX} {k : Nat} {f : Addr} {fd : FuncData} {ps : List Str} {g : List D → Res D} {x : Str} {p pos : Pos} {e : Expr} {es : List Expr} {fs : Sl → Res (List D)} (G : Df X.prog X.w X.K X.mg X.base x k f fd ps g) (hr : Room k X.A) (cw : Cw X W)
    (ha : MA X hx W (e :: es) fs) (hfl : ∀ ρ ds, fs ρ = .ok ds → ds.length = ps.length) (hg : Gl X x := by rfl) (hdb : (x == ("__debug__" : Str)) = false := by decide) (he : starEach (e :: es) X.env = (false, eval e X.env) :: starEach es X.env := by rfl) (hpl : (backTo pos (starEach es X.env)).any (·.1) = false := by rfl) :
    ME X hx W (.Call (.Name x p) (e :: es) [] pos) (sCall g fs) :=
  pe_imp (pe_callS G.ok hr hg G.mg G.kp G.bi cw ha hdb he hpl) fun σ H Q ⟨b, S, ρ, R, q⟩ => ⟨b, S, ρ, R, by
    unfold sCall at q
    cases ef : fs ρ with
    | exc y ys => rw [ef] at q; exact q
    | bad => rw [ef] at q; exact q
    | ok ds =>
      rw [ef] at q
      intro v S1 H1 g1 r1
      refine ⟨ds, S1, by rw [r1.len]; exact hfl ρ ds ef, g1.i, r1, ?_⟩
      have q1 : Po X.K X.mg (rrE X.K X.mg) W S1 σ H1 (g ds) Q := Po.upE g1 q
      cases eg : g ds with
      | ok d => rw [eg] at q1; exact q1
      | exc y ys => rw [eg] at q1; exact q1
      | bad => rw [eg] at q1; exact q1⟩
/-- a, b = e1, e2 (two local names) -/
@[simp] def gPar (i j : Nat) (f h : Sl → Res D) (ρ : Sl) : Out := rS (f ρ) ρ fun d => rS (h ρ) ρ fun e => .nx ((ρ.set i (.v d)).set j (.v e))
theorem ms_par {X : Cx} {hx : Hx} {W : WX} (i j : Nat) {x y : Str} {a b : Expr} {f h : Sl → Res D} {px py pt pos : Pos} {kt k2 pt2} (hc : X.calm = true) (hN : X.N.Nodup) (ha : ME X hx W a f) (hb : ME X hx W b h) (hi : X.N[i]? = some x := by rfl) (hj : X.N[j]? = some y := by rfl) (hij : i ≠ j := by decide)
    (hx' : X.env.scope.names.lookup x = some .local := by rfl) (hy : X.env.scope.names.lookup y = some .local := by rfl)
    (s1 : starEach [a, b] X.env = (false, eval a X.env) :: starEach [b] X.env := by rfl) (s2 : starEach [b] X.env = (false, eval b X.env) :: starEach [] X.env := by rfl)
    (hw : swappedStores [.Tuple [.Name x px, .Name y py] kt pt] (.Tuple [a, b] k2 pt2) X.env = pure (some [x, y]) := by rfl)
    (hs : swapsWithSole [.Tuple [.Name x px, .Name y py] kt pt] (.Tuple [a, b] k2 pt2) pos.line X.env = pure false := by rfl) :
    MS X hx W (.Assign [.Tuple [.Name x px, .Name y py] kt pt] (.Tuple [a, b] k2 pt2) pos) (gPar i j f h) :=
  ps_imp (ps_par hc hN hi hj hij hx' hy (pa_cons ha (pa_cons hb pa_nil s2) s1) hw hs) fun D σ H ⟨b, S, ρ, R, q⟩ =>
    ⟨b, S, ρ, R, rS_po R q fun d v S1 H1 g1 r1 k => ⟨b, S1, ρ, R.grow g1, rS_po (R.grow g1) (PoS.up g1.s k) fun d2 v2 S2 H2 g2 r2 k2 =>
      ⟨v, v2, rfl, k2 S2 _ H2 g2.s ((((R.grow g1).grow g2).put (r1.up g2.s _ _)).put r2)⟩⟩⟩

/-! ### isinstance(e, (c1, c2, ..)) of the exception that a suite holds -/
def rIsET (K : Frg) (D0 a : Addr) : List V → Hp → VK → Prop := fun xs H Q => ∃ (tp : Addr) (cs : List V) (us : List Value) (b : Bool), xs = [.ref a, .ref tp] ∧ H tp = some (.tup cs) ∧ Paired ClsV cs us ∧ PySem.W.kitAny K (.ref D0) us = some b ∧ Q (.bl b) H
theorem call_isET {X : Cx} {a D0 : Addr} {oe : Obj} {pn : List (Addr × Obj)} (C : ExcC X.K D0) (hz : Zc (.ref D0) none oe) (hf : ∃ vs, oe.data = .fields vs) : CallR (X.suite a ((a, oe) :: pn)) (.builtin "isinstance") (rIsET X.K D0 a) := by
  intro pins s σ H xs us Q I r h
  obtain ⟨tp, cs, ws, b, rfl, hT, k, e, q⟩ := h
  obtain ⟨u1, u2, rfl, r1, r2⟩ := vals2 r
  cases (show u1 = Value.ref a from r1)
  cases (show u2 = Value.ref tp from r2)
  obtain ⟨hget, _⟩ := I.pin (a, oe) (List.mem_append.mpr (.inl List.mem_cons_self))
  obtain ⟨vs, hv⟩ := hf
  have J : PySem.W.InstAt s.heap a oe D0 none := by
    obtain ⟨oc, od, oda, osl⟩ := oe
    obtain ⟨h1, h2⟩ := hz
    dsimp only at h1 h2 hv
    subst h1 h2 hv
    exact ⟨hget, rfl, rfl, trivial⟩
  obtain ⟨_, its, rv, o, h1, h2, n, h3⟩ := (show ObjOk X.prog X.w H s.heap tp (.tup cs) from I.hok tp _ hT)
  have e3 := ClsV.all k rv
  subst e3
  obtain ⟨oc, od, dt, sl⟩ := o
  simp only at h2 h3
  subst h2 h3
  exact PySem.W.kia_tup (PySem.W.handS_kitx_exc C.hg C.hk C.hs C.hd C.ha C.hn C.ht C.hm) I.kIn J h1 e (fun z => nomatch z) fun tk => ⟨.bl b, H, I.kept (t' := tk) fun _ _ z => z, rfl, q⟩
def tcs : List V → TA
  | [] => tNil
  | c :: cs => tCons (tC c) (tcs cs)
theorem tcs_run {σ : L2.St} {H : Hp} : ∀ (cs : List V) (Q : List V → Hp → Prop), Q cs H → tcs cs σ H Q
  | [], _, h => h
  | c :: cs, Q, h => tcs_run cs _ h
theorem me_isET {X : Cx} {a D0 : Addr} {oe : Obj} {pn : List (Addr × Obj)} {d : Option Addr} {W : WX} {ces : List Expr} {n : Str} {p p1 pos pt : Pos} {kt} {cvs : List V} {cus : List Value} (i : Nat) {tab : Str → Option Bool} (hz : Zc (.ref D0) d oe) (hf : ∃ vs, oe.data = .fields vs) (ht : TabT X.K X.mg tab cus)
    (hv : PE (X.suite a ((a, oe) :: pn)) (.Name n p1) (tVar i)) (hc : PA (X.suite a ((a, oe) :: pn)) ces (tcs cvs)) (k : Paired ClsV cvs cus) (hm : X.mg "isinstance" = none) (hl : cvs.length ≤ 1000 := by simp) (hg : Gl X "isinstance" := by rfl)
    (hs : starEach [.Name n p1, .Tuple ces kt pt] X.env = (false, eval (.Name n p1) X.env) :: starEach [.Tuple ces kt pt] X.env := by rfl) (hs2 : starEach [.Tuple ces kt pt] X.env = (false, eval (.Tuple ces kt pt) X.env) :: starEach [] X.env := by rfl) (hpl : (backTo pos (starEach [.Tuple ces kt pt] X.env)).any (·.1) = false := by rfl) :
    ME (X.suite a ((a, oe) :: pn)) (some (a, D0, d)) W (.Call (.Name "isinstance" p) [.Name n p1, .Tuple ces kt pt] [] pos) (sIsE i tab) := ⟨fun pins s σ H Q I ⟨b, S, ρ, R, q⟩ => by
  unfold sIsE at q
  split at q
  · rename_i x e
    obtain ⟨a1, C1, d1, h1, h2, h3, h4⟩ := R.xc i x [] e
    cases h1
    split at q
    · rename_i tb et
      obtain ⟨t1, t2⟩ := ht x D0 tb h3 et
      have hd := xd_none h4
      subst hd
      exact (pe_callB (x := "isinstance") (call_isET (X := X) (a := a) (pn := pn) t1 hz hf) hg hm PyProof.Rows.boot_isinstance (pa_cons hv (pa_cons (pe_tup hc) pa_nil hs2) hs) (by decide) (by decide) hs hpl).run pins s σ H Q I ⟨_, h2, tcs_run cvs _ ⟨Nat.le_trans hl (sizeLine16 (by decide)), fun tp htp => ⟨tp, cvs, cus, tb, rfl, upd_same, k, t2, q _ _ _ (Gr.heap R.sh (same_new htp)) (.bl tb)⟩⟩⟩
    · exact q.elim
  · exact q.elim⟩
theorem iop_mulU {X : Cx} : PIp X .Mult (rI (fun i j => mulOk i j = true) fun i j => .int (i * j)) := (opI fun _ _ _ _ _ _ _ hc q => PyProof.Rows.imul_int q (CMulX_of_small hc) : OpR X (inplaceOp .Mult) _)
def whFuel : Nat := 1000000000000000000
/-- no exception leaves -/
theorem fn_calm {P : Program} {w : World} {K : Frg} {mg : Mg} {base : Heap} {k : Nat} {f : Addr} {fd : FuncData} {ps : List Str} {sp : Sp} (F : FnOk P w K mg base (L2.CX P w) k f fd ps sp) : FnOk P w K mg base CX0 k f fd ps (fun vs H Q _ => sp vs H Q fun _ _ _ => False) :=
  ⟨fun vs H Q E h => F.len _ _ _ _ h, fun A outer s H args us vs Q E hr he hb hv h => codeAny_mono (F.run A outer s H args us vs Q _ hr he hb hv h) fun r s' q => by
    cases r with
    | ok fl => cases fl <;> exact q
    | error e =>
      obtain ⟨_, _, _, _, _, _, _, _, _, _, _, _, z⟩ := q
      exact z.elim⟩
/-- law's own promise -/
def spLaw (K : Frg) : Sp := fun vs H Q _ => ∃ (a : Addr) (ns : List Int), vs = [.ref a] ∧ SqL K H a (ns.map V.int) ∧ ns.length ≤ 63 ∧ ∀ H', Q (.bl true) H'
theorem law_ok {P : Program} {w : World} {K : Frg} {mg : Mg} {base : Heap} {k : Nat} {f : Addr} {fd : FuncData} {g : List D → Res D} (F : FnOk P w K mg base (L2.CX P w) k f fd ["script"] (spF K mg 1 g))
    (h : ∀ ns : List Int, ns.length ≤ 63 → g [.rol (ns.map D.int)] = .ok (.bl true)) : FnOk P w K mg base CX0 k f fd ["script"] (spLaw K) :=
  (fn_calm F).imp fun vs H Q E ⟨a, ns, e, hS, hl, q⟩ => by
    subst e
    refine ⟨[.rol (ns.map D.int)], H, rfl, Same.refl _, .cons (.rol hS (RpA.of_ints ns)) .nil, ?_⟩
    rw [h ns hl]
    intro v S' H' g1 r1
    cases r1
    exact q H'
end PF

set_option Elab.async false
set_option linter.all false
set_option maxRecDepth 100000
set_option maxHeartbeats 4000000
/-! the head: a law's facts as one Bool of the written part, its defs by their places -/
namespace PF
open PySem PySem.Spec L2

abbrev AlP : Type := Bool × List He.FnW
def obsP (fa : List (Frg → Bool)) (fn : List He.DefD) (K : Frg) : AlP := ((fa.all fun f => f K) && fn.all fun d => d.ok K, fn.map fun d => He.fnW K d.at_)
def valP (fn : List He.DefD) : AlP := (true, fn.map He.DefD.val)
def SaysP (fa : List (Frg → Bool)) (fn : List He.DefD) (K : Frg) : Prop := obsP fa fn K = valP fn
def obsPG (n : Nat) (fa : List (Frg → Bool)) (fn : List He.DefD) (g : Addr → Option Obj) : AlP := obsP fa fn (He.frG g (He.asD g n))
def hookP (n : Nat) (fa : List (Frg → Bool)) (fn : List He.DefD) : PySem.W.Hook where
  α := AlP
  obs := fun s => obsPG n fa fn s.heap.get?
  val := fun _ => valP fn
  says := fun _ h => ∃ K : Frg, K.In h ∧ SaysP fa fn K
  of := fun _ _ e => ⟨_, He.frG_in, e⟩
  keeps := fun _ _ _ ⟨K, hK, c⟩ k => ⟨K, PySem.W.Frag.In.keeps hK k, c⟩
theorem obsPG_eq {n : Nat} {fa : List (Frg → Bool)} {fn : List He.DefD} {g : Addr → Option Obj} {s : Shared} (h : ∀ a, g a = s.heap.get? a) : obsPG n fa fn g = (hookP n fa fn).obs s := by
  have e : g = s.heap.get? := funext h
  rw [e] <;> rfl
section
variable {fa : List (Frg → Bool)} {fn : List He.DefD} {K : Frg}
theorem SaysP.fact (c : SaysP fa fn K) (i : Nat) {f : Frg → Bool} (h : fa[i]? = some f := by rfl) : f K = true := by
  have c1 := (He.ba (show ((fa.all fun f => f K) && fn.all fun d => d.ok K) = true from congrArg (fun z : AlP => z.1) c)).1
  exact List.all_eq_true.mp c1 f (List.mem_of_getElem? h)
theorem SaysP.def_ (c : SaysP fa fn K) (i : Nat) {d : He.DefD} (h : fn[i]? = some d := by rfl) : ∃ fd, FunD K d.name d.qual d.params d.body d.scope (d.dvs K) (d.kws K) (He.fAd K d.at_) fd := by
  have c2 := (He.ba (show ((fa.all fun f => f K) && fn.all fun d => d.ok K) = true from congrArg (fun z : AlP => z.1) c)).2
  have e : fn.map (fun d => He.fnW K d.at_) = fn.map He.DefD.val := congrArg (fun z : AlP => z.2) c
  have e2 : (fn.map fun d => He.fnW K d.at_)[i]? = (fn.map He.DefD.val)[i]? := by rw [e]
  rw [List.getElem?_map, List.getElem?_map, h] at e2
  exact He.DefD.funD (Option.some.inj e2) (List.all_eq_true.mp c2 d (List.mem_of_getElem? h))
end
theorem fun_of {K : Frg} {x qual : Str} {st : Stmt} {f : Addr} {fd : FuncData} {kws : List (Str × V)} (F : FunD K x qual (defArgs st) (defBody st) (defScope st) [] kws f fd) : Fun K x qual st f fd := by
  obtain ⟨oc, od, dV, kV, doc, pm, an, cdv, ct, osl, rfl, h2, h3, h4, h5⟩ := F.ex
  rcases h4 with ⟨_, rfl⟩ | ⟨h, _⟩
  · exact ⟨⟨oc, od, kV, doc, pm, an, cdv, ct, osl, rfl, h2, h3⟩, F.kp⟩
  · exact absurd rfl h
/-- one def of the text: a global one without defaults -/
def dD (x : Str) (st : Stmt) : He.DefD := ⟨(x, none), x, x, defArgs st, defBody st, defScope st, [], []⟩
theorem df_mk {P : Program} {w : World} {K : Frg} {mg : Mg} {base h : Heap} {x : Str} {st : Stmt} {fd : FuncData} {k : Nat} {ps : List Str} {g : List D → Res D} (X : K.In h) (G : h.Ns mainGlobals mg) (F : FunD K x x (defArgs st) (defBody st) (defScope st) [] [] (He.fAd K (x, none)) fd)
    (c : (He.Fa.glo x).ok K = true) (hb : Binds K fd ps []) (ok : FnOk P w K mg base (L2.CX P w) k (He.fAd K (x, none)) fd ps (spF K mg ps.length g)) : Df P w K mg base x k (He.fAd K (x, none)) fd ps g :=
  ⟨ok, He.glo_ok X G c, F.kp, hb⟩
/-- facts of an exception class, of isinstance -/
def excCB (K : Frg) (x : Str) : Bool := He.eqO (PySem.W.findIn K (.ref (He.ga K x)) "__getattribute__") (some (some (.builtin "BaseException.__getattribute__"))) && (He.eqO (PySem.W.findIn K (.ref (He.ga K x)) "__getattr__") (some none) && (decide (PySem.W.subIn K (.ref (He.ga K x)) (.type "BaseException") = some true) && (PySem.W.hasDictIn K (He.ga K x) &&
  (He.eqO (PySem.W.findIn K (.ref (He.ga K x)) "__class__") (some (some (.builtin "object.__class__"))) && (He.eqO (PySem.W.specialIn K (.builtin "object.__class__") "__get__") (some (some (.builtin "getset_descriptor.__get__"))) && (decide (PySem.W.takesIn K (.builtin "object.__class__") = some true) && decide (PySem.W.mroIn K (He.ga K x) (.type "object") = some true)))))))
theorem excCB_ok {K : Frg} {x : Str} (h : excCB K x = true) : ExcC K (He.ga K x) := by
  obtain ⟨h1, h⟩ := He.ba h
  obtain ⟨h2, h⟩ := He.ba h
  obtain ⟨h3, h⟩ := He.ba h
  obtain ⟨h4, h⟩ := He.ba h
  obtain ⟨h5, h⟩ := He.ba h
  obtain ⟨h6, h⟩ := He.ba h
  obtain ⟨h7, h8⟩ := He.ba h
  exact ⟨He.eqO_ok h1, He.eqO_ok h2, of_decide_eq_true h3, h4, He.eqO_ok h5, He.eqO_ok h6, of_decide_eq_true h7, of_decide_eq_true h8⟩
theorem excT_ok {K : Frg} {mg : Mg} {h : Heap} {x : Str} (X : K.In h) (G : h.Ns mainGlobals mg) (c : (He.Fa.glo x).ok K = true) (e : (He.Fa.exc x).ok K = true) : ExcT K mg x (He.ga K x) :=
  let ⟨h1, h2, h3, h4⟩ := He.exc_ok e
  ⟨He.glo_ok X G c, h1, h2, h3, h4⟩
/-- a table of isinstance answers (tuple: any of them) -/
def rowB (K : Frg) (x : Str) (us : List Value) (b : Bool) : Bool := decide (PySem.W.kitAny K (.ref (He.ga K x)) us = some b)
def row1B (K : Frg) (x : Str) (u : Value) (b : Bool) : Bool := decide (PySem.W.kitOne K (.ref (He.ga K x)) u = some b)
end PF

set_option Elab.async false
set_option linter.all false
set_option maxRecDepth 100000
set_option maxHeartbeats 4000000
/-! More rules: tuple * int, slices of any kind, zip, enumerate. -/
namespace PF
open PySem PySem.Spec L2 PyProof.Rows
/-! ### t * 1 is t itself -/
theorem tup_mul1 (l : Addr) (items : Array Value) (n : Nat) (dd : Option Addr) (sl : Array (Option Value)) (u : Tok) :
    Meets (Builtin.«tuple.__mul__» ⟨[.ref l, .int 1 u], []⟩) (fun _ R s => s.heap.get? l = some { cls := .type "tuple", dict := dd, data := .seq items n, slots := sl } ∧ R (.ok (.ret (Value.ref l))) s) :=
  .of_wp fun prog w A R s h => by
    obtain ⟨hp, g, d, tk, os⟩ := s
    obtain ⟨hl, h⟩ := h
    have c0 : (decide ((1 : Int) < -(2 ^ 63)) || decide ((1 : Int) ≥ 2 ^ 63)) = false := by decide
    have c1 : (items.isEmpty || (1 : Int) == 1) = true := by simp
    have f1 := AutoSeq1.idx_int
    wp_walk using wpAny_loadPart' hl
    repeat (first
      | (refine wpAny_ite_false (decide_eq_false (by rw [c0]; exact Bool.false_ne_true)) ?_; wp_walk using wpAny_loadPart' hl)
      | (refine wpAny_ite_true (decide_eq_true c1) ?_; wp_walk using wpAny_loadPart' hl))
    exact ⟨_, rfl, h⟩
def rMul1 (K : PySem.W.Frag) : R2 := fun x y H Q => ∃ l xs, x = .ref l ∧ y = .int 1 ∧ SqT K H l xs ∧ Q (.ref l) H
theorem op_mul1 {X : Cx} : OpR X (binaryOp .Mult) (rMul1 X.K) := by
  intro pins s σ H x y v u Q I rx ry h
  obtain ⟨l, xs, rfl, rfl, hT, q⟩ := h
  cases rx
  obtain ⟨t, rfl⟩ := ry
  obtain ⟨its, r, ⟨⟨cls, dd, data, sl⟩, ho, hc, n, hd⟩, hs⟩ := I.tuple hT
  simp only at hc hd
  subst hc hd
  refine wpAny_binaryOp_repeat_ref (T := "tuple") (U := "int") (by decide) ⟨_, ho, rfl⟩ (fun s' => typeIs_int s' 1 t) noFill_tuple_mul F.fills_int_mul F.slot_int_rmul repeat_tuple F.slot_int_index.lookup
    (call_meets F.slot_int_rmul (typeIs_int s 1 t) F.entry_int_rmul (F.args_int_rmul_2 _ _) (int_rmul_tuple 1 t l its.toArray n dd sl)
      ⟨ho, rfl, ⟨_, ho, rfl⟩, call_meets F.slot_tuple_mul ⟨_, ho, rfl⟩ F.entry_tuple_mul (F.args_tuple_mul_2 _ _) (tup_mul1 l its.toArray n dd sl t) ⟨ho, ?_⟩⟩)
  exact ⟨.ref l, H, I, rfl, q⟩
@[simp] noncomputable def oMulT (d e : D) : Res D := match d, e with
  | .int i, .int j => if mulOk i j then .ok (.int (i * j)) else .bad
  | .tup xs, .int k => if cb (xs ≠ [] ∧ 1 ≤ k ∧ k ≤ 1000 ∧ xs.length ≤ 1000) then .ok (.tup (List.replicate k.toNat xs).flatten) else .bad
  | _, _ => .bad
def rMulA (K : PySem.W.Frag) : R2 := fun x y H Q => rI (fun i j => mulOk i j = true) (fun i j => .int (i * j)) x y H Q ∨ rRepT K x y H Q ∨ rMul1 K x y H Q
theorem op_mulA {X : Cx} : OpR X (binaryOp .Mult) (rMulA X.K) := op_mulU.or (op_repT.or op_mul1)
theorem o_mulT {K : Frg} {mg : Mg} : O2 K mg (rMulA K) oMulT := fun S σ H x y d e W Q i hx hy q => by
  unfold oMulT at q
  split at q
  · split at q
    · rename_i hc
      exact .inl ⟨_, _, hx.int, hy.int, hc, q _ _ _ (Gr.refl i) (.int _)⟩
    · exact q.elim
  · rename_i xs k
    split at q
    · rename_i hc
      obtain ⟨h1, h2, h3, h4⟩ := of_cb hc
      obtain ⟨p, vs, rfl, k1, k2, r⟩ := hx.tup i
      by_cases e1 : k = 1
      · subst e1
        refine .inr (.inr ⟨p, vs, rfl, hy.int, k1, q _ S H (Gr.refl i) ?_⟩)
        have e2 : (List.replicate (1 : Int).toNat xs).flatten = xs := by simp
        rw [e2]
        exact .tup k2 r
      · refine .inr (.inl ⟨p, k, vs, rfl, hy.int, k1, fun z => h1 ?_, by omega, h3, by rw [r.len]; exact h4, po_new i (r.rep _) q⟩)
        subst z
        have := r.len
        exact List.eq_nil_of_length_eq_zero this.symm
    · exact q.elim
  · exact q.elim
/-! ### slices of any kind -/
theorem me_sl {X : Cx} {hx : Hx} {W : WX} {e : Expr} {lo hi : Option Expr} {f : Sl → Res D} {l h : Sl → Res (Option Int)} {pos p2 : Pos} (he : MR X hx W e f) (hl : MP X hx W lo l) (hh : MP X hx W hi h) : ME X hx W (.Subscript e (.Slice lo hi none p2) pos) (sSl f l h) :=
  pe_imp (pe_slice (sl_tupA.or (sl_str.or sl_list)) he hl hh) fun σ H Q ⟨b, S, ρ, R, q⟩ => ⟨b, S, ρ, R, q.bind fun d v S1 H1 g1 r1 k => ⟨b, S1, ρ, R.grow g1, (k.upE g1).bind fun d2 v2 S2 H2 g2 r2 k2 => ⟨b, S2, ρ, (R.grow g1).grow g2, (k2.upE g2).bind fun d3 v3 S3 H3 g3 r3 k3 => by
    cases r2
    cases r3
    have r := (r1.up g2).up g3
    have k4 := k3.upE g3
    have newL : ∀ xs vs, RpA X.K X.mg S3 vs xs → Po X.K X.mg (rrE X.K X.mg) W S3 σ H3 (.ok (.lst (cutD xs d2 d3))) Q → ∀ p, H3 p = none → Q (.ref p) (upd H3 p (.lst (cutV vs d2 d3))) := fun xs vs h2 z p hp =>
      z _ _ _ (Gr.new g3.i hp) (.lst upd_same ((h2.cut _ _).up (same_new (same_none g3.i hp)) _ _))
    cases d with
    | tup xs =>
      obtain ⟨p, vs, rfl, h1, h2, h3⟩ := r.tup g3.i
      refine .inl ⟨p, vs, rfl, h1, fun hw => ?_, fun _ => po_new g3.i (h3.cut _ _) k4⟩
      have e1 : cutD xs d2 d3 = xs := by
        unfold cutD
        rw [← h3.len, hw.1, hw.2, h3.len]
        simp
      refine k4 _ S3 H3 (Gr.refl g3.i) ?_
      rw [e1]
      exact .tup h2 h3
    | str x =>
      have k5 : Po X.K X.mg (rrE X.K X.mg) W S3 σ H3 (if x.length ≤ 16777216 then .ok (.str (cutS x d2 d3)) else .bad) Q := k4
      split at k5
      · rename_i hz
        exact .inr (.inl ⟨x, r.str, sizeLine16 hz, k5 _ S3 H3 (Gr.refl g3.i) (.str _)⟩)
      · exact k5.elim
    | lst xs =>
      obtain ⟨p, vs, rfl, h1, h2⟩ := r.lst
      exact .inr (.inr ⟨p, vs, rfl, SqL.of h1, newL xs vs h2 k4⟩)
    | rol xs =>
      obtain ⟨p, vs, rfl, h1, h2⟩ := r.rol g3.i
      exact .inr (.inr ⟨p, vs, rfl, h1, newL xs vs h2 k4⟩)
    | _ => exact k4.elim⟩⟩⟩
end PF

set_option Elab.async false
set_option linter.all false
set_option maxRecDepth 100000
/-! What each def of the program and of the law law_k02_points_in_lowest_terms makes of its arguments (printed by gen.py) -/
namespace S_k02
open PySem L2 PF
def t_ValueError (x : Str) : Option Bool := List.lookup x [("BadNumber", true)]
def t_BadNumber (x : Str) : Option Bool := List.lookup x [("BadNumber", true)]
def t_BadTsk_NotAan_Unlied_BadPer_NoCots_BadQon_BadRge_BadSen_TooMny (x : Str) : Option Bool := List.lookup x [("BadNumber", false)]
def t_BadTxt_BadNme_Unknme_Staley (x : Str) : Option Bool := List.lookup x [("BadNumber", false)]
def t_CostsError (x : Str) : Option Bool := List.lookup x [("BadNumber", true)]
/-- vector 0, part 1, entry 2 -/
noncomputable def b1_content : Sl → Out :=
  (gSet 1 (sOp bGcd (sRd 1) (sRd 2)))
noncomputable def g_content : Sl → Out :=
  (gSeq (gSet 1 (sC (.int 0)))
    (gSeq (gFor (iSeq (sVar 0)) (gName 2) b1_content)
    (gRet (sVar 1))))
noncomputable def f_content : List D → Res D := semF 3 g_content
/-- vector 0, part 1, entry 2 -/
noncomputable def b1_primitive : Sl → Res D :=
  (sOp oFdiv (sRd 2) (sRd 1))
noncomputable def g_primitive : Sl → Out :=
  (gSeq (gSet 1 (sCall f_content (aCons (sVar 0) aNil)))
    (gSeq (gIf (sTest (sOp oLt (sRd 1) (sC (.int 2)))) (gRet (sUn bTup (sRd 0))) gNil)
    (gRet (sUn bTup (sLst (fLc (iSeq (sVar 0)) (gName 2) tYesF b1_primitive [2]))))))
noncomputable def f_primitive : List D → Res D := semF 3 g_primitive
/-- nums 0, den 1, part 2, entry 3 -/
noncomputable def b1_make_point : Sl → Res D :=
  (sOp oFdiv (sRd 3) (sRd 2))
noncomputable def g_make_point : Sl → Out :=
  (gSeq (gIf (sTest (sOp oEq (sRd 1) (sC (.int 0)))) (gRaise "BadNumber") gNil)
    (gSeq (gSet 2 (sOp bGcd (sCall f_content (aCons (sVar 0) aNil)) (sRd 1)))
    (gSeq (gIf (sTest (sOp oLt (sRd 1) (sC (.int 0)))) (gSet 2 (sUn oNeg (sRd 2))) gNil)
    (gRet (sTup (aCons (sUn bTup (sLst (fLc (iSeq (sVar 0)) (gName 3) tYesF b1_make_point [3]))) (aCons (sOp oFdiv (sRd 1) (sRd 2)) aNil)))))))
noncomputable def f_make_point : List D → Res D := semF 4 g_make_point
/-- cell 0, k 1, first 2, second 3 -/
noncomputable def g_ulaw_mix : Sl → Out :=
  (gSeq (gSet 2 (sOp oMod (sUn bInt (sOp oAdd (sOp oAdd (sOp oMul (sRd 0) (sC (.int 48271))) (sOp oMul (sRd 1) (sC (.int 69621)))) (sC (.int 11)))) (sC (.int 2147483647))))
    (gSeq (gSet 3 (sOp oMod (sUn bInt (sOp oAdd (sOp oAdd (sOp oMul (sRd 2) (sRd 2)) (sOp oMul (sRd 1) (sC (.int 40692)))) (sC (.int 7)))) (sC (.int 2147483399))))
    (gRet (sOp oFdiv (sOp oMod (sUn bInt (sOp oAdd (sOp oMul (sRd 3) (sC (.int 16807))) (sRd 2))) (sC (.int 2147483587))) (sC (.int 8))))))
noncomputable def f_ulaw_mix : List D → Res D := semF 4 g_ulaw_mix
/-- script 0, at 1, many 2, cell 3, row 4, rest 5, k 6 -/
noncomputable def b1_ulaw_row : Sl → Out :=
  (gIf (tAnd (sTest (sOp oGe (sUn bAbs (sRd 3)) (sC (.int 1000000000000000000)))) (sTest (sOp oGt (sRd 5) (sC (.int 0))))) (gSeq (gApp 4 (sOp oMod (sUn bInt (sRd 5)) (sC (.int 1009))))
    (gSet 5 (sOp oFdiv (sRd 5) (sC (.int 1009))))) (gApp 4 (sCall f_ulaw_mix (aCons (sVar 3) (aCons (sVar 6) aNil)))))
noncomputable def g_ulaw_row : Sl → Out :=
  (gSeq (gSet 3 (sVar 1))
    (gSeq (gIf (sTest (sOp oLt (sRd 1) (sUn bLen (sRd 0)))) (gSet 3 (sOp oIx (sRd 0) (sRd 1))) (gIf (sTest (sOp oGt (sUn bLen (sRd 0)) (sC (.int 0)))) (gSet 3 (sOp oAdd (sOp oIx (sRd 0) (sOp oMod (sRd 1) (sUn bLen (sRd 0)))) (sOp oMul (sC (.int 7919)) (sRd 1)))) gNil))
    (gSeq (gSetO 4 (fLst aNil))
    (gSeq (gSet 5 (sUn bAbs (sRd 3)))
    (gSeq (gFor (iRg1 (aCons (sVar 2) aNil)) (gName 6) b1_ulaw_row)
    (gFrz 4 (gRet (sVar 4))))))))
noncomputable def f_ulaw_row : List D → Res D := semF 7 g_ulaw_row
/-- value 0 -/
noncomputable def g_ulaw_is_whole : Sl → Out :=
  (gRet (sAnd (sUn (bIsi "int") (sRd 0)) (sNot (sUn (bIsi "bool") (sRd 0)))))
noncomputable def f_ulaw_is_whole : List D → Res D := semF 1 g_ulaw_is_whole
/-- value 0, size 1, num 2 -/
noncomputable def b1_ulaw_is_tuple : Sl → Res D :=
  (sCall f_ulaw_is_whole (aCons (sVar 2) aNil))
noncomputable def g_ulaw_is_tuple : Sl → Out :=
  (gRet (sAnd (sUn (bIsi "tuple") (sRd 0)) (sAnd (sOp oEq (sUn bLen (sRd 0)) (sRd 1)) (sUn bAll (sLst (fLc (iSeq (sVar 0)) (gName 2) tYesF b1_ulaw_is_tuple [2]))))))
noncomputable def f_ulaw_is_tuple : List D → Res D := semF 3 g_ulaw_is_tuple
/-- left 0, right 1, step 2 -/
noncomputable def b1_ulaw_common : Sl → Out :=
  (gSeq (gIf (sTest (sOp oEq (sRd 1) (sC (.int 0)))) (gRet (sVar 0)) gNil)
    (gPar 0 1 (sVar 1) (sOp oMod (sUn bInt (sRd 0)) (sRd 1))))
noncomputable def g_ulaw_common : Sl → Out :=
  (gSeq (gPar 0 1 (sUn bAbs (sRd 0)) (sUn bAbs (sRd 1)))
    (gSeq (gFor (iRg1 (aCons (sOp oAdd (sOp oMul (sC (.int 2)) (sUn bBits (sRd 1))) (sC (.int 4))) aNil)) (gName 2) b1_ulaw_common)
    (gRet (sVar 0))))
noncomputable def f_ulaw_common : List D → Res D := semF 3 g_ulaw_common
/-- cells 0, limit 1, total 2, cell 3 -/
noncomputable def b1_ulaw_number : Sl → Out :=
  (gSet 2 (sOp oAdd (sOp oMul (sRd 2) (sC (.int 1009))) (sOp oMod (sUn bInt (sRd 3)) (sC (.int 1009)))))
noncomputable def g_ulaw_number : Sl → Out :=
  (gSeq (gSet 2 (sC (.int 0)))
    (gSeq (gFor (iSeq (sVar 0)) (gName 3) b1_ulaw_number)
    (gRet (sOp oMod (sUn bInt (sRd 2)) (sRd 1)))))
noncomputable def f_ulaw_number : List D → Res D := semF 4 g_ulaw_number
/-- vector 0, factor 1, num 2 -/
noncomputable def b1_ulaw_times : Sl → Res D :=
  (sOp oMul (sRd 1) (sRd 2))
noncomputable def g_ulaw_times : Sl → Out :=
  (gRet (sUn bTup (sLst (fLc (iSeq (sVar 0)) (gName 2) tYesF b1_ulaw_times [2]))))
noncomputable def f_ulaw_times : List D → Res D := semF 3 g_ulaw_times
/-- vector 0, part 1, num 2 -/
noncomputable def b1_ulaw_divisor : Sl → Out :=
  (gSet 1 (sCall f_ulaw_common (aCons (sVar 1) (aCons (sVar 2) aNil))))
noncomputable def g_ulaw_divisor : Sl → Out :=
  (gSeq (gSet 1 (sC (.int 0)))
    (gSeq (gFor (iSeq (sVar 0)) (gName 2) b1_ulaw_divisor)
    (gRet (sVar 1))))
noncomputable def f_ulaw_divisor : List D → Res D := semF 3 g_ulaw_divisor
/-- nums 0, den 1, part 2, num 3 -/
noncomputable def b1_ulaw_point : Sl → Res D :=
  (sOp oFdiv (sRd 3) (sRd 2))
noncomputable def g_ulaw_point : Sl → Out :=
  (gSeq (gSet 2 (sCall f_ulaw_common (aCons (sCall f_ulaw_divisor (aCons (sVar 0) aNil)) (aCons (sVar 1) aNil))))
    (gSeq (gIf (sTest (sOp oLt (sRd 1) (sC (.int 0)))) (gSet 2 (sUn oNeg (sRd 2))) gNil)
    (gRet (sTup (aCons (sUn bTup (sLst (fLc (iSeq (sVar 0)) (gName 3) tYesF b1_ulaw_point [3]))) (aCons (sOp oFdiv (sRd 1) (sRd 2)) aNil))))))
noncomputable def f_ulaw_point : List D → Res D := semF 4 g_ulaw_point
/-- nums 0, den 1, told 2, refused 3, e 4 -/
noncomputable def g_ulaw_points : Sl → Out :=
  (gSeq (gSet 2 (sC .non))
    (gSeq (gSet 3 (sC (.bl false)))
    (gSeq (gTry 4 t_CostsError (gSet 2 (sCall f_make_point (aCons (sVar 0) (aCons (sVar 1) aNil)))) (gSeq (gSet 3 (sAnd (sIsE 4 t_BadNumber) (sIsE 4 t_ValueError)))
    (gSeq (gIf (tTru (sIsE 4 t_BadTsk_NotAan_Unlied_BadPer_NoCots_BadQon_BadRge_BadSen_TooMny)) (gSet 3 (sC (.bl false))) gNil)
    (gIf (tTru (sIsE 4 t_BadTxt_BadNme_Unknme_Staley)) (gSet 3 (sC (.bl false))) gNil))))
    (gSeq (gIf (sTest (sOp oEq (sRd 1) (sC (.int 0)))) (gRet (sVar 3)) gNil)
    (gSeq (gIf (tOr (tTru (sRd 3)) (tOr (tNot (tTru (sUn (bIsi "tuple") (sRd 2)))) (sTest (sOp oNe (sUn bLen (sRd 2)) (sC (.int 2)))))) (gRet (sC (.bl false))) gNil)
    (gSeq (gIf (tOr (tNot (tTru (sCall f_ulaw_is_tuple (aCons (sOp oIx (sRd 2) (sC (.int 0))) (aCons (sUn bLen (sRd 0)) aNil))))) (tNot (tTru (sCall f_ulaw_is_whole (aCons (sOp oIx (sRd 2) (sC (.int 1))) aNil))))) (gRet (sC (.bl false))) gNil)
    (gRet (sOp oEq (sRd 2) (sCall f_ulaw_point (aCons (sVar 0) (aCons (sVar 1) aNil)))))))))))
noncomputable def f_ulaw_points : List D → Res D := semF 5 g_ulaw_points
/-- vector 0, part 1, due 2, told 3, num 4 -/
noncomputable def b1_ulaw_divides : Sl → Res D :=
  (sOp oFdiv (sRd 4) (sRd 1))
noncomputable def g_ulaw_divides : Sl → Out :=
  (gSeq (gSet 1 (sCall f_ulaw_divisor (aCons (sVar 0) aNil)))
    (gSeq (gSet 2 (sUn bTup (sRd 0)))
    (gSeq (gIf (sTest (sOp oGt (sRd 1) (sC (.int 1)))) (gSet 2 (sUn bTup (sLst (fLc (iSeq (sVar 0)) (gName 4) tYesF b1_ulaw_divides [4])))) gNil)
    (gSeq (gSet 3 (sCall f_primitive (aCons (sVar 0) aNil)))
    (gRet (sAnd (sCall f_ulaw_is_tuple (aCons (sVar 3) (aCons (sUn bLen (sRd 0)) aNil))) (sOp oEq (sRd 3) (sRd 2))))))))
noncomputable def f_ulaw_divides : List D → Res D := semF 5 g_ulaw_divides
/-- script 0, turns 1, limit 2, cells 3, vector 4, k 5, num 6 -/
noncomputable def b1_ulaw_vector : Sl → Out :=
  (gSeq (gSet 6 (sCall f_ulaw_number (aCons (sSl (sRd 3) (pSome (sOp oAdd (sOp oMul (sC (.int 15)) (sRd 5)) (sC (.int 1)))) (pSome (sOp oAdd (sOp oMul (sC (.int 15)) (sRd 5)) (sC (.int 15))))) (aCons (sVar 2) aNil))))
    (gSeq (gIf (tOr (tAnd (sTest (sOp oEq (sOp oMod (sUn bInt (sOp oIx (sRd 1) (sC (.int 2)))) (sC (.int 3))) (sC (.int 1)))) (sTest (sOp oEq (sOp oMod (sRd 5) (sC (.int 3))) (sOp oMod (sUn bInt (sOp oIx (sRd 1) (sC (.int 3)))) (sC (.int 3)))))) (sTest (sOp oEq (sOp oMod (sUn bInt (sOp oIx (sRd 1) (sC (.int 4)))) (sC (.int 8))) (sC (.int 1))))) (gSet 6 (sC (.int 0))) gNil)
    (gApp 4 (sOp oMul (sRd 6) (sOp oSub (sC (.int 1)) (sOp oMul (sC (.int 2)) (sOp oMod (sUn bInt (sOp oIx (sRd 3) (sOp oMul (sC (.int 15)) (sRd 5)))) (sC (.int 2)))))))))
noncomputable def g_ulaw_vector : Sl → Out :=
  (gSeq (gSet 2 (sOp oIx (sLst (fLst (aCons (sC (.int 10)) (aCons (sC (.int 1000)) (aCons (sOp oPow (sC (.int 10)) (sC (.int 40))) aNil))))) (sOp oMod (sUn bInt (sOp oIx (sRd 1) (sC (.int 0)))) (sC (.int 3)))))
    (gSeq (gSet 3 (sCall f_ulaw_row (aCons (sVar 0) (aCons (sC (.int 1)) (aCons (sC (.int 180)) aNil)))))
    (gSeq (gSetO 4 (fLst aNil))
    (gSeq (gFor (iRg1 (aCons (sOp oAdd (sC (.int 1)) (sOp oMod (sUn bInt (sOp oIx (sRd 1) (sC (.int 1)))) (sC (.int 12)))) aNil)) (gName 5) b1_ulaw_vector)
    (gRet (sUn bTup (sRd 4)))))))
noncomputable def f_ulaw_vector : List D → Res D := semF 7 g_ulaw_vector
/-- script 0, turns 1, vector 2, cells 3, den 4, factor 5, zero 6, nums 7, over 8, many 9 -/
noncomputable def b1_law : Sl → Out :=
  (gIf (tNot (tTru (sCall f_ulaw_points (aCons (sVar 7) (aCons (sVar 8) aNil))))) (gRet (sC (.bl false))) gNil)
noncomputable def b2_law : Sl → Out :=
  (gIf (tOr (tNot (tTru (sCall f_ulaw_points (aCons (sCall f_ulaw_times (aCons (sVar 2) (aCons (sVar 9) aNil))) (aCons (sOp oMul (sRd 4) (sRd 9)) aNil))))) (tNot (tTru (sCall f_ulaw_points (aCons (sCall f_ulaw_times (aCons (sVar 2) (aCons (sVar 9) aNil))) (aCons (sVar 5) aNil)))))) (gRet (sC (.bl false))) gNil)
noncomputable def b3_law : Sl → Out :=
  (gIf (tNot (tTru (sCall f_ulaw_divides (aCons (sVar 7) aNil)))) (gRet (sC (.bl false))) gNil)
noncomputable def g_law : Sl → Out :=
  (gSeq (gSet 1 (sCall f_ulaw_row (aCons (sVar 0) (aCons (sC (.int 0)) (aCons (sC (.int 8)) aNil)))))
    (gSeq (gSet 2 (sCall f_ulaw_vector (aCons (sVar 0) (aCons (sVar 1) aNil))))
    (gSeq (gSet 3 (sCall f_ulaw_row (aCons (sVar 0) (aCons (sC (.int 2)) (aCons (sC (.int 15)) aNil)))))
    (gSeq (gSet 4 (sOp oMul (sCall f_ulaw_number (aCons (sSl (sRd 3) (pSome (sC (.int 1))) pNone) (aCons (sOp oIx (sLst (fLst (aCons (sC (.int 10)) (aCons (sOp oPow (sC (.int 10)) (sC (.int 40))) aNil)))) (sOp oMod (sUn bInt (sOp oIx (sRd 1) (sC (.int 5)))) (sC (.int 2)))) aNil))) (sOp oSub (sC (.int 1)) (sOp oMul (sC (.int 2)) (sOp oMod (sUn bInt (sOp oIx (sRd 3) (sC (.int 0)))) (sC (.int 2)))))))
    (gSeq (gSet 5 (sOp oAdd (sC (.int 1)) (sCall f_ulaw_number (aCons (sCall f_ulaw_row (aCons (sVar 0) (aCons (sC (.int 3)) (aCons (sC (.int 14)) aNil)))) (aCons (sOp oIx (sLst (fLst (aCons (sC (.int 9)) (aCons (sOp oPow (sC (.int 10)) (sC (.int 12))) (aCons (sOp oSub (sOp oPow (sC (.int 10)) (sC (.int 40))) (sC (.int 1))) aNil))))) (sOp oMod (sUn bInt (sOp oIx (sRd 1) (sC (.int 6)))) (sC (.int 3)))) aNil)))))
    (gSeq (gIf (sTest (sOp oEq (sOp oMod (sUn bInt (sOp oIx (sRd 1) (sC (.int 7)))) (sC (.int 4))) (sC (.int 1)))) (gSet 2 (sCall f_ulaw_times (aCons (sVar 2) (aCons (sVar 5) aNil)))) gNil)
    (gSeq (gIf (sTest (sOp oEq (sOp oMod (sUn bInt (sOp oIx (sRd 1) (sC (.int 7)))) (sC (.int 4))) (sC (.int 2)))) (gPar 2 4 (sCall f_ulaw_times (aCons (sVar 2) (aCons (sVar 5) aNil))) (sOp oMul (sRd 4) (sRd 5))) gNil)
    (gSeq (gSet 6 (sOp oMulT (sTup (aCons (sC (.int 0)) aNil)) (sUn bLen (sRd 2))))
    (gSeq (gFor (iSeq (sLst (fLst (aCons (sTup (aCons (sVar 2) (aCons (sVar 4) aNil))) (aCons (sTup (aCons (sVar 2) (aCons (sC (.int 1)) aNil))) (aCons (sTup (aCons (sVar 2) (aCons (sUn oNeg (sC (.int 1))) aNil))) (aCons (sTup (aCons (sVar 2) (aCons (sC (.int 0)) aNil))) (aCons (sTup (aCons (sVar 6) (aCons (sC (.int 0)) aNil))) (aCons (sTup (aCons (sVar 6) (aCons (sVar 4) aNil))) (aCons (sTup (aCons (sVar 6) (aCons (sUn oNeg (sRd 5)) aNil))) aNil)))))))))) (gTup 2 (gsCons (gName 7) (gsCons (gName 8) gsNil))) b1_law)
    (gSeq (gFor (iSeq (sLst (fLst (aCons (sVar 5) (aCons (sUn oNeg (sRd 5)) aNil))))) (gName 9) b2_law)
    (gSeq (gFor (iSeq (sLst (fLst (aCons (sVar 2) (aCons (sCall f_ulaw_times (aCons (sVar 2) (aCons (sVar 5) aNil))) (aCons (sCall f_ulaw_times (aCons (sVar 2) (aCons (sUn oNeg (sC (.int 1))) aNil))) (aCons (sSl (sRd 2) pNone (pSome (sC (.int 1)))) (aCons (sVar 6) aNil)))))))) (gName 7) b3_law)
    (gRet (sAnd (sCall f_ulaw_points (aCons (sVar 2) (aCons (sVar 5) aNil))) (sAnd (sCall f_ulaw_points (aCons (sVar 2) (aCons (sVar 4) aNil))) (sCall f_ulaw_divides (aCons (sVar 2) aNil))))))))))))))))
noncomputable def f_law : List D → Res D := semF 10 g_law
end S_k02

set_option Elab.async false
set_option linter.all false
set_option maxRecDepth 100000
set_option maxHeartbeats 4000000
/-! Lemmas for the plain laws: sizes, equality of data, Euclid. -/
namespace ML
open PySem L2 PF

theorem mulOk_r {i j : Int} (h : j.natAbs < 18446744073709551616) : mulOk i j = true := cb_t (.inr (.inr h))
theorem mulOk_l {i j : Int} (h : i.natAbs < 18446744073709551616) : mulOk i j = true := cb_t (.inr (.inl h))
theorem mulOk_b {i j : Int} {a b : Nat} (ha : i.natAbs < 2 ^ a) (hb : j.natAbs < 2 ^ b) (h : a + b ≤ 134217728) : mulOk i j = true := by
  have h1 := PyProof.Rows.intBits_le ha
  have h2 := PyProof.Rows.intBits_le hb
  exact cb_t (.inl (by omega))
theorem divOk_b {j : Int} {b : Nat} (h0 : j ≠ 0) (hb : j.natAbs < 2 ^ b) (h : b ≤ 9000) : divOk j = true := by
  refine cb_t ⟨h0, ?_⟩
  have h1 : j.natAbs ≠ 0 := by omega
  have h2 := Nat.log2_self_le h1
  have h3 : 2 ^ j.natAbs.log2 < 2 ^ b := Nat.lt_of_le_of_lt h2 hb
  have h4 := (Nat.pow_lt_pow_iff_right (by decide : 1 < 2)).mp h3
  omega
theorem divOk_s {j : Int} (h0 : j ≠ 0) (hb : j.natAbs < 18446744073709551616) : divOk j = true := divOk_b (b := 64) h0 hb (by decide)
theorem bits_lt (n : Int) : n.natAbs < 2 ^ (Builtin.Int.intBits n) := by
  unfold Builtin.Int.intBits
  split
  · rename_i h
    simp at h
    subst h
    decide
  · exact Nat.lt_log2_self
@[simp] theorem cb_True : cb True = true := cb_t trivial
@[simp] theorem cb_False : cb False = false := cb_f id
/-! ### sums and products stay below powers of two -/
theorem b_mul {i j : Int} {a b : Nat} (ha : i.natAbs < 2 ^ a) (hb : j.natAbs < 2 ^ b) : (i * j).natAbs < 2 ^ (a + b) := by
  rw [Int.natAbs_mul, Nat.pow_add]
  exact Nat.mul_lt_mul'' ha hb
theorem b_add {i j : Int} {a : Nat} (ha : i.natAbs < 2 ^ a) (hb : j.natAbs < 2 ^ a) : (i + j).natAbs < 2 ^ (a + 1) := by
  rw [Nat.pow_succ]
  omega
theorem b_sub {i j : Int} {a : Nat} (ha : i.natAbs < 2 ^ a) (hb : j.natAbs < 2 ^ a) : (i - j).natAbs < 2 ^ (a + 1) := by
  rw [Nat.pow_succ]
  omega
theorem b_up {i : Int} {a b : Nat} (ha : i.natAbs < 2 ^ a) (h : a ≤ b) : i.natAbs < 2 ^ b := Nat.lt_of_lt_of_le ha (Nat.pow_le_pow_right (by decide) h)
theorem b_neg {i : Int} {a : Nat} (ha : i.natAbs < 2 ^ a) : (-i).natAbs < 2 ^ a := by rw [Int.natAbs_neg]; exact ha

/-! ### equality of data -/
@[simp] theorem eqv_int (i j : Int) : eqv (.int i) (.int j) = (i == j) := by simp [eqv, D.py, PyData.eqv]
theorem sh_of {d : D} (h1 : d.py.canLay0 = true) (h2 : d.py.depth ≤ 64) : eqOk d = true := by
  unfold eqOk SeqAt.shaped
  rw [h1]
  simp [h2]
@[simp] theorem eqOk_int (i : Int) : eqOk (.int i) = true := sh_of (by simp [D.py, PyData.canLay0]) (by simp [D.py, PyData.depth])
@[simp] theorem eqOk_bl (i : Bool) : eqOk (.bl i) = true := sh_of (by simp [D.py, PyData.canLay0]) (by simp [D.py, PyData.depth])
@[simp] theorem eqOk_non : eqOk .non = true := sh_of (by simp [D.py, PyData.canLay0]) (by simp [D.py, PyData.depth])
theorem pyA_ints : ∀ ns : List Int, D.pyA (ns.map D.int) = ns.map PyData.int
  | [] => rfl
  | n :: ns => by simp [D.pyA, D.py, pyA_ints ns]
theorem lay_ints : ∀ ns : List Int, PyData.canLayAll0 (ns.map PyData.int) = true
  | [] => by simp [PyData.canLayAll0]
  | n :: ns => by simp [PyData.canLayAll0, PyData.canLay0, lay_ints ns]
theorem dep_ints : ∀ ns : List Int, PyData.depthAll (ns.map PyData.int) = 0
  | [] => by simp [PyData.depthAll]
  | n :: ns => by simp [PyData.depthAll, PyData.depth, dep_ints ns]
@[simp] theorem eqOk_ints (ns : List Int) : eqOk (.tup (ns.map D.int)) = true := sh_of (by simp [D.py, PyData.canLay0, pyA_ints, lay_ints]) (by simp [D.py, PyData.depth, pyA_ints, dep_ints])
@[simp] theorem eqOk_two (i j : Int) : eqOk (.tup [.int i, .int j]) = true := eqOk_ints [i, j]
@[simp] theorem eqv_two (i j k l : Int) : eqv (.tup [.int i, .int j]) (.tup [.int k, .int l]) = (i == k && j == l) := by simp [eqv, D.py, D.pyA, PyData.eqv, PyData.eqvAll]

/-! ### Euclid's division as the laws do it -/
theorem half_rest {b r : Nat} (h0 : 0 < r) (h : r < b) : 2 * (b % r) < b := by
  have h1 := Nat.mod_lt b h0
  by_cases c : 2 * r ≤ b
  · omega
  · have e : b % r = b - r := by
      rw [Nat.mod_eq_sub_mod (Nat.le_of_lt h), Nat.mod_eq_of_lt (by omega)]
    omega
theorem fmod_nat (a b : Nat) : Int.fmod (a : Int) (b : Int) = ((a % b : Nat) : Int) := by
  rw [Int.fmod_eq_emod_of_nonneg _ (Int.natCast_nonneg b)]
  exact (Int.natCast_emod a b).symm
theorem abs_nat (i : Int) : (if i < 0 then -i else i) = (i.natAbs : Int) := by
  split <;> omega
/-! ### loops -/
theorem for_inv {g : FG} {body : Sl → Out} (P : List D → Sl → Prop) (step : ∀ d ds ρ, P (d :: ds) ρ → ∃ ρ1, g d ρ = some ρ1 ∧ ∃ ρ2, (body ρ1 = .nx ρ2 ∨ body ρ1 = .ct ρ2) ∧ P ds ρ2) : ∀ ds ρ, P ds ρ → ∃ ρ', forRun g body ds ρ = .nx ρ' ∧ P [] ρ'
  | [], ρ, h => ⟨ρ, rfl, h⟩
  | d :: ds, ρ, h => by
    obtain ⟨ρ1, h1, ρ2, h2, h3⟩ := step d ds ρ h
    obtain ⟨ρ3, h4, h5⟩ := for_inv P step ds ρ2 h3
    refine ⟨ρ3, ?_, h5⟩
    rcases h2 with h2 | h2 <;> simp only [forRun, h1, h2] <;> exact h4
theorem rngD_ints (lo : Int) (n : Nat) : rngD lo n = ((List.range n).map fun (k : Nat) => lo + (k : Int)).map D.int := by simp [rngD]
theorem atI_nat {xs : List D} {i : Int} {k : Nat} (h : i = (k : Int)) (hk : k < xs.length) : atI xs i = some xs[k] := by
  have e : ixN xs.length i = some k := by
    unfold ixN
    subst h
    simp [hk]
  unfold atI
  rw [e]
  exact List.getElem?_eq_getElem hk
theorem nth_ints (ns : List Int) (k : Nat) (h : k < (ns.map D.int).length) : (ns.map D.int)[k] = .int (ns[k]'(by simpa using h)) := by simp
theorem atI_ints {ns : List Int} {i : Int} (h0 : 0 ≤ i) (h1 : i < ns.length) : ∃ z, atI (ns.map D.int) i = some (.int z) := by
  obtain ⟨k, rfl⟩ := Int.eq_ofNat_of_zero_le h0
  have hk : k < (ns.map D.int).length := by simp; omega
  exact ⟨_, by rw [atI_nat rfl hk, nth_ints]⟩
theorem rng1_ok {n : Nat} (h : n ≤ 1000000) : gRng1 [.int (n : Int)] = .ok (rngD 0 n) := by
  have hg : cb (-(2 ^ 62) ≤ (n : Int) ∧ (n : Int) < 2 ^ 62) = true := cb_t (by constructor <;> omega)
  unfold gRng1
  simp only [hg, if_true, Int.toNat_natCast]
theorem seq_nx {g h : Sl → Out} {ρ ρ' : Sl} (e : g ρ = .nx ρ') : gSeq g h ρ = h ρ' := by simp only [gSeq, e]
theorem seq_nx2 {g1 g2 h : Sl → Out} {ρ ρ' : Sl} (e : gSeq g1 g2 ρ = .nx ρ') : gSeq g1 (gSeq g2 h) ρ = h ρ' := by
  unfold gSeq at e ⊢
  cases e1 : g1 ρ with
  | nx a => rw [e1] at e; simp only [gSeq] at e ⊢; rw [e]
  | _ => rw [e1] at e; cases e
theorem semF_ret {n : Nat} {g : Sl → Out} {ds : List D} {d : D} (h : g (ds.map Cell.v ++ List.replicate (n - ds.length) .e) = .ret d) : semF n g ds = .ok d := by
  unfold semF
  rw [h]
@[simp] theorem atI_zero (x : D) (xs : List D) : atI (x :: xs) 0 = some x := atI_nat (xs := x :: xs) (k := 0) rfl (by simp)
@[simp] theorem atI_one (x y : D) (xs : List D) : atI (x :: y :: xs) 1 = some y := atI_nat (xs := x :: y :: xs) (k := 1) rfl (by simp)
@[simp] theorem atI_two (x y z : D) (xs : List D) : atI (x :: y :: z :: xs) 2 = some z := atI_nat (xs := x :: y :: z :: xs) (k := 2) rfl (by simp)
@[simp] theorem atI_three (x y z u : D) (xs : List D) : atI (x :: y :: z :: u :: xs) 3 = some u := atI_nat (xs := x :: y :: z :: u :: xs) (k := 3) rfl (by simp)
theorem cut_ints (ns : List Int) (lo hi : Option Int) : ∃ ms : List Int, cutD (ns.map D.int) lo hi = ms.map D.int := ⟨_, by
  unfold cutD
  rw [← List.map_drop, ← List.map_take]⟩
theorem pow_ok {i : Int} {k : Nat} (h : i.natAbs < 2 ^ 64) (hk : k ≤ 1000000) : cb (0 ≤ (k : Int) ∧ (k : Int) ≤ 1000000 ∧ i.natAbs < 2 ^ 64) = true := cb_t ⟨by omega, by omega, h⟩
theorem eq_zero_b (i : Int) : (i == 0) = decide (i = 0) := by by_cases h : i = 0 <;> simp [h]
@[simp] theorem kb_int_int : kitB "int" "int" = some true := by decide +kernel
@[simp] theorem kb_int_bool : kitB "int" "bool" = some false := by decide +kernel
@[simp] theorem kb_int_tuple : kitB "int" "tuple" = some false := by decide +kernel
@[simp] theorem kb_int_list : kitB "int" "list" = some false := by decide +kernel
@[simp] theorem kb_int_str : kitB "int" "str" = some false := by decide +kernel
@[simp] theorem kb_bool_int : kitB "bool" "int" = some true := by decide +kernel
@[simp] theorem kb_bool_bool : kitB "bool" "bool" = some true := by decide +kernel
@[simp] theorem kb_bool_tuple : kitB "bool" "tuple" = some false := by decide +kernel
@[simp] theorem kb_bool_list : kitB "bool" "list" = some false := by decide +kernel
@[simp] theorem kb_bool_str : kitB "bool" "str" = some false := by decide +kernel
@[simp] theorem kb_tuple_int : kitB "tuple" "int" = some false := by decide +kernel
@[simp] theorem kb_tuple_bool : kitB "tuple" "bool" = some false := by decide +kernel
@[simp] theorem kb_tuple_tuple : kitB "tuple" "tuple" = some true := by decide +kernel
@[simp] theorem kb_tuple_list : kitB "tuple" "list" = some false := by decide +kernel
@[simp] theorem kb_tuple_str : kitB "tuple" "str" = some false := by decide +kernel
@[simp] theorem kb_list_int : kitB "list" "int" = some false := by decide +kernel
@[simp] theorem kb_list_bool : kitB "list" "bool" = some false := by decide +kernel
@[simp] theorem kb_list_tuple : kitB "list" "tuple" = some false := by decide +kernel
@[simp] theorem kb_list_list : kitB "list" "list" = some true := by decide +kernel
@[simp] theorem kb_list_str : kitB "list" "str" = some false := by decide +kernel
@[simp] theorem kb_str_int : kitB "str" "int" = some false := by decide +kernel
@[simp] theorem kb_str_bool : kitB "str" "bool" = some false := by decide +kernel
@[simp] theorem kb_str_tuple : kitB "str" "tuple" = some false := by decide +kernel
@[simp] theorem kb_str_list : kitB "str" "list" = some false := by decide +kernel
@[simp] theorem kb_str_str : kitB "str" "str" = some true := by decide +kernel
@[simp] theorem kb_NoneType_int : kitB "NoneType" "int" = some false := by decide +kernel
@[simp] theorem kb_NoneType_bool : kitB "NoneType" "bool" = some false := by decide +kernel
@[simp] theorem kb_NoneType_tuple : kitB "NoneType" "tuple" = some false := by decide +kernel
@[simp] theorem kb_NoneType_list : kitB "NoneType" "list" = some false := by decide +kernel
@[simp] theorem kb_NoneType_str : kitB "NoneType" "str" = some false := by decide +kernel
/-! ### comprehensions over ints -/
theorem lc_ints' (i : Nat) (f : Sl → Res D) (h : Int → Int) (ρ : Sl) : ∀ (ns acc : List Int), (∀ n ∈ ns, f (ρ.set i (.v (.int n))) = .ok (.int (h n))) → acc.length + ns.length ≤ 100000 → lcRun (PF.gName i) tYesF f ρ (ns.map D.int) (acc.map D.int) = .ok ((acc ++ ns.map h).map D.int)
  | [], acc, _, _ => by simp [lcRun]
  | n :: ns, acc, hf, hl => by
    have e1 := hf n (by simp)
    have hlt : (acc.map D.int).length < 16777216 := by simp at hl ⊢; omega
    have ih := lc_ints' i f h ρ ns (acc ++ [h n]) (fun m hm => hf m (by simp [hm])) (by simp at hl ⊢; omega)
    rw [List.map_cons]
    unfold lcRun
    simp only [PF.gName, tYesF, Res.nx, Res.bind_ok, if_true, e1, hlt]
    simpa using ih
theorem lc_ints (i : Nat) (f : Sl → Res D) (h : Int → Int) (ρ : Sl) (ns : List Int) (hf : ∀ n ∈ ns, f (ρ.set i (.v (.int n))) = .ok (.int (h n))) (hl : ns.length ≤ 100000) : lcRun (PF.gName i) tYesF f ρ (ns.map D.int) [] = .ok ((ns.map h).map D.int) := by
  have := lc_ints' i f h ρ ns [] hf (by simpa using hl)
  simpa using this
/-! ### the greatest common part of a list -/
def G (p : Nat) : List Int → Nat
  | [] => p
  | n :: ns => G (Nat.gcd p n.natAbs) ns
def Bd (k : Nat) (ns : List Int) : Prop := ∀ n ∈ ns, n.natAbs < 2 ^ k
theorem b_gcd {p q k : Nat} (hp : p < 2 ^ k) (hq : q < 2 ^ k) : Nat.gcd p q < 2 ^ k := by
  by_cases h : p = 0
  · subst h; simpa using hq
  · exact Nat.lt_of_le_of_lt (Nat.gcd_le_left _ (by omega)) hp
theorem G_lt {k : Nat} : ∀ (ns : List Int) (p : Nat), p < 2 ^ k → Bd k ns → G p ns < 2 ^ k
  | [], p, hp, _ => hp
  | n :: ns, p, hp, h => G_lt ns _ (b_gcd hp (h n (by simp))) fun m hm => h m (by simp [hm])
theorem Bd.up {k l : Nat} {ns : List Int} (h : Bd k ns) (hl : k ≤ l) : Bd l ns := fun n hn => b_up (h n hn) hl
theorem Bd.mul {k l : Nat} {ns : List Int} {f : Int} (h : Bd k ns) (hf : f.natAbs < 2 ^ l) : Bd (l + k) (ns.map (f * ·)) := fun n hn => by
  obtain ⟨m, hm, rfl⟩ := List.mem_map.mp hn
  exact b_mul hf (h m hm)
end ML

set_option Elab.async false
set_option linter.all false
set_option maxRecDepth 100000
set_option maxHeartbeats 4000000
/-! What the defs that every law has (mix, row, common, is_whole, is_tuple) answer. Printed from LC.tpl, k02 for the law's short name. -/
namespace LC_k02
open PySem L2 PF ML S_k02

theorem fmod_b (i m : Int) (h : 0 < m) : 0 ≤ i.fmod m ∧ i.fmod m < m := by
  rw [Int.fmod_eq_emod_of_nonneg _ (by omega)]
  exact ⟨Int.emod_nonneg _ (by omega), Int.emod_lt_of_pos _ (by omega)⟩
theorem mix_ok (c k : Int) : ∃ z, f_ulaw_mix [.int c, .int k] = .ok (.int z) := by
  have h1 : ∀ i, mulOk i 48271 = true := fun i => mulOk_r (by decide)
  have h2 : ∀ i, mulOk i 69621 = true := fun i => mulOk_r (by decide)
  have h3 : ∀ i, mulOk i 40692 = true := fun i => mulOk_r (by decide)
  have h4 : ∀ i, mulOk i 16807 = true := fun i => mulOk_r (by decide)
  have h5 : ∀ i : Int, mulOk (i.fmod 2147483647) (i.fmod 2147483647) = true := fun i => by
    have := fmod_b i 2147483647 (by decide)
    exact mulOk_l (by omega)
  have h6 : divOk 8 = true := divOk_s (by decide) (by decide)
  have key : ∀ (a b : Int), a = (c * 48271 + k * 69621 + 11).fmod 2147483647 → b = (a * a + k * 40692 + 7).fmod 2147483399 → f_ulaw_mix [.int c, .int k] = .ok (.int (((b * 16807 + a).fmod 2147483587).fdiv 8)) := by
    intro a b ea eb
    subst ea eb
    simp [f_ulaw_mix, g_ulaw_mix, h1, h2, h3, h4, h5, h6]
  exact ⟨_, key _ _ rfl rfl⟩
def rowI (ns : List Int) (a m : Int) (n : Nat) (ds : List D) (ρ : Sl) : Prop := ∃ (c r : Int) (cs ks : List Int) (kc : Cell), ds = ks.map D.int ∧ cs.length + ds.length = n ∧ ρ = [.v (.rol (ns.map D.int)), .v (.int a), .v (.int m), .v (.int c), .o (cs.map D.int), .v (.int r), kc]
theorem row_step {ns : List Int} {a m : Int} {n : Nat} (hn : n ≤ 1000) (d : D) (ds : List D) (ρ : Sl) (h : rowI ns a m n (d :: ds) ρ) : ∃ ρ1, gName 6 d ρ = some ρ1 ∧ ∃ ρ2, (b1_ulaw_row ρ1 = .nx ρ2 ∨ b1_ulaw_row ρ1 = .ct ρ2) ∧ rowI ns a m n ds ρ2 := by
  obtain ⟨c, r, cs, ks, kc, h1, h2, rfl⟩ := h
  cases ks with
  | nil => cases h1
  | cons k ks =>
    cases h1
    refine ⟨_, rfl, ?_⟩
    have hl : cs.length < 16777216 := by simp at h2; omega
    have h6 : divOk 1009 = true := divOk_s (by decide) (by decide)
    obtain ⟨z, hz⟩ := mix_ok c k
    have hA : ∀ ρ2, ρ2 = [.v (.rol (ns.map D.int)), .v (.int a), .v (.int m), .v (.int c), .o ((cs ++ [z]).map D.int), .v (.int r), .v (.int k)] → rowI ns a m n (ks.map D.int) ρ2 := fun ρ2 e => ⟨c, r, cs ++ [z], ks, _, rfl, by simp at h2 ⊢; omega, e⟩
    have hB : ∀ ρ2, ρ2 = [.v (.rol (ns.map D.int)), .v (.int a), .v (.int m), .v (.int c), .o ((cs ++ [r.fmod 1009]).map D.int), .v (.int (r.fdiv 1009)), .v (.int k)] → rowI ns a m n (ks.map D.int) ρ2 := fun ρ2 e => ⟨c, r.fdiv 1009, cs ++ [r.fmod 1009], ks, _, rfl, by simp at h2 ⊢; omega, e⟩
    cases e1 : cb (1000000000000000000 ≤ (if c < 0 then -c else c)) <;> cases e2 : cb (0 < r)
    · exact ⟨_, .inl (by simp [-cb_iff, -cb_nif, b1_ulaw_row, e1, e2, hl, hz]; rfl), hA _ (by simp)⟩
    · exact ⟨_, .inl (by simp [-cb_iff, -cb_nif, b1_ulaw_row, e1, e2, hl, hz]; rfl), hA _ (by simp)⟩
    · exact ⟨_, .inl (by simp [-cb_iff, -cb_nif, b1_ulaw_row, e1, e2, hl, hz]; rfl), hA _ (by simp)⟩
    · exact ⟨_, .inl (by simp [-cb_iff, -cb_nif, b1_ulaw_row, e1, e2, hl, h6]; rfl), hB _ (by simp)⟩
theorem row_ok (ns : List Int) (hns : ns.length ≤ 63) (a : Int) (ha : 0 ≤ a) (n : Nat) (hn : n ≤ 1000) : ∃ cs : List Int, cs.length = n ∧ f_ulaw_row [.rol (ns.map D.int), .int a, .int n] = .ok (.lst (cs.map D.int)) := by
  have fin : ∀ c r : Int, ∃ ρ', forRun (gName 6) b1_ulaw_row (rngD 0 n) [.v (.rol (ns.map D.int)), .v (.int a), .v (.int n), .v (.int c), .o [], .v (.int r), .e] = .nx ρ' ∧ rowI ns a n n [] ρ' := fun c r =>
    for_inv (rowI ns a n n) (row_step hn) _ _ ⟨c, r, [], _, .e, rngD_ints 0 n, by simp [rngD], rfl⟩
  have hg := rng1_ok (n := n) (by omega)
  have key : ∀ c : Int, ∃ cs : List Int, cs.length = n ∧ (gSeq (gSetO 4 (fLst aNil))
    (gSeq (gSet 5 (sUn bAbs (sRd 3)))
    (gSeq (gFor (iRg1 (aCons (sVar 2) aNil)) (gName 6) b1_ulaw_row)
    (gFrz 4 (gRet (sVar 4)))))) [.v (.rol (ns.map D.int)), .v (.int a), .v (.int n), .v (.int c), .e, .e, .e] = .ret (.lst (cs.map D.int)) := fun c => by
    obtain ⟨ρ', h1, c', r', cs, ks, kc, h2, h3, rfl⟩ := fin c (if c < 0 then -c else c)
    refine ⟨cs, by simpa using h3, ?_⟩
    simp [-cb_iff, -cb_nif, -gRng1, hg, h1]
  have h7 : ∀ i, mulOk 7919 i = true := fun i => mulOk_l (by decide)
  have start : ∃ c : Int, (gSeq (gSet 3 (sVar 1)) (gIf (sTest (sOp oLt (sRd 1) (sUn bLen (sRd 0)))) (gSet 3 (sOp oIx (sRd 0) (sRd 1))) (gIf (sTest (sOp oGt (sUn bLen (sRd 0)) (sC (.int 0)))) (gSet 3 (sOp oAdd (sOp oIx (sRd 0) (sOp oMod (sRd 1) (sUn bLen (sRd 0)))) (sOp oMul (sC (.int 7919)) (sRd 1)))) gNil))) [.v (.rol (ns.map D.int)), .v (.int a), .v (.int n), .e, .e, .e, .e] = .nx [.v (.rol (ns.map D.int)), .v (.int a), .v (.int n), .v (.int c), .e, .e, .e] := by
    by_cases e1 : a < (ns.length : Int)
    · obtain ⟨z, hz⟩ := atI_ints ha e1
      exact ⟨z, by simp [-cb_iff, -cb_nif, cb_t e1, hz]⟩
    · by_cases e2 : (0 : Int) < (ns.length : Int)
      · obtain ⟨z, hz⟩ := atI_ints (ns := ns) (fmod_b a _ e2).1 (fmod_b a _ e2).2
        have e3 : ns ≠ [] := by intro h; subst h; simp at e2
        exact ⟨z + 7919 * a, by simp [-cb_iff, -cb_nif, cb_f e1, cb_t e2, cb_t (show 0 < ns.length by omega), hz, h7, e3]⟩
      · exact ⟨a, by simp [-cb_iff, -cb_nif, cb_f e1, cb_f e2, cb_f (show ¬ 0 < ns.length by omega)]⟩
  obtain ⟨c, hc⟩ := start
  obtain ⟨cs, h8, h9⟩ := key c
  refine ⟨cs, h8, ?_⟩
  have e : g_ulaw_row [.v (.rol (ns.map D.int)), .v (.int a), .v (.int n), .e, .e, .e, .e] = .ret (.lst (cs.map D.int)) := by
    rw [← h9]
    unfold g_ulaw_row
    exact seq_nx2 hc
  unfold f_ulaw_row
  exact semF_ret e
--BEGIN common
theorem euc : ∀ (k l r : Nat) (ds : List D) (kc : Cell), r < 2 ^ k → 2 * k + 2 ≤ ds.length → forRun (gName 2) b1_ulaw_common ds [.v (.int (l : Int)), .v (.int (r : Int)), kc] = .ret (.int ((Nat.gcd l r : Nat) : Int))
  | _, _, _, [], _, _, h => by simp at h
  | k, l, r, d :: ds, kc, hr, h => by
    by_cases h0 : r = 0
    · subst h0
      simp [forRun, b1_ulaw_common]
    · have hz : ¬ ((r : Int) = 0) := by omega
      have e1 : forRun (gName 2) b1_ulaw_common (d :: ds) [.v (.int (l : Int)), .v (.int (r : Int)), kc] = forRun (gName 2) b1_ulaw_common ds [.v (.int (r : Int)), .v (.int ((l % r : Nat) : Int)), .v d] := by
        simp [forRun, b1_ulaw_common, hz, h0, fmod_nat]
      rw [e1, Nat.gcd_comm, Nat.gcd_rec, Nat.gcd_comm]
      cases k with
      | zero => simp at hr; omega
      | succ k =>
        cases ds with
        | nil => simp at h
        | cons d' ds =>
          by_cases h1 : l % r = 0
          · simp [forRun, b1_ulaw_common, h1]
          · have hz : ¬ (((l % r : Nat) : Int) = 0) := by omega
            have e2 : forRun (gName 2) b1_ulaw_common (d' :: ds) [.v (.int (r : Int)), .v (.int ((l % r : Nat) : Int)), .v d] = forRun (gName 2) b1_ulaw_common ds [.v (.int ((l % r : Nat) : Int)), .v (.int ((r % (l % r) : Nat) : Int)), .v d'] := by
              simp only [forRun, PF.gName]
              simp [b1_ulaw_common, hz, h1, fmod_nat, -Int.natCast_emod]
            have hlt := half_rest (b := r) (r := l % r) (by omega) (Nat.mod_lt _ (by omega))
            rw [e2, euc k (l % r) (r % (l % r)) ds _ (by rw [Nat.pow_succ] at hr; omega) (by simp at h; omega)]
            rw [Nat.gcd_comm (l % r) (r % (l % r)), ← Nat.gcd_rec, Nat.gcd_comm]
theorem common_ok (a b : Int) {k : Nat} (hb : b.natAbs < 2 ^ k) (hk : k ≤ 9000) : f_ulaw_common [.int a, .int b] = .ok (.int ((Nat.gcd a.natAbs b.natAbs : Nat) : Int)) := by
  have h1 := bits_lt (b.natAbs : Int)
  have h2 : Builtin.Int.intBits (b.natAbs : Int) ≤ k := PyProof.Rows.intBits_le (by simpa using hb)
  rw [Int.natAbs_natCast] at h1
  have h3 := rng1_ok (n := 2 * Builtin.Int.intBits (b.natAbs : Int) + 4) (by omega)
  have h4 := euc _ a.natAbs b.natAbs (rngD 0 (2 * Builtin.Int.intBits (b.natAbs : Int) + 4)) .e h1 (by rw [rngD_len]; omega)
  have hm : ∀ i, mulOk 2 i = true := fun i => mulOk_l (by decide)
  rw [Int.natCast_add, Int.natCast_mul] at h3
  refine semF_ret ?_
  simp [-gRng1, g_ulaw_common, abs_nat, hm] at h3 h4 ⊢
  simp [-gRng1, h3, h4]
--END common
--BEGIN whole
theorem whole_ok (i : Int) : f_ulaw_is_whole [.int i] = .ok (.bl true) := by simp [f_ulaw_is_whole, g_ulaw_is_whole]
theorem tuple_run (ρ : Sl) (h : ρ.length = 3) : ∀ (ns : List Int) (acc : List Bool), acc.length + ns.length ≤ 100000 → lcRun (gName 2) tYesF b1_ulaw_is_tuple ρ (ns.map D.int) (acc.map D.bl) = .ok ((acc ++ ns.map fun _ => true).map D.bl)
  | [], acc, _ => by simp [lcRun]
  | n :: ns, acc, hl => by
    have e1 : b1_ulaw_is_tuple (ρ.set 2 (.v (.int n))) = .ok (.bl true) := by
      simp [b1_ulaw_is_tuple, h, whole_ok]
    have hlt : (acc.map D.bl).length < 16777216 := by simp at hl ⊢; omega
    have ih := tuple_run ρ h ns (acc ++ [true]) (by simp at hl ⊢; omega)
    rw [List.map_cons]
    unfold lcRun
    simp only [PF.gName, tYesF, Res.nx, Res.bind_ok, if_true, e1, hlt]
    simpa using ih
theorem tuple_ok (ns : List Int) (h : ns.length ≤ 100000) : f_ulaw_is_tuple [.tup (ns.map D.int), .int (ns.length : Int)] = .ok (.bl true) := by
  have e := tuple_run [.v (.tup (ns.map D.int)), .v (.int (ns.length : Int)), .e] rfl ns [] (by simpa using h)
  simp only [List.map_nil, List.nil_append] at e
  have e2 : dBls ((ns.map fun _ => true).map D.bl) = some (ns.map fun _ => true) := dBls_ok _
  simp only [List.map_map] at e e2
  simp [f_ulaw_is_tuple, g_ulaw_is_tuple, e, e2]
--END whole
end LC_k02

set_option Elab.async false
set_option linter.all false
set_option maxRecDepth 100000
set_option maxHeartbeats 4000000
namespace M_k02
open PySem L2 PF ML S_k02 LC_k02

theorem content_run (v : D) : ∀ (ns : List Int) (p : Nat) (kc : Cell), ∃ kc', forRun (PF.gName 2) b1_content (ns.map D.int) [.v v, .v (.int (p : Int)), kc] = .nx [.v v, .v (.int ((G p ns : Nat) : Int)), kc']
  | [], p, kc => ⟨kc, rfl⟩
  | n :: ns, p, kc => by
    obtain ⟨kc', ih⟩ := content_run v ns (Nat.gcd p n.natAbs) (.v (.int n))
    refine ⟨kc', ?_⟩
    rw [List.map_cons]
    simp only [forRun, PF.gName]
    simpa [b1_content, G] using ih
theorem content_ok (ns : List Int) : f_content [.tup (ns.map D.int)] = .ok (.int ((G 0 ns : Nat) : Int)) := by
  obtain ⟨kc', h⟩ := content_run (.tup (ns.map D.int)) ns 0 .e
  have h : forRun (PF.gName 2) b1_content (ns.map D.int) [.v (.tup (ns.map D.int)), .v (.int 0), .e] = _ := h
  simp [f_content, g_content, h]
theorem divisor_run (v : D) : ∀ (ns : List Int) (p : Nat) (kc : Cell), Bd 8000 ns → ∃ kc', forRun (PF.gName 2) b1_ulaw_divisor (ns.map D.int) [.v v, .v (.int (p : Int)), kc] = .nx [.v v, .v (.int ((G p ns : Nat) : Int)), kc']
  | [], p, kc, _ => ⟨kc, rfl⟩
  | n :: ns, p, kc, hb => by
    obtain ⟨kc', ih⟩ := divisor_run v ns (Nat.gcd p n.natAbs) (.v (.int n)) fun m hm => hb m (by simp [hm])
    refine ⟨kc', ?_⟩
    have hc := common_ok (p : Int) n (hb n (by simp)) (by decide)
    rw [Int.natAbs_natCast] at hc
    rw [List.map_cons]
    simp only [forRun, PF.gName]
    simpa [b1_ulaw_divisor, hc, G] using ih
theorem divisor_ok (ns : List Int) (hb : Bd 8000 ns) : f_ulaw_divisor [.tup (ns.map D.int)] = .ok (.int ((G 0 ns : Nat) : Int)) := by
  obtain ⟨kc', h⟩ := divisor_run (.tup (ns.map D.int)) ns 0 .e hb
  have h : forRun (PF.gName 2) b1_ulaw_divisor (ns.map D.int) [.v (.tup (ns.map D.int)), .v (.int 0), .e] = _ := h
  simp [f_ulaw_divisor, g_ulaw_divisor, h]
theorem times_ok (ns : List Int) (f : Int) {k l : Nat} (hb : Bd k ns) (hf : f.natAbs < 2 ^ l) (hkl : l + k ≤ 8000) (hl : ns.length ≤ 1000) : f_ulaw_times [.tup (ns.map D.int), .int f] = .ok (.tup ((ns.map (f * ·)).map D.int)) := by
  have e := lc_ints 2 b1_ulaw_times (f * ·) [.v (.tup (ns.map D.int)), .v (.int f), .e] ns (fun n hn => by
    have hm := mulOk_b hf (hb n hn) (by omega)
    simp [b1_ulaw_times, hm]) (by omega)
  simp [-List.map_map, f_ulaw_times, g_ulaw_times, e]
theorem eqOk_pt (ns : List Int) (d : Int) : eqOk (.tup [.tup (ns.map D.int), .int d]) = true := sh_of (by simp [D.py, D.pyA, PyData.canLay0, PyData.canLayAll0, pyA_ints, lay_ints]) (by simp [D.py, D.pyA, PyData.depth, PyData.depthAll, pyA_ints, dep_ints])
theorem eqvA_self : ∀ ns : List Int, PyData.eqvAll (ns.map PyData.int) (ns.map PyData.int) = true
  | [] => by simp [PyData.eqvAll]
  | n :: ns => by simp [PyData.eqvAll, PyData.eqv, eqvA_self ns]
theorem eqv_ints (ns : List Int) : eqv (.tup (ns.map D.int)) (.tup (ns.map D.int)) = true := by simp [eqv, D.py, pyA_ints, PyData.eqv, eqvA_self]
theorem eqv_pt (ns : List Int) (d : Int) : eqv (.tup [.tup (ns.map D.int), .int d]) (.tup [.tup (ns.map D.int), .int d]) = true := by simp [eqv, D.py, D.pyA, pyA_ints, PyData.eqv, PyData.eqvAll, eqvA_self]
theorem point_ok (ns : List Int) (d : Int) (hd : d ≠ 0) (hb : Bd 8000 ns) (hdb : d.natAbs < 2 ^ 8000) (hl : ns.length ≤ 1000) : ∃ (ms : List Int) (e : Int), ms.length = ns.length ∧ f_make_point [.tup (ns.map D.int), .int d] = .ok (.tup [.tup (ms.map D.int), .int e]) ∧ f_ulaw_point [.tup (ns.map D.int), .int d] = .ok (.tup [.tup (ms.map D.int), .int e]) := by
  have h1 := content_ok ns
  have h2 := divisor_ok ns hb
  have h3 := common_ok ((G 0 ns : Nat) : Int) d hdb (by decide)
  rw [Int.natAbs_natCast] at h3
  have hg : Nat.gcd (G 0 ns) d.natAbs ≠ 0 := fun h => by
    have := Nat.eq_zero_of_gcd_eq_zero_right h
    omega
  have hgl : Nat.gcd (G 0 ns) d.natAbs ≤ d.natAbs := Nat.gcd_le_right _ (by omega)
  generalize hG : Nat.gcd (G 0 ns) d.natAbs = g at *
  have e0 : (d == 0) = false := by simp [hd]
  by_cases hneg : d < 0
  · have k1 : divOk (-(g : Int)) = true := divOk_b (b := 8000) (by omega) (by rw [Int.natAbs_neg, Int.natAbs_natCast]; omega) (by decide)
    refine ⟨ns.map (·.fdiv (-(g : Int))), d.fdiv (-(g : Int)), by simp, ?_, ?_⟩
    · have e := lc_ints 3 b1_make_point (·.fdiv (-(g : Int))) [.v (.tup (ns.map D.int)), .v (.int d), .v (.int (-(g : Int))), .e] ns (fun n _ => by simp [b1_make_point, k1]) (by omega)
      simp [-cb_iff, -cb_nif, -List.map_map, f_make_point, g_make_point, h1, hG, hd, e0, cb_t hneg, k1, e]
    · have e := lc_ints 3 b1_ulaw_point (·.fdiv (-(g : Int))) [.v (.tup (ns.map D.int)), .v (.int d), .v (.int (-(g : Int))), .e] ns (fun n _ => by simp [b1_ulaw_point, k1]) (by omega)
      simp [-cb_iff, -cb_nif, -List.map_map, f_ulaw_point, g_ulaw_point, h2, h3, cb_t hneg, k1, e]
  · have k1 : divOk (g : Int) = true := divOk_b (b := 8000) (by omega) (by rw [Int.natAbs_natCast]; omega) (by decide)
    refine ⟨ns.map (·.fdiv (g : Int)), d.fdiv (g : Int), by simp, ?_, ?_⟩
    · have e := lc_ints 3 b1_make_point (·.fdiv (g : Int)) [.v (.tup (ns.map D.int)), .v (.int d), .v (.int (g : Int)), .e] ns (fun n _ => by simp [b1_make_point, k1]) (by omega)
      simp [-cb_iff, -cb_nif, -List.map_map, f_make_point, g_make_point, h1, hG, hd, e0, cb_f hneg, k1, e]
    · have e := lc_ints 3 b1_ulaw_point (·.fdiv (g : Int)) [.v (.tup (ns.map D.int)), .v (.int d), .v (.int (g : Int)), .e] ns (fun n _ => by simp [b1_ulaw_point, k1]) (by omega)
      simp [-cb_iff, -cb_nif, -List.map_map, f_ulaw_point, g_ulaw_point, h2, h3, cb_f hneg, k1, e]
theorem points_ok (ns : List Int) (d : Int) (hb : Bd 8000 ns) (hdb : d.natAbs < 2 ^ 8000) (hl : ns.length ≤ 1000) : f_ulaw_points [.tup (ns.map D.int), .int d] = .ok (.bl true) := by
  by_cases hd : d = 0
  · subst hd
    simp [f_ulaw_points, g_ulaw_points, f_make_point, g_make_point, t_CostsError, t_BadNumber, t_ValueError, t_BadTsk_NotAan_Unlied_BadPer_NoCots_BadQon_BadRge_BadSen_TooMny, t_BadTxt_BadNme_Unknme_Staley]
  · obtain ⟨ms, e, h0, h1, h2⟩ := point_ok ns d hd hb hdb hl
    have h3 := tuple_ok ms (by omega)
    rw [h0] at h3
    have e0 : (d == 0) = false := by simp [hd]
    simp [f_ulaw_points, g_ulaw_points, h1, h2, h3, hd, e0, whole_ok, eqOk_pt, eqv_pt]
theorem divides_ok (ns : List Int) (hb : Bd 8000 ns) (hl : ns.length ≤ 1000) : f_ulaw_divides [.tup (ns.map D.int)] = .ok (.bl true) := by
  have h1 := content_ok ns
  have h2 := divisor_ok ns hb
  have hG := G_lt ns 0 (Nat.two_pow_pos _) hb
  generalize G 0 ns = g at *
  by_cases hg : (1 : Int) < (g : Int)
  · have k1 : divOk (g : Int) = true := divOk_b (b := 8000) (by omega) (by rw [Int.natAbs_natCast]; exact hG) (by decide)
    have k2 : ¬ ((g : Int) < 2) := by omega
    have e1 := lc_ints 2 b1_primitive (·.fdiv (g : Int)) [.v (.tup (ns.map D.int)), .v (.int (g : Int)), .e] ns (fun n _ => by simp [b1_primitive, k1]) (by omega)
    have e2 := lc_ints 4 b1_ulaw_divides (·.fdiv (g : Int)) [.v (.tup (ns.map D.int)), .v (.int (g : Int)), .v (.tup (ns.map D.int)), .e, .e] ns (fun n _ => by simp [b1_ulaw_divides, k1]) (by omega)
    have h3 : f_primitive [.tup (ns.map D.int)] = .ok (.tup ((ns.map (·.fdiv (g : Int))).map D.int)) := by
      simp [-cb_iff, -cb_nif, -List.map_map, f_primitive, g_primitive, h1, cb_f k2, cb_f (show ¬ g < 2 by omega), e1]
    have h4 := tuple_ok (ns.map (·.fdiv (g : Int))) (by simp; omega)
    rw [List.length_map] at h4
    simp [-cb_iff, -cb_nif, -List.map_map, f_ulaw_divides, g_ulaw_divides, h2, cb_t hg, cb_t (show 1 < g by omega), e2, h3, h4, eqv_ints]
  · have k2 : (g : Int) < 2 := by omega
    have h3 : f_primitive [.tup (ns.map D.int)] = .ok (.tup (ns.map D.int)) := by
      simp [-cb_iff, -cb_nif, -List.map_map, f_primitive, g_primitive, h1, cb_t k2, cb_t (show g < 2 by omega)]
    have h4 := tuple_ok ns (by omega)
    simp [-cb_iff, -cb_nif, -List.map_map, f_ulaw_divides, g_ulaw_divides, h2, cb_f hg, cb_f (show ¬ 1 < g by omega), h3, h4, eqv_ints]
def numI (cells : D) (m : Int) (ds : List D) (ρ : Sl) : Prop := ∃ (t : Int) (ks : List Int) (kc : Cell), ds = ks.map D.int ∧ ρ = [.v cells, .v (.int m), .v (.int t), kc]
theorem num_step {cells : D} {m : Int} (d : D) (ds : List D) (ρ : Sl) (h : numI cells m (d :: ds) ρ) : ∃ ρ1, PF.gName 3 d ρ = some ρ1 ∧ ∃ ρ2, (b1_ulaw_number ρ1 = .nx ρ2 ∨ b1_ulaw_number ρ1 = .ct ρ2) ∧ numI cells m ds ρ2 := by
  obtain ⟨t, ks, kc, h1, rfl⟩ := h
  cases ks with
  | nil => cases h1
  | cons k ks =>
    cases h1
    have hm : ∀ i, mulOk i 1009 = true := fun i => mulOk_r (by decide)
    refine ⟨_, rfl, _, .inl (by simp [b1_ulaw_number, hm]; exact ⟨rfl, rfl⟩), _, ks, _, rfl, rfl⟩
theorem number_ok (cs : List Int) (m : Int) (hm : 0 < m) : ∃ z, f_ulaw_number [.lst (cs.map D.int), .int m] = .ok (.int z) ∧ 0 ≤ z ∧ z < m := by
  obtain ⟨ρ', h1, t, ks, kc, h2, rfl⟩ := for_inv (numI (.lst (cs.map D.int)) m) num_step (cs.map D.int) [.v (.lst (cs.map D.int)), .v (.int m), .v (.int 0), .e] ⟨0, cs, .e, rfl, rfl⟩
  have h0 : m ≠ 0 := by omega
  exact ⟨t.fmod m, by simp [f_ulaw_number, g_ulaw_number, h1, h0], (fmod_b t m hm).1, (fmod_b t m hm).2⟩
theorem sgn_b (c : Int) : (1 - 2 * c.fmod 2).natAbs ≤ 1 := by
  have := fmod_b c 2 (by decide)
  omega
theorem sgn_m (i c : Int) : mulOk i (1 - 2 * c.fmod 2) = true := mulOk_r (Nat.lt_of_le_of_lt (sgn_b c) (by decide))
theorem sgn_lt {z c : Int} {k : Nat} (h : z.natAbs < 2 ^ k) : (z * (1 - 2 * c.fmod 2)).natAbs < 2 ^ k := by
  rw [Int.natAbs_mul]
  exact Nat.lt_of_le_of_lt (Nat.mul_le_mul_left _ (sgn_b c)) (by rw [Nat.mul_one]; exact h)
/-- the loop of _law_vector -/
def vecI (sc : D) (ts cs : List Int) (lim : Int) (n : Nat) (ds : List D) (ρ : Sl) : Prop := ∃ (vs : List Int) (k : Nat) (kc nc : Cell), ds = (List.range' k ds.length).map (fun (j : Nat) => D.int (j : Int)) ∧ k + ds.length = n ∧ vs.length = k ∧ Bd 140 vs ∧ ρ = [.v sc, .v (.lst (ts.map D.int)), .v (.int lim), .v (.lst (cs.map D.int)), .o (vs.map D.int), kc, nc]
theorem vec_step {sc : D} {t0 t1 t2 t3 t4 : Int} {ts cs : List Int} {lim : Int} {n : Nat} (hl : 0 < lim) (hl2 : lim ≤ 10 ^ 40) (hn : n ≤ 12) (hcs : cs.length = 180) (d : D) (ds : List D) (ρ : Sl) (h : vecI sc (t0 :: t1 :: t2 :: t3 :: t4 :: ts) cs lim n (d :: ds) ρ) :
    ∃ ρ1, PF.gName 5 d ρ = some ρ1 ∧ ∃ ρ2, (b1_ulaw_vector ρ1 = .nx ρ2 ∨ b1_ulaw_vector ρ1 = .ct ρ2) ∧ vecI sc (t0 :: t1 :: t2 :: t3 :: t4 :: ts) cs lim n ds ρ2 := by
  obtain ⟨vs, k, kc, nc, h1, h2, h3, h4, rfl⟩ := h
  simp only [List.length_cons, List.range'_succ, List.map_cons, List.cons.injEq] at h1
  obtain ⟨rfl, h1⟩ := h1
  refine ⟨_, rfl, ?_⟩
  have m15 : ∀ i, mulOk 15 i = true := fun i => mulOk_l (by decide)
  have m2 : ∀ i, mulOk 2 i = true := fun i => mulOk_l (by decide)
  obtain ⟨ms, hms⟩ := cut_ints cs (some (15 * (k : Int) + 1)) (some (15 * (k : Int) + 15))
  obtain ⟨z, hz, hz0, hz1⟩ := number_ok ms lim hl
  obtain ⟨c, hc⟩ := atI_ints (ns := cs) (i := 15 * (k : Int)) (by omega) (by simp at h2; omega)
  have hlen : vs.length < 16777216 := by simp at h2; omega
  have t2' : atI ((t0 :: t1 :: t2 :: t3 :: t4 :: ts).map D.int) 2 = some (.int t2) := by simp
  have t3' : atI ((t0 :: t1 :: t2 :: t3 :: t4 :: ts).map D.int) 3 = some (.int t3) := by simp
  have t4' : atI ((t0 :: t1 :: t2 :: t3 :: t4 :: ts).map D.int) 4 = some (.int t4) := atI_nat (k := 4) rfl (by simp)
  generalize hts : (t0 :: t1 :: t2 :: t3 :: t4 :: ts).map D.int = T at *
  have hzb : z.natAbs < 2 ^ 140 := Nat.lt_of_lt_of_le (show z.natAbs < 10 ^ 40 by omega) (by decide)
  have fin : ∀ w : Int, w.natAbs < 2 ^ 140 → ∀ ρ2, ρ2 = [.v sc, .v (.lst T), .v (.int lim), .v (.lst (cs.map D.int)), .o ((vs ++ [w * (1 - 2 * c.fmod 2)]).map D.int), .v (.int k), .v (.int w)] → vecI sc (t0 :: t1 :: t2 :: t3 :: t4 :: ts) cs lim n ds ρ2 := fun w hw ρ2 e => by
    refine ⟨vs ++ [w * (1 - 2 * c.fmod 2)], k + 1, _, _, h1, by simp at h2; omega, by simp [h3], fun x hx => ?_, by rw [hts]; exact e⟩
    rcases List.mem_append.mp hx with hx | hx
    · exact h4 x hx
    · rw [List.mem_singleton.mp hx]; exact sgn_lt hw
  by_cases q1 : t2.fmod 3 = 1 <;> by_cases q2 : (k : Int).fmod 3 = t3.fmod 3 <;> by_cases q3 : t4.fmod 8 = 1
  · exact ⟨_, .inl (by simp [b1_ulaw_vector, hms, hz, hc, m15, m2, sgn_m, hlen, t2', t3', t4', q1, q2, q3]; rfl), fin 0 (by decide) _ (by simp)⟩
  · exact ⟨_, .inl (by simp [b1_ulaw_vector, hms, hz, hc, m15, m2, sgn_m, hlen, t2', t3', t4', q1, q2, q3]; rfl), fin 0 (by decide) _ (by simp)⟩
  · exact ⟨_, .inl (by simp [b1_ulaw_vector, hms, hz, hc, m15, m2, sgn_m, hlen, t2', t3', t4', q1, q2, q3]; rfl), fin 0 (by decide) _ (by simp)⟩
  · exact ⟨_, .inl (by simp [b1_ulaw_vector, hms, hz, hc, m15, m2, sgn_m, hlen, t2', t3', t4', q1, q2, q3]; rfl), fin z hzb _ (by simp)⟩
  · exact ⟨_, .inl (by simp [b1_ulaw_vector, hms, hz, hc, m15, m2, sgn_m, hlen, t2', t3', t4', q1, q2, q3]; rfl), fin 0 (by decide) _ (by simp)⟩
  · exact ⟨_, .inl (by simp [b1_ulaw_vector, hms, hz, hc, m15, m2, sgn_m, hlen, t2', t3', t4', q1, q2, q3]; rfl), fin z hzb _ (by simp)⟩
  · exact ⟨_, .inl (by simp [b1_ulaw_vector, hms, hz, hc, m15, m2, sgn_m, hlen, t2', t3', t4', q1, q2, q3]; rfl), fin 0 (by decide) _ (by simp)⟩
  · exact ⟨_, .inl (by simp [b1_ulaw_vector, hms, hz, hc, m15, m2, sgn_m, hlen, t2', t3', t4', q1, q2, q3]; rfl), fin z hzb _ (by simp)⟩
theorem vec_ok (sc : List Int) (hsc : sc.length ≤ 63) (t0 t1 t2 t3 t4 : Int) (ts : List Int) : ∃ vs : List Int, 1 ≤ vs.length ∧ vs.length ≤ 12 ∧ Bd 140 vs ∧ f_ulaw_vector [.rol (sc.map D.int), .lst ((t0 :: t1 :: t2 :: t3 :: t4 :: ts).map D.int)] = .ok (.tup (vs.map D.int)) := by
  obtain ⟨cs, hcs, hrow⟩ := row_ok sc hsc 1 (by decide) 180 (by decide)
  have hrow : f_ulaw_row [.rol (sc.map D.int), .int 1, .int 180] = _ := hrow
  have hn := fmod_b t1 12 (by decide)
  obtain ⟨n, hn'⟩ := Int.eq_ofNat_of_zero_le (show 0 ≤ 1 + t1.fmod 12 by omega)
  have hg := rng1_ok (n := n) (by omega)
  have hp := pow_ok (i := 10) (k := 40) (by decide) (by decide)
  have hr : rngD 0 n = (List.range' 0 (rngD 0 n).length).map (fun (j : Nat) => D.int (j : Int)) := by simp [rngD, List.range_eq_range']
  have t0' : atI ((t0 :: t1 :: t2 :: t3 :: t4 :: ts).map D.int) 0 = some (.int t0) := by simp
  have t1' : atI ((t0 :: t1 :: t2 :: t3 :: t4 :: ts).map D.int) 1 = some (.int t1) := by simp
  have main : ∀ lim : Int, 0 < lim → lim ≤ 10 ^ 40 → ∃ (vs : List Int) (kc nc : Cell), 1 ≤ vs.length ∧ vs.length ≤ 12 ∧ Bd 140 vs ∧ forRun (PF.gName 5) b1_ulaw_vector (rngD 0 n) [.v (.rol (sc.map D.int)), .v (.lst ((t0 :: t1 :: t2 :: t3 :: t4 :: ts).map D.int)), .v (.int lim), .v (.lst (cs.map D.int)), .o [], .e, .e] = .nx [.v (.rol (sc.map D.int)), .v (.lst ((t0 :: t1 :: t2 :: t3 :: t4 :: ts).map D.int)), .v (.int lim), .v (.lst (cs.map D.int)), .o (vs.map D.int), kc, nc] := fun lim h1 h2 => by
    obtain ⟨ρ', h3, vs, k, kc, nc, _, h5, h6, h7, rfl⟩ := for_inv (vecI (.rol (sc.map D.int)) (t0 :: t1 :: t2 :: t3 :: t4 :: ts) cs lim n) (vec_step h1 h2 (by omega) hcs) (rngD 0 n) [.v (.rol (sc.map D.int)), .v (.lst ((t0 :: t1 :: t2 :: t3 :: t4 :: ts).map D.int)), .v (.int lim), .v (.lst (cs.map D.int)), .o [], .e, .e] ⟨[], 0, .e, .e, hr, by rw [rngD_len]; omega, rfl, fun _ h => by simp at h, rfl⟩
    exact ⟨vs, kc, nc, by simp at h5; omega, by simp at h5; omega, h7, h3⟩
  generalize hts : (t0 :: t1 :: t2 :: t3 :: t4 :: ts).map D.int = T at *
  have h5 : t0.fmod 3 = 0 ∨ t0.fmod 3 = 1 ∨ t0.fmod 3 = 2 := by have := fmod_b t0 3 (by decide); omega
  rcases h5 with h5 | h5 | h5
  · obtain ⟨vs, kc, nc, k1, k2, k3, k4⟩ := main 10 (by decide) (by decide)
    exact ⟨vs, k1, k2, k3, by simp [-cb_iff, -cb_nif, -gRng1, f_ulaw_vector, g_ulaw_vector, hrow, hg, hn', hp, t0', t1', h5, k4]⟩
  · obtain ⟨vs, kc, nc, k1, k2, k3, k4⟩ := main 1000 (by decide) (by decide)
    exact ⟨vs, k1, k2, k3, by simp [-cb_iff, -cb_nif, -gRng1, f_ulaw_vector, g_ulaw_vector, hrow, hg, hn', hp, t0', t1', h5, k4]⟩
  · obtain ⟨vs, kc, nc, k1, k2, k3, k4⟩ := main (10 ^ 40) (by decide) (by decide)
    simp at k4
    exact ⟨vs, k1, k2, k3, by simp [-cb_iff, -cb_nif, -gRng1, f_ulaw_vector, g_ulaw_vector, hrow, hg, hn', hp, t0', t1', h5, k4]⟩
theorem times_ex (ns : List Int) (f : Int) {k l : Nat} (hb : Bd k ns) (hf : f.natAbs < 2 ^ l) (hkl : l + k ≤ 8000) (hl : ns.length ≤ 1000) : ∃ ms : List Int, f_ulaw_times [.tup (ns.map D.int), .int f] = .ok (.tup (ms.map D.int)) ∧ Bd (l + k) ms ∧ ms.length = ns.length :=
  ⟨_, times_ok ns f hb hf hkl hl, hb.mul hf, by simp⟩
theorem zero_ok (n : Nat) (h1 : 1 ≤ n) (h2 : n ≤ 1000) : oMulT (.tup [.int 0]) (.int (n : Int)) = .ok (.tup ((List.replicate n (0 : Int)).map D.int)) := by
  have e : (List.replicate n [D.int 0]).flatten = (List.replicate n (0 : Int)).map D.int := by
    rw [List.map_replicate]
    clear h1 h2
    induction n with
    | zero => rfl
    | succ n ih => rw [List.replicate_succ, List.flatten_cons, ih, List.replicate_succ]; rfl
  have c := cb_t (p := [D.int 0] ≠ [] ∧ 1 ≤ (n : Int) ∧ (n : Int) ≤ 1000 ∧ [D.int 0].length ≤ 1000) ⟨by simp, by omega, by omega, by simp⟩
  simp only [oMulT, c, if_true, Int.toNat_natCast, e]
theorem cut_bd (ns : List Int) (lo hi : Option Int) {k : Nat} (hb : Bd k ns) : ∃ ms : List Int, cutD (ns.map D.int) lo hi = .map D.int ms ∧ Bd k ms ∧ ms.length ≤ ns.length := by
  refine ⟨_, by unfold cutD; rw [← List.map_drop, ← List.map_take], fun n hn => hb n (List.mem_of_mem_drop (List.mem_of_mem_take hn)), ?_⟩
  rw [List.length_take, List.length_drop]
  omega
theorem facts (vs : List Int) (d f : Int) (hb : Bd 400 vs) (hd : d.natAbs < 2 ^ 400) (hf : f.natAbs < 2 ^ 200) (h1 : 1 ≤ vs.length) (h2 : vs.length ≤ 1000) : ∃ vf vg vm v1 zr : List Int,
    f_ulaw_times [.tup (vs.map D.int), .int f] = .ok (.tup (vf.map D.int)) ∧ f_ulaw_times [.tup (vs.map D.int), .int (-f)] = .ok (.tup (vg.map D.int)) ∧ f_ulaw_times [.tup (vs.map D.int), .int (-1)] = .ok (.tup (vm.map D.int)) ∧
    cutD (vs.map D.int) none (some 1) = v1.map D.int ∧ oMulT (.tup [.int 0]) (.int (vs.length : Int)) = .ok (.tup (zr.map D.int)) ∧ mulOk d f = true ∧ mulOk d (-f) = true ∧
    f_ulaw_points [.tup (vs.map D.int), .int d] = .ok (.bl true) ∧ f_ulaw_points [.tup (vs.map D.int), .int 1] = .ok (.bl true) ∧ f_ulaw_points [.tup (vs.map D.int), .int (-1)] = .ok (.bl true) ∧ f_ulaw_points [.tup (vs.map D.int), .int 0] = .ok (.bl true) ∧ f_ulaw_points [.tup (zr.map D.int), .int 0] = .ok (.bl true) ∧ f_ulaw_points [.tup (zr.map D.int), .int d] = .ok (.bl true) ∧ f_ulaw_points [.tup (zr.map D.int), .int (-f)] = .ok (.bl true) ∧
    f_ulaw_points [.tup (vf.map D.int), .int (d * f)] = .ok (.bl true) ∧ f_ulaw_points [.tup (vf.map D.int), .int f] = .ok (.bl true) ∧ f_ulaw_points [.tup (vg.map D.int), .int (d * -f)] = .ok (.bl true) ∧ f_ulaw_points [.tup (vg.map D.int), .int f] = .ok (.bl true) ∧
    f_ulaw_divides [.tup (vs.map D.int)] = .ok (.bl true) ∧ f_ulaw_divides [.tup (vf.map D.int)] = .ok (.bl true) ∧ f_ulaw_divides [.tup (vm.map D.int)] = .ok (.bl true) ∧ f_ulaw_divides [.tup (v1.map D.int)] = .ok (.bl true) ∧ f_ulaw_divides [.tup (zr.map D.int)] = .ok (.bl true) ∧ f_ulaw_points [.tup (vs.map D.int), .int f] = .ok (.bl true) := by
  have hg : (-f).natAbs < 2 ^ 200 := b_neg hf
  obtain ⟨vf, a1, a2, a3⟩ := times_ex vs f hb hf (by decide) h2
  obtain ⟨vg, b1, b2, b3⟩ := times_ex vs (-f) hb hg (by decide) h2
  obtain ⟨vm, c1, c2, c3⟩ := times_ex vs (-1) (l := 1) hb (by decide) (by decide) h2
  obtain ⟨v1, d1, d2, d3⟩ := cut_bd vs none (some 1) hb
  have zb : Bd 400 (List.replicate vs.length (0 : Int)) := fun n hn => by
    rw [(List.mem_replicate.mp hn).2]; exact Nat.two_pow_pos _
  have zl : (List.replicate vs.length (0 : Int)).length ≤ 1000 := by simpa using h2
  have df : (d * f).natAbs < 2 ^ 8000 := b_up (b_mul hd hf) (by decide)
  have dg : (d * -f).natAbs < 2 ^ 8000 := b_up (b_mul hd hg) (by decide)
  have d' : d.natAbs < 2 ^ 8000 := b_up hd (by decide)
  have f' : f.natAbs < 2 ^ 8000 := b_up hf (by decide)
  have g' : (-f).natAbs < 2 ^ 8000 := b_up hg (by decide)
  have s1 : (1 : Int).natAbs < 2 ^ 8000 := b_up (a := 1) (by decide) (by decide)
  have s2 : (-1 : Int).natAbs < 2 ^ 8000 := b_up (a := 1) (by decide) (by decide)
  have s3 : (0 : Int).natAbs < 2 ^ 8000 := b_up (a := 1) (by decide) (by decide)
  have V := hb.up (l := 8000) (by decide)
  have Z := zb.up (l := 8000) (by decide)
  have A := a2.up (l := 8000) (by decide)
  have B := b2.up (l := 8000) (by decide)
  have C := c2.up (l := 8000) (by decide)
  have D' := d2.up (l := 8000) (by decide)
  exact ⟨vf, vg, vm, v1, _, a1, b1, c1, d1, zero_ok _ h1 h2, mulOk_b hd hf (by decide), mulOk_b hd hg (by decide), points_ok _ _ V d' h2, points_ok _ _ V s1 h2, points_ok _ _ V s2 h2, points_ok _ _ V s3 h2, points_ok _ _ Z s3 zl, points_ok _ _ Z d' zl, points_ok _ _ Z g' zl,
    points_ok _ _ A df (by omega), points_ok _ _ A f' (by omega), points_ok _ _ B dg (by omega), points_ok _ _ B f' (by omega), divides_ok _ V h2, divides_ok _ A (by omega), divides_ok _ C (by omega), divides_ok _ D' (by omega), divides_ok _ Z zl, points_ok _ _ V f' h2⟩
theorem pick2 (a b i : Int) (h0 : 0 ≤ i) (h : i < 2) : ∃ z : Int, atI [D.int a, D.int b] i = some (.int z) ∧ (z = a ∨ z = b) := by
  have : i = 0 ∨ i = 1 := by omega
  rcases this with e | e <;> subst e
  · exact ⟨a, by simp, by simp⟩
  · exact ⟨b, by simp, by simp⟩
theorem pick3 (a b c i : Int) (h0 : 0 ≤ i) (h : i < 3) : ∃ z : Int, atI [D.int a, D.int b, D.int c] i = some (.int z) ∧ (z = a ∨ z = b ∨ z = c) := by
  have : i = 0 ∨ i = 1 ∨ i = 2 := by omega
  rcases this with e | e | e <;> subst e
  · exact ⟨a, by simp, by simp⟩
  · exact ⟨b, by simp, by simp⟩
  · exact ⟨c, by simp, by simp⟩
theorem law_true : ∀ ns : List Int, ns.length ≤ 63 → f_law [.rol (ns.map D.int)] = .ok (.bl true) := fun ns hns => by
  obtain ⟨ts, hts, r0⟩ := row_ok ns hns 0 (by decide) 8 (by decide)
  match ts, hts with
  | [t0, t1, t2, t3, t4, t5, t6, t7], _ =>
  obtain ⟨vs, hv1, hv2, hv3, hv⟩ := vec_ok ns hns t0 t1 t2 t3 t4 [t5, t6, t7]
  obtain ⟨cs, hcs, r2⟩ := row_ok ns hns 2 (by decide) 15 (by decide)
  match cs, hcs with
  | c0 :: cs, _ =>
  obtain ⟨es, hes, r3⟩ := row_ok ns hns 3 (by decide) 14 (by decide)
  have r0 : f_ulaw_row [.rol (ns.map D.int), .int 0, .int 8] = _ := r0
  have r2 : f_ulaw_row [.rol (ns.map D.int), .int 2, .int 15] = _ := r2
  have r3 : f_ulaw_row [.rol (ns.map D.int), .int 3, .int 14] = _ := r3
  obtain ⟨ms, hms⟩ := cut_ints (c0 :: cs) (some 1) none
  obtain ⟨l5, p5, q5⟩ := pick2 10 (10 ^ 40) (t5.fmod 2) (fmod_b t5 2 (by decide)).1 (fmod_b t5 2 (by decide)).2
  obtain ⟨l6, p6, q6⟩ := pick3 9 (10 ^ 12) (10 ^ 40 - 1) (t6.fmod 3) (fmod_b t6 3 (by decide)).1 (fmod_b t6 3 (by decide)).2
  have h5 : 0 < l5 ∧ l5 ≤ 10 ^ 40 := by rcases q5 with rfl | rfl <;> decide
  have h6 : 0 < l6 ∧ l6 ≤ 10 ^ 40 := by rcases q6 with rfl | rfl | rfl <;> decide
  obtain ⟨z, hz, hz0, hz1⟩ := number_ok ms l5 h5.1
  obtain ⟨w, hw, hw0, hw1⟩ := number_ok es l6 h6.1
  have zb : z.natAbs < 2 ^ 140 := Nat.lt_of_lt_of_le (show z.natAbs < 10 ^ 40 by omega) (by decide)
  have wb : (1 + w).natAbs < 2 ^ 140 := Nat.lt_of_le_of_lt (show (1 + w).natAbs ≤ 10 ^ 40 by omega) (by decide)
  have db := sgn_lt (c := c0) zb
  have hp1 := pow_ok (i := 10) (k := 40) (by decide) (by decide)
  have hp2 := pow_ok (i := 10) (k := 12) (by decide) (by decide)
  have m2 : ∀ i, mulOk 2 i = true := fun i => mulOk_l (by decide)
  have s0 := sgn_m z c0
  have md := mulOk_b db wb (by decide)
  have a5 : atI ([t0, t1, t2, t3, t4, t5, t6, t7].map D.int) 5 = some (.int t5) := atI_nat (k := 5) rfl (by simp)
  have a6 : atI ([t0, t1, t2, t3, t4, t5, t6, t7].map D.int) 6 = some (.int t6) := atI_nat (k := 6) rfl (by simp)
  have a7 : atI ([t0, t1, t2, t3, t4, t5, t6, t7].map D.int) 7 = some (.int t7) := atI_nat (k := 7) rfl (by simp)
  have ac : atI ((c0 :: cs).map D.int) 0 = some (.int c0) := by simp
  generalize ([t0, t1, t2, t3, t4, t5, t6, t7].map D.int) = T at *
  generalize ((c0 :: cs).map D.int) = C at *
  simp at p5 p6
  obtain ⟨ws, hws, hwb, hwl⟩ := times_ex vs (1 + w) hv3 wb (by decide) (by omega)
  generalize hden : z * (1 - 2 * c0.fmod 2) = den at *
  generalize hfac : 1 + w = fac at *
  by_cases k1 : t7.fmod 4 = 1
  · obtain ⟨vf, vg, vm, v1, zr, x1, x2, x3, x4, x5, x6, x7, x8, x9, y0, y1, y2, y3, y4, y5, y6, y7, y8, y9, z0, z1, z2, z3, z4⟩ := facts ws den fac (hwb.up (by decide)) (b_up db (by decide)) (b_up wb (by decide)) (by omega) (by omega)
    simp [-cb_iff, -cb_nif, -List.map_map, -oMulT, f_law, g_law, forRun, b1_law, b2_law, b3_law, r0, r2, r3, hv, hms, hz, hw, p5, p6, a5, a6, a7, ac, hp1, hp2, m2, s0, hden, hfac, md, k1, hws, x1, x2, x3, x4, x5, x6, x7, x8, x9, y0, y1, y2, y3, y4, y5, y6, y7, y8, y9, z0, z1, z2, z3, z4]
  · by_cases k2 : t7.fmod 4 = 2
    · obtain ⟨vf, vg, vm, v1, zr, x1, x2, x3, x4, x5, x6, x7, x8, x9, y0, y1, y2, y3, y4, y5, y6, y7, y8, y9, z0, z1, z2, z3, z4⟩ := facts ws (den * fac) fac (hwb.up (by decide)) (b_up (b_mul db wb) (by decide)) (b_up wb (by decide)) (by omega) (by omega)
      simp [-cb_iff, -cb_nif, -List.map_map, -oMulT, f_law, g_law, forRun, b1_law, b2_law, b3_law, r0, r2, r3, hv, hms, hz, hw, p5, p6, a5, a6, a7, ac, hp1, hp2, m2, s0, hden, hfac, md, k1, k2, hws, x1, x2, x3, x4, x5, x6, x7, x8, x9, y0, y1, y2, y3, y4, y5, y6, y7, y8, y9, z0, z1, z2, z3, z4]
    · obtain ⟨vf, vg, vm, v1, zr, x1, x2, x3, x4, x5, x6, x7, x8, x9, y0, y1, y2, y3, y4, y5, y6, y7, y8, y9, z0, z1, z2, z3, z4⟩ := facts vs den fac (hv3.up (by decide)) (b_up db (by decide)) (b_up wb (by decide)) (by omega) (by omega)
      simp [-cb_iff, -cb_nif, -List.map_map, -oMulT, f_law, g_law, forRun, b1_law, b2_law, b3_law, r0, r2, r3, hv, hms, hz, hw, p5, p6, a5, a6, a7, ac, hp1, hp2, m2, s0, hden, hfac, md, k1, k2, x1, x2, x3, x4, x5, x6, x7, x8, x9, y0, y1, y2, y3, y4, y5, y6, y7, y8, y9, z0, z1, z2, z3, z4]
end M_k02

set_option Elab.async false
set_option linter.all false
set_option maxRecDepth 100000
set_option maxHeartbeats 4000000
/-! The walk: each def keeps its promise; the end (printed by gen.py) -/
namespace W_k02
open PySem PySem.Spec L2 PF S_k02
def top (i : Nat) : Stmt := PySem.Challenge.pw_costsexplained_k02_points_in_lowest_term.main.body.getD i (.Pass ⟨0, 0, 0, 0⟩)
structure Bi (mg : Mg) : Prop where
  ValueError : mg "ValueError" = none
  abs : mg "abs" = none
  all : mg "all" = none
  bool : mg "bool" = none
  gcd : mg "gcd" = some (.builtin "math.gcd")
  int : mg "int" = none
  isinstance : mg "isinstance" = none
  len : mg "len" = none
  range : mg "range" = none
  tuple : mg "tuple" = none
structure Ez (K : Frg) (mg : Mg) : Prop where
  BadNumber : ExcT K mg "BadNumber" (He.ga K "BadNumber")
  g_BadName : mg "BadName" = some (.ref (He.ga K "BadName"))
  g_BadNumber : mg "BadNumber" = some (.ref (He.ga K "BadNumber"))
  g_BadPaper : mg "BadPaper" = some (.ref (He.ga K "BadPaper"))
  g_BadQuestion : mg "BadQuestion" = some (.ref (He.ga K "BadQuestion"))
  g_BadRange : mg "BadRange" = some (.ref (He.ga K "BadRange"))
  g_BadSeen : mg "BadSeen" = some (.ref (He.ga K "BadSeen"))
  g_BadTask : mg "BadTask" = some (.ref (He.ga K "BadTask"))
  g_BadText : mg "BadText" = some (.ref (He.ga K "BadText"))
  g_CostsError : mg "CostsError" = some (.ref (He.ga K "CostsError"))
  g_NoCosts : mg "NoCosts" = some (.ref (He.ga K "NoCosts"))
  g_NotAPlan : mg "NotAPlan" = some (.ref (He.ga K "NotAPlan"))
  g_StaleKey : mg "StaleKey" = some (.ref (He.ga K "StaleKey"))
  g_TooMany : mg "TooMany" = some (.ref (He.ga K "TooMany"))
  g_UnknownName : mg "UnknownName" = some (.ref (He.ga K "UnknownName"))
  g_Unlisted : mg "Unlisted" = some (.ref (He.ga K "Unlisted"))
  X_t_ValueError : TabI K mg t_ValueError (.type "ValueError")
  X_t_BadNumber : TabI K mg t_BadNumber (.ref (He.ga K "BadNumber"))
  X_t_BadTsk_NotAan_Unlied_BadPer_NoCots_BadQon_BadRge_BadSen_TooMny : TabT K mg t_BadTsk_NotAan_Unlied_BadPer_NoCots_BadQon_BadRge_BadSen_TooMny [(.ref (He.ga K "BadTask")), (.ref (He.ga K "NotAPlan")), (.ref (He.ga K "Unlisted")), (.ref (He.ga K "BadPaper")), (.ref (He.ga K "NoCosts")), (.ref (He.ga K "BadQuestion")), (.ref (He.ga K "BadRange")), (.ref (He.ga K "BadSeen")), (.ref (He.ga K "TooMany"))]
  X_t_BadTxt_BadNme_Unknme_Staley : TabT K mg t_BadTxt_BadNme_Unknme_Staley [(.ref (He.ga K "BadText")), (.ref (He.ga K "BadName")), (.ref (He.ga K "UnknownName")), (.ref (He.ga K "StaleKey"))]
  Y_t_CostsError : Tab K mg t_CostsError (.ref (He.ga K "CostsError"))
abbrev s_content : Stmt := top 18
theorem sc_content : FnScope ["vector", "part", "entry"] ["vector"] (defScope s_content) := ⟨rfl, rfl, rfl, by decide +kernel, rfl, by decide +kernel, by decide +kernel⟩
theorem ok_content {P : Program} {w : World} {K : Frg} {mg : Mg} {base : Heap} {f : Addr} {fd : FuncData} (F : Fun K "content" "content" s_content f fd) (B : Bi mg) (Z : Ez K mg) : FnOk P w K mg base (L2.CX P w) 1 f fd ["vector"] (spF K mg 1 f_content) :=
  fn_ok F sc_content fun cdv A outer s H E hr cs => (ms_cons (ms_set 1 sc_content.nd me_int)
    (ms_cons (ms_for cs.po cs.hc (mi_seq (me_var 0 (pv 0))) (mg_name 2 sc_content.nd) (ms_one (ms_set 1 sc_content.nd (me_bf2 cr_gcd b_gcd B.gcd (mr_rd 1 (pv 1)) (mr_rd 2 (pv 2))))))
    (ms_one (ms_ret (me_var 1 (pv 1))))))
abbrev s_primitive : Stmt := top 19
theorem sc_primitive : FnScope ["vector", "part", "entry"] ["vector"] (defScope s_primitive) := ⟨rfl, rfl, rfl, by decide +kernel, rfl, by decide +kernel, by decide +kernel⟩
theorem ok_primitive {P : Program} {w : World} {K : Frg} {mg : Mg} {base : Heap} {f : Addr} {fd : FuncData} (F : Fun K "primitive" "primitive" s_primitive f fd) (B : Bi mg) (Z : Ez K mg) {a_content : Addr} {d_content : FuncData} (D_content : Df P w K mg base "content" 1 a_content d_content ["vector"] f_content) : FnOk P w K mg base (L2.CX P w) 2 f fd ["vector"] (spF K mg 1 f_primitive) :=
  fn_ok F sc_primitive fun cdv A outer s H E hr cs => (ms_cons (ms_set 1 sc_primitive.nd (me_calD D_content (hr.mono (by decide)) cs.cw (ma_cons (me_var 0 (pv 0)) ma_nil) (len_cons (fun ρ ds h => len_nil h))))
    (ms_cons (ms_if (mt_cmp op_lt o_lt (mr_rd 1 (pv 1)) (mr_of me_int) (nomark _)) (ms_one (ms_ret (me_t1 call_tuple_of b_tup B.tuple (by decide +kernel) (mr_rd 0 (pv 0))))) ms_nil)
    (ms_one (ms_ret (me_t1 call_tuple_of b_tup B.tuple (by decide +kernel) (mr_f (mf_lc (own := [("entry", 2)]) cs.hc sc_primitive.nd (mi_seq (me_var 0 (pv 0))) (blkOk_by (N := ["vector", "part", "entry"]) (sc := defScope s_primitive) (by decide +kernel)) (fun _ _ _ _ _ => (mg_name 2 sc_primitive.nd)) (fun _ _ _ _ _ => mts_nil) (fun _ _ _ _ _ => (me_op op_fdivU o_fdiv (mr_rd 2 (pv 2)) (mr_rd 1 (pv 1)))))))))))
abbrev s_make_point : Stmt := top 20
theorem sc_make_point : FnScope ["nums", "den", "part", "entry"] ["nums", "den"] (defScope s_make_point) := ⟨rfl, rfl, rfl, by decide +kernel, rfl, by decide +kernel, by decide +kernel⟩
theorem ok_make_point {P : Program} {w : World} {K : Frg} {mg : Mg} {base : Heap} {f : Addr} {fd : FuncData} (F : Fun K "make_point" "make_point" s_make_point f fd) (B : Bi mg) (Z : Ez K mg) {a_content : Addr} {d_content : FuncData} (D_content : Df P w K mg base "content" 1 a_content d_content ["vector"] f_content) : FnOk P w K mg base (L2.CX P w) 2 f fd ["nums", "den"] (spF K mg 2 f_make_point) :=
  fn_ok F sc_make_point fun cdv A outer s H E hr cs => (ms_cons (ms_if (mt_cmp (op_eqD hr.units) o_eq (mr_rd 1 (pv 1)) (mr_of me_int) (nomark _)) (ms_one (ms_raise cs Z.BadNumber)) ms_nil)
    (ms_cons (ms_set 2 sc_make_point.nd (me_bf2 cr_gcd b_gcd B.gcd (mr_of (me_calD D_content (hr.mono (by decide)) cs.cw (ma_cons (me_var 0 (pv 0)) ma_nil) (len_cons (fun ρ ds h => len_nil h)))) (mr_rd 1 (pv 1))))
    (ms_cons (ms_if (mt_cmp op_lt o_lt (mr_rd 1 (pv 1)) (mr_of me_int) (nomark _)) (ms_one (ms_set 2 sc_make_point.nd (me_un un_neg o_neg (mr_rd 2 (pv 2))))) ms_nil)
    (ms_one (ms_ret (me_tup (ma_cons (me_t1 call_tuple_of b_tup B.tuple (by decide +kernel) (mr_f (mf_lc (own := [("entry", 3)]) cs.hc sc_make_point.nd (mi_seq (me_var 0 (pv 0))) (blkOk_by (N := ["nums", "den", "part", "entry"]) (sc := defScope s_make_point) (by decide +kernel)) (fun _ _ _ _ _ => (mg_name 3 sc_make_point.nd)) (fun _ _ _ _ _ => mts_nil) (fun _ _ _ _ _ => (me_op op_fdivU o_fdiv (mr_rd 3 (pv 3)) (mr_rd 2 (pv 2))))))) (ma_cons (me_op op_fdivU o_fdiv (mr_rd 1 (pv 1)) (mr_rd 2 (pv 2))) ma_nil))))))))
abbrev s_ulaw_mix : Stmt := top 22
theorem sc_ulaw_mix : FnScope ["cell", "k", "first", "second"] ["cell", "k"] (defScope s_ulaw_mix) := ⟨rfl, rfl, rfl, by decide +kernel, rfl, by decide +kernel, by decide +kernel⟩
theorem ok_ulaw_mix {P : Program} {w : World} {K : Frg} {mg : Mg} {base : Heap} {f : Addr} {fd : FuncData} (F : Fun K "_law_mix" "_law_mix" s_ulaw_mix f fd) (B : Bi mg) (Z : Ez K mg) : FnOk P w K mg base (L2.CX P w) 1 f fd ["cell", "k"] (spF K mg 2 f_ulaw_mix) :=
  fn_ok F sc_ulaw_mix fun cdv A outer s H E hr cs => (ms_cons (ms_set 2 sc_ulaw_mix.nd (me_op op_modN o_mod (mr_of (me_t1 call_int1 b_int B.int (by decide +kernel) (mr_of (me_op op_addU o_add (mr_of (me_op op_addU o_add (mr_of (me_op op_mulU o_mul (mr_rd 0 (pv 0)) (mr_of me_int))) (mr_of (me_op op_mulU o_mul (mr_rd 1 (pv 1)) (mr_of me_int))))) (mr_of me_int))))) (mr_of me_int)))
    (ms_cons (ms_set 3 sc_ulaw_mix.nd (me_op op_modN o_mod (mr_of (me_t1 call_int1 b_int B.int (by decide +kernel) (mr_of (me_op op_addU o_add (mr_of (me_op op_addU o_add (mr_of (me_op op_mulU o_mul (mr_rd 2 (pv 2)) (mr_rd 2 (pv 2)))) (mr_of (me_op op_mulU o_mul (mr_rd 1 (pv 1)) (mr_of me_int))))) (mr_of me_int))))) (mr_of me_int)))
    (ms_one (ms_ret (me_op op_fdivU o_fdiv (mr_of (me_op op_modN o_mod (mr_of (me_t1 call_int1 b_int B.int (by decide +kernel) (mr_of (me_op op_addU o_add (mr_of (me_op op_mulU o_mul (mr_rd 3 (pv 3)) (mr_of me_int))) (mr_rd 2 (pv 2)))))) (mr_of me_int))) (mr_of me_int))))))
abbrev s_ulaw_row : Stmt := top 23
theorem sc_ulaw_row : FnScope ["script", "at", "many", "cell", "row", "rest", "k"] ["script", "at", "many"] (defScope s_ulaw_row) := ⟨rfl, rfl, rfl, by decide +kernel, rfl, by decide +kernel, by decide +kernel⟩
theorem ok_ulaw_row {P : Program} {w : World} {K : Frg} {mg : Mg} {base : Heap} {f : Addr} {fd : FuncData} (F : Fun K "_law_row" "_law_row" s_ulaw_row f fd) (B : Bi mg) (Z : Ez K mg) {a_ulaw_mix : Addr} {d_ulaw_mix : FuncData} (D_ulaw_mix : Df P w K mg base "_law_mix" 1 a_ulaw_mix d_ulaw_mix ["cell", "k"] f_ulaw_mix) : FnOk P w K mg base (L2.CX P w) 2 f fd ["script", "at", "many"] (spF K mg 3 f_ulaw_row) :=
  fn_ok F sc_ulaw_row fun cdv A outer s H E hr cs => (ms_cons (ms_set 3 sc_ulaw_row.nd (me_var 1 (pv 1)))
    (ms_cons (ms_if (mt_cmp op_lt o_lt (mr_rd 1 (pv 1)) (mr_of (me_b1 call_len b_len B.len (by decide +kernel) (mr_rd 0 (pv 0)))) (nomark _)) (ms_one (ms_set 3 sc_ulaw_row.nd (me_ix ix_seq o_ix (mr_rd 0 (pv 0)) (mr_rd 1 (pv 1)) (fun _ _ => rfl)))) (ms_one (ms_if (mt_cmp op_gt o_gt (mr_of (me_b1 call_len b_len B.len (by decide +kernel) (mr_rd 0 (pv 0)))) (mr_of me_int) (nomark _)) (ms_one (ms_set 3 sc_ulaw_row.nd (me_op op_addU o_add (mr_of (me_ix ix_seq o_ix (mr_rd 0 (pv 0)) (mr_of (me_op op_modN o_mod (mr_rd 1 (pv 1)) (mr_of (me_b1 call_len b_len B.len (by decide +kernel) (mr_rd 0 (pv 0)))))) (fun _ _ => rfl))) (mr_of (me_op op_mulU o_mul (mr_of me_int) (mr_rd 1 (pv 1))))))) ms_nil)))
    (ms_cons (ms_setO 4 sc_ulaw_row.nd (mf_lst ma_nil))
    (ms_cons (ms_set 5 sc_ulaw_row.nd (me_b1 call_abs b_abs B.abs (by decide +kernel) (mr_rd 3 (pv 3))))
    (ms_cons (ms_for cs.po cs.hc (mi_rng1 rfl B.range (ma_cons (me_var 2 (pv 2)) ma_nil)) (mg_name 6 sc_ulaw_row.nd) (ms_one (ms_if (PW.pt (mw_and (mt_cmp op_ge o_ge (mr_of (me_b1 call_abs b_abs B.abs (by decide +kernel) (mr_rd 3 (pv 3)))) (mr_of me_int) (nomark _)) (mw_and1 (mt_cmp op_gt o_gt (mr_rd 5 (pv 5)) (mr_of me_int) (nomark _))))) (ms_cons (ms_app 4 (pv 4) (me_op op_modN o_mod (mr_of (me_t1 call_int1 b_int B.int (by decide +kernel) (mr_rd 5 (pv 5)))) (mr_of me_int)))
    (ms_one (ms_set 5 sc_ulaw_row.nd (me_op op_fdivU o_fdiv (mr_rd 5 (pv 5)) (mr_of me_int))))) (ms_one (ms_app 4 (pv 4) (me_calD D_ulaw_mix (hr.mono (by decide)) cs.cw (ma_cons (me_var 3 (pv 3)) (ma_cons (me_var 6 (pv 6)) ma_nil)) (len_cons (len_cons (fun ρ ds h => len_nil h)))))))))
    (ms_frz 4 (ms_one (ms_ret (me_var 4 (pv 4))))))))))
abbrev s_ulaw_is_whole : Stmt := top 24
theorem sc_ulaw_is_whole : FnScope ["value"] ["value"] (defScope s_ulaw_is_whole) := ⟨rfl, rfl, rfl, by decide +kernel, rfl, by decide +kernel, by decide +kernel⟩
theorem ok_ulaw_is_whole {P : Program} {w : World} {K : Frg} {mg : Mg} {base : Heap} {f : Addr} {fd : FuncData} (F : Fun K "_law_is_whole" "_law_is_whole" s_ulaw_is_whole f fd) (B : Bi mg) (Z : Ez K mg) : FnOk P w K mg base (L2.CX P w) 1 f fd ["value"] (spF K mg 1 f_ulaw_is_whole) :=
  fn_ok F sc_ulaw_is_whole fun cdv A outer s H E hr cs => (ms_one (ms_ret (me_and (me_isi (mr_rd 0 (pv 0)) (by decide +kernel) B.isinstance B.int) (pe_one (me_not (me_isi (mr_rd 0 (pv 0)) (by decide +kernel) B.isinstance B.bool))))))
abbrev s_ulaw_is_tuple : Stmt := top 25
theorem sc_ulaw_is_tuple : FnScope ["value", "size", "num"] ["value", "size"] (defScope s_ulaw_is_tuple) := ⟨rfl, rfl, rfl, by decide +kernel, rfl, by decide +kernel, by decide +kernel⟩
theorem ok_ulaw_is_tuple {P : Program} {w : World} {K : Frg} {mg : Mg} {base : Heap} {f : Addr} {fd : FuncData} (F : Fun K "_law_is_tuple" "_law_is_tuple" s_ulaw_is_tuple f fd) (B : Bi mg) (Z : Ez K mg) {a_ulaw_is_whole : Addr} {d_ulaw_is_whole : FuncData} (D_ulaw_is_whole : Df P w K mg base "_law_is_whole" 1 a_ulaw_is_whole d_ulaw_is_whole ["value"] f_ulaw_is_whole) : FnOk P w K mg base (L2.CX P w) 2 f fd ["value", "size"] (spF K mg 2 f_ulaw_is_tuple) :=
  fn_ok F sc_ulaw_is_tuple fun cdv A outer s H E hr cs => (ms_one (ms_ret (me_and (me_isi (mr_rd 0 (pv 0)) (by decide +kernel) B.isinstance B.tuple) (me_and (me_cmp (op_eqD hr.units) o_eq (mr_of (me_b1 call_len b_len B.len (by decide +kernel) (mr_rd 0 (pv 0)))) (mr_rd 1 (pv 1)) (nomark _)) (pe_one (me_b1 (cr_all cs.hc) b_all B.all (by decide +kernel) (mr_f (mf_lc (own := [("num", 2)]) cs.hc sc_ulaw_is_tuple.nd (mi_seq (me_var 0 (pv 0))) (blkOk_by (N := ["value", "size", "num"]) (sc := defScope s_ulaw_is_tuple) (by decide +kernel)) (fun _ _ _ _ _ => (mg_name 2 sc_ulaw_is_tuple.nd)) (fun _ _ _ _ _ => mts_nil) (fun _ _ _ _ _ => (me_calD D_ulaw_is_whole (hr.mono (by decide)) cw0 (ma_cons (me_var 2 (pv 2)) ma_nil) (len_cons (fun ρ ds h => len_nil h))))))))))))
abbrev s_ulaw_common : Stmt := top 26
theorem sc_ulaw_common : FnScope ["left", "right", "step"] ["left", "right"] (defScope s_ulaw_common) := ⟨rfl, rfl, rfl, by decide +kernel, rfl, by decide +kernel, by decide +kernel⟩
theorem ok_ulaw_common {P : Program} {w : World} {K : Frg} {mg : Mg} {base : Heap} {f : Addr} {fd : FuncData} (F : Fun K "_law_common" "_law_common" s_ulaw_common f fd) (B : Bi mg) (Z : Ez K mg) : FnOk P w K mg base (L2.CX P w) 1 f fd ["left", "right"] (spF K mg 2 f_ulaw_common) :=
  fn_ok F sc_ulaw_common fun cdv A outer s H E hr cs => (ms_cons (ms_par 0 1 cs.hc sc_ulaw_common.nd (me_b1 call_abs b_abs B.abs (by decide +kernel) (mr_rd 0 (pv 0))) (me_b1 call_abs b_abs B.abs (by decide +kernel) (mr_rd 1 (pv 1))))
    (ms_cons (ms_for cs.po cs.hc (mi_rng1 rfl B.range (ma_cons (me_op op_addU o_add (mr_of (me_op op_mulU o_mul (mr_of me_int) (mr_of (me_bits (mr_rd 1 (pv 1)))))) (mr_of me_int)) ma_nil)) (mg_name 2 sc_ulaw_common.nd) (ms_cons (ms_if (mt_cmp (op_eqD hr.units) o_eq (mr_rd 1 (pv 1)) (mr_of me_int) (nomark _)) (ms_one (ms_ret (me_var 0 (pv 0)))) ms_nil)
    (ms_one (ms_par 0 1 cs.hc sc_ulaw_common.nd (me_var 1 (pv 1)) (me_op op_modN o_mod (mr_of (me_t1 call_int1 b_int B.int (by decide +kernel) (mr_rd 0 (pv 0)))) (mr_rd 1 (pv 1)))))))
    (ms_one (ms_ret (me_var 0 (pv 0))))))
abbrev s_ulaw_number : Stmt := top 27
theorem sc_ulaw_number : FnScope ["cells", "limit", "total", "cell"] ["cells", "limit"] (defScope s_ulaw_number) := ⟨rfl, rfl, rfl, by decide +kernel, rfl, by decide +kernel, by decide +kernel⟩
theorem ok_ulaw_number {P : Program} {w : World} {K : Frg} {mg : Mg} {base : Heap} {f : Addr} {fd : FuncData} (F : Fun K "_law_number" "_law_number" s_ulaw_number f fd) (B : Bi mg) (Z : Ez K mg) : FnOk P w K mg base (L2.CX P w) 1 f fd ["cells", "limit"] (spF K mg 2 f_ulaw_number) :=
  fn_ok F sc_ulaw_number fun cdv A outer s H E hr cs => (ms_cons (ms_set 2 sc_ulaw_number.nd me_int)
    (ms_cons (ms_for cs.po cs.hc (mi_seq (me_var 0 (pv 0))) (mg_name 3 sc_ulaw_number.nd) (ms_one (ms_set 2 sc_ulaw_number.nd (me_op op_addU o_add (mr_of (me_op op_mulU o_mul (mr_rd 2 (pv 2)) (mr_of me_int))) (mr_of (me_op op_modN o_mod (mr_of (me_t1 call_int1 b_int B.int (by decide +kernel) (mr_rd 3 (pv 3)))) (mr_of me_int)))))))
    (ms_one (ms_ret (me_op op_modN o_mod (mr_of (me_t1 call_int1 b_int B.int (by decide +kernel) (mr_rd 2 (pv 2)))) (mr_rd 1 (pv 1)))))))
abbrev s_ulaw_times : Stmt := top 28
theorem sc_ulaw_times : FnScope ["vector", "factor", "num"] ["vector", "factor"] (defScope s_ulaw_times) := ⟨rfl, rfl, rfl, by decide +kernel, rfl, by decide +kernel, by decide +kernel⟩
theorem ok_ulaw_times {P : Program} {w : World} {K : Frg} {mg : Mg} {base : Heap} {f : Addr} {fd : FuncData} (F : Fun K "_law_times" "_law_times" s_ulaw_times f fd) (B : Bi mg) (Z : Ez K mg) : FnOk P w K mg base (L2.CX P w) 1 f fd ["vector", "factor"] (spF K mg 2 f_ulaw_times) :=
  fn_ok F sc_ulaw_times fun cdv A outer s H E hr cs => (ms_one (ms_ret (me_t1 call_tuple_of b_tup B.tuple (by decide +kernel) (mr_f (mf_lc (own := [("num", 2)]) cs.hc sc_ulaw_times.nd (mi_seq (me_var 0 (pv 0))) (blkOk_by (N := ["vector", "factor", "num"]) (sc := defScope s_ulaw_times) (by decide +kernel)) (fun _ _ _ _ _ => (mg_name 2 sc_ulaw_times.nd)) (fun _ _ _ _ _ => mts_nil) (fun _ _ _ _ _ => (me_op op_mulU o_mul (mr_rd 1 (pv 1)) (mr_rd 2 (pv 2)))))))))
abbrev s_ulaw_divisor : Stmt := top 29
theorem sc_ulaw_divisor : FnScope ["vector", "part", "num"] ["vector"] (defScope s_ulaw_divisor) := ⟨rfl, rfl, rfl, by decide +kernel, rfl, by decide +kernel, by decide +kernel⟩
theorem ok_ulaw_divisor {P : Program} {w : World} {K : Frg} {mg : Mg} {base : Heap} {f : Addr} {fd : FuncData} (F : Fun K "_law_divisor" "_law_divisor" s_ulaw_divisor f fd) (B : Bi mg) (Z : Ez K mg) {a_ulaw_common : Addr} {d_ulaw_common : FuncData} (D_ulaw_common : Df P w K mg base "_law_common" 1 a_ulaw_common d_ulaw_common ["left", "right"] f_ulaw_common) : FnOk P w K mg base (L2.CX P w) 2 f fd ["vector"] (spF K mg 1 f_ulaw_divisor) :=
  fn_ok F sc_ulaw_divisor fun cdv A outer s H E hr cs => (ms_cons (ms_set 1 sc_ulaw_divisor.nd me_int)
    (ms_cons (ms_for cs.po cs.hc (mi_seq (me_var 0 (pv 0))) (mg_name 2 sc_ulaw_divisor.nd) (ms_one (ms_set 1 sc_ulaw_divisor.nd (me_calD D_ulaw_common (hr.mono (by decide)) cs.cw (ma_cons (me_var 1 (pv 1)) (ma_cons (me_var 2 (pv 2)) ma_nil)) (len_cons (len_cons (fun ρ ds h => len_nil h)))))))
    (ms_one (ms_ret (me_var 1 (pv 1))))))
abbrev s_ulaw_point : Stmt := top 30
theorem sc_ulaw_point : FnScope ["nums", "den", "part", "num"] ["nums", "den"] (defScope s_ulaw_point) := ⟨rfl, rfl, rfl, by decide +kernel, rfl, by decide +kernel, by decide +kernel⟩
theorem ok_ulaw_point {P : Program} {w : World} {K : Frg} {mg : Mg} {base : Heap} {f : Addr} {fd : FuncData} (F : Fun K "_law_point" "_law_point" s_ulaw_point f fd) (B : Bi mg) (Z : Ez K mg) {a_ulaw_divisor : Addr} {d_ulaw_divisor : FuncData} (D_ulaw_divisor : Df P w K mg base "_law_divisor" 2 a_ulaw_divisor d_ulaw_divisor ["vector"] f_ulaw_divisor) {a_ulaw_common : Addr} {d_ulaw_common : FuncData} (D_ulaw_common : Df P w K mg base "_law_common" 1 a_ulaw_common d_ulaw_common ["left", "right"] f_ulaw_common) : FnOk P w K mg base (L2.CX P w) 3 f fd ["nums", "den"] (spF K mg 2 f_ulaw_point) :=
  fn_ok F sc_ulaw_point fun cdv A outer s H E hr cs => (ms_cons (ms_set 2 sc_ulaw_point.nd (me_calD D_ulaw_common (hr.mono (by decide)) cs.cw (ma_cons (me_calD D_ulaw_divisor (hr.mono (by decide)) cs.cw (ma_cons (me_var 0 (pv 0)) ma_nil) (len_cons (fun ρ ds h => len_nil h))) (ma_cons (me_var 1 (pv 1)) ma_nil)) (len_cons (len_cons (fun ρ ds h => len_nil h)))))
    (ms_cons (ms_if (mt_cmp op_lt o_lt (mr_rd 1 (pv 1)) (mr_of me_int) (nomark _)) (ms_one (ms_set 2 sc_ulaw_point.nd (me_un un_neg o_neg (mr_rd 2 (pv 2))))) ms_nil)
    (ms_one (ms_ret (me_tup (ma_cons (me_t1 call_tuple_of b_tup B.tuple (by decide +kernel) (mr_f (mf_lc (own := [("num", 3)]) cs.hc sc_ulaw_point.nd (mi_seq (me_var 0 (pv 0))) (blkOk_by (N := ["nums", "den", "part", "num"]) (sc := defScope s_ulaw_point) (by decide +kernel)) (fun _ _ _ _ _ => (mg_name 3 sc_ulaw_point.nd)) (fun _ _ _ _ _ => mts_nil) (fun _ _ _ _ _ => (me_op op_fdivU o_fdiv (mr_rd 3 (pv 3)) (mr_rd 2 (pv 2))))))) (ma_cons (me_op op_fdivU o_fdiv (mr_rd 1 (pv 1)) (mr_rd 2 (pv 2))) ma_nil)))))))
abbrev s_ulaw_points : Stmt := top 31
theorem sc_ulaw_points : FnScope ["nums", "den", "told", "refused", "e"] ["nums", "den"] (defScope s_ulaw_points) := ⟨rfl, rfl, rfl, by decide +kernel, rfl, by decide +kernel, by decide +kernel⟩
theorem ok_ulaw_points {P : Program} {w : World} {K : Frg} {mg : Mg} {base : Heap} {f : Addr} {fd : FuncData} (F : Fun K "_law_points" "_law_points" s_ulaw_points f fd) (B : Bi mg) (Z : Ez K mg) {a_make_point : Addr} {d_make_point : FuncData} (D_make_point : Df P w K mg base "make_point" 2 a_make_point d_make_point ["nums", "den"] f_make_point) {a_ulaw_is_whole : Addr} {d_ulaw_is_whole : FuncData} (D_ulaw_is_whole : Df P w K mg base "_law_is_whole" 1 a_ulaw_is_whole d_ulaw_is_whole ["value"] f_ulaw_is_whole) {a_ulaw_is_tuple : Addr} {d_ulaw_is_tuple : FuncData} (D_ulaw_is_tuple : Df P w K mg base "_law_is_tuple" 2 a_ulaw_is_tuple d_ulaw_is_tuple ["value", "size"] f_ulaw_is_tuple) {a_ulaw_point : Addr} {d_ulaw_point : FuncData} (D_ulaw_point : Df P w K mg base "_law_point" 3 a_ulaw_point d_ulaw_point ["nums", "den"] f_ulaw_point) : FnOk P w K mg base (L2.CX P w) 4 f fd ["nums", "den"] (spF K mg 2 f_ulaw_points) :=
  fn_ok F sc_ulaw_points fun cdv A outer s H E hr cs => (ms_cons (ms_set 2 sc_ulaw_points.nd me_non)
    (ms_cons (ms_set 3 sc_ulaw_points.nd me_bl)
    (ms_cons (ms_try 4 cs rfl rfl sc_ulaw_points.nd ⟨rfl, by decide, Or.inl Z.g_CostsError⟩ Z.Y_t_CostsError (fun W pn xe cs => (ms_one (ms_set 2 sc_ulaw_points.nd (me_calD D_make_point (hr.mono (by decide)) cs.cw (ma_cons (me_var 0 (pv 0)) (ma_cons (me_var 1 (pv 1)) ma_nil)) (len_cons (len_cons (fun ρ ds h => len_nil h))))))) (fun a oe C dd pn hz hf => (ms_cons (ms_set 3 sc_ulaw_points.nd (me_and (me_isE 4 hz hf Z.X_t_BadNumber (pv 4) (pe_glob (v := .ref (He.ga K "BadNumber")) rfl Z.g_BadNumber rfl) (.own _) B.isinstance) (pe_one (me_isE 4 hz hf Z.X_t_ValueError (pv 4) (pe_bltn (v := .ty "ValueError") rfl B.ValueError (by decide +kernel) rfl) (.ty _) B.isinstance))))
    (ms_cons (ms_if (mt_tru (mr_of (me_isET (cvs := [.ref (He.ga K "BadTask"), .ref (He.ga K "NotAPlan"), .ref (He.ga K "Unlisted"), .ref (He.ga K "BadPaper"), .ref (He.ga K "NoCosts"), .ref (He.ga K "BadQuestion"), .ref (He.ga K "BadRange"), .ref (He.ga K "BadSeen"), .ref (He.ga K "TooMany")]) 4 hz hf Z.X_t_BadTsk_NotAan_Unlied_BadPer_NoCots_BadQon_BadRge_BadSen_TooMny (pv 4) (pa_cons (pe_glob (v := .ref (He.ga K "BadTask")) rfl Z.g_BadTask rfl) (pa_cons (pe_glob (v := .ref (He.ga K "NotAPlan")) rfl Z.g_NotAPlan rfl) (pa_cons (pe_glob (v := .ref (He.ga K "Unlisted")) rfl Z.g_Unlisted rfl) (pa_cons (pe_glob (v := .ref (He.ga K "BadPaper")) rfl Z.g_BadPaper rfl) (pa_cons (pe_glob (v := .ref (He.ga K "NoCosts")) rfl Z.g_NoCosts rfl) (pa_cons (pe_glob (v := .ref (He.ga K "BadQuestion")) rfl Z.g_BadQuestion rfl) (pa_cons (pe_glob (v := .ref (He.ga K "BadRange")) rfl Z.g_BadRange rfl) (pa_cons (pe_glob (v := .ref (He.ga K "BadSeen")) rfl Z.g_BadSeen rfl) (pa_cons (pe_glob (v := .ref (He.ga K "TooMany")) rfl Z.g_TooMany rfl) pa_nil))))))))) (.cons (.own _) (.cons (.own _) (.cons (.own _) (.cons (.own _) (.cons (.own _) (.cons (.own _) (.cons (.own _) (.cons (.own _) (.cons (.own _) .nil))))))))) B.isinstance))) (ms_one (ms_set 3 sc_ulaw_points.nd me_bl)) ms_nil)
    (ms_one (ms_if (mt_tru (mr_of (me_isET (cvs := [.ref (He.ga K "BadText"), .ref (He.ga K "BadName"), .ref (He.ga K "UnknownName"), .ref (He.ga K "StaleKey")]) 4 hz hf Z.X_t_BadTxt_BadNme_Unknme_Staley (pv 4) (pa_cons (pe_glob (v := .ref (He.ga K "BadText")) rfl Z.g_BadText rfl) (pa_cons (pe_glob (v := .ref (He.ga K "BadName")) rfl Z.g_BadName rfl) (pa_cons (pe_glob (v := .ref (He.ga K "UnknownName")) rfl Z.g_UnknownName rfl) (pa_cons (pe_glob (v := .ref (He.ga K "StaleKey")) rfl Z.g_StaleKey rfl) pa_nil)))) (.cons (.own _) (.cons (.own _) (.cons (.own _) (.cons (.own _) .nil)))) B.isinstance))) (ms_one (ms_set 3 sc_ulaw_points.nd me_bl)) ms_nil))))))
    (ms_cons (ms_if (mt_cmp (op_eqD hr.units) o_eq (mr_rd 1 (pv 1)) (mr_of me_int) (nomark _)) (ms_one (ms_ret (me_var 3 (pv 3)))) ms_nil)
    (ms_cons (ms_if (PW.pt (mw_or (mt_tru (mr_rd 3 (pv 3))) (mw_or (mt_not (mt_tru (mr_of (me_isi (mr_rd 2 (pv 2)) (by decide +kernel) B.isinstance B.tuple)))) (mw_or1 (mt_cmp (op_neD hr.units) o_ne (mr_of (me_b1 call_len b_len B.len (by decide +kernel) (mr_rd 2 (pv 2)))) (mr_of me_int) (nomark _)))))) (ms_one (ms_ret me_bl)) ms_nil)
    (ms_cons (ms_if (PW.pt (mw_or (mt_not (mt_tru (mr_of (me_calD D_ulaw_is_tuple (hr.mono (by decide)) cs.cw (ma_cons (me_ix ix_seq o_ix (mr_rd 2 (pv 2)) (mr_of me_int) (fun _ _ => rfl)) (ma_cons (me_b1 call_len b_len B.len (by decide +kernel) (mr_rd 0 (pv 0))) ma_nil)) (len_cons (len_cons (fun ρ ds h => len_nil h))))))) (mw_or1 (mt_not (mt_tru (mr_of (me_calD D_ulaw_is_whole (hr.mono (by decide)) cs.cw (ma_cons (me_ix ix_seq o_ix (mr_rd 2 (pv 2)) (mr_of me_int) (fun _ _ => rfl)) ma_nil) (len_cons (fun ρ ds h => len_nil h))))))))) (ms_one (ms_ret me_bl)) ms_nil)
    (ms_one (ms_ret (me_cmp (op_eqD hr.units) o_eq (mr_rd 2 (pv 2)) (mr_of (me_calD D_ulaw_point (hr.mono (by decide)) cs.cw (ma_cons (me_var 0 (pv 0)) (ma_cons (me_var 1 (pv 1)) ma_nil)) (len_cons (len_cons (fun ρ ds h => len_nil h))))) (nomark _))))))))))
abbrev s_ulaw_divides : Stmt := top 32
theorem sc_ulaw_divides : FnScope ["vector", "part", "due", "told", "num"] ["vector"] (defScope s_ulaw_divides) := ⟨rfl, rfl, rfl, by decide +kernel, rfl, by decide +kernel, by decide +kernel⟩
theorem ok_ulaw_divides {P : Program} {w : World} {K : Frg} {mg : Mg} {base : Heap} {f : Addr} {fd : FuncData} (F : Fun K "_law_divides" "_law_divides" s_ulaw_divides f fd) (B : Bi mg) (Z : Ez K mg) {a_ulaw_divisor : Addr} {d_ulaw_divisor : FuncData} (D_ulaw_divisor : Df P w K mg base "_law_divisor" 2 a_ulaw_divisor d_ulaw_divisor ["vector"] f_ulaw_divisor) {a_primitive : Addr} {d_primitive : FuncData} (D_primitive : Df P w K mg base "primitive" 2 a_primitive d_primitive ["vector"] f_primitive) {a_ulaw_is_tuple : Addr} {d_ulaw_is_tuple : FuncData} (D_ulaw_is_tuple : Df P w K mg base "_law_is_tuple" 2 a_ulaw_is_tuple d_ulaw_is_tuple ["value", "size"] f_ulaw_is_tuple) : FnOk P w K mg base (L2.CX P w) 3 f fd ["vector"] (spF K mg 1 f_ulaw_divides) :=
  fn_ok F sc_ulaw_divides fun cdv A outer s H E hr cs => (ms_cons (ms_set 1 sc_ulaw_divides.nd (me_calD D_ulaw_divisor (hr.mono (by decide)) cs.cw (ma_cons (me_var 0 (pv 0)) ma_nil) (len_cons (fun ρ ds h => len_nil h))))
    (ms_cons (ms_set 2 sc_ulaw_divides.nd (me_t1 call_tuple_of b_tup B.tuple (by decide +kernel) (mr_rd 0 (pv 0))))
    (ms_cons (ms_if (mt_cmp op_gt o_gt (mr_rd 1 (pv 1)) (mr_of me_int) (nomark _)) (ms_one (ms_set 2 sc_ulaw_divides.nd (me_t1 call_tuple_of b_tup B.tuple (by decide +kernel) (mr_f (mf_lc (own := [("num", 4)]) cs.hc sc_ulaw_divides.nd (mi_seq (me_var 0 (pv 0))) (blkOk_by (N := ["vector", "part", "due", "told", "num"]) (sc := defScope s_ulaw_divides) (by decide +kernel)) (fun _ _ _ _ _ => (mg_name 4 sc_ulaw_divides.nd)) (fun _ _ _ _ _ => mts_nil) (fun _ _ _ _ _ => (me_op op_fdivU o_fdiv (mr_rd 4 (pv 4)) (mr_rd 1 (pv 1))))))))) ms_nil)
    (ms_cons (ms_set 3 sc_ulaw_divides.nd (me_calD D_primitive (hr.mono (by decide)) cs.cw (ma_cons (me_var 0 (pv 0)) ma_nil) (len_cons (fun ρ ds h => len_nil h))))
    (ms_one (ms_ret (me_and (me_calD D_ulaw_is_tuple (hr.mono (by decide)) cs.cw (ma_cons (me_var 3 (pv 3)) (ma_cons (me_b1 call_len b_len B.len (by decide +kernel) (mr_rd 0 (pv 0))) ma_nil)) (len_cons (len_cons (fun ρ ds h => len_nil h)))) (pe_one (me_cmp (op_eqD hr.units) o_eq (mr_rd 3 (pv 3)) (mr_rd 2 (pv 2)) (nomark _))))))))))
abbrev s_ulaw_vector : Stmt := top 33
theorem sc_ulaw_vector : FnScope ["script", "turns", "limit", "cells", "vector", "k", "num"] ["script", "turns"] (defScope s_ulaw_vector) := ⟨rfl, rfl, rfl, by decide +kernel, rfl, by decide +kernel, by decide +kernel⟩
theorem ok_ulaw_vector {P : Program} {w : World} {K : Frg} {mg : Mg} {base : Heap} {f : Addr} {fd : FuncData} (F : Fun K "_law_vector" "_law_vector" s_ulaw_vector f fd) (B : Bi mg) (Z : Ez K mg) {a_ulaw_row : Addr} {d_ulaw_row : FuncData} (D_ulaw_row : Df P w K mg base "_law_row" 2 a_ulaw_row d_ulaw_row ["script", "at", "many"] f_ulaw_row) {a_ulaw_number : Addr} {d_ulaw_number : FuncData} (D_ulaw_number : Df P w K mg base "_law_number" 1 a_ulaw_number d_ulaw_number ["cells", "limit"] f_ulaw_number) : FnOk P w K mg base (L2.CX P w) 3 f fd ["script", "turns"] (spF K mg 2 f_ulaw_vector) :=
  fn_ok F sc_ulaw_vector fun cdv A outer s H E hr cs => (ms_cons (ms_set 2 sc_ulaw_vector.nd (me_ix ix_seq o_ix (mr_f (mf_lst (ma_cons me_int (ma_cons me_int (ma_cons (me_op op_pow o_pow (mr_of me_int) (mr_of me_int)) ma_nil))))) (mr_of (me_op op_modN o_mod (mr_of (me_t1 call_int1 b_int B.int (by decide +kernel) (mr_of (me_ix ix_seq o_ix (mr_rd 1 (pv 1)) (mr_of me_int) (fun _ _ => rfl))))) (mr_of me_int))) (fun _ _ => rfl)))
    (ms_cons (ms_set 3 sc_ulaw_vector.nd (me_calD D_ulaw_row (hr.mono (by decide)) cs.cw (ma_cons (me_var 0 (pv 0)) (ma_cons me_int (ma_cons me_int ma_nil))) (len_cons (len_cons (len_cons (fun ρ ds h => len_nil h))))))
    (ms_cons (ms_setO 4 sc_ulaw_vector.nd (mf_lst ma_nil))
    (ms_cons (ms_for cs.po cs.hc (mi_rng1 rfl B.range (ma_cons (me_op op_addU o_add (mr_of me_int) (mr_of (me_op op_modN o_mod (mr_of (me_t1 call_int1 b_int B.int (by decide +kernel) (mr_of (me_ix ix_seq o_ix (mr_rd 1 (pv 1)) (mr_of me_int) (fun _ _ => rfl))))) (mr_of me_int)))) ma_nil)) (mg_name 5 sc_ulaw_vector.nd) (ms_cons (ms_set 6 sc_ulaw_vector.nd (me_calD D_ulaw_number (hr.mono (by decide)) cs.cw (ma_cons (me_sl (mr_rd 3 (pv 3)) (mp_some (me_op op_addU o_add (mr_of (me_op op_mulU o_mul (mr_of me_int) (mr_rd 5 (pv 5)))) (mr_of me_int))) (mp_some (me_op op_addU o_add (mr_of (me_op op_mulU o_mul (mr_of me_int) (mr_rd 5 (pv 5)))) (mr_of me_int)))) (ma_cons (me_var 2 (pv 2)) ma_nil)) (len_cons (len_cons (fun ρ ds h => len_nil h)))))
    (ms_cons (ms_if (PW.pt (mw_or (PW.pt (mw_and (mt_cmp (op_eqD hr.units) o_eq (mr_of (me_op op_modN o_mod (mr_of (me_t1 call_int1 b_int B.int (by decide +kernel) (mr_of (me_ix ix_seq o_ix (mr_rd 1 (pv 1)) (mr_of me_int) (fun _ _ => rfl))))) (mr_of me_int))) (mr_of me_int) (nomark _)) (mw_and1 (mt_cmp (op_eqD hr.units) o_eq (mr_of (me_op op_modN o_mod (mr_rd 5 (pv 5)) (mr_of me_int))) (mr_of (me_op op_modN o_mod (mr_of (me_t1 call_int1 b_int B.int (by decide +kernel) (mr_of (me_ix ix_seq o_ix (mr_rd 1 (pv 1)) (mr_of me_int) (fun _ _ => rfl))))) (mr_of me_int))) (nomark _))))) (mw_or1 (mt_cmp (op_eqD hr.units) o_eq (mr_of (me_op op_modN o_mod (mr_of (me_t1 call_int1 b_int B.int (by decide +kernel) (mr_of (me_ix ix_seq o_ix (mr_rd 1 (pv 1)) (mr_of me_int) (fun _ _ => rfl))))) (mr_of me_int))) (mr_of me_int) (nomark _))))) (ms_one (ms_set 6 sc_ulaw_vector.nd me_int)) ms_nil)
    (ms_one (ms_app 4 (pv 4) (me_op op_mulU o_mul (mr_rd 6 (pv 6)) (mr_of (me_op op_sub o_sub (mr_of me_int) (mr_of (me_op op_mulU o_mul (mr_of me_int) (mr_of (me_op op_modN o_mod (mr_of (me_t1 call_int1 b_int B.int (by decide +kernel) (mr_of (me_ix ix_seq o_ix (mr_rd 3 (pv 3)) (mr_of (me_op op_mulU o_mul (mr_of me_int) (mr_rd 5 (pv 5)))) (fun _ _ => rfl))))) (mr_of me_int)))))))))))))
    (ms_one (ms_ret (me_t1 call_tuple_of b_tup B.tuple (by decide +kernel) (mr_rd 4 (pv 4)))))))))
abbrev s_law : Stmt := top 34
theorem sc_law : FnScope ["script", "turns", "vector", "cells", "den", "factor", "zero", "nums", "over", "many"] ["script"] (defScope s_law) := ⟨rfl, rfl, rfl, by decide +kernel, rfl, by decide +kernel, by decide +kernel⟩
theorem ok_law {P : Program} {w : World} {K : Frg} {mg : Mg} {base : Heap} {f : Addr} {fd : FuncData} (F : Fun K "law" "law" s_law f fd) (B : Bi mg) (Z : Ez K mg) {a_ulaw_row : Addr} {d_ulaw_row : FuncData} (D_ulaw_row : Df P w K mg base "_law_row" 2 a_ulaw_row d_ulaw_row ["script", "at", "many"] f_ulaw_row) {a_ulaw_vector : Addr} {d_ulaw_vector : FuncData} (D_ulaw_vector : Df P w K mg base "_law_vector" 3 a_ulaw_vector d_ulaw_vector ["script", "turns"] f_ulaw_vector) {a_ulaw_number : Addr} {d_ulaw_number : FuncData} (D_ulaw_number : Df P w K mg base "_law_number" 1 a_ulaw_number d_ulaw_number ["cells", "limit"] f_ulaw_number) {a_ulaw_times : Addr} {d_ulaw_times : FuncData} (D_ulaw_times : Df P w K mg base "_law_times" 1 a_ulaw_times d_ulaw_times ["vector", "factor"] f_ulaw_times) {a_ulaw_points : Addr} {d_ulaw_points : FuncData} (D_ulaw_points : Df P w K mg base "_law_points" 4 a_ulaw_points d_ulaw_points ["nums", "den"] f_ulaw_points) {a_ulaw_divides : Addr} {d_ulaw_divides : FuncData} (D_ulaw_divides : Df P w K mg base "_law_divides" 3 a_ulaw_divides d_ulaw_divides ["vector"] f_ulaw_divides) : FnOk P w K mg base (L2.CX P w) 5 f fd ["script"] (spF K mg 1 f_law) :=
  fn_ok F sc_law fun cdv A outer s H E hr cs => (ms_cons (ms_set 1 sc_law.nd (me_calD D_ulaw_row (hr.mono (by decide)) cs.cw (ma_cons (me_var 0 (pv 0)) (ma_cons me_int (ma_cons me_int ma_nil))) (len_cons (len_cons (len_cons (fun ρ ds h => len_nil h))))))
    (ms_cons (ms_set 2 sc_law.nd (me_calD D_ulaw_vector (hr.mono (by decide)) cs.cw (ma_cons (me_var 0 (pv 0)) (ma_cons (me_var 1 (pv 1)) ma_nil)) (len_cons (len_cons (fun ρ ds h => len_nil h)))))
    (ms_cons (ms_set 3 sc_law.nd (me_calD D_ulaw_row (hr.mono (by decide)) cs.cw (ma_cons (me_var 0 (pv 0)) (ma_cons me_int (ma_cons me_int ma_nil))) (len_cons (len_cons (len_cons (fun ρ ds h => len_nil h))))))
    (ms_cons (ms_set 4 sc_law.nd (me_op op_mulU o_mul (mr_of (me_calD D_ulaw_number (hr.mono (by decide)) cs.cw (ma_cons (me_sl (mr_rd 3 (pv 3)) (mp_some me_int) mp_none) (ma_cons (me_ix ix_seq o_ix (mr_f (mf_lst (ma_cons me_int (ma_cons (me_op op_pow o_pow (mr_of me_int) (mr_of me_int)) ma_nil)))) (mr_of (me_op op_modN o_mod (mr_of (me_t1 call_int1 b_int B.int (by decide +kernel) (mr_of (me_ix ix_seq o_ix (mr_rd 1 (pv 1)) (mr_of me_int) (fun _ _ => rfl))))) (mr_of me_int))) (fun _ _ => rfl)) ma_nil)) (len_cons (len_cons (fun ρ ds h => len_nil h))))) (mr_of (me_op op_sub o_sub (mr_of me_int) (mr_of (me_op op_mulU o_mul (mr_of me_int) (mr_of (me_op op_modN o_mod (mr_of (me_t1 call_int1 b_int B.int (by decide +kernel) (mr_of (me_ix ix_seq o_ix (mr_rd 3 (pv 3)) (mr_of me_int) (fun _ _ => rfl))))) (mr_of me_int)))))))))
    (ms_cons (ms_set 5 sc_law.nd (me_op op_addU o_add (mr_of me_int) (mr_of (me_calD D_ulaw_number (hr.mono (by decide)) cs.cw (ma_cons (me_calD D_ulaw_row (hr.mono (by decide)) cs.cw (ma_cons (me_var 0 (pv 0)) (ma_cons me_int (ma_cons me_int ma_nil))) (len_cons (len_cons (len_cons (fun ρ ds h => len_nil h))))) (ma_cons (me_ix ix_seq o_ix (mr_f (mf_lst (ma_cons me_int (ma_cons (me_op op_pow o_pow (mr_of me_int) (mr_of me_int)) (ma_cons (me_op op_sub o_sub (mr_of (me_op op_pow o_pow (mr_of me_int) (mr_of me_int))) (mr_of me_int)) ma_nil))))) (mr_of (me_op op_modN o_mod (mr_of (me_t1 call_int1 b_int B.int (by decide +kernel) (mr_of (me_ix ix_seq o_ix (mr_rd 1 (pv 1)) (mr_of me_int) (fun _ _ => rfl))))) (mr_of me_int))) (fun _ _ => rfl)) ma_nil)) (len_cons (len_cons (fun ρ ds h => len_nil h)))))))
    (ms_cons (ms_if (mt_cmp (op_eqD hr.units) o_eq (mr_of (me_op op_modN o_mod (mr_of (me_t1 call_int1 b_int B.int (by decide +kernel) (mr_of (me_ix ix_seq o_ix (mr_rd 1 (pv 1)) (mr_of me_int) (fun _ _ => rfl))))) (mr_of me_int))) (mr_of me_int) (nomark _)) (ms_one (ms_set 2 sc_law.nd (me_calD D_ulaw_times (hr.mono (by decide)) cs.cw (ma_cons (me_var 2 (pv 2)) (ma_cons (me_var 5 (pv 5)) ma_nil)) (len_cons (len_cons (fun ρ ds h => len_nil h)))))) ms_nil)
    (ms_cons (ms_if (mt_cmp (op_eqD hr.units) o_eq (mr_of (me_op op_modN o_mod (mr_of (me_t1 call_int1 b_int B.int (by decide +kernel) (mr_of (me_ix ix_seq o_ix (mr_rd 1 (pv 1)) (mr_of me_int) (fun _ _ => rfl))))) (mr_of me_int))) (mr_of me_int) (nomark _)) (ms_one (ms_par 2 4 cs.hc sc_law.nd (me_calD D_ulaw_times (hr.mono (by decide)) cs.cw (ma_cons (me_var 2 (pv 2)) (ma_cons (me_var 5 (pv 5)) ma_nil)) (len_cons (len_cons (fun ρ ds h => len_nil h)))) (me_op op_mulU o_mul (mr_rd 4 (pv 4)) (mr_rd 5 (pv 5))))) ms_nil)
    (ms_cons (ms_set 6 sc_law.nd (me_op op_mulA o_mulT (mr_of (me_tup (ma_cons me_int ma_nil))) (mr_of (me_b1 call_len b_len B.len (by decide +kernel) (mr_rd 2 (pv 2))))))
    (ms_cons (ms_for cs.po cs.hc (mi_seq (me_of (mf_lst (ma_cons (me_tup (ma_cons (me_var 2 (pv 2)) (ma_cons (me_var 4 (pv 4)) ma_nil))) (ma_cons (me_tup (ma_cons (me_var 2 (pv 2)) (ma_cons me_int ma_nil))) (ma_cons (me_tup (ma_cons (me_var 2 (pv 2)) (ma_cons (me_un un_neg o_neg (mr_of me_int)) ma_nil))) (ma_cons (me_tup (ma_cons (me_var 2 (pv 2)) (ma_cons me_int ma_nil))) (ma_cons (me_tup (ma_cons (me_var 6 (pv 6)) (ma_cons me_int ma_nil))) (ma_cons (me_tup (ma_cons (me_var 6 (pv 6)) (ma_cons (me_var 4 (pv 4)) ma_nil))) (ma_cons (me_tup (ma_cons (me_var 6 (pv 6)) (ma_cons (me_un un_neg o_neg (mr_rd 5 (pv 5))) ma_nil))) ma_nil)))))))))) (mg_tup cs.hc (mgs_cons (mg_name 7 sc_law.nd) (mgs_cons (mg_name 8 sc_law.nd) mgs_nil))) (ms_one (ms_if (mt_not (mt_tru (mr_of (me_calD D_ulaw_points (hr.mono (by decide)) cs.cw (ma_cons (me_var 7 (pv 7)) (ma_cons (me_var 8 (pv 8)) ma_nil)) (len_cons (len_cons (fun ρ ds h => len_nil h))))))) (ms_one (ms_ret me_bl)) ms_nil)))
    (ms_cons (ms_for cs.po cs.hc (mi_seq (me_of (mf_lst (ma_cons (me_var 5 (pv 5)) (ma_cons (me_un un_neg o_neg (mr_rd 5 (pv 5))) ma_nil))))) (mg_name 9 sc_law.nd) (ms_one (ms_if (PW.pt (mw_or (mt_not (mt_tru (mr_of (me_calD D_ulaw_points (hr.mono (by decide)) cs.cw (ma_cons (me_calD D_ulaw_times (hr.mono (by decide)) cs.cw (ma_cons (me_var 2 (pv 2)) (ma_cons (me_var 9 (pv 9)) ma_nil)) (len_cons (len_cons (fun ρ ds h => len_nil h)))) (ma_cons (me_op op_mulU o_mul (mr_rd 4 (pv 4)) (mr_rd 9 (pv 9))) ma_nil)) (len_cons (len_cons (fun ρ ds h => len_nil h))))))) (mw_or1 (mt_not (mt_tru (mr_of (me_calD D_ulaw_points (hr.mono (by decide)) cs.cw (ma_cons (me_calD D_ulaw_times (hr.mono (by decide)) cs.cw (ma_cons (me_var 2 (pv 2)) (ma_cons (me_var 9 (pv 9)) ma_nil)) (len_cons (len_cons (fun ρ ds h => len_nil h)))) (ma_cons (me_var 5 (pv 5)) ma_nil)) (len_cons (len_cons (fun ρ ds h => len_nil h)))))))))) (ms_one (ms_ret me_bl)) ms_nil)))
    (ms_cons (ms_for cs.po cs.hc (mi_seq (me_of (mf_lst (ma_cons (me_var 2 (pv 2)) (ma_cons (me_calD D_ulaw_times (hr.mono (by decide)) cs.cw (ma_cons (me_var 2 (pv 2)) (ma_cons (me_var 5 (pv 5)) ma_nil)) (len_cons (len_cons (fun ρ ds h => len_nil h)))) (ma_cons (me_calD D_ulaw_times (hr.mono (by decide)) cs.cw (ma_cons (me_var 2 (pv 2)) (ma_cons (me_un un_neg o_neg (mr_of me_int)) ma_nil)) (len_cons (len_cons (fun ρ ds h => len_nil h)))) (ma_cons (me_sl (mr_rd 2 (pv 2)) mp_none (mp_some me_int)) (ma_cons (me_var 6 (pv 6)) ma_nil)))))))) (mg_name 7 sc_law.nd) (ms_one (ms_if (mt_not (mt_tru (mr_of (me_calD D_ulaw_divides (hr.mono (by decide)) cs.cw (ma_cons (me_var 7 (pv 7)) ma_nil) (len_cons (fun ρ ds h => len_nil h)))))) (ms_one (ms_ret me_bl)) ms_nil)))
    (ms_one (ms_ret (me_and (me_calD D_ulaw_points (hr.mono (by decide)) cs.cw (ma_cons (me_var 2 (pv 2)) (ma_cons (me_var 5 (pv 5)) ma_nil)) (len_cons (len_cons (fun ρ ds h => len_nil h)))) (me_and (me_calD D_ulaw_points (hr.mono (by decide)) cs.cw (ma_cons (me_var 2 (pv 2)) (ma_cons (me_var 4 (pv 4)) ma_nil)) (len_cons (len_cons (fun ρ ds h => len_nil h)))) (pe_one (me_calD D_ulaw_divides (hr.mono (by decide)) cs.cw (ma_cons (me_var 2 (pv 2)) ma_nil) (len_cons (fun ρ ds h => len_nil h)))))))))))))))))))
def fa : List (Frg → Bool) := [(He.Fa.glo "content").ok,
  (He.Fa.glo "primitive").ok,
  (He.Fa.glo "make_point").ok,
  (He.Fa.glo "_law_mix").ok,
  (He.Fa.glo "_law_row").ok,
  (He.Fa.glo "_law_is_whole").ok,
  (He.Fa.glo "_law_is_tuple").ok,
  (He.Fa.glo "_law_common").ok,
  (He.Fa.glo "_law_number").ok,
  (He.Fa.glo "_law_times").ok,
  (He.Fa.glo "_law_divisor").ok,
  (He.Fa.glo "_law_point").ok,
  (He.Fa.glo "_law_points").ok,
  (He.Fa.glo "_law_divides").ok,
  (He.Fa.glo "_law_vector").ok,
  (He.Fa.glo "law").ok,
  (He.Fa.glo "BadName").ok,
  (He.Fa.glo "BadNumber").ok,
  (He.Fa.glo "BadPaper").ok,
  (He.Fa.glo "BadQuestion").ok,
  (He.Fa.glo "BadRange").ok,
  (He.Fa.glo "BadSeen").ok,
  (He.Fa.glo "BadTask").ok,
  (He.Fa.glo "BadText").ok,
  (He.Fa.glo "CostsError").ok,
  (He.Fa.glo "NoCosts").ok,
  (He.Fa.glo "NotAPlan").ok,
  (He.Fa.glo "StaleKey").ok,
  (He.Fa.glo "TooMany").ok,
  (He.Fa.glo "UnknownName").ok,
  (He.Fa.glo "Unlisted").ok,
  (He.Fa.exc "BadNumber").ok,
  (He.Fa.free "ValueError").ok,
  (He.Fa.free "abs").ok,
  (He.Fa.free "all").ok,
  (He.Fa.free "bool").ok,
  (fun K => He.eqO (PySem.W.nsIn K mainGlobals "gcd") (some (some (.builtin "math.gcd")))),
  (He.Fa.free "int").ok,
  (He.Fa.free "isinstance").ok,
  (He.Fa.free "len").ok,
  (He.Fa.free "range").ok,
  (He.Fa.free "tuple").ok,
  (excCB · "BadNumber"),
  (fun K => row1B K "BadNumber" (.type "ValueError") true),
  (fun K => row1B K "BadNumber" (.ref (He.ga K "BadNumber")) true),
  (fun K => rowB K "BadNumber" [(.ref (He.ga K "BadTask")), (.ref (He.ga K "NotAPlan")), (.ref (He.ga K "Unlisted")), (.ref (He.ga K "BadPaper")), (.ref (He.ga K "NoCosts")), (.ref (He.ga K "BadQuestion")), (.ref (He.ga K "BadRange")), (.ref (He.ga K "BadSeen")), (.ref (He.ga K "TooMany"))] false),
  (fun K => rowB K "BadNumber" [(.ref (He.ga K "BadText")), (.ref (He.ga K "BadName")), (.ref (He.ga K "UnknownName")), (.ref (He.ga K "StaleKey"))] false),
  (He.Fa.exm "BadNumber" "CostsError" true).ok]
def fn : List He.DefD := [dD "content" s_content, dD "primitive" s_primitive, dD "make_point" s_make_point, dD "_law_mix" s_ulaw_mix, dD "_law_row" s_ulaw_row, dD "_law_is_whole" s_ulaw_is_whole, dD "_law_is_tuple" s_ulaw_is_tuple, dD "_law_common" s_ulaw_common, dD "_law_number" s_ulaw_number, dD "_law_times" s_ulaw_times, dD "_law_divisor" s_ulaw_divisor, dD "_law_point" s_ulaw_point, dD "_law_points" s_ulaw_points, dD "_law_divides" s_ulaw_divides, dD "_law_vector" s_ulaw_vector, dD "law" s_law]
abbrev R : PySem.W.OpenRow := PySem.W.OpenLaw.row PySem.Challenge.rw_costsexplained_k02_points_in_lowest_term
abbrev hk : PySem.W.Hook := hookP 5 fa fn
def ob (s : PySem.W.SharedT) : AlP := obsPG 5 fa fn (HandSHeadRun.getT s)
theorem ob_eq (s : PySem.W.SharedT) : ob s = hk.obs s.abs := obsPG_eq (HandSHeadRun.getT_eq s)
def nm0 : List Str := ["__name__", "CostsError", "BadNumber", "BadTask", "NotAPlan", "Unlisted", "BadPaper", "NoCosts", "BadQuestion", "BadRange", "BadSeen", "TooMany", "BadText", "BadName", "UnknownName", "StaleKey", "content", "primitive", "make_point", "_law_mix", "_law_row", "_law_is_whole", "_law_is_tuple", "_law_common", "_law_number", "_law_times", "_law_divisor", "_law_point", "_law_points", "_law_divides"]
def nm1 : List Str := ["_law_vector"]
def loose : List Str := nm0 ++ nm1
def qv : Program := PySem.W.view R.prog [0, 34]
theorem run (w : World) : HandSHeadRun.RunEqI R qv hk ob 100000 loose w := by
  unfold HandSHeadRun.RunEqI
  kernel_rfl
theorem lk {x y : Str} {b b' : Bool} {r : List (Str × Bool)} (h : List.lookup x ((y, b) :: r) = some b') : (x = y ∧ b' = b) ∨ List.lookup x r = some b' := by
  unfold List.lookup at h
  split at h
  · rename_i e
    exact .inl ⟨eq_of_beq e, (Option.some.inj h).symm⟩
  · exact .inr h
theorem facts (hlaw : ∀ ns : List Int, ns.length ≤ 63 → f_law [.rol (ns.map D.int)] = .ok (.bl true)) {P : Program} {w : World} {K : Frg} {h : Heap} {mg : Mg} {f : Addr} (X : K.In h) (G : h.Ns mainGlobals mg) (hfa : mg ("law" : Str) = some (.ref f)) (c : SaysP fa fn K) :
    ∃ fd : FuncData, (∀ (s : Shared) (v : Value), BindsTo s fd ⟨[v], []⟩ [("script", v)]) ∧ ∀ base : Heap, K.In base → base.Ns mainGlobals mg → FnOk P w K mg base CX0 5 f fd ["script"] (spLaw K) := by
  obtain ⟨fd_content, F_content⟩ := c.def_ 0 (d := dD "content" s_content) rfl
  obtain ⟨fd_primitive, F_primitive⟩ := c.def_ 1 (d := dD "primitive" s_primitive) rfl
  obtain ⟨fd_make_point, F_make_point⟩ := c.def_ 2 (d := dD "make_point" s_make_point) rfl
  obtain ⟨fd_ulaw_mix, F_ulaw_mix⟩ := c.def_ 3 (d := dD "_law_mix" s_ulaw_mix) rfl
  obtain ⟨fd_ulaw_row, F_ulaw_row⟩ := c.def_ 4 (d := dD "_law_row" s_ulaw_row) rfl
  obtain ⟨fd_ulaw_is_whole, F_ulaw_is_whole⟩ := c.def_ 5 (d := dD "_law_is_whole" s_ulaw_is_whole) rfl
  obtain ⟨fd_ulaw_is_tuple, F_ulaw_is_tuple⟩ := c.def_ 6 (d := dD "_law_is_tuple" s_ulaw_is_tuple) rfl
  obtain ⟨fd_ulaw_common, F_ulaw_common⟩ := c.def_ 7 (d := dD "_law_common" s_ulaw_common) rfl
  obtain ⟨fd_ulaw_number, F_ulaw_number⟩ := c.def_ 8 (d := dD "_law_number" s_ulaw_number) rfl
  obtain ⟨fd_ulaw_times, F_ulaw_times⟩ := c.def_ 9 (d := dD "_law_times" s_ulaw_times) rfl
  obtain ⟨fd_ulaw_divisor, F_ulaw_divisor⟩ := c.def_ 10 (d := dD "_law_divisor" s_ulaw_divisor) rfl
  obtain ⟨fd_ulaw_point, F_ulaw_point⟩ := c.def_ 11 (d := dD "_law_point" s_ulaw_point) rfl
  obtain ⟨fd_ulaw_points, F_ulaw_points⟩ := c.def_ 12 (d := dD "_law_points" s_ulaw_points) rfl
  obtain ⟨fd_ulaw_divides, F_ulaw_divides⟩ := c.def_ 13 (d := dD "_law_divides" s_ulaw_divides) rfl
  obtain ⟨fd_ulaw_vector, F_ulaw_vector⟩ := c.def_ 14 (d := dD "_law_vector" s_ulaw_vector) rfl
  obtain ⟨fd_law, F_law⟩ := c.def_ 15 (d := dD "law" s_law) rfl
  have e := hfa.symm.trans (He.glo_ok X G (c.fact 15 (f := (He.Fa.glo "law").ok) rfl))
  cases e
  have B : Bi mg := ⟨He.free_ok X G (c.fact 32 (f := (He.Fa.free "ValueError").ok) rfl), He.free_ok X G (c.fact 33 (f := (He.Fa.free "abs").ok) rfl), He.free_ok X G (c.fact 34 (f := (He.Fa.free "all").ok) rfl), He.free_ok X G (c.fact 35 (f := (He.Fa.free "bool").ok) rfl), PySem.W.mg_of X G (He.eqO_ok (c.fact 36 rfl)), He.free_ok X G (c.fact 37 (f := (He.Fa.free "int").ok) rfl), He.free_ok X G (c.fact 38 (f := (He.Fa.free "isinstance").ok) rfl), He.free_ok X G (c.fact 39 (f := (He.Fa.free "len").ok) rfl), He.free_ok X G (c.fact 40 (f := (He.Fa.free "range").ok) rfl), He.free_ok X G (c.fact 41 (f := (He.Fa.free "tuple").ok) rfl)⟩
  have Z : Ez K mg := ⟨excT_ok X G (c.fact 17 (f := (He.Fa.glo "BadNumber").ok) rfl) (c.fact 31 (f := (He.Fa.exc "BadNumber").ok) rfl),
    He.glo_ok X G (c.fact 16 (f := (He.Fa.glo "BadName").ok) rfl),
    He.glo_ok X G (c.fact 17 (f := (He.Fa.glo "BadNumber").ok) rfl),
    He.glo_ok X G (c.fact 18 (f := (He.Fa.glo "BadPaper").ok) rfl),
    He.glo_ok X G (c.fact 19 (f := (He.Fa.glo "BadQuestion").ok) rfl),
    He.glo_ok X G (c.fact 20 (f := (He.Fa.glo "BadRange").ok) rfl),
    He.glo_ok X G (c.fact 21 (f := (He.Fa.glo "BadSeen").ok) rfl),
    He.glo_ok X G (c.fact 22 (f := (He.Fa.glo "BadTask").ok) rfl),
    He.glo_ok X G (c.fact 23 (f := (He.Fa.glo "BadText").ok) rfl),
    He.glo_ok X G (c.fact 24 (f := (He.Fa.glo "CostsError").ok) rfl),
    He.glo_ok X G (c.fact 25 (f := (He.Fa.glo "NoCosts").ok) rfl),
    He.glo_ok X G (c.fact 26 (f := (He.Fa.glo "NotAPlan").ok) rfl),
    He.glo_ok X G (c.fact 27 (f := (He.Fa.glo "StaleKey").ok) rfl),
    He.glo_ok X G (c.fact 28 (f := (He.Fa.glo "TooMany").ok) rfl),
    He.glo_ok X G (c.fact 29 (f := (He.Fa.glo "UnknownName").ok) rfl),
    He.glo_ok X G (c.fact 30 (f := (He.Fa.glo "Unlisted").ok) rfl),
    (by
    intro x C b hm ht
    rcases lk ht with ⟨rfl, rfl⟩ | ht
    · rw [He.glo_ok X G (c.fact 17 (f := (He.Fa.glo "BadNumber").ok) rfl)] at hm
      cases hm
      exact ⟨excCB_ok (c.fact 42 rfl), of_decide_eq_true (c.fact 43 rfl)⟩
    · cases ht),
    (by
    intro x C b hm ht
    rcases lk ht with ⟨rfl, rfl⟩ | ht
    · rw [He.glo_ok X G (c.fact 17 (f := (He.Fa.glo "BadNumber").ok) rfl)] at hm
      cases hm
      exact ⟨excCB_ok (c.fact 42 rfl), of_decide_eq_true (c.fact 44 rfl)⟩
    · cases ht),
    (by
    intro x C b hm ht
    rcases lk ht with ⟨rfl, rfl⟩ | ht
    · rw [He.glo_ok X G (c.fact 17 (f := (He.Fa.glo "BadNumber").ok) rfl)] at hm
      cases hm
      exact ⟨excCB_ok (c.fact 42 rfl), of_decide_eq_true (c.fact 45 rfl)⟩
    · cases ht),
    (by
    intro x C b hm ht
    rcases lk ht with ⟨rfl, rfl⟩ | ht
    · rw [He.glo_ok X G (c.fact 17 (f := (He.Fa.glo "BadNumber").ok) rfl)] at hm
      cases hm
      exact ⟨excCB_ok (c.fact 42 rfl), of_decide_eq_true (c.fact 46 rfl)⟩
    · cases ht),
    (by
    intro x C b hm ht
    rcases lk ht with ⟨rfl, rfl⟩ | ht
    · rw [He.glo_ok X G (c.fact 17 (f := (He.Fa.glo "BadNumber").ok) rfl)] at hm
      cases hm
      exact He.exm_ok (x := "BadNumber") (y := "CostsError") (c.fact 47 rfl)
    · cases ht)⟩
  have D_content := fun base => df_mk (P := P) (w := w) (base := base) (st := s_content) X G F_content (c.fact 0 (f := (He.Fa.glo "content").ok) rfl) (F_content.bindsN (ps := ["vector"]) fun _ _ _ _ _ _ us hl => match us, hl with | [_], _ => rfl) (ok_content (fun_of F_content) B Z)
  have D_primitive := fun base => df_mk (P := P) (w := w) (base := base) (st := s_primitive) X G F_primitive (c.fact 1 (f := (He.Fa.glo "primitive").ok) rfl) (F_primitive.bindsN (ps := ["vector"]) fun _ _ _ _ _ _ us hl => match us, hl with | [_], _ => rfl) (ok_primitive (fun_of F_primitive) B Z (D_content base))
  have D_make_point := fun base => df_mk (P := P) (w := w) (base := base) (st := s_make_point) X G F_make_point (c.fact 2 (f := (He.Fa.glo "make_point").ok) rfl) (F_make_point.bindsN (ps := ["nums", "den"]) fun _ _ _ _ _ _ us hl => match us, hl with | [_, _], _ => rfl) (ok_make_point (fun_of F_make_point) B Z (D_content base))
  have D_ulaw_mix := fun base => df_mk (P := P) (w := w) (base := base) (st := s_ulaw_mix) X G F_ulaw_mix (c.fact 3 (f := (He.Fa.glo "_law_mix").ok) rfl) (F_ulaw_mix.bindsN (ps := ["cell", "k"]) fun _ _ _ _ _ _ us hl => match us, hl with | [_, _], _ => rfl) (ok_ulaw_mix (fun_of F_ulaw_mix) B Z)
  have D_ulaw_row := fun base => df_mk (P := P) (w := w) (base := base) (st := s_ulaw_row) X G F_ulaw_row (c.fact 4 (f := (He.Fa.glo "_law_row").ok) rfl) (F_ulaw_row.bindsN (ps := ["script", "at", "many"]) fun _ _ _ _ _ _ us hl => match us, hl with | [_, _, _], _ => rfl) (ok_ulaw_row (fun_of F_ulaw_row) B Z (D_ulaw_mix base))
  have D_ulaw_is_whole := fun base => df_mk (P := P) (w := w) (base := base) (st := s_ulaw_is_whole) X G F_ulaw_is_whole (c.fact 5 (f := (He.Fa.glo "_law_is_whole").ok) rfl) (F_ulaw_is_whole.bindsN (ps := ["value"]) fun _ _ _ _ _ _ us hl => match us, hl with | [_], _ => rfl) (ok_ulaw_is_whole (fun_of F_ulaw_is_whole) B Z)
  have D_ulaw_is_tuple := fun base => df_mk (P := P) (w := w) (base := base) (st := s_ulaw_is_tuple) X G F_ulaw_is_tuple (c.fact 6 (f := (He.Fa.glo "_law_is_tuple").ok) rfl) (F_ulaw_is_tuple.bindsN (ps := ["value", "size"]) fun _ _ _ _ _ _ us hl => match us, hl with | [_, _], _ => rfl) (ok_ulaw_is_tuple (fun_of F_ulaw_is_tuple) B Z (D_ulaw_is_whole base))
  have D_ulaw_common := fun base => df_mk (P := P) (w := w) (base := base) (st := s_ulaw_common) X G F_ulaw_common (c.fact 7 (f := (He.Fa.glo "_law_common").ok) rfl) (F_ulaw_common.bindsN (ps := ["left", "right"]) fun _ _ _ _ _ _ us hl => match us, hl with | [_, _], _ => rfl) (ok_ulaw_common (fun_of F_ulaw_common) B Z)
  have D_ulaw_number := fun base => df_mk (P := P) (w := w) (base := base) (st := s_ulaw_number) X G F_ulaw_number (c.fact 8 (f := (He.Fa.glo "_law_number").ok) rfl) (F_ulaw_number.bindsN (ps := ["cells", "limit"]) fun _ _ _ _ _ _ us hl => match us, hl with | [_, _], _ => rfl) (ok_ulaw_number (fun_of F_ulaw_number) B Z)
  have D_ulaw_times := fun base => df_mk (P := P) (w := w) (base := base) (st := s_ulaw_times) X G F_ulaw_times (c.fact 9 (f := (He.Fa.glo "_law_times").ok) rfl) (F_ulaw_times.bindsN (ps := ["vector", "factor"]) fun _ _ _ _ _ _ us hl => match us, hl with | [_, _], _ => rfl) (ok_ulaw_times (fun_of F_ulaw_times) B Z)
  have D_ulaw_divisor := fun base => df_mk (P := P) (w := w) (base := base) (st := s_ulaw_divisor) X G F_ulaw_divisor (c.fact 10 (f := (He.Fa.glo "_law_divisor").ok) rfl) (F_ulaw_divisor.bindsN (ps := ["vector"]) fun _ _ _ _ _ _ us hl => match us, hl with | [_], _ => rfl) (ok_ulaw_divisor (fun_of F_ulaw_divisor) B Z (D_ulaw_common base))
  have D_ulaw_point := fun base => df_mk (P := P) (w := w) (base := base) (st := s_ulaw_point) X G F_ulaw_point (c.fact 11 (f := (He.Fa.glo "_law_point").ok) rfl) (F_ulaw_point.bindsN (ps := ["nums", "den"]) fun _ _ _ _ _ _ us hl => match us, hl with | [_, _], _ => rfl) (ok_ulaw_point (fun_of F_ulaw_point) B Z (D_ulaw_divisor base) (D_ulaw_common base))
  have D_ulaw_points := fun base => df_mk (P := P) (w := w) (base := base) (st := s_ulaw_points) X G F_ulaw_points (c.fact 12 (f := (He.Fa.glo "_law_points").ok) rfl) (F_ulaw_points.bindsN (ps := ["nums", "den"]) fun _ _ _ _ _ _ us hl => match us, hl with | [_, _], _ => rfl) (ok_ulaw_points (fun_of F_ulaw_points) B Z (D_make_point base) (D_ulaw_is_whole base) (D_ulaw_is_tuple base) (D_ulaw_point base))
  have D_ulaw_divides := fun base => df_mk (P := P) (w := w) (base := base) (st := s_ulaw_divides) X G F_ulaw_divides (c.fact 13 (f := (He.Fa.glo "_law_divides").ok) rfl) (F_ulaw_divides.bindsN (ps := ["vector"]) fun _ _ _ _ _ _ us hl => match us, hl with | [_], _ => rfl) (ok_ulaw_divides (fun_of F_ulaw_divides) B Z (D_ulaw_divisor base) (D_primitive base) (D_ulaw_is_tuple base))
  have D_ulaw_vector := fun base => df_mk (P := P) (w := w) (base := base) (st := s_ulaw_vector) X G F_ulaw_vector (c.fact 14 (f := (He.Fa.glo "_law_vector").ok) rfl) (F_ulaw_vector.bindsN (ps := ["script", "turns"]) fun _ _ _ _ _ _ us hl => match us, hl with | [_, _], _ => rfl) (ok_ulaw_vector (fun_of F_ulaw_vector) B Z (D_ulaw_row base) (D_ulaw_number base))
  exact ⟨fd_law, fun s v => FunD.bindsA (ps := ["script"]) F_law (fun _ _ _ _ _ _ us hl => match us, hl with | [_], _ => rfl) s [v] rfl, fun base _ _ => law_ok (ok_law (fun_of F_law) B Z (D_ulaw_row base) (D_ulaw_vector base) (D_ulaw_number base) (D_ulaw_times base) (D_ulaw_points base) (D_ulaw_divides base)) hlaw⟩
end W_k02

open PySem PySem.W PySem.Calls PyProof.Rows
set_option maxRecDepth 100000 in
set_option maxHeartbeats 0 in
theorem PySem.Challenge.cw_costsexplained_k02_points_in_lowest_term_holds : PySem.Challenge.rw_costsexplained_k02_points_in_lowest_term.Holds := by
  w_on; o_law
  refine HandSHeadRun.head_imp (r := OpenLaw.row PySem.Challenge.rw_costsexplained_k02_points_in_lowest_term) (q := W_k02.qv) (H := W_k02.hk) (ob := W_k02.ob) (M := 100000) (loose := W_k02.loose) (d := HandSHeadRun.topDef (OpenLaw.row PySem.Challenge.rw_costsexplained_k02_points_in_lowest_term).prog 34) (kwd := []) W_k02.ob_eq
    W_k02.run (by kernel_rfl) (by kernel_rfl) (by kernel_rfl) (by rfl) (by first | assumption | decide +kernel) (by decide +kernel) ⟨rfl, rfl, rfl, rfl, rfl, by decide +kernel⟩ ?hw ?hc
  case hw => w_witness2
  case hc =>
    refine L2.walk_ofE (l := PySem.Challenge.rw_costsexplained_k02_points_in_lowest_term) (n := 63) (k := 5) (x := "script") (CX := L2.CX0) rfl (by decide) (by kernel_rfl) ⟨rfl, by decide, by decide⟩ ?F (fun _ _ _ _ z => z)
    intro w mg fa h Y G hmg0
    obtain ⟨K, KX, c⟩ := Y
    have hmg : mg ("law" : PySem.Str) = some (.ref fa) := by
      have e : (HandSHeadRun.topDef (OpenLaw.row PySem.Challenge.rw_costsexplained_k02_points_in_lowest_term).prog 34).name = ("law" : PySem.Str) := by kernel_rfl
      rw [← e]
      exact hmg0
    obtain ⟨fd, hb, hF⟩ := W_k02.facts M_k02.law_true (P := (PySem.Challenge.rw_costsexplained_k02_points_in_lowest_term).prog) (w := w) KX G hmg c
    exact ⟨K, fd, PF.spLaw K, KX, hb, fun H a ns hl _ hS => ⟨a, ns, rfl, hS, hl, fun _ => rfl⟩, hF⟩
