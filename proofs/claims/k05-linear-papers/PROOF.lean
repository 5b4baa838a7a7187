import PyProof.Rows.All
import Wide.All
import OpenK.AllK
import Wide.FinOn
import HandS.ForMost
import HandS.ForExc
import HandS.Wide
import HandS.WideBits
import HandS.Gcd
import HandS.IsInst
import HandS.ExcIs
import HandS.FStr
import HandS.TupAny
import HandS.TupMul
import HandS.Deep
import HandS.SortInts
import Lean
import HandS.Defaults
import HandS.Head0
import HandS.Head1
import HandS.Head2
import HandS.Head3
import HandS.HeadEnd
import HandS.HeadHook1
import HandS.HeadHook2
import HandS.Zip
import KE.GoesMore
import KE.GoesEnum
import HandS.Style
import PySem.Challenge.RW_costsexplained_k05_linear_papers_judged
set_option Elab.async false
set_option linter.all false
set_option maxRecDepth 100000
set_option maxHeartbeats 4000000
/-! # PF: a def's body read as a function on data. Data (D) are values without a heap; a heap is split in a shared part (never changed) and lists that one slot alone holds. -/
namespace PF
open PySem PySem.Spec L2

inductive D where
  | non | bl (b : Bool) | int (i : Int) | str (x : Str) | lst (xs : List D) | rol (xs : List D) | tup (xs : List D) | obj (c : Str) (ns : List Str) (vs : List D)
  | fr (xs : List D)

mutual
/-- the value v stands for the data d, in the heap H -/
inductive Rp (K : PySem.W.Frag) (mg : Str → Option Value) (H : Hp) : V → D → Prop
  | non : Rp K mg H .non .non
  | bl (b : Bool) : Rp K mg H (.bl b) (.bl b)
  | int (i : Int) : Rp K mg H (.int i) (.int i)
  | str (x : Str) : Rp K mg H (.str x) (.str x)
  | lst {a : Addr} {xs : List V} {ds : List D} : H a = some (.lst xs) → RpA K mg H xs ds → Rp K mg H (.ref a) (.lst ds)
  | rol {a : Addr} {xs : List V} {ds : List D} : SqL K H a xs → RpA K mg H xs ds → Rp K mg H (.ref a) (.rol ds)
  | tup {a : Addr} {xs : List V} {ds : List D} : SqT K H a xs → RpA K mg H xs ds → Rp K mg H (.ref a) (.tup ds)
  | obj {a C dx : Addr} {fs : List (Str × V)} {c : Str} {ns : List Str} {xs : List V} {ds : List D} : H a = some (.ins C dx fs) → mg c = some (.ref C) → fs = ns.zip xs → ns.length = xs.length → RpA K mg H xs ds → Rp K mg H (.ref a) (.obj c ns ds)
inductive RpA (K : PySem.W.Frag) (mg : Str → Option Value) (H : Hp) : List V → List D → Prop
  | nil : RpA K mg H [] []
  | cons {v : V} {vs : List V} {d : D} {ds : List D} : Rp K mg H v d → RpA K mg H vs ds → RpA K mg H (v :: vs) (d :: ds)
end

section
variable {K : PySem.W.Frag} {mg : Str → Option Value} {H H' : Hp}
theorem same_rd {a : Addr} {u : HO} (e : Same H H') (h : Rd H a u) : Rd H' a u := by
  rcases h with h | ⟨o, h⟩
  · exact .inl (e _ _ h)
  · exact .inr ⟨o, e _ _ h⟩
theorem same_l {a : Addr} {xs : List V} (e : Same H H') (h : SqL K H a xs) : SqL K H' a xs := by
  rcases h with h | h
  · exact .inl (same_rd e h)
  · exact .inr h
theorem same_t {a : Addr} {xs : List V} (e : Same H H') (h : SqT K H a xs) : SqT K H' a xs := by
  rcases h with h | h
  · exact .inl (same_rd e h)
  · exact .inr h
mutual
theorem Rp.up (e : Same H H') : ∀ (d : D) (v : V), Rp K mg H v d → Rp K mg H' v d
  | .non, _, h => by cases h; exact .non
  | .bl b, _, h => by cases h; exact .bl b
  | .int i, _, h => by cases h; exact .int i
  | .str x, _, h => by cases h; exact .str x
  | .lst ds, _, h => by
    cases h with
    | lst a b => exact .lst (e _ _ a) (RpA.up e ds _ b)
  | .rol ds, _, h => by
    cases h with
    | rol a b => exact .rol (same_l e a) (RpA.up e ds _ b)
  | .tup ds, _, h => by
    cases h with
    | tup a b => exact .tup (same_t e a) (RpA.up e ds _ b)
  | .obj c ns ds, _, h => by
    cases h with
    | obj a b c d f => exact .obj (e _ _ a) b c d (RpA.up e ds _ f)
  | .fr ds, _, h => by cases h
theorem RpA.up (e : Same H H') : ∀ (ds : List D) (vs : List V), RpA K mg H vs ds → RpA K mg H' vs ds
  | [], _, h => by cases h; exact .nil
  | d :: ds, _, h => by
    cases h with
    | cons a b => exact .cons (Rp.up e d _ a) (RpA.up e ds _ b)
end
theorem RpA.len : ∀ {vs : List V} {ds : List D}, RpA K mg H vs ds → vs.length = ds.length
  | _, _, .nil => rfl
  | _, _, .cons _ t => by simp [RpA.len t]
theorem RpA.app : ∀ {vs ws : List V} {ds es : List D}, RpA K mg H vs ds → RpA K mg H ws es → RpA K mg H (vs ++ ws) (ds ++ es)
  | _, _, _, _, .nil, s => s
  | _, _, _, _, .cons r t, s => .cons r (t.app s)
theorem RpA.get : ∀ {vs : List V} {ds : List D} {i : Nat} {d : D}, RpA K mg H vs ds → ds[i]? = some d → ∃ v, vs[i]? = some v ∧ Rp K mg H v d
  | _, _, _, _, .nil, e => by simp at e
  | _, _, 0, _, .cons r _, e => by simp at e; subst e; exact ⟨_, rfl, r⟩
  | _, _, i + 1, d, .cons _ t, e => by
    obtain ⟨v, h1, h2⟩ := RpA.get (i := i) t (by simpa using e)
    exact ⟨v, by simpa using h1, h2⟩
theorem RpA.getV : ∀ {vs : List V} {ds : List D} {i : Nat} {v : V}, RpA K mg H vs ds → vs[i]? = some v → ∃ d, ds[i]? = some d ∧ Rp K mg H v d
  | _, _, _, _, .nil, e => by simp at e
  | _, _, 0, _, .cons r _, e => by simp at e; subst e; exact ⟨_, rfl, r⟩
  | _, _, i + 1, v, .cons _ t, e => by
    obtain ⟨d, h1, h2⟩ := RpA.getV (i := i) t (by simpa using e)
    exact ⟨d, by simpa using h1, h2⟩
theorem RpA.take : ∀ {vs : List V} {ds : List D} (n : Nat), RpA K mg H vs ds → RpA K mg H (vs.take n) (ds.take n)
  | _, _, 0, _ => .nil
  | _, _, n + 1, .nil => .nil
  | _, _, n + 1, .cons r t => .cons r (t.take n)
theorem RpA.drop : ∀ {vs : List V} {ds : List D} (n : Nat), RpA K mg H vs ds → RpA K mg H (vs.drop n) (ds.drop n)
  | _, _, 0, r => r
  | _, _, n + 1, .nil => .nil
  | _, _, n + 1, .cons r t => t.drop n
theorem RpA.set {v : V} {d : D} (r : Rp K mg H v d) : ∀ {vs : List V} {ds : List D} (i : Nat), RpA K mg H vs ds → RpA K mg H (vs.set i v) (ds.set i d)
  | _, _, _, .nil => .nil
  | _, _, 0, .cons _ t => .cons r t
  | _, _, i + 1, .cons q t => .cons q (t.set r i)
theorem RpA.erase : ∀ {vs : List V} {ds : List D} (i : Nat), RpA K mg H vs ds → RpA K mg H (vs.eraseIdx i) (ds.eraseIdx i)
  | _, _, _, .nil => .nil
  | _, _, 0, .cons _ t => t
  | _, _, i + 1, .cons q t => .cons q (t.erase i)
theorem RpA.rev : ∀ {vs : List V} {ds : List D}, RpA K mg H vs ds → RpA K mg H vs.reverse ds.reverse
  | _, _, .nil => .nil
  | _, _, .cons q t => by
    rw [List.reverse_cons, List.reverse_cons]
    exact t.rev.app (.cons q .nil)
theorem RpA.ints : ∀ {vs : List V} {ns : List Int}, RpA K mg H vs (ns.map D.int) → vs = ns.map V.int
  | _, [], h => by cases h; rfl
  | _, n :: ns, h => by
    cases h with
    | cons a b => cases a; rw [RpA.ints b]; rfl
theorem RpA.bls : ∀ {vs : List V} {ns : List Bool}, RpA K mg H vs (ns.map D.bl) → vs = ns.map V.bl
  | _, [], h => by cases h; rfl
  | _, n :: ns, h => by
    cases h with
    | cons a b => cases a; rw [RpA.bls b]; rfl
theorem RpA.strs : ∀ {vs : List V} {ns : List Str}, RpA K mg H vs (ns.map D.str) → vs = ns.map V.str
  | _, [], h => by cases h; rfl
  | _, n :: ns, h => by
    cases h with
    | cons a b => cases a; rw [RpA.strs b]; rfl
theorem RpA.of_ints : ∀ (ns : List Int), RpA K mg H (ns.map V.int) (ns.map D.int)
  | [] => .nil
  | n :: ns => .cons (.int n) (RpA.of_ints ns)
theorem RpA.of_strs : ∀ (ns : List Str), RpA K mg H (ns.map V.str) (ns.map D.str)
  | [] => .nil
  | n :: ns => .cons (.str n) (RpA.of_strs ns)
end

/-! ### data as the library's data, for == -/
mutual
def D.py : D → PyData
  | .non => .none
  | .bl b => .bool b
  | .int i => .int i
  | .str x => .str x
  | .lst ds => .list (D.pyA ds)
  | .rol ds => .list (D.pyA ds)
  | .tup ds => .tuple (D.pyA ds)
  | .obj _ _ _ => .dict []
  | .fr _ => .dict []
def D.pyA : List D → List PyData
  | [] => []
  | d :: ds => d.py :: D.pyA ds
end
mutual
theorem Rp.dp {K : PySem.W.Frag} {mg : Str → Option Value} {H : Hp} : ∀ (d : D) (v : V), d.py.canLay0 = true → Rp K mg H v d → Dp K H v d.py
  | .non, _, _, h => by cases h; exact .non
  | .bl b, _, _, h => by cases h; exact .bl b
  | .int i, _, _, h => by cases h; exact .int i
  | .str x, _, _, h => by cases h; exact .str x
  | .lst ds, _, c, h => by
    cases h with
    | lst a b => exact .lst (SqL.of a) (RpA.dp ds _ (by simpa [D.py, PyData.canLay0] using c) b)
  | .rol ds, _, c, h => by
    cases h with
    | rol a b => exact .lst a (RpA.dp ds _ (by simpa [D.py, PyData.canLay0] using c) b)
  | .tup ds, _, c, h => by
    cases h with
    | tup a b => exact .tup a (RpA.dp ds _ (by simpa [D.py, PyData.canLay0] using c) b)
  | .obj c ns ds, _, c', h => by simp [D.py, PyData.canLay0] at c'
  | .fr ds, _, c', h => by cases h
theorem RpA.dp {K : PySem.W.Frag} {mg : Str → Option Value} {H : Hp} : ∀ (ds : List D) (vs : List V), PyData.canLayAll0 (D.pyA ds) = true → RpA K mg H vs ds → DpAll K H vs (D.pyA ds)
  | [], _, _, h => by cases h; exact .nil
  | d :: ds, _, c, h => by
    have c' : d.py.canLay0 = true ∧ PyData.canLayAll0 (D.pyA ds) = true := by simpa [D.pyA, PyData.canLayAll0] using c
    cases h with
    | cons a b => exact .cons (Rp.dp d _ c'.1 a) (RpA.dp ds _ c'.2 b)
end

/-! ### results -/
/-- a condition as a Bool that nothing unfolds -/
noncomputable def cb (p : Prop) : Bool := @decide p (Classical.propDecidable p)
theorem cb_t {p : Prop} (h : p) : cb p = true := @decide_eq_true p (Classical.propDecidable p) h
theorem cb_f {p : Prop} (h : ¬ p) : cb p = false := @decide_eq_false p (Classical.propDecidable p) h
theorem of_cb {p : Prop} (h : cb p = true) : p := @of_decide_eq_true p (Classical.propDecidable p) h
@[simp] theorem cb_iff {p : Prop} : (cb p = true) = p := propext ⟨of_cb, cb_t⟩
@[simp] theorem cb_nif {p : Prop} : (cb p = false) = ¬ p := propext ⟨fun h q => (by rw [cb_t q] at h; cases h), cb_f⟩
theorem cb_dec {p : Prop} [Decidable p] : cb p = decide p := by
  by_cases h : p
  · rw [cb_t h, decide_eq_true h]
  · rw [cb_f h, decide_eq_false h]
/-- a value; an exception of the class named x with its fields; or: nothing is said -/
inductive Res (α : Type) where
  | ok (a : α) | exc (x : Str) (fs : List (Str × D)) | bad
def Res.bind {α β : Type} (r : Res α) (k : α → Res β) : Res β := match r with
  | .ok a => k a
  | .exc x fs => .exc x fs
  | .bad => .bad
instance : Monad Res where
  pure := .ok
  bind := Res.bind
@[simp] theorem Res.bind_ok {α β : Type} (a : α) (k : α → Res β) : (Res.ok a).bind k = k a := rfl
@[simp] theorem Res.bind_exc {α β : Type} (x : Str) (fs : List (Str × D)) (k : α → Res β) : (Res.exc x fs).bind k = .exc x fs := rfl
@[simp] theorem Res.bind_bad {α β : Type} (k : α → Res β) : (Res.bad : Res α).bind k = .bad := rfl

/-- a slot: nothing is known; a shared value; a list that this slot alone holds -/
inductive Cell where
  | e | v (d : D) | o (ds : List D) | xc (c : Str) (fs : List (Str × D))
abbrev Sl := List Cell
abbrev Frg := PySem.W.Frag
abbrev Mg := Str → Option Value
/-- what an exception carries -/
def Xd (K : Frg) (mg : Mg) (S H : Hp) (dx : Option Addr) (fs : List (Str × D)) : Prop := match dx with
  | none => fs = []
  | some a => ∃ (ns : List Str) (xs : List V) (ds : List D), fs = ns.zip ds ∧ (ns ≠ [] ∧ ns.length = xs.length) ∧ H a = some (.xd (ns.zip xs)) ∧ RpA K mg S xs ds
theorem Xd.keep {K : Frg} {mg : Mg} {S H S' H' : Hp} {dx : Option Addr} {fs : List (Str × D)} (s : Same S S') (k : ∀ a gs, H a = some (.xd gs) → H' a = some (.xd gs)) (h : Xd K mg S H dx fs) : Xd K mg S' H' dx fs := by
  cases dx with
  | none => exact h
  | some a =>
    obtain ⟨ns, xs, ds, h1, h2, h3, h4⟩ := h
    exact ⟨ns, xs, ds, h1, h2, k _ _ h3, h4.up s ds xs⟩
/-- the exception that an except suite holds: its address, its class, its dict -/
abbrev Hx := Option (Addr × Addr × Option Addr)

/-! ### heaps that grow -/
structure Gr (S H S' H' : Hp) : Prop where
  s : Same S S'
  h : Same H H'
  i : Same S' H'
  n : ∀ a, H a ≠ none → S a = none → S' a = none
theorem Gr.refl {S H : Hp} (i : Same S H) : Gr S H S H := ⟨Same.refl _, Same.refl _, i, fun _ _ e => e⟩
theorem Gr.trans {S H S1 H1 S2 H2 : Hp} (a : Gr S H S1 H1) (b : Gr S1 H1 S2 H2) : Gr S H S2 H2 :=
  ⟨a.s.trans b.s, a.h.trans b.h, b.i, fun x h e => b.n x (fun q => by
    cases r : H x with
    | none => exact h r
    | some o => rw [a.h x o r] at q; cases q) (a.n x h e)⟩
theorem same_new {H : Hp} {p : Addr} {o : HO} (h : H p = none) : Same H (upd H p o) := fun b u e => by
  rw [upd_ne (ne_of_none e h)]; exact e
theorem same_none {S H : Hp} {p : Addr} (i : Same S H) (h : H p = none) : S p = none := by
  cases e : S p with
  | none => rfl
  | some o => rw [i p o e] at h; cases h
/-- a new shared object -/
theorem Gr.new {S H : Hp} {p : Addr} {o : HO} (i : Same S H) (h : H p = none) : Gr S H (upd S p o) (upd H p o) :=
  ⟨same_new (same_none i h), same_new h, fun b u e => by
    by_cases q : b = p
    · subst q; rw [upd_same] at e ⊢; exact e
    · rw [upd_ne q] at e ⊢; exact i b u e, fun a ha e => by
    have q : a ≠ p := fun z => ha (z ▸ h)
    rw [upd_ne q]; exact e⟩
/-- a new object that is not shared -/
theorem Gr.lay {S H : Hp} {p : Addr} {o : HO} (i : Same S H) (h : H p = none) : Gr S H S (upd H p o) :=
  ⟨Same.refl _, same_new h, i.trans (same_new h), fun _ _ e => e⟩
/-- the heap alone grows -/
theorem Gr.heap {S H H' : Hp} (i : Same S H) (h : Same H H') : Gr S H S H' := ⟨Same.refl _, h, i.trans h, fun _ _ e => e⟩

/-- the base of a def's call: the heap and its shared part at the entry -/
structure Bs where
  H0 : Hp
  S0 : Hp
structure Rel (K : PySem.W.Frag) (mg : Str → Option Value) (hx : Hx) (b : Bs) (S : Hp) (ρ : Sl) (σ : St) (H : Hp) : Prop where
  s0 : Same b.S0 S
  sh : Same S H
  h0 : Same b.H0 H
  nw : ∀ a, b.H0 a ≠ none → b.S0 a = none → S a = none
  len : ρ.length = σ.length
  val : ∀ (i : Nat) (d : D), ρ[i]? = some (.v d) → ∃ v, σ[i]? = some (some v) ∧ Rp K mg S v d
  own : ∀ (i : Nat) (ds : List D), ρ[i]? = some (.o ds) → ∃ p vs, σ[i]? = some (some (.ref p)) ∧ H p = some (.lst vs) ∧ S p = none ∧ b.H0 p = none ∧ RpA K mg S vs ds
  xc : ∀ (i : Nat) (c : Str) (fs : List (Str × D)), ρ[i]? = some (.xc c fs) → ∃ a C dx, hx = some (a, C, dx) ∧ σ[i]? = some (some (.ref a)) ∧ mg c = some (.ref C) ∧ Xd K mg S H dx fs
  apart : ∀ (i j : Nat) (ds es : List D) (p : Addr), i ≠ j → ρ[i]? = some (.o ds) → ρ[j]? = some (.o es) → σ[i]? = some (some (.ref p)) → σ[j]? = some (some (.ref p)) → False
section
variable {K : PySem.W.Frag} {mg : Str → Option Value} {hx : Hx} {b : Bs} {S H S' H' : Hp} {ρ : Sl} {σ : St}
theorem Rel.grow (R : Rel K mg hx b S ρ σ H) (g : Gr S H S' H') : Rel K mg hx b S' ρ σ H' where
  s0 := R.s0.trans g.s
  sh := g.i
  h0 := R.h0.trans g.h
  nw := fun a h e => g.n a (fun q => by
    cases r : b.H0 a with
    | none => exact h r
    | some o => rw [R.h0 a o r] at q; cases q) (R.nw a h e)
  len := R.len
  val := fun i d e => let ⟨v, h1, h2⟩ := R.val i d e; ⟨v, h1, h2.up g.s d v⟩
  own := fun i ds e => let ⟨p, vs, h1, h2, h3, h4, h5⟩ := R.own i ds e
    ⟨p, vs, h1, g.h _ _ h2, g.n p (by rw [h2]; simp) h3, h4, h5.up g.s ds vs⟩
  xc := fun i c fs e => let ⟨a, C, dx, h1, h2, h3, h4⟩ := R.xc i c fs e; ⟨a, C, dx, h1, h2, h3, h4.keep g.s fun _ _ q => g.h _ _ q⟩
  apart := R.apart
theorem getset {α : Type} {l : List α} {i j : Nat} {x y : α} (h : (l.set i x)[j]? = some y) : (i = j ∧ x = y ∧ j < l.length) ∨ (i ≠ j ∧ l[j]? = some y) := by
  by_cases e : i = j
  · subst e
    rw [List.getElem?_set] at h
    simp only [if_true] at h
    split at h
    · rename_i q; exact .inl ⟨rfl, Option.some.inj h, q⟩
    · cases h
  · rw [List.getElem?_set_ne e] at h
    exact .inr ⟨e, h⟩
/-- a slot gets a shared value -/
theorem Rel.put (R : Rel K mg hx b S ρ σ H) {i : Nat} {v : V} {d : D} (r : Rp K mg S v d) : Rel K mg hx b S (ρ.set i (.v d)) (σ.set i (some v)) H where
  s0 := R.s0
  sh := R.sh
  h0 := R.h0
  nw := R.nw
  len := by simp [R.len]
  val := fun j d' e => by
    rcases getset e with ⟨rfl, h2, h3⟩ | ⟨h1, h2⟩
    · cases h2
      exact ⟨v, by rw [List.getElem?_set_self (by rw [← R.len]; exact h3)], r⟩
    · obtain ⟨v', h3, h4⟩ := R.val j d' h2
      exact ⟨v', by rw [List.getElem?_set_ne h1]; exact h3, h4⟩
  own := fun j ds e => by
    rcases getset e with ⟨rfl, h2, h3⟩ | ⟨h1, h2⟩
    · cases h2
    · obtain ⟨p, vs, h3, h4⟩ := R.own j ds h2
      exact ⟨p, vs, by rw [List.getElem?_set_ne h1]; exact h3, h4⟩
  xc := fun j c fs e => by
    rcases getset e with ⟨_, h2, _⟩ | ⟨h1, h2⟩
    · cases h2
    · obtain ⟨a, C, dx, q1, q2, q3⟩ := R.xc j c fs h2
      exact ⟨a, C, dx, q1, by rw [List.getElem?_set_ne h1]; exact q2, q3⟩
  apart := fun j k ds es p ne e1 e2 e3 e4 => by
    rcases getset e1 with ⟨_, h2, _⟩ | ⟨h1, h2⟩
    · cases h2
    · rcases getset e2 with ⟨_, h4, _⟩ | ⟨h3, h4⟩
      · cases h4
      · rw [List.getElem?_set_ne h1] at e3
        rw [List.getElem?_set_ne h3] at e4
        exact R.apart j k ds es p ne h2 h4 e3 e4
/-- a slot gets a new list of its own -/
theorem Rel.putO (R : Rel K mg hx b S ρ σ H) {i : Nat} {p : Addr} {vs : List V} {ds : List D} (h : H p = some (.lst vs)) (hs : S p = none) (h0 : b.H0 p = none) (hn : ∀ (j : Nat) (es : List D), ρ[j]? = some (.o es) → σ[j]? ≠ some (some (.ref p))) (r : RpA K mg S vs ds) : Rel K mg hx b S (ρ.set i (.o ds)) (σ.set i (some (.ref p))) H where
  s0 := R.s0
  sh := R.sh
  h0 := R.h0
  nw := R.nw
  len := by simp [R.len]
  val := fun j d' e => by
    rcases getset e with ⟨rfl, h2, h3⟩ | ⟨h1, h2⟩
    · cases h2
    · obtain ⟨v', h3, h4⟩ := R.val j d' h2
      exact ⟨v', by rw [List.getElem?_set_ne h1]; exact h3, h4⟩
  own := fun j es e => by
    rcases getset e with ⟨rfl, h2, h3⟩ | ⟨h1, h2⟩
    · cases h2
      exact ⟨p, vs, by rw [List.getElem?_set_self (by rw [← R.len]; exact h3)], h, hs, h0, r⟩
    · obtain ⟨p, vs, h3, h4⟩ := R.own j es h2
      exact ⟨p, vs, by rw [List.getElem?_set_ne h1]; exact h3, h4⟩
  xc := fun j c fs e => by
    rcases getset e with ⟨_, h2, _⟩ | ⟨h1, h2⟩
    · cases h2
    · obtain ⟨a, C, dx, q1, q2, q3⟩ := R.xc j c fs h2
      exact ⟨a, C, dx, q1, by rw [List.getElem?_set_ne h1]; exact q2, q3⟩
  apart := fun j k ds es q ne e1 e2 e3 e4 => by
    rcases getset e1 with ⟨j1, _, h3⟩ | ⟨h1, h2⟩
    · rcases getset e2 with ⟨k1, _, _⟩ | ⟨h4, h5⟩
      · exact ne (j1.symm.trans k1)
      · subst j1
        rw [List.getElem?_set_self (by rw [← R.len]; exact h3)] at e3
        rw [List.getElem?_set_ne h4] at e4
        cases e3
        exact hn k es h5 e4
    · rw [List.getElem?_set_ne h1] at e3
      rcases getset e2 with ⟨k1, _, h3⟩ | ⟨h4, h5⟩
      · subst k1
        rw [List.getElem?_set_self (by rw [← R.len]; exact h3)] at e4
        cases e4
        exact hn j ds h2 e3
      · rw [List.getElem?_set_ne h4] at e4
        exact R.apart j k ds es q ne h2 h5 e3 e4
/-- nothing is known of a slot any more -/
theorem Rel.wipe1 (R : Rel K mg hx b S ρ σ H) {i : Nat} {x : Option V} : Rel K mg hx b S (ρ.set i .e) (σ.set i x) H where
  s0 := R.s0
  sh := R.sh
  h0 := R.h0
  nw := R.nw
  len := by simp [R.len]
  val := fun j d' e => by
    rcases getset e with ⟨_, h2, _⟩ | ⟨h1, h2⟩
    · cases h2
    · obtain ⟨v', h3, h4⟩ := R.val j d' h2
      exact ⟨v', by rw [List.getElem?_set_ne h1]; exact h3, h4⟩
  own := fun j ds e => by
    rcases getset e with ⟨_, h2, _⟩ | ⟨h1, h2⟩
    · cases h2
    · obtain ⟨p, vs, h3, h4⟩ := R.own j ds h2
      exact ⟨p, vs, by rw [List.getElem?_set_ne h1]; exact h3, h4⟩
  xc := fun j c fs e => by
    rcases getset e with ⟨_, h2, _⟩ | ⟨h1, h2⟩
    · cases h2
    · obtain ⟨a, C, dx, q1, q2, q3⟩ := R.xc j c fs h2
      exact ⟨a, C, dx, q1, by rw [List.getElem?_set_ne h1]; exact q2, q3⟩
  apart := fun j k ds es p ne e1 e2 e3 e4 => by
    rcases getset e1 with ⟨_, h2, _⟩ | ⟨h1, h2⟩
    · cases h2
    · rcases getset e2 with ⟨_, h4, _⟩ | ⟨h3, h4⟩
      · cases h4
      · rw [List.getElem?_set_ne h1] at e3
        rw [List.getElem?_set_ne h3] at e4
        exact R.apart j k ds es p ne h2 h4 e3 e4
/-- the list of slot i is changed in its place -/
theorem Rel.mut (R : Rel K mg hx b S ρ σ H) {i : Nat} {p : Addr} {vs : List V} {ds ds' : List D} (e : ρ[i]? = some (.o ds)) (es : σ[i]? = some (some (.ref p))) (r : RpA K mg S vs ds') : Rel K mg hx b S (ρ.set i (.o ds')) σ (upd H p (.lst vs)) := by
  obtain ⟨p', vs', q1, q2, q3, q4, q5⟩ := R.own i ds e
  rw [es] at q1
  cases q1
  have il : i < ρ.length := (List.getElem?_eq_some_iff.mp e).1
  refine ⟨R.s0, fun a o h => ?_, fun a o h => ?_, R.nw, by simp [R.len], fun j d' e' => ?_, fun j es' e' => ?_, fun j c fs e' => ?_, fun j k ds1 es1 q ne e1 e2 e3 e4 => ?_⟩
  · rw [upd_ne (fun z => by rw [z, q3] at h; cases h)]; exact R.sh a o h
  · rw [upd_ne (fun z => by rw [z, q4] at h; cases h)]; exact R.h0 a o h
  · rcases getset e' with ⟨_, h2, _⟩ | ⟨h1, h2⟩
    · cases h2
    · exact R.val j d' h2
  · rcases getset e' with ⟨rfl, h2, _⟩ | ⟨h1, h2⟩
    · cases h2
      exact ⟨p, vs, es, upd_same, q3, q4, r⟩
    · obtain ⟨p2, vs2, h3, h4, h5⟩ := R.own j es' h2
      refine ⟨p2, vs2, h3, ?_, h5⟩
      rw [upd_ne (fun z => by subst z; exact R.apart i j ds es' p2 h1 e h2 es h3)]
      exact h4
  · rcases getset e' with ⟨_, h2, _⟩ | ⟨h1, h2⟩
    · cases h2
    · obtain ⟨a, C, dx, z1, z2, z3, z4⟩ := R.xc j c fs h2
      exact ⟨a, C, dx, z1, z2, z3, z4.keep (Same.refl _) fun d gs z => by rw [upd_ne (fun w => by rw [w, q2] at z; cases z)]; exact z⟩
  · have old : ∀ (m : Nat) (ms : List D), (ρ.set i (.o ds'))[m]? = some (.o ms) → ∃ ms' : List D, ρ[m]? = some (.o ms') := fun m ms z => by
      rcases getset z with ⟨rfl, _, _⟩ | ⟨_, h2⟩
      · exact ⟨ds, e⟩
      · exact ⟨ms, h2⟩
    obtain ⟨a1, b1⟩ := old j ds1 e1
    obtain ⟨a2, b2⟩ := old k es1 e2
    exact R.apart j k a1 a2 q ne b1 b2 e3 e4
/-- the list of slot i is shared from now on -/
theorem Rel.freeze (R : Rel K mg hx b S ρ σ H) {i : Nat} {ds : List D} (e : ρ[i]? = some (.o ds)) : ∃ S', Same S S' ∧ Rel K mg hx b S' (ρ.set i (.v (.lst ds))) σ H := by
  obtain ⟨p, vs, q1, q2, q3, q4, q5⟩ := R.own i ds e
  have up : Same S (upd S p (.lst vs)) := same_new q3
  refine ⟨upd S p (.lst vs), up, R.s0.trans up, fun a o h => ?_, R.h0, fun a h e' => ?_, by simp [R.len], fun j d' e' => ?_, fun j es' e' => ?_, fun j c fs e' => ?_, fun j k ds1 es1 q ne e1 e2 e3 e4 => ?_⟩
  · by_cases z : a = p
    · subst z; rw [upd_same] at h; cases h; exact q2
    · rw [upd_ne z] at h; exact R.sh a o h
  · rw [upd_ne (fun z => by rw [z] at h; exact h q4)]
    exact R.nw a h e'
  · rcases getset e' with ⟨rfl, h2, _⟩ | ⟨h1, h2⟩
    · cases h2
      exact ⟨_, q1, .lst upd_same (q5.up up ds vs)⟩
    · obtain ⟨v', h3, h4⟩ := R.val j d' h2
      exact ⟨v', h3, h4.up up _ _⟩
  · rcases getset e' with ⟨_, h2, _⟩ | ⟨h1, h2⟩
    · cases h2
    · obtain ⟨p2, vs2, h3, h4, h5, h6, h7⟩ := R.own j es' h2
      refine ⟨p2, vs2, h3, h4, ?_, h6, h7.up up _ _⟩
      rw [upd_ne (fun z => by subst z; exact R.apart i j ds es' p2 h1 e h2 q1 h3)]
      exact h5
  · rcases getset e' with ⟨_, h2, _⟩ | ⟨h1, h2⟩
    · cases h2
    · obtain ⟨a, C, dx, z1, z2, z3, z4⟩ := R.xc j c fs h2
      exact ⟨a, C, dx, z1, z2, z3, z4.keep up fun _ _ z => z⟩
  · rcases getset e1 with ⟨_, h2, _⟩ | ⟨h1, h2⟩
    · cases h2
    · rcases getset e2 with ⟨_, h4, _⟩ | ⟨h3, h4⟩
      · cases h4
      · exact R.apart j k ds1 es1 q ne h2 h4 e3 e4
end
end PF

set_option Elab.async false
set_option linter.all false
set_option maxRecDepth 100000
set_option maxHeartbeats 4000000
namespace PF
open PySem PySem.Spec L2

abbrev RR (α β : Type) := Hp → Hp → Hp → α → β → Prop
def Po {α β : Type} (K : Frg) (mg : Mg) (R : RR α β) (W : WX) (S : Hp) (σ : L2.St) (H : Hp) (r : Res β) (Q : α → Hp → Prop) : Prop := match r with
  | .ok d => ∀ v S' H', Gr S H S' H' → R H S' H' v d → Q v H'
  | .exc x fs => ∀ S' H' C dx, Gr S H S' H' → mg x = some (.ref C) → Xd K mg S' H' dx fs → W (.ref C) dx σ H'
  | .bad => False
abbrev rrE (K : Frg) (mg : Mg) : RR V D := fun _ S _ v d => Rp K mg S v d
abbrev rrA (K : Frg) (mg : Mg) : RR (List V) (List D) := fun _ S _ v d => RpA K mg S v d
abbrev rrT : RR Bool Bool := fun _ _ _ b c => b = c
/-- an operand that is only read: a list may be a slot's own -/
def Rd1 (K : Frg) (mg : Mg) (S H : Hp) (v : V) (d : D) : Prop := match d with
  | .lst ds => ∃ (p : Addr) (vs : List V), v = .ref p ∧ H p = some (.lst vs) ∧ RpA K mg S vs ds
  | d => Rp K mg S v d
abbrev rrR (K : Frg) (mg : Mg) : RR V D := fun _ S H v d => Rd1 K mg S H v d
/-- a new list that nobody else holds -/
abbrev rrF (K : Frg) (mg : Mg) : RR V (List D) := fun H0 S H v ds => ∃ (p : Addr) (vs : List V), v = .ref p ∧ H0 p = none ∧ S p = none ∧ H p = some (.lst vs) ∧ RpA K mg S vs ds
/-- what a def hands back: a shared value, or a new list that nobody else holds -/
abbrev rrX (K : Frg) (mg : Mg) : RR V D := fun H0 S H v d => Rp K mg S v d ∨ ∃ ds, d = .fr ds ∧ rrF K mg H0 S H v ds
section
variable {K : Frg} {mg : Mg} {S H S' H' : Hp}
theorem Rd1.of {v : V} {d : D} (i : Same S H) (h : Rp K mg S v d) : Rd1 K mg S H v d := by
  cases d <;> first | exact h | skip
  cases h with
  | lst a b => exact ⟨_, _, rfl, i _ _ a, b⟩
theorem Rd1.up {v : V} {d : D} (g : Gr S H S' H') (h : Rd1 K mg S H v d) : Rd1 K mg S' H' v d := by
  cases d with
  | lst ds =>
    obtain ⟨p, vs, h1, h2, h3⟩ := h
    exact ⟨p, vs, h1, g.h _ _ h2, h3.up g.s ds vs⟩
  | _ => exact Rp.up g.s _ v h
theorem Xd.up {dx : Option Addr} {fs : List (Str × D)} (g : Gr S H S' H') (h : Xd K mg S H dx fs) : Xd K mg S' H' dx fs := by
  exact h.keep g.s fun _ _ q => g.h _ _ q
end
section
variable {α β γ δ : Type} {K : Frg} {mg : Mg} {R : RR α β} {R2 : RR γ δ} {W : WX} {S H S' H' : Hp} {σ : L2.St}
theorem Po.bind {r : Res β} {k : β → Res δ} {Q : α → Hp → Prop} {Q2 : γ → Hp → Prop} (h : Po K mg R2 W S σ H (r.bind k) Q2)
    (n : ∀ d v S' H', Gr S H S' H' → R H S' H' v d → Po K mg R2 W S σ H (k d) Q2 → Q v H') : Po K mg R W S σ H r Q := by
  cases r with
  | ok d => exact fun v S' H' g q => n d v S' H' g q h
  | exc x fs => exact h
  | bad => exact h
theorem Po.up {r : Res β} {Q : α → Hp → Prop} (g : Gr S H S' H') (hr : ∀ S2 H2 v d, Gr S' H' S2 H2 → R H' S2 H2 v d → R H S2 H2 v d) (h : Po K mg R W S σ H r Q) : Po K mg R W S' σ H' r Q := by
  cases r with
  | ok d => exact fun v S2 H2 g2 q => h v S2 H2 (g.trans g2) (hr _ _ _ _ g2 q)
  | exc x fs => exact fun S2 H2 C dx g2 q1 q2 => h S2 H2 C dx (g.trans g2) q1 q2
  | bad => exact h
theorem Po.wk {R' : RR α β} {r : Res β} {Q : α → Hp → Prop} (h : Po K mg R W S σ H r Q) (hr : ∀ S2 H2 v d, Gr S H S2 H2 → R' H S2 H2 v d → R H S2 H2 v d) : Po K mg R' W S σ H r Q := by
  cases r with
  | ok d => exact fun v S2 H2 g2 q => h v S2 H2 g2 (hr _ _ _ _ g2 q)
  | exc x fs => exact h
  | bad => exact h
theorem Po.q {r : Res β} {Q Q' : α → Hp → Prop} (h : Po K mg R W S σ H r Q) (hq : ∀ v H', Q v H' → Q' v H') : Po K mg R W S σ H r Q' := by
  cases r with
  | ok d => exact fun v S2 H2 g2 q => hq _ _ (h v S2 H2 g2 q)
  | exc x fs => exact h
  | bad => exact h
end
theorem Po.upE {K : Frg} {mg : Mg} {W : WX} {S H S' H' : Hp} {σ : L2.St} {r : Res D} {Q : VK} (g : Gr S H S' H') (h : Po K mg (rrE K mg) W S σ H r Q) : Po K mg (rrE K mg) W S' σ H' r Q := h.up g fun _ _ _ _ _ q => q
theorem Po.upX {K : Frg} {mg : Mg} {W : WX} {S H S' H' : Hp} {σ : L2.St} {r : Res D} {Q : VK} (g : Gr S H S' H') (h : Po K mg (rrX K mg) W S σ H r Q) : Po K mg (rrX K mg) W S' σ H' r Q := h.up g fun S2 H2 v d g2 q => q.imp id fun ⟨ds, e, p, vs, h1, h2, h3⟩ => ⟨ds, e, p, vs, h1, same_none g.h h2, h3⟩
theorem Po.upR {K : Frg} {mg : Mg} {W : WX} {S H S' H' : Hp} {σ : L2.St} {r : Res D} {Q : VK} (g : Gr S H S' H') (h : Po K mg (rrR K mg) W S σ H r Q) : Po K mg (rrR K mg) W S' σ H' r Q := h.up g fun _ _ _ _ _ q => q
theorem Po.upA {K : Frg} {mg : Mg} {W : WX} {S H S' H' : Hp} {σ : L2.St} {r : Res (List D)} {Q : List V → Hp → Prop} (g : Gr S H S' H') (h : Po K mg (rrA K mg) W S σ H r Q) : Po K mg (rrA K mg) W S' σ H' r Q := h.up g fun _ _ _ _ _ q => q
theorem Po.upT {K : Frg} {mg : Mg} {W : WX} {S H S' H' : Hp} {σ : L2.St} {r : Res Bool} {Q : Bool → Hp → Prop} (g : Gr S H S' H') (h : Po K mg rrT W S σ H r Q) : Po K mg rrT W S' σ H' r Q := h.up g fun _ _ _ _ _ q => q
theorem Po.upF {K : Frg} {mg : Mg} {W : WX} {S H S' H' : Hp} {σ : L2.St} {r : Res (List D)} {Q : VK} (g : Gr S H S' H') (h : Po K mg (rrF K mg) W S σ H r Q) : Po K mg (rrF K mg) W S' σ H' r Q := h.up g fun S2 H2 v d g2 ⟨p, vs, h1, h2, h3⟩ => ⟨p, vs, h1, same_none g.h h2, h3⟩

/-- the canonical reading of an expression (an argument list, a test) that yields f of the slots -/
def tG {α β : Type} (K : Frg) (mg : Mg) (hx : Hx) (R : RR α β) (W : WX) (f : Sl → Res β) : L2.St → Hp → (α → Hp → Prop) → Prop := fun σ H Q => ∃ b S ρ, Rel K mg hx b S ρ σ H ∧ Po K mg R W S σ H (f ρ) Q
abbrev ME (X : Cx) (hx : Hx) (W : WX) (e : Expr) (f : Sl → Res D) : Prop := PE X e (tG X.K X.mg hx (rrE X.K X.mg) W f)
abbrev MR (X : Cx) (hx : Hx) (W : WX) (e : Expr) (f : Sl → Res D) : Prop := PE X e (tG X.K X.mg hx (rrR X.K X.mg) W f)
abbrev MF (X : Cx) (hx : Hx) (W : WX) (e : Expr) (f : Sl → Res (List D)) : Prop := PE X e (tG X.K X.mg hx (rrF X.K X.mg) W f)
abbrev MA (X : Cx) (hx : Hx) (W : WX) (es : List Expr) (f : Sl → Res (List D)) : Prop := PA X es (tG X.K X.mg hx (rrA X.K X.mg) W f)
abbrev MT (X : Cx) (hx : Hx) (W : WX) (e : Expr) (f : Sl → Res Bool) : Prop := PT X e (tG X.K X.mg hx rrT W f)
abbrev MW (X : Cx) (hx : Hx) (W : WX) (e : Expr) (f : Sl → Res Bool) : Prop := PW X e (tG X.K X.mg hx rrT W f)

theorem pe_imp {X : Cx} {e : Expr} {t t' : TE} (h : PE X e t) (i : ∀ σ H Q, t' σ H Q → t σ H Q) : PE X e t' := ⟨fun pins s σ H Q I q => h.run pins s σ H Q I (i σ H Q q)⟩
theorem pa_imp {X : Cx} {e : List Expr} {t t' : TA} (h : PA X e t) (i : ∀ σ H Q, t' σ H Q → t σ H Q) : PA X e t' := ⟨fun ps pins s σ H Q I q => h.run ps pins s σ H Q I (i σ H Q q)⟩
theorem pt_imp {X : Cx} {e : Expr} {t t' : TT} (h : PT X e t) (i : ∀ σ H Q, t' σ H Q → t σ H Q) : PT X e t' := ⟨fun pins s σ H Q I q => h.run pins s σ H Q I (i σ H Q q)⟩
theorem pw_imp {X : Cx} {e : Expr} {t t' : TT} (h : PW X e t) (i : ∀ σ H Q, t' σ H Q → t σ H Q) : PW X e t' := ⟨fun w pins s σ H Q I q => h.run w pins s σ H Q I (i σ H Q q)⟩
theorem ps_imp {X : Cx} {st : Stmt} {t t' : TS} (h : PS X st t) (i : ∀ D σ H, t' D σ H → t D σ H) : PS X st t' := ⟨fun pins s σ H D I q => h.run pins s σ H D I (i D σ H q)⟩
theorem pss_imp {X : Cx} {st : List Stmt} {t t' : TS} (h : PSs X st t) (i : ∀ D σ H, t' D σ H → t D σ H) : PSs X st t' := ⟨fun pins s σ H D I q => h.run pins s σ H D I (i D σ H q)⟩
theorem pg_imp {X : Cx} {e : Expr} {t t' : TG} (h : PG X e t) (i : ∀ v σ H Q, t' v σ H Q → t v σ H Q) : PG X e t' := ⟨fun pins s σ H v u Q I r q => h.run pins s σ H v u Q I r (i v σ H Q q)⟩
theorem pi_imp {X : Cx} {tg e : Expr} {t t' : TI} (h : PI X tg e t) (i : ∀ σ H R, t' σ H R → t σ H R) : PI X tg e t' := ⟨fun pins s σ H R I q => h.run pins s σ H R I (i σ H R q)⟩

/-! ### expressions -/
@[simp] def sVar (i : Nat) (ρ : Sl) : Res D := match ρ[i]? with
  | some (.v d) => .ok d
  | _ => .bad
@[simp] def sRd (i : Nat) (ρ : Sl) : Res D := match ρ[i]? with
  | some (.v d) => .ok d
  | some (.o ds) => .ok (.lst ds)
  | _ => .bad
@[simp] def sC (d : D) (_ : Sl) : Res D := .ok d
@[simp] def sUn (g : D → Res D) (f : Sl → Res D) (ρ : Sl) : Res D := (f ρ).bind g
@[simp] def sOp (g : D → D → Res D) (f h : Sl → Res D) (ρ : Sl) : Res D := (f ρ).bind fun x => (h ρ).bind fun y => g x y
@[simp] def aNil (_ : Sl) : Res (List D) := .ok []
@[simp] def aCons (f : Sl → Res D) (h : Sl → Res (List D)) (ρ : Sl) : Res (List D) := (f ρ).bind fun x => (h ρ).bind fun y => .ok (x :: y)
@[simp] def sTup (h : Sl → Res (List D)) (ρ : Sl) : Res D := (h ρ).bind fun ds => if ds.length ≤ 16777216 then .ok (.tup ds) else .bad
@[simp] def fLst (h : Sl → Res (List D)) (ρ : Sl) : Res (List D) := (h ρ).bind fun ds => if ds.length ≤ 16777216 then .ok ds else .bad
@[simp] def fOp (g : D → D → Res (List D)) (f h : Sl → Res D) (ρ : Sl) : Res (List D) := (f ρ).bind fun x => (h ρ).bind fun y => g x y
@[simp] def fUn (g : D → Res (List D)) (f : Sl → Res D) (ρ : Sl) : Res (List D) := (f ρ).bind g
@[simp] def sLst (h : Sl → Res (List D)) (ρ : Sl) : Res D := (h ρ).bind fun ds => .ok (.lst ds)
/-- a new list that a def hands back is shared from now on -/
@[simp] def thaw (d : D) : Res D := match d with
  | .fr xs => .ok (.lst xs)
  | d => .ok d
@[simp] def unfr (d : D) : Res (List D) := match d with
  | .fr xs => .ok xs
  | _ => .bad
@[simp] def sCall (g : List D → Res D) (h : Sl → Res (List D)) (ρ : Sl) : Res D := (h ρ).bind fun ds => (g ds).bind thaw
@[simp] def fCall (g : List D → Res D) (h : Sl → Res (List D)) (ρ : Sl) : Res (List D) := (h ρ).bind fun ds => (g ds).bind unfr
@[simp] def tBl (d : D) : Res Bool := match d with
  | .bl b => .ok b
  | _ => .bad
@[simp] def sTest (f : Sl → Res D) (ρ : Sl) : Res Bool := (f ρ).bind tBl
@[simp] def tAnd (f h : Sl → Res Bool) (ρ : Sl) : Res Bool := (f ρ).bind fun b => if b then h ρ else .ok false
@[simp] def tOr (f h : Sl → Res Bool) (ρ : Sl) : Res Bool := (f ρ).bind fun b => if b then .ok true else h ρ
@[simp] def tNot (f : Sl → Res Bool) (ρ : Sl) : Res Bool := (f ρ).bind fun b => .ok (!b)
@[simp] def sAnd (f h : Sl → Res D) (ρ : Sl) : Res D := (f ρ).bind fun x => (tBl x).bind fun b => if b then h ρ else .ok (.bl false)
@[simp] def sOr (f h : Sl → Res D) (ρ : Sl) : Res D := (f ρ).bind fun x => (tBl x).bind fun b => if b then .ok (.bl true) else h ρ
@[simp] def sNot (f : Sl → Res D) (ρ : Sl) : Res D := (f ρ).bind fun x => (tBl x).bind fun b => .ok (.bl (!b))
@[simp] def sIte (t : Sl → Res Bool) (f h : Sl → Res D) (ρ : Sl) : Res D := (t ρ).bind fun b => if b then f ρ else h ρ

/-- an operation by values is the function g on data -/
def U1 (K : Frg) (mg : Mg) (r : V → Hp → VK → Prop) (g : D → Res D) : Prop := ∀ S σ H v d W Q, Same S H → Rd1 K mg S H v d → Po K mg (rrE K mg) W S σ H (g d) Q → r v H Q
def O2 (K : Frg) (mg : Mg) (r : R2) (g : D → D → Res D) : Prop := ∀ S σ H x y d e W Q, Same S H → Rd1 K mg S H x d → Rd1 K mg S H y e → Po K mg (rrE K mg) W S σ H (g d e) Q → r x y H Q
/-- .. that makes a new list -/
def U1F (K : Frg) (mg : Mg) (r : V → Hp → VK → Prop) (g : D → Res (List D)) : Prop := ∀ S σ H v d W Q, Same S H → Rd1 K mg S H v d → Po K mg (rrF K mg) W S σ H (g d) Q → r v H Q
def O2F (K : Frg) (mg : Mg) (r : R2) (g : D → D → Res (List D)) : Prop := ∀ S σ H x y d e W Q, Same S H → Rd1 K mg S H x d → Rd1 K mg S H y e → Po K mg (rrF K mg) W S σ H (g d e) Q → r x y H Q
section
variable {X : Cx} {hx : Hx} {W : WX} {a b c e : Expr} {pos : Pos} {fa fb fc : Sl → Res D}
theorem me_var (i : Nat) {x : Str} (h : PE X (.Name x pos) (tVar i)) : ME X hx W (.Name x pos) (sVar i) := pe_imp h fun σ H Q ⟨b, S, ρ, R, h⟩ => by
  unfold sVar at h
  split at h
  · rename_i d e
    obtain ⟨v, h1, h2⟩ := R.val i d e
    exact ⟨v, h1, h v S H (Gr.refl R.sh) h2⟩
  · exact h.elim
theorem mr_rd (i : Nat) {x : Str} (h : PE X (.Name x pos) (tVar i)) : MR X hx W (.Name x pos) (sRd i) := pe_imp h fun σ H Q ⟨b, S, ρ, R, h⟩ => by
  unfold sRd at h
  split at h
  · rename_i d e
    obtain ⟨v, h1, h2⟩ := R.val i d e
    exact ⟨v, h1, h v S H (Gr.refl R.sh) (Rd1.of R.sh h2)⟩
  · rename_i ds e
    obtain ⟨p, vs, h1, h2, h3, h4, h5⟩ := R.own i ds e
    exact ⟨_, h1, h _ S H (Gr.refl R.sh) ⟨p, vs, rfl, h2, h5⟩⟩
  · exact h.elim
theorem mr_of (h : ME X hx W e fa) : MR X hx W e fa := pe_imp h fun σ H Q ⟨b, S, ρ, R, h⟩ => ⟨b, S, ρ, R, h.wk fun _ _ _ _ g q => Rd1.of g.i q⟩
theorem me_of {ff : Sl → Res (List D)} (h : MF X hx W e ff) : ME X hx W e (sLst ff) := pe_imp h fun σ H Q ⟨b, S, ρ, R, h⟩ => ⟨b, S, ρ, R, h.bind fun d v S' H' g ⟨p, vs, h1, h2, h3, h4, h5⟩ k => by
  subst h1
  have up : Same S' (upd S' p (.lst vs)) := same_new h3
  refine k _ (upd S' p (.lst vs)) H' ⟨g.s.trans up, g.h, fun a o q => ?_, fun a ha q => ?_⟩ (.lst upd_same (h5.up up _ _))
  · by_cases z : a = p
    · subst z; rw [upd_same] at q; cases q; exact h4
    · rw [upd_ne z] at q; exact g.i a o q
  · rw [upd_ne (fun z => ha (by rw [z]; exact h2))]; exact g.n a ha q⟩
theorem mr_f {ff : Sl → Res (List D)} (h : MF X hx W e ff) : MR X hx W e (sLst ff) := mr_of (me_of h)
theorem me_con {v : V} {d : D} (h : PE X e (tC v)) (r : ∀ S, Rp X.K X.mg S v d) : ME X hx W e (sC d) := pe_imp h fun σ H Q ⟨b, S, ρ, R, h⟩ => h v S H (Gr.refl R.sh) (r S)
theorem me_int {i : Int} {j} : ME X hx W (.Constant (.int i) j pos) (sC (.int i)) := me_con pe_int fun _ => .int i
theorem me_bl {i : Bool} {j} : ME X hx W (.Constant (.bool i) j pos) (sC (.bl i)) := me_con pe_bl fun _ => .bl i
theorem me_non {j} : ME X hx W (.Constant .none j pos) (sC .non) := me_con pe_non fun _ => .non
theorem me_str {x : Str} {j} : ME X hx W (.Constant (.str x) j pos) (sC (.str x)) := me_con pe_str fun _ => .str x
theorem me_un {op : UnaryOp} {r : V → Hp → VK → Prop} {g : D → Res D} (ho : UnR X (unaryOp op) r) (hr : U1 X.K X.mg r g) (ha : MR X hx W a fa) : ME X hx W (.UnaryOp op a pos) (sUn g fa) :=
  pe_imp (pe_un ho ha) fun σ H Q ⟨b, S, ρ, R, h⟩ => ⟨b, S, ρ, R, h.bind fun d v S1 H1 g1 r1 k => hr S1 σ H1 v d W Q g1.i r1 (k.upE g1)⟩
theorem op_seq {f h : Sl → Res D} {g : D → D → Res D} {r : R2} (hr : O2 X.K X.mg r g) : ∀ σ H Q, tG X.K X.mg hx (rrE X.K X.mg) W (sOp g f h) σ H Q → tOp r (tG X.K X.mg hx (rrR X.K X.mg) W f) (tG X.K X.mg hx (rrR X.K X.mg) W h) σ H Q := fun σ H Q ⟨b, S, ρ, R, q⟩ =>
  ⟨b, S, ρ, R, q.bind fun d v S1 H1 g1 r1 k => ⟨b, S1, ρ, R.grow g1, (k.upE g1).bind fun d2 v2 S2 H2 g2 r2 k2 => hr S2 σ H2 v v2 d d2 W Q g2.i (r1.up g2) r2 (k2.upE g2)⟩⟩
theorem me_op {op : Operator} {r : R2} {g : D → D → Res D} (ho : OpR X (binaryOp op) r) (hr : O2 X.K X.mg r g) (ha : MR X hx W a fa) (hb : MR X hx W b fb) : ME X hx W (.BinOp a op b pos) (sOp g fa fb) := pe_imp (pe_op ho ha hb) (op_seq hr)
theorem me_cmp {op : CmpOp} {r : R2} {g : D → D → Res D} (ho : OpR X (compareOp op) r) (hr : O2 X.K X.mg r g) (ha : MR X hx W a fa) (hb : MR X hx W b fb) (hm : behindInMarks op b = false) : ME X hx W (.Compare a [op] [b] pos) (sOp g fa fb) := pe_imp (pe_cmpR ho ha hb hm) (op_seq hr)
theorem me_ix {r : R2} {g : D → D → Res D} (hi : IxR X r) (hr : O2 X.K X.mg r g) (ha : MR X hx W a fa) (hb : MR X hx W b fb) (hs : PlainIx b) : ME X hx W (.Subscript a b pos) (sOp g fa fb) := pe_imp (pe_ix hi ha hb hs) (op_seq hr)
theorem opF_seq {f h : Sl → Res D} {g : D → D → Res (List D)} {r : R2} (hr : O2F X.K X.mg r g) : ∀ σ H Q, tG X.K X.mg hx (rrF X.K X.mg) W (fOp g f h) σ H Q → tOp r (tG X.K X.mg hx (rrR X.K X.mg) W f) (tG X.K X.mg hx (rrR X.K X.mg) W h) σ H Q := fun σ H Q ⟨b, S, ρ, R, q⟩ =>
  ⟨b, S, ρ, R, q.bind fun d v S1 H1 g1 r1 k => ⟨b, S1, ρ, R.grow g1, (k.upF g1).bind fun d2 v2 S2 H2 g2 r2 k2 => hr S2 σ H2 v v2 d d2 W Q g2.i (r1.up g2) r2 (k2.upF g2)⟩⟩
theorem mf_op {op : Operator} {r : R2} {g : D → D → Res (List D)} (ho : OpR X (binaryOp op) r) (hr : O2F X.K X.mg r g) (ha : MR X hx W a fa) (hb : MR X hx W b fb) : MF X hx W (.BinOp a op b pos) (fOp g fa fb) := pe_imp (pe_op ho ha hb) (opF_seq hr)
theorem ma_nil : MA X hx W [] aNil := pa_imp pa_nil fun σ H Q ⟨b, S, ρ, R, q⟩ => q [] S H (Gr.refl R.sh) .nil
theorem ma_cons {es : List Expr} {fs : Sl → Res (List D)} (ha : ME X hx W e fa) (hr : MA X hx W es fs) (hs : starEach (e :: es) X.env = (false, eval e X.env) :: starEach es X.env := by rfl) : MA X hx W (e :: es) (aCons fa fs) :=
  pa_imp (pa_cons ha hr hs) fun σ H Q ⟨b, S, ρ, R, q⟩ => ⟨b, S, ρ, R, q.bind fun d v S1 H1 g1 r1 k => ⟨b, S1, ρ, R.grow g1, (k.upA g1).bind fun d2 v2 S2 H2 g2 r2 k2 => k2 _ S2 H2 g2 (.cons (r1.up g2.s d v) r2)⟩⟩
theorem sizeLine16 {n : Nat} (h : n ≤ 16777216) : n ≤ sizeLine := by rw [sizeLine_eq]; exact h
theorem me_tup {es : List Expr} {fs : Sl → Res (List D)} {x1} (h : MA X hx W es fs) : ME X hx W (.Tuple es x1 pos) (sTup fs) :=
  pe_imp (pe_tup h) fun σ H Q ⟨b, S, ρ, R, q⟩ => ⟨b, S, ρ, R, q.bind fun d v S1 H1 g1 r1 k => by
    split at k
    · rename_i hl
      refine ⟨sizeLine16 (by rw [r1.len]; exact hl), fun p hp => ?_⟩
      refine k _ _ _ (g1.trans (Gr.new g1.i hp)) (.tup (SqT.of upd_same) (r1.up (same_new (same_none g1.i hp)) _ _))
    · exact k.elim⟩
theorem mf_lst {es : List Expr} {fs : Sl → Res (List D)} {x1} (h : MA X hx W es fs) : MF X hx W (.List es x1) (fLst fs) :=
  pe_imp (pe_lst h) fun σ H Q ⟨b, S, ρ, R, q⟩ => ⟨b, S, ρ, R, q.bind fun d v S1 H1 g1 r1 k => by
    split at k
    · rename_i hl
      refine ⟨sizeLine16 (by rw [r1.len]; exact hl), fun p hp => ?_⟩
      refine k _ S1 _ (g1.trans (Gr.lay g1.i hp)) ⟨p, v, rfl, same_none g1.h hp, same_none g1.i hp, upd_same, r1⟩
    · exact k.elim⟩

/-! ### tests -/
theorem mt_val (h : ME X hx W e fa) (he : ∀ whole, isTrue e X.env whole = (do let v ← whole; standAt e.pos; holding [v] (truthy v)) := by intro _; rfl) : MT X hx W e (sTest fa) :=
  pt_imp (pt_val h he) fun σ H Q ⟨b, S, ρ, R, q⟩ => ⟨b, S, ρ, R, q.bind fun d v S1 H1 g1 r1 k => by
    cases r1 <;> first | exact k.elim | skip
    rename_i c
    exact ⟨c, rfl, k c S1 H1 g1 rfl⟩⟩
theorem mt_cmp {op : CmpOp} {r : R2} {g : D → D → Res D} (ho : OpR X (compareOp op) r) (hr : O2 X.K X.mg r g) (ha : MR X hx W a fa) (hb : MR X hx W b fb) (hm : behindInMarks op b = false) : MT X hx W (.Compare a [op] [b] pos) (sTest (sOp g fa fb)) :=
  pt_imp (pt_cmpR ho ha hb hm) fun σ H Q ⟨b, S, ρ, R, q⟩ => op_seq hr σ H _ ⟨b, S, ρ, R, q.bind fun d v S1 H1 g1 r1 k => by
    cases r1 <;> first | exact k.elim | skip
    rename_i c
    exact ⟨c, rfl, k c S1 H1 g1 rfl⟩⟩
theorem mt_not {t : Sl → Res Bool} (h : MT X hx W a t) : MT X hx W (.UnaryOp .Not a pos) (tNot t) :=
  pt_imp (pt_not h) fun σ H Q ⟨b, S, ρ, R, q⟩ => ⟨b, S, ρ, R, q.bind fun d v S1 H1 g1 r1 k => by
    cases r1
    exact k _ S1 H1 g1 rfl⟩
theorem mw_and1 {t : Sl → Res Bool} (h : MT X hx W a t) : MW X hx W (.BoolOp .And [a] pos) t := pw_and1 h
theorem mw_or1 {t : Sl → Res Bool} (h : MT X hx W a t) : MW X hx W (.BoolOp .Or [a] pos) t := pw_or1 h
theorem mw_and {t u : Sl → Res Bool} {rest : List Expr} (ha : MT X hx W a t) (hb : MW X hx W (.BoolOp .And (b :: rest) pos) u) : MW X hx W (.BoolOp .And (a :: b :: rest) pos) (tAnd t u) :=
  pw_imp (pw_and ha hb) fun σ H Q ⟨b, S, ρ, R, q⟩ => ⟨b, S, ρ, R, q.bind fun d v S1 H1 g1 r1 k => by
    cases r1
    cases d with
    | true => exact iteT ⟨b, S1, ρ, R.grow g1, Po.upT g1 k⟩
    | false => exact iteF (k _ S1 H1 g1 rfl)⟩
theorem mw_or {t u : Sl → Res Bool} {rest : List Expr} (ha : MT X hx W a t) (hb : MW X hx W (.BoolOp .Or (b :: rest) pos) u) : MW X hx W (.BoolOp .Or (a :: b :: rest) pos) (tOr t u) :=
  pw_imp (pw_or ha hb) fun σ H Q ⟨b, S, ρ, R, q⟩ => ⟨b, S, ρ, R, q.bind fun d v S1 H1 g1 r1 k => by
    cases r1
    cases d with
    | true => exact iteT (k _ S1 H1 g1 rfl)
    | false => exact iteF ⟨b, S1, ρ, R.grow g1, Po.upT g1 k⟩⟩
theorem me_and {rest : List Expr} (ha : ME X hx W a fa) (hb : ME X hx W (.BoolOp .And (b :: rest) pos) fb) : ME X hx W (.BoolOp .And (a :: b :: rest) pos) (sAnd fa fb) :=
  pe_imp (pe_and ha hb) fun σ H Q ⟨b, S, ρ, R, q⟩ => ⟨b, S, ρ, R, q.bind fun d v S1 H1 g1 r1 k => by
    cases r1 <;> first | exact k.elim | skip
    rename_i c
    refine ⟨c, rfl, ?_⟩
    cases c with
    | true => exact iteT ⟨b, S1, ρ, R.grow g1, Po.upE g1 k⟩
    | false => exact iteF (k _ S1 H1 g1 (.bl false))⟩
theorem me_or {rest : List Expr} (ha : ME X hx W a fa) (hb : ME X hx W (.BoolOp .Or (b :: rest) pos) fb) : ME X hx W (.BoolOp .Or (a :: b :: rest) pos) (sOr fa fb) :=
  pe_imp (pe_or ha hb) fun σ H Q ⟨b, S, ρ, R, q⟩ => ⟨b, S, ρ, R, q.bind fun d v S1 H1 g1 r1 k => by
    cases r1 <;> first | exact k.elim | skip
    rename_i c
    refine ⟨c, rfl, ?_⟩
    cases c with
    | true => exact iteT (k _ S1 H1 g1 (.bl true))
    | false => exact iteF ⟨b, S1, ρ, R.grow g1, Po.upE g1 k⟩⟩
theorem me_not (h : ME X hx W a fa) : ME X hx W (.UnaryOp .Not a pos) (sNot fa) :=
  pe_imp (pe_not h) fun σ H Q ⟨b, S, ρ, R, q⟩ => ⟨b, S, ρ, R, q.bind fun d v S1 H1 g1 r1 k => by
    cases r1 <;> first | exact k.elim | skip
    rename_i c
    exact ⟨c, rfl, k _ S1 H1 g1 (.bl _)⟩⟩
theorem me_ite {t : Sl → Res Bool} (hc : MT X hx W c t) (ha : ME X hx W a fa) (hb : ME X hx W b fb) : ME X hx W (.IfExp c a b pos) (sIte t fa fb) :=
  pe_imp (pe_ifExp hc ha hb) fun σ H Q ⟨b, S, ρ, R, q⟩ => ⟨b, S, ρ, R, q.bind fun d v S1 H1 g1 r1 k => by
    cases r1
    cases d with
    | true => exact iteT ⟨b, S1, ρ, R.grow g1, Po.upE g1 k⟩
    | false => exact iteF ⟨b, S1, ρ, R.grow g1, Po.upE g1 k⟩⟩
/-- the truth of a value -/
@[simp] def gTru (d : D) : Res Bool := match d with
  | .non => .ok false
  | .bl b => .ok b
  | .int i => .ok (i != 0)
  | .str x => if x.length ≤ 16777216 then .ok ((x.length : Int) != 0) else .bad
  | .lst ds => .ok (!ds.isEmpty)
  | .rol ds => .ok (!ds.isEmpty)
  | .tup ds => .ok (!ds.isEmpty)
  | .obj _ _ _ => .bad
  | .fr _ => .bad
@[simp] def tTru (f : Sl → Res D) (ρ : Sl) : Res Bool := (f ρ).bind gTru
theorem RpA.emp {K : Frg} {mg : Mg} {H : Hp} {vs : List V} {ds : List D} (h : RpA K mg H vs ds) : vs.isEmpty = ds.isEmpty := by cases h <;> rfl
theorem mt_tru (h : MR X hx W e fa) (he : ∀ whole, isTrue e X.env whole = (do let v ← whole; standAt e.pos; holding [v] (truthy v)) := by intro _; rfl) : MT X hx W e (tTru fa) :=
  pt_imp (pt_truth h he) fun σ H Q ⟨b, S, ρ, R, q⟩ => ⟨b, S, ρ, R, q.bind fun d v S1 H1 g1 r1 k => by
    cases d with
    | non => cases r1; exact ⟨_, rfl, k _ S1 H1 g1 rfl⟩
    | bl _ => cases r1; exact ⟨_, rfl, k _ S1 H1 g1 rfl⟩
    | int _ => cases r1; exact ⟨_, rfl, k _ S1 H1 g1 rfl⟩
    | str x =>
      cases r1
      simp only [gTru] at k
      split at k
      · rename_i hl
        exact ⟨_, ⟨sizeLine16 hl, rfl⟩, k _ S1 H1 g1 rfl⟩
      · exact k.elim
    | lst ds =>
      obtain ⟨p, vs, rfl, h2, h3⟩ := r1
      exact ⟨_, .inl ⟨vs, SqL.of h2, rfl⟩, k _ S1 H1 g1 (by rw [h3.emp])⟩
    | rol ds =>
      cases r1 with
      | rol h2 h3 => exact ⟨_, .inl ⟨_, same_l g1.i h2, rfl⟩, k _ S1 H1 g1 (by rw [h3.emp])⟩
    | tup ds =>
      cases r1 with
      | tup h2 h3 => exact ⟨_, .inr (.inl ⟨_, same_t g1.i h2, rfl⟩), k _ S1 H1 g1 (by rw [h3.emp])⟩
    | obj _ _ _ => exact k.elim
    | fr _ => exact k.elim⟩
/-- a < b < c -/
def sChain (g h : D → D → Res D) (fa fb fc : Sl → Res D) (ρ : Sl) : Res D := (fa ρ).bind fun x => (fb ρ).bind fun y => (g x y).bind fun z => (tBl z).bind fun b => if b then (fc ρ).bind fun w => h y w else .ok (.bl false)
end
end PF

set_option Elab.async false
set_option linter.all false
set_option maxRecDepth 100000
set_option maxHeartbeats 4000000
namespace PF
open PySem PySem.Spec L2

/-! ### statements -/
inductive Out where
  | nx (ρ : Sl) | ret (d : D) | bk (ρ : Sl) | ct (ρ : Sl) | exc (x : Str) (fs : List (Str × D)) (ρ : Sl) | bad
structure Bok (b : Bs) (S H : Hp) : Prop where
  s0 : Same b.S0 S
  sh : Same S H
  h0 : Same b.H0 H
  nw : ∀ a, b.H0 a ≠ none → b.S0 a = none → S a = none
theorem Rel.bok {K : Frg} {mg : Mg} {hx : Hx} {b : Bs} {S H : Hp} {ρ : Sl} {σ : L2.St} (R : Rel K mg hx b S ρ σ H) : Bok b S H := ⟨R.s0, R.sh, R.h0, R.nw⟩
def PoS (K : Frg) (mg : Mg) (hx : Hx) (W : WX) (b : Bs) (S : Hp) (o : Out) (D : Ends) : Prop := match o with
  | .nx ρ => ∀ S' σ H, Same S S' → Rel K mg hx b S' ρ σ H → D.nx σ H
  | .ret d => ∀ S' H v, Bok b S' H → rrX K mg b.H0 S' H v d → D.rt v H
  | .bk ρ => ∀ S' σ H, Same S S' → Rel K mg hx b S' ρ σ H → D.bk σ H
  | .ct ρ => ∀ S' σ H, Same S S' → Rel K mg hx b S' ρ σ H → D.ct σ H
  | .exc x fs ρ => ∀ S' σ H C dx, Same S S' → Rel K mg hx b S' ρ σ H → mg x = some (.ref C) → Xd K mg S' H dx fs → W (.ref C) dx σ H
  | .bad => False
def tS (K : Frg) (mg : Mg) (hx : Hx) (W : WX) (g : Sl → Out) : TS := fun D σ H => ∃ b S ρ, Rel K mg hx b S ρ σ H ∧ PoS K mg hx W b S (g ρ) D
abbrev MS (X : Cx) (hx : Hx) (W : WX) (st : Stmt) (g : Sl → Out) : Prop := PS X st (tS X.K X.mg hx W g)
abbrev MSs (X : Cx) (hx : Hx) (W : WX) (st : List Stmt) (g : Sl → Out) : Prop := PSs X st (tS X.K X.mg hx W g)
theorem PoS.up {K : Frg} {mg : Mg} {hx : Hx} {W : WX} {b : Bs} {S S1 : Hp} {o : Out} {D : Ends} (e : Same S S1) (h : PoS K mg hx W b S o D) : PoS K mg hx W b S1 o D := by
  cases o with
  | nx ρ => exact fun S' σ H q => h S' σ H (e.trans q)
  | ret d => exact h
  | bk ρ => exact fun S' σ H q => h S' σ H (e.trans q)
  | ct ρ => exact fun S' σ H q => h S' σ H (e.trans q)
  | exc x fs ρ => exact fun S' σ H C dx q => h S' σ H C dx (e.trans q)
  | bad => exact h
/-- an expression's result, then k -/
def rS {α : Type} (r : Res α) (ρ : Sl) (k : α → Out) : Out := match r with
  | .ok a => k a
  | .exc x fs => .exc x fs ρ
  | .bad => .bad
@[simp] theorem rS_ok {α : Type} (a : α) (ρ : Sl) (k : α → Out) : rS (.ok a) ρ k = k a := rfl
@[simp] theorem rS_exc {α : Type} (x : Str) (fs) (ρ : Sl) (k : α → Out) : rS (.exc x fs) ρ k = .exc x fs ρ := rfl
@[simp] theorem rS_bad {α : Type} (ρ : Sl) (k : α → Out) : rS .bad ρ k = .bad := rfl
theorem rS_po {α β : Type} {K : Frg} {mg : Mg} {hx : Hx} {RX : RR α β} {W : WX} {b : Bs} {S H : Hp} {ρ : Sl} {σ : L2.St} {r : Res β} {k : β → Out} {D : Ends} {Q : α → Hp → Prop} (R : Rel K mg hx b S ρ σ H) (h : PoS K mg hx W b S (rS r ρ k) D)
    (n : ∀ d v S' H', Gr S H S' H' → RX H S' H' v d → PoS K mg hx W b S (k d) D → Q v H') : Po K mg RX W S σ H r Q := by
  cases r with
  | ok d => exact fun v S' H' g q => n d v S' H' g q h
  | exc x fs => exact fun S' H' C dx g q1 q2 => h S' σ H' C dx g.s (R.grow g) q1 q2
  | bad => exact h
@[simp] def gSeq (g h : Sl → Out) (ρ : Sl) : Out := match g ρ with
  | .nx ρ' => h ρ'
  | o => o
@[simp] def gNil (ρ : Sl) : Out := .nx ρ
@[simp] def gIf (t : Sl → Res Bool) (g h : Sl → Out) (ρ : Sl) : Out := rS (t ρ) ρ fun b => if b then g ρ else h ρ
@[simp] def gRet (f : Sl → Res D) (ρ : Sl) : Out := rS (f ρ) ρ .ret
@[simp] def gRetN (_ : Sl) : Out := .ret .non
@[simp] def gBk (ρ : Sl) : Out := .bk ρ
@[simp] def gCt (ρ : Sl) : Out := .ct ρ
@[simp] def gDrop (f : Sl → Res D) (ρ : Sl) : Out := rS (f ρ) ρ fun _ => .nx ρ
/-- i = f -/
@[simp] def gSet (i : Nat) (f : Sl → Res D) (ρ : Sl) : Out := rS (f ρ) ρ fun d => .nx (ρ.set i (.v d))
/-- i = f, a new list that i alone holds -/
@[simp] def gSetO (i : Nat) (f : Sl → Res (List D)) (ρ : Sl) : Out := rS (f ρ) ρ fun d => .nx (ρ.set i (.o d))
/-- the list of slot i is shared from here on (no statement of the text) -/
@[simp] def gFrz (i : Nat) (g : Sl → Out) (ρ : Sl) : Out := match ρ[i]? with
  | some (.o ds) => g (ρ.set i (.v (.lst ds)))
  | some (.v _) => g ρ
  | _ => .bad
section
variable {X : Cx} {hx : Hx} {W : WX} {st : Stmt} {rest body : List Stmt} {g h : Sl → Out} {e c : Expr} {f : Sl → Res D} {pos : Pos}
theorem ms_nil : MSs X hx W [] gNil := pss_imp pss_nil fun D σ H ⟨b, S, ρ, R, q⟩ => q S σ H (Same.refl _) R
theorem ms_pass : MS X hx W (.Pass pos) gNil := ps_imp ps_pass fun D σ H ⟨b, S, ρ, R, q⟩ => q S σ H (Same.refl _) R
theorem ms_bk : MS X hx W (.Break pos) gBk := ps_imp ps_break fun D σ H ⟨b, S, ρ, R, q⟩ => q S σ H (Same.refl _) R
theorem ms_ct : MS X hx W (.Continue pos) gCt := ps_imp ps_continue fun D σ H ⟨b, S, ρ, R, q⟩ => q S σ H (Same.refl _) R
theorem ms_cons (h1 : MS X hx W st g) (h2 : MSs X hx W rest h) : MSs X hx W (st :: rest) (gSeq g h) := pss_imp (pss_cons h1 h2) fun D σ H ⟨b, S, ρ, R, q⟩ => by
  refine ⟨b, S, ρ, R, ?_⟩
  unfold gSeq at q
  cases e : g ρ with
  | nx ρ' => rw [e] at q; exact fun S' σ' H' s1 R' => ⟨b, S', ρ', R', PoS.up s1 q⟩
  | ret d => rw [e] at q; exact q
  | bk ρ' => rw [e] at q; exact q
  | ct ρ' => rw [e] at q; exact q
  | exc x fs ρ' => rw [e] at q; exact q
  | bad => rw [e] at q; exact q
theorem ms_one (h1 : MS X hx W st g) : MSs X hx W [st] g := pss_one h1
theorem ms_frz (i : Nat) (h1 : MSs X hx W rest g) : MSs X hx W rest (gFrz i g) := pss_imp h1 fun D σ H ⟨b, S, ρ, R, q⟩ => by
  unfold gFrz at q
  split at q
  · rename_i ds e
    obtain ⟨S', s1, R'⟩ := R.freeze e
    exact ⟨b, S', _, R', PoS.up s1 q⟩
  · exact ⟨b, S, ρ, R, q⟩
  · exact q.elim
theorem ms_if {t : Sl → Res Bool} {a1 a2 : List Stmt} (hc : MT X hx W c t) (h1 : MSs X hx W a1 g) (h2 : MSs X hx W a2 h) : MS X hx W (.If c a1 a2 pos) (gIf t g h) := ps_imp (ps_if hc h1 h2) fun D σ H ⟨b, S, ρ, R, q⟩ =>
  ⟨b, S, ρ, R, rS_po R q fun d v S1 H1 g1 r1 k => by
    cases r1
    cases d with
    | true => exact iteT ⟨b, S1, ρ, R.grow g1, PoS.up g1.s k⟩
    | false => exact iteF ⟨b, S1, ρ, R.grow g1, PoS.up g1.s k⟩⟩
theorem ms_ret (he : ME X hx W e f) : MS X hx W (.Return (some e) pos) (gRet f) := ps_imp (ps_ret he) fun D σ H ⟨b, S, ρ, R, q⟩ =>
  ⟨b, S, ρ, R, rS_po R q fun d v S1 H1 g1 r1 k => k S1 H1 v (R.grow g1).bok (.inl r1)⟩
/-- return x, x a list that this slot alone holds; return of a new list -/
@[simp] def gRetO (i : Nat) (ρ : Sl) : Out := match ρ[i]? with
  | some (.o ds) => .ret (.fr ds)
  | some (.v d) => .ret d
  | _ => .bad
theorem ms_retO (i : Nat) {x : Str} {p : Pos} (hv : PE X (.Name x p) (tVar i)) : MS X hx W (.Return (some (.Name x p)) pos) (gRetO i) := ps_imp (ps_ret hv) fun D σ H ⟨b, S, ρ, R, q⟩ => by
  unfold gRetO at q
  split at q
  · rename_i ds e1
    obtain ⟨p, vs, h1, h2, h3, h4, h5⟩ := R.own i ds e1
    exact ⟨_, h1, q S H _ R.bok (.inr ⟨ds, rfl, p, vs, rfl, h4, h3, h2, h5⟩)⟩
  · rename_i d e1
    obtain ⟨v, h1, h2⟩ := R.val i d e1
    exact ⟨v, h1, q S H v R.bok (.inl h2)⟩
  · exact q.elim
@[simp] def gRetF (ff : Sl → Res (List D)) (ρ : Sl) : Out := rS (ff ρ) ρ fun ds => .ret (.fr ds)
theorem ms_retF {ff : Sl → Res (List D)} (he : MF X hx W e ff) : MS X hx W (.Return (some e) pos) (gRetF ff) := ps_imp (ps_ret he) fun D σ H ⟨b, S, ρ, R, q⟩ =>
  ⟨b, S, ρ, R, rS_po R q fun d v S1 H1 g1 ⟨p, vs, h1, h2, h3, h4, h5⟩ k => k S1 H1 v (R.grow g1).bok (.inr ⟨d, rfl, p, vs, h1, same_none R.h0 h2, h3, h4, h5⟩)⟩
theorem ms_retN : MS X hx W (.Return none pos) gRetN := ps_imp ps_retN fun D σ H ⟨b, S, ρ, R, q⟩ => q S H .non R.bok (.inl .non)
theorem ms_drop (he : MR X hx W e f) (hs : swapsWith e none pos.line X.env = pure false := by rfl) : MS X hx W (.Expr e pos) (gDrop f) := ps_imp (ps_expr he hs) fun D σ H ⟨b, S, ρ, R, q⟩ =>
  ⟨b, S, ρ, R, rS_po R q fun d v S1 H1 g1 r1 k => k S1 σ H1 g1.s (R.grow g1)⟩
theorem ms_doc {x j pos'} : MS X hx W (.Expr (.Constant (.str x) j pos) pos') gNil := ps_imp ps_doc fun D σ H ⟨b, S, ρ, R, q⟩ => q S σ H (Same.refl _) R
theorem ms_set (i : Nat) {x : Str} {pos' : Pos} (hN : X.N.Nodup) (he : ME X hx W e f) (hi : X.N[i]? = some x := by rfl) (hl : Loc X.env.scope x := by first | exact Or.inl rfl | exact Or.inr rfl) (hs : swapsWith e (some (.Name x pos')) pos.line X.env = pure false := by rfl) (hf : X.fn x = true ∨ X.env.scope.names.lookup x = some .local := by first | exact .inl rfl | exact .inr rfl | assumption) :
    MS X hx W (.Assign [.Name x pos'] e pos) (gSet i f) := ps_imp (ps_set hN hi hl he hs hf) fun D σ H ⟨b, S, ρ, R, q⟩ =>
  ⟨b, S, ρ, R, rS_po R q fun d v S1 H1 g1 r1 k => k S1 _ H1 g1.s ((R.grow g1).put r1)⟩
theorem Rel.putN {K : Frg} {mg : Mg} {hx : Hx} {b : Bs} {S H S1 H1 : Hp} {ρ : Sl} {σ : L2.St} (R : Rel K mg hx b S ρ σ H) (g1 : Gr S H S1 H1) {i : Nat} {p : Addr} {vs : List V} {ds : List D} (h2 : H p = none) (h3 : S1 p = none) (h4 : H1 p = some (.lst vs)) (h5 : RpA K mg S1 vs ds) : Rel K mg hx b S1 (ρ.set i (.o ds)) (σ.set i (some (.ref p))) H1 :=
  (R.grow g1).putO h4 h3 (same_none R.h0 h2) (fun j es e1 e2 => by
    obtain ⟨p', vs', q1, q2, _⟩ := R.own j es e1
    rw [e2] at q1
    cases q1
    rw [h2] at q2
    cases q2) h5
theorem ms_setO (i : Nat) {ff : Sl → Res (List D)} {x : Str} {pos' : Pos} (hN : X.N.Nodup) (he : MF X hx W e ff) (hi : X.N[i]? = some x := by rfl) (hl : Loc X.env.scope x := by first | exact Or.inl rfl | exact Or.inr rfl) (hs : swapsWith e (some (.Name x pos')) pos.line X.env = pure false := by rfl) (hf : X.fn x = true ∨ X.env.scope.names.lookup x = some .local := by first | exact .inl rfl | exact .inr rfl | assumption) :
    MS X hx W (.Assign [.Name x pos'] e pos) (gSetO i ff) := ps_imp (ps_set hN hi hl he hs hf) fun D σ H ⟨b, S, ρ, R, q⟩ =>
  ⟨b, S, ρ, R, rS_po R q fun d v S1 H1 g1 ⟨p, vs, h1, h2, h3, h4, h5⟩ k => by
    subst h1
    exact k S1 _ H1 g1.s (R.putN g1 h2 h3 h4 h5)⟩
end

/-! ### targets -/
abbrev FG := D → Sl → Option Sl
def AgreeOff (is : List Nat) (σ σ' : L2.St) : Prop := σ'.length = σ.length ∧ ∀ i, i ∉ is → σ'[i]? = σ[i]?
def gG (K : Frg) (mg : Mg) (hx : Hx) (is : List Nat) (g : FG) : TG := fun v σ H Q => ∃ b S ρ d, Rel K mg hx b S ρ σ H ∧ Rp K mg S v d ∧ match g d ρ with
  | some ρ' => ∀ σ', Rel K mg hx b S ρ' σ' H → AgreeOff is σ σ' → Q σ' H
  | _ => False
abbrev MG (X : Cx) (hx : Hx) (tg : Expr) (is : List Nat) (g : FG) : Prop := PG X tg (gG X.K X.mg hx is g)
@[simp] def gName (i : Nat) : FG := fun d ρ => some (ρ.set i (.v d))
/-- a tuple's targets, from the left -/
abbrev FGs := List D → Sl → Option Sl
def gGs (K : Frg) (mg : Mg) (hx : Hx) (is : List Nat) (g : FGs) : TGs := fun vs σ H Q => ∃ b S ρ ds, Rel K mg hx b S ρ σ H ∧ RpA K mg S vs ds ∧ match g ds ρ with
  | some ρ' => ∀ σ', Rel K mg hx b S ρ' σ' H → AgreeOff is σ σ' → Q σ' H
  | _ => False
abbrev MGs (X : Cx) (hx : Hx) (tg : List Expr) (is : List Nat) (g : FGs) : Prop := PGs X tg (gGs X.K X.mg hx is g)
@[simp] def gsNil : FGs := fun ds ρ => match ds with
  | [] => some ρ
  | _ => none
@[simp] def gsCons (g : FG) (h : FGs) : FGs := fun ds ρ => match ds with
  | d :: r => (g d ρ).bind fun ρ1 => h r ρ1
  | _ => none
@[simp] def gTup (n : Nat) (h : FGs) : FG := fun d ρ => match d with
  | .tup ds => if ds.length = n then h ds ρ else none
  | _ => none
section
variable {X : Cx} {hx : Hx} {pos : Pos}
theorem agree_set {i : Nat} {σ : L2.St} {v : Option V} : AgreeOff [i] σ (σ.set i v) := ⟨by simp, fun j h => by rw [List.getElem?_set_ne (by simpa [eq_comm] using h)]⟩
theorem agree_trans {is js : List Nat} {a b c : L2.St} (h : AgreeOff is a b) (k : AgreeOff js b c) : AgreeOff (is ++ js) a c := ⟨k.1.trans h.1, fun i hi => by
  simp only [List.mem_append, not_or] at hi
  exact (k.2 i hi.2).trans (h.2 i hi.1)⟩
theorem mg_name (i : Nat) {x : Str} (hN : X.N.Nodup) (hi : X.N[i]? = some x := by rfl) (hl : Loc X.env.scope x := by first | exact Or.inl rfl | exact Or.inr rfl) (hf : X.fn x = true ∨ X.env.scope.names.lookup x = some .local := by first | exact .inl rfl | exact .inr rfl | assumption) : MG X hx (.Name x pos) [i] (gName i) :=
  pg_imp (pg_name hN hi hl hf) fun v σ H Q ⟨b, S, ρ, d, R, r, q⟩ => q _ (R.put r) agree_set
theorem pgs_imp {X : Cx} {es : List Expr} {t t' : TGs} (h : PGs X es t) (i : ∀ vs σ H Q, t' vs σ H Q → t vs σ H Q) : PGs X es t' := ⟨fun pins s σ H v u Q I r q => h.run pins s σ H v u Q I r (i v σ H Q q)⟩
theorem mgs_nil : MGs X hx [] [] gsNil := pgs_imp pgs_nil fun vs σ H Q ⟨b, S, ρ, ds, R, r, q⟩ => by
  cases r with
  | nil => exact ⟨rfl, q σ R ⟨rfl, fun _ _ => rfl⟩⟩
  | cons _ _ => exact q.elim
theorem mgs_cons {e : Expr} {es : List Expr} {is js : List Nat} {g : FG} {h : FGs} (h1 : MG X hx e is g) (h2 : MGs X hx es js h) (hs : (assignEach (e :: es) X.env).map (·.2) = assign e X.env :: (assignEach es X.env).map (·.2) := by rfl) : MGs X hx (e :: es) (is ++ js) (gsCons g h) :=
  pgs_imp (pgs_cons h1 h2 hs) fun vs σ H Q ⟨b, S, ρ, ds, R, r, q⟩ => by
    cases r with
    | nil => exact q.elim
    | @cons v vs d ds r1 r2 =>
      refine ⟨v, vs, rfl, b, S, ρ, d, R, r1, ?_⟩
      simp only [gsCons] at q
      cases e : g d ρ with
      | some ρ1 =>
        rw [e] at q
        exact fun σ1 R1 a1 => ⟨b, S, ρ1, ds, R1, r2, by
          simp only [Option.bind_some] at q
          split at q
          · exact fun σ2 R2 a2 => q σ2 R2 (agree_trans a1 a2)
          · exact q.elim⟩
      | none => rw [e] at q; exact q.elim
theorem mg_tup {es : List Expr} {k : Nat} {is : List Nat} {t : FGs} {n : Nat} (hc : X.calm = true) (h : MGs X hx es is t) (hn : (assignEach es X.env).length = n := by rfl) (hst : (assignEach es X.env).findIdx? (·.1) = none := by rfl) : MG X hx (.Tuple es k pos) is (gTup n t) :=
  pg_imp (pg_tup hc h hn hst) fun v σ H Q ⟨b, S, ρ, d, R, r, q⟩ => by
    cases r with
    | @tup a xs ds h1 h2 =>
      by_cases hl : ds.length = n
      · have e : gTup n t (.tup ds) ρ = t ds ρ := if_pos hl
        rw [e] at q
        exact ⟨a, xs, rfl, same_t R.sh h1, by rw [h2.len]; exact hl, b, S, ρ, ds, R, h2, q⟩
      · have e : gTup n t (.tup ds) ρ = none := if_neg hl
        rw [e] at q
        exact q.elim
    | _ => exact q.elim
/-- a, b = e -/
@[simp] def gAsg (g : FG) (f : Sl → Res D) (ρ : Sl) : Out := rS (f ρ) ρ fun d => match g d ρ with
  | some ρ' => .nx ρ'
  | none => .bad
theorem ms_asg {W : WX} {tg e : Expr} {is : List Nat} {g : FG} {f : Sl → Res D} (he : ME X hx W e f) (hg : MG X hx tg is g) (hs : swapsWithSole [tg] e pos.line X.env = pure false := by rfl) (hw : swappedStores [tg] e X.env = pure none := by rfl)
    (h1 : (assignEach [tg] X.env).map (·.2) = [assign tg X.env] := by rfl) : MS X hx W (.Assign [tg] e pos) (gAsg g f) := ps_imp (ps_asg he hg hs hw h1) fun D σ H ⟨b, S, ρ, R, q⟩ =>
  ⟨b, S, ρ, R, rS_po R q fun d v S1 H1 g1 r1 k => by
    refine ⟨b, S1, ρ, d, R.grow g1, r1, ?_⟩
    cases e : g d ρ with
    | some ρ' => rw [e] at k; exact fun σ' R' _ => k S1 σ' H1 g1.s R'
    | none => rw [e] at k; exact k⟩
end
end PF

set_option Elab.async false
set_option linter.all false
set_option maxRecDepth 100000
set_option maxHeartbeats 4000000
namespace PF
open PySem PySem.Spec L2

/-! ### lists that a slot alone holds -/
@[simp] def gApp (i : Nat) (f : Sl → Res D) (ρ : Sl) : Out := match ρ[i]? with
  | some (.o ds) => rS (f ρ) ρ fun d => if ds.length < 16777216 then .nx (ρ.set i (.o (ds ++ [d]))) else .bad
  | _ => .bad
@[simp] def gSto (i : Nat) (fi f : Sl → Res D) (ρ : Sl) : Out := match ρ[i]? with
  | some (.o ds) => rS (f ρ) ρ fun d => rS (fi ρ) ρ fun k => match k with
    | .int n => match ixN ds.length n with
      | some j => .nx (ρ.set i (.o (ds.set j d)))
      | none => .bad
    | _ => .bad
  | _ => .bad
@[simp] noncomputable def gPopAt (j i : Nat) (f : Sl → Res D) (ρ : Sl) : Out := match ρ[i]? with
  | some (.o ds) => rS (f ρ) ρ fun k => match k with
    | .int n => if cb (-(2 ^ 63) ≤ n ∧ n < 2 ^ 63) then (match seqIndex? n ds.length with
      | some m => match ds[m]? with
        | some d => .nx ((ρ.set i (.o (ds.eraseIdx m))).set j (.v d))
        | none => .bad
      | none => .bad) else .bad
    | _ => .bad
  | _ => .bad
@[simp] def gAug (i : Nat) (g : D → D → Res D) (f : Sl → Res D) (ρ : Sl) : Out := match ρ[i]? with
  | some (.v x) => rS (f ρ) ρ fun y => rS (g x y) ρ fun z => .nx (ρ.set i (.v z))
  | _ => .bad
theorem size16 {n : Nat} (h : n < 16777216) : n < sizeLine := by rw [sizeLine_eq]; exact h
section
variable {X : Cx} {hx : Hx} {W : WX} {e c o : Expr} {f : Sl → Res D} {pos : Pos}
theorem ms_app (i : Nat) {x : Str} {p ap ep : Pos} (hv : PE X (.Name x p) (tVar i)) (he : ME X hx W e f) (hs : swapsWith (.Call (.Attribute (.Name x p) "append" ap) [e] [] ep) none pos.line X.env = pure false := by rfl)
    (h : ∀ {t}, PE X e t → PE X (.Call (.Attribute (.Name x p) "append" ap) [e] [] ep) (tBM X.K "list" rAppend (tVar i) (tCons t tNil)) := by
      intro t ht; exact pe_bm PySem.F.plainAttrs_list PySem.F.slot_list_append PySem.F.type_list_append mt_append (pv _) (pa_cons ht pa_nil)) :
    MS X hx W (.Expr (.Call (.Attribute (.Name x p) "append" ap) [e] [] ep) pos) (gApp i f) := ps_imp (ps_expr (h he) hs) fun D σ H ⟨b, S, ρ, R, q⟩ => by
  unfold gApp at q
  split at q
  · rename_i ds e1
    obtain ⟨p, vs, h1, h2, h3, h4, h5⟩ := R.own i ds e1
    refine ⟨_, h1, .inl ⟨rfl, _, SqL.of h2⟩, b, S, ρ, R, rS_po R q fun d v S1 H1 g1 r1 k => ?_⟩
    split at k
    · rename_i hl
      refine ⟨p, vs, v, rfl, rfl, g1.h _ _ h2, size16 (by rw [h5.len]; exact hl), ?_⟩
      exact k S1 σ _ g1.s ((R.grow g1).mut e1 h1 ((h5.up g1.s _ _).app (.cons r1 .nil)))
    · exact k.elim
  · exact q.elim
theorem ms_sto (i : Nat) {x : Str} {ix : Expr} {fi : Sl → Res D} {p sp : Pos} (hv : PE X (.Name x p) (tVar i)) (hi : ME X hx W ix fi) (he : ME X hx W e f)
    (ha : ∀ v, assign (.Subscript (.Name x p) ix sp) X.env v = (do
      let ov ← holding [v] (eval (.Name x p) X.env)
      let iv ← holding [v, ov] (eval ix X.env)
      standAt sp
      holding [v, ov, iv] (setItem ov iv v)
      release [v, ov, iv] []) := by intro _; rfl)
    (hs : swapsWithSole [.Subscript (.Name x p) ix sp] e pos.line X.env = pure false := by rfl) (hw : swappedStores [.Subscript (.Name x p) ix sp] e X.env = pure none := by rfl)
    (h1 : (assignEach [.Subscript (.Name x p) ix sp] X.env).map (·.2) = [assign (.Subscript (.Name x p) ix sp) X.env] := by rfl) :
    MS X hx W (.Assign [.Subscript (.Name x p) ix sp] e pos) (gSto i fi f) := ps_imp (ps_asg he (pg_sub hv hi set_list ha) hs hw h1) fun D σ H ⟨b, S, ρ, R, q⟩ => by
  unfold gSto at q
  split at q
  · rename_i ds e1
    obtain ⟨p, vs, h1, h2, h3, h4, h5⟩ := R.own i ds e1
    refine ⟨b, S, ρ, R, rS_po R q fun d v S1 H1 g1 r1 k => ?_⟩
    refine ⟨_, h1, b, S1, ρ, R.grow g1, rS_po (R.grow g1) (PoS.up g1.s k) fun d2 v2 S2 H2 g2 r2 k2 => ?_⟩
    cases d2 with
    | int n =>
      cases r2
      simp only at k2
      split at k2
      · rename_i j hj
        have g := g1.trans g2
        refine ⟨p, vs, n, j, rfl, rfl, g.h _ _ h2, by rw [h5.len]; exact hj, ?_⟩
        exact k2 S2 σ _ g2.s ((R.grow g).mut e1 h1 ((h5.up g.s _ _).set (r1.up g2.s _ _) j))
      · exact k2.elim
    | _ => exact k2.elim
  · exact q.elim
theorem ms_popAt (j i : Nat) {y x : Str} {p py ap ep : Pos} (hN : X.N.Nodup) (hv : PE X (.Name x p) (tVar i)) (he : ME X hx W e f) (hi : X.N[j]? = some y := by rfl) (hl : Loc X.env.scope y := by first | exact Or.inl rfl | exact Or.inr rfl)
    (hs : swapsWith (.Call (.Attribute (.Name x p) "pop" ap) [e] [] ep) (some (.Name y py)) pos.line X.env = pure false := by rfl) (hf : X.fn y = true ∨ X.env.scope.names.lookup y = some .local := by first | exact .inl rfl | exact .inr rfl | assumption)
    (h : ∀ {t}, PE X e t → PE X (.Call (.Attribute (.Name x p) "pop" ap) [e] [] ep) (tBM X.K "list" rPopAt (tVar i) (tCons t tNil)) := by
      intro t ht; exact pe_bm PySem.F.plainAttrs_list PySem.F.slot_list_pop PySem.F.type_list_pop mt_popAt (pv _) (pa_cons ht pa_nil)) :
    MS X hx W (.Assign [.Name y py] (.Call (.Attribute (.Name x p) "pop" ap) [e] [] ep) pos) (gPopAt j i f) := ps_imp (ps_set hN hi hl (h he) hs hf) fun D σ H ⟨b, S, ρ, R, q⟩ => by
  unfold gPopAt at q
  split at q
  · rename_i ds e1
    obtain ⟨p, vs, h1, h2, h3, h4, h5⟩ := R.own i ds e1
    refine ⟨_, h1, .inl ⟨rfl, _, SqL.of h2⟩, b, S, ρ, R, rS_po R q fun d v S1 H1 g1 r1 k => ?_⟩
    cases d with
    | int n =>
      cases r1
      simp only at k
      split at k
      · rename_i hb0
        have hb := of_cb hb0
        split at k
        · rename_i m hm
          split at k
          · rename_i d hd
            obtain ⟨u, hu, ru⟩ := (h5.up g1.s _ _).get hd
            refine ⟨p, vs, n, m, u, rfl, rfl, g1.h _ _ h2, hb.1, hb.2, by rw [h5.len]; exact hm, hu, ?_⟩
            exact k S1 _ _ g1.s (((R.grow g1).mut e1 h1 ((h5.up g1.s _ _).erase m)).put ru)
          · exact k.elim
        · exact k.elim
      · exact k.elim
    | _ => exact k.elim
  · exact q.elim
theorem ms_aug (i : Nat) {x : Str} {op : Operator} {ti : TIp} {g : D → D → Res D} {pos' : Pos} (hN : X.N.Nodup) (ho : PIp X op ti) (hr : O2 X.K X.mg ti g) (he : ME X hx W e f) (hi : X.N[i]? = some x := by rfl) (hl : Loc X.env.scope x := by first | exact Or.inl rfl | exact Or.inr rfl) (hf : X.fn x = true ∨ X.env.scope.names.lookup x = some .local := by first | exact .inl rfl | exact .inr rfl | assumption) :
    MS X hx W (.AugAssign (.Name x pos') op e pos) (gAug i g f) := ps_imp (ps_aug hN hi hl he ho hf) fun D σ H ⟨b, S, ρ, R, q⟩ => by
  unfold gAug at q
  split at q
  · rename_i d e1
    obtain ⟨v, h1, h2⟩ := R.val i d e1
    refine ⟨v, h1, b, S, ρ, R, rS_po R q fun d2 v2 S1 H1 g1 r1 k => ?_⟩
    refine hr S1 σ H1 v v2 d d2 W _ g1.i (Rd1.of g1.i (h2.up g1.s _ _)) (Rd1.of g1.i r1) (rS_po (R.grow g1) (PoS.up g1.s k) fun d3 v3 S3 H3 g3 r3 k3 => ?_)
    exact k3 S3 _ H3 g3.s (((R.grow g1).grow g3).put r3)
  · exact q.elim
end

/-! ### what is walked -/
structure ItD (K : Frg) (mg : Mg) (S1 : Hp) (J : It) (ds : List D) : Prop where
  go : ∀ S H i d, Same S1 S → Same S H → ds[i]? = some d → J.go i H ∧ ∀ x H', J.yld i H x H' → ∃ S', Gr S H S' H' ∧ Rp K mg S' x d
  stop : ∀ S H, Same S1 S → Same S H → J.stop ds.length H
abbrev rrI (K : Frg) (mg : Mg) : RR It (List D) := fun _ S _ J ds => ItD K mg S J ds
abbrev MI (X : Cx) (hx : Hx) (W : WX) (tg e : Expr) (f : Sl → Res (List D)) : Prop := PI X tg e (tG X.K X.mg hx (rrI X.K X.mg) W f)
theorem Po.upI {K : Frg} {mg : Mg} {W : WX} {S H S' H' : Hp} {σ : L2.St} {r : Res (List D)} {Q : It → Hp → Prop} (g : Gr S H S' H') (h : Po K mg (rrI K mg) W S σ H r Q) : Po K mg (rrI K mg) W S' σ H' r Q := h.up g fun _ _ _ _ _ q => q
section
variable {K : Frg} {mg : Mg} {S : Hp} {a : Addr} {vs : List V} {ds : List D}
theorem itd_list (h : SqL K S a vs) (r : RpA K mg S vs ds) : ItD K mg S (Itl K a) ds where
  go := fun S' H i d s1 s2 e => by
    obtain ⟨v, h1, h2⟩ := (r.up s1 _ _).get e
    have q : SqL K H a vs := same_l (s1.trans s2) h
    exact ⟨⟨vs, v, q, h1⟩, fun x H' y => ⟨S', by rw [y.1]; exact Gr.refl s2, by
      have z := y.2 vs q
      rw [h1] at z
      cases z
      exact h2⟩⟩
  stop := fun S' H s1 s2 => ⟨vs, same_l (s1.trans s2) h, by rw [r.len]; exact Nat.le_refl _⟩
theorem itd_tup (h : SqT K S a vs) (r : RpA K mg S vs ds) : ItD K mg S (Itt K a) ds where
  go := fun S' H i d s1 s2 e => by
    obtain ⟨v, h1, h2⟩ := (r.up s1 _ _).get e
    have q : SqT K H a vs := same_t (s1.trans s2) h
    exact ⟨⟨vs, v, q, h1⟩, fun x H' y => ⟨S', by rw [y.1]; exact Gr.refl s2, by
      have z := y.2 vs q
      rw [h1] at z
      cases z
      exact h2⟩⟩
  stop := fun S' H s1 s2 => ⟨vs, same_t (s1.trans s2) h, by rw [r.len]; exact Nat.le_refl _⟩
/-- lo, lo + 1, .. -/
def rngD (lo : Int) (n : Nat) : List D := (List.range n).map fun (k : Nat) => .int (lo + (k : Int))
theorem rngD_len (lo : Int) (n : Nat) : (rngD lo n).length = n := by simp [rngD]
theorem rngD_get {lo : Int} {n i : Nat} {d : D} (h : (rngD lo n)[i]? = some d) : i < n ∧ d = .int (lo + (i : Int)) := by
  unfold rngD at h
  rw [List.getElem?_map] at h
  by_cases hi : i < n
  · rw [List.getElem?_range hi] at h
    exact ⟨hi, (Option.some.inj h).symm⟩
  · rw [List.getElem?_eq_none (by simpa using hi)] at h
    cases h
theorem itd_rng (lo : Int) (n : Nat) : ItD K mg S (Itr lo n) (rngD lo n) where
  go := fun S' H i d s1 s2 e => by
    obtain ⟨h1, rfl⟩ := rngD_get e
    exact ⟨h1, fun x H' y => ⟨S', by rw [y.1]; exact Gr.refl s2, by rw [y.2]; exact .int _⟩⟩
  stop := fun S' H s1 s2 => by rw [rngD_len]; exact Nat.le_refl n
/-- the signs of a text -/
def signsD (x : Str) : List D := x.cps.toList.map fun c => .str ⟨#[c]⟩
theorem itd_str (x : Str) : ItD K mg S (Its x) (signsD x) where
  go := fun S' H i d s1 s2 e => by
    unfold signsD at e
    rw [List.getElem?_map, Array.getElem?_toList] at e
    cases q : x.cps[i]? with
    | none => rw [q] at e; cases e
    | some c =>
      rw [q] at e
      cases (Option.some.inj e)
      have hi : i < x.cps.size := (Array.getElem?_eq_some_iff.mp q).1
      refine ⟨hi, fun y H' z => ⟨S', by rw [z.1]; exact Gr.refl s2, ?_⟩⟩
      obtain ⟨_, c', h1, h2⟩ := z
      rw [q] at h1
      cases h1
      rw [h2]
      exact .str _
  stop := fun S' H s1 s2 => by
    show x.cps.size ≤ (signsD x).length
    simp [signsD]
end
section
variable {X : Cx} {hx : Hx} {W : WX} {tg e a b c : Expr} {f fa fb : Sl → Res D} {pos p : Pos}
theorem pi_or {w1 w2 : TI} (h1 : PI X tg e w1) (h2 : PI X tg e w2) : PI X tg e (fun σ H R => w1 σ H R ∨ w2 σ H R) := ⟨fun pins s σ H R I h => h.elim (h1.run pins s σ H R I) (h2.run pins s σ H R I)⟩
@[simp] def dSeq (d : D) : Res (List D) := match d with
  | .lst ds => .ok ds
  | .rol ds => .ok ds
  | .tup ds => .ok ds
  | .str x => .ok (signsD x)
  | _ => .bad
@[simp] def iSeq (f : Sl → Res D) (ρ : Sl) : Res (List D) := (f ρ).bind dSeq
theorem mi_seq (h : ME X hx W e f) : MI X hx W tg e (iSeq f) := pi_imp (pi_or (pi_list h) (pi_or (pi_tup h) (pi_str h))) fun σ H Q ⟨b, S, ρ, R, q⟩ => by
  unfold iSeq at q
  cases ef : f ρ with
  | ok d =>
    rw [ef] at q
    have go : ∀ {Q' : VK}, (∀ v S' H', Gr S H S' H' → Rp X.K X.mg S' v d → Q' v H') → tG X.K X.mg hx (rrE X.K X.mg) W f σ H Q' := fun {Q'} k => ⟨b, S, ρ, R, by rw [ef]; exact k⟩
    cases d with
    | lst ds => exact .inl (go fun v S1 H1 g1 r1 => by
        cases r1 with
        | lst h1 h2 => exact ⟨_, rfl, ⟨_, SqL.of (g1.i _ _ h1)⟩, q _ S1 H1 g1 (itd_list (SqL.of h1) h2)⟩)
    | rol ds => exact .inl (go fun v S1 H1 g1 r1 => by
        cases r1 with
        | rol h1 h2 => exact ⟨_, rfl, ⟨_, same_l g1.i h1⟩, q _ S1 H1 g1 (itd_list h1 h2)⟩)
    | tup ds => exact .inr (.inl (go fun v S1 H1 g1 r1 => by
        cases r1 with
        | tup h1 h2 => exact ⟨_, rfl, ⟨_, same_t g1.i h1⟩, q _ S1 H1 g1 (itd_tup h1 h2)⟩))
    | str x => exact .inr (.inr (go fun v S1 H1 g1 r1 => by
        cases r1 with
        | str _ => exact ⟨_, rfl, q _ S1 H1 g1 (itd_str x)⟩))
    | _ => exact q.elim
  | exc x fs =>
    rw [ef] at q
    exact .inl ⟨b, S, ρ, R, by rw [ef]; exact q⟩
  | bad => rw [ef] at q; exact q.elim
@[simp] noncomputable def gRng1 (ds : List D) : Res (List D) := match ds with
  | [.int j] => if cb (-(2 ^ 62) ≤ j ∧ j < 2 ^ 62) then .ok (rngD 0 j.toNat) else .bad
  | _ => .bad
@[simp] noncomputable def gRng2 (ds : List D) : Res (List D) := match ds with
  | [.int i, .int j] => if cb ((-(2 ^ 62) ≤ i ∧ i < 2 ^ 62) ∧ -(2 ^ 62) ≤ j ∧ j < 2 ^ 62) then .ok (rngD i (j - i).toNat) else .bad
  | _ => .bad
theorem RpA.two {K : Frg} {mg : Mg} {S : Hp} {vs : List V} {d e : D} (r : RpA K mg S vs [d, e]) : ∃ v w, vs = [v, w] ∧ Rp K mg S v d ∧ Rp K mg S w e := by
  cases r with
  | cons a t =>
    cases t with
    | cons b t => cases t; exact ⟨_, _, rfl, a, b⟩
theorem RpA.one {K : Frg} {mg : Mg} {S : Hp} {vs : List V} {d : D} (r : RpA K mg S vs [d]) : ∃ v, vs = [v] ∧ Rp K mg S v d := by
  cases r with
  | cons a t => cases t; exact ⟨_, rfl, a⟩
@[simp] noncomputable def iRg1 (fs : Sl → Res (List D)) (ρ : Sl) : Res (List D) := (fs ρ).bind gRng1
@[simp] noncomputable def iRg2 (fs : Sl → Res (List D)) (ρ : Sl) : Res (List D) := (fs ρ).bind gRng2
theorem mi_rng1 {fs : Sl → Res (List D)} (hg : Gl X "range") (hm : X.mg "range" = none) (ha : MA X hx W [a] fs) (hs : starEach [a] X.env = [(false, eval a X.env)] := by rfl) : MI X hx W tg (.Call (.Name "range" p) [a] [] pos) (iRg1 fs) :=
  pi_imp (pi_range1 hg hm ha hs) fun σ H Q ⟨b, S, ρ, R, q⟩ => ⟨b, S, ρ, R, q.bind fun d v S1 H1 g1 r1 k => by
    unfold gRng1 at k
    split at k
    · rename_i j
      obtain ⟨v1, rfl, r2⟩ := r1.one
      cases r2
      split at k
      · rename_i hb0
        have hb := of_cb hb0
        exact ⟨j, rfl, hb.1, hb.2, k _ S1 H1 g1 (itd_rng 0 _)⟩
      · exact k.elim
    · exact k.elim⟩
theorem mi_rng2 {fs : Sl → Res (List D)} (hg : Gl X "range") (hm : X.mg "range" = none) (ha : MA X hx W [a, c] fs) (hs : starEach [a, c] X.env = [(false, eval a X.env), (false, eval c X.env)] := by rfl) (hs2 : starEach [c] X.env = [(false, eval c X.env)] := by rfl) : MI X hx W tg (.Call (.Name "range" p) [a, c] [] pos) (iRg2 fs) :=
  pi_imp (pi_range2 hg hm ha hs hs2) fun σ H Q ⟨b, S, ρ, R, q⟩ => ⟨b, S, ρ, R, q.bind fun d v S1 H1 g1 r1 k => by
    unfold gRng2 at k
    split at k
    · rename_i i j
      obtain ⟨v1, v2, rfl, r2, r3⟩ := r1.two
      cases r2
      cases r3
      split at k
      · rename_i hb0
        have hb := of_cb hb0
        exact ⟨i, j, rfl, ⟨hb.1.1, hb.1.2, hb.2.1, hb.2.2⟩, k _ S1 H1 g1 (itd_rng i _)⟩
      · exact k.elim
    · exact k.elim⟩
end

/-! ### for, while -/
def forRun (g : FG) (body : Sl → Out) : List D → Sl → Out
  | [], ρ => .nx ρ
  | d :: ds, ρ => match g d ρ with
    | some ρ1 => match body ρ1 with
      | .nx ρ2 => forRun g body ds ρ2
      | .ct ρ2 => forRun g body ds ρ2
      | .bk ρ2 => .nx ρ2
      | .ret d => .ret d
      | .exc x fs ρ2 => .exc x fs ρ2
      | .bad => .bad
    | none => .bad
@[simp] def gFor (items : Sl → Res (List D)) (g : FG) (body : Sl → Out) (ρ : Sl) : Out := rS (items ρ) ρ fun ds => forRun g body ds ρ
def whRun (t : Sl → Res Bool) (body : Sl → Out) : Nat → Sl → Out
  | 0, _ => .bad
  | n + 1, ρ => rS (t ρ) ρ fun b => if b then (match body ρ with
      | .nx ρ2 => whRun t body n ρ2
      | .ct ρ2 => whRun t body n ρ2
      | .bk ρ2 => .nx ρ2
      | .ret d => .ret d
      | .exc x fs ρ2 => .exc x fs ρ2
      | .bad => .bad) else .nx ρ
def gWh (fuel : Sl → Nat) (t : Sl → Res Bool) (body : Sl → Out) (ρ : Sl) : Out := whRun t body (fuel ρ) ρ
section
variable {X : Cx} {hx : Hx} {W : WX} {tg e c : Expr} {body : List Stmt} {pos : Pos}
theorem ms_for {is : List Nat} {items : Sl → Res (List D)} {g : FG} {gb : Sl → Out} (hp : PassesOwn (model X.prog X.w) X.A X.env X.xe) (hc : X.calm = true) (hi : MI X hx W tg e items) (hg : MG X hx tg is g) (hb : MSs X hx W body gb)
    (hs : ∀ x, foldedSetIterable e X.env x = pure x := by intro _; rfl) : MS X hx W (.For tg e body [] pos) (gFor items g gb) := ps_imp (ps_for hp hc hi hg hb hs) fun D σ H ⟨b, S, ρ, R, q⟩ =>
  ⟨b, S, ρ, R, rS_po R q fun ds J S1 H1 g1 r1 k => by
    refine ⟨fun i m σ' H' => m = ds.length - i ∧ i ≤ ds.length ∧ ∃ S' ρ', Same S1 S' ∧ Rel X.K X.mg hx b S' ρ' σ' H' ∧ PoS X.K X.mg hx W b S' (forRun g gb (ds.drop i) ρ') D, ⟨ds.length, rfl, Nat.zero_le _, S1, ρ, Same.refl _, R.grow g1, PoS.up g1.s k⟩, ?_⟩
    rintro i m σ' H' ⟨rfl, hi, S', ρ', s1, R', k'⟩
    by_cases hlt : i < ds.length
    · have ed : ds.drop i = ds[i] :: ds.drop (i + 1) := List.drop_eq_getElem_cons hlt
      obtain ⟨go, yl⟩ := r1.go S' H' i ds[i] s1 R'.sh (List.getElem?_eq_getElem hlt)
      refine .inr ⟨go, fun σ2 H2 => ∃ S2 ρ2, Same S1 S2 ∧ Rel X.K X.mg hx b S2 ρ2 σ2 H2 ∧ PoS X.K X.mg hx W b S2 (forRun g gb (ds.drop (i + 1)) ρ2) D, fun σ2 H2 w => ⟨ds.length - (i + 1), by omega, rfl, hlt, w⟩, fun x H2 y => ?_⟩
      obtain ⟨S2, g2, r2⟩ := yl x H2 y
      refine ⟨b, S2, ρ', ds[i], R'.grow g2, r2, ?_⟩
      rw [ed] at k'
      unfold forRun at k'
      cases eg : g ds[i] ρ' with
      | none => rw [eg] at k'; exact k'.elim
      | some ρ1 =>
        rw [eg] at k'
        intro σ3 R3 _
        refine ⟨b, S2, ρ1, R3, ?_⟩
        simp only at k'
        cases eb : gb ρ1 with
        | nx ρ2 => rw [eb] at k'; exact fun S4 σ4 H4 s4 R4 => ⟨S4, ρ2, (s1.trans g2.s).trans s4, R4, PoS.up (g2.s.trans s4) k'⟩
        | ct ρ2 => rw [eb] at k'; exact fun S4 σ4 H4 s4 R4 => ⟨S4, ρ2, (s1.trans g2.s).trans s4, R4, PoS.up (g2.s.trans s4) k'⟩
        | bk ρ2 => rw [eb] at k'; exact fun S4 σ4 H4 s4 R4 => k' S4 σ4 H4 (g2.s.trans s4) R4
        | ret d => rw [eb] at k'; exact k'
        | exc x fs ρ2 => rw [eb] at k'; exact PoS.up g2.s k'
        | bad => rw [eb] at k'; exact k'.elim
    · have ei : i = ds.length := by omega
      subst ei
      rw [List.drop_length] at k'
      exact .inl ⟨r1.stop S' H' s1 R'.sh, k' S' σ' H' (Same.refl _) R'⟩⟩
theorem ms_while {t : Sl → Res Bool} {gb : Sl → Out} (fuel : Sl → Nat) (hp : PassesOwn (model X.prog X.w) X.A X.env X.xe) (hc : MT X hx W c t) (hb : MSs X hx W body gb) : MS X hx W (.While c body [] pos) (gWh fuel t gb) := ps_imp (ps_while hp hc hb) fun D σ H ⟨b, S, ρ, R, q⟩ => by
  refine ⟨fun m σ' H' => ∃ S' ρ', Same S S' ∧ Rel X.K X.mg hx b S' ρ' σ' H' ∧ PoS X.K X.mg hx W b S' (whRun t gb m ρ') D, ⟨fuel ρ, S, ρ, Same.refl _, R, q⟩, ?_⟩
  rintro m σ' H' ⟨S', ρ', s1, R', k'⟩
  cases m with
  | zero => exact k'.elim
  | succ m =>
    refine ⟨b, S', ρ', R', rS_po R' k' fun d v S1 H1 g1 r1 k => ?_⟩
    cases r1
    cases d with
    | false => exact iteF (k S1 σ' H1 g1.s (R'.grow g1))
    | true =>
      refine iteT ⟨fun σ2 H2 => ∃ S2 ρ2, Same S S2 ∧ Rel X.K X.mg hx b S2 ρ2 σ2 H2 ∧ PoS X.K X.mg hx W b S2 (whRun t gb m ρ2) D, fun σ2 H2 w => ⟨m, Nat.lt_succ_self _, w⟩, b, S1, ρ', R'.grow g1, ?_⟩
      simp only [if_true] at k
      cases eb : gb ρ' with
      | nx ρ2 => rw [eb] at k; exact fun S4 σ4 H4 s4 R4 => ⟨S4, ρ2, (s1.trans g1.s).trans s4, R4, PoS.up (g1.s.trans s4) k⟩
      | ct ρ2 => rw [eb] at k; exact fun S4 σ4 H4 s4 R4 => ⟨S4, ρ2, (s1.trans g1.s).trans s4, R4, PoS.up (g1.s.trans s4) k⟩
      | bk ρ2 => rw [eb] at k; exact fun S4 σ4 H4 s4 R4 => k S4 σ4 H4 (g1.s.trans s4) R4
      | ret d => rw [eb] at k; exact k
      | exc x fs ρ2 => rw [eb] at k; exact PoS.up g1.s k
      | bad => rw [eb] at k; exact k.elim
end

/-! ### comprehensions -/
@[simp] def wipeS (ρ : Sl) : List Nat → Sl
  | [] => ρ
  | v :: vs => (wipeS ρ vs).set v .e
theorem Rel.wipeL {K : Frg} {mg : Mg} {hx : Hx} {b : Bs} {S H : Hp} {ρ : Sl} {σ : L2.St} (R : Rel K mg hx b S ρ σ H) : ∀ vs : List Nat, Rel K mg hx b S (wipeS ρ vs) (wipe σ vs) H
  | [] => R
  | v :: vs => (R.wipeL vs).wipe1
def Res.nx {α : Type} (r : Res α) : Res α := match r with
  | .ok a => .ok a
  | _ => .bad
def W0 : WX := fun _ _ _ _ => False
def lcRun (g : FG) (t : Sl → Res Bool) (f : Sl → Res D) (ρ : Sl) : List D → List D → Res (List D)
  | [], acc => .ok acc
  | d :: ds, acc => match g d ρ with
    | none => .bad
    | some ρ1 => (t ρ1).nx.bind fun b => if b then (f ρ1).nx.bind fun y => if acc.length < 16777216 then lcRun g t f ρ ds (acc ++ [y]) else .bad
      else lcRun g t f ρ ds acc
@[simp] def fLc (items : Sl → Res (List D)) (g : FG) (t : Sl → Res Bool) (f : Sl → Res D) (vs : List Nat) (ρ : Sl) : Res (List D) := (items ρ).bind fun ds => lcRun g t f (wipeS ρ vs) ds []
theorem wipe_get {σ : L2.St} {i : Nat} : ∀ {vs : List Nat}, i < σ.length → (wipe σ vs)[i]? = if i ∈ vs then some none else σ[i]?
  | [], _ => by simp [wipe]
  | v :: vs, h => by
    unfold wipe
    by_cases e : v = i
    · subst e
      rw [List.getElem?_set_self (by rw [wipe_length]; exact h)]
      simp
    · rw [List.getElem?_set_ne e, wipe_get (vs := vs) h]
      have : (i ∈ v :: vs) ↔ i ∈ vs := by simp [Ne.symm e]
      simp only [this]
theorem agree_wipe {is vs : List Nat} {σ σ' : L2.St} (h : AgreeOff is (wipe σ vs) σ') (hs : ∀ i ∈ is, i ∈ vs) : wipe σ' vs = wipe σ vs := by
  have hl : σ'.length = σ.length := h.1.trans (wipe_length σ vs)
  apply List.ext_getElem?
  intro i
  by_cases hi : i < σ.length
  · rw [wipe_get (by rw [hl]; exact hi), wipe_get hi]
    by_cases hm : i ∈ vs
    · simp [hm]
    · simp only [hm, if_false]
      rw [h.2 i (fun z => hm (hs i z)), wipe_get hi]
      simp [hm]
  · rw [List.getElem?_eq_none (by rw [wipe_length, hl]; omega), List.getElem?_eq_none (by rw [wipe_length]; omega)]
theorem Po.nx0 {α β : Type} {K : Frg} {mg : Mg} {R : RR α β} {W : WX} {S : Hp} {σ : L2.St} {H : Hp} {r : Res β} {Q : α → Hp → Prop} (h : Po K mg R W S σ H r.nx Q) : Po K mg R W0 S σ H r Q := by
  cases r with
  | ok d => exact h
  | exc x fs => exact h.elim
  | bad => exact h
section
variable {X : Cx} {hx : Hx} {W : WX}
abbrev MTs (X : Cx) (hx : Hx) (W : WX) (ifs : List Expr) (t : Sl → Res Bool) : Prop := PTs X ifs (tG X.K X.mg hx rrT W t)
@[simp] def tYesF (_ : Sl) : Res Bool := .ok true
theorem mts_nil : MTs X hx W [] tYesF := ⟨fun pins s σ H Q I ⟨b, S, ρ, R, q⟩ => pts_nil.run pins s σ H Q I (q true S H (Gr.refl R.sh) rfl)⟩
theorem mts_one {c : Expr} {t : Sl → Res Bool} (h : MT X hx W c t) : MTs X hx W [c] t := pts_one h
theorem lc_ok {items : Sl → Res (List D)} {g : FG} {t : Sl → Res Bool} {f : Sl → Res D} {is vs : List Nat} {K : Frg} {mg : Mg} {ts : TE} (his : ∀ i ∈ is, i ∈ vs) : ∀ σ H Q, tG K mg hx (rrF K mg) W (fLc items g t f vs) σ H Q →
    tLc (tG K mg hx (rrI K mg) W items) (gG K mg hx is g) (tG K mg hx rrT W0 t) (tG K mg hx (rrE K mg) W0 f) vs σ H Q := fun σ H Q ⟨b, S, ρ, R, q⟩ =>
  ⟨b, S, ρ, R, q.bind fun ds J S1 H1 g1 r1 k Dl hD => by
    have k1 : Po K mg (rrF K mg) W S1 σ H1 (lcRun g t f (wipeS ρ vs) ds []) Q := Po.upF g1 k
    have hS : S1 Dl = none := same_none g1.i hD
    refine ⟨fun i m H' => m = ds.length - i ∧ i ≤ ds.length ∧ ∃ S' acc vacc, Gr S1 H1 S' H' ∧ S' Dl = none ∧ H' Dl = some (.lst vacc) ∧ RpA K mg S' vacc acc ∧ Po K mg (rrF K mg) W S1 σ H1 (lcRun g t f (wipeS ρ vs) (ds.drop i) acc) Q,
      ⟨ds.length, rfl, Nat.zero_le _, S1, [], [], Gr.lay g1.i hD, hS, upd_same, .nil, k1⟩, ?_⟩
    rintro i m H' ⟨rfl, hi, S', acc, vacc, g', hS', hH', ra, k'⟩
    have R' : Rel K mg hx b S' (wipeS ρ vs) (wipe σ vs) H' := ((R.grow g1).grow g').wipeL vs
    by_cases hlt : i < ds.length
    · have ed : ds.drop i = ds[i] :: ds.drop (i + 1) := List.drop_eq_getElem_cons hlt
      obtain ⟨go, yl⟩ := r1.go S' H' i ds[i] g'.s g'.i (List.getElem?_eq_getElem hlt)
      refine .inr ⟨go, fun H2 => ∃ S2 acc2 vacc2, Gr S1 H1 S2 H2 ∧ S2 Dl = none ∧ H2 Dl = some (.lst vacc2) ∧ RpA K mg S2 vacc2 acc2 ∧ Po K mg (rrF K mg) W S1 σ H1 (lcRun g t f (wipeS ρ vs) (ds.drop (i + 1)) acc2) Q, fun H2 w => ⟨ds.length - (i + 1), by omega, rfl, hlt, w⟩, fun x H2 y => ?_⟩
      obtain ⟨S2, g2, r2⟩ := yl x H2 y
      have nD : S2 Dl = none := g2.n Dl (by rw [hH']; simp) hS'
      refine ⟨b, S2, wipeS ρ vs, ds[i], R'.grow g2, r2, ?_⟩
      rw [ed] at k'
      unfold lcRun at k'
      cases eg : g ds[i] (wipeS ρ vs) with
      | none => rw [eg] at k'; exact k'.elim
      | some ρ1 =>
        rw [eg] at k'
        intro σ3 R3 ag
        refine ⟨agree_wipe ag his, b, S2, ρ1, R3, ?_⟩
        simp only at k'
        refine Po.nx0 (W := W) ?_
        cases et : (t ρ1).nx with
        | exc x fs => cases e2 : t ρ1 <;> rw [e2] at et <;> cases et
        | bad => rw [et] at k'; exact k'.elim
        | ok bt =>
          rw [et] at k'
          intro bb S4 H4 g4 e4
          cases e4
          have gg := (g'.trans g2).trans g4
          have h4D : H4 Dl = some (.lst vacc) := g4.h _ _ (g2.h _ _ hH')
          have n4 : S4 Dl = none := g4.n Dl (by rw [g2.h _ _ hH']; simp) nD
          cases bt with
          | false => exact iteF ⟨S4, acc, vacc, gg, n4, h4D, ra.up (g2.s.trans g4.s) _ _, k'⟩
          | true =>
            refine iteT ⟨b, S4, ρ1, R3.grow g4, ?_⟩
            simp only [Res.bind_ok, if_true] at k'
            refine Po.nx0 (W := W) ?_
            cases ef : (f ρ1).nx with
            | exc x fs => cases e2 : f ρ1 <;> rw [e2] at ef <;> cases ef
            | bad => rw [ef] at k'; exact k'.elim
            | ok y =>
              rw [ef] at k'
              intro v S5 H5 g5 r5
              simp only [Res.bind_ok] at k'
              split at k'
              · rename_i hl
                have g45 := gg.trans g5
                have h5D : H5 Dl = some (.lst vacc) := g5.h _ _ h4D
                have n5 : S5 Dl = none := g5.n Dl (by rw [h4D]; simp) n4
                refine ⟨vacc, h5D, size16 (by rw [ra.len]; exact hl), S5, acc ++ [y], vacc ++ [v], ⟨g45.s, fun a o e => ?_, fun a o e => ?_, g45.n⟩, n5, upd_same, (ra.up ((g2.s.trans g4.s).trans g5.s) _ _).app (.cons r5 .nil), k'⟩
                · rw [upd_ne (fun z => by rw [z, hD] at e; cases e)]; exact g45.h a o e
                · rw [upd_ne (fun z => by rw [z, n5] at e; cases e)]; exact g45.i a o e
              · exact k'.elim
    · have ei : i = ds.length := by omega
      subst ei
      rw [List.drop_length] at k'
      exact .inl ⟨r1.stop S' H' g'.s g'.i, k' _ S' H' g' ⟨Dl, vacc, rfl, hD, hS', hH', ra⟩⟩⟩
theorem mf_lc {elt tg iter : Expr} {ifs : List Expr} {scope : Scope} {own : List (Str × Nat)} {pos : Pos} {items : Sl → Res (List D)} {is : List Nat} {g : FG} {t : Sl → Res Bool} {f : Sl → Res D} (hc : X.calm = true) (hN : X.N.Nodup) (hi : MI X hx W tg iter items) (ok : BlkOk X.N X.env.scope scope own)
    (hg : ∀ (s : Shared) (H : Hp) (C : Addr) (cl : List (Str × Addr)) (fp : List Addr), MG (X.blk s H scope (compEnvC scope cl C X.env) fp) hx tg is g) (ht : ∀ (s : Shared) (H : Hp) (C : Addr) (cl : List (Str × Addr)) (fp : List Addr), MTs (X.blk s H scope (compEnvC scope cl C X.env) fp) hx W0 ifs t)
    (he : ∀ (s : Shared) (H : Hp) (C : Addr) (cl : List (Str × Addr)) (fp : List Addr), ME (X.blk s H scope (compEnvC scope cl C X.env) fp) hx W0 elt f) (his : (is.all fun i => (own.map (·.2)).contains i) = true := by decide) (hs : ∀ x, foldedSetIterable iter X.env x = pure x := by intro _; rfl) :
    MF X hx W (.ListComp elt [⟨tg, iter, ifs, 0⟩] scope pos) (fLc items g t f (own.map (·.2))) :=
  pe_imp (pe_lc hc hN hi ok hg ht he hs) (lc_ok (ts := fun _ _ _ => True) fun i hi => by
    have h1 := List.all_eq_true.mp his i hi
    simpa using h1)
theorem ms_setLcO (i : Nat) {y : Str} {py : Pos} {elt tg iter : Expr} {ifs : List Expr} {scope : Scope} {own : List (Str × Nat)} {pos spos : Pos} {items : Sl → Res (List D)} {is : List Nat} {g : FG} {t : Sl → Res Bool} {f : Sl → Res D} (hc : X.calm = true) (hN : X.N.Nodup)
    (hsw : swapsWith (.ListComp elt [⟨tg, iter, ifs, 0⟩] scope pos) (some (.Name y py)) spos.line X.env = pure true) (hi : MI X hx W tg iter items) (ok : BlkOk X.N X.env.scope scope own)
    (hg : ∀ (s : Shared) (H : Hp) (C : Addr) (cl : List (Str × Addr)) (fp : List Addr), MG (X.blk s H scope (compEnvC scope cl C X.env) fp) hx tg is g) (ht : ∀ (s : Shared) (H : Hp) (C : Addr) (cl : List (Str × Addr)) (fp : List Addr), MTs (X.blk s H scope (compEnvC scope cl C X.env) fp) hx W0 ifs t)
    (he : ∀ (s : Shared) (H : Hp) (C : Addr) (cl : List (Str × Addr)) (fp : List Addr), ME (X.blk s H scope (compEnvC scope cl C X.env) fp) hx W0 elt f) (hy : X.N[i]? = some y := by rfl) (hyl : X.env.scope.names.lookup y = some .local := by rfl) (his : (is.all fun i => (own.map (·.2)).contains i) = true := by decide) (hs : ∀ x, foldedSetIterable iter X.env x = pure x := by intro _; rfl) :
    MS X hx W (.Assign [.Name y py] (.ListComp elt [⟨tg, iter, ifs, 0⟩] scope pos) spos) (gSetO i (fLc items g t f (own.map (·.2)))) :=
  ps_imp (ps_setLc hc hN hy hyl hsw hi ok hg ht he hs) fun D σ H ⟨b, S, ρ, R, q⟩ => lc_ok (ts := fun _ _ _ => True) (fun i hi => by
    have h1 := List.all_eq_true.mp his i hi
    simpa using h1) σ H _ ⟨b, S, ρ, R, rS_po R q fun d v S1 H1 g1 ⟨p, vs, h1, h2, h3, h4, h5⟩ k => by
      subst h1
      exact k S1 _ H1 g1.s (R.putN g1 h2 h3 h4 h5)⟩
end
end PF

set_option Elab.async false
set_option linter.all false
set_option maxRecDepth 100000
set_option maxHeartbeats 4000000
namespace PF
open PySem PySem.Spec L2

/-! ### defs and calls -/
/-- the promise of a def that hands back g of its arguments' data, and changes nothing -/
def spF (K : Frg) (mg : Mg) (n : Nat) (g : List D → Res D) : Sp := fun vs H Q E => ∃ ds S, vs.length = n ∧ Same S H ∧ RpA K mg S vs ds ∧ Po K mg (rrX K mg) (fun cls d _ H' => E cls d H') S [] H (g ds) Q
/-- what a body makes of its arguments: n slots -/
@[simp] def semF (n : Nat) (g : Sl → Out) (ds : List D) : Res D := match g (ds.map Cell.v ++ List.replicate (n - ds.length) .e) with
  | .nx _ => .ok .non
  | .ret d => .ok d
  | .exc x fs _ => .exc x fs
  | _ => .bad
theorem Rel.start {K : Frg} {mg : Mg} {N : List Str} {S H : Hp} {vs : List V} {ds : List D} (i : Same S H) (r : RpA K mg S vs ds) : Rel K mg none ⟨H, S⟩ S (ds.map Cell.v ++ List.replicate (N.length - ds.length) .e) (L2.start N vs) H where
  s0 := Same.refl _
  sh := i
  h0 := Same.refl _
  nw := fun _ _ e => e
  len := by simp [L2.start, r.len]
  val := fun j d e => by
    have hl := r.len
    rw [List.getElem?_append] at e
    split at e
    · rename_i hj
      rw [List.getElem?_map] at e
      cases q : ds[j]? with
      | none => rw [q] at e; cases e
      | some d' =>
        rw [q] at e
        cases e
        obtain ⟨v, h1, h2⟩ := r.get q
        refine ⟨v, ?_, h2⟩
        have hj' : j < vs.length := (List.getElem?_eq_some_iff.mp h1).1
        unfold L2.start
        rw [List.getElem?_append_left (by simpa using hj'), List.getElem?_map, h1]
        rfl
    · rw [List.getElem?_replicate] at e
      split at e <;> cases e
  own := fun j es e => by
    rw [List.getElem?_append] at e
    split at e
    · rw [List.getElem?_map] at e
      cases q : ds[j]? with
      | none => rw [q] at e; cases e
      | some d' => rw [q] at e; cases e
    · rw [List.getElem?_replicate] at e
      split at e <;> cases e
  xc := fun j c fs e => by
    rw [List.getElem?_append] at e
    split at e
    · rw [List.getElem?_map] at e
      cases q : ds[j]? with
      | none => rw [q] at e; cases e
      | some d' => rw [q] at e; cases e
    · rw [List.getElem?_replicate] at e
      split at e <;> cases e
  apart := fun j k es gs p ne e1 => by
    rw [List.getElem?_append] at e1
    split at e1
    · rw [List.getElem?_map] at e1
      cases q : ds[j]? with
      | none => rw [q] at e1; cases e1
      | some d' => rw [q] at e1; cases e1
    · rw [List.getElem?_replicate] at e1
      split at e1 <;> cases e1
theorem Bok.gr {b : Bs} {S H : Hp} (h : Bok b S H) : Gr b.S0 b.H0 S H := ⟨h.s0, h.h0, h.sh, h.nw⟩
abbrev WE0 (E : XK) : WX := fun cls d _ H => E cls d H
/-- what a body's statements may lean on -/
structure Cs (X : Cx) (W : WX) : Prop where
  tk : Takes X W
  po : PassesOwn (model X.prog X.w) X.A X.env X.xe
  hc : X.calm = true
section
variable {P : Program} {w : World} {K : Frg} {mg : Mg} {base : Heap}
theorem fn_ok {x qual : Str} {st : Stmt} {f : Addr} {fd : FuncData} {N ps : List Str} {k : Nat} {g : Sl → Out} (F : Fun K x qual st f fd) (Sc : FnScope N ps (defScope st))
    (hb : ∀ (cdv : Value) (A : Around) (outer : List Env) (s : Shared) (H : Hp) (E : XK), Room k (cxOf (L2.CX P w) P w K mg base N qual (defScope st) f cdv A outer s H E).A → Cs (cxOf (L2.CX P w) P w K mg base N qual (defScope st) f cdv A outer s H E) (WE0 E) →
      MSs (cxOf (L2.CX P w) P w K mg base N qual (defScope st) f cdv A outer s H E) none (WE0 E) (defBody st) g) : FnOk P w K mg base (L2.CX P w) (k + 1) f fd ps (spF K mg ps.length (semF N.length g)) :=
  F.okX Sc (fun vs H Q E h => by obtain ⟨ds, S, h1, _⟩ := h; exact h1) fun cdv A outer s H vs Q E hr h => by
    obtain ⟨ds, S, h1, h2, h3, h4⟩ := h
    refine ⟨_, hb cdv A outer s H E hr ⟨takes_of rfl rfl rfl rfl, passes_of rfl, rfl⟩, ⟨H, S⟩, S, ds.map Cell.v ++ List.replicate (N.length - ds.length) Cell.e, Rel.start (N := N) h2 h3, ?_⟩
    unfold semF at h4
    cases e : g (ds.map Cell.v ++ List.replicate (N.length - ds.length) .e) with
    | nx ρ => rw [e] at h4; exact fun S' σ' H' s1 R' => h4 .non S' H' R'.bok.gr (.inl .non)
    | ret d => rw [e] at h4; exact fun S' H' v bk r => h4 v S' H' bk.gr r
    | exc x fs ρ => rw [e] at h4; exact fun S' σ' H' C dx s1 R' m xd => h4 S' H' C dx R'.bok.gr m xd
    | bk ρ => rw [e] at h4; exact h4.elim
    | ct ρ => rw [e] at h4; exact h4.elim
    | bad => rw [e] at h4; exact h4.elim
/-- a promise of less -/
theorem FnOk.less {k f} {fd : FuncData} {ps : List Str} {n : Nat} {g g' : List D → Res D} (F : FnOk P w K mg base (L2.CX P w) k f fd ps (spF K mg n g)) (h : ∀ ds, g' ds = g ds ∨ g' ds = .bad) : FnOk P w K mg base (L2.CX P w) k f fd ps (spF K mg n g') :=
  F.imp fun vs H Q E ⟨ds, S, h1, h2, h3, h4⟩ => ⟨ds, S, h1, h2, h3, by
    rcases h ds with q | q
    · rw [← q]; exact h4
    · rw [q] at h4; exact h4.elim⟩
end
/-- what a call of a def asks of its place -/
abbrev Cw (X : Cx) (W : WX) : Prop := ∀ σ, PassesAt (L2.CX X.prog X.w) X σ (WE W σ)
theorem Cs.cw {X : Cx} {W : WX} (c : Cs X W) : Cw X W := fun σ => passAt c.tk σ
theorem cw0 {X : Cx} : Cw X W0 := fun σ pins H s e s' I h => by
  obtain ⟨_, _, _, _, _, _, _, _, _, _, _, _, z⟩ := h
  exact z.elim
/-- an argument list has its length -/
theorem len_nil {ρ : Sl} {ds : List D} (h : aNil ρ = .ok ds) : ds.length = 0 := by cases h; rfl
theorem len_cons {f : Sl → Res D} {fs : Sl → Res (List D)} {n : Nat} (ih : ∀ ρ ds, fs ρ = .ok ds → ds.length = n) : ∀ ρ ds, aCons f fs ρ = .ok ds → ds.length = n + 1 := fun ρ ds h => by
  unfold aCons at h
  cases e1 : f ρ with
  | ok d =>
    rw [e1] at h
    cases e2 : fs ρ with
    | ok r =>
      rw [Res.bind_ok, e2] at h
      cases h
      simp [ih ρ r e2]
    | exc y ys => rw [Res.bind_ok, e2] at h; cases h
    | bad => rw [Res.bind_ok, e2] at h; cases h
  | exc y ys => rw [e1] at h; cases h
  | bad => rw [e1] at h; cases h

/-! ### built-ins by their names -/
def aR1 (f : Sl → Res D) (ρ : Sl) : Res D := f ρ
section
variable {X : Cx} {hx : Hx} {W : WX} {x : Str} {p pos : Pos} {a b c : Expr} {id T : String} {r : List V → Hp → VK → Prop} {fa fb fc : Sl → Res D}
/-- a built-in of one operand that it only reads -/
theorem call1_imp {t : TE} {g : D → Res D} (hr : U1 X.K X.mg (fun v => r [v]) g) (h : PE X c (tCB r (tCons t tNil))) (hi : t = tG X.K X.mg hx (rrR X.K X.mg) W fa) : ME X hx W c (sUn g fa) := pe_imp h fun σ H Q ⟨b, S, ρ, R, q⟩ => by
  subst hi
  exact ⟨b, S, ρ, R, q.bind fun d v S1 H1 g1 r1 k => hr S1 σ H1 v d W Q g1.i r1 (k.upE g1)⟩
theorem me_b1 {g : D → Res D} (hc : CallR X (.builtin id) r) (hr : U1 X.K X.mg (fun v => r [v]) g) (hm : X.mg x = none) (hv : bootBuiltins x = some (.builtin id)) (ha : MR X hx W a fa) (hg : Gl X x := by rfl) (hn : x ≠ "__name__" := by decide) (hdb : (x == ("__debug__" : Str)) = false := by decide)
    (hs : starEach [a] X.env = (false, eval a X.env) :: starEach [] X.env := by rfl) (hpl : (backTo pos (starEach [] X.env)).any (·.1) = false := by rfl) : ME X hx W (.Call (.Name x p) [a] [] pos) (sUn g fa) :=
  call1_imp hr (pe_callB hc hg hm hv (pa_cons ha pa_nil hs) hn hdb hs hpl) rfl
theorem me_t1 {g : D → Res D} (hc : CallR X (.type T) r) (hr : U1 X.K X.mg (fun v => r [v]) g) (hm : X.mg x = none) (hv : bootBuiltins x = some (.type T)) (ha : MR X hx W a fa) (hg : Gl X x := by rfl) (hn : x ≠ "__name__" := by decide) (hdb : (x == ("__debug__" : Str)) = false := by decide)
    (hs : starEach [a] X.env = (false, eval a X.env) :: starEach [] X.env := by rfl) (hpl : (backTo pos (starEach [] X.env)).any (·.1) = false := by rfl) : ME X hx W (.Call (.Name x p) [a] [] pos) (sUn g fa) :=
  call1_imp hr (pe_callTy hc hg hm hv (pa_cons ha pa_nil hs) hn hdb hs hpl) rfl
theorem call1F_imp {t : TE} {g : D → Res (List D)} (hr : U1F X.K X.mg (fun v => r [v]) g) (h : PE X c (tCB r (tCons t tNil))) (hi : t = tG X.K X.mg hx (rrR X.K X.mg) W fa) : MF X hx W c (fUn g fa) := pe_imp h fun σ H Q ⟨b, S, ρ, R, q⟩ => by
  subst hi
  exact ⟨b, S, ρ, R, q.bind fun d v S1 H1 g1 r1 k => hr S1 σ H1 v d W Q g1.i r1 (k.upF g1)⟩
theorem mf_b1 {g : D → Res (List D)} (hc : CallR X (.builtin id) r) (hr : U1F X.K X.mg (fun v => r [v]) g) (hm : X.mg x = none) (hv : bootBuiltins x = some (.builtin id)) (ha : MR X hx W a fa) (hg : Gl X x := by rfl) (hn : x ≠ "__name__" := by decide) (hdb : (x == ("__debug__" : Str)) = false := by decide)
    (hs : starEach [a] X.env = (false, eval a X.env) :: starEach [] X.env := by rfl) (hpl : (backTo pos (starEach [] X.env)).any (·.1) = false := by rfl) : MF X hx W (.Call (.Name x p) [a] [] pos) (fUn g fa) :=
  call1F_imp hr (pe_callB hc hg hm hv (pa_cons ha pa_nil hs) hn hdb hs hpl) rfl
theorem mf_t1 {g : D → Res (List D)} (hc : CallR X (.type T) r) (hr : U1F X.K X.mg (fun v => r [v]) g) (hm : X.mg x = none) (hv : bootBuiltins x = some (.type T)) (ha : MR X hx W a fa) (hg : Gl X x := by rfl) (hn : x ≠ "__name__" := by decide) (hdb : (x == ("__debug__" : Str)) = false := by decide)
    (hs : starEach [a] X.env = (false, eval a X.env) :: starEach [] X.env := by rfl) (hpl : (backTo pos (starEach [] X.env)).any (·.1) = false := by rfl) : MF X hx W (.Call (.Name x p) [a] [] pos) (fUn g fa) :=
  call1F_imp hr (pe_callTy hc hg hm hv (pa_cons ha pa_nil hs) hn hdb hs hpl) rfl
theorem call2_imp {t u : TE} {g : D → D → Res D} (hr : O2 X.K X.mg (fun v w => r [v, w]) g) (h : PE X c (tCB r (tCons t (tCons u tNil)))) (hi : t = tG X.K X.mg hx (rrR X.K X.mg) W fa) (hj : u = tG X.K X.mg hx (rrR X.K X.mg) W fb) : ME X hx W c (sOp g fa fb) := pe_imp h fun σ H Q ⟨b, S, ρ, R, q⟩ => by
  subst hi hj
  exact ⟨b, S, ρ, R, q.bind fun d v S1 H1 g1 r1 k => ⟨b, S1, ρ, R.grow g1, (k.upE g1).bind fun d2 v2 S2 H2 g2 r2 k2 => hr S2 σ H2 v v2 d d2 W Q g2.i (r1.up g2) r2 (k2.upE g2)⟩⟩
theorem me_b2 {g : D → D → Res D} (hc : CallR X (.builtin id) r) (hr : O2 X.K X.mg (fun v w => r [v, w]) g) (hm : X.mg x = none) (hv : bootBuiltins x = some (.builtin id)) (ha : MR X hx W a fa) (hb : MR X hx W b fb) (hg : Gl X x := by rfl) (hn : x ≠ "__name__" := by decide) (hdb : (x == ("__debug__" : Str)) = false := by decide)
    (hs : starEach [a, b] X.env = (false, eval a X.env) :: starEach [b] X.env := by rfl) (hs2 : starEach [b] X.env = (false, eval b X.env) :: starEach [] X.env := by rfl) (hpl : (backTo pos (starEach [b] X.env)).any (·.1) = false := by rfl) : ME X hx W (.Call (.Name x p) [a, b] [] pos) (sOp g fa fb) :=
  call2_imp hr (pe_callB hc hg hm hv (pa_cons ha (pa_cons hb pa_nil hs2) hs) hn hdb hs hpl) rfl rfl
/-- a built-in function that a module brings (gcd) -/
theorem me_bf2 {g : D → D → Res D} (hc : CallR X (.builtin id) r) (hr : O2 X.K X.mg (fun v w => r [v, w]) g) (hm : X.mg x = some (.builtin id)) (ha : MR X hx W a fa) (hb : MR X hx W b fb) (hg : Gl X x := by rfl) (hdb : (x == ("__debug__" : Str)) = false := by decide)
    (hs : starEach [a, b] X.env = (false, eval a X.env) :: starEach [b] X.env := by rfl) (hs2 : starEach [b] X.env = (false, eval b X.env) :: starEach [] X.env := by rfl) (hpl : (backTo pos (starEach [b] X.env)).any (·.1) = false := by rfl) : ME X hx W (.Call (.Name x p) [a, b] [] pos) (sOp g fa fb) :=
  call2_imp hr (pe_callBfun hc hg hm (pa_cons ha (pa_cons hb pa_nil hs2) hs) hdb hs hpl) rfl rfl
end

/-! ### raise, try -/
/-- an exception class of the program, without an own __init__ -/
structure ExcT (K : Frg) (mg : Mg) (x : Str) (C : Addr) : Prop where
  g : mg x = some (.ref C)
  xk : PySem.W.excIn K C [.type "ValueError", .type "Exception", .type "BaseException", .type "object"] "ValueError.__new__" = true
  kp : PySem.W.keepIn K (.ref C) = true
  sb : PySem.W.subIn K (.ref C) (.type "BaseException") = some true
  ty : PySem.W.typeIn K (.ref C) = some (.type "type")
@[simp] def gRaise (x : Str) (ρ : Sl) : Out := .exc x [] ρ
theorem ms_raise {X : Cx} {hx : Hx} {W : WX} {x m : Str} {C : Addr} {j : Nat} {p p2 pos pos' : Pos} (c : Cs X W) (T : ExcT X.K X.mg x C) (hg : Gl X x := by rfl) (hdb : (x == ("__debug__" : Str)) = false := by decide) :
    MS X hx W (.Raise (some (.Call (.Name x p) [.Constant (.str m) j p2] [] pos')) none pos) (gRaise x) :=
  ps_imp (ps_raise c.hc c.tk (pmk_own PySem.F.excBase_ValueError T.xk T.g T.kp (raises_own T.sb T.ty) hg hdb)) fun D σ H ⟨b, S, ρ, R, q⟩ => q S σ H C none (Same.refl _) R T.g rfl

/-- try: body / except c as n: suite. tab: which exceptions the clause takes; slot i is n's -/
@[simp] def clrC (c : Cell) : Cell := match c with
  | .xc _ _ => .e
  | c => c
@[simp] def gTry (i : Nat) (tab : Str → Option Bool) (body : Sl → Out) (suite : Sl → Out) (ρ : Sl) : Out := match body ρ with
  | .exc x fs ρ1 => match tab x with
    | some true => if i < ρ1.length then (match suite (ρ1.set i (.xc x fs)) with
      | .nx ρ2 => .nx ((ρ2.set i .e).map clrC)
      | .bk ρ2 => .bk ((ρ2.set i .e).map clrC)
      | .ct ρ2 => .ct ((ρ2.set i .e).map clrC)
      | .ret d => .ret d
      | _ => .bad) else .bad
    | some false => .exc x fs ρ1
    | none => .bad
  | o => o
/-- the clause's class takes what the table says -/
def Tab (K : Frg) (mg : Mg) (tab : Str → Option Bool) (c : Value) : Prop := ∀ x C b, mg x = some (.ref C) → tab x = some b → PySem.W.exmOne K (.ref C) c = some b
def hxOf (a : Addr) (cls : Value) (d : Option Addr) : Hx := match cls with
  | .ref C => some (a, C, d)
  | _ => none
theorem Rel.exc {K : Frg} {mg : Mg} {b : Bs} {S H : Hp} {ρ : Sl} {σ : L2.St} {i : Nat} {a C : Addr} {dx : Option Addr} {c : Str} {fs : List (Str × D)} (R : Rel K mg none b S ρ σ H) (hi : i < ρ.length) (hm : mg c = some (.ref C)) (x : Xd K mg S H dx fs) : Rel K mg (some (a, C, dx)) b S (ρ.set i (.xc c fs)) (σ.set i (some (.ref a))) H where
  s0 := R.s0
  sh := R.sh
  h0 := R.h0
  nw := R.nw
  len := by simp [R.len]
  val := fun j d' e => by
    rcases getset e with ⟨_, h2, _⟩ | ⟨h1, h2⟩
    · cases h2
    · obtain ⟨v', h3, h4⟩ := R.val j d' h2
      exact ⟨v', by rw [List.getElem?_set_ne h1]; exact h3, h4⟩
  own := fun j ds e => by
    rcases getset e with ⟨_, h2, _⟩ | ⟨h1, h2⟩
    · cases h2
    · obtain ⟨p, vs, h3, h4⟩ := R.own j ds h2
      exact ⟨p, vs, by rw [List.getElem?_set_ne h1]; exact h3, h4⟩
  xc := fun j c' fs' e => by
    rcases getset e with ⟨h1, h2, h3⟩ | ⟨h1, h2⟩
    · cases h2
      subst h1
      exact ⟨a, C, dx, rfl, by rw [List.getElem?_set_self (by rw [← R.len]; exact hi)], hm, x⟩
    · obtain ⟨_, _, _, q1, _⟩ := R.xc j c' fs' h2
      cases q1
  apart := fun j k ds es p ne e1 e2 e3 e4 => by
    rcases getset e1 with ⟨_, h2, _⟩ | ⟨h1, h2⟩
    · cases h2
    · rcases getset e2 with ⟨_, h4, _⟩ | ⟨h3, h4⟩
      · cases h4
      · rw [List.getElem?_set_ne h1] at e3
        rw [List.getElem?_set_ne h3] at e4
        exact R.apart j k ds es p ne h2 h4 e3 e4
theorem clr_get {ρ : Sl} {i : Nat} {c : Cell} (h : (ρ.map clrC)[i]? = some c) : ∃ c0, ρ[i]? = some c0 ∧ clrC c0 = c := by
  rw [List.getElem?_map] at h
  cases e : ρ[i]? with
  | none => rw [e] at h; cases h
  | some c0 => rw [e] at h; exact ⟨c0, rfl, Option.some.inj h⟩
theorem Rel.clear {K : Frg} {mg : Mg} {hx : Hx} {b : Bs} {S H : Hp} {ρ : Sl} {σ : L2.St} (R : Rel K mg hx b S ρ σ H) : Rel K mg none b S (ρ.map clrC) σ H where
  s0 := R.s0
  sh := R.sh
  h0 := R.h0
  nw := R.nw
  len := by simp [R.len]
  val := fun i d e => by
    obtain ⟨c0, h1, h2⟩ := clr_get e
    cases c0 <;> cases h2
    exact R.val i _ h1
  own := fun i d e => by
    obtain ⟨c0, h1, h2⟩ := clr_get e
    cases c0 <;> cases h2
    exact R.own i _ h1
  xc := fun i c fs e => by
    obtain ⟨c0, h1, h2⟩ := clr_get e
    cases c0 <;> cases h2
  apart := fun i j ds es p ne e1 e2 => by
    obtain ⟨c0, h1, h2⟩ := clr_get e1
    obtain ⟨c1, h3, h4⟩ := clr_get e2
    cases c0 <;> cases h2
    cases c1 <;> cases h4
    exact R.apart i j _ _ p ne h1 h3
theorem ms_try {X : Cx} {W : WX} (i : Nat) {x n : Str} {c : Value} {body suite : List Stmt} {b₀ : Stmt} {np pos pos' : Pos} {gb gs : Sl → Out} {tab : Str → Option Bool} (cs : Cs X W) (hs : X.stack = X.env :: X.outer) (hf : X.env.frame = some X.env.locals) (hN : X.N.Nodup)
    (hc : Names X x c) (ht : Tab X.K X.mg tab c)
    (hb : ∀ (W' : WX) (pn : List (Addr × Obj)) (xe : Value → Shared → Prop), Cs (X.tr pn xe) W' → MSs (X.tr pn xe) none W' body gb)
    (hsu : ∀ (a : Addr) (oe : Obj) (C : Addr) (d : Option Addr) (pn : List (Addr × Obj)), Zc (.ref C) d oe → (∃ vs, oe.data = .fields vs) → MSs (X.suite a ((a, oe) :: pn)) (some (a, C, d)) W0 (b₀ :: suite) gs)
    (hi : X.N[i]? = some n := by rfl) (hln : X.env.kindOf n = some .local := by rfl) :
    MS X none W (.Try body [.ExceptHandler (some (.Name x np)) (some n) (b₀ :: suite) pos'] [] [] pos) (gTry i tab gb gs) :=
  ps_imp (ps_try_as (tb := fun W' => tS X.K X.mg none W' gb) (ts := fun a cls d D σ H => ∃ C, cls = .ref C ∧ tS X.K X.mg (some (a, C, d)) W0 gs D σ H) (Wout := W) hs hf hN hi hln hc cs.tk (fun W' pn xe tk po => hb W' pn xe ⟨tk, po, cs.hc⟩) (fun a oe cls d pn z hv => ⟨fun pins s σ H D I ⟨C, e, q⟩ => by
      subst e
      exact (hsu a oe C d pn z hv).run pins s σ H D I q⟩)) fun D σ H ⟨b, S, ρ, R, q⟩ => by
    refine ⟨b, S, ρ, R, ?_⟩
    unfold gTry at q
    cases e : gb ρ with
    | nx ρ' => rw [e] at q; exact q
    | ret d => rw [e] at q; exact q
    | bk ρ' => rw [e] at q; exact q
    | ct ρ' => rw [e] at q; exact q
    | bad => rw [e] at q; exact q
    | exc y fs ρ1 =>
      rw [e] at q
      intro S1 σ1 H1 C dx s1 R1 hm hxd
      simp only at q
      cases et : tab y with
      | none => rw [et] at q; exact q.elim
      | some tb =>
        rw [et] at q
        refine ⟨tb, ht y C tb hm et, fun e2 a _ => ?_, fun e2 => ?_⟩
        · subst e2
          simp only at q
          split at q
          · rename_i hil
            refine ⟨C, rfl, b, S1, _, Rel.exc R1 hil hm hxd, ?_⟩
            cases es : gs (ρ1.set i (.xc y fs)) with
            | nx ρ2 => rw [es] at q; exact fun S2 σ2 H2 s2 R2 => q S2 _ H2 (s1.trans s2) (R2.wipe1.clear)
            | bk ρ2 => rw [es] at q; exact fun S2 σ2 H2 s2 R2 => q S2 _ H2 (s1.trans s2) (R2.wipe1.clear)
            | ct ρ2 => rw [es] at q; exact fun S2 σ2 H2 s2 R2 => q S2 _ H2 (s1.trans s2) (R2.wipe1.clear)
            | ret d => rw [es] at q; exact q
            | exc y2 fs2 ρ2 => rw [es] at q; exact q.elim
            | bad => rw [es] at q; exact q.elim
          · exact q.elim
        · subst e2
          exact q S1 σ1 H1 C dx s1 R1 hm hxd

/-! ### isinstance of the exception that a suite holds -/
@[simp] def sIsE (i : Nat) (tab : Str → Option Bool) (ρ : Sl) : Res D := match ρ[i]? with
  | some (.xc x []) => match tab x with
    | some b => .ok (.bl b)
    | none => .bad
  | _ => .bad
/-- isinstance(e, c) by the table: every class that may be held is fit to be asked -/
def TabI (K : Frg) (mg : Mg) (tab : Str → Option Bool) (cv : Value) : Prop := ∀ x C b, mg x = some (.ref C) → tab x = some b → ExcC K C ∧ PySem.W.kitOne K (.ref C) cv = some b
def TabT (K : Frg) (mg : Mg) (tab : Str → Option Bool) (cvs : List Value) : Prop := ∀ x C b, mg x = some (.ref C) → tab x = some b → ExcC K C ∧ PySem.W.kitAny K (.ref C) cvs = some b
section
variable {X : Cx} {a D0 : Addr} {oe : Obj} {pn : List (Addr × Obj)} {d : Option Addr} {W : WX} {ce : Expr} {n : Str} {p p1 pos : Pos} {cv : V} {cu : Value}
theorem xd_none {K : Frg} {mg : Mg} {S H : Hp} {dx : Option Addr} (h : Xd K mg S H dx []) : dx = none := by
  cases dx with
  | none => rfl
  | some a =>
    obtain ⟨ns, xs, ds, h1, ⟨h2, h3⟩, h4, h5⟩ := h
    have hl := h5.len
    cases ns with
    | nil => exact absurd rfl h2
    | cons n ns =>
      cases ds with
      | nil => rw [List.length_nil] at hl; rw [hl] at h3; cases h3
      | cons d ds => cases h1
theorem me_isE (i : Nat) {tab : Str → Option Bool} (hz : Zc (.ref D0) d oe) (hf : ∃ vs, oe.data = .fields vs) (ht : TabI X.K X.mg tab cu) (hv : PE (X.suite a ((a, oe) :: pn)) (.Name n p1) (tVar i)) (hc : PE (X.suite a ((a, oe) :: pn)) ce (tC cv)) (k : ClsV cv cu)
    (hm : X.mg "isinstance" = none) (hg : Gl X "isinstance" := by rfl) (hs : starEach [.Name n p1, ce] X.env = (false, eval (.Name n p1) X.env) :: starEach [ce] X.env := by rfl) (hs2 : starEach [ce] X.env = (false, eval ce X.env) :: starEach [] X.env := by rfl) (hpl : (backTo pos (starEach [ce] X.env)).any (·.1) = false := by rfl) :
    ME (X.suite a ((a, oe) :: pn)) (some (a, D0, d)) W (.Call (.Name "isinstance" p) [.Name n p1, ce] [] pos) (sIsE i tab) := ⟨fun pins s σ H Q I ⟨b, S, ρ, R, q⟩ => by
  unfold sIsE at q
  split at q
  · rename_i x e
    obtain ⟨a1, C1, d1, h1, h2, h3, h4⟩ := R.xc i x [] e
    cases h1
    split at q
    · rename_i tb et
      obtain ⟨t1, t2⟩ := ht x D0 tb h3 et
      have hd := xd_none h4
      subst hd
      exact (pe_callB (x := "isinstance") (call_isE (X := X) (a := a) (pn := pn) t1 hz hf) hg hm PyProof.Rows.boot_isinstance (pa_cons hv (pa_cons hc pa_nil hs2) hs) (by decide) (by decide) hs hpl).run pins s σ H Q I ⟨_, h2, cv, cu, tb, rfl, fun u r => k.eq r, t2, q _ S H (Gr.refl R.sh) (.bl tb)⟩
    · exact q.elim
  · exact q.elim⟩
end
end PF

set_option Elab.async false
set_option linter.all false
set_option maxRecDepth 100000
set_option maxHeartbeats 4000000
namespace PF
open PySem PySem.Spec L2

section
variable {K : Frg} {mg : Mg} {S H : Hp}
theorem Rd1.dp {v : V} {d : D} (i : Same S H) (c : d.py.canLay0 = true) (h : Rd1 K mg S H v d) : Dp K H v d.py := by
  cases d with
  | lst ds =>
    obtain ⟨p, vs, rfl, h2, h3⟩ := h
    exact .lst (SqL.of h2) (RpA.dp ds _ (by simpa [D.py, PyData.canLay0] using c) (h3.up i ds vs))
  | _ => exact Rp.dp _ _ c (Rp.up i _ v h)
theorem Rd1.int {v : V} {i : Int} (h : Rd1 K mg S H v (.int i)) : v = .int i := by
  have h' : Rp K mg S v (.int i) := h
  cases h'; rfl
theorem Rd1.bl {v : V} {i : Bool} (h : Rd1 K mg S H v (.bl i)) : v = .bl i := by
  have h' : Rp K mg S v (.bl i) := h
  cases h'; rfl
theorem Rd1.str {v : V} {i : Str} (h : Rd1 K mg S H v (.str i)) : v = .str i := by
  have h' : Rp K mg S v (.str i) := h
  cases h'; rfl
theorem Rd1.lst {v : V} {ds : List D} (h : Rd1 K mg S H v (.lst ds)) : ∃ (p : Addr) (vs : List V), v = .ref p ∧ H p = some (.lst vs) ∧ RpA K mg S vs ds := h
theorem Rd1.rol {v : V} {ds : List D} (i : Same S H) (h : Rd1 K mg S H v (.rol ds)) : ∃ (p : Addr) (vs : List V), v = .ref p ∧ SqL K H p vs ∧ RpA K mg S vs ds := by
  have h' : Rp K mg S v (.rol ds) := h
  cases h' with
  | rol a b => exact ⟨_, _, rfl, same_l i a, b⟩
theorem Rd1.tup {v : V} {ds : List D} (i : Same S H) (h : Rd1 K mg S H v (.tup ds)) : ∃ (p : Addr) (vs : List V), v = .ref p ∧ SqT K H p vs ∧ SqT K S p vs ∧ RpA K mg S vs ds := by
  have h' : Rp K mg S v (.tup ds) := h
  cases h' with
  | tup a b => exact ⟨_, _, rfl, same_t i a, a, b⟩
theorem Rd1.non {v : V} (h : Rd1 K mg S H v .non) : v = .non := by
  have h' : Rp K mg S v .non := h
  cases h'; rfl
end
theorem po_new {K : Frg} {mg : Mg} {W : WX} {S H : Hp} {σ : L2.St} {ds : List D} {vs : List V} {Q : VK} (i : Same S H) (r : RpA K mg S vs ds) (q : Po K mg (rrE K mg) W S σ H (.ok (.tup ds)) Q) : ∀ p, H p = none → Q (.ref p) (upd H p (.tup vs)) := fun p hp =>
  q _ _ _ (Gr.new i hp) (.tup (SqT.of upd_same) (r.up (same_new (same_none i hp)) _ _))
theorem po_newL {K : Frg} {mg : Mg} {W : WX} {S H : Hp} {σ : L2.St} {ds : List D} {vs : List V} {Q : VK} (i : Same S H) (r : RpA K mg S vs ds) (q : Po K mg (rrF K mg) W S σ H (.ok ds) Q) : ∀ p, H p = none → Q (.ref p) (upd H p (.lst vs)) := fun p hp =>
  q _ S _ (Gr.lay i hp) ⟨p, vs, rfl, hp, same_none i hp, upd_same, r⟩

/-! ### operators -/
@[simp] def oAdd (d e : D) : Res D := match d, e with
  | .int i, .int j => .ok (.int (i + j))
  | .str x, .str y => if x.length + y.length ≤ 16777216 then .ok (.str (x ++ y)) else .bad
  | .tup a, .tup b => if a.length + b.length ≤ 16777216 then .ok (.tup (a ++ b)) else .bad
  | .lst a, .lst b => if a.length + b.length ≤ 16777216 then .ok (.lst (a ++ b)) else .bad
  | _, _ => .bad
@[simp] def oAddI (d e : D) : Res D := match d, e with
  | .int i, .int j => .ok (.int (i + j))
  | _, _ => .bad
@[simp] def oSub (d e : D) : Res D := match d, e with
  | .int i, .int j => .ok (.int (i - j))
  | _, _ => .bad
noncomputable def mulOk (i j : Int) : Bool := cb ((Builtin.Int.intBits i : Int) + Builtin.Int.intBits j ≤ 134217728 ∨ i.natAbs < 18446744073709551616 ∨ j.natAbs < 18446744073709551616)
@[simp] noncomputable def oMul (d e : D) : Res D := match d, e with
  | .int i, .int j => if mulOk i j then .ok (.int (i * j)) else .bad
  | _, _ => .bad
noncomputable def divOk (j : Int) : Bool := cb (j ≠ 0 ∧ j.natAbs.log2 < 9000)
@[simp] noncomputable def oFdiv (d e : D) : Res D := match d, e with
  | .int i, .int j => if divOk j then .ok (.int (i.fdiv j)) else .bad
  | _, _ => .bad
@[simp] def oMod (d e : D) : Res D := match d, e with
  | .int i, .int j => if j ≠ 0 then .ok (.int (i.fmod j)) else .bad
  | _, _ => .bad
@[simp] noncomputable def oPow (d e : D) : Res D := match d, e with
  | .int i, .int j => if cb (0 ≤ j ∧ j ≤ 1000000 ∧ i.natAbs < 2 ^ 64) then .ok (.int (i ^ j.toNat)) else .bad
  | _, _ => .bad
@[simp] def oNeg (d : D) : Res D := match d with
  | .int i => .ok (.int (-i))
  | _ => .bad
def eqOk (d : D) : Bool := SeqAt.shaped d.py
def eqv (d e : D) : Bool := PyData.eqv d.py e.py
@[simp] def oEq (d e : D) : Res D := if eqOk d && eqOk e then .ok (.bl (eqv d e)) else .bad
@[simp] def oNe (d e : D) : Res D := if eqOk d && eqOk e then .ok (.bl (!eqv d e)) else .bad
@[simp] noncomputable def oLt (d e : D) : Res D := match d, e with
  | .int i, .int j => .ok (.bl (cb (i < j)))
  | _, _ => .bad
@[simp] noncomputable def oLe (d e : D) : Res D := match d, e with
  | .int i, .int j => .ok (.bl (cb (i ≤ j)))
  | _, _ => .bad
@[simp] noncomputable def oGt (d e : D) : Res D := match d, e with
  | .int i, .int j => .ok (.bl (cb (j < i)))
  | _, _ => .bad
@[simp] noncomputable def oGe (d e : D) : Res D := match d, e with
  | .int i, .int j => .ok (.bl (cb (j ≤ i)))
  | _, _ => .bad
@[simp] def isNon (d : D) : Bool := match d with
  | .non => true
  | _ => false
@[simp] def oIsN (d e : D) : Res D := match e with
  | .non => .ok (.bl (isNon d))
  | _ => .bad
@[simp] def oNotN (d e : D) : Res D := match e with
  | .non => .ok (.bl (!isNon d))
  | _ => .bad
@[simp] noncomputable def fRep (d e : D) : Res (List D) := match d, e with
  | .lst xs, .int k => if cb (-(2 ^ 63) ≤ k ∧ k < 2 ^ 63 ∧ xs.length * k.toNat ≤ 16777216) then .ok (List.replicate k.toNat xs).flatten else .bad
  | _, _ => .bad
@[simp] def fCat (d e : D) : Res (List D) := match d, e with
  | .lst xs, .lst ys => if xs.length + ys.length ≤ 16777216 then .ok (xs ++ ys) else .bad
  | _, _ => .bad
section
variable {X : Cx}
theorem CMulX_of_small {i j : Int} (h : mulOk i j = true) : IntMulOk i j := by
  rcases of_cb h with h | h | h
  · exact CMulX.ok h
  · exact CMul.ok (.inl ⟨by omega, by omega⟩)
  · exact CMul.ok (.inr ⟨by omega, by omega⟩)
theorem op_mulU : OpR X (binaryOp .Mult) (rI (fun i j => mulOk i j = true) fun i j => .int (i * j)) := opI fun _ _ _ _ _ _ _ hc q => PyProof.Rows.mul_int q (CMulX_of_small hc)
theorem op_fdivU : OpR X (binaryOp .FloorDiv) (rI (fun _ j => divOk j = true) fun i j => .int (i.fdiv j)) := opI fun i j _ _ _ _ _ hc q => by
  obtain ⟨h1, h2⟩ := of_cb hc
  exact PyProof.Rows.floordiv_int h1 q (.inl (PyProof.noPylong_of_log2 h2))
abbrev rAddU (K : Frg) : R2 := fun x y H Q => rI0 (fun i j => .int (i + j)) x y H Q ∨ ((fun x y H Q => ∃ i j, x = V.str i ∧ y = V.str j ∧ i.length + j.length ≤ sizeLine ∧ Q (V.str (i ++ j)) H : R2) x y H Q ∨ (rCatA K x y H Q ∨ rCat x y H Q))
theorem op_addU : OpR X (binaryOp .Add) (rAddU X.K) := op_add.or (op_add_str.or (op_catA.or op_cat))
end
section
variable {K : Frg} {mg : Mg}
theorem o_add : O2 K mg (rAddU K) oAdd := fun S σ H x y d e W Q i hx hy q => by
  unfold oAdd at q
  split at q
  · exact .inl ⟨_, _, hx.int, hy.int, q _ _ _ (Gr.refl i) (.int _)⟩
  · split at q
    · rename_i hl
      exact .inr (.inl ⟨_, _, hx.str, hy.str, sizeLine16 hl, q _ _ _ (Gr.refl i) (.str _)⟩)
    · exact q.elim
  · rename_i a b
    split at q
    · rename_i hl
      obtain ⟨p1, v1, rfl, h1, k1, r1⟩ := hx.tup i
      obtain ⟨p2, v2, rfl, h2, k2, r2⟩ := hy.tup i
      refine .inr (.inr (.inl ⟨p1, p2, v1, v2, rfl, rfl, h1, h2, sizeLine16 (by rw [r1.len, r2.len]; exact hl), fun e => ?_, fun _ e => ?_, fun _ _ => po_new i (r1.app r2) q⟩))
      · subst e
        cases r1
        exact q _ S H (Gr.refl i) (.tup k2 r2)
      · subst e
        cases r2
        rw [List.append_nil] at q
        exact q _ S H (Gr.refl i) (.tup k1 r1)
    · exact q.elim
  · split at q
    · rename_i hl
      obtain ⟨p1, v1, rfl, h1, r1⟩ := hx.lst
      obtain ⟨p2, v2, rfl, h2, r2⟩ := hy.lst
      exact .inr (.inr (.inr ⟨p1, p2, v1, v2, rfl, rfl, h1, h2, sizeLine16 (by rw [r1.len, r2.len]; exact hl), fun p hp => q _ _ _ (Gr.new i hp) (.lst upd_same ((r1.app r2).up (same_new (same_none i hp)) _ _))⟩))
    · exact q.elim
  · exact q.elim
theorem o_sub : O2 K mg (rI0 fun i j => .int (i - j)) oSub := fun S σ H x y d e W Q i hx hy q => by
  unfold oSub at q
  split at q
  · exact ⟨_, _, hx.int, hy.int, q _ _ _ (Gr.refl i) (.int _)⟩
  · exact q.elim
theorem o_addI : O2 K mg (rI0 fun i j => .int (i + j)) oAddI := fun S σ H x y d e W Q i hx hy q => by
  unfold oAddI at q
  split at q
  · exact ⟨_, _, hx.int, hy.int, q _ _ _ (Gr.refl i) (.int _)⟩
  · exact q.elim
theorem o_mul : O2 K mg (rI (fun i j => mulOk i j = true) fun i j => .int (i * j)) oMul := fun S σ H x y d e W Q i hx hy q => by
  unfold oMul at q
  split at q
  · split at q
    · rename_i hc
      exact ⟨_, _, hx.int, hy.int, hc, q _ _ _ (Gr.refl i) (.int _)⟩
    · exact q.elim
  · exact q.elim
theorem o_fdiv : O2 K mg (rI (fun _ j => divOk j = true) fun i j => .int (i.fdiv j)) oFdiv := fun S σ H x y d e W Q i hx hy q => by
  unfold oFdiv at q
  split at q
  · split at q
    · rename_i hc
      exact ⟨_, _, hx.int, hy.int, hc, q _ _ _ (Gr.refl i) (.int _)⟩
    · exact q.elim
  · exact q.elim
theorem o_mod : O2 K mg (rI (fun _ j => j ≠ 0) fun i j => .int (i.fmod j)) oMod := fun S σ H x y d e W Q i hx hy q => by
  unfold oMod at q
  split at q
  · split at q
    · rename_i hc
      exact ⟨_, _, hx.int, hy.int, hc, q _ _ _ (Gr.refl i) (.int _)⟩
    · exact q.elim
  · exact q.elim
theorem o_pow : O2 K mg (rI CPow fun i j => .int (i ^ j.toNat)) oPow := fun S σ H x y d e W Q i hx hy q => by
  unfold oPow at q
  split at q
  · split at q
    · rename_i hc
      exact ⟨_, _, hx.int, hy.int, of_cb hc, q _ _ _ (Gr.refl i) (.int _)⟩
    · exact q.elim
  · exact q.elim
theorem o_neg : U1 K mg (rU fun i => .int (-i)) oNeg := fun S σ H v d W Q i hx q => by
  unfold oNeg at q
  split at q
  · exact ⟨_, hx.int, q _ _ _ (Gr.refl i) (.int _)⟩
  · exact q.elim
theorem o_eq : O2 K mg (rEqD K) oEq := fun S σ H x y d e W Q i hx hy q => by
  unfold oEq at q
  split at q
  · rename_i hc
    obtain ⟨c1, c2⟩ := Bool.and_eq_true_iff.mp hc
    exact ⟨_, _, hx.dp i (SeqAt.canLay_of_shaped c1), hy.dp i (SeqAt.canLay_of_shaped c2), c1, c2, q _ _ _ (Gr.refl i) (.bl _)⟩
  · exact q.elim
theorem o_ne : O2 K mg (rNeD K) oNe := fun S σ H x y d e W Q i hx hy q => by
  unfold oNe at q
  split at q
  · rename_i hc
    obtain ⟨c1, c2⟩ := Bool.and_eq_true_iff.mp hc
    exact ⟨_, _, hx.dp i (SeqAt.canLay_of_shaped c1), hy.dp i (SeqAt.canLay_of_shaped c2), c1, c2, q _ _ _ (Gr.refl i) (.bl _)⟩
  · exact q.elim
theorem o_lt : O2 K mg (rI0 fun i j => .bl (decide (i < j))) oLt := fun S σ H x y d e W Q i hx hy q => by
  unfold oLt at q
  split at q
  · exact ⟨_, _, hx.int, hy.int, by dsimp only; rw [← cb_dec]; exact q _ _ _ (Gr.refl i) (.bl _)⟩
  · exact q.elim
theorem o_le : O2 K mg (rI0 fun i j => .bl (decide (i ≤ j))) oLe := fun S σ H x y d e W Q i hx hy q => by
  unfold oLe at q
  split at q
  · exact ⟨_, _, hx.int, hy.int, by dsimp only; rw [← cb_dec]; exact q _ _ _ (Gr.refl i) (.bl _)⟩
  · exact q.elim
theorem o_gt : O2 K mg (rI0 fun i j => .bl (decide (j < i))) oGt := fun S σ H x y d e W Q i hx hy q => by
  unfold oGt at q
  split at q
  · exact ⟨_, _, hx.int, hy.int, by dsimp only; rw [← cb_dec]; exact q _ _ _ (Gr.refl i) (.bl _)⟩
  · exact q.elim
theorem o_ge : O2 K mg (rI0 fun i j => .bl (decide (j ≤ i))) oGe := fun S σ H x y d e W Q i hx hy q => by
  unfold oGe at q
  split at q
  · exact ⟨_, _, hx.int, hy.int, by dsimp only; rw [← cb_dec]; exact q _ _ _ (Gr.refl i) (.bl _)⟩
  · exact q.elim
theorem isNon_v {S H : Hp} {v : V} {d : D} (h : Rd1 K mg S H v d) : decide (v = .non) = isNon d := by
  cases d with
  | lst ds => obtain ⟨p, vs, rfl, _⟩ := h; rfl
  | non => have h' : Rp K mg S v _ := h; cases h'; rfl
  | bl b => have h' : Rp K mg S v _ := h; cases h'; rfl
  | int i => have h' : Rp K mg S v _ := h; cases h'; rfl
  | str x => have h' : Rp K mg S v _ := h; cases h'; rfl
  | rol ds => have h' : Rp K mg S v _ := h; cases h'; rfl
  | tup ds => have h' : Rp K mg S v _ := h; cases h'; rfl
  | obj c ns ds => have h' : Rp K mg S v _ := h; cases h'; rfl
  | fr ds => have h' : Rp K mg S v _ := h; cases h'
theorem o_isN : O2 K mg (fun x y H Q => y = .non ∧ Q (.bl (decide (x = .non))) H) oIsN := fun S σ H x y d e W Q i hx hy q => by
  unfold oIsN at q
  split at q
  · exact ⟨hy.non, by rw [isNon_v hx]; exact q _ _ _ (Gr.refl i) (.bl _)⟩
  · exact q.elim
theorem o_notN : O2 K mg (fun x y H Q => y = .non ∧ Q (.bl (!decide (x = .non))) H) oNotN := fun S σ H x y d e W Q i hx hy q => by
  unfold oNotN at q
  split at q
  · exact ⟨hy.non, by rw [isNon_v hx]; exact q _ _ _ (Gr.refl i) (.bl _)⟩
  · exact q.elim
theorem RpA.rep {S : Hp} {vs : List V} {ds : List D} (r : RpA K mg S vs ds) : ∀ n, RpA K mg S (List.replicate n vs).flatten (List.replicate n ds).flatten
  | 0 => .nil
  | n + 1 => by
    rw [List.replicate_succ, List.replicate_succ, List.flatten_cons, List.flatten_cons]
    exact r.app (r.rep n)
theorem f_rep : O2F K mg rRep fRep := fun S σ H x y d e W Q i hx hy q => by
  unfold fRep at q
  split at q
  · split at q
    · rename_i hc0
      have hc := of_cb hc0
      obtain ⟨p, vs, rfl, h1, h2⟩ := hx.lst
      exact ⟨p, _, vs, rfl, hy.int, h1, hc.1, hc.2.1, sizeLine16 (by rw [h2.len]; exact hc.2.2), po_newL i (h2.rep _) q⟩
    · exact q.elim
  · exact q.elim
theorem f_cat : O2F K mg rCat fCat := fun S σ H x y d e W Q i hx hy q => by
  unfold fCat at q
  split at q
  · split at q
    · rename_i hc
      obtain ⟨p, vs, rfl, h1, h2⟩ := hx.lst
      obtain ⟨p', vs', rfl, h3, h4⟩ := hy.lst
      exact ⟨p, p', vs, vs', rfl, rfl, h1, h3, sizeLine16 (by rw [h2.len, h4.len]; exact hc), po_newL i (h2.app h4) q⟩
    · exact q.elim
  · exact q.elim
end
/-- t * k of a tuple (fewer than a thousand items of either) -/
def oRepT (d e : D) : Res D := match d, e with
  | .tup xs, .int k => if xs.isEmpty then .ok (.tup []) else .bad
  | _, _ => .bad

/-! ### places and parts -/
@[simp] def oIx (d e : D) : Res D := match d, e with
  | .lst xs, .int i => match atI xs i with
    | some v => .ok v
    | none => .bad
  | .rol xs, .int i => match atI xs i with
    | some v => .ok v
    | none => .bad
  | .tup xs, .int i => match atI xs i with
    | some v => .ok v
    | none => .bad
  | .str x, .int i => if x.length ≤ 16777216 then (match atI x.cps.toList i with
    | some c => .ok (.str ⟨#[c]⟩)
    | none => .bad) else .bad
  | _, _ => .bad
theorem atI_up {K : Frg} {mg : Mg} {S : Hp} {vs : List V} {ds : List D} {i : Int} {d : D} (r : RpA K mg S vs ds) (h : atI ds i = some d) : ∃ v, atI vs i = some v ∧ Rp K mg S v d := by
  unfold atI at h ⊢
  rw [r.len]
  cases e : ixN ds.length i with
  | none => rw [e] at h; cases h
  | some j =>
    rw [e] at h
    exact r.get h
theorem o_ix {K : Frg} {mg : Mg} : O2 K mg (rIx K) oIx := fun S σ H x y d e W Q i hx hy q => by
  unfold oIx at q
  split at q
  · split at q
    · rename_i v ha
      obtain ⟨p, vs, rfl, h1, h2⟩ := hx.lst
      obtain ⟨u, h3, h4⟩ := atI_up h2 ha
      exact .inl ⟨p, vs, _, u, rfl, hy.int, SqL.of h1, h3, q _ _ _ (Gr.refl i) h4⟩
    · exact q.elim
  · split at q
    · rename_i v ha
      obtain ⟨p, vs, rfl, h1, h2⟩ := hx.rol i
      obtain ⟨u, h3, h4⟩ := atI_up h2 ha
      exact .inl ⟨p, vs, _, u, rfl, hy.int, h1, h3, q _ _ _ (Gr.refl i) h4⟩
    · exact q.elim
  · split at q
    · rename_i v ha
      obtain ⟨p, vs, rfl, h1, _, h2⟩ := hx.tup i
      obtain ⟨u, h3, h4⟩ := atI_up h2 ha
      exact .inr (.inl ⟨p, vs, _, u, rfl, hy.int, h1, h3, q _ _ _ (Gr.refl i) h4⟩)
    · exact q.elim
  · split at q
    · rename_i hl
      split at q
      · rename_i c hc
        exact .inr (.inr ⟨_, _, c, hx.str, hy.int, sizeLine16 hl, hc, q _ _ _ (Gr.refl i) (.str _)⟩)
      · exact q.elim
    · exact q.elim
  · exact q.elim

/-! ### built-ins -/
@[simp] def bLen (d : D) : Res D := match d with
  | .lst xs => .ok (.int xs.length)
  | .rol xs => .ok (.int xs.length)
  | .tup xs => .ok (.int xs.length)
  | .str x => if x.length ≤ 16777216 then .ok (.int x.length) else .bad
  | _ => .bad
@[simp] def bAbs (d : D) : Res D := match d with
  | .int i => .ok (.int (if i < 0 then -i else i))
  | _ => .bad
@[simp] def bInt (d : D) : Res D := match d with
  | .int i => .ok (.int i)
  | .bl b => .ok (.int (if b then 1 else 0))
  | _ => .bad
@[simp] def bTup (d : D) : Res D := match d with
  | .lst xs => .ok (.tup xs)
  | .rol xs => .ok (.tup xs)
  | .tup xs => .ok (.tup xs)
  | _ => .bad
@[simp] def bLst (d : D) : Res (List D) := match d with
  | .lst xs => .ok xs
  | .rol xs => .ok xs
  | .tup xs => .ok xs
  | _ => .bad
@[simp] def bGcd (d e : D) : Res D := match d, e with
  | .int i, .int j => .ok (.int ((Nat.gcd i.natAbs j.natAbs : Nat) : Int))
  | _, _ => .bad
def dInts : List D → Option (List Int)
  | [] => some []
  | .int i :: r => (dInts r).map (i :: ·)
  | _ => none
def dBls : List D → Option (List Bool)
  | [] => some []
  | .bl i :: r => (dBls r).map (i :: ·)
  | _ => none
theorem dInts_map : ∀ {ds : List D} {ns : List Int}, dInts ds = some ns → ds = ns.map D.int
  | [], ns, h => by cases h; rfl
  | d :: r, ns, h => by
    cases d <;> first | cases h | skip
    rename_i i
    simp only [dInts, Option.map_eq_some_iff] at h
    obtain ⟨ms, h1, rfl⟩ := h
    rw [dInts_map h1]
    rfl
theorem dBls_map : ∀ {ds : List D} {ns : List Bool}, dBls ds = some ns → ds = ns.map D.bl
  | [], ns, h => by cases h; rfl
  | d :: r, ns, h => by
    cases d <;> first | cases h | skip
    rename_i i
    simp only [dBls, Option.map_eq_some_iff] at h
    obtain ⟨ms, h1, rfl⟩ := h
    rw [dBls_map h1]
    rfl
@[simp] theorem dInts_ok : ∀ ns : List Int, dInts (ns.map D.int) = some ns
  | [] => rfl
  | n :: ns => by simp [dInts, dInts_ok ns]
@[simp] theorem dBls_ok : ∀ ns : List Bool, dBls (ns.map D.bl) = some ns
  | [] => rfl
  | n :: ns => by simp [dBls, dBls_ok ns]
@[simp] def seqOf (d : D) : Option (List D) := match d with
  | .lst ds => some ds
  | .rol ds => some ds
  | _ => none
theorem Rd1.seq {K : Frg} {mg : Mg} {S H : Hp} {v : V} {d : D} {ds : List D} (i : Same S H) (h : Rd1 K mg S H v d) (e : seqOf d = some ds) : ∃ (p : Addr) (vs : List V), v = .ref p ∧ SqL K H p vs ∧ RpA K mg S vs ds := by
  cases d <;> cases e
  · obtain ⟨p, vs, h1, h2, h3⟩ := h.lst
    exact ⟨p, vs, h1, SqL.of h2, h3⟩
  · exact h.rol i
@[simp] def bSum (d : D) : Res D := match seqOf d with
  | some ds => match dInts ds with
    | some ns => .ok (.int ns.sum)
    | none => .bad
  | none => .bad
@[simp] def bAll (d : D) : Res D := match seqOf d with
  | some ds => match dBls ds with
    | some ns => .ok (.bl (ns.all id))
    | none => .bad
  | none => .bad
@[simp] def bAny (d : D) : Res D := match seqOf d with
  | some ds => match dBls ds with
    | some ns => .ok (.bl (ns.any id))
    | none => .bad
  | none => .bad
@[simp] def bBits (d : D) : Res D := match d with
  | .int i => .ok (.int (Builtin.Int.intBits i : Nat))
  | _ => .bad
/-- the built-in type of a value -/
@[simp] def dTy (d : D) : Option String := match d with
  | .non => some "NoneType"
  | .bl _ => some "bool"
  | .int _ => some "int"
  | .str _ => some "str"
  | .lst _ => some "list"
  | .tup _ => some "tuple"
  | _ => none
@[simp] def bIsi (t : String) (d : D) : Res D := match dTy d with
  | some a => match kitB a t with
    | some b => .ok (.bl b)
    | none => .bad
  | none => .bad
section
variable {K : Frg} {mg : Mg}
theorem b_len : U1 K mg (fun v => (fun xs H Q => ∃ x n, xs = [x] ∧ LenV K x H n ∧ Q (V.int n) H : List V → Hp → VK → Prop) [v]) bLen := fun S σ H v d W Q i hx q => by
  unfold bLen at q
  split at q
  · obtain ⟨p, vs, rfl, h1, h2⟩ := hx.lst
    exact ⟨_, _, rfl, .inl ⟨vs, SqL.of h1, rfl⟩, by rw [h2.len]; exact q _ _ _ (Gr.refl i) (.int _)⟩
  · obtain ⟨p, vs, rfl, h1, h2⟩ := hx.rol i
    exact ⟨_, _, rfl, .inl ⟨vs, h1, rfl⟩, by rw [h2.len]; exact q _ _ _ (Gr.refl i) (.int _)⟩
  · obtain ⟨p, vs, rfl, h1, _, h2⟩ := hx.tup i
    exact ⟨_, _, rfl, .inr ⟨vs, h1, rfl⟩, by rw [h2.len]; exact q _ _ _ (Gr.refl i) (.int _)⟩
  · split at q
    · rename_i hl
      rw [hx.str]
      exact ⟨_, _, rfl, ⟨sizeLine16 hl, rfl⟩, q _ _ _ (Gr.refl i) (.int _)⟩
    · exact q.elim
  · exact q.elim
theorem b_abs : U1 K mg (fun v => (fun xs H Q => ∃ i, xs = [V.int i] ∧ Q (V.int (if i < 0 then -i else i)) H : List V → Hp → VK → Prop) [v]) bAbs := fun S σ H v d W Q i hx q => by
  unfold bAbs at q
  split at q
  · rw [hx.int]; exact ⟨_, rfl, q _ _ _ (Gr.refl i) (.int _)⟩
  · exact q.elim
theorem b_int : U1 K mg (fun v => (fun xs H Q => (∃ i, xs = [V.int i] ∧ Q (V.int i) H) ∨ ∃ k, xs = [V.bl k] ∧ Q (V.int (if k then 1 else 0)) H : List V → Hp → VK → Prop) [v]) bInt := fun S σ H v d W Q i hx q => by
  unfold bInt at q
  split at q
  · rw [hx.int]; exact .inl ⟨_, rfl, q _ _ _ (Gr.refl i) (.int _)⟩
  · rw [hx.bl]; exact .inr ⟨_, rfl, q _ _ _ (Gr.refl i) (.int _)⟩
  · exact q.elim
theorem b_tup : U1 K mg (fun v => (fun xs H Q => ∃ p ys, xs = [V.ref p] ∧ ((SqL K H p ys ∧ ∀ l, H l = none → Q (V.ref l) (upd H l (.tup ys))) ∨ (SqT K H p ys ∧ Q (V.ref p) H)) : List V → Hp → VK → Prop) [v]) bTup := fun S σ H v d W Q i hx q => by
  unfold bTup at q
  split at q
  · obtain ⟨p, vs, rfl, h1, h2⟩ := hx.lst
    exact ⟨p, vs, rfl, .inl ⟨SqL.of h1, po_new i h2 q⟩⟩
  · obtain ⟨p, vs, rfl, h1, h2⟩ := hx.rol i
    exact ⟨p, vs, rfl, .inl ⟨h1, po_new i h2 q⟩⟩
  · obtain ⟨p, vs, rfl, h1, h2, h3⟩ := hx.tup i
    exact ⟨p, vs, rfl, .inr ⟨h1, q _ _ _ (Gr.refl i) (.tup h2 h3)⟩⟩
  · exact q.elim
theorem b_lst : U1F K mg (fun v => (fun xs H Q => ∃ p ys, xs = [V.ref p] ∧ (SqL K H p ys ∨ SqT K H p ys) ∧ ∀ l, H l = none → Q (V.ref l) (upd H l (.lst ys)) : List V → Hp → VK → Prop) [v]) bLst := fun S σ H v d W Q i hx q => by
  unfold bLst at q
  split at q
  · obtain ⟨p, vs, rfl, h1, h2⟩ := hx.lst
    exact ⟨p, vs, rfl, .inl (SqL.of h1), po_newL i h2 q⟩
  · obtain ⟨p, vs, rfl, h1, h2⟩ := hx.rol i
    exact ⟨p, vs, rfl, .inl h1, po_newL i h2 q⟩
  · obtain ⟨p, vs, rfl, h1, h2, h3⟩ := hx.tup i
    exact ⟨p, vs, rfl, .inr h1, po_newL i h3 q⟩
  · exact q.elim
theorem b_gcd : O2 K mg (fun v w => rGcd [v, w]) bGcd := fun S σ H x y d e W Q i hx hy q => by
  unfold bGcd at q
  split at q
  · rw [hx.int, hy.int]; exact ⟨_, _, rfl, q _ _ _ (Gr.refl i) (.int _)⟩
  · exact q.elim
theorem b_sum : U1 K mg (fun v => rSum K [v]) bSum := fun S σ H v d W Q i hx q => by
  unfold bSum at q
  split at q
  · rename_i ds e
    split at q
    · rename_i ns e2
      obtain ⟨p, vs, rfl, h1, h2⟩ := hx.seq i e
      rw [dInts_map e2] at h2
      rw [h2.ints] at h1
      exact ⟨p, ns, rfl, h1, q _ _ _ (Gr.refl i) (.int _)⟩
    · exact q.elim
  · exact q.elim
theorem b_all : U1 K mg (fun v => rAll K [v]) bAll := fun S σ H v d W Q i hx q => by
  unfold bAll at q
  split at q
  · rename_i ds e
    split at q
    · rename_i ns e2
      obtain ⟨p, vs, rfl, h1, h2⟩ := hx.seq i e
      rw [dBls_map e2] at h2
      rw [h2.bls] at h1
      exact ⟨p, ns, rfl, h1, q _ _ _ (Gr.refl i) (.bl _)⟩
    · exact q.elim
  · exact q.elim
theorem b_any : U1 K mg (fun v => rAny K [v]) bAny := fun S σ H v d W Q i hx q => by
  unfold bAny at q
  split at q
  · rename_i ds e
    split at q
    · rename_i ns e2
      obtain ⟨p, vs, rfl, h1, h2⟩ := hx.seq i e
      rw [dBls_map e2] at h2
      rw [h2.bls] at h1
      exact ⟨p, ns, rfl, h1, q _ _ _ (Gr.refl i) (.bl _)⟩
    · exact q.elim
  · exact q.elim
theorem Rd1.tyx {S H : Hp} {v : V} {d : D} {a : String} (i : Same S H) (h : Rd1 K mg S H v d) (e : dTy d = some a) : TyX K H v (.type a) := by
  cases d with
  | non => cases e; rw [h.non]; exact .base .non
  | bl b => cases e; rw [h.bl]; exact .base (.bl b)
  | int n => cases e; rw [h.int]; exact .base (.int n)
  | str x => cases e; rw [h.str]; exact .base (.str x)
  | lst ds => cases e; obtain ⟨p, vs, rfl, h1, h2⟩ := h.lst; exact .base (.lst h1)
  | tup ds =>
    cases e
    obtain ⟨p, vs, rfl, h1, h2, h3⟩ := h.tup i
    rcases h1 with (h1 | ⟨o, h1⟩) | ⟨o, its, n, h1, h2, _⟩
    · exact .base (.tup h1)
    · exact .fTuple h1
    · exact .kTuple h1 h2
  | _ => cases e
/-- isinstance(x, T), T a built-in class -/
theorem me_isi {X : Cx} {hx : Hx} {W : WX} {a : Expr} {fa : Sl → Res D} {t : Str} {T : String} {p p1 pos : Pos} (ha : MR X hx W a fa) (hv : bootBuiltins t = some (.type T)) (hm : X.mg "isinstance" = none) (hm2 : X.mg t = none) (hg : Gl X "isinstance" := by rfl) (hg2 : Gl X t := by rfl) (hn : t ≠ "__name__" := by decide) (hdb : (t == ("__debug__" : Str)) = false := by decide)
    (hs : starEach [a, .Name t p1] X.env = (false, eval a X.env) :: starEach [.Name t p1] X.env := by rfl) (hs2 : starEach [.Name t p1] X.env = (false, eval (.Name t p1) X.env) :: starEach [] X.env := by rfl) (hpl : (backTo pos (starEach [.Name t p1] X.env)).any (·.1) = false := by rfl) :
    ME X hx W (.Call (.Name "isinstance" p) [a, .Name t p1] [] pos) (sUn (bIsi T) fa) :=
  pe_imp (pe_callB (x := "isinstance") call_isi hg hm PyProof.Rows.boot_isinstance (pa_cons ha (pa_cons (pe_bltn (v := .ty T) hg2 hm2 hv rfl hn hdb) pa_nil hs2) hs) (by decide) (by decide) hs hpl) fun σ H Q ⟨b, S, ρ, R, q⟩ => ⟨b, S, ρ, R, q.bind fun d v S1 H1 g1 r1 k => by
    unfold bIsi at k
    split at k
    · rename_i a e1
      split at k
      · rename_i tb e2
        exact ⟨v, .ty T, .type a, .type T, tb, rfl, .ty T, Rd1.tyx g1.i r1 e1, kit_ty e2, k _ S1 H1 g1 (.bl tb)⟩
      · exact k.elim
    · exact k.elim⟩
/-- x.bit_length() -/
theorem me_bits {X : Cx} {hx : Hx} {W : WX} {o : Expr} {fo : Sl → Res D} {apos pos : Pos} (ho : MR X hx W o fo) (hbase : attributeBase o "bit_length" X.env (eval o X.env) = eval o X.env := by rfl) (hline : (apos.endLine == pos.line) = true := by rfl) :
    ME X hx W (.Call (.Attribute o "bit_length" apos) [] [] pos) (sUn bBits fo) := pe_imp (pe_bits ho hbase hline) fun σ H Q ⟨b, S, ρ, R, q⟩ => ⟨b, S, ρ, R, q.bind fun d v S1 H1 g1 r1 k => by
    unfold bBits at k
    split at k
    · exact ⟨_, r1.int, k _ S1 H1 g1 (.int _)⟩
    · exact k.elim⟩
/-- a slice's part -/
abbrev rrP : RR (Option Int) (Option Int) := fun _ _ _ b c => b = c
@[simp] def pNone (_ : Sl) : Res (Option Int) := .ok none
@[simp] def pSome (f : Sl → Res D) (ρ : Sl) : Res (Option Int) := (f ρ).bind fun d => match d with
  | .int i => .ok (some i)
  | _ => .bad
abbrev MP (X : Cx) (hx : Hx) (W : WX) (e : Option Expr) (f : Sl → Res (Option Int)) : Prop := PO X e (tG X.K X.mg hx rrP W f)
theorem po_imp {X : Cx} {e : Option Expr} {t t' : TO} (h : PO X e t) (i : ∀ σ H Q, t' σ H Q → t σ H Q) : PO X e t' := ⟨fun pins s σ H Q I q => h.run pins s σ H Q I (i σ H Q q)⟩
theorem mp_none {X : Cx} {hx : Hx} {W : WX} : MP X hx W none pNone := po_imp po_none fun σ H Q ⟨b, S, ρ, R, q⟩ => q none S H (Gr.refl R.sh) rfl
theorem mp_some {X : Cx} {hx : Hx} {W : WX} {e : Expr} {f : Sl → Res D} (h : ME X hx W e f) : MP X hx W (some e) (pSome f) := po_imp (po_some h) fun σ H Q ⟨b, S, ρ, R, q⟩ => ⟨b, S, ρ, R, q.bind fun d v S1 H1 g1 r1 k => by
  cases d <;> first | exact k.elim | skip
  cases r1
  exact ⟨_, rfl, k _ S1 H1 g1 rfl⟩⟩
theorem Po.upP {W : WX} {S H S' H' : Hp} {σ : L2.St} {r : Res (Option Int)} {Q : Option Int → Hp → Prop} (g : Gr S H S' H') (h : Po K mg rrP W S σ H r Q) : Po K mg rrP W S' σ H' r Q := h.up g fun _ _ _ _ _ q => q
def cutD (xs : List D) (lo hi : Option Int) : List D := (xs.drop (HT.sIx xs.length 0 lo)).take (HT.sIx xs.length xs.length hi - HT.sIx xs.length 0 lo)
theorem RpA.cut {S : Hp} {vs : List V} {ds : List D} (r : RpA K mg S vs ds) (lo hi : Option Int) : RpA K mg S (cutV vs lo hi) (cutD ds lo hi) := by
  unfold cutV cutD
  rw [r.len]
  exact (r.drop _).take _
@[simp] def fSl (f : Sl → Res D) (l h : Sl → Res (Option Int)) (ρ : Sl) : Res (List D) := (f ρ).bind fun d => (l ρ).bind fun lo => (h ρ).bind fun hi => match seqOf d with
  | some xs => .ok (cutD xs lo hi)
  | none => .bad
/-- a slice of a list: new -/
theorem mf_sl {X : Cx} {hx : Hx} {W : WX} {e : Expr} {lo hi : Option Expr} {f : Sl → Res D} {l h : Sl → Res (Option Int)} {pos p2 : Pos} (he : MR X hx W e f) (hl : MP X hx W lo l) (hh : MP X hx W hi h) : MF X hx W (.Subscript e (.Slice lo hi none p2) pos) (fSl f l h) :=
  pe_imp (pe_slice sl_list he hl hh) fun σ H Q ⟨b, S, ρ, R, q⟩ => ⟨b, S, ρ, R, q.bind fun d v S1 H1 g1 r1 k => ⟨b, S1, ρ, R.grow g1, (k.upF g1).bind fun d2 v2 S2 H2 g2 r2 k2 => ⟨b, S2, ρ, (R.grow g1).grow g2, (k2.upF g2).bind fun d3 v3 S3 H3 g3 r3 k3 => by
    cases r2
    cases r3
    split at k3
    · rename_i xs e1
      obtain ⟨p, vs, rfl, h1, h2⟩ := ((r1.up g2).up g3).seq g3.i e1
      exact ⟨p, vs, rfl, h1, po_newL g3.i (h2.cut _ _) (Po.upF g3 k3)⟩
    · exact k3.elim⟩⟩⟩
@[simp] def sSl (f : Sl → Res D) (l h : Sl → Res (Option Int)) (ρ : Sl) : Res D := (f ρ).bind fun d => (l ρ).bind fun lo => (h ρ).bind fun hi => match d with
  | .tup xs => .ok (.tup (cutD xs lo hi))
  | .str x => if x.length ≤ 16777216 then .ok (.str (cutS x lo hi)) else .bad
  | .lst xs => .ok (.lst (cutD xs lo hi))
  | .rol xs => .ok (.lst (cutD xs lo hi))
  | _ => .bad
end
end PF

set_option Elab.async false
set_option linter.all false
set_option maxRecDepth 100000
set_option maxHeartbeats 4000000
namespace PF
open PySem PySem.Spec L2

/-- a def of the text that keeps its promise, as its callers see it -/
structure Df (P : Program) (w : World) (K : Frg) (mg : Mg) (base : Heap) (x : Str) (k : Nat) (f : Addr) (fd : FuncData) (ps : List Str) (g : List D → Res D) : Prop where
  ok : FnOk P w K mg base (L2.CX P w) k f fd ps (spF K mg ps.length g)
  mg : mg x = some (.ref f)
  kp : PySem.W.keepIn K (.ref f) = true
  bi : Binds K fd ps []
theorem Po.freeze {K : Frg} {mg : Mg} {W : WX} {S H : Hp} {σ : L2.St} {r : Res D} {Q : VK} (h : Po K mg (rrE K mg) W S σ H (r.bind thaw) Q) : Po K mg (rrX K mg) W S σ H r Q := by
  cases r with
  | exc y ys => exact h
  | bad => exact h
  | ok d =>
    intro v S' H' g q
    rcases q with q | ⟨xs, rfl, p, vs, rfl, h2, h3, h4, h5⟩
    · cases d <;> first | exact h v S' H' g q | cases q
    · have up : Same S' (upd S' p (.lst vs)) := same_new h3
      refine h _ (upd S' p (.lst vs)) H' ⟨g.s.trans up, g.h, fun a o q => ?_, fun a ha q => ?_⟩ (.lst upd_same (h5.up up _ _))
      · by_cases z : a = p
        · subst z; rw [upd_same] at q; cases q; exact h4
        · rw [upd_ne z] at q; exact g.i a o q
      · rw [upd_ne (fun z => ha (by rw [z]; exact h2))]; exact g.n a ha q
theorem Po.unfr {K : Frg} {mg : Mg} {W : WX} {S H : Hp} {σ : L2.St} {r : Res D} {Q : VK} (h : Po K mg (rrF K mg) W S σ H (r.bind unfr) Q) : Po K mg (rrX K mg) W S σ H r Q := by
  cases r with
  | exc y ys => exact h
  | bad => exact h
  | ok d =>
    intro v S' H' g q
    rcases q with q | ⟨xs, rfl, q⟩
    · cases d <;> first | exact h.elim | cases q
    · exact h v S' H' g q
section
variable {X : Cx} {hx : Hx} {W : WX} {k : Nat} {f : Addr} {fd : FuncData} {ps : List Str} {g : List D → Res D} {x : Str} {p pos : Pos} {e : Expr} {es : List Expr} {fs : Sl → Res (List D)}
theorem call_imp (G : Df X.prog X.w X.K X.mg X.base x k f fd ps g) {σ : L2.St} {H : Hp} {Q : VK} (hfl : ∀ ρ ds, fs ρ = .ok ds → ds.length = ps.length) {b S ρ} (R : Rel X.K X.mg hx b S ρ σ H) (q : Po X.K X.mg (rrX X.K X.mg) W S σ H ((fs ρ).bind g) Q) : Po X.K X.mg (rrA X.K X.mg) W S σ H (fs ρ) fun vs H1 => spF X.K X.mg ps.length g vs H1 Q fun cls d H' => W cls d σ H' := by
  cases ef : fs ρ with
  | exc y ys => rw [ef] at q; exact q
  | bad => rw [ef] at q; exact q
  | ok ds =>
    rw [ef] at q
    intro v S1 H1 g1 r1
    refine ⟨ds, S1, by rw [r1.len]; exact hfl ρ ds ef, g1.i, r1, ?_⟩
    have q1 : Po X.K X.mg (rrX X.K X.mg) W S1 σ H1 (g ds) Q := Po.upX g1 q
    cases eg : g ds with
    | ok d => rw [eg] at q1; exact q1
    | exc y ys => rw [eg] at q1; exact q1
    | bad => rw [eg] at q1; exact q1
theorem bind_bind {α β γ : Type} (r : Res α) (f : α → Res β) (h : β → Res γ) : (r.bind fun a => (f a).bind h) = (r.bind f).bind h := by cases r <;> rfl
theorem me_calD (G : Df X.prog X.w X.K X.mg X.base x k f fd ps g) (hr : Room k X.A) (cw : Cw X W)
    (ha : MA X hx W (e :: es) fs) (hfl : ∀ ρ ds, fs ρ = .ok ds → ds.length = ps.length) (hg : Gl X x := by rfl) (hdb : (x == ("__debug__" : Str)) = false := by decide) (he : starEach (e :: es) X.env = (false, eval e X.env) :: starEach es X.env := by rfl) (hpl : (backTo pos (starEach es X.env)).any (·.1) = false := by rfl) :
    ME X hx W (.Call (.Name x p) (e :: es) [] pos) (sCall g fs) :=
  pe_imp (pe_callS G.ok hr hg G.mg G.kp G.bi cw ha hdb he hpl) fun σ H Q ⟨b, S, ρ, R, q⟩ => ⟨b, S, ρ, R, call_imp G hfl R (Po.freeze (by unfold sCall at q; rw [bind_bind] at q; exact q))⟩
theorem mf_calD (G : Df X.prog X.w X.K X.mg X.base x k f fd ps g) (hr : Room k X.A) (cw : Cw X W)
    (ha : MA X hx W (e :: es) fs) (hfl : ∀ ρ ds, fs ρ = .ok ds → ds.length = ps.length) (hg : Gl X x := by rfl) (hdb : (x == ("__debug__" : Str)) = false := by decide) (he : starEach (e :: es) X.env = (false, eval e X.env) :: starEach es X.env := by rfl) (hpl : (backTo pos (starEach es X.env)).any (·.1) = false := by rfl) :
    MF X hx W (.Call (.Name x p) (e :: es) [] pos) (fCall g fs) :=
  pe_imp (pe_callS G.ok hr hg G.mg G.kp G.bi cw ha hdb he hpl) fun σ H Q ⟨b, S, ρ, R, q⟩ => ⟨b, S, ρ, R, call_imp G hfl R (Po.unfr (by unfold fCall at q; rw [bind_bind] at q; exact q))⟩
end
/-- a, b = e1, e2 (two local names) -/
@[simp] def gPar (i j : Nat) (f h : Sl → Res D) (ρ : Sl) : Out := rS (f ρ) ρ fun d => rS (h ρ) ρ fun e => .nx ((ρ.set i (.v d)).set j (.v e))
theorem ms_par {X : Cx} {hx : Hx} {W : WX} (i j : Nat) {x y : Str} {a b : Expr} {f h : Sl → Res D} {px py pt pos : Pos} {kt k2 pt2} (hc : X.calm = true) (hN : X.N.Nodup) (ha : ME X hx W a f) (hb : ME X hx W b h) (hi : X.N[i]? = some x := by rfl) (hj : X.N[j]? = some y := by rfl) (hij : i ≠ j := by decide)
    (hx' : X.env.scope.names.lookup x = some .local := by rfl) (hy : X.env.scope.names.lookup y = some .local := by rfl)
    (s1 : starEach [a, b] X.env = (false, eval a X.env) :: starEach [b] X.env := by rfl) (s2 : starEach [b] X.env = (false, eval b X.env) :: starEach [] X.env := by rfl)
    (hw : swappedStores [.Tuple [.Name x px, .Name y py] kt pt] (.Tuple [a, b] k2 pt2) X.env = pure (some [x, y]) := by rfl)
    (hs : swapsWithSole [.Tuple [.Name x px, .Name y py] kt pt] (.Tuple [a, b] k2 pt2) pos.line X.env = pure false := by rfl) :
    MS X hx W (.Assign [.Tuple [.Name x px, .Name y py] kt pt] (.Tuple [a, b] k2 pt2) pos) (gPar i j f h) :=
  ps_imp (ps_par hc hN hi hj hij hx' hy (pa_cons ha (pa_cons hb pa_nil s2) s1) hw hs) fun D σ H ⟨b, S, ρ, R, q⟩ =>
    ⟨b, S, ρ, R, rS_po R q fun d v S1 H1 g1 r1 k => ⟨b, S1, ρ, R.grow g1, rS_po (R.grow g1) (PoS.up g1.s k) fun d2 v2 S2 H2 g2 r2 k2 =>
      ⟨v, v2, rfl, k2 S2 _ H2 g2.s ((((R.grow g1).grow g2).put (r1.up g2.s _ _)).put r2)⟩⟩⟩

/-! ### isinstance(e, (c1, c2, ..)) of the exception that a suite holds -/
def rIsET (K : Frg) (D0 a : Addr) : List V → Hp → VK → Prop := fun xs H Q => ∃ (tp : Addr) (cs : List V) (us : List Value) (b : Bool), xs = [.ref a, .ref tp] ∧ H tp = some (.tup cs) ∧ Paired ClsV cs us ∧ PySem.W.kitAny K (.ref D0) us = some b ∧ Q (.bl b) H
theorem call_isET {X : Cx} {a D0 : Addr} {oe : Obj} {pn : List (Addr × Obj)} (C : ExcC X.K D0) (hz : Zc (.ref D0) none oe) (hf : ∃ vs, oe.data = .fields vs) : CallR (X.suite a ((a, oe) :: pn)) (.builtin "isinstance") (rIsET X.K D0 a) := by
  intro pins s σ H xs us Q I r h
  obtain ⟨tp, cs, ws, b, rfl, hT, k, e, q⟩ := h
  obtain ⟨u1, u2, rfl, r1, r2⟩ := vals2 r
  cases (show u1 = Value.ref a from r1)
  cases (show u2 = Value.ref tp from r2)
  obtain ⟨hget, _⟩ := I.pin (a, oe) (List.mem_append.mpr (.inl List.mem_cons_self))
  obtain ⟨vs, hv⟩ := hf
  have J : PySem.W.InstAt s.heap a oe D0 none := by
    obtain ⟨oc, od, oda, osl⟩ := oe
    obtain ⟨h1, h2⟩ := hz
    dsimp only at h1 h2 hv
    subst h1 h2 hv
    exact ⟨hget, rfl, rfl, trivial⟩
  obtain ⟨_, its, rv, o, h1, h2, n, h3⟩ := (show ObjOk X.prog X.w H s.heap tp (.tup cs) from I.hok tp _ hT)
  have e3 := ClsV.all k rv
  subst e3
  obtain ⟨oc, od, dt, sl⟩ := o
  simp only at h2 h3
  subst h2 h3
  exact PySem.W.kia_tup (PySem.W.handS_kitx_exc C.hg C.hk C.hs C.hd C.ha C.hn C.ht C.hm) I.kIn J h1 e (fun z => nomatch z) fun tk => ⟨.bl b, H, I.kept (t' := tk) fun _ _ z => z, rfl, q⟩
def tcs : List V → TA
  | [] => tNil
  | c :: cs => tCons (tC c) (tcs cs)
theorem tcs_run {σ : L2.St} {H : Hp} : ∀ (cs : List V) (Q : List V → Hp → Prop), Q cs H → tcs cs σ H Q
  | [], _, h => h
  | c :: cs, Q, h => tcs_run cs _ h
theorem me_isET {X : Cx} {a D0 : Addr} {oe : Obj} {pn : List (Addr × Obj)} {d : Option Addr} {W : WX} {ces : List Expr} {n : Str} {p p1 pos pt : Pos} {kt} {cvs : List V} {cus : List Value} (i : Nat) {tab : Str → Option Bool} (hz : Zc (.ref D0) d oe) (hf : ∃ vs, oe.data = .fields vs) (ht : TabT X.K X.mg tab cus)
    (hv : PE (X.suite a ((a, oe) :: pn)) (.Name n p1) (tVar i)) (hc : PA (X.suite a ((a, oe) :: pn)) ces (tcs cvs)) (k : Paired ClsV cvs cus) (hm : X.mg "isinstance" = none) (hl : cvs.length ≤ 1000 := by simp) (hg : Gl X "isinstance" := by rfl)
    (hs : starEach [.Name n p1, .Tuple ces kt pt] X.env = (false, eval (.Name n p1) X.env) :: starEach [.Tuple ces kt pt] X.env := by rfl) (hs2 : starEach [.Tuple ces kt pt] X.env = (false, eval (.Tuple ces kt pt) X.env) :: starEach [] X.env := by rfl) (hpl : (backTo pos (starEach [.Tuple ces kt pt] X.env)).any (·.1) = false := by rfl) :
    ME (X.suite a ((a, oe) :: pn)) (some (a, D0, d)) W (.Call (.Name "isinstance" p) [.Name n p1, .Tuple ces kt pt] [] pos) (sIsE i tab) := ⟨fun pins s σ H Q I ⟨b, S, ρ, R, q⟩ => by
  unfold sIsE at q
  split at q
  · rename_i x e
    obtain ⟨a1, C1, d1, h1, h2, h3, h4⟩ := R.xc i x [] e
    cases h1
    split at q
    · rename_i tb et
      obtain ⟨t1, t2⟩ := ht x D0 tb h3 et
      have hd := xd_none h4
      subst hd
      exact (pe_callB (x := "isinstance") (call_isET (X := X) (a := a) (pn := pn) t1 hz hf) hg hm PyProof.Rows.boot_isinstance (pa_cons hv (pa_cons (pe_tup hc) pa_nil hs2) hs) (by decide) (by decide) hs hpl).run pins s σ H Q I ⟨_, h2, tcs_run cvs _ ⟨Nat.le_trans hl (sizeLine16 (by decide)), fun tp htp => ⟨tp, cvs, cus, tb, rfl, upd_same, k, t2, q _ _ _ (Gr.heap R.sh (same_new htp)) (.bl tb)⟩⟩⟩
    · exact q.elim
  · exact q.elim⟩
theorem iop_mulU {X : Cx} : PIp X .Mult (rI (fun i j => mulOk i j = true) fun i j => .int (i * j)) := (opI fun _ _ _ _ _ _ _ hc q => PyProof.Rows.imul_int q (CMulX_of_small hc) : OpR X (inplaceOp .Mult) _)
def whFuel : Nat := 1000000000000000000
/-- no exception leaves -/
theorem fn_calm {P : Program} {w : World} {K : Frg} {mg : Mg} {base : Heap} {k : Nat} {f : Addr} {fd : FuncData} {ps : List Str} {sp : Sp} (F : FnOk P w K mg base (L2.CX P w) k f fd ps sp) : FnOk P w K mg base CX0 k f fd ps (fun vs H Q _ => sp vs H Q fun _ _ _ => False) :=
  ⟨fun vs H Q E h => F.len _ _ _ _ h, fun A outer s H args us vs Q E hr he hb hv h => codeAny_mono (F.run A outer s H args us vs Q _ hr he hb hv h) fun r s' q => by
    cases r with
    | ok fl => cases fl <;> exact q
    | error e =>
      obtain ⟨_, _, _, _, _, _, _, _, _, _, _, _, z⟩ := q
      exact z.elim⟩
/-- law's own promise -/
def spLaw (K : Frg) : Sp := fun vs H Q _ => ∃ (a : Addr) (ns : List Int), vs = [.ref a] ∧ SqL K H a (ns.map V.int) ∧ ns.length ≤ 63 ∧ ∀ H', Q (.bl true) H'
theorem law_ok {P : Program} {w : World} {K : Frg} {mg : Mg} {base : Heap} {k : Nat} {f : Addr} {fd : FuncData} {g : List D → Res D} (F : FnOk P w K mg base (L2.CX P w) k f fd ["script"] (spF K mg 1 g))
    (h : ∀ ns : List Int, ns.length ≤ 63 → g [.rol (ns.map D.int)] = .ok (.bl true)) : FnOk P w K mg base CX0 k f fd ["script"] (spLaw K) :=
  (fn_calm F).imp fun vs H Q E ⟨a, ns, e, hS, hl, q⟩ => by
    subst e
    refine ⟨[.rol (ns.map D.int)], H, rfl, Same.refl _, .cons (.rol hS (RpA.of_ints ns)) .nil, ?_⟩
    rw [h ns hl]
    intro v S' H' g1 r1
    rcases r1 with r1 | ⟨_, e, _⟩
    · cases r1
      exact q H'
    · cases e
end PF

set_option Elab.async false
set_option linter.all false
set_option maxRecDepth 100000
set_option maxHeartbeats 4000000
/-! the head: a law's facts as one Bool of the written part, its defs by their places -/
namespace PF
open PySem PySem.Spec L2

abbrev AlP : Type := Bool × List He.FnW
def obsP (fa : List (Frg → Bool)) (fn : List He.DefD) (K : Frg) : AlP := ((fa.all fun f => f K) && fn.all fun d => d.ok K, fn.map fun d => He.fnW K d.at_)
def valP (fn : List He.DefD) : AlP := (true, fn.map He.DefD.val)
def SaysP (fa : List (Frg → Bool)) (fn : List He.DefD) (K : Frg) : Prop := obsP fa fn K = valP fn
def obsPG (n : Nat) (fa : List (Frg → Bool)) (fn : List He.DefD) (g : Addr → Option Obj) : AlP := obsP fa fn (He.frG g (He.asD g n))
def hookP (n : Nat) (fa : List (Frg → Bool)) (fn : List He.DefD) : PySem.W.Hook where
  α := AlP
  obs := fun s => obsPG n fa fn s.heap.get?
  val := fun _ => valP fn
  says := fun _ h => ∃ K : Frg, K.In h ∧ SaysP fa fn K
  of := fun _ _ e => ⟨_, He.frG_in, e⟩
  keeps := fun _ _ _ ⟨K, hK, c⟩ k => ⟨K, PySem.W.Frag.In.keeps hK k, c⟩
theorem obsPG_eq {n : Nat} {fa : List (Frg → Bool)} {fn : List He.DefD} {g : Addr → Option Obj} {s : Shared} (h : ∀ a, g a = s.heap.get? a) : obsPG n fa fn g = (hookP n fa fn).obs s := by
  have e : g = s.heap.get? := funext h
  rw [e] <;> rfl
section
variable {fa : List (Frg → Bool)} {fn : List He.DefD} {K : Frg}
theorem SaysP.fact (c : SaysP fa fn K) (i : Nat) {f : Frg → Bool} (h : fa[i]? = some f := by rfl) : f K = true := by
  have c1 := (He.ba (show ((fa.all fun f => f K) && fn.all fun d => d.ok K) = true from congrArg (fun z : AlP => z.1) c)).1
  exact List.all_eq_true.mp c1 f (List.mem_of_getElem? h)
theorem SaysP.def_ (c : SaysP fa fn K) (i : Nat) {d : He.DefD} (h : fn[i]? = some d := by rfl) : ∃ fd, FunD K d.name d.qual d.params d.body d.scope (d.dvs K) (d.kws K) (He.fAd K d.at_) fd := by
  have c2 := (He.ba (show ((fa.all fun f => f K) && fn.all fun d => d.ok K) = true from congrArg (fun z : AlP => z.1) c)).2
  have e : fn.map (fun d => He.fnW K d.at_) = fn.map He.DefD.val := congrArg (fun z : AlP => z.2) c
  have e2 : (fn.map fun d => He.fnW K d.at_)[i]? = (fn.map He.DefD.val)[i]? := by rw [e]
  rw [List.getElem?_map, List.getElem?_map, h] at e2
  exact He.DefD.funD (Option.some.inj e2) (List.all_eq_true.mp c2 d (List.mem_of_getElem? h))
end
theorem fun_of {K : Frg} {x qual : Str} {st : Stmt} {f : Addr} {fd : FuncData} {kws : List (Str × V)} (F : FunD K x qual (defArgs st) (defBody st) (defScope st) [] kws f fd) : Fun K x qual st f fd := by
  obtain ⟨oc, od, dV, kV, doc, pm, an, cdv, ct, osl, rfl, h2, h3, h4, h5⟩ := F.ex
  rcases h4 with ⟨_, rfl⟩ | ⟨h, _⟩
  · exact ⟨⟨oc, od, kV, doc, pm, an, cdv, ct, osl, rfl, h2, h3⟩, F.kp⟩
  · exact absurd rfl h
/-- one def of the text: a global one without defaults -/
def dD (x : Str) (st : Stmt) : He.DefD := ⟨(x, none), x, x, defArgs st, defBody st, defScope st, [], []⟩
theorem df_mk {P : Program} {w : World} {K : Frg} {mg : Mg} {base h : Heap} {x : Str} {st : Stmt} {fd : FuncData} {k : Nat} {ps : List Str} {g : List D → Res D} (X : K.In h) (G : h.Ns mainGlobals mg) (F : FunD K x x (defArgs st) (defBody st) (defScope st) [] [] (He.fAd K (x, none)) fd)
    (c : (He.Fa.glo x).ok K = true) (hb : Binds K fd ps []) (ok : FnOk P w K mg base (L2.CX P w) k (He.fAd K (x, none)) fd ps (spF K mg ps.length g)) : Df P w K mg base x k (He.fAd K (x, none)) fd ps g :=
  ⟨ok, He.glo_ok X G c, F.kp, hb⟩
/-- facts of an exception class, of isinstance -/
def excCB (K : Frg) (x : Str) : Bool := He.eqO (PySem.W.findIn K (.ref (He.ga K x)) "__getattribute__") (some (some (.builtin "BaseException.__getattribute__"))) && (He.eqO (PySem.W.findIn K (.ref (He.ga K x)) "__getattr__") (some none) && (decide (PySem.W.subIn K (.ref (He.ga K x)) (.type "BaseException") = some true) && (PySem.W.hasDictIn K (He.ga K x) &&
  (He.eqO (PySem.W.findIn K (.ref (He.ga K x)) "__class__") (some (some (.builtin "object.__class__"))) && (He.eqO (PySem.W.specialIn K (.builtin "object.__class__") "__get__") (some (some (.builtin "getset_descriptor.__get__"))) && (decide (PySem.W.takesIn K (.builtin "object.__class__") = some true) && decide (PySem.W.mroIn K (He.ga K x) (.type "object") = some true)))))))
theorem excCB_ok {K : Frg} {x : Str} (h : excCB K x = true) : ExcC K (He.ga K x) := by
  obtain ⟨h1, h⟩ := He.ba h
  obtain ⟨h2, h⟩ := He.ba h
  obtain ⟨h3, h⟩ := He.ba h
  obtain ⟨h4, h⟩ := He.ba h
  obtain ⟨h5, h⟩ := He.ba h
  obtain ⟨h6, h⟩ := He.ba h
  obtain ⟨h7, h8⟩ := He.ba h
  exact ⟨He.eqO_ok h1, He.eqO_ok h2, of_decide_eq_true h3, h4, He.eqO_ok h5, He.eqO_ok h6, of_decide_eq_true h7, of_decide_eq_true h8⟩
theorem excT_ok {K : Frg} {mg : Mg} {h : Heap} {x : Str} (X : K.In h) (G : h.Ns mainGlobals mg) (c : (He.Fa.glo x).ok K = true) (e : (He.Fa.exc x).ok K = true) : ExcT K mg x (He.ga K x) :=
  let ⟨h1, h2, h3, h4⟩ := He.exc_ok e
  ⟨He.glo_ok X G c, h1, h2, h3, h4⟩
/-- a table of isinstance answers (tuple: any of them) -/
def rowB (K : Frg) (x : Str) (us : List Value) (b : Bool) : Bool := decide (PySem.W.kitAny K (.ref (He.ga K x)) us = some b)
def row1B (K : Frg) (x : Str) (u : Value) (b : Bool) : Bool := decide (PySem.W.kitOne K (.ref (He.ga K x)) u = some b)
end PF

set_option Elab.async false
set_option linter.all false
set_option maxRecDepth 100000
set_option maxHeartbeats 4000000
/-! More rules: tuple * int, slices of any kind, zip, enumerate. -/
namespace PF
open PySem PySem.Spec L2 PyProof.Rows
/-! ### t * 1 is t itself -/
theorem tup_mul1 (l : Addr) (items : Array Value) (n : Nat) (dd : Option Addr) (sl : Array (Option Value)) (u : Tok) :
    Meets (Builtin.«tuple.__mul__» ⟨[.ref l, .int 1 u], []⟩) (fun _ R s => s.heap.get? l = some { cls := .type "tuple", dict := dd, data := .seq items n, slots := sl } ∧ R (.ok (.ret (Value.ref l))) s) :=
  .of_wp fun prog w A R s h => by
    obtain ⟨hp, g, d, tk, os⟩ := s
    obtain ⟨hl, h⟩ := h
    have c0 : (decide ((1 : Int) < -(2 ^ 63)) || decide ((1 : Int) ≥ 2 ^ 63)) = false := by decide
    have c1 : (items.isEmpty || (1 : Int) == 1) = true := by simp
    have f1 := AutoSeq1.idx_int
    wp_walk using wpAny_loadPart' hl
    repeat (first
      | (refine wpAny_ite_false (decide_eq_false (by rw [c0]; exact Bool.false_ne_true)) ?_; wp_walk using wpAny_loadPart' hl)
      | (refine wpAny_ite_true (decide_eq_true c1) ?_; wp_walk using wpAny_loadPart' hl))
    exact ⟨_, rfl, h⟩
def rMul1 (K : PySem.W.Frag) : R2 := fun x y H Q => ∃ l xs, x = .ref l ∧ y = .int 1 ∧ SqT K H l xs ∧ Q (.ref l) H
theorem op_mul1 {X : Cx} : OpR X (binaryOp .Mult) (rMul1 X.K) := by
  intro pins s σ H x y v u Q I rx ry h
  obtain ⟨l, xs, rfl, rfl, hT, q⟩ := h
  cases rx
  obtain ⟨t, rfl⟩ := ry
  obtain ⟨its, r, ⟨⟨cls, dd, data, sl⟩, ho, hc, n, hd⟩, hs⟩ := I.tuple hT
  simp only at hc hd
  subst hc hd
  refine wpAny_binaryOp_repeat_ref (T := "tuple") (U := "int") (by decide) ⟨_, ho, rfl⟩ (fun s' => typeIs_int s' 1 t) noFill_tuple_mul F.fills_int_mul F.slot_int_rmul repeat_tuple F.slot_int_index.lookup
    (call_meets F.slot_int_rmul (typeIs_int s 1 t) F.entry_int_rmul (F.args_int_rmul_2 _ _) (int_rmul_tuple 1 t l its.toArray n dd sl)
      ⟨ho, rfl, ⟨_, ho, rfl⟩, call_meets F.slot_tuple_mul ⟨_, ho, rfl⟩ F.entry_tuple_mul (F.args_tuple_mul_2 _ _) (tup_mul1 l its.toArray n dd sl t) ⟨ho, ?_⟩⟩)
  exact ⟨.ref l, H, I, rfl, q⟩
@[simp] noncomputable def oMulT (d e : D) : Res D := match d, e with
  | .int i, .int j => if mulOk i j then .ok (.int (i * j)) else .bad
  | .tup xs, .int k => if cb (xs ≠ [] ∧ 1 ≤ k ∧ k ≤ 1000 ∧ xs.length ≤ 1000) then .ok (.tup (List.replicate k.toNat xs).flatten) else .bad
  | _, _ => .bad
def rMulA (K : PySem.W.Frag) : R2 := fun x y H Q => rI (fun i j => mulOk i j = true) (fun i j => .int (i * j)) x y H Q ∨ rRepT K x y H Q ∨ rMul1 K x y H Q
theorem op_mulA {X : Cx} : OpR X (binaryOp .Mult) (rMulA X.K) := op_mulU.or (op_repT.or op_mul1)
theorem o_mulT {K : Frg} {mg : Mg} : O2 K mg (rMulA K) oMulT := fun S σ H x y d e W Q i hx hy q => by
  unfold oMulT at q
  split at q
  · split at q
    · rename_i hc
      exact .inl ⟨_, _, hx.int, hy.int, hc, q _ _ _ (Gr.refl i) (.int _)⟩
    · exact q.elim
  · rename_i xs k
    split at q
    · rename_i hc
      obtain ⟨h1, h2, h3, h4⟩ := of_cb hc
      obtain ⟨p, vs, rfl, k1, k2, r⟩ := hx.tup i
      by_cases e1 : k = 1
      · subst e1
        refine .inr (.inr ⟨p, vs, rfl, hy.int, k1, q _ S H (Gr.refl i) ?_⟩)
        have e2 : (List.replicate (1 : Int).toNat xs).flatten = xs := by simp
        rw [e2]
        exact .tup k2 r
      · refine .inr (.inl ⟨p, k, vs, rfl, hy.int, k1, fun z => h1 ?_, by omega, h3, by rw [r.len]; exact h4, po_new i (r.rep _) q⟩)
        subst z
        have := r.len
        exact List.eq_nil_of_length_eq_zero this.symm
    · exact q.elim
  · exact q.elim
/-! ### slices of any kind -/
theorem me_sl {X : Cx} {hx : Hx} {W : WX} {e : Expr} {lo hi : Option Expr} {f : Sl → Res D} {l h : Sl → Res (Option Int)} {pos p2 : Pos} (he : MR X hx W e f) (hl : MP X hx W lo l) (hh : MP X hx W hi h) : ME X hx W (.Subscript e (.Slice lo hi none p2) pos) (sSl f l h) :=
  pe_imp (pe_slice (sl_tupA.or (sl_str.or sl_list)) he hl hh) fun σ H Q ⟨b, S, ρ, R, q⟩ => ⟨b, S, ρ, R, q.bind fun d v S1 H1 g1 r1 k => ⟨b, S1, ρ, R.grow g1, (k.upE g1).bind fun d2 v2 S2 H2 g2 r2 k2 => ⟨b, S2, ρ, (R.grow g1).grow g2, (k2.upE g2).bind fun d3 v3 S3 H3 g3 r3 k3 => by
    cases r2
    cases r3
    have r := (r1.up g2).up g3
    have k4 := k3.upE g3
    have newL : ∀ xs vs, RpA X.K X.mg S3 vs xs → Po X.K X.mg (rrE X.K X.mg) W S3 σ H3 (.ok (.lst (cutD xs d2 d3))) Q → ∀ p, H3 p = none → Q (.ref p) (upd H3 p (.lst (cutV vs d2 d3))) := fun xs vs h2 z p hp =>
      z _ _ _ (Gr.new g3.i hp) (.lst upd_same ((h2.cut _ _).up (same_new (same_none g3.i hp)) _ _))
    cases d with
    | tup xs =>
      obtain ⟨p, vs, rfl, h1, h2, h3⟩ := r.tup g3.i
      refine .inl ⟨p, vs, rfl, h1, fun hw => ?_, fun _ => po_new g3.i (h3.cut _ _) k4⟩
      have e1 : cutD xs d2 d3 = xs := by
        unfold cutD
        rw [← h3.len, hw.1, hw.2, h3.len]
        simp
      refine k4 _ S3 H3 (Gr.refl g3.i) ?_
      rw [e1]
      exact .tup h2 h3
    | str x =>
      have k5 : Po X.K X.mg (rrE X.K X.mg) W S3 σ H3 (if x.length ≤ 16777216 then .ok (.str (cutS x d2 d3)) else .bad) Q := k4
      split at k5
      · rename_i hz
        exact .inr (.inl ⟨x, r.str, sizeLine16 hz, k5 _ S3 H3 (Gr.refl g3.i) (.str _)⟩)
      · exact k5.elim
    | lst xs =>
      obtain ⟨p, vs, rfl, h1, h2⟩ := r.lst
      exact .inr (.inr ⟨p, vs, rfl, SqL.of h1, newL xs vs h2 k4⟩)
    | rol xs =>
      obtain ⟨p, vs, rfl, h1, h2⟩ := r.rol g3.i
      exact .inr (.inr ⟨p, vs, rfl, h1, newL xs vs h2 k4⟩)
    | _ => exact k4.elim⟩⟩⟩
end PF

set_option Elab.async false
set_option linter.all false
set_option maxRecDepth 100000
set_option maxHeartbeats 4000000
/-! zip and enumerate over lists and tuples, in any mixture. -/
namespace PF
open PySem PySem.Spec L2 PyProof.Rows
def SqK (K : PySem.W.Frag) (t : Bool) (H : Hp) (a : Addr) (xs : List V) : Prop := match t with
  | true => SqT K H a xs
  | false => SqL K H a xs
def ItK (t : Bool) (h : Heap) (it a : Addr) (i : Nat) : Prop := match t with
  | true => h.IsTupleIter it a i
  | false => h.IsListIter it a i
def SeK (t : Bool) (h : Heap) (a : Addr) (its : Array Value) : Prop := match t with
  | true => h.IsTuple a its
  | false => h.IsList a its
def beK (t : Bool) (a : Addr) : Obj := match t with
  | true => { cls := .type "tuple_iterator", data := .fields #[.ref a, .int 0 0] }
  | false => { cls := .type "list_iterator", data := .fields #[.ref a, .int 0 0] }
theorem drawsK {prog : Program} {w : World} {A : Around} (t : Bool) (hh : A.handled = none) (it a : Addr) (hne : a ≠ it) (its : Array Value) : Draws prog w A it [it, a] its.size (fun i v => its[i]? = some v) (fun i h => ItK t h it a i ∧ SeK t h a its) := by
  cases t with
  | false => exact Draws.list hh it a hne its
  | true => exact Draws.tuple hh it a hne its
theorem beginsK (t : Bool) (a : Addr) (its : Array Value) : Begins (.ref a) (beK t a) fun h => SeK t h a its := by
  cases t with
  | false => exact begins_list a its
  | true => exact begins_tuple a its
theorem itK_new (t : Bool) {h : Heap} {it a : Addr} (e : h.get? it = some (beK t a)) : ItK t h it a 0 := by
  cases t with
  | false => exact ⟨_, e, rfl, rfl⟩
  | true => exact ⟨_, e, rfl, rfl⟩
theorem ItK.kept {t : Bool} {h h' : Heap} {it a : Addr} {i : Nat} (x : ItK t h it a i) (k : ∀ o, h.get? it = some o → h'.get? it = some o) : ItK t h' it a i := by
  cases t with
  | false => exact Heap.IsListIter.at x k
  | true => exact Heap.IsTupleIter.at x k
theorem ItK.obj {t : Bool} {h : Heap} {it a : Addr} {i : Nat} (x : ItK t h it a i) : ∃ o, h.get? it = some o ∧ ∀ v, o.data ≠ .cell v := by
  cases t with
  | false => obtain ⟨o, e, _, d⟩ := x; exact ⟨o, e, fun v q => by rw [d] at q; cases q⟩
  | true => obtain ⟨o, e, _, d⟩ := x; exact ⟨o, e, fun v q => by rw [d] at q; cases q⟩
theorem SeK.lt {t : Bool} {h : Heap} {a : Addr} {its : Array Value} (x : SeK t h a its) : a < h.objs.size := by
  cases t with
  | false => obtain ⟨o, e, _⟩ := x; exact Heap.lt_size e
  | true => obtain ⟨o, e, _⟩ := x; exact Heap.lt_size e
section
variable {X : Cx} {pins : List (Addr × Obj)} {σ : L2.St} {H : Hp} {s : Shared}
theorem Inv.seK {t : Bool} {a : Addr} {xs : List V} (I : Inv X pins σ H s) (h : SqK X.K t H a xs) : ∃ its : List Value, Vals xs its ∧ SeK t s.heap a its.toArray := by
  cases t with
  | false => obtain ⟨its, rv, p, _⟩ := I.list h; exact ⟨its, rv, p.isList⟩
  | true => obtain ⟨its, rv, p, _⟩ := I.tuple h; exact ⟨its, rv, p⟩
theorem Inv.seK_inj {t : Bool} {a : Addr} {xs ys : List V} (I : Inv X pins σ H s) (h : SqK X.K t H a xs) (h' : SqK X.K t H a ys) : xs = ys := by
  cases t with
  | false => exact I.list_inj h h'
  | true => exact I.tuple_inj h h'
end
/-! ### zip -/
def ItzG (K : PySem.W.Frag) (t1 t2 : Bool) (a b : Addr) : It :=
  ⟨fun i H => ∃ (xs ys : List V) (x y : V), SqK K t1 H a xs ∧ SqK K t2 H b ys ∧ xs[i]? = some x ∧ ys[i]? = some y,
    fun i H v H' => ∃ T x y, v = .ref T ∧ H T = none ∧ H' = upd H T (.tup [x, y]) ∧ (∀ xs, SqK K t1 H a xs → xs[i]? = some x) ∧ ∀ ys, SqK K t2 H b ys → ys[i]? = some y,
    fun i H => ∃ xs ys : List V, SqK K t1 H a xs ∧ SqK K t2 H b ys ∧ i = min xs.length ys.length⟩
theorem sep_of {a b z TI TO i1 i2 : Addr} (D : ZipApart z TI TO i1 i2 a b) : ZipSep2 z TI TO i1 i2 [i1, a] [i2, b] where
  TIz := D.TIz
  TOz := D.TOz
  TITO := D.TITO
  TIi1 := D.TIi1
  mem1 := by simp
  zf1 := by simp [Ne.symm D.i1z, Ne.symm D.l1z]
  Tf1 := by simp [D.TOi1, Ne.symm D.l1TO]
  TIi2 := D.TIi2
  mem2 := by simp
  zf2 := by simp [Ne.symm D.i2z, Ne.symm D.l2z]
  Tf2 := by simp [D.TOi2, Ne.symm D.l2TO]
  sep1_2 := by simp [D.i12, Ne.symm D.l2i1]
  sep2_1 := by simp [Ne.symm D.i12, Ne.symm D.l1i2]
theorem turn_zipG {P : Program} {w : World} {K : PySem.W.Frag} {elts : List Expr} {kk : Nat} {tpos : Pos} (t1 t2 : Bool) {a b z TI TO i1 i2 : Addr} (D : ZipApart z TI TO i1 i2 a b) :
    Turn P w K (.Tuple elts kk tpos) (ItzG K t1 t2 a b) [z, TI, TO, i1, i2] z (fun i h => IsZip h z TI TO .none ∧ IsPair h TI (.ref i1) (.ref i2) ∧ (∃ x y, IsPair h TO x y) ∧ ItK t1 h i1 a i ∧ ItK t2 h i2 b i) where
  mem := by simp
  obj := fun i h st c hc => by
    obtain ⟨hz, hTI, ⟨x, y, hTO⟩, h1, h2⟩ := st
    have e' : c = z ∨ c = TI ∨ c = TO ∨ c = i1 ∨ c = i2 := by simpa using hc
    rcases e' with q | q | q | q | q
    · rw [q]; exact ⟨_, hz, fun v q => nomatch q⟩
    · rw [q]; exact ⟨_, hTI, fun v q => nomatch q⟩
    · rw [q]; exact ⟨_, hTO, fun v q => nomatch q⟩
    · rw [q]; exact h1.obj
    · rw [q]; exact h2.obj
  keep := fun i h h' st k => by
    obtain ⟨hz, hTI, ⟨x, y, hTO⟩, h1, h2⟩ := st
    exact ⟨k z (by simp) _ hz, k TI (by simp) _ hTI, ⟨x, y, k TO (by simp) _ hTO⟩, h1.kept fun o q => k i1 (by simp) o q, h2.kept fun o q => k i2 (by simp) o q⟩
  item := by
    intro X hP hw hK hc i pins s σ H E I hf st hg
    subst hP hw hK
    obtain ⟨hz, hTI, ⟨x0, y0, hTO⟩, h1, h2⟩ := st
    obtain ⟨xs, ys, x, y, hqx, hqy, hx, hy⟩ := hg
    obtain ⟨its, rv, p⟩ := Inv.seK I hqx
    obtain ⟨its2, rv2, p2⟩ := Inv.seK I hqy
    obtain ⟨u, hu, ru⟩ := rv.get hx
    obtain ⟨u2, hu2, ru2⟩ := rv2.get hy
    have hzl : z < s.heap.objs.size := Heap.lt_size hz
    have hh : X.A.in1.handled = none := I.ok.hd hc
    have lt1 : i < its.toArray.size := by rw [List.size_toArray]; exact (List.getElem?_eq_some_iff.mp hu).1
    have lt2 : i < its2.toArray.size := by rw [List.size_toArray]; exact (List.getElem?_eq_some_iff.mp hu2).1
    refine wpAny_pyNext_zipD2_item (sep_of D) (drawsK t1 hh i1 a D.l1i1 its.toArray) (drawsK t2 hh i2 b D.l2i2 its2.toArray) hz hTI hTO ⟨h1, p⟩ ⟨h2, p2⟩ lt1 lt2 fun v1 v2 h' tk P1 P2 z' TO' h1' h2' hT hsz hk => ?_
    have e1 : v1 = u := by simpa [hu] using P1.symm
    have e2 : v2 = u2 := by simpa [hu2] using P2.symm
    subst e1 e2
    refine ⟨_, rfl, wpAny_letOwnedTupleGo_zip (s := { s with heap := h', toks := tk }) z' fun h'' z'' sb => ?_⟩
    have hT2 : h''.get? s.heap.objs.size = some { cls := .type "tuple", data := .seq #[v1, v2] } := (sb.2 _ (Nat.ne_of_gt hzl)).trans hT
    have new : ObjOk X.prog X.w (upd H s.heap.objs.size (.tup [x, y])) h'' s.heap.objs.size (.tup [x, y]) :=
      ⟨by show 2 ≤ sizeLine; decide, [v1, v2], .cons ru (.cons ru2 .nil), ⟨_, hT2, rfl, _, rfl⟩⟩
    have I1 : Inv X pins σ (upd H s.heap.objs.size (.tup [x, y])) { s with heap := h'', toks := tk } :=
      I.turnedNew (ch := [z, TI, TO, i1, i2]) (fun c o hb q => (sb.2 c (fun q' => hb (by simp [q']))).trans (hk c o (fun q' => hb (by simp [q'])) (fun q' => hb (by simp [q'])) (fun q' => hb (by simp [q'])) (fun q' => hb (by simp [q'])) q)) hf (Nat.le_refl _) new
    refine ⟨.ref s.heap.objs.size, _, I1, rfl, ⟨_, x, y, rfl, I.hok.fresh (Nat.le_refl _), rfl, fun l hl => by rw [Inv.seK_inj I hl hqx]; exact hx, fun l hl => by rw [Inv.seK_inj I hl hqy]; exact hy⟩, ⟨z'', ?_, ⟨v1, v2, ?_⟩, ?_, ?_⟩, fun c hcm => ?_⟩
    · exact (sb.2 _ D.TIz).trans (hk _ _ D.TIz D.TITO D.TIi1 D.TIi2 hTI)
    · exact (sb.2 _ D.TOz).trans TO'
    · exact h1'.1.kept fun o q => (sb.2 _ D.i1z).trans q
    · exact h2'.1.kept fun o q => (sb.2 _ D.i2z).trans q
    · have hlt : c < s.heap.objs.size := by
        have e' : c = z ∨ c = TI ∨ c = TO ∨ c = i1 ∨ c = i2 := by simpa using hcm
        rcases e' with q | q | q | q | q
        · rw [q]; exact hzl
        · rw [q]; exact Heap.lt_size hTI
        · rw [q]; exact Heap.lt_size hTO
        · rw [q]; obtain ⟨_, e1, _⟩ := h1.obj; exact Heap.lt_size e1
        · rw [q]; obtain ⟨_, e2, _⟩ := h2.obj; exact Heap.lt_size e2
      rw [upd_ne (Nat.ne_of_lt hlt)]
      exact (hf c hcm).1
  done := by
    intro X hP hw hK hc i pins s σ H E I hf st hg
    subst hP hw hK
    obtain ⟨hz, hTI, ⟨x0, y0, hTO⟩, h1, h2⟩ := st
    obtain ⟨xs, ys, hqx, hqy, hend⟩ := hg
    obtain ⟨its, rv, p⟩ := Inv.seK I hqx
    obtain ⟨its2, rv2, p2⟩ := Inv.seK I hqy
    have l1 : its.toArray.size = xs.length := by rw [List.size_toArray]; exact rv.length.symm
    have l2 : its2.toArray.size = ys.length := by rw [List.size_toArray]; exact rv2.length.symm
    have hh : X.A.in1.handled = none := I.ok.hd hc
    exact wpAny_pyNext_zipD2_end (sep_of D) (drawsK t1 hh i1 a D.l1i1 its.toArray) (drawsK t2 hh i2 b D.l2i2 its2.toArray) hz hTI hTO ⟨h1, p⟩ ⟨h2, p2⟩ (by omega) (by omega) (by omega) fun h' tk hk => ⟨rfl, I.turnedL (t' := tk) (ch := [z, TI, TO, i1, i2]) (fun c o hb q =>
      hk c o (fun q' => hb (by simp [q'])) (fun q' => hb (by simp [q'])) (fun q' => hb (by simp [q'])) (fun q' => hb (by simp [q'])) q) hf⟩
  self := fun A i s Q E st h => wpAny_pyIter_zip st.1 h
def iZipG (K : PySem.W.Frag) (ta : TA) : TI := fun σ H R => ta σ H fun vs H1 => ∃ t1 t2 a b xs ys, vs = [.ref a, .ref b] ∧ SqK K t1 H1 a xs ∧ SqK K t2 H1 b ys ∧ R (ItzG K t1 t2 a b) H1
theorem pi_zipG {X : Cx} {e e2 : Expr} {ta : TA} {p pos tpos : Pos} {elts : List Expr} {kk : Nat} (hg : Gl X "zip") (hm : X.mg "zip" = none) (ha : PA X [e, e2] ta)
    (hs : starEach [e, e2] X.env = (false, eval e X.env) :: starEach [e2] X.env := by rfl) (hpl : (backTo pos (starEach [e2] X.env)).any (·.1) = false := by rfl) :
    PI X (.Tuple elts kk tpos) (.Call (.Name "zip" p) [e, e2] [] pos) (iZipG X.K ta) := by
  refine ⟨fun pins s σ H R I h => ?_⟩
  refine Call_ (ld_blt I hg hm PyProof.Rows.boot_zip (PyProof.Rows.callWith_type1 (thn (ha.run pos pins s σ H _ I h) fun us s1 ⟨vs, H1, I1, r1, q1⟩ => ?_) hs hpl))
  obtain ⟨t1, t2, a, b, xs, ys, ex, hqx, hqy, q⟩ := q1
  subst ex
  cases r1 with
  | cons r rr =>
    cases rr with
    | cons r' rr =>
      cases rr
      cases r
      cases r'
      have fresh5 : ∀ c, c ∈ [s1.heap.objs.size + 4, s1.heap.objs.size + 2, s1.heap.objs.size + 3, s1.heap.objs.size, s1.heap.objs.size + 1] → FpOk X pins H1 c := fun c hcm => by
        have e' : c = s1.heap.objs.size + 4 ∨ c = s1.heap.objs.size + 2 ∨ c = s1.heap.objs.size + 3 ∨ c = s1.heap.objs.size ∨ c = s1.heap.objs.size + 1 := by simpa using hcm
        have hle : s1.heap.objs.size ≤ c := by
          rcases e' with z | z | z | z | z
          · rw [z]; exact Nat.le_add_right _ _
          · rw [z]; exact Nat.le_add_right _ _
          · rw [z]; exact Nat.le_add_right _ _
          · rw [z]; exact Nat.le_refl _
          · rw [z]; exact Nat.le_add_right _ _
        exact I1.fpOk hle (I1.hok.fresh hle)
      obtain ⟨its, rv, p1⟩ := Inv.seK I1 hqx
      obtain ⟨its2, rv2, p2⟩ := Inv.seK I1 hqy
      refine zip_begins2 (beginsK t1 a its.toArray) (beginsK t2 b its2.toArray) p1 p2 fun h' hz hTI hTO h1 h2 hsz hk => wpAny_pyIter_zip hz ?_
      have I2 : Inv X pins σ H1 { s1 with heap := h' } := I1.kept (t' := s1.toks) hk
      exact ⟨s1.heap.objs.size + 4, [s1.heap.objs.size + 4, s1.heap.objs.size + 2, s1.heap.objs.size + 3, s1.heap.objs.size, s1.heap.objs.size + 1], _, _, H1, rfl, I2, turn_zipG t1 t2 (PySem.W.ktu_apart s1.heap.objs.size a b p1.lt p2.lt), ⟨hz, hTI, ⟨_, _, hTO⟩, itK_new t1 h1, itK_new t2 h2⟩, fresh5, q⟩
/-! ### enumerate -/
theorem meets_enum1 {v : Value} {o : Obj} {H : Heap → Prop} (B : Begins v o H) :
    Meets (Builtin.«enumerate.__new__» ⟨[.type "enumerate", v], []⟩) (fun _ R s => H s.heap ∧
      R (.ok (.ret (.ref (s.heap.push o).objs.size))) { s with heap := (s.heap.push o).push { cls := .type "enumerate", data := .fields #[.none, .bool false, .ref s.heap.objs.size, rawInt 0, .none, .none] } }) :=
  .of_wp fun prog w A R s h => by
    obtain ⟨hp, g, d, tk, os⟩ := s; obtain ⟨h1, h⟩ := h
    have hsub := sub_enumerate
    have q1 : ∀ {A' : Around} {E : Value → Shared → Prop} {Q : Value → Shared → Prop}, Q (.ref hp.objs.size) ⟨hp.push o, g, d, tk, os⟩ → wpAny (model prog w) A' (pyIter v) Q E ⟨hp, g, d, tk, os⟩ :=
      fun q => B.iter prog w _ _ ⟨hp, g, d, tk, os⟩ _ h1 q
    wp_walk using q1
    refine wpAny_stack_any fun st => wpAny_pure ?_
    split
    · rename_i c _ _ _ _ _
      cases (c == Value.type "enumerate")
      · wp_walk using q1
        exact ⟨_, rfl, h⟩
      · wp_walk using q1
        exact ⟨_, rfl, h⟩
    · wp_walk using q1
      exact ⟨_, rfl, h⟩
theorem call_enum1 {prog : Program} {w : World} {A : Around} {E : Value → Shared → Prop} {s : Shared} {v : Value} {o : Obj} {H : Heap → Prop} {Q : Value → Shared → Prop} (B : Begins v o H) (h1 : H s.heap)
    (h : ∀ h', IsEnum h' (s.heap.objs.size + 1) s.heap.objs.size 0 .none → h'.get? s.heap.objs.size = some o → h'.objs.size = s.heap.objs.size + 2 →
      (∀ b o, s.heap.get? b = some o → h'.get? b = some o) → Q (.ref (s.heap.objs.size + 1)) { s with heap := h' }) :
    wpAny (model prog w) A (call (.type "enumerate") [v]) Q E s := by
  refine callType_new F.called_enumerate (by decide) (F.typeCall_enumerate_1 _) (F.newCall_enumerate_1 _) (fun obj => F.args_object_init_2 obj _) F.entry_enumerate_new (meets_enum1 B) ⟨h1, ?_⟩
  have hz : (s.heap.push o).objs.size = s.heap.objs.size + 1 := Heap.size_push ..
  show _ ∧ _
  rw [hz]
  have he := Heap.get?_push_size (s.heap.push o) (o := { cls := .type "enumerate", data := .fields #[.none, .bool false, .ref s.heap.objs.size, rawInt 0, .none, .none] }) rfl
  rw [hz] at he
  exact ⟨⟨_, he, rfl⟩, h _ he (Heap.get?_push_of_some _ (Heap.get?_push_size _ B.free)) (by rw [Heap.size_push, hz]) fun b o x => Heap.get?_push_of_some _ (Heap.get?_push_of_some _ x)⟩
def IteG (K : PySem.W.Frag) (t : Bool) (a : Addr) : It :=
  ⟨fun i H => ∃ (xs : List V) (x : V), SqK K t H a xs ∧ xs[i]? = some x, fun i H v H' => ∃ T x, v = .ref T ∧ H T = none ∧ H' = upd H T (.tup [.int (i : Nat), x]) ∧ ∀ xs, SqK K t H a xs → xs[i]? = some x, fun i H => ∃ xs : List V, SqK K t H a xs ∧ i = xs.length⟩
theorem turn_enumG {P : Program} {w : World} {K : PySem.W.Frag} {elts : List Expr} {kk : Nat} {tpos : Pos} (t : Bool) (a e it : Addr) :
    Turn P w K (.Tuple elts kk tpos) (IteG K t a) [e, it] e (fun i h => (∃ old, IsEnum h e it ((i : Nat) : Int) old) ∧ ItK t h it a i ∧ e ≠ it ∧ e ≠ a ∧ it ≠ a) where
  mem := by simp
  obj := fun i h st b hb => by
    obtain ⟨⟨old, he⟩, h1, _⟩ := st
    have e' : b = e ∨ b = it := by simpa using hb
    rcases e' with z | z
    · rw [z]; exact ⟨_, he, fun v q => nomatch q⟩
    · rw [z]; exact h1.obj
  keep := fun i h h' st k => let ⟨⟨old, he⟩, hi, hne⟩ := st; ⟨⟨old, k e (by simp) _ he⟩, hi.kept fun o q => k it (by simp) o q, hne⟩
  item := by
    intro X hP hw hK hc i pins s σ H E I hf st hg
    subst hP hw hK
    obtain ⟨⟨old, he⟩, hit, hne, hea, hia⟩ := st
    obtain ⟨xs, x, hq, hx⟩ := hg
    obtain ⟨its, rv, p⟩ := Inv.seK I hq
    obtain ⟨u, hu, ru⟩ := rv.get hx
    have hel : e < s.heap.objs.size := Heap.lt_size he
    have hil : it < s.heap.objs.size := by obtain ⟨_, q, _⟩ := hit.obj; exact Heap.lt_size q
    have hh : X.A.in1.handled = none := I.ok.hd hc
    have lt : i < its.toArray.size := by rw [List.size_toArray]; exact (List.getElem?_eq_some_iff.mp hu).1
    refine wpAny_pyNext_enum_itemC (drawsK t hh it a (Ne.symm hia) its.toArray) he ⟨hit, p⟩ lt hne (by simp [hne, hea]) fun v h' tk Pv ho hit' hT hsz hk => ?_
    have ev : v = u := by simpa [hu] using Pv.symm
    subst ev
    refine ⟨_, rfl, wpAny_letOwnedTupleGo_enum (s := { s with heap := h', toks := tk + 1 }) ho fun h'' he' sb => ?_⟩
    have hT2 : h''.get? s.heap.objs.size = some { cls := .type "tuple", data := .seq #[.int i tk, v] } := (sb.2 _ (Nat.ne_of_gt hel)).trans hT
    have new : ObjOk X.prog X.w (upd H s.heap.objs.size (.tup [.int (i : Nat), x])) h'' s.heap.objs.size (.tup [.int (i : Nat), x]) :=
      ⟨by show 2 ≤ sizeLine; decide, [.int i tk, v], .cons ⟨_, rfl⟩ (.cons ru .nil), ⟨_, hT2, rfl, _, rfl⟩⟩
    have I1 : Inv X pins σ (upd H s.heap.objs.size (.tup [.int (i : Nat), x])) { s with heap := h'', toks := tk + 1 } :=
      I.turnedNew (ch := [e, it]) (fun b ob hb q => (sb.2 b (fun z => hb (by simp [z]))).trans (hk b ob (fun z => hb (by simp [z])) (fun z => hb (by simp [z])) q)) hf (Nat.le_refl _) new
    refine ⟨.ref s.heap.objs.size, _, I1, rfl, ⟨_, x, rfl, I.hok.fresh (Nat.le_refl _), rfl, fun ys hy => by rw [Inv.seK_inj I hy hq]; exact hx⟩, ⟨⟨v, ?_⟩, hit'.1.kept fun o q => (sb.2 it (Ne.symm hne)).trans q, hne, hea, hia⟩, fun b hb => ?_⟩
    · have e1 : ((i + 1 : Nat) : Int) = (i : Int) + 1 := by omega
      rw [e1]; exact he'
    · have hb' : b < s.heap.objs.size := by
        have e' : b = e ∨ b = it := by simpa using hb
        rcases e' with z | z
        · rw [z]; exact hel
        · rw [z]; exact hil
      rw [upd_ne (Nat.ne_of_lt hb')]
      exact (hf b hb).1
  done := by
    intro X hP hw hK hc i pins s σ H E I hf st hg
    subst hP hw hK
    obtain ⟨⟨old, he⟩, hit, hne, hea, hia⟩ := st
    obtain ⟨xs, hq, hx⟩ := hg
    obtain ⟨its, rv, p⟩ := Inv.seK I hq
    have hl : its.toArray.size = i := by rw [List.size_toArray, hx]; exact rv.length.symm
    have hh : X.A.in1.handled = none := I.ok.hd hc
    exact wpAny_pyNext_enum_endD (drawsK t hh it a (Ne.symm hia) its.toArray) he ⟨by rw [hl]; exact hit, p⟩ fun h' eb => ⟨rfl, I.turnedL (t' := s.toks) (ch := [e, it]) (fun b o hb q => eb b o (fun z => hb (by simp [z])) q) hf⟩
  self := fun A i s Q E st h => let ⟨⟨_, he⟩, _⟩ := st; wpAny_pyIter_enum he h
def iEnumG (K : PySem.W.Frag) (ta : TA) : TI := fun σ H R => ta σ H fun vs H1 => ∃ t a xs, vs = [.ref a] ∧ SqK K t H1 a xs ∧ R (IteG K t a) H1
theorem pi_enumG {X : Cx} {e : Expr} {ta : TA} {p pos tpos : Pos} {elts : List Expr} {kk : Nat} (hg : Gl X "enumerate") (hm : X.mg "enumerate" = none) (ha : PA X [e] ta) (hs : starEach [e] X.env = [(false, eval e X.env)] := by rfl) :
    PI X (.Tuple elts kk tpos) (.Call (.Name "enumerate" p) [e] [] pos) (iEnumG X.K ta) := by
  refine ⟨fun pins s σ H R I h => ?_⟩
  refine Call_ (ld_blt I hg hm boot_enumerate (PyProof.Rows.callWith_type1 (thn (ha.run pos pins s σ H _ I h) fun us s1 ⟨vs, H1, I1, r1, q1⟩ => ?_) hs rfl))
  obtain ⟨t, a, xs, ex, hq, q⟩ := q1
  subst ex
  cases r1 with
  | cons r rr =>
    cases rr
    cases r
    obtain ⟨its, rv, p'⟩ := Inv.seK I1 hq
    have hal : a < s1.heap.objs.size := p'.lt
    refine call_enum1 (beginsK t a its.toArray) p' fun h' he hit hsz hk => wpAny_pyIter_enum he ?_
    have I2 : Inv X pins σ H1 { s1 with heap := h' } := I1.kept (t' := s1.toks) hk
    refine ⟨s1.heap.objs.size + 1, [s1.heap.objs.size + 1, s1.heap.objs.size], _, _, H1, rfl, I2, turn_enumG t a (s1.heap.objs.size + 1) s1.heap.objs.size, ⟨⟨.none, he⟩, itK_new t hit, Nat.succ_ne_self _, ?_, Nat.ne_of_gt hal⟩, fun b hb => ?_, q⟩
    · exact Nat.ne_of_gt (Nat.lt_succ_of_lt hal)
    · have e' : b = s1.heap.objs.size + 1 ∨ b = s1.heap.objs.size := by simpa using hb
      have hle : s1.heap.objs.size ≤ b := by
        rcases e' with z | z
        · rw [z]; exact Nat.le_add_right _ _
        · rw [z]; exact Nat.le_refl _
      exact I1.fpOk hle (I1.hok.fresh hle)
/-! ### the two as rules -/
@[simp] def dSq (d : D) : Res (List D) := match d with
  | .lst ds => .ok ds
  | .rol ds => .ok ds
  | .tup ds => .ok ds
  | _ => .bad
def zipD : List D → List D → List D
  | x :: xs, y :: ys => .tup [x, y] :: zipD xs ys
  | _, _ => []
def enumD (i : Nat) : List D → List D
  | [] => []
  | x :: xs => .tup [.int (i : Int), x] :: enumD (i + 1) xs
@[simp] def gZip (ds : List D) : Res (List D) := match ds with
  | [d, e] => (dSq d).bind fun xs => (dSq e).bind fun ys => .ok (zipD xs ys)
  | _ => .bad
@[simp] def gEnum (ds : List D) : Res (List D) := match ds with
  | [d] => (dSq d).bind fun xs => .ok (enumD 0 xs)
  | _ => .bad
@[simp] def iZip (fs : Sl → Res (List D)) (ρ : Sl) : Res (List D) := (fs ρ).bind gZip
@[simp] def iEnu (fs : Sl → Res (List D)) (ρ : Sl) : Res (List D) := (fs ρ).bind gEnum
theorem zipD_get : ∀ {xs ys : List D} {i : Nat} {d : D}, (zipD xs ys)[i]? = some d → ∃ x y, xs[i]? = some x ∧ ys[i]? = some y ∧ d = .tup [x, y]
  | [], _, _, _, h => by simp [zipD] at h
  | _ :: _, [], _, _, h => by simp [zipD] at h
  | x :: xs, y :: ys, 0, d, h => by
    simp [zipD] at h
    exact ⟨x, y, rfl, rfl, h.symm⟩
  | x :: xs, y :: ys, i + 1, d, h => by
    simp [zipD] at h
    simpa using zipD_get h
theorem zipD_len : ∀ (xs ys : List D), (zipD xs ys).length = min xs.length ys.length
  | [], _ => by simp [zipD]
  | _ :: _, [] => by simp [zipD]
  | x :: xs, y :: ys => by
    simp only [zipD, List.length_cons, zipD_len xs ys]
    omega
theorem enumD_get : ∀ {xs : List D} {j i : Nat} {d : D}, (enumD j xs)[i]? = some d → ∃ x, xs[i]? = some x ∧ d = .tup [.int ((j + i : Nat) : Int), x]
  | [], _, _, _, h => by simp [enumD] at h
  | x :: xs, j, 0, d, h => by
    simp [enumD] at h
    exact ⟨x, rfl, by simpa using h.symm⟩
  | x :: xs, j, i + 1, d, h => by
    simp only [enumD, List.getElem?_cons_succ] at h
    obtain ⟨y, h1, h2⟩ := enumD_get h
    exact ⟨y, by simpa using h1, by rw [h2]; congr 3; omega⟩
theorem enumD_len : ∀ (xs : List D) (j : Nat), (enumD j xs).length = xs.length
  | [], _ => rfl
  | x :: xs, j => by simp [enumD, enumD_len xs]
section
variable {K : Frg} {mg : Mg} {S : Hp} {v : V} {d : D} {ds : List D}
theorem Rp.sq (h : Rp K mg S v d) (e : dSq d = .ok ds) : ∃ t a vs, v = .ref a ∧ SqK K t S a vs ∧ RpA K mg S vs ds := by
  cases d <;> cases e
  · cases h with
    | lst a b => exact ⟨false, _, _, rfl, SqL.of a, b⟩
  · cases h with
    | rol a b => exact ⟨false, _, _, rfl, a, b⟩
  · cases h with
    | tup a b => exact ⟨true, _, _, rfl, a, b⟩
theorem same_k {t : Bool} {H H' : Hp} {a : Addr} {vs : List V} (e : Same H H') (h : SqK K t H a vs) : SqK K t H' a vs := by
  cases t with
  | false => exact same_l e h
  | true => exact same_t e h
theorem itd_zip {t1 t2 : Bool} {a b : Addr} {vs ws : List V} {xs ys : List D} (h1 : SqK K t1 S a vs) (r1 : RpA K mg S vs xs) (h2 : SqK K t2 S b ws) (r2 : RpA K mg S ws ys) : ItD K mg S (ItzG K t1 t2 a b) (zipD xs ys) where
  go := fun S' H i d s1 s2 e => by
    obtain ⟨x, y, e1, e2, rfl⟩ := zipD_get e
    obtain ⟨v, k1, k2⟩ := (r1.up s1 _ _).get e1
    obtain ⟨w, k3, k4⟩ := (r2.up s1 _ _).get e2
    have q1 : SqK K t1 H a vs := same_k (s1.trans s2) h1
    have q2 : SqK K t2 H b ws := same_k (s1.trans s2) h2
    refine ⟨⟨vs, ws, v, w, q1, q2, k1, k3⟩, fun z H' ⟨T, x', y', z1, z2, z3, z4, z5⟩ => ?_⟩
    have e3 := z4 vs q1
    rw [k1] at e3
    cases e3
    have e4 := z5 ws q2
    rw [k3] at e4
    cases e4
    subst z1 z3
    have up : Same S' (upd S' T (.tup [v, w])) := same_new (same_none s2 z2)
    exact ⟨_, Gr.new s2 z2, .tup (SqT.of upd_same) (.cons (k2.up up _ _) (.cons (k4.up up _ _) .nil))⟩
  stop := fun S' H s1 s2 => ⟨vs, ws, same_k (s1.trans s2) h1, same_k (s1.trans s2) h2, by rw [zipD_len, r1.len, r2.len]⟩
theorem itd_enum {t : Bool} {a : Addr} {vs : List V} {xs : List D} (h1 : SqK K t S a vs) (r1 : RpA K mg S vs xs) : ItD K mg S (IteG K t a) (enumD 0 xs) where
  go := fun S' H i d s1 s2 e => by
    obtain ⟨x, e1, rfl⟩ := enumD_get e
    obtain ⟨v, k1, k2⟩ := (r1.up s1 _ _).get e1
    have q1 : SqK K t H a vs := same_k (s1.trans s2) h1
    refine ⟨⟨vs, v, q1, k1⟩, fun z H' ⟨T, x', z1, z2, z3, z4⟩ => ?_⟩
    have e3 := z4 vs q1
    rw [k1] at e3
    cases e3
    subst z1 z3
    have up : Same S' (upd S' T (.tup [.int (i : Nat), v])) := same_new (same_none s2 z2)
    rw [Nat.zero_add]
    exact ⟨_, Gr.new s2 z2, .tup (SqT.of upd_same) (.cons (.int _) (.cons (k2.up up _ _) .nil))⟩
  stop := fun S' H s1 s2 => ⟨vs, same_k (s1.trans s2) h1, by rw [enumD_len, r1.len]⟩
end
section
variable {X : Cx} {hx : Hx} {W : WX} {e e2 : Expr} {elts : List Expr} {kk : Nat} {p pos tpos : Pos} {fs : Sl → Res (List D)}
theorem mi_zip (hg : Gl X "zip") (hm : X.mg "zip" = none) (ha : MA X hx W [e, e2] fs) (hs : starEach [e, e2] X.env = (false, eval e X.env) :: starEach [e2] X.env := by rfl) (hpl : (backTo pos (starEach [e2] X.env)).any (·.1) = false := by rfl) : MI X hx W (.Tuple elts kk tpos) (.Call (.Name "zip" p) [e, e2] [] pos) (iZip fs) :=
  pi_imp (pi_zipG hg hm ha hs hpl) fun σ H Q ⟨b, S, ρ, R, q⟩ => ⟨b, S, ρ, R, q.bind fun d v S1 H1 g1 r1 k => by
    unfold gZip at k
    split at k
    · rename_i d1 d2
      obtain ⟨v1, v2, rfl, q1, q2⟩ := r1.two
      cases e1 : dSq d1 with
      | exc _ _ => cases d1 <;> cases e1
      | bad => rw [e1] at k; exact k.elim
      | ok xs =>
        cases e2 : dSq d2 with
        | exc _ _ => cases d2 <;> cases e2
        | bad => rw [e1, Res.bind_ok, e2] at k; exact k.elim
        | ok ys =>
          rw [e1, Res.bind_ok, e2, Res.bind_ok] at k
          obtain ⟨t1, a1, vs, rfl, z1, z2⟩ := q1.sq e1
          obtain ⟨t2, a2, ws, rfl, z3, z4⟩ := q2.sq e2
          exact ⟨t1, t2, a1, a2, vs, ws, rfl, same_k g1.i z1, same_k g1.i z3, k _ S1 H1 g1 (itd_zip z1 z2 z3 z4)⟩
    · exact k.elim⟩
theorem mi_enum (hg : Gl X "enumerate") (hm : X.mg "enumerate" = none) (ha : MA X hx W [e] fs) (hs : starEach [e] X.env = [(false, eval e X.env)] := by rfl) : MI X hx W (.Tuple elts kk tpos) (.Call (.Name "enumerate" p) [e] [] pos) (iEnu fs) :=
  pi_imp (pi_enumG hg hm ha hs) fun σ H Q ⟨b, S, ρ, R, q⟩ => ⟨b, S, ρ, R, q.bind fun d v S1 H1 g1 r1 k => by
    unfold gEnum at k
    split at k
    · rename_i d1
      obtain ⟨v1, rfl, q1⟩ := r1.one
      cases e1 : dSq d1 with
      | exc _ _ => cases d1 <;> cases e1
      | bad => rw [e1] at k; exact k.elim
      | ok xs =>
        rw [e1, Res.bind_ok] at k
        obtain ⟨t1, a1, vs, rfl, z1, z2⟩ := q1.sq e1
        exact ⟨t1, a1, vs, rfl, same_k g1.i z1, k _ S1 H1 g1 (itd_enum z1 z2)⟩
    · exact k.elim⟩
end
end PF

set_option Elab.async false
set_option linter.all false
set_option maxRecDepth 100000
set_option maxHeartbeats 4000000
/-! A list of a slot's own, lent for the time of one expression; more of lists. -/
namespace PF
open PySem PySem.Spec L2 PyProof.Rows
mutual
/-- no list in it -/
def nol : D → Bool
  | .non => true
  | .bl _ => true
  | .int _ => true
  | .str _ => true
  | .tup ds => nolA ds
  | _ => false
def nolA : List D → Bool
  | [] => true
  | d :: ds => nol d && nolA ds
end
@[simp] theorem nol_non : nol .non = true := by simp [nol]
@[simp] theorem nol_bl (b : Bool) : nol (.bl b) = true := by simp [nol]
@[simp] theorem nol_int (i : Int) : nol (.int i) = true := by simp [nol]
@[simp] theorem nol_str (x : Str) : nol (.str x) = true := by simp [nol]
@[simp] theorem nol_tup (ds : List D) : nol (.tup ds) = nolA ds := by simp [nol]
@[simp] theorem nolA_nil : nolA [] = true := by simp [nolA]
@[simp] theorem nolA_cons (d : D) (ds : List D) : nolA (d :: ds) = (nol d && nolA ds) := by simp [nolA]
@[simp] theorem nolA_app : ∀ (ds es : List D), nolA (ds ++ es) = (nolA ds && nolA es)
  | [], es => by simp
  | d :: ds, es => by simp [nolA_app ds es, Bool.and_assoc]
@[simp] theorem nolA_ints : ∀ ns : List Int, nolA (ns.map D.int) = true
  | [] => by simp
  | n :: ns => by simp [nolA_ints ns]
/-- the shared part without the list at p -/
def less (S : Hp) (p : Addr) : Hp := fun a => if a = p then none else S a
section
variable {K : Frg} {mg : Mg} {S : Hp} {p : Addr} {ws : List V}
theorem less_ne {a : Addr} (h : a ≠ p) : less S p a = S a := if_neg h
theorem less_self : less S p p = none := if_pos rfl
theorem less_tup {a : Addr} {xs : List V} (hp : S p = some (.lst ws)) (h : SqT K S a xs) : SqT K (less S p) a xs := by
  rcases h with h | h
  · rcases h with h | ⟨o, h⟩
    · refine .inl (.inl ?_)
      rw [less_ne (fun e => by subst e; rw [hp] at h; cases h)]
      exact h
    · refine .inl (.inr ⟨o, ?_⟩)
      rw [less_ne (fun e => by subst e; rw [hp] at h; cases h)]
      exact h
  · exact .inr h
mutual
theorem Rp.less (hp : S p = some (.lst ws)) : ∀ (d : D) (v : V), nol d = true → Rp K mg S v d → Rp K mg (PF.less S p) v d
  | .non, _, _, h => by cases h; exact .non
  | .bl _, _, _, h => by cases h; exact .bl _
  | .int _, _, _, h => by cases h; exact .int _
  | .str _, _, _, h => by cases h; exact .str _
  | .tup ds, _, n, h => by
    cases h with
    | tup a b => exact .tup (less_tup hp a) (RpA.less hp ds _ (by simpa using n) b)
  | .lst _, _, n, _ => by cases n
  | .rol _, _, n, _ => by cases n
  | .obj _ _ _, _, n, _ => by cases n
  | .fr _, _, n, _ => by cases n
theorem RpA.less (hp : S p = some (.lst ws)) : ∀ (ds : List D) (vs : List V), nolA ds = true → RpA K mg S vs ds → RpA K mg (PF.less S p) vs ds
  | [], _, _, h => by cases h; exact .nil
  | d :: ds, _, n, h => by
    have n' : nol d = true ∧ nolA ds = true := by simpa using n
    cases h with
    | cons a b => exact .cons (Rp.less hp d _ n'.1 a) (RpA.less hp ds _ n'.2 b)
end
theorem Gr.less {H S2 H2 : Hp} (h0 : S p = none) (h1 : H p ≠ none) (g : Gr (upd S p (.lst ws)) H S2 H2) : Gr S H (PF.less S2 p) H2 where
  s := fun a o e => by
    have q : a ≠ p := fun z => by rw [z, h0] at e; cases e
    rw [less_ne q]
    exact g.s a o (by rw [upd_ne q]; exact e)
  h := g.h
  i := fun a o e => by
    have q : a ≠ p := fun z => by rw [z, less_self] at e; cases e
    rw [less_ne q] at e
    exact g.i a o e
  n := fun a ha e => by
    by_cases q : a = p
    · rw [q]; exact less_self
    · rw [less_ne q]
      exact g.n a ha (by rw [upd_ne q]; exact e)
end
/-- lend the list of slot i to f -/
def lend {α : Type} (i : Nat) (ok : α → Bool) (f : Sl → Res α) (ρ : Sl) : Res α := match ρ[i]? with
  | some (.o ds) => (f (ρ.set i (.v (.lst ds)))).nx.bind fun a => if ok a then .ok a else .bad
  | _ => f ρ
@[simp] def sLend (i : Nat) (f : Sl → Res D) (ρ : Sl) : Res D := match ρ[i]? with
  | some (.o ds) => (f (ρ.set i (.v (.lst ds)))).nx.bind fun a => if nol a then .ok a else .bad
  | _ => f ρ
@[simp] def fLend (i : Nat) (f : Sl → Res (List D)) (ρ : Sl) : Res (List D) := match ρ[i]? with
  | some (.o ds) => (f (ρ.set i (.v (.lst ds)))).nx.bind fun a => if nolA a then .ok a else .bad
  | _ => f ρ
@[simp] def tLend (i : Nat) (f : Sl → Res Bool) (ρ : Sl) : Res Bool := match ρ[i]? with
  | some (.o ds) => (f (ρ.set i (.v (.lst ds)))).nx
  | _ => f ρ
@[simp] theorem nx_ok {α : Type} (a : α) : (Res.ok a).nx = .ok a := rfl
/-- the list of slot i is shared, and at which place it stands -/
theorem Rel.freezeP {K : Frg} {mg : Mg} {hx : Hx} {b : Bs} {S H : Hp} {ρ : Sl} {σ : L2.St} (R : Rel K mg hx b S ρ σ H) {i : Nat} {ds : List D} (e : ρ[i]? = some (.o ds)) : ∃ p vs, H p = some (.lst vs) ∧ S p = none ∧ Rel K mg hx b (upd S p (.lst vs)) (ρ.set i (.v (.lst ds))) σ H := by
  obtain ⟨p, vs, q1, q2, q3, q4, q5⟩ := R.own i ds e
  have up : Same S (upd S p (.lst vs)) := same_new q3
  refine ⟨p, vs, q2, q3, R.s0.trans up, fun a o h => ?_, R.h0, fun a h e' => ?_, by simp [R.len], fun j d' e' => ?_, fun j es' e' => ?_, fun j c fs e' => ?_, fun j k ds1 es1 q ne e1 e2 e3 e4 => ?_⟩
  · by_cases z : a = p
    · subst z; rw [upd_same] at h; cases h; exact q2
    · rw [upd_ne z] at h; exact R.sh a o h
  · rw [upd_ne (fun z => by rw [z] at h; exact h q4)]
    exact R.nw a h e'
  · rcases getset e' with ⟨rfl, h2, _⟩ | ⟨h1, h2⟩
    · cases h2
      exact ⟨_, q1, .lst upd_same (q5.up up ds vs)⟩
    · obtain ⟨v', h3, h4⟩ := R.val j d' h2
      exact ⟨v', h3, h4.up up _ _⟩
  · rcases getset e' with ⟨_, h2, _⟩ | ⟨h1, h2⟩
    · cases h2
    · obtain ⟨p2, vs2, h3, h4, h5, h6, h7⟩ := R.own j es' h2
      refine ⟨p2, vs2, h3, h4, ?_, h6, h7.up up _ _⟩
      rw [upd_ne (fun z => by subst z; exact R.apart i j ds es' p2 h1 e h2 q1 h3)]
      exact h5
  · rcases getset e' with ⟨_, h2, _⟩ | ⟨h1, h2⟩
    · cases h2
    · obtain ⟨a, C, dx, z1, z2, z3, z4⟩ := R.xc j c fs h2
      exact ⟨a, C, dx, z1, z2, z3, z4.keep up fun _ _ z => z⟩
  · rcases getset e1 with ⟨_, h2, _⟩ | ⟨h1, h2⟩
    · cases h2
    · rcases getset e2 with ⟨_, h4, _⟩ | ⟨h3, h4⟩
      · cases h4
      · exact R.apart j k ds1 es1 q ne h2 h4 e3 e4
theorem lend_imp {α β : Type} {K : Frg} {mg : Mg} {hx : Hx} {RX : RR α β} {W : WX} {i : Nat} {f f' : Sl → Res β} {σ : L2.St} {H : Hp} {Q : α → Hp → Prop} (ok : β → Prop)
    (e0 : ∀ ρ, (∀ ds, ρ[i]? ≠ some (.o ds)) → f' ρ = f ρ) (e1 : ∀ ρ ds, ρ[i]? = some (.o ds) → f' ρ = .bad ∨ ∃ a, f (ρ.set i (.v (.lst ds))) = .ok a ∧ ok a ∧ f' ρ = .ok a)
    (hr : ∀ S S2 H2 p vs v a, S p = none → H p = some (.lst vs) → Gr (upd S p (.lst vs)) H S2 H2 → ok a → RX H S2 H2 v a → RX H (less S2 p) H2 v a) (h : tG K mg hx RX W f' σ H Q) : tG K mg hx RX W f σ H Q := by
  obtain ⟨b, S, ρ, R, q⟩ := h
  by_cases hc : ∃ ds, ρ[i]? = some (.o ds)
  · obtain ⟨ds, e⟩ := hc
    obtain ⟨p, vs, k1, k2, R'⟩ := R.freezeP e
    refine ⟨b, _, _, R', ?_⟩
    rcases e1 ρ ds e with z | ⟨a, z1, z2, z3⟩
    · rw [z] at q; exact q.elim
    · rw [z1]
      rw [z3] at q
      intro v S2 H2 g r
      exact q v (less S2 p) H2 (g.less k2 (by rw [k1]; simp)) (hr S S2 H2 p vs v a k2 k1 g z2 r)
  · exact ⟨b, S, ρ, R, by rw [← e0 ρ fun ds e => hc ⟨ds, e⟩]; exact q⟩
section
variable {X : Cx} {hx : Hx} {W : WX} {e : Expr}
theorem nxb {α : Type} {ok : α → Bool} {r : Res α} : (r.nx.bind fun a => if ok a then .ok a else .bad) = .bad ∨ ∃ a, r = .ok a ∧ ok a = true ∧ (r.nx.bind fun a => if ok a then Res.ok a else .bad) = .ok a := by
  cases r with
  | ok a =>
    cases h : ok a with
    | true => exact .inr ⟨a, rfl, h, by simp [h]⟩
    | false => exact .inl (by simp [h])
  | exc _ _ => exact .inl rfl
  | bad => exact .inl rfl
theorem me_lend (i : Nat) {f : Sl → Res D} (h : ME X hx W e f) : ME X hx W e (sLend i f) := pe_imp h fun σ H Q q => lend_imp (i := i) (f' := sLend i f) (fun d => nol d = true)
  (fun ρ hn => by
    unfold sLend
    split
    · rename_i ds e; exact absurd e (hn ds)
    · rfl)
  (fun ρ ds e => by
    have e2 : sLend i f ρ = (f (ρ.set i (.v (.lst ds)))).nx.bind fun a => if nol a then .ok a else .bad := by unfold sLend; rw [e]
    rw [e2]
    exact nxb)
  (fun S S2 H2 p vs v a k2 k1 g n r => Rp.less (g.s _ _ upd_same) a v n r) q
theorem mf_lend (i : Nat) {f : Sl → Res (List D)} (h : MF X hx W e f) : MF X hx W e (fLend i f) := pe_imp h fun σ H Q q => lend_imp (i := i) (f' := fLend i f) (fun d => nolA d = true)
  (fun ρ hn => by
    unfold fLend
    split
    · rename_i ds e; exact absurd e (hn ds)
    · rfl)
  (fun ρ ds e => by
    have e2 : fLend i f ρ = (f (ρ.set i (.v (.lst ds)))).nx.bind fun a => if nolA a then .ok a else .bad := by unfold fLend; rw [e]
    rw [e2]
    exact nxb)
  (fun S S2 H2 p vs v a k2 k1 g n ⟨p', ws, h1, h2, h3, h4, h5⟩ => ⟨p', ws, h1, h2, by
    by_cases z : p' = p
    · rw [z]; exact less_self
    · rw [less_ne z]; exact h3, h4, RpA.less (g.s _ _ upd_same) a ws n h5⟩) q
theorem mt_lend (i : Nat) {f : Sl → Res Bool} (h : MT X hx W e f) : MT X hx W e (tLend i f) := pt_imp h fun σ H Q q => lend_imp (i := i) (f' := tLend i f) (fun _ => True)
  (fun ρ hn => by
    unfold tLend
    split
    · rename_i ds e; exact absurd e (hn ds)
    · rfl)
  (fun ρ ds e => by
    have e2 : tLend i f ρ = (f (ρ.set i (.v (.lst ds)))).nx := by unfold tLend; rw [e]
    rw [e2]
    cases f (ρ.set i (.v (.lst ds))) with
    | ok a => exact .inr ⟨a, rfl, trivial, rfl⟩
    | exc _ _ => exact .inl rfl
    | bad => exact .inl rfl)
  (fun S S2 H2 p vs v a k2 k1 g n r => r) q
/-- x = [.. for .. in ..] with a list lent -/
theorem ms_setLcL (j i : Nat) {y : Str} {py : Pos} {elt tg iter : Expr} {ifs : List Expr} {scope : Scope} {own : List (Str × Nat)} {pos spos : Pos} {items : Sl → Res (List D)} {is : List Nat} {g : FG} {t : Sl → Res Bool} {f : Sl → Res D} (hc : X.calm = true) (hN : X.N.Nodup)
    (hsw : swapsWith (.ListComp elt [⟨tg, iter, ifs, 0⟩] scope pos) (some (.Name y py)) spos.line X.env = pure true) (hi : MI X hx W tg iter items) (ok : BlkOk X.N X.env.scope scope own)
    (hg : ∀ (s : Shared) (H : Hp) (C : Addr) (cl : List (Str × Addr)) (fp : List Addr), MG (X.blk s H scope (compEnvC scope cl C X.env) fp) hx tg is g) (ht : ∀ (s : Shared) (H : Hp) (C : Addr) (cl : List (Str × Addr)) (fp : List Addr), MTs (X.blk s H scope (compEnvC scope cl C X.env) fp) hx W0 ifs t)
    (he : ∀ (s : Shared) (H : Hp) (C : Addr) (cl : List (Str × Addr)) (fp : List Addr), ME (X.blk s H scope (compEnvC scope cl C X.env) fp) hx W0 elt f) (hy : X.N[i]? = some y := by rfl) (hyl : X.env.scope.names.lookup y = some .local := by rfl) (his : (is.all fun i => (own.map (·.2)).contains i) = true := by decide) (hs : ∀ x, foldedSetIterable iter X.env x = pure x := by intro _; rfl) :
    MS X hx W (.Assign [.Name y py] (.ListComp elt [⟨tg, iter, ifs, 0⟩] scope pos) spos) (gSetO i (fLend j (fLc items g t f (own.map (·.2))))) :=
  ps_imp (ps_setLc hc hN hy hyl hsw hi ok hg ht he hs) fun D σ H ⟨b, S, ρ, R, q⟩ => lc_ok (ts := fun _ _ _ => True) (fun i hi => by
    have h1 := List.all_eq_true.mp his i hi
    simpa using h1) σ H _ (lend_imp (i := j) (f' := fLend j (fLc items g t f (own.map (·.2)))) (fun d => nolA d = true)
  (fun ρ hn => by
    unfold fLend
    split
    · rename_i ds e; exact absurd e (hn ds)
    · rfl)
  (fun ρ ds e => by
    have e2 : fLend j (fLc items g t f (own.map (·.2))) ρ = (fLc items g t f (own.map (·.2)) (ρ.set j (.v (.lst ds)))).nx.bind fun a => if nolA a then .ok a else .bad := by unfold fLend; rw [e]
    rw [e2]
    exact nxb)
  (fun S S2 H2 p vs v a k2 k1 g n ⟨p', ws, h1, h2, h3, h4, h5⟩ => ⟨p', ws, h1, h2, by
    by_cases z : p' = p
    · rw [z]; exact less_self
    · rw [less_ne z]; exact h3, h4, RpA.less (g.s _ _ upd_same) a ws n h5⟩) ⟨b, S, ρ, R, rS_po R q fun d v S1 H1 g1 ⟨p, vs, h1, h2, h3, h4, h5⟩ k => by
      subst h1
      exact k S1 _ H1 g1.s (R.putN g1 h2 h3 h4 h5)⟩)
end
/-! ### more of lists -/
@[simp] def gClr (i : Nat) (ρ : Sl) : Out := match ρ[i]? with
  | some (.o _) => .nx (ρ.set i (.o []))
  | _ => .bad
@[simp] def gExt (i : Nat) (f : Sl → Res (List D)) (ρ : Sl) : Out := match ρ[i]? with
  | some (.o ds) => rS (f ρ) ρ fun es => if ds.length + es.length ≤ 16777216 then .nx (ρ.set i (.o (ds ++ es))) else .bad
  | _ => .bad
section
variable {X : Cx} {hx : Hx} {W : WX} {e : Expr} {pos : Pos}
theorem ms_clr (i : Nat) {x : Str} {p ap ep : Pos} (hv : PE X (.Name x p) (tVar i)) (hs : swapsWith (.Call (.Attribute (.Name x p) "clear" ap) [] [] ep) none pos.line X.env = pure false := by rfl)
    (h : PE X (.Call (.Attribute (.Name x p) "clear" ap) [] [] ep) (tBM0 X.K "list" rClear (tVar i)) := by
      exact pe_bm0 PySem.F.plainAttrs_list PySem.F.slot_list_clear PySem.F.type_list_clear mt_clear (pv _)) :
    MS X hx W (.Expr (.Call (.Attribute (.Name x p) "clear" ap) [] [] ep) pos) (gClr i) := ps_imp (ps_expr h hs) fun D σ H ⟨b, S, ρ, R, q⟩ => by
  unfold gClr at q
  split at q
  · rename_i ds e1
    obtain ⟨p, vs, h1, h2, h3, h4, h5⟩ := R.own i ds e1
    refine ⟨_, h1, .inl ⟨rfl, _, SqL.of h2⟩, ?_⟩
    exact ⟨p, vs, rfl, rfl, h2, q S σ _ (Same.refl _) (R.mut e1 h1 .nil)⟩
  · exact q.elim
theorem ms_ext (i : Nat) {x : Str} {p ap ep : Pos} {f : Sl → Res (List D)} (hv : PE X (.Name x p) (tVar i)) (he : MF X hx W e f) (hs : swapsWith (.Call (.Attribute (.Name x p) "extend" ap) [e] [] ep) none pos.line X.env = pure false := by rfl)
    (h : ∀ {t}, PE X e t → PE X (.Call (.Attribute (.Name x p) "extend" ap) [e] [] ep) (tBM X.K "list" rExtend (tVar i) (tCons t tNil)) := by
      intro t ht; exact pe_bm PySem.F.plainAttrs_list PySem.F.slot_list_extend PySem.F.type_list_extend mt_extend (pv _) (pa_cons ht pa_nil)) :
    MS X hx W (.Expr (.Call (.Attribute (.Name x p) "extend" ap) [e] [] ep) pos) (gExt i f) := ps_imp (ps_expr (h he) hs) fun D σ H ⟨b, S, ρ, R, q⟩ => by
  unfold gExt at q
  split at q
  · rename_i ds e1
    obtain ⟨p, vs, h1, h2, h3, h4, h5⟩ := R.own i ds e1
    refine ⟨_, h1, .inl ⟨rfl, _, SqL.of h2⟩, b, S, ρ, R, rS_po R q fun d v S1 H1 g1 ⟨p', ws, r1, r2, r3, r4, r5⟩ k => ?_⟩
    subst r1
    split at k
    · rename_i hl
      refine ⟨p, p', vs, ws, rfl, rfl, g1.h _ _ h2, r4, sizeLine16 (by rw [h5.len, r5.len]; exact hl), ?_⟩
      exact k S1 σ _ g1.s ((R.grow g1).mut e1 h1 ((h5.up g1.s _ _).app r5))
    · exact k.elim
  · exact q.elim
/-- xs[::-1] -/
@[simp] def fRev (f : Sl → Res D) (ρ : Sl) : Res (List D) := (f ρ).bind fun d => match seqOf d with
  | some xs => .ok xs.reverse
  | none => .bad
theorem mf_rev {f : Sl → Res D} {k : Nat} {p1 p2 p3 : Pos} (he : MR X hx W e f) : MF X hx W (.Subscript e (.Slice none none (some (.UnaryOp .USub (.Constant (.int 1) k p1) p2)) p3) pos) (fRev f) :=
  pe_imp (pe_revL he) fun σ H Q ⟨b, S, ρ, R, q⟩ => ⟨b, S, ρ, R, q.bind fun d v S1 H1 g1 r1 k => by
    split at k
    · rename_i xs e1
      obtain ⟨p, vs, rfl, h1, h2⟩ := r1.seq g1.i e1
      exact ⟨p, vs, rfl, h1, po_newL g1.i h2.rev (Po.upF g1 k)⟩
    · exact k.elim⟩
/-- a, b, c = e1, e2, e3 (local names) -/
@[simp] def gPar3 (i j l : Nat) (f g h : Sl → Res D) (ρ : Sl) : Out := rS (f ρ) ρ fun c => rS (g ρ) ρ fun d => rS (h ρ) ρ fun e => .nx (((ρ.set i (.v c)).set j (.v d)).set l (.v e))
theorem ms_par3 (i j l : Nat) {x y z : Str} {a b c : Expr} {f g h : Sl → Res D} {px py pz pt : Pos} {kt k2 pt2} (hc : X.calm = true) (hN : X.N.Nodup) (ha : ME X hx W a f) (hb : ME X hx W b g) (hcc : ME X hx W c h) (hi : X.N[i]? = some x := by rfl) (hj : X.N[j]? = some y := by rfl) (hl : X.N[l]? = some z := by rfl) (hij : i ≠ j := by decide) (hil : i ≠ l := by decide) (hjl : j ≠ l := by decide)
    (hx' : X.env.scope.names.lookup x = some .local := by rfl) (hy : X.env.scope.names.lookup y = some .local := by rfl) (hz : X.env.scope.names.lookup z = some .local := by rfl)
    (s1 : starEach [a, b, c] X.env = (false, eval a X.env) :: starEach [b, c] X.env := by rfl) (s2 : starEach [b, c] X.env = (false, eval b X.env) :: starEach [c] X.env := by rfl) (s3 : starEach [c] X.env = (false, eval c X.env) :: starEach [] X.env := by rfl)
    (hw : swappedStores [.Tuple [.Name x px, .Name y py, .Name z pz] kt pt] (.Tuple [a, b, c] k2 pt2) X.env = pure (some [x, y, z]) := by rfl)
    (hs : swapsWithSole [.Tuple [.Name x px, .Name y py, .Name z pz] kt pt] (.Tuple [a, b, c] k2 pt2) pos.line X.env = pure false := by rfl) :
    MS X hx W (.Assign [.Tuple [.Name x px, .Name y py, .Name z pz] kt pt] (.Tuple [a, b, c] k2 pt2) pos) (gPar3 i j l f g h) :=
  ps_imp (ps_par3 hc hN hi hj hl hij hil hjl hx' hy hz (pa_cons ha (pa_cons hb (pa_cons hcc pa_nil s3) s2) s1) hw hs) fun D σ H ⟨b, S, ρ, R, q⟩ =>
    ⟨b, S, ρ, R, rS_po R q fun d v S1 H1 g1 r1 k => ⟨b, S1, ρ, R.grow g1, rS_po (R.grow g1) (PoS.up g1.s k) fun d2 v2 S2 H2 g2 r2 k2 => ⟨b, S2, ρ, (R.grow g1).grow g2, rS_po ((R.grow g1).grow g2) (PoS.up g2.s k2) fun d3 v3 S3 H3 g3 r3 k3 =>
      ⟨v, v2, v3, rfl, k3 S3 _ H3 g3.s ((((((R.grow g1).grow g2).grow g3).put (r1.up (g2.s.trans g3.s) _ _)).put (r2.up g3.s _ _)).put r3)⟩⟩⟩⟩
/-- x = [.. for .. in ..], a shared list -/
theorem ms_setLcV (i : Nat) {y : Str} {py : Pos} {elt tg iter : Expr} {ifs : List Expr} {scope : Scope} {own : List (Str × Nat)} {spos : Pos} {items : Sl → Res (List D)} {is : List Nat} {g : FG} {t : Sl → Res Bool} {f : Sl → Res D} (hc : X.calm = true) (hN : X.N.Nodup)
    (hsw : swapsWith (.ListComp elt [⟨tg, iter, ifs, 0⟩] scope pos) (some (.Name y py)) spos.line X.env = pure true) (hi : MI X hx W tg iter items) (ok : BlkOk X.N X.env.scope scope own)
    (hg : ∀ (s : Shared) (H : Hp) (C : Addr) (cl : List (Str × Addr)) (fp : List Addr), MG (X.blk s H scope (compEnvC scope cl C X.env) fp) hx tg is g) (ht : ∀ (s : Shared) (H : Hp) (C : Addr) (cl : List (Str × Addr)) (fp : List Addr), MTs (X.blk s H scope (compEnvC scope cl C X.env) fp) hx W0 ifs t)
    (he : ∀ (s : Shared) (H : Hp) (C : Addr) (cl : List (Str × Addr)) (fp : List Addr), ME (X.blk s H scope (compEnvC scope cl C X.env) fp) hx W0 elt f) (hy : X.N[i]? = some y := by rfl) (hyl : X.env.scope.names.lookup y = some .local := by rfl) (his : (is.all fun i => (own.map (·.2)).contains i) = true := by decide) (hs : ∀ x, foldedSetIterable iter X.env x = pure x := by intro _; rfl) :
    MS X hx W (.Assign [.Name y py] (.ListComp elt [⟨tg, iter, ifs, 0⟩] scope pos) spos) (gSet i (sLst (fLc items g t f (own.map (·.2))))) :=
  ps_imp (ps_setLc hc hN hy hyl hsw hi ok hg ht he hs) fun D σ H ⟨b, S, ρ, R, q⟩ => lc_ok (ts := fun _ _ _ => True) (fun i hi => by
    have h1 := List.all_eq_true.mp his i hi
    simpa using h1) σ H _ ⟨b, S, ρ, R, by
      unfold gSet sLst at q
      cases ef : fLc items g t f (own.map (·.2)) ρ with
      | exc y ys => rw [ef] at q; exact fun S' H' C dx g q1 q2 => q S' σ H' C dx g.s (R.grow g) q1 q2
      | bad => rw [ef] at q; exact q.elim
      | ok ds =>
        rw [ef] at q
        intro v S1 H1 g1 ⟨p, vs, h1, h2, h3, h4, h5⟩
        subst h1
        have up : Same S1 (upd S1 p (.lst vs)) := same_new h3
        have g2 : Gr S H (upd S1 p (.lst vs)) H1 := ⟨g1.s.trans up, g1.h, fun a o q => by
          by_cases z : a = p
          · subst z; rw [upd_same] at q; cases q; exact h4
          · rw [upd_ne z] at q; exact g1.i a o q, fun a ha q => by
          rw [upd_ne (fun z => ha (by rw [z]; exact h2))]; exact g1.n a ha q⟩
        exact q _ _ H1 g2.s ((R.grow g2).put (.lst upd_same (h5.up up _ _)))⟩
/-- f(), no argument -/
theorem pe_call0S {k : Nat} {f : Addr} {fd : FuncData} {ps : List Str} {sp : Sp} {x : Str} {p : Pos} {CX : CXT} {E : L2.St → XK} (F : FnOk X.prog X.w X.K X.mg X.base CX k f fd ps sp) (hr : Room k X.A) (hg : Gl X x) (hm : X.mg x = some (.ref f)) (hk : PySem.W.keepIn X.K (.ref f) = true) (hb : Binds X.K fd ps []) (hp : ∀ σ, PassesAt CX X σ (E σ))
    (hdb : (x == ("__debug__" : Str)) = false := by decide) : PE X (.Call (.Name x p) [] [] pos) (tCallS sp E tNil) := by
  refine ⟨fun pins s σ H Q I h => ?_⟩
  refine wpAny_Call_Name_kw (ld_glob I hg hm ?_ hdb)
  exact PySem.W.callWith_K0 I.kIn hk (run_fnS (us := []) F hr hb (hp σ) I .nil h)
theorem me_cal0 {k : Nat} {f : Addr} {fd : FuncData} {ps : List Str} {g : List D → Res D} {x : Str} {p : Pos} (G : Df X.prog X.w X.K X.mg X.base x k f fd ps g) (hr : Room k X.A) (cw : Cw X W) (hn : ps = []) (hg : Gl X x := by rfl) (hdb : (x == ("__debug__" : Str)) = false := by decide) : ME X hx W (.Call (.Name x p) [] [] pos) (sCall g aNil) :=
  pe_imp (pe_call0S G.ok hr hg G.mg G.kp G.bi cw hdb) fun σ H Q ⟨b, S, ρ, R, q⟩ => by
    have z := call_imp (fs := aNil) G (fun ρ ds h => by rw [hn]; exact len_nil h) R (Po.freeze (Q := Q) (by unfold sCall at q; rw [bind_bind] at q; exact q))
    exact (show tCallS (spF X.K X.mg ps.length g) (WE W) tNil σ H Q from z [] S H (Gr.refl R.sh) .nil)
theorem mf_cal0 {k : Nat} {f : Addr} {fd : FuncData} {ps : List Str} {g : List D → Res D} {x : Str} {p : Pos} (G : Df X.prog X.w X.K X.mg X.base x k f fd ps g) (hr : Room k X.A) (cw : Cw X W) (hn : ps = []) (hg : Gl X x := by rfl) (hdb : (x == ("__debug__" : Str)) = false := by decide) : MF X hx W (.Call (.Name x p) [] [] pos) (fCall g aNil) :=
  pe_imp (pe_call0S G.ok hr hg G.mg G.kp G.bi cw hdb) fun σ H Q ⟨b, S, ρ, R, q⟩ => by
    have z := call_imp (fs := aNil) G (fun ρ ds h => by rw [hn]; exact len_nil h) R (Po.unfr (Q := Q) (by unfold fCall at q; rw [bind_bind] at q; exact q))
    exact (show tCallS (spF X.K X.mg ps.length g) (WE W) tNil σ H Q from z [] S H (Gr.refl R.sh) .nil)
end
/-! ### is True, is not False -/
@[simp] def oIsB (d e : D) : Res D := match d, e with
  | .bl a, .bl b => .ok (.bl (decide (a = b)))
  | _, _ => .bad
@[simp] def oNotB (d e : D) : Res D := match d, e with
  | .bl a, .bl b => .ok (.bl (!decide (a = b)))
  | _, _ => .bad
theorem o_isB {K : Frg} {mg : Mg} : O2 K mg rIsB oIsB := fun S σ H x y d e W Q i hx hy q => by
  unfold oIsB at q
  split at q
  · exact ⟨_, _, hx.bl, hy.bl, q _ _ _ (Gr.refl i) (.bl _)⟩
  · exact q.elim
theorem o_notB {K : Frg} {mg : Mg} : O2 K mg rNotB oNotB := fun S σ H x y d e W Q i hx hy q => by
  unfold oNotB at q
  split at q
  · exact ⟨_, _, hx.bl, hy.bl, q _ _ _ (Gr.refl i) (.bl _)⟩
  · exact q.elim
end PF

set_option Elab.async false
set_option linter.all false
set_option maxRecDepth 100000
/-! What each def of the program and of the law law_k05_linear_papers_judged makes of its arguments (printed by gen.py) -/
namespace S_k05
open PySem L2 PF
/-- left 0, right 1, a 2, b 3 -/
noncomputable def b1_dot : Sl → Res D :=
  (sOp oMul (sRd 2) (sRd 3))
noncomputable def g_dot : Sl → Out :=
  (gRet (sUn bSum (sLst (fLc (iZip (aCons (sVar 0) (aCons (sVar 1) aNil))) (gTup 2 (gsCons (gName 2) (gsCons (gName 3) gsNil))) tYesF b1_dot [2, 3]))))
noncomputable def f_dot : List D → Res D := semF 4 g_dot
/-- vector 0, part 1, entry 2 -/
noncomputable def b1_content : Sl → Out :=
  (gSet 1 (sOp bGcd (sRd 1) (sRd 2)))
noncomputable def g_content : Sl → Out :=
  (gSeq (gSet 1 (sC (.int 0)))
    (gSeq (gFor (iSeq (sVar 0)) (gName 2) b1_content)
    (gRet (sVar 1))))
noncomputable def f_content : List D → Res D := semF 3 g_content
/-- nums 0, den 1, part 2, entry 3 -/
noncomputable def b1_make_point : Sl → Res D :=
  (sOp oFdiv (sRd 3) (sRd 2))
noncomputable def g_make_point : Sl → Out :=
  (gSeq (gIf (sTest (sOp oEq (sRd 1) (sC (.int 0)))) (gRaise "BadNumber") gNil)
    (gSeq (gSet 2 (sOp bGcd (sCall f_content (aCons (sVar 0) aNil)) (sRd 1)))
    (gSeq (gIf (sTest (sOp oLt (sRd 1) (sC (.int 0)))) (gSet 2 (sUn oNeg (sRd 2))) gNil)
    (gRet (sTup (aCons (sUn bTup (sLst (fLc (iSeq (sVar 0)) (gName 3) tYesF b1_make_point [3]))) (aCons (sOp oFdiv (sRd 1) (sRd 2)) aNil)))))))
noncomputable def f_make_point : List D → Res D := semF 4 g_make_point
/-- weights 0, vectors 1, width 2, nums 3, weight 4, vector 5, a 6, b 7 -/
noncomputable def b1_weighted : Sl → Res D :=
  (sOp oAdd (sRd 6) (sOp oMul (sRd 4) (sRd 7)))
noncomputable def b2_weighted : Sl → Out :=
  (gIf (sTest (sOp oNe (sRd 4) (sC (.int 0)))) (gSet 3 (sLst (fLc (iZip (aCons (sVar 3) (aCons (sVar 5) aNil))) (gTup 2 (gsCons (gName 6) (gsCons (gName 7) gsNil))) tYesF b1_weighted [6, 7]))) gNil)
noncomputable def g_weighted : Sl → Out :=
  (gSeq (gSet 3 (sLst (fOp fRep (sLst (fLst (aCons (sC (.int 0)) aNil))) (sRd 2))))
    (gSeq (gFor (iZip (aCons (sVar 0) (aCons (sVar 1) aNil))) (gTup 2 (gsCons (gName 4) (gsCons (gName 5) gsNil))) b2_weighted)
    (gRet (sUn bTup (sRd 3)))))
noncomputable def f_weighted : List D → Res D := semF 8 g_weighted
/-- value 0 -/
noncomputable def g_is_whole : Sl → Out :=
  (gRet (sAnd (sUn (bIsi "int") (sRd 0)) (sNot (sUn (bIsi "bool") (sRd 0)))))
noncomputable def f_is_whole : List D → Res D := semF 1 g_is_whole
/-- value 0, length 1, entry 2 -/
noncomputable def b1_is_row : Sl → Res D :=
  (sCall f_is_whole (aCons (sVar 2) aNil))
noncomputable def g_is_row : Sl → Out :=
  (gRet (sAnd (sUn (bIsi "tuple") (sRd 0)) (sAnd (sOp oEq (sUn bLen (sRd 0)) (sRd 1)) (sUn bAll (sLst (fLc (iSeq (sVar 0)) (gName 2) tYesF b1_is_row [2]))))))
noncomputable def f_is_row : List D → Res D := semF 3 g_is_row
/-- value 0, length 1, nums 2, den 3 -/
noncomputable def g_is_point : Sl → Out :=
  (gSeq (gIf (tOr (tNot (tTru (sUn (bIsi "tuple") (sRd 0)))) (sTest (sOp oNe (sUn bLen (sRd 0)) (sC (.int 2))))) (gRet (sC (.bl false))) gNil)
    (gSeq (gAsg (gTup 2 (gsCons (gName 2) (gsCons (gName 3) gsNil))) (sVar 0))
    (gRet (sAnd (sCall f_is_row (aCons (sVar 2) (aCons (sVar 1) aNil))) (sAnd (sCall f_is_whole (aCons (sVar 3) aNil)) (sAnd (sOp oGe (sRd 3) (sC (.int 1))) (sOp oEq (sCall f_make_point (aCons (sVar 2) (aCons (sVar 3) aNil))) (sRd 0))))))))
noncomputable def f_is_point : List D → Res D := semF 4 g_is_point
/-- value 0, length 1, entry 2 -/
noncomputable def b1_is_weights : Sl → Res D :=
  (sOp oGe (sRd 2) (sC (.int 0)))
noncomputable def g_is_weights : Sl → Out :=
  (gRet (sAnd (sCall f_is_row (aCons (sVar 0) (aCons (sVar 1) aNil))) (sUn bAll (sLst (fLc (iSeq (sVar 0)) (gName 2) tYesF b1_is_weights [2])))))
noncomputable def f_is_weights : List D → Res D := semF 3 g_is_weights
/-- value 0, word 1, length 2 -/
noncomputable def g_has_form : Sl → Out :=
  (gRet (sAnd (sUn (bIsi "tuple") (sRd 0)) (sAnd (sOp oEq (sUn bLen (sRd 0)) (sRd 2)) (sOp oEq (sOp oIx (sRd 0) (sC (.int 0))) (sRd 1)))))
noncomputable def f_has_form : List D → Res D := semF 3 g_has_form
/-- rows 0, point 1, nums 2, den 3, coeffs 4, rhs 5 -/
noncomputable def b1_satisfies : Sl → Res D :=
  (sOp oGe (sCall f_dot (aCons (sVar 4) (aCons (sVar 2) aNil))) (sOp oMul (sRd 5) (sRd 3)))
noncomputable def g_satisfies : Sl → Out :=
  (gSeq (gAsg (gTup 2 (gsCons (gName 2) (gsCons (gName 3) gsNil))) (sVar 1))
    (gRet (sUn bAll (sLst (fLc (iSeq (sVar 0)) (gTup 2 (gsCons (gName 4) (gsCons (gName 5) gsNil))) tYesF b1_satisfies [4, 5])))))
noncomputable def f_satisfies : List D → Res D := semF 6 g_satisfies
/-- rows 0, cost 1, point 2, worths 3, nums 4, den 5, coeffs 6, rhs 7, entry 8 -/
noncomputable def b1_is_best_pair : Sl → Res D :=
  (sOp oMul (sRd 5) (sRd 8))
noncomputable def g_is_best_pair : Sl → Out :=
  (gSeq (gIf (tOr (tNot (tTru (sCall f_is_point (aCons (sVar 2) (aCons (sUn bLen (sRd 1)) aNil))))) (tNot (tTru (sCall f_is_point (aCons (sVar 3) (aCons (sUn bLen (sRd 0)) aNil)))))) (gRet (sC (.bl false))) gNil)
    (gSeq (gAsg (gTup 2 (gsCons (gName 4) (gsCons (gName 5) gsNil))) (sVar 3))
    (gSeq (gIf (tOr (tNot (tTru (sCall f_is_weights (aCons (sVar 4) (aCons (sUn bLen (sRd 0)) aNil))))) (tNot (tTru (sCall f_satisfies (aCons (sVar 0) (aCons (sVar 2) aNil)))))) (gRet (sC (.bl false))) gNil)
    (gSeq (gIf (sTest (sOp oNe (sCall f_weighted (aCons (sVar 4) (aCons (sLst (fLc (iSeq (sVar 0)) (gTup 2 (gsCons (gName 6) (gsCons (gName 7) gsNil))) tYesF (sVar 6) [6, 7])) (aCons (sUn bLen (sRd 1)) aNil)))) (sUn bTup (sLst (fLc (iSeq (sVar 1)) (gName 8) tYesF b1_is_best_pair [8]))))) (gRet (sC (.bl false))) gNil)
    (gRet (sOp oEq (sOp oMul (sCall f_dot (aCons (sVar 4) (aCons (sLst (fLc (iSeq (sVar 0)) (gTup 2 (gsCons (gName 6) (gsCons (gName 7) gsNil))) tYesF (sVar 7) [6, 7])) aNil))) (sOp oIx (sRd 2) (sC (.int 1)))) (sOp oMul (sCall f_dot (aCons (sVar 1) (aCons (sOp oIx (sRd 2) (sC (.int 0))) aNil))) (sRd 5))))))))
noncomputable def f_is_best_pair : List D → Res D := semF 9 g_is_best_pair
/-- rows 0, width 1, bar 2, entry 3, coeffs 4, rhs 5 -/
noncomputable def b1_is_bar : Sl → Res D :=
  (sOp oNe (sRd 3) (sC (.int 0)))
noncomputable def g_is_bar : Sl → Out :=
  (gSeq (gIf (tNot (tTru (sCall f_is_weights (aCons (sVar 2) (aCons (sUn bLen (sRd 0)) aNil))))) (gRet (sC (.bl false))) gNil)
    (gSeq (gIf (tTru (sUn bAny (sLst (fLc (iSeq (sCall f_weighted (aCons (sVar 2) (aCons (sLst (fLc (iSeq (sVar 0)) (gTup 2 (gsCons (gName 4) (gsCons (gName 5) gsNil))) tYesF (sVar 4) [4, 5])) (aCons (sVar 1) aNil))))) (gName 3) tYesF b1_is_bar [3])))) (gRet (sC (.bl false))) gNil)
    (gRet (sOp oGt (sCall f_dot (aCons (sVar 2) (aCons (sLst (fLc (iSeq (sVar 0)) (gTup 2 (gsCons (gName 4) (gsCons (gName 5) gsNil))) tYesF (sVar 5) [4, 5])) aNil))) (sC (.int 0))))))
noncomputable def f_is_bar : List D → Res D := semF 6 g_is_bar
/-- rows 0, cost 1, point 2, ray 3, coeffs 4, rhs 5 -/
noncomputable def b1_is_open : Sl → Res D :=
  (sOp oGe (sCall f_dot (aCons (sVar 4) (aCons (sVar 3) aNil))) (sC (.int 0)))
noncomputable def g_is_open : Sl → Out :=
  (gSeq (gIf (tOr (tNot (tTru (sCall f_is_point (aCons (sVar 2) (aCons (sUn bLen (sRd 1)) aNil))))) (tOr (tNot (tTru (sCall f_is_row (aCons (sVar 3) (aCons (sUn bLen (sRd 1)) aNil))))) (tNot (tTru (sCall f_satisfies (aCons (sVar 0) (aCons (sVar 2) aNil))))))) (gRet (sC (.bl false))) gNil)
    (gRet (sAnd (sUn bAll (sLst (fLc (iSeq (sVar 0)) (gTup 2 (gsCons (gName 4) (gsCons (gName 5) gsNil))) tYesF b1_is_open [4, 5]))) (sOp oLt (sCall f_dot (aCons (sVar 1) (aCons (sVar 3) aNil))) (sC (.int 0))))))
noncomputable def f_is_open : List D → Res D := semF 6 g_is_open
/-- rows 0, cost 1, answer 2 -/
noncomputable def g_is_least : Sl → Out :=
  (gSeq (gIf (tTru (sCall f_has_form (aCons (sVar 2) (aCons (sC (.str "best")) (aCons (sC (.int 3)) aNil))))) (gRet (sCall f_is_best_pair (aCons (sVar 0) (aCons (sVar 1) (aCons (sOp oIx (sRd 2) (sC (.int 1))) (aCons (sOp oIx (sRd 2) (sC (.int 2))) aNil)))))) gNil)
    (gSeq (gIf (tTru (sCall f_has_form (aCons (sVar 2) (aCons (sC (.str "none")) (aCons (sC (.int 2)) aNil))))) (gRet (sCall f_is_bar (aCons (sVar 0) (aCons (sUn bLen (sRd 1)) (aCons (sOp oIx (sRd 2) (sC (.int 1))) aNil))))) gNil)
    (gSeq (gIf (tTru (sCall f_has_form (aCons (sVar 2) (aCons (sC (.str "open")) (aCons (sC (.int 3)) aNil))))) (gRet (sCall f_is_open (aCons (sVar 0) (aCons (sVar 1) (aCons (sOp oIx (sRd 2) (sC (.int 1))) (aCons (sOp oIx (sRd 2) (sC (.int 2))) aNil)))))) gNil)
    (gRet (sC (.bl false))))))
noncomputable def f_is_least : List D → Res D := semF 3 g_is_least
/-- cell 0, k 1, first 2, second 3 -/
noncomputable def g_ulaw_mix : Sl → Out :=
  (gSeq (gSet 2 (sOp oMod (sUn bInt (sOp oAdd (sOp oAdd (sOp oMul (sRd 0) (sC (.int 48271))) (sOp oMul (sRd 1) (sC (.int 69621)))) (sC (.int 11)))) (sC (.int 2147483647))))
    (gSeq (gSet 3 (sOp oMod (sUn bInt (sOp oAdd (sOp oAdd (sOp oMul (sRd 2) (sRd 2)) (sOp oMul (sRd 1) (sC (.int 40692)))) (sC (.int 7)))) (sC (.int 2147483399))))
    (gRet (sOp oFdiv (sOp oMod (sUn bInt (sOp oAdd (sOp oMul (sRd 3) (sC (.int 16807))) (sRd 2))) (sC (.int 2147483587))) (sC (.int 8))))))
noncomputable def f_ulaw_mix : List D → Res D := semF 4 g_ulaw_mix
/-- script 0, at 1, many 2, cell 3, row 4, rest 5, k 6 -/
noncomputable def b1_ulaw_row : Sl → Out :=
  (gIf (tAnd (sTest (sOp oGe (sUn bAbs (sRd 3)) (sC (.int 1000000000000000000)))) (sTest (sOp oGt (sRd 5) (sC (.int 0))))) (gSeq (gApp 4 (sOp oMod (sUn bInt (sRd 5)) (sC (.int 1009))))
    (gSet 5 (sOp oFdiv (sRd 5) (sC (.int 1009))))) (gApp 4 (sCall f_ulaw_mix (aCons (sVar 3) (aCons (sVar 6) aNil)))))
noncomputable def g_ulaw_row : Sl → Out :=
  (gSeq (gSet 3 (sVar 1))
    (gSeq (gIf (sTest (sOp oLt (sRd 1) (sUn bLen (sRd 0)))) (gSet 3 (sOp oIx (sRd 0) (sRd 1))) (gIf (sTest (sOp oGt (sUn bLen (sRd 0)) (sC (.int 0)))) (gSet 3 (sOp oAdd (sOp oIx (sRd 0) (sOp oMod (sRd 1) (sUn bLen (sRd 0)))) (sOp oMul (sC (.int 7919)) (sRd 1)))) gNil))
    (gSeq (gSetO 4 (fLst aNil))
    (gSeq (gSet 5 (sUn bAbs (sRd 3)))
    (gSeq (gFor (iRg1 (aCons (sVar 2) aNil)) (gName 6) b1_ulaw_row)
    (gRetO 4))))))
noncomputable def f_ulaw_row : List D → Res D := semF 7 g_ulaw_row
/-- left 0, right 1, total 2, k 3 -/
noncomputable def b1_ulaw_dot : Sl → Out :=
  (gSet 2 (sOp oAdd (sRd 2) (sOp oMul (sOp oIx (sRd 0) (sRd 3)) (sOp oIx (sRd 1) (sRd 3)))))
noncomputable def g_ulaw_dot : Sl → Out :=
  (gSeq (gSet 2 (sC (.int 0)))
    (gSeq (gFor (iRg1 (aCons (sUn bLen (sRd 0)) aNil)) (gName 3) b1_ulaw_dot)
    (gRet (sVar 2))))
noncomputable def f_ulaw_dot : List D → Res D := semF 4 g_ulaw_dot
/-- script 0, width 1, many 2, rows 3, k 4, coeffs 5, cell 6, num 7 -/
noncomputable def b1_ulaw_rows : Sl → Res D :=
  (sOp oSub (sOp oMod (sUn bInt (sRd 6)) (sC (.int 9))) (sC (.int 4)))
noncomputable def b2_ulaw_rows : Sl → Res D :=
  (sOp oNe (sRd 7) (sC (.int 0)))
noncomputable def b3_ulaw_rows : Sl → Out :=
  (gSeq (gSetO 5 (fLc (iSeq (sCall f_ulaw_row (aCons (sVar 0) (aCons (sOp oAdd (sC (.int 2)) (sRd 4)) (aCons (sVar 1) aNil))))) (gName 6) tYesF b1_ulaw_rows [6]))
    (gSeq (gIf (tLend 5 (tNot (tTru (sUn bAny (sLst (fLc (iSeq (sVar 5)) (gName 7) tYesF b2_ulaw_rows [7])))))) (gSto 5 (sOp oMod (sRd 4) (sRd 1)) (sC (.int 1))) gNil)
    (gApp 3 (sUn bTup (sRd 5)))))
noncomputable def g_ulaw_rows : Sl → Out :=
  (gSeq (gSetO 3 (fLst aNil))
    (gSeq (gFor (iRg1 (aCons (sVar 2) aNil)) (gName 4) b3_ulaw_rows)
    (gRetO 3)))
noncomputable def f_ulaw_rows : List D → Res D := semF 8 g_ulaw_rows
/-- script 0, width 1, rows 2, place 3, point 4, cells 5, worths 6, whole 7, k 8, worth 9, room 10, cost 11, j 12, cell 13 -/
noncomputable def b1_ulaw_best_pair : Sl → Res D :=
  (sOp oSub (sOp oMod (sUn bInt (sRd 13)) (sC (.int 19))) (sC (.int 9)))
noncomputable def b2_ulaw_best_pair : Sl → Out :=
  (gSeq (gSet 9 (sC (.int 0)))
    (gSeq (gSet 10 (sOp oMod (sUn bInt (sOp oIx (sRd 5) (sOp oMul (sC (.int 2)) (sRd 8)))) (sC (.int 5))))
    (gSeq (gIf (tOr (sTest (sOp oEq (sRd 8) (sRd 3))) (sTest (sOp oEq (sOp oMod (sUn bInt (sOp oIx (sRd 5) (sOp oAdd (sOp oMul (sC (.int 2)) (sRd 8)) (sC (.int 1))))) (sC (.int 2))) (sC (.int 1))))) (gSeq (gSet 9 (sOp oAdd (sC (.int 1)) (sOp oMod (sUn bInt (sOp oIx (sRd 5) (sOp oMul (sC (.int 2)) (sRd 8)))) (sC (.int 5)))))
    (gSet 10 (sC (.int 0)))) gNil)
    (gSeq (gApp 6 (sVar 9))
    (gApp 7 (sTup (aCons (sOp oIx (sRd 2) (sRd 8)) (aCons (sOp oSub (sCall f_ulaw_dot (aCons (sOp oIx (sRd 2) (sRd 8)) (aCons (sVar 4) aNil))) (sRd 10)) aNil))))))))
noncomputable def b3_ulaw_best_pair : Sl → Out :=
  (gSto 11 (sVar 12) (sOp oAdd (sOp oIx (sRd 11) (sRd 12)) (sOp oMul (sOp oIx (sRd 6) (sRd 8)) (sOp oIx (sOp oIx (sRd 2) (sRd 8)) (sRd 12)))))
noncomputable def b4_ulaw_best_pair : Sl → Out :=
  (gFor (iRg1 (aCons (sVar 1) aNil)) (gName 12) b3_ulaw_best_pair)
noncomputable def g_ulaw_best_pair : Sl → Out :=
  (gSeq (gSet 4 (sUn bTup (sLst (fLc (iSeq (sCall f_ulaw_row (aCons (sVar 0) (aCons (sC (.int 1)) (aCons (sVar 1) aNil))))) (gName 13) tYesF b1_ulaw_best_pair [13]))))
    (gSeq (gSet 5 (sCall f_ulaw_row (aCons (sVar 0) (aCons (sC (.int 9)) (aCons (sOp oMul (sC (.int 2)) (sUn bLen (sRd 2))) aNil)))))
    (gSeq (gSetO 6 (fLst aNil))
    (gSeq (gSetO 7 (fLst aNil))
    (gSeq (gFor (iRg1 (aCons (sUn bLen (sRd 2)) aNil)) (gName 8) b2_ulaw_best_pair)
    (gSeq (gSetO 11 (fOp fRep (sLst (fLst (aCons (sC (.int 0)) aNil))) (sRd 1)))
    (gSeq (gFor (iRg1 (aCons (sUn bLen (sRd 2)) aNil)) (gName 8) b4_ulaw_best_pair)
    (gFrz 7 (gRet (sTup (aCons (sVar 4) (aCons (sUn bTup (sRd 6)) (aCons (sVar 7) (aCons (sUn bTup (sRd 11)) aNil))))))))))))))
noncomputable def f_ulaw_best_pair : List D → Res D := semF 14 g_ulaw_best_pair
/-- rows 0, place 1, rhs 2 -/
noncomputable def g_ulaw_change : Sl → Out :=
  (gRetF (fOp fCat (sLst (fOp fCat (sSl (sRd 0) pNone (pSome (sVar 1))) (sLst (fLst (aCons (sTup (aCons (sOp oIx (sOp oIx (sRd 0) (sRd 1)) (sC (.int 0))) (aCons (sVar 2) aNil))) aNil))))) (sSl (sRd 0) (pSome (sOp oAdd (sRd 1) (sC (.int 1)))) pNone)))
noncomputable def f_ulaw_change : List D → Res D := semF 3 g_ulaw_change
/-- script 0, width 1, rows 2, place 3, point 4, worths 5, whole 6, cost 7, good 8, dearer 9, bad 10, k 11, turned 12, minus 13, other 14, j 15, one 16, two 17, three 18, num 19 -/
noncomputable def b1_ulaw_best_asked : Sl → Out :=
  (gIf (sTest (sOp oEq (sOp oIx (sRd 5) (sRd 11)) (sC (.int 0)))) (gApp 10 (sTup (aCons (sCall f_ulaw_change (aCons (sVar 6) (aCons (sVar 11) (aCons (sOp oAdd (sCall f_ulaw_dot (aCons (sOp oIx (sRd 2) (sRd 11)) (aCons (sVar 4) aNil))) (sC (.int 1))) aNil)))) (aCons (sVar 7) (aCons (sVar 8) aNil))))) gNil)
noncomputable def b2_ulaw_best_asked : Sl → Res D :=
  (sOp oSub (sOp oIx (sRd 7) (sRd 15)) (sOp oMul (sOp oAdd (sOp oMul (sC (.int 2)) (sOp oIx (sRd 5) (sRd 3))) (sC (.int 2))) (sOp oIx (sOp oIx (sRd 2) (sRd 3)) (sRd 15))))
noncomputable def b3_ulaw_best_asked : Sl → Res D :=
  (sOp oMul (sC (.int 2)) (sRd 19))
noncomputable def b4_ulaw_best_asked : Sl → Res D :=
  (sOp oNotB (sCall f_is_least (aCons (sLst (fUn bLst (sRd 16))) (aCons (sVar 17) (aCons (sVar 18) aNil)))) (sC (.bl false)))
noncomputable def g_ulaw_best_asked : Sl → Out :=
  (gSeq (gAsg (gTup 4 (gsCons (gName 4) (gsCons (gName 5) (gsCons (gName 6) (gsCons (gName 7) gsNil))))) (sCall f_ulaw_best_pair (aCons (sVar 0) (aCons (sVar 1) (aCons (sVar 2) (aCons (sVar 3) aNil))))))
    (gSeq (gSet 8 (sTup (aCons (sC (.str "best")) (aCons (sTup (aCons (sVar 4) (aCons (sC (.int 1)) aNil))) (aCons (sTup (aCons (sVar 5) (aCons (sC (.int 1)) aNil))) aNil)))))
    (gSeq (gIf (sTest (sOp oNotB (sCall f_is_least (aCons (sLst (fUn bLst (sRd 6))) (aCons (sVar 7) (aCons (sVar 8) aNil)))) (sC (.bl true)))) (gRet (sC (.bl false))) gNil)
    (gSeq (gSet 9 (sOp oAdd (sTup (aCons (sOp oAdd (sOp oIx (sRd 7) (sC (.int 0))) (sC (.int 1))) aNil)) (sSl (sRd 7) (pSome (sC (.int 1))) pNone)))
    (gSeq (gSetO 10 (fLst (aCons (sTup (aCons (sVar 6) (aCons (sVar 9) (aCons (sVar 8) aNil)))) aNil)))
    (gSeq (gApp 10 (sTup (aCons (sCall f_ulaw_change (aCons (sVar 6) (aCons (sVar 3) (aCons (sOp oSub (sOp oIx (sOp oIx (sRd 6) (sRd 3)) (sC (.int 1))) (sC (.int 1))) aNil)))) (aCons (sVar 7) (aCons (sVar 8) aNil)))))
    (gSeq (gFor (iRg1 (aCons (sUn bLen (sRd 2)) aNil)) (gName 11) b1_ulaw_best_asked)
    (gSeq (gSet 12 (sLst (fLst (aCons (sTup (aCons (sUn bTup (sLst (fLc (iSeq (sOp oIx (sRd 2) (sRd 3))) (gName 19) tYesF (sUn oNeg (sRd 19)) [19]))) (aCons (sUn oNeg (sOp oIx (sOp oIx (sRd 6) (sRd 3)) (sC (.int 1)))) aNil))) aNil))))
    (gSeq (gSet 13 (sOp oAdd (sOp oAdd (sOp oAdd (sSl (sRd 5) pNone (pSome (sVar 3))) (sTup (aCons (sUn oNeg (sC (.int 1))) aNil))) (sSl (sRd 5) (pSome (sOp oAdd (sRd 3) (sC (.int 1)))) pNone)) (sTup (aCons (sOp oAdd (sOp oIx (sRd 5) (sRd 3)) (sC (.int 1))) aNil))))
    (gSeq (gSet 14 (sLst (fLc (iRg1 (aCons (sVar 1) aNil)) (gName 15) tYesF b2_ulaw_best_asked [15])))
    (gSeq (gApp 10 (sTup (aCons (sOp oAdd (sRd 6) (sRd 12)) (aCons (sUn bTup (sRd 14)) (aCons (sTup (aCons (sC (.str "best")) (aCons (sTup (aCons (sVar 4) (aCons (sC (.int 1)) aNil))) (aCons (sTup (aCons (sVar 13) (aCons (sC (.int 1)) aNil))) aNil)))) aNil)))))
    (gSeq (gApp 10 (sTup (aCons (sVar 6) (aCons (sVar 7) (aCons (sTup (aCons (sC (.str "best")) (aCons (sTup (aCons (sUn bTup (sLst (fLc (iSeq (sVar 4)) (gName 19) tYesF b3_ulaw_best_asked [19]))) (aCons (sC (.int 2)) aNil))) (aCons (sTup (aCons (sVar 5) (aCons (sC (.int 1)) aNil))) aNil)))) aNil)))))
    (gSeq (gApp 10 (sTup (aCons (sVar 6) (aCons (sVar 7) (aCons (sTup (aCons (sC (.str "best")) (aCons (sTup (aCons (sOp oAdd (sRd 4) (sTup (aCons (sC (.int 0)) aNil))) (aCons (sC (.int 1)) aNil))) (aCons (sTup (aCons (sVar 5) (aCons (sC (.int 1)) aNil))) aNil)))) aNil)))))
    (gSeq (gApp 10 (sTup (aCons (sVar 6) (aCons (sVar 7) (aCons (sTup (aCons (sC (.str "best")) (aCons (sTup (aCons (sVar 4) (aCons (sC (.int 0)) aNil))) (aCons (sTup (aCons (sVar 5) (aCons (sC (.int 1)) aNil))) aNil)))) aNil)))))
    (gSeq (gApp 10 (sTup (aCons (sVar 6) (aCons (sVar 7) (aCons (sTup (aCons (sC (.str "best")) (aCons (sTup (aCons (sVar 4) (aCons (sC (.int 1)) (aCons (sC (.int 1)) aNil)))) (aCons (sTup (aCons (sVar 5) (aCons (sC (.int 1)) aNil))) aNil)))) aNil)))))
    (gSeq (gApp 10 (sTup (aCons (sVar 6) (aCons (sVar 7) (aCons (sTup (aCons (sC (.str "best")) (aCons (sVar 4) (aCons (sTup (aCons (sVar 5) (aCons (sC (.int 1)) aNil))) aNil)))) aNil)))))
    (gSeq (gApp 10 (sTup (aCons (sVar 6) (aCons (sVar 7) (aCons (sTup (aCons (sC (.str "best")) (aCons (sTup (aCons (sVar 4) (aCons (sC (.int 1)) aNil))) (aCons (sTup (aCons (sOp oAdd (sRd 5) (sTup (aCons (sC (.int 0)) aNil))) (aCons (sC (.int 1)) aNil))) aNil)))) aNil)))))
    (gSeq (gApp 10 (sTup (aCons (sVar 6) (aCons (sVar 7) (aCons (sTup (aCons (sC (.str "best")) (aCons (sTup (aCons (sVar 4) (aCons (sC (.int 1)) aNil))) (aCons (sTup (aCons (sVar 5) (aCons (sC (.int 1)) aNil))) (aCons (sC .non) aNil))))) aNil)))))
    (gSeq (gApp 10 (sTup (aCons (sVar 6) (aCons (sVar 7) (aCons (sTup (aCons (sC (.str "open")) (aCons (sTup (aCons (sVar 4) (aCons (sC (.int 1)) aNil))) (aCons (sVar 5) aNil)))) aNil)))))
    (gSeq (gApp 10 (sTup (aCons (sVar 6) (aCons (sVar 7) (aCons (sTup (aCons (sC (.str "none")) (aCons (sVar 5) aNil))) aNil)))))
    (gSeq (gApp 10 (sTup (aCons (sVar 6) (aCons (sVar 7) (aCons (sC .non) aNil)))))
    (gFrz 10 (gRet (sNot (sUn bAny (sLst (fLc (iSeq (sVar 10)) (gTup 3 (gsCons (gName 16) (gsCons (gName 17) (gsCons (gName 18) gsNil)))) tYesF b4_ulaw_best_asked [16, 17, 18])))))))))))))))))))))))))))
noncomputable def f_ulaw_best_asked : List D → Res D := semF 20 g_ulaw_best_asked
/-- script 0, width 1, rows 2, place 3, cells 4, right 5, gap 6, back 7, whole 8, cost 9, met 10, bad 11, num 12, cell 13, one 14, two 15 -/
noncomputable def b1_ulaw_none_asked : Sl → Res D :=
  (sOp oSub (sOp oMod (sUn bInt (sRd 13)) (sC (.int 7))) (sC (.int 3)))
noncomputable def b2_ulaw_none_asked : Sl → Res D :=
  (sOp oNotB (sCall f_is_least (aCons (sLst (fUn bLst (sRd 14))) (aCons (sVar 9) (aCons (sVar 15) aNil)))) (sC (.bl false)))
noncomputable def g_ulaw_none_asked : Sl → Out :=
  (gSeq (gSet 4 (sCall f_ulaw_row (aCons (sVar 0) (aCons (sC (.int 10)) (aCons (sC (.int 4)) aNil)))))
    (gSeq (gSet 5 (sOp oSub (sOp oMod (sUn bInt (sOp oIx (sRd 4) (sC (.int 0)))) (sC (.int 19))) (sC (.int 9))))
    (gSeq (gSet 6 (sOp oAdd (sC (.int 1)) (sOp oMod (sUn bInt (sOp oIx (sRd 4) (sC (.int 1)))) (sC (.int 3)))))
    (gSeq (gSet 7 (sUn bTup (sLst (fLc (iSeq (sOp oIx (sRd 2) (sRd 3))) (gName 12) tYesF (sUn oNeg (sRd 12)) [12]))))
    (gSeq (gSet 8 (sLst (fLst (aCons (sTup (aCons (sOp oIx (sRd 2) (sC (.int 0))) (aCons (sUn oNeg (sC (.int 50))) aNil))) (aCons (sTup (aCons (sOp oIx (sRd 2) (sRd 3)) (aCons (sVar 5) aNil))) (aCons (sTup (aCons (sVar 7) (aCons (sOp oSub (sRd 6) (sRd 5)) aNil))) aNil))))))
    (gSeq (gSet 9 (sUn bTup (sLst (fLc (iSeq (sCall f_ulaw_row (aCons (sVar 0) (aCons (sC (.int 11)) (aCons (sVar 1) aNil))))) (gName 13) tYesF b1_ulaw_none_asked [13]))))
    (gSeq (gIf (sTest (sOp oNotB (sCall f_is_least (aCons (sLst (fUn bLst (sRd 8))) (aCons (sVar 9) (aCons (sTup (aCons (sC (.str "none")) (aCons (sTup (aCons (sC (.int 0)) (aCons (sC (.int 2)) (aCons (sC (.int 2)) aNil)))) aNil))) aNil)))) (sC (.bl true)))) (gRet (sC (.bl false))) gNil)
    (gSeq (gSet 10 (sLst (fLst (aCons (sOp oIx (sRd 8) (sC (.int 0))) (aCons (sOp oIx (sRd 8) (sC (.int 1))) (aCons (sTup (aCons (sVar 7) (aCons (sUn oNeg (sRd 5)) aNil))) aNil))))))
    (gSeq (gSetO 11 (fLst (aCons (sTup (aCons (sVar 10) (aCons (sTup (aCons (sC (.str "none")) (aCons (sTup (aCons (sC (.int 0)) (aCons (sC (.int 2)) (aCons (sC (.int 2)) aNil)))) aNil))) aNil))) (aCons (sTup (aCons (sVar 8) (aCons (sTup (aCons (sC (.str "none")) (aCons (sTup (aCons (sC (.int 0)) (aCons (sC (.int 2)) (aCons (sC (.int 1)) aNil)))) aNil))) aNil))) (aCons (sTup (aCons (sVar 8) (aCons (sTup (aCons (sC (.str "none")) (aCons (sTup (aCons (sC (.int 0)) (aCons (sC (.int 0)) (aCons (sC (.int 0)) aNil)))) aNil))) aNil))) aNil)))))
    (gSeq (gApp 11 (sTup (aCons (sLst (fLst (aCons (sOp oIx (sRd 8) (sC (.int 0))) (aCons (sOp oIx (sRd 8) (sC (.int 1))) (aCons (sTup (aCons (sVar 7) (aCons (sOp oSub (sUn oNeg (sRd 5)) (sRd 6)) aNil))) aNil))))) (aCons (sTup (aCons (sC (.str "none")) (aCons (sTup (aCons (sC (.int 0)) (aCons (sUn oNeg (sC (.int 1))) (aCons (sUn oNeg (sC (.int 1))) aNil)))) aNil))) aNil))))
    (gSeq (gApp 11 (sTup (aCons (sVar 8) (aCons (sTup (aCons (sC (.str "none")) (aCons (sTup (aCons (sC (.int 0)) (aCons (sC (.int 2)) (aCons (sC (.str "2")) aNil)))) aNil))) aNil))))
    (gSeq (gApp 11 (sTup (aCons (sVar 8) (aCons (sTup (aCons (sC (.str "none")) (aCons (sTup (aCons (sC (.int 0)) (aCons (sC (.int 2)) (aCons (sC (.int 2)) aNil)))) (aCons (sC .non) aNil)))) aNil))))
    (gSeq (gApp 11 (sTup (aCons (sVar 8) (aCons (sTup (aCons (sC (.str "none")) (aCons (sTup (aCons (sC (.int 0)) (aCons (sC (.int 2)) (aCons (sC (.int 2)) (aCons (sC (.int 0)) aNil))))) aNil))) aNil))))
    (gSeq (gApp 11 (sTup (aCons (sVar 8) (aCons (sTup (aCons (sC (.str "best")) (aCons (sTup (aCons (sC (.int 0)) (aCons (sC (.int 2)) (aCons (sC (.int 2)) aNil)))) aNil))) aNil))))
    (gFrz 11 (gRet (sNot (sUn bAny (sLst (fLc (iSeq (sVar 11)) (gTup 2 (gsCons (gName 14) (gsCons (gName 15) gsNil))) tYesF b2_ulaw_none_asked [14, 15]))))))))))))))))))))
noncomputable def f_ulaw_none_asked : List D → Res D := semF 16 g_ulaw_none_asked
/-- script 0, width 1, rows 2, place 3, point 4, ray 5, whole 6, coeffs 7, cost 8, good 9, back 10, bad 11, cell 12, num 13, one 14, two 15, three 16 -/
noncomputable def b1_ulaw_open_asked : Sl → Res D :=
  (sOp oSub (sOp oMod (sUn bInt (sRd 12)) (sC (.int 19))) (sC (.int 9)))
noncomputable def b2_ulaw_open_asked : Sl → Res D :=
  (sOp oSub (sOp oMod (sUn bInt (sRd 12)) (sC (.int 7))) (sC (.int 3)))
noncomputable def b3_ulaw_open_asked : Sl → Out :=
  (gFrz 5 (gSeq (gIf (sTest (sOp oLt (sCall f_ulaw_dot (aCons (sVar 7) (aCons (sVar 5) aNil))) (sC (.int 0)))) (gSet 7 (sUn bTup (sLst (fLc (iSeq (sVar 7)) (gName 13) tYesF (sUn oNeg (sRd 13)) [13])))) gNil)
    (gApp 6 (sTup (aCons (sVar 7) (aCons (sCall f_ulaw_dot (aCons (sVar 7) (aCons (sVar 4) aNil))) aNil))))))
noncomputable def b4_ulaw_open_asked : Sl → Res D :=
  (sOp oNotB (sCall f_is_least (aCons (sLst (fUn bLst (sRd 14))) (aCons (sVar 15) (aCons (sVar 16) aNil)))) (sC (.bl false)))
noncomputable def g_ulaw_open_asked : Sl → Out :=
  (gSeq (gSet 4 (sUn bTup (sLst (fLc (iSeq (sCall f_ulaw_row (aCons (sVar 0) (aCons (sC (.int 1)) (aCons (sVar 1) aNil))))) (gName 12) tYesF b1_ulaw_open_asked [12]))))
    (gSeq (gSetO 5 (fLc (iSeq (sCall f_ulaw_row (aCons (sVar 0) (aCons (sC (.int 12)) (aCons (sVar 1) aNil))))) (gName 12) tYesF b2_ulaw_open_asked [12]))
    (gSeq (gSto 5 (sOp oMod (sRd 3) (sRd 1)) (sC (.int 2)))
    (gSeq (gSetO 6 (fLst aNil))
    (gSeq (gFor (iSeq (sVar 2)) (gName 7) b3_ulaw_open_asked)
    (gFrz 5 (gSeq (gSet 8 (sUn bTup (sLst (fLc (iSeq (sVar 5)) (gName 13) tYesF (sUn oNeg (sRd 13)) [13]))))
    (gSeq (gSet 9 (sTup (aCons (sC (.str "open")) (aCons (sTup (aCons (sVar 4) (aCons (sC (.int 1)) aNil))) (aCons (sUn bTup (sRd 5)) aNil)))))
    (gSeq (gIf (sTest (sOp oNotB (sCall f_is_least (aCons (sLst (fUn bLst (sRd 6))) (aCons (sVar 8) (aCons (sVar 9) aNil)))) (sC (.bl true)))) (gRet (sC (.bl false))) gNil)
    (gFrz 5 (gSeq (gSet 10 (sUn bTup (sLst (fLc (iSeq (sVar 5)) (gName 13) tYesF (sUn oNeg (sRd 13)) [13]))))
    (gFrz 6 (gSeq (gSetO 11 (fLst (aCons (sTup (aCons (sLst (fOp fCat (sRd 6) (sLst (fLst (aCons (sTup (aCons (sVar 10) (aCons (sCall f_ulaw_dot (aCons (sVar 10) (aCons (sVar 4) aNil))) aNil))) aNil))))) (aCons (sVar 8) (aCons (sVar 9) aNil)))) (aCons (sTup (aCons (sVar 6) (aCons (sUn bTup (sRd 5)) (aCons (sVar 9) aNil)))) aNil))))
    (gFrz 6 (gSeq (gApp 11 (sTup (aCons (sVar 6) (aCons (sUn bTup (sLst (fOp fRep (sLst (fLst (aCons (sC (.int 0)) aNil))) (sRd 1)))) (aCons (sVar 9) aNil)))))
    (gFrz 5 (gSeq (gApp 11 (sTup (aCons (sLst (fOp fCat (sRd 6) (sLst (fLst (aCons (sTup (aCons (sUn bTup (sRd 5)) (aCons (sOp oAdd (sCall f_ulaw_dot (aCons (sVar 5) (aCons (sVar 4) aNil))) (sC (.int 1))) aNil))) aNil))))) (aCons (sVar 8) (aCons (sVar 9) aNil)))))
    (gFrz 6 (gSeq (gApp 11 (sTup (aCons (sVar 6) (aCons (sVar 8) (aCons (sTup (aCons (sC (.str "open")) (aCons (sTup (aCons (sVar 4) (aCons (sC (.int 1)) aNil))) (aCons (sC .non) aNil)))) aNil)))))
    (gFrz 6 (gSeq (gApp 11 (sTup (aCons (sVar 6) (aCons (sVar 8) (aCons (sTup (aCons (sC (.str "open")) (aCons (sTup (aCons (sVar 4) (aCons (sC (.int 1)) aNil))) (aCons (sOp oAdd (sUn bTup (sRd 5)) (sTup (aCons (sC (.int 0)) aNil))) aNil)))) aNil)))))
    (gFrz 6 (gSeq (gApp 11 (sTup (aCons (sVar 6) (aCons (sVar 8) (aCons (sTup (aCons (sC (.str "best")) (aCons (sTup (aCons (sVar 4) (aCons (sC (.int 1)) aNil))) (aCons (sUn bTup (sRd 5)) aNil)))) aNil)))))
    (gFrz 11 (gRet (sNot (sUn bAny (sLst (fLc (iSeq (sVar 11)) (gTup 3 (gsCons (gName 14) (gsCons (gName 15) (gsCons (gName 16) gsNil)))) tYesF b4_ulaw_open_asked [14, 15, 16])))))))))))))))))))))))))))))
noncomputable def f_ulaw_open_asked : List D → Res D := semF 17 g_ulaw_open_asked
/-- script 0, head 1, width 2, many 3, place 4, rows 5 -/
noncomputable def g_law : Sl → Out :=
  (gSeq (gSet 1 (sCall f_ulaw_row (aCons (sVar 0) (aCons (sC (.int 0)) (aCons (sC (.int 3)) aNil)))))
    (gSeq (gSet 2 (sOp oAdd (sC (.int 1)) (sOp oMod (sUn bInt (sOp oIx (sRd 1) (sC (.int 0)))) (sC (.int 4)))))
    (gSeq (gSet 3 (sOp oAdd (sC (.int 1)) (sOp oMod (sUn bInt (sOp oIx (sRd 1) (sC (.int 1)))) (sC (.int 6)))))
    (gSeq (gSet 4 (sOp oMod (sUn bInt (sOp oIx (sRd 1) (sC (.int 2)))) (sRd 3)))
    (gSeq (gSet 5 (sCall f_ulaw_rows (aCons (sVar 0) (aCons (sVar 2) (aCons (sVar 3) aNil)))))
    (gSeq (gIf (tNot (tTru (sCall f_ulaw_best_asked (aCons (sVar 0) (aCons (sVar 2) (aCons (sVar 5) (aCons (sVar 4) aNil))))))) (gRet (sC (.bl false))) gNil)
    (gRet (sAnd (sCall f_ulaw_none_asked (aCons (sVar 0) (aCons (sVar 2) (aCons (sVar 5) (aCons (sVar 4) aNil))))) (sCall f_ulaw_open_asked (aCons (sVar 0) (aCons (sVar 2) (aCons (sVar 5) (aCons (sVar 4) aNil)))))))))))))
noncomputable def f_law : List D → Res D := semF 6 g_law
end S_k05

set_option Elab.async false
set_option linter.all false
set_option maxRecDepth 100000
set_option maxHeartbeats 4000000
/-! Lemmas for the plain laws: sizes, equality of data, Euclid. -/
namespace ML
open PySem L2 PF

theorem mulOk_r {i j : Int} (h : j.natAbs < 18446744073709551616) : mulOk i j = true := cb_t (.inr (.inr h))
theorem mulOk_l {i j : Int} (h : i.natAbs < 18446744073709551616) : mulOk i j = true := cb_t (.inr (.inl h))
theorem mulOk_b {i j : Int} {a b : Nat} (ha : i.natAbs < 2 ^ a) (hb : j.natAbs < 2 ^ b) (h : a + b ≤ 134217728) : mulOk i j = true := by
  have h1 := PyProof.Rows.intBits_le ha
  have h2 := PyProof.Rows.intBits_le hb
  exact cb_t (.inl (by omega))
theorem divOk_b {j : Int} {b : Nat} (h0 : j ≠ 0) (hb : j.natAbs < 2 ^ b) (h : b ≤ 9000) : divOk j = true := by
  refine cb_t ⟨h0, ?_⟩
  have h1 : j.natAbs ≠ 0 := by omega
  have h2 := Nat.log2_self_le h1
  have h3 : 2 ^ j.natAbs.log2 < 2 ^ b := Nat.lt_of_le_of_lt h2 hb
  have h4 := (Nat.pow_lt_pow_iff_right (by decide : 1 < 2)).mp h3
  omega
theorem divOk_s {j : Int} (h0 : j ≠ 0) (hb : j.natAbs < 18446744073709551616) : divOk j = true := divOk_b (b := 64) h0 hb (by decide)
theorem bits_lt (n : Int) : n.natAbs < 2 ^ (Builtin.Int.intBits n) := by
  unfold Builtin.Int.intBits
  split
  · rename_i h
    simp at h
    subst h
    decide
  · exact Nat.lt_log2_self
@[simp] theorem cb_True : cb True = true := cb_t trivial
@[simp] theorem cb_False : cb False = false := cb_f id
/-! ### sums and products stay below powers of two -/
theorem b_mul {i j : Int} {a b : Nat} (ha : i.natAbs < 2 ^ a) (hb : j.natAbs < 2 ^ b) : (i * j).natAbs < 2 ^ (a + b) := by
  rw [Int.natAbs_mul, Nat.pow_add]
  exact Nat.mul_lt_mul'' ha hb
theorem b_add {i j : Int} {a : Nat} (ha : i.natAbs < 2 ^ a) (hb : j.natAbs < 2 ^ a) : (i + j).natAbs < 2 ^ (a + 1) := by
  rw [Nat.pow_succ]
  omega
theorem b_sub {i j : Int} {a : Nat} (ha : i.natAbs < 2 ^ a) (hb : j.natAbs < 2 ^ a) : (i - j).natAbs < 2 ^ (a + 1) := by
  rw [Nat.pow_succ]
  omega
theorem b_up {i : Int} {a b : Nat} (ha : i.natAbs < 2 ^ a) (h : a ≤ b) : i.natAbs < 2 ^ b := Nat.lt_of_lt_of_le ha (Nat.pow_le_pow_right (by decide) h)
theorem b_neg {i : Int} {a : Nat} (ha : i.natAbs < 2 ^ a) : (-i).natAbs < 2 ^ a := by rw [Int.natAbs_neg]; exact ha

/-! ### equality of data -/
@[simp] theorem eqv_int (i j : Int) : eqv (.int i) (.int j) = (i == j) := by simp [eqv, D.py, PyData.eqv]
theorem sh_of {d : D} (h1 : d.py.canLay0 = true) (h2 : d.py.depth ≤ 64) : eqOk d = true := by
  unfold eqOk SeqAt.shaped
  rw [h1]
  simp [h2]
@[simp] theorem eqOk_int (i : Int) : eqOk (.int i) = true := sh_of (by simp [D.py, PyData.canLay0]) (by simp [D.py, PyData.depth])
@[simp] theorem eqOk_bl (i : Bool) : eqOk (.bl i) = true := sh_of (by simp [D.py, PyData.canLay0]) (by simp [D.py, PyData.depth])
@[simp] theorem eqOk_non : eqOk .non = true := sh_of (by simp [D.py, PyData.canLay0]) (by simp [D.py, PyData.depth])
theorem pyA_ints : ∀ ns : List Int, D.pyA (ns.map D.int) = ns.map PyData.int
  | [] => rfl
  | n :: ns => by simp [D.pyA, D.py, pyA_ints ns]
theorem lay_ints : ∀ ns : List Int, PyData.canLayAll0 (ns.map PyData.int) = true
  | [] => by simp [PyData.canLayAll0]
  | n :: ns => by simp [PyData.canLayAll0, PyData.canLay0, lay_ints ns]
theorem dep_ints : ∀ ns : List Int, PyData.depthAll (ns.map PyData.int) = 0
  | [] => by simp [PyData.depthAll]
  | n :: ns => by simp [PyData.depthAll, PyData.depth, dep_ints ns]
@[simp] theorem eqOk_ints (ns : List Int) : eqOk (.tup (ns.map D.int)) = true := sh_of (by simp [D.py, PyData.canLay0, pyA_ints, lay_ints]) (by simp [D.py, PyData.depth, pyA_ints, dep_ints])
@[simp] theorem eqOk_two (i j : Int) : eqOk (.tup [.int i, .int j]) = true := eqOk_ints [i, j]
@[simp] theorem eqv_two (i j k l : Int) : eqv (.tup [.int i, .int j]) (.tup [.int k, .int l]) = (i == k && j == l) := by simp [eqv, D.py, D.pyA, PyData.eqv, PyData.eqvAll]

/-! ### Euclid's division as the laws do it -/
theorem half_rest {b r : Nat} (h0 : 0 < r) (h : r < b) : 2 * (b % r) < b := by
  have h1 := Nat.mod_lt b h0
  by_cases c : 2 * r ≤ b
  · omega
  · have e : b % r = b - r := by
      rw [Nat.mod_eq_sub_mod (Nat.le_of_lt h), Nat.mod_eq_of_lt (by omega)]
    omega
theorem fmod_nat (a b : Nat) : Int.fmod (a : Int) (b : Int) = ((a % b : Nat) : Int) := by
  rw [Int.fmod_eq_emod_of_nonneg _ (Int.natCast_nonneg b)]
  exact (Int.natCast_emod a b).symm
theorem abs_nat (i : Int) : (if i < 0 then -i else i) = (i.natAbs : Int) := by
  split <;> omega
/-! ### loops -/
theorem for_inv {g : FG} {body : Sl → Out} (P : List D → Sl → Prop) (step : ∀ d ds ρ, P (d :: ds) ρ → ∃ ρ1, g d ρ = some ρ1 ∧ ∃ ρ2, (body ρ1 = .nx ρ2 ∨ body ρ1 = .ct ρ2) ∧ P ds ρ2) : ∀ ds ρ, P ds ρ → ∃ ρ', forRun g body ds ρ = .nx ρ' ∧ P [] ρ'
  | [], ρ, h => ⟨ρ, rfl, h⟩
  | d :: ds, ρ, h => by
    obtain ⟨ρ1, h1, ρ2, h2, h3⟩ := step d ds ρ h
    obtain ⟨ρ3, h4, h5⟩ := for_inv P step ds ρ2 h3
    refine ⟨ρ3, ?_, h5⟩
    rcases h2 with h2 | h2 <;> simp only [forRun, h1, h2] <;> exact h4
theorem rngD_ints (lo : Int) (n : Nat) : rngD lo n = ((List.range n).map fun (k : Nat) => lo + (k : Int)).map D.int := by simp [rngD]
theorem atI_nat {xs : List D} {i : Int} {k : Nat} (h : i = (k : Int)) (hk : k < xs.length) : atI xs i = some xs[k] := by
  have e : ixN xs.length i = some k := by
    unfold ixN
    subst h
    simp [hk]
  unfold atI
  rw [e]
  exact List.getElem?_eq_getElem hk
theorem nth_ints (ns : List Int) (k : Nat) (h : k < (ns.map D.int).length) : (ns.map D.int)[k] = .int (ns[k]'(by simpa using h)) := by simp
theorem atI_ints {ns : List Int} {i : Int} (h0 : 0 ≤ i) (h1 : i < ns.length) : ∃ z, atI (ns.map D.int) i = some (.int z) := by
  obtain ⟨k, rfl⟩ := Int.eq_ofNat_of_zero_le h0
  have hk : k < (ns.map D.int).length := by simp; omega
  exact ⟨_, by rw [atI_nat rfl hk, nth_ints]⟩
theorem rng1_ok {n : Nat} (h : n ≤ 1000000) : gRng1 [.int (n : Int)] = .ok (rngD 0 n) := by
  have hg : cb (-(2 ^ 62) ≤ (n : Int) ∧ (n : Int) < 2 ^ 62) = true := cb_t (by constructor <;> omega)
  unfold gRng1
  simp only [hg, if_true, Int.toNat_natCast]
theorem seq_nx {g h : Sl → Out} {ρ ρ' : Sl} (e : g ρ = .nx ρ') : gSeq g h ρ = h ρ' := by simp only [gSeq, e]
theorem seq_nx2 {g1 g2 h : Sl → Out} {ρ ρ' : Sl} (e : gSeq g1 g2 ρ = .nx ρ') : gSeq g1 (gSeq g2 h) ρ = h ρ' := by
  unfold gSeq at e ⊢
  cases e1 : g1 ρ with
  | nx a => rw [e1] at e; simp only [gSeq] at e ⊢; rw [e]
  | _ => rw [e1] at e; cases e
theorem semF_ret {n : Nat} {g : Sl → Out} {ds : List D} {d : D} (h : g (ds.map Cell.v ++ List.replicate (n - ds.length) .e) = .ret d) : semF n g ds = .ok d := by
  unfold semF
  rw [h]
@[simp] theorem atI_zero (x : D) (xs : List D) : atI (x :: xs) 0 = some x := atI_nat (xs := x :: xs) (k := 0) rfl (by simp)
@[simp] theorem atI_one (x y : D) (xs : List D) : atI (x :: y :: xs) 1 = some y := atI_nat (xs := x :: y :: xs) (k := 1) rfl (by simp)
@[simp] theorem atI_two (x y z : D) (xs : List D) : atI (x :: y :: z :: xs) 2 = some z := atI_nat (xs := x :: y :: z :: xs) (k := 2) rfl (by simp)
@[simp] theorem atI_three (x y z u : D) (xs : List D) : atI (x :: y :: z :: u :: xs) 3 = some u := atI_nat (xs := x :: y :: z :: u :: xs) (k := 3) rfl (by simp)
theorem cut_ints (ns : List Int) (lo hi : Option Int) : ∃ ms : List Int, cutD (ns.map D.int) lo hi = ms.map D.int := ⟨_, by
  unfold cutD
  rw [← List.map_drop, ← List.map_take]⟩
theorem pow_ok {i : Int} {k : Nat} (h : i.natAbs < 2 ^ 64) (hk : k ≤ 1000000) : cb (0 ≤ (k : Int) ∧ (k : Int) ≤ 1000000 ∧ i.natAbs < 2 ^ 64) = true := cb_t ⟨by omega, by omega, h⟩
theorem eq_zero_b (i : Int) : (i == 0) = decide (i = 0) := by by_cases h : i = 0 <;> simp [h]
@[simp] theorem kb_int_int : kitB "int" "int" = some true := by decide +kernel
@[simp] theorem kb_int_bool : kitB "int" "bool" = some false := by decide +kernel
@[simp] theorem kb_int_tuple : kitB "int" "tuple" = some false := by decide +kernel
@[simp] theorem kb_int_list : kitB "int" "list" = some false := by decide +kernel
@[simp] theorem kb_int_str : kitB "int" "str" = some false := by decide +kernel
@[simp] theorem kb_bool_int : kitB "bool" "int" = some true := by decide +kernel
@[simp] theorem kb_bool_bool : kitB "bool" "bool" = some true := by decide +kernel
@[simp] theorem kb_bool_tuple : kitB "bool" "tuple" = some false := by decide +kernel
@[simp] theorem kb_bool_list : kitB "bool" "list" = some false := by decide +kernel
@[simp] theorem kb_bool_str : kitB "bool" "str" = some false := by decide +kernel
@[simp] theorem kb_tuple_int : kitB "tuple" "int" = some false := by decide +kernel
@[simp] theorem kb_tuple_bool : kitB "tuple" "bool" = some false := by decide +kernel
@[simp] theorem kb_tuple_tuple : kitB "tuple" "tuple" = some true := by decide +kernel
@[simp] theorem kb_tuple_list : kitB "tuple" "list" = some false := by decide +kernel
@[simp] theorem kb_tuple_str : kitB "tuple" "str" = some false := by decide +kernel
@[simp] theorem kb_list_int : kitB "list" "int" = some false := by decide +kernel
@[simp] theorem kb_list_bool : kitB "list" "bool" = some false := by decide +kernel
@[simp] theorem kb_list_tuple : kitB "list" "tuple" = some false := by decide +kernel
@[simp] theorem kb_list_list : kitB "list" "list" = some true := by decide +kernel
@[simp] theorem kb_list_str : kitB "list" "str" = some false := by decide +kernel
@[simp] theorem kb_str_int : kitB "str" "int" = some false := by decide +kernel
@[simp] theorem kb_str_bool : kitB "str" "bool" = some false := by decide +kernel
@[simp] theorem kb_str_tuple : kitB "str" "tuple" = some false := by decide +kernel
@[simp] theorem kb_str_list : kitB "str" "list" = some false := by decide +kernel
@[simp] theorem kb_str_str : kitB "str" "str" = some true := by decide +kernel
@[simp] theorem kb_NoneType_int : kitB "NoneType" "int" = some false := by decide +kernel
@[simp] theorem kb_NoneType_bool : kitB "NoneType" "bool" = some false := by decide +kernel
@[simp] theorem kb_NoneType_tuple : kitB "NoneType" "tuple" = some false := by decide +kernel
@[simp] theorem kb_NoneType_list : kitB "NoneType" "list" = some false := by decide +kernel
@[simp] theorem kb_NoneType_str : kitB "NoneType" "str" = some false := by decide +kernel
/-! ### comprehensions over ints -/
theorem lc_ints' (i : Nat) (f : Sl → Res D) (h : Int → Int) (ρ : Sl) : ∀ (ns acc : List Int), (∀ n ∈ ns, f (ρ.set i (.v (.int n))) = .ok (.int (h n))) → acc.length + ns.length ≤ 100000 → lcRun (PF.gName i) tYesF f ρ (ns.map D.int) (acc.map D.int) = .ok ((acc ++ ns.map h).map D.int)
  | [], acc, _, _ => by simp [lcRun]
  | n :: ns, acc, hf, hl => by
    have e1 := hf n (by simp)
    have hlt : (acc.map D.int).length < 16777216 := by simp at hl ⊢; omega
    have ih := lc_ints' i f h ρ ns (acc ++ [h n]) (fun m hm => hf m (by simp [hm])) (by simp at hl ⊢; omega)
    rw [List.map_cons]
    unfold lcRun
    simp only [PF.gName, tYesF, Res.nx, Res.bind_ok, if_true, e1, hlt]
    simpa using ih
theorem lc_ints (i : Nat) (f : Sl → Res D) (h : Int → Int) (ρ : Sl) (ns : List Int) (hf : ∀ n ∈ ns, f (ρ.set i (.v (.int n))) = .ok (.int (h n))) (hl : ns.length ≤ 100000) : lcRun (PF.gName i) tYesF f ρ (ns.map D.int) [] = .ok ((ns.map h).map D.int) := by
  have := lc_ints' i f h ρ ns [] hf (by simpa using hl)
  simpa using this
/-! ### the greatest common part of a list -/
def G (p : Nat) : List Int → Nat
  | [] => p
  | n :: ns => G (Nat.gcd p n.natAbs) ns
def Bd (k : Nat) (ns : List Int) : Prop := ∀ n ∈ ns, n.natAbs < 2 ^ k
theorem b_gcd {p q k : Nat} (hp : p < 2 ^ k) (hq : q < 2 ^ k) : Nat.gcd p q < 2 ^ k := by
  by_cases h : p = 0
  · subst h; simpa using hq
  · exact Nat.lt_of_le_of_lt (Nat.gcd_le_left _ (by omega)) hp
theorem G_lt {k : Nat} : ∀ (ns : List Int) (p : Nat), p < 2 ^ k → Bd k ns → G p ns < 2 ^ k
  | [], p, hp, _ => hp
  | n :: ns, p, hp, h => G_lt ns _ (b_gcd hp (h n (by simp))) fun m hm => h m (by simp [hm])
theorem Bd.up {k l : Nat} {ns : List Int} (h : Bd k ns) (hl : k ≤ l) : Bd l ns := fun n hn => b_up (h n hn) hl
theorem Bd.mul {k l : Nat} {ns : List Int} {f : Int} (h : Bd k ns) (hf : f.natAbs < 2 ^ l) : Bd (l + k) (ns.map (f * ·)) := fun n hn => by
  obtain ⟨m, hm, rfl⟩ := List.mem_map.mp hn
  exact b_mul hf (h m hm)
/-! ### comprehensions in general -/
theorem lc_map' {α : Type} {g : FG} {f : Sl → Res D} {ρ : Sl} (e h : α → D) : ∀ (xs : List α) (acc : List D), (∀ x ∈ xs, ∃ ρ1, g (e x) ρ = some ρ1 ∧ f ρ1 = .ok (h x)) → acc.length + xs.length ≤ 100000 → lcRun g tYesF f ρ (xs.map e) acc = .ok (acc ++ xs.map h)
  | [], acc, _, _ => by simp [lcRun]
  | x :: xs, acc, hf, hl => by
    obtain ⟨ρ1, h1, h2⟩ := hf x (by simp)
    have hlt : acc.length < 16777216 := by simp at hl; omega
    have ih := lc_map' e h xs (acc ++ [h x]) (fun m hm => hf m (by simp [hm])) (by simp at hl ⊢; omega)
    rw [List.map_cons]
    unfold lcRun
    simp only [h1, tYesF, Res.nx, Res.bind_ok, if_true, h2, hlt]
    simpa using ih
theorem lc_map {α : Type} {g : FG} {f : Sl → Res D} {ρ : Sl} (e h : α → D) (xs : List α) (hf : ∀ x ∈ xs, ∃ ρ1, g (e x) ρ = some ρ1 ∧ f ρ1 = .ok (h x)) (hl : xs.length ≤ 100000) : lcRun g tYesF f ρ (xs.map e) [] = .ok (xs.map h) := by
  have := lc_map' e h xs [] hf (by simpa using hl)
  simpa using this
theorem dBls_of {α : Type} (p : α → Bool) : ∀ xs : List α, dBls (xs.map fun x => D.bl (p x)) = some (xs.map p)
  | [] => rfl
  | x :: xs => by simp [dBls, dBls_of p xs]
theorem dInts_of {α : Type} (p : α → Int) : ∀ xs : List α, dInts (xs.map fun x => D.int (p x)) = some (xs.map p)
  | [] => rfl
  | x :: xs => by simp [dInts, dInts_of p xs]
/-! ### vectors -/
def vec (ns : List Int) : D := .tup (ns.map D.int)
theorem eqvA_ints : ∀ a b : List Int, PyData.eqvAll (a.map PyData.int) (b.map PyData.int) = decide (a = b)
  | [], [] => by simp [PyData.eqvAll]
  | [], _ :: _ => by simp [PyData.eqvAll]
  | _ :: _, [] => by simp [PyData.eqvAll]
  | x :: a, y :: b => by
    simp only [List.map_cons, PyData.eqvAll, eqvA_ints a b, PyData.eqv]
    by_cases h : x = y <;> simp [h]
theorem eqv_vec (a b : List Int) : eqv (vec a) (vec b) = decide (a = b) := by simp [vec, eqv, D.py, pyA_ints, PyData.eqv, eqvA_ints]
@[simp] theorem eqOk_vec (a : List Int) : eqOk (vec a) = true := eqOk_ints a
theorem eqOk_pt (ns : List Int) (d : Int) : eqOk (.tup [vec ns, .int d]) = true := sh_of (by simp [vec, D.py, D.pyA, PyData.canLay0, PyData.canLayAll0, pyA_ints, lay_ints]) (by simp [vec, D.py, D.pyA, PyData.depth, PyData.depthAll, pyA_ints, dep_ints])
theorem eqv_pt (ns ms : List Int) (d e : Int) : eqv (.tup [vec ns, .int d]) (.tup [vec ms, .int e]) = (decide (ns = ms) && decide (d = e)) := by
  by_cases h : d = e <;> simp [vec, eqv, D.py, D.pyA, pyA_ints, PyData.eqv, PyData.eqvAll, eqvA_ints, h]
theorem eqOk_str {x : Str} (h : PyData.strOk x = true) : eqOk (.str x) = true := sh_of (by simp [D.py, PyData.canLay0, h]) (by simp [D.py, PyData.depth])
@[simp] theorem eqv_str (x y : Str) : eqv (.str x) (.str y) = (x == y) := by simp [eqv, D.py, PyData.eqv]
def Sm (ns : List Int) : Prop := ∀ n ∈ ns, n.natAbs < 18446744073709551616
def dotZ : List Int → List Int → Int
  | x :: xs, y :: ys => x * y + dotZ xs ys
  | _, _ => 0
theorem zip_ints : ∀ a b : List Int, zipD (a.map D.int) (b.map D.int) = (a.zip b).map fun z => D.tup [.int z.1, .int z.2]
  | [], _ => by simp [zipD]
  | _ :: _, [] => by simp [zipD]
  | x :: a, y :: b => by simp [zipD, zip_ints a b]
theorem dot_sum : ∀ a b : List Int, ((a.zip b).map fun z => z.1 * z.2).sum = dotZ a b
  | [], _ => by simp [dotZ]
  | _ :: _, [] => by simp [dotZ]
  | x :: a, y :: b => by simp [dotZ, dot_sum a b]
@[simp] theorem thaw_vec (ns : List Int) : thaw (vec ns) = .ok (vec ns) := rfl
@[simp] theorem thaw_bl (b : Bool) : thaw (.bl b) = .ok (.bl b) := rfl
@[simp] theorem thaw_int (i : Int) : thaw (.int i) = .ok (.int i) := rfl
@[simp] theorem thaw_tup (ds : List D) : thaw (.tup ds) = .ok (.tup ds) := rfl
@[simp] theorem thaw_lst (ds : List D) : thaw (.lst ds) = .ok (.lst ds) := rfl
@[simp] theorem thaw_fr (ds : List D) : thaw (.fr ds) = .ok (.lst ds) := rfl
@[simp] theorem thaw_non : thaw .non = .ok .non := rfl
/-- a list or tuple of ints -/
def allI : List D → Option (List Int)
  | [] => some []
  | .int i :: ds => (allI ds).map (i :: ·)
  | _ => none
theorem allI_map : ∀ ns : List Int, allI (ns.map D.int) = some ns
  | [] => rfl
  | n :: ns => by simp [allI, allI_map ns]
inductive SeqI : D → List Int → Prop
  | t (ns : List Int) : SeqI (.tup (ns.map D.int)) ns
  | l (ns : List Int) : SeqI (.lst (ns.map D.int)) ns
def seqI (d : D) : Option (List Int) := match d with
  | .tup ds => allI ds
  | .lst ds => allI ds
  | _ => none
theorem allI_eq : ∀ {ds : List D} {ns : List Int}, allI ds = some ns → ds = ns.map D.int
  | [], ns, h => by cases h; rfl
  | d :: r, ns, h => by
    cases d <;> first | cases h | skip
    rename_i i
    simp only [allI, Option.map_eq_some_iff] at h
    obtain ⟨ms, h1, rfl⟩ := h
    rw [allI_eq h1]
    rfl
@[simp] theorem seqI_t (ns : List Int) : seqI (.tup (ns.map D.int)) = some ns := allI_map ns
@[simp] theorem seqI_l (ns : List Int) : seqI (.lst (ns.map D.int)) = some ns := allI_map ns
@[simp] theorem seqI_v (ns : List Int) : seqI (vec ns) = some ns := allI_map ns
theorem ix_seqI {d : D} {ns : List Int} {i : Int} {k : Nat} (h : seqI d = some ns) (hi : i = (k : Int)) (hk : k < ns.length) : oIx d (.int i) = .ok (.int ns[k]) := by
  have key : ∀ ds : List D, allI ds = some ns → atI ds i = some (.int ns[k]) := fun ds e => by
    have e' := allI_eq e
    subst e'
    rw [atI_nat hi (by simpa using hk), nth_ints]
  cases d <;> first | cases h | skip
  · rename_i ds; simp only [oIx, key ds h]
  · rename_i ds; simp only [oIx, key ds h]
theorem len_seqI {d : D} {ns : List Int} (h : seqI d = some ns) : bLen d = .ok (.int (ns.length : Int)) := by
  cases d <;> first | cases h | skip
  · rename_i ds; simp [bLen, allI_eq h]
  · rename_i ds; simp [bLen, allI_eq h]
@[simp] theorem oIxT0 (x : D) (xs : List D) : oIx (.tup (x :: xs)) (.int 0) = .ok x := by simp only [oIx, atI_zero]
@[simp] theorem oIxT1 (x y : D) (xs : List D) : oIx (.tup (x :: y :: xs)) (.int 1) = .ok y := by simp only [oIx, atI_one]
@[simp] theorem oIxT2 (x y z : D) (xs : List D) : oIx (.tup (x :: y :: z :: xs)) (.int 2) = .ok z := by simp only [oIx, atI_two]
theorem leC {α : Type} {x c : Nat} {a b : α} (h : x ≤ c) : (if x ≤ c then a else b) = a := if_pos h
theorem ltC {α : Type} {x c : Nat} {a b : α} (h : x < c) : (if x < c then a else b) = a := if_pos h
@[simp] theorem oIxL0 (x : D) (xs : List D) : oIx (.lst (x :: xs)) (.int 0) = .ok x := by simp only [oIx, atI_zero]
@[simp] theorem oIxL1 (x y : D) (xs : List D) : oIx (.lst (x :: y :: xs)) (.int 1) = .ok y := by simp only [oIx, atI_one]
@[simp] theorem oIxL2 (x y z : D) (xs : List D) : oIx (.lst (x :: y :: z :: xs)) (.int 2) = .ok z := by simp only [oIx, atI_two]
end ML

set_option Elab.async false
set_option linter.all false
set_option maxRecDepth 100000
set_option maxHeartbeats 4000000
/-! What the defs that every law has (mix, row, common, is_whole, is_tuple) answer. Printed from LC.tpl, @ for the law's short name. -/
namespace LC_k05
open PySem L2 PF ML S_k05

theorem fmod_b (i m : Int) (h : 0 < m) : 0 ≤ i.fmod m ∧ i.fmod m < m := by
  rw [Int.fmod_eq_emod_of_nonneg _ (by omega)]
  exact ⟨Int.emod_nonneg _ (by omega), Int.emod_lt_of_pos _ (by omega)⟩
theorem mix_ok (c k : Int) : ∃ z, f_ulaw_mix [.int c, .int k] = .ok (.int z) := by
  have h1 : ∀ i, mulOk i 48271 = true := fun i => mulOk_r (by decide)
  have h2 : ∀ i, mulOk i 69621 = true := fun i => mulOk_r (by decide)
  have h3 : ∀ i, mulOk i 40692 = true := fun i => mulOk_r (by decide)
  have h4 : ∀ i, mulOk i 16807 = true := fun i => mulOk_r (by decide)
  have h5 : ∀ i : Int, mulOk (i.fmod 2147483647) (i.fmod 2147483647) = true := fun i => by
    have := fmod_b i 2147483647 (by decide)
    exact mulOk_l (by omega)
  have h6 : divOk 8 = true := divOk_s (by decide) (by decide)
  have key : ∀ (a b : Int), a = (c * 48271 + k * 69621 + 11).fmod 2147483647 → b = (a * a + k * 40692 + 7).fmod 2147483399 → f_ulaw_mix [.int c, .int k] = .ok (.int (((b * 16807 + a).fmod 2147483587).fdiv 8)) := by
    intro a b ea eb
    subst ea eb
    simp [f_ulaw_mix, g_ulaw_mix, h1, h2, h3, h4, h5, h6]
  exact ⟨_, key _ _ rfl rfl⟩
def rowI (ns : List Int) (a m : Int) (n : Nat) (ds : List D) (ρ : Sl) : Prop := ∃ (c r : Int) (cs ks : List Int) (kc : Cell), ds = ks.map D.int ∧ cs.length + ds.length = n ∧ ρ = [.v (.rol (ns.map D.int)), .v (.int a), .v (.int m), .v (.int c), .o (cs.map D.int), .v (.int r), kc]
theorem row_step {ns : List Int} {a m : Int} {n : Nat} (hn : n ≤ 1000) (d : D) (ds : List D) (ρ : Sl) (h : rowI ns a m n (d :: ds) ρ) : ∃ ρ1, gName 6 d ρ = some ρ1 ∧ ∃ ρ2, (b1_ulaw_row ρ1 = .nx ρ2 ∨ b1_ulaw_row ρ1 = .ct ρ2) ∧ rowI ns a m n ds ρ2 := by
  obtain ⟨c, r, cs, ks, kc, h1, h2, rfl⟩ := h
  cases ks with
  | nil => cases h1
  | cons k ks =>
    cases h1
    refine ⟨_, rfl, ?_⟩
    have hl : cs.length < 16777216 := by simp at h2; omega
    have h6 : divOk 1009 = true := divOk_s (by decide) (by decide)
    obtain ⟨z, hz⟩ := mix_ok c k
    have hA : ∀ ρ2, ρ2 = [.v (.rol (ns.map D.int)), .v (.int a), .v (.int m), .v (.int c), .o ((cs ++ [z]).map D.int), .v (.int r), .v (.int k)] → rowI ns a m n (ks.map D.int) ρ2 := fun ρ2 e => ⟨c, r, cs ++ [z], ks, _, rfl, by simp at h2 ⊢; omega, e⟩
    have hB : ∀ ρ2, ρ2 = [.v (.rol (ns.map D.int)), .v (.int a), .v (.int m), .v (.int c), .o ((cs ++ [r.fmod 1009]).map D.int), .v (.int (r.fdiv 1009)), .v (.int k)] → rowI ns a m n (ks.map D.int) ρ2 := fun ρ2 e => ⟨c, r.fdiv 1009, cs ++ [r.fmod 1009], ks, _, rfl, by simp at h2 ⊢; omega, e⟩
    cases e1 : cb (1000000000000000000 ≤ (if c < 0 then -c else c)) <;> cases e2 : cb (0 < r)
    · exact ⟨_, .inl (by simp [-cb_iff, -cb_nif, b1_ulaw_row, e1, e2, hl, hz]; rfl), hA _ (by simp)⟩
    · exact ⟨_, .inl (by simp [-cb_iff, -cb_nif, b1_ulaw_row, e1, e2, hl, hz]; rfl), hA _ (by simp)⟩
    · exact ⟨_, .inl (by simp [-cb_iff, -cb_nif, b1_ulaw_row, e1, e2, hl, hz]; rfl), hA _ (by simp)⟩
    · exact ⟨_, .inl (by simp [-cb_iff, -cb_nif, b1_ulaw_row, e1, e2, hl, h6]; rfl), hB _ (by simp)⟩
theorem row_ok (ns : List Int) (hns : ns.length ≤ 63) (a : Int) (ha : 0 ≤ a) (n : Nat) (hn : n ≤ 1000) : ∃ cs : List Int, cs.length = n ∧ f_ulaw_row [.rol (ns.map D.int), .int a, .int n] = .ok (.fr (cs.map D.int)) := by
  have fin : ∀ c r : Int, ∃ ρ', forRun (gName 6) b1_ulaw_row (rngD 0 n) [.v (.rol (ns.map D.int)), .v (.int a), .v (.int n), .v (.int c), .o [], .v (.int r), .e] = .nx ρ' ∧ rowI ns a n n [] ρ' := fun c r =>
    for_inv (rowI ns a n n) (row_step hn) _ _ ⟨c, r, [], _, .e, rngD_ints 0 n, by simp [rngD], rfl⟩
  have hg := rng1_ok (n := n) (by omega)
  have key : ∀ c : Int, ∃ cs : List Int, cs.length = n ∧ (gSeq (gSetO 4 (fLst aNil))
    (gSeq (gSet 5 (sUn bAbs (sRd 3)))
    (gSeq (gFor (iRg1 (aCons (sVar 2) aNil)) (gName 6) b1_ulaw_row)
    (gRetO 4)))) [.v (.rol (ns.map D.int)), .v (.int a), .v (.int n), .v (.int c), .e, .e, .e] = .ret (.fr (cs.map D.int)) := fun c => by
    obtain ⟨ρ', h1, c', r', cs, ks, kc, h2, h3, rfl⟩ := fin c (if c < 0 then -c else c)
    refine ⟨cs, by simpa using h3, ?_⟩
    simp [-cb_iff, -cb_nif, -gRng1, hg, h1]
  have h7 : ∀ i, mulOk 7919 i = true := fun i => mulOk_l (by decide)
  have start : ∃ c : Int, (gSeq (gSet 3 (sVar 1)) (gIf (sTest (sOp oLt (sRd 1) (sUn bLen (sRd 0)))) (gSet 3 (sOp oIx (sRd 0) (sRd 1))) (gIf (sTest (sOp oGt (sUn bLen (sRd 0)) (sC (.int 0)))) (gSet 3 (sOp oAdd (sOp oIx (sRd 0) (sOp oMod (sRd 1) (sUn bLen (sRd 0)))) (sOp oMul (sC (.int 7919)) (sRd 1)))) gNil))) [.v (.rol (ns.map D.int)), .v (.int a), .v (.int n), .e, .e, .e, .e] = .nx [.v (.rol (ns.map D.int)), .v (.int a), .v (.int n), .v (.int c), .e, .e, .e] := by
    by_cases e1 : a < (ns.length : Int)
    · obtain ⟨z, hz⟩ := atI_ints ha e1
      exact ⟨z, by simp [-cb_iff, -cb_nif, cb_t e1, hz]⟩
    · by_cases e2 : (0 : Int) < (ns.length : Int)
      · obtain ⟨z, hz⟩ := atI_ints (ns := ns) (fmod_b a _ e2).1 (fmod_b a _ e2).2
        have e3 : ns ≠ [] := by intro h; subst h; simp at e2
        exact ⟨z + 7919 * a, by simp [-cb_iff, -cb_nif, cb_f e1, cb_t e2, cb_t (show 0 < ns.length by omega), hz, h7, e3]⟩
      · exact ⟨a, by simp [-cb_iff, -cb_nif, cb_f e1, cb_f e2, cb_f (show ¬ 0 < ns.length by omega)]⟩
  obtain ⟨c, hc⟩ := start
  obtain ⟨cs, h8, h9⟩ := key c
  refine ⟨cs, h8, ?_⟩
  have e : g_ulaw_row [.v (.rol (ns.map D.int)), .v (.int a), .v (.int n), .e, .e, .e, .e] = .ret (.fr (cs.map D.int)) := by
    rw [← h9]
    unfold g_ulaw_row
    exact seq_nx2 hc
  unfold f_ulaw_row
  exact semF_ret e
end LC_k05

set_option Elab.async false
set_option linter.all false
set_option maxRecDepth 100000
set_option maxHeartbeats 4000000
namespace M_k05
open PySem L2 PF ML S_k05 LC_k05

def rowD (r : List Int × Int) : D := .tup [vec r.1, .int r.2]
def rowsD (rs : List (List Int × Int)) : D := .lst (rs.map rowD)
theorem sm_l {x : Int} {xs : List Int} (h : Sm xs) (hx : x ∈ xs) (y : Int) : mulOk x y = true := mulOk_l (h x hx)
theorem sm_r {x : Int} {xs : List Int} (h : Sm xs) (hx : x ∈ xs) (y : Int) : mulOk y x = true := mulOk_r (h x hx)
/-- dot, the left one small -/
theorem dot_ok (d e : D) (a b : List Int) (hd : dSq d = .ok (a.map D.int)) (he : dSq e = .ok (b.map D.int)) (ha : Sm a) (hl : a.length ≤ 1000) : f_dot [d, e] = .ok (.int (dotZ a b)) := by
  have h := lc_map (g := gTup 2 (gsCons (PF.gName 2) (gsCons (PF.gName 3) gsNil))) (f := b1_dot) (ρ := [.v d, .v e, .e, .e]) (fun z : Int × Int => D.tup [.int z.1, .int z.2]) (fun z => D.int (z.1 * z.2)) (a.zip b)
    (fun z hz => ⟨_, by simp; rfl, by simp [b1_dot, sm_l ha (List.of_mem_zip hz).1]⟩) (by rw [List.length_zip]; omega)
  have h2 := dInts_of (fun z : Int × Int => z.1 * z.2) (a.zip b)
  have h3 : dInts ((a.zip b).map fun z => D.int (z.1 * z.2)) = some _ := h2
  simp [-dSq, f_dot, g_dot, hd, he, zip_ints, h, h3, dot_sum]
theorem dot_okR (d e : D) (a b : List Int) (hd : dSq d = .ok (a.map D.int)) (he : dSq e = .ok (b.map D.int)) (hb : Sm b) (hl : a.length ≤ 1000) : f_dot [d, e] = .ok (.int (dotZ a b)) := by
  have h := lc_map (g := gTup 2 (gsCons (PF.gName 2) (gsCons (PF.gName 3) gsNil))) (f := b1_dot) (ρ := [.v d, .v e, .e, .e]) (fun z : Int × Int => D.tup [.int z.1, .int z.2]) (fun z => D.int (z.1 * z.2)) (a.zip b)
    (fun z hz => ⟨_, by simp; rfl, by simp [b1_dot, sm_r hb (List.of_mem_zip hz).2]⟩) (by rw [List.length_zip]; omega)
  have h3 : dInts ((a.zip b).map fun z => D.int (z.1 * z.2)) = some _ := dInts_of (fun z : Int × Int => z.1 * z.2) (a.zip b)
  simp [-dSq, f_dot, g_dot, hd, he, zip_ints, h, h3, dot_sum]
/-! is_row, is_point, is_weights -/
theorem whole_ok (i : Int) : f_is_whole [.int i] = .ok (.bl true) := by simp [f_is_whole, g_is_whole]
theorem row_eq (ns : List Int) (h : ns.length ≤ 1000) : f_is_row [vec ns, .int (ns.length : Int)] = .ok (.bl true) := by
  have e := lc_map (g := PF.gName 2) (f := b1_is_row) (ρ := [.v (vec ns), .v (.int (ns.length : Int)), .e]) D.int (fun _ => D.bl true) ns (fun x _ => ⟨_, rfl, by simp [b1_is_row, whole_ok]⟩) (by omega)
  have e2 : dBls (ns.map fun _ => D.bl true) = some _ := dBls_of (fun _ => true) ns
  unfold vec at e ⊢
  simp only [f_is_row, semF, g_is_row]
  simp [e, e2]
theorem row_ne (ns : List Int) (n : Int) (h : (ns.length : Int) ≠ n) : f_is_row [vec ns, .int n] = .ok (.bl false) := by
  unfold vec
  simp [f_is_row, g_is_row, h]
theorem row_int (i n : Int) : f_is_row [.int i, .int n] = .ok (.bl false) := by simp [f_is_row, g_is_row]
theorem row_non (n : Int) : f_is_row [.non, .int n] = .ok (.bl false) := by simp [f_is_row, g_is_row]
theorem content_run (v : D) : ∀ (ns : List Int) (p : Nat) (kc : Cell), ∃ kc', forRun (PF.gName 2) b1_content (ns.map D.int) [.v v, .v (.int (p : Int)), kc] = .nx [.v v, .v (.int ((G p ns : Nat) : Int)), kc']
  | [], p, kc => ⟨kc, rfl⟩
  | n :: ns, p, kc => by
    obtain ⟨kc', ih⟩ := content_run v ns (Nat.gcd p n.natAbs) (.v (.int n))
    refine ⟨kc', ?_⟩
    rw [List.map_cons]
    simp only [forRun, PF.gName]
    simpa [b1_content, G] using ih
theorem content_ok (ns : List Int) : f_content [vec ns] = .ok (.int ((G 0 ns : Nat) : Int)) := by
  obtain ⟨kc', h⟩ := content_run (vec ns) ns 0 .e
  have h : forRun (PF.gName 2) b1_content (ns.map D.int) [.v (vec ns), .v (.int 0), .e] = _ := h
  unfold vec at h ⊢
  simp [f_content, g_content, h]
/-- make_point with a positive denominator: its numbers through the common part -/
theorem point_mk (ns : List Int) (d : Int) (hd : 0 < d) (hd2 : d ≤ 1000) (hl : ns.length ≤ 1000) : f_make_point [vec ns, .int d] = .ok (.tup [vec (ns.map (·.fdiv (Nat.gcd (G 0 ns) d.natAbs : Nat))), .int (d.fdiv (Nat.gcd (G 0 ns) d.natAbs : Nat))]) := by
  have h1 := content_ok ns
  have hgl : Nat.gcd (G 0 ns) d.natAbs ≤ d.natAbs := Nat.gcd_le_right _ (by omega)
  have hg : Nat.gcd (G 0 ns) d.natAbs ≠ 0 := fun h => by
    have := Nat.eq_zero_of_gcd_eq_zero_right h
    omega
  generalize hG : Nat.gcd (G 0 ns) d.natAbs = g at *
  have k1 : divOk (g : Int) = true := divOk_s (by omega) (by omega)
  have e0 : (d == 0) = false := by simp; omega
  have e1 : ¬ d = 0 := by omega
  have e := lc_ints 3 b1_make_point (·.fdiv (g : Int)) [.v (vec ns), .v (.int d), .v (.int (g : Int)), .e] ns (fun n _ => by simp [b1_make_point, k1]) (by omega)
  unfold vec at e h1 ⊢
  simp [-cb_iff, -cb_nif, -List.map_map, f_make_point, g_make_point, h1, hG, e1, e0, cb_f (show ¬ d < 0 by omega), k1, e]
theorem fd1 (ns : List Int) : ns.map (·.fdiv ((1 : Nat) : Int)) = ns := by
  have : (fun x : Int => x.fdiv ((1 : Nat) : Int)) = id := by funext x; simp
  rw [this, List.map_id]
theorem pt_one (ns : List Int) (h : ns.length ≤ 1000) : f_is_point [.tup [vec ns, .int 1], .int (ns.length : Int)] = .ok (.bl true) := by
  have h1 := point_mk ns 1 (by decide) (by decide) h
  have h2 : Nat.gcd (G 0 ns) (1 : Int).natAbs = 1 := Nat.gcd_one_right _
  rw [h2, fd1] at h1
  have h3 : (1 : Int).fdiv ((1 : Nat) : Int) = 1 := by decide
  rw [h3] at h1
  have h4 := row_eq ns h
  have c : cb (1 ≤ (1 : Int)) = true := cb_t (by decide)
  simp [-cb_iff, -cb_nif, f_is_point, g_is_point, h1, h4, whole_ok, c, eqOk_pt, eqv_pt]
theorem pt_len (ns : List Int) (d n : Int) (h : (ns.length : Int) ≠ n) : f_is_point [.tup [vec ns, .int d], .int n] = .ok (.bl false) := by
  simp [f_is_point, g_is_point, row_ne ns n h]
theorem pt_zero (ns : List Int) (h : ns.length ≤ 1000) : f_is_point [.tup [vec ns, .int 0], .int (ns.length : Int)] = .ok (.bl false) := by
  have c : cb (1 ≤ (0 : Int)) = false := cb_f (by decide)
  simp [-cb_iff, -cb_nif, f_is_point, g_is_point, row_eq ns h, whole_ok, c]
theorem pt_three (a b c : D) (n : Int) : f_is_point [.tup [a, b, c], .int n] = .ok (.bl false) := by
  simp [f_is_point, g_is_point]
theorem pt_vec (ns : List Int) (n : Int) : f_is_point [vec ns, .int n] = .ok (.bl false) := by
  match ns with
  | [a, b] => simp [vec, f_is_point, g_is_point, row_int]
  | [] => simp [vec, f_is_point, g_is_point]
  | [a] => simp [vec, f_is_point, g_is_point]
  | a :: b :: c :: r =>
    have : ¬ ((r.length : Int) + 1 + 1 + 1 = 2) := by omega
    simp [vec, f_is_point, g_is_point, this]
theorem G_even : ∀ (ns : List Int) (p : Nat), 2 ∣ p → 2 ∣ G p (ns.map (2 * ·))
  | [], p, h => h
  | n :: ns, p, h => by
    refine G_even ns _ (Nat.dvd_gcd h ?_)
    rw [Int.natAbs_mul]
    exact Nat.dvd_mul_right _ _
theorem pt_two (ns : List Int) (h : ns.length ≤ 1000) : f_is_point [.tup [vec (ns.map (2 * ·)), .int 2], .int (ns.length : Int)] = .ok (.bl false) := by
  have h1 := point_mk (ns.map (2 * ·)) 2 (by decide) (by decide) (by simpa using h)
  have h2 : Nat.gcd (G 0 (ns.map (2 * ·))) (2 : Int).natAbs = 2 := Nat.gcd_eq_right (G_even ns 0 (Nat.dvd_zero 2))
  rw [h2] at h1
  have h3 : (2 : Int).fdiv ((2 : Nat) : Int) = 1 := by decide
  rw [h3] at h1
  have h4 := row_eq (ns.map (2 * ·)) (by simpa using h)
  rw [List.length_map] at h4
  have c : cb (1 ≤ (2 : Int)) = true := cb_t (by decide)
  simp [-cb_iff, -cb_nif, -List.map_map, f_is_point, g_is_point, h1, h4, whole_ok, c, eqOk_pt, eqv_pt]
theorem weights_ok (ns : List Int) (h : ns.length ≤ 1000) : f_is_weights [vec ns, .int (ns.length : Int)] = .ok (.bl (ns.all fun x => cb (0 ≤ x))) := by
  have e := lc_map (g := PF.gName 2) (f := b1_is_weights) (ρ := [.v (vec ns), .v (.int (ns.length : Int)), .e]) D.int (fun x => D.bl (cb (0 ≤ x))) ns (fun x _ => ⟨_, rfl, by simp [-cb_iff, -cb_nif, b1_is_weights]⟩) (by omega)
  have e2 : dBls (ns.map fun x => D.bl (cb (0 ≤ x))) = some _ := dBls_of (fun x => cb (0 ≤ x)) ns
  have h1 := row_eq ns h
  unfold vec at e h1 ⊢
  simp only [f_is_weights, semF, g_is_weights]
  simp [-cb_iff, -cb_nif, e, e2, h1]
theorem weights_ne (ns : List Int) (n : Int) (h : (ns.length : Int) ≠ n) : f_is_weights [vec ns, .int n] = .ok (.bl false) := by
  simp [f_is_weights, g_is_weights, row_ne ns n h]
structure Rows (n : Nat) (rs : List (List Int × Int)) : Prop where
  len : ∀ r ∈ rs, r.1.length = n
  sm : ∀ r ∈ rs, Sm r.1
  n : n ≤ 1000
  m : rs.length ≤ 1000
theorem sat_ok {n : Nat} {rs : List (List Int × Int)} (h : Rows n rs) (p : List Int) : f_satisfies [rowsD rs, .tup [vec p, .int 1]] = .ok (.bl (rs.all fun r => cb (r.2 ≤ dotZ r.1 p))) := by
  have e := lc_map (g := gTup 2 (gsCons (PF.gName 4) (gsCons (PF.gName 5) gsNil))) (f := b1_satisfies) (ρ := [.v (rowsD rs), .v (.tup [vec p, .int 1]), .v (vec p), .v (.int 1), .e, .e]) rowD (fun r => D.bl (cb (r.2 ≤ dotZ r.1 p))) rs
    (fun r hr => ⟨_, by simp [rowD]; rfl, by
      have h1 := dot_ok (vec r.1) (vec p) r.1 p rfl rfl (h.sm r hr) (by rw [h.len r hr]; exact h.n)
      have h2 : mulOk r.2 1 = true := mulOk_r (by decide)
      simp [-cb_iff, -cb_nif, b1_satisfies, h1, h2]⟩) (by have := h.m; omega)
  have e2 : dBls (rs.map fun r => D.bl (cb (r.2 ≤ dotZ r.1 p))) = some _ := dBls_of (fun r : List Int × Int => cb (r.2 ≤ dotZ r.1 p)) rs
  unfold rowsD at e ⊢
  simp only [f_satisfies, semF, g_satisfies]
  simp [-cb_iff, -cb_nif, e, e2]
theorem rep0_ok (n : Nat) (hn : n ≤ 1000) : fRep (.lst [.int 0]) (.int (n : Int)) = .ok ((List.replicate n (0 : Int)).map D.int) := by
  have e : (List.replicate n [D.int 0]).flatten = (List.replicate n (0 : Int)).map D.int := by
    rw [List.map_replicate]
    clear hn
    induction n with
    | zero => rfl
    | succ n ih => rw [List.replicate_succ, List.flatten_cons, ih, List.replicate_succ]; rfl
  have c := cb_t (p := -(2 ^ 63) ≤ (n : Int) ∧ (n : Int) < 2 ^ 63 ∧ [D.int 0].length * n ≤ 16777216) ⟨by omega, by omega, by simp; omega⟩
  simp only [fRep, c, if_true, Int.toNat_natCast, e]
/-- the sum of the vectors, each times its weight -/
def wsum : List Int → List Int → List (List Int) → List Int
  | acc, w :: ws, v :: vs => wsum (List.zipWith (fun a b => a + w * b) acc v) ws vs
  | acc, _, _ => acc
theorem zw0 : ∀ (a v : List Int), v.length = a.length → List.zipWith (fun a b => a + 0 * b) a v = a
  | [], [], _ => rfl
  | x :: a, y :: v, h => by
    simp only [List.zipWith_cons_cons, zw0 a v (by simpa using h)]
    simp
theorem zip_vecs : ∀ (w : List Int) (vs : List (List Int)), zipD (w.map D.int) (vs.map vec) = (w.zip vs).map fun z => D.tup [.int z.1, vec z.2]
  | [], _ => by simp [zipD]
  | _ :: _, [] => by simp [zipD]
  | x :: a, y :: b => by simp [zipD, zip_vecs a b]
theorem weighted_run {n : Nat} (hn : n ≤ 1000) (wd vd : D) : ∀ (ws : List Int) (vs : List (List Int)) (acc : List Int) (k1 k2 : Cell), Sm ws → (∀ v ∈ vs, v.length = n) → acc.length = n →
    ∃ k1' k2', forRun (gTup 2 (gsCons (PF.gName 4) (gsCons (PF.gName 5) gsNil))) b2_weighted (zipD (ws.map D.int) (vs.map vec)) [.v wd, .v vd, .v (.int n), .v (.lst (acc.map D.int)), k1, k2, .e, .e] = .nx [.v wd, .v vd, .v (.int n), .v (.lst ((wsum acc ws vs).map D.int)), k1', k2', .e, .e]
  | [], vs, acc, k1, k2, _, _, _ => ⟨k1, k2, by simp [zipD, forRun, wsum]⟩
  | w :: ws, [], acc, k1, k2, _, _, _ => ⟨k1, k2, by simp [zipD, forRun, wsum]⟩
  | w :: ws, v :: vs, acc, k1, k2, hw, hv, ha => by
    have hvl : v.length = acc.length := by rw [ha]; exact hv v (by simp)
    obtain ⟨k1', k2', ih⟩ := weighted_run hn wd vd ws vs (List.zipWith (fun a b => a + w * b) acc v) (.v (.int w)) (.v (vec v)) (fun x hx => hw x (by simp [hx])) (fun x hx => hv x (by simp [hx])) (by rw [List.length_zipWith]; omega)
    refine ⟨k1', k2', ?_⟩
    have step : b2_weighted [.v wd, .v vd, .v (.int n), .v (.lst (acc.map D.int)), .v (.int w), .v (vec v), .e, .e] = .nx [.v wd, .v vd, .v (.int n), .v (.lst ((List.zipWith (fun a b => a + w * b) acc v).map D.int)), .v (.int w), .v (vec v), .e, .e] := by
      by_cases h0 : w = 0
      · subst h0
        rw [zw0 acc v hvl]
        simp [b2_weighted]
      · have e := lc_map (g := gTup 2 (gsCons (PF.gName 6) (gsCons (PF.gName 7) gsNil))) (f := b1_weighted) (ρ := [.v wd, .v vd, .v (.int n), .v (.lst (acc.map D.int)), .v (.int w), .v (vec v), .e, .e]) (fun z : Int × Int => D.tup [.int z.1, .int z.2]) (fun z => D.int (z.1 + w * z.2)) (acc.zip v)
          (fun z hz => ⟨_, by simp; rfl, by simp [b1_weighted, sm_l hw (List.mem_cons_self ..)]⟩) (by rw [List.length_zip]; omega)
        have e3 : (acc.zip v).map (fun z => D.int (z.1 + w * z.2)) = (List.zipWith (fun a b => a + w * b) acc v).map D.int := by
          rw [← List.map_uncurry_zip_eq_zipWith, List.map_map]; rfl
        rw [e3] at e
        have e1 : (w == 0) = false := by simp [h0]
        generalize (List.zipWith (fun a b => a + w * b) acc v).map D.int = R at *
        unfold vec at e ⊢
        simp [b2_weighted, e1, h0, zip_ints, e]
    simp only [List.map_cons, zipD, forRun, wsum, PF.gTup, PF.gsCons, PF.gName, PF.gsNil]
    generalize List.zipWith (fun a b => a + w * b) acc v = z at *
    simp [step]
    exact ih
theorem weighted_ok {n : Nat} (hn : n ≤ 1000) (ws : List Int) (vs : List (List Int)) (hw : Sm ws) (hv : ∀ v ∈ vs, v.length = n) : f_weighted [vec ws, .lst (vs.map vec), .int n] = .ok (vec (wsum (List.replicate n 0) ws vs)) := by
  obtain ⟨k1, k2, h⟩ := weighted_run hn (vec ws) (.lst (vs.map vec)) ws vs (List.replicate n 0) .e .e hw hv (by simp)
  have hf : fRep (.lst [.int 0]) (.int n) = .ok ((List.replicate n (0 : Int)).map D.int) := rep0_ok n hn
  unfold vec at h ⊢
  generalize (wsum (List.replicate n 0) ws vs).map D.int = R at *
  simp only [f_weighted, semF, g_weighted]
  simp [-fRep, -List.map_replicate, hf, h]
theorem coeffs_ok {n : Nat} {rs : List (List Int × Int)} (h : Rows n rs) (g : FG) (f : Sl → Res D) (ρ : Sl) (hg : ∀ r ∈ rs, ∃ ρ1, g (rowD r) ρ = some ρ1 ∧ f ρ1 = .ok (vec r.1)) : lcRun g tYesF f ρ (rs.map rowD) [] = .ok ((rs.map (·.1)).map vec) := by
  rw [List.map_map]
  exact lc_map rowD (fun r => vec r.1) rs hg (by have := h.m; omega)
theorem rhs_ok {n : Nat} {rs : List (List Int × Int)} (h : Rows n rs) (g : FG) (f : Sl → Res D) (ρ : Sl) (hg : ∀ r ∈ rs, ∃ ρ1, g (rowD r) ρ = some ρ1 ∧ f ρ1 = .ok (.int r.2)) : lcRun g tYesF f ρ (rs.map rowD) [] = .ok ((rs.map (·.2)).map D.int) := by
  rw [List.map_map]
  exact lc_map rowD (fun r => .int r.2) rs hg (by have := h.m; omega)

/-- what the judge of a best pair answers -/
theorem best_ok {n : Nat} {rs : List (List Int × Int)} (h : Rows n rs) (c p w : List Int) (hc : c.length = n) (hp : p.length = n) (hw : w.length = rs.length) (sw : Sm w) (sp : Sm p) :
    f_is_best_pair [rowsD rs, vec c, .tup [vec p, .int 1], .tup [vec w, .int 1]] = .ok (.bl ((w.all fun x => cb (0 ≤ x)) && ((rs.all fun r => cb (r.2 ≤ dotZ r.1 p)) && (decide (wsum (List.replicate n 0) w (rs.map (·.1)) = c) && decide (dotZ w (rs.map (·.2)) = dotZ c p))))) := by
  have hm := h.m
  have hn := h.n
  have p1 := pt_one p (by omega)
  have p2 := pt_one w (by omega)
  have w1 := weights_ok w (by omega)
  have s1 := sat_ok h p
  rw [hp] at p1
  rw [hw] at p2 w1
  have e1 := coeffs_ok h (gTup 2 (gsCons (PF.gName 6) (gsCons (PF.gName 7) gsNil))) (sVar 6) [.v (rowsD rs), .v (vec c), .v (.tup [vec p, .int 1]), .v (.tup [vec w, .int 1]), .v (vec w), .v (.int 1), .e, .e, .e] (fun r _ => ⟨_, by simp [rowD]; rfl, by simp⟩)
  have e2 := rhs_ok h (gTup 2 (gsCons (PF.gName 6) (gsCons (PF.gName 7) gsNil))) (sVar 7) [.v (rowsD rs), .v (vec c), .v (.tup [vec p, .int 1]), .v (.tup [vec w, .int 1]), .v (vec w), .v (.int 1), .e, .e, .e] (fun r _ => ⟨_, by simp [rowD]; rfl, by simp⟩)
  have e3 := lc_ints 8 b1_is_best_pair id [.v (rowsD rs), .v (vec c), .v (.tup [vec p, .int 1]), .v (.tup [vec w, .int 1]), .v (vec w), .v (.int 1), .e, .e, .e] c (fun x _ => by
    have : mulOk 1 x = true := mulOk_l (by decide)
    simp [b1_is_best_pair, this]) (by omega)
  rw [List.map_id] at e3
  have g1 := weighted_ok (n := n) hn w (rs.map (·.1)) sw (fun v hv => by
    obtain ⟨r, hr, rfl⟩ := List.mem_map.mp hv
    exact h.len r hr)
  have d1 := dot_ok (vec w) (.lst ((rs.map (·.2)).map D.int)) w (rs.map (·.2)) rfl rfl sw (by omega)
  have d2 := dot_okR (vec c) (vec p) c p rfl rfl sp (by omega)
  have m1 : ∀ x, mulOk x 1 = true := fun x => mulOk_r (by decide)
  have lc : (vec c) = .tup (c.map D.int) := rfl
  have lr : (rowsD rs) = .lst (rs.map rowD) := rfl
  have bl1 : bLen (vec c) = .ok (.int n) := by simp [vec, hc]
  have bl2 : bLen (rowsD rs) = .ok (.int rs.length) := by simp [rowsD]
  have ds1 : dSeq (vec c) = .ok (c.map D.int) := rfl
  have ds2 : dSeq (rowsD rs) = .ok (rs.map rowD) := rfl
  have eq1 := eqv_vec (wsum (List.replicate n 0) w (rs.map (·.1))) c
  have tc : D.tup (c.map D.int) = vec c := rfl
  have eq2 : eqv (vec c) (vec c) = true := by rw [eqv_vec]; simp
  generalize rs.map (·.1) = cs at *
  generalize rs.map (·.2) = bs at *
  generalize rs.map rowD = rd at *
  cases wa : (w.all fun x => cb (0 ≤ x)) with
  | false => simp [-cb_iff, -cb_nif, -bLen, -dSeq, -thaw, f_is_best_pair, g_is_best_pair, bl1, bl2, p1, p2, w1, wa]
  | true =>
    cases sa : (rs.all fun r => cb (r.2 ≤ dotZ r.1 p)) with
    | false => simp [-cb_iff, -cb_nif, -bLen, -dSeq, -thaw, f_is_best_pair, g_is_best_pair, bl1, bl2, p1, p2, w1, wa, s1, sa]
    | true =>
      by_cases z : wsum (List.replicate n 0) w cs = c
      · simp [-cb_iff, -cb_nif, -bLen, -dSeq, -thaw, -List.map_map, f_is_best_pair, g_is_best_pair, bl1, bl2, p1, p2, w1, wa, s1, sa, ds1, ds2, e1, e2, e3, g1, d1, d2, m1, tc, eq1, eq2, z]
        rfl
      · simp [-cb_iff, -cb_nif, -bLen, -dSeq, -thaw, -List.map_map, f_is_best_pair, g_is_best_pair, bl1, bl2, p1, p2, w1, wa, s1, sa, ds1, ds2, e1, e2, e3, g1, d1, d2, m1, tc, eq1, eq2, z]
/-- what the judge of a bar answers -/
theorem bar_ok {n : Nat} {rs : List (List Int × Int)} (h : Rows n rs) (w : List Int) (hw : w.length = rs.length) (sw : Sm w) :
    f_is_bar [rowsD rs, .int n, vec w] = .ok (.bl ((w.all fun x => cb (0 ≤ x)) && (!((wsum (List.replicate n 0) w (rs.map (·.1))).any fun x => !decide (x = 0)) && cb (0 < dotZ w (rs.map (·.2)))))) := by
  have hm := h.m
  have hn := h.n
  have w1 := weights_ok w (by omega)
  rw [hw] at w1
  have e1 := coeffs_ok h (gTup 2 (gsCons (PF.gName 4) (gsCons (PF.gName 5) gsNil))) (sVar 4) [.v (rowsD rs), .v (.int n), .v (vec w), .e, .e, .e] (fun r _ => ⟨_, by simp [rowD]; rfl, by simp⟩)
  have e2 := rhs_ok h (gTup 2 (gsCons (PF.gName 4) (gsCons (PF.gName 5) gsNil))) (sVar 5) [.v (rowsD rs), .v (.int n), .v (vec w), .e, .e, .e] (fun r _ => ⟨_, by simp [rowD]; rfl, by simp⟩)
  have g1 := weighted_ok (n := n) hn w (rs.map (·.1)) sw (fun v hv => by
    obtain ⟨r, hr, rfl⟩ := List.mem_map.mp hv
    exact h.len r hr)
  have wl : ∀ (ws : List Int) (vs : List (List Int)) (acc : List Int), (wsum acc ws vs).length ≤ acc.length := by
    intro ws
    induction ws with
    | nil => intro vs acc; simp [wsum]
    | cons w ws ih =>
      intro vs acc
      cases vs with
      | nil => simp [wsum]
      | cons v vs =>
        simp only [wsum]
        exact Nat.le_trans (ih vs _) (by rw [List.length_zipWith]; omega)
  have wl2 := wl w (rs.map (·.1)) (List.replicate n 0)
  rw [List.length_replicate] at wl2
  have d1 := dot_ok (vec w) (.lst ((rs.map (·.2)).map D.int)) w (rs.map (·.2)) rfl rfl sw (by omega)
  have bl2 : bLen (rowsD rs) = .ok (.int rs.length) := by simp [rowsD]
  have ds2 : dSeq (rowsD rs) = .ok (rs.map rowD) := rfl
  generalize rs.map (·.1) = cs at *
  generalize rs.map (·.2) = bs at *
  generalize rs.map rowD = rd at *
  generalize wsum (List.replicate n 0) w cs = z at *
  have e3 := lc_map (g := PF.gName 3) (f := b1_is_bar) (ρ := [.v (rowsD rs), .v (.int n), .v (vec w), .e, .e, .e]) D.int (fun x => D.bl (!decide (x = 0))) z (fun x _ => ⟨_, rfl, by by_cases q : x = 0 <;> simp [b1_is_bar, q]⟩) (by omega)
  have e4 : dBls (z.map fun x => D.bl (!decide (x = 0))) = some _ := dBls_of (fun x => !decide (x = 0)) z
  have ds3 : dSeq (vec z) = .ok (z.map D.int) := rfl
  cases wa : (w.all fun x => cb (0 ≤ x)) with
  | false => simp [-cb_iff, -cb_nif, -bLen, -dSeq, -thaw, f_is_bar, g_is_bar, bl2, w1, wa]
  | true =>
    cases za : z.any fun x => !decide (x = 0) with
    | true => simp [-cb_iff, -cb_nif, -bLen, -dSeq, -thaw, f_is_bar, g_is_bar, bl2, w1, wa, ds2, e1, g1, ds3, e3, e4, -List.any_eq_true, -decide_not, -List.any_eq_false, za]
    | false => simp [-cb_iff, -cb_nif, -bLen, -dSeq, -thaw, f_is_bar, g_is_bar, bl2, w1, wa, ds2, e1, e2, g1, ds3, e3, e4, d1, -List.any_eq_true, -decide_not, -List.any_eq_false, za]
/-- what the judge of an open task answers -/
theorem open_ok {n : Nat} {rs : List (List Int × Int)} (h : Rows n rs) (c p r : List Int) (hc : c.length = n) (hp : p.length = n) (hr : r.length = n) (sr : Sm r) :
    f_is_open [rowsD rs, vec c, .tup [vec p, .int 1], vec r] = .ok (.bl ((rs.all fun q => cb (q.2 ≤ dotZ q.1 p)) && ((rs.all fun q => cb (0 ≤ dotZ q.1 r)) && cb (dotZ c r < 0)))) := by
  have hm := h.m
  have hn := h.n
  have p1 := pt_one p (by omega)
  rw [hp] at p1
  have r1 := row_eq r (by omega)
  rw [hr] at r1
  have s1 := sat_ok h p
  have e := lc_map (g := gTup 2 (gsCons (PF.gName 4) (gsCons (PF.gName 5) gsNil))) (f := b1_is_open) (ρ := [.v (rowsD rs), .v (vec c), .v (.tup [vec p, .int 1]), .v (vec r), .e, .e]) rowD (fun q => D.bl (cb (0 ≤ dotZ q.1 r))) rs
    (fun q hq => ⟨_, by simp [rowD]; rfl, by
      have h1 := dot_ok (vec q.1) (vec r) q.1 r rfl rfl (h.sm q hq) (by rw [h.len q hq]; omega)
      simp [-cb_iff, -cb_nif, -thaw, b1_is_open, h1]⟩) (by omega)
  have e2 : dBls (rs.map fun q => D.bl (cb (0 ≤ dotZ q.1 r))) = some _ := dBls_of (fun q : List Int × Int => cb (0 ≤ dotZ q.1 r)) rs
  have d1 := dot_okR (vec c) (vec r) c r rfl rfl sr (by omega)
  have bl1 : bLen (vec c) = .ok (.int n) := by simp [vec, hc]
  have ds2 : dSeq (rowsD rs) = .ok (rs.map rowD) := rfl
  generalize rs.map rowD = rd at *
  cases sa : (rs.all fun q => cb (q.2 ≤ dotZ q.1 p)) with
  | false => simp [-cb_iff, -cb_nif, -bLen, -dSeq, -thaw, f_is_open, g_is_open, bl1, p1, r1, s1, sa]
  | true =>
    cases ra : (rs.all fun q => cb (0 ≤ dotZ q.1 r)) with
    | false => simp [-cb_iff, -cb_nif, -bLen, -dSeq, -thaw, f_is_open, g_is_open, bl1, p1, r1, s1, sa, ds2, e, e2, ra]
    | true => simp [-cb_iff, -cb_nif, -bLen, -dSeq, -thaw, f_is_open, g_is_open, bl1, p1, r1, s1, sa, ds2, e, e2, ra, d1]

/-! ### is_least by the answer's form -/
theorem strOk_best : eqOk (.str "best") = true := eqOk_str (by decide +kernel)
theorem strOk_none : eqOk (.str "none") = true := eqOk_str (by decide +kernel)
theorem strOk_open : eqOk (.str "open") = true := eqOk_str (by decide +kernel)
theorem s_bn : (("best" : Str) == ("none" : Str)) = false := by decide +kernel
theorem s_bo : (("best" : Str) == ("open" : Str)) = false := by decide +kernel
theorem s_nb : (("none" : Str) == ("best" : Str)) = false := by decide +kernel
theorem s_no : (("none" : Str) == ("open" : Str)) = false := by decide +kernel
theorem s_ob : (("open" : Str) == ("best" : Str)) = false := by decide +kernel
theorem s_on : (("open" : Str) == ("none" : Str)) = false := by decide +kernel
theorem form_ok (a b : Str) (xs : List D) (n : Nat) (ha : eqOk (.str a) = true) (hb : eqOk (.str b) = true) : f_has_form [.tup (.str a :: xs), .str b, .int n] = .ok (.bl (decide (xs.length + 1 = n) && (a == b))) := by
  by_cases h : xs.length + 1 = n
  · have e : ((xs.length : Int) + 1 == (n : Int)) = true := by simp; omega
    simp [f_has_form, g_has_form, h, e, ha, hb]
  · have e : ((xs.length : Int) + 1 == (n : Int)) = false := by simp; omega
    have e2 : ¬ ((xs.length : Int) + 1 = (n : Int)) := by omega
    simp [f_has_form, g_has_form, h, e, e2, ha, hb]
theorem form_non (b : Str) (n : Int) : f_has_form [.non, .str b, .int n] = .ok (.bl false) := by simp [f_has_form, g_has_form]
theorem lb (R C x y : D) (b : Bool) (h : f_is_best_pair [R, C, x, y] = .ok (.bl b)) : f_is_least [R, C, .tup [.str "best", x, y]] = .ok (.bl b) := by
  have f1 := form_ok "best" "best" [x, y] 3 strOk_best strOk_best
  simp at f1
  simp [f_is_least, g_is_least, f1, h]
theorem ln (R C x : D) (n : Int) (b : Bool) (hc : bLen C = .ok (.int n)) (h : f_is_bar [R, .int n, x] = .ok (.bl b)) : f_is_least [R, C, .tup [.str "none", x]] = .ok (.bl b) := by
  have f1 := form_ok "none" "best" [x] 3 strOk_none strOk_best
  have f2 := form_ok "none" "none" [x] 2 strOk_none strOk_none
  simp at f1 f2
  simp [-bLen, f_is_least, g_is_least, f1, f2, hc, h]
theorem lo (R C x y : D) (b : Bool) (h : f_is_open [R, C, x, y] = .ok (.bl b)) : f_is_least [R, C, .tup [.str "open", x, y]] = .ok (.bl b) := by
  have f1 := form_ok "open" "best" [x, y] 3 strOk_open strOk_best
  have f2 := form_ok "open" "none" [x, y] 2 strOk_open strOk_none
  have f3 := form_ok "open" "open" [x, y] 3 strOk_open strOk_open
  simp [s_ob] at f1 f2 f3
  simp [f_is_least, g_is_least, f1, f2, f3, h]
theorem l4 (R C x y z : D) : f_is_least [R, C, .tup [.str "best", x, y, z]] = .ok (.bl false) := by
  have f1 := form_ok "best" "best" [x, y, z] 3 strOk_best strOk_best
  have f2 := form_ok "best" "none" [x, y, z] 2 strOk_best strOk_none
  have f3 := form_ok "best" "open" [x, y, z] 3 strOk_best strOk_open
  simp at f1 f2 f3
  simp [f_is_least, g_is_least, f1, f2, f3]
theorem ln3 (R C x y : D) : f_is_least [R, C, .tup [.str "none", x, y]] = .ok (.bl false) := by
  have f1 := form_ok "none" "best" [x, y] 3 strOk_none strOk_best
  have f2 := form_ok "none" "none" [x, y] 2 strOk_none strOk_none
  have f3 := form_ok "none" "open" [x, y] 3 strOk_none strOk_open
  simp [s_nb, s_no] at f1 f2 f3
  simp [f_is_least, g_is_least, f1, f2, f3]
theorem lb2 (R C x : D) : f_is_least [R, C, .tup [.str "best", x]] = .ok (.bl false) := by
  have f1 := form_ok "best" "best" [x] 3 strOk_best strOk_best
  have f2 := form_ok "best" "none" [x] 2 strOk_best strOk_none
  have f3 := form_ok "best" "open" [x] 3 strOk_best strOk_open
  simp [s_bn] at f1 f2 f3
  simp [f_is_least, g_is_least, f1, f2, f3]
theorem l0 (R C : D) : f_is_least [R, C, .non] = .ok (.bl false) := by
  simp [f_is_least, g_is_least, form_non]
theorem bp_p (R C x y : D) (n : Int) (hc : bLen C = .ok (.int n)) (h : f_is_point [x, .int n] = .ok (.bl false)) : f_is_best_pair [R, C, x, y] = .ok (.bl false) := by
  simp [-bLen, f_is_best_pair, g_is_best_pair, hc, h]
theorem bp_w (R C x y : D) (n m : Int) (hc : bLen C = .ok (.int n)) (hr : bLen R = .ok (.int m)) (h : f_is_point [x, .int n] = .ok (.bl true)) (h2 : f_is_point [y, .int m] = .ok (.bl false)) : f_is_best_pair [R, C, x, y] = .ok (.bl false) := by
  simp [-bLen, f_is_best_pair, g_is_best_pair, hc, hr, h, h2]
/-! ### dot as the law has it -/
theorem ldot_run (d e : D) (a b : List Int) (hd : seqI d = some a) (he : seqI e = some b) (hl : a.length = b.length) (sa : Sm a) : ∀ (m k : Nat) (t : Int) (kc : Cell), k + m = a.length → ∃ kc', forRun (PF.gName 3) b1_ulaw_dot ((List.range' k m).map fun (j : Nat) => D.int (j : Int)) [.v d, .v e, .v (.int t), kc] = .nx [.v d, .v e, .v (.int (t + dotZ (a.drop k) (b.drop k))), kc']
  | 0, k, t, kc, h => ⟨kc, by
    have e1 : a.drop k = [] := List.drop_eq_nil_of_le (by omega)
    simp [forRun, e1, dotZ]⟩
  | m + 1, k, t, kc, h => by
    have ka : k < a.length := by omega
    have kb : k < b.length := by omega
    obtain ⟨kc', ih⟩ := ldot_run d e a b hd he hl sa m (k + 1) (t + a[k] * b[k]) (.v (.int (k : Int))) (by omega)
    refine ⟨kc', ?_⟩
    have i1 : oIx d (.int (k : Int)) = .ok (.int a[k]) := ix_seqI hd rfl ka
    have i2 : oIx e (.int (k : Int)) = .ok (.int b[k]) := ix_seqI he rfl kb
    have hm := sm_l sa (List.getElem_mem ka) b[k]
    have step : b1_ulaw_dot [.v d, .v e, .v (.int t), .v (.int (k : Int))] = .nx [.v d, .v e, .v (.int (t + a[k] * b[k])), .v (.int (k : Int))] := by
      simp [-oIx, b1_ulaw_dot, i1, i2, hm]
    rw [List.range'_succ, List.map_cons]
    simp only [forRun, PF.gName, List.set_cons_succ, List.set_cons_zero, step]
    rw [ih]
    rw [List.drop_eq_getElem_cons ka, List.drop_eq_getElem_cons kb]
    simp only [dotZ]
    rw [Int.add_assoc]
theorem ldot_ok (d e : D) (a b : List Int) (hd : seqI d = some a) (he : seqI e = some b) (hl : a.length = b.length) (sa : Sm a) (h : a.length ≤ 1000) : f_ulaw_dot [d, e] = .ok (.int (dotZ a b)) := by
  obtain ⟨kc', h1⟩ := ldot_run d e a b hd he hl sa a.length 0 0 .e (by omega)
  have hr : rngD 0 a.length = (List.range' 0 a.length).map (fun (j : Nat) => D.int (j : Int)) := by simp [rngD, List.range_eq_range']
  rw [← hr] at h1
  simp only [List.drop_zero, Int.zero_add] at h1
  have hg := rng1_ok (n := a.length) (by omega)
  have hb := len_seqI hd
  simp [-bLen, -gRng1, f_ulaw_dot, g_ulaw_dot, hb, hg, h1]

/-! ### the rows -/
def Row (n : Nat) (v : List Int) : Prop := v.length = n ∧ (∀ x ∈ v, x.natAbs ≤ 4) ∧ ∃ x ∈ v, x ≠ 0
theorem Row.sm {n : Nat} {v : List Int} (h : Row n v) : Sm v := fun x hx => Nat.lt_of_le_of_lt (h.2.1 x hx) (by decide)
theorem ixN_ok {n : Nat} {i : Int} (h0 : 0 ≤ i) (h1 : i < n) : ixN n i = some i.toNat := by
  unfold ixN
  rw [if_pos h0, if_pos h1]
theorem row_k (sc : List Int) (hsc : sc.length ≤ 63) (k w : Nat) (hw : 1 ≤ w) (hw2 : w ≤ 4) (ro : List D) (hro : ro.length ≤ 100) (m : Int) (c5 : Cell) (kc : Cell) : ∃ v, Row w v ∧ b3_ulaw_rows [.v (.rol (sc.map D.int)), .v (.int w), .v (.int m), .o ro, .v (.int (k : Int)), c5, .e, .e] = .nx [.v (.rol (sc.map D.int)), .v (.int w), .v (.int m), .o (ro ++ [vec v]), .v (.int (k : Int)), .o (v.map D.int), .e, .e] := by
  obtain ⟨cs, hcs, hr⟩ := row_ok sc hsc (2 + (k : Int)) (by omega) w (by omega)
  have e1 := lc_ints 6 b1_ulaw_rows (fun x => x.fmod 9 - 4) [.v (.rol (sc.map D.int)), .v (.int w), .v (.int m), .o ro, .v (.int (k : Int)), c5, .e, .e] cs (fun x _ => by simp [b1_ulaw_rows]) (by omega)
  have vl : (cs.map fun x => x.fmod 9 - 4).length = w := by simpa using hcs
  have v4 : ∀ x ∈ (cs.map fun x => x.fmod 9 - 4), x.natAbs ≤ 4 := fun x hx => by
    obtain ⟨y, _, rfl⟩ := List.mem_map.mp hx
    have := fmod_b y 9 (by decide)
    omega
  generalize (cs.map fun x => x.fmod 9 - 4) = v at *
  have e2 := lc_map (g := PF.gName 7) (f := b2_ulaw_rows) (ρ := [.v (.rol (sc.map D.int)), .v (.int w), .v (.int m), .o ro, .v (.int (k : Int)), .v (.lst (v.map D.int)), .e, .e]) D.int (fun x => D.bl (!decide (x = 0))) v (fun x _ => ⟨_, rfl, by by_cases q : x = 0 <;> simp [b2_ulaw_rows, q]⟩) (by omega)
  have e4 : dBls (v.map fun x => D.bl (!decide (x = 0))) = some _ := dBls_of (fun x => !decide (x = 0)) v
  have hlt : ro.length < 16777216 := by omega
  have w0 : ¬ ((w : Int) = 0) := by omega
  cases za : v.any fun x => !decide (x = 0) with
  | true =>
    refine ⟨v, ⟨vl, v4, ?_⟩, ?_⟩
    · obtain ⟨x, hx, q⟩ := List.any_eq_true.mp za
      exact ⟨x, hx, by simpa using q⟩
    · simp [-cb_iff, -cb_nif, -thaw, -List.any_eq_true, -decide_not, -List.any_eq_false, b3_ulaw_rows, hr, e1, e2, e4, za, hlt, vec]
  | false =>
    have hb := fmod_b (k : Int) w (by omega)
    have hix := ixN_ok (n := (v.map D.int).length) hb.1 (by rw [List.length_map, vl]; exact hb.2)
    rw [List.length_map] at hix
    have hs : (v.map D.int).set ((k : Int).fmod w).toNat (.int 1) = (v.set ((k : Int).fmod w).toNat 1).map D.int := by
      rw [List.map_set]
    refine ⟨v.set ((k : Int).fmod w).toNat 1, ⟨by simpa using vl, fun x hx => ?_, 1, ?_, by decide⟩, ?_⟩
    · rcases List.mem_or_eq_of_mem_set hx with hx | hx
      · exact v4 x hx
      · rw [hx]; decide
    · exact List.mem_set (by rw [vl]; omega) 1
    · generalize ((k : Int).fmod w).toNat = j at *
      simp [-cb_iff, -cb_nif, -thaw, -List.any_eq_true, -decide_not, -List.any_eq_false, b3_ulaw_rows, hr, e1, e2, e4, za, hlt, vec, hix, w0, show ¬ w = 0 by omega]
def rowsI (sc : List Int) (w m : Nat) (ds : List D) (ρ : Sl) : Prop := ∃ (vs : List (List Int)) (k : Nat) (kc c5 : Cell), ds = (List.range' k ds.length).map (fun (j : Nat) => D.int (j : Int)) ∧ k + ds.length = m ∧ vs.length = k ∧ (∀ v ∈ vs, Row w v) ∧ ρ = [.v (.rol (sc.map D.int)), .v (.int w), .v (.int m), .o (vs.map vec), kc, c5, .e, .e]
theorem rows_step {sc : List Int} (hsc : sc.length ≤ 63) {w m : Nat} (hw : 1 ≤ w) (hw2 : w ≤ 4) (hm : m ≤ 6) (d : D) (ds : List D) (ρ : Sl) (h : rowsI sc w m (d :: ds) ρ) : ∃ ρ1, PF.gName 4 d ρ = some ρ1 ∧ ∃ ρ2, (b3_ulaw_rows ρ1 = .nx ρ2 ∨ b3_ulaw_rows ρ1 = .ct ρ2) ∧ rowsI sc w m ds ρ2 := by
  obtain ⟨vs, k, kc, c5, h1, h2, h3, h4, rfl⟩ := h
  simp only [List.length_cons, List.range'_succ, List.map_cons, List.cons.injEq] at h1
  obtain ⟨rfl, h1⟩ := h1
  have h2' : k + (ds.length + 1) = m := by simpa using h2
  obtain ⟨v, hv, e⟩ := row_k sc hsc k w hw hw2 (vs.map vec) (by simp; omega) m c5 kc
  refine ⟨_, rfl, _, .inl e, vs ++ [v], k + 1, _, _, h1, by omega, by simp [h3], fun x hx => ?_, by simp; exact ⟨rfl, rfl⟩⟩
  rcases List.mem_append.mp hx with hx | hx
  · exact h4 x hx
  · rw [List.mem_singleton.mp hx]; exact hv
theorem rows_ok (sc : List Int) (hsc : sc.length ≤ 63) (w m : Nat) (hw : 1 ≤ w) (hw2 : w ≤ 4) (hm : m ≤ 6) : ∃ vs : List (List Int), vs.length = m ∧ (∀ v ∈ vs, Row w v) ∧ f_ulaw_rows [.rol (sc.map D.int), .int w, .int m] = .ok (.fr (vs.map vec)) := by
  have hr : rngD 0 m = (List.range' 0 (rngD 0 m).length).map (fun (j : Nat) => D.int (j : Int)) := by simp [rngD, List.range_eq_range']
  obtain ⟨ρ', h1, vs, k, kc, c5, _, h5, h6, h7, rfl⟩ := for_inv (rowsI sc w m) (rows_step hsc hw hw2 hm) (rngD 0 m) [.v (.rol (sc.map D.int)), .v (.int w), .v (.int m), .o [], .e, .e, .e, .e] ⟨[], 0, .e, .e, hr, by rw [rngD_len]; omega, rfl, fun _ h => by simp at h, rfl⟩
  have hg := rng1_ok (n := m) (by omega)
  exact ⟨vs, by simp at h5; omega, h7, by simp [-gRng1, f_ulaw_rows, g_ulaw_rows, hg, h1]⟩

/-! ### the pair that is best -/
abbrev Tr := Int × (List Int × Int)
def Good (p : List Int) (t : Tr) : Prop := 0 ≤ t.1 ∧ t.1 ≤ 5 ∧ t.2.2 ≤ dotZ t.2.1 p ∧ (0 < t.1 → t.2.2 = dotZ t.2.1 p)
theorem ix_lst {ds : List D} {i : Int} {k : Nat} (hi : i = (k : Int)) (hk : k < ds.length) : oIx (.lst ds) (.int i) = .ok ds[k] := by
  simp only [oIx, atI_nat hi hk]
theorem pair_step {n : Nat} {sc : D} {vs : List (List Int)} {p cs : List Int} {place : Nat} (hp : p.length = n) (sp : Sm p) (hvs : ∀ v ∈ vs, Row n v) (hcs : cs.length = 2 * vs.length) (hn : n ≤ 100) (k : Nat) (hk : k < vs.length) (T : List Tr) (hT : T.length ≤ 100) (c9 c10 : Cell) :
    ∃ w r, Good p (w, (vs[k], r)) ∧ (k = place → 1 ≤ w) ∧ ∃ c9' c10', b2_ulaw_best_pair [.v sc, .v (.int n), .v (.lst (vs.map vec)), .v (.int place), .v (vec p), .v (.lst (cs.map D.int)), .o ((T.map (·.1)).map D.int), .o ((T.map (·.2)).map rowD), .v (.int (k : Int)), c9, c10, .e, .e, .e] =
      .nx [.v sc, .v (.int n), .v (.lst (vs.map vec)), .v (.int place), .v (vec p), .v (.lst (cs.map D.int)), .o ((T.map (·.1)).map D.int ++ [.int w]), .o ((T.map (·.2)).map rowD ++ [rowD (vs[k], r)]), .v (.int (k : Int)), c9', c10', .e, .e, .e] := by
  have i1 : oIx (.lst (cs.map D.int)) (.int (2 * (k : Int))) = .ok (.int cs[2 * k]) := ix_seqI (seqI_l cs) (by omega) (by omega)
  have i2 : oIx (.lst (cs.map D.int)) (.int (2 * (k : Int) + 1)) = .ok (.int cs[2 * k + 1]) := ix_seqI (seqI_l cs) (by omega) (by omega)
  have i3 : oIx (.lst (vs.map vec)) (.int (k : Int)) = .ok (vec vs[k]) := by rw [ix_lst rfl (by simpa using hk)]; simp
  have hv := hvs vs[k] (List.getElem_mem hk)
  have d1 := ldot_ok (vec vs[k]) (vec p) vs[k] p (seqI_v _) (seqI_v _) (by rw [hv.1, hp]) hv.sm (by rw [hv.1]; omega)
  have m2 : ∀ i, mulOk 2 i = true := fun i => mulOk_l (by decide)
  have b5 := fmod_b cs[2 * k] 5 (by decide)
  have l1 : T.length < 16777216 := by omega
  generalize cs[2 * k] = a at *
  generalize cs[2 * k + 1] = b at *
  generalize vs[k] = v at *
  by_cases q1 : k = place
  · subst q1
    refine ⟨1 + a.fmod 5, dotZ v p, ⟨by omega, by omega, Int.le_refl _, fun _ => rfl⟩, fun _ => by omega, .v (.int (1 + a.fmod 5)), .v (.int 0), ?_⟩
    simp [-oIx, -thaw, b2_ulaw_best_pair, i1, i2, i3, d1, m2, l1, rowD]
  · have q1' : ¬ ((k : Int) = (place : Int)) := by omega
    by_cases q2 : b.fmod 2 = 1
    · refine ⟨1 + a.fmod 5, dotZ v p, ⟨by omega, by omega, Int.le_refl _, fun _ => rfl⟩, fun h => absurd h q1, .v (.int (1 + a.fmod 5)), .v (.int 0), ?_⟩
      simp [-oIx, -thaw, b2_ulaw_best_pair, i1, i2, i3, d1, m2, q1, q1', q2, l1, rowD]
    · refine ⟨0, dotZ v p - a.fmod 5, ⟨by omega, by omega, by simp; omega, fun h => by simp at h⟩, fun h => absurd h q1, .v (.int 0), .v (.int (a.fmod 5)), ?_⟩
      simp [-oIx, -thaw, b2_ulaw_best_pair, i1, i2, i3, d1, m2, q1, q1', q2, l1, rowD]
def pairI (sc : D) (n : Nat) (vs : List (List Int)) (p cs : List Int) (place : Nat) (ds : List D) (ρ : Sl) : Prop := ∃ (T : List Tr) (k : Nat) (kc c9 c10 : Cell), ds = (List.range' k ds.length).map (fun (j : Nat) => D.int (j : Int)) ∧ k + ds.length = vs.length ∧ T.length = k ∧ T.map (·.2.1) = vs.take k ∧ (∀ t ∈ T, Good p t) ∧ (∀ t, T[place]? = some t → 1 ≤ t.1) ∧
  ρ = [.v sc, .v (.int n), .v (.lst (vs.map vec)), .v (.int place), .v (vec p), .v (.lst (cs.map D.int)), .o ((T.map (·.1)).map D.int), .o ((T.map (·.2)).map rowD), kc, c9, c10, .e, .e, .e]
theorem pairI_step {n : Nat} {sc : D} {vs : List (List Int)} {p cs : List Int} {place : Nat} (hp : p.length = n) (sp : Sm p) (hvs : ∀ v ∈ vs, Row n v) (hcs : cs.length = 2 * vs.length) (hn : n ≤ 100) (hm : vs.length ≤ 100) (d : D) (ds : List D) (ρ : Sl) (h : pairI sc n vs p cs place (d :: ds) ρ) :
    ∃ ρ1, PF.gName 8 d ρ = some ρ1 ∧ ∃ ρ2, (b2_ulaw_best_pair ρ1 = .nx ρ2 ∨ b2_ulaw_best_pair ρ1 = .ct ρ2) ∧ pairI sc n vs p cs place ds ρ2 := by
  obtain ⟨T, k, kc, c9, c10, h1, h2, h3, h4, h5, h6, rfl⟩ := h
  simp only [List.length_cons, List.range'_succ, List.map_cons, List.cons.injEq] at h1
  obtain ⟨rfl, h1⟩ := h1
  have h2' : k + (ds.length + 1) = vs.length := by simpa using h2
  have hk : k < vs.length := by omega
  obtain ⟨w, r, g1, g2, c9', c10', e⟩ := pair_step (sc := sc) (place := place) hp sp hvs hcs hn k hk T (by omega) c9 c10
  refine ⟨_, rfl, _, .inl e, T ++ [(w, (vs[k], r))], k + 1, _, c9', c10', h1, by omega, by simp [h3], ?_, fun t ht => ?_, fun t ht => ?_, by simp; rfl⟩
  · rw [List.map_append, h4, List.take_succ_eq_append_getElem hk]; rfl
  · rcases List.mem_append.mp ht with ht | ht
    · exact h5 t ht
    · rw [List.mem_singleton.mp ht]; exact g1
  · by_cases q : place < T.length
    · rw [List.getElem?_append_left q] at ht
      exact h6 t ht
    · by_cases q2 : place = T.length
      · rw [q2, List.getElem?_append_right (Nat.le_refl _)] at ht
        simp at ht
        rw [← ht]
        exact g2 (by omega)
      · rw [List.getElem?_eq_none (by simp; omega)] at ht
        cases ht

/-! ### the cost -/
theorem inner_run {n : Nat} {c : List Int} {v : List Int} {x : Int} {ws : List Int} {vs : List (List Int)} (A : List Cell) (hA : A.length = 5) (rw9 : Cell) (sx : x.natAbs < 18446744073709551616) (hv : v.length = n) (hc : c.length = n) (k : Nat) (hw : ws[k]? = some x) (hvs : vs[k]? = some v) (W7 c9 c10 : Cell) (a0 a1 a3 a4 a5 : Cell) :
    ∀ (m j : Nat) (kc : Cell), j + m = n → ∃ kc', forRun (PF.gName 12) b3_ulaw_best_pair ((List.range' j m).map fun (i : Nat) => D.int (i : Int)) [a0, a1, .v (.lst (vs.map vec)), a3, a4, a5, .o (ws.map D.int), W7, .v (.int (k : Int)), c9, c10, .o (((List.zipWith (fun a b => a + x * b) c v).take j ++ c.drop j).map D.int), kc, .e] =
      .nx [a0, a1, .v (.lst (vs.map vec)), a3, a4, a5, .o (ws.map D.int), W7, .v (.int (k : Int)), c9, c10, .o ((List.zipWith (fun a b => a + x * b) c v).map D.int), kc', .e]
  | 0, j, kc, h => ⟨kc, by
    have e1 : c.drop j = [] := List.drop_eq_nil_of_le (by omega)
    have e2 : (List.zipWith (fun a b => a + x * b) c v).take j = List.zipWith (fun a b => a + x * b) c v := List.take_of_length_le (by rw [List.length_zipWith]; omega)
    rw [e1, e2]
    simp [forRun]⟩
  | m + 1, j, kc, h => by
    obtain ⟨kc', ih⟩ := inner_run A hA rw9 sx hv hc k hw hvs W7 c9 c10 a0 a1 a3 a4 a5 m (j + 1) (.v (.int (j : Int))) (by omega)
    refine ⟨kc', ?_⟩
    have jc : j < c.length := by omega
    have jv : j < v.length := by omega
    have zl : (List.zipWith (fun a b => a + x * b) c v).length = n := by rw [List.length_zipWith]; omega
    have hz : (List.zipWith (fun a b => a + x * b) c v)[j]'(by omega) = c[j] + x * v[j] := by simp
    have e1 : c.drop j = c[j] :: c.drop (j + 1) := List.drop_eq_getElem_cons jc
    have e2 : (List.zipWith (fun a b => a + x * b) c v).take (j + 1) = (List.zipWith (fun a b => a + x * b) c v).take j ++ [c[j] + x * v[j]] := by
      rw [List.take_succ_eq_append_getElem (by omega), hz]
    clear hz
    generalize List.zipWith (fun a b => a + x * b) c v = z at *
    have tl : (z.take j).length = j := by rw [List.length_take]; omega
    have cur : oIx (.lst ((z.take j ++ c.drop j).map D.int)) (.int (j : Int)) = .ok (.int c[j]) := by
      rw [ix_seqI (k := j) (seqI_l _) rfl (by rw [List.length_append, List.length_drop, tl]; omega)]
      congr 2
      rw [List.getElem_append_right (by omega)]
      simp [tl]
    have i1 : oIx (.lst (ws.map D.int)) (.int (k : Int)) = .ok (.int x) := by
      obtain ⟨q1, q2⟩ := List.getElem?_eq_some_iff.mp hw
      rw [ix_seqI (seqI_l ws) rfl q1, q2]
    have i2 : oIx (.lst (vs.map vec)) (.int (k : Int)) = .ok (vec v) := by
      obtain ⟨q1, q2⟩ := List.getElem?_eq_some_iff.mp hvs
      rw [ix_lst rfl (by simpa using q1)]
      simp [q2]
    have i3 : oIx (vec v) (.int (j : Int)) = .ok (.int v[j]) := ix_seqI (seqI_v v) rfl jv
    have hm : mulOk x v[j] = true := mulOk_l sx
    have hix : ixN ((z.take j ++ c.drop j).map D.int).length (j : Int) = some j := by
      rw [ixN_ok (by omega) (by rw [List.length_map, List.length_append, List.length_drop, tl]; omega)]
      simp
    have hset : ((z.take j ++ c.drop j).map D.int).set j (.int (c[j] + x * v[j])) = (z.take (j + 1) ++ c.drop (j + 1)).map D.int := by
      rw [e1, e2, List.map_append, List.map_cons, List.set_append_right _ _ (by rw [List.length_map, tl]; omega), List.length_map, tl, Nat.sub_self, List.set_cons_zero]
      simp
    generalize (z.take j ++ c.drop j).map D.int = L at *
    have step : b3_ulaw_best_pair [a0, a1, .v (.lst (vs.map vec)), a3, a4, a5, .o (ws.map D.int), W7, .v (.int (k : Int)), c9, c10, .o L, .v (.int (j : Int)), .e] = .nx [a0, a1, .v (.lst (vs.map vec)), a3, a4, a5, .o (ws.map D.int), W7, .v (.int (k : Int)), c9, c10, .o ((z.take (j + 1) ++ c.drop (j + 1)).map D.int), .v (.int (j : Int)), .e] := by
      rw [← hset]
      simp [-oIx, b3_ulaw_best_pair, cur, i1, i2, i3, hm, hix]
    rw [List.range'_succ, List.map_cons]
    simp only [forRun, PF.gName, List.set_cons_succ, List.set_cons_zero, step]
    exact ih
theorem outer_run {n : Nat} (hn : n ≤ 100) {ws : List Int} {vs : List (List Int)} (sw : Sm ws) (hl : ws.length = vs.length) (hvs : ∀ v ∈ vs, v.length = n) (W7 c9 c10 : Cell) (a0 a3 a4 a5 : Cell) :
    ∀ (m k : Nat) (c : List Int) (kk kc : Cell), k + m = vs.length → c.length = n → ∃ kk' kc', forRun (PF.gName 8) b4_ulaw_best_pair ((List.range' k m).map fun (i : Nat) => D.int (i : Int)) [a0, .v (.int n), .v (.lst (vs.map vec)), a3, a4, a5, .o (ws.map D.int), W7, kk, c9, c10, .o (c.map D.int), kc, .e] =
      .nx [a0, .v (.int n), .v (.lst (vs.map vec)), a3, a4, a5, .o (ws.map D.int), W7, kk', c9, c10, .o ((wsum c (ws.drop k) (vs.drop k)).map D.int), kc', .e]
  | 0, k, c, kk, kc, h, hc => ⟨kk, kc, by
    have e1 : vs.drop k = [] := List.drop_eq_nil_of_le (by omega)
    have e2 : ws.drop k = [] := List.drop_eq_nil_of_le (by omega)
    simp [forRun, e1, e2, wsum]⟩
  | m + 1, k, c, kk, kc, h, hc => by
    have k1 : k < ws.length := by omega
    have k2 : k < vs.length := by omega
    have hv := hvs vs[k] (List.getElem_mem k2)
    obtain ⟨kc1, e1⟩ := inner_run (n := n) (c := c) (v := vs[k]) (x := ws[k]) (ws := ws) (vs := vs) [.e, .e, .e, .e, .e] rfl .e (sw _ (List.getElem_mem k1)) hv hc k (List.getElem?_eq_getElem k1) (List.getElem?_eq_getElem k2) W7 c9 c10 a0 (.v (.int n)) a3 a4 a5 n 0 kc (by omega)
    rw [List.drop_eq_getElem_cons k1, List.drop_eq_getElem_cons k2]
    simp only [wsum]
    have zl : (List.zipWith (fun a b => a + ws[k] * b) c vs[k]).length = n := by rw [List.length_zipWith]; omega
    simp only [List.take_zero, List.drop_zero, List.nil_append] at e1
    generalize List.zipWith (fun a b => a + ws[k] * b) c vs[k] = z at *
    obtain ⟨kk', kc', ih⟩ := outer_run hn sw hl hvs W7 c9 c10 a0 a3 a4 a5 m (k + 1) z (.v (.int (k : Int))) kc1 (by omega) zl
    refine ⟨kk', kc', ?_⟩
    have hr : rngD 0 n = (List.range' 0 n).map (fun (j : Nat) => D.int (j : Int)) := by simp [rngD, List.range_eq_range']
    rw [← hr] at e1
    have hg := rng1_ok (n := n) (by omega)
    have step : b4_ulaw_best_pair [a0, .v (.int n), .v (.lst (vs.map vec)), a3, a4, a5, .o (ws.map D.int), W7, .v (.int (k : Int)), c9, c10, .o (c.map D.int), kc, .e] = .nx [a0, .v (.int n), .v (.lst (vs.map vec)), a3, a4, a5, .o (ws.map D.int), W7, .v (.int (k : Int)), c9, c10, .o (z.map D.int), kc1, .e] := by
      simp [-gRng1, b4_ulaw_best_pair, hg, e1]
    rw [List.range'_succ, List.map_cons]
    simp only [forRun, PF.gName, List.set_cons_succ, List.set_cons_zero, step]
    exact ih

/-- what _law_best_pair tells -/
theorem bpair_ok (sc : List Int) (hsc : sc.length ≤ 63) {n : Nat} (hn1 : 1 ≤ n) (hn : n ≤ 4) {vs : List (List Int)} (hm1 : 1 ≤ vs.length) (hm : vs.length ≤ 6) (hvs : ∀ v ∈ vs, Row n v) (place : Nat) (hpl : place < vs.length) :
    ∃ (p : List Int) (T : List Tr), p.length = n ∧ Sm p ∧ T.length = vs.length ∧ T.map (·.2.1) = vs ∧ (∀ t ∈ T, Good p t) ∧ (∀ t, T[place]? = some t → 1 ≤ t.1) ∧
    f_ulaw_best_pair [.rol (sc.map D.int), .int n, .lst (vs.map vec), .int place] = .ok (.tup [vec p, vec (T.map (·.1)), rowsD (T.map (·.2)), vec (wsum (List.replicate n 0) (T.map (·.1)) vs)]) := by
  obtain ⟨ps, hps, r1⟩ := row_ok sc hsc 1 (by decide) n (by omega)
  obtain ⟨cs, hcs, r2⟩ := row_ok sc hsc 9 (by decide) (2 * vs.length) (by omega)
  rw [Int.natCast_mul] at r2
  have r2 : f_ulaw_row [.rol (sc.map D.int), .int 9, .int (2 * (vs.length : Int))] = _ := r2
  have e1 := lc_ints 13 b1_ulaw_best_pair (fun x => x.fmod 19 - 9) [.v (.rol (sc.map D.int)), .v (.int n), .v (.lst (vs.map vec)), .v (.int place), .e, .e, .e, .e, .e, .e, .e, .e, .e, .e] ps (fun x _ => by simp [b1_ulaw_best_pair]) (by omega)
  have pl : (ps.map fun x => x.fmod 19 - 9).length = n := by simpa using hps
  have sp : Sm (ps.map fun x => x.fmod 19 - 9) := fun x hx => by
    obtain ⟨y, _, rfl⟩ := List.mem_map.mp hx
    have := fmod_b y 19 (by decide)
    omega
  generalize (ps.map fun x => x.fmod 19 - 9) = p at *
  have hr : rngD 0 vs.length = (List.range' 0 (rngD 0 vs.length).length).map (fun (j : Nat) => D.int (j : Int)) := by simp [rngD, List.range_eq_range']
  have hr2 : rngD 0 vs.length = (List.range' 0 vs.length).map (fun (j : Nat) => D.int (j : Int)) := by simp [rngD, List.range_eq_range']
  obtain ⟨ρ', h1, T, k, kc, c9, c10, _, h5, h6, h7, h8, h9, rfl⟩ := for_inv (pairI (.rol (sc.map D.int)) n vs p cs place) (pairI_step pl sp hvs (by omega) (by omega) (by omega)) (rngD 0 vs.length) [.v (.rol (sc.map D.int)), .v (.int n), .v (.lst (vs.map vec)), .v (.int place), .v (vec p), .v (.lst (cs.map D.int)), .o [], .o [], .e, .e, .e, .e, .e, .e]
    ⟨[], 0, .e, .e, .e, hr, by rw [rngD_len]; omega, rfl, by simp, fun _ h => by simp at h, fun t h => by simp at h, rfl⟩
  have hk : k = vs.length := by simpa using h5
  have hT : T.length = vs.length := by omega
  rw [hk, List.take_length] at h7
  have sw : Sm (T.map (·.1)) := fun x hx => by
    obtain ⟨t, ht, rfl⟩ := List.mem_map.mp hx
    have := h8 t ht
    have q1 := this.1
    have q2 := this.2.1
    omega
  obtain ⟨kk', kc', o1⟩ := outer_run (n := n) (by omega) (ws := T.map (·.1)) (vs := vs) sw (by simpa using hT) (fun v hv => (hvs v hv).1) (.o ((T.map (·.2)).map rowD)) c9 c10 (.v (.rol (sc.map D.int))) (.v (.int place)) (.v (vec p)) (.v (.lst (cs.map D.int))) vs.length 0 (List.replicate n 0) kc .e (by omega) (by simp)
  rw [← hr2] at o1
  simp only [List.drop_zero] at o1
  have hg := rng1_ok (n := vs.length) (by omega)
  have hf := rep0_ok n (by omega)
  have m2 : ∀ i, mulOk 2 i = true := fun i => mulOk_l (by decide)
  have tp : D.tup (p.map D.int) = vec p := rfl
  refine ⟨p, T, pl, sp, hT, h7, h8, h9, ?_⟩
  generalize wsum (List.replicate n 0) (T.map (·.1)) vs = c at *
  generalize T.map (·.1) = w at *
  generalize T.map (·.2) = r at *
  simp [-gRng1, -fRep, -List.map_replicate, -thaw, f_ulaw_best_pair, g_ulaw_best_pair, r1, r2, e1, m2, hg, h1, hf, tp, o1]
  simp [rowsD, vec]

/-! ### plain facts -/
theorem dot_zw (x : Int) : ∀ (a v p : List Int), a.length = v.length → dotZ (List.zipWith (fun a b => a + x * b) a v) p = dotZ a p + x * dotZ v p
  | [], [], p, _ => by simp [dotZ]
  | a :: as, v :: vs, [], h => by simp [dotZ]
  | a :: as, v :: vs, q :: ps, h => by
    simp only [List.zipWith_cons_cons, dotZ, dot_zw x as vs ps (by simpa using h)]
    rw [Int.add_mul, Int.mul_add, Int.mul_assoc]
    omega
theorem wsum_dot {n : Nat} (p : List Int) : ∀ (ws : List Int) (vs : List (List Int)) (acc : List Int), acc.length = n → (∀ v ∈ vs, v.length = n) → dotZ (wsum acc ws vs) p = dotZ acc p + dotZ ws (vs.map fun v => dotZ v p)
  | [], vs, acc, _, _ => by cases vs <;> simp [wsum, dotZ]
  | w :: ws, [], acc, _, _ => by simp [wsum, dotZ]
  | w :: ws, v :: vs, acc, ha, hv => by
    have e := hv v (by simp)
    simp only [wsum, List.map_cons, dotZ]
    rw [wsum_dot p ws vs _ (by rw [List.length_zipWith]; omega) (fun x hx => hv x (by simp [hx])), dot_zw w acc v p (by omega)]
    omega
theorem dot_rep0 : ∀ (n : Nat) (p : List Int), dotZ (List.replicate n 0) p = 0
  | 0, p => by simp [dotZ]
  | n + 1, [] => by simp [List.replicate_succ, dotZ]
  | n + 1, q :: ps => by simp [List.replicate_succ, dotZ, dot_rep0 n ps]
theorem wsum_len {n : Nat} : ∀ (ws : List Int) (vs : List (List Int)) (acc : List Int), acc.length = n → (∀ v ∈ vs, v.length = n) → (wsum acc ws vs).length = n
  | [], vs, acc, h, _ => by cases vs <;> simpa [wsum] using h
  | w :: ws, [], acc, h, _ => by simpa [wsum] using h
  | w :: ws, v :: vs, acc, h, hv => by
    simp only [wsum]
    exact wsum_len ws vs _ (by rw [List.length_zipWith, h, hv v (by simp)]; omega) fun x hx => hv x (by simp [hx])
theorem worth_dot (p : List Int) : ∀ T : List Tr, (∀ t ∈ T, Good p t) → dotZ (T.map (·.1)) (T.map (·.2.2)) = dotZ (T.map (·.1)) ((T.map (·.2.1)).map fun v => dotZ v p)
  | [], _ => by simp [dotZ]
  | t :: T, h => by
    have ih := worth_dot p T fun x hx => h x (by simp [hx])
    have g := h t (by simp)
    simp only [List.map_cons, dotZ, ih]
    by_cases q : 0 < t.1
    · rw [g.2.2.2 q]
    · have : t.1 = 0 := by have := g.1; omega
      rw [this, Int.zero_mul, Int.zero_mul]
theorem dot_ge0 : ∀ (ws bs : List Int), (∀ x ∈ ws, 0 ≤ x) → (∀ x ∈ bs, 0 ≤ x) → 0 ≤ dotZ ws bs
  | [], _, _, _ => by simp [dotZ]
  | _ :: _, [], _, _ => by simp [dotZ]
  | w :: ws, b :: bs, h1, h2 => by
    have ih := dot_ge0 ws bs (fun x hx => h1 x (by simp [hx])) fun x hx => h2 x (by simp [hx])
    have := Int.mul_nonneg (h1 w (by simp)) (h2 b (by simp))
    simp only [dotZ]
    omega
theorem dot_self : ∀ r : List Int, 0 ≤ dotZ r r ∧ ((∃ x ∈ r, x ≠ 0) → 0 < dotZ r r)
  | [] => ⟨by simp [dotZ], fun ⟨x, hx, _⟩ => by simp at hx⟩
  | x :: r => by
    have ih := dot_self r
    have h0 : 0 ≤ x * x := by
      rcases Int.le_total 0 x with h | h
      · exact Int.mul_nonneg h h
      · exact Int.mul_nonneg_of_nonpos_of_nonpos h h
    refine ⟨by simp only [dotZ]; have := ih.1; omega, fun ⟨y, hy, q⟩ => ?_⟩
    simp only [dotZ]
    rcases List.mem_cons.mp hy with hy | hy
    · subst hy
      have : y * y ≠ 0 := Int.mul_ne_zero q q
      have := ih.1
      omega
    · have := ih.2 ⟨y, hy, q⟩
      omega
theorem dot_neg : ∀ (a b : List Int), dotZ (a.map (- ·)) b = - dotZ a b
  | [], _ => by simp [dotZ]
  | _ :: _, [] => by simp [dotZ]
  | x :: a, y :: b => by
    simp only [List.map_cons, dotZ, dot_neg a b, Int.neg_mul]
    omega
theorem sm_neg {a : List Int} (h : Sm a) : Sm (a.map (- ·)) := fun x hx => by
  obtain ⟨y, hy, rfl⟩ := List.mem_map.mp hx
  rw [Int.natAbs_neg]
  exact h y hy
theorem cut_take (ds : List D) (k : Nat) (h : k ≤ ds.length) : cutD ds none (some (k : Int)) = ds.take k := by
  unfold cutD
  rw [HT.sIx_none, HT.sIx_nat]
  simp [Nat.min_eq_left h]
theorem cut_drop (ds : List D) (k : Nat) (h : k ≤ ds.length) : cutD ds (some (k : Int)) none = ds.drop k := by
  unfold cutD
  rw [HT.sIx_none, HT.sIx_nat, Nat.min_eq_left h]
  rw [List.take_of_length_le (by rw [List.length_drop]; omega)]
theorem change_ok (rs : List (List Int × Int)) (k : Nat) (r : Int) (h : k < rs.length) (hl : rs.length ≤ 100) : f_ulaw_change [rowsD rs, .int k, .int r] = .ok (.fr ((rs.set k (rs[k].1, r)).map rowD)) := by
  have c1 := cut_take (rs.map rowD) k (by simp; omega)
  have c2 := cut_drop (rs.map rowD) (k + 1) (by simp; omega)
  have i1 : oIx (.lst (rs.map rowD)) (.int (k : Int)) = .ok (rowD rs[k]) := by rw [ix_lst rfl (by simpa using h)]; simp
  have hs : (rs.set k (rs[k].1, r)).map rowD = (rs.map rowD).take k ++ (rowD (rs[k].1, r) :: (rs.map rowD).drop (k + 1)) := by
    rw [List.set_eq_take_append_cons_drop, if_pos h]
    simp
  rw [hs]
  have l1 : ((rs.map rowD).take k).length ≤ 100 := by simp; omega
  have l2 : ((rs.map rowD).drop (k + 1)).length ≤ 100 := by simp; omega
  have e1 : ((k : Int) + 1) = ((k + 1 : Nat) : Int) := by omega
  rw [← e1] at c2
  have z : oIx (rowD rs[k]) (.int 0) = .ok (vec rs[k].1) := by simp [rowD]
  unfold rowsD
  generalize rs[k] = q at *
  generalize rs.map rowD = R at *
  generalize hA : R.take k = A at *
  generalize hB : R.drop (k + 1) = B at *
  have l3 : A.length + 1 ≤ 16777216 := by omega
  have l4 : A.length + 1 + B.length ≤ 16777216 := by omega
  simp [-oIx, f_ulaw_change, g_ulaw_change, c1, c2, i1, z, l3, l4, rowD]

/-! ### papers that are refused -/
def BadT (d : D) : Prop := ∃ R C A, d = .tup [.lst R, C, A] ∧ f_is_least [.lst R, C, A] = .ok (.bl false)
theorem lc_bad (ρ : Sl) (hρ : ρ.length = 20) (ds : List D) (hl : ds.length ≤ 1000) (h : ∀ d ∈ ds, BadT d) : lcRun (gTup 3 (gsCons (PF.gName 16) (gsCons (PF.gName 17) (gsCons (PF.gName 18) gsNil)))) tYesF b4_ulaw_best_asked ρ ds [] = .ok (List.replicate ds.length (.bl false)) := by
  have e := lc_map (g := gTup 3 (gsCons (PF.gName 16) (gsCons (PF.gName 17) (gsCons (PF.gName 18) gsNil)))) (f := b4_ulaw_best_asked) (ρ := ρ) (fun d => d) (fun _ => .bl false) ds (fun d hd => by
    obtain ⟨R, C, A, rfl, q⟩ := h d hd
    exact ⟨_, rfl, by simp [b4_ulaw_best_asked, hρ, q]⟩) (by omega)
  rw [List.map_id', List.map_const'] at e
  exact e
theorem dBls_rep (b : Bool) : ∀ n : Nat, dBls (List.replicate n (D.bl b)) = some (List.replicate n b)
  | 0 => rfl
  | n + 1 => by simp [List.replicate_succ, dBls, dBls_rep b n]
theorem any_rep (n : Nat) : (List.replicate n false).any id = false := by
  induction n with
  | zero => rfl
  | succ n ih => rw [List.replicate_succ, List.any_cons, ih]; rfl
theorem allf (ds : List D) : dBls (ds.map fun _ => D.bl false) = some (ds.map fun _ => false) := dBls_of (fun _ => false) ds
theorem anyf {α : Type} : ∀ ds : List α, (ds.map fun _ => false).any id = false
  | [] => rfl
  | d :: ds => by simp
/-- the setting of _law_best_asked -/
structure Set (n : Nat) (vs : List (List Int)) (p : List Int) (T : List Tr) (place : Nat) : Prop where
  n1 : 1 ≤ n
  n4 : n ≤ 4
  m6 : vs.length ≤ 6
  row : ∀ v ∈ vs, Row n v
  pl : place < vs.length
  p1 : p.length = n
  p2 : Sm p
  t1 : T.length = vs.length
  t2 : T.map (·.2.1) = vs
  t3 : ∀ t ∈ T, Good p t
  t4 : ∀ t, T[place]? = some t → 1 ≤ t.1
section
variable {n : Nat} {vs : List (List Int)} {p : List Int} {T : List Tr} {place : Nat}
abbrev ws (T : List Tr) : List Int := T.map (·.1)
abbrev rss (T : List Tr) : List (List Int × Int) := T.map (·.2)
abbrev cst (n : Nat) (vs : List (List Int)) (T : List Tr) : List Int := wsum (List.replicate n 0) (T.map (·.1)) vs
theorem Set.rv (h : Set n vs p T place) : (rss T).map (·.1) = vs := by rw [List.map_map]; exact h.t2
theorem Set.rows (h : Set n vs p T place) : Rows n (rss T) where
  len := fun r hr => by
    have : r.1 ∈ vs := by rw [← h.rv]; exact List.mem_map.mpr ⟨r, hr, rfl⟩
    exact (h.row _ this).1
  sm := fun r hr => by
    have : r.1 ∈ vs := by rw [← h.rv]; exact List.mem_map.mpr ⟨r, hr, rfl⟩
    exact (h.row _ this).sm
  n := by have := h.n4; omega
  m := by have := h.m6; rw [List.length_map, h.t1]; omega
theorem Set.sw (h : Set n vs p T place) : Sm (ws T) := fun x hx => by
  obtain ⟨t, ht, rfl⟩ := List.mem_map.mp hx
  have g := h.t3 t ht
  have g1 := g.1
  have g2 := g.2.1
  omega
theorem Set.w0 (h : Set n vs p T place) : ∀ x ∈ ws T, 0 ≤ x := fun x hx => by
  obtain ⟨t, ht, rfl⟩ := List.mem_map.mp hx
  exact (h.t3 t ht).1
theorem Set.cl (h : Set n vs p T place) : (cst n vs T).length = n := wsum_len _ _ _ (by simp) fun v hv => (h.row v hv).1
theorem Set.all0 (h : Set n vs p T place) : ((ws T).all fun x => cb (0 ≤ x)) = true := List.all_eq_true.mpr fun x hx => cb_t (h.w0 x hx)
theorem Set.dots (h : Set n vs p T place) (q : List Int) : dotZ (cst n vs T) q = dotZ (ws T) (vs.map fun v => dotZ v q) := by
  rw [wsum_dot q (T.map (·.1)) vs (List.replicate n 0) (by simp) fun v hv => (h.row v hv).1, dot_rep0, Int.zero_add]
theorem Set.dot (h : Set n vs p T place) : dotZ (ws T) ((rss T).map (·.2)) = dotZ (cst n vs T) p := by
  rw [h.dots p, List.map_map]
  have := worth_dot p T h.t3
  rw [h.t2] at this
  exact this
theorem Set.good (h : Set n vs p T place) : f_is_least [rowsD (rss T), vec (cst n vs T), .tup [.str "best", .tup [vec p, .int 1], .tup [vec (ws T), .int 1]]] = .ok (.bl true) := by
  refine lb _ _ _ _ _ ?_
  have e := best_ok h.rows (cst n vs T) p (ws T) h.cl h.p1 (by simp) h.sw h.p2
  have sat : ((rss T).all fun r => cb (r.2 ≤ dotZ r.1 p)) = true := List.all_eq_true.mpr fun r hr => by
    obtain ⟨t, ht, rfl⟩ := List.mem_map.mp hr
    exact cb_t (h.t3 t ht).2.2.1
  rw [e, h.all0, sat, h.rv, h.dot]
  simp
theorem Set.dearer (h : Set n vs p T place) (c' : List Int) (hc : c'.length = n) (hn : cst n vs T ≠ c') : f_is_least [rowsD (rss T), vec c', .tup [.str "best", .tup [vec p, .int 1], .tup [vec (ws T), .int 1]]] = .ok (.bl false) := by
  refine lb _ _ _ _ _ ?_
  have e := best_ok h.rows c' p (ws T) hc h.p1 (by simp) h.sw h.p2
  rw [e, h.rv, decide_eq_false hn]
  simp
theorem rows_set {rs : List (List Int × Int)} (R : Rows n rs) (k : Nat) (hk : k < rs.length) (r : Int) : Rows n (rs.set k (rs[k].1, r)) where
  len := fun q hq => by
    rcases List.mem_or_eq_of_mem_set hq with z | z
    · exact R.len q z
    · rw [z]; exact R.len rs[k] (List.getElem_mem hk)
  sm := fun q hq => by
    rcases List.mem_or_eq_of_mem_set hq with z | z
    · exact R.sm q z
    · rw [z]; exact R.sm rs[k] (List.getElem_mem hk)
  n := R.n
  m := by rw [List.length_set]; exact R.m
theorem dot_set : ∀ (ws bs : List Int) (k : Nat) (x : Int) (h1 : k < ws.length) (h2 : k < bs.length), dotZ ws (bs.set k x) = dotZ ws bs + ws[k] * (x - bs[k])
  | w :: ws, b :: bs, 0, x, _, _ => by
    simp only [List.set_cons_zero, dotZ, List.getElem_cons_zero, Int.mul_sub]
    omega
  | w :: ws, b :: bs, k + 1, x, h1, h2 => by
    simp only [List.set_cons_succ, dotZ, List.getElem_cons_succ]
    rw [dot_set ws bs k x (by simpa using h1) (by simpa using h2)]
    omega
theorem Set.lower (h : Set n vs p T place) (hk : place < (rss T).length) : f_is_least [rowsD ((rss T).set place ((rss T)[place].1, (rss T)[place].2 - 1)), vec (cst n vs T), .tup [.str "best", .tup [vec p, .int 1], .tup [vec (ws T), .int 1]]] = .ok (.bl false) := by
  refine lb _ _ _ _ _ ?_
  have e := best_ok (rows_set h.rows place hk ((rss T)[place].2 - 1)) (cst n vs T) p (ws T) h.cl h.p1 (by simp) h.sw h.p2
  have kw : place < (ws T).length := by rw [List.length_map, h.t1]; exact h.pl
  have kb : place < ((rss T).map (·.2)).length := by simpa using hk
  have hw : 1 ≤ (ws T)[place] := by
    rw [List.getElem_map]
    exact h.t4 _ (List.getElem?_eq_getElem (by rw [h.t1]; exact h.pl))
  have hd : dotZ (ws T) (((rss T).set place ((rss T)[place].1, (rss T)[place].2 - 1)).map (·.2)) ≠ dotZ (cst n vs T) p := by
    rw [List.map_set, dot_set _ _ _ _ kw kb, ← h.dot]
    have e2 : ((rss T)[place].1, (rss T)[place].2 - 1).2 - ((rss T).map (·.2))[place] = -1 := by
      have e3 : ((rss T).map (·.2))[place] = (rss T)[place].2 := List.getElem_map _
      rw [e3]
      show (rss T)[place].2 - 1 - (rss T)[place].2 = -1
      omega
    rw [e2]
    omega
  rw [e, decide_eq_false hd]
  simp
theorem Set.upper (h : Set n vs p T place) (k : Nat) (hk : k < (rss T).length) : f_is_least [rowsD ((rss T).set k ((rss T)[k].1, dotZ (rss T)[k].1 p + 1)), vec (cst n vs T), .tup [.str "best", .tup [vec p, .int 1], .tup [vec (ws T), .int 1]]] = .ok (.bl false) := by
  refine lb _ _ _ _ _ ?_
  have e := best_ok (rows_set h.rows k hk (dotZ (rss T)[k].1 p + 1)) (cst n vs T) p (ws T) h.cl h.p1 (by simp) h.sw h.p2
  have sat : (((rss T).set k ((rss T)[k].1, dotZ (rss T)[k].1 p + 1)).all fun r => cb (r.2 ≤ dotZ r.1 p)) = false := List.all_eq_false.mpr ⟨_, List.mem_set hk _, by
    show ¬ (cb (dotZ (rss T)[k].1 p + 1 ≤ dotZ (rss T)[k].1 p)) = true
    rw [cb_f (by omega)]
    exact Bool.false_ne_true⟩
  rw [e, sat]
  simp
end

section
variable {n : Nat} {vs : List (List Int)} {p : List Int} {T : List Tr} {place : Nat}
theorem bl_v (c : List Int) : bLen (vec c) = .ok (.int c.length) := len_seqI (seqI_v c)
theorem bl_r (rs : List (List Int × Int)) : bLen (rowsD rs) = .ok (.int rs.length) := by simp [rowsD]
theorem Set.neg (h : Set n vs p T place) (q : List Int × Int) (hq1 : q.1.length = n) (hq2 : Sm q.1) (o w : List Int) (ho : o.length = n) (hw : w.length = (rss T).length + 1) (sw : Sm w) (hneg : -1 ∈ w) : f_is_least [rowsD (rss T ++ [q]), vec o, .tup [.str "best", .tup [vec p, .int 1], .tup [vec w, .int 1]]] = .ok (.bl false) := by
  refine lb _ _ _ _ _ ?_
  have R : Rows n (rss T ++ [q]) := ⟨fun r hr => by
    rcases List.mem_append.mp hr with z | z
    · exact h.rows.len r z
    · rw [List.mem_singleton.mp z]; exact hq1, fun r hr => by
    rcases List.mem_append.mp hr with z | z
    · exact h.rows.sm r z
    · rw [List.mem_singleton.mp z]; exact hq2, h.rows.n, by
    have := h.m6
    have := h.t1
    simp
    omega⟩
  have e := best_ok R o p w ho h.p1 (by simp at hw ⊢; omega) sw h.p2
  have a0 : (w.all fun x => cb (0 ≤ x)) = false := List.all_eq_false.mpr ⟨-1, hneg, by
    show ¬ (cb (0 ≤ (-1 : Int))) = true
    rw [cb_f (by omega)]
    exact Bool.false_ne_true⟩
  rw [e, a0]
  simp
theorem Set.pbad (h : Set n vs p T place) (x y : D) (hx : f_is_point [x, .int n] = .ok (.bl false)) : f_is_least [rowsD (rss T), vec (cst n vs T), .tup [.str "best", x, y]] = .ok (.bl false) :=
  lb _ _ _ _ _ (bp_p _ _ _ _ n (by rw [bl_v, h.cl]) hx)
theorem Set.pone (h : Set n vs p T place) : f_is_point [.tup [vec p, .int 1], .int n] = .ok (.bl true) := by
  have := pt_one p (by rw [h.p1]; have := h.n4; omega)
  rw [h.p1] at this
  exact this
theorem Set.wbad (h : Set n vs p T place) : f_is_least [rowsD (rss T), vec (cst n vs T), .tup [.str "best", .tup [vec p, .int 1], .tup [vec (ws T ++ [0]), .int 1]]] = .ok (.bl false) :=
  lb _ _ _ _ _ (bp_w _ _ _ _ n (rss T).length (by rw [bl_v, h.cl]) (bl_r _) h.pone (pt_len _ _ _ (by simp; omega)))
theorem Set.ray (h : Set n vs p T place) : f_is_least [rowsD (rss T), vec (cst n vs T), .tup [.str "open", .tup [vec p, .int 1], vec (ws T)]] = .ok (.bl false) := by
  refine lo _ _ _ _ _ ?_
  by_cases q : (ws T).length = n
  · have e := open_ok h.rows (cst n vs T) p (ws T) h.cl h.p1 q h.sw
    rw [e]
    cases z : ((rss T).all fun q => cb (0 ≤ dotZ q.1 (ws T))) with
    | false => simp
    | true =>
      have hz := List.all_eq_true.mp z
      have : 0 ≤ dotZ (cst n vs T) (ws T) := by
        rw [h.dots]
        refine dot_ge0 _ _ h.w0 fun x hx => ?_
        obtain ⟨v, hv, rfl⟩ := List.mem_map.mp hx
        rw [← h.rv] at hv
        obtain ⟨r, hr, rfl⟩ := List.mem_map.mp hv
        exact of_cb (hz r hr)
      rw [cb_f (show ¬ dotZ (cst n vs T) (ws T) < 0 by omega)]
      simp
  · have r1 := row_ne (ws T) n (by omega)
    have b1 : bLen (vec (cst n vs T)) = .ok (.int n) := by rw [bl_v, h.cl]
    simp [-bLen, f_is_open, g_is_open, b1, h.pone, r1]
theorem Set.bar (h : Set n vs p T place) : f_is_least [rowsD (rss T), vec (cst n vs T), .tup [.str "none", vec (ws T)]] = .ok (.bl false) := by
  refine ln _ _ _ n _ (by rw [bl_v, h.cl]) ?_
  have e := bar_ok h.rows (ws T) (by simp) h.sw
  rw [e, h.rv, h.dot]
  cases z : (cst n vs T).any fun x => !decide (x = 0) with
  | true => simp [z]
  | false =>
    have hz := List.any_eq_false.mp z
    have z0 : ∀ (c q : List Int), (∀ x ∈ c, x = 0) → dotZ c q = 0 := by
      intro c
      induction c with
      | nil => intro q _; simp [dotZ]
      | cons x c ih =>
        intro q hq
        cases q with
        | nil => simp [dotZ]
        | cons y q => simp [dotZ, hq x (by simp), ih q fun x hx => hq x (by simp [hx])]
    rw [z0 (cst n vs T) p fun x hx => by simpa using hz x hx]
    rw [cb_f (show ¬ (0 : Int) < 0 by omega)]
    simp
end
/-! ### best asked -/
section
variable {n : Nat} {vs : List (List Int)} {p : List Int} {T : List Tr} {place : Nat}
theorem Set.bt (h : Set n vs p T place) (c : List Int) (A : D) (rs : List (List Int × Int)) (e : f_is_least [rowsD rs, vec c, A] = .ok (.bl false)) : BadT (.tup [rowsD rs, vec c, A]) := ⟨_, _, _, rfl, e⟩
theorem Set.loop (h : Set n vs p T place) (sc : D) (good c9 : D) (hg : good = .tup [.str "best", .tup [vec p, .int 1], .tup [vec (ws T), .int 1]]) : ∀ (m k : Nat) (B : List D) (kc : Cell), k + m = vs.length → (∀ d ∈ B, BadT d) → B.length + m ≤ 100 →
    ∃ B' kc', (∀ d ∈ B', BadT d) ∧ B'.length ≤ B.length + m ∧ forRun (PF.gName 11) b1_ulaw_best_asked ((List.range' k m).map fun (i : Nat) => D.int (i : Int)) [.v sc, .v (.int n), .v (.lst (vs.map vec)), .v (.int place), .v (vec p), .v (vec (ws T)), .v (rowsD (rss T)), .v (vec (cst n vs T)), .v good, .v c9, .o B, kc, .e, .e, .e, .e, .e, .e, .e, .e] =
      .nx [.v sc, .v (.int n), .v (.lst (vs.map vec)), .v (.int place), .v (vec p), .v (vec (ws T)), .v (rowsD (rss T)), .v (vec (cst n vs T)), .v good, .v c9, .o B', kc', .e, .e, .e, .e, .e, .e, .e, .e]
  | 0, k, B, kc, _, hB, _ => ⟨B, kc, hB, by omega, by simp [forRun]⟩
  | m + 1, k, B, kc, hk, hB, hl => by
    have m6 := h.m6
    have k1 : k < vs.length := by omega
    have k2 : k < (ws T).length := by rw [List.length_map, h.t1]; exact k1
    have k3 : k < (rss T).length := by rw [List.length_map, h.t1]; exact k1
    have i1 : oIx (vec (ws T)) (.int (k : Int)) = .ok (.int (ws T)[k]) := ix_seqI (seqI_v _) rfl k2
    have i2 : oIx (.lst (vs.map vec)) (.int (k : Int)) = .ok (vec vs[k]) := by rw [ix_lst rfl (by simpa using k1)]; simp
    have hv := h.row vs[k] (List.getElem_mem k1)
    have d1 := ldot_ok (vec vs[k]) (vec p) vs[k] p (seqI_v _) (seqI_v _) (by rw [hv.1, h.p1]) hv.sm (by rw [hv.1]; have := h.n4; omega)
    have ev : vs[k] = (rss T)[k].1 := by
      have := h.rv
      have q : ((rss T).map (·.1))[k]'(by simpa using k3) = (rss T)[k].1 := List.getElem_map _
      rw [← q]
      congr 1
      exact this.symm
    have c1 := change_ok (rss T) k (dotZ vs[k] p + 1) k3 (by simp; have := h.t1; omega)
    have u1 := h.bt (cst n vs T) good _ (by rw [hg]; exact h.upper k k3)
    rw [← ev] at u1
    rw [ev] at c1
    rw [← ev] at c1
    have hl0 : B.length < 16777216 := by omega
    have lr : D.lst (((rss T).set k (vs[k], dotZ vs[k] p + 1)).map rowD) = rowsD ((rss T).set k (vs[k], dotZ vs[k] p + 1)) := rfl
    generalize (rss T).set k (vs[k], dotZ vs[k] p + 1) = rs' at *
    generalize hw : (ws T)[k] = w at *
    generalize vs[k] = v at *
    by_cases w0 : w = 0
    · obtain ⟨B', kc', q1, q2, q3⟩ := Set.loop h sc good c9 hg m (k + 1) (B ++ [.tup [rowsD rs', vec (cst n vs T), good]]) (.v (.int (k : Int))) (by omega) (fun d hd => by
        rcases List.mem_append.mp hd with z | z
        · exact hB d z
        · rw [List.mem_singleton.mp z]; exact u1) (by simp; omega)
      refine ⟨B', kc', q1, by simp at q2; omega, ?_⟩
      have step : b1_ulaw_best_asked [.v sc, .v (.int n), .v (.lst (vs.map vec)), .v (.int place), .v (vec p), .v (vec (ws T)), .v (rowsD (rss T)), .v (vec (cst n vs T)), .v good, .v c9, .o B, .v (.int (k : Int)), .e, .e, .e, .e, .e, .e, .e, .e] = .nx [.v sc, .v (.int n), .v (.lst (vs.map vec)), .v (.int place), .v (vec p), .v (vec (ws T)), .v (rowsD (rss T)), .v (vec (cst n vs T)), .v good, .v c9, .o (B ++ [.tup [rowsD rs', vec (cst n vs T), good]]), .v (.int (k : Int)), .e, .e, .e, .e, .e, .e, .e, .e] := by
        subst w0
        simp [-oIx, -thaw, b1_ulaw_best_asked, i1, i2, d1, c1, hl0, lr]
      rw [List.range'_succ, List.map_cons]
      simp only [forRun, PF.gName, List.set_cons_succ, List.set_cons_zero, step]
      exact q3
    · obtain ⟨B', kc', q1, q2, q3⟩ := Set.loop h sc good c9 hg m (k + 1) B (.v (.int (k : Int))) (by omega) hB (by omega)
      refine ⟨B', kc', q1, by omega, ?_⟩
      have step : b1_ulaw_best_asked [.v sc, .v (.int n), .v (.lst (vs.map vec)), .v (.int place), .v (vec p), .v (vec (ws T)), .v (rowsD (rss T)), .v (vec (cst n vs T)), .v good, .v c9, .o B, .v (.int (k : Int)), .e, .e, .e, .e, .e, .e, .e, .e] = .nx [.v sc, .v (.int n), .v (.lst (vs.map vec)), .v (.int place), .v (vec p), .v (vec (ws T)), .v (rowsD (rss T)), .v (vec (cst n vs T)), .v good, .v c9, .o B, .v (.int (k : Int)), .e, .e, .e, .e, .e, .e, .e, .e] := by
        simp [-oIx, -thaw, b1_ulaw_best_asked, i1, w0]
      rw [List.range'_succ, List.map_cons]
      simp only [forRun, PF.gName, List.set_cons_succ, List.set_cons_zero, step]
      exact q3
end
/-! ### best asked, whole -/
section
variable {n : Nat} {vs : List (List Int)} {p : List Int} {T : List Tr} {place : Nat}
theorem best_asked_ok (sc : List Int) (hsc : sc.length ≤ 63) (hn1 : 1 ≤ n) (hn : n ≤ 4) (hm1 : 1 ≤ vs.length) (hm : vs.length ≤ 6) (hvs : ∀ v ∈ vs, Row n v) (hpl : place < vs.length) : f_ulaw_best_asked [.rol (sc.map D.int), .int n, .lst (vs.map vec), .int place] = .ok (.bl true) := by
  obtain ⟨p, T, a1, a2, a3, a4, a5, a6, F0⟩ := bpair_ok sc hsc hn1 hn hm1 hm hvs place hpl
  have h : Set n vs p T place := ⟨hn1, hn, hm, hvs, hpl, a1, a2, a3, a4, a5, a6⟩
  change f_ulaw_best_pair [.rol (sc.map D.int), .int n, .lst (vs.map vec), .int place] = .ok (.tup [vec p, vec (ws T), rowsD (rss T), vec (cst n vs T)]) at F0
  have F1 := h.good
  have hcl := h.cl
  have k2 : place < (ws T).length := by rw [List.length_map, h.t1]; exact hpl
  have k3 : place < (rss T).length := by rw [List.length_map, h.t1]; exact hpl
  have lw : (ws T).length = vs.length := by rw [List.length_map, h.t1]
  have lrs : (rss T).length = vs.length := by rw [List.length_map, h.t1]
  have swt := h.sw
  have w5 : ∀ x ∈ ws T, x ≤ 5 ∧ 0 ≤ x := fun x hx => by
    obtain ⟨t, ht, rfl⟩ := List.mem_map.mp hx
    exact ⟨(h.t3 t ht).2.1, (h.t3 t ht).1⟩
  have hw5 := w5 _ (List.getElem_mem k2)
  -- places
  have i1 : oIx (vec (ws T)) (.int (place : Int)) = .ok (.int (ws T)[place]) := ix_seqI (seqI_v _) rfl k2
  have i2 : oIx (.lst (vs.map vec)) (.int (place : Int)) = .ok (vec vs[place]) := by rw [ix_lst rfl (by simpa using hpl)]; simp
  have i3 : oIx (rowsD (rss T)) (.int (place : Int)) = .ok (.tup [vec (rss T)[place].1, .int (rss T)[place].2]) := by
    unfold rowsD
    rw [ix_lst rfl (by simpa using k3), List.getElem_map]
    rfl
  -- the dearer cost
  match hC : cst n vs T, hcl with
  | [], z => simp at z; omega
  | c0 :: cr, _ =>
  have B1 := h.bt ((c0 + 1) :: cr) _ _ (h.dearer ((c0 + 1) :: cr) (by rw [← hcl, hC]; rfl) (by
    rw [hC]
    intro e
    have := (List.cons.inj e).1
    omega))
  have cc := cut_drop ((c0 :: cr).map D.int) 1 (by simp)
  have cc2 : cutD (D.int c0 :: cr.map D.int) (some 1) none = cr.map D.int := cc
  clear cc
  have lcr : 1 + cr.length ≤ 16777216 := by
    have : (c0 :: cr).length = n := by rw [← hcl, hC]
    simp at this
    omega
  -- lowered
  have C2 := change_ok (rss T) place ((rss T)[place].2 - 1) k3 (by omega)
  have B2 := h.bt (cst n vs T) _ _ (h.lower k3)
  obtain ⟨B', kc', L1, L2, L3⟩ := h.loop (.rol (sc.map D.int)) _ (vec ((c0 + 1) :: cr)) rfl vs.length 0 [_, _] .e (by omega) (fun d hd => by
    rcases List.mem_cons.mp hd with e | hd
    · rw [e]; exact B1
    · rw [List.mem_singleton.mp hd]; exact B2) (by simp; omega)
  have hr2 : rngD 0 vs.length = (List.range' 0 vs.length).map (fun (j : Nat) => D.int (j : Int)) := by simp [rngD, List.range_eq_range']
  rw [← hr2] at L3
  have hg := rng1_ok (n := vs.length) (by omega)
  have hgn := rng1_ok (n := n) (by omega)
  -- turned
  have hv := hvs vs[place] (List.getElem_mem hpl)
  have N1 : ∀ ρ : Sl, ρ.length = 20 → lcRun (PF.gName 19) tYesF (sUn oNeg (sRd 19)) ρ (vs[place].map D.int) [] = .ok ((vs[place].map (- ·)).map D.int) := fun ρ hρ => lc_ints 19 _ (- ·) ρ vs[place] (fun x _ => by simp [hρ]) (by rw [hv.1]; omega)
  have N2 : ∀ ρ : Sl, ρ.length = 20 → lcRun (PF.gName 19) tYesF b3_ulaw_best_asked ρ (p.map D.int) [] = .ok ((p.map (2 * ·)).map D.int) := fun ρ hρ => lc_ints 19 _ (2 * ·) ρ p (fun x _ => by
    have : mulOk 2 x = true := mulOk_l (by decide)
    simp [b3_ulaw_best_asked, hρ, this]) (by omega)
  have wt := cut_take ((ws T).map D.int) place (by simp; omega)
  have wd := cut_drop ((ws T).map D.int) (place + 1) (by simp; omega)
  have e1 : ((place : Int) + 1) = ((place + 1 : Nat) : Int) := by omega
  rw [← e1] at wd
  have O1 : ∀ x0 x1 x4 x6 x8 x9 x10 x11 x12 x13 x16 x17 x18 x19 : Cell, lcRun (PF.gName 15) tYesF b2_ulaw_best_asked [x0, x1, .v (.lst (vs.map vec)), .v (.int place), x4, .v (vec (ws T)), x6, .v (vec (cst n vs T)), x8, x9, x10, x11, x12, x13, .e, .e, x16, x17, x18, x19] (rngD 0 n) [] = .ok (((List.range n).map fun j => (cst n vs T).getD j 0 - (2 * (ws T)[place] + 2) * vs[place].getD j 0).map D.int) := by
    intro x0 x1 x4 x6 x8 x9 x10 x11 x12 x13 x16 x17 x18 x19
    unfold rngD
    rw [List.map_map]
    refine lc_map (fun k : Nat => D.int (0 + (k : Int))) (fun j => D.int ((cst n vs T).getD j 0 - (2 * (ws T)[place] + 2) * vs[place].getD j 0)) (List.range n) (fun j hj => ⟨_, rfl, ?_⟩) (by simp; omega)
    have jn : j < n := List.mem_range.mp hj
    have q1 : oIx (vec (cst n vs T)) (.int (j : Int)) = .ok (.int ((cst n vs T).getD j 0)) := by
      rw [ix_seqI (seqI_v _) rfl (by rw [h.cl]; exact jn), List.getD_eq_getElem?_getD, List.getElem?_eq_getElem (by rw [h.cl]; exact jn)]; rfl
    have q2 : oIx (vec vs[place]) (.int (j : Int)) = .ok (.int (vs[place].getD j 0)) := by
      rw [ix_seqI (seqI_v _) rfl (by rw [hv.1]; exact jn), List.getD_eq_getElem?_getD, List.getElem?_eq_getElem (by rw [hv.1]; exact jn)]; rfl
    have m2 : ∀ i, mulOk 2 i = true := fun i => mulOk_l (by decide)
    have m3 : ∀ i, mulOk (2 * (ws T)[place] + 2) i = true := fun i => mulOk_l (by omega)
    generalize (cst n vs T).getD j 0 = u at *
    generalize vs[place].getD j 0 = y at *
    generalize (ws T)[place] = x at *
    simp [-oIx, b2_ulaw_best_asked, q1, q2, i1, i2, m2, m3]
  have olen : ((List.range n).map fun j => (cst n vs T).getD j 0 - (2 * (ws T)[place] + 2) * vs[place].getD j 0).length = n := by simp
  have B3 := fun o (ho : o.length = n) => h.bt o _ _ (h.neg (vs[place].map (- ·), -(rss T)[place].2) (by simpa using hv.1) (sm_neg hv.sm) o ((ws T).take place ++ [-1] ++ (ws T).drop (place + 1) ++ [(ws T)[place] + 1]) ho (by simp; omega) (fun x hx => by
    simp only [List.mem_append, List.mem_singleton] at hx
    rcases hx with ((hx | hx) | hx) | hx
    · exact swt x (List.mem_of_mem_take hx)
    · rw [hx]; decide
    · exact swt x (List.mem_of_mem_drop hx)
    · rw [hx]; omega) (by simp))
  have P2 := pt_two p (by omega)
  have P3 := pt_len (p ++ [0]) 1 n (by simp; omega)
  have P4 := pt_zero p (by omega)
  have P5 := pt_three (vec p) (.int 1) (.int 1) n
  have P6 := pt_vec p n
  rw [a1] at P2 P4
  have B4 := h.bt _ _ _ (h.pbad _ (.tup [vec (ws T), .int 1]) P2)
  have B5 := h.bt _ _ _ (h.pbad _ (.tup [vec (ws T), .int 1]) P3)
  have B6 := h.bt _ _ _ (h.pbad _ (.tup [vec (ws T), .int 1]) P4)
  have B7 := h.bt _ _ _ (h.pbad _ (.tup [vec (ws T), .int 1]) P5)
  have B8 := h.bt _ _ _ (h.pbad _ (.tup [vec (ws T), .int 1]) P6)
  have B9 := h.bt _ _ _ h.wbad
  have B10 := h.bt _ _ _ (l4 (rowsD (rss T)) (vec (cst n vs T)) (.tup [vec p, .int 1]) (.tup [vec (ws T), .int 1]) .non)
  have B11 := h.bt _ _ _ h.ray
  have B12 := h.bt _ _ _ h.bar
  have B13 := h.bt _ _ _ (l0 (rowsD (rss T)) (vec (cst n vs T)))
  generalize ((List.range n).map fun j => (cst n vs T).getD j 0 - (2 * (ws T)[place] + 2) * vs[place].getD j 0) = O at *
  have B3 := B3 O olen
  have l0' : B'.length ≤ 20 := by simp at L2; omega
  have Bs : ∀ d ∈ B' ++ [_, _, _, _, _, _, _, _, _, _, _], BadT d := fun d hd => by
    rcases List.mem_append.mp hd with z | z
    · exact L1 d z
    · simp only [List.mem_cons, List.not_mem_nil, or_false] at z
      rcases z with z | z | z | z | z | z | z | z | z | z | z
      · rw [z]; exact B3
      · rw [z]; exact B4
      · rw [z]; exact B5
      · rw [z]; exact B6
      · rw [z]; exact B7
      · rw [z]; exact B8
      · rw [z]; exact B9
      · rw [z]; exact B10
      · rw [z]; exact B11
      · rw [z]; exact B12
      · rw [z]; exact B13
  have LB := fun ρ hρ => lc_bad ρ hρ _ (by simp; omega) Bs
  rw [← List.map_take] at wt
  rw [← List.map_drop] at wd
  have lA1 : (((ws T).take place).map D.int).length ≤ 10 := by simp; omega
  have lA2 : (((ws T).drop (place + 1)).map D.int).length ≤ 10 := by simp; omega
  have lP : (p.map D.int).length ≤ 10 := by simp; omega
  have lW : ((ws T).map D.int).length ≤ 10 := by simp; omega
  have lR : ((rss T).map rowD).length ≤ 10 := by simp; omega
  have lVS : (vs.map vec).length = vs.length := by simp
  have q0 : B'.length < 16777216 := by omega
  clear B1 B2 B3 B4 B5 B6 B7 B8 B9 B10 B11 B12 B13 Bs L1 L2 h P2 P3 P4 P5 P6
  rw [hC] at F0 F1 L3 LB
  simp only [hC] at O1
  generalize vs.map vec = VS at *
  generalize vs[place] = v0 at *
  generalize (ws T)[place] = w at *
  generalize hr : (rss T)[place] = r at *
  generalize (rss T).set place (r.1, r.2 - 1) = rs2 at *
  simp only [vec, rowsD, List.map_cons, List.map_append, List.map_nil] at *
  generalize ((ws T).take place).map D.int = A1 at *
  generalize ((ws T).drop (place + 1)).map D.int = A2 at *
  generalize p.map D.int = P at *
  generalize (ws T).map D.int = W at *
  generalize hRR : (rss T).map rowD = RR at *
  simp [-List.map_map, rowD, vec] at LB
  simp (disch := first | omega | rfl | simp) [leC, ltC, -oIx, -thaw, -gRng1, -List.map_map, f_ulaw_best_asked, g_ulaw_best_asked, F0, F1, i1, i2, i3, cc2, lcr, show cr.length + 1 ≤ 16777216 by omega, C2, L3, hg, hgn, N1, N2, wt, wd, O1, LB, lVS, q0, dBls_rep, any_rep, -List.any_replicate, rowD]
end
/-! ### none asked -/
def BadN (C : D) (d : D) : Prop := ∃ R A, d = .tup [.lst R, A] ∧ f_is_least [.lst R, C, A] = .ok (.bl false)
theorem lc_badN (C : D) (ρ : Sl) (hρ : ρ.length = 16) (hC : ρ[9]? = some (.v C)) (ds : List D) (hl : ds.length ≤ 1000) (h : ∀ d ∈ ds, BadN C d) : lcRun (gTup 2 (gsCons (PF.gName 14) (gsCons (PF.gName 15) gsNil))) tYesF b2_ulaw_none_asked ρ ds [] = .ok (List.replicate ds.length (.bl false)) := by
  have e := lc_map (g := gTup 2 (gsCons (PF.gName 14) (gsCons (PF.gName 15) gsNil))) (f := b2_ulaw_none_asked) (ρ := ρ) (fun d => d) (fun _ => .bl false) ds (fun d hd => by
    obtain ⟨R, A, rfl, q⟩ := h d hd
    obtain ⟨w, hC'⟩ := List.getElem?_eq_some_iff.mp hC
    exact ⟨_, rfl, by simp [b2_ulaw_none_asked, hρ, hC', q]⟩) (by omega)
  rw [List.map_id', List.map_const'] at e
  exact e
theorem zw_assoc (a b c : Int) : ∀ (n : Nat) (v0 v : List Int), v0.length = n → v.length = n → wsum (List.replicate n 0) [a, b, c] [v0, v, v.map (- ·)] = List.zipWith (fun x y => a * x + (b - c) * y) v0 v := by
  intro n v0 v h0 h1
  simp only [wsum]
  apply List.ext_getElem
  · simp; omega
  · intro i q1 q2
    simp [List.getElem_zipWith]
    rw [Int.sub_mul, Int.mul_neg]
    omega
theorem rows3 {n : Nat} (hn : n ≤ 4) {v0 v : List Int} (h0 : Row n v0) (h : Row n v) (a b c : Int) : Rows n [(v0, a), (v, b), (v.map (- ·), c)] where
  len := fun r hr => by
    simp only [List.mem_cons, List.not_mem_nil, or_false] at hr
    rcases hr with rfl | rfl | rfl
    · exact h0.1
    · exact h.1
    · simpa using h.1
  sm := fun r hr => by
    simp only [List.mem_cons, List.not_mem_nil, or_false] at hr
    rcases hr with rfl | rfl | rfl
    · exact h0.sm
    · exact h.sm
    · exact sm_neg h.sm
  n := by omega
  m := by simp
theorem zw_any {n : Nat} {v0 v : List Int} (l0 : v0.length = n) (l1 : v.length = n) (d : Int) : ((List.zipWith (fun x y => 0 * x + d * y) v0 v).any fun x => !decide (x = 0)) = (v.any fun y => !decide (d * y = 0)) := by
  have : List.zipWith (fun x y : Int => 0 * x + d * y) v0 v = v.map (d * ·) := by
    apply List.ext_getElem
    · simp; omega
    · intro i q1 q2
      simp
  rw [this, List.any_map]
  rfl
theorem bar3 {n : Nat} (hn : n ≤ 4) {v0 v : List Int} (h0 : Row n v0) (h : Row n v) (a b c x y z : Int) (hx : x.natAbs < 100) (hy : y.natAbs < 100) (hz : z.natAbs < 100) :
    f_is_bar [rowsD [(v0, a), (v, b), (v.map (- ·), c)], .int n, vec [x, y, z]] = .ok (.bl ((([x, y, z] : List Int).all fun x => cb (0 ≤ x)) && (!((List.zipWith (fun u w => x * u + (y - z) * w) v0 v).any fun x => !decide (x = 0)) && cb (0 < x * a + (y * b + z * c))))) := by
  have e := bar_ok (rows3 hn h0 h a b c) [x, y, z] rfl (fun u hu => by
    simp only [List.mem_cons, List.not_mem_nil, or_false] at hu
    rcases hu with rfl | rfl | rfl <;> omega)
  have e2 := zw_assoc x y z n v0 v h0.1 h.1
  simp only [List.map_cons, List.map_nil] at e
  rw [e, e2]
  simp [dotZ]
theorem row_str (a b : Int) (x : Str) (R : D) (n : Int) (hR : bLen R = .ok (.int 3)) : f_is_bar [R, .int n, .tup [.int a, .int b, .str x]] = .ok (.bl false) := by
  have e : f_is_row [.tup [.int a, .int b, .str x], .int 3] = .ok (.bl false) := by
    simp [f_is_row, g_is_row, lcRun, b1_is_row, f_is_whole, g_is_whole, Res.nx, dBls]
  have e2 : f_is_weights [.tup [.int a, .int b, .str x], .int 3] = .ok (.bl false) := by
    simp [f_is_weights, g_is_weights, e]
  simp [-bLen, f_is_bar, g_is_bar, hR, e2]
theorem bar_len (R : D) (w : List Int) (n m : Int) (hR : bLen R = .ok (.int m)) (h : (w.length : Int) ≠ m) : f_is_bar [R, .int n, vec w] = .ok (.bl false) := by
  simp [-bLen, f_is_bar, g_is_bar, hR, weights_ne w m h]
theorem none_asked_ok (sc : List Int) (hsc : sc.length ≤ 63) {n : Nat} {vs : List (List Int)} {place : Nat} (hn1 : 1 ≤ n) (hn : n ≤ 4) (hm : vs.length ≤ 6) (hvs : ∀ v ∈ vs, Row n v) (hpl : place < vs.length) : f_ulaw_none_asked [.rol (sc.map D.int), .int n, .lst (vs.map vec), .int place] = .ok (.bl true) := by
  obtain ⟨cs, hcs, r1⟩ := row_ok sc hsc 10 (by decide) 4 (by decide)
  obtain ⟨ds, hds, r2⟩ := row_ok sc hsc 11 (by decide) n (by omega)
  match cs, hcs with
  | [c0, c1, c2, c3], _ =>
  have r1' : f_ulaw_row [.rol (sc.map D.int), .int 10, .int 4] = .ok (.fr [.int c0, .int c1, .int c2, .int c3]) := r1
  clear r1
  have b0 := fmod_b c0 19 (by decide)
  have b1 := fmod_b c1 3 (by decide)
  have hp0 : 0 < vs.length := by omega
  have H0 := hvs vs[0] (List.getElem_mem hp0)
  have H := hvs vs[place] (List.getElem_mem hpl)
  have i0 : oIx (.lst (vs.map vec)) (.int ((0 : Nat) : Int)) = .ok (vec vs[0]) := by rw [ix_lst (k := 0) rfl (by simpa using hp0)]; simp
  have i0 : oIx (.lst (vs.map vec)) (.int 0) = .ok (vec vs[0]) := i0
  have i2 : oIx (.lst (vs.map vec)) (.int (place : Int)) = .ok (vec vs[place]) := by rw [ix_lst rfl (by simpa using hpl)]; simp
  generalize vs[0] = v0 at *
  generalize vs[place] = v at *
  have N1 : ∀ ρ : Sl, ρ.length = 16 → lcRun (PF.gName 12) tYesF (sUn oNeg (sRd 12)) ρ (v.map D.int) [] = .ok ((v.map (- ·)).map D.int) := fun ρ hρ => lc_ints 12 _ (- ·) ρ v (fun x _ => by simp [hρ]) (by rw [H.1]; omega)
  have N2 : ∀ ρ : Sl, ρ.length = 16 → lcRun (PF.gName 13) tYesF b1_ulaw_none_asked ρ (ds.map D.int) [] = .ok ((ds.map fun x => x.fmod 7 - 3).map D.int) := fun ρ hρ => lc_ints 13 _ (fun x => x.fmod 7 - 3) ρ ds (fun x _ => by simp [b1_ulaw_none_asked, hρ]) (by omega)
  have lc : (ds.map fun x => x.fmod 7 - 3).length = n := by simpa using hds
  generalize (ds.map fun x => x.fmod 7 - 3) = c at *
  generalize hright : c0.fmod 19 - 9 = right at *
  generalize hgap : 1 + c1.fmod 3 = gap at *
  have g1 : 1 ≤ gap ∧ gap ≤ 3 := by omega
  have bc : bLen (vec c) = .ok (.int n) := by rw [bl_v, lc]
  have nz : (v.any fun y => !decide ((2 - 1 : Int) * y = 0)) = true := by
    obtain ⟨x, hx, q⟩ := H.2.2
    exact List.any_eq_true.mpr ⟨x, hx, by simpa using q⟩
  have zz : (v.any fun y => !decide ((2 - 2 : Int) * y = 0)) = false := List.any_eq_false.mpr fun x _ => by simp
  have z0 : (v.any fun y => !decide ((0 - 0 : Int) * y = 0)) = false := List.any_eq_false.mpr fun x _ => by simp
  have F1 : f_is_least [rowsD [(v0, -50), (v, right), (v.map (- ·), gap - right)], vec c, .tup [.str "none", vec [0, 2, 2]]] = .ok (.bl true) := by
    refine ln _ _ _ n _ bc ?_
    rw [bar3 hn H0 H _ _ _ _ _ _ (by decide) (by decide) (by decide), zw_any H0.1 H.1, zz, cb_t (show (0 : Int) < 0 * -50 + (2 * right + 2 * (gap - right)) by omega)]
    simp
  have M1 : BadN (vec c) (.tup [rowsD [(v0, -50), (v, right), (v.map (- ·), -right)], .tup [.str "none", vec [0, 2, 2]]]) := ⟨_, _, rfl, by
    refine ln _ _ _ n _ bc ?_
    show f_is_bar [rowsD [(v0, -50), (v, right), (v.map (- ·), -right)], _, _] = _
    rw [bar3 hn H0 H _ _ _ _ _ _ (by decide) (by decide) (by decide), cb_f (show ¬ (0 : Int) < 0 * -50 + (2 * right + 2 * (-right)) by omega)]
    simp⟩
  have M2 : BadN (vec c) (.tup [rowsD [(v0, -50), (v, right), (v.map (- ·), gap - right)], .tup [.str "none", vec [0, 2, 1]]]) := ⟨_, _, rfl, by
    refine ln _ _ _ n _ bc ?_
    show f_is_bar [rowsD [(v0, -50), (v, right), (v.map (- ·), gap - right)], _, _] = _
    rw [bar3 hn H0 H _ _ _ _ _ _ (by decide) (by decide) (by decide), zw_any H0.1 H.1, nz]
    simp⟩
  have M3 : BadN (vec c) (.tup [rowsD [(v0, -50), (v, right), (v.map (- ·), gap - right)], .tup [.str "none", vec [0, 0, 0]]]) := ⟨_, _, rfl, by
    refine ln _ _ _ n _ bc ?_
    show f_is_bar [rowsD [(v0, -50), (v, right), (v.map (- ·), gap - right)], _, _] = _
    rw [bar3 hn H0 H _ _ _ _ _ _ (by decide) (by decide) (by decide), cb_f (show ¬ (0 : Int) < 0 * -50 + (0 * right + 0 * (gap - right)) by omega)]
    simp⟩
  have M4 : BadN (vec c) (.tup [rowsD [(v0, -50), (v, right), (v.map (- ·), -right - gap)], .tup [.str "none", vec [0, -1, -1]]]) := ⟨_, _, rfl, by
    refine ln _ _ _ n _ bc ?_
    show f_is_bar [rowsD [(v0, -50), (v, right), (v.map (- ·), -right - gap)], _, _] = _
    rw [bar3 hn H0 H _ _ _ _ _ _ (by decide) (by decide) (by decide)]
    have q : (([0, -1, -1] : List Int).all fun x => cb (0 ≤ x)) = false := List.all_eq_false.mpr ⟨-1, by simp, by
      show ¬ (cb (0 ≤ (-1 : Int))) = true
      rw [cb_f (by omega)]
      exact Bool.false_ne_true⟩
    rw [q]
    simp⟩
  have M5 : BadN (vec c) (.tup [rowsD [(v0, -50), (v, right), (v.map (- ·), gap - right)], .tup [.str "none", .tup [.int 0, .int 2, .str "2"]]]) := ⟨_, _, rfl, ln _ _ _ n _ bc (row_str _ _ _ _ _ rfl)⟩
  have M6 : BadN (vec c) (.tup [rowsD [(v0, -50), (v, right), (v.map (- ·), gap - right)], .tup [.str "none", vec [0, 2, 2], .non]]) := ⟨_, _, rfl, ln3 _ _ _ _⟩
  have M7 : BadN (vec c) (.tup [rowsD [(v0, -50), (v, right), (v.map (- ·), gap - right)], .tup [.str "none", vec [0, 2, 2, 0]]]) := ⟨_, _, rfl, ln _ _ _ n _ bc (bar_len _ _ _ 3 rfl (by simp))⟩
  have M8 : BadN (vec c) (.tup [rowsD [(v0, -50), (v, right), (v.map (- ·), gap - right)], .tup [.str "best", vec [0, 2, 2]]]) := ⟨_, _, rfl, lb2 _ _ _⟩
  have Bs : ∀ d ∈ [_, _, _, _, _, _, _, _], BadN (vec c) d := fun d z => by
    simp only [List.mem_cons, List.not_mem_nil, or_false] at z
    rcases z with z | z | z | z | z | z | z | z
    · rw [z]; exact M1
    · rw [z]; exact M2
    · rw [z]; exact M3
    · rw [z]; exact M4
    · rw [z]; exact M5
    · rw [z]; exact M6
    · rw [z]; exact M7
    · rw [z]; exact M8
  have LB := fun ρ hρ hC => lc_badN (vec c) ρ hρ hC _ (by simp) Bs
  clear M1 M2 M3 M4 M5 M6 M7 M8 Bs
  generalize vs.map vec = VS at *
  generalize ds.map D.int = DS at *
  simp only [vec, rowsD, List.map_cons, List.map_append, List.map_nil] at *
  simp [-List.map_map, rowD, vec] at LB
  simp [-List.map_map, rowD, vec] at F1
  simp (disch := first | omega | rfl | simp) [leC, ltC, -oIx, -thaw, -gRng1, -List.map_map, f_ulaw_none_asked, g_ulaw_none_asked, F1, i0, i2, r1', r2, N1, N2, hright, hgap, LB, dBls, rowD]
end M_k05

set_option Elab.async false
set_option linter.all false
set_option maxRecDepth 100000
set_option maxHeartbeats 4000000
namespace M_k05
open PySem L2 PF ML S_k05 LC_k05
/-! ### open asked -/
theorem lc_badO (ρ : Sl) (hρ : ρ.length = 17) (ds : List D) (hl : ds.length ≤ 1000) (h : ∀ d ∈ ds, BadT d) : lcRun (gTup 3 (gsCons (PF.gName 14) (gsCons (PF.gName 15) (gsCons (PF.gName 16) gsNil)))) tYesF b4_ulaw_open_asked ρ ds [] = .ok (List.replicate ds.length (.bl false)) := by
  have e := lc_map (g := gTup 3 (gsCons (PF.gName 14) (gsCons (PF.gName 15) (gsCons (PF.gName 16) gsNil)))) (f := b4_ulaw_open_asked) (ρ := ρ) (fun d => d) (fun _ => .bl false) ds (fun d hd => by
    obtain ⟨R, C, A, rfl, q⟩ := h d hd
    exact ⟨_, rfl, by simp [b4_ulaw_open_asked, hρ, q]⟩) (by omega)
  rw [List.map_id', List.map_const'] at e
  exact e
/-- a row turned so that it meets the ray -/
def turn (r v : List Int) : List Int := if dotZ v r < 0 then v.map (- ·) else v
theorem dot_negR : ∀ (a b : List Int), dotZ a (b.map (- ·)) = - dotZ a b
  | [], _ => by simp [dotZ]
  | _ :: _, [] => by simp [dotZ]
  | x :: a, y :: b => by
    simp only [List.map_cons, dotZ, dot_negR a b, Int.mul_neg]
    omega
theorem turn_row {n : Nat} {v : List Int} (h : Row n v) (r : List Int) : (turn r v).length = n ∧ Sm (turn r v) ∧ 0 ≤ dotZ (turn r v) r := by
  unfold turn
  split
  · exact ⟨by simpa using h.1, sm_neg h.sm, by rw [dot_neg]; omega⟩
  · exact ⟨h.1, h.sm, by omega⟩
theorem open_loop {n : Nat} (hn : n ≤ 4) (sc w pl : D) (p r : List Int) (hp : p.length = n) (hr : r.length = n) : ∀ (vs : List (List Int)) (acc : List (List Int × Int)) (a : D) (c5 : Cell) (kc : Cell), (∀ v ∈ vs, Row n v) → acc.length + vs.length ≤ 100 → (c5 = .o (r.map D.int) ∨ c5 = .v (.lst (r.map D.int))) →
    ∃ kc' c5', (c5' = .o (r.map D.int) ∨ c5' = .v (.lst (r.map D.int))) ∧ forRun (PF.gName 7) b3_ulaw_open_asked (vs.map vec) [.v sc, .v w, .v a, .v pl, .v (vec p), c5, .o (acc.map rowD), kc, .e, .e, .e, .e, .e, .e, .e, .e, .e] =
      .nx [.v sc, .v w, .v a, .v pl, .v (vec p), c5', .o ((acc ++ vs.map fun v => (turn r v, dotZ (turn r v) p)).map rowD), kc', .e, .e, .e, .e, .e, .e, .e, .e, .e]
  | [], acc, a, c5, kc, _, _, h5 => ⟨kc, c5, h5, by simp [forRun]⟩
  | v :: vs, acc, a, c5, kc, hv, hl, h5 => by
    have H := hv v (by simp)
    obtain ⟨t1, t2, t3⟩ := turn_row H r
    obtain ⟨kc', c5', q1, q2⟩ := open_loop hn sc w pl p r hp hr vs (acc ++ [(turn r v, dotZ (turn r v) p)]) a (.v (.lst (r.map D.int))) (.v (vec (turn r v))) (fun x hx => hv x (by simp [hx])) (by simp at hl ⊢; omega) (.inr rfl)
    refine ⟨kc', c5', q1, ?_⟩
    have d1 := ldot_ok (vec v) (.lst (r.map D.int)) v r (seqI_v _) (seqI_l _) (by rw [H.1, hr]) H.sm (by rw [H.1]; omega)
    have d2 := ldot_ok (vec (turn r v)) (vec p) (turn r v) p (seqI_v _) (seqI_v _) (by rw [t1, hp]) t2 (by rw [t1]; omega)
    have N1 : ∀ ρ : Sl, ρ.length = 17 → lcRun (PF.gName 13) tYesF (sUn oNeg (sRd 13)) ρ (v.map D.int) [] = .ok ((v.map (- ·)).map D.int) := fun ρ hρ => lc_ints 13 _ (- ·) ρ v (fun x _ => by simp [hρ]) (by rw [H.1]; omega)
    have hl0 : acc.length < 16777216 := by omega
    have step : b3_ulaw_open_asked [.v sc, .v w, .v a, .v pl, .v (vec p), c5, .o (acc.map rowD), .v (vec v), .e, .e, .e, .e, .e, .e, .e, .e, .e] = .nx [.v sc, .v w, .v a, .v pl, .v (vec p), .v (.lst (r.map D.int)), .o (acc.map rowD ++ [rowD (turn r v, dotZ (turn r v) p)]), .v (vec (turn r v)), .e, .e, .e, .e, .e, .e, .e, .e, .e] := by
      unfold turn at d2 ⊢
      rcases h5 with rfl | rfl
      · by_cases z : dotZ v r < 0
        · simp only [z, if_true, if_false] at d2 ⊢
          simp only [vec] at d1 d2 ⊢
          simp [-cb_iff, -cb_nif, -thaw, -List.map_map, b3_ulaw_open_asked, d1, cb_t z, N1, d2, hl0, rowD, vec]
        · simp only [z, if_true, if_false] at d2 ⊢
          simp only [vec] at d1 d2 ⊢
          simp [-cb_iff, -cb_nif, -thaw, -List.map_map, b3_ulaw_open_asked, d1, cb_f z, N1, d2, hl0, rowD, vec]
      · by_cases z : dotZ v r < 0
        · simp only [z, if_true, if_false] at d2 ⊢
          simp only [vec] at d1 d2 ⊢
          simp [-cb_iff, -cb_nif, -thaw, -List.map_map, b3_ulaw_open_asked, d1, cb_t z, N1, d2, hl0, rowD, vec]
        · simp only [z, if_true, if_false] at d2 ⊢
          simp only [vec] at d1 d2 ⊢
          simp [-cb_iff, -cb_nif, -thaw, -List.map_map, b3_ulaw_open_asked, d1, cb_f z, N1, d2, hl0, rowD, vec]
    simp only [List.map_cons, forRun, PF.gName, List.set_cons_succ, List.set_cons_zero, step]
    have e1 : acc.map rowD ++ [rowD (turn r v, dotZ (turn r v) p)] = (acc ++ [(turn r v, dotZ (turn r v) p)]).map rowD := by simp
    rw [e1, q2, List.append_assoc]
    rfl

theorem dot_zero : ∀ (a : List Int) (n : Nat), dotZ a (List.replicate n 0) = 0
  | [], _ => by simp [dotZ]
  | _ :: _, 0 => by simp [dotZ]
  | x :: a, n + 1 => by simp [List.replicate_succ, dotZ, dot_zero a n]
theorem open_asked_ok (sc : List Int) (hsc : sc.length ≤ 63) {n : Nat} {vs : List (List Int)} {place : Nat} (hn1 : 1 ≤ n) (hn : n ≤ 4) (hm : vs.length ≤ 6) (hvs : ∀ v ∈ vs, Row n v) : f_ulaw_open_asked [.rol (sc.map D.int), .int n, .lst (vs.map vec), .int place] = .ok (.bl true) := by
  obtain ⟨ps, hps, r1⟩ := row_ok sc hsc 1 (by decide) n (by omega)
  obtain ⟨rs0, hrs, r2⟩ := row_ok sc hsc 12 (by decide) n (by omega)
  have N1 : ∀ ρ : Sl, ρ.length = 17 → lcRun (PF.gName 12) tYesF b1_ulaw_open_asked ρ (ps.map D.int) [] = .ok ((ps.map fun x => x.fmod 19 - 9).map D.int) := fun ρ hρ => lc_ints 12 _ (fun x => x.fmod 19 - 9) ρ ps (fun x _ => by simp [b1_ulaw_open_asked, hρ]) (by omega)
  have N2 : ∀ ρ : Sl, ρ.length = 17 → lcRun (PF.gName 12) tYesF b2_ulaw_open_asked ρ (rs0.map D.int) [] = .ok ((rs0.map fun x => x.fmod 7 - 3).map D.int) := fun ρ hρ => lc_ints 12 _ (fun x => x.fmod 7 - 3) ρ rs0 (fun x _ => by simp [b2_ulaw_open_asked, hρ]) (by omega)
  have pl : (ps.map fun x => x.fmod 19 - 9).length = n := by simpa using hps
  have yl : (rs0.map fun x => x.fmod 7 - 3).length = n := by simpa using hrs
  have ys : ∀ x ∈ (rs0.map fun x => x.fmod 7 - 3), x.natAbs ≤ 4 := fun x hx => by
    obtain ⟨y, _, rfl⟩ := List.mem_map.mp hx
    have := fmod_b y 7 (by decide)
    omega
  generalize (ps.map fun x => x.fmod 19 - 9) = p at *
  generalize (rs0.map fun x => x.fmod 7 - 3) = y at *
  have hb := fmod_b (place : Int) n (by omega)
  have hix := ixN_ok (n := (y.map D.int).length) hb.1 (by rw [List.length_map, yl]; exact hb.2)
  rw [List.length_map] at hix
  have hset : (y.map D.int).set ((place : Int).fmod n).toNat (.int 2) = (y.set ((place : Int).fmod n).toNat 2).map D.int := by rw [List.map_set]
  have rl : (y.set ((place : Int).fmod n).toNat 2).length = n := by simpa using yl
  have rs4 : ∀ x ∈ (y.set ((place : Int).fmod n).toNat 2), x.natAbs ≤ 4 := fun x hx => by
    rcases List.mem_or_eq_of_mem_set hx with hx | hx
    · exact ys x hx
    · rw [hx]; decide
  have r2m : (2 : Int) ∈ (y.set ((place : Int).fmod n).toNat 2) := List.mem_set (by rw [yl]; omega) 2
  generalize ((place : Int).fmod n).toNat = j at *
  generalize y.set j 2 = r at *
  have sr : Sm r := fun x hx => Nat.lt_of_le_of_lt (rs4 x hx) (by decide)
  have pos := (dot_self r).2 ⟨2, r2m, by decide⟩
  obtain ⟨kc', c5', L1, L2⟩ := open_loop hn (.rol (sc.map D.int)) (.int n) (.int place) p r pl rl vs [] (.lst (vs.map vec)) (.o (r.map D.int)) .e hvs (by simp; omega) (.inl rfl)
  simp only [List.nil_append, List.map_nil] at L2
  have R0 : Rows n (vs.map fun v => (turn r v, dotZ (turn r v) p)) := ⟨fun q hq => by
    obtain ⟨v, hv, rfl⟩ := List.mem_map.mp hq
    exact (turn_row (hvs v hv) r).1, fun q hq => by
    obtain ⟨v, hv, rfl⟩ := List.mem_map.mp hq
    exact (turn_row (hvs v hv) r).2.1, by omega, by simp; omega⟩
  have sat : ((vs.map fun v => (turn r v, dotZ (turn r v) p)).all fun q => cb (q.2 ≤ dotZ q.1 p)) = true := List.all_eq_true.mpr fun q hq => by
    obtain ⟨v, hv, rfl⟩ := List.mem_map.mp hq
    exact cb_t (Int.le_refl _)
  have ray : ((vs.map fun v => (turn r v, dotZ (turn r v) p)).all fun q => cb (0 ≤ dotZ q.1 r)) = true := List.all_eq_true.mpr fun q hq => by
    obtain ⟨v, hv, rfl⟩ := List.mem_map.mp hq
    exact cb_t (turn_row (hvs v hv) r).2.2
  have wl : (vs.map fun v => (turn r v, dotZ (turn r v) p)).length ≤ 10 := by simp; omega
  generalize (vs.map fun v => (turn r v, dotZ (turn r v) p)) = W at *
  have cl : (r.map (- ·)).length = n := by simpa using rl
  have sn := sm_neg sr
  have add : ∀ (q : List Int × Int), q.1.length = n → Sm q.1 → Rows n (W ++ [q]) := fun q h1 h2 => ⟨fun z hz => by
    rcases List.mem_append.mp hz with z1 | z1
    · exact R0.len z z1
    · rw [List.mem_singleton.mp z1]; exact h1, fun z hz => by
    rcases List.mem_append.mp hz with z1 | z1
    · exact R0.sm z z1
    · rw [List.mem_singleton.mp z1]; exact h2, by omega, by simp; omega⟩
  have F1 : f_is_least [rowsD W, vec (r.map (- ·)), .tup [.str "open", .tup [vec p, .int 1], vec r]] = .ok (.bl true) := by
    refine lo _ _ _ _ _ ?_
    rw [open_ok R0 _ p r cl pl rl sr, sat, ray, cb_t (show dotZ (r.map (- ·)) r < 0 by rw [dot_neg]; omega)]
    rfl
  have M1 : BadT (.tup [rowsD (W ++ [(r.map (- ·), dotZ (r.map (- ·)) p)]), vec (r.map (- ·)), .tup [.str "open", .tup [vec p, .int 1], vec r]]) := ⟨_, _, _, rfl, lo _ _ _ _ _ (by
    show f_is_open [rowsD (W ++ [(r.map (- ·), dotZ (r.map (- ·)) p)]), _, _, _] = _
    have a : ((W ++ [(r.map (- ·), dotZ (r.map (- ·)) p)]).all fun q => cb (0 ≤ dotZ q.1 r)) = false := List.all_eq_false.mpr ⟨_, List.mem_append_right _ (List.mem_singleton_self _), by
      show ¬ (cb (0 ≤ dotZ (r.map (- ·)) r)) = true
      rw [cb_f (by rw [dot_neg]; omega)]
      exact Bool.false_ne_true⟩
    rw [open_ok (add _ cl sn) _ p r cl pl rl sr, a]
    simp)⟩
  have M2 : BadT (.tup [rowsD W, vec r, .tup [.str "open", .tup [vec p, .int 1], vec r]]) := ⟨_, _, _, rfl, lo _ _ _ _ _ (by
    show f_is_open [rowsD W, _, _, _] = _
    rw [open_ok R0 r p r rl pl rl sr, cb_f (show ¬ dotZ r r < 0 by omega)]
    simp)⟩
  have M3 : BadT (.tup [rowsD W, vec (List.replicate n 0), .tup [.str "open", .tup [vec p, .int 1], vec r]]) := ⟨_, _, _, rfl, lo _ _ _ _ _ (by
    show f_is_open [rowsD W, _, _, _] = _
    rw [open_ok R0 (List.replicate n 0) p r (by simp) pl rl sr, cb_f (show ¬ dotZ (List.replicate n 0) r < 0 by rw [dot_rep0]; omega)]
    simp)⟩
  have M4 : BadT (.tup [rowsD (W ++ [(r, dotZ r p + 1)]), vec (r.map (- ·)), .tup [.str "open", .tup [vec p, .int 1], vec r]]) := ⟨_, _, _, rfl, lo _ _ _ _ _ (by
    show f_is_open [rowsD (W ++ [(r, dotZ r p + 1)]), _, _, _] = _
    have a : ((W ++ [(r, dotZ r p + 1)]).all fun q => cb (q.2 ≤ dotZ q.1 p)) = false := List.all_eq_false.mpr ⟨_, List.mem_append_right _ (List.mem_singleton_self _), by
      show ¬ (cb (dotZ r p + 1 ≤ dotZ r p)) = true
      rw [cb_f (by omega)]
      exact Bool.false_ne_true⟩
    rw [open_ok (add _ rl sr) _ p r cl pl rl sr, a]
    simp)⟩
  have b1 : bLen (vec (r.map (- ·))) = .ok (.int n) := by rw [bl_v, cl]
  have p1 := pt_one p (by omega)
  rw [pl] at p1
  have M5 : BadT (.tup [rowsD W, vec (r.map (- ·)), .tup [.str "open", .tup [vec p, .int 1], .non]]) := ⟨_, _, _, rfl, lo _ _ _ _ _ (by simp [-bLen, f_is_open, g_is_open, b1, p1, row_non])⟩
  have M6 : BadT (.tup [rowsD W, vec (r.map (- ·)), .tup [.str "open", .tup [vec p, .int 1], vec (r ++ [0])]]) := ⟨_, _, _, rfl, lo _ _ _ _ _ (by
    have q := row_ne (r ++ [0]) n (by simp; omega)
    simp [-bLen, f_is_open, g_is_open, b1, p1, q])⟩
  have M7 : BadT (.tup [rowsD W, vec (r.map (- ·)), .tup [.str "best", .tup [vec p, .int 1], vec r]]) := ⟨_, _, _, rfl, lb _ _ _ _ _ (by
    have q : ∀ m : Int, f_is_point [vec r, .int m] = .ok (.bl false) := fun m => pt_vec r m
    have b2 : bLen (rowsD W) = .ok (.int W.length) := bl_r W
    exact bp_w _ _ _ _ n W.length b1 b2 p1 (q _))⟩
  have Bs : ∀ d ∈ [_, _, _, _, _, _, _], BadT d := fun d z => by
    simp only [List.mem_cons, List.not_mem_nil, or_false] at z
    rcases z with z | z | z | z | z | z | z
    · rw [z]; exact M1
    · rw [z]; exact M2
    · rw [z]; exact M3
    · rw [z]; exact M4
    · rw [z]; exact M5
    · rw [z]; exact M6
    · rw [z]; exact M7
  have LB := fun ρ hρ => lc_badO ρ hρ _ (by simp) Bs
  clear M1 M2 M3 M4 M5 M6 M7 Bs
  have d1 := ldot_ok (vec (r.map (- ·))) (vec p) (r.map (- ·)) p (seqI_v _) (seqI_v _) (by rw [cl, pl]) sn (by omega)
  have d2 := ldot_ok (.lst (r.map D.int)) (vec p) r p (seqI_l _) (seqI_v _) (by rw [rl, pl]) sr (by omega)
  have N3 : ∀ ρ : Sl, ρ.length = 17 → lcRun (PF.gName 13) tYesF (sUn oNeg (sRd 13)) ρ (r.map D.int) [] = .ok ((r.map (- ·)).map D.int) := fun ρ hρ => lc_ints 13 _ (- ·) ρ r (fun x _ => by simp [hρ]) (by omega)
  have hf := rep0_ok n (by omega)
  have n0 : ¬ ((n : Int) = 0) := by omega
  have n0' : ¬ n = 0 := by omega
  have lW : (W.map rowD).length ≤ 10 := by simpa using wl
  have lr : (r.map D.int).length ≤ 10 := by simp; omega
  have fin : f_ulaw_open_asked [.rol (sc.map D.int), .int n, .lst (vs.map vec), .int place] = .ok (.bl true) := by
    generalize vs.map vec = VS at *
    simp only [vec, rowsD, List.map_cons, List.map_append, List.map_nil] at *
    simp [-List.map_map, -List.map_replicate, rowD, vec] at LB
    generalize hRW : W.map rowD = RW at *
    generalize dotZ (r.map (- ·)) p = q1 at *
    generalize dotZ r p = q2 at *
    generalize (r.map (- ·)).map D.int = NR at *
    generalize hRR : r.map D.int = RR at *
    generalize (List.replicate n (0 : Int)).map D.int = ZZ at *
    generalize p.map D.int = P at *
    rcases L1 with rfl | rfl
    · simp (disch := first | omega | rfl | simp) [leC, ltC, -oIx, -fRep, -thaw, -gRng1, -List.map_map, f_ulaw_open_asked, g_ulaw_open_asked, F1, r1, r2, N1, N2, N3, hix, hset, L2, d1, d2, hf, n0, n0', LB, dBls, rowD]
    · simp (disch := first | omega | rfl | simp) [leC, ltC, -oIx, -fRep, -thaw, -gRng1, -List.map_map, f_ulaw_open_asked, g_ulaw_open_asked, F1, r1, r2, N1, N2, N3, hix, hset, L2, d1, d2, hf, n0, n0', LB, dBls, rowD]
  exact fin

theorem law_true : ∀ ns : List Int, ns.length ≤ 63 → f_law [.rol (ns.map D.int)] = .ok (.bl true) := fun ns hns => by
  obtain ⟨ts, hts, r0⟩ := row_ok ns hns 0 (by decide) 3 (by decide)
  match ts, hts with
  | [t0, t1, t2], _ =>
  have r0' : f_ulaw_row [.rol (ns.map D.int), .int 0, .int 3] = .ok (.fr [.int t0, .int t1, .int t2]) := r0
  have b0 := fmod_b t0 4 (by decide)
  have b1 := fmod_b t1 6 (by decide)
  obtain ⟨w, hw⟩ := Int.eq_ofNat_of_zero_le (show 0 ≤ 1 + t0.fmod 4 by omega)
  obtain ⟨m, hm⟩ := Int.eq_ofNat_of_zero_le (show 0 ≤ 1 + t1.fmod 6 by omega)
  have b2 := fmod_b t2 m (by omega)
  obtain ⟨pl, hpl⟩ := Int.eq_ofNat_of_zero_le b2.1
  obtain ⟨vs, v1, v2, v3⟩ := rows_ok ns hns w m (by omega) (by omega) (by omega)
  have A1 := best_asked_ok (place := pl) ns hns (by omega) (by omega) (by omega) (by omega) v2 (by omega)
  have A2 := none_asked_ok (place := pl) ns hns (by omega) (by omega) (by omega) v2 (by omega)
  have A3 := open_asked_ok (place := pl) ns hns (by omega) (by omega) (by omega) v2
  have m0 : ¬ ((m : Int) = 0) := by omega
  have m0' : ¬ m = 0 := by omega
  simp [-oIx, f_law, g_law, r0', hw, hm, hpl, v3, A1, A2, A3, m0, m0']
end M_k05

set_option Elab.async false
set_option linter.all false
set_option maxRecDepth 100000
set_option maxHeartbeats 4000000
/-! The walk: each def keeps its promise; the end (printed by gen.py) -/
namespace W_k05
open PySem PySem.Spec L2 PF S_k05
def top (i : Nat) : Stmt := PySem.Challenge.pw_costsexplained_k05_linear_papers_judged.main.body.getD i (.Pass ⟨0, 0, 0, 0⟩)
structure Bi (mg : Mg) : Prop where
  abs : mg "abs" = none
  all : mg "all" = none
  any : mg "any" = none
  bool : mg "bool" = none
  gcd : mg "gcd" = some (.builtin "math.gcd")
  int : mg "int" = none
  isinstance : mg "isinstance" = none
  len : mg "len" = none
  list : mg "list" = none
  range : mg "range" = none
  sum : mg "sum" = none
  tuple : mg "tuple" = none
  zip : mg "zip" = none
structure Ez (K : Frg) (mg : Mg) : Prop where
  BadNumber : ExcT K mg "BadNumber" (He.ga K "BadNumber")
  g_BadNumber : mg "BadNumber" = some (.ref (He.ga K "BadNumber"))
abbrev s_dot : Stmt := top 5
theorem sc_dot : FnScope ["left", "right", "a", "b"] ["left", "right"] (defScope s_dot) := ⟨rfl, rfl, rfl, by decide +kernel, rfl, by decide +kernel, by decide +kernel⟩
theorem ok_dot {P : Program} {w : World} {K : Frg} {mg : Mg} {base : Heap} {f : Addr} {fd : FuncData} (F : Fun K "dot" "dot" s_dot f fd) (B : Bi mg) (Z : Ez K mg) : FnOk P w K mg base (L2.CX P w) 1 f fd ["left", "right"] (spF K mg 2 f_dot) :=
  fn_ok F sc_dot fun cdv A outer s H E hr cs => (ms_one (ms_ret (me_b1 (cr_sum cs.hc) b_sum B.sum (by decide +kernel) (mr_f (mf_lc (own := [("a", 2), ("b", 3)]) cs.hc sc_dot.nd (mi_zip rfl B.zip (ma_cons (me_var 0 (pv 0)) (ma_cons (me_var 1 (pv 1)) ma_nil))) (blkOk_by (N := ["left", "right", "a", "b"]) (sc := defScope s_dot) (by decide +kernel)) (fun _ _ _ _ _ => (mg_tup cs.hc (mgs_cons (mg_name 2 sc_dot.nd) (mgs_cons (mg_name 3 sc_dot.nd) mgs_nil)))) (fun _ _ _ _ _ => mts_nil) (fun _ _ _ _ _ => (me_op op_mulU o_mul (mr_rd 2 (pv 2)) (mr_rd 3 (pv 3)))))))))
abbrev s_content : Stmt := top 6
theorem sc_content : FnScope ["vector", "part", "entry"] ["vector"] (defScope s_content) := ⟨rfl, rfl, rfl, by decide +kernel, rfl, by decide +kernel, by decide +kernel⟩
theorem ok_content {P : Program} {w : World} {K : Frg} {mg : Mg} {base : Heap} {f : Addr} {fd : FuncData} (F : Fun K "content" "content" s_content f fd) (B : Bi mg) (Z : Ez K mg) : FnOk P w K mg base (L2.CX P w) 1 f fd ["vector"] (spF K mg 1 f_content) :=
  fn_ok F sc_content fun cdv A outer s H E hr cs => (ms_cons (ms_set 1 sc_content.nd me_int)
    (ms_cons (ms_for cs.po cs.hc (mi_seq (me_var 0 (pv 0))) (mg_name 2 sc_content.nd) (ms_one (ms_set 1 sc_content.nd (me_bf2 cr_gcd b_gcd B.gcd (mr_rd 1 (pv 1)) (mr_rd 2 (pv 2))))))
    (ms_one (ms_ret (me_var 1 (pv 1))))))
abbrev s_make_point : Stmt := top 7
theorem sc_make_point : FnScope ["nums", "den", "part", "entry"] ["nums", "den"] (defScope s_make_point) := ⟨rfl, rfl, rfl, by decide +kernel, rfl, by decide +kernel, by decide +kernel⟩
theorem ok_make_point {P : Program} {w : World} {K : Frg} {mg : Mg} {base : Heap} {f : Addr} {fd : FuncData} (F : Fun K "make_point" "make_point" s_make_point f fd) (B : Bi mg) (Z : Ez K mg) {a_content : Addr} {d_content : FuncData} (D_content : Df P w K mg base "content" 1 a_content d_content ["vector"] f_content) : FnOk P w K mg base (L2.CX P w) 2 f fd ["nums", "den"] (spF K mg 2 f_make_point) :=
  fn_ok F sc_make_point fun cdv A outer s H E hr cs => (ms_cons (ms_if (mt_cmp (op_eqD hr.units) o_eq (mr_rd 1 (pv 1)) (mr_of me_int) (nomark _)) (ms_one (ms_raise cs Z.BadNumber)) ms_nil)
    (ms_cons (ms_set 2 sc_make_point.nd (me_bf2 cr_gcd b_gcd B.gcd (mr_of (me_calD D_content (hr.mono (by decide)) cs.cw (ma_cons (me_var 0 (pv 0)) ma_nil) (len_cons (fun ρ ds h => len_nil h)))) (mr_rd 1 (pv 1))))
    (ms_cons (ms_if (mt_cmp op_lt o_lt (mr_rd 1 (pv 1)) (mr_of me_int) (nomark _)) (ms_one (ms_set 2 sc_make_point.nd (me_un un_neg o_neg (mr_rd 2 (pv 2))))) ms_nil)
    (ms_one (ms_ret (me_tup (ma_cons (me_t1 call_tuple_of b_tup B.tuple (by decide +kernel) (mr_f (mf_lc (own := [("entry", 3)]) cs.hc sc_make_point.nd (mi_seq (me_var 0 (pv 0))) (blkOk_by (N := ["nums", "den", "part", "entry"]) (sc := defScope s_make_point) (by decide +kernel)) (fun _ _ _ _ _ => (mg_name 3 sc_make_point.nd)) (fun _ _ _ _ _ => mts_nil) (fun _ _ _ _ _ => (me_op op_fdivU o_fdiv (mr_rd 3 (pv 3)) (mr_rd 2 (pv 2))))))) (ma_cons (me_op op_fdivU o_fdiv (mr_rd 1 (pv 1)) (mr_rd 2 (pv 2))) ma_nil))))))))
abbrev s_weighted : Stmt := top 8
theorem sc_weighted : FnScope ["weights", "vectors", "width", "nums", "weight", "vector", "a", "b"] ["weights", "vectors", "width"] (defScope s_weighted) := ⟨rfl, rfl, rfl, by decide +kernel, rfl, by decide +kernel, by decide +kernel⟩
theorem ok_weighted {P : Program} {w : World} {K : Frg} {mg : Mg} {base : Heap} {f : Addr} {fd : FuncData} (F : Fun K "weighted" "weighted" s_weighted f fd) (B : Bi mg) (Z : Ez K mg) : FnOk P w K mg base (L2.CX P w) 1 f fd ["weights", "vectors", "width"] (spF K mg 3 f_weighted) :=
  fn_ok F sc_weighted fun cdv A outer s H E hr cs => (ms_cons (ms_set 3 sc_weighted.nd (me_of (mf_op op_rep f_rep (mr_f (mf_lst (ma_cons me_int ma_nil))) (mr_rd 2 (pv 2)))))
    (ms_cons (ms_for cs.po cs.hc (mi_zip rfl B.zip (ma_cons (me_var 0 (pv 0)) (ma_cons (me_var 1 (pv 1)) ma_nil))) (mg_tup cs.hc (mgs_cons (mg_name 4 sc_weighted.nd) (mgs_cons (mg_name 5 sc_weighted.nd) mgs_nil))) (ms_one (ms_if (mt_cmp (op_neD hr.units) o_ne (mr_rd 4 (pv 4)) (mr_of me_int) (nomark _)) (ms_one (ms_setLcV 3 (own := [("a", 6), ("b", 7)]) cs.hc sc_weighted.nd (sw_true rfl rfl rfl (by decide +kernel)) (mi_zip rfl B.zip (ma_cons (me_var 3 (pv 3)) (ma_cons (me_var 5 (pv 5)) ma_nil))) (blkOk_by (N := ["weights", "vectors", "width", "nums", "weight", "vector", "a", "b"]) (sc := defScope s_weighted) (by decide +kernel)) (fun _ _ _ _ _ => (mg_tup cs.hc (mgs_cons (mg_name 6 sc_weighted.nd) (mgs_cons (mg_name 7 sc_weighted.nd) mgs_nil)))) (fun _ _ _ _ _ => mts_nil) (fun _ _ _ _ _ => (me_op op_addU o_add (mr_rd 6 (pv 6)) (mr_of (me_op op_mulU o_mul (mr_rd 4 (pv 4)) (mr_rd 7 (pv 7)))))))) ms_nil)))
    (ms_one (ms_ret (me_t1 call_tuple_of b_tup B.tuple (by decide +kernel) (mr_rd 3 (pv 3)))))))
abbrev s_is_whole : Stmt := top 10
theorem sc_is_whole : FnScope ["value"] ["value"] (defScope s_is_whole) := ⟨rfl, rfl, rfl, by decide +kernel, rfl, by decide +kernel, by decide +kernel⟩
theorem ok_is_whole {P : Program} {w : World} {K : Frg} {mg : Mg} {base : Heap} {f : Addr} {fd : FuncData} (F : Fun K "is_whole" "is_whole" s_is_whole f fd) (B : Bi mg) (Z : Ez K mg) : FnOk P w K mg base (L2.CX P w) 1 f fd ["value"] (spF K mg 1 f_is_whole) :=
  fn_ok F sc_is_whole fun cdv A outer s H E hr cs => (ms_one (ms_ret (me_and (me_isi (mr_rd 0 (pv 0)) (by decide +kernel) B.isinstance B.int) (pe_one (me_not (me_isi (mr_rd 0 (pv 0)) (by decide +kernel) B.isinstance B.bool))))))
abbrev s_is_row : Stmt := top 11
theorem sc_is_row : FnScope ["value", "length", "entry"] ["value", "length"] (defScope s_is_row) := ⟨rfl, rfl, rfl, by decide +kernel, rfl, by decide +kernel, by decide +kernel⟩
theorem ok_is_row {P : Program} {w : World} {K : Frg} {mg : Mg} {base : Heap} {f : Addr} {fd : FuncData} (F : Fun K "is_row" "is_row" s_is_row f fd) (B : Bi mg) (Z : Ez K mg) {a_is_whole : Addr} {d_is_whole : FuncData} (D_is_whole : Df P w K mg base "is_whole" 1 a_is_whole d_is_whole ["value"] f_is_whole) : FnOk P w K mg base (L2.CX P w) 2 f fd ["value", "length"] (spF K mg 2 f_is_row) :=
  fn_ok F sc_is_row fun cdv A outer s H E hr cs => (ms_one (ms_ret (me_and (me_isi (mr_rd 0 (pv 0)) (by decide +kernel) B.isinstance B.tuple) (me_and (me_cmp (op_eqD hr.units) o_eq (mr_of (me_b1 call_len b_len B.len (by decide +kernel) (mr_rd 0 (pv 0)))) (mr_rd 1 (pv 1)) (nomark _)) (pe_one (me_b1 (cr_all cs.hc) b_all B.all (by decide +kernel) (mr_f (mf_lc (own := [("entry", 2)]) cs.hc sc_is_row.nd (mi_seq (me_var 0 (pv 0))) (blkOk_by (N := ["value", "length", "entry"]) (sc := defScope s_is_row) (by decide +kernel)) (fun _ _ _ _ _ => (mg_name 2 sc_is_row.nd)) (fun _ _ _ _ _ => mts_nil) (fun _ _ _ _ _ => (me_calD D_is_whole (hr.mono (by decide)) cw0 (ma_cons (me_var 2 (pv 2)) ma_nil) (len_cons (fun ρ ds h => len_nil h))))))))))))
abbrev s_is_point : Stmt := top 12
theorem sc_is_point : FnScope ["value", "length", "nums", "den"] ["value", "length"] (defScope s_is_point) := ⟨rfl, rfl, rfl, by decide +kernel, rfl, by decide +kernel, by decide +kernel⟩
theorem ok_is_point {P : Program} {w : World} {K : Frg} {mg : Mg} {base : Heap} {f : Addr} {fd : FuncData} (F : Fun K "is_point" "is_point" s_is_point f fd) (B : Bi mg) (Z : Ez K mg) {a_make_point : Addr} {d_make_point : FuncData} (D_make_point : Df P w K mg base "make_point" 2 a_make_point d_make_point ["nums", "den"] f_make_point) {a_is_whole : Addr} {d_is_whole : FuncData} (D_is_whole : Df P w K mg base "is_whole" 1 a_is_whole d_is_whole ["value"] f_is_whole) {a_is_row : Addr} {d_is_row : FuncData} (D_is_row : Df P w K mg base "is_row" 2 a_is_row d_is_row ["value", "length"] f_is_row) : FnOk P w K mg base (L2.CX P w) 3 f fd ["value", "length"] (spF K mg 2 f_is_point) :=
  fn_ok F sc_is_point fun cdv A outer s H E hr cs => (ms_cons (ms_if (PW.pt (mw_or (mt_not (mt_tru (mr_of (me_isi (mr_rd 0 (pv 0)) (by decide +kernel) B.isinstance B.tuple)))) (mw_or1 (mt_cmp (op_neD hr.units) o_ne (mr_of (me_b1 call_len b_len B.len (by decide +kernel) (mr_rd 0 (pv 0)))) (mr_of me_int) (nomark _))))) (ms_one (ms_ret me_bl)) ms_nil)
    (ms_cons (ms_asg (me_var 0 (pv 0)) (mg_tup cs.hc (mgs_cons (mg_name 2 sc_is_point.nd) (mgs_cons (mg_name 3 sc_is_point.nd) mgs_nil))))
    (ms_one (ms_ret (me_and (me_calD D_is_row (hr.mono (by decide)) cs.cw (ma_cons (me_var 2 (pv 2)) (ma_cons (me_var 1 (pv 1)) ma_nil)) (len_cons (len_cons (fun ρ ds h => len_nil h)))) (me_and (me_calD D_is_whole (hr.mono (by decide)) cs.cw (ma_cons (me_var 3 (pv 3)) ma_nil) (len_cons (fun ρ ds h => len_nil h))) (me_and (me_cmp op_ge o_ge (mr_rd 3 (pv 3)) (mr_of me_int) (nomark _)) (pe_one (me_cmp (op_eqD hr.units) o_eq (mr_of (me_calD D_make_point (hr.mono (by decide)) cs.cw (ma_cons (me_var 2 (pv 2)) (ma_cons (me_var 3 (pv 3)) ma_nil)) (len_cons (len_cons (fun ρ ds h => len_nil h))))) (mr_rd 0 (pv 0)) (nomark _))))))))))
abbrev s_is_weights : Stmt := top 13
theorem sc_is_weights : FnScope ["value", "length", "entry"] ["value", "length"] (defScope s_is_weights) := ⟨rfl, rfl, rfl, by decide +kernel, rfl, by decide +kernel, by decide +kernel⟩
theorem ok_is_weights {P : Program} {w : World} {K : Frg} {mg : Mg} {base : Heap} {f : Addr} {fd : FuncData} (F : Fun K "is_weights" "is_weights" s_is_weights f fd) (B : Bi mg) (Z : Ez K mg) {a_is_row : Addr} {d_is_row : FuncData} (D_is_row : Df P w K mg base "is_row" 2 a_is_row d_is_row ["value", "length"] f_is_row) : FnOk P w K mg base (L2.CX P w) 3 f fd ["value", "length"] (spF K mg 2 f_is_weights) :=
  fn_ok F sc_is_weights fun cdv A outer s H E hr cs => (ms_one (ms_ret (me_and (me_calD D_is_row (hr.mono (by decide)) cs.cw (ma_cons (me_var 0 (pv 0)) (ma_cons (me_var 1 (pv 1)) ma_nil)) (len_cons (len_cons (fun ρ ds h => len_nil h)))) (pe_one (me_b1 (cr_all cs.hc) b_all B.all (by decide +kernel) (mr_f (mf_lc (own := [("entry", 2)]) cs.hc sc_is_weights.nd (mi_seq (me_var 0 (pv 0))) (blkOk_by (N := ["value", "length", "entry"]) (sc := defScope s_is_weights) (by decide +kernel)) (fun _ _ _ _ _ => (mg_name 2 sc_is_weights.nd)) (fun _ _ _ _ _ => mts_nil) (fun _ _ _ _ _ => (me_cmp op_ge o_ge (mr_rd 2 (pv 2)) (mr_of me_int) (nomark _))))))))))
abbrev s_has_form : Stmt := top 14
theorem sc_has_form : FnScope ["value", "word", "length"] ["value", "word", "length"] (defScope s_has_form) := ⟨rfl, rfl, rfl, by decide +kernel, rfl, by decide +kernel, by decide +kernel⟩
theorem ok_has_form {P : Program} {w : World} {K : Frg} {mg : Mg} {base : Heap} {f : Addr} {fd : FuncData} (F : Fun K "has_form" "has_form" s_has_form f fd) (B : Bi mg) (Z : Ez K mg) : FnOk P w K mg base (L2.CX P w) 1 f fd ["value", "word", "length"] (spF K mg 3 f_has_form) :=
  fn_ok F sc_has_form fun cdv A outer s H E hr cs => (ms_one (ms_ret (me_and (me_isi (mr_rd 0 (pv 0)) (by decide +kernel) B.isinstance B.tuple) (me_and (me_cmp (op_eqD hr.units) o_eq (mr_of (me_b1 call_len b_len B.len (by decide +kernel) (mr_rd 0 (pv 0)))) (mr_rd 2 (pv 2)) (nomark _)) (pe_one (me_cmp (op_eqD hr.units) o_eq (mr_of (me_ix ix_seq o_ix (mr_rd 0 (pv 0)) (mr_of me_int) (fun _ _ => rfl))) (mr_rd 1 (pv 1)) (nomark _)))))))
abbrev s_satisfies : Stmt := top 16
theorem sc_satisfies : FnScope ["rows", "point", "nums", "den", "coeffs", "rhs"] ["rows", "point"] (defScope s_satisfies) := ⟨rfl, rfl, rfl, by decide +kernel, rfl, by decide +kernel, by decide +kernel⟩
theorem ok_satisfies {P : Program} {w : World} {K : Frg} {mg : Mg} {base : Heap} {f : Addr} {fd : FuncData} (F : Fun K "satisfies" "satisfies" s_satisfies f fd) (B : Bi mg) (Z : Ez K mg) {a_dot : Addr} {d_dot : FuncData} (D_dot : Df P w K mg base "dot" 1 a_dot d_dot ["left", "right"] f_dot) : FnOk P w K mg base (L2.CX P w) 2 f fd ["rows", "point"] (spF K mg 2 f_satisfies) :=
  fn_ok F sc_satisfies fun cdv A outer s H E hr cs => (ms_cons (ms_asg (me_var 1 (pv 1)) (mg_tup cs.hc (mgs_cons (mg_name 2 sc_satisfies.nd) (mgs_cons (mg_name 3 sc_satisfies.nd) mgs_nil))))
    (ms_one (ms_ret (me_b1 (cr_all cs.hc) b_all B.all (by decide +kernel) (mr_f (mf_lc (own := [("coeffs", 4), ("rhs", 5)]) cs.hc sc_satisfies.nd (mi_seq (me_var 0 (pv 0))) (blkOk_by (N := ["rows", "point", "nums", "den", "coeffs", "rhs"]) (sc := defScope s_satisfies) (by decide +kernel)) (fun _ _ _ _ _ => (mg_tup cs.hc (mgs_cons (mg_name 4 sc_satisfies.nd) (mgs_cons (mg_name 5 sc_satisfies.nd) mgs_nil)))) (fun _ _ _ _ _ => mts_nil) (fun _ _ _ _ _ => (me_cmp op_ge o_ge (mr_of (me_calD D_dot (hr.mono (by decide)) cw0 (ma_cons (me_var 4 (pv 4)) (ma_cons (me_var 2 (pv 2)) ma_nil)) (len_cons (len_cons (fun ρ ds h => len_nil h))))) (mr_of (me_op op_mulU o_mul (mr_rd 5 (pv 5)) (mr_rd 3 (pv 3)))) (nomark _)))))))))
abbrev s_is_best_pair : Stmt := top 17
theorem sc_is_best_pair : FnScope ["rows", "cost", "point", "worths", "nums", "den", "coeffs", "rhs", "entry"] ["rows", "cost", "point", "worths"] (defScope s_is_best_pair) := ⟨rfl, rfl, rfl, by decide +kernel, rfl, by decide +kernel, by decide +kernel⟩
theorem ok_is_best_pair {P : Program} {w : World} {K : Frg} {mg : Mg} {base : Heap} {f : Addr} {fd : FuncData} (F : Fun K "is_best_pair" "is_best_pair" s_is_best_pair f fd) (B : Bi mg) (Z : Ez K mg) {a_is_point : Addr} {d_is_point : FuncData} (D_is_point : Df P w K mg base "is_point" 3 a_is_point d_is_point ["value", "length"] f_is_point) {a_satisfies : Addr} {d_satisfies : FuncData} (D_satisfies : Df P w K mg base "satisfies" 2 a_satisfies d_satisfies ["rows", "point"] f_satisfies) {a_is_weights : Addr} {d_is_weights : FuncData} (D_is_weights : Df P w K mg base "is_weights" 3 a_is_weights d_is_weights ["value", "length"] f_is_weights) {a_weighted : Addr} {d_weighted : FuncData} (D_weighted : Df P w K mg base "weighted" 1 a_weighted d_weighted ["weights", "vectors", "width"] f_weighted) {a_dot : Addr} {d_dot : FuncData} (D_dot : Df P w K mg base "dot" 1 a_dot d_dot ["left", "right"] f_dot) : FnOk P w K mg base (L2.CX P w) 4 f fd ["rows", "cost", "point", "worths"] (spF K mg 4 f_is_best_pair) :=
  fn_ok F sc_is_best_pair fun cdv A outer s H E hr cs => (ms_cons (ms_if (PW.pt (mw_or (mt_not (mt_tru (mr_of (me_calD D_is_point (hr.mono (by decide)) cs.cw (ma_cons (me_var 2 (pv 2)) (ma_cons (me_b1 call_len b_len B.len (by decide +kernel) (mr_rd 1 (pv 1))) ma_nil)) (len_cons (len_cons (fun ρ ds h => len_nil h))))))) (mw_or1 (mt_not (mt_tru (mr_of (me_calD D_is_point (hr.mono (by decide)) cs.cw (ma_cons (me_var 3 (pv 3)) (ma_cons (me_b1 call_len b_len B.len (by decide +kernel) (mr_rd 0 (pv 0))) ma_nil)) (len_cons (len_cons (fun ρ ds h => len_nil h)))))))))) (ms_one (ms_ret me_bl)) ms_nil)
    (ms_cons (ms_asg (me_var 3 (pv 3)) (mg_tup cs.hc (mgs_cons (mg_name 4 sc_is_best_pair.nd) (mgs_cons (mg_name 5 sc_is_best_pair.nd) mgs_nil))))
    (ms_cons (ms_if (PW.pt (mw_or (mt_not (mt_tru (mr_of (me_calD D_is_weights (hr.mono (by decide)) cs.cw (ma_cons (me_var 4 (pv 4)) (ma_cons (me_b1 call_len b_len B.len (by decide +kernel) (mr_rd 0 (pv 0))) ma_nil)) (len_cons (len_cons (fun ρ ds h => len_nil h))))))) (mw_or1 (mt_not (mt_tru (mr_of (me_calD D_satisfies (hr.mono (by decide)) cs.cw (ma_cons (me_var 0 (pv 0)) (ma_cons (me_var 2 (pv 2)) ma_nil)) (len_cons (len_cons (fun ρ ds h => len_nil h)))))))))) (ms_one (ms_ret me_bl)) ms_nil)
    (ms_cons (ms_if (mt_cmp (op_neD hr.units) o_ne (mr_of (me_calD D_weighted (hr.mono (by decide)) cs.cw (ma_cons (me_var 4 (pv 4)) (ma_cons (me_of (mf_lc (own := [("coeffs", 6), ("rhs", 7)]) cs.hc sc_is_best_pair.nd (mi_seq (me_var 0 (pv 0))) (blkOk_by (N := ["rows", "cost", "point", "worths", "nums", "den", "coeffs", "rhs", "entry"]) (sc := defScope s_is_best_pair) (by decide +kernel)) (fun _ _ _ _ _ => (mg_tup cs.hc (mgs_cons (mg_name 6 sc_is_best_pair.nd) (mgs_cons (mg_name 7 sc_is_best_pair.nd) mgs_nil)))) (fun _ _ _ _ _ => mts_nil) (fun _ _ _ _ _ => (me_var 6 (pv 6))))) (ma_cons (me_b1 call_len b_len B.len (by decide +kernel) (mr_rd 1 (pv 1))) ma_nil))) (len_cons (len_cons (len_cons (fun ρ ds h => len_nil h)))))) (mr_of (me_t1 call_tuple_of b_tup B.tuple (by decide +kernel) (mr_f (mf_lc (own := [("entry", 8)]) cs.hc sc_is_best_pair.nd (mi_seq (me_var 1 (pv 1))) (blkOk_by (N := ["rows", "cost", "point", "worths", "nums", "den", "coeffs", "rhs", "entry"]) (sc := defScope s_is_best_pair) (by decide +kernel)) (fun _ _ _ _ _ => (mg_name 8 sc_is_best_pair.nd)) (fun _ _ _ _ _ => mts_nil) (fun _ _ _ _ _ => (me_op op_mulU o_mul (mr_rd 5 (pv 5)) (mr_rd 8 (pv 8)))))))) (nomark _)) (ms_one (ms_ret me_bl)) ms_nil)
    (ms_one (ms_ret (me_cmp (op_eqD hr.units) o_eq (mr_of (me_op op_mulU o_mul (mr_of (me_calD D_dot (hr.mono (by decide)) cs.cw (ma_cons (me_var 4 (pv 4)) (ma_cons (me_of (mf_lc (own := [("coeffs", 6), ("rhs", 7)]) cs.hc sc_is_best_pair.nd (mi_seq (me_var 0 (pv 0))) (blkOk_by (N := ["rows", "cost", "point", "worths", "nums", "den", "coeffs", "rhs", "entry"]) (sc := defScope s_is_best_pair) (by decide +kernel)) (fun _ _ _ _ _ => (mg_tup cs.hc (mgs_cons (mg_name 6 sc_is_best_pair.nd) (mgs_cons (mg_name 7 sc_is_best_pair.nd) mgs_nil)))) (fun _ _ _ _ _ => mts_nil) (fun _ _ _ _ _ => (me_var 7 (pv 7))))) ma_nil)) (len_cons (len_cons (fun ρ ds h => len_nil h))))) (mr_of (me_ix ix_seq o_ix (mr_rd 2 (pv 2)) (mr_of me_int) (fun _ _ => rfl))))) (mr_of (me_op op_mulU o_mul (mr_of (me_calD D_dot (hr.mono (by decide)) cs.cw (ma_cons (me_var 1 (pv 1)) (ma_cons (me_ix ix_seq o_ix (mr_rd 2 (pv 2)) (mr_of me_int) (fun _ _ => rfl)) ma_nil)) (len_cons (len_cons (fun ρ ds h => len_nil h))))) (mr_rd 5 (pv 5)))) (nomark _))))))))
abbrev s_is_bar : Stmt := top 18
theorem sc_is_bar : FnScope ["rows", "width", "bar", "entry", "coeffs", "rhs"] ["rows", "width", "bar"] (defScope s_is_bar) := ⟨rfl, rfl, rfl, by decide +kernel, rfl, by decide +kernel, by decide +kernel⟩
theorem ok_is_bar {P : Program} {w : World} {K : Frg} {mg : Mg} {base : Heap} {f : Addr} {fd : FuncData} (F : Fun K "is_bar" "is_bar" s_is_bar f fd) (B : Bi mg) (Z : Ez K mg) {a_is_weights : Addr} {d_is_weights : FuncData} (D_is_weights : Df P w K mg base "is_weights" 3 a_is_weights d_is_weights ["value", "length"] f_is_weights) {a_weighted : Addr} {d_weighted : FuncData} (D_weighted : Df P w K mg base "weighted" 1 a_weighted d_weighted ["weights", "vectors", "width"] f_weighted) {a_dot : Addr} {d_dot : FuncData} (D_dot : Df P w K mg base "dot" 1 a_dot d_dot ["left", "right"] f_dot) : FnOk P w K mg base (L2.CX P w) 4 f fd ["rows", "width", "bar"] (spF K mg 3 f_is_bar) :=
  fn_ok F sc_is_bar fun cdv A outer s H E hr cs => (ms_cons (ms_if (mt_not (mt_tru (mr_of (me_calD D_is_weights (hr.mono (by decide)) cs.cw (ma_cons (me_var 2 (pv 2)) (ma_cons (me_b1 call_len b_len B.len (by decide +kernel) (mr_rd 0 (pv 0))) ma_nil)) (len_cons (len_cons (fun ρ ds h => len_nil h))))))) (ms_one (ms_ret me_bl)) ms_nil)
    (ms_cons (ms_if (mt_tru (mr_of (me_b1 (cr_any cs.hc) b_any B.any (by decide +kernel) (mr_f (mf_lc (own := [("entry", 3)]) cs.hc sc_is_bar.nd (mi_seq (me_calD D_weighted (hr.mono (by decide)) cs.cw (ma_cons (me_var 2 (pv 2)) (ma_cons (me_of (mf_lc (own := [("coeffs", 4), ("rhs", 5)]) cs.hc sc_is_bar.nd (mi_seq (me_var 0 (pv 0))) (blkOk_by (N := ["rows", "width", "bar", "entry", "coeffs", "rhs"]) (sc := defScope s_is_bar) (by decide +kernel)) (fun _ _ _ _ _ => (mg_tup cs.hc (mgs_cons (mg_name 4 sc_is_bar.nd) (mgs_cons (mg_name 5 sc_is_bar.nd) mgs_nil)))) (fun _ _ _ _ _ => mts_nil) (fun _ _ _ _ _ => (me_var 4 (pv 4))))) (ma_cons (me_var 1 (pv 1)) ma_nil))) (len_cons (len_cons (len_cons (fun ρ ds h => len_nil h)))))) (blkOk_by (N := ["rows", "width", "bar", "entry", "coeffs", "rhs"]) (sc := defScope s_is_bar) (by decide +kernel)) (fun _ _ _ _ _ => (mg_name 3 sc_is_bar.nd)) (fun _ _ _ _ _ => mts_nil) (fun _ _ _ _ _ => (me_cmp (op_neD hr.units) o_ne (mr_rd 3 (pv 3)) (mr_of me_int) (nomark _)))))))) (ms_one (ms_ret me_bl)) ms_nil)
    (ms_one (ms_ret (me_cmp op_gt o_gt (mr_of (me_calD D_dot (hr.mono (by decide)) cs.cw (ma_cons (me_var 2 (pv 2)) (ma_cons (me_of (mf_lc (own := [("coeffs", 4), ("rhs", 5)]) cs.hc sc_is_bar.nd (mi_seq (me_var 0 (pv 0))) (blkOk_by (N := ["rows", "width", "bar", "entry", "coeffs", "rhs"]) (sc := defScope s_is_bar) (by decide +kernel)) (fun _ _ _ _ _ => (mg_tup cs.hc (mgs_cons (mg_name 4 sc_is_bar.nd) (mgs_cons (mg_name 5 sc_is_bar.nd) mgs_nil)))) (fun _ _ _ _ _ => mts_nil) (fun _ _ _ _ _ => (me_var 5 (pv 5))))) ma_nil)) (len_cons (len_cons (fun ρ ds h => len_nil h))))) (mr_of me_int) (nomark _))))))
abbrev s_is_open : Stmt := top 19
theorem sc_is_open : FnScope ["rows", "cost", "point", "ray", "coeffs", "rhs"] ["rows", "cost", "point", "ray"] (defScope s_is_open) := ⟨rfl, rfl, rfl, by decide +kernel, rfl, by decide +kernel, by decide +kernel⟩
theorem ok_is_open {P : Program} {w : World} {K : Frg} {mg : Mg} {base : Heap} {f : Addr} {fd : FuncData} (F : Fun K "is_open" "is_open" s_is_open f fd) (B : Bi mg) (Z : Ez K mg) {a_satisfies : Addr} {d_satisfies : FuncData} (D_satisfies : Df P w K mg base "satisfies" 2 a_satisfies d_satisfies ["rows", "point"] f_satisfies) {a_is_row : Addr} {d_is_row : FuncData} (D_is_row : Df P w K mg base "is_row" 2 a_is_row d_is_row ["value", "length"] f_is_row) {a_is_point : Addr} {d_is_point : FuncData} (D_is_point : Df P w K mg base "is_point" 3 a_is_point d_is_point ["value", "length"] f_is_point) {a_dot : Addr} {d_dot : FuncData} (D_dot : Df P w K mg base "dot" 1 a_dot d_dot ["left", "right"] f_dot) : FnOk P w K mg base (L2.CX P w) 4 f fd ["rows", "cost", "point", "ray"] (spF K mg 4 f_is_open) :=
  fn_ok F sc_is_open fun cdv A outer s H E hr cs => (ms_cons (ms_if (PW.pt (mw_or (mt_not (mt_tru (mr_of (me_calD D_is_point (hr.mono (by decide)) cs.cw (ma_cons (me_var 2 (pv 2)) (ma_cons (me_b1 call_len b_len B.len (by decide +kernel) (mr_rd 1 (pv 1))) ma_nil)) (len_cons (len_cons (fun ρ ds h => len_nil h))))))) (mw_or (mt_not (mt_tru (mr_of (me_calD D_is_row (hr.mono (by decide)) cs.cw (ma_cons (me_var 3 (pv 3)) (ma_cons (me_b1 call_len b_len B.len (by decide +kernel) (mr_rd 1 (pv 1))) ma_nil)) (len_cons (len_cons (fun ρ ds h => len_nil h))))))) (mw_or1 (mt_not (mt_tru (mr_of (me_calD D_satisfies (hr.mono (by decide)) cs.cw (ma_cons (me_var 0 (pv 0)) (ma_cons (me_var 2 (pv 2)) ma_nil)) (len_cons (len_cons (fun ρ ds h => len_nil h))))))))))) (ms_one (ms_ret me_bl)) ms_nil)
    (ms_one (ms_ret (me_and (me_b1 (cr_all cs.hc) b_all B.all (by decide +kernel) (mr_f (mf_lc (own := [("coeffs", 4), ("rhs", 5)]) cs.hc sc_is_open.nd (mi_seq (me_var 0 (pv 0))) (blkOk_by (N := ["rows", "cost", "point", "ray", "coeffs", "rhs"]) (sc := defScope s_is_open) (by decide +kernel)) (fun _ _ _ _ _ => (mg_tup cs.hc (mgs_cons (mg_name 4 sc_is_open.nd) (mgs_cons (mg_name 5 sc_is_open.nd) mgs_nil)))) (fun _ _ _ _ _ => mts_nil) (fun _ _ _ _ _ => (me_cmp op_ge o_ge (mr_of (me_calD D_dot (hr.mono (by decide)) cw0 (ma_cons (me_var 4 (pv 4)) (ma_cons (me_var 3 (pv 3)) ma_nil)) (len_cons (len_cons (fun ρ ds h => len_nil h))))) (mr_of me_int) (nomark _)))))) (pe_one (me_cmp op_lt o_lt (mr_of (me_calD D_dot (hr.mono (by decide)) cs.cw (ma_cons (me_var 1 (pv 1)) (ma_cons (me_var 3 (pv 3)) ma_nil)) (len_cons (len_cons (fun ρ ds h => len_nil h))))) (mr_of me_int) (nomark _)))))))
abbrev s_is_least : Stmt := top 20
theorem sc_is_least : FnScope ["rows", "cost", "answer"] ["rows", "cost", "answer"] (defScope s_is_least) := ⟨rfl, rfl, rfl, by decide +kernel, rfl, by decide +kernel, by decide +kernel⟩
theorem ok_is_least {P : Program} {w : World} {K : Frg} {mg : Mg} {base : Heap} {f : Addr} {fd : FuncData} (F : Fun K "is_least" "is_least" s_is_least f fd) (B : Bi mg) (Z : Ez K mg) {a_has_form : Addr} {d_has_form : FuncData} (D_has_form : Df P w K mg base "has_form" 1 a_has_form d_has_form ["value", "word", "length"] f_has_form) {a_is_best_pair : Addr} {d_is_best_pair : FuncData} (D_is_best_pair : Df P w K mg base "is_best_pair" 4 a_is_best_pair d_is_best_pair ["rows", "cost", "point", "worths"] f_is_best_pair) {a_is_bar : Addr} {d_is_bar : FuncData} (D_is_bar : Df P w K mg base "is_bar" 4 a_is_bar d_is_bar ["rows", "width", "bar"] f_is_bar) {a_is_open : Addr} {d_is_open : FuncData} (D_is_open : Df P w K mg base "is_open" 4 a_is_open d_is_open ["rows", "cost", "point", "ray"] f_is_open) : FnOk P w K mg base (L2.CX P w) 5 f fd ["rows", "cost", "answer"] (spF K mg 3 f_is_least) :=
  fn_ok F sc_is_least fun cdv A outer s H E hr cs => (ms_cons (ms_if (mt_tru (mr_of (me_calD D_has_form (hr.mono (by decide)) cs.cw (ma_cons (me_var 2 (pv 2)) (ma_cons me_str (ma_cons me_int ma_nil))) (len_cons (len_cons (len_cons (fun ρ ds h => len_nil h))))))) (ms_one (ms_ret (me_calD D_is_best_pair (hr.mono (by decide)) cs.cw (ma_cons (me_var 0 (pv 0)) (ma_cons (me_var 1 (pv 1)) (ma_cons (me_ix ix_seq o_ix (mr_rd 2 (pv 2)) (mr_of me_int) (fun _ _ => rfl)) (ma_cons (me_ix ix_seq o_ix (mr_rd 2 (pv 2)) (mr_of me_int) (fun _ _ => rfl)) ma_nil)))) (len_cons (len_cons (len_cons (len_cons (fun ρ ds h => len_nil h)))))))) ms_nil)
    (ms_cons (ms_if (mt_tru (mr_of (me_calD D_has_form (hr.mono (by decide)) cs.cw (ma_cons (me_var 2 (pv 2)) (ma_cons me_str (ma_cons me_int ma_nil))) (len_cons (len_cons (len_cons (fun ρ ds h => len_nil h))))))) (ms_one (ms_ret (me_calD D_is_bar (hr.mono (by decide)) cs.cw (ma_cons (me_var 0 (pv 0)) (ma_cons (me_b1 call_len b_len B.len (by decide +kernel) (mr_rd 1 (pv 1))) (ma_cons (me_ix ix_seq o_ix (mr_rd 2 (pv 2)) (mr_of me_int) (fun _ _ => rfl)) ma_nil))) (len_cons (len_cons (len_cons (fun ρ ds h => len_nil h))))))) ms_nil)
    (ms_cons (ms_if (mt_tru (mr_of (me_calD D_has_form (hr.mono (by decide)) cs.cw (ma_cons (me_var 2 (pv 2)) (ma_cons me_str (ma_cons me_int ma_nil))) (len_cons (len_cons (len_cons (fun ρ ds h => len_nil h))))))) (ms_one (ms_ret (me_calD D_is_open (hr.mono (by decide)) cs.cw (ma_cons (me_var 0 (pv 0)) (ma_cons (me_var 1 (pv 1)) (ma_cons (me_ix ix_seq o_ix (mr_rd 2 (pv 2)) (mr_of me_int) (fun _ _ => rfl)) (ma_cons (me_ix ix_seq o_ix (mr_rd 2 (pv 2)) (mr_of me_int) (fun _ _ => rfl)) ma_nil)))) (len_cons (len_cons (len_cons (len_cons (fun ρ ds h => len_nil h)))))))) ms_nil)
    (ms_one (ms_ret me_bl)))))
abbrev s_ulaw_mix : Stmt := top 22
theorem sc_ulaw_mix : FnScope ["cell", "k", "first", "second"] ["cell", "k"] (defScope s_ulaw_mix) := ⟨rfl, rfl, rfl, by decide +kernel, rfl, by decide +kernel, by decide +kernel⟩
theorem ok_ulaw_mix {P : Program} {w : World} {K : Frg} {mg : Mg} {base : Heap} {f : Addr} {fd : FuncData} (F : Fun K "_law_mix" "_law_mix" s_ulaw_mix f fd) (B : Bi mg) (Z : Ez K mg) : FnOk P w K mg base (L2.CX P w) 1 f fd ["cell", "k"] (spF K mg 2 f_ulaw_mix) :=
  fn_ok F sc_ulaw_mix fun cdv A outer s H E hr cs => (ms_cons (ms_set 2 sc_ulaw_mix.nd (me_op op_modN o_mod (mr_of (me_t1 call_int1 b_int B.int (by decide +kernel) (mr_of (me_op op_addU o_add (mr_of (me_op op_addU o_add (mr_of (me_op op_mulU o_mul (mr_rd 0 (pv 0)) (mr_of me_int))) (mr_of (me_op op_mulU o_mul (mr_rd 1 (pv 1)) (mr_of me_int))))) (mr_of me_int))))) (mr_of me_int)))
    (ms_cons (ms_set 3 sc_ulaw_mix.nd (me_op op_modN o_mod (mr_of (me_t1 call_int1 b_int B.int (by decide +kernel) (mr_of (me_op op_addU o_add (mr_of (me_op op_addU o_add (mr_of (me_op op_mulU o_mul (mr_rd 2 (pv 2)) (mr_rd 2 (pv 2)))) (mr_of (me_op op_mulU o_mul (mr_rd 1 (pv 1)) (mr_of me_int))))) (mr_of me_int))))) (mr_of me_int)))
    (ms_one (ms_ret (me_op op_fdivU o_fdiv (mr_of (me_op op_modN o_mod (mr_of (me_t1 call_int1 b_int B.int (by decide +kernel) (mr_of (me_op op_addU o_add (mr_of (me_op op_mulU o_mul (mr_rd 3 (pv 3)) (mr_of me_int))) (mr_rd 2 (pv 2)))))) (mr_of me_int))) (mr_of me_int))))))
abbrev s_ulaw_row : Stmt := top 23
theorem sc_ulaw_row : FnScope ["script", "at", "many", "cell", "row", "rest", "k"] ["script", "at", "many"] (defScope s_ulaw_row) := ⟨rfl, rfl, rfl, by decide +kernel, rfl, by decide +kernel, by decide +kernel⟩
theorem ok_ulaw_row {P : Program} {w : World} {K : Frg} {mg : Mg} {base : Heap} {f : Addr} {fd : FuncData} (F : Fun K "_law_row" "_law_row" s_ulaw_row f fd) (B : Bi mg) (Z : Ez K mg) {a_ulaw_mix : Addr} {d_ulaw_mix : FuncData} (D_ulaw_mix : Df P w K mg base "_law_mix" 1 a_ulaw_mix d_ulaw_mix ["cell", "k"] f_ulaw_mix) : FnOk P w K mg base (L2.CX P w) 2 f fd ["script", "at", "many"] (spF K mg 3 f_ulaw_row) :=
  fn_ok F sc_ulaw_row fun cdv A outer s H E hr cs => (ms_cons (ms_set 3 sc_ulaw_row.nd (me_var 1 (pv 1)))
    (ms_cons (ms_if (mt_cmp op_lt o_lt (mr_rd 1 (pv 1)) (mr_of (me_b1 call_len b_len B.len (by decide +kernel) (mr_rd 0 (pv 0)))) (nomark _)) (ms_one (ms_set 3 sc_ulaw_row.nd (me_ix ix_seq o_ix (mr_rd 0 (pv 0)) (mr_rd 1 (pv 1)) (fun _ _ => rfl)))) (ms_one (ms_if (mt_cmp op_gt o_gt (mr_of (me_b1 call_len b_len B.len (by decide +kernel) (mr_rd 0 (pv 0)))) (mr_of me_int) (nomark _)) (ms_one (ms_set 3 sc_ulaw_row.nd (me_op op_addU o_add (mr_of (me_ix ix_seq o_ix (mr_rd 0 (pv 0)) (mr_of (me_op op_modN o_mod (mr_rd 1 (pv 1)) (mr_of (me_b1 call_len b_len B.len (by decide +kernel) (mr_rd 0 (pv 0)))))) (fun _ _ => rfl))) (mr_of (me_op op_mulU o_mul (mr_of me_int) (mr_rd 1 (pv 1))))))) ms_nil)))
    (ms_cons (ms_setO 4 sc_ulaw_row.nd (mf_lst ma_nil))
    (ms_cons (ms_set 5 sc_ulaw_row.nd (me_b1 call_abs b_abs B.abs (by decide +kernel) (mr_rd 3 (pv 3))))
    (ms_cons (ms_for cs.po cs.hc (mi_rng1 rfl B.range (ma_cons (me_var 2 (pv 2)) ma_nil)) (mg_name 6 sc_ulaw_row.nd) (ms_one (ms_if (PW.pt (mw_and (mt_cmp op_ge o_ge (mr_of (me_b1 call_abs b_abs B.abs (by decide +kernel) (mr_rd 3 (pv 3)))) (mr_of me_int) (nomark _)) (mw_and1 (mt_cmp op_gt o_gt (mr_rd 5 (pv 5)) (mr_of me_int) (nomark _))))) (ms_cons (ms_app 4 (pv 4) (me_op op_modN o_mod (mr_of (me_t1 call_int1 b_int B.int (by decide +kernel) (mr_rd 5 (pv 5)))) (mr_of me_int)))
    (ms_one (ms_set 5 sc_ulaw_row.nd (me_op op_fdivU o_fdiv (mr_rd 5 (pv 5)) (mr_of me_int))))) (ms_one (ms_app 4 (pv 4) (me_calD D_ulaw_mix (hr.mono (by decide)) cs.cw (ma_cons (me_var 3 (pv 3)) (ma_cons (me_var 6 (pv 6)) ma_nil)) (len_cons (len_cons (fun ρ ds h => len_nil h)))))))))
    (ms_one (ms_retO 4 (pv 4))))))))
abbrev s_ulaw_dot : Stmt := top 24
theorem sc_ulaw_dot : FnScope ["left", "right", "total", "k"] ["left", "right"] (defScope s_ulaw_dot) := ⟨rfl, rfl, rfl, by decide +kernel, rfl, by decide +kernel, by decide +kernel⟩
theorem ok_ulaw_dot {P : Program} {w : World} {K : Frg} {mg : Mg} {base : Heap} {f : Addr} {fd : FuncData} (F : Fun K "_law_dot" "_law_dot" s_ulaw_dot f fd) (B : Bi mg) (Z : Ez K mg) : FnOk P w K mg base (L2.CX P w) 1 f fd ["left", "right"] (spF K mg 2 f_ulaw_dot) :=
  fn_ok F sc_ulaw_dot fun cdv A outer s H E hr cs => (ms_cons (ms_set 2 sc_ulaw_dot.nd me_int)
    (ms_cons (ms_for cs.po cs.hc (mi_rng1 rfl B.range (ma_cons (me_b1 call_len b_len B.len (by decide +kernel) (mr_rd 0 (pv 0))) ma_nil)) (mg_name 3 sc_ulaw_dot.nd) (ms_one (ms_set 2 sc_ulaw_dot.nd (me_op op_addU o_add (mr_rd 2 (pv 2)) (mr_of (me_op op_mulU o_mul (mr_of (me_ix ix_seq o_ix (mr_rd 0 (pv 0)) (mr_rd 3 (pv 3)) (fun _ _ => rfl))) (mr_of (me_ix ix_seq o_ix (mr_rd 1 (pv 1)) (mr_rd 3 (pv 3)) (fun _ _ => rfl)))))))))
    (ms_one (ms_ret (me_var 2 (pv 2))))))
abbrev s_ulaw_rows : Stmt := top 25
theorem sc_ulaw_rows : FnScope ["script", "width", "many", "rows", "k", "coeffs", "cell", "num"] ["script", "width", "many"] (defScope s_ulaw_rows) := ⟨rfl, rfl, rfl, by decide +kernel, rfl, by decide +kernel, by decide +kernel⟩
theorem ok_ulaw_rows {P : Program} {w : World} {K : Frg} {mg : Mg} {base : Heap} {f : Addr} {fd : FuncData} (F : Fun K "_law_rows" "_law_rows" s_ulaw_rows f fd) (B : Bi mg) (Z : Ez K mg) {a_ulaw_row : Addr} {d_ulaw_row : FuncData} (D_ulaw_row : Df P w K mg base "_law_row" 2 a_ulaw_row d_ulaw_row ["script", "at", "many"] f_ulaw_row) : FnOk P w K mg base (L2.CX P w) 3 f fd ["script", "width", "many"] (spF K mg 3 f_ulaw_rows) :=
  fn_ok F sc_ulaw_rows fun cdv A outer s H E hr cs => (ms_cons (ms_setO 3 sc_ulaw_rows.nd (mf_lst ma_nil))
    (ms_cons (ms_for cs.po cs.hc (mi_rng1 rfl B.range (ma_cons (me_var 2 (pv 2)) ma_nil)) (mg_name 4 sc_ulaw_rows.nd) (ms_cons (ms_setLcO 5 (own := [("cell", 6)]) cs.hc sc_ulaw_rows.nd (sw_true rfl rfl rfl (by decide +kernel)) (mi_seq (me_calD D_ulaw_row (hr.mono (by decide)) cs.cw (ma_cons (me_var 0 (pv 0)) (ma_cons (me_op op_addU o_add (mr_of me_int) (mr_rd 4 (pv 4))) (ma_cons (me_var 1 (pv 1)) ma_nil))) (len_cons (len_cons (len_cons (fun ρ ds h => len_nil h)))))) (blkOk_by (N := ["script", "width", "many", "rows", "k", "coeffs", "cell", "num"]) (sc := defScope s_ulaw_rows) (by decide +kernel)) (fun _ _ _ _ _ => (mg_name 6 sc_ulaw_rows.nd)) (fun _ _ _ _ _ => mts_nil) (fun _ _ _ _ _ => (me_op op_sub o_sub (mr_of (me_op op_modN o_mod (mr_of (me_t1 call_int1 b_int B.int (by decide +kernel) (mr_rd 6 (pv 6)))) (mr_of me_int))) (mr_of me_int))))
    (ms_cons (ms_if (mt_lend 5 (mt_not (mt_tru (mr_of (me_b1 (cr_any cs.hc) b_any B.any (by decide +kernel) (mr_f (mf_lc (own := [("num", 7)]) cs.hc sc_ulaw_rows.nd (mi_seq (me_var 5 (pv 5))) (blkOk_by (N := ["script", "width", "many", "rows", "k", "coeffs", "cell", "num"]) (sc := defScope s_ulaw_rows) (by decide +kernel)) (fun _ _ _ _ _ => (mg_name 7 sc_ulaw_rows.nd)) (fun _ _ _ _ _ => mts_nil) (fun _ _ _ _ _ => (me_cmp (op_neD hr.units) o_ne (mr_rd 7 (pv 7)) (mr_of me_int) (nomark _)))))))))) (ms_one (ms_sto 5 (pv 5) (me_op op_modN o_mod (mr_rd 4 (pv 4)) (mr_rd 1 (pv 1))) me_int)) ms_nil)
    (ms_one (ms_app 3 (pv 3) (me_t1 call_tuple_of b_tup B.tuple (by decide +kernel) (mr_rd 5 (pv 5))))))))
    (ms_one (ms_retO 3 (pv 3)))))
abbrev s_ulaw_best_pair : Stmt := top 26
theorem sc_ulaw_best_pair : FnScope ["script", "width", "rows", "place", "point", "cells", "worths", "whole", "k", "worth", "room", "cost", "j", "cell"] ["script", "width", "rows", "place"] (defScope s_ulaw_best_pair) := ⟨rfl, rfl, rfl, by decide +kernel, rfl, by decide +kernel, by decide +kernel⟩
theorem ok_ulaw_best_pair {P : Program} {w : World} {K : Frg} {mg : Mg} {base : Heap} {f : Addr} {fd : FuncData} (F : Fun K "_law_best_pair" "_law_best_pair" s_ulaw_best_pair f fd) (B : Bi mg) (Z : Ez K mg) {a_ulaw_row : Addr} {d_ulaw_row : FuncData} (D_ulaw_row : Df P w K mg base "_law_row" 2 a_ulaw_row d_ulaw_row ["script", "at", "many"] f_ulaw_row) {a_ulaw_dot : Addr} {d_ulaw_dot : FuncData} (D_ulaw_dot : Df P w K mg base "_law_dot" 1 a_ulaw_dot d_ulaw_dot ["left", "right"] f_ulaw_dot) : FnOk P w K mg base (L2.CX P w) 3 f fd ["script", "width", "rows", "place"] (spF K mg 4 f_ulaw_best_pair) :=
  fn_ok F sc_ulaw_best_pair fun cdv A outer s H E hr cs => (ms_cons (ms_set 4 sc_ulaw_best_pair.nd (me_t1 call_tuple_of b_tup B.tuple (by decide +kernel) (mr_f (mf_lc (own := [("cell", 13)]) cs.hc sc_ulaw_best_pair.nd (mi_seq (me_calD D_ulaw_row (hr.mono (by decide)) cs.cw (ma_cons (me_var 0 (pv 0)) (ma_cons me_int (ma_cons (me_var 1 (pv 1)) ma_nil))) (len_cons (len_cons (len_cons (fun ρ ds h => len_nil h)))))) (blkOk_by (N := ["script", "width", "rows", "place", "point", "cells", "worths", "whole", "k", "worth", "room", "cost", "j", "cell"]) (sc := defScope s_ulaw_best_pair) (by decide +kernel)) (fun _ _ _ _ _ => (mg_name 13 sc_ulaw_best_pair.nd)) (fun _ _ _ _ _ => mts_nil) (fun _ _ _ _ _ => (me_op op_sub o_sub (mr_of (me_op op_modN o_mod (mr_of (me_t1 call_int1 b_int B.int (by decide +kernel) (mr_rd 13 (pv 13)))) (mr_of me_int))) (mr_of me_int)))))))
    (ms_cons (ms_set 5 sc_ulaw_best_pair.nd (me_calD D_ulaw_row (hr.mono (by decide)) cs.cw (ma_cons (me_var 0 (pv 0)) (ma_cons me_int (ma_cons (me_op op_mulU o_mul (mr_of me_int) (mr_of (me_b1 call_len b_len B.len (by decide +kernel) (mr_rd 2 (pv 2))))) ma_nil))) (len_cons (len_cons (len_cons (fun ρ ds h => len_nil h))))))
    (ms_cons (ms_setO 6 sc_ulaw_best_pair.nd (mf_lst ma_nil))
    (ms_cons (ms_setO 7 sc_ulaw_best_pair.nd (mf_lst ma_nil))
    (ms_cons (ms_for cs.po cs.hc (mi_rng1 rfl B.range (ma_cons (me_b1 call_len b_len B.len (by decide +kernel) (mr_rd 2 (pv 2))) ma_nil)) (mg_name 8 sc_ulaw_best_pair.nd) (ms_cons (ms_set 9 sc_ulaw_best_pair.nd me_int)
    (ms_cons (ms_set 10 sc_ulaw_best_pair.nd (me_op op_modN o_mod (mr_of (me_t1 call_int1 b_int B.int (by decide +kernel) (mr_of (me_ix ix_seq o_ix (mr_rd 5 (pv 5)) (mr_of (me_op op_mulU o_mul (mr_of me_int) (mr_rd 8 (pv 8)))) (fun _ _ => rfl))))) (mr_of me_int)))
    (ms_cons (ms_if (PW.pt (mw_or (mt_cmp (op_eqD hr.units) o_eq (mr_rd 8 (pv 8)) (mr_rd 3 (pv 3)) (nomark _)) (mw_or1 (mt_cmp (op_eqD hr.units) o_eq (mr_of (me_op op_modN o_mod (mr_of (me_t1 call_int1 b_int B.int (by decide +kernel) (mr_of (me_ix ix_seq o_ix (mr_rd 5 (pv 5)) (mr_of (me_op op_addU o_add (mr_of (me_op op_mulU o_mul (mr_of me_int) (mr_rd 8 (pv 8)))) (mr_of me_int))) (fun _ _ => rfl))))) (mr_of me_int))) (mr_of me_int) (nomark _))))) (ms_cons (ms_set 9 sc_ulaw_best_pair.nd (me_op op_addU o_add (mr_of me_int) (mr_of (me_op op_modN o_mod (mr_of (me_t1 call_int1 b_int B.int (by decide +kernel) (mr_of (me_ix ix_seq o_ix (mr_rd 5 (pv 5)) (mr_of (me_op op_mulU o_mul (mr_of me_int) (mr_rd 8 (pv 8)))) (fun _ _ => rfl))))) (mr_of me_int)))))
    (ms_one (ms_set 10 sc_ulaw_best_pair.nd me_int))) ms_nil)
    (ms_cons (ms_app 6 (pv 6) (me_var 9 (pv 9)))
    (ms_one (ms_app 7 (pv 7) (me_tup (ma_cons (me_ix ix_seq o_ix (mr_rd 2 (pv 2)) (mr_rd 8 (pv 8)) (fun _ _ => rfl)) (ma_cons (me_op op_sub o_sub (mr_of (me_calD D_ulaw_dot (hr.mono (by decide)) cs.cw (ma_cons (me_ix ix_seq o_ix (mr_rd 2 (pv 2)) (mr_rd 8 (pv 8)) (fun _ _ => rfl)) (ma_cons (me_var 4 (pv 4)) ma_nil)) (len_cons (len_cons (fun ρ ds h => len_nil h))))) (mr_rd 10 (pv 10))) ma_nil))))))))))
    (ms_cons (ms_setO 11 sc_ulaw_best_pair.nd (mf_op op_rep f_rep (mr_f (mf_lst (ma_cons me_int ma_nil))) (mr_rd 1 (pv 1))))
    (ms_cons (ms_for cs.po cs.hc (mi_rng1 rfl B.range (ma_cons (me_b1 call_len b_len B.len (by decide +kernel) (mr_rd 2 (pv 2))) ma_nil)) (mg_name 8 sc_ulaw_best_pair.nd) (ms_one (ms_for cs.po cs.hc (mi_rng1 rfl B.range (ma_cons (me_var 1 (pv 1)) ma_nil)) (mg_name 12 sc_ulaw_best_pair.nd) (ms_one (ms_sto 11 (pv 11) (me_var 12 (pv 12)) (me_op op_addU o_add (mr_of (me_ix ix_seq o_ix (mr_rd 11 (pv 11)) (mr_rd 12 (pv 12)) (fun _ _ => rfl))) (mr_of (me_op op_mulU o_mul (mr_of (me_ix ix_seq o_ix (mr_rd 6 (pv 6)) (mr_rd 8 (pv 8)) (fun _ _ => rfl))) (mr_of (me_ix ix_seq o_ix (mr_of (me_ix ix_seq o_ix (mr_rd 2 (pv 2)) (mr_rd 8 (pv 8)) (fun _ _ => rfl))) (mr_rd 12 (pv 12)) (fun _ _ => rfl)))))))))))
    (ms_frz 7 (ms_one (ms_ret (me_tup (ma_cons (me_var 4 (pv 4)) (ma_cons (me_t1 call_tuple_of b_tup B.tuple (by decide +kernel) (mr_rd 6 (pv 6))) (ma_cons (me_var 7 (pv 7)) (ma_cons (me_t1 call_tuple_of b_tup B.tuple (by decide +kernel) (mr_rd 11 (pv 11))) ma_nil)))))))))))))))
abbrev s_ulaw_change : Stmt := top 27
theorem sc_ulaw_change : FnScope ["rows", "place", "rhs"] ["rows", "place", "rhs"] (defScope s_ulaw_change) := ⟨rfl, rfl, rfl, by decide +kernel, rfl, by decide +kernel, by decide +kernel⟩
theorem ok_ulaw_change {P : Program} {w : World} {K : Frg} {mg : Mg} {base : Heap} {f : Addr} {fd : FuncData} (F : Fun K "_law_change" "_law_change" s_ulaw_change f fd) (B : Bi mg) (Z : Ez K mg) : FnOk P w K mg base (L2.CX P w) 1 f fd ["rows", "place", "rhs"] (spF K mg 3 f_ulaw_change) :=
  fn_ok F sc_ulaw_change fun cdv A outer s H E hr cs => (ms_one (ms_retF (mf_op op_cat f_cat (mr_f (mf_op op_cat f_cat (mr_of (me_sl (mr_rd 0 (pv 0)) mp_none (mp_some (me_var 1 (pv 1))))) (mr_f (mf_lst (ma_cons (me_tup (ma_cons (me_ix ix_seq o_ix (mr_of (me_ix ix_seq o_ix (mr_rd 0 (pv 0)) (mr_rd 1 (pv 1)) (fun _ _ => rfl))) (mr_of me_int) (fun _ _ => rfl)) (ma_cons (me_var 2 (pv 2)) ma_nil))) ma_nil))))) (mr_of (me_sl (mr_rd 0 (pv 0)) (mp_some (me_op op_addU o_add (mr_rd 1 (pv 1)) (mr_of me_int))) mp_none)))))
abbrev s_ulaw_best_asked : Stmt := top 28
theorem sc_ulaw_best_asked : FnScope ["script", "width", "rows", "place", "point", "worths", "whole", "cost", "good", "dearer", "bad", "k", "turned", "minus", "other", "j", "one", "two", "three", "num"] ["script", "width", "rows", "place"] (defScope s_ulaw_best_asked) := ⟨rfl, rfl, rfl, by decide +kernel, rfl, by decide +kernel, by decide +kernel⟩
theorem ok_ulaw_best_asked {P : Program} {w : World} {K : Frg} {mg : Mg} {base : Heap} {f : Addr} {fd : FuncData} (F : Fun K "_law_best_asked" "_law_best_asked" s_ulaw_best_asked f fd) (B : Bi mg) (Z : Ez K mg) {a_ulaw_best_pair : Addr} {d_ulaw_best_pair : FuncData} (D_ulaw_best_pair : Df P w K mg base "_law_best_pair" 3 a_ulaw_best_pair d_ulaw_best_pair ["script", "width", "rows", "place"] f_ulaw_best_pair) {a_is_least : Addr} {d_is_least : FuncData} (D_is_least : Df P w K mg base "is_least" 5 a_is_least d_is_least ["rows", "cost", "answer"] f_is_least) {a_ulaw_change : Addr} {d_ulaw_change : FuncData} (D_ulaw_change : Df P w K mg base "_law_change" 1 a_ulaw_change d_ulaw_change ["rows", "place", "rhs"] f_ulaw_change) {a_ulaw_dot : Addr} {d_ulaw_dot : FuncData} (D_ulaw_dot : Df P w K mg base "_law_dot" 1 a_ulaw_dot d_ulaw_dot ["left", "right"] f_ulaw_dot) : FnOk P w K mg base (L2.CX P w) 6 f fd ["script", "width", "rows", "place"] (spF K mg 4 f_ulaw_best_asked) :=
  fn_ok F sc_ulaw_best_asked fun cdv A outer s H E hr cs => (ms_cons (ms_asg (me_calD D_ulaw_best_pair (hr.mono (by decide)) cs.cw (ma_cons (me_var 0 (pv 0)) (ma_cons (me_var 1 (pv 1)) (ma_cons (me_var 2 (pv 2)) (ma_cons (me_var 3 (pv 3)) ma_nil)))) (len_cons (len_cons (len_cons (len_cons (fun ρ ds h => len_nil h)))))) (mg_tup cs.hc (mgs_cons (mg_name 4 sc_ulaw_best_asked.nd) (mgs_cons (mg_name 5 sc_ulaw_best_asked.nd) (mgs_cons (mg_name 6 sc_ulaw_best_asked.nd) (mgs_cons (mg_name 7 sc_ulaw_best_asked.nd) mgs_nil))))))
    (ms_cons (ms_set 8 sc_ulaw_best_asked.nd (me_tup (ma_cons me_str (ma_cons (me_tup (ma_cons (me_var 4 (pv 4)) (ma_cons me_int ma_nil))) (ma_cons (me_tup (ma_cons (me_var 5 (pv 5)) (ma_cons me_int ma_nil))) ma_nil)))))
    (ms_cons (ms_if (mt_cmp op_notBl o_notB (mr_of (me_calD D_is_least (hr.mono (by decide)) cs.cw (ma_cons (me_of (mf_t1 call_list_of b_lst B.list (by decide +kernel) (mr_rd 6 (pv 6)))) (ma_cons (me_var 7 (pv 7)) (ma_cons (me_var 8 (pv 8)) ma_nil))) (len_cons (len_cons (len_cons (fun ρ ds h => len_nil h)))))) (mr_of me_bl) (nomark _)) (ms_one (ms_ret me_bl)) ms_nil)
    (ms_cons (ms_set 9 sc_ulaw_best_asked.nd (me_op op_addU o_add (mr_of (me_tup (ma_cons (me_op op_addU o_add (mr_of (me_ix ix_seq o_ix (mr_rd 7 (pv 7)) (mr_of me_int) (fun _ _ => rfl))) (mr_of me_int)) ma_nil))) (mr_of (me_sl (mr_rd 7 (pv 7)) (mp_some me_int) mp_none))))
    (ms_cons (ms_setO 10 sc_ulaw_best_asked.nd (mf_lst (ma_cons (me_tup (ma_cons (me_var 6 (pv 6)) (ma_cons (me_var 9 (pv 9)) (ma_cons (me_var 8 (pv 8)) ma_nil)))) ma_nil)))
    (ms_cons (ms_app 10 (pv 10) (me_tup (ma_cons (me_calD D_ulaw_change (hr.mono (by decide)) cs.cw (ma_cons (me_var 6 (pv 6)) (ma_cons (me_var 3 (pv 3)) (ma_cons (me_op op_sub o_sub (mr_of (me_ix ix_seq o_ix (mr_of (me_ix ix_seq o_ix (mr_rd 6 (pv 6)) (mr_rd 3 (pv 3)) (fun _ _ => rfl))) (mr_of me_int) (fun _ _ => rfl))) (mr_of me_int)) ma_nil))) (len_cons (len_cons (len_cons (fun ρ ds h => len_nil h))))) (ma_cons (me_var 7 (pv 7)) (ma_cons (me_var 8 (pv 8)) ma_nil)))))
    (ms_cons (ms_for cs.po cs.hc (mi_rng1 rfl B.range (ma_cons (me_b1 call_len b_len B.len (by decide +kernel) (mr_rd 2 (pv 2))) ma_nil)) (mg_name 11 sc_ulaw_best_asked.nd) (ms_one (ms_if (mt_cmp (op_eqD hr.units) o_eq (mr_of (me_ix ix_seq o_ix (mr_rd 5 (pv 5)) (mr_rd 11 (pv 11)) (fun _ _ => rfl))) (mr_of me_int) (nomark _)) (ms_one (ms_app 10 (pv 10) (me_tup (ma_cons (me_calD D_ulaw_change (hr.mono (by decide)) cs.cw (ma_cons (me_var 6 (pv 6)) (ma_cons (me_var 11 (pv 11)) (ma_cons (me_op op_addU o_add (mr_of (me_calD D_ulaw_dot (hr.mono (by decide)) cs.cw (ma_cons (me_ix ix_seq o_ix (mr_rd 2 (pv 2)) (mr_rd 11 (pv 11)) (fun _ _ => rfl)) (ma_cons (me_var 4 (pv 4)) ma_nil)) (len_cons (len_cons (fun ρ ds h => len_nil h))))) (mr_of me_int)) ma_nil))) (len_cons (len_cons (len_cons (fun ρ ds h => len_nil h))))) (ma_cons (me_var 7 (pv 7)) (ma_cons (me_var 8 (pv 8)) ma_nil)))))) ms_nil)))
    (ms_cons (ms_set 12 sc_ulaw_best_asked.nd (me_of (mf_lst (ma_cons (me_tup (ma_cons (me_t1 call_tuple_of b_tup B.tuple (by decide +kernel) (mr_f (mf_lc (own := [("num", 19)]) cs.hc sc_ulaw_best_asked.nd (mi_seq (me_ix ix_seq o_ix (mr_rd 2 (pv 2)) (mr_rd 3 (pv 3)) (fun _ _ => rfl))) (blkOk_by (N := ["script", "width", "rows", "place", "point", "worths", "whole", "cost", "good", "dearer", "bad", "k", "turned", "minus", "other", "j", "one", "two", "three", "num"]) (sc := defScope s_ulaw_best_asked) (by decide +kernel)) (fun _ _ _ _ _ => (mg_name 19 sc_ulaw_best_asked.nd)) (fun _ _ _ _ _ => mts_nil) (fun _ _ _ _ _ => (me_un un_neg o_neg (mr_rd 19 (pv 19))))))) (ma_cons (me_un un_neg o_neg (mr_of (me_ix ix_seq o_ix (mr_of (me_ix ix_seq o_ix (mr_rd 6 (pv 6)) (mr_rd 3 (pv 3)) (fun _ _ => rfl))) (mr_of me_int) (fun _ _ => rfl)))) ma_nil))) ma_nil))))
    (ms_cons (ms_set 13 sc_ulaw_best_asked.nd (me_op op_addU o_add (mr_of (me_op op_addU o_add (mr_of (me_op op_addU o_add (mr_of (me_sl (mr_rd 5 (pv 5)) mp_none (mp_some (me_var 3 (pv 3))))) (mr_of (me_tup (ma_cons (me_un un_neg o_neg (mr_of me_int)) ma_nil))))) (mr_of (me_sl (mr_rd 5 (pv 5)) (mp_some (me_op op_addU o_add (mr_rd 3 (pv 3)) (mr_of me_int))) mp_none)))) (mr_of (me_tup (ma_cons (me_op op_addU o_add (mr_of (me_ix ix_seq o_ix (mr_rd 5 (pv 5)) (mr_rd 3 (pv 3)) (fun _ _ => rfl))) (mr_of me_int)) ma_nil)))))
    (ms_cons (ms_setLcV 14 (own := [("j", 15)]) cs.hc sc_ulaw_best_asked.nd (sw_true rfl rfl rfl (by decide +kernel)) (mi_rng1 rfl B.range (ma_cons (me_var 1 (pv 1)) ma_nil)) (blkOk_by (N := ["script", "width", "rows", "place", "point", "worths", "whole", "cost", "good", "dearer", "bad", "k", "turned", "minus", "other", "j", "one", "two", "three", "num"]) (sc := defScope s_ulaw_best_asked) (by decide +kernel)) (fun _ _ _ _ _ => (mg_name 15 sc_ulaw_best_asked.nd)) (fun _ _ _ _ _ => mts_nil) (fun _ _ _ _ _ => (me_op op_sub o_sub (mr_of (me_ix ix_seq o_ix (mr_rd 7 (pv 7)) (mr_rd 15 (pv 15)) (fun _ _ => rfl))) (mr_of (me_op op_mulU o_mul (mr_of (me_op op_addU o_add (mr_of (me_op op_mulU o_mul (mr_of me_int) (mr_of (me_ix ix_seq o_ix (mr_rd 5 (pv 5)) (mr_rd 3 (pv 3)) (fun _ _ => rfl))))) (mr_of me_int))) (mr_of (me_ix ix_seq o_ix (mr_of (me_ix ix_seq o_ix (mr_rd 2 (pv 2)) (mr_rd 3 (pv 3)) (fun _ _ => rfl))) (mr_rd 15 (pv 15)) (fun _ _ => rfl))))))))
    (ms_cons (ms_app 10 (pv 10) (me_tup (ma_cons (me_op op_addU o_add (mr_rd 6 (pv 6)) (mr_rd 12 (pv 12))) (ma_cons (me_t1 call_tuple_of b_tup B.tuple (by decide +kernel) (mr_rd 14 (pv 14))) (ma_cons (me_tup (ma_cons me_str (ma_cons (me_tup (ma_cons (me_var 4 (pv 4)) (ma_cons me_int ma_nil))) (ma_cons (me_tup (ma_cons (me_var 13 (pv 13)) (ma_cons me_int ma_nil))) ma_nil)))) ma_nil)))))
    (ms_cons (ms_app 10 (pv 10) (me_tup (ma_cons (me_var 6 (pv 6)) (ma_cons (me_var 7 (pv 7)) (ma_cons (me_tup (ma_cons me_str (ma_cons (me_tup (ma_cons (me_t1 call_tuple_of b_tup B.tuple (by decide +kernel) (mr_f (mf_lc (own := [("num", 19)]) cs.hc sc_ulaw_best_asked.nd (mi_seq (me_var 4 (pv 4))) (blkOk_by (N := ["script", "width", "rows", "place", "point", "worths", "whole", "cost", "good", "dearer", "bad", "k", "turned", "minus", "other", "j", "one", "two", "three", "num"]) (sc := defScope s_ulaw_best_asked) (by decide +kernel)) (fun _ _ _ _ _ => (mg_name 19 sc_ulaw_best_asked.nd)) (fun _ _ _ _ _ => mts_nil) (fun _ _ _ _ _ => (me_op op_mulU o_mul (mr_of me_int) (mr_rd 19 (pv 19))))))) (ma_cons me_int ma_nil))) (ma_cons (me_tup (ma_cons (me_var 5 (pv 5)) (ma_cons me_int ma_nil))) ma_nil)))) ma_nil)))))
    (ms_cons (ms_app 10 (pv 10) (me_tup (ma_cons (me_var 6 (pv 6)) (ma_cons (me_var 7 (pv 7)) (ma_cons (me_tup (ma_cons me_str (ma_cons (me_tup (ma_cons (me_op op_addU o_add (mr_rd 4 (pv 4)) (mr_of (me_tup (ma_cons me_int ma_nil)))) (ma_cons me_int ma_nil))) (ma_cons (me_tup (ma_cons (me_var 5 (pv 5)) (ma_cons me_int ma_nil))) ma_nil)))) ma_nil)))))
    (ms_cons (ms_app 10 (pv 10) (me_tup (ma_cons (me_var 6 (pv 6)) (ma_cons (me_var 7 (pv 7)) (ma_cons (me_tup (ma_cons me_str (ma_cons (me_tup (ma_cons (me_var 4 (pv 4)) (ma_cons me_int ma_nil))) (ma_cons (me_tup (ma_cons (me_var 5 (pv 5)) (ma_cons me_int ma_nil))) ma_nil)))) ma_nil)))))
    (ms_cons (ms_app 10 (pv 10) (me_tup (ma_cons (me_var 6 (pv 6)) (ma_cons (me_var 7 (pv 7)) (ma_cons (me_tup (ma_cons me_str (ma_cons (me_tup (ma_cons (me_var 4 (pv 4)) (ma_cons me_int (ma_cons me_int ma_nil)))) (ma_cons (me_tup (ma_cons (me_var 5 (pv 5)) (ma_cons me_int ma_nil))) ma_nil)))) ma_nil)))))
    (ms_cons (ms_app 10 (pv 10) (me_tup (ma_cons (me_var 6 (pv 6)) (ma_cons (me_var 7 (pv 7)) (ma_cons (me_tup (ma_cons me_str (ma_cons (me_var 4 (pv 4)) (ma_cons (me_tup (ma_cons (me_var 5 (pv 5)) (ma_cons me_int ma_nil))) ma_nil)))) ma_nil)))))
    (ms_cons (ms_app 10 (pv 10) (me_tup (ma_cons (me_var 6 (pv 6)) (ma_cons (me_var 7 (pv 7)) (ma_cons (me_tup (ma_cons me_str (ma_cons (me_tup (ma_cons (me_var 4 (pv 4)) (ma_cons me_int ma_nil))) (ma_cons (me_tup (ma_cons (me_op op_addU o_add (mr_rd 5 (pv 5)) (mr_of (me_tup (ma_cons me_int ma_nil)))) (ma_cons me_int ma_nil))) ma_nil)))) ma_nil)))))
    (ms_cons (ms_app 10 (pv 10) (me_tup (ma_cons (me_var 6 (pv 6)) (ma_cons (me_var 7 (pv 7)) (ma_cons (me_tup (ma_cons me_str (ma_cons (me_tup (ma_cons (me_var 4 (pv 4)) (ma_cons me_int ma_nil))) (ma_cons (me_tup (ma_cons (me_var 5 (pv 5)) (ma_cons me_int ma_nil))) (ma_cons me_non ma_nil))))) ma_nil)))))
    (ms_cons (ms_app 10 (pv 10) (me_tup (ma_cons (me_var 6 (pv 6)) (ma_cons (me_var 7 (pv 7)) (ma_cons (me_tup (ma_cons me_str (ma_cons (me_tup (ma_cons (me_var 4 (pv 4)) (ma_cons me_int ma_nil))) (ma_cons (me_var 5 (pv 5)) ma_nil)))) ma_nil)))))
    (ms_cons (ms_app 10 (pv 10) (me_tup (ma_cons (me_var 6 (pv 6)) (ma_cons (me_var 7 (pv 7)) (ma_cons (me_tup (ma_cons me_str (ma_cons (me_var 5 (pv 5)) ma_nil))) ma_nil)))))
    (ms_cons (ms_app 10 (pv 10) (me_tup (ma_cons (me_var 6 (pv 6)) (ma_cons (me_var 7 (pv 7)) (ma_cons me_non ma_nil)))))
    (ms_frz 10 (ms_one (ms_ret (me_not (me_b1 (cr_any cs.hc) b_any B.any (by decide +kernel) (mr_f (mf_lc (own := [("one", 16), ("two", 17), ("three", 18)]) cs.hc sc_ulaw_best_asked.nd (mi_seq (me_var 10 (pv 10))) (blkOk_by (N := ["script", "width", "rows", "place", "point", "worths", "whole", "cost", "good", "dearer", "bad", "k", "turned", "minus", "other", "j", "one", "two", "three", "num"]) (sc := defScope s_ulaw_best_asked) (by decide +kernel)) (fun _ _ _ _ _ => (mg_tup cs.hc (mgs_cons (mg_name 16 sc_ulaw_best_asked.nd) (mgs_cons (mg_name 17 sc_ulaw_best_asked.nd) (mgs_cons (mg_name 18 sc_ulaw_best_asked.nd) mgs_nil))))) (fun _ _ _ _ _ => mts_nil) (fun _ _ _ _ _ => (me_cmp op_notBl o_notB (mr_of (me_calD D_is_least (hr.mono (by decide)) cw0 (ma_cons (me_of (mf_t1 call_list_of b_lst B.list (by decide +kernel) (mr_rd 16 (pv 16)))) (ma_cons (me_var 17 (pv 17)) (ma_cons (me_var 18 (pv 18)) ma_nil))) (len_cons (len_cons (len_cons (fun ρ ds h => len_nil h)))))) (mr_of me_bl) (nomark _)))))))))))))))))))))))))))))))
abbrev s_ulaw_none_asked : Stmt := top 29
theorem sc_ulaw_none_asked : FnScope ["script", "width", "rows", "place", "cells", "right", "gap", "back", "whole", "cost", "met", "bad", "num", "cell", "one", "two"] ["script", "width", "rows", "place"] (defScope s_ulaw_none_asked) := ⟨rfl, rfl, rfl, by decide +kernel, rfl, by decide +kernel, by decide +kernel⟩
theorem ok_ulaw_none_asked {P : Program} {w : World} {K : Frg} {mg : Mg} {base : Heap} {f : Addr} {fd : FuncData} (F : Fun K "_law_none_asked" "_law_none_asked" s_ulaw_none_asked f fd) (B : Bi mg) (Z : Ez K mg) {a_ulaw_row : Addr} {d_ulaw_row : FuncData} (D_ulaw_row : Df P w K mg base "_law_row" 2 a_ulaw_row d_ulaw_row ["script", "at", "many"] f_ulaw_row) {a_is_least : Addr} {d_is_least : FuncData} (D_is_least : Df P w K mg base "is_least" 5 a_is_least d_is_least ["rows", "cost", "answer"] f_is_least) : FnOk P w K mg base (L2.CX P w) 6 f fd ["script", "width", "rows", "place"] (spF K mg 4 f_ulaw_none_asked) :=
  fn_ok F sc_ulaw_none_asked fun cdv A outer s H E hr cs => (ms_cons (ms_set 4 sc_ulaw_none_asked.nd (me_calD D_ulaw_row (hr.mono (by decide)) cs.cw (ma_cons (me_var 0 (pv 0)) (ma_cons me_int (ma_cons me_int ma_nil))) (len_cons (len_cons (len_cons (fun ρ ds h => len_nil h))))))
    (ms_cons (ms_set 5 sc_ulaw_none_asked.nd (me_op op_sub o_sub (mr_of (me_op op_modN o_mod (mr_of (me_t1 call_int1 b_int B.int (by decide +kernel) (mr_of (me_ix ix_seq o_ix (mr_rd 4 (pv 4)) (mr_of me_int) (fun _ _ => rfl))))) (mr_of me_int))) (mr_of me_int)))
    (ms_cons (ms_set 6 sc_ulaw_none_asked.nd (me_op op_addU o_add (mr_of me_int) (mr_of (me_op op_modN o_mod (mr_of (me_t1 call_int1 b_int B.int (by decide +kernel) (mr_of (me_ix ix_seq o_ix (mr_rd 4 (pv 4)) (mr_of me_int) (fun _ _ => rfl))))) (mr_of me_int)))))
    (ms_cons (ms_set 7 sc_ulaw_none_asked.nd (me_t1 call_tuple_of b_tup B.tuple (by decide +kernel) (mr_f (mf_lc (own := [("num", 12)]) cs.hc sc_ulaw_none_asked.nd (mi_seq (me_ix ix_seq o_ix (mr_rd 2 (pv 2)) (mr_rd 3 (pv 3)) (fun _ _ => rfl))) (blkOk_by (N := ["script", "width", "rows", "place", "cells", "right", "gap", "back", "whole", "cost", "met", "bad", "num", "cell", "one", "two"]) (sc := defScope s_ulaw_none_asked) (by decide +kernel)) (fun _ _ _ _ _ => (mg_name 12 sc_ulaw_none_asked.nd)) (fun _ _ _ _ _ => mts_nil) (fun _ _ _ _ _ => (me_un un_neg o_neg (mr_rd 12 (pv 12))))))))
    (ms_cons (ms_set 8 sc_ulaw_none_asked.nd (me_of (mf_lst (ma_cons (me_tup (ma_cons (me_ix ix_seq o_ix (mr_rd 2 (pv 2)) (mr_of me_int) (fun _ _ => rfl)) (ma_cons (me_un un_neg o_neg (mr_of me_int)) ma_nil))) (ma_cons (me_tup (ma_cons (me_ix ix_seq o_ix (mr_rd 2 (pv 2)) (mr_rd 3 (pv 3)) (fun _ _ => rfl)) (ma_cons (me_var 5 (pv 5)) ma_nil))) (ma_cons (me_tup (ma_cons (me_var 7 (pv 7)) (ma_cons (me_op op_sub o_sub (mr_rd 6 (pv 6)) (mr_rd 5 (pv 5))) ma_nil))) ma_nil))))))
    (ms_cons (ms_set 9 sc_ulaw_none_asked.nd (me_t1 call_tuple_of b_tup B.tuple (by decide +kernel) (mr_f (mf_lc (own := [("cell", 13)]) cs.hc sc_ulaw_none_asked.nd (mi_seq (me_calD D_ulaw_row (hr.mono (by decide)) cs.cw (ma_cons (me_var 0 (pv 0)) (ma_cons me_int (ma_cons (me_var 1 (pv 1)) ma_nil))) (len_cons (len_cons (len_cons (fun ρ ds h => len_nil h)))))) (blkOk_by (N := ["script", "width", "rows", "place", "cells", "right", "gap", "back", "whole", "cost", "met", "bad", "num", "cell", "one", "two"]) (sc := defScope s_ulaw_none_asked) (by decide +kernel)) (fun _ _ _ _ _ => (mg_name 13 sc_ulaw_none_asked.nd)) (fun _ _ _ _ _ => mts_nil) (fun _ _ _ _ _ => (me_op op_sub o_sub (mr_of (me_op op_modN o_mod (mr_of (me_t1 call_int1 b_int B.int (by decide +kernel) (mr_rd 13 (pv 13)))) (mr_of me_int))) (mr_of me_int)))))))
    (ms_cons (ms_if (mt_cmp op_notBl o_notB (mr_of (me_calD D_is_least (hr.mono (by decide)) cs.cw (ma_cons (me_of (mf_t1 call_list_of b_lst B.list (by decide +kernel) (mr_rd 8 (pv 8)))) (ma_cons (me_var 9 (pv 9)) (ma_cons (me_tup (ma_cons me_str (ma_cons (me_tup (ma_cons me_int (ma_cons me_int (ma_cons me_int ma_nil)))) ma_nil))) ma_nil))) (len_cons (len_cons (len_cons (fun ρ ds h => len_nil h)))))) (mr_of me_bl) (nomark _)) (ms_one (ms_ret me_bl)) ms_nil)
    (ms_cons (ms_set 10 sc_ulaw_none_asked.nd (me_of (mf_lst (ma_cons (me_ix ix_seq o_ix (mr_rd 8 (pv 8)) (mr_of me_int) (fun _ _ => rfl)) (ma_cons (me_ix ix_seq o_ix (mr_rd 8 (pv 8)) (mr_of me_int) (fun _ _ => rfl)) (ma_cons (me_tup (ma_cons (me_var 7 (pv 7)) (ma_cons (me_un un_neg o_neg (mr_rd 5 (pv 5))) ma_nil))) ma_nil))))))
    (ms_cons (ms_setO 11 sc_ulaw_none_asked.nd (mf_lst (ma_cons (me_tup (ma_cons (me_var 10 (pv 10)) (ma_cons (me_tup (ma_cons me_str (ma_cons (me_tup (ma_cons me_int (ma_cons me_int (ma_cons me_int ma_nil)))) ma_nil))) ma_nil))) (ma_cons (me_tup (ma_cons (me_var 8 (pv 8)) (ma_cons (me_tup (ma_cons me_str (ma_cons (me_tup (ma_cons me_int (ma_cons me_int (ma_cons me_int ma_nil)))) ma_nil))) ma_nil))) (ma_cons (me_tup (ma_cons (me_var 8 (pv 8)) (ma_cons (me_tup (ma_cons me_str (ma_cons (me_tup (ma_cons me_int (ma_cons me_int (ma_cons me_int ma_nil)))) ma_nil))) ma_nil))) ma_nil)))))
    (ms_cons (ms_app 11 (pv 11) (me_tup (ma_cons (me_of (mf_lst (ma_cons (me_ix ix_seq o_ix (mr_rd 8 (pv 8)) (mr_of me_int) (fun _ _ => rfl)) (ma_cons (me_ix ix_seq o_ix (mr_rd 8 (pv 8)) (mr_of me_int) (fun _ _ => rfl)) (ma_cons (me_tup (ma_cons (me_var 7 (pv 7)) (ma_cons (me_op op_sub o_sub (mr_of (me_un un_neg o_neg (mr_rd 5 (pv 5)))) (mr_rd 6 (pv 6))) ma_nil))) ma_nil))))) (ma_cons (me_tup (ma_cons me_str (ma_cons (me_tup (ma_cons me_int (ma_cons (me_un un_neg o_neg (mr_of me_int)) (ma_cons (me_un un_neg o_neg (mr_of me_int)) ma_nil)))) ma_nil))) ma_nil))))
    (ms_cons (ms_app 11 (pv 11) (me_tup (ma_cons (me_var 8 (pv 8)) (ma_cons (me_tup (ma_cons me_str (ma_cons (me_tup (ma_cons me_int (ma_cons me_int (ma_cons me_str ma_nil)))) ma_nil))) ma_nil))))
    (ms_cons (ms_app 11 (pv 11) (me_tup (ma_cons (me_var 8 (pv 8)) (ma_cons (me_tup (ma_cons me_str (ma_cons (me_tup (ma_cons me_int (ma_cons me_int (ma_cons me_int ma_nil)))) (ma_cons me_non ma_nil)))) ma_nil))))
    (ms_cons (ms_app 11 (pv 11) (me_tup (ma_cons (me_var 8 (pv 8)) (ma_cons (me_tup (ma_cons me_str (ma_cons (me_tup (ma_cons me_int (ma_cons me_int (ma_cons me_int (ma_cons me_int ma_nil))))) ma_nil))) ma_nil))))
    (ms_cons (ms_app 11 (pv 11) (me_tup (ma_cons (me_var 8 (pv 8)) (ma_cons (me_tup (ma_cons me_str (ma_cons (me_tup (ma_cons me_int (ma_cons me_int (ma_cons me_int ma_nil)))) ma_nil))) ma_nil))))
    (ms_frz 11 (ms_one (ms_ret (me_not (me_b1 (cr_any cs.hc) b_any B.any (by decide +kernel) (mr_f (mf_lc (own := [("one", 14), ("two", 15)]) cs.hc sc_ulaw_none_asked.nd (mi_seq (me_var 11 (pv 11))) (blkOk_by (N := ["script", "width", "rows", "place", "cells", "right", "gap", "back", "whole", "cost", "met", "bad", "num", "cell", "one", "two"]) (sc := defScope s_ulaw_none_asked) (by decide +kernel)) (fun _ _ _ _ _ => (mg_tup cs.hc (mgs_cons (mg_name 14 sc_ulaw_none_asked.nd) (mgs_cons (mg_name 15 sc_ulaw_none_asked.nd) mgs_nil)))) (fun _ _ _ _ _ => mts_nil) (fun _ _ _ _ _ => (me_cmp op_notBl o_notB (mr_of (me_calD D_is_least (hr.mono (by decide)) cw0 (ma_cons (me_of (mf_t1 call_list_of b_lst B.list (by decide +kernel) (mr_rd 14 (pv 14)))) (ma_cons (me_var 9 (pv 9)) (ma_cons (me_var 15 (pv 15)) ma_nil))) (len_cons (len_cons (len_cons (fun ρ ds h => len_nil h)))))) (mr_of me_bl) (nomark _))))))))))))))))))))))))
abbrev s_ulaw_open_asked : Stmt := top 30
theorem sc_ulaw_open_asked : FnScope ["script", "width", "rows", "place", "point", "ray", "whole", "coeffs", "cost", "good", "back", "bad", "cell", "num", "one", "two", "three"] ["script", "width", "rows", "place"] (defScope s_ulaw_open_asked) := ⟨rfl, rfl, rfl, by decide +kernel, rfl, by decide +kernel, by decide +kernel⟩
theorem ok_ulaw_open_asked {P : Program} {w : World} {K : Frg} {mg : Mg} {base : Heap} {f : Addr} {fd : FuncData} (F : Fun K "_law_open_asked" "_law_open_asked" s_ulaw_open_asked f fd) (B : Bi mg) (Z : Ez K mg) {a_ulaw_row : Addr} {d_ulaw_row : FuncData} (D_ulaw_row : Df P w K mg base "_law_row" 2 a_ulaw_row d_ulaw_row ["script", "at", "many"] f_ulaw_row) {a_ulaw_dot : Addr} {d_ulaw_dot : FuncData} (D_ulaw_dot : Df P w K mg base "_law_dot" 1 a_ulaw_dot d_ulaw_dot ["left", "right"] f_ulaw_dot) {a_is_least : Addr} {d_is_least : FuncData} (D_is_least : Df P w K mg base "is_least" 5 a_is_least d_is_least ["rows", "cost", "answer"] f_is_least) : FnOk P w K mg base (L2.CX P w) 6 f fd ["script", "width", "rows", "place"] (spF K mg 4 f_ulaw_open_asked) :=
  fn_ok F sc_ulaw_open_asked fun cdv A outer s H E hr cs => (ms_cons (ms_set 4 sc_ulaw_open_asked.nd (me_t1 call_tuple_of b_tup B.tuple (by decide +kernel) (mr_f (mf_lc (own := [("cell", 12)]) cs.hc sc_ulaw_open_asked.nd (mi_seq (me_calD D_ulaw_row (hr.mono (by decide)) cs.cw (ma_cons (me_var 0 (pv 0)) (ma_cons me_int (ma_cons (me_var 1 (pv 1)) ma_nil))) (len_cons (len_cons (len_cons (fun ρ ds h => len_nil h)))))) (blkOk_by (N := ["script", "width", "rows", "place", "point", "ray", "whole", "coeffs", "cost", "good", "back", "bad", "cell", "num", "one", "two", "three"]) (sc := defScope s_ulaw_open_asked) (by decide +kernel)) (fun _ _ _ _ _ => (mg_name 12 sc_ulaw_open_asked.nd)) (fun _ _ _ _ _ => mts_nil) (fun _ _ _ _ _ => (me_op op_sub o_sub (mr_of (me_op op_modN o_mod (mr_of (me_t1 call_int1 b_int B.int (by decide +kernel) (mr_rd 12 (pv 12)))) (mr_of me_int))) (mr_of me_int)))))))
    (ms_cons (ms_setLcO 5 (own := [("cell", 12)]) cs.hc sc_ulaw_open_asked.nd (sw_true rfl rfl rfl (by decide +kernel)) (mi_seq (me_calD D_ulaw_row (hr.mono (by decide)) cs.cw (ma_cons (me_var 0 (pv 0)) (ma_cons me_int (ma_cons (me_var 1 (pv 1)) ma_nil))) (len_cons (len_cons (len_cons (fun ρ ds h => len_nil h)))))) (blkOk_by (N := ["script", "width", "rows", "place", "point", "ray", "whole", "coeffs", "cost", "good", "back", "bad", "cell", "num", "one", "two", "three"]) (sc := defScope s_ulaw_open_asked) (by decide +kernel)) (fun _ _ _ _ _ => (mg_name 12 sc_ulaw_open_asked.nd)) (fun _ _ _ _ _ => mts_nil) (fun _ _ _ _ _ => (me_op op_sub o_sub (mr_of (me_op op_modN o_mod (mr_of (me_t1 call_int1 b_int B.int (by decide +kernel) (mr_rd 12 (pv 12)))) (mr_of me_int))) (mr_of me_int))))
    (ms_cons (ms_sto 5 (pv 5) (me_op op_modN o_mod (mr_rd 3 (pv 3)) (mr_rd 1 (pv 1))) me_int)
    (ms_cons (ms_setO 6 sc_ulaw_open_asked.nd (mf_lst ma_nil))
    (ms_cons (ms_for cs.po cs.hc (mi_seq (me_var 2 (pv 2))) (mg_name 7 sc_ulaw_open_asked.nd) (ms_frz 5 (ms_cons (ms_if (mt_cmp op_lt o_lt (mr_of (me_calD D_ulaw_dot (hr.mono (by decide)) cs.cw (ma_cons (me_var 7 (pv 7)) (ma_cons (me_var 5 (pv 5)) ma_nil)) (len_cons (len_cons (fun ρ ds h => len_nil h))))) (mr_of me_int) (nomark _)) (ms_one (ms_set 7 sc_ulaw_open_asked.nd (me_t1 call_tuple_of b_tup B.tuple (by decide +kernel) (mr_f (mf_lc (own := [("num", 13)]) cs.hc sc_ulaw_open_asked.nd (mi_seq (me_var 7 (pv 7))) (blkOk_by (N := ["script", "width", "rows", "place", "point", "ray", "whole", "coeffs", "cost", "good", "back", "bad", "cell", "num", "one", "two", "three"]) (sc := defScope s_ulaw_open_asked) (by decide +kernel)) (fun _ _ _ _ _ => (mg_name 13 sc_ulaw_open_asked.nd)) (fun _ _ _ _ _ => mts_nil) (fun _ _ _ _ _ => (me_un un_neg o_neg (mr_rd 13 (pv 13))))))))) ms_nil)
    (ms_one (ms_app 6 (pv 6) (me_tup (ma_cons (me_var 7 (pv 7)) (ma_cons (me_calD D_ulaw_dot (hr.mono (by decide)) cs.cw (ma_cons (me_var 7 (pv 7)) (ma_cons (me_var 4 (pv 4)) ma_nil)) (len_cons (len_cons (fun ρ ds h => len_nil h)))) ma_nil))))))))
    (ms_frz 5 (ms_cons (ms_set 8 sc_ulaw_open_asked.nd (me_t1 call_tuple_of b_tup B.tuple (by decide +kernel) (mr_f (mf_lc (own := [("num", 13)]) cs.hc sc_ulaw_open_asked.nd (mi_seq (me_var 5 (pv 5))) (blkOk_by (N := ["script", "width", "rows", "place", "point", "ray", "whole", "coeffs", "cost", "good", "back", "bad", "cell", "num", "one", "two", "three"]) (sc := defScope s_ulaw_open_asked) (by decide +kernel)) (fun _ _ _ _ _ => (mg_name 13 sc_ulaw_open_asked.nd)) (fun _ _ _ _ _ => mts_nil) (fun _ _ _ _ _ => (me_un un_neg o_neg (mr_rd 13 (pv 13))))))))
    (ms_cons (ms_set 9 sc_ulaw_open_asked.nd (me_tup (ma_cons me_str (ma_cons (me_tup (ma_cons (me_var 4 (pv 4)) (ma_cons me_int ma_nil))) (ma_cons (me_t1 call_tuple_of b_tup B.tuple (by decide +kernel) (mr_rd 5 (pv 5))) ma_nil)))))
    (ms_cons (ms_if (mt_cmp op_notBl o_notB (mr_of (me_calD D_is_least (hr.mono (by decide)) cs.cw (ma_cons (me_of (mf_t1 call_list_of b_lst B.list (by decide +kernel) (mr_rd 6 (pv 6)))) (ma_cons (me_var 8 (pv 8)) (ma_cons (me_var 9 (pv 9)) ma_nil))) (len_cons (len_cons (len_cons (fun ρ ds h => len_nil h)))))) (mr_of me_bl) (nomark _)) (ms_one (ms_ret me_bl)) ms_nil)
    (ms_frz 5 (ms_cons (ms_set 10 sc_ulaw_open_asked.nd (me_t1 call_tuple_of b_tup B.tuple (by decide +kernel) (mr_f (mf_lc (own := [("num", 13)]) cs.hc sc_ulaw_open_asked.nd (mi_seq (me_var 5 (pv 5))) (blkOk_by (N := ["script", "width", "rows", "place", "point", "ray", "whole", "coeffs", "cost", "good", "back", "bad", "cell", "num", "one", "two", "three"]) (sc := defScope s_ulaw_open_asked) (by decide +kernel)) (fun _ _ _ _ _ => (mg_name 13 sc_ulaw_open_asked.nd)) (fun _ _ _ _ _ => mts_nil) (fun _ _ _ _ _ => (me_un un_neg o_neg (mr_rd 13 (pv 13))))))))
    (ms_frz 6 (ms_cons (ms_setO 11 sc_ulaw_open_asked.nd (mf_lst (ma_cons (me_tup (ma_cons (me_of (mf_op op_cat f_cat (mr_rd 6 (pv 6)) (mr_f (mf_lst (ma_cons (me_tup (ma_cons (me_var 10 (pv 10)) (ma_cons (me_calD D_ulaw_dot (hr.mono (by decide)) cs.cw (ma_cons (me_var 10 (pv 10)) (ma_cons (me_var 4 (pv 4)) ma_nil)) (len_cons (len_cons (fun ρ ds h => len_nil h)))) ma_nil))) ma_nil))))) (ma_cons (me_var 8 (pv 8)) (ma_cons (me_var 9 (pv 9)) ma_nil)))) (ma_cons (me_tup (ma_cons (me_var 6 (pv 6)) (ma_cons (me_t1 call_tuple_of b_tup B.tuple (by decide +kernel) (mr_rd 5 (pv 5))) (ma_cons (me_var 9 (pv 9)) ma_nil)))) ma_nil))))
    (ms_frz 6 (ms_cons (ms_app 11 (pv 11) (me_tup (ma_cons (me_var 6 (pv 6)) (ma_cons (me_t1 call_tuple_of b_tup B.tuple (by decide +kernel) (mr_f (mf_op op_rep f_rep (mr_f (mf_lst (ma_cons me_int ma_nil))) (mr_rd 1 (pv 1))))) (ma_cons (me_var 9 (pv 9)) ma_nil)))))
    (ms_frz 5 (ms_cons (ms_app 11 (pv 11) (me_tup (ma_cons (me_of (mf_op op_cat f_cat (mr_rd 6 (pv 6)) (mr_f (mf_lst (ma_cons (me_tup (ma_cons (me_t1 call_tuple_of b_tup B.tuple (by decide +kernel) (mr_rd 5 (pv 5))) (ma_cons (me_op op_addU o_add (mr_of (me_calD D_ulaw_dot (hr.mono (by decide)) cs.cw (ma_cons (me_var 5 (pv 5)) (ma_cons (me_var 4 (pv 4)) ma_nil)) (len_cons (len_cons (fun ρ ds h => len_nil h))))) (mr_of me_int)) ma_nil))) ma_nil))))) (ma_cons (me_var 8 (pv 8)) (ma_cons (me_var 9 (pv 9)) ma_nil)))))
    (ms_frz 6 (ms_cons (ms_app 11 (pv 11) (me_tup (ma_cons (me_var 6 (pv 6)) (ma_cons (me_var 8 (pv 8)) (ma_cons (me_tup (ma_cons me_str (ma_cons (me_tup (ma_cons (me_var 4 (pv 4)) (ma_cons me_int ma_nil))) (ma_cons me_non ma_nil)))) ma_nil)))))
    (ms_frz 6 (ms_cons (ms_app 11 (pv 11) (me_tup (ma_cons (me_var 6 (pv 6)) (ma_cons (me_var 8 (pv 8)) (ma_cons (me_tup (ma_cons me_str (ma_cons (me_tup (ma_cons (me_var 4 (pv 4)) (ma_cons me_int ma_nil))) (ma_cons (me_op op_addU o_add (mr_of (me_t1 call_tuple_of b_tup B.tuple (by decide +kernel) (mr_rd 5 (pv 5)))) (mr_of (me_tup (ma_cons me_int ma_nil)))) ma_nil)))) ma_nil)))))
    (ms_frz 6 (ms_cons (ms_app 11 (pv 11) (me_tup (ma_cons (me_var 6 (pv 6)) (ma_cons (me_var 8 (pv 8)) (ma_cons (me_tup (ma_cons me_str (ma_cons (me_tup (ma_cons (me_var 4 (pv 4)) (ma_cons me_int ma_nil))) (ma_cons (me_t1 call_tuple_of b_tup B.tuple (by decide +kernel) (mr_rd 5 (pv 5))) ma_nil)))) ma_nil)))))
    (ms_frz 11 (ms_one (ms_ret (me_not (me_b1 (cr_any cs.hc) b_any B.any (by decide +kernel) (mr_f (mf_lc (own := [("one", 14), ("two", 15), ("three", 16)]) cs.hc sc_ulaw_open_asked.nd (mi_seq (me_var 11 (pv 11))) (blkOk_by (N := ["script", "width", "rows", "place", "point", "ray", "whole", "coeffs", "cost", "good", "back", "bad", "cell", "num", "one", "two", "three"]) (sc := defScope s_ulaw_open_asked) (by decide +kernel)) (fun _ _ _ _ _ => (mg_tup cs.hc (mgs_cons (mg_name 14 sc_ulaw_open_asked.nd) (mgs_cons (mg_name 15 sc_ulaw_open_asked.nd) (mgs_cons (mg_name 16 sc_ulaw_open_asked.nd) mgs_nil))))) (fun _ _ _ _ _ => mts_nil) (fun _ _ _ _ _ => (me_cmp op_notBl o_notB (mr_of (me_calD D_is_least (hr.mono (by decide)) cw0 (ma_cons (me_of (mf_t1 call_list_of b_lst B.list (by decide +kernel) (mr_rd 14 (pv 14)))) (ma_cons (me_var 15 (pv 15)) (ma_cons (me_var 16 (pv 16)) ma_nil))) (len_cons (len_cons (len_cons (fun ρ ds h => len_nil h)))))) (mr_of me_bl) (nomark _)))))))))))))))))))))))))))))))))
abbrev s_law : Stmt := top 31
theorem sc_law : FnScope ["script", "head", "width", "many", "place", "rows"] ["script"] (defScope s_law) := ⟨rfl, rfl, rfl, by decide +kernel, rfl, by decide +kernel, by decide +kernel⟩
theorem ok_law {P : Program} {w : World} {K : Frg} {mg : Mg} {base : Heap} {f : Addr} {fd : FuncData} (F : Fun K "law" "law" s_law f fd) (B : Bi mg) (Z : Ez K mg) {a_ulaw_row : Addr} {d_ulaw_row : FuncData} (D_ulaw_row : Df P w K mg base "_law_row" 2 a_ulaw_row d_ulaw_row ["script", "at", "many"] f_ulaw_row) {a_ulaw_rows : Addr} {d_ulaw_rows : FuncData} (D_ulaw_rows : Df P w K mg base "_law_rows" 3 a_ulaw_rows d_ulaw_rows ["script", "width", "many"] f_ulaw_rows) {a_ulaw_best_asked : Addr} {d_ulaw_best_asked : FuncData} (D_ulaw_best_asked : Df P w K mg base "_law_best_asked" 6 a_ulaw_best_asked d_ulaw_best_asked ["script", "width", "rows", "place"] f_ulaw_best_asked) {a_ulaw_open_asked : Addr} {d_ulaw_open_asked : FuncData} (D_ulaw_open_asked : Df P w K mg base "_law_open_asked" 6 a_ulaw_open_asked d_ulaw_open_asked ["script", "width", "rows", "place"] f_ulaw_open_asked) {a_ulaw_none_asked : Addr} {d_ulaw_none_asked : FuncData} (D_ulaw_none_asked : Df P w K mg base "_law_none_asked" 6 a_ulaw_none_asked d_ulaw_none_asked ["script", "width", "rows", "place"] f_ulaw_none_asked) : FnOk P w K mg base (L2.CX P w) 7 f fd ["script"] (spF K mg 1 f_law) :=
  fn_ok F sc_law fun cdv A outer s H E hr cs => (ms_cons (ms_set 1 sc_law.nd (me_calD D_ulaw_row (hr.mono (by decide)) cs.cw (ma_cons (me_var 0 (pv 0)) (ma_cons me_int (ma_cons me_int ma_nil))) (len_cons (len_cons (len_cons (fun ρ ds h => len_nil h))))))
    (ms_cons (ms_set 2 sc_law.nd (me_op op_addU o_add (mr_of me_int) (mr_of (me_op op_modN o_mod (mr_of (me_t1 call_int1 b_int B.int (by decide +kernel) (mr_of (me_ix ix_seq o_ix (mr_rd 1 (pv 1)) (mr_of me_int) (fun _ _ => rfl))))) (mr_of me_int)))))
    (ms_cons (ms_set 3 sc_law.nd (me_op op_addU o_add (mr_of me_int) (mr_of (me_op op_modN o_mod (mr_of (me_t1 call_int1 b_int B.int (by decide +kernel) (mr_of (me_ix ix_seq o_ix (mr_rd 1 (pv 1)) (mr_of me_int) (fun _ _ => rfl))))) (mr_of me_int)))))
    (ms_cons (ms_set 4 sc_law.nd (me_op op_modN o_mod (mr_of (me_t1 call_int1 b_int B.int (by decide +kernel) (mr_of (me_ix ix_seq o_ix (mr_rd 1 (pv 1)) (mr_of me_int) (fun _ _ => rfl))))) (mr_rd 3 (pv 3))))
    (ms_cons (ms_set 5 sc_law.nd (me_calD D_ulaw_rows (hr.mono (by decide)) cs.cw (ma_cons (me_var 0 (pv 0)) (ma_cons (me_var 2 (pv 2)) (ma_cons (me_var 3 (pv 3)) ma_nil))) (len_cons (len_cons (len_cons (fun ρ ds h => len_nil h))))))
    (ms_cons (ms_if (mt_not (mt_tru (mr_of (me_calD D_ulaw_best_asked (hr.mono (by decide)) cs.cw (ma_cons (me_var 0 (pv 0)) (ma_cons (me_var 2 (pv 2)) (ma_cons (me_var 5 (pv 5)) (ma_cons (me_var 4 (pv 4)) ma_nil)))) (len_cons (len_cons (len_cons (len_cons (fun ρ ds h => len_nil h))))))))) (ms_one (ms_ret me_bl)) ms_nil)
    (ms_one (ms_ret (me_and (me_calD D_ulaw_none_asked (hr.mono (by decide)) cs.cw (ma_cons (me_var 0 (pv 0)) (ma_cons (me_var 2 (pv 2)) (ma_cons (me_var 5 (pv 5)) (ma_cons (me_var 4 (pv 4)) ma_nil)))) (len_cons (len_cons (len_cons (len_cons (fun ρ ds h => len_nil h)))))) (pe_one (me_calD D_ulaw_open_asked (hr.mono (by decide)) cs.cw (ma_cons (me_var 0 (pv 0)) (ma_cons (me_var 2 (pv 2)) (ma_cons (me_var 5 (pv 5)) (ma_cons (me_var 4 (pv 4)) ma_nil)))) (len_cons (len_cons (len_cons (len_cons (fun ρ ds h => len_nil h))))))))))))))))
def fa : List (Frg → Bool) := [(He.Fa.glo "dot").ok,
  (He.Fa.glo "content").ok,
  (He.Fa.glo "make_point").ok,
  (He.Fa.glo "weighted").ok,
  (He.Fa.glo "is_whole").ok,
  (He.Fa.glo "is_row").ok,
  (He.Fa.glo "is_point").ok,
  (He.Fa.glo "is_weights").ok,
  (He.Fa.glo "has_form").ok,
  (He.Fa.glo "satisfies").ok,
  (He.Fa.glo "is_best_pair").ok,
  (He.Fa.glo "is_bar").ok,
  (He.Fa.glo "is_open").ok,
  (He.Fa.glo "is_least").ok,
  (He.Fa.glo "_law_mix").ok,
  (He.Fa.glo "_law_row").ok,
  (He.Fa.glo "_law_dot").ok,
  (He.Fa.glo "_law_rows").ok,
  (He.Fa.glo "_law_best_pair").ok,
  (He.Fa.glo "_law_change").ok,
  (He.Fa.glo "_law_best_asked").ok,
  (He.Fa.glo "_law_none_asked").ok,
  (He.Fa.glo "_law_open_asked").ok,
  (He.Fa.glo "law").ok,
  (He.Fa.glo "BadNumber").ok,
  (He.Fa.exc "BadNumber").ok,
  (He.Fa.free "abs").ok,
  (He.Fa.free "all").ok,
  (He.Fa.free "any").ok,
  (He.Fa.free "bool").ok,
  (fun K => He.eqO (PySem.W.nsIn K mainGlobals "gcd") (some (some (.builtin "math.gcd")))),
  (He.Fa.free "int").ok,
  (He.Fa.free "isinstance").ok,
  (He.Fa.free "len").ok,
  (He.Fa.free "list").ok,
  (He.Fa.free "range").ok,
  (He.Fa.free "sum").ok,
  (He.Fa.free "tuple").ok,
  (He.Fa.free "zip").ok]
def fn : List He.DefD := [dD "dot" s_dot, dD "content" s_content, dD "make_point" s_make_point, dD "weighted" s_weighted, dD "is_whole" s_is_whole, dD "is_row" s_is_row, dD "is_point" s_is_point, dD "is_weights" s_is_weights, dD "has_form" s_has_form, dD "satisfies" s_satisfies, dD "is_best_pair" s_is_best_pair, dD "is_bar" s_is_bar, dD "is_open" s_is_open, dD "is_least" s_is_least, dD "_law_mix" s_ulaw_mix, dD "_law_row" s_ulaw_row, dD "_law_dot" s_ulaw_dot, dD "_law_rows" s_ulaw_rows, dD "_law_best_pair" s_ulaw_best_pair, dD "_law_change" s_ulaw_change, dD "_law_best_asked" s_ulaw_best_asked, dD "_law_none_asked" s_ulaw_none_asked, dD "_law_open_asked" s_ulaw_open_asked, dD "law" s_law]
abbrev R : PySem.W.OpenRow := PySem.W.OpenLaw.row PySem.Challenge.rw_costsexplained_k05_linear_papers_judged
abbrev hk : PySem.W.Hook := hookP 5 fa fn
def ob (s : PySem.W.SharedT) : AlP := obsPG 5 fa fn (HandSHeadRun.getT s)
theorem ob_eq (s : PySem.W.SharedT) : ob s = hk.obs s.abs := obsPG_eq (HandSHeadRun.getT_eq s)
def nm0 : List Str := ["__name__", "CostsError", "BadNumber", "dot", "content", "make_point", "weighted", "is_whole", "is_row", "is_point", "is_weights", "has_form", "satisfies", "is_best_pair", "is_bar", "is_open", "is_least", "_law_mix", "_law_row", "_law_dot", "_law_rows", "_law_best_pair", "_law_change", "_law_best_asked", "_law_none_asked", "_law_open_asked"]
def loose : List Str := nm0
def qv : Program := PySem.W.view R.prog [0, 31]
theorem run (w : World) : HandSHeadRun.RunEqI R qv hk ob 100000 loose w := by
  unfold HandSHeadRun.RunEqI
  kernel_rfl
theorem lk {x y : Str} {b b' : Bool} {r : List (Str × Bool)} (h : List.lookup x ((y, b) :: r) = some b') : (x = y ∧ b' = b) ∨ List.lookup x r = some b' := by
  unfold List.lookup at h
  split at h
  · rename_i e
    exact .inl ⟨eq_of_beq e, (Option.some.inj h).symm⟩
  · exact .inr h
theorem facts (hlaw : ∀ ns : List Int, ns.length ≤ 63 → f_law [.rol (ns.map D.int)] = .ok (.bl true)) {P : Program} {w : World} {K : Frg} {h : Heap} {mg : Mg} {f : Addr} (X : K.In h) (G : h.Ns mainGlobals mg) (hfa : mg ("law" : Str) = some (.ref f)) (c : SaysP fa fn K) :
    ∃ fd : FuncData, (∀ (s : Shared) (v : Value), BindsTo s fd ⟨[v], []⟩ [("script", v)]) ∧ ∀ base : Heap, K.In base → base.Ns mainGlobals mg → FnOk P w K mg base CX0 7 f fd ["script"] (spLaw K) := by
  obtain ⟨fd_dot, F_dot⟩ := c.def_ 0 (d := dD "dot" s_dot) rfl
  obtain ⟨fd_content, F_content⟩ := c.def_ 1 (d := dD "content" s_content) rfl
  obtain ⟨fd_make_point, F_make_point⟩ := c.def_ 2 (d := dD "make_point" s_make_point) rfl
  obtain ⟨fd_weighted, F_weighted⟩ := c.def_ 3 (d := dD "weighted" s_weighted) rfl
  obtain ⟨fd_is_whole, F_is_whole⟩ := c.def_ 4 (d := dD "is_whole" s_is_whole) rfl
  obtain ⟨fd_is_row, F_is_row⟩ := c.def_ 5 (d := dD "is_row" s_is_row) rfl
  obtain ⟨fd_is_point, F_is_point⟩ := c.def_ 6 (d := dD "is_point" s_is_point) rfl
  obtain ⟨fd_is_weights, F_is_weights⟩ := c.def_ 7 (d := dD "is_weights" s_is_weights) rfl
  obtain ⟨fd_has_form, F_has_form⟩ := c.def_ 8 (d := dD "has_form" s_has_form) rfl
  obtain ⟨fd_satisfies, F_satisfies⟩ := c.def_ 9 (d := dD "satisfies" s_satisfies) rfl
  obtain ⟨fd_is_best_pair, F_is_best_pair⟩ := c.def_ 10 (d := dD "is_best_pair" s_is_best_pair) rfl
  obtain ⟨fd_is_bar, F_is_bar⟩ := c.def_ 11 (d := dD "is_bar" s_is_bar) rfl
  obtain ⟨fd_is_open, F_is_open⟩ := c.def_ 12 (d := dD "is_open" s_is_open) rfl
  obtain ⟨fd_is_least, F_is_least⟩ := c.def_ 13 (d := dD "is_least" s_is_least) rfl
  obtain ⟨fd_ulaw_mix, F_ulaw_mix⟩ := c.def_ 14 (d := dD "_law_mix" s_ulaw_mix) rfl
  obtain ⟨fd_ulaw_row, F_ulaw_row⟩ := c.def_ 15 (d := dD "_law_row" s_ulaw_row) rfl
  obtain ⟨fd_ulaw_dot, F_ulaw_dot⟩ := c.def_ 16 (d := dD "_law_dot" s_ulaw_dot) rfl
  obtain ⟨fd_ulaw_rows, F_ulaw_rows⟩ := c.def_ 17 (d := dD "_law_rows" s_ulaw_rows) rfl
  obtain ⟨fd_ulaw_best_pair, F_ulaw_best_pair⟩ := c.def_ 18 (d := dD "_law_best_pair" s_ulaw_best_pair) rfl
  obtain ⟨fd_ulaw_change, F_ulaw_change⟩ := c.def_ 19 (d := dD "_law_change" s_ulaw_change) rfl
  obtain ⟨fd_ulaw_best_asked, F_ulaw_best_asked⟩ := c.def_ 20 (d := dD "_law_best_asked" s_ulaw_best_asked) rfl
  obtain ⟨fd_ulaw_none_asked, F_ulaw_none_asked⟩ := c.def_ 21 (d := dD "_law_none_asked" s_ulaw_none_asked) rfl
  obtain ⟨fd_ulaw_open_asked, F_ulaw_open_asked⟩ := c.def_ 22 (d := dD "_law_open_asked" s_ulaw_open_asked) rfl
  obtain ⟨fd_law, F_law⟩ := c.def_ 23 (d := dD "law" s_law) rfl
  have e := hfa.symm.trans (He.glo_ok X G (c.fact 23 (f := (He.Fa.glo "law").ok) rfl))
  cases e
  have B : Bi mg := ⟨He.free_ok X G (c.fact 26 (f := (He.Fa.free "abs").ok) rfl), He.free_ok X G (c.fact 27 (f := (He.Fa.free "all").ok) rfl), He.free_ok X G (c.fact 28 (f := (He.Fa.free "any").ok) rfl), He.free_ok X G (c.fact 29 (f := (He.Fa.free "bool").ok) rfl), PySem.W.mg_of X G (He.eqO_ok (c.fact 30 rfl)), He.free_ok X G (c.fact 31 (f := (He.Fa.free "int").ok) rfl), He.free_ok X G (c.fact 32 (f := (He.Fa.free "isinstance").ok) rfl), He.free_ok X G (c.fact 33 (f := (He.Fa.free "len").ok) rfl), He.free_ok X G (c.fact 34 (f := (He.Fa.free "list").ok) rfl), He.free_ok X G (c.fact 35 (f := (He.Fa.free "range").ok) rfl), He.free_ok X G (c.fact 36 (f := (He.Fa.free "sum").ok) rfl), He.free_ok X G (c.fact 37 (f := (He.Fa.free "tuple").ok) rfl), He.free_ok X G (c.fact 38 (f := (He.Fa.free "zip").ok) rfl)⟩
  have Z : Ez K mg := ⟨excT_ok X G (c.fact 24 (f := (He.Fa.glo "BadNumber").ok) rfl) (c.fact 25 (f := (He.Fa.exc "BadNumber").ok) rfl),
    He.glo_ok X G (c.fact 24 (f := (He.Fa.glo "BadNumber").ok) rfl)⟩
  have D_dot := fun base => df_mk (P := P) (w := w) (base := base) (st := s_dot) X G F_dot (c.fact 0 (f := (He.Fa.glo "dot").ok) rfl) (F_dot.bindsN (ps := ["left", "right"]) fun _ _ _ _ _ _ us hl => match us, hl with | [_, _], _ => rfl) (ok_dot (fun_of F_dot) B Z)
  have D_content := fun base => df_mk (P := P) (w := w) (base := base) (st := s_content) X G F_content (c.fact 1 (f := (He.Fa.glo "content").ok) rfl) (F_content.bindsN (ps := ["vector"]) fun _ _ _ _ _ _ us hl => match us, hl with | [_], _ => rfl) (ok_content (fun_of F_content) B Z)
  have D_make_point := fun base => df_mk (P := P) (w := w) (base := base) (st := s_make_point) X G F_make_point (c.fact 2 (f := (He.Fa.glo "make_point").ok) rfl) (F_make_point.bindsN (ps := ["nums", "den"]) fun _ _ _ _ _ _ us hl => match us, hl with | [_, _], _ => rfl) (ok_make_point (fun_of F_make_point) B Z (D_content base))
  have D_weighted := fun base => df_mk (P := P) (w := w) (base := base) (st := s_weighted) X G F_weighted (c.fact 3 (f := (He.Fa.glo "weighted").ok) rfl) (F_weighted.bindsN (ps := ["weights", "vectors", "width"]) fun _ _ _ _ _ _ us hl => match us, hl with | [_, _, _], _ => rfl) (ok_weighted (fun_of F_weighted) B Z)
  have D_is_whole := fun base => df_mk (P := P) (w := w) (base := base) (st := s_is_whole) X G F_is_whole (c.fact 4 (f := (He.Fa.glo "is_whole").ok) rfl) (F_is_whole.bindsN (ps := ["value"]) fun _ _ _ _ _ _ us hl => match us, hl with | [_], _ => rfl) (ok_is_whole (fun_of F_is_whole) B Z)
  have D_is_row := fun base => df_mk (P := P) (w := w) (base := base) (st := s_is_row) X G F_is_row (c.fact 5 (f := (He.Fa.glo "is_row").ok) rfl) (F_is_row.bindsN (ps := ["value", "length"]) fun _ _ _ _ _ _ us hl => match us, hl with | [_, _], _ => rfl) (ok_is_row (fun_of F_is_row) B Z (D_is_whole base))
  have D_is_point := fun base => df_mk (P := P) (w := w) (base := base) (st := s_is_point) X G F_is_point (c.fact 6 (f := (He.Fa.glo "is_point").ok) rfl) (F_is_point.bindsN (ps := ["value", "length"]) fun _ _ _ _ _ _ us hl => match us, hl with | [_, _], _ => rfl) (ok_is_point (fun_of F_is_point) B Z (D_make_point base) (D_is_whole base) (D_is_row base))
  have D_is_weights := fun base => df_mk (P := P) (w := w) (base := base) (st := s_is_weights) X G F_is_weights (c.fact 7 (f := (He.Fa.glo "is_weights").ok) rfl) (F_is_weights.bindsN (ps := ["value", "length"]) fun _ _ _ _ _ _ us hl => match us, hl with | [_, _], _ => rfl) (ok_is_weights (fun_of F_is_weights) B Z (D_is_row base))
  have D_has_form := fun base => df_mk (P := P) (w := w) (base := base) (st := s_has_form) X G F_has_form (c.fact 8 (f := (He.Fa.glo "has_form").ok) rfl) (F_has_form.bindsN (ps := ["value", "word", "length"]) fun _ _ _ _ _ _ us hl => match us, hl with | [_, _, _], _ => rfl) (ok_has_form (fun_of F_has_form) B Z)
  have D_satisfies := fun base => df_mk (P := P) (w := w) (base := base) (st := s_satisfies) X G F_satisfies (c.fact 9 (f := (He.Fa.glo "satisfies").ok) rfl) (F_satisfies.bindsN (ps := ["rows", "point"]) fun _ _ _ _ _ _ us hl => match us, hl with | [_, _], _ => rfl) (ok_satisfies (fun_of F_satisfies) B Z (D_dot base))
  have D_is_best_pair := fun base => df_mk (P := P) (w := w) (base := base) (st := s_is_best_pair) X G F_is_best_pair (c.fact 10 (f := (He.Fa.glo "is_best_pair").ok) rfl) (F_is_best_pair.bindsN (ps := ["rows", "cost", "point", "worths"]) fun _ _ _ _ _ _ us hl => match us, hl with | [_, _, _, _], _ => rfl) (ok_is_best_pair (fun_of F_is_best_pair) B Z (D_is_point base) (D_satisfies base) (D_is_weights base) (D_weighted base) (D_dot base))
  have D_is_bar := fun base => df_mk (P := P) (w := w) (base := base) (st := s_is_bar) X G F_is_bar (c.fact 11 (f := (He.Fa.glo "is_bar").ok) rfl) (F_is_bar.bindsN (ps := ["rows", "width", "bar"]) fun _ _ _ _ _ _ us hl => match us, hl with | [_, _, _], _ => rfl) (ok_is_bar (fun_of F_is_bar) B Z (D_is_weights base) (D_weighted base) (D_dot base))
  have D_is_open := fun base => df_mk (P := P) (w := w) (base := base) (st := s_is_open) X G F_is_open (c.fact 12 (f := (He.Fa.glo "is_open").ok) rfl) (F_is_open.bindsN (ps := ["rows", "cost", "point", "ray"]) fun _ _ _ _ _ _ us hl => match us, hl with | [_, _, _, _], _ => rfl) (ok_is_open (fun_of F_is_open) B Z (D_satisfies base) (D_is_row base) (D_is_point base) (D_dot base))
  have D_is_least := fun base => df_mk (P := P) (w := w) (base := base) (st := s_is_least) X G F_is_least (c.fact 13 (f := (He.Fa.glo "is_least").ok) rfl) (F_is_least.bindsN (ps := ["rows", "cost", "answer"]) fun _ _ _ _ _ _ us hl => match us, hl with | [_, _, _], _ => rfl) (ok_is_least (fun_of F_is_least) B Z (D_has_form base) (D_is_best_pair base) (D_is_bar base) (D_is_open base))
  have D_ulaw_mix := fun base => df_mk (P := P) (w := w) (base := base) (st := s_ulaw_mix) X G F_ulaw_mix (c.fact 14 (f := (He.Fa.glo "_law_mix").ok) rfl) (F_ulaw_mix.bindsN (ps := ["cell", "k"]) fun _ _ _ _ _ _ us hl => match us, hl with | [_, _], _ => rfl) (ok_ulaw_mix (fun_of F_ulaw_mix) B Z)
  have D_ulaw_row := fun base => df_mk (P := P) (w := w) (base := base) (st := s_ulaw_row) X G F_ulaw_row (c.fact 15 (f := (He.Fa.glo "_law_row").ok) rfl) (F_ulaw_row.bindsN (ps := ["script", "at", "many"]) fun _ _ _ _ _ _ us hl => match us, hl with | [_, _, _], _ => rfl) (ok_ulaw_row (fun_of F_ulaw_row) B Z (D_ulaw_mix base))
  have D_ulaw_dot := fun base => df_mk (P := P) (w := w) (base := base) (st := s_ulaw_dot) X G F_ulaw_dot (c.fact 16 (f := (He.Fa.glo "_law_dot").ok) rfl) (F_ulaw_dot.bindsN (ps := ["left", "right"]) fun _ _ _ _ _ _ us hl => match us, hl with | [_, _], _ => rfl) (ok_ulaw_dot (fun_of F_ulaw_dot) B Z)
  have D_ulaw_rows := fun base => df_mk (P := P) (w := w) (base := base) (st := s_ulaw_rows) X G F_ulaw_rows (c.fact 17 (f := (He.Fa.glo "_law_rows").ok) rfl) (F_ulaw_rows.bindsN (ps := ["script", "width", "many"]) fun _ _ _ _ _ _ us hl => match us, hl with | [_, _, _], _ => rfl) (ok_ulaw_rows (fun_of F_ulaw_rows) B Z (D_ulaw_row base))
  have D_ulaw_best_pair := fun base => df_mk (P := P) (w := w) (base := base) (st := s_ulaw_best_pair) X G F_ulaw_best_pair (c.fact 18 (f := (He.Fa.glo "_law_best_pair").ok) rfl) (F_ulaw_best_pair.bindsN (ps := ["script", "width", "rows", "place"]) fun _ _ _ _ _ _ us hl => match us, hl with | [_, _, _, _], _ => rfl) (ok_ulaw_best_pair (fun_of F_ulaw_best_pair) B Z (D_ulaw_row base) (D_ulaw_dot base))
  have D_ulaw_change := fun base => df_mk (P := P) (w := w) (base := base) (st := s_ulaw_change) X G F_ulaw_change (c.fact 19 (f := (He.Fa.glo "_law_change").ok) rfl) (F_ulaw_change.bindsN (ps := ["rows", "place", "rhs"]) fun _ _ _ _ _ _ us hl => match us, hl with | [_, _, _], _ => rfl) (ok_ulaw_change (fun_of F_ulaw_change) B Z)
  have D_ulaw_best_asked := fun base => df_mk (P := P) (w := w) (base := base) (st := s_ulaw_best_asked) X G F_ulaw_best_asked (c.fact 20 (f := (He.Fa.glo "_law_best_asked").ok) rfl) (F_ulaw_best_asked.bindsN (ps := ["script", "width", "rows", "place"]) fun _ _ _ _ _ _ us hl => match us, hl with | [_, _, _, _], _ => rfl) (ok_ulaw_best_asked (fun_of F_ulaw_best_asked) B Z (D_ulaw_best_pair base) (D_is_least base) (D_ulaw_change base) (D_ulaw_dot base))
  have D_ulaw_none_asked := fun base => df_mk (P := P) (w := w) (base := base) (st := s_ulaw_none_asked) X G F_ulaw_none_asked (c.fact 21 (f := (He.Fa.glo "_law_none_asked").ok) rfl) (F_ulaw_none_asked.bindsN (ps := ["script", "width", "rows", "place"]) fun _ _ _ _ _ _ us hl => match us, hl with | [_, _, _, _], _ => rfl) (ok_ulaw_none_asked (fun_of F_ulaw_none_asked) B Z (D_ulaw_row base) (D_is_least base))
  have D_ulaw_open_asked := fun base => df_mk (P := P) (w := w) (base := base) (st := s_ulaw_open_asked) X G F_ulaw_open_asked (c.fact 22 (f := (He.Fa.glo "_law_open_asked").ok) rfl) (F_ulaw_open_asked.bindsN (ps := ["script", "width", "rows", "place"]) fun _ _ _ _ _ _ us hl => match us, hl with | [_, _, _, _], _ => rfl) (ok_ulaw_open_asked (fun_of F_ulaw_open_asked) B Z (D_ulaw_row base) (D_ulaw_dot base) (D_is_least base))
  exact ⟨fd_law, fun s v => FunD.bindsA (ps := ["script"]) F_law (fun _ _ _ _ _ _ us hl => match us, hl with | [_], _ => rfl) s [v] rfl, fun base _ _ => law_ok (ok_law (fun_of F_law) B Z (D_ulaw_row base) (D_ulaw_rows base) (D_ulaw_best_asked base) (D_ulaw_open_asked base) (D_ulaw_none_asked base)) hlaw⟩
end W_k05

open PySem PySem.W PySem.Calls PyProof.Rows
set_option maxRecDepth 100000 in
set_option maxHeartbeats 0 in
theorem PySem.Challenge.cw_costsexplained_k05_linear_papers_judged_holds : PySem.Challenge.rw_costsexplained_k05_linear_papers_judged.Holds := by
  w_on; o_law
  refine HandSHeadRun.head_imp (r := OpenLaw.row PySem.Challenge.rw_costsexplained_k05_linear_papers_judged) (q := W_k05.qv) (H := W_k05.hk) (ob := W_k05.ob) (M := 100000) (loose := W_k05.loose) (d := HandSHeadRun.topDef (OpenLaw.row PySem.Challenge.rw_costsexplained_k05_linear_papers_judged).prog 31) (kwd := []) W_k05.ob_eq
    W_k05.run (by kernel_rfl) (by kernel_rfl) (by kernel_rfl) (by rfl) (by first | assumption | decide +kernel) (by decide +kernel) ⟨rfl, rfl, rfl, rfl, rfl, by decide +kernel⟩ ?hw ?hc
  case hw => w_witness2
  case hc =>
    refine L2.walk_ofE (l := PySem.Challenge.rw_costsexplained_k05_linear_papers_judged) (n := 63) (k := 7) (x := "script") (CX := L2.CX0) rfl (by decide) (by kernel_rfl) ⟨rfl, by decide, by decide⟩ ?F (fun _ _ _ _ z => z)
    intro w mg fa h Y G hmg0
    obtain ⟨K, KX, c⟩ := Y
    have hmg : mg ("law" : PySem.Str) = some (.ref fa) := by
      have e : (HandSHeadRun.topDef (OpenLaw.row PySem.Challenge.rw_costsexplained_k05_linear_papers_judged).prog 31).name = ("law" : PySem.Str) := by kernel_rfl
      rw [← e]
      exact hmg0
    obtain ⟨fd, hb, hF⟩ := W_k05.facts M_k05.law_true (P := (PySem.Challenge.rw_costsexplained_k05_linear_papers_judged).prog) (w := w) KX G hmg c
    exact ⟨K, fd, PF.spLaw K, KX, hb, fun H a ns hl _ hS => ⟨a, ns, rfl, hS, hl, fun _ => rfl⟩, hF⟩
