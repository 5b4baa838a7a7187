import PyProof.Rows.All
import Wide.All
import OpenK.AllK
import Wide.FinOn
import HandS.ForMost
import HandS.ForExc
import HandS.Wide
import HandS.WideBits
import HandS.Gcd
import HandS.IsInst
import HandS.ExcIs
import HandS.FStr
import HandS.TupAny
import HandS.TupMul
import HandS.Deep
import HandS.SortInts
import Lean
import HandS.Defaults
import HandS.Head0
import HandS.Head1
import HandS.Head2
import HandS.Head3
import HandS.HeadEnd
import HandS.HeadHook1
import HandS.HeadHook2
import HandS.Zip
import KE.GoesMore
import KE.GoesEnum
import HandS.Style
import PySem.Challenge.RW_costsexplained_k03_reduced_bases_of_spac
set_option Elab.async false
set_option linter.all false
set_option maxRecDepth 100000
set_option maxHeartbeats 4000000
/-! # PF: a def's body read as a function on data. Data (D) are values without a heap; a heap is split in a shared part (never changed) and lists that one slot alone holds. -/
namespace PF
open PySem PySem.Spec L2

inductive D where
  | non | bl (b : Bool) | int (i : Int) | str (x : Str) | lst (xs : List D) | rol (xs : List D) | tup (xs : List D) | obj (c : Str) (ns : List Str) (vs : List D)
  | fr (xs : List D)

mutual
/-- the value v stands for the data d, in the heap H -/
inductive Rp (K : PySem.W.Frag) (mg : Str → Option Value) (H : Hp) : V → D → Prop
  | non : Rp K mg H .non .non
  | bl (b : Bool) : Rp K mg H (.bl b) (.bl b)
  | int (i : Int) : Rp K mg H (.int i) (.int i)
  | str (x : Str) : Rp K mg H (.str x) (.str x)
  | lst {a : Addr} {xs : List V} {ds : List D} : H a = some (.lst xs) → RpA K mg H xs ds → Rp K mg H (.ref a) (.lst ds)
  | rol {a : Addr} {xs : List V} {ds : List D} : SqL K H a xs → RpA K mg H xs ds → Rp K mg H (.ref a) (.rol ds)
  | tup {a : Addr} {xs : List V} {ds : List D} : SqT K H a xs → RpA K mg H xs ds → Rp K mg H (.ref a) (.tup ds)
  | obj {a C dx : Addr} {fs : List (Str × V)} {c : Str} {ns : List Str} {xs : List V} {ds : List D} : H a = some (.ins C dx fs) → mg c = some (.ref C) → fs = ns.zip xs → ns.length = xs.length → RpA K mg H xs ds → Rp K mg H (.ref a) (.obj c ns ds)
inductive RpA (K : PySem.W.Frag) (mg : Str → Option Value) (H : Hp) : List V → List D → Prop
  | nil : RpA K mg H [] []
  | cons {v : V} {vs : List V} {d : D} {ds : List D} : Rp K mg H v d → RpA K mg H vs ds → RpA K mg H (v :: vs) (d :: ds)
end

section
variable {K : PySem.W.Frag} {mg : Str → Option Value} {H H' : Hp}
theorem same_rd {a : Addr} {u : HO} (e : Same H H') (h : Rd H a u) : Rd H' a u := by
  rcases h with h | ⟨o, h⟩
  · exact .inl (e _ _ h)
  · exact .inr ⟨o, e _ _ h⟩
theorem same_l {a : Addr} {xs : List V} (e : Same H H') (h : SqL K H a xs) : SqL K H' a xs := by
  rcases h with h | h
  · exact .inl (same_rd e h)
  · exact .inr h
theorem same_t {a : Addr} {xs : List V} (e : Same H H') (h : SqT K H a xs) : SqT K H' a xs := by
  rcases h with h | h
  · exact .inl (same_rd e h)
  · exact .inr h
mutual
theorem Rp.up (e : Same H H') : ∀ (d : D) (v : V), Rp K mg H v d → Rp K mg H' v d
  | .non, _, h => by cases h; exact .non
  | .bl b, _, h => by cases h; exact .bl b
  | .int i, _, h => by cases h; exact .int i
  | .str x, _, h => by cases h; exact .str x
  | .lst ds, _, h => by
    cases h with
    | lst a b => exact .lst (e _ _ a) (RpA.up e ds _ b)
  | .rol ds, _, h => by
    cases h with
    | rol a b => exact .rol (same_l e a) (RpA.up e ds _ b)
  | .tup ds, _, h => by
    cases h with
    | tup a b => exact .tup (same_t e a) (RpA.up e ds _ b)
  | .obj c ns ds, _, h => by
    cases h with
    | obj a b c d f => exact .obj (e _ _ a) b c d (RpA.up e ds _ f)
  | .fr ds, _, h => by cases h
theorem RpA.up (e : Same H H') : ∀ (ds : List D) (vs : List V), RpA K mg H vs ds → RpA K mg H' vs ds
  | [], _, h => by cases h; exact .nil
  | d :: ds, _, h => by
    cases h with
    | cons a b => exact .cons (Rp.up e d _ a) (RpA.up e ds _ b)
end
theorem RpA.len : ∀ {vs : List V} {ds : List D}, RpA K mg H vs ds → vs.length = ds.length
  | _, _, .nil => rfl
  | _, _, .cons _ t => by simp [RpA.len t]
theorem RpA.app : ∀ {vs ws : List V} {ds es : List D}, RpA K mg H vs ds → RpA K mg H ws es → RpA K mg H (vs ++ ws) (ds ++ es)
  | _, _, _, _, .nil, s => s
  | _, _, _, _, .cons r t, s => .cons r (t.app s)
theorem RpA.get : ∀ {vs : List V} {ds : List D} {i : Nat} {d : D}, RpA K mg H vs ds → ds[i]? = some d → ∃ v, vs[i]? = some v ∧ Rp K mg H v d
  | _, _, _, _, .nil, e => by simp at e
  | _, _, 0, _, .cons r _, e => by simp at e; subst e; exact ⟨_, rfl, r⟩
  | _, _, i + 1, d, .cons _ t, e => by
    obtain ⟨v, h1, h2⟩ := RpA.get (i := i) t (by simpa using e)
    exact ⟨v, by simpa using h1, h2⟩
theorem RpA.getV : ∀ {vs : List V} {ds : List D} {i : Nat} {v : V}, RpA K mg H vs ds → vs[i]? = some v → ∃ d, ds[i]? = some d ∧ Rp K mg H v d
  | _, _, _, _, .nil, e => by simp at e
  | _, _, 0, _, .cons r _, e => by simp at e; subst e; exact ⟨_, rfl, r⟩
  | _, _, i + 1, v, .cons _ t, e => by
    obtain ⟨d, h1, h2⟩ := RpA.getV (i := i) t (by simpa using e)
    exact ⟨d, by simpa using h1, h2⟩
theorem RpA.take : ∀ {vs : List V} {ds : List D} (n : Nat), RpA K mg H vs ds → RpA K mg H (vs.take n) (ds.take n)
  | _, _, 0, _ => .nil
  | _, _, n + 1, .nil => .nil
  | _, _, n + 1, .cons r t => .cons r (t.take n)
theorem RpA.drop : ∀ {vs : List V} {ds : List D} (n : Nat), RpA K mg H vs ds → RpA K mg H (vs.drop n) (ds.drop n)
  | _, _, 0, r => r
  | _, _, n + 1, .nil => .nil
  | _, _, n + 1, .cons r t => t.drop n
theorem RpA.set {v : V} {d : D} (r : Rp K mg H v d) : ∀ {vs : List V} {ds : List D} (i : Nat), RpA K mg H vs ds → RpA K mg H (vs.set i v) (ds.set i d)
  | _, _, _, .nil => .nil
  | _, _, 0, .cons _ t => .cons r t
  | _, _, i + 1, .cons q t => .cons q (t.set r i)
theorem RpA.erase : ∀ {vs : List V} {ds : List D} (i : Nat), RpA K mg H vs ds → RpA K mg H (vs.eraseIdx i) (ds.eraseIdx i)
  | _, _, _, .nil => .nil
  | _, _, 0, .cons _ t => t
  | _, _, i + 1, .cons q t => .cons q (t.erase i)
theorem RpA.rev : ∀ {vs : List V} {ds : List D}, RpA K mg H vs ds → RpA K mg H vs.reverse ds.reverse
  | _, _, .nil => .nil
  | _, _, .cons q t => by
    rw [List.reverse_cons, List.reverse_cons]
    exact t.rev.app (.cons q .nil)
theorem RpA.ints : ∀ {vs : List V} {ns : List Int}, RpA K mg H vs (ns.map D.int) → vs = ns.map V.int
  | _, [], h => by cases h; rfl
  | _, n :: ns, h => by
    cases h with
    | cons a b => cases a; rw [RpA.ints b]; rfl
theorem RpA.bls : ∀ {vs : List V} {ns : List Bool}, RpA K mg H vs (ns.map D.bl) → vs = ns.map V.bl
  | _, [], h => by cases h; rfl
  | _, n :: ns, h => by
    cases h with
    | cons a b => cases a; rw [RpA.bls b]; rfl
theorem RpA.strs : ∀ {vs : List V} {ns : List Str}, RpA K mg H vs (ns.map D.str) → vs = ns.map V.str
  | _, [], h => by cases h; rfl
  | _, n :: ns, h => by
    cases h with
    | cons a b => cases a; rw [RpA.strs b]; rfl
theorem RpA.of_ints : ∀ (ns : List Int), RpA K mg H (ns.map V.int) (ns.map D.int)
  | [] => .nil
  | n :: ns => .cons (.int n) (RpA.of_ints ns)
theorem RpA.of_strs : ∀ (ns : List Str), RpA K mg H (ns.map V.str) (ns.map D.str)
  | [] => .nil
  | n :: ns => .cons (.str n) (RpA.of_strs ns)
end

/-! ### data as the library's data, for == -/
mutual
def D.py : D → PyData
  | .non => .none
  | .bl b => .bool b
  | .int i => .int i
  | .str x => .str x
  | .lst ds => .list (D.pyA ds)
  | .rol ds => .list (D.pyA ds)
  | .tup ds => .tuple (D.pyA ds)
  | .obj _ _ _ => .dict []
  | .fr _ => .dict []
def D.pyA : List D → List PyData
  | [] => []
  | d :: ds => d.py :: D.pyA ds
end
mutual
theorem Rp.dp {K : PySem.W.Frag} {mg : Str → Option Value} {H : Hp} : ∀ (d : D) (v : V), d.py.canLay0 = true → Rp K mg H v d → Dp K H v d.py
  | .non, _, _, h => by cases h; exact .non
  | .bl b, _, _, h => by cases h; exact .bl b
  | .int i, _, _, h => by cases h; exact .int i
  | .str x, _, _, h => by cases h; exact .str x
  | .lst ds, _, c, h => by
    cases h with
    | lst a b => exact .lst (SqL.of a) (RpA.dp ds _ (by simpa [D.py, PyData.canLay0] using c) b)
  | .rol ds, _, c, h => by
    cases h with
    | rol a b => exact .lst a (RpA.dp ds _ (by simpa [D.py, PyData.canLay0] using c) b)
  | .tup ds, _, c, h => by
    cases h with
    | tup a b => exact .tup a (RpA.dp ds _ (by simpa [D.py, PyData.canLay0] using c) b)
  | .obj c ns ds, _, c', h => by simp [D.py, PyData.canLay0] at c'
  | .fr ds, _, c', h => by cases h
theorem RpA.dp {K : PySem.W.Frag} {mg : Str → Option Value} {H : Hp} : ∀ (ds : List D) (vs : List V), PyData.canLayAll0 (D.pyA ds) = true → RpA K mg H vs ds → DpAll K H vs (D.pyA ds)
  | [], _, _, h => by cases h; exact .nil
  | d :: ds, _, c, h => by
    have c' : d.py.canLay0 = true ∧ PyData.canLayAll0 (D.pyA ds) = true := by simpa [D.pyA, PyData.canLayAll0] using c
    cases h with
    | cons a b => exact .cons (Rp.dp d _ c'.1 a) (RpA.dp ds _ c'.2 b)
end

/-! ### results -/
/-- a condition as a Bool that nothing unfolds -/
noncomputable def cb (p : Prop) : Bool := @decide p (Classical.propDecidable p)
theorem cb_t {p : Prop} (h : p) : cb p = true := @decide_eq_true p (Classical.propDecidable p) h
theorem cb_f {p : Prop} (h : ¬ p) : cb p = false := @decide_eq_false p (Classical.propDecidable p) h
theorem of_cb {p : Prop} (h : cb p = true) : p := @of_decide_eq_true p (Classical.propDecidable p) h
@[simp] theorem cb_iff {p : Prop} : (cb p = true) = p := propext ⟨of_cb, cb_t⟩
@[simp] theorem cb_nif {p : Prop} : (cb p = false) = ¬ p := propext ⟨fun h q => (by rw [cb_t q] at h; cases h), cb_f⟩
theorem cb_dec {p : Prop} [Decidable p] : cb p = decide p := by
  by_cases h : p
  · rw [cb_t h, decide_eq_true h]
  · rw [cb_f h, decide_eq_false h]
/-- a value; an exception of the class named x with its fields; or: nothing is said -/
inductive Res (α : Type) where
  | ok (a : α) | exc (x : Str) (fs : List (Str × D)) | bad
def Res.bind {α β : Type} (r : Res α) (k : α → Res β) : Res β := match r with
  | .ok a => k a
  | .exc x fs => .exc x fs
  | .bad => .bad
instance : Monad Res where
  pure := .ok
  bind := Res.bind
@[simp] theorem Res.bind_ok {α β : Type} (a : α) (k : α → Res β) : (Res.ok a).bind k = k a := rfl
@[simp] theorem Res.bind_exc {α β : Type} (x : Str) (fs : List (Str × D)) (k : α → Res β) : (Res.exc x fs).bind k = .exc x fs := rfl
@[simp] theorem Res.bind_bad {α β : Type} (k : α → Res β) : (Res.bad : Res α).bind k = .bad := rfl

/-- a slot: nothing is known; a shared value; a list that this slot alone holds -/
inductive Cell where
  | e | v (d : D) | o (ds : List D) | xc (c : Str) (fs : List (Str × D))
abbrev Sl := List Cell
abbrev Frg := PySem.W.Frag
abbrev Mg := Str → Option Value
/-- what an exception carries -/
def Xd (K : Frg) (mg : Mg) (S H : Hp) (dx : Option Addr) (fs : List (Str × D)) : Prop := match dx with
  | none => fs = []
  | some a => ∃ (ns : List Str) (xs : List V) (ds : List D), fs = ns.zip ds ∧ (ns ≠ [] ∧ ns.length = xs.length) ∧ H a = some (.xd (ns.zip xs)) ∧ RpA K mg S xs ds
theorem Xd.keep {K : Frg} {mg : Mg} {S H S' H' : Hp} {dx : Option Addr} {fs : List (Str × D)} (s : Same S S') (k : ∀ a gs, H a = some (.xd gs) → H' a = some (.xd gs)) (h : Xd K mg S H dx fs) : Xd K mg S' H' dx fs := by
  cases dx with
  | none => exact h
  | some a =>
    obtain ⟨ns, xs, ds, h1, h2, h3, h4⟩ := h
    exact ⟨ns, xs, ds, h1, h2, k _ _ h3, h4.up s ds xs⟩
/-- the exception that an except suite holds: its address, its class, its dict -/
abbrev Hx := Option (Addr × Addr × Option Addr)

/-! ### heaps that grow -/
structure Gr (S H S' H' : Hp) : Prop where
  s : Same S S'
  h : Same H H'
  i : Same S' H'
  n : ∀ a, H a ≠ none → S a = none → S' a = none
theorem Gr.refl {S H : Hp} (i : Same S H) : Gr S H S H := ⟨Same.refl _, Same.refl _, i, fun _ _ e => e⟩
theorem Gr.trans {S H S1 H1 S2 H2 : Hp} (a : Gr S H S1 H1) (b : Gr S1 H1 S2 H2) : Gr S H S2 H2 :=
  ⟨a.s.trans b.s, a.h.trans b.h, b.i, fun x h e => b.n x (fun q => by
    cases r : H x with
    | none => exact h r
    | some o => rw [a.h x o r] at q; cases q) (a.n x h e)⟩
theorem same_new {H : Hp} {p : Addr} {o : HO} (h : H p = none) : Same H (upd H p o) := fun b u e => by
  rw [upd_ne (ne_of_none e h)]; exact e
theorem same_none {S H : Hp} {p : Addr} (i : Same S H) (h : H p = none) : S p = none := by
  cases e : S p with
  | none => rfl
  | some o => rw [i p o e] at h; cases h
/-- a new shared object -/
theorem Gr.new {S H : Hp} {p : Addr} {o : HO} (i : Same S H) (h : H p = none) : Gr S H (upd S p o) (upd H p o) :=
  ⟨same_new (same_none i h), same_new h, fun b u e => by
    by_cases q : b = p
    · subst q; rw [upd_same] at e ⊢; exact e
    · rw [upd_ne q] at e ⊢; exact i b u e, fun a ha e => by
    have q : a ≠ p := fun z => ha (z ▸ h)
    rw [upd_ne q]; exact e⟩
/-- a new object that is not shared -/
theorem Gr.lay {S H : Hp} {p : Addr} {o : HO} (i : Same S H) (h : H p = none) : Gr S H S (upd H p o) :=
  ⟨Same.refl _, same_new h, i.trans (same_new h), fun _ _ e => e⟩
/-- the heap alone grows -/
theorem Gr.heap {S H H' : Hp} (i : Same S H) (h : Same H H') : Gr S H S H' := ⟨Same.refl _, h, i.trans h, fun _ _ e => e⟩

/-- the base of a def's call: the heap and its shared part at the entry -/
structure Bs where
  H0 : Hp
  S0 : Hp
structure Rel (K : PySem.W.Frag) (mg : Str → Option Value) (hx : Hx) (b : Bs) (S : Hp) (ρ : Sl) (σ : St) (H : Hp) : Prop where
  s0 : Same b.S0 S
  sh : Same S H
  h0 : Same b.H0 H
  nw : ∀ a, b.H0 a ≠ none → b.S0 a = none → S a = none
  len : ρ.length = σ.length
  val : ∀ (i : Nat) (d : D), ρ[i]? = some (.v d) → ∃ v, σ[i]? = some (some v) ∧ Rp K mg S v d
  own : ∀ (i : Nat) (ds : List D), ρ[i]? = some (.o ds) → ∃ p vs, σ[i]? = some (some (.ref p)) ∧ H p = some (.lst vs) ∧ S p = none ∧ b.H0 p = none ∧ RpA K mg S vs ds
  xc : ∀ (i : Nat) (c : Str) (fs : List (Str × D)), ρ[i]? = some (.xc c fs) → ∃ a C dx, hx = some (a, C, dx) ∧ σ[i]? = some (some (.ref a)) ∧ mg c = some (.ref C) ∧ Xd K mg S H dx fs
  apart : ∀ (i j : Nat) (ds es : List D) (p : Addr), i ≠ j → ρ[i]? = some (.o ds) → ρ[j]? = some (.o es) → σ[i]? = some (some (.ref p)) → σ[j]? = some (some (.ref p)) → False
section
variable {K : PySem.W.Frag} {mg : Str → Option Value} {hx : Hx} {b : Bs} {S H S' H' : Hp} {ρ : Sl} {σ : St}
theorem Rel.grow (R : Rel K mg hx b S ρ σ H) (g : Gr S H S' H') : Rel K mg hx b S' ρ σ H' where
  s0 := R.s0.trans g.s
  sh := g.i
  h0 := R.h0.trans g.h
  nw := fun a h e => g.n a (fun q => by
    cases r : b.H0 a with
    | none => exact h r
    | some o => rw [R.h0 a o r] at q; cases q) (R.nw a h e)
  len := R.len
  val := fun i d e => let ⟨v, h1, h2⟩ := R.val i d e; ⟨v, h1, h2.up g.s d v⟩
  own := fun i ds e => let ⟨p, vs, h1, h2, h3, h4, h5⟩ := R.own i ds e
    ⟨p, vs, h1, g.h _ _ h2, g.n p (by rw [h2]; simp) h3, h4, h5.up g.s ds vs⟩
  xc := fun i c fs e => let ⟨a, C, dx, h1, h2, h3, h4⟩ := R.xc i c fs e; ⟨a, C, dx, h1, h2, h3, h4.keep g.s fun _ _ q => g.h _ _ q⟩
  apart := R.apart
theorem getset {α : Type} {l : List α} {i j : Nat} {x y : α} (h : (l.set i x)[j]? = some y) : (i = j ∧ x = y ∧ j < l.length) ∨ (i ≠ j ∧ l[j]? = some y) := by
  by_cases e : i = j
  · subst e
    rw [List.getElem?_set] at h
    simp only [if_true] at h
    split at h
    · rename_i q; exact .inl ⟨rfl, Option.some.inj h, q⟩
    · cases h
  · rw [List.getElem?_set_ne e] at h
    exact .inr ⟨e, h⟩
/-- a slot gets a shared value -/
theorem Rel.put (R : Rel K mg hx b S ρ σ H) {i : Nat} {v : V} {d : D} (r : Rp K mg S v d) : Rel K mg hx b S (ρ.set i (.v d)) (σ.set i (some v)) H where
  s0 := R.s0
  sh := R.sh
  h0 := R.h0
  nw := R.nw
  len := by simp [R.len]
  val := fun j d' e => by
    rcases getset e with ⟨rfl, h2, h3⟩ | ⟨h1, h2⟩
    · cases h2
      exact ⟨v, by rw [List.getElem?_set_self (by rw [← R.len]; exact h3)], r⟩
    · obtain ⟨v', h3, h4⟩ := R.val j d' h2
      exact ⟨v', by rw [List.getElem?_set_ne h1]; exact h3, h4⟩
  own := fun j ds e => by
    rcases getset e with ⟨rfl, h2, h3⟩ | ⟨h1, h2⟩
    · cases h2
    · obtain ⟨p, vs, h3, h4⟩ := R.own j ds h2
      exact ⟨p, vs, by rw [List.getElem?_set_ne h1]; exact h3, h4⟩
  xc := fun j c fs e => by
    rcases getset e with ⟨_, h2, _⟩ | ⟨h1, h2⟩
    · cases h2
    · obtain ⟨a, C, dx, q1, q2, q3⟩ := R.xc j c fs h2
      exact ⟨a, C, dx, q1, by rw [List.getElem?_set_ne h1]; exact q2, q3⟩
  apart := fun j k ds es p ne e1 e2 e3 e4 => by
    rcases getset e1 with ⟨_, h2, _⟩ | ⟨h1, h2⟩
    · cases h2
    · rcases getset e2 with ⟨_, h4, _⟩ | ⟨h3, h4⟩
      · cases h4
      · rw [List.getElem?_set_ne h1] at e3
        rw [List.getElem?_set_ne h3] at e4
        exact R.apart j k ds es p ne h2 h4 e3 e4
/-- a slot gets a new list of its own -/
theorem Rel.putO (R : Rel K mg hx b S ρ σ H) {i : Nat} {p : Addr} {vs : List V} {ds : List D} (h : H p = some (.lst vs)) (hs : S p = none) (h0 : b.H0 p = none) (hn : ∀ (j : Nat) (es : List D), ρ[j]? = some (.o es) → σ[j]? ≠ some (some (.ref p))) (r : RpA K mg S vs ds) : Rel K mg hx b S (ρ.set i (.o ds)) (σ.set i (some (.ref p))) H where
  s0 := R.s0
  sh := R.sh
  h0 := R.h0
  nw := R.nw
  len := by simp [R.len]
  val := fun j d' e => by
    rcases getset e with ⟨rfl, h2, h3⟩ | ⟨h1, h2⟩
    · cases h2
    · obtain ⟨v', h3, h4⟩ := R.val j d' h2
      exact ⟨v', by rw [List.getElem?_set_ne h1]; exact h3, h4⟩
  own := fun j es e => by
    rcases getset e with ⟨rfl, h2, h3⟩ | ⟨h1, h2⟩
    · cases h2
      exact ⟨p, vs, by rw [List.getElem?_set_self (by rw [← R.len]; exact h3)], h, hs, h0, r⟩
    · obtain ⟨p, vs, h3, h4⟩ := R.own j es h2
      exact ⟨p, vs, by rw [List.getElem?_set_ne h1]; exact h3, h4⟩
  xc := fun j c fs e => by
    rcases getset e with ⟨_, h2, _⟩ | ⟨h1, h2⟩
    · cases h2
    · obtain ⟨a, C, dx, q1, q2, q3⟩ := R.xc j c fs h2
      exact ⟨a, C, dx, q1, by rw [List.getElem?_set_ne h1]; exact q2, q3⟩
  apart := fun j k ds es q ne e1 e2 e3 e4 => by
    rcases getset e1 with ⟨j1, _, h3⟩ | ⟨h1, h2⟩
    · rcases getset e2 with ⟨k1, _, _⟩ | ⟨h4, h5⟩
      · exact ne (j1.symm.trans k1)
      · subst j1
        rw [List.getElem?_set_self (by rw [← R.len]; exact h3)] at e3
        rw [List.getElem?_set_ne h4] at e4
        cases e3
        exact hn k es h5 e4
    · rw [List.getElem?_set_ne h1] at e3
      rcases getset e2 with ⟨k1, _, h3⟩ | ⟨h4, h5⟩
      · subst k1
        rw [List.getElem?_set_self (by rw [← R.len]; exact h3)] at e4
        cases e4
        exact hn j ds h2 e3
      · rw [List.getElem?_set_ne h4] at e4
        exact R.apart j k ds es q ne h2 h5 e3 e4
/-- nothing is known of a slot any more -/
theorem Rel.wipe1 (R : Rel K mg hx b S ρ σ H) {i : Nat} {x : Option V} : Rel K mg hx b S (ρ.set i .e) (σ.set i x) H where
  s0 := R.s0
  sh := R.sh
  h0 := R.h0
  nw := R.nw
  len := by simp [R.len]
  val := fun j d' e => by
    rcases getset e with ⟨_, h2, _⟩ | ⟨h1, h2⟩
    · cases h2
    · obtain ⟨v', h3, h4⟩ := R.val j d' h2
      exact ⟨v', by rw [List.getElem?_set_ne h1]; exact h3, h4⟩
  own := fun j ds e => by
    rcases getset e with ⟨_, h2, _⟩ | ⟨h1, h2⟩
    · cases h2
    · obtain ⟨p, vs, h3, h4⟩ := R.own j ds h2
      exact ⟨p, vs, by rw [List.getElem?_set_ne h1]; exact h3, h4⟩
  xc := fun j c fs e => by
    rcases getset e with ⟨_, h2, _⟩ | ⟨h1, h2⟩
    · cases h2
    · obtain ⟨a, C, dx, q1, q2, q3⟩ := R.xc j c fs h2
      exact ⟨a, C, dx, q1, by rw [List.getElem?_set_ne h1]; exact q2, q3⟩
  apart := fun j k ds es p ne e1 e2 e3 e4 => by
    rcases getset e1 with ⟨_, h2, _⟩ | ⟨h1, h2⟩
    · cases h2
    · rcases getset e2 with ⟨_, h4, _⟩ | ⟨h3, h4⟩
      · cases h4
      · rw [List.getElem?_set_ne h1] at e3
        rw [List.getElem?_set_ne h3] at e4
        exact R.apart j k ds es p ne h2 h4 e3 e4
/-- the list of slot i is changed in its place -/
theorem Rel.mut (R : Rel K mg hx b S ρ σ H) {i : Nat} {p : Addr} {vs : List V} {ds ds' : List D} (e : ρ[i]? = some (.o ds)) (es : σ[i]? = some (some (.ref p))) (r : RpA K mg S vs ds') : Rel K mg hx b S (ρ.set i (.o ds')) σ (upd H p (.lst vs)) := by
  obtain ⟨p', vs', q1, q2, q3, q4, q5⟩ := R.own i ds e
  rw [es] at q1
  cases q1
  have il : i < ρ.length := (List.getElem?_eq_some_iff.mp e).1
  refine ⟨R.s0, fun a o h => ?_, fun a o h => ?_, R.nw, by simp [R.len], fun j d' e' => ?_, fun j es' e' => ?_, fun j c fs e' => ?_, fun j k ds1 es1 q ne e1 e2 e3 e4 => ?_⟩
  · rw [upd_ne (fun z => by rw [z, q3] at h; cases h)]; exact R.sh a o h
  · rw [upd_ne (fun z => by rw [z, q4] at h; cases h)]; exact R.h0 a o h
  · rcases getset e' with ⟨_, h2, _⟩ | ⟨h1, h2⟩
    · cases h2
    · exact R.val j d' h2
  · rcases getset e' with ⟨rfl, h2, _⟩ | ⟨h1, h2⟩
    · cases h2
      exact ⟨p, vs, es, upd_same, q3, q4, r⟩
    · obtain ⟨p2, vs2, h3, h4, h5⟩ := R.own j es' h2
      refine ⟨p2, vs2, h3, ?_, h5⟩
      rw [upd_ne (fun z => by subst z; exact R.apart i j ds es' p2 h1 e h2 es h3)]
      exact h4
  · rcases getset e' with ⟨_, h2, _⟩ | ⟨h1, h2⟩
    · cases h2
    · obtain ⟨a, C, dx, z1, z2, z3, z4⟩ := R.xc j c fs h2
      exact ⟨a, C, dx, z1, z2, z3, z4.keep (Same.refl _) fun d gs z => by rw [upd_ne (fun w => by rw [w, q2] at z; cases z)]; exact z⟩
  · have old : ∀ (m : Nat) (ms : List D), (ρ.set i (.o ds'))[m]? = some (.o ms) → ∃ ms' : List D, ρ[m]? = some (.o ms') := fun m ms z => by
      rcases getset z with ⟨rfl, _, _⟩ | ⟨_, h2⟩
      · exact ⟨ds, e⟩
      · exact ⟨ms, h2⟩
    obtain ⟨a1, b1⟩ := old j ds1 e1
    obtain ⟨a2, b2⟩ := old k es1 e2
    exact R.apart j k a1 a2 q ne b1 b2 e3 e4
/-- the list of slot i is shared from now on -/
theorem Rel.freeze (R : Rel K mg hx b S ρ σ H) {i : Nat} {ds : List D} (e : ρ[i]? = some (.o ds)) : ∃ S', Same S S' ∧ Rel K mg hx b S' (ρ.set i (.v (.lst ds))) σ H := by
  obtain ⟨p, vs, q1, q2, q3, q4, q5⟩ := R.own i ds e
  have up : Same S (upd S p (.lst vs)) := same_new q3
  refine ⟨upd S p (.lst vs), up, R.s0.trans up, fun a o h => ?_, R.h0, fun a h e' => ?_, by simp [R.len], fun j d' e' => ?_, fun j es' e' => ?_, fun j c fs e' => ?_, fun j k ds1 es1 q ne e1 e2 e3 e4 => ?_⟩
  · by_cases z : a = p
    · subst z; rw [upd_same] at h; cases h; exact q2
    · rw [upd_ne z] at h; exact R.sh a o h
  · rw [upd_ne (fun z => by rw [z] at h; exact h q4)]
    exact R.nw a h e'
  · rcases getset e' with ⟨rfl, h2, _⟩ | ⟨h1, h2⟩
    · cases h2
      exact ⟨_, q1, .lst upd_same (q5.up up ds vs)⟩
    · obtain ⟨v', h3, h4⟩ := R.val j d' h2
      exact ⟨v', h3, h4.up up _ _⟩
  · rcases getset e' with ⟨_, h2, _⟩ | ⟨h1, h2⟩
    · cases h2
    · obtain ⟨p2, vs2, h3, h4, h5, h6, h7⟩ := R.own j es' h2
      refine ⟨p2, vs2, h3, h4, ?_, h6, h7.up up _ _⟩
      rw [upd_ne (fun z => by subst z; exact R.apart i j ds es' p2 h1 e h2 q1 h3)]
      exact h5
  · rcases getset e' with ⟨_, h2, _⟩ | ⟨h1, h2⟩
    · cases h2
    · obtain ⟨a, C, dx, z1, z2, z3, z4⟩ := R.xc j c fs h2
      exact ⟨a, C, dx, z1, z2, z3, z4.keep up fun _ _ z => z⟩
  · rcases getset e1 with ⟨_, h2, _⟩ | ⟨h1, h2⟩
    · cases h2
    · rcases getset e2 with ⟨_, h4, _⟩ | ⟨h3, h4⟩
      · cases h4
      · exact R.apart j k ds1 es1 q ne h2 h4 e3 e4
end
end PF

set_option Elab.async false
set_option linter.all false
set_option maxRecDepth 100000
set_option maxHeartbeats 4000000
namespace PF
open PySem PySem.Spec L2

abbrev RR (α β : Type) := Hp → Hp → Hp → α → β → Prop
def Po {α β : Type} (K : Frg) (mg : Mg) (R : RR α β) (W : WX) (S : Hp) (σ : L2.St) (H : Hp) (r : Res β) (Q : α → Hp → Prop) : Prop := match r with
  | .ok d => ∀ v S' H', Gr S H S' H' → R H S' H' v d → Q v H'
  | .exc x fs => ∀ S' H' C dx, Gr S H S' H' → mg x = some (.ref C) → Xd K mg S' H' dx fs → W (.ref C) dx σ H'
  | .bad => False
abbrev rrE (K : Frg) (mg : Mg) : RR V D := fun _ S _ v d => Rp K mg S v d
abbrev rrA (K : Frg) (mg : Mg) : RR (List V) (List D) := fun _ S _ v d => RpA K mg S v d
abbrev rrT : RR Bool Bool := fun _ _ _ b c => b = c
/-- an operand that is only read: a list may be a slot's own -/
def Rd1 (K : Frg) (mg : Mg) (S H : Hp) (v : V) (d : D) : Prop := match d with
  | .lst ds => ∃ (p : Addr) (vs : List V), v = .ref p ∧ H p = some (.lst vs) ∧ RpA K mg S vs ds
  | d => Rp K mg S v d
abbrev rrR (K : Frg) (mg : Mg) : RR V D := fun _ S H v d => Rd1 K mg S H v d
/-- a new list that nobody else holds -/
abbrev rrF (K : Frg) (mg : Mg) : RR V (List D) := fun H0 S H v ds => ∃ (p : Addr) (vs : List V), v = .ref p ∧ H0 p = none ∧ S p = none ∧ H p = some (.lst vs) ∧ RpA K mg S vs ds
/-- what a def hands back: a shared value, or a new list that nobody else holds -/
abbrev rrX (K : Frg) (mg : Mg) : RR V D := fun H0 S H v d => Rp K mg S v d ∨ ∃ ds, d = .fr ds ∧ rrF K mg H0 S H v ds
section
variable {K : Frg} {mg : Mg} {S H S' H' : Hp}
theorem Rd1.of {v : V} {d : D} (i : Same S H) (h : Rp K mg S v d) : Rd1 K mg S H v d := by
  cases d <;> first | exact h | skip
  cases h with
  | lst a b => exact ⟨_, _, rfl, i _ _ a, b⟩
theorem Rd1.up {v : V} {d : D} (g : Gr S H S' H') (h : Rd1 K mg S H v d) : Rd1 K mg S' H' v d := by
  cases d with
  | lst ds =>
    obtain ⟨p, vs, h1, h2, h3⟩ := h
    exact ⟨p, vs, h1, g.h _ _ h2, h3.up g.s ds vs⟩
  | _ => exact Rp.up g.s _ v h
theorem Xd.up {dx : Option Addr} {fs : List (Str × D)} (g : Gr S H S' H') (h : Xd K mg S H dx fs) : Xd K mg S' H' dx fs := by
  exact h.keep g.s fun _ _ q => g.h _ _ q
end
section
variable {α β γ δ : Type} {K : Frg} {mg : Mg} {R : RR α β} {R2 : RR γ δ} {W : WX} {S H S' H' : Hp} {σ : L2.St}
theorem Po.bind {r : Res β} {k : β → Res δ} {Q : α → Hp → Prop} {Q2 : γ → Hp → Prop} (h : Po K mg R2 W S σ H (r.bind k) Q2)
    (n : ∀ d v S' H', Gr S H S' H' → R H S' H' v d → Po K mg R2 W S σ H (k d) Q2 → Q v H') : Po K mg R W S σ H r Q := by
  cases r with
  | ok d => exact fun v S' H' g q => n d v S' H' g q h
  | exc x fs => exact h
  | bad => exact h
theorem Po.up {r : Res β} {Q : α → Hp → Prop} (g : Gr S H S' H') (hr : ∀ S2 H2 v d, Gr S' H' S2 H2 → R H' S2 H2 v d → R H S2 H2 v d) (h : Po K mg R W S σ H r Q) : Po K mg R W S' σ H' r Q := by
  cases r with
  | ok d => exact fun v S2 H2 g2 q => h v S2 H2 (g.trans g2) (hr _ _ _ _ g2 q)
  | exc x fs => exact fun S2 H2 C dx g2 q1 q2 => h S2 H2 C dx (g.trans g2) q1 q2
  | bad => exact h
theorem Po.wk {R' : RR α β} {r : Res β} {Q : α → Hp → Prop} (h : Po K mg R W S σ H r Q) (hr : ∀ S2 H2 v d, Gr S H S2 H2 → R' H S2 H2 v d → R H S2 H2 v d) : Po K mg R' W S σ H r Q := by
  cases r with
  | ok d => exact fun v S2 H2 g2 q => h v S2 H2 g2 (hr _ _ _ _ g2 q)
  | exc x fs => exact h
  | bad => exact h
theorem Po.q {r : Res β} {Q Q' : α → Hp → Prop} (h : Po K mg R W S σ H r Q) (hq : ∀ v H', Q v H' → Q' v H') : Po K mg R W S σ H r Q' := by
  cases r with
  | ok d => exact fun v S2 H2 g2 q => hq _ _ (h v S2 H2 g2 q)
  | exc x fs => exact h
  | bad => exact h
end
theorem Po.upE {K : Frg} {mg : Mg} {W : WX} {S H S' H' : Hp} {σ : L2.St} {r : Res D} {Q : VK} (g : Gr S H S' H') (h : Po K mg (rrE K mg) W S σ H r Q) : Po K mg (rrE K mg) W S' σ H' r Q := h.up g fun _ _ _ _ _ q => q
theorem Po.upX {K : Frg} {mg : Mg} {W : WX} {S H S' H' : Hp} {σ : L2.St} {r : Res D} {Q : VK} (g : Gr S H S' H') (h : Po K mg (rrX K mg) W S σ H r Q) : Po K mg (rrX K mg) W S' σ H' r Q := h.up g fun S2 H2 v d g2 q => q.imp id fun ⟨ds, e, p, vs, h1, h2, h3⟩ => ⟨ds, e, p, vs, h1, same_none g.h h2, h3⟩
theorem Po.upR {K : Frg} {mg : Mg} {W : WX} {S H S' H' : Hp} {σ : L2.St} {r : Res D} {Q : VK} (g : Gr S H S' H') (h : Po K mg (rrR K mg) W S σ H r Q) : Po K mg (rrR K mg) W S' σ H' r Q := h.up g fun _ _ _ _ _ q => q
theorem Po.upA {K : Frg} {mg : Mg} {W : WX} {S H S' H' : Hp} {σ : L2.St} {r : Res (List D)} {Q : List V → Hp → Prop} (g : Gr S H S' H') (h : Po K mg (rrA K mg) W S σ H r Q) : Po K mg (rrA K mg) W S' σ H' r Q := h.up g fun _ _ _ _ _ q => q
theorem Po.upT {K : Frg} {mg : Mg} {W : WX} {S H S' H' : Hp} {σ : L2.St} {r : Res Bool} {Q : Bool → Hp → Prop} (g : Gr S H S' H') (h : Po K mg rrT W S σ H r Q) : Po K mg rrT W S' σ H' r Q := h.up g fun _ _ _ _ _ q => q
theorem Po.upF {K : Frg} {mg : Mg} {W : WX} {S H S' H' : Hp} {σ : L2.St} {r : Res (List D)} {Q : VK} (g : Gr S H S' H') (h : Po K mg (rrF K mg) W S σ H r Q) : Po K mg (rrF K mg) W S' σ H' r Q := h.up g fun S2 H2 v d g2 ⟨p, vs, h1, h2, h3⟩ => ⟨p, vs, h1, same_none g.h h2, h3⟩

/-- the canonical reading of an expression (an argument list, a test) that yields f of the slots -/
def tG {α β : Type} (K : Frg) (mg : Mg) (hx : Hx) (R : RR α β) (W : WX) (f : Sl → Res β) : L2.St → Hp → (α → Hp → Prop) → Prop := fun σ H Q => ∃ b S ρ, Rel K mg hx b S ρ σ H ∧ Po K mg R W S σ H (f ρ) Q
abbrev ME (X : Cx) (hx : Hx) (W : WX) (e : Expr) (f : Sl → Res D) : Prop := PE X e (tG X.K X.mg hx (rrE X.K X.mg) W f)
abbrev MR (X : Cx) (hx : Hx) (W : WX) (e : Expr) (f : Sl → Res D) : Prop := PE X e (tG X.K X.mg hx (rrR X.K X.mg) W f)
abbrev MF (X : Cx) (hx : Hx) (W : WX) (e : Expr) (f : Sl → Res (List D)) : Prop := PE X e (tG X.K X.mg hx (rrF X.K X.mg) W f)
abbrev MA (X : Cx) (hx : Hx) (W : WX) (es : List Expr) (f : Sl → Res (List D)) : Prop := PA X es (tG X.K X.mg hx (rrA X.K X.mg) W f)
abbrev MT (X : Cx) (hx : Hx) (W : WX) (e : Expr) (f : Sl → Res Bool) : Prop := PT X e (tG X.K X.mg hx rrT W f)
abbrev MW (X : Cx) (hx : Hx) (W : WX) (e : Expr) (f : Sl → Res Bool) : Prop := PW X e (tG X.K X.mg hx rrT W f)

theorem pe_imp {X : Cx} {e : Expr} {t t' : TE} (h : PE X e t) (i : ∀ σ H Q, t' σ H Q → t σ H Q) : PE X e t' := ⟨fun pins s σ H Q I q => h.run pins s σ H Q I (i σ H Q q)⟩
theorem pa_imp {X : Cx} {e : List Expr} {t t' : TA} (h : PA X e t) (i : ∀ σ H Q, t' σ H Q → t σ H Q) : PA X e t' := ⟨fun ps pins s σ H Q I q => h.run ps pins s σ H Q I (i σ H Q q)⟩
theorem pt_imp {X : Cx} {e : Expr} {t t' : TT} (h : PT X e t) (i : ∀ σ H Q, t' σ H Q → t σ H Q) : PT X e t' := ⟨fun pins s σ H Q I q => h.run pins s σ H Q I (i σ H Q q)⟩
theorem pw_imp {X : Cx} {e : Expr} {t t' : TT} (h : PW X e t) (i : ∀ σ H Q, t' σ H Q → t σ H Q) : PW X e t' := ⟨fun w pins s σ H Q I q => h.run w pins s σ H Q I (i σ H Q q)⟩
theorem ps_imp {X : Cx} {st : Stmt} {t t' : TS} (h : PS X st t) (i : ∀ D σ H, t' D σ H → t D σ H) : PS X st t' := ⟨fun pins s σ H D I q => h.run pins s σ H D I (i D σ H q)⟩
theorem pss_imp {X : Cx} {st : List Stmt} {t t' : TS} (h : PSs X st t) (i : ∀ D σ H, t' D σ H → t D σ H) : PSs X st t' := ⟨fun pins s σ H D I q => h.run pins s σ H D I (i D σ H q)⟩
theorem pg_imp {X : Cx} {e : Expr} {t t' : TG} (h : PG X e t) (i : ∀ v σ H Q, t' v σ H Q → t v σ H Q) : PG X e t' := ⟨fun pins s σ H v u Q I r q => h.run pins s σ H v u Q I r (i v σ H Q q)⟩
theorem pi_imp {X : Cx} {tg e : Expr} {t t' : TI} (h : PI X tg e t) (i : ∀ σ H R, t' σ H R → t σ H R) : PI X tg e t' := ⟨fun pins s σ H R I q => h.run pins s σ H R I (i σ H R q)⟩

/-! ### expressions -/
@[simp] def sVar (i : Nat) (ρ : Sl) : Res D := match ρ[i]? with
  | some (.v d) => .ok d
  | _ => .bad
@[simp] def sRd (i : Nat) (ρ : Sl) : Res D := match ρ[i]? with
  | some (.v d) => .ok d
  | some (.o ds) => .ok (.lst ds)
  | _ => .bad
@[simp] def sC (d : D) (_ : Sl) : Res D := .ok d
@[simp] def sUn (g : D → Res D) (f : Sl → Res D) (ρ : Sl) : Res D := (f ρ).bind g
@[simp] def sOp (g : D → D → Res D) (f h : Sl → Res D) (ρ : Sl) : Res D := (f ρ).bind fun x => (h ρ).bind fun y => g x y
@[simp] def aNil (_ : Sl) : Res (List D) := .ok []
@[simp] def aCons (f : Sl → Res D) (h : Sl → Res (List D)) (ρ : Sl) : Res (List D) := (f ρ).bind fun x => (h ρ).bind fun y => .ok (x :: y)
@[simp] def sTup (h : Sl → Res (List D)) (ρ : Sl) : Res D := (h ρ).bind fun ds => if ds.length ≤ 16777216 then .ok (.tup ds) else .bad
@[simp] def fLst (h : Sl → Res (List D)) (ρ : Sl) : Res (List D) := (h ρ).bind fun ds => if ds.length ≤ 16777216 then .ok ds else .bad
@[simp] def fOp (g : D → D → Res (List D)) (f h : Sl → Res D) (ρ : Sl) : Res (List D) := (f ρ).bind fun x => (h ρ).bind fun y => g x y
@[simp] def fUn (g : D → Res (List D)) (f : Sl → Res D) (ρ : Sl) : Res (List D) := (f ρ).bind g
@[simp] def sLst (h : Sl → Res (List D)) (ρ : Sl) : Res D := (h ρ).bind fun ds => .ok (.lst ds)
/-- a new list that a def hands back is shared from now on -/
@[simp] def thaw (d : D) : Res D := match d with
  | .fr xs => .ok (.lst xs)
  | d => .ok d
@[simp] def unfr (d : D) : Res (List D) := match d with
  | .fr xs => .ok xs
  | _ => .bad
@[simp] def sCall (g : List D → Res D) (h : Sl → Res (List D)) (ρ : Sl) : Res D := (h ρ).bind fun ds => (g ds).bind thaw
@[simp] def fCall (g : List D → Res D) (h : Sl → Res (List D)) (ρ : Sl) : Res (List D) := (h ρ).bind fun ds => (g ds).bind unfr
@[simp] def tBl (d : D) : Res Bool := match d with
  | .bl b => .ok b
  | _ => .bad
@[simp] def sTest (f : Sl → Res D) (ρ : Sl) : Res Bool := (f ρ).bind tBl
@[simp] def tAnd (f h : Sl → Res Bool) (ρ : Sl) : Res Bool := (f ρ).bind fun b => if b then h ρ else .ok false
@[simp] def tOr (f h : Sl → Res Bool) (ρ : Sl) : Res Bool := (f ρ).bind fun b => if b then .ok true else h ρ
@[simp] def tNot (f : Sl → Res Bool) (ρ : Sl) : Res Bool := (f ρ).bind fun b => .ok (!b)
@[simp] def sAnd (f h : Sl → Res D) (ρ : Sl) : Res D := (f ρ).bind fun x => (tBl x).bind fun b => if b then h ρ else .ok (.bl false)
@[simp] def sOr (f h : Sl → Res D) (ρ : Sl) : Res D := (f ρ).bind fun x => (tBl x).bind fun b => if b then .ok (.bl true) else h ρ
@[simp] def sNot (f : Sl → Res D) (ρ : Sl) : Res D := (f ρ).bind fun x => (tBl x).bind fun b => .ok (.bl (!b))
@[simp] def sIte (t : Sl → Res Bool) (f h : Sl → Res D) (ρ : Sl) : Res D := (t ρ).bind fun b => if b then f ρ else h ρ

/-- an operation by values is the function g on data -/
def U1 (K : Frg) (mg : Mg) (r : V → Hp → VK → Prop) (g : D → Res D) : Prop := ∀ S σ H v d W Q, Same S H → Rd1 K mg S H v d → Po K mg (rrE K mg) W S σ H (g d) Q → r v H Q
def O2 (K : Frg) (mg : Mg) (r : R2) (g : D → D → Res D) : Prop := ∀ S σ H x y d e W Q, Same S H → Rd1 K mg S H x d → Rd1 K mg S H y e → Po K mg (rrE K mg) W S σ H (g d e) Q → r x y H Q
/-- .. that makes a new list -/
def U1F (K : Frg) (mg : Mg) (r : V → Hp → VK → Prop) (g : D → Res (List D)) : Prop := ∀ S σ H v d W Q, Same S H → Rd1 K mg S H v d → Po K mg (rrF K mg) W S σ H (g d) Q → r v H Q
def O2F (K : Frg) (mg : Mg) (r : R2) (g : D → D → Res (List D)) : Prop := ∀ S σ H x y d e W Q, Same S H → Rd1 K mg S H x d → Rd1 K mg S H y e → Po K mg (rrF K mg) W S σ H (g d e) Q → r x y H Q
section
variable {X : Cx} {hx : Hx} {W : WX} {a b c e : Expr} {pos : Pos} {fa fb fc : Sl → Res D}
theorem me_var (i : Nat) {x : Str} (h : PE X (.Name x pos) (tVar i)) : ME X hx W (.Name x pos) (sVar i) := pe_imp h fun σ H Q ⟨b, S, ρ, R, h⟩ => by
  unfold sVar at h
  split at h
  · rename_i d e
    obtain ⟨v, h1, h2⟩ := R.val i d e
    exact ⟨v, h1, h v S H (Gr.refl R.sh) h2⟩
  · exact h.elim
theorem mr_rd (i : Nat) {x : Str} (h : PE X (.Name x pos) (tVar i)) : MR X hx W (.Name x pos) (sRd i) := pe_imp h fun σ H Q ⟨b, S, ρ, R, h⟩ => by
  unfold sRd at h
  split at h
  · rename_i d e
    obtain ⟨v, h1, h2⟩ := R.val i d e
    exact ⟨v, h1, h v S H (Gr.refl R.sh) (Rd1.of R.sh h2)⟩
  · rename_i ds e
    obtain ⟨p, vs, h1, h2, h3, h4, h5⟩ := R.own i ds e
    exact ⟨_, h1, h _ S H (Gr.refl R.sh) ⟨p, vs, rfl, h2, h5⟩⟩
  · exact h.elim
theorem mr_of (h : ME X hx W e fa) : MR X hx W e fa := pe_imp h fun σ H Q ⟨b, S, ρ, R, h⟩ => ⟨b, S, ρ, R, h.wk fun _ _ _ _ g q => Rd1.of g.i q⟩
theorem me_of {ff : Sl → Res (List D)} (h : MF X hx W e ff) : ME X hx W e (sLst ff) := pe_imp h fun σ H Q ⟨b, S, ρ, R, h⟩ => ⟨b, S, ρ, R, h.bind fun d v S' H' g ⟨p, vs, h1, h2, h3, h4, h5⟩ k => by
  subst h1
  have up : Same S' (upd S' p (.lst vs)) := same_new h3
  refine k _ (upd S' p (.lst vs)) H' ⟨g.s.trans up, g.h, fun a o q => ?_, fun a ha q => ?_⟩ (.lst upd_same (h5.up up _ _))
  · by_cases z : a = p
    · subst z; rw [upd_same] at q; cases q; exact h4
    · rw [upd_ne z] at q; exact g.i a o q
  · rw [upd_ne (fun z => ha (by rw [z]; exact h2))]; exact g.n a ha q⟩
theorem mr_f {ff : Sl → Res (List D)} (h : MF X hx W e ff) : MR X hx W e (sLst ff) := mr_of (me_of h)
theorem me_con {v : V} {d : D} (h : PE X e (tC v)) (r : ∀ S, Rp X.K X.mg S v d) : ME X hx W e (sC d) := pe_imp h fun σ H Q ⟨b, S, ρ, R, h⟩ => h v S H (Gr.refl R.sh) (r S)
theorem me_int {i : Int} {j} : ME X hx W (.Constant (.int i) j pos) (sC (.int i)) := me_con pe_int fun _ => .int i
theorem me_bl {i : Bool} {j} : ME X hx W (.Constant (.bool i) j pos) (sC (.bl i)) := me_con pe_bl fun _ => .bl i
theorem me_non {j} : ME X hx W (.Constant .none j pos) (sC .non) := me_con pe_non fun _ => .non
theorem me_str {x : Str} {j} : ME X hx W (.Constant (.str x) j pos) (sC (.str x)) := me_con pe_str fun _ => .str x
theorem me_un {op : UnaryOp} {r : V → Hp → VK → Prop} {g : D → Res D} (ho : UnR X (unaryOp op) r) (hr : U1 X.K X.mg r g) (ha : MR X hx W a fa) : ME X hx W (.UnaryOp op a pos) (sUn g fa) :=
  pe_imp (pe_un ho ha) fun σ H Q ⟨b, S, ρ, R, h⟩ => ⟨b, S, ρ, R, h.bind fun d v S1 H1 g1 r1 k => hr S1 σ H1 v d W Q g1.i r1 (k.upE g1)⟩
theorem op_seq {f h : Sl → Res D} {g : D → D → Res D} {r : R2} (hr : O2 X.K X.mg r g) : ∀ σ H Q, tG X.K X.mg hx (rrE X.K X.mg) W (sOp g f h) σ H Q → tOp r (tG X.K X.mg hx (rrR X.K X.mg) W f) (tG X.K X.mg hx (rrR X.K X.mg) W h) σ H Q := fun σ H Q ⟨b, S, ρ, R, q⟩ =>
  ⟨b, S, ρ, R, q.bind fun d v S1 H1 g1 r1 k => ⟨b, S1, ρ, R.grow g1, (k.upE g1).bind fun d2 v2 S2 H2 g2 r2 k2 => hr S2 σ H2 v v2 d d2 W Q g2.i (r1.up g2) r2 (k2.upE g2)⟩⟩
theorem me_op {op : Operator} {r : R2} {g : D → D → Res D} (ho : OpR X (binaryOp op) r) (hr : O2 X.K X.mg r g) (ha : MR X hx W a fa) (hb : MR X hx W b fb) : ME X hx W (.BinOp a op b pos) (sOp g fa fb) := pe_imp (pe_op ho ha hb) (op_seq hr)
theorem me_cmp {op : CmpOp} {r : R2} {g : D → D → Res D} (ho : OpR X (compareOp op) r) (hr : O2 X.K X.mg r g) (ha : MR X hx W a fa) (hb : MR X hx W b fb) (hm : behindInMarks op b = false) : ME X hx W (.Compare a [op] [b] pos) (sOp g fa fb) := pe_imp (pe_cmpR ho ha hb hm) (op_seq hr)
theorem me_ix {r : R2} {g : D → D → Res D} (hi : IxR X r) (hr : O2 X.K X.mg r g) (ha : MR X hx W a fa) (hb : MR X hx W b fb) (hs : PlainIx b) : ME X hx W (.Subscript a b pos) (sOp g fa fb) := pe_imp (pe_ix hi ha hb hs) (op_seq hr)
theorem opF_seq {f h : Sl → Res D} {g : D → D → Res (List D)} {r : R2} (hr : O2F X.K X.mg r g) : ∀ σ H Q, tG X.K X.mg hx (rrF X.K X.mg) W (fOp g f h) σ H Q → tOp r (tG X.K X.mg hx (rrR X.K X.mg) W f) (tG X.K X.mg hx (rrR X.K X.mg) W h) σ H Q := fun σ H Q ⟨b, S, ρ, R, q⟩ =>
  ⟨b, S, ρ, R, q.bind fun d v S1 H1 g1 r1 k => ⟨b, S1, ρ, R.grow g1, (k.upF g1).bind fun d2 v2 S2 H2 g2 r2 k2 => hr S2 σ H2 v v2 d d2 W Q g2.i (r1.up g2) r2 (k2.upF g2)⟩⟩
theorem mf_op {op : Operator} {r : R2} {g : D → D → Res (List D)} (ho : OpR X (binaryOp op) r) (hr : O2F X.K X.mg r g) (ha : MR X hx W a fa) (hb : MR X hx W b fb) : MF X hx W (.BinOp a op b pos) (fOp g fa fb) := pe_imp (pe_op ho ha hb) (opF_seq hr)
theorem ma_nil : MA X hx W [] aNil := pa_imp pa_nil fun σ H Q ⟨b, S, ρ, R, q⟩ => q [] S H (Gr.refl R.sh) .nil
theorem ma_cons {es : List Expr} {fs : Sl → Res (List D)} (ha : ME X hx W e fa) (hr : MA X hx W es fs) (hs : starEach (e :: es) X.env = (false, eval e X.env) :: starEach es X.env := by rfl) : MA X hx W (e :: es) (aCons fa fs) :=
  pa_imp (pa_cons ha hr hs) fun σ H Q ⟨b, S, ρ, R, q⟩ => ⟨b, S, ρ, R, q.bind fun d v S1 H1 g1 r1 k => ⟨b, S1, ρ, R.grow g1, (k.upA g1).bind fun d2 v2 S2 H2 g2 r2 k2 => k2 _ S2 H2 g2 (.cons (r1.up g2.s d v) r2)⟩⟩
theorem sizeLine16 {n : Nat} (h : n ≤ 16777216) : n ≤ sizeLine := by rw [sizeLine_eq]; exact h
theorem me_tup {es : List Expr} {fs : Sl → Res (List D)} {x1} (h : MA X hx W es fs) : ME X hx W (.Tuple es x1 pos) (sTup fs) :=
  pe_imp (pe_tup h) fun σ H Q ⟨b, S, ρ, R, q⟩ => ⟨b, S, ρ, R, q.bind fun d v S1 H1 g1 r1 k => by
    split at k
    · rename_i hl
      refine ⟨sizeLine16 (by rw [r1.len]; exact hl), fun p hp => ?_⟩
      refine k _ _ _ (g1.trans (Gr.new g1.i hp)) (.tup (SqT.of upd_same) (r1.up (same_new (same_none g1.i hp)) _ _))
    · exact k.elim⟩
theorem mf_lst {es : List Expr} {fs : Sl → Res (List D)} {x1} (h : MA X hx W es fs) : MF X hx W (.List es x1) (fLst fs) :=
  pe_imp (pe_lst h) fun σ H Q ⟨b, S, ρ, R, q⟩ => ⟨b, S, ρ, R, q.bind fun d v S1 H1 g1 r1 k => by
    split at k
    · rename_i hl
      refine ⟨sizeLine16 (by rw [r1.len]; exact hl), fun p hp => ?_⟩
      refine k _ S1 _ (g1.trans (Gr.lay g1.i hp)) ⟨p, v, rfl, same_none g1.h hp, same_none g1.i hp, upd_same, r1⟩
    · exact k.elim⟩

/-! ### tests -/
theorem mt_val (h : ME X hx W e fa) (he : ∀ whole, isTrue e X.env whole = (do let v ← whole; standAt e.pos; holding [v] (truthy v)) := by intro _; rfl) : MT X hx W e (sTest fa) :=
  pt_imp (pt_val h he) fun σ H Q ⟨b, S, ρ, R, q⟩ => ⟨b, S, ρ, R, q.bind fun d v S1 H1 g1 r1 k => by
    cases r1 <;> first | exact k.elim | skip
    rename_i c
    exact ⟨c, rfl, k c S1 H1 g1 rfl⟩⟩
theorem mt_cmp {op : CmpOp} {r : R2} {g : D → D → Res D} (ho : OpR X (compareOp op) r) (hr : O2 X.K X.mg r g) (ha : MR X hx W a fa) (hb : MR X hx W b fb) (hm : behindInMarks op b = false) : MT X hx W (.Compare a [op] [b] pos) (sTest (sOp g fa fb)) :=
  pt_imp (pt_cmpR ho ha hb hm) fun σ H Q ⟨b, S, ρ, R, q⟩ => op_seq hr σ H _ ⟨b, S, ρ, R, q.bind fun d v S1 H1 g1 r1 k => by
    cases r1 <;> first | exact k.elim | skip
    rename_i c
    exact ⟨c, rfl, k c S1 H1 g1 rfl⟩⟩
theorem mt_not {t : Sl → Res Bool} (h : MT X hx W a t) : MT X hx W (.UnaryOp .Not a pos) (tNot t) :=
  pt_imp (pt_not h) fun σ H Q ⟨b, S, ρ, R, q⟩ => ⟨b, S, ρ, R, q.bind fun d v S1 H1 g1 r1 k => by
    cases r1
    exact k _ S1 H1 g1 rfl⟩
theorem mw_and1 {t : Sl → Res Bool} (h : MT X hx W a t) : MW X hx W (.BoolOp .And [a] pos) t := pw_and1 h
theorem mw_or1 {t : Sl → Res Bool} (h : MT X hx W a t) : MW X hx W (.BoolOp .Or [a] pos) t := pw_or1 h
theorem mw_and {t u : Sl → Res Bool} {rest : List Expr} (ha : MT X hx W a t) (hb : MW X hx W (.BoolOp .And (b :: rest) pos) u) : MW X hx W (.BoolOp .And (a :: b :: rest) pos) (tAnd t u) :=
  pw_imp (pw_and ha hb) fun σ H Q ⟨b, S, ρ, R, q⟩ => ⟨b, S, ρ, R, q.bind fun d v S1 H1 g1 r1 k => by
    cases r1
    cases d with
    | true => exact iteT ⟨b, S1, ρ, R.grow g1, Po.upT g1 k⟩
    | false => exact iteF (k _ S1 H1 g1 rfl)⟩
theorem mw_or {t u : Sl → Res Bool} {rest : List Expr} (ha : MT X hx W a t) (hb : MW X hx W (.BoolOp .Or (b :: rest) pos) u) : MW X hx W (.BoolOp .Or (a :: b :: rest) pos) (tOr t u) :=
  pw_imp (pw_or ha hb) fun σ H Q ⟨b, S, ρ, R, q⟩ => ⟨b, S, ρ, R, q.bind fun d v S1 H1 g1 r1 k => by
    cases r1
    cases d with
    | true => exact iteT (k _ S1 H1 g1 rfl)
    | false => exact iteF ⟨b, S1, ρ, R.grow g1, Po.upT g1 k⟩⟩
theorem me_and {rest : List Expr} (ha : ME X hx W a fa) (hb : ME X hx W (.BoolOp .And (b :: rest) pos) fb) : ME X hx W (.BoolOp .And (a :: b :: rest) pos) (sAnd fa fb) :=
  pe_imp (pe_and ha hb) fun σ H Q ⟨b, S, ρ, R, q⟩ => ⟨b, S, ρ, R, q.bind fun d v S1 H1 g1 r1 k => by
    cases r1 <;> first | exact k.elim | skip
    rename_i c
    refine ⟨c, rfl, ?_⟩
    cases c with
    | true => exact iteT ⟨b, S1, ρ, R.grow g1, Po.upE g1 k⟩
    | false => exact iteF (k _ S1 H1 g1 (.bl false))⟩
theorem me_or {rest : List Expr} (ha : ME X hx W a fa) (hb : ME X hx W (.BoolOp .Or (b :: rest) pos) fb) : ME X hx W (.BoolOp .Or (a :: b :: rest) pos) (sOr fa fb) :=
  pe_imp (pe_or ha hb) fun σ H Q ⟨b, S, ρ, R, q⟩ => ⟨b, S, ρ, R, q.bind fun d v S1 H1 g1 r1 k => by
    cases r1 <;> first | exact k.elim | skip
    rename_i c
    refine ⟨c, rfl, ?_⟩
    cases c with
    | true => exact iteT (k _ S1 H1 g1 (.bl true))
    | false => exact iteF ⟨b, S1, ρ, R.grow g1, Po.upE g1 k⟩⟩
theorem me_not (h : ME X hx W a fa) : ME X hx W (.UnaryOp .Not a pos) (sNot fa) :=
  pe_imp (pe_not h) fun σ H Q ⟨b, S, ρ, R, q⟩ => ⟨b, S, ρ, R, q.bind fun d v S1 H1 g1 r1 k => by
    cases r1 <;> first | exact k.elim | skip
    rename_i c
    exact ⟨c, rfl, k _ S1 H1 g1 (.bl _)⟩⟩
theorem me_ite {t : Sl → Res Bool} (hc : MT X hx W c t) (ha : ME X hx W a fa) (hb : ME X hx W b fb) : ME X hx W (.IfExp c a b pos) (sIte t fa fb) :=
  pe_imp (pe_ifExp hc ha hb) fun σ H Q ⟨b, S, ρ, R, q⟩ => ⟨b, S, ρ, R, q.bind fun d v S1 H1 g1 r1 k => by
    cases r1
    cases d with
    | true => exact iteT ⟨b, S1, ρ, R.grow g1, Po.upE g1 k⟩
    | false => exact iteF ⟨b, S1, ρ, R.grow g1, Po.upE g1 k⟩⟩
/-- the truth of a value -/
@[simp] def gTru (d : D) : Res Bool := match d with
  | .non => .ok false
  | .bl b => .ok b
  | .int i => .ok (i != 0)
  | .str x => if x.length ≤ 16777216 then .ok ((x.length : Int) != 0) else .bad
  | .lst ds => .ok (!ds.isEmpty)
  | .rol ds => .ok (!ds.isEmpty)
  | .tup ds => .ok (!ds.isEmpty)
  | .obj _ _ _ => .bad
  | .fr _ => .bad
@[simp] def tTru (f : Sl → Res D) (ρ : Sl) : Res Bool := (f ρ).bind gTru
theorem RpA.emp {K : Frg} {mg : Mg} {H : Hp} {vs : List V} {ds : List D} (h : RpA K mg H vs ds) : vs.isEmpty = ds.isEmpty := by cases h <;> rfl
theorem mt_tru (h : MR X hx W e fa) (he : ∀ whole, isTrue e X.env whole = (do let v ← whole; standAt e.pos; holding [v] (truthy v)) := by intro _; rfl) : MT X hx W e (tTru fa) :=
  pt_imp (pt_truth h he) fun σ H Q ⟨b, S, ρ, R, q⟩ => ⟨b, S, ρ, R, q.bind fun d v S1 H1 g1 r1 k => by
    cases d with
    | non => cases r1; exact ⟨_, rfl, k _ S1 H1 g1 rfl⟩
    | bl _ => cases r1; exact ⟨_, rfl, k _ S1 H1 g1 rfl⟩
    | int _ => cases r1; exact ⟨_, rfl, k _ S1 H1 g1 rfl⟩
    | str x =>
      cases r1
      simp only [gTru] at k
      split at k
      · rename_i hl
        exact ⟨_, ⟨sizeLine16 hl, rfl⟩, k _ S1 H1 g1 rfl⟩
      · exact k.elim
    | lst ds =>
      obtain ⟨p, vs, rfl, h2, h3⟩ := r1
      exact ⟨_, .inl ⟨vs, SqL.of h2, rfl⟩, k _ S1 H1 g1 (by rw [h3.emp])⟩
    | rol ds =>
      cases r1 with
      | rol h2 h3 => exact ⟨_, .inl ⟨_, same_l g1.i h2, rfl⟩, k _ S1 H1 g1 (by rw [h3.emp])⟩
    | tup ds =>
      cases r1 with
      | tup h2 h3 => exact ⟨_, .inr (.inl ⟨_, same_t g1.i h2, rfl⟩), k _ S1 H1 g1 (by rw [h3.emp])⟩
    | obj _ _ _ => exact k.elim
    | fr _ => exact k.elim⟩
/-- a < b < c -/
def sChain (g h : D → D → Res D) (fa fb fc : Sl → Res D) (ρ : Sl) : Res D := (fa ρ).bind fun x => (fb ρ).bind fun y => (g x y).bind fun z => (tBl z).bind fun b => if b then (fc ρ).bind fun w => h y w else .ok (.bl false)
end
end PF

set_option Elab.async false
set_option linter.all false
set_option maxRecDepth 100000
set_option maxHeartbeats 4000000
namespace PF
open PySem PySem.Spec L2

/-! ### statements -/
inductive Out where
  | nx (ρ : Sl) | ret (d : D) | bk (ρ : Sl) | ct (ρ : Sl) | exc (x : Str) (fs : List (Str × D)) (ρ : Sl) | bad
structure Bok (b : Bs) (S H : Hp) : Prop where
  s0 : Same b.S0 S
  sh : Same S H
  h0 : Same b.H0 H
  nw : ∀ a, b.H0 a ≠ none → b.S0 a = none → S a = none
theorem Rel.bok {K : Frg} {mg : Mg} {hx : Hx} {b : Bs} {S H : Hp} {ρ : Sl} {σ : L2.St} (R : Rel K mg hx b S ρ σ H) : Bok b S H := ⟨R.s0, R.sh, R.h0, R.nw⟩
def PoS (K : Frg) (mg : Mg) (hx : Hx) (W : WX) (b : Bs) (S : Hp) (o : Out) (D : Ends) : Prop := match o with
  | .nx ρ => ∀ S' σ H, Same S S' → Rel K mg hx b S' ρ σ H → D.nx σ H
  | .ret d => ∀ S' H v, Bok b S' H → rrX K mg b.H0 S' H v d → D.rt v H
  | .bk ρ => ∀ S' σ H, Same S S' → Rel K mg hx b S' ρ σ H → D.bk σ H
  | .ct ρ => ∀ S' σ H, Same S S' → Rel K mg hx b S' ρ σ H → D.ct σ H
  | .exc x fs ρ => ∀ S' σ H C dx, Same S S' → Rel K mg hx b S' ρ σ H → mg x = some (.ref C) → Xd K mg S' H dx fs → W (.ref C) dx σ H
  | .bad => False
def tS (K : Frg) (mg : Mg) (hx : Hx) (W : WX) (g : Sl → Out) : TS := fun D σ H => ∃ b S ρ, Rel K mg hx b S ρ σ H ∧ PoS K mg hx W b S (g ρ) D
abbrev MS (X : Cx) (hx : Hx) (W : WX) (st : Stmt) (g : Sl → Out) : Prop := PS X st (tS X.K X.mg hx W g)
abbrev MSs (X : Cx) (hx : Hx) (W : WX) (st : List Stmt) (g : Sl → Out) : Prop := PSs X st (tS X.K X.mg hx W g)
theorem PoS.up {K : Frg} {mg : Mg} {hx : Hx} {W : WX} {b : Bs} {S S1 : Hp} {o : Out} {D : Ends} (e : Same S S1) (h : PoS K mg hx W b S o D) : PoS K mg hx W b S1 o D := by
  cases o with
  | nx ρ => exact fun S' σ H q => h S' σ H (e.trans q)
  | ret d => exact h
  | bk ρ => exact fun S' σ H q => h S' σ H (e.trans q)
  | ct ρ => exact fun S' σ H q => h S' σ H (e.trans q)
  | exc x fs ρ => exact fun S' σ H C dx q => h S' σ H C dx (e.trans q)
  | bad => exact h
/-- an expression's result, then k -/
def rS {α : Type} (r : Res α) (ρ : Sl) (k : α → Out) : Out := match r with
  | .ok a => k a
  | .exc x fs => .exc x fs ρ
  | .bad => .bad
@[simp] theorem rS_ok {α : Type} (a : α) (ρ : Sl) (k : α → Out) : rS (.ok a) ρ k = k a := rfl
@[simp] theorem rS_exc {α : Type} (x : Str) (fs) (ρ : Sl) (k : α → Out) : rS (.exc x fs) ρ k = .exc x fs ρ := rfl
@[simp] theorem rS_bad {α : Type} (ρ : Sl) (k : α → Out) : rS .bad ρ k = .bad := rfl
theorem rS_po {α β : Type} {K : Frg} {mg : Mg} {hx : Hx} {RX : RR α β} {W : WX} {b : Bs} {S H : Hp} {ρ : Sl} {σ : L2.St} {r : Res β} {k : β → Out} {D : Ends} {Q : α → Hp → Prop} (R : Rel K mg hx b S ρ σ H) (h : PoS K mg hx W b S (rS r ρ k) D)
    (n : ∀ d v S' H', Gr S H S' H' → RX H S' H' v d → PoS K mg hx W b S (k d) D → Q v H') : Po K mg RX W S σ H r Q := by
  cases r with
  | ok d => exact fun v S' H' g q => n d v S' H' g q h
  | exc x fs => exact fun S' H' C dx g q1 q2 => h S' σ H' C dx g.s (R.grow g) q1 q2
  | bad => exact h
@[simp] def gSeq (g h : Sl → Out) (ρ : Sl) : Out := match g ρ with
  | .nx ρ' => h ρ'
  | o => o
@[simp] def gNil (ρ : Sl) : Out := .nx ρ
@[simp] def gIf (t : Sl → Res Bool) (g h : Sl → Out) (ρ : Sl) : Out := rS (t ρ) ρ fun b => if b then g ρ else h ρ
@[simp] def gRet (f : Sl → Res D) (ρ : Sl) : Out := rS (f ρ) ρ .ret
@[simp] def gRetN (_ : Sl) : Out := .ret .non
@[simp] def gBk (ρ : Sl) : Out := .bk ρ
@[simp] def gCt (ρ : Sl) : Out := .ct ρ
@[simp] def gDrop (f : Sl → Res D) (ρ : Sl) : Out := rS (f ρ) ρ fun _ => .nx ρ
/-- i = f -/
@[simp] def gSet (i : Nat) (f : Sl → Res D) (ρ : Sl) : Out := rS (f ρ) ρ fun d => .nx (ρ.set i (.v d))
/-- i = f, a new list that i alone holds -/
@[simp] def gSetO (i : Nat) (f : Sl → Res (List D)) (ρ : Sl) : Out := rS (f ρ) ρ fun d => .nx (ρ.set i (.o d))
/-- the list of slot i is shared from here on (no statement of the text) -/
@[simp] def gFrz (i : Nat) (g : Sl → Out) (ρ : Sl) : Out := match ρ[i]? with
  | some (.o ds) => g (ρ.set i (.v (.lst ds)))
  | some (.v _) => g ρ
  | _ => .bad
section
variable {X : Cx} {hx : Hx} {W : WX} {st : Stmt} {rest body : List Stmt} {g h : Sl → Out} {e c : Expr} {f : Sl → Res D} {pos : Pos}
theorem ms_nil : MSs X hx W [] gNil := pss_imp pss_nil fun D σ H ⟨b, S, ρ, R, q⟩ => q S σ H (Same.refl _) R
theorem ms_pass : MS X hx W (.Pass pos) gNil := ps_imp ps_pass fun D σ H ⟨b, S, ρ, R, q⟩ => q S σ H (Same.refl _) R
theorem ms_bk : MS X hx W (.Break pos) gBk := ps_imp ps_break fun D σ H ⟨b, S, ρ, R, q⟩ => q S σ H (Same.refl _) R
theorem ms_ct : MS X hx W (.Continue pos) gCt := ps_imp ps_continue fun D σ H ⟨b, S, ρ, R, q⟩ => q S σ H (Same.refl _) R
theorem ms_cons (h1 : MS X hx W st g) (h2 : MSs X hx W rest h) : MSs X hx W (st :: rest) (gSeq g h) := pss_imp (pss_cons h1 h2) fun D σ H ⟨b, S, ρ, R, q⟩ => by
  refine ⟨b, S, ρ, R, ?_⟩
  unfold gSeq at q
  cases e : g ρ with
  | nx ρ' => rw [e] at q; exact fun S' σ' H' s1 R' => ⟨b, S', ρ', R', PoS.up s1 q⟩
  | ret d => rw [e] at q; exact q
  | bk ρ' => rw [e] at q; exact q
  | ct ρ' => rw [e] at q; exact q
  | exc x fs ρ' => rw [e] at q; exact q
  | bad => rw [e] at q; exact q
theorem ms_one (h1 : MS X hx W st g) : MSs X hx W [st] g := pss_one h1
theorem ms_frz (i : Nat) (h1 : MSs X hx W rest g) : MSs X hx W rest (gFrz i g) := pss_imp h1 fun D σ H ⟨b, S, ρ, R, q⟩ => by
  unfold gFrz at q
  split at q
  · rename_i ds e
    obtain ⟨S', s1, R'⟩ := R.freeze e
    exact ⟨b, S', _, R', PoS.up s1 q⟩
  · exact ⟨b, S, ρ, R, q⟩
  · exact q.elim
theorem ms_if {t : Sl → Res Bool} {a1 a2 : List Stmt} (hc : MT X hx W c t) (h1 : MSs X hx W a1 g) (h2 : MSs X hx W a2 h) : MS X hx W (.If c a1 a2 pos) (gIf t g h) := ps_imp (ps_if hc h1 h2) fun D σ H ⟨b, S, ρ, R, q⟩ =>
  ⟨b, S, ρ, R, rS_po R q fun d v S1 H1 g1 r1 k => by
    cases r1
    cases d with
    | true => exact iteT ⟨b, S1, ρ, R.grow g1, PoS.up g1.s k⟩
    | false => exact iteF ⟨b, S1, ρ, R.grow g1, PoS.up g1.s k⟩⟩
theorem ms_ret (he : ME X hx W e f) : MS X hx W (.Return (some e) pos) (gRet f) := ps_imp (ps_ret he) fun D σ H ⟨b, S, ρ, R, q⟩ =>
  ⟨b, S, ρ, R, rS_po R q fun d v S1 H1 g1 r1 k => k S1 H1 v (R.grow g1).bok (.inl r1)⟩
/-- return x, x a list that this slot alone holds; return of a new list -/
@[simp] def gRetO (i : Nat) (ρ : Sl) : Out := match ρ[i]? with
  | some (.o ds) => .ret (.fr ds)
  | some (.v d) => .ret d
  | _ => .bad
theorem ms_retO (i : Nat) {x : Str} {p : Pos} (hv : PE X (.Name x p) (tVar i)) : MS X hx W (.Return (some (.Name x p)) pos) (gRetO i) := ps_imp (ps_ret hv) fun D σ H ⟨b, S, ρ, R, q⟩ => by
  unfold gRetO at q
  split at q
  · rename_i ds e1
    obtain ⟨p, vs, h1, h2, h3, h4, h5⟩ := R.own i ds e1
    exact ⟨_, h1, q S H _ R.bok (.inr ⟨ds, rfl, p, vs, rfl, h4, h3, h2, h5⟩)⟩
  · rename_i d e1
    obtain ⟨v, h1, h2⟩ := R.val i d e1
    exact ⟨v, h1, q S H v R.bok (.inl h2)⟩
  · exact q.elim
@[simp] def gRetF (ff : Sl → Res (List D)) (ρ : Sl) : Out := rS (ff ρ) ρ fun ds => .ret (.fr ds)
theorem ms_retF {ff : Sl → Res (List D)} (he : MF X hx W e ff) : MS X hx W (.Return (some e) pos) (gRetF ff) := ps_imp (ps_ret he) fun D σ H ⟨b, S, ρ, R, q⟩ =>
  ⟨b, S, ρ, R, rS_po R q fun d v S1 H1 g1 ⟨p, vs, h1, h2, h3, h4, h5⟩ k => k S1 H1 v (R.grow g1).bok (.inr ⟨d, rfl, p, vs, h1, same_none R.h0 h2, h3, h4, h5⟩)⟩
theorem ms_retN : MS X hx W (.Return none pos) gRetN := ps_imp ps_retN fun D σ H ⟨b, S, ρ, R, q⟩ => q S H .non R.bok (.inl .non)
theorem ms_drop (he : MR X hx W e f) (hs : swapsWith e none pos.line X.env = pure false := by rfl) : MS X hx W (.Expr e pos) (gDrop f) := ps_imp (ps_expr he hs) fun D σ H ⟨b, S, ρ, R, q⟩ =>
  ⟨b, S, ρ, R, rS_po R q fun d v S1 H1 g1 r1 k => k S1 σ H1 g1.s (R.grow g1)⟩
theorem ms_doc {x j pos'} : MS X hx W (.Expr (.Constant (.str x) j pos) pos') gNil := ps_imp ps_doc fun D σ H ⟨b, S, ρ, R, q⟩ => q S σ H (Same.refl _) R
theorem ms_set (i : Nat) {x : Str} {pos' : Pos} (hN : X.N.Nodup) (he : ME X hx W e f) (hi : X.N[i]? = some x := by rfl) (hl : Loc X.env.scope x := by first | exact Or.inl rfl | exact Or.inr rfl) (hs : swapsWith e (some (.Name x pos')) pos.line X.env = pure false := by rfl) (hf : X.fn x = true ∨ X.env.scope.names.lookup x = some .local := by first | exact .inl rfl | exact .inr rfl | assumption) :
    MS X hx W (.Assign [.Name x pos'] e pos) (gSet i f) := ps_imp (ps_set hN hi hl he hs hf) fun D σ H ⟨b, S, ρ, R, q⟩ =>
  ⟨b, S, ρ, R, rS_po R q fun d v S1 H1 g1 r1 k => k S1 _ H1 g1.s ((R.grow g1).put r1)⟩
theorem Rel.putN {K : Frg} {mg : Mg} {hx : Hx} {b : Bs} {S H S1 H1 : Hp} {ρ : Sl} {σ : L2.St} (R : Rel K mg hx b S ρ σ H) (g1 : Gr S H S1 H1) {i : Nat} {p : Addr} {vs : List V} {ds : List D} (h2 : H p = none) (h3 : S1 p = none) (h4 : H1 p = some (.lst vs)) (h5 : RpA K mg S1 vs ds) : Rel K mg hx b S1 (ρ.set i (.o ds)) (σ.set i (some (.ref p))) H1 :=
  (R.grow g1).putO h4 h3 (same_none R.h0 h2) (fun j es e1 e2 => by
    obtain ⟨p', vs', q1, q2, _⟩ := R.own j es e1
    rw [e2] at q1
    cases q1
    rw [h2] at q2
    cases q2) h5
theorem ms_setO (i : Nat) {ff : Sl → Res (List D)} {x : Str} {pos' : Pos} (hN : X.N.Nodup) (he : MF X hx W e ff) (hi : X.N[i]? = some x := by rfl) (hl : Loc X.env.scope x := by first | exact Or.inl rfl | exact Or.inr rfl) (hs : swapsWith e (some (.Name x pos')) pos.line X.env = pure false := by rfl) (hf : X.fn x = true ∨ X.env.scope.names.lookup x = some .local := by first | exact .inl rfl | exact .inr rfl | assumption) :
    MS X hx W (.Assign [.Name x pos'] e pos) (gSetO i ff) := ps_imp (ps_set hN hi hl he hs hf) fun D σ H ⟨b, S, ρ, R, q⟩ =>
  ⟨b, S, ρ, R, rS_po R q fun d v S1 H1 g1 ⟨p, vs, h1, h2, h3, h4, h5⟩ k => by
    subst h1
    exact k S1 _ H1 g1.s (R.putN g1 h2 h3 h4 h5)⟩
end

/-! ### targets -/
abbrev FG := D → Sl → Option Sl
def AgreeOff (is : List Nat) (σ σ' : L2.St) : Prop := σ'.length = σ.length ∧ ∀ i, i ∉ is → σ'[i]? = σ[i]?
def gG (K : Frg) (mg : Mg) (hx : Hx) (is : List Nat) (g : FG) : TG := fun v σ H Q => ∃ b S ρ d, Rel K mg hx b S ρ σ H ∧ Rp K mg S v d ∧ match g d ρ with
  | some ρ' => ∀ σ', Rel K mg hx b S ρ' σ' H → AgreeOff is σ σ' → Q σ' H
  | _ => False
abbrev MG (X : Cx) (hx : Hx) (tg : Expr) (is : List Nat) (g : FG) : Prop := PG X tg (gG X.K X.mg hx is g)
@[simp] def gName (i : Nat) : FG := fun d ρ => some (ρ.set i (.v d))
/-- a tuple's targets, from the left -/
abbrev FGs := List D → Sl → Option Sl
def gGs (K : Frg) (mg : Mg) (hx : Hx) (is : List Nat) (g : FGs) : TGs := fun vs σ H Q => ∃ b S ρ ds, Rel K mg hx b S ρ σ H ∧ RpA K mg S vs ds ∧ match g ds ρ with
  | some ρ' => ∀ σ', Rel K mg hx b S ρ' σ' H → AgreeOff is σ σ' → Q σ' H
  | _ => False
abbrev MGs (X : Cx) (hx : Hx) (tg : List Expr) (is : List Nat) (g : FGs) : Prop := PGs X tg (gGs X.K X.mg hx is g)
@[simp] def gsNil : FGs := fun ds ρ => match ds with
  | [] => some ρ
  | _ => none
@[simp] def gsCons (g : FG) (h : FGs) : FGs := fun ds ρ => match ds with
  | d :: r => (g d ρ).bind fun ρ1 => h r ρ1
  | _ => none
@[simp] def gTup (n : Nat) (h : FGs) : FG := fun d ρ => match d with
  | .tup ds => if ds.length = n then h ds ρ else none
  | _ => none
section
variable {X : Cx} {hx : Hx} {pos : Pos}
theorem agree_set {i : Nat} {σ : L2.St} {v : Option V} : AgreeOff [i] σ (σ.set i v) := ⟨by simp, fun j h => by rw [List.getElem?_set_ne (by simpa [eq_comm] using h)]⟩
theorem agree_trans {is js : List Nat} {a b c : L2.St} (h : AgreeOff is a b) (k : AgreeOff js b c) : AgreeOff (is ++ js) a c := ⟨k.1.trans h.1, fun i hi => by
  simp only [List.mem_append, not_or] at hi
  exact (k.2 i hi.2).trans (h.2 i hi.1)⟩
theorem mg_name (i : Nat) {x : Str} (hN : X.N.Nodup) (hi : X.N[i]? = some x := by rfl) (hl : Loc X.env.scope x := by first | exact Or.inl rfl | exact Or.inr rfl) (hf : X.fn x = true ∨ X.env.scope.names.lookup x = some .local := by first | exact .inl rfl | exact .inr rfl | assumption) : MG X hx (.Name x pos) [i] (gName i) :=
  pg_imp (pg_name hN hi hl hf) fun v σ H Q ⟨b, S, ρ, d, R, r, q⟩ => q _ (R.put r) agree_set
theorem pgs_imp {X : Cx} {es : List Expr} {t t' : TGs} (h : PGs X es t) (i : ∀ vs σ H Q, t' vs σ H Q → t vs σ H Q) : PGs X es t' := ⟨fun pins s σ H v u Q I r q => h.run pins s σ H v u Q I r (i v σ H Q q)⟩
theorem mgs_nil : MGs X hx [] [] gsNil := pgs_imp pgs_nil fun vs σ H Q ⟨b, S, ρ, ds, R, r, q⟩ => by
  cases r with
  | nil => exact ⟨rfl, q σ R ⟨rfl, fun _ _ => rfl⟩⟩
  | cons _ _ => exact q.elim
theorem mgs_cons {e : Expr} {es : List Expr} {is js : List Nat} {g : FG} {h : FGs} (h1 : MG X hx e is g) (h2 : MGs X hx es js h) (hs : (assignEach (e :: es) X.env).map (·.2) = assign e X.env :: (assignEach es X.env).map (·.2) := by rfl) : MGs X hx (e :: es) (is ++ js) (gsCons g h) :=
  pgs_imp (pgs_cons h1 h2 hs) fun vs σ H Q ⟨b, S, ρ, ds, R, r, q⟩ => by
    cases r with
    | nil => exact q.elim
    | @cons v vs d ds r1 r2 =>
      refine ⟨v, vs, rfl, b, S, ρ, d, R, r1, ?_⟩
      simp only [gsCons] at q
      cases e : g d ρ with
      | some ρ1 =>
        rw [e] at q
        exact fun σ1 R1 a1 => ⟨b, S, ρ1, ds, R1, r2, by
          simp only [Option.bind_some] at q
          split at q
          · exact fun σ2 R2 a2 => q σ2 R2 (agree_trans a1 a2)
          · exact q.elim⟩
      | none => rw [e] at q; exact q.elim
theorem mg_tup {es : List Expr} {k : Nat} {is : List Nat} {t : FGs} {n : Nat} (hc : X.calm = true) (h : MGs X hx es is t) (hn : (assignEach es X.env).length = n := by rfl) (hst : (assignEach es X.env).findIdx? (·.1) = none := by rfl) : MG X hx (.Tuple es k pos) is (gTup n t) :=
  pg_imp (pg_tup hc h hn hst) fun v σ H Q ⟨b, S, ρ, d, R, r, q⟩ => by
    cases r with
    | @tup a xs ds h1 h2 =>
      by_cases hl : ds.length = n
      · have e : gTup n t (.tup ds) ρ = t ds ρ := if_pos hl
        rw [e] at q
        exact ⟨a, xs, rfl, same_t R.sh h1, by rw [h2.len]; exact hl, b, S, ρ, ds, R, h2, q⟩
      · have e : gTup n t (.tup ds) ρ = none := if_neg hl
        rw [e] at q
        exact q.elim
    | _ => exact q.elim
/-- a, b = e -/
@[simp] def gAsg (g : FG) (f : Sl → Res D) (ρ : Sl) : Out := rS (f ρ) ρ fun d => match g d ρ with
  | some ρ' => .nx ρ'
  | none => .bad
theorem ms_asg {W : WX} {tg e : Expr} {is : List Nat} {g : FG} {f : Sl → Res D} (he : ME X hx W e f) (hg : MG X hx tg is g) (hs : swapsWithSole [tg] e pos.line X.env = pure false := by rfl) (hw : swappedStores [tg] e X.env = pure none := by rfl)
    (h1 : (assignEach [tg] X.env).map (·.2) = [assign tg X.env] := by rfl) : MS X hx W (.Assign [tg] e pos) (gAsg g f) := ps_imp (ps_asg he hg hs hw h1) fun D σ H ⟨b, S, ρ, R, q⟩ =>
  ⟨b, S, ρ, R, rS_po R q fun d v S1 H1 g1 r1 k => by
    refine ⟨b, S1, ρ, d, R.grow g1, r1, ?_⟩
    cases e : g d ρ with
    | some ρ' => rw [e] at k; exact fun σ' R' _ => k S1 σ' H1 g1.s R'
    | none => rw [e] at k; exact k⟩
end
end PF

set_option Elab.async false
set_option linter.all false
set_option maxRecDepth 100000
set_option maxHeartbeats 4000000
namespace PF
open PySem PySem.Spec L2

/-! ### lists that a slot alone holds -/
@[simp] def gApp (i : Nat) (f : Sl → Res D) (ρ : Sl) : Out := match ρ[i]? with
  | some (.o ds) => rS (f ρ) ρ fun d => if ds.length < 16777216 then .nx (ρ.set i (.o (ds ++ [d]))) else .bad
  | _ => .bad
@[simp] def gSto (i : Nat) (fi f : Sl → Res D) (ρ : Sl) : Out := match ρ[i]? with
  | some (.o ds) => rS (f ρ) ρ fun d => rS (fi ρ) ρ fun k => match k with
    | .int n => match ixN ds.length n with
      | some j => .nx (ρ.set i (.o (ds.set j d)))
      | none => .bad
    | _ => .bad
  | _ => .bad
@[simp] noncomputable def gPopAt (j i : Nat) (f : Sl → Res D) (ρ : Sl) : Out := match ρ[i]? with
  | some (.o ds) => rS (f ρ) ρ fun k => match k with
    | .int n => if cb (-(2 ^ 63) ≤ n ∧ n < 2 ^ 63) then (match seqIndex? n ds.length with
      | some m => match ds[m]? with
        | some d => .nx ((ρ.set i (.o (ds.eraseIdx m))).set j (.v d))
        | none => .bad
      | none => .bad) else .bad
    | _ => .bad
  | _ => .bad
@[simp] def gAug (i : Nat) (g : D → D → Res D) (f : Sl → Res D) (ρ : Sl) : Out := match ρ[i]? with
  | some (.v x) => rS (f ρ) ρ fun y => rS (g x y) ρ fun z => .nx (ρ.set i (.v z))
  | _ => .bad
theorem size16 {n : Nat} (h : n < 16777216) : n < sizeLine := by rw [sizeLine_eq]; exact h
section
variable {X : Cx} {hx : Hx} {W : WX} {e c o : Expr} {f : Sl → Res D} {pos : Pos}
theorem ms_app (i : Nat) {x : Str} {p ap ep : Pos} (hv : PE X (.Name x p) (tVar i)) (he : ME X hx W e f) (hs : swapsWith (.Call (.Attribute (.Name x p) "append" ap) [e] [] ep) none pos.line X.env = pure false := by rfl)
    (h : ∀ {t}, PE X e t → PE X (.Call (.Attribute (.Name x p) "append" ap) [e] [] ep) (tBM X.K "list" rAppend (tVar i) (tCons t tNil)) := by
      intro t ht; exact pe_bm PySem.F.plainAttrs_list PySem.F.slot_list_append PySem.F.type_list_append mt_append (pv _) (pa_cons ht pa_nil)) :
    MS X hx W (.Expr (.Call (.Attribute (.Name x p) "append" ap) [e] [] ep) pos) (gApp i f) := ps_imp (ps_expr (h he) hs) fun D σ H ⟨b, S, ρ, R, q⟩ => by
  unfold gApp at q
  split at q
  · rename_i ds e1
    obtain ⟨p, vs, h1, h2, h3, h4, h5⟩ := R.own i ds e1
    refine ⟨_, h1, .inl ⟨rfl, _, SqL.of h2⟩, b, S, ρ, R, rS_po R q fun d v S1 H1 g1 r1 k => ?_⟩
    split at k
    · rename_i hl
      refine ⟨p, vs, v, rfl, rfl, g1.h _ _ h2, size16 (by rw [h5.len]; exact hl), ?_⟩
      exact k S1 σ _ g1.s ((R.grow g1).mut e1 h1 ((h5.up g1.s _ _).app (.cons r1 .nil)))
    · exact k.elim
  · exact q.elim
theorem ms_sto (i : Nat) {x : Str} {ix : Expr} {fi : Sl → Res D} {p sp : Pos} (hv : PE X (.Name x p) (tVar i)) (hi : ME X hx W ix fi) (he : ME X hx W e f)
    (ha : ∀ v, assign (.Subscript (.Name x p) ix sp) X.env v = (do
      let ov ← holding [v] (eval (.Name x p) X.env)
      let iv ← holding [v, ov] (eval ix X.env)
      standAt sp
      holding [v, ov, iv] (setItem ov iv v)
      release [v, ov, iv] []) := by intro _; rfl)
    (hs : swapsWithSole [.Subscript (.Name x p) ix sp] e pos.line X.env = pure false := by rfl) (hw : swappedStores [.Subscript (.Name x p) ix sp] e X.env = pure none := by rfl)
    (h1 : (assignEach [.Subscript (.Name x p) ix sp] X.env).map (·.2) = [assign (.Subscript (.Name x p) ix sp) X.env] := by rfl) :
    MS X hx W (.Assign [.Subscript (.Name x p) ix sp] e pos) (gSto i fi f) := ps_imp (ps_asg he (pg_sub hv hi set_list ha) hs hw h1) fun D σ H ⟨b, S, ρ, R, q⟩ => by
  unfold gSto at q
  split at q
  · rename_i ds e1
    obtain ⟨p, vs, h1, h2, h3, h4, h5⟩ := R.own i ds e1
    refine ⟨b, S, ρ, R, rS_po R q fun d v S1 H1 g1 r1 k => ?_⟩
    refine ⟨_, h1, b, S1, ρ, R.grow g1, rS_po (R.grow g1) (PoS.up g1.s k) fun d2 v2 S2 H2 g2 r2 k2 => ?_⟩
    cases d2 with
    | int n =>
      cases r2
      simp only at k2
      split at k2
      · rename_i j hj
        have g := g1.trans g2
        refine ⟨p, vs, n, j, rfl, rfl, g.h _ _ h2, by rw [h5.len]; exact hj, ?_⟩
        exact k2 S2 σ _ g2.s ((R.grow g).mut e1 h1 ((h5.up g.s _ _).set (r1.up g2.s _ _) j))
      · exact k2.elim
    | _ => exact k2.elim
  · exact q.elim
theorem ms_popAt (j i : Nat) {y x : Str} {p py ap ep : Pos} (hN : X.N.Nodup) (hv : PE X (.Name x p) (tVar i)) (he : ME X hx W e f) (hi : X.N[j]? = some y := by rfl) (hl : Loc X.env.scope y := by first | exact Or.inl rfl | exact Or.inr rfl)
    (hs : swapsWith (.Call (.Attribute (.Name x p) "pop" ap) [e] [] ep) (some (.Name y py)) pos.line X.env = pure false := by rfl) (hf : X.fn y = true ∨ X.env.scope.names.lookup y = some .local := by first | exact .inl rfl | exact .inr rfl | assumption)
    (h : ∀ {t}, PE X e t → PE X (.Call (.Attribute (.Name x p) "pop" ap) [e] [] ep) (tBM X.K "list" rPopAt (tVar i) (tCons t tNil)) := by
      intro t ht; exact pe_bm PySem.F.plainAttrs_list PySem.F.slot_list_pop PySem.F.type_list_pop mt_popAt (pv _) (pa_cons ht pa_nil)) :
    MS X hx W (.Assign [.Name y py] (.Call (.Attribute (.Name x p) "pop" ap) [e] [] ep) pos) (gPopAt j i f) := ps_imp (ps_set hN hi hl (h he) hs hf) fun D σ H ⟨b, S, ρ, R, q⟩ => by
  unfold gPopAt at q
  split at q
  · rename_i ds e1
    obtain ⟨p, vs, h1, h2, h3, h4, h5⟩ := R.own i ds e1
    refine ⟨_, h1, .inl ⟨rfl, _, SqL.of h2⟩, b, S, ρ, R, rS_po R q fun d v S1 H1 g1 r1 k => ?_⟩
    cases d with
    | int n =>
      cases r1
      simp only at k
      split at k
      · rename_i hb0
        have hb := of_cb hb0
        split at k
        · rename_i m hm
          split at k
          · rename_i d hd
            obtain ⟨u, hu, ru⟩ := (h5.up g1.s _ _).get hd
            refine ⟨p, vs, n, m, u, rfl, rfl, g1.h _ _ h2, hb.1, hb.2, by rw [h5.len]; exact hm, hu, ?_⟩
            exact k S1 _ _ g1.s (((R.grow g1).mut e1 h1 ((h5.up g1.s _ _).erase m)).put ru)
          · exact k.elim
        · exact k.elim
      · exact k.elim
    | _ => exact k.elim
  · exact q.elim
theorem ms_aug (i : Nat) {x : Str} {op : Operator} {ti : TIp} {g : D → D → Res D} {pos' : Pos} (hN : X.N.Nodup) (ho : PIp X op ti) (hr : O2 X.K X.mg ti g) (he : ME X hx W e f) (hi : X.N[i]? = some x := by rfl) (hl : Loc X.env.scope x := by first | exact Or.inl rfl | exact Or.inr rfl) (hf : X.fn x = true ∨ X.env.scope.names.lookup x = some .local := by first | exact .inl rfl | exact .inr rfl | assumption) :
    MS X hx W (.AugAssign (.Name x pos') op e pos) (gAug i g f) := ps_imp (ps_aug hN hi hl he ho hf) fun D σ H ⟨b, S, ρ, R, q⟩ => by
  unfold gAug at q
  split at q
  · rename_i d e1
    obtain ⟨v, h1, h2⟩ := R.val i d e1
    refine ⟨v, h1, b, S, ρ, R, rS_po R q fun d2 v2 S1 H1 g1 r1 k => ?_⟩
    refine hr S1 σ H1 v v2 d d2 W _ g1.i (Rd1.of g1.i (h2.up g1.s _ _)) (Rd1.of g1.i r1) (rS_po (R.grow g1) (PoS.up g1.s k) fun d3 v3 S3 H3 g3 r3 k3 => ?_)
    exact k3 S3 _ H3 g3.s (((R.grow g1).grow g3).put r3)
  · exact q.elim
end

/-! ### what is walked -/
structure ItD (K : Frg) (mg : Mg) (S1 : Hp) (J : It) (ds : List D) : Prop where
  go : ∀ S H i d, Same S1 S → Same S H → ds[i]? = some d → J.go i H ∧ ∀ x H', J.yld i H x H' → ∃ S', Gr S H S' H' ∧ Rp K mg S' x d
  stop : ∀ S H, Same S1 S → Same S H → J.stop ds.length H
abbrev rrI (K : Frg) (mg : Mg) : RR It (List D) := fun _ S _ J ds => ItD K mg S J ds
abbrev MI (X : Cx) (hx : Hx) (W : WX) (tg e : Expr) (f : Sl → Res (List D)) : Prop := PI X tg e (tG X.K X.mg hx (rrI X.K X.mg) W f)
theorem Po.upI {K : Frg} {mg : Mg} {W : WX} {S H S' H' : Hp} {σ : L2.St} {r : Res (List D)} {Q : It → Hp → Prop} (g : Gr S H S' H') (h : Po K mg (rrI K mg) W S σ H r Q) : Po K mg (rrI K mg) W S' σ H' r Q := h.up g fun _ _ _ _ _ q => q
section
variable {K : Frg} {mg : Mg} {S : Hp} {a : Addr} {vs : List V} {ds : List D}
theorem itd_list (h : SqL K S a vs) (r : RpA K mg S vs ds) : ItD K mg S (Itl K a) ds where
  go := fun S' H i d s1 s2 e => by
    obtain ⟨v, h1, h2⟩ := (r.up s1 _ _).get e
    have q : SqL K H a vs := same_l (s1.trans s2) h
    exact ⟨⟨vs, v, q, h1⟩, fun x H' y => ⟨S', by rw [y.1]; exact Gr.refl s2, by
      have z := y.2 vs q
      rw [h1] at z
      cases z
      exact h2⟩⟩
  stop := fun S' H s1 s2 => ⟨vs, same_l (s1.trans s2) h, by rw [r.len]; exact Nat.le_refl _⟩
theorem itd_tup (h : SqT K S a vs) (r : RpA K mg S vs ds) : ItD K mg S (Itt K a) ds where
  go := fun S' H i d s1 s2 e => by
    obtain ⟨v, h1, h2⟩ := (r.up s1 _ _).get e
    have q : SqT K H a vs := same_t (s1.trans s2) h
    exact ⟨⟨vs, v, q, h1⟩, fun x H' y => ⟨S', by rw [y.1]; exact Gr.refl s2, by
      have z := y.2 vs q
      rw [h1] at z
      cases z
      exact h2⟩⟩
  stop := fun S' H s1 s2 => ⟨vs, same_t (s1.trans s2) h, by rw [r.len]; exact Nat.le_refl _⟩
/-- lo, lo + 1, .. -/
def rngD (lo : Int) (n : Nat) : List D := (List.range n).map fun (k : Nat) => .int (lo + (k : Int))
theorem rngD_len (lo : Int) (n : Nat) : (rngD lo n).length = n := by simp [rngD]
theorem rngD_get {lo : Int} {n i : Nat} {d : D} (h : (rngD lo n)[i]? = some d) : i < n ∧ d = .int (lo + (i : Int)) := by
  unfold rngD at h
  rw [List.getElem?_map] at h
  by_cases hi : i < n
  · rw [List.getElem?_range hi] at h
    exact ⟨hi, (Option.some.inj h).symm⟩
  · rw [List.getElem?_eq_none (by simpa using hi)] at h
    cases h
theorem itd_rng (lo : Int) (n : Nat) : ItD K mg S (Itr lo n) (rngD lo n) where
  go := fun S' H i d s1 s2 e => by
    obtain ⟨h1, rfl⟩ := rngD_get e
    exact ⟨h1, fun x H' y => ⟨S', by rw [y.1]; exact Gr.refl s2, by rw [y.2]; exact .int _⟩⟩
  stop := fun S' H s1 s2 => by rw [rngD_len]; exact Nat.le_refl n
/-- the signs of a text -/
def signsD (x : Str) : List D := x.cps.toList.map fun c => .str ⟨#[c]⟩
theorem itd_str (x : Str) : ItD K mg S (Its x) (signsD x) where
  go := fun S' H i d s1 s2 e => by
    unfold signsD at e
    rw [List.getElem?_map, Array.getElem?_toList] at e
    cases q : x.cps[i]? with
    | none => rw [q] at e; cases e
    | some c =>
      rw [q] at e
      cases (Option.some.inj e)
      have hi : i < x.cps.size := (Array.getElem?_eq_some_iff.mp q).1
      refine ⟨hi, fun y H' z => ⟨S', by rw [z.1]; exact Gr.refl s2, ?_⟩⟩
      obtain ⟨_, c', h1, h2⟩ := z
      rw [q] at h1
      cases h1
      rw [h2]
      exact .str _
  stop := fun S' H s1 s2 => by
    show x.cps.size ≤ (signsD x).length
    simp [signsD]
end
section
variable {X : Cx} {hx : Hx} {W : WX} {tg e a b c : Expr} {f fa fb : Sl → Res D} {pos p : Pos}
theorem pi_or {w1 w2 : TI} (h1 : PI X tg e w1) (h2 : PI X tg e w2) : PI X tg e (fun σ H R => w1 σ H R ∨ w2 σ H R) := ⟨fun pins s σ H R I h => h.elim (h1.run pins s σ H R I) (h2.run pins s σ H R I)⟩
@[simp] def dSeq (d : D) : Res (List D) := match d with
  | .lst ds => .ok ds
  | .rol ds => .ok ds
  | .tup ds => .ok ds
  | .str x => .ok (signsD x)
  | _ => .bad
@[simp] def iSeq (f : Sl → Res D) (ρ : Sl) : Res (List D) := (f ρ).bind dSeq
theorem mi_seq (h : ME X hx W e f) : MI X hx W tg e (iSeq f) := pi_imp (pi_or (pi_list h) (pi_or (pi_tup h) (pi_str h))) fun σ H Q ⟨b, S, ρ, R, q⟩ => by
  unfold iSeq at q
  cases ef : f ρ with
  | ok d =>
    rw [ef] at q
    have go : ∀ {Q' : VK}, (∀ v S' H', Gr S H S' H' → Rp X.K X.mg S' v d → Q' v H') → tG X.K X.mg hx (rrE X.K X.mg) W f σ H Q' := fun {Q'} k => ⟨b, S, ρ, R, by rw [ef]; exact k⟩
    cases d with
    | lst ds => exact .inl (go fun v S1 H1 g1 r1 => by
        cases r1 with
        | lst h1 h2 => exact ⟨_, rfl, ⟨_, SqL.of (g1.i _ _ h1)⟩, q _ S1 H1 g1 (itd_list (SqL.of h1) h2)⟩)
    | rol ds => exact .inl (go fun v S1 H1 g1 r1 => by
        cases r1 with
        | rol h1 h2 => exact ⟨_, rfl, ⟨_, same_l g1.i h1⟩, q _ S1 H1 g1 (itd_list h1 h2)⟩)
    | tup ds => exact .inr (.inl (go fun v S1 H1 g1 r1 => by
        cases r1 with
        | tup h1 h2 => exact ⟨_, rfl, ⟨_, same_t g1.i h1⟩, q _ S1 H1 g1 (itd_tup h1 h2)⟩))
    | str x => exact .inr (.inr (go fun v S1 H1 g1 r1 => by
        cases r1 with
        | str _ => exact ⟨_, rfl, q _ S1 H1 g1 (itd_str x)⟩))
    | _ => exact q.elim
  | exc x fs =>
    rw [ef] at q
    exact .inl ⟨b, S, ρ, R, by rw [ef]; exact q⟩
  | bad => rw [ef] at q; exact q.elim
@[simp] noncomputable def gRng1 (ds : List D) : Res (List D) := match ds with
  | [.int j] => if cb (-(2 ^ 62) ≤ j ∧ j < 2 ^ 62) then .ok (rngD 0 j.toNat) else .bad
  | _ => .bad
@[simp] noncomputable def gRng2 (ds : List D) : Res (List D) := match ds with
  | [.int i, .int j] => if cb ((-(2 ^ 62) ≤ i ∧ i < 2 ^ 62) ∧ -(2 ^ 62) ≤ j ∧ j < 2 ^ 62) then .ok (rngD i (j - i).toNat) else .bad
  | _ => .bad
theorem RpA.two {K : Frg} {mg : Mg} {S : Hp} {vs : List V} {d e : D} (r : RpA K mg S vs [d, e]) : ∃ v w, vs = [v, w] ∧ Rp K mg S v d ∧ Rp K mg S w e := by
  cases r with
  | cons a t =>
    cases t with
    | cons b t => cases t; exact ⟨_, _, rfl, a, b⟩
theorem RpA.one {K : Frg} {mg : Mg} {S : Hp} {vs : List V} {d : D} (r : RpA K mg S vs [d]) : ∃ v, vs = [v] ∧ Rp K mg S v d := by
  cases r with
  | cons a t => cases t; exact ⟨_, rfl, a⟩
@[simp] noncomputable def iRg1 (fs : Sl → Res (List D)) (ρ : Sl) : Res (List D) := (fs ρ).bind gRng1
@[simp] noncomputable def iRg2 (fs : Sl → Res (List D)) (ρ : Sl) : Res (List D) := (fs ρ).bind gRng2
theorem mi_rng1 {fs : Sl → Res (List D)} (hg : Gl X "range") (hm : X.mg "range" = none) (ha : MA X hx W [a] fs) (hs : starEach [a] X.env = [(false, eval a X.env)] := by rfl) : MI X hx W tg (.Call (.Name "range" p) [a] [] pos) (iRg1 fs) :=
  pi_imp (pi_range1 hg hm ha hs) fun σ H Q ⟨b, S, ρ, R, q⟩ => ⟨b, S, ρ, R, q.bind fun d v S1 H1 g1 r1 k => by
    unfold gRng1 at k
    split at k
    · rename_i j
      obtain ⟨v1, rfl, r2⟩ := r1.one
      cases r2
      split at k
      · rename_i hb0
        have hb := of_cb hb0
        exact ⟨j, rfl, hb.1, hb.2, k _ S1 H1 g1 (itd_rng 0 _)⟩
      · exact k.elim
    · exact k.elim⟩
theorem mi_rng2 {fs : Sl → Res (List D)} (hg : Gl X "range") (hm : X.mg "range" = none) (ha : MA X hx W [a, c] fs) (hs : starEach [a, c] X.env = [(false, eval a X.env), (false, eval c X.env)] := by rfl) (hs2 : starEach [c] X.env = [(false, eval c X.env)] := by rfl) : MI X hx W tg (.Call (.Name "range" p) [a, c] [] pos) (iRg2 fs) :=
  pi_imp (pi_range2 hg hm ha hs hs2) fun σ H Q ⟨b, S, ρ, R, q⟩ => ⟨b, S, ρ, R, q.bind fun d v S1 H1 g1 r1 k => by
    unfold gRng2 at k
    split at k
    · rename_i i j
      obtain ⟨v1, v2, rfl, r2, r3⟩ := r1.two
      cases r2
      cases r3
      split at k
      · rename_i hb0
        have hb := of_cb hb0
        exact ⟨i, j, rfl, ⟨hb.1.1, hb.1.2, hb.2.1, hb.2.2⟩, k _ S1 H1 g1 (itd_rng i _)⟩
      · exact k.elim
    · exact k.elim⟩
end

/-! ### for, while -/
def forRun (g : FG) (body : Sl → Out) : List D → Sl → Out
  | [], ρ => .nx ρ
  | d :: ds, ρ => match g d ρ with
    | some ρ1 => match body ρ1 with
      | .nx ρ2 => forRun g body ds ρ2
      | .ct ρ2 => forRun g body ds ρ2
      | .bk ρ2 => .nx ρ2
      | .ret d => .ret d
      | .exc x fs ρ2 => .exc x fs ρ2
      | .bad => .bad
    | none => .bad
@[simp] def gFor (items : Sl → Res (List D)) (g : FG) (body : Sl → Out) (ρ : Sl) : Out := rS (items ρ) ρ fun ds => forRun g body ds ρ
def whRun (t : Sl → Res Bool) (body : Sl → Out) : Nat → Sl → Out
  | 0, _ => .bad
  | n + 1, ρ => rS (t ρ) ρ fun b => if b then (match body ρ with
      | .nx ρ2 => whRun t body n ρ2
      | .ct ρ2 => whRun t body n ρ2
      | .bk ρ2 => .nx ρ2
      | .ret d => .ret d
      | .exc x fs ρ2 => .exc x fs ρ2
      | .bad => .bad) else .nx ρ
def gWh (fuel : Sl → Nat) (t : Sl → Res Bool) (body : Sl → Out) (ρ : Sl) : Out := whRun t body (fuel ρ) ρ
section
variable {X : Cx} {hx : Hx} {W : WX} {tg e c : Expr} {body : List Stmt} {pos : Pos}
theorem ms_for {is : List Nat} {items : Sl → Res (List D)} {g : FG} {gb : Sl → Out} (hp : PassesOwn (model X.prog X.w) X.A X.env X.xe) (hc : X.calm = true) (hi : MI X hx W tg e items) (hg : MG X hx tg is g) (hb : MSs X hx W body gb)
    (hs : ∀ x, foldedSetIterable e X.env x = pure x := by intro _; rfl) : MS X hx W (.For tg e body [] pos) (gFor items g gb) := ps_imp (ps_for hp hc hi hg hb hs) fun D σ H ⟨b, S, ρ, R, q⟩ =>
  ⟨b, S, ρ, R, rS_po R q fun ds J S1 H1 g1 r1 k => by
    refine ⟨fun i m σ' H' => m = ds.length - i ∧ i ≤ ds.length ∧ ∃ S' ρ', Same S1 S' ∧ Rel X.K X.mg hx b S' ρ' σ' H' ∧ PoS X.K X.mg hx W b S' (forRun g gb (ds.drop i) ρ') D, ⟨ds.length, rfl, Nat.zero_le _, S1, ρ, Same.refl _, R.grow g1, PoS.up g1.s k⟩, ?_⟩
    rintro i m σ' H' ⟨rfl, hi, S', ρ', s1, R', k'⟩
    by_cases hlt : i < ds.length
    · have ed : ds.drop i = ds[i] :: ds.drop (i + 1) := List.drop_eq_getElem_cons hlt
      obtain ⟨go, yl⟩ := r1.go S' H' i ds[i] s1 R'.sh (List.getElem?_eq_getElem hlt)
      refine .inr ⟨go, fun σ2 H2 => ∃ S2 ρ2, Same S1 S2 ∧ Rel X.K X.mg hx b S2 ρ2 σ2 H2 ∧ PoS X.K X.mg hx W b S2 (forRun g gb (ds.drop (i + 1)) ρ2) D, fun σ2 H2 w => ⟨ds.length - (i + 1), by omega, rfl, hlt, w⟩, fun x H2 y => ?_⟩
      obtain ⟨S2, g2, r2⟩ := yl x H2 y
      refine ⟨b, S2, ρ', ds[i], R'.grow g2, r2, ?_⟩
      rw [ed] at k'
      unfold forRun at k'
      cases eg : g ds[i] ρ' with
      | none => rw [eg] at k'; exact k'.elim
      | some ρ1 =>
        rw [eg] at k'
        intro σ3 R3 _
        refine ⟨b, S2, ρ1, R3, ?_⟩
        simp only at k'
        cases eb : gb ρ1 with
        | nx ρ2 => rw [eb] at k'; exact fun S4 σ4 H4 s4 R4 => ⟨S4, ρ2, (s1.trans g2.s).trans s4, R4, PoS.up (g2.s.trans s4) k'⟩
        | ct ρ2 => rw [eb] at k'; exact fun S4 σ4 H4 s4 R4 => ⟨S4, ρ2, (s1.trans g2.s).trans s4, R4, PoS.up (g2.s.trans s4) k'⟩
        | bk ρ2 => rw [eb] at k'; exact fun S4 σ4 H4 s4 R4 => k' S4 σ4 H4 (g2.s.trans s4) R4
        | ret d => rw [eb] at k'; exact k'
        | exc x fs ρ2 => rw [eb] at k'; exact PoS.up g2.s k'
        | bad => rw [eb] at k'; exact k'.elim
    · have ei : i = ds.length := by omega
      subst ei
      rw [List.drop_length] at k'
      exact .inl ⟨r1.stop S' H' s1 R'.sh, k' S' σ' H' (Same.refl _) R'⟩⟩
theorem ms_while {t : Sl → Res Bool} {gb : Sl → Out} (fuel : Sl → Nat) (hp : PassesOwn (model X.prog X.w) X.A X.env X.xe) (hc : MT X hx W c t) (hb : MSs X hx W body gb) : MS X hx W (.While c body [] pos) (gWh fuel t gb) := ps_imp (ps_while hp hc hb) fun D σ H ⟨b, S, ρ, R, q⟩ => by
  refine ⟨fun m σ' H' => ∃ S' ρ', Same S S' ∧ Rel X.K X.mg hx b S' ρ' σ' H' ∧ PoS X.K X.mg hx W b S' (whRun t gb m ρ') D, ⟨fuel ρ, S, ρ, Same.refl _, R, q⟩, ?_⟩
  rintro m σ' H' ⟨S', ρ', s1, R', k'⟩
  cases m with
  | zero => exact k'.elim
  | succ m =>
    refine ⟨b, S', ρ', R', rS_po R' k' fun d v S1 H1 g1 r1 k => ?_⟩
    cases r1
    cases d with
    | false => exact iteF (k S1 σ' H1 g1.s (R'.grow g1))
    | true =>
      refine iteT ⟨fun σ2 H2 => ∃ S2 ρ2, Same S S2 ∧ Rel X.K X.mg hx b S2 ρ2 σ2 H2 ∧ PoS X.K X.mg hx W b S2 (whRun t gb m ρ2) D, fun σ2 H2 w => ⟨m, Nat.lt_succ_self _, w⟩, b, S1, ρ', R'.grow g1, ?_⟩
      simp only [if_true] at k
      cases eb : gb ρ' with
      | nx ρ2 => rw [eb] at k; exact fun S4 σ4 H4 s4 R4 => ⟨S4, ρ2, (s1.trans g1.s).trans s4, R4, PoS.up (g1.s.trans s4) k⟩
      | ct ρ2 => rw [eb] at k; exact fun S4 σ4 H4 s4 R4 => ⟨S4, ρ2, (s1.trans g1.s).trans s4, R4, PoS.up (g1.s.trans s4) k⟩
      | bk ρ2 => rw [eb] at k; exact fun S4 σ4 H4 s4 R4 => k S4 σ4 H4 (g1.s.trans s4) R4
      | ret d => rw [eb] at k; exact k
      | exc x fs ρ2 => rw [eb] at k; exact PoS.up g1.s k
      | bad => rw [eb] at k; exact k.elim
end

/-! ### comprehensions -/
@[simp] def wipeS (ρ : Sl) : List Nat → Sl
  | [] => ρ
  | v :: vs => (wipeS ρ vs).set v .e
theorem Rel.wipeL {K : Frg} {mg : Mg} {hx : Hx} {b : Bs} {S H : Hp} {ρ : Sl} {σ : L2.St} (R : Rel K mg hx b S ρ σ H) : ∀ vs : List Nat, Rel K mg hx b S (wipeS ρ vs) (wipe σ vs) H
  | [] => R
  | v :: vs => (R.wipeL vs).wipe1
def Res.nx {α : Type} (r : Res α) : Res α := match r with
  | .ok a => .ok a
  | _ => .bad
def W0 : WX := fun _ _ _ _ => False
def lcRun (g : FG) (t : Sl → Res Bool) (f : Sl → Res D) (ρ : Sl) : List D → List D → Res (List D)
  | [], acc => .ok acc
  | d :: ds, acc => match g d ρ with
    | none => .bad
    | some ρ1 => (t ρ1).nx.bind fun b => if b then (f ρ1).nx.bind fun y => if acc.length < 16777216 then lcRun g t f ρ ds (acc ++ [y]) else .bad
      else lcRun g t f ρ ds acc
@[simp] def fLc (items : Sl → Res (List D)) (g : FG) (t : Sl → Res Bool) (f : Sl → Res D) (vs : List Nat) (ρ : Sl) : Res (List D) := (items ρ).bind fun ds => lcRun g t f (wipeS ρ vs) ds []
theorem wipe_get {σ : L2.St} {i : Nat} : ∀ {vs : List Nat}, i < σ.length → (wipe σ vs)[i]? = if i ∈ vs then some none else σ[i]?
  | [], _ => by simp [wipe]
  | v :: vs, h => by
    unfold wipe
    by_cases e : v = i
    · subst e
      rw [List.getElem?_set_self (by rw [wipe_length]; exact h)]
      simp
    · rw [List.getElem?_set_ne e, wipe_get (vs := vs) h]
      have : (i ∈ v :: vs) ↔ i ∈ vs := by simp [Ne.symm e]
      simp only [this]
theorem agree_wipe {is vs : List Nat} {σ σ' : L2.St} (h : AgreeOff is (wipe σ vs) σ') (hs : ∀ i ∈ is, i ∈ vs) : wipe σ' vs = wipe σ vs := by
  have hl : σ'.length = σ.length := h.1.trans (wipe_length σ vs)
  apply List.ext_getElem?
  intro i
  by_cases hi : i < σ.length
  · rw [wipe_get (by rw [hl]; exact hi), wipe_get hi]
    by_cases hm : i ∈ vs
    · simp [hm]
    · simp only [hm, if_false]
      rw [h.2 i (fun z => hm (hs i z)), wipe_get hi]
      simp [hm]
  · rw [List.getElem?_eq_none (by rw [wipe_length, hl]; omega), List.getElem?_eq_none (by rw [wipe_length]; omega)]
theorem Po.nx0 {α β : Type} {K : Frg} {mg : Mg} {R : RR α β} {W : WX} {S : Hp} {σ : L2.St} {H : Hp} {r : Res β} {Q : α → Hp → Prop} (h : Po K mg R W S σ H r.nx Q) : Po K mg R W0 S σ H r Q := by
  cases r with
  | ok d => exact h
  | exc x fs => exact h.elim
  | bad => exact h
section
variable {X : Cx} {hx : Hx} {W : WX}
abbrev MTs (X : Cx) (hx : Hx) (W : WX) (ifs : List Expr) (t : Sl → Res Bool) : Prop := PTs X ifs (tG X.K X.mg hx rrT W t)
@[simp] def tYesF (_ : Sl) : Res Bool := .ok true
theorem mts_nil : MTs X hx W [] tYesF := ⟨fun pins s σ H Q I ⟨b, S, ρ, R, q⟩ => pts_nil.run pins s σ H Q I (q true S H (Gr.refl R.sh) rfl)⟩
theorem mts_one {c : Expr} {t : Sl → Res Bool} (h : MT X hx W c t) : MTs X hx W [c] t := pts_one h
theorem lc_ok {items : Sl → Res (List D)} {g : FG} {t : Sl → Res Bool} {f : Sl → Res D} {is vs : List Nat} {K : Frg} {mg : Mg} {ts : TE} (his : ∀ i ∈ is, i ∈ vs) : ∀ σ H Q, tG K mg hx (rrF K mg) W (fLc items g t f vs) σ H Q →
    tLc (tG K mg hx (rrI K mg) W items) (gG K mg hx is g) (tG K mg hx rrT W0 t) (tG K mg hx (rrE K mg) W0 f) vs σ H Q := fun σ H Q ⟨b, S, ρ, R, q⟩ =>
  ⟨b, S, ρ, R, q.bind fun ds J S1 H1 g1 r1 k Dl hD => by
    have k1 : Po K mg (rrF K mg) W S1 σ H1 (lcRun g t f (wipeS ρ vs) ds []) Q := Po.upF g1 k
    have hS : S1 Dl = none := same_none g1.i hD
    refine ⟨fun i m H' => m = ds.length - i ∧ i ≤ ds.length ∧ ∃ S' acc vacc, Gr S1 H1 S' H' ∧ S' Dl = none ∧ H' Dl = some (.lst vacc) ∧ RpA K mg S' vacc acc ∧ Po K mg (rrF K mg) W S1 σ H1 (lcRun g t f (wipeS ρ vs) (ds.drop i) acc) Q,
      ⟨ds.length, rfl, Nat.zero_le _, S1, [], [], Gr.lay g1.i hD, hS, upd_same, .nil, k1⟩, ?_⟩
    rintro i m H' ⟨rfl, hi, S', acc, vacc, g', hS', hH', ra, k'⟩
    have R' : Rel K mg hx b S' (wipeS ρ vs) (wipe σ vs) H' := ((R.grow g1).grow g').wipeL vs
    by_cases hlt : i < ds.length
    · have ed : ds.drop i = ds[i] :: ds.drop (i + 1) := List.drop_eq_getElem_cons hlt
      obtain ⟨go, yl⟩ := r1.go S' H' i ds[i] g'.s g'.i (List.getElem?_eq_getElem hlt)
      refine .inr ⟨go, fun H2 => ∃ S2 acc2 vacc2, Gr S1 H1 S2 H2 ∧ S2 Dl = none ∧ H2 Dl = some (.lst vacc2) ∧ RpA K mg S2 vacc2 acc2 ∧ Po K mg (rrF K mg) W S1 σ H1 (lcRun g t f (wipeS ρ vs) (ds.drop (i + 1)) acc2) Q, fun H2 w => ⟨ds.length - (i + 1), by omega, rfl, hlt, w⟩, fun x H2 y => ?_⟩
      obtain ⟨S2, g2, r2⟩ := yl x H2 y
      have nD : S2 Dl = none := g2.n Dl (by rw [hH']; simp) hS'
      refine ⟨b, S2, wipeS ρ vs, ds[i], R'.grow g2, r2, ?_⟩
      rw [ed] at k'
      unfold lcRun at k'
      cases eg : g ds[i] (wipeS ρ vs) with
      | none => rw [eg] at k'; exact k'.elim
      | some ρ1 =>
        rw [eg] at k'
        intro σ3 R3 ag
        refine ⟨agree_wipe ag his, b, S2, ρ1, R3, ?_⟩
        simp only at k'
        refine Po.nx0 (W := W) ?_
        cases et : (t ρ1).nx with
        | exc x fs => cases e2 : t ρ1 <;> rw [e2] at et <;> cases et
        | bad => rw [et] at k'; exact k'.elim
        | ok bt =>
          rw [et] at k'
          intro bb S4 H4 g4 e4
          cases e4
          have gg := (g'.trans g2).trans g4
          have h4D : H4 Dl = some (.lst vacc) := g4.h _ _ (g2.h _ _ hH')
          have n4 : S4 Dl = none := g4.n Dl (by rw [g2.h _ _ hH']; simp) nD
          cases bt with
          | false => exact iteF ⟨S4, acc, vacc, gg, n4, h4D, ra.up (g2.s.trans g4.s) _ _, k'⟩
          | true =>
            refine iteT ⟨b, S4, ρ1, R3.grow g4, ?_⟩
            simp only [Res.bind_ok, if_true] at k'
            refine Po.nx0 (W := W) ?_
            cases ef : (f ρ1).nx with
            | exc x fs => cases e2 : f ρ1 <;> rw [e2] at ef <;> cases ef
            | bad => rw [ef] at k'; exact k'.elim
            | ok y =>
              rw [ef] at k'
              intro v S5 H5 g5 r5
              simp only [Res.bind_ok] at k'
              split at k'
              · rename_i hl
                have g45 := gg.trans g5
                have h5D : H5 Dl = some (.lst vacc) := g5.h _ _ h4D
                have n5 : S5 Dl = none := g5.n Dl (by rw [h4D]; simp) n4
                refine ⟨vacc, h5D, size16 (by rw [ra.len]; exact hl), S5, acc ++ [y], vacc ++ [v], ⟨g45.s, fun a o e => ?_, fun a o e => ?_, g45.n⟩, n5, upd_same, (ra.up ((g2.s.trans g4.s).trans g5.s) _ _).app (.cons r5 .nil), k'⟩
                · rw [upd_ne (fun z => by rw [z, hD] at e; cases e)]; exact g45.h a o e
                · rw [upd_ne (fun z => by rw [z, n5] at e; cases e)]; exact g45.i a o e
              · exact k'.elim
    · have ei : i = ds.length := by omega
      subst ei
      rw [List.drop_length] at k'
      exact .inl ⟨r1.stop S' H' g'.s g'.i, k' _ S' H' g' ⟨Dl, vacc, rfl, hD, hS', hH', ra⟩⟩⟩
theorem mf_lc {elt tg iter : Expr} {ifs : List Expr} {scope : Scope} {own : List (Str × Nat)} {pos : Pos} {items : Sl → Res (List D)} {is : List Nat} {g : FG} {t : Sl → Res Bool} {f : Sl → Res D} (hc : X.calm = true) (hN : X.N.Nodup) (hi : MI X hx W tg iter items) (ok : BlkOk X.N X.env.scope scope own)
    (hg : ∀ (s : Shared) (H : Hp) (C : Addr) (cl : List (Str × Addr)) (fp : List Addr), MG (X.blk s H scope (compEnvC scope cl C X.env) fp) hx tg is g) (ht : ∀ (s : Shared) (H : Hp) (C : Addr) (cl : List (Str × Addr)) (fp : List Addr), MTs (X.blk s H scope (compEnvC scope cl C X.env) fp) hx W0 ifs t)
    (he : ∀ (s : Shared) (H : Hp) (C : Addr) (cl : List (Str × Addr)) (fp : List Addr), ME (X.blk s H scope (compEnvC scope cl C X.env) fp) hx W0 elt f) (his : (is.all fun i => (own.map (·.2)).contains i) = true := by decide) (hs : ∀ x, foldedSetIterable iter X.env x = pure x := by intro _; rfl) :
    MF X hx W (.ListComp elt [⟨tg, iter, ifs, 0⟩] scope pos) (fLc items g t f (own.map (·.2))) :=
  pe_imp (pe_lc hc hN hi ok hg ht he hs) (lc_ok (ts := fun _ _ _ => True) fun i hi => by
    have h1 := List.all_eq_true.mp his i hi
    simpa using h1)
theorem ms_setLcO (i : Nat) {y : Str} {py : Pos} {elt tg iter : Expr} {ifs : List Expr} {scope : Scope} {own : List (Str × Nat)} {pos spos : Pos} {items : Sl → Res (List D)} {is : List Nat} {g : FG} {t : Sl → Res Bool} {f : Sl → Res D} (hc : X.calm = true) (hN : X.N.Nodup)
    (hsw : swapsWith (.ListComp elt [⟨tg, iter, ifs, 0⟩] scope pos) (some (.Name y py)) spos.line X.env = pure true) (hi : MI X hx W tg iter items) (ok : BlkOk X.N X.env.scope scope own)
    (hg : ∀ (s : Shared) (H : Hp) (C : Addr) (cl : List (Str × Addr)) (fp : List Addr), MG (X.blk s H scope (compEnvC scope cl C X.env) fp) hx tg is g) (ht : ∀ (s : Shared) (H : Hp) (C : Addr) (cl : List (Str × Addr)) (fp : List Addr), MTs (X.blk s H scope (compEnvC scope cl C X.env) fp) hx W0 ifs t)
    (he : ∀ (s : Shared) (H : Hp) (C : Addr) (cl : List (Str × Addr)) (fp : List Addr), ME (X.blk s H scope (compEnvC scope cl C X.env) fp) hx W0 elt f) (hy : X.N[i]? = some y := by rfl) (hyl : X.env.scope.names.lookup y = some .local := by rfl) (his : (is.all fun i => (own.map (·.2)).contains i) = true := by decide) (hs : ∀ x, foldedSetIterable iter X.env x = pure x := by intro _; rfl) :
    MS X hx W (.Assign [.Name y py] (.ListComp elt [⟨tg, iter, ifs, 0⟩] scope pos) spos) (gSetO i (fLc items g t f (own.map (·.2)))) :=
  ps_imp (ps_setLc hc hN hy hyl hsw hi ok hg ht he hs) fun D σ H ⟨b, S, ρ, R, q⟩ => lc_ok (ts := fun _ _ _ => True) (fun i hi => by
    have h1 := List.all_eq_true.mp his i hi
    simpa using h1) σ H _ ⟨b, S, ρ, R, rS_po R q fun d v S1 H1 g1 ⟨p, vs, h1, h2, h3, h4, h5⟩ k => by
      subst h1
      exact k S1 _ H1 g1.s (R.putN g1 h2 h3 h4 h5)⟩
end
end PF

set_option Elab.async false
set_option linter.all false
set_option maxRecDepth 100000
set_option maxHeartbeats 4000000
namespace PF
open PySem PySem.Spec L2

/-! ### defs and calls -/
/-- the promise of a def that hands back g of its arguments' data, and changes nothing -/
def spF (K : Frg) (mg : Mg) (n : Nat) (g : List D → Res D) : Sp := fun vs H Q E => ∃ ds S, vs.length = n ∧ Same S H ∧ RpA K mg S vs ds ∧ Po K mg (rrX K mg) (fun cls d _ H' => E cls d H') S [] H (g ds) Q
/-- what a body makes of its arguments: n slots -/
@[simp] def semF (n : Nat) (g : Sl → Out) (ds : List D) : Res D := match g (ds.map Cell.v ++ List.replicate (n - ds.length) .e) with
  | .nx _ => .ok .non
  | .ret d => .ok d
  | .exc x fs _ => .exc x fs
  | _ => .bad
theorem Rel.start {K : Frg} {mg : Mg} {N : List Str} {S H : Hp} {vs : List V} {ds : List D} (i : Same S H) (r : RpA K mg S vs ds) : Rel K mg none ⟨H, S⟩ S (ds.map Cell.v ++ List.replicate (N.length - ds.length) .e) (L2.start N vs) H where
  s0 := Same.refl _
  sh := i
  h0 := Same.refl _
  nw := fun _ _ e => e
  len := by simp [L2.start, r.len]
  val := fun j d e => by
    have hl := r.len
    rw [List.getElem?_append] at e
    split at e
    · rename_i hj
      rw [List.getElem?_map] at e
      cases q : ds[j]? with
      | none => rw [q] at e; cases e
      | some d' =>
        rw [q] at e
        cases e
        obtain ⟨v, h1, h2⟩ := r.get q
        refine ⟨v, ?_, h2⟩
        have hj' : j < vs.length := (List.getElem?_eq_some_iff.mp h1).1
        unfold L2.start
        rw [List.getElem?_append_left (by simpa using hj'), List.getElem?_map, h1]
        rfl
    · rw [List.getElem?_replicate] at e
      split at e <;> cases e
  own := fun j es e => by
    rw [List.getElem?_append] at e
    split at e
    · rw [List.getElem?_map] at e
      cases q : ds[j]? with
      | none => rw [q] at e; cases e
      | some d' => rw [q] at e; cases e
    · rw [List.getElem?_replicate] at e
      split at e <;> cases e
  xc := fun j c fs e => by
    rw [List.getElem?_append] at e
    split at e
    · rw [List.getElem?_map] at e
      cases q : ds[j]? with
      | none => rw [q] at e; cases e
      | some d' => rw [q] at e; cases e
    · rw [List.getElem?_replicate] at e
      split at e <;> cases e
  apart := fun j k es gs p ne e1 => by
    rw [List.getElem?_append] at e1
    split at e1
    · rw [List.getElem?_map] at e1
      cases q : ds[j]? with
      | none => rw [q] at e1; cases e1
      | some d' => rw [q] at e1; cases e1
    · rw [List.getElem?_replicate] at e1
      split at e1 <;> cases e1
theorem Bok.gr {b : Bs} {S H : Hp} (h : Bok b S H) : Gr b.S0 b.H0 S H := ⟨h.s0, h.h0, h.sh, h.nw⟩
abbrev WE0 (E : XK) : WX := fun cls d _ H => E cls d H
/-- what a body's statements may lean on -/
structure Cs (X : Cx) (W : WX) : Prop where
  tk : Takes X W
  po : PassesOwn (model X.prog X.w) X.A X.env X.xe
  hc : X.calm = true
section
variable {P : Program} {w : World} {K : Frg} {mg : Mg} {base : Heap}
theorem fn_ok {x qual : Str} {st : Stmt} {f : Addr} {fd : FuncData} {N ps : List Str} {k : Nat} {g : Sl → Out} (F : Fun K x qual st f fd) (Sc : FnScope N ps (defScope st))
    (hb : ∀ (cdv : Value) (A : Around) (outer : List Env) (s : Shared) (H : Hp) (E : XK), Room k (cxOf (L2.CX P w) P w K mg base N qual (defScope st) f cdv A outer s H E).A → Cs (cxOf (L2.CX P w) P w K mg base N qual (defScope st) f cdv A outer s H E) (WE0 E) →
      MSs (cxOf (L2.CX P w) P w K mg base N qual (defScope st) f cdv A outer s H E) none (WE0 E) (defBody st) g) : FnOk P w K mg base (L2.CX P w) (k + 1) f fd ps (spF K mg ps.length (semF N.length g)) :=
  F.okX Sc (fun vs H Q E h => by obtain ⟨ds, S, h1, _⟩ := h; exact h1) fun cdv A outer s H vs Q E hr h => by
    obtain ⟨ds, S, h1, h2, h3, h4⟩ := h
    refine ⟨_, hb cdv A outer s H E hr ⟨takes_of rfl rfl rfl rfl, passes_of rfl, rfl⟩, ⟨H, S⟩, S, ds.map Cell.v ++ List.replicate (N.length - ds.length) Cell.e, Rel.start (N := N) h2 h3, ?_⟩
    unfold semF at h4
    cases e : g (ds.map Cell.v ++ List.replicate (N.length - ds.length) .e) with
    | nx ρ => rw [e] at h4; exact fun S' σ' H' s1 R' => h4 .non S' H' R'.bok.gr (.inl .non)
    | ret d => rw [e] at h4; exact fun S' H' v bk r => h4 v S' H' bk.gr r
    | exc x fs ρ => rw [e] at h4; exact fun S' σ' H' C dx s1 R' m xd => h4 S' H' C dx R'.bok.gr m xd
    | bk ρ => rw [e] at h4; exact h4.elim
    | ct ρ => rw [e] at h4; exact h4.elim
    | bad => rw [e] at h4; exact h4.elim
/-- a promise of less -/
theorem FnOk.less {k f} {fd : FuncData} {ps : List Str} {n : Nat} {g g' : List D → Res D} (F : FnOk P w K mg base (L2.CX P w) k f fd ps (spF K mg n g)) (h : ∀ ds, g' ds = g ds ∨ g' ds = .bad) : FnOk P w K mg base (L2.CX P w) k f fd ps (spF K mg n g') :=
  F.imp fun vs H Q E ⟨ds, S, h1, h2, h3, h4⟩ => ⟨ds, S, h1, h2, h3, by
    rcases h ds with q | q
    · rw [← q]; exact h4
    · rw [q] at h4; exact h4.elim⟩
end
/-- what a call of a def asks of its place -/
abbrev Cw (X : Cx) (W : WX) : Prop := ∀ σ, PassesAt (L2.CX X.prog X.w) X σ (WE W σ)
theorem Cs.cw {X : Cx} {W : WX} (c : Cs X W) : Cw X W := fun σ => passAt c.tk σ
theorem cw0 {X : Cx} : Cw X W0 := fun σ pins H s e s' I h => by
  obtain ⟨_, _, _, _, _, _, _, _, _, _, _, _, z⟩ := h
  exact z.elim
/-- an argument list has its length -/
theorem len_nil {ρ : Sl} {ds : List D} (h : aNil ρ = .ok ds) : ds.length = 0 := by cases h; rfl
theorem len_cons {f : Sl → Res D} {fs : Sl → Res (List D)} {n : Nat} (ih : ∀ ρ ds, fs ρ = .ok ds → ds.length = n) : ∀ ρ ds, aCons f fs ρ = .ok ds → ds.length = n + 1 := fun ρ ds h => by
  unfold aCons at h
  cases e1 : f ρ with
  | ok d =>
    rw [e1] at h
    cases e2 : fs ρ with
    | ok r =>
      rw [Res.bind_ok, e2] at h
      cases h
      simp [ih ρ r e2]
    | exc y ys => rw [Res.bind_ok, e2] at h; cases h
    | bad => rw [Res.bind_ok, e2] at h; cases h
  | exc y ys => rw [e1] at h; cases h
  | bad => rw [e1] at h; cases h

/-! ### built-ins by their names -/
def aR1 (f : Sl → Res D) (ρ : Sl) : Res D := f ρ
section
variable {X : Cx} {hx : Hx} {W : WX} {x : Str} {p pos : Pos} {a b c : Expr} {id T : String} {r : List V → Hp → VK → Prop} {fa fb fc : Sl → Res D}
/-- a built-in of one operand that it only reads -/
theorem call1_imp {t : TE} {g : D → Res D} (hr : U1 X.K X.mg (fun v => r [v]) g) (h : PE X c (tCB r (tCons t tNil))) (hi : t = tG X.K X.mg hx (rrR X.K X.mg) W fa) : ME X hx W c (sUn g fa) := pe_imp h fun σ H Q ⟨b, S, ρ, R, q⟩ => by
  subst hi
  exact ⟨b, S, ρ, R, q.bind fun d v S1 H1 g1 r1 k => hr S1 σ H1 v d W Q g1.i r1 (k.upE g1)⟩
theorem me_b1 {g : D → Res D} (hc : CallR X (.builtin id) r) (hr : U1 X.K X.mg (fun v => r [v]) g) (hm : X.mg x = none) (hv : bootBuiltins x = some (.builtin id)) (ha : MR X hx W a fa) (hg : Gl X x := by rfl) (hn : x ≠ "__name__" := by decide) (hdb : (x == ("__debug__" : Str)) = false := by decide)
    (hs : starEach [a] X.env = (false, eval a X.env) :: starEach [] X.env := by rfl) (hpl : (backTo pos (starEach [] X.env)).any (·.1) = false := by rfl) : ME X hx W (.Call (.Name x p) [a] [] pos) (sUn g fa) :=
  call1_imp hr (pe_callB hc hg hm hv (pa_cons ha pa_nil hs) hn hdb hs hpl) rfl
theorem me_t1 {g : D → Res D} (hc : CallR X (.type T) r) (hr : U1 X.K X.mg (fun v => r [v]) g) (hm : X.mg x = none) (hv : bootBuiltins x = some (.type T)) (ha : MR X hx W a fa) (hg : Gl X x := by rfl) (hn : x ≠ "__name__" := by decide) (hdb : (x == ("__debug__" : Str)) = false := by decide)
    (hs : starEach [a] X.env = (false, eval a X.env) :: starEach [] X.env := by rfl) (hpl : (backTo pos (starEach [] X.env)).any (·.1) = false := by rfl) : ME X hx W (.Call (.Name x p) [a] [] pos) (sUn g fa) :=
  call1_imp hr (pe_callTy hc hg hm hv (pa_cons ha pa_nil hs) hn hdb hs hpl) rfl
theorem call1F_imp {t : TE} {g : D → Res (List D)} (hr : U1F X.K X.mg (fun v => r [v]) g) (h : PE X c (tCB r (tCons t tNil))) (hi : t = tG X.K X.mg hx (rrR X.K X.mg) W fa) : MF X hx W c (fUn g fa) := pe_imp h fun σ H Q ⟨b, S, ρ, R, q⟩ => by
  subst hi
  exact ⟨b, S, ρ, R, q.bind fun d v S1 H1 g1 r1 k => hr S1 σ H1 v d W Q g1.i r1 (k.upF g1)⟩
theorem mf_b1 {g : D → Res (List D)} (hc : CallR X (.builtin id) r) (hr : U1F X.K X.mg (fun v => r [v]) g) (hm : X.mg x = none) (hv : bootBuiltins x = some (.builtin id)) (ha : MR X hx W a fa) (hg : Gl X x := by rfl) (hn : x ≠ "__name__" := by decide) (hdb : (x == ("__debug__" : Str)) = false := by decide)
    (hs : starEach [a] X.env = (false, eval a X.env) :: starEach [] X.env := by rfl) (hpl : (backTo pos (starEach [] X.env)).any (·.1) = false := by rfl) : MF X hx W (.Call (.Name x p) [a] [] pos) (fUn g fa) :=
  call1F_imp hr (pe_callB hc hg hm hv (pa_cons ha pa_nil hs) hn hdb hs hpl) rfl
theorem mf_t1 {g : D → Res (List D)} (hc : CallR X (.type T) r) (hr : U1F X.K X.mg (fun v => r [v]) g) (hm : X.mg x = none) (hv : bootBuiltins x = some (.type T)) (ha : MR X hx W a fa) (hg : Gl X x := by rfl) (hn : x ≠ "__name__" := by decide) (hdb : (x == ("__debug__" : Str)) = false := by decide)
    (hs : starEach [a] X.env = (false, eval a X.env) :: starEach [] X.env := by rfl) (hpl : (backTo pos (starEach [] X.env)).any (·.1) = false := by rfl) : MF X hx W (.Call (.Name x p) [a] [] pos) (fUn g fa) :=
  call1F_imp hr (pe_callTy hc hg hm hv (pa_cons ha pa_nil hs) hn hdb hs hpl) rfl
theorem call2_imp {t u : TE} {g : D → D → Res D} (hr : O2 X.K X.mg (fun v w => r [v, w]) g) (h : PE X c (tCB r (tCons t (tCons u tNil)))) (hi : t = tG X.K X.mg hx (rrR X.K X.mg) W fa) (hj : u = tG X.K X.mg hx (rrR X.K X.mg) W fb) : ME X hx W c (sOp g fa fb) := pe_imp h fun σ H Q ⟨b, S, ρ, R, q⟩ => by
  subst hi hj
  exact ⟨b, S, ρ, R, q.bind fun d v S1 H1 g1 r1 k => ⟨b, S1, ρ, R.grow g1, (k.upE g1).bind fun d2 v2 S2 H2 g2 r2 k2 => hr S2 σ H2 v v2 d d2 W Q g2.i (r1.up g2) r2 (k2.upE g2)⟩⟩
theorem me_b2 {g : D → D → Res D} (hc : CallR X (.builtin id) r) (hr : O2 X.K X.mg (fun v w => r [v, w]) g) (hm : X.mg x = none) (hv : bootBuiltins x = some (.builtin id)) (ha : MR X hx W a fa) (hb : MR X hx W b fb) (hg : Gl X x := by rfl) (hn : x ≠ "__name__" := by decide) (hdb : (x == ("__debug__" : Str)) = false := by decide)
    (hs : starEach [a, b] X.env = (false, eval a X.env) :: starEach [b] X.env := by rfl) (hs2 : starEach [b] X.env = (false, eval b X.env) :: starEach [] X.env := by rfl) (hpl : (backTo pos (starEach [b] X.env)).any (·.1) = false := by rfl) : ME X hx W (.Call (.Name x p) [a, b] [] pos) (sOp g fa fb) :=
  call2_imp hr (pe_callB hc hg hm hv (pa_cons ha (pa_cons hb pa_nil hs2) hs) hn hdb hs hpl) rfl rfl
/-- a built-in function that a module brings (gcd) -/
theorem me_bf2 {g : D → D → Res D} (hc : CallR X (.builtin id) r) (hr : O2 X.K X.mg (fun v w => r [v, w]) g) (hm : X.mg x = some (.builtin id)) (ha : MR X hx W a fa) (hb : MR X hx W b fb) (hg : Gl X x := by rfl) (hdb : (x == ("__debug__" : Str)) = false := by decide)
    (hs : starEach [a, b] X.env = (false, eval a X.env) :: starEach [b] X.env := by rfl) (hs2 : starEach [b] X.env = (false, eval b X.env) :: starEach [] X.env := by rfl) (hpl : (backTo pos (starEach [b] X.env)).any (·.1) = false := by rfl) : ME X hx W (.Call (.Name x p) [a, b] [] pos) (sOp g fa fb) :=
  call2_imp hr (pe_callBfun hc hg hm (pa_cons ha (pa_cons hb pa_nil hs2) hs) hdb hs hpl) rfl rfl
end

/-! ### raise, try -/
/-- an exception class of the program, without an own __init__ -/
structure ExcT (K : Frg) (mg : Mg) (x : Str) (C : Addr) : Prop where
  g : mg x = some (.ref C)
  xk : PySem.W.excIn K C [.type "ValueError", .type "Exception", .type "BaseException", .type "object"] "ValueError.__new__" = true
  kp : PySem.W.keepIn K (.ref C) = true
  sb : PySem.W.subIn K (.ref C) (.type "BaseException") = some true
  ty : PySem.W.typeIn K (.ref C) = some (.type "type")
@[simp] def gRaise (x : Str) (ρ : Sl) : Out := .exc x [] ρ
theorem ms_raise {X : Cx} {hx : Hx} {W : WX} {x m : Str} {C : Addr} {j : Nat} {p p2 pos pos' : Pos} (c : Cs X W) (T : ExcT X.K X.mg x C) (hg : Gl X x := by rfl) (hdb : (x == ("__debug__" : Str)) = false := by decide) :
    MS X hx W (.Raise (some (.Call (.Name x p) [.Constant (.str m) j p2] [] pos')) none pos) (gRaise x) :=
  ps_imp (ps_raise c.hc c.tk (pmk_own PySem.F.excBase_ValueError T.xk T.g T.kp (raises_own T.sb T.ty) hg hdb)) fun D σ H ⟨b, S, ρ, R, q⟩ => q S σ H C none (Same.refl _) R T.g rfl

/-- try: body / except c as n: suite. tab: which exceptions the clause takes; slot i is n's -/
@[simp] def clrC (c : Cell) : Cell := match c with
  | .xc _ _ => .e
  | c => c
@[simp] def gTry (i : Nat) (tab : Str → Option Bool) (body : Sl → Out) (suite : Sl → Out) (ρ : Sl) : Out := match body ρ with
  | .exc x fs ρ1 => match tab x with
    | some true => if i < ρ1.length then (match suite (ρ1.set i (.xc x fs)) with
      | .nx ρ2 => .nx ((ρ2.set i .e).map clrC)
      | .bk ρ2 => .bk ((ρ2.set i .e).map clrC)
      | .ct ρ2 => .ct ((ρ2.set i .e).map clrC)
      | .ret d => .ret d
      | _ => .bad) else .bad
    | some false => .exc x fs ρ1
    | none => .bad
  | o => o
/-- the clause's class takes what the table says -/
def Tab (K : Frg) (mg : Mg) (tab : Str → Option Bool) (c : Value) : Prop := ∀ x C b, mg x = some (.ref C) → tab x = some b → PySem.W.exmOne K (.ref C) c = some b
def hxOf (a : Addr) (cls : Value) (d : Option Addr) : Hx := match cls with
  | .ref C => some (a, C, d)
  | _ => none
theorem Rel.exc {K : Frg} {mg : Mg} {b : Bs} {S H : Hp} {ρ : Sl} {σ : L2.St} {i : Nat} {a C : Addr} {dx : Option Addr} {c : Str} {fs : List (Str × D)} (R : Rel K mg none b S ρ σ H) (hi : i < ρ.length) (hm : mg c = some (.ref C)) (x : Xd K mg S H dx fs) : Rel K mg (some (a, C, dx)) b S (ρ.set i (.xc c fs)) (σ.set i (some (.ref a))) H where
  s0 := R.s0
  sh := R.sh
  h0 := R.h0
  nw := R.nw
  len := by simp [R.len]
  val := fun j d' e => by
    rcases getset e with ⟨_, h2, _⟩ | ⟨h1, h2⟩
    · cases h2
    · obtain ⟨v', h3, h4⟩ := R.val j d' h2
      exact ⟨v', by rw [List.getElem?_set_ne h1]; exact h3, h4⟩
  own := fun j ds e => by
    rcases getset e with ⟨_, h2, _⟩ | ⟨h1, h2⟩
    · cases h2
    · obtain ⟨p, vs, h3, h4⟩ := R.own j ds h2
      exact ⟨p, vs, by rw [List.getElem?_set_ne h1]; exact h3, h4⟩
  xc := fun j c' fs' e => by
    rcases getset e with ⟨h1, h2, h3⟩ | ⟨h1, h2⟩
    · cases h2
      subst h1
      exact ⟨a, C, dx, rfl, by rw [List.getElem?_set_self (by rw [← R.len]; exact hi)], hm, x⟩
    · obtain ⟨_, _, _, q1, _⟩ := R.xc j c' fs' h2
      cases q1
  apart := fun j k ds es p ne e1 e2 e3 e4 => by
    rcases getset e1 with ⟨_, h2, _⟩ | ⟨h1, h2⟩
    · cases h2
    · rcases getset e2 with ⟨_, h4, _⟩ | ⟨h3, h4⟩
      · cases h4
      · rw [List.getElem?_set_ne h1] at e3
        rw [List.getElem?_set_ne h3] at e4
        exact R.apart j k ds es p ne h2 h4 e3 e4
theorem clr_get {ρ : Sl} {i : Nat} {c : Cell} (h : (ρ.map clrC)[i]? = some c) : ∃ c0, ρ[i]? = some c0 ∧ clrC c0 = c := by
  rw [List.getElem?_map] at h
  cases e : ρ[i]? with
  | none => rw [e] at h; cases h
  | some c0 => rw [e] at h; exact ⟨c0, rfl, Option.some.inj h⟩
theorem Rel.clear {K : Frg} {mg : Mg} {hx : Hx} {b : Bs} {S H : Hp} {ρ : Sl} {σ : L2.St} (R : Rel K mg hx b S ρ σ H) : Rel K mg none b S (ρ.map clrC) σ H where
  s0 := R.s0
  sh := R.sh
  h0 := R.h0
  nw := R.nw
  len := by simp [R.len]
  val := fun i d e => by
    obtain ⟨c0, h1, h2⟩ := clr_get e
    cases c0 <;> cases h2
    exact R.val i _ h1
  own := fun i d e => by
    obtain ⟨c0, h1, h2⟩ := clr_get e
    cases c0 <;> cases h2
    exact R.own i _ h1
  xc := fun i c fs e => by
    obtain ⟨c0, h1, h2⟩ := clr_get e
    cases c0 <;> cases h2
  apart := fun i j ds es p ne e1 e2 => by
    obtain ⟨c0, h1, h2⟩ := clr_get e1
    obtain ⟨c1, h3, h4⟩ := clr_get e2
    cases c0 <;> cases h2
    cases c1 <;> cases h4
    exact R.apart i j _ _ p ne h1 h3
theorem ms_try {X : Cx} {W : WX} (i : Nat) {x n : Str} {c : Value} {body suite : List Stmt} {b₀ : Stmt} {np pos pos' : Pos} {gb gs : Sl → Out} {tab : Str → Option Bool} (cs : Cs X W) (hs : X.stack = X.env :: X.outer) (hf : X.env.frame = some X.env.locals) (hN : X.N.Nodup)
    (hc : Names X x c) (ht : Tab X.K X.mg tab c)
    (hb : ∀ (W' : WX) (pn : List (Addr × Obj)) (xe : Value → Shared → Prop), Cs (X.tr pn xe) W' → MSs (X.tr pn xe) none W' body gb)
    (hsu : ∀ (a : Addr) (oe : Obj) (C : Addr) (d : Option Addr) (pn : List (Addr × Obj)), Zc (.ref C) d oe → (∃ vs, oe.data = .fields vs) → MSs (X.suite a ((a, oe) :: pn)) (some (a, C, d)) W0 (b₀ :: suite) gs)
    (hi : X.N[i]? = some n := by rfl) (hln : X.env.kindOf n = some .local := by rfl) :
    MS X none W (.Try body [.ExceptHandler (some (.Name x np)) (some n) (b₀ :: suite) pos'] [] [] pos) (gTry i tab gb gs) :=
  ps_imp (ps_try_as (tb := fun W' => tS X.K X.mg none W' gb) (ts := fun a cls d D σ H => ∃ C, cls = .ref C ∧ tS X.K X.mg (some (a, C, d)) W0 gs D σ H) (Wout := W) hs hf hN hi hln hc cs.tk (fun W' pn xe tk po => hb W' pn xe ⟨tk, po, cs.hc⟩) (fun a oe cls d pn z hv => ⟨fun pins s σ H D I ⟨C, e, q⟩ => by
      subst e
      exact (hsu a oe C d pn z hv).run pins s σ H D I q⟩)) fun D σ H ⟨b, S, ρ, R, q⟩ => by
    refine ⟨b, S, ρ, R, ?_⟩
    unfold gTry at q
    cases e : gb ρ with
    | nx ρ' => rw [e] at q; exact q
    | ret d => rw [e] at q; exact q
    | bk ρ' => rw [e] at q; exact q
    | ct ρ' => rw [e] at q; exact q
    | bad => rw [e] at q; exact q
    | exc y fs ρ1 =>
      rw [e] at q
      intro S1 σ1 H1 C dx s1 R1 hm hxd
      simp only at q
      cases et : tab y with
      | none => rw [et] at q; exact q.elim
      | some tb =>
        rw [et] at q
        refine ⟨tb, ht y C tb hm et, fun e2 a _ => ?_, fun e2 => ?_⟩
        · subst e2
          simp only at q
          split at q
          · rename_i hil
            refine ⟨C, rfl, b, S1, _, Rel.exc R1 hil hm hxd, ?_⟩
            cases es : gs (ρ1.set i (.xc y fs)) with
            | nx ρ2 => rw [es] at q; exact fun S2 σ2 H2 s2 R2 => q S2 _ H2 (s1.trans s2) (R2.wipe1.clear)
            | bk ρ2 => rw [es] at q; exact fun S2 σ2 H2 s2 R2 => q S2 _ H2 (s1.trans s2) (R2.wipe1.clear)
            | ct ρ2 => rw [es] at q; exact fun S2 σ2 H2 s2 R2 => q S2 _ H2 (s1.trans s2) (R2.wipe1.clear)
            | ret d => rw [es] at q; exact q
            | exc y2 fs2 ρ2 => rw [es] at q; exact q.elim
            | bad => rw [es] at q; exact q.elim
          · exact q.elim
        · subst e2
          exact q S1 σ1 H1 C dx s1 R1 hm hxd

/-! ### isinstance of the exception that a suite holds -/
@[simp] def sIsE (i : Nat) (tab : Str → Option Bool) (ρ : Sl) : Res D := match ρ[i]? with
  | some (.xc x []) => match tab x with
    | some b => .ok (.bl b)
    | none => .bad
  | _ => .bad
/-- isinstance(e, c) by the table: every class that may be held is fit to be asked -/
def TabI (K : Frg) (mg : Mg) (tab : Str → Option Bool) (cv : Value) : Prop := ∀ x C b, mg x = some (.ref C) → tab x = some b → ExcC K C ∧ PySem.W.kitOne K (.ref C) cv = some b
def TabT (K : Frg) (mg : Mg) (tab : Str → Option Bool) (cvs : List Value) : Prop := ∀ x C b, mg x = some (.ref C) → tab x = some b → ExcC K C ∧ PySem.W.kitAny K (.ref C) cvs = some b
section
variable {X : Cx} {a D0 : Addr} {oe : Obj} {pn : List (Addr × Obj)} {d : Option Addr} {W : WX} {ce : Expr} {n : Str} {p p1 pos : Pos} {cv : V} {cu : Value}
theorem xd_none {K : Frg} {mg : Mg} {S H : Hp} {dx : Option Addr} (h : Xd K mg S H dx []) : dx = none := by
  cases dx with
  | none => rfl
  | some a =>
    obtain ⟨ns, xs, ds, h1, ⟨h2, h3⟩, h4, h5⟩ := h
    have hl := h5.len
    cases ns with
    | nil => exact absurd rfl h2
    | cons n ns =>
      cases ds with
      | nil => rw [List.length_nil] at hl; rw [hl] at h3; cases h3
      | cons d ds => cases h1
theorem me_isE (i : Nat) {tab : Str → Option Bool} (hz : Zc (.ref D0) d oe) (hf : ∃ vs, oe.data = .fields vs) (ht : TabI X.K X.mg tab cu) (hv : PE (X.suite a ((a, oe) :: pn)) (.Name n p1) (tVar i)) (hc : PE (X.suite a ((a, oe) :: pn)) ce (tC cv)) (k : ClsV cv cu)
    (hm : X.mg "isinstance" = none) (hg : Gl X "isinstance" := by rfl) (hs : starEach [.Name n p1, ce] X.env = (false, eval (.Name n p1) X.env) :: starEach [ce] X.env := by rfl) (hs2 : starEach [ce] X.env = (false, eval ce X.env) :: starEach [] X.env := by rfl) (hpl : (backTo pos (starEach [ce] X.env)).any (·.1) = false := by rfl) :
    ME (X.suite a ((a, oe) :: pn)) (some (a, D0, d)) W (.Call (.Name "isinstance" p) [.Name n p1, ce] [] pos) (sIsE i tab) := ⟨fun pins s σ H Q I ⟨b, S, ρ, R, q⟩ => by
  unfold sIsE at q
  split at q
  · rename_i x e
    obtain ⟨a1, C1, d1, h1, h2, h3, h4⟩ := R.xc i x [] e
    cases h1
    split at q
    · rename_i tb et
      obtain ⟨t1, t2⟩ := ht x D0 tb h3 et
      have hd := xd_none h4
      subst hd
      exact (pe_callB (x := "isinstance") (call_isE (X := X) (a := a) (pn := pn) t1 hz hf) hg hm PyProof.Rows.boot_isinstance (pa_cons hv (pa_cons hc pa_nil hs2) hs) (by decide) (by decide) hs hpl).run pins s σ H Q I ⟨_, h2, cv, cu, tb, rfl, fun u r => k.eq r, t2, q _ S H (Gr.refl R.sh) (.bl tb)⟩
    · exact q.elim
  · exact q.elim⟩
end
end PF

set_option Elab.async false
set_option linter.all false
set_option maxRecDepth 100000
set_option maxHeartbeats 4000000
namespace PF
open PySem PySem.Spec L2

section
variable {K : Frg} {mg : Mg} {S H : Hp}
theorem Rd1.dp {v : V} {d : D} (i : Same S H) (c : d.py.canLay0 = true) (h : Rd1 K mg S H v d) : Dp K H v d.py := by
  cases d with
  | lst ds =>
    obtain ⟨p, vs, rfl, h2, h3⟩ := h
    exact .lst (SqL.of h2) (RpA.dp ds _ (by simpa [D.py, PyData.canLay0] using c) (h3.up i ds vs))
  | _ => exact Rp.dp _ _ c (Rp.up i _ v h)
theorem Rd1.int {v : V} {i : Int} (h : Rd1 K mg S H v (.int i)) : v = .int i := by
  have h' : Rp K mg S v (.int i) := h
  cases h'; rfl
theorem Rd1.bl {v : V} {i : Bool} (h : Rd1 K mg S H v (.bl i)) : v = .bl i := by
  have h' : Rp K mg S v (.bl i) := h
  cases h'; rfl
theorem Rd1.str {v : V} {i : Str} (h : Rd1 K mg S H v (.str i)) : v = .str i := by
  have h' : Rp K mg S v (.str i) := h
  cases h'; rfl
theorem Rd1.lst {v : V} {ds : List D} (h : Rd1 K mg S H v (.lst ds)) : ∃ (p : Addr) (vs : List V), v = .ref p ∧ H p = some (.lst vs) ∧ RpA K mg S vs ds := h
theorem Rd1.rol {v : V} {ds : List D} (i : Same S H) (h : Rd1 K mg S H v (.rol ds)) : ∃ (p : Addr) (vs : List V), v = .ref p ∧ SqL K H p vs ∧ RpA K mg S vs ds := by
  have h' : Rp K mg S v (.rol ds) := h
  cases h' with
  | rol a b => exact ⟨_, _, rfl, same_l i a, b⟩
theorem Rd1.tup {v : V} {ds : List D} (i : Same S H) (h : Rd1 K mg S H v (.tup ds)) : ∃ (p : Addr) (vs : List V), v = .ref p ∧ SqT K H p vs ∧ SqT K S p vs ∧ RpA K mg S vs ds := by
  have h' : Rp K mg S v (.tup ds) := h
  cases h' with
  | tup a b => exact ⟨_, _, rfl, same_t i a, a, b⟩
theorem Rd1.non {v : V} (h : Rd1 K mg S H v .non) : v = .non := by
  have h' : Rp K mg S v .non := h
  cases h'; rfl
end
theorem po_new {K : Frg} {mg : Mg} {W : WX} {S H : Hp} {σ : L2.St} {ds : List D} {vs : List V} {Q : VK} (i : Same S H) (r : RpA K mg S vs ds) (q : Po K mg (rrE K mg) W S σ H (.ok (.tup ds)) Q) : ∀ p, H p = none → Q (.ref p) (upd H p (.tup vs)) := fun p hp =>
  q _ _ _ (Gr.new i hp) (.tup (SqT.of upd_same) (r.up (same_new (same_none i hp)) _ _))
theorem po_newL {K : Frg} {mg : Mg} {W : WX} {S H : Hp} {σ : L2.St} {ds : List D} {vs : List V} {Q : VK} (i : Same S H) (r : RpA K mg S vs ds) (q : Po K mg (rrF K mg) W S σ H (.ok ds) Q) : ∀ p, H p = none → Q (.ref p) (upd H p (.lst vs)) := fun p hp =>
  q _ S _ (Gr.lay i hp) ⟨p, vs, rfl, hp, same_none i hp, upd_same, r⟩

/-! ### operators -/
@[simp] def oAdd (d e : D) : Res D := match d, e with
  | .int i, .int j => .ok (.int (i + j))
  | .str x, .str y => if x.length + y.length ≤ 16777216 then .ok (.str (x ++ y)) else .bad
  | .tup a, .tup b => if a.length + b.length ≤ 16777216 then .ok (.tup (a ++ b)) else .bad
  | .lst a, .lst b => if a.length + b.length ≤ 16777216 then .ok (.lst (a ++ b)) else .bad
  | _, _ => .bad
@[simp] def oAddI (d e : D) : Res D := match d, e with
  | .int i, .int j => .ok (.int (i + j))
  | _, _ => .bad
@[simp] def oSub (d e : D) : Res D := match d, e with
  | .int i, .int j => .ok (.int (i - j))
  | _, _ => .bad
noncomputable def mulOk (i j : Int) : Bool := cb ((Builtin.Int.intBits i : Int) + Builtin.Int.intBits j ≤ 134217728 ∨ i.natAbs < 18446744073709551616 ∨ j.natAbs < 18446744073709551616)
@[simp] noncomputable def oMul (d e : D) : Res D := match d, e with
  | .int i, .int j => if mulOk i j then .ok (.int (i * j)) else .bad
  | _, _ => .bad
noncomputable def divOk (j : Int) : Bool := cb (j ≠ 0 ∧ j.natAbs.log2 < 9000)
/-- .. or the dividend is below 2 ^ 13500 -/
noncomputable def divOkD (i j : Int) : Bool := cb (j ≠ 0 ∧ i.natAbs.log2 < 13500)
@[simp] noncomputable def oFdiv (d e : D) : Res D := match d, e with
  | .int i, .int j => if divOk j || divOkD i j then .ok (.int (i.fdiv j)) else .bad
  | _, _ => .bad
@[simp] def oMod (d e : D) : Res D := match d, e with
  | .int i, .int j => if j ≠ 0 then .ok (.int (i.fmod j)) else .bad
  | _, _ => .bad
@[simp] noncomputable def oPow (d e : D) : Res D := match d, e with
  | .int i, .int j => if cb (0 ≤ j ∧ j ≤ 1000000 ∧ i.natAbs < 2 ^ 64) then .ok (.int (i ^ j.toNat)) else .bad
  | _, _ => .bad
@[simp] def oNeg (d : D) : Res D := match d with
  | .int i => .ok (.int (-i))
  | _ => .bad
def eqOk (d : D) : Bool := SeqAt.shaped d.py
def eqv (d e : D) : Bool := PyData.eqv d.py e.py
@[simp] def oEq (d e : D) : Res D := if eqOk d && eqOk e then .ok (.bl (eqv d e)) else .bad
@[simp] def oNe (d e : D) : Res D := if eqOk d && eqOk e then .ok (.bl (!eqv d e)) else .bad
@[simp] noncomputable def oLt (d e : D) : Res D := match d, e with
  | .int i, .int j => .ok (.bl (cb (i < j)))
  | _, _ => .bad
@[simp] noncomputable def oLe (d e : D) : Res D := match d, e with
  | .int i, .int j => .ok (.bl (cb (i ≤ j)))
  | _, _ => .bad
@[simp] noncomputable def oGt (d e : D) : Res D := match d, e with
  | .int i, .int j => .ok (.bl (cb (j < i)))
  | _, _ => .bad
@[simp] noncomputable def oGe (d e : D) : Res D := match d, e with
  | .int i, .int j => .ok (.bl (cb (j ≤ i)))
  | _, _ => .bad
@[simp] def isNon (d : D) : Bool := match d with
  | .non => true
  | _ => false
@[simp] def oIsN (d e : D) : Res D := match e with
  | .non => .ok (.bl (isNon d))
  | _ => .bad
@[simp] def oNotN (d e : D) : Res D := match e with
  | .non => .ok (.bl (!isNon d))
  | _ => .bad
@[simp] noncomputable def fRep (d e : D) : Res (List D) := match d, e with
  | .lst xs, .int k => if cb (-(2 ^ 63) ≤ k ∧ k < 2 ^ 63 ∧ xs.length * k.toNat ≤ 16777216) then .ok (List.replicate k.toNat xs).flatten else .bad
  | _, _ => .bad
@[simp] def fCat (d e : D) : Res (List D) := match d, e with
  | .lst xs, .lst ys => if xs.length + ys.length ≤ 16777216 then .ok (xs ++ ys) else .bad
  | _, _ => .bad
section
variable {X : Cx}
theorem CMulX_of_small {i j : Int} (h : mulOk i j = true) : IntMulOk i j := by
  rcases of_cb h with h | h | h
  · exact CMulX.ok h
  · exact CMul.ok (.inl ⟨by omega, by omega⟩)
  · exact CMul.ok (.inr ⟨by omega, by omega⟩)
theorem op_mulU : OpR X (binaryOp .Mult) (rI (fun i j => mulOk i j = true) fun i j => .int (i * j)) := opI fun _ _ _ _ _ _ _ hc q => PyProof.Rows.mul_int q (CMulX_of_small hc)
theorem noPy_dividend {x y : Int} (h : x.natAbs.log2 < 13500) : Builtin.divisionGoesByPylong x y = false := by
  have kx : (if x == 0 then 0 else x.natAbs.log2 / 30 + 1) ≤ 450 := by
    by_cases hx : (x == 0) = true
    · rw [if_pos hx]; exact Nat.zero_le _
    · rw [if_neg hx]; omega
  show (decide ((if y == 0 then 0 else y.natAbs.log2 / 30 + 1) > 300) && decide ((if x == 0 then 0 else x.natAbs.log2 / 30 + 1) > (if y == 0 then 0 else y.natAbs.log2 / 30 + 1) + 150)) = false
  by_cases hy : (if y == 0 then 0 else y.natAbs.log2 / 30 + 1) > 300
  · rw [decide_eq_false (p := (if x == 0 then 0 else x.natAbs.log2 / 30 + 1) > (if y == 0 then 0 else y.natAbs.log2 / 30 + 1) + 150) (by omega), Bool.and_false]
  · rw [decide_eq_false hy, Bool.false_and]
theorem op_fdivU : OpR X (binaryOp .FloorDiv) (rI (fun i j => (divOk j || divOkD i j) = true) fun i j => .int (i.fdiv j)) := opI fun i j _ _ _ _ _ hc q => by
  rcases Bool.or_eq_true_iff.mp hc with hc | hc
  · obtain ⟨h1, h2⟩ := of_cb hc
    exact PyProof.Rows.floordiv_int h1 q (.inl (PyProof.noPylong_of_log2 h2))
  · obtain ⟨h1, h2⟩ := of_cb hc
    exact PyProof.Rows.floordiv_int h1 q (.inl (noPy_dividend h2))
abbrev rAddU (K : Frg) : R2 := fun x y H Q => rI0 (fun i j => .int (i + j)) x y H Q ∨ ((fun x y H Q => ∃ i j, x = V.str i ∧ y = V.str j ∧ i.length + j.length ≤ sizeLine ∧ Q (V.str (i ++ j)) H : R2) x y H Q ∨ (rCatA K x y H Q ∨ rCat x y H Q))
theorem op_addU : OpR X (binaryOp .Add) (rAddU X.K) := op_add.or (op_add_str.or (op_catA.or op_cat))
end
section
variable {K : Frg} {mg : Mg}
theorem o_add : O2 K mg (rAddU K) oAdd := fun S σ H x y d e W Q i hx hy q => by
  unfold oAdd at q
  split at q
  · exact .inl ⟨_, _, hx.int, hy.int, q _ _ _ (Gr.refl i) (.int _)⟩
  · split at q
    · rename_i hl
      exact .inr (.inl ⟨_, _, hx.str, hy.str, sizeLine16 hl, q _ _ _ (Gr.refl i) (.str _)⟩)
    · exact q.elim
  · rename_i a b
    split at q
    · rename_i hl
      obtain ⟨p1, v1, rfl, h1, k1, r1⟩ := hx.tup i
      obtain ⟨p2, v2, rfl, h2, k2, r2⟩ := hy.tup i
      refine .inr (.inr (.inl ⟨p1, p2, v1, v2, rfl, rfl, h1, h2, sizeLine16 (by rw [r1.len, r2.len]; exact hl), fun e => ?_, fun _ e => ?_, fun _ _ => po_new i (r1.app r2) q⟩))
      · subst e
        cases r1
        exact q _ S H (Gr.refl i) (.tup k2 r2)
      · subst e
        cases r2
        rw [List.append_nil] at q
        exact q _ S H (Gr.refl i) (.tup k1 r1)
    · exact q.elim
  · split at q
    · rename_i hl
      obtain ⟨p1, v1, rfl, h1, r1⟩ := hx.lst
      obtain ⟨p2, v2, rfl, h2, r2⟩ := hy.lst
      exact .inr (.inr (.inr ⟨p1, p2, v1, v2, rfl, rfl, h1, h2, sizeLine16 (by rw [r1.len, r2.len]; exact hl), fun p hp => q _ _ _ (Gr.new i hp) (.lst upd_same ((r1.app r2).up (same_new (same_none i hp)) _ _))⟩))
    · exact q.elim
  · exact q.elim
theorem o_sub : O2 K mg (rI0 fun i j => .int (i - j)) oSub := fun S σ H x y d e W Q i hx hy q => by
  unfold oSub at q
  split at q
  · exact ⟨_, _, hx.int, hy.int, q _ _ _ (Gr.refl i) (.int _)⟩
  · exact q.elim
theorem o_addI : O2 K mg (rI0 fun i j => .int (i + j)) oAddI := fun S σ H x y d e W Q i hx hy q => by
  unfold oAddI at q
  split at q
  · exact ⟨_, _, hx.int, hy.int, q _ _ _ (Gr.refl i) (.int _)⟩
  · exact q.elim
theorem o_mul : O2 K mg (rI (fun i j => mulOk i j = true) fun i j => .int (i * j)) oMul := fun S σ H x y d e W Q i hx hy q => by
  unfold oMul at q
  split at q
  · split at q
    · rename_i hc
      exact ⟨_, _, hx.int, hy.int, hc, q _ _ _ (Gr.refl i) (.int _)⟩
    · exact q.elim
  · exact q.elim
theorem o_fdiv : O2 K mg (rI (fun i j => (divOk j || divOkD i j) = true) fun i j => .int (i.fdiv j)) oFdiv := fun S σ H x y d e W Q i hx hy q => by
  unfold oFdiv at q
  split at q
  · split at q
    · rename_i hc
      exact ⟨_, _, hx.int, hy.int, hc, q _ _ _ (Gr.refl i) (.int _)⟩
    · exact q.elim
  · exact q.elim
theorem o_mod : O2 K mg (rI (fun _ j => j ≠ 0) fun i j => .int (i.fmod j)) oMod := fun S σ H x y d e W Q i hx hy q => by
  unfold oMod at q
  split at q
  · split at q
    · rename_i hc
      exact ⟨_, _, hx.int, hy.int, hc, q _ _ _ (Gr.refl i) (.int _)⟩
    · exact q.elim
  · exact q.elim
theorem o_pow : O2 K mg (rI CPow fun i j => .int (i ^ j.toNat)) oPow := fun S σ H x y d e W Q i hx hy q => by
  unfold oPow at q
  split at q
  · split at q
    · rename_i hc
      exact ⟨_, _, hx.int, hy.int, of_cb hc, q _ _ _ (Gr.refl i) (.int _)⟩
    · exact q.elim
  · exact q.elim
theorem o_neg : U1 K mg (rU fun i => .int (-i)) oNeg := fun S σ H v d W Q i hx q => by
  unfold oNeg at q
  split at q
  · exact ⟨_, hx.int, q _ _ _ (Gr.refl i) (.int _)⟩
  · exact q.elim
theorem o_eq : O2 K mg (rEqD K) oEq := fun S σ H x y d e W Q i hx hy q => by
  unfold oEq at q
  split at q
  · rename_i hc
    obtain ⟨c1, c2⟩ := Bool.and_eq_true_iff.mp hc
    exact ⟨_, _, hx.dp i (SeqAt.canLay_of_shaped c1), hy.dp i (SeqAt.canLay_of_shaped c2), c1, c2, q _ _ _ (Gr.refl i) (.bl _)⟩
  · exact q.elim
theorem o_ne : O2 K mg (rNeD K) oNe := fun S σ H x y d e W Q i hx hy q => by
  unfold oNe at q
  split at q
  · rename_i hc
    obtain ⟨c1, c2⟩ := Bool.and_eq_true_iff.mp hc
    exact ⟨_, _, hx.dp i (SeqAt.canLay_of_shaped c1), hy.dp i (SeqAt.canLay_of_shaped c2), c1, c2, q _ _ _ (Gr.refl i) (.bl _)⟩
  · exact q.elim
theorem o_lt : O2 K mg (rI0 fun i j => .bl (decide (i < j))) oLt := fun S σ H x y d e W Q i hx hy q => by
  unfold oLt at q
  split at q
  · exact ⟨_, _, hx.int, hy.int, by dsimp only; rw [← cb_dec]; exact q _ _ _ (Gr.refl i) (.bl _)⟩
  · exact q.elim
theorem o_le : O2 K mg (rI0 fun i j => .bl (decide (i ≤ j))) oLe := fun S σ H x y d e W Q i hx hy q => by
  unfold oLe at q
  split at q
  · exact ⟨_, _, hx.int, hy.int, by dsimp only; rw [← cb_dec]; exact q _ _ _ (Gr.refl i) (.bl _)⟩
  · exact q.elim
theorem o_gt : O2 K mg (rI0 fun i j => .bl (decide (j < i))) oGt := fun S σ H x y d e W Q i hx hy q => by
  unfold oGt at q
  split at q
  · exact ⟨_, _, hx.int, hy.int, by dsimp only; rw [← cb_dec]; exact q _ _ _ (Gr.refl i) (.bl _)⟩
  · exact q.elim
theorem o_ge : O2 K mg (rI0 fun i j => .bl (decide (j ≤ i))) oGe := fun S σ H x y d e W Q i hx hy q => by
  unfold oGe at q
  split at q
  · exact ⟨_, _, hx.int, hy.int, by dsimp only; rw [← cb_dec]; exact q _ _ _ (Gr.refl i) (.bl _)⟩
  · exact q.elim
theorem isNon_v {S H : Hp} {v : V} {d : D} (h : Rd1 K mg S H v d) : decide (v = .non) = isNon d := by
  cases d with
  | lst ds => obtain ⟨p, vs, rfl, _⟩ := h; rfl
  | non => have h' : Rp K mg S v _ := h; cases h'; rfl
  | bl b => have h' : Rp K mg S v _ := h; cases h'; rfl
  | int i => have h' : Rp K mg S v _ := h; cases h'; rfl
  | str x => have h' : Rp K mg S v _ := h; cases h'; rfl
  | rol ds => have h' : Rp K mg S v _ := h; cases h'; rfl
  | tup ds => have h' : Rp K mg S v _ := h; cases h'; rfl
  | obj c ns ds => have h' : Rp K mg S v _ := h; cases h'; rfl
  | fr ds => have h' : Rp K mg S v _ := h; cases h'
theorem o_isN : O2 K mg (fun x y H Q => y = .non ∧ Q (.bl (decide (x = .non))) H) oIsN := fun S σ H x y d e W Q i hx hy q => by
  unfold oIsN at q
  split at q
  · exact ⟨hy.non, by rw [isNon_v hx]; exact q _ _ _ (Gr.refl i) (.bl _)⟩
  · exact q.elim
theorem o_notN : O2 K mg (fun x y H Q => y = .non ∧ Q (.bl (!decide (x = .non))) H) oNotN := fun S σ H x y d e W Q i hx hy q => by
  unfold oNotN at q
  split at q
  · exact ⟨hy.non, by rw [isNon_v hx]; exact q _ _ _ (Gr.refl i) (.bl _)⟩
  · exact q.elim
theorem RpA.rep {S : Hp} {vs : List V} {ds : List D} (r : RpA K mg S vs ds) : ∀ n, RpA K mg S (List.replicate n vs).flatten (List.replicate n ds).flatten
  | 0 => .nil
  | n + 1 => by
    rw [List.replicate_succ, List.replicate_succ, List.flatten_cons, List.flatten_cons]
    exact r.app (r.rep n)
theorem f_rep : O2F K mg rRep fRep := fun S σ H x y d e W Q i hx hy q => by
  unfold fRep at q
  split at q
  · split at q
    · rename_i hc0
      have hc := of_cb hc0
      obtain ⟨p, vs, rfl, h1, h2⟩ := hx.lst
      exact ⟨p, _, vs, rfl, hy.int, h1, hc.1, hc.2.1, sizeLine16 (by rw [h2.len]; exact hc.2.2), po_newL i (h2.rep _) q⟩
    · exact q.elim
  · exact q.elim
theorem f_cat : O2F K mg rCat fCat := fun S σ H x y d e W Q i hx hy q => by
  unfold fCat at q
  split at q
  · split at q
    · rename_i hc
      obtain ⟨p, vs, rfl, h1, h2⟩ := hx.lst
      obtain ⟨p', vs', rfl, h3, h4⟩ := hy.lst
      exact ⟨p, p', vs, vs', rfl, rfl, h1, h3, sizeLine16 (by rw [h2.len, h4.len]; exact hc), po_newL i (h2.app h4) q⟩
    · exact q.elim
  · exact q.elim
end
/-- t * k of a tuple (fewer than a thousand items of either) -/
def oRepT (d e : D) : Res D := match d, e with
  | .tup xs, .int k => if xs.isEmpty then .ok (.tup []) else .bad
  | _, _ => .bad

/-! ### places and parts -/
@[simp] def oIx (d e : D) : Res D := match d, e with
  | .lst xs, .int i => match atI xs i with
    | some v => .ok v
    | none => .bad
  | .rol xs, .int i => match atI xs i with
    | some v => .ok v
    | none => .bad
  | .tup xs, .int i => match atI xs i with
    | some v => .ok v
    | none => .bad
  | .str x, .int i => if x.length ≤ 16777216 then (match atI x.cps.toList i with
    | some c => .ok (.str ⟨#[c]⟩)
    | none => .bad) else .bad
  | _, _ => .bad
theorem atI_up {K : Frg} {mg : Mg} {S : Hp} {vs : List V} {ds : List D} {i : Int} {d : D} (r : RpA K mg S vs ds) (h : atI ds i = some d) : ∃ v, atI vs i = some v ∧ Rp K mg S v d := by
  unfold atI at h ⊢
  rw [r.len]
  cases e : ixN ds.length i with
  | none => rw [e] at h; cases h
  | some j =>
    rw [e] at h
    exact r.get h
theorem o_ix {K : Frg} {mg : Mg} : O2 K mg (rIx K) oIx := fun S σ H x y d e W Q i hx hy q => by
  unfold oIx at q
  split at q
  · split at q
    · rename_i v ha
      obtain ⟨p, vs, rfl, h1, h2⟩ := hx.lst
      obtain ⟨u, h3, h4⟩ := atI_up h2 ha
      exact .inl ⟨p, vs, _, u, rfl, hy.int, SqL.of h1, h3, q _ _ _ (Gr.refl i) h4⟩
    · exact q.elim
  · split at q
    · rename_i v ha
      obtain ⟨p, vs, rfl, h1, h2⟩ := hx.rol i
      obtain ⟨u, h3, h4⟩ := atI_up h2 ha
      exact .inl ⟨p, vs, _, u, rfl, hy.int, h1, h3, q _ _ _ (Gr.refl i) h4⟩
    · exact q.elim
  · split at q
    · rename_i v ha
      obtain ⟨p, vs, rfl, h1, _, h2⟩ := hx.tup i
      obtain ⟨u, h3, h4⟩ := atI_up h2 ha
      exact .inr (.inl ⟨p, vs, _, u, rfl, hy.int, h1, h3, q _ _ _ (Gr.refl i) h4⟩)
    · exact q.elim
  · split at q
    · rename_i hl
      split at q
      · rename_i c hc
        exact .inr (.inr ⟨_, _, c, hx.str, hy.int, sizeLine16 hl, hc, q _ _ _ (Gr.refl i) (.str _)⟩)
      · exact q.elim
    · exact q.elim
  · exact q.elim

/-! ### built-ins -/
@[simp] def bLen (d : D) : Res D := match d with
  | .lst xs => .ok (.int xs.length)
  | .rol xs => .ok (.int xs.length)
  | .tup xs => .ok (.int xs.length)
  | .str x => if x.length ≤ 16777216 then .ok (.int x.length) else .bad
  | _ => .bad
@[simp] def bAbs (d : D) : Res D := match d with
  | .int i => .ok (.int (if i < 0 then -i else i))
  | _ => .bad
@[simp] def bInt (d : D) : Res D := match d with
  | .int i => .ok (.int i)
  | .bl b => .ok (.int (if b then 1 else 0))
  | _ => .bad
@[simp] def bTup (d : D) : Res D := match d with
  | .lst xs => .ok (.tup xs)
  | .rol xs => .ok (.tup xs)
  | .tup xs => .ok (.tup xs)
  | _ => .bad
@[simp] def bLst (d : D) : Res (List D) := match d with
  | .lst xs => .ok xs
  | .rol xs => .ok xs
  | .tup xs => .ok xs
  | _ => .bad
@[simp] def bGcd (d e : D) : Res D := match d, e with
  | .int i, .int j => .ok (.int ((Nat.gcd i.natAbs j.natAbs : Nat) : Int))
  | _, _ => .bad
def dInts : List D → Option (List Int)
  | [] => some []
  | .int i :: r => (dInts r).map (i :: ·)
  | _ => none
def dBls : List D → Option (List Bool)
  | [] => some []
  | .bl i :: r => (dBls r).map (i :: ·)
  | _ => none
theorem dInts_map : ∀ {ds : List D} {ns : List Int}, dInts ds = some ns → ds = ns.map D.int
  | [], ns, h => by cases h; rfl
  | d :: r, ns, h => by
    cases d <;> first | cases h | skip
    rename_i i
    simp only [dInts, Option.map_eq_some_iff] at h
    obtain ⟨ms, h1, rfl⟩ := h
    rw [dInts_map h1]
    rfl
theorem dBls_map : ∀ {ds : List D} {ns : List Bool}, dBls ds = some ns → ds = ns.map D.bl
  | [], ns, h => by cases h; rfl
  | d :: r, ns, h => by
    cases d <;> first | cases h | skip
    rename_i i
    simp only [dBls, Option.map_eq_some_iff] at h
    obtain ⟨ms, h1, rfl⟩ := h
    rw [dBls_map h1]
    rfl
@[simp] theorem dInts_ok : ∀ ns : List Int, dInts (ns.map D.int) = some ns
  | [] => rfl
  | n :: ns => by simp [dInts, dInts_ok ns]
@[simp] theorem dBls_ok : ∀ ns : List Bool, dBls (ns.map D.bl) = some ns
  | [] => rfl
  | n :: ns => by simp [dBls, dBls_ok ns]
@[simp] def seqOf (d : D) : Option (List D) := match d with
  | .lst ds => some ds
  | .rol ds => some ds
  | _ => none
theorem Rd1.seq {K : Frg} {mg : Mg} {S H : Hp} {v : V} {d : D} {ds : List D} (i : Same S H) (h : Rd1 K mg S H v d) (e : seqOf d = some ds) : ∃ (p : Addr) (vs : List V), v = .ref p ∧ SqL K H p vs ∧ RpA K mg S vs ds := by
  cases d <;> cases e
  · obtain ⟨p, vs, h1, h2, h3⟩ := h.lst
    exact ⟨p, vs, h1, SqL.of h2, h3⟩
  · exact h.rol i
@[simp] def bSum (d : D) : Res D := match seqOf d with
  | some ds => match dInts ds with
    | some ns => .ok (.int ns.sum)
    | none => .bad
  | none => .bad
@[simp] def bAll (d : D) : Res D := match seqOf d with
  | some ds => match dBls ds with
    | some ns => .ok (.bl (ns.all id))
    | none => .bad
  | none => .bad
@[simp] def bAny (d : D) : Res D := match seqOf d with
  | some ds => match dBls ds with
    | some ns => .ok (.bl (ns.any id))
    | none => .bad
  | none => .bad
@[simp] def bBits (d : D) : Res D := match d with
  | .int i => .ok (.int (Builtin.Int.intBits i : Nat))
  | _ => .bad
/-- the built-in type of a value -/
@[simp] def dTy (d : D) : Option String := match d with
  | .non => some "NoneType"
  | .bl _ => some "bool"
  | .int _ => some "int"
  | .str _ => some "str"
  | .lst _ => some "list"
  | .tup _ => some "tuple"
  | _ => none
@[simp] def bIsi (t : String) (d : D) : Res D := match dTy d with
  | some a => match kitB a t with
    | some b => .ok (.bl b)
    | none => .bad
  | none => .bad
section
variable {K : Frg} {mg : Mg}
theorem b_len : U1 K mg (fun v => (fun xs H Q => ∃ x n, xs = [x] ∧ LenV K x H n ∧ Q (V.int n) H : List V → Hp → VK → Prop) [v]) bLen := fun S σ H v d W Q i hx q => by
  unfold bLen at q
  split at q
  · obtain ⟨p, vs, rfl, h1, h2⟩ := hx.lst
    exact ⟨_, _, rfl, .inl ⟨vs, SqL.of h1, rfl⟩, by rw [h2.len]; exact q _ _ _ (Gr.refl i) (.int _)⟩
  · obtain ⟨p, vs, rfl, h1, h2⟩ := hx.rol i
    exact ⟨_, _, rfl, .inl ⟨vs, h1, rfl⟩, by rw [h2.len]; exact q _ _ _ (Gr.refl i) (.int _)⟩
  · obtain ⟨p, vs, rfl, h1, _, h2⟩ := hx.tup i
    exact ⟨_, _, rfl, .inr ⟨vs, h1, rfl⟩, by rw [h2.len]; exact q _ _ _ (Gr.refl i) (.int _)⟩
  · split at q
    · rename_i hl
      rw [hx.str]
      exact ⟨_, _, rfl, ⟨sizeLine16 hl, rfl⟩, q _ _ _ (Gr.refl i) (.int _)⟩
    · exact q.elim
  · exact q.elim
theorem b_abs : U1 K mg (fun v => (fun xs H Q => ∃ i, xs = [V.int i] ∧ Q (V.int (if i < 0 then -i else i)) H : List V → Hp → VK → Prop) [v]) bAbs := fun S σ H v d W Q i hx q => by
  unfold bAbs at q
  split at q
  · rw [hx.int]; exact ⟨_, rfl, q _ _ _ (Gr.refl i) (.int _)⟩
  · exact q.elim
theorem b_int : U1 K mg (fun v => (fun xs H Q => (∃ i, xs = [V.int i] ∧ Q (V.int i) H) ∨ ∃ k, xs = [V.bl k] ∧ Q (V.int (if k then 1 else 0)) H : List V → Hp → VK → Prop) [v]) bInt := fun S σ H v d W Q i hx q => by
  unfold bInt at q
  split at q
  · rw [hx.int]; exact .inl ⟨_, rfl, q _ _ _ (Gr.refl i) (.int _)⟩
  · rw [hx.bl]; exact .inr ⟨_, rfl, q _ _ _ (Gr.refl i) (.int _)⟩
  · exact q.elim
theorem b_tup : U1 K mg (fun v => (fun xs H Q => ∃ p ys, xs = [V.ref p] ∧ ((SqL K H p ys ∧ ∀ l, H l = none → Q (V.ref l) (upd H l (.tup ys))) ∨ (SqT K H p ys ∧ Q (V.ref p) H)) : List V → Hp → VK → Prop) [v]) bTup := fun S σ H v d W Q i hx q => by
  unfold bTup at q
  split at q
  · obtain ⟨p, vs, rfl, h1, h2⟩ := hx.lst
    exact ⟨p, vs, rfl, .inl ⟨SqL.of h1, po_new i h2 q⟩⟩
  · obtain ⟨p, vs, rfl, h1, h2⟩ := hx.rol i
    exact ⟨p, vs, rfl, .inl ⟨h1, po_new i h2 q⟩⟩
  · obtain ⟨p, vs, rfl, h1, h2, h3⟩ := hx.tup i
    exact ⟨p, vs, rfl, .inr ⟨h1, q _ _ _ (Gr.refl i) (.tup h2 h3)⟩⟩
  · exact q.elim
theorem b_lst : U1F K mg (fun v => (fun xs H Q => ∃ p ys, xs = [V.ref p] ∧ (SqL K H p ys ∨ SqT K H p ys) ∧ ∀ l, H l = none → Q (V.ref l) (upd H l (.lst ys)) : List V → Hp → VK → Prop) [v]) bLst := fun S σ H v d W Q i hx q => by
  unfold bLst at q
  split at q
  · obtain ⟨p, vs, rfl, h1, h2⟩ := hx.lst
    exact ⟨p, vs, rfl, .inl (SqL.of h1), po_newL i h2 q⟩
  · obtain ⟨p, vs, rfl, h1, h2⟩ := hx.rol i
    exact ⟨p, vs, rfl, .inl h1, po_newL i h2 q⟩
  · obtain ⟨p, vs, rfl, h1, h2, h3⟩ := hx.tup i
    exact ⟨p, vs, rfl, .inr h1, po_newL i h3 q⟩
  · exact q.elim
theorem b_gcd : O2 K mg (fun v w => rGcd [v, w]) bGcd := fun S σ H x y d e W Q i hx hy q => by
  unfold bGcd at q
  split at q
  · rw [hx.int, hy.int]; exact ⟨_, _, rfl, q _ _ _ (Gr.refl i) (.int _)⟩
  · exact q.elim
theorem b_sum : U1 K mg (fun v => rSum K [v]) bSum := fun S σ H v d W Q i hx q => by
  unfold bSum at q
  split at q
  · rename_i ds e
    split at q
    · rename_i ns e2
      obtain ⟨p, vs, rfl, h1, h2⟩ := hx.seq i e
      rw [dInts_map e2] at h2
      rw [h2.ints] at h1
      exact ⟨p, ns, rfl, h1, q _ _ _ (Gr.refl i) (.int _)⟩
    · exact q.elim
  · exact q.elim
theorem b_all : U1 K mg (fun v => rAll K [v]) bAll := fun S σ H v d W Q i hx q => by
  unfold bAll at q
  split at q
  · rename_i ds e
    split at q
    · rename_i ns e2
      obtain ⟨p, vs, rfl, h1, h2⟩ := hx.seq i e
      rw [dBls_map e2] at h2
      rw [h2.bls] at h1
      exact ⟨p, ns, rfl, h1, q _ _ _ (Gr.refl i) (.bl _)⟩
    · exact q.elim
  · exact q.elim
theorem b_any : U1 K mg (fun v => rAny K [v]) bAny := fun S σ H v d W Q i hx q => by
  unfold bAny at q
  split at q
  · rename_i ds e
    split at q
    · rename_i ns e2
      obtain ⟨p, vs, rfl, h1, h2⟩ := hx.seq i e
      rw [dBls_map e2] at h2
      rw [h2.bls] at h1
      exact ⟨p, ns, rfl, h1, q _ _ _ (Gr.refl i) (.bl _)⟩
    · exact q.elim
  · exact q.elim
theorem Rd1.tyx {S H : Hp} {v : V} {d : D} {a : String} (i : Same S H) (h : Rd1 K mg S H v d) (e : dTy d = some a) : TyX K H v (.type a) := by
  cases d with
  | non => cases e; rw [h.non]; exact .base .non
  | bl b => cases e; rw [h.bl]; exact .base (.bl b)
  | int n => cases e; rw [h.int]; exact .base (.int n)
  | str x => cases e; rw [h.str]; exact .base (.str x)
  | lst ds => cases e; obtain ⟨p, vs, rfl, h1, h2⟩ := h.lst; exact .base (.lst h1)
  | tup ds =>
    cases e
    obtain ⟨p, vs, rfl, h1, h2, h3⟩ := h.tup i
    rcases h1 with (h1 | ⟨o, h1⟩) | ⟨o, its, n, h1, h2, _⟩
    · exact .base (.tup h1)
    · exact .fTuple h1
    · exact .kTuple h1 h2
  | _ => cases e
/-- isinstance(x, T), T a built-in class -/
theorem me_isi {X : Cx} {hx : Hx} {W : WX} {a : Expr} {fa : Sl → Res D} {t : Str} {T : String} {p p1 pos : Pos} (ha : MR X hx W a fa) (hv : bootBuiltins t = some (.type T)) (hm : X.mg "isinstance" = none) (hm2 : X.mg t = none) (hg : Gl X "isinstance" := by rfl) (hg2 : Gl X t := by rfl) (hn : t ≠ "__name__" := by decide) (hdb : (t == ("__debug__" : Str)) = false := by decide)
    (hs : starEach [a, .Name t p1] X.env = (false, eval a X.env) :: starEach [.Name t p1] X.env := by rfl) (hs2 : starEach [.Name t p1] X.env = (false, eval (.Name t p1) X.env) :: starEach [] X.env := by rfl) (hpl : (backTo pos (starEach [.Name t p1] X.env)).any (·.1) = false := by rfl) :
    ME X hx W (.Call (.Name "isinstance" p) [a, .Name t p1] [] pos) (sUn (bIsi T) fa) :=
  pe_imp (pe_callB (x := "isinstance") call_isi hg hm PyProof.Rows.boot_isinstance (pa_cons ha (pa_cons (pe_bltn (v := .ty T) hg2 hm2 hv rfl hn hdb) pa_nil hs2) hs) (by decide) (by decide) hs hpl) fun σ H Q ⟨b, S, ρ, R, q⟩ => ⟨b, S, ρ, R, q.bind fun d v S1 H1 g1 r1 k => by
    unfold bIsi at k
    split at k
    · rename_i a e1
      split at k
      · rename_i tb e2
        exact ⟨v, .ty T, .type a, .type T, tb, rfl, .ty T, Rd1.tyx g1.i r1 e1, kit_ty e2, k _ S1 H1 g1 (.bl tb)⟩
      · exact k.elim
    · exact k.elim⟩
/-- x.bit_length() -/
theorem me_bits {X : Cx} {hx : Hx} {W : WX} {o : Expr} {fo : Sl → Res D} {apos pos : Pos} (ho : MR X hx W o fo) (hbase : attributeBase o "bit_length" X.env (eval o X.env) = eval o X.env := by rfl) (hline : (apos.endLine == pos.line) = true := by rfl) :
    ME X hx W (.Call (.Attribute o "bit_length" apos) [] [] pos) (sUn bBits fo) := pe_imp (pe_bits ho hbase hline) fun σ H Q ⟨b, S, ρ, R, q⟩ => ⟨b, S, ρ, R, q.bind fun d v S1 H1 g1 r1 k => by
    unfold bBits at k
    split at k
    · exact ⟨_, r1.int, k _ S1 H1 g1 (.int _)⟩
    · exact k.elim⟩
/-- a slice's part -/
abbrev rrP : RR (Option Int) (Option Int) := fun _ _ _ b c => b = c
@[simp] def pNone (_ : Sl) : Res (Option Int) := .ok none
@[simp] def pSome (f : Sl → Res D) (ρ : Sl) : Res (Option Int) := (f ρ).bind fun d => match d with
  | .int i => .ok (some i)
  | _ => .bad
abbrev MP (X : Cx) (hx : Hx) (W : WX) (e : Option Expr) (f : Sl → Res (Option Int)) : Prop := PO X e (tG X.K X.mg hx rrP W f)
theorem po_imp {X : Cx} {e : Option Expr} {t t' : TO} (h : PO X e t) (i : ∀ σ H Q, t' σ H Q → t σ H Q) : PO X e t' := ⟨fun pins s σ H Q I q => h.run pins s σ H Q I (i σ H Q q)⟩
theorem mp_none {X : Cx} {hx : Hx} {W : WX} : MP X hx W none pNone := po_imp po_none fun σ H Q ⟨b, S, ρ, R, q⟩ => q none S H (Gr.refl R.sh) rfl
theorem mp_some {X : Cx} {hx : Hx} {W : WX} {e : Expr} {f : Sl → Res D} (h : ME X hx W e f) : MP X hx W (some e) (pSome f) := po_imp (po_some h) fun σ H Q ⟨b, S, ρ, R, q⟩ => ⟨b, S, ρ, R, q.bind fun d v S1 H1 g1 r1 k => by
  cases d <;> first | exact k.elim | skip
  cases r1
  exact ⟨_, rfl, k _ S1 H1 g1 rfl⟩⟩
theorem Po.upP {W : WX} {S H S' H' : Hp} {σ : L2.St} {r : Res (Option Int)} {Q : Option Int → Hp → Prop} (g : Gr S H S' H') (h : Po K mg rrP W S σ H r Q) : Po K mg rrP W S' σ H' r Q := h.up g fun _ _ _ _ _ q => q
def cutD (xs : List D) (lo hi : Option Int) : List D := (xs.drop (HT.sIx xs.length 0 lo)).take (HT.sIx xs.length xs.length hi - HT.sIx xs.length 0 lo)
theorem RpA.cut {S : Hp} {vs : List V} {ds : List D} (r : RpA K mg S vs ds) (lo hi : Option Int) : RpA K mg S (cutV vs lo hi) (cutD ds lo hi) := by
  unfold cutV cutD
  rw [r.len]
  exact (r.drop _).take _
@[simp] def fSl (f : Sl → Res D) (l h : Sl → Res (Option Int)) (ρ : Sl) : Res (List D) := (f ρ).bind fun d => (l ρ).bind fun lo => (h ρ).bind fun hi => match seqOf d with
  | some xs => .ok (cutD xs lo hi)
  | none => .bad
/-- a slice of a list: new -/
theorem mf_sl {X : Cx} {hx : Hx} {W : WX} {e : Expr} {lo hi : Option Expr} {f : Sl → Res D} {l h : Sl → Res (Option Int)} {pos p2 : Pos} (he : MR X hx W e f) (hl : MP X hx W lo l) (hh : MP X hx W hi h) : MF X hx W (.Subscript e (.Slice lo hi none p2) pos) (fSl f l h) :=
  pe_imp (pe_slice sl_list he hl hh) fun σ H Q ⟨b, S, ρ, R, q⟩ => ⟨b, S, ρ, R, q.bind fun d v S1 H1 g1 r1 k => ⟨b, S1, ρ, R.grow g1, (k.upF g1).bind fun d2 v2 S2 H2 g2 r2 k2 => ⟨b, S2, ρ, (R.grow g1).grow g2, (k2.upF g2).bind fun d3 v3 S3 H3 g3 r3 k3 => by
    cases r2
    cases r3
    split at k3
    · rename_i xs e1
      obtain ⟨p, vs, rfl, h1, h2⟩ := ((r1.up g2).up g3).seq g3.i e1
      exact ⟨p, vs, rfl, h1, po_newL g3.i (h2.cut _ _) (Po.upF g3 k3)⟩
    · exact k3.elim⟩⟩⟩
@[simp] def sSl (f : Sl → Res D) (l h : Sl → Res (Option Int)) (ρ : Sl) : Res D := (f ρ).bind fun d => (l ρ).bind fun lo => (h ρ).bind fun hi => match d with
  | .tup xs => .ok (.tup (cutD xs lo hi))
  | .str x => if x.length ≤ 16777216 then .ok (.str (cutS x lo hi)) else .bad
  | .lst xs => .ok (.lst (cutD xs lo hi))
  | .rol xs => .ok (.lst (cutD xs lo hi))
  | _ => .bad
end
end PF

set_option Elab.async false
set_option linter.all false
set_option maxRecDepth 100000
set_option maxHeartbeats 4000000
namespace PF
open PySem PySem.Spec L2

/-- a def of the text that keeps its promise, as its callers see it -/
structure Df (P : Program) (w : World) (K : Frg) (mg : Mg) (base : Heap) (x : Str) (k : Nat) (f : Addr) (fd : FuncData) (ps : List Str) (g : List D → Res D) : Prop where
  ok : FnOk P w K mg base (L2.CX P w) k f fd ps (spF K mg ps.length g)
  mg : mg x = some (.ref f)
  kp : PySem.W.keepIn K (.ref f) = true
  bi : Binds K fd ps []
theorem Po.freeze {K : Frg} {mg : Mg} {W : WX} {S H : Hp} {σ : L2.St} {r : Res D} {Q : VK} (h : Po K mg (rrE K mg) W S σ H (r.bind thaw) Q) : Po K mg (rrX K mg) W S σ H r Q := by
  cases r with
  | exc y ys => exact h
  | bad => exact h
  | ok d =>
    intro v S' H' g q
    rcases q with q | ⟨xs, rfl, p, vs, rfl, h2, h3, h4, h5⟩
    · cases d <;> first | exact h v S' H' g q | cases q
    · have up : Same S' (upd S' p (.lst vs)) := same_new h3
      refine h _ (upd S' p (.lst vs)) H' ⟨g.s.trans up, g.h, fun a o q => ?_, fun a ha q => ?_⟩ (.lst upd_same (h5.up up _ _))
      · by_cases z : a = p
        · subst z; rw [upd_same] at q; cases q; exact h4
        · rw [upd_ne z] at q; exact g.i a o q
      · rw [upd_ne (fun z => ha (by rw [z]; exact h2))]; exact g.n a ha q
theorem Po.unfr {K : Frg} {mg : Mg} {W : WX} {S H : Hp} {σ : L2.St} {r : Res D} {Q : VK} (h : Po K mg (rrF K mg) W S σ H (r.bind unfr) Q) : Po K mg (rrX K mg) W S σ H r Q := by
  cases r with
  | exc y ys => exact h
  | bad => exact h
  | ok d =>
    intro v S' H' g q
    rcases q with q | ⟨xs, rfl, q⟩
    · cases d <;> first | exact h.elim | cases q
    · exact h v S' H' g q
section
variable {X : Cx} {hx : Hx} {W : WX} {k : Nat} {f : Addr} {fd : FuncData} {ps : List Str} {g : List D → Res D} {x : Str} {p pos : Pos} {e : Expr} {es : List Expr} {fs : Sl → Res (List D)}
theorem call_imp (G : Df X.prog X.w X.K X.mg X.base x k f fd ps g) {σ : L2.St} {H : Hp} {Q : VK} (hfl : ∀ ρ ds, fs ρ = .ok ds → ds.length = ps.length) {b S ρ} (R : Rel X.K X.mg hx b S ρ σ H) (q : Po X.K X.mg (rrX X.K X.mg) W S σ H ((fs ρ).bind g) Q) : Po X.K X.mg (rrA X.K X.mg) W S σ H (fs ρ) fun vs H1 => spF X.K X.mg ps.length g vs H1 Q fun cls d H' => W cls d σ H' := by
  cases ef : fs ρ with
  | exc y ys => rw [ef] at q; exact q
  | bad => rw [ef] at q; exact q
  | ok ds =>
    rw [ef] at q
    intro v S1 H1 g1 r1
    refine ⟨ds, S1, by rw [r1.len]; exact hfl ρ ds ef, g1.i, r1, ?_⟩
    have q1 : Po X.K X.mg (rrX X.K X.mg) W S1 σ H1 (g ds) Q := Po.upX g1 q
    cases eg : g ds with
    | ok d => rw [eg] at q1; exact q1
    | exc y ys => rw [eg] at q1; exact q1
    | bad => rw [eg] at q1; exact q1
theorem bind_bind {α β γ : Type} (r : Res α) (f : α → Res β) (h : β → Res γ) : (r.bind fun a => (f a).bind h) = (r.bind f).bind h := by cases r <;> rfl
theorem me_calD (G : Df X.prog X.w X.K X.mg X.base x k f fd ps g) (hr : Room k X.A) (cw : Cw X W)
    (ha : MA X hx W (e :: es) fs) (hfl : ∀ ρ ds, fs ρ = .ok ds → ds.length = ps.length) (hg : Gl X x := by rfl) (hdb : (x == ("__debug__" : Str)) = false := by decide) (he : starEach (e :: es) X.env = (false, eval e X.env) :: starEach es X.env := by rfl) (hpl : (backTo pos (starEach es X.env)).any (·.1) = false := by rfl) :
    ME X hx W (.Call (.Name x p) (e :: es) [] pos) (sCall g fs) :=
  pe_imp (pe_callS G.ok hr hg G.mg G.kp G.bi cw ha hdb he hpl) fun σ H Q ⟨b, S, ρ, R, q⟩ => ⟨b, S, ρ, R, call_imp G hfl R (Po.freeze (by unfold sCall at q; rw [bind_bind] at q; exact q))⟩
theorem mf_calD (G : Df X.prog X.w X.K X.mg X.base x k f fd ps g) (hr : Room k X.A) (cw : Cw X W)
    (ha : MA X hx W (e :: es) fs) (hfl : ∀ ρ ds, fs ρ = .ok ds → ds.length = ps.length) (hg : Gl X x := by rfl) (hdb : (x == ("__debug__" : Str)) = false := by decide) (he : starEach (e :: es) X.env = (false, eval e X.env) :: starEach es X.env := by rfl) (hpl : (backTo pos (starEach es X.env)).any (·.1) = false := by rfl) :
    MF X hx W (.Call (.Name x p) (e :: es) [] pos) (fCall g fs) :=
  pe_imp (pe_callS G.ok hr hg G.mg G.kp G.bi cw ha hdb he hpl) fun σ H Q ⟨b, S, ρ, R, q⟩ => ⟨b, S, ρ, R, call_imp G hfl R (Po.unfr (by unfold fCall at q; rw [bind_bind] at q; exact q))⟩
end
/-- a, b = e1, e2 (two local names) -/
@[simp] def gPar (i j : Nat) (f h : Sl → Res D) (ρ : Sl) : Out := rS (f ρ) ρ fun d => rS (h ρ) ρ fun e => .nx ((ρ.set i (.v d)).set j (.v e))
theorem ms_par {X : Cx} {hx : Hx} {W : WX} (i j : Nat) {x y : Str} {a b : Expr} {f h : Sl → Res D} {px py pt pos : Pos} {kt k2 pt2} (hc : X.calm = true) (hN : X.N.Nodup) (ha : ME X hx W a f) (hb : ME X hx W b h) (hi : X.N[i]? = some x := by rfl) (hj : X.N[j]? = some y := by rfl) (hij : i ≠ j := by decide)
    (hx' : X.env.scope.names.lookup x = some .local := by rfl) (hy : X.env.scope.names.lookup y = some .local := by rfl)
    (s1 : starEach [a, b] X.env = (false, eval a X.env) :: starEach [b] X.env := by rfl) (s2 : starEach [b] X.env = (false, eval b X.env) :: starEach [] X.env := by rfl)
    (hw : swappedStores [.Tuple [.Name x px, .Name y py] kt pt] (.Tuple [a, b] k2 pt2) X.env = pure (some [x, y]) := by rfl)
    (hs : swapsWithSole [.Tuple [.Name x px, .Name y py] kt pt] (.Tuple [a, b] k2 pt2) pos.line X.env = pure false := by rfl) :
    MS X hx W (.Assign [.Tuple [.Name x px, .Name y py] kt pt] (.Tuple [a, b] k2 pt2) pos) (gPar i j f h) :=
  ps_imp (ps_par hc hN hi hj hij hx' hy (pa_cons ha (pa_cons hb pa_nil s2) s1) hw hs) fun D σ H ⟨b, S, ρ, R, q⟩ =>
    ⟨b, S, ρ, R, rS_po R q fun d v S1 H1 g1 r1 k => ⟨b, S1, ρ, R.grow g1, rS_po (R.grow g1) (PoS.up g1.s k) fun d2 v2 S2 H2 g2 r2 k2 =>
      ⟨v, v2, rfl, k2 S2 _ H2 g2.s ((((R.grow g1).grow g2).put (r1.up g2.s _ _)).put r2)⟩⟩⟩

/-! ### isinstance(e, (c1, c2, ..)) of the exception that a suite holds -/
def rIsET (K : Frg) (D0 a : Addr) : List V → Hp → VK → Prop := fun xs H Q => ∃ (tp : Addr) (cs : List V) (us : List Value) (b : Bool), xs = [.ref a, .ref tp] ∧ H tp = some (.tup cs) ∧ Paired ClsV cs us ∧ PySem.W.kitAny K (.ref D0) us = some b ∧ Q (.bl b) H
theorem call_isET {X : Cx} {a D0 : Addr} {oe : Obj} {pn : List (Addr × Obj)} (C : ExcC X.K D0) (hz : Zc (.ref D0) none oe) (hf : ∃ vs, oe.data = .fields vs) : CallR (X.suite a ((a, oe) :: pn)) (.builtin "isinstance") (rIsET X.K D0 a) := by
  intro pins s σ H xs us Q I r h
  obtain ⟨tp, cs, ws, b, rfl, hT, k, e, q⟩ := h
  obtain ⟨u1, u2, rfl, r1, r2⟩ := vals2 r
  cases (show u1 = Value.ref a from r1)
  cases (show u2 = Value.ref tp from r2)
  obtain ⟨hget, _⟩ := I.pin (a, oe) (List.mem_append.mpr (.inl List.mem_cons_self))
  obtain ⟨vs, hv⟩ := hf
  have J : PySem.W.InstAt s.heap a oe D0 none := by
    obtain ⟨oc, od, oda, osl⟩ := oe
    obtain ⟨h1, h2⟩ := hz
    dsimp only at h1 h2 hv
    subst h1 h2 hv
    exact ⟨hget, rfl, rfl, trivial⟩
  obtain ⟨_, its, rv, o, h1, h2, n, h3⟩ := (show ObjOk X.prog X.w H s.heap tp (.tup cs) from I.hok tp _ hT)
  have e3 := ClsV.all k rv
  subst e3
  obtain ⟨oc, od, dt, sl⟩ := o
  simp only at h2 h3
  subst h2 h3
  exact PySem.W.kia_tup (PySem.W.handS_kitx_exc C.hg C.hk C.hs C.hd C.ha C.hn C.ht C.hm) I.kIn J h1 e (fun z => nomatch z) fun tk => ⟨.bl b, H, I.kept (t' := tk) fun _ _ z => z, rfl, q⟩
def tcs : List V → TA
  | [] => tNil
  | c :: cs => tCons (tC c) (tcs cs)
theorem tcs_run {σ : L2.St} {H : Hp} : ∀ (cs : List V) (Q : List V → Hp → Prop), Q cs H → tcs cs σ H Q
  | [], _, h => h
  | c :: cs, Q, h => tcs_run cs _ h
theorem me_isET {X : Cx} {a D0 : Addr} {oe : Obj} {pn : List (Addr × Obj)} {d : Option Addr} {W : WX} {ces : List Expr} {n : Str} {p p1 pos pt : Pos} {kt} {cvs : List V} {cus : List Value} (i : Nat) {tab : Str → Option Bool} (hz : Zc (.ref D0) d oe) (hf : ∃ vs, oe.data = .fields vs) (ht : TabT X.K X.mg tab cus)
    (hv : PE (X.suite a ((a, oe) :: pn)) (.Name n p1) (tVar i)) (hc : PA (X.suite a ((a, oe) :: pn)) ces (tcs cvs)) (k : Paired ClsV cvs cus) (hm : X.mg "isinstance" = none) (hl : cvs.length ≤ 1000 := by simp) (hg : Gl X "isinstance" := by rfl)
    (hs : starEach [.Name n p1, .Tuple ces kt pt] X.env = (false, eval (.Name n p1) X.env) :: starEach [.Tuple ces kt pt] X.env := by rfl) (hs2 : starEach [.Tuple ces kt pt] X.env = (false, eval (.Tuple ces kt pt) X.env) :: starEach [] X.env := by rfl) (hpl : (backTo pos (starEach [.Tuple ces kt pt] X.env)).any (·.1) = false := by rfl) :
    ME (X.suite a ((a, oe) :: pn)) (some (a, D0, d)) W (.Call (.Name "isinstance" p) [.Name n p1, .Tuple ces kt pt] [] pos) (sIsE i tab) := ⟨fun pins s σ H Q I ⟨b, S, ρ, R, q⟩ => by
  unfold sIsE at q
  split at q
  · rename_i x e
    obtain ⟨a1, C1, d1, h1, h2, h3, h4⟩ := R.xc i x [] e
    cases h1
    split at q
    · rename_i tb et
      obtain ⟨t1, t2⟩ := ht x D0 tb h3 et
      have hd := xd_none h4
      subst hd
      exact (pe_callB (x := "isinstance") (call_isET (X := X) (a := a) (pn := pn) t1 hz hf) hg hm PyProof.Rows.boot_isinstance (pa_cons hv (pa_cons (pe_tup hc) pa_nil hs2) hs) (by decide) (by decide) hs hpl).run pins s σ H Q I ⟨_, h2, tcs_run cvs _ ⟨Nat.le_trans hl (sizeLine16 (by decide)), fun tp htp => ⟨tp, cvs, cus, tb, rfl, upd_same, k, t2, q _ _ _ (Gr.heap R.sh (same_new htp)) (.bl tb)⟩⟩⟩
    · exact q.elim
  · exact q.elim⟩
theorem iop_mulU {X : Cx} : PIp X .Mult (rI (fun i j => mulOk i j = true) fun i j => .int (i * j)) := (opI fun _ _ _ _ _ _ _ hc q => PyProof.Rows.imul_int q (CMulX_of_small hc) : OpR X (inplaceOp .Mult) _)
def whFuel : Nat := 1000000000000000000
/-- no exception leaves -/
theorem fn_calm {P : Program} {w : World} {K : Frg} {mg : Mg} {base : Heap} {k : Nat} {f : Addr} {fd : FuncData} {ps : List Str} {sp : Sp} (F : FnOk P w K mg base (L2.CX P w) k f fd ps sp) : FnOk P w K mg base CX0 k f fd ps (fun vs H Q _ => sp vs H Q fun _ _ _ => False) :=
  ⟨fun vs H Q E h => F.len _ _ _ _ h, fun A outer s H args us vs Q E hr he hb hv h => codeAny_mono (F.run A outer s H args us vs Q _ hr he hb hv h) fun r s' q => by
    cases r with
    | ok fl => cases fl <;> exact q
    | error e =>
      obtain ⟨_, _, _, _, _, _, _, _, _, _, _, _, z⟩ := q
      exact z.elim⟩
/-- law's own promise -/
def spLaw (K : Frg) : Sp := fun vs H Q _ => ∃ (a : Addr) (ns : List Int), vs = [.ref a] ∧ SqL K H a (ns.map V.int) ∧ ns.length ≤ 63 ∧ ∀ H', Q (.bl true) H'
theorem law_ok {P : Program} {w : World} {K : Frg} {mg : Mg} {base : Heap} {k : Nat} {f : Addr} {fd : FuncData} {g : List D → Res D} (F : FnOk P w K mg base (L2.CX P w) k f fd ["script"] (spF K mg 1 g))
    (h : ∀ ns : List Int, ns.length ≤ 63 → g [.rol (ns.map D.int)] = .ok (.bl true)) : FnOk P w K mg base CX0 k f fd ["script"] (spLaw K) :=
  (fn_calm F).imp fun vs H Q E ⟨a, ns, e, hS, hl, q⟩ => by
    subst e
    refine ⟨[.rol (ns.map D.int)], H, rfl, Same.refl _, .cons (.rol hS (RpA.of_ints ns)) .nil, ?_⟩
    rw [h ns hl]
    intro v S' H' g1 r1
    rcases r1 with r1 | ⟨_, e, _⟩
    · cases r1
      exact q H'
    · cases e
end PF

set_option Elab.async false
set_option linter.all false
set_option maxRecDepth 100000
set_option maxHeartbeats 4000000
/-! the head: a law's facts as one Bool of the written part, its defs by their places -/
namespace PF
open PySem PySem.Spec L2

abbrev AlP : Type := Bool × List He.FnW
def obsP (fa : List (Frg → Bool)) (fn : List He.DefD) (K : Frg) : AlP := ((fa.all fun f => f K) && fn.all fun d => d.ok K, fn.map fun d => He.fnW K d.at_)
def valP (fn : List He.DefD) : AlP := (true, fn.map He.DefD.val)
def SaysP (fa : List (Frg → Bool)) (fn : List He.DefD) (K : Frg) : Prop := obsP fa fn K = valP fn
def obsPG (n : Nat) (fa : List (Frg → Bool)) (fn : List He.DefD) (g : Addr → Option Obj) : AlP := obsP fa fn (He.frG g (He.asD g n))
def hookP (n : Nat) (fa : List (Frg → Bool)) (fn : List He.DefD) : PySem.W.Hook where
  α := AlP
  obs := fun s => obsPG n fa fn s.heap.get?
  val := fun _ => valP fn
  says := fun _ h => ∃ K : Frg, K.In h ∧ SaysP fa fn K
  of := fun _ _ e => ⟨_, He.frG_in, e⟩
  keeps := fun _ _ _ ⟨K, hK, c⟩ k => ⟨K, PySem.W.Frag.In.keeps hK k, c⟩
theorem obsPG_eq {n : Nat} {fa : List (Frg → Bool)} {fn : List He.DefD} {g : Addr → Option Obj} {s : Shared} (h : ∀ a, g a = s.heap.get? a) : obsPG n fa fn g = (hookP n fa fn).obs s := by
  have e : g = s.heap.get? := funext h
  rw [e] <;> rfl
section
variable {fa : List (Frg → Bool)} {fn : List He.DefD} {K : Frg}
theorem SaysP.fact (c : SaysP fa fn K) (i : Nat) {f : Frg → Bool} (h : fa[i]? = some f := by rfl) : f K = true := by
  have c1 := (He.ba (show ((fa.all fun f => f K) && fn.all fun d => d.ok K) = true from congrArg (fun z : AlP => z.1) c)).1
  exact List.all_eq_true.mp c1 f (List.mem_of_getElem? h)
theorem SaysP.def_ (c : SaysP fa fn K) (i : Nat) {d : He.DefD} (h : fn[i]? = some d := by rfl) : ∃ fd, FunD K d.name d.qual d.params d.body d.scope (d.dvs K) (d.kws K) (He.fAd K d.at_) fd := by
  have c2 := (He.ba (show ((fa.all fun f => f K) && fn.all fun d => d.ok K) = true from congrArg (fun z : AlP => z.1) c)).2
  have e : fn.map (fun d => He.fnW K d.at_) = fn.map He.DefD.val := congrArg (fun z : AlP => z.2) c
  have e2 : (fn.map fun d => He.fnW K d.at_)[i]? = (fn.map He.DefD.val)[i]? := by rw [e]
  rw [List.getElem?_map, List.getElem?_map, h] at e2
  exact He.DefD.funD (Option.some.inj e2) (List.all_eq_true.mp c2 d (List.mem_of_getElem? h))
end
theorem fun_of {K : Frg} {x qual : Str} {st : Stmt} {f : Addr} {fd : FuncData} {kws : List (Str × V)} (F : FunD K x qual (defArgs st) (defBody st) (defScope st) [] kws f fd) : Fun K x qual st f fd := by
  obtain ⟨oc, od, dV, kV, doc, pm, an, cdv, ct, osl, rfl, h2, h3, h4, h5⟩ := F.ex
  rcases h4 with ⟨_, rfl⟩ | ⟨h, _⟩
  · exact ⟨⟨oc, od, kV, doc, pm, an, cdv, ct, osl, rfl, h2, h3⟩, F.kp⟩
  · exact absurd rfl h
/-- one def of the text: a global one without defaults -/
def dD (x : Str) (st : Stmt) : He.DefD := ⟨(x, none), x, x, defArgs st, defBody st, defScope st, [], []⟩
theorem df_mk {P : Program} {w : World} {K : Frg} {mg : Mg} {base h : Heap} {x : Str} {st : Stmt} {fd : FuncData} {k : Nat} {ps : List Str} {g : List D → Res D} (X : K.In h) (G : h.Ns mainGlobals mg) (F : FunD K x x (defArgs st) (defBody st) (defScope st) [] [] (He.fAd K (x, none)) fd)
    (c : (He.Fa.glo x).ok K = true) (hb : Binds K fd ps []) (ok : FnOk P w K mg base (L2.CX P w) k (He.fAd K (x, none)) fd ps (spF K mg ps.length g)) : Df P w K mg base x k (He.fAd K (x, none)) fd ps g :=
  ⟨ok, He.glo_ok X G c, F.kp, hb⟩
/-- facts of an exception class, of isinstance -/
def excCB (K : Frg) (x : Str) : Bool := He.eqO (PySem.W.findIn K (.ref (He.ga K x)) "__getattribute__") (some (some (.builtin "BaseException.__getattribute__"))) && (He.eqO (PySem.W.findIn K (.ref (He.ga K x)) "__getattr__") (some none) && (decide (PySem.W.subIn K (.ref (He.ga K x)) (.type "BaseException") = some true) && (PySem.W.hasDictIn K (He.ga K x) &&
  (He.eqO (PySem.W.findIn K (.ref (He.ga K x)) "__class__") (some (some (.builtin "object.__class__"))) && (He.eqO (PySem.W.specialIn K (.builtin "object.__class__") "__get__") (some (some (.builtin "getset_descriptor.__get__"))) && (decide (PySem.W.takesIn K (.builtin "object.__class__") = some true) && decide (PySem.W.mroIn K (He.ga K x) (.type "object") = some true)))))))
theorem excCB_ok {K : Frg} {x : Str} (h : excCB K x = true) : ExcC K (He.ga K x) := by
  obtain ⟨h1, h⟩ := He.ba h
  obtain ⟨h2, h⟩ := He.ba h
  obtain ⟨h3, h⟩ := He.ba h
  obtain ⟨h4, h⟩ := He.ba h
  obtain ⟨h5, h⟩ := He.ba h
  obtain ⟨h6, h⟩ := He.ba h
  obtain ⟨h7, h8⟩ := He.ba h
  exact ⟨He.eqO_ok h1, He.eqO_ok h2, of_decide_eq_true h3, h4, He.eqO_ok h5, He.eqO_ok h6, of_decide_eq_true h7, of_decide_eq_true h8⟩
theorem excT_ok {K : Frg} {mg : Mg} {h : Heap} {x : Str} (X : K.In h) (G : h.Ns mainGlobals mg) (c : (He.Fa.glo x).ok K = true) (e : (He.Fa.exc x).ok K = true) : ExcT K mg x (He.ga K x) :=
  let ⟨h1, h2, h3, h4⟩ := He.exc_ok e
  ⟨He.glo_ok X G c, h1, h2, h3, h4⟩
/-- a table of isinstance answers (tuple: any of them) -/
def rowB (K : Frg) (x : Str) (us : List Value) (b : Bool) : Bool := decide (PySem.W.kitAny K (.ref (He.ga K x)) us = some b)
def row1B (K : Frg) (x : Str) (u : Value) (b : Bool) : Bool := decide (PySem.W.kitOne K (.ref (He.ga K x)) u = some b)
end PF

set_option Elab.async false
set_option linter.all false
set_option maxRecDepth 100000
set_option maxHeartbeats 4000000
/-! More rules: tuple * int, slices of any kind, zip, enumerate. -/
namespace PF
open PySem PySem.Spec L2 PyProof.Rows
/-! ### t * 1 is t itself -/
theorem tup_mul1 (l : Addr) (items : Array Value) (n : Nat) (dd : Option Addr) (sl : Array (Option Value)) (u : Tok) :
    Meets (Builtin.«tuple.__mul__» ⟨[.ref l, .int 1 u], []⟩) (fun _ R s => s.heap.get? l = some { cls := .type "tuple", dict := dd, data := .seq items n, slots := sl } ∧ R (.ok (.ret (Value.ref l))) s) :=
  .of_wp fun prog w A R s h => by
    obtain ⟨hp, g, d, tk, os⟩ := s
    obtain ⟨hl, h⟩ := h
    have c0 : (decide ((1 : Int) < -(2 ^ 63)) || decide ((1 : Int) ≥ 2 ^ 63)) = false := by decide
    have c1 : (items.isEmpty || (1 : Int) == 1) = true := by simp
    have f1 := AutoSeq1.idx_int
    wp_walk using wpAny_loadPart' hl
    repeat (first
      | (refine wpAny_ite_false (decide_eq_false (by rw [c0]; exact Bool.false_ne_true)) ?_; wp_walk using wpAny_loadPart' hl)
      | (refine wpAny_ite_true (decide_eq_true c1) ?_; wp_walk using wpAny_loadPart' hl))
    exact ⟨_, rfl, h⟩
def rMul1 (K : PySem.W.Frag) : R2 := fun x y H Q => ∃ l xs, x = .ref l ∧ y = .int 1 ∧ SqT K H l xs ∧ Q (.ref l) H
theorem op_mul1 {X : Cx} : OpR X (binaryOp .Mult) (rMul1 X.K) := by
  intro pins s σ H x y v u Q I rx ry h
  obtain ⟨l, xs, rfl, rfl, hT, q⟩ := h
  cases rx
  obtain ⟨t, rfl⟩ := ry
  obtain ⟨its, r, ⟨⟨cls, dd, data, sl⟩, ho, hc, n, hd⟩, hs⟩ := I.tuple hT
  simp only at hc hd
  subst hc hd
  refine wpAny_binaryOp_repeat_ref (T := "tuple") (U := "int") (by decide) ⟨_, ho, rfl⟩ (fun s' => typeIs_int s' 1 t) noFill_tuple_mul F.fills_int_mul F.slot_int_rmul repeat_tuple F.slot_int_index.lookup
    (call_meets F.slot_int_rmul (typeIs_int s 1 t) F.entry_int_rmul (F.args_int_rmul_2 _ _) (int_rmul_tuple 1 t l its.toArray n dd sl)
      ⟨ho, rfl, ⟨_, ho, rfl⟩, call_meets F.slot_tuple_mul ⟨_, ho, rfl⟩ F.entry_tuple_mul (F.args_tuple_mul_2 _ _) (tup_mul1 l its.toArray n dd sl t) ⟨ho, ?_⟩⟩)
  exact ⟨.ref l, H, I, rfl, q⟩
@[simp] noncomputable def oMulT (d e : D) : Res D := match d, e with
  | .int i, .int j => if mulOk i j then .ok (.int (i * j)) else .bad
  | .tup xs, .int k => if cb (xs ≠ [] ∧ 1 ≤ k ∧ k ≤ 1000 ∧ xs.length ≤ 1000) then .ok (.tup (List.replicate k.toNat xs).flatten) else .bad
  | _, _ => .bad
def rMulA (K : PySem.W.Frag) : R2 := fun x y H Q => rI (fun i j => mulOk i j = true) (fun i j => .int (i * j)) x y H Q ∨ rRepT K x y H Q ∨ rMul1 K x y H Q
theorem op_mulA {X : Cx} : OpR X (binaryOp .Mult) (rMulA X.K) := op_mulU.or (op_repT.or op_mul1)
theorem o_mulT {K : Frg} {mg : Mg} : O2 K mg (rMulA K) oMulT := fun S σ H x y d e W Q i hx hy q => by
  unfold oMulT at q
  split at q
  · split at q
    · rename_i hc
      exact .inl ⟨_, _, hx.int, hy.int, hc, q _ _ _ (Gr.refl i) (.int _)⟩
    · exact q.elim
  · rename_i xs k
    split at q
    · rename_i hc
      obtain ⟨h1, h2, h3, h4⟩ := of_cb hc
      obtain ⟨p, vs, rfl, k1, k2, r⟩ := hx.tup i
      by_cases e1 : k = 1
      · subst e1
        refine .inr (.inr ⟨p, vs, rfl, hy.int, k1, q _ S H (Gr.refl i) ?_⟩)
        have e2 : (List.replicate (1 : Int).toNat xs).flatten = xs := by simp
        rw [e2]
        exact .tup k2 r
      · refine .inr (.inl ⟨p, k, vs, rfl, hy.int, k1, fun z => h1 ?_, by omega, h3, by rw [r.len]; exact h4, po_new i (r.rep _) q⟩)
        subst z
        have := r.len
        exact List.eq_nil_of_length_eq_zero this.symm
    · exact q.elim
  · exact q.elim
/-! ### slices of any kind -/
theorem me_sl {X : Cx} {hx : Hx} {W : WX} {e : Expr} {lo hi : Option Expr} {f : Sl → Res D} {l h : Sl → Res (Option Int)} {pos p2 : Pos} (he : MR X hx W e f) (hl : MP X hx W lo l) (hh : MP X hx W hi h) : ME X hx W (.Subscript e (.Slice lo hi none p2) pos) (sSl f l h) :=
  pe_imp (pe_slice (sl_tupA.or (sl_str.or sl_list)) he hl hh) fun σ H Q ⟨b, S, ρ, R, q⟩ => ⟨b, S, ρ, R, q.bind fun d v S1 H1 g1 r1 k => ⟨b, S1, ρ, R.grow g1, (k.upE g1).bind fun d2 v2 S2 H2 g2 r2 k2 => ⟨b, S2, ρ, (R.grow g1).grow g2, (k2.upE g2).bind fun d3 v3 S3 H3 g3 r3 k3 => by
    cases r2
    cases r3
    have r := (r1.up g2).up g3
    have k4 := k3.upE g3
    have newL : ∀ xs vs, RpA X.K X.mg S3 vs xs → Po X.K X.mg (rrE X.K X.mg) W S3 σ H3 (.ok (.lst (cutD xs d2 d3))) Q → ∀ p, H3 p = none → Q (.ref p) (upd H3 p (.lst (cutV vs d2 d3))) := fun xs vs h2 z p hp =>
      z _ _ _ (Gr.new g3.i hp) (.lst upd_same ((h2.cut _ _).up (same_new (same_none g3.i hp)) _ _))
    cases d with
    | tup xs =>
      obtain ⟨p, vs, rfl, h1, h2, h3⟩ := r.tup g3.i
      refine .inl ⟨p, vs, rfl, h1, fun hw => ?_, fun _ => po_new g3.i (h3.cut _ _) k4⟩
      have e1 : cutD xs d2 d3 = xs := by
        unfold cutD
        rw [← h3.len, hw.1, hw.2, h3.len]
        simp
      refine k4 _ S3 H3 (Gr.refl g3.i) ?_
      rw [e1]
      exact .tup h2 h3
    | str x =>
      have k5 : Po X.K X.mg (rrE X.K X.mg) W S3 σ H3 (if x.length ≤ 16777216 then .ok (.str (cutS x d2 d3)) else .bad) Q := k4
      split at k5
      · rename_i hz
        exact .inr (.inl ⟨x, r.str, sizeLine16 hz, k5 _ S3 H3 (Gr.refl g3.i) (.str _)⟩)
      · exact k5.elim
    | lst xs =>
      obtain ⟨p, vs, rfl, h1, h2⟩ := r.lst
      exact .inr (.inr ⟨p, vs, rfl, SqL.of h1, newL xs vs h2 k4⟩)
    | rol xs =>
      obtain ⟨p, vs, rfl, h1, h2⟩ := r.rol g3.i
      exact .inr (.inr ⟨p, vs, rfl, h1, newL xs vs h2 k4⟩)
    | _ => exact k4.elim⟩⟩⟩
end PF

set_option Elab.async false
set_option linter.all false
set_option maxRecDepth 100000
set_option maxHeartbeats 4000000
/-! zip and enumerate over lists and tuples, in any mixture. -/
namespace PF
open PySem PySem.Spec L2 PyProof.Rows
def SqK (K : PySem.W.Frag) (t : Bool) (H : Hp) (a : Addr) (xs : List V) : Prop := match t with
  | true => SqT K H a xs
  | false => SqL K H a xs
def ItK (t : Bool) (h : Heap) (it a : Addr) (i : Nat) : Prop := match t with
  | true => h.IsTupleIter it a i
  | false => h.IsListIter it a i
def SeK (t : Bool) (h : Heap) (a : Addr) (its : Array Value) : Prop := match t with
  | true => h.IsTuple a its
  | false => h.IsList a its
def beK (t : Bool) (a : Addr) : Obj := match t with
  | true => { cls := .type "tuple_iterator", data := .fields #[.ref a, .int 0 0] }
  | false => { cls := .type "list_iterator", data := .fields #[.ref a, .int 0 0] }
theorem drawsK {prog : Program} {w : World} {A : Around} (t : Bool) (hh : A.handled = none) (it a : Addr) (hne : a ≠ it) (its : Array Value) : Draws prog w A it [it, a] its.size (fun i v => its[i]? = some v) (fun i h => ItK t h it a i ∧ SeK t h a its) := by
  cases t with
  | false => exact Draws.list hh it a hne its
  | true => exact Draws.tuple hh it a hne its
theorem beginsK (t : Bool) (a : Addr) (its : Array Value) : Begins (.ref a) (beK t a) fun h => SeK t h a its := by
  cases t with
  | false => exact begins_list a its
  | true => exact begins_tuple a its
theorem itK_new (t : Bool) {h : Heap} {it a : Addr} (e : h.get? it = some (beK t a)) : ItK t h it a 0 := by
  cases t with
  | false => exact ⟨_, e, rfl, rfl⟩
  | true => exact ⟨_, e, rfl, rfl⟩
theorem ItK.kept {t : Bool} {h h' : Heap} {it a : Addr} {i : Nat} (x : ItK t h it a i) (k : ∀ o, h.get? it = some o → h'.get? it = some o) : ItK t h' it a i := by
  cases t with
  | false => exact Heap.IsListIter.at x k
  | true => exact Heap.IsTupleIter.at x k
theorem ItK.obj {t : Bool} {h : Heap} {it a : Addr} {i : Nat} (x : ItK t h it a i) : ∃ o, h.get? it = some o ∧ ∀ v, o.data ≠ .cell v := by
  cases t with
  | false => obtain ⟨o, e, _, d⟩ := x; exact ⟨o, e, fun v q => by rw [d] at q; cases q⟩
  | true => obtain ⟨o, e, _, d⟩ := x; exact ⟨o, e, fun v q => by rw [d] at q; cases q⟩
theorem SeK.lt {t : Bool} {h : Heap} {a : Addr} {its : Array Value} (x : SeK t h a its) : a < h.objs.size := by
  cases t with
  | false => obtain ⟨o, e, _⟩ := x; exact Heap.lt_size e
  | true => obtain ⟨o, e, _⟩ := x; exact Heap.lt_size e
section
variable {X : Cx} {pins : List (Addr × Obj)} {σ : L2.St} {H : Hp} {s : Shared}
theorem Inv.seK {t : Bool} {a : Addr} {xs : List V} (I : Inv X pins σ H s) (h : SqK X.K t H a xs) : ∃ its : List Value, Vals xs its ∧ SeK t s.heap a its.toArray := by
  cases t with
  | false => obtain ⟨its, rv, p, _⟩ := I.list h; exact ⟨its, rv, p.isList⟩
  | true => obtain ⟨its, rv, p, _⟩ := I.tuple h; exact ⟨its, rv, p⟩
theorem Inv.seK_inj {t : Bool} {a : Addr} {xs ys : List V} (I : Inv X pins σ H s) (h : SqK X.K t H a xs) (h' : SqK X.K t H a ys) : xs = ys := by
  cases t with
  | false => exact I.list_inj h h'
  | true => exact I.tuple_inj h h'
end
/-! ### zip -/
def ItzG (K : PySem.W.Frag) (t1 t2 : Bool) (a b : Addr) : It :=
  ⟨fun i H => ∃ (xs ys : List V) (x y : V), SqK K t1 H a xs ∧ SqK K t2 H b ys ∧ xs[i]? = some x ∧ ys[i]? = some y,
    fun i H v H' => ∃ T x y, v = .ref T ∧ H T = none ∧ H' = upd H T (.tup [x, y]) ∧ (∀ xs, SqK K t1 H a xs → xs[i]? = some x) ∧ ∀ ys, SqK K t2 H b ys → ys[i]? = some y,
    fun i H => ∃ xs ys : List V, SqK K t1 H a xs ∧ SqK K t2 H b ys ∧ i = min xs.length ys.length⟩
theorem sep_of {a b z TI TO i1 i2 : Addr} (D : ZipApart z TI TO i1 i2 a b) : ZipSep2 z TI TO i1 i2 [i1, a] [i2, b] where
  TIz := D.TIz
  TOz := D.TOz
  TITO := D.TITO
  TIi1 := D.TIi1
  mem1 := by simp
  zf1 := by simp [Ne.symm D.i1z, Ne.symm D.l1z]
  Tf1 := by simp [D.TOi1, Ne.symm D.l1TO]
  TIi2 := D.TIi2
  mem2 := by simp
  zf2 := by simp [Ne.symm D.i2z, Ne.symm D.l2z]
  Tf2 := by simp [D.TOi2, Ne.symm D.l2TO]
  sep1_2 := by simp [D.i12, Ne.symm D.l2i1]
  sep2_1 := by simp [Ne.symm D.i12, Ne.symm D.l1i2]
theorem turn_zipG {P : Program} {w : World} {K : PySem.W.Frag} {elts : List Expr} {kk : Nat} {tpos : Pos} (t1 t2 : Bool) {a b z TI TO i1 i2 : Addr} (D : ZipApart z TI TO i1 i2 a b) :
    Turn P w K (.Tuple elts kk tpos) (ItzG K t1 t2 a b) [z, TI, TO, i1, i2] z (fun i h => IsZip h z TI TO .none ∧ IsPair h TI (.ref i1) (.ref i2) ∧ (∃ x y, IsPair h TO x y) ∧ ItK t1 h i1 a i ∧ ItK t2 h i2 b i) where
  mem := by simp
  obj := fun i h st c hc => by
    obtain ⟨hz, hTI, ⟨x, y, hTO⟩, h1, h2⟩ := st
    have e' : c = z ∨ c = TI ∨ c = TO ∨ c = i1 ∨ c = i2 := by simpa using hc
    rcases e' with q | q | q | q | q
    · rw [q]; exact ⟨_, hz, fun v q => nomatch q⟩
    · rw [q]; exact ⟨_, hTI, fun v q => nomatch q⟩
    · rw [q]; exact ⟨_, hTO, fun v q => nomatch q⟩
    · rw [q]; exact h1.obj
    · rw [q]; exact h2.obj
  keep := fun i h h' st k => by
    obtain ⟨hz, hTI, ⟨x, y, hTO⟩, h1, h2⟩ := st
    exact ⟨k z (by simp) _ hz, k TI (by simp) _ hTI, ⟨x, y, k TO (by simp) _ hTO⟩, h1.kept fun o q => k i1 (by simp) o q, h2.kept fun o q => k i2 (by simp) o q⟩
  item := by
    intro X hP hw hK hc i pins s σ H E I hf st hg
    subst hP hw hK
    obtain ⟨hz, hTI, ⟨x0, y0, hTO⟩, h1, h2⟩ := st
    obtain ⟨xs, ys, x, y, hqx, hqy, hx, hy⟩ := hg
    obtain ⟨its, rv, p⟩ := Inv.seK I hqx
    obtain ⟨its2, rv2, p2⟩ := Inv.seK I hqy
    obtain ⟨u, hu, ru⟩ := rv.get hx
    obtain ⟨u2, hu2, ru2⟩ := rv2.get hy
    have hzl : z < s.heap.objs.size := Heap.lt_size hz
    have hh : X.A.in1.handled = none := I.ok.hd hc
    have lt1 : i < its.toArray.size := by rw [List.size_toArray]; exact (List.getElem?_eq_some_iff.mp hu).1
    have lt2 : i < its2.toArray.size := by rw [List.size_toArray]; exact (List.getElem?_eq_some_iff.mp hu2).1
    refine wpAny_pyNext_zipD2_item (sep_of D) (drawsK t1 hh i1 a D.l1i1 its.toArray) (drawsK t2 hh i2 b D.l2i2 its2.toArray) hz hTI hTO ⟨h1, p⟩ ⟨h2, p2⟩ lt1 lt2 fun v1 v2 h' tk P1 P2 z' TO' h1' h2' hT hsz hk => ?_
    have e1 : v1 = u := by simpa [hu] using P1.symm
    have e2 : v2 = u2 := by simpa [hu2] using P2.symm
    subst e1 e2
    refine ⟨_, rfl, wpAny_letOwnedTupleGo_zip (s := { s with heap := h', toks := tk }) z' fun h'' z'' sb => ?_⟩
    have hT2 : h''.get? s.heap.objs.size = some { cls := .type "tuple", data := .seq #[v1, v2] } := (sb.2 _ (Nat.ne_of_gt hzl)).trans hT
    have new : ObjOk X.prog X.w (upd H s.heap.objs.size (.tup [x, y])) h'' s.heap.objs.size (.tup [x, y]) :=
      ⟨by show 2 ≤ sizeLine; decide, [v1, v2], .cons ru (.cons ru2 .nil), ⟨_, hT2, rfl, _, rfl⟩⟩
    have I1 : Inv X pins σ (upd H s.heap.objs.size (.tup [x, y])) { s with heap := h'', toks := tk } :=
      I.turnedNew (ch := [z, TI, TO, i1, i2]) (fun c o hb q => (sb.2 c (fun q' => hb (by simp [q']))).trans (hk c o (fun q' => hb (by simp [q'])) (fun q' => hb (by simp [q'])) (fun q' => hb (by simp [q'])) (fun q' => hb (by simp [q'])) q)) hf (Nat.le_refl _) new
    refine ⟨.ref s.heap.objs.size, _, I1, rfl, ⟨_, x, y, rfl, I.hok.fresh (Nat.le_refl _), rfl, fun l hl => by rw [Inv.seK_inj I hl hqx]; exact hx, fun l hl => by rw [Inv.seK_inj I hl hqy]; exact hy⟩, ⟨z'', ?_, ⟨v1, v2, ?_⟩, ?_, ?_⟩, fun c hcm => ?_⟩
    · exact (sb.2 _ D.TIz).trans (hk _ _ D.TIz D.TITO D.TIi1 D.TIi2 hTI)
    · exact (sb.2 _ D.TOz).trans TO'
    · exact h1'.1.kept fun o q => (sb.2 _ D.i1z).trans q
    · exact h2'.1.kept fun o q => (sb.2 _ D.i2z).trans q
    · have hlt : c < s.heap.objs.size := by
        have e' : c = z ∨ c = TI ∨ c = TO ∨ c = i1 ∨ c = i2 := by simpa using hcm
        rcases e' with q | q | q | q | q
        · rw [q]; exact hzl
        · rw [q]; exact Heap.lt_size hTI
        · rw [q]; exact Heap.lt_size hTO
        · rw [q]; obtain ⟨_, e1, _⟩ := h1.obj; exact Heap.lt_size e1
        · rw [q]; obtain ⟨_, e2, _⟩ := h2.obj; exact Heap.lt_size e2
      rw [upd_ne (Nat.ne_of_lt hlt)]
      exact (hf c hcm).1
  done := by
    intro X hP hw hK hc i pins s σ H E I hf st hg
    subst hP hw hK
    obtain ⟨hz, hTI, ⟨x0, y0, hTO⟩, h1, h2⟩ := st
    obtain ⟨xs, ys, hqx, hqy, hend⟩ := hg
    obtain ⟨its, rv, p⟩ := Inv.seK I hqx
    obtain ⟨its2, rv2, p2⟩ := Inv.seK I hqy
    have l1 : its.toArray.size = xs.length := by rw [List.size_toArray]; exact rv.length.symm
    have l2 : its2.toArray.size = ys.length := by rw [List.size_toArray]; exact rv2.length.symm
    have hh : X.A.in1.handled = none := I.ok.hd hc
    exact wpAny_pyNext_zipD2_end (sep_of D) (drawsK t1 hh i1 a D.l1i1 its.toArray) (drawsK t2 hh i2 b D.l2i2 its2.toArray) hz hTI hTO ⟨h1, p⟩ ⟨h2, p2⟩ (by omega) (by omega) (by omega) fun h' tk hk => ⟨rfl, I.turnedL (t' := tk) (ch := [z, TI, TO, i1, i2]) (fun c o hb q =>
      hk c o (fun q' => hb (by simp [q'])) (fun q' => hb (by simp [q'])) (fun q' => hb (by simp [q'])) (fun q' => hb (by simp [q'])) q) hf⟩
  self := fun A i s Q E st h => wpAny_pyIter_zip st.1 h
def iZipG (K : PySem.W.Frag) (ta : TA) : TI := fun σ H R => ta σ H fun vs H1 => ∃ t1 t2 a b xs ys, vs = [.ref a, .ref b] ∧ SqK K t1 H1 a xs ∧ SqK K t2 H1 b ys ∧ R (ItzG K t1 t2 a b) H1
theorem pi_zipG {X : Cx} {e e2 : Expr} {ta : TA} {p pos tpos : Pos} {elts : List Expr} {kk : Nat} (hg : Gl X "zip") (hm : X.mg "zip" = none) (ha : PA X [e, e2] ta)
    (hs : starEach [e, e2] X.env = (false, eval e X.env) :: starEach [e2] X.env := by rfl) (hpl : (backTo pos (starEach [e2] X.env)).any (·.1) = false := by rfl) :
    PI X (.Tuple elts kk tpos) (.Call (.Name "zip" p) [e, e2] [] pos) (iZipG X.K ta) := by
  refine ⟨fun pins s σ H R I h => ?_⟩
  refine Call_ (ld_blt I hg hm PyProof.Rows.boot_zip (PyProof.Rows.callWith_type1 (thn (ha.run pos pins s σ H _ I h) fun us s1 ⟨vs, H1, I1, r1, q1⟩ => ?_) hs hpl))
  obtain ⟨t1, t2, a, b, xs, ys, ex, hqx, hqy, q⟩ := q1
  subst ex
  cases r1 with
  | cons r rr =>
    cases rr with
    | cons r' rr =>
      cases rr
      cases r
      cases r'
      have fresh5 : ∀ c, c ∈ [s1.heap.objs.size + 4, s1.heap.objs.size + 2, s1.heap.objs.size + 3, s1.heap.objs.size, s1.heap.objs.size + 1] → FpOk X pins H1 c := fun c hcm => by
        have e' : c = s1.heap.objs.size + 4 ∨ c = s1.heap.objs.size + 2 ∨ c = s1.heap.objs.size + 3 ∨ c = s1.heap.objs.size ∨ c = s1.heap.objs.size + 1 := by simpa using hcm
        have hle : s1.heap.objs.size ≤ c := by
          rcases e' with z | z | z | z | z
          · rw [z]; exact Nat.le_add_right _ _
          · rw [z]; exact Nat.le_add_right _ _
          · rw [z]; exact Nat.le_add_right _ _
          · rw [z]; exact Nat.le_refl _
          · rw [z]; exact Nat.le_add_right _ _
        exact I1.fpOk hle (I1.hok.fresh hle)
      obtain ⟨its, rv, p1⟩ := Inv.seK I1 hqx
      obtain ⟨its2, rv2, p2⟩ := Inv.seK I1 hqy
      refine zip_begins2 (beginsK t1 a its.toArray) (beginsK t2 b its2.toArray) p1 p2 fun h' hz hTI hTO h1 h2 hsz hk => wpAny_pyIter_zip hz ?_
      have I2 : Inv X pins σ H1 { s1 with heap := h' } := I1.kept (t' := s1.toks) hk
      exact ⟨s1.heap.objs.size + 4, [s1.heap.objs.size + 4, s1.heap.objs.size + 2, s1.heap.objs.size + 3, s1.heap.objs.size, s1.heap.objs.size + 1], _, _, H1, rfl, I2, turn_zipG t1 t2 (PySem.W.ktu_apart s1.heap.objs.size a b p1.lt p2.lt), ⟨hz, hTI, ⟨_, _, hTO⟩, itK_new t1 h1, itK_new t2 h2⟩, fresh5, q⟩
/-! ### enumerate -/
theorem meets_enum1 {v : Value} {o : Obj} {H : Heap → Prop} (B : Begins v o H) :
    Meets (Builtin.«enumerate.__new__» ⟨[.type "enumerate", v], []⟩) (fun _ R s => H s.heap ∧
      R (.ok (.ret (.ref (s.heap.push o).objs.size))) { s with heap := (s.heap.push o).push { cls := .type "enumerate", data := .fields #[.none, .bool false, .ref s.heap.objs.size, rawInt 0, .none, .none] } }) :=
  .of_wp fun prog w A R s h => by
    obtain ⟨hp, g, d, tk, os⟩ := s; obtain ⟨h1, h⟩ := h
    have hsub := sub_enumerate
    have q1 : ∀ {A' : Around} {E : Value → Shared → Prop} {Q : Value → Shared → Prop}, Q (.ref hp.objs.size) ⟨hp.push o, g, d, tk, os⟩ → wpAny (model prog w) A' (pyIter v) Q E ⟨hp, g, d, tk, os⟩ :=
      fun q => B.iter prog w _ _ ⟨hp, g, d, tk, os⟩ _ h1 q
    wp_walk using q1
    refine wpAny_stack_any fun st => wpAny_pure ?_
    split
    · rename_i c _ _ _ _ _
      cases (c == Value.type "enumerate")
      · wp_walk using q1
        exact ⟨_, rfl, h⟩
      · wp_walk using q1
        exact ⟨_, rfl, h⟩
    · wp_walk using q1
      exact ⟨_, rfl, h⟩
theorem call_enum1 {prog : Program} {w : World} {A : Around} {E : Value → Shared → Prop} {s : Shared} {v : Value} {o : Obj} {H : Heap → Prop} {Q : Value → Shared → Prop} (B : Begins v o H) (h1 : H s.heap)
    (h : ∀ h', IsEnum h' (s.heap.objs.size + 1) s.heap.objs.size 0 .none → h'.get? s.heap.objs.size = some o → h'.objs.size = s.heap.objs.size + 2 →
      (∀ b o, s.heap.get? b = some o → h'.get? b = some o) → Q (.ref (s.heap.objs.size + 1)) { s with heap := h' }) :
    wpAny (model prog w) A (call (.type "enumerate") [v]) Q E s := by
  refine callType_new F.called_enumerate (by decide) (F.typeCall_enumerate_1 _) (F.newCall_enumerate_1 _) (fun obj => F.args_object_init_2 obj _) F.entry_enumerate_new (meets_enum1 B) ⟨h1, ?_⟩
  have hz : (s.heap.push o).objs.size = s.heap.objs.size + 1 := Heap.size_push ..
  show _ ∧ _
  rw [hz]
  have he := Heap.get?_push_size (s.heap.push o) (o := { cls := .type "enumerate", data := .fields #[.none, .bool false, .ref s.heap.objs.size, rawInt 0, .none, .none] }) rfl
  rw [hz] at he
  exact ⟨⟨_, he, rfl⟩, h _ he (Heap.get?_push_of_some _ (Heap.get?_push_size _ B.free)) (by rw [Heap.size_push, hz]) fun b o x => Heap.get?_push_of_some _ (Heap.get?_push_of_some _ x)⟩
def IteG (K : PySem.W.Frag) (t : Bool) (a : Addr) : It :=
  ⟨fun i H => ∃ (xs : List V) (x : V), SqK K t H a xs ∧ xs[i]? = some x, fun i H v H' => ∃ T x, v = .ref T ∧ H T = none ∧ H' = upd H T (.tup [.int (i : Nat), x]) ∧ ∀ xs, SqK K t H a xs → xs[i]? = some x, fun i H => ∃ xs : List V, SqK K t H a xs ∧ i = xs.length⟩
theorem turn_enumG {P : Program} {w : World} {K : PySem.W.Frag} {elts : List Expr} {kk : Nat} {tpos : Pos} (t : Bool) (a e it : Addr) :
    Turn P w K (.Tuple elts kk tpos) (IteG K t a) [e, it] e (fun i h => (∃ old, IsEnum h e it ((i : Nat) : Int) old) ∧ ItK t h it a i ∧ e ≠ it ∧ e ≠ a ∧ it ≠ a) where
  mem := by simp
  obj := fun i h st b hb => by
    obtain ⟨⟨old, he⟩, h1, _⟩ := st
    have e' : b = e ∨ b = it := by simpa using hb
    rcases e' with z | z
    · rw [z]; exact ⟨_, he, fun v q => nomatch q⟩
    · rw [z]; exact h1.obj
  keep := fun i h h' st k => let ⟨⟨old, he⟩, hi, hne⟩ := st; ⟨⟨old, k e (by simp) _ he⟩, hi.kept fun o q => k it (by simp) o q, hne⟩
  item := by
    intro X hP hw hK hc i pins s σ H E I hf st hg
    subst hP hw hK
    obtain ⟨⟨old, he⟩, hit, hne, hea, hia⟩ := st
    obtain ⟨xs, x, hq, hx⟩ := hg
    obtain ⟨its, rv, p⟩ := Inv.seK I hq
    obtain ⟨u, hu, ru⟩ := rv.get hx
    have hel : e < s.heap.objs.size := Heap.lt_size he
    have hil : it < s.heap.objs.size := by obtain ⟨_, q, _⟩ := hit.obj; exact Heap.lt_size q
    have hh : X.A.in1.handled = none := I.ok.hd hc
    have lt : i < its.toArray.size := by rw [List.size_toArray]; exact (List.getElem?_eq_some_iff.mp hu).1
    refine wpAny_pyNext_enum_itemC (drawsK t hh it a (Ne.symm hia) its.toArray) he ⟨hit, p⟩ lt hne (by simp [hne, hea]) fun v h' tk Pv ho hit' hT hsz hk => ?_
    have ev : v = u := by simpa [hu] using Pv.symm
    subst ev
    refine ⟨_, rfl, wpAny_letOwnedTupleGo_enum (s := { s with heap := h', toks := tk + 1 }) ho fun h'' he' sb => ?_⟩
    have hT2 : h''.get? s.heap.objs.size = some { cls := .type "tuple", data := .seq #[.int i tk, v] } := (sb.2 _ (Nat.ne_of_gt hel)).trans hT
    have new : ObjOk X.prog X.w (upd H s.heap.objs.size (.tup [.int (i : Nat), x])) h'' s.heap.objs.size (.tup [.int (i : Nat), x]) :=
      ⟨by show 2 ≤ sizeLine; decide, [.int i tk, v], .cons ⟨_, rfl⟩ (.cons ru .nil), ⟨_, hT2, rfl, _, rfl⟩⟩
    have I1 : Inv X pins σ (upd H s.heap.objs.size (.tup [.int (i : Nat), x])) { s with heap := h'', toks := tk + 1 } :=
      I.turnedNew (ch := [e, it]) (fun b ob hb q => (sb.2 b (fun z => hb (by simp [z]))).trans (hk b ob (fun z => hb (by simp [z])) (fun z => hb (by simp [z])) q)) hf (Nat.le_refl _) new
    refine ⟨.ref s.heap.objs.size, _, I1, rfl, ⟨_, x, rfl, I.hok.fresh (Nat.le_refl _), rfl, fun ys hy => by rw [Inv.seK_inj I hy hq]; exact hx⟩, ⟨⟨v, ?_⟩, hit'.1.kept fun o q => (sb.2 it (Ne.symm hne)).trans q, hne, hea, hia⟩, fun b hb => ?_⟩
    · have e1 : ((i + 1 : Nat) : Int) = (i : Int) + 1 := by omega
      rw [e1]; exact he'
    · have hb' : b < s.heap.objs.size := by
        have e' : b = e ∨ b = it := by simpa using hb
        rcases e' with z | z
        · rw [z]; exact hel
        · rw [z]; exact hil
      rw [upd_ne (Nat.ne_of_lt hb')]
      exact (hf b hb).1
  done := by
    intro X hP hw hK hc i pins s σ H E I hf st hg
    subst hP hw hK
    obtain ⟨⟨old, he⟩, hit, hne, hea, hia⟩ := st
    obtain ⟨xs, hq, hx⟩ := hg
    obtain ⟨its, rv, p⟩ := Inv.seK I hq
    have hl : its.toArray.size = i := by rw [List.size_toArray, hx]; exact rv.length.symm
    have hh : X.A.in1.handled = none := I.ok.hd hc
    exact wpAny_pyNext_enum_endD (drawsK t hh it a (Ne.symm hia) its.toArray) he ⟨by rw [hl]; exact hit, p⟩ fun h' eb => ⟨rfl, I.turnedL (t' := s.toks) (ch := [e, it]) (fun b o hb q => eb b o (fun z => hb (by simp [z])) q) hf⟩
  self := fun A i s Q E st h => let ⟨⟨_, he⟩, _⟩ := st; wpAny_pyIter_enum he h
def iEnumG (K : PySem.W.Frag) (ta : TA) : TI := fun σ H R => ta σ H fun vs H1 => ∃ t a xs, vs = [.ref a] ∧ SqK K t H1 a xs ∧ R (IteG K t a) H1
theorem pi_enumG {X : Cx} {e : Expr} {ta : TA} {p pos tpos : Pos} {elts : List Expr} {kk : Nat} (hg : Gl X "enumerate") (hm : X.mg "enumerate" = none) (ha : PA X [e] ta) (hs : starEach [e] X.env = [(false, eval e X.env)] := by rfl) :
    PI X (.Tuple elts kk tpos) (.Call (.Name "enumerate" p) [e] [] pos) (iEnumG X.K ta) := by
  refine ⟨fun pins s σ H R I h => ?_⟩
  refine Call_ (ld_blt I hg hm boot_enumerate (PyProof.Rows.callWith_type1 (thn (ha.run pos pins s σ H _ I h) fun us s1 ⟨vs, H1, I1, r1, q1⟩ => ?_) hs rfl))
  obtain ⟨t, a, xs, ex, hq, q⟩ := q1
  subst ex
  cases r1 with
  | cons r rr =>
    cases rr
    cases r
    obtain ⟨its, rv, p'⟩ := Inv.seK I1 hq
    have hal : a < s1.heap.objs.size := p'.lt
    refine call_enum1 (beginsK t a its.toArray) p' fun h' he hit hsz hk => wpAny_pyIter_enum he ?_
    have I2 : Inv X pins σ H1 { s1 with heap := h' } := I1.kept (t' := s1.toks) hk
    refine ⟨s1.heap.objs.size + 1, [s1.heap.objs.size + 1, s1.heap.objs.size], _, _, H1, rfl, I2, turn_enumG t a (s1.heap.objs.size + 1) s1.heap.objs.size, ⟨⟨.none, he⟩, itK_new t hit, Nat.succ_ne_self _, ?_, Nat.ne_of_gt hal⟩, fun b hb => ?_, q⟩
    · exact Nat.ne_of_gt (Nat.lt_succ_of_lt hal)
    · have e' : b = s1.heap.objs.size + 1 ∨ b = s1.heap.objs.size := by simpa using hb
      have hle : s1.heap.objs.size ≤ b := by
        rcases e' with z | z
        · rw [z]; exact Nat.le_add_right _ _
        · rw [z]; exact Nat.le_refl _
      exact I1.fpOk hle (I1.hok.fresh hle)
/-! ### the two as rules -/
@[simp] def dSq (d : D) : Res (List D) := match d with
  | .lst ds => .ok ds
  | .rol ds => .ok ds
  | .tup ds => .ok ds
  | _ => .bad
def zipD : List D → List D → List D
  | x :: xs, y :: ys => .tup [x, y] :: zipD xs ys
  | _, _ => []
def enumD (i : Nat) : List D → List D
  | [] => []
  | x :: xs => .tup [.int (i : Int), x] :: enumD (i + 1) xs
@[simp] def gZip (ds : List D) : Res (List D) := match ds with
  | [d, e] => (dSq d).bind fun xs => (dSq e).bind fun ys => .ok (zipD xs ys)
  | _ => .bad
@[simp] def gEnum (ds : List D) : Res (List D) := match ds with
  | [d] => (dSq d).bind fun xs => .ok (enumD 0 xs)
  | _ => .bad
@[simp] def iZip (fs : Sl → Res (List D)) (ρ : Sl) : Res (List D) := (fs ρ).bind gZip
@[simp] def iEnu (fs : Sl → Res (List D)) (ρ : Sl) : Res (List D) := (fs ρ).bind gEnum
theorem zipD_get : ∀ {xs ys : List D} {i : Nat} {d : D}, (zipD xs ys)[i]? = some d → ∃ x y, xs[i]? = some x ∧ ys[i]? = some y ∧ d = .tup [x, y]
  | [], _, _, _, h => by simp [zipD] at h
  | _ :: _, [], _, _, h => by simp [zipD] at h
  | x :: xs, y :: ys, 0, d, h => by
    simp [zipD] at h
    exact ⟨x, y, rfl, rfl, h.symm⟩
  | x :: xs, y :: ys, i + 1, d, h => by
    simp [zipD] at h
    simpa using zipD_get h
theorem zipD_len : ∀ (xs ys : List D), (zipD xs ys).length = min xs.length ys.length
  | [], _ => by simp [zipD]
  | _ :: _, [] => by simp [zipD]
  | x :: xs, y :: ys => by
    simp only [zipD, List.length_cons, zipD_len xs ys]
    omega
theorem enumD_get : ∀ {xs : List D} {j i : Nat} {d : D}, (enumD j xs)[i]? = some d → ∃ x, xs[i]? = some x ∧ d = .tup [.int ((j + i : Nat) : Int), x]
  | [], _, _, _, h => by simp [enumD] at h
  | x :: xs, j, 0, d, h => by
    simp [enumD] at h
    exact ⟨x, rfl, by simpa using h.symm⟩
  | x :: xs, j, i + 1, d, h => by
    simp only [enumD, List.getElem?_cons_succ] at h
    obtain ⟨y, h1, h2⟩ := enumD_get h
    exact ⟨y, by simpa using h1, by rw [h2]; congr 3; omega⟩
theorem enumD_len : ∀ (xs : List D) (j : Nat), (enumD j xs).length = xs.length
  | [], _ => rfl
  | x :: xs, j => by simp [enumD, enumD_len xs]
section
variable {K : Frg} {mg : Mg} {S : Hp} {v : V} {d : D} {ds : List D}
theorem Rp.sq (h : Rp K mg S v d) (e : dSq d = .ok ds) : ∃ t a vs, v = .ref a ∧ SqK K t S a vs ∧ RpA K mg S vs ds := by
  cases d <;> cases e
  · cases h with
    | lst a b => exact ⟨false, _, _, rfl, SqL.of a, b⟩
  · cases h with
    | rol a b => exact ⟨false, _, _, rfl, a, b⟩
  · cases h with
    | tup a b => exact ⟨true, _, _, rfl, a, b⟩
theorem same_k {t : Bool} {H H' : Hp} {a : Addr} {vs : List V} (e : Same H H') (h : SqK K t H a vs) : SqK K t H' a vs := by
  cases t with
  | false => exact same_l e h
  | true => exact same_t e h
theorem itd_zip {t1 t2 : Bool} {a b : Addr} {vs ws : List V} {xs ys : List D} (h1 : SqK K t1 S a vs) (r1 : RpA K mg S vs xs) (h2 : SqK K t2 S b ws) (r2 : RpA K mg S ws ys) : ItD K mg S (ItzG K t1 t2 a b) (zipD xs ys) where
  go := fun S' H i d s1 s2 e => by
    obtain ⟨x, y, e1, e2, rfl⟩ := zipD_get e
    obtain ⟨v, k1, k2⟩ := (r1.up s1 _ _).get e1
    obtain ⟨w, k3, k4⟩ := (r2.up s1 _ _).get e2
    have q1 : SqK K t1 H a vs := same_k (s1.trans s2) h1
    have q2 : SqK K t2 H b ws := same_k (s1.trans s2) h2
    refine ⟨⟨vs, ws, v, w, q1, q2, k1, k3⟩, fun z H' ⟨T, x', y', z1, z2, z3, z4, z5⟩ => ?_⟩
    have e3 := z4 vs q1
    rw [k1] at e3
    cases e3
    have e4 := z5 ws q2
    rw [k3] at e4
    cases e4
    subst z1 z3
    have up : Same S' (upd S' T (.tup [v, w])) := same_new (same_none s2 z2)
    exact ⟨_, Gr.new s2 z2, .tup (SqT.of upd_same) (.cons (k2.up up _ _) (.cons (k4.up up _ _) .nil))⟩
  stop := fun S' H s1 s2 => ⟨vs, ws, same_k (s1.trans s2) h1, same_k (s1.trans s2) h2, by rw [zipD_len, r1.len, r2.len]⟩
theorem itd_enum {t : Bool} {a : Addr} {vs : List V} {xs : List D} (h1 : SqK K t S a vs) (r1 : RpA K mg S vs xs) : ItD K mg S (IteG K t a) (enumD 0 xs) where
  go := fun S' H i d s1 s2 e => by
    obtain ⟨x, e1, rfl⟩ := enumD_get e
    obtain ⟨v, k1, k2⟩ := (r1.up s1 _ _).get e1
    have q1 : SqK K t H a vs := same_k (s1.trans s2) h1
    refine ⟨⟨vs, v, q1, k1⟩, fun z H' ⟨T, x', z1, z2, z3, z4⟩ => ?_⟩
    have e3 := z4 vs q1
    rw [k1] at e3
    cases e3
    subst z1 z3
    have up : Same S' (upd S' T (.tup [.int (i : Nat), v])) := same_new (same_none s2 z2)
    rw [Nat.zero_add]
    exact ⟨_, Gr.new s2 z2, .tup (SqT.of upd_same) (.cons (.int _) (.cons (k2.up up _ _) .nil))⟩
  stop := fun S' H s1 s2 => ⟨vs, same_k (s1.trans s2) h1, by rw [enumD_len, r1.len]⟩
end
section
variable {X : Cx} {hx : Hx} {W : WX} {e e2 : Expr} {elts : List Expr} {kk : Nat} {p pos tpos : Pos} {fs : Sl → Res (List D)}
theorem mi_zip (hg : Gl X "zip") (hm : X.mg "zip" = none) (ha : MA X hx W [e, e2] fs) (hs : starEach [e, e2] X.env = (false, eval e X.env) :: starEach [e2] X.env := by rfl) (hpl : (backTo pos (starEach [e2] X.env)).any (·.1) = false := by rfl) : MI X hx W (.Tuple elts kk tpos) (.Call (.Name "zip" p) [e, e2] [] pos) (iZip fs) :=
  pi_imp (pi_zipG hg hm ha hs hpl) fun σ H Q ⟨b, S, ρ, R, q⟩ => ⟨b, S, ρ, R, q.bind fun d v S1 H1 g1 r1 k => by
    unfold gZip at k
    split at k
    · rename_i d1 d2
      obtain ⟨v1, v2, rfl, q1, q2⟩ := r1.two
      cases e1 : dSq d1 with
      | exc _ _ => cases d1 <;> cases e1
      | bad => rw [e1] at k; exact k.elim
      | ok xs =>
        cases e2 : dSq d2 with
        | exc _ _ => cases d2 <;> cases e2
        | bad => rw [e1, Res.bind_ok, e2] at k; exact k.elim
        | ok ys =>
          rw [e1, Res.bind_ok, e2, Res.bind_ok] at k
          obtain ⟨t1, a1, vs, rfl, z1, z2⟩ := q1.sq e1
          obtain ⟨t2, a2, ws, rfl, z3, z4⟩ := q2.sq e2
          exact ⟨t1, t2, a1, a2, vs, ws, rfl, same_k g1.i z1, same_k g1.i z3, k _ S1 H1 g1 (itd_zip z1 z2 z3 z4)⟩
    · exact k.elim⟩
theorem mi_enum (hg : Gl X "enumerate") (hm : X.mg "enumerate" = none) (ha : MA X hx W [e] fs) (hs : starEach [e] X.env = [(false, eval e X.env)] := by rfl) : MI X hx W (.Tuple elts kk tpos) (.Call (.Name "enumerate" p) [e] [] pos) (iEnu fs) :=
  pi_imp (pi_enumG hg hm ha hs) fun σ H Q ⟨b, S, ρ, R, q⟩ => ⟨b, S, ρ, R, q.bind fun d v S1 H1 g1 r1 k => by
    unfold gEnum at k
    split at k
    · rename_i d1
      obtain ⟨v1, rfl, q1⟩ := r1.one
      cases e1 : dSq d1 with
      | exc _ _ => cases d1 <;> cases e1
      | bad => rw [e1] at k; exact k.elim
      | ok xs =>
        rw [e1, Res.bind_ok] at k
        obtain ⟨t1, a1, vs, rfl, z1, z2⟩ := q1.sq e1
        exact ⟨t1, a1, vs, rfl, same_k g1.i z1, k _ S1 H1 g1 (itd_enum z1 z2)⟩
    · exact k.elim⟩
end
end PF

set_option Elab.async false
set_option linter.all false
set_option maxRecDepth 100000
set_option maxHeartbeats 4000000
/-! A list of a slot's own, lent for the time of one expression; more of lists. -/
namespace PF
open PySem PySem.Spec L2 PyProof.Rows
mutual
/-- no list in it -/
def nol : D → Bool
  | .non => true
  | .bl _ => true
  | .int _ => true
  | .str _ => true
  | .tup ds => nolA ds
  | _ => false
def nolA : List D → Bool
  | [] => true
  | d :: ds => nol d && nolA ds
end
@[simp] theorem nol_non : nol .non = true := by simp [nol]
@[simp] theorem nol_bl (b : Bool) : nol (.bl b) = true := by simp [nol]
@[simp] theorem nol_int (i : Int) : nol (.int i) = true := by simp [nol]
@[simp] theorem nol_str (x : Str) : nol (.str x) = true := by simp [nol]
@[simp] theorem nol_tup (ds : List D) : nol (.tup ds) = nolA ds := by simp [nol]
@[simp] theorem nolA_nil : nolA [] = true := by simp [nolA]
@[simp] theorem nolA_cons (d : D) (ds : List D) : nolA (d :: ds) = (nol d && nolA ds) := by simp [nolA]
@[simp] theorem nolA_app : ∀ (ds es : List D), nolA (ds ++ es) = (nolA ds && nolA es)
  | [], es => by simp
  | d :: ds, es => by simp [nolA_app ds es, Bool.and_assoc]
@[simp] theorem nolA_ints : ∀ ns : List Int, nolA (ns.map D.int) = true
  | [] => by simp
  | n :: ns => by simp [nolA_ints ns]
/-- the shared part without the list at p -/
def less (S : Hp) (p : Addr) : Hp := fun a => if a = p then none else S a
section
variable {K : Frg} {mg : Mg} {S : Hp} {p : Addr} {ws : List V}
theorem less_ne {a : Addr} (h : a ≠ p) : less S p a = S a := if_neg h
theorem less_self : less S p p = none := if_pos rfl
theorem less_tup {a : Addr} {xs : List V} (hp : S p = some (.lst ws)) (h : SqT K S a xs) : SqT K (less S p) a xs := by
  rcases h with h | h
  · rcases h with h | ⟨o, h⟩
    · refine .inl (.inl ?_)
      rw [less_ne (fun e => by subst e; rw [hp] at h; cases h)]
      exact h
    · refine .inl (.inr ⟨o, ?_⟩)
      rw [less_ne (fun e => by subst e; rw [hp] at h; cases h)]
      exact h
  · exact .inr h
mutual
theorem Rp.less (hp : S p = some (.lst ws)) : ∀ (d : D) (v : V), nol d = true → Rp K mg S v d → Rp K mg (PF.less S p) v d
  | .non, _, _, h => by cases h; exact .non
  | .bl _, _, _, h => by cases h; exact .bl _
  | .int _, _, _, h => by cases h; exact .int _
  | .str _, _, _, h => by cases h; exact .str _
  | .tup ds, _, n, h => by
    cases h with
    | tup a b => exact .tup (less_tup hp a) (RpA.less hp ds _ (by simpa using n) b)
  | .lst _, _, n, _ => by cases n
  | .rol _, _, n, _ => by cases n
  | .obj _ _ _, _, n, _ => by cases n
  | .fr _, _, n, _ => by cases n
theorem RpA.less (hp : S p = some (.lst ws)) : ∀ (ds : List D) (vs : List V), nolA ds = true → RpA K mg S vs ds → RpA K mg (PF.less S p) vs ds
  | [], _, _, h => by cases h; exact .nil
  | d :: ds, _, n, h => by
    have n' : nol d = true ∧ nolA ds = true := by simpa using n
    cases h with
    | cons a b => exact .cons (Rp.less hp d _ n'.1 a) (RpA.less hp ds _ n'.2 b)
end
theorem Gr.less {H S2 H2 : Hp} (h0 : S p = none) (h1 : H p ≠ none) (g : Gr (upd S p (.lst ws)) H S2 H2) : Gr S H (PF.less S2 p) H2 where
  s := fun a o e => by
    have q : a ≠ p := fun z => by rw [z, h0] at e; cases e
    rw [less_ne q]
    exact g.s a o (by rw [upd_ne q]; exact e)
  h := g.h
  i := fun a o e => by
    have q : a ≠ p := fun z => by rw [z, less_self] at e; cases e
    rw [less_ne q] at e
    exact g.i a o e
  n := fun a ha e => by
    by_cases q : a = p
    · rw [q]; exact less_self
    · rw [less_ne q]
      exact g.n a ha (by rw [upd_ne q]; exact e)
end
/-- lend the list of slot i to f -/
def lend {α : Type} (i : Nat) (ok : α → Bool) (f : Sl → Res α) (ρ : Sl) : Res α := match ρ[i]? with
  | some (.o ds) => (f (ρ.set i (.v (.lst ds)))).nx.bind fun a => if ok a then .ok a else .bad
  | _ => f ρ
@[simp] def sLend (i : Nat) (f : Sl → Res D) (ρ : Sl) : Res D := match ρ[i]? with
  | some (.o ds) => (f (ρ.set i (.v (.lst ds)))).nx.bind fun a => if nol a then .ok a else .bad
  | _ => f ρ
@[simp] def fLend (i : Nat) (f : Sl → Res (List D)) (ρ : Sl) : Res (List D) := match ρ[i]? with
  | some (.o ds) => (f (ρ.set i (.v (.lst ds)))).nx.bind fun a => if nolA a then .ok a else .bad
  | _ => f ρ
@[simp] def tLend (i : Nat) (f : Sl → Res Bool) (ρ : Sl) : Res Bool := match ρ[i]? with
  | some (.o ds) => (f (ρ.set i (.v (.lst ds)))).nx
  | _ => f ρ
@[simp] theorem nx_ok {α : Type} (a : α) : (Res.ok a).nx = .ok a := rfl
/-- the list of slot i is shared, and at which place it stands -/
theorem Rel.freezeP {K : Frg} {mg : Mg} {hx : Hx} {b : Bs} {S H : Hp} {ρ : Sl} {σ : L2.St} (R : Rel K mg hx b S ρ σ H) {i : Nat} {ds : List D} (e : ρ[i]? = some (.o ds)) : ∃ p vs, H p = some (.lst vs) ∧ S p = none ∧ Rel K mg hx b (upd S p (.lst vs)) (ρ.set i (.v (.lst ds))) σ H := by
  obtain ⟨p, vs, q1, q2, q3, q4, q5⟩ := R.own i ds e
  have up : Same S (upd S p (.lst vs)) := same_new q3
  refine ⟨p, vs, q2, q3, R.s0.trans up, fun a o h => ?_, R.h0, fun a h e' => ?_, by simp [R.len], fun j d' e' => ?_, fun j es' e' => ?_, fun j c fs e' => ?_, fun j k ds1 es1 q ne e1 e2 e3 e4 => ?_⟩
  · by_cases z : a = p
    · subst z; rw [upd_same] at h; cases h; exact q2
    · rw [upd_ne z] at h; exact R.sh a o h
  · rw [upd_ne (fun z => by rw [z] at h; exact h q4)]
    exact R.nw a h e'
  · rcases getset e' with ⟨rfl, h2, _⟩ | ⟨h1, h2⟩
    · cases h2
      exact ⟨_, q1, .lst upd_same (q5.up up ds vs)⟩
    · obtain ⟨v', h3, h4⟩ := R.val j d' h2
      exact ⟨v', h3, h4.up up _ _⟩
  · rcases getset e' with ⟨_, h2, _⟩ | ⟨h1, h2⟩
    · cases h2
    · obtain ⟨p2, vs2, h3, h4, h5, h6, h7⟩ := R.own j es' h2
      refine ⟨p2, vs2, h3, h4, ?_, h6, h7.up up _ _⟩
      rw [upd_ne (fun z => by subst z; exact R.apart i j ds es' p2 h1 e h2 q1 h3)]
      exact h5
  · rcases getset e' with ⟨_, h2, _⟩ | ⟨h1, h2⟩
    · cases h2
    · obtain ⟨a, C, dx, z1, z2, z3, z4⟩ := R.xc j c fs h2
      exact ⟨a, C, dx, z1, z2, z3, z4.keep up fun _ _ z => z⟩
  · rcases getset e1 with ⟨_, h2, _⟩ | ⟨h1, h2⟩
    · cases h2
    · rcases getset e2 with ⟨_, h4, _⟩ | ⟨h3, h4⟩
      · cases h4
      · exact R.apart j k ds1 es1 q ne h2 h4 e3 e4
theorem lend_imp {α β : Type} {K : Frg} {mg : Mg} {hx : Hx} {RX : RR α β} {W : WX} {i : Nat} {f f' : Sl → Res β} {σ : L2.St} {H : Hp} {Q : α → Hp → Prop} (ok : β → Prop)
    (e0 : ∀ ρ, (∀ ds, ρ[i]? ≠ some (.o ds)) → f' ρ = f ρ) (e1 : ∀ ρ ds, ρ[i]? = some (.o ds) → f' ρ = .bad ∨ ∃ a, f (ρ.set i (.v (.lst ds))) = .ok a ∧ ok a ∧ f' ρ = .ok a)
    (hr : ∀ S S2 H2 p vs v a, S p = none → H p = some (.lst vs) → Gr (upd S p (.lst vs)) H S2 H2 → ok a → RX H S2 H2 v a → RX H (less S2 p) H2 v a) (h : tG K mg hx RX W f' σ H Q) : tG K mg hx RX W f σ H Q := by
  obtain ⟨b, S, ρ, R, q⟩ := h
  by_cases hc : ∃ ds, ρ[i]? = some (.o ds)
  · obtain ⟨ds, e⟩ := hc
    obtain ⟨p, vs, k1, k2, R'⟩ := R.freezeP e
    refine ⟨b, _, _, R', ?_⟩
    rcases e1 ρ ds e with z | ⟨a, z1, z2, z3⟩
    · rw [z] at q; exact q.elim
    · rw [z1]
      rw [z3] at q
      intro v S2 H2 g r
      exact q v (less S2 p) H2 (g.less k2 (by rw [k1]; simp)) (hr S S2 H2 p vs v a k2 k1 g z2 r)
  · exact ⟨b, S, ρ, R, by rw [← e0 ρ fun ds e => hc ⟨ds, e⟩]; exact q⟩
section
variable {X : Cx} {hx : Hx} {W : WX} {e : Expr}
theorem nxb {α : Type} {ok : α → Bool} {r : Res α} : (r.nx.bind fun a => if ok a then .ok a else .bad) = .bad ∨ ∃ a, r = .ok a ∧ ok a = true ∧ (r.nx.bind fun a => if ok a then Res.ok a else .bad) = .ok a := by
  cases r with
  | ok a =>
    cases h : ok a with
    | true => exact .inr ⟨a, rfl, h, by simp [h]⟩
    | false => exact .inl (by simp [h])
  | exc _ _ => exact .inl rfl
  | bad => exact .inl rfl
theorem me_lend (i : Nat) {f : Sl → Res D} (h : ME X hx W e f) : ME X hx W e (sLend i f) := pe_imp h fun σ H Q q => lend_imp (i := i) (f' := sLend i f) (fun d => nol d = true)
  (fun ρ hn => by
    unfold sLend
    split
    · rename_i ds e; exact absurd e (hn ds)
    · rfl)
  (fun ρ ds e => by
    have e2 : sLend i f ρ = (f (ρ.set i (.v (.lst ds)))).nx.bind fun a => if nol a then .ok a else .bad := by unfold sLend; rw [e]
    rw [e2]
    exact nxb)
  (fun S S2 H2 p vs v a k2 k1 g n r => Rp.less (g.s _ _ upd_same) a v n r) q
theorem mf_lend (i : Nat) {f : Sl → Res (List D)} (h : MF X hx W e f) : MF X hx W e (fLend i f) := pe_imp h fun σ H Q q => lend_imp (i := i) (f' := fLend i f) (fun d => nolA d = true)
  (fun ρ hn => by
    unfold fLend
    split
    · rename_i ds e; exact absurd e (hn ds)
    · rfl)
  (fun ρ ds e => by
    have e2 : fLend i f ρ = (f (ρ.set i (.v (.lst ds)))).nx.bind fun a => if nolA a then .ok a else .bad := by unfold fLend; rw [e]
    rw [e2]
    exact nxb)
  (fun S S2 H2 p vs v a k2 k1 g n ⟨p', ws, h1, h2, h3, h4, h5⟩ => ⟨p', ws, h1, h2, by
    by_cases z : p' = p
    · rw [z]; exact less_self
    · rw [less_ne z]; exact h3, h4, RpA.less (g.s _ _ upd_same) a ws n h5⟩) q
theorem mt_lend (i : Nat) {f : Sl → Res Bool} (h : MT X hx W e f) : MT X hx W e (tLend i f) := pt_imp h fun σ H Q q => lend_imp (i := i) (f' := tLend i f) (fun _ => True)
  (fun ρ hn => by
    unfold tLend
    split
    · rename_i ds e; exact absurd e (hn ds)
    · rfl)
  (fun ρ ds e => by
    have e2 : tLend i f ρ = (f (ρ.set i (.v (.lst ds)))).nx := by unfold tLend; rw [e]
    rw [e2]
    cases f (ρ.set i (.v (.lst ds))) with
    | ok a => exact .inr ⟨a, rfl, trivial, rfl⟩
    | exc _ _ => exact .inl rfl
    | bad => exact .inl rfl)
  (fun S S2 H2 p vs v a k2 k1 g n r => r) q
/-- x = [.. for .. in ..] with a list lent -/
theorem ms_setLcL (j i : Nat) {y : Str} {py : Pos} {elt tg iter : Expr} {ifs : List Expr} {scope : Scope} {own : List (Str × Nat)} {pos spos : Pos} {items : Sl → Res (List D)} {is : List Nat} {g : FG} {t : Sl → Res Bool} {f : Sl → Res D} (hc : X.calm = true) (hN : X.N.Nodup)
    (hsw : swapsWith (.ListComp elt [⟨tg, iter, ifs, 0⟩] scope pos) (some (.Name y py)) spos.line X.env = pure true) (hi : MI X hx W tg iter items) (ok : BlkOk X.N X.env.scope scope own)
    (hg : ∀ (s : Shared) (H : Hp) (C : Addr) (cl : List (Str × Addr)) (fp : List Addr), MG (X.blk s H scope (compEnvC scope cl C X.env) fp) hx tg is g) (ht : ∀ (s : Shared) (H : Hp) (C : Addr) (cl : List (Str × Addr)) (fp : List Addr), MTs (X.blk s H scope (compEnvC scope cl C X.env) fp) hx W0 ifs t)
    (he : ∀ (s : Shared) (H : Hp) (C : Addr) (cl : List (Str × Addr)) (fp : List Addr), ME (X.blk s H scope (compEnvC scope cl C X.env) fp) hx W0 elt f) (hy : X.N[i]? = some y := by rfl) (hyl : X.env.scope.names.lookup y = some .local := by rfl) (his : (is.all fun i => (own.map (·.2)).contains i) = true := by decide) (hs : ∀ x, foldedSetIterable iter X.env x = pure x := by intro _; rfl) :
    MS X hx W (.Assign [.Name y py] (.ListComp elt [⟨tg, iter, ifs, 0⟩] scope pos) spos) (gSetO i (fLend j (fLc items g t f (own.map (·.2))))) :=
  ps_imp (ps_setLc hc hN hy hyl hsw hi ok hg ht he hs) fun D σ H ⟨b, S, ρ, R, q⟩ => lc_ok (ts := fun _ _ _ => True) (fun i hi => by
    have h1 := List.all_eq_true.mp his i hi
    simpa using h1) σ H _ (lend_imp (i := j) (f' := fLend j (fLc items g t f (own.map (·.2)))) (fun d => nolA d = true)
  (fun ρ hn => by
    unfold fLend
    split
    · rename_i ds e; exact absurd e (hn ds)
    · rfl)
  (fun ρ ds e => by
    have e2 : fLend j (fLc items g t f (own.map (·.2))) ρ = (fLc items g t f (own.map (·.2)) (ρ.set j (.v (.lst ds)))).nx.bind fun a => if nolA a then .ok a else .bad := by unfold fLend; rw [e]
    rw [e2]
    exact nxb)
  (fun S S2 H2 p vs v a k2 k1 g n ⟨p', ws, h1, h2, h3, h4, h5⟩ => ⟨p', ws, h1, h2, by
    by_cases z : p' = p
    · rw [z]; exact less_self
    · rw [less_ne z]; exact h3, h4, RpA.less (g.s _ _ upd_same) a ws n h5⟩) ⟨b, S, ρ, R, rS_po R q fun d v S1 H1 g1 ⟨p, vs, h1, h2, h3, h4, h5⟩ k => by
      subst h1
      exact k S1 _ H1 g1.s (R.putN g1 h2 h3 h4 h5)⟩)
end
/-! ### more of lists -/
@[simp] def gClr (i : Nat) (ρ : Sl) : Out := match ρ[i]? with
  | some (.o _) => .nx (ρ.set i (.o []))
  | _ => .bad
@[simp] def gExt (i : Nat) (f : Sl → Res (List D)) (ρ : Sl) : Out := match ρ[i]? with
  | some (.o ds) => rS (f ρ) ρ fun es => if ds.length + es.length ≤ 16777216 then .nx (ρ.set i (.o (ds ++ es))) else .bad
  | _ => .bad
section
variable {X : Cx} {hx : Hx} {W : WX} {e : Expr} {pos : Pos}
theorem ms_clr (i : Nat) {x : Str} {p ap ep : Pos} (hv : PE X (.Name x p) (tVar i)) (hs : swapsWith (.Call (.Attribute (.Name x p) "clear" ap) [] [] ep) none pos.line X.env = pure false := by rfl)
    (h : PE X (.Call (.Attribute (.Name x p) "clear" ap) [] [] ep) (tBM0 X.K "list" rClear (tVar i)) := by
      exact pe_bm0 PySem.F.plainAttrs_list PySem.F.slot_list_clear PySem.F.type_list_clear mt_clear (pv _)) :
    MS X hx W (.Expr (.Call (.Attribute (.Name x p) "clear" ap) [] [] ep) pos) (gClr i) := ps_imp (ps_expr h hs) fun D σ H ⟨b, S, ρ, R, q⟩ => by
  unfold gClr at q
  split at q
  · rename_i ds e1
    obtain ⟨p, vs, h1, h2, h3, h4, h5⟩ := R.own i ds e1
    refine ⟨_, h1, .inl ⟨rfl, _, SqL.of h2⟩, ?_⟩
    exact ⟨p, vs, rfl, rfl, h2, q S σ _ (Same.refl _) (R.mut e1 h1 .nil)⟩
  · exact q.elim
theorem ms_ext (i : Nat) {x : Str} {p ap ep : Pos} {f : Sl → Res (List D)} (hv : PE X (.Name x p) (tVar i)) (he : MF X hx W e f) (hs : swapsWith (.Call (.Attribute (.Name x p) "extend" ap) [e] [] ep) none pos.line X.env = pure false := by rfl)
    (h : ∀ {t}, PE X e t → PE X (.Call (.Attribute (.Name x p) "extend" ap) [e] [] ep) (tBM X.K "list" rExtend (tVar i) (tCons t tNil)) := by
      intro t ht; exact pe_bm PySem.F.plainAttrs_list PySem.F.slot_list_extend PySem.F.type_list_extend mt_extend (pv _) (pa_cons ht pa_nil)) :
    MS X hx W (.Expr (.Call (.Attribute (.Name x p) "extend" ap) [e] [] ep) pos) (gExt i f) := ps_imp (ps_expr (h he) hs) fun D σ H ⟨b, S, ρ, R, q⟩ => by
  unfold gExt at q
  split at q
  · rename_i ds e1
    obtain ⟨p, vs, h1, h2, h3, h4, h5⟩ := R.own i ds e1
    refine ⟨_, h1, .inl ⟨rfl, _, SqL.of h2⟩, b, S, ρ, R, rS_po R q fun d v S1 H1 g1 ⟨p', ws, r1, r2, r3, r4, r5⟩ k => ?_⟩
    subst r1
    split at k
    · rename_i hl
      refine ⟨p, p', vs, ws, rfl, rfl, g1.h _ _ h2, r4, sizeLine16 (by rw [h5.len, r5.len]; exact hl), ?_⟩
      exact k S1 σ _ g1.s ((R.grow g1).mut e1 h1 ((h5.up g1.s _ _).app r5))
    · exact k.elim
  · exact q.elim
/-- xs[::-1] -/
@[simp] def fRev (f : Sl → Res D) (ρ : Sl) : Res (List D) := (f ρ).bind fun d => match seqOf d with
  | some xs => .ok xs.reverse
  | none => .bad
theorem mf_rev {f : Sl → Res D} {k : Nat} {p1 p2 p3 : Pos} (he : MR X hx W e f) : MF X hx W (.Subscript e (.Slice none none (some (.UnaryOp .USub (.Constant (.int 1) k p1) p2)) p3) pos) (fRev f) :=
  pe_imp (pe_revL he) fun σ H Q ⟨b, S, ρ, R, q⟩ => ⟨b, S, ρ, R, q.bind fun d v S1 H1 g1 r1 k => by
    split at k
    · rename_i xs e1
      obtain ⟨p, vs, rfl, h1, h2⟩ := r1.seq g1.i e1
      exact ⟨p, vs, rfl, h1, po_newL g1.i h2.rev (Po.upF g1 k)⟩
    · exact k.elim⟩
/-- a, b, c = e1, e2, e3 (local names) -/
@[simp] def gPar3 (i j l : Nat) (f g h : Sl → Res D) (ρ : Sl) : Out := rS (f ρ) ρ fun c => rS (g ρ) ρ fun d => rS (h ρ) ρ fun e => .nx (((ρ.set i (.v c)).set j (.v d)).set l (.v e))
theorem ms_par3 (i j l : Nat) {x y z : Str} {a b c : Expr} {f g h : Sl → Res D} {px py pz pt : Pos} {kt k2 pt2} (hc : X.calm = true) (hN : X.N.Nodup) (ha : ME X hx W a f) (hb : ME X hx W b g) (hcc : ME X hx W c h) (hi : X.N[i]? = some x := by rfl) (hj : X.N[j]? = some y := by rfl) (hl : X.N[l]? = some z := by rfl) (hij : i ≠ j := by decide) (hil : i ≠ l := by decide) (hjl : j ≠ l := by decide)
    (hx' : X.env.scope.names.lookup x = some .local := by rfl) (hy : X.env.scope.names.lookup y = some .local := by rfl) (hz : X.env.scope.names.lookup z = some .local := by rfl)
    (s1 : starEach [a, b, c] X.env = (false, eval a X.env) :: starEach [b, c] X.env := by rfl) (s2 : starEach [b, c] X.env = (false, eval b X.env) :: starEach [c] X.env := by rfl) (s3 : starEach [c] X.env = (false, eval c X.env) :: starEach [] X.env := by rfl)
    (hw : swappedStores [.Tuple [.Name x px, .Name y py, .Name z pz] kt pt] (.Tuple [a, b, c] k2 pt2) X.env = pure (some [x, y, z]) := by rfl)
    (hs : swapsWithSole [.Tuple [.Name x px, .Name y py, .Name z pz] kt pt] (.Tuple [a, b, c] k2 pt2) pos.line X.env = pure false := by rfl) :
    MS X hx W (.Assign [.Tuple [.Name x px, .Name y py, .Name z pz] kt pt] (.Tuple [a, b, c] k2 pt2) pos) (gPar3 i j l f g h) :=
  ps_imp (ps_par3 hc hN hi hj hl hij hil hjl hx' hy hz (pa_cons ha (pa_cons hb (pa_cons hcc pa_nil s3) s2) s1) hw hs) fun D σ H ⟨b, S, ρ, R, q⟩ =>
    ⟨b, S, ρ, R, rS_po R q fun d v S1 H1 g1 r1 k => ⟨b, S1, ρ, R.grow g1, rS_po (R.grow g1) (PoS.up g1.s k) fun d2 v2 S2 H2 g2 r2 k2 => ⟨b, S2, ρ, (R.grow g1).grow g2, rS_po ((R.grow g1).grow g2) (PoS.up g2.s k2) fun d3 v3 S3 H3 g3 r3 k3 =>
      ⟨v, v2, v3, rfl, k3 S3 _ H3 g3.s ((((((R.grow g1).grow g2).grow g3).put (r1.up (g2.s.trans g3.s) _ _)).put (r2.up g3.s _ _)).put r3)⟩⟩⟩⟩
/-- x = [.. for .. in ..], a shared list -/
theorem ms_setLcV (i : Nat) {y : Str} {py : Pos} {elt tg iter : Expr} {ifs : List Expr} {scope : Scope} {own : List (Str × Nat)} {spos : Pos} {items : Sl → Res (List D)} {is : List Nat} {g : FG} {t : Sl → Res Bool} {f : Sl → Res D} (hc : X.calm = true) (hN : X.N.Nodup)
    (hsw : swapsWith (.ListComp elt [⟨tg, iter, ifs, 0⟩] scope pos) (some (.Name y py)) spos.line X.env = pure true) (hi : MI X hx W tg iter items) (ok : BlkOk X.N X.env.scope scope own)
    (hg : ∀ (s : Shared) (H : Hp) (C : Addr) (cl : List (Str × Addr)) (fp : List Addr), MG (X.blk s H scope (compEnvC scope cl C X.env) fp) hx tg is g) (ht : ∀ (s : Shared) (H : Hp) (C : Addr) (cl : List (Str × Addr)) (fp : List Addr), MTs (X.blk s H scope (compEnvC scope cl C X.env) fp) hx W0 ifs t)
    (he : ∀ (s : Shared) (H : Hp) (C : Addr) (cl : List (Str × Addr)) (fp : List Addr), ME (X.blk s H scope (compEnvC scope cl C X.env) fp) hx W0 elt f) (hy : X.N[i]? = some y := by rfl) (hyl : X.env.scope.names.lookup y = some .local := by rfl) (his : (is.all fun i => (own.map (·.2)).contains i) = true := by decide) (hs : ∀ x, foldedSetIterable iter X.env x = pure x := by intro _; rfl) :
    MS X hx W (.Assign [.Name y py] (.ListComp elt [⟨tg, iter, ifs, 0⟩] scope pos) spos) (gSet i (sLst (fLc items g t f (own.map (·.2))))) :=
  ps_imp (ps_setLc hc hN hy hyl hsw hi ok hg ht he hs) fun D σ H ⟨b, S, ρ, R, q⟩ => lc_ok (ts := fun _ _ _ => True) (fun i hi => by
    have h1 := List.all_eq_true.mp his i hi
    simpa using h1) σ H _ ⟨b, S, ρ, R, by
      unfold gSet sLst at q
      cases ef : fLc items g t f (own.map (·.2)) ρ with
      | exc y ys => rw [ef] at q; exact fun S' H' C dx g q1 q2 => q S' σ H' C dx g.s (R.grow g) q1 q2
      | bad => rw [ef] at q; exact q.elim
      | ok ds =>
        rw [ef] at q
        intro v S1 H1 g1 ⟨p, vs, h1, h2, h3, h4, h5⟩
        subst h1
        have up : Same S1 (upd S1 p (.lst vs)) := same_new h3
        have g2 : Gr S H (upd S1 p (.lst vs)) H1 := ⟨g1.s.trans up, g1.h, fun a o q => by
          by_cases z : a = p
          · subst z; rw [upd_same] at q; cases q; exact h4
          · rw [upd_ne z] at q; exact g1.i a o q, fun a ha q => by
          rw [upd_ne (fun z => ha (by rw [z]; exact h2))]; exact g1.n a ha q⟩
        exact q _ _ H1 g2.s ((R.grow g2).put (.lst upd_same (h5.up up _ _)))⟩
/-- f(), no argument -/
theorem pe_call0S {k : Nat} {f : Addr} {fd : FuncData} {ps : List Str} {sp : Sp} {x : Str} {p : Pos} {CX : CXT} {E : L2.St → XK} (F : FnOk X.prog X.w X.K X.mg X.base CX k f fd ps sp) (hr : Room k X.A) (hg : Gl X x) (hm : X.mg x = some (.ref f)) (hk : PySem.W.keepIn X.K (.ref f) = true) (hb : Binds X.K fd ps []) (hp : ∀ σ, PassesAt CX X σ (E σ))
    (hdb : (x == ("__debug__" : Str)) = false := by decide) : PE X (.Call (.Name x p) [] [] pos) (tCallS sp E tNil) := by
  refine ⟨fun pins s σ H Q I h => ?_⟩
  refine wpAny_Call_Name_kw (ld_glob I hg hm ?_ hdb)
  exact PySem.W.callWith_K0 I.kIn hk (run_fnS (us := []) F hr hb (hp σ) I .nil h)
theorem me_cal0 {k : Nat} {f : Addr} {fd : FuncData} {ps : List Str} {g : List D → Res D} {x : Str} {p : Pos} (G : Df X.prog X.w X.K X.mg X.base x k f fd ps g) (hr : Room k X.A) (cw : Cw X W) (hn : ps = []) (hg : Gl X x := by rfl) (hdb : (x == ("__debug__" : Str)) = false := by decide) : ME X hx W (.Call (.Name x p) [] [] pos) (sCall g aNil) :=
  pe_imp (pe_call0S G.ok hr hg G.mg G.kp G.bi cw hdb) fun σ H Q ⟨b, S, ρ, R, q⟩ => by
    have z := call_imp (fs := aNil) G (fun ρ ds h => by rw [hn]; exact len_nil h) R (Po.freeze (Q := Q) (by unfold sCall at q; rw [bind_bind] at q; exact q))
    exact (show tCallS (spF X.K X.mg ps.length g) (WE W) tNil σ H Q from z [] S H (Gr.refl R.sh) .nil)
theorem mf_cal0 {k : Nat} {f : Addr} {fd : FuncData} {ps : List Str} {g : List D → Res D} {x : Str} {p : Pos} (G : Df X.prog X.w X.K X.mg X.base x k f fd ps g) (hr : Room k X.A) (cw : Cw X W) (hn : ps = []) (hg : Gl X x := by rfl) (hdb : (x == ("__debug__" : Str)) = false := by decide) : MF X hx W (.Call (.Name x p) [] [] pos) (fCall g aNil) :=
  pe_imp (pe_call0S G.ok hr hg G.mg G.kp G.bi cw hdb) fun σ H Q ⟨b, S, ρ, R, q⟩ => by
    have z := call_imp (fs := aNil) G (fun ρ ds h => by rw [hn]; exact len_nil h) R (Po.unfr (Q := Q) (by unfold fCall at q; rw [bind_bind] at q; exact q))
    exact (show tCallS (spF X.K X.mg ps.length g) (WE W) tNil σ H Q from z [] S H (Gr.refl R.sh) .nil)
end
/-! ### is True, is not False -/
@[simp] def oIsB (d e : D) : Res D := match d, e with
  | .bl a, .bl b => .ok (.bl (decide (a = b)))
  | _, _ => .bad
@[simp] def oNotB (d e : D) : Res D := match d, e with
  | .bl a, .bl b => .ok (.bl (!decide (a = b)))
  | _, _ => .bad
theorem o_isB {K : Frg} {mg : Mg} : O2 K mg rIsB oIsB := fun S σ H x y d e W Q i hx hy q => by
  unfold oIsB at q
  split at q
  · exact ⟨_, _, hx.bl, hy.bl, q _ _ _ (Gr.refl i) (.bl _)⟩
  · exact q.elim
theorem o_notB {K : Frg} {mg : Mg} : O2 K mg rNotB oNotB := fun S σ H x y d e W Q i hx hy q => by
  unfold oNotB at q
  split at q
  · exact ⟨_, _, hx.bl, hy.bl, q _ _ _ (Gr.refl i) (.bl _)⟩
  · exact q.elim
end PF

set_option Elab.async false
set_option linter.all false
set_option maxRecDepth 100000
/-! What each def of the program and of the law law_k03_reduced_bases_of_spaces makes of its arguments (printed by gen.py) -/
namespace S_k03
open PySem L2 PF
/-- vector 0, part 1, entry 2 -/
noncomputable def b1_content : Sl → Out :=
  (gSet 1 (sOp bGcd (sRd 1) (sRd 2)))
noncomputable def g_content : Sl → Out :=
  (gSeq (gSet 1 (sC (.int 0)))
    (gSeq (gFor (iSeq (sVar 0)) (gName 2) b1_content)
    (gRet (sVar 1))))
noncomputable def f_content : List D → Res D := semF 3 g_content
/-- vector 0, part 1, entry 2 -/
noncomputable def b1_primitive : Sl → Res D :=
  (sOp oFdiv (sRd 2) (sRd 1))
noncomputable def g_primitive : Sl → Out :=
  (gSeq (gSet 1 (sCall f_content (aCons (sVar 0) aNil)))
    (gSeq (gIf (sTest (sOp oLt (sRd 1) (sC (.int 2)))) (gRet (sUn bTup (sRd 0))) gNil)
    (gRet (sUn bTup (sLst (fLc (iSeq (sVar 0)) (gName 2) tYesF b1_primitive [2]))))))
noncomputable def f_primitive : List D → Res D := semF 3 g_primitive
/-- vector 0, place 1, entry 2 -/
noncomputable def b1_pivot_of : Sl → Out :=
  (gIf (sTest (sOp oNe (sRd 2) (sC (.int 0)))) (gRet (sVar 1)) gNil)
noncomputable def g_pivot_of : Sl → Out :=
  (gSeq (gFor (iEnu (aCons (sVar 0) aNil)) (gTup 2 (gsCons (gName 1) (gsCons (gName 2) gsNil))) b1_pivot_of)
    (gRet (sC .non)))
noncomputable def f_pivot_of : List D → Res D := semF 3 g_pivot_of
/-- vector 0, top 1, place 2, lead 3, factor 4, a 5, b 6 -/
noncomputable def b1_clear : Sl → Res D :=
  (sOp oSub (sOp oMul (sRd 3) (sRd 5)) (sOp oMul (sRd 4) (sRd 6)))
noncomputable def g_clear : Sl → Out :=
  (gSeq (gSet 3 (sOp oIx (sRd 1) (sRd 2)))
    (gSeq (gSet 4 (sOp oIx (sRd 0) (sRd 2)))
    (gRet (sCall f_primitive (aCons (sLst (fLc (iZip (aCons (sVar 0) (aCons (sVar 1) aNil))) (gTup 2 (gsCons (gName 5) (gsCons (gName 6) gsNil))) tYesF b1_clear [5, 6])) aNil)))))
noncomputable def f_clear : List D → Res D := semF 7 g_clear
/-- vectors 0, width 1, basis 2, left 3, place 4, found 5, top 6, vector 7, k 8, entry 9 -/
noncomputable def b1_echelon : Sl → Res D :=
  (sCall f_primitive (aCons (sVar 7) aNil))
noncomputable def b2_echelon : Sl → Res Bool :=
  (sTest (sOp oNe (sOp oIx (sRd 7) (sRd 4)) (sC (.int 0))))
noncomputable def b3_echelon : Sl → Res D :=
  (sCall f_clear (aCons (sVar 7) (aCons (sVar 6) (aCons (sVar 4) aNil))))
noncomputable def b4_echelon : Sl → Out :=
  (gSeq (gSetO 5 (fLend 3 (fLc (iEnu (aCons (sVar 3) aNil)) (gTup 2 (gsCons (gName 8) (gsCons (gName 7) gsNil))) b2_echelon (sVar 8) [8, 7])))
    (gIf (tTru (sRd 5)) (gSeq (gPopAt 6 3 (sOp oIx (sRd 5) (sC (.int 0))))
    (gSeq (gIf (sTest (sOp oLt (sOp oIx (sRd 6) (sRd 4)) (sC (.int 0)))) (gSet 6 (sUn bTup (sLst (fLc (iSeq (sVar 6)) (gName 9) tYesF (sUn oNeg (sRd 9)) [9])))) gNil)
    (gFrz 3 (gSeq (gSetO 3 (fLc (iSeq (sVar 3)) (gName 7) tYesF b3_echelon [7]))
    (gFrz 2 (gSetO 2 (fOp fCat (sLst (fLc (iSeq (sVar 2)) (gName 7) tYesF b3_echelon [7])) (sLst (fLst (aCons (sVar 6) aNil)))))))))) gNil))
noncomputable def g_echelon : Sl → Out :=
  (gSeq (gSetO 2 (fLst aNil))
    (gSeq (gSetO 3 (fLc (iSeq (sVar 0)) (gName 7) tYesF b1_echelon [7]))
    (gSeq (gFor (iRg1 (aCons (sVar 1) aNil)) (gName 4) b4_echelon)
    (gRetO 2))))
noncomputable def f_echelon : List D → Res D := semF 10 g_echelon
/-- vector 0, basis 1, top 2 -/
noncomputable def b1_reduce_by : Sl → Out :=
  (gSet 0 (sCall f_clear (aCons (sVar 0) (aCons (sVar 2) (aCons (sCall f_pivot_of (aCons (sVar 2) aNil)) aNil)))))
noncomputable def g_reduce_by : Sl → Out :=
  (gSeq (gFor (iSeq (sVar 1)) (gName 2) b1_reduce_by)
    (gRet (sCall f_primitive (aCons (sVar 0) aNil))))
noncomputable def f_reduce_by : List D → Res D := semF 3 g_reduce_by
/-- cell 0, k 1, first 2, second 3 -/
noncomputable def g_ulaw_mix : Sl → Out :=
  (gSeq (gSet 2 (sOp oMod (sUn bInt (sOp oAdd (sOp oAdd (sOp oMul (sRd 0) (sC (.int 48271))) (sOp oMul (sRd 1) (sC (.int 69621)))) (sC (.int 11)))) (sC (.int 2147483647))))
    (gSeq (gSet 3 (sOp oMod (sUn bInt (sOp oAdd (sOp oAdd (sOp oMul (sRd 2) (sRd 2)) (sOp oMul (sRd 1) (sC (.int 40692)))) (sC (.int 7)))) (sC (.int 2147483399))))
    (gRet (sOp oFdiv (sOp oMod (sUn bInt (sOp oAdd (sOp oMul (sRd 3) (sC (.int 16807))) (sRd 2))) (sC (.int 2147483587))) (sC (.int 8))))))
noncomputable def f_ulaw_mix : List D → Res D := semF 4 g_ulaw_mix
/-- script 0, at 1, many 2, cell 3, row 4, rest 5, k 6 -/
noncomputable def b1_ulaw_row : Sl → Out :=
  (gIf (tAnd (sTest (sOp oGe (sUn bAbs (sRd 3)) (sC (.int 1000000000000000000)))) (sTest (sOp oGt (sRd 5) (sC (.int 0))))) (gSeq (gApp 4 (sOp oMod (sUn bInt (sRd 5)) (sC (.int 1009))))
    (gSet 5 (sOp oFdiv (sRd 5) (sC (.int 1009))))) (gApp 4 (sCall f_ulaw_mix (aCons (sVar 3) (aCons (sVar 6) aNil)))))
noncomputable def g_ulaw_row : Sl → Out :=
  (gSeq (gSet 3 (sVar 1))
    (gSeq (gIf (sTest (sOp oLt (sRd 1) (sUn bLen (sRd 0)))) (gSet 3 (sOp oIx (sRd 0) (sRd 1))) (gIf (sTest (sOp oGt (sUn bLen (sRd 0)) (sC (.int 0)))) (gSet 3 (sOp oAdd (sOp oIx (sRd 0) (sOp oMod (sRd 1) (sUn bLen (sRd 0)))) (sOp oMul (sC (.int 7919)) (sRd 1)))) gNil))
    (gSeq (gSetO 4 (fLst aNil))
    (gSeq (gSet 5 (sUn bAbs (sRd 3)))
    (gSeq (gFor (iRg1 (aCons (sVar 2) aNil)) (gName 6) b1_ulaw_row)
    (gRetO 4))))))
noncomputable def f_ulaw_row : List D → Res D := semF 7 g_ulaw_row
/-- value 0 -/
noncomputable def g_ulaw_is_whole : Sl → Out :=
  (gRet (sAnd (sUn (bIsi "int") (sRd 0)) (sNot (sUn (bIsi "bool") (sRd 0)))))
noncomputable def f_ulaw_is_whole : List D → Res D := semF 1 g_ulaw_is_whole
/-- value 0, size 1, num 2 -/
noncomputable def b1_ulaw_is_tuple : Sl → Res D :=
  (sCall f_ulaw_is_whole (aCons (sVar 2) aNil))
noncomputable def g_ulaw_is_tuple : Sl → Out :=
  (gRet (sAnd (sUn (bIsi "tuple") (sRd 0)) (sAnd (sOp oEq (sUn bLen (sRd 0)) (sRd 1)) (sUn bAll (sLst (fLc (iSeq (sVar 0)) (gName 2) tYesF b1_ulaw_is_tuple [2]))))))
noncomputable def f_ulaw_is_tuple : List D → Res D := semF 3 g_ulaw_is_tuple
/-- left 0, right 1, step 2 -/
noncomputable def b1_ulaw_common : Sl → Out :=
  (gSeq (gIf (sTest (sOp oEq (sRd 1) (sC (.int 0)))) (gRet (sVar 0)) gNil)
    (gPar 0 1 (sVar 1) (sOp oMod (sUn bInt (sRd 0)) (sRd 1))))
noncomputable def g_ulaw_common : Sl → Out :=
  (gSeq (gPar 0 1 (sUn bAbs (sRd 0)) (sUn bAbs (sRd 1)))
    (gSeq (gFor (iRg1 (aCons (sOp oAdd (sOp oMul (sC (.int 2)) (sUn bBits (sRd 1))) (sC (.int 4))) aNil)) (gName 2) b1_ulaw_common)
    (gRet (sVar 0))))
noncomputable def f_ulaw_common : List D → Res D := semF 3 g_ulaw_common
/-- vector 0, part 1, num 2 -/
noncomputable def b1_ulaw_primitive : Sl → Out :=
  (gSet 1 (sCall f_ulaw_common (aCons (sVar 1) (aCons (sVar 2) aNil))))
noncomputable def b2_ulaw_primitive : Sl → Res D :=
  (sOp oFdiv (sRd 2) (sRd 1))
noncomputable def g_ulaw_primitive : Sl → Out :=
  (gSeq (gSet 1 (sC (.int 0)))
    (gSeq (gFor (iSeq (sVar 0)) (gName 2) b1_ulaw_primitive)
    (gSeq (gIf (sTest (sOp oLt (sRd 1) (sC (.int 2)))) (gRet (sUn bTup (sRd 0))) gNil)
    (gRet (sUn bTup (sLst (fLc (iSeq (sVar 0)) (gName 2) tYesF b2_ulaw_primitive [2])))))))
noncomputable def f_ulaw_primitive : List D → Res D := semF 3 g_ulaw_primitive
/-- cells 0, limit 1, sparse 2, total 3, cell 4 -/
noncomputable def b1_ulaw_number : Sl → Out :=
  (gSet 3 (sOp oAdd (sOp oMul (sRd 3) (sC (.int 1009))) (sOp oMod (sUn bInt (sRd 4)) (sC (.int 1009)))))
noncomputable def g_ulaw_number : Sl → Out :=
  (gSeq (gSet 3 (sC (.int 0)))
    (gSeq (gFor (iSeq (sSl (sRd 0) (pSome (sC (.int 1))) pNone)) (gName 4) b1_ulaw_number)
    (gSeq (gIf (tAnd (tTru (sRd 2)) (sTest (sOp oLt (sOp oMod (sOp oFdiv (sUn bInt (sOp oIx (sRd 0) (sC (.int 0)))) (sC (.int 2))) (sC (.int 5))) (sC (.int 2))))) (gRet (sC (.int 0))) gNil)
    (gRet (sOp oMul (sOp oMod (sUn bInt (sRd 3)) (sRd 1)) (sOp oSub (sC (.int 1)) (sOp oMul (sC (.int 2)) (sOp oMod (sUn bInt (sOp oIx (sRd 0) (sC (.int 0)))) (sC (.int 2))))))))))
noncomputable def f_ulaw_number : List D → Res D := semF 5 g_ulaw_number
/-- first 0, left 1, second 2, right 3, k 4 -/
noncomputable def b1_ulaw_mixed : Sl → Res D :=
  (sOp oAdd (sOp oMul (sRd 1) (sOp oIx (sRd 0) (sRd 4))) (sOp oMul (sRd 3) (sOp oIx (sRd 2) (sRd 4))))
noncomputable def g_ulaw_mixed : Sl → Out :=
  (gRet (sUn bTup (sLst (fLc (iRg1 (aCons (sUn bLen (sRd 0)) aNil)) (gName 4) tYesF b1_ulaw_mixed [4]))))
noncomputable def f_ulaw_mixed : List D → Res D := semF 5 g_ulaw_mixed
/-- vector 0, top 1, place 2, k 3 -/
noncomputable def b1_ulaw_clear : Sl → Res D :=
  (sOp oSub (sOp oMul (sOp oIx (sRd 1) (sRd 2)) (sOp oIx (sRd 0) (sRd 3))) (sOp oMul (sOp oIx (sRd 0) (sRd 2)) (sOp oIx (sRd 1) (sRd 3))))
noncomputable def g_ulaw_clear : Sl → Out :=
  (gRet (sCall f_ulaw_primitive (aCons (sLst (fLc (iRg1 (aCons (sUn bLen (sRd 1)) aNil)) (gName 3) tYesF b1_ulaw_clear [3])) aNil)))
noncomputable def f_ulaw_clear : List D → Res D := semF 4 g_ulaw_clear
/-- vectors 0, width 1, basis 2, left 3, place 4, tops 5, top 6, vector 7, num 8 -/
noncomputable def b1_ulaw_reduced : Sl → Res D :=
  (sCall f_ulaw_primitive (aCons (sVar 7) aNil))
noncomputable def b2_ulaw_reduced : Sl → Res Bool :=
  (sTest (sOp oNe (sOp oIx (sRd 7) (sRd 4)) (sC (.int 0))))
noncomputable def b3_ulaw_reduced : Sl → Res D :=
  (sCall f_ulaw_clear (aCons (sVar 7) (aCons (sVar 6) (aCons (sVar 4) aNil))))
noncomputable def b4_ulaw_reduced : Sl → Out :=
  (gSeq (gSet 5 (sLst (fLc (iSeq (sVar 3)) (gName 7) b2_ulaw_reduced (sVar 7) [7])))
    (gIf (sTest (sOp oGt (sUn bLen (sRd 5)) (sC (.int 0)))) (gSeq (gSet 6 (sOp oIx (sRd 5) (sC (.int 0))))
    (gSeq (gIf (sTest (sOp oLt (sOp oIx (sRd 6) (sRd 4)) (sC (.int 0)))) (gSet 6 (sUn bTup (sLst (fLc (iSeq (sVar 6)) (gName 8) tYesF (sUn oNeg (sRd 8)) [8])))) gNil)
    (gSeq (gSet 3 (sLst (fLc (iSeq (sVar 3)) (gName 7) tYesF b3_ulaw_reduced [7])))
    (gFrz 2 (gSetO 2 (fOp fCat (sLst (fLc (iSeq (sVar 2)) (gName 7) tYesF b3_ulaw_reduced [7])) (sLst (fLst (aCons (sVar 6) aNil))))))))) gNil))
noncomputable def g_ulaw_reduced : Sl → Out :=
  (gSeq (gSetO 2 (fLst aNil))
    (gSeq (gSet 3 (sLst (fLc (iSeq (sVar 0)) (gName 7) tYesF b1_ulaw_reduced [7])))
    (gSeq (gFor (iRg1 (aCons (sVar 1) aNil)) (gName 4) b4_ulaw_reduced)
    (gRetO 2))))
noncomputable def f_ulaw_reduced : List D → Res D := semF 9 g_ulaw_reduced
/-- vector 0, k 1 -/
noncomputable def b1_ulaw_pivot : Sl → Res Bool :=
  (sTest (sOp oNe (sOp oIx (sRd 0) (sRd 1)) (sC (.int 0))))
noncomputable def g_ulaw_pivot : Sl → Out :=
  (gRet (sOp oIx (sLst (fLc (iRg1 (aCons (sUn bLen (sRd 0)) aNil)) (gName 1) b1_ulaw_pivot (sVar 1) [1])) (sC (.int 0))))
noncomputable def f_ulaw_pivot : List D → Res D := semF 2 g_ulaw_pivot
/-- vector 0, basis 1, top 2 -/
noncomputable def b1_ulaw_rest : Sl → Out :=
  (gSet 0 (sCall f_ulaw_clear (aCons (sVar 0) (aCons (sVar 2) (aCons (sCall f_ulaw_pivot (aCons (sVar 2) aNil)) aNil)))))
noncomputable def g_ulaw_rest : Sl → Out :=
  (gSeq (gFor (iSeq (sVar 1)) (gName 2) b1_ulaw_rest)
    (gRet (sCall f_ulaw_primitive (aCons (sVar 0) aNil))))
noncomputable def f_ulaw_rest : List D → Res D := semF 3 g_ulaw_rest
/-- script 0, turns 1, width 2, limit 3, sparse 4, cells 5, picks 6, vectors 7, j 8, row 9, k 10, at 11, first 12, second 13, kind 14 -/
noncomputable def b1_ulaw_vectors : Sl → Out :=
  (gSeq (gSet 11 (sOp oAdd (sOp oMul (sC (.int 30)) (sRd 8)) (sOp oMul (sC (.int 5)) (sRd 10))))
    (gApp 9 (sCall f_ulaw_number (aCons (sSl (sRd 5) (pSome (sVar 11)) (pSome (sOp oAdd (sRd 11) (sC (.int 5))))) (aCons (sVar 3) (aCons (sVar 4) aNil))))))
noncomputable def b2_ulaw_vectors : Sl → Out :=
  (gSeq (gSetO 9 (fLst aNil))
    (gSeq (gFor (iRg1 (aCons (sVar 2) aNil)) (gName 10) b1_ulaw_vectors)
    (gSeq (gPar3 12 13 14 (sUn bInt (sOp oIx (sRd 6) (sOp oMul (sC (.int 4)) (sRd 8)))) (sUn bInt (sOp oIx (sRd 6) (sOp oAdd (sOp oMul (sC (.int 4)) (sRd 8)) (sC (.int 1))))) (sOp oMod (sUn bInt (sOp oIx (sRd 6) (sOp oAdd (sOp oMul (sC (.int 4)) (sRd 8)) (sC (.int 2))))) (sC (.int 4))))
    (gSeq (gIf (tAnd (sTest (sOp oGt (sRd 8) (sC (.int 1)))) (sTest (sOp oEq (sRd 14) (sC (.int 0))))) (gSetO 9 (fUn bLst (sOp oIx (sRd 7) (sOp oMod (sRd 12) (sRd 8))))) gNil)
    (gSeq (gIf (tAnd (sTest (sOp oGt (sRd 8) (sC (.int 1)))) (sTest (sOp oEq (sRd 14) (sC (.int 1))))) (gSet 9 (sCall f_ulaw_mixed (aCons (sOp oIx (sRd 7) (sOp oMod (sRd 12) (sRd 8))) (aCons (sOp oAdd (sC (.int 1)) (sOp oMod (sOp oFdiv (sRd 12) (sC (.int 8))) (sC (.int 5)))) (aCons (sOp oIx (sRd 7) (sOp oMod (sRd 13) (sRd 8))) (aCons (sOp oSub (sOp oMod (sOp oFdiv (sRd 13) (sC (.int 8))) (sC (.int 9))) (sC (.int 4))) aNil)))))) gNil)
    (gApp 7 (sUn bTup (sRd 9))))))))
noncomputable def g_ulaw_vectors : Sl → Out :=
  (gSeq (gSet 3 (sOp oIx (sLst (fLst (aCons (sC (.int 3)) (aCons (sC (.int 10)) (aCons (sC (.int 1000)) (aCons (sOp oPow (sC (.int 10)) (sC (.int 12))) aNil)))))) (sOp oMod (sUn bInt (sOp oIx (sRd 1) (sC (.int 2)))) (sC (.int 4)))))
    (gSeq (gSet 4 (sOp oEq (sOp oMod (sUn bInt (sOp oIx (sRd 1) (sC (.int 3)))) (sC (.int 2))) (sC (.int 1))))
    (gSeq (gSet 5 (sCall f_ulaw_row (aCons (sVar 0) (aCons (sC (.int 1)) (aCons (sC (.int 240)) aNil)))))
    (gSeq (gSet 6 (sCall f_ulaw_row (aCons (sVar 0) (aCons (sC (.int 2)) (aCons (sC (.int 32)) aNil)))))
    (gSeq (gSetO 7 (fLst aNil))
    (gSeq (gFor (iRg1 (aCons (sOp oMod (sUn bInt (sOp oIx (sRd 1) (sC (.int 1)))) (sC (.int 9))) aNil)) (gName 8) b2_ulaw_vectors)
    (gRetO 7)))))))
noncomputable def f_ulaw_vectors : List D → Res D := semF 15 g_ulaw_vectors
/-- vectors 0, cells 1, width 2, other 3, step 4, a 5, b 6, many 7 -/
noncomputable def b1_ulaw_other : Sl → Out :=
  (gIf (sTest (sOp oGt (sUn bLen (sRd 3)) (sC (.int 0)))) (gSeq (gPar3 5 6 7 (sUn bInt (sOp oIx (sRd 1) (sOp oMul (sC (.int 3)) (sRd 4)))) (sUn bInt (sOp oIx (sRd 1) (sOp oAdd (sOp oMul (sC (.int 3)) (sRd 4)) (sC (.int 1))))) (sUn bInt (sOp oIx (sRd 1) (sOp oAdd (sOp oMul (sC (.int 3)) (sRd 4)) (sC (.int 2))))))
    (gSeq (gPar 5 6 (sOp oMod (sRd 5) (sUn bLen (sRd 3))) (sOp oMod (sRd 6) (sUn bLen (sRd 3))))
    (gIf (sTest (sOp oEq (sRd 5) (sRd 6))) (gSto 3 (sVar 5) (sCall f_ulaw_mixed (aCons (sOp oIx (sRd 3) (sRd 5)) (aCons (sOp oIx (sLst (fLst (aCons (sC (.int 2)) (aCons (sUn oNeg (sC (.int 3))) aNil)))) (sOp oMod (sRd 7) (sC (.int 2)))) (aCons (sOp oIx (sRd 3) (sRd 5)) (aCons (sC (.int 0)) aNil)))))) (gSto 3 (sVar 5) (sCall f_ulaw_mixed (aCons (sOp oIx (sRd 3) (sRd 5)) (aCons (sC (.int 1)) (aCons (sOp oIx (sRd 3) (sRd 6)) (aCons (sOp oSub (sOp oMod (sRd 7) (sC (.int 7))) (sC (.int 3))) aNil))))))))) gNil)
noncomputable def g_ulaw_other : Sl → Out :=
  (gSeq (gSetO 3 (fUn bLst (sRd 0)))
    (gSeq (gFor (iRg1 (aCons (sC (.int 8)) aNil)) (gName 4) b1_ulaw_other)
    (gRetF (fOp fCat (sLst (fOp fCat (sLst (fLst (aCons (sOp oMulT (sTup (aCons (sC (.int 0)) aNil)) (sRd 2)) aNil))) (sLst (fRev (sRd 3))))) (sSl (sRd 3) pNone (pSome (sC (.int 1))))))))
noncomputable def f_ulaw_other : List D → Res D := semF 8 g_ulaw_other
/-- vectors 0, width 1, due 2, given 3, told 4, row 5 -/
noncomputable def b1_ulaw_spans : Sl → Res D :=
  (sCall f_ulaw_is_tuple (aCons (sVar 5) (aCons (sVar 1) aNil)))
noncomputable def g_ulaw_spans : Sl → Out :=
  (gSeq (gSet 3 (sLst (fUn bLst (sRd 0))))
    (gSeq (gSetO 4 (fCall f_echelon (aCons (sVar 3) (aCons (sVar 1) aNil))))
    (gSeq (gIf (tLend 4 (tOr (tNot (tTru (sUn (bIsi "list") (sRd 4)))) (tOr (tNot (tTru (sUn bAll (sLst (fLc (iSeq (sVar 4)) (gName 5) tYesF b1_ulaw_spans [5]))))) (sTest (sOp oNe (sRd 4) (sRd 2)))))) (gRet (sC (.bl false))) gNil)
    (gSeq (gClr 4)
    (gRet (sOp oEq (sRd 3) (sRd 0)))))))
noncomputable def f_ulaw_spans : List D → Res D := semF 6 g_ulaw_spans
/-- vector 0, due 1, basis 2, told 3 -/
noncomputable def g_ulaw_lies : Sl → Out :=
  (gSeq (gSet 2 (sLst (fUn bLst (sRd 1))))
    (gSeq (gSet 3 (sCall f_reduce_by (aCons (sVar 0) (aCons (sVar 2) aNil))))
    (gRet (sAnd (sCall f_ulaw_is_tuple (aCons (sVar 3) (aCons (sUn bLen (sRd 0)) aNil))) (sAnd (sOp oEq (sRd 3) (sCall f_ulaw_rest (aCons (sVar 0) (aCons (sVar 1) aNil)))) (sOp oEq (sRd 2) (sRd 1)))))))
noncomputable def f_ulaw_lies : List D → Res D := semF 4 g_ulaw_lies
/-- script 0, turns 1, width 2, vectors 3, cells 4, due 5, vector 6, total 7, j 8, unit 9, moved 10, value 11, zero 12, plain 13, k 14 -/
noncomputable def b1_law : Sl → Res D :=
  (sCall f_ulaw_number (aCons (sSl (sRd 4) (pSome (sOp oAdd (sC (.int 30)) (sOp oMul (sC (.int 5)) (sRd 14)))) (pSome (sOp oAdd (sC (.int 35)) (sOp oMul (sC (.int 5)) (sRd 14))))) (aCons (sOp oIx (sLst (fLst (aCons (sC (.int 5)) (aCons (sOp oPow (sC (.int 10)) (sC (.int 12))) aNil)))) (sOp oMod (sUn bInt (sOp oIx (sRd 1) (sC (.int 4)))) (sC (.int 2)))) (aCons (sC (.bl true)) aNil))))
noncomputable def b2_law : Sl → Out :=
  (gSet 7 (sCall f_ulaw_mixed (aCons (sVar 7) (aCons (sC (.int 1)) (aCons (sOp oIx (sRd 3) (sRd 8)) (aCons (sOp oSub (sOp oMod (sOp oFdiv (sUn bInt (sOp oIx (sRd 4) (sOp oAdd (sC (.int 24)) (sOp oMod (sRd 8) (sC (.int 6)))))) (sOp oAdd (sRd 8) (sC (.int 1)))) (sC (.int 7))) (sC (.int 3))) aNil))))))
noncomputable def b3_law : Sl → Res D :=
  (sUn bInt (sOp oEq (sRd 14) (sOp oMod (sUn bInt (sOp oIx (sRd 1) (sC (.int 5)))) (sRd 2))))
noncomputable def b4_law : Sl → Out :=
  (gIf (tNot (tTru (sCall f_ulaw_lies (aCons (sVar 11) (aCons (sVar 5) aNil))))) (gRet (sC (.bl false))) gNil)
noncomputable def g_law : Sl → Out :=
  (gSeq (gSet 1 (sCall f_ulaw_row (aCons (sVar 0) (aCons (sC (.int 0)) (aCons (sC (.int 6)) aNil)))))
    (gSeq (gSet 2 (sOp oAdd (sC (.int 1)) (sOp oMod (sUn bInt (sOp oIx (sRd 1) (sC (.int 0)))) (sC (.int 6)))))
    (gSeq (gSet 3 (sCall f_ulaw_vectors (aCons (sVar 0) (aCons (sVar 1) (aCons (sVar 2) aNil)))))
    (gSeq (gSet 4 (sCall f_ulaw_row (aCons (sVar 0) (aCons (sC (.int 3)) (aCons (sC (.int 60)) aNil)))))
    (gSeq (gSet 5 (sCall f_ulaw_reduced (aCons (sVar 3) (aCons (sVar 2) aNil))))
    (gSeq (gIf (tOr (tNot (tTru (sCall f_ulaw_spans (aCons (sVar 3) (aCons (sVar 2) (aCons (sVar 5) aNil)))))) (tNot (tTru (sCall f_ulaw_spans (aCons (sCall f_ulaw_other (aCons (sVar 3) (aCons (sVar 4) (aCons (sVar 2) aNil)))) (aCons (sVar 2) (aCons (sVar 5) aNil))))))) (gRet (sC (.bl false))) gNil)
    (gSeq (gSet 6 (sUn bTup (sLst (fLc (iRg1 (aCons (sVar 2) aNil)) (gName 14) tYesF b1_law [14]))))
    (gSeq (gSet 7 (sOp oMulT (sTup (aCons (sC (.int 0)) aNil)) (sRd 2)))
    (gSeq (gFor (iRg1 (aCons (sUn bLen (sRd 3)) aNil)) (gName 8) b2_law)
    (gSeq (gSet 9 (sUn bTup (sLst (fLc (iRg1 (aCons (sVar 2) aNil)) (gName 14) tYesF b3_law [14]))))
    (gSeq (gSet 10 (sCall f_ulaw_mixed (aCons (sVar 6) (aCons (sOp oAdd (sC (.int 1)) (sOp oMod (sOp oFdiv (sUn bInt (sOp oIx (sRd 1) (sC (.int 5)))) (sC (.int 8))) (sC (.int 5)))) (aCons (sVar 7) (aCons (sC (.int 2)) aNil))))))
    (gSeq (gFor (iSeq (sLst (fOp fCat (sLst (fLst (aCons (sVar 6) (aCons (sCall f_ulaw_mixed (aCons (sVar 6) (aCons (sUn oNeg (sC (.int 1))) (aCons (sVar 6) (aCons (sC (.int 0)) aNil))))) (aCons (sVar 10) (aCons (sVar 9) (aCons (sVar 7) (aCons (sOp oMulT (sTup (aCons (sC (.int 0)) aNil)) (sRd 2)) aNil)))))))) (sRd 5)))) (gName 11) b4_law)
    (gSeq (gSet 12 (sCall f_reduce_by (aCons (sVar 7) (aCons (sLst (fUn bLst (sRd 5))) aNil))))
    (gSeq (gIf (tOr (tNot (tTru (sCall f_ulaw_is_tuple (aCons (sVar 12) (aCons (sVar 2) aNil))))) (tOr (sTest (sOp oNe (sRd 12) (sOp oMulT (sTup (aCons (sC (.int 0)) aNil)) (sRd 2)))) (sTest (sOp oNe (sCall f_reduce_by (aCons (sVar 10) (aCons (sLst (fUn bLst (sRd 5))) aNil))) (sCall f_ulaw_rest (aCons (sVar 6) (aCons (sVar 5) aNil))))))) (gRet (sC (.bl false))) gNil)
    (gSeq (gSet 13 (sCall f_reduce_by (aCons (sVar 6) (aCons (sLst (fLst aNil)) aNil))))
    (gSeq (gIf (tOr (tNot (tTru (sCall f_ulaw_is_tuple (aCons (sVar 13) (aCons (sVar 2) aNil))))) (sTest (sOp oNe (sRd 13) (sCall f_ulaw_primitive (aCons (sVar 6) aNil))))) (gRet (sC (.bl false))) gNil)
    (gRet (sCall f_ulaw_spans (aCons (sVar 3) (aCons (sVar 2) (aCons (sVar 5) aNil)))))))))))))))))))))
noncomputable def f_law : List D → Res D := semF 15 g_law
end S_k03

set_option Elab.async false
set_option linter.all false
set_option maxRecDepth 100000
set_option maxHeartbeats 4000000
/-! Lemmas for the plain laws: sizes, equality of data, Euclid. -/
namespace ML
open PySem L2 PF

theorem mulOk_r {i j : Int} (h : j.natAbs < 18446744073709551616) : mulOk i j = true := cb_t (.inr (.inr h))
theorem mulOk_l {i j : Int} (h : i.natAbs < 18446744073709551616) : mulOk i j = true := cb_t (.inr (.inl h))
theorem mulOk_b {i j : Int} {a b : Nat} (ha : i.natAbs < 2 ^ a) (hb : j.natAbs < 2 ^ b) (h : a + b ≤ 134217728) : mulOk i j = true := by
  have h1 := PyProof.Rows.intBits_le ha
  have h2 := PyProof.Rows.intBits_le hb
  exact cb_t (.inl (by omega))
theorem divOk_b {j : Int} {b : Nat} (h0 : j ≠ 0) (hb : j.natAbs < 2 ^ b) (h : b ≤ 9000) : divOk j = true := by
  refine cb_t ⟨h0, ?_⟩
  have h1 : j.natAbs ≠ 0 := by omega
  have h2 := Nat.log2_self_le h1
  have h3 : 2 ^ j.natAbs.log2 < 2 ^ b := Nat.lt_of_le_of_lt h2 hb
  have h4 := (Nat.pow_lt_pow_iff_right (by decide : 1 < 2)).mp h3
  omega
theorem divOk_s {j : Int} (h0 : j ≠ 0) (hb : j.natAbs < 18446744073709551616) : divOk j = true := divOk_b (b := 64) h0 hb (by decide)
theorem bits_lt (n : Int) : n.natAbs < 2 ^ (Builtin.Int.intBits n) := by
  unfold Builtin.Int.intBits
  split
  · rename_i h
    simp at h
    subst h
    decide
  · exact Nat.lt_log2_self
@[simp] theorem cb_True : cb True = true := cb_t trivial
@[simp] theorem cb_False : cb False = false := cb_f id
/-! ### sums and products stay below powers of two -/
theorem b_mul {i j : Int} {a b : Nat} (ha : i.natAbs < 2 ^ a) (hb : j.natAbs < 2 ^ b) : (i * j).natAbs < 2 ^ (a + b) := by
  rw [Int.natAbs_mul, Nat.pow_add]
  exact Nat.mul_lt_mul'' ha hb
theorem b_add {i j : Int} {a : Nat} (ha : i.natAbs < 2 ^ a) (hb : j.natAbs < 2 ^ a) : (i + j).natAbs < 2 ^ (a + 1) := by
  rw [Nat.pow_succ]
  omega
theorem b_sub {i j : Int} {a : Nat} (ha : i.natAbs < 2 ^ a) (hb : j.natAbs < 2 ^ a) : (i - j).natAbs < 2 ^ (a + 1) := by
  rw [Nat.pow_succ]
  omega
theorem b_up {i : Int} {a b : Nat} (ha : i.natAbs < 2 ^ a) (h : a ≤ b) : i.natAbs < 2 ^ b := Nat.lt_of_lt_of_le ha (Nat.pow_le_pow_right (by decide) h)
theorem b_neg {i : Int} {a : Nat} (ha : i.natAbs < 2 ^ a) : (-i).natAbs < 2 ^ a := by rw [Int.natAbs_neg]; exact ha

/-! ### equality of data -/
@[simp] theorem eqv_int (i j : Int) : eqv (.int i) (.int j) = (i == j) := by simp [eqv, D.py, PyData.eqv]
theorem sh_of {d : D} (h1 : d.py.canLay0 = true) (h2 : d.py.depth ≤ 64) : eqOk d = true := by
  unfold eqOk SeqAt.shaped
  rw [h1]
  simp [h2]
@[simp] theorem eqOk_int (i : Int) : eqOk (.int i) = true := sh_of (by simp [D.py, PyData.canLay0]) (by simp [D.py, PyData.depth])
@[simp] theorem eqOk_bl (i : Bool) : eqOk (.bl i) = true := sh_of (by simp [D.py, PyData.canLay0]) (by simp [D.py, PyData.depth])
@[simp] theorem eqOk_non : eqOk .non = true := sh_of (by simp [D.py, PyData.canLay0]) (by simp [D.py, PyData.depth])
theorem pyA_ints : ∀ ns : List Int, D.pyA (ns.map D.int) = ns.map PyData.int
  | [] => rfl
  | n :: ns => by simp [D.pyA, D.py, pyA_ints ns]
theorem lay_ints : ∀ ns : List Int, PyData.canLayAll0 (ns.map PyData.int) = true
  | [] => by simp [PyData.canLayAll0]
  | n :: ns => by simp [PyData.canLayAll0, PyData.canLay0, lay_ints ns]
theorem dep_ints : ∀ ns : List Int, PyData.depthAll (ns.map PyData.int) = 0
  | [] => by simp [PyData.depthAll]
  | n :: ns => by simp [PyData.depthAll, PyData.depth, dep_ints ns]
@[simp] theorem eqOk_ints (ns : List Int) : eqOk (.tup (ns.map D.int)) = true := sh_of (by simp [D.py, PyData.canLay0, pyA_ints, lay_ints]) (by simp [D.py, PyData.depth, pyA_ints, dep_ints])
@[simp] theorem eqOk_two (i j : Int) : eqOk (.tup [.int i, .int j]) = true := eqOk_ints [i, j]
@[simp] theorem eqv_two (i j k l : Int) : eqv (.tup [.int i, .int j]) (.tup [.int k, .int l]) = (i == k && j == l) := by simp [eqv, D.py, D.pyA, PyData.eqv, PyData.eqvAll]

/-! ### Euclid's division as the laws do it -/
theorem half_rest {b r : Nat} (h0 : 0 < r) (h : r < b) : 2 * (b % r) < b := by
  have h1 := Nat.mod_lt b h0
  by_cases c : 2 * r ≤ b
  · omega
  · have e : b % r = b - r := by
      rw [Nat.mod_eq_sub_mod (Nat.le_of_lt h), Nat.mod_eq_of_lt (by omega)]
    omega
theorem fmod_nat (a b : Nat) : Int.fmod (a : Int) (b : Int) = ((a % b : Nat) : Int) := by
  rw [Int.fmod_eq_emod_of_nonneg _ (Int.natCast_nonneg b)]
  exact (Int.natCast_emod a b).symm
theorem abs_nat (i : Int) : (if i < 0 then -i else i) = (i.natAbs : Int) := by
  split <;> omega
/-! ### loops -/
theorem for_inv {g : FG} {body : Sl → Out} (P : List D → Sl → Prop) (step : ∀ d ds ρ, P (d :: ds) ρ → ∃ ρ1, g d ρ = some ρ1 ∧ ∃ ρ2, (body ρ1 = .nx ρ2 ∨ body ρ1 = .ct ρ2) ∧ P ds ρ2) : ∀ ds ρ, P ds ρ → ∃ ρ', forRun g body ds ρ = .nx ρ' ∧ P [] ρ'
  | [], ρ, h => ⟨ρ, rfl, h⟩
  | d :: ds, ρ, h => by
    obtain ⟨ρ1, h1, ρ2, h2, h3⟩ := step d ds ρ h
    obtain ⟨ρ3, h4, h5⟩ := for_inv P step ds ρ2 h3
    refine ⟨ρ3, ?_, h5⟩
    rcases h2 with h2 | h2 <;> simp only [forRun, h1, h2] <;> exact h4
theorem rngD_ints (lo : Int) (n : Nat) : rngD lo n = ((List.range n).map fun (k : Nat) => lo + (k : Int)).map D.int := by simp [rngD]
theorem atI_nat {xs : List D} {i : Int} {k : Nat} (h : i = (k : Int)) (hk : k < xs.length) : atI xs i = some xs[k] := by
  have e : ixN xs.length i = some k := by
    unfold ixN
    subst h
    simp [hk]
  unfold atI
  rw [e]
  exact List.getElem?_eq_getElem hk
theorem nth_ints (ns : List Int) (k : Nat) (h : k < (ns.map D.int).length) : (ns.map D.int)[k] = .int (ns[k]'(by simpa using h)) := by simp
theorem atI_ints {ns : List Int} {i : Int} (h0 : 0 ≤ i) (h1 : i < ns.length) : ∃ z, atI (ns.map D.int) i = some (.int z) := by
  obtain ⟨k, rfl⟩ := Int.eq_ofNat_of_zero_le h0
  have hk : k < (ns.map D.int).length := by simp; omega
  exact ⟨_, by rw [atI_nat rfl hk, nth_ints]⟩
theorem rng1_ok {n : Nat} (h : n ≤ 1000000) : gRng1 [.int (n : Int)] = .ok (rngD 0 n) := by
  have hg : cb (-(2 ^ 62) ≤ (n : Int) ∧ (n : Int) < 2 ^ 62) = true := cb_t (by constructor <;> omega)
  unfold gRng1
  simp only [hg, if_true, Int.toNat_natCast]
theorem seq_nx {g h : Sl → Out} {ρ ρ' : Sl} (e : g ρ = .nx ρ') : gSeq g h ρ = h ρ' := by simp only [gSeq, e]
theorem seq_nx2 {g1 g2 h : Sl → Out} {ρ ρ' : Sl} (e : gSeq g1 g2 ρ = .nx ρ') : gSeq g1 (gSeq g2 h) ρ = h ρ' := by
  unfold gSeq at e ⊢
  cases e1 : g1 ρ with
  | nx a => rw [e1] at e; simp only [gSeq] at e ⊢; rw [e]
  | _ => rw [e1] at e; cases e
theorem semF_ret {n : Nat} {g : Sl → Out} {ds : List D} {d : D} (h : g (ds.map Cell.v ++ List.replicate (n - ds.length) .e) = .ret d) : semF n g ds = .ok d := by
  unfold semF
  rw [h]
@[simp] theorem atI_zero (x : D) (xs : List D) : atI (x :: xs) 0 = some x := atI_nat (xs := x :: xs) (k := 0) rfl (by simp)
@[simp] theorem atI_one (x y : D) (xs : List D) : atI (x :: y :: xs) 1 = some y := atI_nat (xs := x :: y :: xs) (k := 1) rfl (by simp)
@[simp] theorem atI_two (x y z : D) (xs : List D) : atI (x :: y :: z :: xs) 2 = some z := atI_nat (xs := x :: y :: z :: xs) (k := 2) rfl (by simp)
@[simp] theorem atI_three (x y z u : D) (xs : List D) : atI (x :: y :: z :: u :: xs) 3 = some u := atI_nat (xs := x :: y :: z :: u :: xs) (k := 3) rfl (by simp)
theorem cut_ints (ns : List Int) (lo hi : Option Int) : ∃ ms : List Int, cutD (ns.map D.int) lo hi = ms.map D.int := ⟨_, by
  unfold cutD
  rw [← List.map_drop, ← List.map_take]⟩
theorem pow_ok {i : Int} {k : Nat} (h : i.natAbs < 2 ^ 64) (hk : k ≤ 1000000) : cb (0 ≤ (k : Int) ∧ (k : Int) ≤ 1000000 ∧ i.natAbs < 2 ^ 64) = true := cb_t ⟨by omega, by omega, h⟩
theorem eq_zero_b (i : Int) : (i == 0) = decide (i = 0) := by by_cases h : i = 0 <;> simp [h]
@[simp] theorem kb_int_int : kitB "int" "int" = some true := by decide +kernel
@[simp] theorem kb_int_bool : kitB "int" "bool" = some false := by decide +kernel
@[simp] theorem kb_int_tuple : kitB "int" "tuple" = some false := by decide +kernel
@[simp] theorem kb_int_list : kitB "int" "list" = some false := by decide +kernel
@[simp] theorem kb_int_str : kitB "int" "str" = some false := by decide +kernel
@[simp] theorem kb_bool_int : kitB "bool" "int" = some true := by decide +kernel
@[simp] theorem kb_bool_bool : kitB "bool" "bool" = some true := by decide +kernel
@[simp] theorem kb_bool_tuple : kitB "bool" "tuple" = some false := by decide +kernel
@[simp] theorem kb_bool_list : kitB "bool" "list" = some false := by decide +kernel
@[simp] theorem kb_bool_str : kitB "bool" "str" = some false := by decide +kernel
@[simp] theorem kb_tuple_int : kitB "tuple" "int" = some false := by decide +kernel
@[simp] theorem kb_tuple_bool : kitB "tuple" "bool" = some false := by decide +kernel
@[simp] theorem kb_tuple_tuple : kitB "tuple" "tuple" = some true := by decide +kernel
@[simp] theorem kb_tuple_list : kitB "tuple" "list" = some false := by decide +kernel
@[simp] theorem kb_tuple_str : kitB "tuple" "str" = some false := by decide +kernel
@[simp] theorem kb_list_int : kitB "list" "int" = some false := by decide +kernel
@[simp] theorem kb_list_bool : kitB "list" "bool" = some false := by decide +kernel
@[simp] theorem kb_list_tuple : kitB "list" "tuple" = some false := by decide +kernel
@[simp] theorem kb_list_list : kitB "list" "list" = some true := by decide +kernel
@[simp] theorem kb_list_str : kitB "list" "str" = some false := by decide +kernel
@[simp] theorem kb_str_int : kitB "str" "int" = some false := by decide +kernel
@[simp] theorem kb_str_bool : kitB "str" "bool" = some false := by decide +kernel
@[simp] theorem kb_str_tuple : kitB "str" "tuple" = some false := by decide +kernel
@[simp] theorem kb_str_list : kitB "str" "list" = some false := by decide +kernel
@[simp] theorem kb_str_str : kitB "str" "str" = some true := by decide +kernel
@[simp] theorem kb_NoneType_int : kitB "NoneType" "int" = some false := by decide +kernel
@[simp] theorem kb_NoneType_bool : kitB "NoneType" "bool" = some false := by decide +kernel
@[simp] theorem kb_NoneType_tuple : kitB "NoneType" "tuple" = some false := by decide +kernel
@[simp] theorem kb_NoneType_list : kitB "NoneType" "list" = some false := by decide +kernel
@[simp] theorem kb_NoneType_str : kitB "NoneType" "str" = some false := by decide +kernel
/-! ### comprehensions over ints -/
theorem lc_ints' (i : Nat) (f : Sl → Res D) (h : Int → Int) (ρ : Sl) : ∀ (ns acc : List Int), (∀ n ∈ ns, f (ρ.set i (.v (.int n))) = .ok (.int (h n))) → acc.length + ns.length ≤ 100000 → lcRun (PF.gName i) tYesF f ρ (ns.map D.int) (acc.map D.int) = .ok ((acc ++ ns.map h).map D.int)
  | [], acc, _, _ => by simp [lcRun]
  | n :: ns, acc, hf, hl => by
    have e1 := hf n (by simp)
    have hlt : (acc.map D.int).length < 16777216 := by simp at hl ⊢; omega
    have ih := lc_ints' i f h ρ ns (acc ++ [h n]) (fun m hm => hf m (by simp [hm])) (by simp at hl ⊢; omega)
    rw [List.map_cons]
    unfold lcRun
    simp only [PF.gName, tYesF, Res.nx, Res.bind_ok, if_true, e1, hlt]
    simpa using ih
theorem lc_ints (i : Nat) (f : Sl → Res D) (h : Int → Int) (ρ : Sl) (ns : List Int) (hf : ∀ n ∈ ns, f (ρ.set i (.v (.int n))) = .ok (.int (h n))) (hl : ns.length ≤ 100000) : lcRun (PF.gName i) tYesF f ρ (ns.map D.int) [] = .ok ((ns.map h).map D.int) := by
  have := lc_ints' i f h ρ ns [] hf (by simpa using hl)
  simpa using this
/-! ### the greatest common part of a list -/
def G (p : Nat) : List Int → Nat
  | [] => p
  | n :: ns => G (Nat.gcd p n.natAbs) ns
def Bd (k : Nat) (ns : List Int) : Prop := ∀ n ∈ ns, n.natAbs < 2 ^ k
theorem b_gcd {p q k : Nat} (hp : p < 2 ^ k) (hq : q < 2 ^ k) : Nat.gcd p q < 2 ^ k := by
  by_cases h : p = 0
  · subst h; simpa using hq
  · exact Nat.lt_of_le_of_lt (Nat.gcd_le_left _ (by omega)) hp
theorem G_lt {k : Nat} : ∀ (ns : List Int) (p : Nat), p < 2 ^ k → Bd k ns → G p ns < 2 ^ k
  | [], p, hp, _ => hp
  | n :: ns, p, hp, h => G_lt ns _ (b_gcd hp (h n (by simp))) fun m hm => h m (by simp [hm])
theorem Bd.up {k l : Nat} {ns : List Int} (h : Bd k ns) (hl : k ≤ l) : Bd l ns := fun n hn => b_up (h n hn) hl
theorem Bd.mul {k l : Nat} {ns : List Int} {f : Int} (h : Bd k ns) (hf : f.natAbs < 2 ^ l) : Bd (l + k) (ns.map (f * ·)) := fun n hn => by
  obtain ⟨m, hm, rfl⟩ := List.mem_map.mp hn
  exact b_mul hf (h m hm)
/-! ### comprehensions in general -/
theorem lc_map' {α : Type} {g : FG} {f : Sl → Res D} {ρ : Sl} (e h : α → D) : ∀ (xs : List α) (acc : List D), (∀ x ∈ xs, ∃ ρ1, g (e x) ρ = some ρ1 ∧ f ρ1 = .ok (h x)) → acc.length + xs.length ≤ 100000 → lcRun g tYesF f ρ (xs.map e) acc = .ok (acc ++ xs.map h)
  | [], acc, _, _ => by simp [lcRun]
  | x :: xs, acc, hf, hl => by
    obtain ⟨ρ1, h1, h2⟩ := hf x (by simp)
    have hlt : acc.length < 16777216 := by simp at hl; omega
    have ih := lc_map' e h xs (acc ++ [h x]) (fun m hm => hf m (by simp [hm])) (by simp at hl ⊢; omega)
    rw [List.map_cons]
    unfold lcRun
    simp only [h1, tYesF, Res.nx, Res.bind_ok, if_true, h2, hlt]
    simpa using ih
theorem lc_map {α : Type} {g : FG} {f : Sl → Res D} {ρ : Sl} (e h : α → D) (xs : List α) (hf : ∀ x ∈ xs, ∃ ρ1, g (e x) ρ = some ρ1 ∧ f ρ1 = .ok (h x)) (hl : xs.length ≤ 100000) : lcRun g tYesF f ρ (xs.map e) [] = .ok (xs.map h) := by
  have := lc_map' e h xs [] hf (by simpa using hl)
  simpa using this
theorem dBls_of {α : Type} (p : α → Bool) : ∀ xs : List α, dBls (xs.map fun x => D.bl (p x)) = some (xs.map p)
  | [] => rfl
  | x :: xs => by simp [dBls, dBls_of p xs]
theorem dInts_of {α : Type} (p : α → Int) : ∀ xs : List α, dInts (xs.map fun x => D.int (p x)) = some (xs.map p)
  | [] => rfl
  | x :: xs => by simp [dInts, dInts_of p xs]
/-! ### vectors -/
def vec (ns : List Int) : D := .tup (ns.map D.int)
theorem eqvA_ints : ∀ a b : List Int, PyData.eqvAll (a.map PyData.int) (b.map PyData.int) = decide (a = b)
  | [], [] => by simp [PyData.eqvAll]
  | [], _ :: _ => by simp [PyData.eqvAll]
  | _ :: _, [] => by simp [PyData.eqvAll]
  | x :: a, y :: b => by
    simp only [List.map_cons, PyData.eqvAll, eqvA_ints a b, PyData.eqv]
    by_cases h : x = y <;> simp [h]
theorem eqv_vec (a b : List Int) : eqv (vec a) (vec b) = decide (a = b) := by simp [vec, eqv, D.py, pyA_ints, PyData.eqv, eqvA_ints]
@[simp] theorem eqOk_vec (a : List Int) : eqOk (vec a) = true := eqOk_ints a
theorem eqOk_pt (ns : List Int) (d : Int) : eqOk (.tup [vec ns, .int d]) = true := sh_of (by simp [vec, D.py, D.pyA, PyData.canLay0, PyData.canLayAll0, pyA_ints, lay_ints]) (by simp [vec, D.py, D.pyA, PyData.depth, PyData.depthAll, pyA_ints, dep_ints])
theorem eqv_pt (ns ms : List Int) (d e : Int) : eqv (.tup [vec ns, .int d]) (.tup [vec ms, .int e]) = (decide (ns = ms) && decide (d = e)) := by
  by_cases h : d = e <;> simp [vec, eqv, D.py, D.pyA, pyA_ints, PyData.eqv, PyData.eqvAll, eqvA_ints, h]
theorem eqOk_str {x : Str} (h : PyData.strOk x = true) : eqOk (.str x) = true := sh_of (by simp [D.py, PyData.canLay0, h]) (by simp [D.py, PyData.depth])
@[simp] theorem eqv_str (x y : Str) : eqv (.str x) (.str y) = (x == y) := by simp [eqv, D.py, PyData.eqv]
def Sm (ns : List Int) : Prop := ∀ n ∈ ns, n.natAbs < 18446744073709551616
def dotZ : List Int → List Int → Int
  | x :: xs, y :: ys => x * y + dotZ xs ys
  | _, _ => 0
theorem zip_ints : ∀ a b : List Int, zipD (a.map D.int) (b.map D.int) = (a.zip b).map fun z => D.tup [.int z.1, .int z.2]
  | [], _ => by simp [zipD]
  | _ :: _, [] => by simp [zipD]
  | x :: a, y :: b => by simp [zipD, zip_ints a b]
theorem dot_sum : ∀ a b : List Int, ((a.zip b).map fun z => z.1 * z.2).sum = dotZ a b
  | [], _ => by simp [dotZ]
  | _ :: _, [] => by simp [dotZ]
  | x :: a, y :: b => by simp [dotZ, dot_sum a b]
@[simp] theorem thaw_vec (ns : List Int) : thaw (vec ns) = .ok (vec ns) := rfl
@[simp] theorem thaw_bl (b : Bool) : thaw (.bl b) = .ok (.bl b) := rfl
@[simp] theorem thaw_int (i : Int) : thaw (.int i) = .ok (.int i) := rfl
@[simp] theorem thaw_tup (ds : List D) : thaw (.tup ds) = .ok (.tup ds) := rfl
@[simp] theorem thaw_lst (ds : List D) : thaw (.lst ds) = .ok (.lst ds) := rfl
@[simp] theorem thaw_fr (ds : List D) : thaw (.fr ds) = .ok (.lst ds) := rfl
@[simp] theorem thaw_non : thaw .non = .ok .non := rfl
/-- a list or tuple of ints -/
def allI : List D → Option (List Int)
  | [] => some []
  | .int i :: ds => (allI ds).map (i :: ·)
  | _ => none
theorem allI_map : ∀ ns : List Int, allI (ns.map D.int) = some ns
  | [] => rfl
  | n :: ns => by simp [allI, allI_map ns]
inductive SeqI : D → List Int → Prop
  | t (ns : List Int) : SeqI (.tup (ns.map D.int)) ns
  | l (ns : List Int) : SeqI (.lst (ns.map D.int)) ns
def seqI (d : D) : Option (List Int) := match d with
  | .tup ds => allI ds
  | .lst ds => allI ds
  | _ => none
theorem allI_eq : ∀ {ds : List D} {ns : List Int}, allI ds = some ns → ds = ns.map D.int
  | [], ns, h => by cases h; rfl
  | d :: r, ns, h => by
    cases d <;> first | cases h | skip
    rename_i i
    simp only [allI, Option.map_eq_some_iff] at h
    obtain ⟨ms, h1, rfl⟩ := h
    rw [allI_eq h1]
    rfl
@[simp] theorem seqI_t (ns : List Int) : seqI (.tup (ns.map D.int)) = some ns := allI_map ns
@[simp] theorem seqI_l (ns : List Int) : seqI (.lst (ns.map D.int)) = some ns := allI_map ns
@[simp] theorem seqI_v (ns : List Int) : seqI (vec ns) = some ns := allI_map ns
theorem ix_seqI {d : D} {ns : List Int} {i : Int} {k : Nat} (h : seqI d = some ns) (hi : i = (k : Int)) (hk : k < ns.length) : oIx d (.int i) = .ok (.int ns[k]) := by
  have key : ∀ ds : List D, allI ds = some ns → atI ds i = some (.int ns[k]) := fun ds e => by
    have e' := allI_eq e
    subst e'
    rw [atI_nat hi (by simpa using hk), nth_ints]
  cases d <;> first | cases h | skip
  · rename_i ds; simp only [oIx, key ds h]
  · rename_i ds; simp only [oIx, key ds h]
theorem len_seqI {d : D} {ns : List Int} (h : seqI d = some ns) : bLen d = .ok (.int (ns.length : Int)) := by
  cases d <;> first | cases h | skip
  · rename_i ds; simp [bLen, allI_eq h]
  · rename_i ds; simp [bLen, allI_eq h]
@[simp] theorem oIxT0 (x : D) (xs : List D) : oIx (.tup (x :: xs)) (.int 0) = .ok x := by simp only [oIx, atI_zero]
@[simp] theorem oIxT1 (x y : D) (xs : List D) : oIx (.tup (x :: y :: xs)) (.int 1) = .ok y := by simp only [oIx, atI_one]
@[simp] theorem oIxT2 (x y z : D) (xs : List D) : oIx (.tup (x :: y :: z :: xs)) (.int 2) = .ok z := by simp only [oIx, atI_two]
theorem leC {α : Type} {x c : Nat} {a b : α} (h : x ≤ c) : (if x ≤ c then a else b) = a := if_pos h
theorem ltC {α : Type} {x c : Nat} {a b : α} (h : x < c) : (if x < c then a else b) = a := if_pos h
@[simp] theorem oIxL0 (x : D) (xs : List D) : oIx (.lst (x :: xs)) (.int 0) = .ok x := by simp only [oIx, atI_zero]
@[simp] theorem oIxL1 (x y : D) (xs : List D) : oIx (.lst (x :: y :: xs)) (.int 1) = .ok y := by simp only [oIx, atI_one]
@[simp] theorem oIxL2 (x y z : D) (xs : List D) : oIx (.lst (x :: y :: z :: xs)) (.int 2) = .ok z := by simp only [oIx, atI_two]
end ML

set_option Elab.async false
set_option linter.all false
set_option maxRecDepth 100000
set_option maxHeartbeats 4000000
/-! What the defs that every law has (mix, row, common, is_whole, is_tuple) answer. Printed from LC.tpl, @ for the law's short name. -/
namespace LC_k03
open PySem L2 PF ML S_k03

theorem fmod_b (i m : Int) (h : 0 < m) : 0 ≤ i.fmod m ∧ i.fmod m < m := by
  rw [Int.fmod_eq_emod_of_nonneg _ (by omega)]
  exact ⟨Int.emod_nonneg _ (by omega), Int.emod_lt_of_pos _ (by omega)⟩
theorem mix_ok (c k : Int) : ∃ z, f_ulaw_mix [.int c, .int k] = .ok (.int z) := by
  have h1 : ∀ i, mulOk i 48271 = true := fun i => mulOk_r (by decide)
  have h2 : ∀ i, mulOk i 69621 = true := fun i => mulOk_r (by decide)
  have h3 : ∀ i, mulOk i 40692 = true := fun i => mulOk_r (by decide)
  have h4 : ∀ i, mulOk i 16807 = true := fun i => mulOk_r (by decide)
  have h5 : ∀ i : Int, mulOk (i.fmod 2147483647) (i.fmod 2147483647) = true := fun i => by
    have := fmod_b i 2147483647 (by decide)
    exact mulOk_l (by omega)
  have h6 : divOk 8 = true := divOk_s (by decide) (by decide)
  have key : ∀ (a b : Int), a = (c * 48271 + k * 69621 + 11).fmod 2147483647 → b = (a * a + k * 40692 + 7).fmod 2147483399 → f_ulaw_mix [.int c, .int k] = .ok (.int (((b * 16807 + a).fmod 2147483587).fdiv 8)) := by
    intro a b ea eb
    subst ea eb
    simp [f_ulaw_mix, g_ulaw_mix, h1, h2, h3, h4, h5, h6]
  exact ⟨_, key _ _ rfl rfl⟩
def rowI (ns : List Int) (a m : Int) (n : Nat) (ds : List D) (ρ : Sl) : Prop := ∃ (c r : Int) (cs ks : List Int) (kc : Cell), ds = ks.map D.int ∧ cs.length + ds.length = n ∧ ρ = [.v (.rol (ns.map D.int)), .v (.int a), .v (.int m), .v (.int c), .o (cs.map D.int), .v (.int r), kc]
theorem row_step {ns : List Int} {a m : Int} {n : Nat} (hn : n ≤ 1000) (d : D) (ds : List D) (ρ : Sl) (h : rowI ns a m n (d :: ds) ρ) : ∃ ρ1, gName 6 d ρ = some ρ1 ∧ ∃ ρ2, (b1_ulaw_row ρ1 = .nx ρ2 ∨ b1_ulaw_row ρ1 = .ct ρ2) ∧ rowI ns a m n ds ρ2 := by
  obtain ⟨c, r, cs, ks, kc, h1, h2, rfl⟩ := h
  cases ks with
  | nil => cases h1
  | cons k ks =>
    cases h1
    refine ⟨_, rfl, ?_⟩
    have hl : cs.length < 16777216 := by simp at h2; omega
    have h6 : divOk 1009 = true := divOk_s (by decide) (by decide)
    obtain ⟨z, hz⟩ := mix_ok c k
    have hA : ∀ ρ2, ρ2 = [.v (.rol (ns.map D.int)), .v (.int a), .v (.int m), .v (.int c), .o ((cs ++ [z]).map D.int), .v (.int r), .v (.int k)] → rowI ns a m n (ks.map D.int) ρ2 := fun ρ2 e => ⟨c, r, cs ++ [z], ks, _, rfl, by simp at h2 ⊢; omega, e⟩
    have hB : ∀ ρ2, ρ2 = [.v (.rol (ns.map D.int)), .v (.int a), .v (.int m), .v (.int c), .o ((cs ++ [r.fmod 1009]).map D.int), .v (.int (r.fdiv 1009)), .v (.int k)] → rowI ns a m n (ks.map D.int) ρ2 := fun ρ2 e => ⟨c, r.fdiv 1009, cs ++ [r.fmod 1009], ks, _, rfl, by simp at h2 ⊢; omega, e⟩
    cases e1 : cb (1000000000000000000 ≤ (if c < 0 then -c else c)) <;> cases e2 : cb (0 < r)
    · exact ⟨_, .inl (by simp [-cb_iff, -cb_nif, b1_ulaw_row, e1, e2, hl, hz]; rfl), hA _ (by simp)⟩
    · exact ⟨_, .inl (by simp [-cb_iff, -cb_nif, b1_ulaw_row, e1, e2, hl, hz]; rfl), hA _ (by simp)⟩
    · exact ⟨_, .inl (by simp [-cb_iff, -cb_nif, b1_ulaw_row, e1, e2, hl, hz]; rfl), hA _ (by simp)⟩
    · exact ⟨_, .inl (by simp [-cb_iff, -cb_nif, b1_ulaw_row, e1, e2, hl, h6]; rfl), hB _ (by simp)⟩
theorem row_ok (ns : List Int) (hns : ns.length ≤ 63) (a : Int) (ha : 0 ≤ a) (n : Nat) (hn : n ≤ 1000) : ∃ cs : List Int, cs.length = n ∧ f_ulaw_row [.rol (ns.map D.int), .int a, .int n] = .ok (.fr (cs.map D.int)) := by
  have fin : ∀ c r : Int, ∃ ρ', forRun (gName 6) b1_ulaw_row (rngD 0 n) [.v (.rol (ns.map D.int)), .v (.int a), .v (.int n), .v (.int c), .o [], .v (.int r), .e] = .nx ρ' ∧ rowI ns a n n [] ρ' := fun c r =>
    for_inv (rowI ns a n n) (row_step hn) _ _ ⟨c, r, [], _, .e, rngD_ints 0 n, by simp [rngD], rfl⟩
  have hg := rng1_ok (n := n) (by omega)
  have key : ∀ c : Int, ∃ cs : List Int, cs.length = n ∧ (gSeq (gSetO 4 (fLst aNil))
    (gSeq (gSet 5 (sUn bAbs (sRd 3)))
    (gSeq (gFor (iRg1 (aCons (sVar 2) aNil)) (gName 6) b1_ulaw_row)
    (gRetO 4)))) [.v (.rol (ns.map D.int)), .v (.int a), .v (.int n), .v (.int c), .e, .e, .e] = .ret (.fr (cs.map D.int)) := fun c => by
    obtain ⟨ρ', h1, c', r', cs, ks, kc, h2, h3, rfl⟩ := fin c (if c < 0 then -c else c)
    refine ⟨cs, by simpa using h3, ?_⟩
    simp [-cb_iff, -cb_nif, -gRng1, hg, h1]
  have h7 : ∀ i, mulOk 7919 i = true := fun i => mulOk_l (by decide)
  have start : ∃ c : Int, (gSeq (gSet 3 (sVar 1)) (gIf (sTest (sOp oLt (sRd 1) (sUn bLen (sRd 0)))) (gSet 3 (sOp oIx (sRd 0) (sRd 1))) (gIf (sTest (sOp oGt (sUn bLen (sRd 0)) (sC (.int 0)))) (gSet 3 (sOp oAdd (sOp oIx (sRd 0) (sOp oMod (sRd 1) (sUn bLen (sRd 0)))) (sOp oMul (sC (.int 7919)) (sRd 1)))) gNil))) [.v (.rol (ns.map D.int)), .v (.int a), .v (.int n), .e, .e, .e, .e] = .nx [.v (.rol (ns.map D.int)), .v (.int a), .v (.int n), .v (.int c), .e, .e, .e] := by
    by_cases e1 : a < (ns.length : Int)
    · obtain ⟨z, hz⟩ := atI_ints ha e1
      exact ⟨z, by simp [-cb_iff, -cb_nif, cb_t e1, hz]⟩
    · by_cases e2 : (0 : Int) < (ns.length : Int)
      · obtain ⟨z, hz⟩ := atI_ints (ns := ns) (fmod_b a _ e2).1 (fmod_b a _ e2).2
        have e3 : ns ≠ [] := by intro h; subst h; simp at e2
        exact ⟨z + 7919 * a, by simp [-cb_iff, -cb_nif, cb_f e1, cb_t e2, cb_t (show 0 < ns.length by omega), hz, h7, e3]⟩
      · exact ⟨a, by simp [-cb_iff, -cb_nif, cb_f e1, cb_f e2, cb_f (show ¬ 0 < ns.length by omega)]⟩
  obtain ⟨c, hc⟩ := start
  obtain ⟨cs, h8, h9⟩ := key c
  refine ⟨cs, h8, ?_⟩
  have e : g_ulaw_row [.v (.rol (ns.map D.int)), .v (.int a), .v (.int n), .e, .e, .e, .e] = .ret (.fr (cs.map D.int)) := by
    rw [← h9]
    unfold g_ulaw_row
    exact seq_nx2 hc
  unfold f_ulaw_row
  exact semF_ret e
theorem euc : ∀ (k l r : Nat) (ds : List D) (kc : Cell), r < 2 ^ k → 2 * k + 2 ≤ ds.length → forRun (gName 2) b1_ulaw_common ds [.v (.int (l : Int)), .v (.int (r : Int)), kc] = .ret (.int ((Nat.gcd l r : Nat) : Int))
  | _, _, _, [], _, _, h => by simp at h
  | k, l, r, d :: ds, kc, hr, h => by
    by_cases h0 : r = 0
    · subst h0
      simp [forRun, b1_ulaw_common]
    · have hz : ¬ ((r : Int) = 0) := by omega
      have e1 : forRun (gName 2) b1_ulaw_common (d :: ds) [.v (.int (l : Int)), .v (.int (r : Int)), kc] = forRun (gName 2) b1_ulaw_common ds [.v (.int (r : Int)), .v (.int ((l % r : Nat) : Int)), .v d] := by
        simp [forRun, b1_ulaw_common, hz, h0, fmod_nat]
      rw [e1, Nat.gcd_comm, Nat.gcd_rec, Nat.gcd_comm]
      cases k with
      | zero => simp at hr; omega
      | succ k =>
        cases ds with
        | nil => simp at h
        | cons d' ds =>
          by_cases h1 : l % r = 0
          · simp [forRun, b1_ulaw_common, h1]
          · have hz : ¬ (((l % r : Nat) : Int) = 0) := by omega
            have e2 : forRun (gName 2) b1_ulaw_common (d' :: ds) [.v (.int (r : Int)), .v (.int ((l % r : Nat) : Int)), .v d] = forRun (gName 2) b1_ulaw_common ds [.v (.int ((l % r : Nat) : Int)), .v (.int ((r % (l % r) : Nat) : Int)), .v d'] := by
              simp only [forRun, PF.gName]
              simp [b1_ulaw_common, hz, h1, fmod_nat, -Int.natCast_emod]
            have hlt := half_rest (b := r) (r := l % r) (by omega) (Nat.mod_lt _ (by omega))
            rw [e2, euc k (l % r) (r % (l % r)) ds _ (by rw [Nat.pow_succ] at hr; omega) (by simp at h; omega)]
            rw [Nat.gcd_comm (l % r) (r % (l % r)), ← Nat.gcd_rec, Nat.gcd_comm]
theorem common_ok (a b : Int) {k : Nat} (hb : b.natAbs < 2 ^ k) (hk : k ≤ 400000) : f_ulaw_common [.int a, .int b] = .ok (.int ((Nat.gcd a.natAbs b.natAbs : Nat) : Int)) := by
  have h1 := bits_lt (b.natAbs : Int)
  have h2 : Builtin.Int.intBits (b.natAbs : Int) ≤ k := PyProof.Rows.intBits_le (by simpa using hb)
  rw [Int.natAbs_natCast] at h1
  have h3 := rng1_ok (n := 2 * Builtin.Int.intBits (b.natAbs : Int) + 4) (by omega)
  have h4 := euc _ a.natAbs b.natAbs (rngD 0 (2 * Builtin.Int.intBits (b.natAbs : Int) + 4)) .e h1 (by rw [rngD_len]; omega)
  have hm : ∀ i, mulOk 2 i = true := fun i => mulOk_l (by decide)
  rw [Int.natCast_add, Int.natCast_mul] at h3
  refine semF_ret ?_
  simp [-gRng1, g_ulaw_common, abs_nat, hm] at h3 h4 ⊢
  simp [-gRng1, h3, h4]
theorem whole_ok (i : Int) : f_ulaw_is_whole [.int i] = .ok (.bl true) := by simp [f_ulaw_is_whole, g_ulaw_is_whole]
theorem tuple_run (ρ : Sl) (h : ρ.length = 3) : ∀ (ns : List Int) (acc : List Bool), acc.length + ns.length ≤ 100000 → lcRun (gName 2) tYesF b1_ulaw_is_tuple ρ (ns.map D.int) (acc.map D.bl) = .ok ((acc ++ ns.map fun _ => true).map D.bl)
  | [], acc, _ => by simp [lcRun]
  | n :: ns, acc, hl => by
    have e1 : b1_ulaw_is_tuple (ρ.set 2 (.v (.int n))) = .ok (.bl true) := by
      simp [b1_ulaw_is_tuple, h, whole_ok]
    have hlt : (acc.map D.bl).length < 16777216 := by simp at hl ⊢; omega
    have ih := tuple_run ρ h ns (acc ++ [true]) (by simp at hl ⊢; omega)
    rw [List.map_cons]
    unfold lcRun
    simp only [PF.gName, tYesF, Res.nx, Res.bind_ok, if_true, e1, hlt]
    simpa using ih
theorem tuple_ok (ns : List Int) (h : ns.length ≤ 100000) : f_ulaw_is_tuple [.tup (ns.map D.int), .int (ns.length : Int)] = .ok (.bl true) := by
  have e := tuple_run [.v (.tup (ns.map D.int)), .v (.int (ns.length : Int)), .e] rfl ns [] (by simpa using h)
  simp only [List.map_nil, List.nil_append] at e
  have e2 : dBls ((ns.map fun _ => true).map D.bl) = some (ns.map fun _ => true) := dBls_ok _
  simp only [List.map_map] at e e2
  simp [f_ulaw_is_tuple, g_ulaw_is_tuple, e, e2]
end LC_k03

set_option Elab.async false
set_option linter.all false
set_option maxRecDepth 100000
set_option maxHeartbeats 4000000
/-! Plain facts on reduced bases of whole vectors (no program in sight). -/
namespace RE
open ML
abbrev Vec := List Int
def at' (v : Vec) (i : Nat) : Int := v.getD i 0
def comb (a : Int) (v : Vec) (b : Int) (w : Vec) : Vec := List.zipWith (fun x y => a * x + b * y) v w
theorem comb_len {n : Nat} {a b : Int} {v w : Vec} (hv : v.length = n) (hw : w.length = n) : (comb a v b w).length = n := by
  unfold comb
  rw [List.length_zipWith]
  omega
theorem comb_at {a b : Int} {v w : Vec} (h : v.length = w.length) (i : Nat) : at' (comb a v b w) i = a * at' v i + b * at' w i := by
  unfold at' comb
  simp only [List.getD_eq_getElem?_getD, List.getElem?_zipWith]
  by_cases hi : i < v.length
  · have hw : i < w.length := by omega
    simp [List.getElem?_eq_getElem hi, List.getElem?_eq_getElem hw]
  · have hw : ¬ i < w.length := by omega
    simp [List.getElem?_eq_none (Nat.not_lt.mp hi), List.getElem?_eq_none (Nat.not_lt.mp hw)]
theorem ext_at {v w : Vec} (h : v.length = w.length) (e : ∀ i, i < v.length → at' v i = at' w i) : v = w := by
  apply List.ext_getElem h
  intro i h1 h2
  have := e i h1
  unfold at' at this
  rw [List.getD_eq_getElem?_getD, List.getD_eq_getElem?_getD, List.getElem?_eq_getElem h1, List.getElem?_eq_getElem h2] at this
  exact this
/-- the span, with fractions as divisions by whole numbers -/
inductive Sp (n : Nat) (V : List Vec) : Vec → Prop
  | zero : Sp n V (List.replicate n 0)
  | mem {v : Vec} : v ∈ V → Sp n V v
  | comb {v w : Vec} (a b : Int) : Sp n V v → Sp n V w → Sp n V (comb a v b w)
  | div {v u : Vec} (m : Int) : m ≠ 0 → u.length = n → Sp n V v → (∀ i, at' v i = m * at' u i) → Sp n V u
theorem Sp.len {n : Nat} {V : List Vec} (hV : ∀ v ∈ V, v.length = n) {v : Vec} (h : Sp n V v) : v.length = n := by
  induction h with
  | zero => simp
  | mem h => exact hV _ h
  | comb a b _ _ h1 h2 => exact comb_len h1 h2
  | div m _ hu _ _ _ => exact hu
theorem Sp.sub {n : Nat} {V W : List Vec} (h : ∀ v ∈ V, Sp n W v) {v : Vec} (hv : Sp n V v) : Sp n W v := by
  induction hv with
  | zero => exact .zero
  | mem m => exact h _ m
  | comb a b _ _ h1 h2 => exact .comb a b h1 h2
  | div m m0 hu _ e ih => exact .div m m0 hu ih e
/-! ### the greatest common part, primitive vectors -/
theorem G_dvd : ∀ (ns : Vec) (p : Nat), G p ns ∣ p ∧ ∀ x ∈ ns, G p ns ∣ x.natAbs
  | [], p => ⟨Nat.dvd_refl p, fun x hx => by simp at hx⟩
  | y :: ns, p => by
    obtain ⟨h1, h2⟩ := G_dvd ns (Nat.gcd p y.natAbs)
    refine ⟨Nat.dvd_trans h1 (Nat.gcd_dvd_left _ _), fun x hx => ?_⟩
    rcases List.mem_cons.mp hx with rfl | hx
    · exact Nat.dvd_trans h1 (Nat.gcd_dvd_right _ _)
    · exact h2 x hx
theorem dvd_G {d : Nat} : ∀ (ns : Vec) (p : Nat), d ∣ p → (∀ x ∈ ns, d ∣ x.natAbs) → d ∣ G p ns
  | [], p, h, _ => h
  | y :: ns, p, h, hx => dvd_G ns _ (Nat.dvd_gcd h (hx y (by simp))) fun x h' => hx x (by simp [h'])
noncomputable def prim (v : Vec) : Vec := if G 0 v < 2 then v else v.map (·.fdiv (G 0 v : Nat))
theorem prim_len (v : Vec) : (prim v).length = v.length := by
  unfold prim
  split <;> simp
theorem at_map (v : Vec) (f : Int → Int) (h0 : f 0 = 0) (i : Nat) : at' (v.map f) i = f (at' v i) := by
  unfold at'
  rw [List.getD_eq_getElem?_getD, List.getD_eq_getElem?_getD, List.getElem?_map]
  cases v[i]? with
  | none => simp [h0]
  | some x => rfl
theorem at_mem {v : Vec} {i : Nat} (h : at' v i ≠ 0) : at' v i ∈ v := by
  unfold at' at h ⊢
  rw [List.getD_eq_getElem?_getD] at h ⊢
  cases e : v[i]? with
  | none => rw [e] at h; simp at h
  | some x => exact List.mem_of_getElem? e
theorem at_dvd (v : Vec) (i : Nat) : ((G 0 v : Nat) : Int) ∣ at' v i := by
  by_cases h : at' v i = 0
  · rw [h]; exact Int.dvd_zero _
  · exact Int.natAbs_dvd_natAbs.mp (by rw [Int.natAbs_natCast]; exact (G_dvd v 0).2 _ (at_mem h))
theorem prim_at (v : Vec) : ∃ g : Int, 1 ≤ g ∧ ∀ i, at' v i = g * at' (prim v) i := by
  unfold prim
  split
  · exact ⟨1, by omega, fun i => by rw [Int.one_mul]⟩
  · rename_i h
    refine ⟨(G 0 v : Nat), by omega, fun i => ?_⟩
    rw [at_map _ _ (by simp)]
    exact (Int.mul_fdiv_cancel' (at_dvd v i)).symm
theorem prim_G (v : Vec) : G 0 (prim v) ≤ 1 := by
  unfold prim
  split
  · omega
  · rename_i h
    have h2 : 2 ≤ G 0 v := by omega
    have hm : ∀ x ∈ v, (G 0 (v.map (·.fdiv (G 0 v : Nat)))) * G 0 v ∣ x.natAbs := fun x hx => by
      have h3 := (G_dvd (v.map (·.fdiv (G 0 v : Nat))) 0).2 _ (List.mem_map.mpr ⟨x, hx, rfl⟩)
      have h4 : ((G 0 v : Nat) : Int) ∣ x := Int.natAbs_dvd_natAbs.mp (by rw [Int.natAbs_natCast]; exact (G_dvd v 0).2 x hx)
      have h5 : x.natAbs = (x.fdiv (G 0 v : Nat)).natAbs * G 0 v := by
        conv => lhs; rw [← Int.mul_fdiv_cancel' h4]
        rw [Int.natAbs_mul, Int.natAbs_natCast, Nat.mul_comm]
      rw [h5]
      exact Nat.mul_dvd_mul_right h3 _
    have h6 := dvd_G v 0 (Nat.dvd_zero _) hm
    generalize G 0 (v.map (·.fdiv (G 0 v : Nat))) = d at *
    have h7 := Nat.le_of_dvd (by omega) h6
    have h8 : d * G 0 v ≤ 1 * G 0 v := by rw [Nat.one_mul]; exact h7
    exact Nat.le_of_mul_le_mul_right h8 (by omega)
theorem mul_dvd_G {a b : Nat} : ∀ (ns : Vec) (p : Nat), a ∣ b * p → (∀ x ∈ ns, a ∣ b * x.natAbs) → a ∣ b * G p ns
  | [], p, h, _ => h
  | y :: ns, p, h, hx => mul_dvd_G ns _ (by rw [← Nat.gcd_mul_left]; exact Nat.dvd_gcd h (hx y (by simp))) fun x h' => hx x (by simp [h'])
theorem mem_at {v : Vec} {x : Int} (h : x ∈ v) : ∃ i, i < v.length ∧ at' v i = x := by
  obtain ⟨i, hi, e⟩ := List.getElem_of_mem h
  refine ⟨i, hi, ?_⟩
  unfold at'
  rw [List.getD_eq_getElem?_getD, List.getElem?_eq_getElem hi, ← e]
  rfl
theorem prim_one {u w : Vec} {a b : Nat} (hl : u.length = w.length) (ha : 1 ≤ a) (hb : 1 ≤ b) (h : ∀ i, (a : Int) * at' u i = (b : Int) * at' w i) (hu : G 0 u ≤ 1) (hw : G 0 w ≤ 1) : u = w := by
  by_cases z : G 0 w = 0
  · have w0 : ∀ i, at' w i = 0 := fun i => by
      have := at_dvd w i
      rw [z] at this
      exact Int.zero_dvd.mp this
    refine ext_at hl fun i _ => ?_
    have e := h i
    rw [w0 i, Int.mul_zero] at e
    rw [w0 i]
    rcases Int.mul_eq_zero.mp e with q | q
    · omega
    · exact q
  · by_cases y : G 0 u = 0
    · have u0 : ∀ i, at' u i = 0 := fun i => by
        have := at_dvd u i
        rw [y] at this
        exact Int.zero_dvd.mp this
      refine ext_at hl fun i _ => ?_
      have e := h i
      rw [u0 i, Int.mul_zero] at e
      rw [u0 i]
      rcases Int.mul_eq_zero.mp e.symm with q | q
      · omega
      · exact q.symm
    · have g1 : G 0 w = 1 := by omega
      have g2 : G 0 u = 1 := by omega
      have d1 : a ∣ b := by
        have := mul_dvd_G (a := a) (b := b) w 0 (by simp) fun x hx => by
          obtain ⟨i, _, rfl⟩ := mem_at hx
          have e := congrArg Int.natAbs (h i)
          rw [Int.natAbs_mul, Int.natAbs_mul, Int.natAbs_natCast, Int.natAbs_natCast] at e
          exact ⟨_, e.symm⟩
        rwa [g1, Nat.mul_one] at this
      have d2 : b ∣ a := by
        have := mul_dvd_G (a := b) (b := a) u 0 (by simp) fun x hx => by
          obtain ⟨i, _, rfl⟩ := mem_at hx
          have e := congrArg Int.natAbs (h i)
          rw [Int.natAbs_mul, Int.natAbs_mul, Int.natAbs_natCast, Int.natAbs_natCast] at e
          exact ⟨_, e⟩
        rwa [g2, Nat.mul_one] at this
      have e := Nat.dvd_antisymm d1 d2
      refine ext_at hl fun i _ => ?_
      have q := h i
      rw [e] at q
      exact Int.eq_of_mul_eq_mul_left (by omega) q
/-! ### elimination by a reduced basis, and why it is unique -/
abbrev PB := List (Nat × Vec)
def el : PB → (Nat → Int) → (Nat → Int)
  | [], f => f
  | (p, b) :: B, f => el B fun i => at' b p * f i - f p * at' b i
theorem el_lin : ∀ (B : PB) (f g : Nat → Int) (a c : Int), el B (fun i => a * f i + c * g i) = fun i => a * el B f i + c * el B g i
  | [], f, g, a, c => rfl
  | (p, b) :: B, f, g, a, c => by
    simp only [el]
    rw [← el_lin B _ _ a c]
    congr 1
    funext i
    simp only [Int.mul_add, Int.add_mul, Int.mul_sub]
    have e1 : at' b p * (a * f i) = a * (at' b p * f i) := Int.mul_left_comm ..
    have e2 : at' b p * (c * g i) = c * (at' b p * g i) := Int.mul_left_comm ..
    have e3 : a * f p * at' b i = a * (f p * at' b i) := Int.mul_assoc ..
    have e4 : c * g p * at' b i = c * (g p * at' b i) := Int.mul_assoc ..
    rw [e1, e2, e3, e4]
    omega
theorem el_zero (B : PB) : el B (fun _ => 0) = fun _ => 0 := by
  have := el_lin B (fun _ => 0) (fun _ => 0) 0 0
  simpa using this
theorem el_mul (B : PB) (f : Nat → Int) (a : Int) : el B (fun i => a * f i) = fun i => a * el B f i := by
  have := el_lin B f (fun _ => 0) a 0
  simpa using this
structure Rb (n : Nat) (B : PB) : Prop where
  len : ∀ x ∈ B, x.2.length = n
  lt : ∀ x ∈ B, x.1 < n
  pos : ∀ x ∈ B, 0 < at' x.2 x.1
  low : ∀ x ∈ B, ∀ i, i < x.1 → at' x.2 i = 0
  pr : ∀ x ∈ B, G 0 x.2 ≤ 1
  oth : ∀ x ∈ B, ∀ y ∈ B, x.1 ≠ y.1 → at' x.2 y.1 = 0
  inc : B.Pairwise fun x y => x.1 < y.1
/-- a function that is 0 at all pivots is only scaled -/
theorem el_off : ∀ (B : PB) (f : Nat → Int), (∀ x ∈ B, 0 < at' x.2 x.1) → (∀ x ∈ B, f x.1 = 0) → ∃ L : Int, 0 < L ∧ el B f = fun i => L * f i
  | [], f, _, _ => ⟨1, by omega, by funext i; simp [el]⟩
  | (p, b) :: B, f, hp, hf => by
    have h0 : f p = 0 := hf (p, b) (by simp)
    have hb : 0 < at' b p := hp (p, b) (by simp)
    have e : (fun i => at' b p * f i - f p * at' b i) = fun i => at' b p * f i := by
      funext i; rw [h0, Int.zero_mul, Int.sub_zero]
    obtain ⟨L, h1, h2⟩ := el_off B (fun i => at' b p * f i) (fun x hx => hp x (by simp [hx])) fun x hx => by
      show at' b p * f x.1 = 0
      rw [hf x (by simp [hx]), Int.mul_zero]
    refine ⟨L * at' b p, Int.mul_pos h1 hb, ?_⟩
    simp only [el]
    rw [e, h2]
    funext i
    rw [Int.mul_assoc]
theorem el_mem (q : Nat) (c : Vec) : ∀ (B : PB) (a : Int), (q, c) ∈ B → (∀ x ∈ B, x.1 ≠ q → at' c x.1 = 0) → B.Pairwise (fun x y => x.1 < y.1) → el B (fun i => a * at' c i) = fun _ => 0
  | [], a, h, _, _ => by simp at h
  | (p, b) :: B, a, h, ho, hi => by
    simp only [el]
    obtain ⟨i1, i2⟩ := List.pairwise_cons.mp hi
    rcases List.mem_cons.mp h with e | h
    · cases e
      have e : (fun i => at' c q * (a * at' c i) - a * at' c q * at' c i) = fun _ => (0 : Int) := by
        funext i
        rw [Int.mul_left_comm, Int.mul_assoc]
        omega
      rw [e, el_zero]
    · have hq := i1 (q, c) h
      have hpq : p ≠ q := by
        have : p < q := hq
        omega
      have h0 : at' c p = 0 := ho (p, b) (by simp) hpq
      have e : (fun i => at' b p * (a * at' c i) - a * at' c p * at' b i) = fun i => (at' b p * a) * at' c i := by
        funext i
        rw [h0, Int.mul_zero, Int.zero_mul, Int.sub_zero, Int.mul_assoc]
      rw [e]
      exact el_mem q c B _ h (fun x hx => ho x (by simp [hx])) i2
theorem el_sp {n : Nat} {B : PB} (R : Rb n B) {v : Vec} (h : Sp n (B.map (·.2)) v) : el B (at' v) = fun _ => 0 := by
  have hV : ∀ v ∈ B.map (·.2), v.length = n := fun v hv => by
    obtain ⟨x, hx, rfl⟩ := List.mem_map.mp hv
    exact R.len x hx
  induction h with
  | zero =>
    have e : at' (List.replicate n 0) = fun _ => (0 : Int) := by
      funext i
      unfold at'
      rw [List.getD_eq_getElem?_getD, List.getElem?_replicate]
      split <;> rfl
    rw [e, el_zero]
  | @mem v m =>
    obtain ⟨⟨q, c⟩, hx, rfl⟩ := List.mem_map.mp m
    have e : at' c = fun i => 1 * at' c i := by funext i; rw [Int.one_mul]
    show el B (at' c) = _
    rw [e]
    exact el_mem q c B 1 hx (fun x hx' ne => R.oth (q, c) hx x hx' (Ne.symm ne)) R.inc
  | @comb v w a b h1 h2 i1 i2 =>
    have e : at' (comb a v b w) = fun i => a * at' v i + b * at' w i := by
      funext i
      exact comb_at (by rw [h1.len hV, h2.len hV]) i
    rw [e, el_lin, i1, i2]
    funext i
    simp
  | @div v u m m0 hu h1 e ih =>
    have e' : at' v = fun i => m * at' u i := funext e
    rw [e', el_mul] at ih
    funext i
    have := congrFun ih i
    rcases Int.mul_eq_zero.mp this with z | z
    · exact absurd z m0
    · exact z
theorem sp_off {n : Nat} {B : PB} (R : Rb n B) {v : Vec} (h : Sp n (B.map (·.2)) v) (h0 : ∀ x ∈ B, at' v x.1 = 0) : ∀ i, at' v i = 0 := fun i => by
  obtain ⟨L, h1, h2⟩ := el_off B (at' v) R.pos h0
  have := congrFun ((h2.symm.trans (el_sp R h))) i
  rcases Int.mul_eq_zero.mp this with z | z
  · omega
  · exact z
theorem el_low (p : Nat) : ∀ (B : PB) (f : Nat → Int), (∀ x ∈ B, 0 < at' x.2 x.1) → (∀ x ∈ B, ∀ i, i < x.1 → at' x.2 i = 0) → (∀ x ∈ B, x.1 ≠ p) → (∀ i, i < p → f i = 0) → f p ≠ 0 → el B f p ≠ 0
  | [], f, _, _, _, _, h => h
  | (q, b) :: B, f, hp, hl, hn, h0, h1 => by
    have hb : 0 < at' b q := hp (q, b) (by simp)
    have hq : q ≠ p := hn (q, b) (by simp)
    have key : ∀ i, i ≤ p → at' b q * f i - f q * at' b i = at' b q * f i := fun i hi => by
      by_cases c : q < p
      · rw [h0 q c, Int.zero_mul, Int.sub_zero]
      · have : at' b i = 0 := hl (q, b) (by simp) i (by show i < q; omega)
        rw [this, Int.mul_zero, Int.sub_zero]
    simp only [el]
    refine el_low p B _ (fun x hx => hp x (by simp [hx])) (fun x hx => hl x (by simp [hx])) (fun x hx => hn x (by simp [hx])) (fun i hi => ?_) ?_
    · show at' b q * f i - f q * at' b i = 0
      rw [key i (by omega), h0 i hi, Int.mul_zero]
    · show at' b q * f p - f q * at' b p ≠ 0
      rw [key p (Nat.le_refl p)]
      exact Int.mul_ne_zero (by omega) h1
theorem lead_pivot {n : Nat} {B : PB} (R : Rb n B) {v : Vec} (h : Sp n (B.map (·.2)) v) {p : Nat} (h0 : ∀ i, i < p → at' v i = 0) (h1 : at' v p ≠ 0) : ∃ x ∈ B, x.1 = p := by
  by_cases c : ∃ x ∈ B, x.1 = p
  · exact c
  · exact absurd (congrFun (el_sp R h) p) (el_low p B _ R.pos R.low (fun x hx e => c ⟨x, hx, e⟩) h0 h1)
/-- a reduced basis is told by its span -/
theorem rb_sub {n : Nat} {B C : PB} (R : Rb n B) (Q : Rb n C) (h1 : ∀ v, Sp n (B.map (·.2)) v → Sp n (C.map (·.2)) v) (h2 : ∀ v, Sp n (C.map (·.2)) v → Sp n (B.map (·.2)) v) : ∀ x ∈ B, x ∈ C := fun x hx => by
  have bx : Sp n (B.map (·.2)) x.2 := .mem (List.mem_map.mpr ⟨x, hx, rfl⟩)
  obtain ⟨y, hy, e⟩ := lead_pivot Q (h1 _ bx) (R.low x hx) (Int.ne_of_gt (R.pos x hx))
  have cy : Sp n (C.map (·.2)) y.2 := .mem (List.mem_map.mpr ⟨y, hy, rfl⟩)
  have lx := R.len x hx
  have ly := Q.len y hy
  have hw : Sp n (B.map (·.2)) (comb (at' y.2 x.1) x.2 (- at' x.2 x.1) y.2) := .comb _ _ bx (h2 _ cy)
  have z := sp_off R hw fun q hq => by
    rw [comb_at (by omega)]
    by_cases c : q.1 = x.1
    · rw [c, Int.neg_mul, Int.mul_comm (at' y.2 x.1)]
      omega
    · have e1 : at' x.2 q.1 = 0 := R.oth x hx q hq (Ne.symm c)
      have bq : Sp n (B.map (·.2)) q.2 := .mem (List.mem_map.mpr ⟨q, hq, rfl⟩)
      obtain ⟨q', hq', e'⟩ := lead_pivot Q (h1 _ bq) (R.low q hq) (Int.ne_of_gt (R.pos q hq))
      have e2 : at' y.2 q.1 = 0 := by
        rw [← e']
        exact Q.oth y hy q' hq' (by omega)
      rw [e1, e2]
      simp
  have py := Q.pos y hy
  rw [e] at py
  have px := R.pos x hx
  have same : x.2 = y.2 := by
    refine prim_one (a := (at' y.2 x.1).toNat) (b := (at' x.2 x.1).toNat) (by omega) (by omega) (by omega) (fun i => ?_) (R.pr x hx) (Q.pr y hy)
    have := z i
    rw [comb_at (by omega)] at this
    rw [Int.toNat_of_nonneg (by omega), Int.toNat_of_nonneg (by omega)]
    rw [Int.neg_mul] at this
    omega
  have : x = y := Prod.ext e.symm same
  rw [this]
  exact hy
theorem inc_eq : ∀ (B C : PB), B.Pairwise (fun x y => x.1 < y.1) → C.Pairwise (fun x y => x.1 < y.1) → (∀ x ∈ B, x ∈ C) → (∀ x ∈ C, x ∈ B) → B = C
  | [], [], _, _, _, _ => rfl
  | [], y :: C, _, _, _, h => by have := h y (by simp); simp at this
  | x :: B, [], _, _, h, _ => by have := h x (by simp); simp at this
  | x :: B, y :: C, hB, hC, h1, h2 => by
    obtain ⟨b1, b2⟩ := List.pairwise_cons.mp hB
    obtain ⟨c1, c2⟩ := List.pairwise_cons.mp hC
    have e : x = y := by
      rcases List.mem_cons.mp (h1 x (by simp)) with e | hx
      · exact e
      · rcases List.mem_cons.mp (h2 y (by simp)) with e | hy
        · exact e.symm
        · have q1 := c1 x hx
          have q2 := b1 y hy
          omega
    subst e
    congr 1
    refine inc_eq B C b2 c2 (fun z hz => ?_) fun z hz => ?_
    · rcases List.mem_cons.mp (h1 z (by simp [hz])) with e | q
      · have := b1 z hz
        rw [e] at this
        omega
      · exact q
    · rcases List.mem_cons.mp (h2 z (by simp [hz])) with e | q
      · have := c1 z hz
        rw [e] at this
        omega
      · exact q
theorem rb_unique {n : Nat} {B C : PB} (R : Rb n B) (Q : Rb n C) (h1 : ∀ v, Sp n (B.map (·.2)) v → Sp n (C.map (·.2)) v) (h2 : ∀ v, Sp n (C.map (·.2)) v → Sp n (B.map (·.2)) v) : B = C :=
  inc_eq B C R.inc Q.inc (rb_sub R Q h1 h2) (rb_sub Q R h2 h1)
/-! ### one place of the elimination -/
noncomputable def clr (v t : Vec) (i : Nat) : Vec := prim (comb (at' t i) v (- at' v i) t)
theorem clr_at {n : Nat} {v t : Vec} (hv : v.length = n) (ht : t.length = n) (i : Nat) : ∃ g : Int, 1 ≤ g ∧ ∀ j, at' t i * at' v j - at' v i * at' t j = g * at' (clr v t i) j := by
  obtain ⟨g, h1, h2⟩ := prim_at (comb (at' t i) v (- at' v i) t)
  refine ⟨g, h1, fun j => ?_⟩
  have := h2 j
  rw [comb_at (by omega), Int.neg_mul] at this
  unfold clr
  omega
theorem clr_len {n : Nat} {v t : Vec} (hv : v.length = n) (ht : t.length = n) (i : Nat) : (clr v t i).length = n := by
  unfold clr
  rw [prim_len]
  exact comb_len hv ht
theorem mul_pos_of {g x y : Int} (hg : 1 ≤ g) (h : y = g * x) (hy : 0 < y) : 0 < x := by
  rcases Int.lt_or_le 0 x with c | c
  · exact c
  · have := Int.mul_nonpos_of_nonneg_of_nonpos (show 0 ≤ g by omega) c
    omega
theorem mul_zero_of {g x y : Int} (hg : 1 ≤ g) (h : y = g * x) (hy : y = 0) : x = 0 := by
  rw [hy] at h
  rcases Int.mul_eq_zero.mp h.symm with z | z
  · omega
  · exact z
/-- what holds when the places below i are done -/
structure St (n : Nat) (V : List Vec) (i : Nat) (L : List Vec) (B : PB) : Prop where
  len : ∀ v ∈ L, v.length = n
  low : ∀ v ∈ L, ∀ j, j < i → at' v j = 0
  pr : ∀ v ∈ L, G 0 v ≤ 1
  rb : Rb n B
  piv : ∀ x ∈ B, x.1 < i
  s1 : ∀ v ∈ V, Sp n (L ++ B.map (·.2)) v
  s2 : ∀ v ∈ L ++ B.map (·.2), Sp n V v
theorem St.skip {n i : Nat} {V L : List Vec} {B : PB} (S : St n V i L B) (h : ∀ v ∈ L, at' v i = 0) : St n V (i + 1) L B where
  len := S.len
  low := fun v hv j hj => by
    by_cases c : j = i
    · rw [c]; exact h v hv
    · exact S.low v hv j (by omega)
  pr := S.pr
  rb := S.rb
  piv := fun x hx => by have := S.piv x hx; omega
  s1 := S.s1
  s2 := S.s2
theorem clr_sp {n : Nat} {W : List Vec} (hW : ∀ v ∈ W, v.length = n) {u t : Vec} (i : Nat) (hu : Sp n W u) (ht : Sp n W t) : Sp n W (clr u t i) := by
  have lu := hu.len hW
  have lt := ht.len hW
  obtain ⟨g, h1, h2⟩ := clr_at lu lt i
  refine .div g (by omega) (clr_len lu lt i) (.comb (at' t i) (- at' u i) hu ht) fun j => ?_
  rw [comb_at (by omega), Int.neg_mul, ← h2 j]
  omega
theorem sp_clr {n : Nat} {W : List Vec} (hW : ∀ v ∈ W, v.length = n) {u t : Vec} {i : Nat} (lu : u.length = n) (h0 : at' t i ≠ 0) (hc : Sp n W (clr u t i)) (ht : Sp n W t) : Sp n W u := by
  have lt := ht.len hW
  obtain ⟨g, h1, h2⟩ := clr_at lu lt i
  refine .div (at' t i) h0 lu (.comb g (at' u i) hc ht) fun j => ?_
  rw [comb_at (by rw [clr_len lu lt, lt]), ← h2 j]
  omega
theorem sp_scale {n : Nat} {W : List Vec} {u t : Vec} (s : Int) (lu : u.length = n) (lt : t.length = n) (h : ∀ j, at' u j = s * at' t j) (ht : Sp n W t) : Sp n W u := by
  have e : u = comb s t 0 t := ext_at (by rw [comb_len lt lt, lu]) fun j _ => by
    rw [comb_at rfl, h j, Int.zero_mul, Int.add_zero]
  rw [e]
  exact .comb _ _ ht ht
theorem St.step {n i : Nat} {V L L' : List Vec} {B : PB} (hV : ∀ v ∈ V, v.length = n) (S : St n V i L B) (hi : i < n) {t0 t : Vec} (m0 : t0 ∈ L) (s : Int) (hs : s * s = 1) (lt : t.length = n) (ht : ∀ j, at' t j = s * at' t0 j) (tp : 0 < at' t i) (tg : G 0 t ≤ 1)
    (h1 : ∀ v ∈ L', ∃ u ∈ L, v = clr u t i) (h2 : ∀ u ∈ L, u = t0 ∨ clr u t i ∈ L') : St n V (i + 1) L' (B.map (fun x => (x.1, clr x.2 t i)) ++ [(i, t)]) := by
  have l0 := S.len t0 m0
  have tl : ∀ j, j < i → at' t j = 0 := fun j hj => by rw [ht j, S.low t0 m0 j hj, Int.mul_zero]
  have t0t : ∀ j, at' t0 j = s * at' t j := fun j => by rw [ht j, ← Int.mul_assoc, hs, Int.one_mul]
  have mem : ∀ y, y ∈ B.map (fun x => (x.1, clr x.2 t i)) ++ [(i, t)] → (∃ x ∈ B, y = (x.1, clr x.2 t i)) ∨ y = (i, t) := fun y hy => by
    rcases List.mem_append.mp hy with h | h
    · obtain ⟨x, hx, rfl⟩ := List.mem_map.mp h
      exact .inl ⟨x, hx, rfl⟩
    · exact .inr (List.mem_singleton.mp h)
  have zi : ∀ u, u.length = n → at' (clr u t i) i = 0 := fun u lu => by
    obtain ⟨g, g1, g2⟩ := clr_at lu lt i
    refine mul_zero_of g1 (g2 i) ?_
    rw [Int.mul_comm]
    omega
  have zj : ∀ u, u.length = n → ∀ j, j < i → at' u j = 0 → at' (clr u t i) j = 0 := fun u lu j hj hu => by
    obtain ⟨g, g1, g2⟩ := clr_at lu lt i
    refine mul_zero_of g1 (g2 j) ?_
    rw [hu, tl j hj]
    simp
  have lB : ∀ x ∈ B, x.2.length = n := S.rb.len
  have eB : (B.map (fun x => (x.1, clr x.2 t i)) ++ [(i, t)]).map (·.2) = (B.map fun x => clr x.2 t i) ++ [t] := by simp
  have lW : ∀ v ∈ L' ++ ((B.map fun x => clr x.2 t i) ++ [t]), v.length = n := fun v hv => by
    rcases List.mem_append.mp hv with h | h
    · obtain ⟨u, hu, rfl⟩ := h1 v h
      exact clr_len (S.len u hu) lt i
    · rcases List.mem_append.mp h with h | h
      · obtain ⟨x, hx, rfl⟩ := List.mem_map.mp h
        exact clr_len (lB x hx) lt i
      · rw [List.mem_singleton.mp h]; exact lt
  have tW : Sp n (L' ++ ((B.map fun x => clr x.2 t i) ++ [t])) t := .mem (by simp)
  have tV : Sp n V t := sp_scale s lt l0 ht (S.s2 t0 (List.mem_append_left _ m0))
  refine ⟨fun v hv => ?_, fun v hv j hj => ?_, fun v hv => ?_, ⟨?_, ?_, ?_, ?_, ?_, ?_, ?_⟩, ?_, ?_, ?_⟩
  · obtain ⟨u, hu, rfl⟩ := h1 v hv
    exact clr_len (S.len u hu) lt i
  · obtain ⟨u, hu, rfl⟩ := h1 v hv
    by_cases c : j = i
    · rw [c]; exact zi u (S.len u hu)
    · exact zj u (S.len u hu) j (by omega) (S.low u hu j (by omega))
  · obtain ⟨u, hu, rfl⟩ := h1 v hv
    exact prim_G _
  · intro y hy
    rcases mem y hy with ⟨x, hx, rfl⟩ | rfl
    · exact clr_len (lB x hx) lt i
    · exact lt
  · intro y hy
    rcases mem y hy with ⟨x, hx, rfl⟩ | rfl
    · exact S.rb.lt x hx
    · exact hi
  · intro y hy
    rcases mem y hy with ⟨x, hx, rfl⟩ | rfl
    · obtain ⟨g, g1, g2⟩ := clr_at (lB x hx) lt i
      refine mul_pos_of g1 (g2 x.1) ?_
      rw [tl x.1 (S.piv x hx), Int.mul_zero, Int.sub_zero]
      exact Int.mul_pos tp (S.rb.pos x hx)
    · exact tp
  · intro y hy j hj
    rcases mem y hy with ⟨x, hx, rfl⟩ | rfl
    · have := S.piv x hx
      have hj' : j < x.1 := hj
      exact zj x.2 (lB x hx) j (by omega) (S.rb.low x hx j hj)
    · exact tl j hj
  · intro y hy
    rcases mem y hy with ⟨x, hx, rfl⟩ | rfl
    · exact prim_G _
    · exact tg
  · intro y hy z hz ne
    rcases mem y hy with ⟨x, hx, rfl⟩ | rfl
    · rcases mem z hz with ⟨w, hw, rfl⟩ | rfl
      · exact zj x.2 (lB x hx) w.1 (S.piv w hw) (S.rb.oth x hx w hw ne)
      · exact zi x.2 (lB x hx)
    · rcases mem z hz with ⟨w, hw, rfl⟩ | rfl
      · exact tl w.1 (S.piv w hw)
      · exact absurd rfl ne
  · refine List.pairwise_append.mpr ⟨List.pairwise_map.mpr S.rb.inc, List.pairwise_singleton _ _, fun a ha b hb => ?_⟩
    obtain ⟨x, hx, rfl⟩ := List.mem_map.mp ha
    rw [List.mem_singleton.mp hb]
    exact S.piv x hx
  · intro y hy
    rcases mem y hy with ⟨x, hx, rfl⟩ | rfl
    · have := S.piv x hx
      show x.1 < i + 1
      omega
    · show i < i + 1
      omega
  · intro v hv
    rw [eB]
    refine Sp.sub (fun w hw => ?_) (S.s1 v hv)
    rcases List.mem_append.mp hw with h | h
    · rcases h2 w h with rfl | h'
      · exact sp_scale s l0 lt t0t tW
      · exact sp_clr lW (S.len w h) (by omega) (.mem (List.mem_append_left _ h')) tW
    · obtain ⟨x, hx, rfl⟩ := List.mem_map.mp h
      refine sp_clr lW (i := i) (lB x hx) (by omega) (.mem ?_) tW
      exact List.mem_append_right _ (List.mem_append_left _ (List.mem_map.mpr ⟨x, hx, rfl⟩))
  · intro v hv
    rw [eB] at hv
    rcases List.mem_append.mp hv with h | h
    · obtain ⟨u, hu, rfl⟩ := h1 v h
      exact clr_sp hV i (S.s2 u (List.mem_append_left _ hu)) tV
    · rcases List.mem_append.mp h with h | h
      · obtain ⟨x, hx, rfl⟩ := List.mem_map.mp h
        exact clr_sp hV i (S.s2 x.2 (List.mem_append_right _ (List.mem_map.mpr ⟨x, hx, rfl⟩))) tV
      · rw [List.mem_singleton.mp h]; exact tV
theorem zero_at (n i : Nat) : at' (List.replicate n 0) i = 0 := by
  unfold at'
  rw [List.getD_eq_getElem?_getD, List.getElem?_replicate]
  split <;> rfl
theorem zero_of {n : Nat} {v : Vec} (hl : v.length = n) (h : ∀ i, i < n → at' v i = 0) : v = List.replicate n 0 := ext_at (by simp [hl]) fun i hi => by rw [zero_at, h i (by omega)]
theorem St.start {n : Nat} {V : List Vec} (hV : ∀ v ∈ V, v.length = n) : St n V 0 (V.map prim) [] where
  len := fun v hv => by
    obtain ⟨u, hu, rfl⟩ := List.mem_map.mp hv
    rw [prim_len]; exact hV u hu
  low := fun v hv j hj => by omega
  pr := fun v hv => by
    obtain ⟨u, hu, rfl⟩ := List.mem_map.mp hv
    exact prim_G u
  rb := ⟨by simp, by simp, by simp, by simp, by simp, by simp, .nil⟩
  piv := by simp
  s1 := fun v hv => by
    obtain ⟨g, g1, g2⟩ := prim_at v
    exact sp_scale g (hV v hv) (by rw [prim_len]; exact hV v hv) g2 (.mem (by simp; exact ⟨v, hv, rfl⟩))
  s2 := fun v hv => by
    simp at hv
    obtain ⟨u, hu, rfl⟩ := hv
    obtain ⟨g, g1, g2⟩ := prim_at u
    exact .div g (by omega) (by rw [prim_len]; exact hV u hu) (.mem hu) g2
theorem St.fin {n : Nat} {V L : List Vec} {B : PB} (S : St n V n L B) : Rb n B ∧ (∀ v, Sp n V v → Sp n (B.map (·.2)) v) ∧ ∀ v, Sp n (B.map (·.2)) v → Sp n V v :=
  ⟨S.rb, fun v hv => Sp.sub (fun w hw => Sp.sub (fun u hu => by
    rcases List.mem_append.mp hu with h | h
    · rw [zero_of (S.len u h) (S.low u h)]; exact .zero
    · exact .mem h) (S.s1 w hw)) hv, fun v hv => Sp.sub (fun w hw => S.s2 w (List.mem_append_right _ hw)) hv⟩
/-- two lists that span the same have the same reduced basis -/
theorem St.same {n : Nat} {V W L M : List Vec} {B C : PB} (S : St n V n L B) (T : St n W n M C) (h1 : ∀ v ∈ V, Sp n W v) (h2 : ∀ w ∈ W, Sp n V w) : B = C := by
  obtain ⟨a1, a2, a3⟩ := S.fin
  obtain ⟨b1, b2, b3⟩ := T.fin
  exact rb_unique a1 b1 (fun v hv => b2 v (Sp.sub h1 (a3 v hv))) fun v hv => a2 v (Sp.sub h2 (b3 v hv))
/-! ### the vector of a class with zeros at the pivots -/
noncomputable def fold : PB → Vec → Vec
  | [], v => v
  | (p, b) :: B, v => fold B (clr v b p)
/-- v's class is w's, with positive numbers -/
def Q (n : Nat) (W : List Vec) (v w : Vec) : Prop := ∃ a g : Int, 0 < a ∧ 0 < g ∧ Sp n W (comb a v (-g) w)
theorem Q.refl {n : Nat} {W : List Vec} {v : Vec} (hv : v.length = n) : Q n W v v := ⟨1, 1, by decide, by decide, by
  rw [zero_of (comb_len hv hv) fun i _ => by rw [comb_at rfl]; omega]
  exact .zero⟩
theorem Q.trans {n : Nat} {W : List Vec} {u v w : Vec} (lu : u.length = n) (lv : v.length = n) (lw : w.length = n) (h : Q n W u v) (k : Q n W v w) : Q n W u w := by
  obtain ⟨a, g, a0, g0, h⟩ := h
  obtain ⟨b, f, b0, f0, k⟩ := k
  refine ⟨b * a, g * f, Int.mul_pos b0 a0, Int.mul_pos g0 f0, ?_⟩
  have e : comb (b * a) u (-(g * f)) w = comb b (comb a u (-g) v) g (comb b v (-f) w) := ext_at (by rw [comb_len lu lw, comb_len (comb_len lu lv) (comb_len lv lw)]) fun i _ => by
    rw [comb_at (by omega), comb_at (by rw [comb_len lu lv, comb_len lv lw]), comb_at (by omega), comb_at (by omega), Int.mul_add, Int.mul_add, Int.neg_mul, Int.neg_mul, Int.neg_mul, Int.mul_neg, Int.mul_neg, Int.mul_assoc, Int.mul_assoc, Int.mul_left_comm b g]
    omega
  rw [e]
  exact .comb _ _ h k
theorem q_clr {n : Nat} {W : List Vec} {v t : Vec} {i : Nat} (lv : v.length = n) (lt : t.length = n) (h0 : 0 < at' t i) (ht : t ∈ W) : Q n W v (clr v t i) := by
  obtain ⟨g, g1, g2⟩ := clr_at lv lt i
  refine ⟨at' t i, g, h0, by omega, sp_scale (at' v i) (comb_len lv (clr_len lv lt i)) lt (fun j => ?_) (.mem ht)⟩
  rw [comb_at (by rw [clr_len lv lt, lv]), Int.neg_mul, ← g2 j]
  omega
theorem q_prim {n : Nat} {W : List Vec} {v : Vec} (lv : v.length = n) : Q n W v (prim v) := by
  obtain ⟨g, g1, g2⟩ := prim_at v
  refine ⟨1, g, by decide, by omega, ?_⟩
  rw [zero_of (comb_len lv (by rw [prim_len]; exact lv)) fun i _ => by rw [comb_at (by rw [prim_len]), Int.neg_mul, ← g2 i]; omega]
  exact .zero
theorem fold_len {n : Nat} : ∀ (B : PB) (v : Vec), (∀ x ∈ B, x.2.length = n) → v.length = n → (fold B v).length = n
  | [], v, _, h => h
  | (p, b) :: B, v, hB, h => fold_len B _ (fun x hx => hB x (by simp [hx])) (clr_len h (hB (p, b) (by simp)) p)
theorem fold_ok {n : Nat} {D : PB} (R : Rb n D) : ∀ (B : PB) (v : Vec) (A : PB), D = A ++ B → v.length = n → (∀ x ∈ A, at' v x.1 = 0) → Q n (D.map (·.2)) v (fold B v) ∧ ∀ x ∈ D, at' (fold B v) x.1 = 0
  | [], v, A, e, lv, h => ⟨.refl lv, fun x hx => h x (by rw [e] at hx; simpa using hx)⟩
  | (p, b) :: B, v, A, e, lv, h => by
    have mb : (p, b) ∈ D := by rw [e]; simp
    have lb := R.len _ mb
    have pb := R.pos _ mb
    obtain ⟨g, g1, g2⟩ := clr_at lv lb p
    have z : ∀ x ∈ A ++ [(p, b)], at' (clr v b p) x.1 = 0 := fun x hx => by
      have mx : x ∈ D := by rw [e]; rcases List.mem_append.mp hx with q | q <;> simp at q ⊢ <;> simp [q]
      refine mul_zero_of g1 (g2 x.1) ?_
      by_cases c : x.1 = p
      · rw [c, Int.mul_comm]
        omega
      · rcases List.mem_append.mp hx with q | q
        · rw [h x q, show at' b x.1 = 0 from R.oth _ mb x mx (fun w => c w.symm)]
          simp
        · rw [List.mem_singleton.mp q] at c
          exact absurd rfl c
    obtain ⟨i1, i2⟩ := fold_ok R B (clr v b p) (A ++ [(p, b)]) (by rw [e]; simp) (clr_len lv lb p) z
    exact ⟨Q.trans lv (clr_len lv lb p) (fold_len B _ (fun x hx => R.len x (by rw [e]; simp [hx])) (clr_len lv lb p)) (q_clr lv lb pb (List.mem_map.mpr ⟨_, mb, rfl⟩)) i1, i2⟩
noncomputable def red (B : PB) (v : Vec) : Vec := prim (fold B v)
theorem red_ok {n : Nat} {B : PB} (R : Rb n B) {v : Vec} (lv : v.length = n) : (red B v).length = n ∧ G 0 (red B v) ≤ 1 ∧ (∀ x ∈ B, at' (red B v) x.1 = 0) ∧ Q n (B.map (·.2)) v (red B v) := by
  obtain ⟨i1, i2⟩ := fold_ok R B v [] rfl lv (by simp)
  have lf := fold_len B v R.len lv
  refine ⟨by unfold red; rw [prim_len]; exact lf, prim_G _, fun x hx => ?_, Q.trans lv lf (by unfold red; rw [prim_len]; exact lf) i1 (q_prim lf)⟩
  obtain ⟨g, g1, g2⟩ := prim_at (fold B v)
  exact mul_zero_of g1 (g2 x.1) (i2 x hx)
theorem q_one {n : Nat} {B : PB} (R : Rb n B) {v u w : Vec} (lv : v.length = n) (lu : u.length = n) (lw : w.length = n) (h : Q n (B.map (·.2)) v u) (k : Q n (B.map (·.2)) v w) (pu : G 0 u ≤ 1) (pw : G 0 w ≤ 1) (zu : ∀ x ∈ B, at' u x.1 = 0) (zw : ∀ x ∈ B, at' w x.1 = 0) : u = w := by
  obtain ⟨a, g, a0, g0, h⟩ := h
  obtain ⟨b, f, b0, f0, k⟩ := k
  have s : Sp n (B.map (·.2)) (comb (a * f) w (-(b * g)) u) := by
    have e : comb (a * f) w (-(b * g)) u = comb b (comb a v (-g) u) (-a) (comb b v (-f) w) := ext_at (by rw [comb_len lw lu, comb_len (comb_len lv lu) (comb_len lv lw)]) fun i _ => by
      rw [comb_at (by omega), comb_at (by rw [comb_len lv lu, comb_len lv lw]), comb_at (by omega), comb_at (by omega), Int.mul_add, Int.mul_add, Int.neg_mul, Int.neg_mul, Int.neg_mul, Int.neg_mul, Int.neg_mul, Int.mul_neg, Int.mul_neg, Int.mul_assoc, Int.mul_assoc, Int.mul_left_comm b a]
      omega
    rw [e]
    exact .comb _ _ h k
  have z := sp_off R s fun x hx => by
    rw [comb_at (by omega), zu x hx, zw x hx]
    simp
  refine prim_one (a := (b * g).toNat) (b := (a * f).toNat) (by omega) (by have := Int.mul_pos b0 g0; omega) (by have := Int.mul_pos a0 f0; omega) (fun i => ?_) pu pw
  have := z i
  rw [comb_at (by omega), Int.neg_mul] at this
  rw [Int.toNat_of_nonneg (Int.le_of_lt (Int.mul_pos b0 g0)), Int.toNat_of_nonneg (Int.le_of_lt (Int.mul_pos a0 f0))]
  omega
/-- a positive multiple and a member of the space more change nothing -/
theorem red_same {n : Nat} {B : PB} (R : Rb n B) {v s : Vec} (a c : Int) (a0 : 0 < a) (lv : v.length = n) (hs : Sp n (B.map (·.2)) s) : red B (comb a v c s) = red B v := by
  have lB : ∀ v ∈ B.map (·.2), v.length = n := fun v hv => by
    obtain ⟨x, hx, rfl⟩ := List.mem_map.mp hv
    exact R.len x hx
  have ls := hs.len lB
  have lm := comb_len (a := a) (b := c) lv ls
  obtain ⟨u1, u2, u3, u4⟩ := red_ok R lm
  obtain ⟨w1, w2, w3, w4⟩ := red_ok R lv
  refine q_one R lm u1 w1 u4 (Q.trans lm lv w1 ⟨1, a, by decide, a0, ?_⟩ w4) u2 w2 u3 w3
  refine sp_scale c (comb_len lm lv) ls (fun j => ?_) hs
  rw [comb_at (by omega), comb_at (by omega), Int.neg_mul]
  omega
theorem red_zero {n : Nat} {B : PB} (R : Rb n B) {s : Vec} (hs : Sp n (B.map (·.2)) s) : red B s = List.replicate n 0 := by
  have lB : ∀ v ∈ B.map (·.2), v.length = n := fun v hv => by
    obtain ⟨x, hx, rfl⟩ := List.mem_map.mp hv
    exact R.len x hx
  have ls := hs.len lB
  obtain ⟨u1, u2, u3, a, g, a0, g0, u4⟩ := red_ok R ls
  refine zero_of u1 fun i _ => sp_off R ?_ u3 i
  refine .div g (by omega) u1 (.comb a (-1) hs u4) fun j => ?_
  rw [comb_at (by rw [comb_len ls u1, ls]), comb_at (by omega), Int.neg_mul, Int.neg_mul]
  omega
end RE

set_option Elab.async false
set_option linter.all false
set_option maxRecDepth 100000
set_option maxHeartbeats 4000000
/-! Sizes of reduced bases; spans under the law's changes. -/
namespace RE
open ML
theorem bd_at {k : Nat} {v : Vec} (h : Bd k v) (i : Nat) : (at' v i).natAbs < 2 ^ k := by
  by_cases c : at' v i = 0
  · rw [c]; exact Nat.two_pow_pos k
  · exact h _ (at_mem c)
theorem bd_prim {k : Nat} {v : Vec} (h : Bd k v) : Bd k (prim v) := fun x hx => by
  obtain ⟨i, _, rfl⟩ := mem_at hx
  obtain ⟨g, g1, g2⟩ := prim_at v
  have := bd_at h i
  rw [g2 i, Int.natAbs_mul] at this
  exact Nat.lt_of_le_of_lt (Nat.le_mul_of_pos_left _ (by omega)) this
theorem bd_comb {k : Nat} {n : Nat} {a b : Int} {v w : Vec} (hv : v.length = n) (hw : w.length = n) (h : ∀ i, (a * at' v i + b * at' w i).natAbs < 2 ^ k) : Bd k (comb a v b w) := fun x hx => by
  obtain ⟨i, _, rfl⟩ := mem_at hx
  rw [comb_at (by omega)]
  exact h i
theorem bd_clr0 {a b n : Nat} {v t : Vec} (lv : v.length = n) (lt : t.length = n) (hv : Bd a v) (ht : Bd b t) (i : Nat) : Bd (a + b + 1) (comb (at' t i) v (- at' v i) t) := bd_comb lv lt fun j => by
  have h1 : (at' t i * at' v j).natAbs < 2 ^ (a + b) := by rw [Nat.add_comm]; exact b_mul (bd_at ht i) (bd_at hv j)
  have h2 : (-at' v i * at' t j).natAbs < 2 ^ (a + b) := b_mul (b_neg (bd_at hv i)) (bd_at ht j)
  exact b_add h1 h2
theorem bd_clr {a b n : Nat} {v t : Vec} (lv : v.length = n) (lt : t.length = n) (hv : Bd a v) (ht : Bd b t) (i : Nat) : Bd (a + b + 1) (clr v t i) := bd_prim (bd_clr0 lv lt hv ht i)
def bb : Nat → Nat
  | 0 => 80
  | m + 1 => 2 * bb m + 1
theorem bb_mono {m k : Nat} (h : m ≤ k) : bb m ≤ bb k := by
  induction h with
  | refl => exact Nat.le_refl _
  | step _ ih => exact Nat.le_trans ih (by show _ ≤ 2 * bb _ + 1; omega)
theorem full : ∀ (l : List Nat) (lo hi : Nat), l.Pairwise (· < ·) → (∀ x ∈ l, lo ≤ x ∧ x < hi) → l.length ≤ hi - lo ∧ (l.length = hi - lo → ∀ j, lo ≤ j → j < hi → j ∈ l)
  | [], lo, hi, _, _ => ⟨by simp, fun e j h1 h2 => by simp at e; omega⟩
  | x :: l, lo, hi, hp, hb => by
    obtain ⟨p1, p2⟩ := List.pairwise_cons.mp hp
    have bx := hb x (by simp)
    obtain ⟨i1, i2⟩ := full l (x + 1) hi p2 fun y hy => ⟨p1 y hy, (hb y (by simp [hy])).2⟩
    refine ⟨by simp only [List.length_cons]; omega, fun e j h1 h2 => ?_⟩
    simp only [List.length_cons] at e
    by_cases c : j = x
    · simp [c]
    · exact List.mem_cons_of_mem _ (i2 (by omega) j (by omega) h2)
theorem rb_full {n : Nat} {B : PB} (R : Rb n B) : B.length ≤ n ∧ (B.length = n → ∀ x ∈ B, Bd 1 x.2) := by
  obtain ⟨h1, h2⟩ := full (B.map (·.1)) 0 n (List.pairwise_map.mpr R.inc) fun x hx => by
    obtain ⟨y, hy, rfl⟩ := List.mem_map.mp hx
    exact ⟨Nat.zero_le _, R.lt y hy⟩
  rw [List.length_map] at h1 h2
  refine ⟨h1, fun e x hx z hz => ?_⟩
  obtain ⟨j, hj, rfl⟩ := mem_at hz
  have lx := R.len x hx
  by_cases c : j = x.1
  · have g1 := R.pr x hx
    have d : ∀ z ∈ x.2, (at' x.2 j).natAbs ∣ z.natAbs := fun z hz => by
      obtain ⟨k, hk, rfl⟩ := mem_at hz
      by_cases q : k = x.1
      · rw [q, c]; exact Nat.dvd_refl _
      · obtain ⟨y, hy, rfl⟩ := List.mem_map.mp (h2 e k (Nat.zero_le _) (by omega))
        rw [R.oth x hx y hy (Ne.symm q)]
        exact Nat.dvd_zero _
    have h3 := dvd_G x.2 0 (Nat.dvd_zero _) d
    have h4 := R.pos x hx
    have h5 : G 0 x.2 ≠ 0 := fun q => by
      have := at_dvd x.2 x.1
      rw [q] at this
      have := Int.zero_dvd.mp this
      omega
    have := Nat.le_of_dvd (by omega) h3
    show _ < 2
    omega
  · obtain ⟨y, hy, e'⟩ := List.mem_map.mp (h2 e j (Nat.zero_le _) (by omega))
    rw [← e', R.oth x hx y hy (fun q => c (by rw [← e', q]))]
    decide
theorem rb_size {n : Nat} {B : PB} (R : Rb n B) (hn : n ≤ 6) (h : ∀ x ∈ B, Bd (bb B.length) x.2) : ∃ d, (∀ x ∈ B, Bd d x.2) ∧ B.length * (d + 1) ≤ 12960 ∧ d ≤ 2591 := by
  obtain ⟨h1, h2⟩ := rb_full R
  by_cases c : B.length ≤ 5
  · refine ⟨2591, fun x hx => (h x hx).up (Nat.le_trans (bb_mono c) (by decide)), by omega, by decide⟩
  · exact ⟨1, h2 (by omega), by omega, by decide⟩
/-- the numbers stay small while a vector is cleared -/
def Sz : PB → Vec → Prop
  | [], v => Bd 13400 v
  | (p, b) :: B, v => (∃ c d, Bd c v ∧ Bd d b ∧ c + d + 1 ≤ 13400) ∧ Sz B (clr v b p)
theorem sz_of {n d : Nat} : ∀ (B : PB) (v : Vec) (c : Nat), (∀ x ∈ B, Bd d x.2) → (∀ x ∈ B, x.2.length = n) → v.length = n → Bd c v → c + B.length * (d + 1) ≤ 13400 → Sz B v
  | [], v, c, _, _, _, h, hc => h.up (by simpa using hc)
  | (p, b) :: B, v, c, hb, hl, lv, h, hc => by
    rw [List.length_cons, Nat.succ_mul] at hc
    refine ⟨⟨c, d, h, hb (p, b) (by simp), by omega⟩, ?_⟩
    exact sz_of B _ (c + d + 1) (fun x hx => hb x (by simp [hx])) (fun x hx => hl x (by simp [hx])) (clr_len lv (hl (p, b) (by simp)) p) (bd_clr lv (hl (p, b) (by simp)) h (hb (p, b) (by simp)) p) (by omega)
theorem bd_zero (n k : Nat) : Bd k (List.replicate n 0) := fun x hx => by
  rw [List.eq_of_mem_replicate hx]
  exact Nat.two_pow_pos k
theorem fst_one : ∀ (l : PB), l.Pairwise (fun x y => x.1 < y.1) → ∀ {x y : Nat × Vec}, x ∈ l → y ∈ l → x.1 = y.1 → x = y
  | [], _, x, y, h, _, _ => by simp at h
  | z :: l, hl, x, y, h, h', e => by
    obtain ⟨i1, i2⟩ := List.pairwise_cons.mp hl
    rcases List.mem_cons.mp h with q | h
    · rcases List.mem_cons.mp h' with q' | h'
      · rw [q, q']
      · have := i1 _ h'
        rw [q] at e
        omega
    · rcases List.mem_cons.mp h' with q' | h'
      · have := i1 _ h
        rw [q'] at e
        omega
      · exact fst_one l i2 h h' e
theorem sz_mem {n d : Nat} {D : PB} (R : Rb n D) (hd : ∀ x ∈ D, Bd d x.2) (h : d + d + 1 ≤ 13400) (x : Nat × Vec) (hx : x ∈ D) : ∀ (B : PB) (v : Vec), (∀ y ∈ B, y ∈ D) → (v = x.2 ∨ v = List.replicate n 0) → Sz B v
  | [], v, _, hv => by
    rcases hv with rfl | rfl
    · exact (hd x hx).up (by omega)
    · exact bd_zero _ _
  | (p, b) :: B, v, hB, hv => by
    have mb := hB (p, b) (by simp)
    have lb := R.len _ mb
    have lx := R.len x hx
    have lv : v.length = n := by rcases hv with rfl | rfl <;> simp [lx]
    have bv : Bd d v := by
      rcases hv with rfl | rfl
      · exact hd x hx
      · exact bd_zero _ _
    refine ⟨⟨d, d, bv, hd _ mb, h⟩, sz_mem R hd h x hx B _ (fun y hy => hB y (by simp [hy])) ?_⟩
    obtain ⟨g, g1, g2⟩ := clr_at lv lb p
    have lc := clr_len lv lb p
    rcases hv with rfl | rfl
    · by_cases c : x.1 = p
      · refine .inr (zero_of lc fun j _ => mul_zero_of g1 (g2 j) ?_)
        have e : x = (p, b) := fst_one D R.inc hx mb c
        rw [e]
        show at' b p * at' b j - at' b p * at' b j = 0
        omega
      · refine .inl ?_
        have z : at' x.2 p = 0 := R.oth x hx _ mb c
        have pb : 0 < at' b p := R.pos _ mb
        refine prim_one (a := g.toNat) (b := (at' b p).toNat) (by rw [lc, lx]) (by omega) (by omega) (fun j => ?_) (prim_G _) (R.pr x hx)
        rw [Int.toNat_of_nonneg (by omega), Int.toNat_of_nonneg (by omega)]
        have q := g2 j
        rw [z, Int.zero_mul, Int.sub_zero] at q
        exact q.symm
    · refine .inr (zero_of lc fun j _ => mul_zero_of g1 (g2 j) ?_)
      rw [zero_at, zero_at]
      simp
/-! ### the law's second list -/
def Eqs (n : Nat) (V W : List Vec) : Prop := (∀ v ∈ V, Sp n W v) ∧ ∀ w ∈ W, Sp n V w
theorem eqs_set {n : Nat} {V O : List Vec} (hV : ∀ v ∈ V, v.length = n) (hO : ∀ v ∈ O, v.length = n) (h : Eqs n V O) {a b : Nat} (ha : a < O.length) (hb : b < O.length) (k f : Int) (k0 : k ≠ 0) (hf : a = b → f = 0) : Eqs n V (O.set a (comb k O[a] f O[b])) := by
  have la : O[a].length = n := hO _ (List.getElem_mem ha)
  have lb : O[b].length = n := hO _ (List.getElem_mem hb)
  have lc := comb_len (a := k) (b := f) la lb
  have lS : ∀ v ∈ O.set a (comb k O[a] f O[b]), v.length = n := fun v hv => by
    rcases List.mem_or_eq_of_mem_set hv with q | q
    · exact hO v q
    · rw [q]; exact lc
  have mc : comb k O[a] f O[b] ∈ O.set a (comb k O[a] f O[b]) := List.mem_set ha _
  have back : ∀ o ∈ O, Sp n (O.set a (comb k O[a] f O[b])) o := fun o ho => by
    obtain ⟨j, hj, rfl⟩ := List.getElem_of_mem ho
    by_cases c : j = a
    · subst c
      by_cases e : j = b
      · have f0 := hf e
        refine .div k k0 la (.mem mc) fun i => ?_
        rw [comb_at (by omega), f0]
        omega
      · have mb : O[b] ∈ O.set j (comb k O[j] f O[b]) := by
          have : (O.set j (comb k O[j] f O[b]))[b]'(by simpa using hb) = O[b] := List.getElem_set_ne e _
          have m := List.getElem_mem (l := O.set j (comb k O[j] f O[b])) (n := b) (by simpa using hb)
          rw [this] at m
          exact m
        refine .div k k0 la (.comb 1 (-f) (.mem mc) (.mem mb)) fun i => ?_
        rw [comb_at (by rw [lc, lb]), comb_at (by omega), Int.neg_mul]
        omega
    · refine .mem ?_
      have : (O.set a (comb k O[a] f O[b]))[j]'(by simpa using hj) = O[j] := List.getElem_set_ne (Ne.symm c) _
      rw [← this]
      exact List.getElem_mem _
  refine ⟨fun v hv => Sp.sub back (h.1 v hv), fun w hw => ?_⟩
  rcases List.mem_or_eq_of_mem_set hw with q | q
  · exact h.2 w q
  · rw [q]
    exact .comb _ _ (h.2 _ (List.getElem_mem ha)) (h.2 _ (List.getElem_mem hb))
theorem eqs_refl {n : Nat} {V : List Vec} : Eqs n V V := ⟨fun v hv => .mem hv, fun v hv => .mem hv⟩
theorem eqs_end {n : Nat} {V O : List Vec} (h : Eqs n V O) : Eqs n V (List.replicate n 0 :: (O.reverse ++ O.take 1)) := by
  refine ⟨fun v hv => Sp.sub (fun w hw => .mem (by simp [hw])) (h.1 v hv), fun w hw => ?_⟩
  rcases List.mem_cons.mp hw with rfl | hw
  · exact .zero
  · rcases List.mem_append.mp hw with q | q
    · exact h.2 w (by simpa using q)
    · exact h.2 w (List.mem_of_mem_take q)
end RE

set_option Elab.async false
set_option linter.all false
set_option maxRecDepth 100000
set_option maxHeartbeats 4000000
/-! k03: vectors, clearing, the vector of a class: program and law make the same of them. -/
namespace MA_k03
open PySem L2 PF ML RE S_k03 LC_k03

theorem lc_fm' {α : Type} {g : FG} {t : Sl → Res Bool} {f : Sl → Res D} {ρ : Sl} (e h : α → D) (p : α → Bool) : ∀ (xs : List α) (acc : List D), (∀ x ∈ xs, ∃ ρ1, g (e x) ρ = some ρ1 ∧ t ρ1 = .ok (p x) ∧ (p x = true → f ρ1 = .ok (h x))) → acc.length + xs.length ≤ 100000 → lcRun g t f ρ (xs.map e) acc = .ok (acc ++ (xs.filter p).map h)
  | [], acc, _, _ => by simp [lcRun]
  | x :: xs, acc, hf, hl => by
    obtain ⟨ρ1, h1, h2, h3⟩ := hf x (by simp)
    have hlt : acc.length < 16777216 := by simp at hl; omega
    rw [List.map_cons]
    unfold lcRun
    cases hp : p x with
    | true =>
      have ih := lc_fm' (g := g) (t := t) (f := f) (ρ := ρ) e h p xs (acc ++ [h x]) (fun m hm => hf m (by simp [hm])) (by simp at hl ⊢; omega)
      simp only [h1, h2, hp, Res.nx, Res.bind_ok, if_true, h3 hp, hlt]
      simpa [List.filter_cons, hp] using ih
    | false =>
      have ih := lc_fm' (g := g) (t := t) (f := f) (ρ := ρ) e h p xs acc (fun m hm => hf m (by simp [hm])) (by simp at hl ⊢; omega)
      simp only [h1, h2, hp, Res.nx, Res.bind_ok]
      simpa [List.filter_cons, hp] using ih
theorem lc_fm {α : Type} {g : FG} {t : Sl → Res Bool} {f : Sl → Res D} {ρ : Sl} (e h : α → D) (p : α → Bool) (xs : List α) (hf : ∀ x ∈ xs, ∃ ρ1, g (e x) ρ = some ρ1 ∧ t ρ1 = .ok (p x) ∧ (p x = true → f ρ1 = .ok (h x))) (hl : xs.length ≤ 100000) : lcRun g t f ρ (xs.map e) [] = .ok ((xs.filter p).map h) := by
  have := lc_fm' (g := g) (t := t) (f := f) (ρ := ρ) e h p xs [] hf (by simpa using hl)
  simpa using this
theorem at_get {v : Vec} {i : Nat} (h : i < v.length) : at' v i = v[i] := by
  unfold at'
  rw [List.getD_eq_getElem?_getD, List.getElem?_eq_getElem h]
  rfl
theorem ix_t {v : Vec} {i : Nat} (h : i < v.length) : oIx (.tup (v.map D.int)) (.int (i : Int)) = .ok (.int (at' v i)) := by
  rw [ix_seqI (seqI_t v) rfl h, at_get h]
theorem ix_v {v : Vec} {i : Nat} (h : i < v.length) : oIx (vec v) (.int (i : Int)) = .ok (.int (at' v i)) := ix_t h
/-! ### the greatest common part -/
theorem content_run (v : D) : ∀ (ns : List Int) (p : Nat) (kc : Cell), ∃ kc', forRun (PF.gName 2) b1_content (ns.map D.int) [.v v, .v (.int (p : Int)), kc] = .nx [.v v, .v (.int ((G p ns : Nat) : Int)), kc']
  | [], p, kc => ⟨kc, rfl⟩
  | n :: ns, p, kc => by
    obtain ⟨kc', ih⟩ := content_run v ns (Nat.gcd p n.natAbs) (.v (.int n))
    refine ⟨kc', ?_⟩
    rw [List.map_cons]
    simp only [forRun, PF.gName]
    simpa [b1_content, G] using ih
theorem content_ok (d : D) (ns : List Int) (hd : dSeq d = .ok (ns.map D.int)) : f_content [d] = .ok (.int ((G 0 ns : Nat) : Int)) := by
  obtain ⟨kc', h⟩ := content_run d ns 0 .e
  have h : forRun (PF.gName 2) b1_content (ns.map D.int) [.v d, .v (.int 0), .e] = _ := h
  simp [-dSeq, f_content, g_content, hd, h]
theorem lpart_run (v : D) : ∀ (ns : List Int) (p : Nat) (kc : Cell), Bd 13400 ns → ∃ kc', forRun (PF.gName 2) b1_ulaw_primitive (ns.map D.int) [.v v, .v (.int (p : Int)), kc] = .nx [.v v, .v (.int ((G p ns : Nat) : Int)), kc']
  | [], p, kc, _ => ⟨kc, rfl⟩
  | n :: ns, p, kc, hb => by
    obtain ⟨kc', ih⟩ := lpart_run v ns (Nat.gcd p n.natAbs) (.v (.int n)) fun m hm => hb m (by simp [hm])
    refine ⟨kc', ?_⟩
    have hc := common_ok (p : Int) n (hb n (by simp)) (by decide)
    rw [Int.natAbs_natCast] at hc
    rw [List.map_cons]
    simp only [forRun, PF.gName]
    simpa [b1_ulaw_primitive, hc, G] using ih
theorem divD {i : Int} {g : Nat} (h : i.natAbs < 2 ^ 13400) (hg : 2 ≤ g) : divOkD i (g : Int) = true := by
  refine cb_t ⟨by omega, ?_⟩
  by_cases c : i.natAbs = 0
  · rw [c]; decide
  · have h2 := Nat.log2_self_le c
    have h3 : 2 ^ i.natAbs.log2 < 2 ^ 13400 := Nat.lt_of_le_of_lt h2 h
    have h4 := (Nat.pow_lt_pow_iff_right (by decide : 1 < 2)).mp h3
    omega
theorem prim_ok (d : D) (ns : List Int) (hd : dSeq d = .ok (ns.map D.int)) (ht : bTup d = .ok (vec ns)) (hb : Bd 13400 ns) (hl : ns.length ≤ 1000) : f_primitive [d] = .ok (vec (prim ns)) := by
  have h1 := content_ok d ns hd
  unfold prim
  split
  · rename_i c
    simp [-cb_iff, -cb_nif, -List.map_map, -dSeq, -bTup, f_primitive, g_primitive, h1, cb_t c, cb_t (show ((G 0 ns : Nat) : Int) < 2 by omega), ht]
  · rename_i c
    have e1 := lc_ints 2 b1_primitive (·.fdiv ((G 0 ns : Nat) : Int)) [.v d, .v (.int ((G 0 ns : Nat) : Int)), .e] ns (fun n hn => by simp [b1_primitive, divD (hb n hn) (show 2 ≤ G 0 ns by omega)]) (by omega)
    simp [-cb_iff, -cb_nif, -List.map_map, -dSeq, f_primitive, g_primitive, h1, cb_f c, cb_f (show ¬ ((G 0 ns : Nat) : Int) < 2 by omega), hd, e1, vec]
theorem lprim_ok (d : D) (ns : List Int) (hd : dSeq d = .ok (ns.map D.int)) (ht : bTup d = .ok (vec ns)) (hb : Bd 13400 ns) (hl : ns.length ≤ 1000) : f_ulaw_primitive [d] = .ok (vec (prim ns)) := by
  obtain ⟨kc', h1⟩ := lpart_run d ns 0 .e hb
  have h1 : forRun (PF.gName 2) b1_ulaw_primitive (ns.map D.int) [.v d, .v (.int 0), .e] = _ := h1
  unfold prim
  split
  · rename_i c
    simp [-cb_iff, -cb_nif, -List.map_map, -dSeq, -bTup, f_ulaw_primitive, g_ulaw_primitive, hd, h1, cb_t c, cb_t (show ((G 0 ns : Nat) : Int) < 2 by omega), ht]
  · rename_i c
    have e1 := lc_ints 2 b2_ulaw_primitive (·.fdiv ((G 0 ns : Nat) : Int)) [.v d, .v (.int ((G 0 ns : Nat) : Int)), .e] ns (fun n hn => by simp [b2_ulaw_primitive, divD (hb n hn) (show 2 ≤ G 0 ns by omega)]) (by omega)
    have e2 : wipeS [.v d, .v (.int ((G 0 ns : Nat) : Int)), kc'] [2] = [.v d, .v (.int ((G 0 ns : Nat) : Int)), .e] := rfl
    simp [-cb_iff, -cb_nif, -List.map_map, -dSeq, -wipeS, f_ulaw_primitive, g_ulaw_primitive, h1, cb_f c, cb_f (show ¬ ((G 0 ns : Nat) : Int) < 2 by omega), hd, e1, e2, vec]
/-! ### clearing a place -/
theorem zip_comb {ρ : Sl} (a b : Int) (f : Sl → Res D) : ∀ (v w : List Int) (acc : List Int), (∀ x ∈ v, ∀ y ∈ w, f ((ρ.set 5 (.v (.int x))).set 6 (.v (.int y))) = .ok (.int (a * x - b * y))) → acc.length + v.length ≤ 1000 → lcRun (PF.gTup 2 (PF.gsCons (PF.gName 5) (PF.gsCons (PF.gName 6) PF.gsNil))) tYesF f ρ (zipD (v.map D.int) (w.map D.int)) (acc.map D.int) = .ok ((acc ++ comb a v (-b) w).map D.int)
  | [], w, acc, _, _ => by simp [zipD, lcRun, comb]
  | x :: v, [], acc, _, _ => by simp [zipD, lcRun, comb]
  | x :: v, y :: w, acc, hf, hl => by
    have hlt : (acc.map D.int).length < 16777216 := by simp at hl ⊢; omega
    have ih := zip_comb a b f v w (acc ++ [a * x - b * y]) (fun x hx y hy => hf x (by simp [hx]) y (by simp [hy])) (by simp at hl ⊢; omega)
    have e : comb a (x :: v) (-b) (y :: w) = (a * x - b * y) :: comb a v (-b) w := by
      unfold comb
      rw [List.zipWith_cons_cons]
      rw [Int.neg_mul, Int.sub_eq_add_neg]
    simp only [List.map_cons, zipD]
    unfold lcRun
    have g1 : PF.gTup 2 (PF.gsCons (PF.gName 5) (PF.gsCons (PF.gName 6) PF.gsNil)) (.tup [.int x, .int y]) ρ = some ((ρ.set 5 (.v (.int x))).set 6 (.v (.int y))) := by simp
    simp only [g1, tYesF, Res.nx, Res.bind_ok, if_true, hf x (by simp) y (by simp), hlt]
    rw [e]
    simpa using ih
theorem sq_l (ns : List Int) : dSeq (.lst (ns.map D.int)) = .ok (ns.map D.int) := rfl
theorem tp_l (ns : List Int) : bTup (.lst (ns.map D.int)) = .ok (vec ns) := rfl
theorem sq_v (ns : List Int) : dSeq (vec ns) = .ok (ns.map D.int) := rfl
theorem sQ_v (ns : List Int) : dSq (vec ns) = .ok (ns.map D.int) := rfl
theorem tp_v (ns : List Int) : bTup (vec ns) = .ok (vec ns) := rfl
theorem bl_v (ns : List Int) : bLen (vec ns) = .ok (.int ns.length) := by simp [vec, bLen]
theorem th_v (ns : List Int) : thaw (vec ns) = .ok (vec ns) := rfl
theorem clear_ok {n i a b : Nat} {v t : Vec} (lv : v.length = n) (lt : t.length = n) (hn : n ≤ 100) (hi : i < n) (hv : Bd a v) (ht : Bd b t) (h : a + b + 1 ≤ 13400) : f_clear [vec v, vec t, .int (i : Int)] = .ok (vec (clr v t i)) := by
  have x1 := ix_v (v := t) (i := i) (by omega)
  have x2 := ix_v (v := v) (i := i) (by omega)
  have z := zip_comb (ρ := [.v (vec v), .v (vec t), .v (.int (i : Int)), .v (.int (at' t i)), .v (.int (at' v i)), .e, .e]) (at' t i) (at' v i) b1_clear v t [] (fun x hx y hy => by
    have m1 : mulOk (at' t i) x = true := mulOk_b (bd_at ht i) (hv x hx) (by omega)
    have m2 : mulOk (at' v i) y = true := mulOk_b (bd_at hv i) (ht y hy) (by omega)
    simp [b1_clear, m1, m2]) (by simp; omega)
  have p := prim_ok (.lst ((comb (at' t i) v (- at' v i) t).map D.int)) _ rfl rfl ((bd_clr0 lv lt hv ht i).up h) (by rw [comb_len lv lt]; omega)
  have w : wipeS [.v (vec v), .v (vec t), .v (.int (i : Int)), .v (.int (at' t i)), .v (.int (at' v i)), .e, .e] [5, 6] = [.v (vec v), .v (vec t), .v (.int (i : Int)), .v (.int (at' t i)), .v (.int (at' v i)), .e, .e] := rfl
  have e : comb (at' t i) v (- at' v i) t = comb (at' t i) v (- at' v i) t := rfl
  generalize hc : comb (at' t i) v (- at' v i) t = c at p z
  have r : clr v t i = prim c := by rw [← hc]; rfl
  rw [r]
  simp only [List.map_nil, List.nil_append] at z
  simp [-thaw, -List.map_map, -oIx, -dSq, -wipeS, f_clear, g_clear, x1, x2, sQ_v, w, z, p, th_v]
theorem comb_range {n : Nat} {v t : Vec} (lv : v.length = n) (lt : t.length = n) (a b : Int) : (List.range n).map (fun k => a * at' v k + b * at' t k) = comb a v b t := by
  refine ext_at (by rw [comb_len lv lt]; simp) fun j hj => ?_
  rw [comb_at (by omega)]
  have hj' : j < n := by simpa using hj
  unfold at'
  simp [List.getD_eq_getElem?_getD, hj']
theorem lclear_ok {n i a b : Nat} {v t : Vec} (lv : v.length = n) (lt : t.length = n) (hn : n ≤ 100) (hi : i < n) (hv : Bd a v) (ht : Bd b t) (h : a + b + 1 ≤ 13400) : f_ulaw_clear [vec v, vec t, .int (i : Int)] = .ok (vec (clr v t i)) := by
  have x1 := ix_v (v := t) (i := i) (by omega)
  have x2 := ix_v (v := v) (i := i) (by omega)
  have z := lc_map (g := PF.gName 3) (f := b1_ulaw_clear) (ρ := [.v (vec v), .v (vec t), .v (.int (i : Int)), .e]) (fun (k : Nat) => D.int ((0 : Int) + (k : Int))) (fun k => D.int (at' t i * at' v k + (- at' v i) * at' t k)) (List.range n) (fun k hk => ⟨_, rfl, by
    have hk' : k < n := List.mem_range.mp hk
    have y1 := ix_v (v := v) (i := k) (by omega)
    have y2 := ix_v (v := t) (i := k) (by omega)
    have m1 : mulOk (at' t i) (at' v k) = true := mulOk_b (bd_at ht i) (bd_at hv k) (by omega)
    have m2 : mulOk (at' v i) (at' t k) = true := mulOk_b (bd_at hv i) (bd_at ht k) (by omega)
    simp [-oIx, b1_ulaw_clear, x1, x2, y1, y2, m1, m2, Int.sub_eq_add_neg, Int.neg_mul]⟩) (by simp; omega)
  have e : (List.range n).map (fun k => D.int (at' t i * at' v k + (- at' v i) * at' t k)) = (comb (at' t i) v (- at' v i) t).map D.int := by
    rw [← comb_range lv lt, List.map_map]
    rfl
  rw [e] at z
  have p := lprim_ok (.lst ((comb (at' t i) v (- at' v i) t).map D.int)) _ rfl rfl ((bd_clr0 lv lt hv ht i).up h) (by rw [comb_len lv lt]; omega)
  have w : wipeS [.v (vec v), .v (vec t), .v (.int (i : Int)), .e] [3] = [.v (vec v), .v (vec t), .v (.int (i : Int)), .e] := rfl
  have rg := rng1_ok (n := n) (by omega)
  have rd : rngD 0 n = (List.range n).map (fun (k : Nat) => D.int ((0 : Int) + (k : Int))) := rfl
  rw [rd] at rg
  have r : clr v t i = prim (comb (at' t i) v (- at' v i) t) := rfl
  rw [r]
  generalize (comb (at' t i) v (- at' v i) t) = c at *
  generalize (List.range n).map (fun (k : Nat) => D.int ((0 : Int) + (k : Int))) = R at *
  simp [-thaw, -List.map_map, -oIx, -bLen, -gRng1, -wipeS, f_ulaw_clear, g_ulaw_clear, bl_v, lt, rg, w, z, p, th_v]
/-! ### the first place that is not zero -/
theorem enum_run {d : D} : ∀ (v : Vec) (k p : Nat) (c1 c2 : Cell), p < v.length → (∀ j, j < p → at' v j = 0) → at' v p ≠ 0 → forRun (PF.gTup 2 (PF.gsCons (PF.gName 1) (PF.gsCons (PF.gName 2) PF.gsNil))) b1_pivot_of (enumD k (v.map D.int)) [.v d, c1, c2] = .ret (.int ((k + p : Nat) : Int))
  | [], k, p, c1, c2, h, _, _ => by simp at h
  | x :: v, k, p, c1, c2, h, h0, h1 => by
    simp only [List.map_cons, enumD]
    cases p with
    | zero =>
      have hx : x ≠ 0 := h1
      simp [forRun, b1_pivot_of, hx]
    | succ p =>
      have hx : x = 0 := h0 0 (by omega)
      subst hx
      have ih := enum_run (d := d) v (k + 1) p (.v (.int (k : Int))) (.v (.int 0)) (by simpa using h) (fun j hj => by have := h0 (j + 1) (by omega); exact this) h1
      simp only [forRun]
      have e : k + 1 + p = k + (p + 1) := by omega
      rw [e] at ih
      simpa [b1_pivot_of] using ih
theorem pivot_ok {v : Vec} {p : Nat} (hp : p < v.length) (h0 : ∀ j, j < p → at' v j = 0) (h1 : at' v p ≠ 0) : f_pivot_of [vec v] = .ok (.int (p : Int)) := by
  have e := enum_run (d := vec v) v 0 p .e .e hp h0 h1
  rw [Nat.zero_add] at e
  simp [-dSq, f_pivot_of, g_pivot_of, sQ_v, e]
theorem filter_first {q : Nat → Bool} {n p : Nat} (hp : p < n) (h0 : ∀ j, j < p → q j = false) (h1 : q p = true) : ∃ r, (List.range n).filter q = p :: r := by
  have e : List.range n = List.range p ++ (p :: List.range' (p + 1) (n - p - 1)) := by
    rw [List.range_eq_range', List.range_eq_range', ← List.range'_succ, show n - p - 1 + 1 = n - p by omega]
    have := List.range'_append_1 (s := 0) (m := p) (n := n - p)
    rw [Nat.zero_add] at this
    rw [this]
    congr 1
    omega
  rw [e, List.filter_append, List.filter_eq_nil_iff.mpr (fun a ha => by rw [h0 a (List.mem_range.mp ha)]; simp), List.filter_cons, h1]
  exact ⟨_, rfl⟩
theorem lpivot_ok {v : Vec} {p : Nat} (hn : v.length ≤ 100) (hp : p < v.length) (h0 : ∀ j, j < p → at' v j = 0) (h1 : at' v p ≠ 0) : f_ulaw_pivot [vec v] = .ok (.int (p : Int)) := by
  have z := lc_fm (g := PF.gName 1) (t := b1_ulaw_pivot) (f := sVar 1) (ρ := [.v (vec v), .e]) (fun (k : Nat) => D.int ((0 : Int) + (k : Int))) (fun (k : Nat) => D.int (k : Int)) (fun k => decide (at' v k ≠ 0)) (List.range v.length) (fun k hk => ⟨_, rfl, by
    have y1 := ix_v (v := v) (i := k) (List.mem_range.mp hk)
    simp [-oIx, b1_ulaw_pivot, y1, eq_zero_b], fun _ => by simp⟩) (by simp; omega)
  obtain ⟨r, hr⟩ := filter_first (q := fun k => decide (at' v k ≠ 0)) hp (fun j hj => by simp [h0 j hj]) (by simpa using h1)
  rw [hr] at z
  have rg := rng1_ok (n := v.length) (by omega)
  have rd : rngD 0 v.length = (List.range v.length).map (fun (k : Nat) => D.int ((0 : Int) + (k : Int))) := rfl
  rw [rd] at rg
  have w : wipeS [.v (vec v), .e] [1] = [.v (vec v), .e] := rfl
  generalize (List.range v.length).map (fun (k : Nat) => D.int ((0 : Int) + (k : Int))) = R at *
  simp only [List.map_cons] at z
  simp [-thaw, -List.map_map, -oIx, -bLen, -gRng1, -wipeS, f_ulaw_pivot, g_ulaw_pivot, bl_v, rg, w, z]
/-! ### the vector of a class -/
def pD (B : PB) : List D := B.map fun x => vec x.2
theorem red_run {n : Nat} {D0 : PB} (R : Rb n D0) (hn : n ≤ 100) {d : D} : ∀ (B : PB) (v : Vec) (c : Cell), (∀ x ∈ B, x ∈ D0) → v.length = n → Sz B v → ∃ c', forRun (PF.gName 2) b1_reduce_by (pD B) [.v (vec v), .v d, c] = .nx [.v (vec (fold B v)), .v d, c'] ∧ Bd 13400 (fold B v)
  | [], v, c, _, _, h => ⟨c, rfl, h⟩
  | (p, b) :: B, v, c, hB, lv, h => by
    obtain ⟨⟨x, y, h1, h2, h3⟩, h4⟩ := h
    have mb := hB (p, b) (by simp)
    have lb : b.length = n := R.len _ mb
    have pn : p < n := R.lt _ mb
    have pb : 0 < at' b p := R.pos _ mb
    obtain ⟨c', i1, i2⟩ := red_run R hn B (clr v b p) (.v (vec b)) (fun z hz => hB z (by simp [hz])) (clr_len lv lb p) h4
    refine ⟨c', ?_, i2⟩
    have e1 := pivot_ok (v := b) (p := p) (by omega) (R.low _ mb) (by omega)
    have e2 := clear_ok lv lb hn pn h1 h2 h3
    have e3 : pD ((p, b) :: B) = vec b :: pD B := rfl
    rw [e3]
    simp only [forRun, PF.gName]
    simpa [-thaw, b1_reduce_by, e1, e2, th_v, fold] using i1
theorem reduce_ok {n : Nat} {B : PB} (R : Rb n B) (hn : n ≤ 100) {v : Vec} (lv : v.length = n) (h : Sz B v) : f_reduce_by [vec v, .lst (pD B)] = .ok (vec (red B v)) := by
  obtain ⟨c', h1, h2⟩ := red_run R hn (d := .lst (pD B)) B v .e (fun _ h => h) lv h
  have p := prim_ok (vec (fold B v)) _ (sq_v _) (tp_v _) h2 (by rw [fold_len B v R.len lv]; omega)
  simp [-thaw, f_reduce_by, g_reduce_by, h1, p, th_v, red]
theorem rest_run {n : Nat} {D0 : PB} (R : Rb n D0) (hn : n ≤ 100) {d : D} : ∀ (B : PB) (v : Vec) (c : Cell), (∀ x ∈ B, x ∈ D0) → v.length = n → Sz B v → ∃ c', forRun (PF.gName 2) b1_ulaw_rest (pD B) [.v (vec v), .v d, c] = .nx [.v (vec (fold B v)), .v d, c'] ∧ Bd 13400 (fold B v)
  | [], v, c, _, _, h => ⟨c, rfl, h⟩
  | (p, b) :: B, v, c, hB, lv, h => by
    obtain ⟨⟨x, y, h1, h2, h3⟩, h4⟩ := h
    have mb := hB (p, b) (by simp)
    have lb : b.length = n := R.len _ mb
    have pn : p < n := R.lt _ mb
    have pb : 0 < at' b p := R.pos _ mb
    obtain ⟨c', i1, i2⟩ := rest_run R hn B (clr v b p) (.v (vec b)) (fun z hz => hB z (by simp [hz])) (clr_len lv lb p) h4
    refine ⟨c', ?_, i2⟩
    have e1 := lpivot_ok (v := b) (p := p) (by omega) (by omega) (R.low _ mb) (by omega)
    have e2 := lclear_ok lv lb hn pn h1 h2 h3
    have e3 : pD ((p, b) :: B) = vec b :: pD B := rfl
    rw [e3]
    simp only [forRun, PF.gName]
    simpa [-thaw, b1_ulaw_rest, e1, e2, th_v, fold] using i1
theorem rest_ok {n : Nat} {B : PB} (R : Rb n B) (hn : n ≤ 100) {v : Vec} (lv : v.length = n) (h : Sz B v) : f_ulaw_rest [vec v, .lst (pD B)] = .ok (vec (red B v)) := by
  obtain ⟨c', h1, h2⟩ := rest_run R hn (d := .lst (pD B)) B v .e (fun _ h => h) lv h
  have p := lprim_ok (vec (fold B v)) _ (sq_v _) (tp_v _) h2 (by rw [fold_len B v R.len lv]; omega)
  simp [-thaw, f_ulaw_rest, g_ulaw_rest, h1, p, th_v, red]
end MA_k03

set_option Elab.async false
set_option linter.all false
set_option maxRecDepth 100000
set_option maxHeartbeats 4000000
/-! k03: the elimination, the program's and the law's. -/
namespace MB_k03
open PySem L2 PF ML RE S_k03 LC_k03 MA_k03

theorem G_neg : ∀ (v : Vec) (p : Nat), G p (v.map (- ·)) = G p v
  | [], p => rfl
  | x :: v, p => by
    show G (Nat.gcd p (-x).natAbs) (v.map (- ·)) = G (Nat.gcd p x.natAbs) v
    rw [Int.natAbs_neg, G_neg v]
noncomputable def sg (t : Vec) (i : Nat) : Vec := if at' t i < 0 then t.map (- ·) else t
theorem at_neg (v : Vec) (i : Nat) : at' (v.map (- ·)) i = - at' v i := at_map v _ (by simp) i
theorem sg_ok {n k i : Nat} {t : Vec} (lt : t.length = n) (hb : Bd k t) (hg : G 0 t ≤ 1) (h0 : at' t i ≠ 0) : (sg t i).length = n ∧ Bd k (sg t i) ∧ G 0 (sg t i) ≤ 1 ∧ 0 < at' (sg t i) i ∧ ∃ s : Int, s * s = 1 ∧ ∀ j, at' (sg t i) j = s * at' t j := by
  unfold sg
  split
  · rename_i c
    refine ⟨by simpa using lt, fun x hx => ?_, by rw [G_neg]; exact hg, by rw [at_neg]; omega, -1, rfl, fun j => by rw [at_neg]; omega⟩
    obtain ⟨y, hy, rfl⟩ := List.mem_map.mp hx
    exact b_neg (hb y hy)
  · rename_i c
    exact ⟨lt, hb, hg, by omega, 1, rfl, fun j => by omega⟩
structure Iv (n : Nat) (V : List Vec) (i : Nat) (L : List Vec) (B : PB) : Prop where
  st : St n V i L B
  bl : ∀ v ∈ L, Bd (bb B.length) v
  bB : ∀ x ∈ B, Bd (bb B.length) x.2
  ll : L.length ≤ 100
theorem Iv.skip {n i : Nat} {V L : List Vec} {B : PB} (S : Iv n V i L B) (h : ∀ v ∈ L, at' v i = 0) : Iv n V (i + 1) L B := ⟨S.st.skip h, S.bl, S.bB, S.ll⟩
noncomputable abbrev nB (B : PB) (t : Vec) (i : Nat) : PB := B.map (fun x => (x.1, clr x.2 t i)) ++ [(i, t)]
theorem core {n i : Nat} {V L : List Vec} {B : PB} (hV : ∀ v ∈ V, v.length = n) (hn : n ≤ 6) (I : Iv n V i L B) (hi : i < n) {t0 : Vec} (m0 : t0 ∈ L) (h0 : at' t0 i ≠ 0) :
    (sg t0 i).length = n ∧ Bd (bb B.length) (sg t0 i) ∧ bb B.length + bb B.length + 1 ≤ 13400 ∧ B.length ≤ 5 ∧ ∀ L', (∀ v ∈ L', ∃ u ∈ L, v = clr u (sg t0 i) i) → (∀ u ∈ L, u = t0 ∨ clr u (sg t0 i) i ∈ L') → L'.length ≤ L.length → Iv n V (i + 1) L' (nB B (sg t0 i) i) := by
  obtain ⟨a1, a2, a3, a4, s, a5, a6⟩ := sg_ok (i := i) (I.st.len t0 m0) (I.bl t0 m0) (I.st.pr t0 m0) h0
  generalize sg t0 i = t at *
  have step : ∀ L', (∀ v ∈ L', ∃ u ∈ L, v = clr u t i) → (∀ u ∈ L, u = t0 ∨ clr u t i ∈ L') → St n V (i + 1) L' (nB B t i) := fun L' h1 h2 => I.st.step hV hi m0 s a5 a1 a6 a4 a3 h1 h2
  have l5 : B.length ≤ 5 := by
    have := (rb_full (step (L.map fun u => clr u t i) (fun v hv => by
      obtain ⟨u, hu, rfl⟩ := List.mem_map.mp hv
      exact ⟨u, hu, rfl⟩) fun u hu => .inr (List.mem_map.mpr ⟨u, hu, rfl⟩)).rb).1
    simp at this
    omega
  have eb : bb (B.length + 1) = bb B.length + bb B.length + 1 := by show 2 * _ + 1 = _; omega
  have le : bb B.length + bb B.length + 1 ≤ 13400 := by
    rw [← eb]
    exact Nat.le_trans (bb_mono (show B.length + 1 ≤ 6 by omega)) (by decide)
  have ln : (nB B t i).length = B.length + 1 := by simp
  refine ⟨a1, a2, le, l5, fun L' h1 h2 h3 => ⟨step L' h1 h2, fun v hv => ?_, fun x hx => ?_, Nat.le_trans h3 I.ll⟩⟩
  · obtain ⟨u, hu, rfl⟩ := h1 v hv
    rw [ln, eb]
    exact bd_clr (I.st.len u hu) a1 (I.bl u hu) a2 i
  · rw [ln, eb]
    rcases List.mem_append.mp hx with h | h
    · obtain ⟨y, hy, rfl⟩ := List.mem_map.mp h
      exact bd_clr (I.st.rb.len y hy) a1 (I.bB y hy) a2 i
    · rw [List.mem_singleton.mp h]
      exact a2.up (by omega)
theorem sqL (ds : List D) : dSeq (.lst ds) = .ok ds := rfl
theorem rneg {ρ : Sl} {k : Nat} (h : k < ρ.length) (v : Vec) (hl : v.length ≤ 100) : lcRun (PF.gName k) tYesF (sUn oNeg (sRd k)) ρ (v.map D.int) [] = .ok ((v.map (- ·)).map D.int) := lc_ints k _ (- ·) ρ v (fun x _ => by simp [h]) (by omega)
/-! ### the law's elimination -/
def lI (n : Nat) (V : List Vec) (d : D) (ds : List D) (ρ : Sl) : Prop := ∃ (i : Nat) (L : List Vec) (B : PB) (c4 c5 c6 c7 c8 : Cell), ds = (List.range' i ds.length).map (fun (j : Nat) => D.int (j : Int)) ∧ i + ds.length = n ∧ Iv n V i L B ∧ ρ = [.v d, .v (.int (n : Int)), .o (pD B), .v (.lst (L.map vec)), c4, c5, c6, c7, c8]
theorem l_step {n : Nat} {V : List Vec} {d : D} (hV : ∀ v ∈ V, v.length = n) (hn : n ≤ 6) (e : D) (ds : List D) (ρ : Sl) (h : lI n V d (e :: ds) ρ) : ∃ ρ1, PF.gName 4 e ρ = some ρ1 ∧ ∃ ρ2, (b4_ulaw_reduced ρ1 = .nx ρ2 ∨ b4_ulaw_reduced ρ1 = .ct ρ2) ∧ lI n V d ds ρ2 := by
  obtain ⟨i, L, B, c4, c5, c6, c7, c8, h1, h2, I, rfl⟩ := h
  simp only [List.length_cons, List.range'_succ, List.map_cons, List.cons.injEq] at h1
  obtain ⟨rfl, h1⟩ := h1
  rw [List.length_cons] at h2
  have hi : i < n := by omega
  refine ⟨_, rfl, ?_⟩
  have T := lc_fm (g := PF.gName 7) (t := b2_ulaw_reduced) (f := sVar 7) (ρ := [.v d, .v (.int (n : Int)), .o (pD B), .v (.lst (L.map vec)), .v (.int (i : Int)), c5, c6, .e, c8]) vec vec (fun v => decide (at' v i ≠ 0)) L (fun v hv => ⟨_, rfl, by
    have y1 := ix_v (v := v) (i := i) (by rw [I.st.len v hv]; exact hi)
    simp [-oIx, b2_ulaw_reduced, y1, eq_zero_b], fun _ => by simp⟩) (by have := I.ll; omega)
  have w1 : wipeS [.v d, .v (.int (n : Int)), .o (pD B), .v (.lst (L.map vec)), .v (.int (i : Int)), c5, c6, c7, c8] [7] = [.v d, .v (.int (n : Int)), .o (pD B), .v (.lst (L.map vec)), .v (.int (i : Int)), c5, c6, .e, c8] := rfl
  cases hf : L.filter (fun v => decide (at' v i ≠ 0)) with
  | nil =>
    rw [hf] at T
    have z : ∀ v ∈ L, at' v i = 0 := fun v hv => by
      have := List.filter_eq_nil_iff.mp hf v hv
      simpa using this
    refine ⟨_, .inl ?_, i + 1, L, B, .v (.int (i : Int)), .v (.lst []), c6, c7, c8, h1, by omega, I.skip z, rfl⟩
    simp [-List.map_map, -oIx, -wipeS, b4_ulaw_reduced, w1, T]
  | cons t0 r =>
    rw [hf] at T
    have mf : t0 ∈ L.filter (fun v => decide (at' v i ≠ 0)) := by rw [hf]; simp
    have m0 := (List.mem_filter.mp mf).1
    have h0 : at' t0 i ≠ 0 := by simpa using (List.mem_filter.mp mf).2
    have l0 := I.st.len t0 m0
    obtain ⟨a1, a2, a3, a4, a5⟩ := core hV hn I hi m0 h0
    have y0 := ix_v (v := t0) (i := i) (by omega)
    have hT : ((t0 :: r).map vec).length = r.length + 1 := by simp
    have cl : ∀ u, u.length = n → Bd (bb B.length) u → f_ulaw_clear [vec u, vec (sg t0 i), .int (i : Int)] = .ok (vec (clr u (sg t0 i) i)) := fun u lu bu => lclear_ok lu a1 (by omega) hi bu a2 a3
    have F := a5 (L.map fun u => clr u (sg t0 i) i) (fun v hv => by
      obtain ⟨u, hu, rfl⟩ := List.mem_map.mp hv
      exact ⟨u, hu, rfl⟩) (fun u hu => .inr (List.mem_map.mpr ⟨u, hu, rfl⟩)) (by simp)
    have C1 := fun x0 x1 x2 x3 x5 x8 : Cell => lc_map (g := PF.gName 7) (f := b3_ulaw_reduced) (ρ := [x0, x1, x2, x3, .v (.int (i : Int)), x5, .v (vec (sg t0 i)), .e, x8]) vec (fun u => vec (clr u (sg t0 i) i)) L (fun u hu => ⟨_, rfl, by
      have q := cl u (I.st.len u hu) (I.bl u hu)
      simp [-thaw, b3_ulaw_reduced, q, th_v]⟩) (by have := I.ll; omega)
    have C2 := fun x0 x1 x2 x3 x5 x8 : Cell => lc_map (g := PF.gName 7) (f := b3_ulaw_reduced) (ρ := [x0, x1, x2, x3, .v (.int (i : Int)), x5, .v (vec (sg t0 i)), .e, x8]) (fun x : Nat × Vec => vec x.2) (fun x => vec (clr x.2 (sg t0 i) i)) B (fun x hx => ⟨_, rfl, by
      have q := cl x.2 (I.st.rb.len x hx) (I.bB x hx)
      simp [-thaw, b3_ulaw_reduced, q, th_v]⟩) (by omega)
    refine ⟨[.v d, .v (.int (n : Int)), .o (pD (nB B (sg t0 i) i)), .v (.lst ((L.map fun u => clr u (sg t0 i) i).map vec)), .v (.int (i : Int)), .v (.lst ((t0 :: r).map vec)), .v (vec (sg t0 i)), c7, c8], .inl ?_, i + 1, _, _, _, _, _, _, _, h1, by omega, F, rfl⟩
    have eL : (L.map fun u => vec (clr u (sg t0 i) i)) = (L.map fun u => clr u (sg t0 i) i).map vec := by simp
    have eB : pD (nB B (sg t0 i) i) = (B.map fun x => vec (clr x.2 (sg t0 i) i)) ++ [vec (sg t0 i)] := by simp [pD]
    have lB : (B.map fun x => vec (clr x.2 (sg t0 i) i)).length ≤ 5 := by simpa using a4
    rw [eL] at C1
    rw [eB]
    clear F cl eL eB mf hf a5
    have s0 : sg t0 i = if at' t0 i < 0 then t0.map (- ·) else t0 := rfl
    have N := fun c6 c7 => rneg (ρ := [.v d, .v (.int (n : Int)), .o (pD B), .v (.lst (L.map vec)), .v (.int (i : Int)), .v (.lst ((t0 :: r).map vec)), c6, c7, .e]) (k := 8) (by simp) t0 (by omega)
    have B1 : pD B = B.map (fun x : Nat × Vec => vec x.2) := rfl
    have hr : (0 : Int) < ((r.length + 1 : Nat) : Int) := by omega
    have hr' : (0 : Int) < (r.length : Int) + 1 := by omega
    have b1 : bLen (.lst ((t0 :: r).map vec)) = .ok (.int ((r.length + 1 : Nat) : Int)) := by simp [bLen]
    have x0 : oIx (.lst ((t0 :: r).map vec)) (.int 0) = .ok (vec t0) := by rw [List.map_cons]; exact oIxL0 _ _
    rw [← B1] at C2
    generalize (t0 :: r).map vec = TS at *
    generalize L.map vec = LS at *
    generalize (L.map fun u => clr u (sg t0 i) i).map vec = LS2 at *
    generalize (B.map fun x => vec (clr x.2 (sg t0 i) i)) = BS2 at *
    generalize pD B = BS at *
    by_cases c : at' t0 i < 0
    · rw [if_pos c] at s0
      generalize sg t0 i = t at *
      have k1 := cb_t c
      have tt : bTup (.lst ((t0.map (- ·)).map D.int)) = .ok (vec t) := by rw [s0]; rfl
      generalize ht : (t0.map (- ·)).map D.int = NT at *
      simp (disch := first | omega | rfl | simp) [leC, ltC, -cb_iff, -cb_nif, -thaw, -List.map_map, -oIx, -bLen, -bTup, -dSeq, b4_ulaw_reduced, w1, T, b1, cb_t hr, cb_t hr', x0, y0, k1, sq_v, sqL, N, tt, C1, C2]
    · rw [if_neg c] at s0
      rw [s0] at *
      have k1 := cb_f c
      simp (disch := first | omega | rfl | simp) [leC, ltC, -cb_iff, -cb_nif, -thaw, -List.map_map, -oIx, -bLen, -bTup, -dSeq, b4_ulaw_reduced, w1, T, b1, cb_t hr, cb_t hr', x0, y0, k1, sq_v, sqL, C1, C2]
/-! ### the program's elimination -/
theorem enum_zip : ∀ (L : List Vec) (k : Nat), enumD k (L.map vec) = (L.zipIdx k).map (fun x => .tup [.int (x.2 : Int), vec x.1])
  | [], k => rfl
  | v :: L, k => by
    rw [List.map_cons, List.zipIdx_cons, List.map_cons]
    show _ :: enumD (k + 1) (L.map vec) = _
    rw [enum_zip L (k + 1)]
theorem map_erase {α β : Type} (f : α → β) : ∀ (l : List α) (m : Nat), (l.map f).eraseIdx m = (l.eraseIdx m).map f
  | [], m => rfl
  | x :: l, 0 => rfl
  | x :: l, m + 1 => by
    show f x :: (l.map f).eraseIdx m = f x :: (l.eraseIdx m).map f
    rw [map_erase f l m]
theorem sIx_nat {m k : Nat} (h : m < k) : seqIndex? (m : Int) k = some m := by
  unfold seqIndex?
  have h1 : ¬ ((m : Int) < 0) := by omega
  simp [h1, h]
def pI (n : Nat) (V : List Vec) (d : D) (ds : List D) (ρ : Sl) : Prop := ∃ (i : Nat) (L : List Vec) (B : PB) (c4 c5 c6 c7 c8 c9 : Cell), ds = (List.range' i ds.length).map (fun (j : Nat) => D.int (j : Int)) ∧ i + ds.length = n ∧ Iv n V i L B ∧ ρ = [.v d, .v (.int (n : Int)), .o (pD B), .o (L.map vec), c4, c5, c6, c7, c8, c9]
theorem p_step {n : Nat} {V : List Vec} {d : D} (hV : ∀ v ∈ V, v.length = n) (hn : n ≤ 6) (e : D) (ds : List D) (ρ : Sl) (h : pI n V d (e :: ds) ρ) : ∃ ρ1, PF.gName 4 e ρ = some ρ1 ∧ ∃ ρ2, (b4_echelon ρ1 = .nx ρ2 ∨ b4_echelon ρ1 = .ct ρ2) ∧ pI n V d ds ρ2 := by
  obtain ⟨i, L, B, c4, c5, c6, c7, c8, c9, h1, h2, I, rfl⟩ := h
  simp only [List.length_cons, List.range'_succ, List.map_cons, List.cons.injEq] at h1
  obtain ⟨rfl, h1⟩ := h1
  rw [List.length_cons] at h2
  have hi : i < n := by omega
  have ll := I.ll
  refine ⟨_, rfl, ?_⟩
  have T := lc_fm (g := PF.gTup 2 (PF.gsCons (PF.gName 8) (PF.gsCons (PF.gName 7) PF.gsNil))) (t := b2_echelon) (f := sVar 8) (ρ := [.v d, .v (.int (n : Int)), .o (pD B), .v (.lst (L.map vec)), .v (.int (i : Int)), c5, c6, .e, .e, c9]) (fun x : Vec × Nat => D.tup [.int (x.2 : Int), vec x.1]) (fun x => .int (x.2 : Int)) (fun x => decide (at' x.1 i ≠ 0)) (L.zipIdx 0) (fun x hx => ⟨[.v d, .v (.int (n : Int)), .o (pD B), .v (.lst (L.map vec)), .v (.int (i : Int)), c5, c6, .v (vec x.1), .v (.int (x.2 : Int)), c9], by simp, by
    have hx' : x.1 ∈ L := List.mem_of_getElem? (List.mem_zipIdx_iff_getElem?.mp hx)
    have y1 := ix_v (v := x.1) (i := i) (by rw [I.st.len _ hx']; exact hi)
    simp [-oIx, b2_echelon, y1, eq_zero_b], fun _ => by simp⟩) (by simp; omega)
  rw [← enum_zip] at T
  have w1 : wipeS [.v d, .v (.int (n : Int)), .o (pD B), .v (.lst (L.map vec)), .v (.int (i : Int)), c5, c6, c7, c8, c9] [8, 7] = [.v d, .v (.int (n : Int)), .o (pD B), .v (.lst (L.map vec)), .v (.int (i : Int)), c5, c6, .e, .e, c9] := rfl
  have nl : ∀ l : List (Vec × Nat), nolA (l.map fun x => D.int (x.2 : Int)) = true := fun l => by
    induction l with
    | nil => simp
    | cons x l ih => simpa using ih
  have sq : ∀ ds, dSq (.lst ds) = .ok ds := fun _ => rfl
  cases hf : (L.zipIdx 0).filter (fun x => decide (at' x.1 i ≠ 0)) with
  | nil =>
    rw [hf] at T
    have z : ∀ v ∈ L, at' v i = 0 := fun v hv => by
      obtain ⟨j, hj, e⟩ := List.getElem_of_mem hv
      have m : (v, j) ∈ L.zipIdx := List.mem_zipIdx_iff_getElem?.mpr (by show L[j]? = some v; rw [List.getElem?_eq_getElem hj, e])
      have := List.filter_eq_nil_iff.mp hf _ m
      simpa using this
    refine ⟨_, .inl ?_, i + 1, L, B, .v (.int (i : Int)), .o [], c6, c7, c8, c9, h1, by omega, I.skip z, rfl⟩
    simp [-List.map_map, -oIx, -wipeS, -dSq, b4_echelon, w1, T, sq]
  | cons t0m r =>
    obtain ⟨t0, m⟩ := t0m
    rw [hf] at T
    have mf : (t0, m) ∈ (L.zipIdx 0).filter (fun x => decide (at' x.1 i ≠ 0)) := by rw [hf]; simp
    have mz := List.mem_zipIdx_iff_getElem?.mp (List.mem_filter.mp mf).1
    have mz : L[m]? = some t0 := mz
    have m0 : t0 ∈ L := List.mem_of_getElem? mz
    have hm : m < L.length := by
      rcases Nat.lt_or_ge m L.length with q | q
      · exact q
      · rw [List.getElem?_eq_none q] at mz; cases mz
    have h0 : at' t0 i ≠ 0 := by simpa using (List.mem_filter.mp mf).2
    have l0 := I.st.len t0 m0
    obtain ⟨a1, a2, a3, a4, a5⟩ := core hV hn I hi m0 h0
    have y0 := ix_v (v := t0) (i := i) (by omega)
    have cl : ∀ u, u.length = n → Bd (bb B.length) u → f_clear [vec u, vec (sg t0 i), .int (i : Int)] = .ok (vec (clr u (sg t0 i) i)) := fun u lu bu => clear_ok lu a1 (by omega) hi bu a2 a3
    have sub : ∀ u ∈ L.eraseIdx m, u ∈ L := fun u hu => List.mem_of_mem_eraseIdx hu
    have F := a5 ((L.eraseIdx m).map fun u => clr u (sg t0 i) i) (fun v hv => by
      obtain ⟨u, hu, rfl⟩ := List.mem_map.mp hv
      exact ⟨u, sub u hu, rfl⟩) (fun u hu => by
      obtain ⟨j, hj, e⟩ := List.getElem_of_mem hu
      have e' : L[j]? = some u := by rw [List.getElem?_eq_getElem hj, e]
      by_cases c : j = m
      · rw [c, mz] at e'
        cases e'
        exact .inl rfl
      · exact .inr (List.mem_map.mpr ⟨u, List.mem_eraseIdx_iff_getElem?.mpr ⟨j, c, e'⟩, rfl⟩)) (by
      rw [List.length_map]
      exact List.length_eraseIdx_le _ _)
    have C1 := fun x0 x1 x2 x3 x5 x8 x9 : Cell => lc_map (g := PF.gName 7) (f := b3_echelon) (ρ := [x0, x1, x2, x3, .v (.int (i : Int)), x5, .v (vec (sg t0 i)), .e, x8, x9]) vec (fun u => vec (clr u (sg t0 i) i)) (L.eraseIdx m) (fun u hu => ⟨_, rfl, by
      have q := cl u (I.st.len u (sub u hu)) (I.bl u (sub u hu))
      simp [-thaw, b3_echelon, q, th_v]⟩) (by have := List.length_eraseIdx_le L m; omega)
    have C2 := fun x0 x1 x2 x3 x5 x8 x9 : Cell => lc_map (g := PF.gName 7) (f := b3_echelon) (ρ := [x0, x1, x2, x3, .v (.int (i : Int)), x5, .v (vec (sg t0 i)), .e, x8, x9]) (fun x : Nat × Vec => vec x.2) (fun x => vec (clr x.2 (sg t0 i) i)) B (fun x hx => ⟨_, rfl, by
      have q := cl x.2 (I.st.rb.len x hx) (I.bB x hx)
      simp [-thaw, b3_echelon, q, th_v]⟩) (by omega)
    refine ⟨[.v d, .v (.int (n : Int)), .o (pD (nB B (sg t0 i) i)), .o (((L.eraseIdx m).map fun u => clr u (sg t0 i) i).map vec), .v (.int (i : Int)), .o (((t0, m) :: r).map fun x => D.int (x.2 : Int)), .v (vec (sg t0 i)), c7, c8, c9], .inl ?_, i + 1, _, _, _, _, _, _, _, _, h1, by omega, F, rfl⟩
    have eL : ((L.eraseIdx m).map fun u => vec (clr u (sg t0 i) i)) = ((L.eraseIdx m).map fun u => clr u (sg t0 i) i).map vec := by simp
    have eB : pD (nB B (sg t0 i) i) = (B.map fun x => vec (clr x.2 (sg t0 i) i)) ++ [vec (sg t0 i)] := by simp [pD]
    have lB : (B.map fun x => vec (clr x.2 (sg t0 i) i)).length ≤ 5 := by simpa using a4
    rw [eL] at C1
    rw [eB]
    clear F cl eL eB mf hf a5 sub
    have s0 : sg t0 i = if at' t0 i < 0 then t0.map (- ·) else t0 := rfl
    have N := fun c0 c2 c3 c5 c6 c7 c8 => rneg (ρ := [c0, .v (.int (n : Int)), c2, c3, .v (.int (i : Int)), c5, c6, c7, c8, .e]) (k := 9) (by simp) t0 (by omega)
    have B1 : pD B = B.map (fun x : Nat × Vec => vec x.2) := rfl
    have x0 : oIx (.lst (((t0, m) :: r).map fun x => D.int (x.2 : Int))) (.int 0) = .ok (.int (m : Int)) := by rw [List.map_cons]; exact oIxL0 _ _
    have tr : gTru (.lst (((t0, m) :: r).map fun x => D.int (x.2 : Int))) = .ok true := rfl
    have er : (L.map vec).eraseIdx m = (L.eraseIdx m).map vec := map_erase vec L m
    have ge : (L.map vec)[m]? = some (vec t0) := by rw [List.getElem?_map, mz]; rfl
    have si : seqIndex? (m : Int) (L.map vec).length = some m := sIx_nat (by simpa using hm)
    have rgm : cb (-(2 ^ 63) ≤ (m : Int) ∧ (m : Int) < 2 ^ 63) = true := cb_t (by omega)
    have rgm2 : cb ((m : Int) < 9223372036854775808) = true := cb_t (by omega)
    have nl1 := nl ((t0, m) :: r)
    rw [← B1] at C2
    rw [← er] at C1
    generalize (((t0, m) :: r).map fun x => D.int (x.2 : Int)) = TS at *
    generalize L.map vec = LS at *
    generalize ((L.eraseIdx m).map fun u => clr u (sg t0 i) i).map vec = LS2 at *
    generalize (B.map fun x => vec (clr x.2 (sg t0 i) i)) = BS2 at *
    generalize pD B = BS at *
    by_cases c : at' t0 i < 0
    · rw [if_pos c] at s0
      generalize sg t0 i = t at *
      have k1 := cb_t c
      have tt : bTup (.lst ((t0.map (- ·)).map D.int)) = .ok (vec t) := by rw [s0]; rfl
      generalize ht : (t0.map (- ·)).map D.int = NT at *
      simp (disch := first | omega | rfl | simp) [leC, ltC, -gTru, -dSq, -cb_iff, -cb_nif, -thaw, -List.map_map, -oIx, -bLen, -bTup, -dSeq, b4_echelon, w1, T, sq, nl1, tr, x0, y0, rgm, rgm2, si, ge, k1, sq_v, sqL, N, tt, C1, C2]
    · rw [if_neg c] at s0
      rw [s0] at *
      have k1 := cb_f c
      simp (disch := first | omega | rfl | simp) [leC, ltC, -gTru, -dSq, -cb_iff, -cb_nif, -thaw, -List.map_map, -oIx, -bLen, -bTup, -dSeq, b4_echelon, w1, T, sq, nl1, tr, x0, y0, rgm, rgm2, si, ge, k1, sq_v, sqL, C1, C2]
end MB_k03

set_option Elab.async false
set_option linter.all false
set_option maxRecDepth 100000
set_option maxHeartbeats 4000000
/-! k03: echelon and reduce_by as the law asks for them. -/
namespace MC_k03
open PySem L2 PF ML RE S_k03 LC_k03 MA_k03 MB_k03

theorem pyA_vs (V : List Vec) : D.pyA (V.map vec) = V.map fun v => PyData.tuple (v.map PyData.int) := by
  induction V with
  | nil => rfl
  | cons v V ih => simp [D.pyA, ih, vec, D.py, pyA_ints]
theorem lay_vs (V : List Vec) : PyData.canLayAll0 (V.map fun v => PyData.tuple (v.map PyData.int)) = true := by
  induction V with
  | nil => simp [PyData.canLayAll0]
  | cons v V ih => simp [PyData.canLayAll0, PyData.canLay0, ih, lay_ints]
theorem dep_vs (V : List Vec) : PyData.depthAll (V.map fun v => PyData.tuple (v.map PyData.int)) ≤ 1 := by
  induction V with
  | nil => simp [PyData.depthAll]
  | cons v V ih => simp [PyData.depthAll, PyData.depth, dep_ints]; omega
theorem eqA_vs (V : List Vec) : PyData.eqvAll (V.map fun v => PyData.tuple (v.map PyData.int)) (V.map fun v => PyData.tuple (v.map PyData.int)) = true := by
  induction V with
  | nil => simp [PyData.eqvAll]
  | cons v V ih => simp [PyData.eqvAll, PyData.eqv, eqvA_ints, ih]
theorem eqOk_vs (V : List Vec) : eqOk (.lst (V.map vec)) = true := sh_of (by simp [D.py, PyData.canLay0, pyA_vs, lay_vs]) (by
  have := dep_vs V
  simp [D.py, PyData.depth, pyA_vs]
  omega)
theorem eqv_vs (V : List Vec) : eqv (.lst (V.map vec)) (.lst (V.map vec)) = true := by simp [eqv, D.py, pyA_vs, PyData.eqv, eqA_vs]
theorem pD_vs (B : PB) : pD B = (B.map (·.2)).map vec := by simp [pD]
theorem lred_ok {n : Nat} {V : List Vec} (hV : ∀ v ∈ V, v.length = n) (hb : ∀ v ∈ V, Bd 80 v) (hn : n ≤ 6) (hl : V.length ≤ 100) : ∃ L B, Iv n V n L B ∧ f_ulaw_reduced [.lst (V.map vec), .int (n : Int)] = .ok (.fr (pD B)) := by
  have S0 : Iv n V 0 (V.map prim) [] := ⟨St.start hV, fun v hv => by
    obtain ⟨u, hu, rfl⟩ := List.mem_map.mp hv
    exact bd_prim (hb u hu), by simp, by simpa using hl⟩
  have C := lc_map (g := PF.gName 7) (f := b1_ulaw_reduced) (ρ := [.v (.lst (V.map vec)), .v (.int (n : Int)), .o [], .e, .e, .e, .e, .e, .e]) vec (fun v => vec (prim v)) V (fun v hv => ⟨_, rfl, by
    have q := lprim_ok (vec v) v (sq_v v) (tp_v v) ((hb v hv).up (by decide)) (by rw [hV v hv]; omega)
    simp [-thaw, b1_ulaw_reduced, q, th_v]⟩) (by omega)
  have eL : (V.map fun v => vec (prim v)) = (V.map prim).map vec := by simp
  rw [eL] at C
  obtain ⟨ρ', h1, i, L, B, c4, c5, c6, c7, c8, h2, h3, I, rfl⟩ := for_inv (lI n V (.lst (V.map vec))) (l_step hV hn) (rngD 0 n) [.v (.lst (V.map vec)), .v (.int (n : Int)), .o [], .v (.lst ((V.map prim).map vec)), .e, .e, .e, .e, .e] ⟨0, V.map prim, [], .e, .e, .e, .e, .e, by simp [rngD, List.range_eq_range'], by simp [rngD], S0, rfl⟩
  have h3 : i = n := by simpa using h3
  subst h3
  have rg := rng1_ok (n := i) (by omega)
  have w : wipeS [.v (.lst (V.map vec)), .v (.int (i : Int)), .o [], .e, .e, .e, .e, .e, .e] [7] = [.v (.lst (V.map vec)), .v (.int (i : Int)), .o [], .e, .e, .e, .e, .e, .e] := rfl
  refine ⟨L, B, I, ?_⟩
  generalize (V.map prim).map vec = PS at *
  generalize V.map vec = VS at *
  generalize rngD 0 i = R at *
  simp [-List.map_map, -gRng1, -dSeq, -wipeS, f_ulaw_reduced, g_ulaw_reduced, sqL, w, C, rg, h1]
theorem ech_ok {n : Nat} {V : List Vec} (hV : ∀ v ∈ V, v.length = n) (hb : ∀ v ∈ V, Bd 80 v) (hn : n ≤ 6) (hl : V.length ≤ 100) : ∃ L B, Iv n V n L B ∧ f_echelon [.lst (V.map vec), .int (n : Int)] = .ok (.fr (pD B)) := by
  have S0 : Iv n V 0 (V.map prim) [] := ⟨St.start hV, fun v hv => by
    obtain ⟨u, hu, rfl⟩ := List.mem_map.mp hv
    exact bd_prim (hb u hu), by simp, by simpa using hl⟩
  have C := lc_map (g := PF.gName 7) (f := b1_echelon) (ρ := [.v (.lst (V.map vec)), .v (.int (n : Int)), .o [], .e, .e, .e, .e, .e, .e, .e]) vec (fun v => vec (prim v)) V (fun v hv => ⟨_, rfl, by
    have q := prim_ok (vec v) v (sq_v v) (tp_v v) ((hb v hv).up (by decide)) (by rw [hV v hv]; omega)
    simp [-thaw, b1_echelon, q, th_v]⟩) (by omega)
  have eL : (V.map fun v => vec (prim v)) = (V.map prim).map vec := by simp
  rw [eL] at C
  obtain ⟨ρ', h1, i, L, B, c4, c5, c6, c7, c8, c9, h2, h3, I, rfl⟩ := for_inv (pI n V (.lst (V.map vec))) (p_step hV hn) (rngD 0 n) [.v (.lst (V.map vec)), .v (.int (n : Int)), .o [], .o ((V.map prim).map vec), .e, .e, .e, .e, .e, .e] ⟨0, V.map prim, [], .e, .e, .e, .e, .e, .e, by simp [rngD, List.range_eq_range'], by simp [rngD], S0, rfl⟩
  have h3 : i = n := by simpa using h3
  subst h3
  have rg := rng1_ok (n := i) (by omega)
  have w : wipeS [.v (.lst (V.map vec)), .v (.int (i : Int)), .o [], .e, .e, .e, .e, .e, .e, .e] [7] = [.v (.lst (V.map vec)), .v (.int (i : Int)), .o [], .e, .e, .e, .e, .e, .e, .e] := rfl
  refine ⟨L, B, I, ?_⟩
  generalize (V.map prim).map vec = PS at *
  generalize V.map vec = VS at *
  generalize rngD 0 i = R at *
  simp [-List.map_map, -gRng1, -dSeq, -wipeS, f_echelon, g_echelon, sqL, w, C, rg, h1]
/-- due, B: what the law's own elimination found -/
structure Due (n : Nat) (V : List Vec) (B : PB) : Prop where
  ex : ∃ L, Iv n V n L B
theorem Due.rb {n : Nat} {V : List Vec} {B : PB} (h : Due n V B) : Rb n B := by
  obtain ⟨L, I⟩ := h.ex
  exact I.st.rb
theorem spans_ok {n : Nat} {V W : List Vec} {B : PB} (hn : n ≤ 6) (h : Due n V B) (hw : ∀ v ∈ W, v.length = n) (hb : ∀ v ∈ W, Bd 80 v) (hl : W.length ≤ 100) (q : Eqs n V W) : f_ulaw_spans [.lst (W.map vec), .int (n : Int), .lst (pD B)] = .ok (.bl true) := by
  obtain ⟨L', B', I', e⟩ := ech_ok hw hb hn hl
  obtain ⟨L, I⟩ := h.ex
  have eq : B' = B := I'.st.same I.st q.2 q.1
  subst eq
  have R := I.st.rb
  have C := fun x3 => lc_map (g := PF.gName 5) (f := b1_ulaw_spans) (ρ := [.v (.lst (W.map vec)), .v (.int (n : Int)), .v (.lst (pD B')), x3, .v (.lst (pD B')), .e]) (fun x : Nat × Vec => vec x.2) (fun _ => D.bl true) B' (fun x hx => ⟨_, rfl, by
    have q := tuple_ok x.2 (by rw [R.len x hx]; omega)
    rw [R.len x hx] at q
    have q : f_ulaw_is_tuple [vec x.2, .int (n : Int)] = .ok (.bl true) := q
    simp [b1_ulaw_spans, q]⟩) (by have := (rb_full R).1; omega)
  have B1 : B'.map (fun x : Nat × Vec => vec x.2) = pD B' := rfl
  rw [B1] at C
  have al : bAll (.lst (B'.map fun _ => D.bl true)) = .ok (.bl true) := by
    have := dBls_of (fun _ : Nat × Vec => true) B'
    simp [bAll, this]
  have o1 := eqOk_vs (B'.map (·.2))
  have o2 := eqv_vs (B'.map (·.2))
  rw [← pD_vs] at o1 o2
  have o3 := eqOk_vs W
  have o4 := eqv_vs W
  have w : ∀ x3 : Cell, wipeS [.v (.lst (W.map vec)), .v (.int (n : Int)), .v (.lst (pD B')), x3, .v (.lst (pD B')), .e] [5] = [.v (.lst (W.map vec)), .v (.int (n : Int)), .v (.lst (pD B')), x3, .v (.lst (pD B')), .e] := fun _ => rfl
  generalize (B'.map fun _ => D.bl true) = TS at *
  generalize W.map vec = WS at *
  generalize pD B' = BS at *
  simp [-List.map_map, -dSeq, -bAll, -wipeS, f_ulaw_spans, g_ulaw_spans, e, sqL, w, C, al, o1, o2, o3, o4]
theorem lies_ok {n : Nat} {B : PB} (hn : n ≤ 6) (R : Rb n B) {v : Vec} (lv : v.length = n) (h : Sz B v) : f_ulaw_lies [vec v, .lst (pD B)] = .ok (.bl true) := by
  have h1 := reduce_ok R (by omega) lv h
  have h2 := rest_ok R (by omega) lv h
  have lr := (red_ok R lv).1
  have q := tuple_ok (red B v) (by omega)
  rw [lr] at q
  have q : f_ulaw_is_tuple [vec (red B v), .int (n : Int)] = .ok (.bl true) := q
  have b1 := bl_v v
  rw [lv] at b1
  have o1 := eqOk_vs (B.map (·.2))
  have o2 := eqv_vs (B.map (·.2))
  rw [← pD_vs] at o1 o2
  have o3 := eqOk_vec (red B v)
  have o4 := eqv_vec (red B v) (red B v)
  simp only [decide_true] at o4
  generalize pD B = BS at *
  simp [-thaw, -bLen, f_ulaw_lies, g_ulaw_lies, h1, h2, q, b1, th_v, o1, o2, o3, o4]
end MC_k03

set_option Elab.async false
set_option linter.all false
set_option maxRecDepth 100000
set_option maxHeartbeats 4000000
/-! k03: what the law draws: numbers, vectors, the second list. -/
namespace MD_k03
open PySem L2 PF ML RE S_k03 LC_k03 MA_k03 MB_k03 MC_k03

def numI (cells : D) (m : Int) (b : D) (ds : List D) (ρ : Sl) : Prop := ∃ (t : Int) (ks : List Int) (kc : Cell), ds = ks.map D.int ∧ ρ = [.v cells, .v (.int m), .v b, .v (.int t), kc]
theorem num_step {cells : D} {m : Int} {b : D} (d : D) (ds : List D) (ρ : Sl) (h : numI cells m b (d :: ds) ρ) : ∃ ρ1, PF.gName 4 d ρ = some ρ1 ∧ ∃ ρ2, (b1_ulaw_number ρ1 = .nx ρ2 ∨ b1_ulaw_number ρ1 = .ct ρ2) ∧ numI cells m b ds ρ2 := by
  obtain ⟨t, ks, kc, h1, rfl⟩ := h
  cases ks with
  | nil => cases h1
  | cons k ks =>
    cases h1
    have hm : ∀ i, mulOk i 1009 = true := fun i => mulOk_r (by decide)
    refine ⟨_, rfl, _, .inl (by simp [b1_ulaw_number, hm]; exact ⟨rfl, rfl⟩), _, ks, _, rfl, rfl⟩
theorem cut5 (cs : List Int) {i j : Int} {k : Nat} (hi : i = (k : Int)) (hj : j = ((k + 5 : Nat) : Int)) (hk : k < cs.length) : ∃ (c : Int) (ms : List Int), cutD (cs.map D.int) (some i) (some j) = (c :: ms).map D.int := by
  subst hi hj
  unfold cutD
  rw [← List.map_drop, ← List.map_take, HT.sIx_nat, HT.sIx_nat]
  have hl : 1 ≤ ((cs.drop (min k (cs.map D.int).length)).take (min (k + 5) (cs.map D.int).length - min k (cs.map D.int).length)).length := by
    rw [List.length_take, List.length_drop, List.length_map]
    omega
  generalize ((cs.drop (min k (cs.map D.int).length)).take (min (k + 5) (cs.map D.int).length - min k (cs.map D.int).length)) = l at *
  cases l with
  | nil => simp at hl
  | cons c ms => exact ⟨c, ms, rfl⟩
theorem sgn_b (c : Int) : (1 - 2 * c.fmod 2).natAbs ≤ 1 := by
  have := fmod_b c 2 (by decide)
  omega
theorem number_ok (cs : List Int) {i j : Int} {k : Nat} (hi : i = (k : Int)) (hj : j = ((k + 5 : Nat) : Int)) (hk : k < cs.length) (m : Int) (hm : 0 < m) (hm2 : m ≤ 10 ^ 12) (b : Bool) : ∃ z, f_ulaw_number [.lst (cutD (cs.map D.int) (some i) (some j)), .int m, .bl b] = .ok (.int z) ∧ z.natAbs < 2 ^ 40 := by
  obtain ⟨c, ms, e⟩ := cut5 cs hi hj hk
  rw [e]
  obtain ⟨es, h3⟩ := cut_ints (c :: ms) (some 1) none
  obtain ⟨ρ', h1, t, ks, kc, h2, rfl⟩ := for_inv (numI (.lst ((c :: ms).map D.int)) m (.bl b)) num_step (es.map D.int) [.v (.lst ((c :: ms).map D.int)), .v (.int m), .v (.bl b), .v (.int 0), .e] ⟨0, es, .e, rfl, rfl⟩
  have h0 : m ≠ 0 := by omega
  have x0 : oIx (.lst ((c :: ms).map D.int)) (.int 0) = .ok (.int c) := by rw [List.map_cons]; exact oIxL0 _ _
  have d2 : divOk 2 = true := divOk_s (by decide) (by decide)
  have m2 : ∀ i, mulOk 2 i = true := fun i => mulOk_l (by decide)
  have ms' : mulOk (t.fmod m) (1 - 2 * c.fmod 2) = true := mulOk_r (Nat.lt_of_le_of_lt (sgn_b c) (by decide))
  have bz : (t.fmod m * (1 - 2 * c.fmod 2)).natAbs < 2 ^ 40 := by
    rw [Int.natAbs_mul]
    have := fmod_b t m hm
    have h4 := Nat.mul_le_mul_left (t.fmod m).natAbs (sgn_b c)
    rw [Nat.mul_one] at h4
    refine Nat.lt_of_le_of_lt h4 (Nat.lt_of_lt_of_le (show (t.fmod m).natAbs < 10 ^ 12 by omega) (by decide))
  generalize (c :: ms).map D.int = CS at *
  cases b with
  | false => exact ⟨_, by simp [-oIx, f_ulaw_number, g_ulaw_number, h3, h1, x0, m2, ms', h0], bz⟩
  | true =>
    by_cases q : ((c.fdiv 2).fmod 5) < 2
    · exact ⟨0, by simp [-cb_iff, -cb_nif, -oIx, f_ulaw_number, g_ulaw_number, h3, h1, x0, d2, cb_t q], by decide⟩
    · exact ⟨_, by simp [-cb_iff, -cb_nif, -oIx, f_ulaw_number, g_ulaw_number, h3, h1, x0, d2, m2, ms', h0, cb_f q], bz⟩
theorem mixed_ok {n : Nat} {v t : Vec} (lv : v.length = n) (lt : t.length = n) (hn : n ≤ 100) {a b : Int} (ha : a.natAbs < 100) (hb : b.natAbs < 100) : f_ulaw_mixed [vec v, .int a, vec t, .int b] = .ok (vec (comb a v b t)) := by
  have z := lc_map (g := PF.gName 4) (f := b1_ulaw_mixed) (ρ := [.v (vec v), .v (.int a), .v (vec t), .v (.int b), .e]) (fun (k : Nat) => D.int ((0 : Int) + (k : Int))) (fun k => D.int (a * at' v k + b * at' t k)) (List.range n) (fun k hk => ⟨_, rfl, by
    have hk' : k < n := List.mem_range.mp hk
    have y1 := ix_v (v := v) (i := k) (by omega)
    have y2 := ix_v (v := t) (i := k) (by omega)
    have m1 : ∀ i, mulOk a i = true := fun i => mulOk_l (by omega)
    have m2 : ∀ i, mulOk b i = true := fun i => mulOk_l (by omega)
    simp [-oIx, b1_ulaw_mixed, y1, y2, m1, m2]⟩) (by simp; omega)
  have e : (List.range n).map (fun k => D.int (a * at' v k + b * at' t k)) = (comb a v b t).map D.int := by
    rw [← comb_range lv lt, List.map_map]
    rfl
  rw [e] at z
  have w : wipeS [.v (vec v), .v (.int a), .v (vec t), .v (.int b), .e] [4] = [.v (vec v), .v (.int a), .v (vec t), .v (.int b), .e] := rfl
  have rg := rng1_ok (n := n) (by omega)
  have rd : rngD 0 n = (List.range n).map (fun (k : Nat) => D.int ((0 : Int) + (k : Int))) := rfl
  rw [rd] at rg
  have tt : bTup (.lst ((comb a v b t).map D.int)) = .ok (vec (comb a v b t)) := rfl
  generalize (comb a v b t).map D.int = c at *
  generalize (List.range n).map (fun (k : Nat) => D.int ((0 : Int) + (k : Int))) = R at *
  simp [-List.map_map, -oIx, -bLen, -bTup, -gRng1, -wipeS, f_ulaw_mixed, g_ulaw_mixed, bl_v, lv, rg, w, z, tt]
theorem bd_combs {n k s : Nat} {a b : Int} {v w : Vec} (lv : v.length = n) (lw : w.length = n) (hv : Bd k v) (hw : Bd k w) (h : a.natAbs + b.natAbs ≤ 2 ^ s) : Bd (k + s) (comb a v b w) := bd_comb lv lw fun i => by
  have h1 := bd_at hv i
  have h2 := bd_at hw i
  have h3 := Int.natAbs_add_le (a * at' v i) (b * at' w i)
  rw [Int.natAbs_mul, Int.natAbs_mul] at h3
  have h4 : a.natAbs * (at' v i).natAbs ≤ a.natAbs * (2 ^ k - 1) := Nat.mul_le_mul_left _ (by omega)
  have h5 : b.natAbs * (at' w i).natAbs ≤ b.natAbs * (2 ^ k - 1) := Nat.mul_le_mul_left _ (by omega)
  have h6 : (a.natAbs + b.natAbs) * (2 ^ k - 1) ≤ 2 ^ s * (2 ^ k - 1) := Nat.mul_le_mul_right _ h
  rw [Nat.add_mul] at h6
  have h7 : 2 ^ s * (2 ^ k - 1) < 2 ^ s * 2 ^ k := Nat.mul_lt_mul_of_pos_left (by omega) (Nat.two_pow_pos s)
  rw [Nat.add_comm, Nat.pow_add]
  omega
/-! ### the vectors -/
def rI (sc T lim sp P : D) (cs : List Int) (w j : Nat) (VS : List D) (c12 c13 c14 : Cell) (ds : List D) (ρ : Sl) : Prop := ∃ (k : Nat) (row : List Int) (c10 c11 : Cell), ds = (List.range' k ds.length).map (fun (j : Nat) => D.int (j : Int)) ∧ k + ds.length = w ∧ row.length = k ∧ Bd 40 row ∧ ρ = [.v sc, .v T, .v (.int (w : Int)), .v lim, .v sp, .v (.lst (cs.map D.int)), .v P, .o VS, .v (.int (j : Int)), .o (row.map D.int), c10, c11, c12, c13, c14]
theorem r_step {sc T P : D} {lim : Int} {sp : Bool} (hl : 0 < lim) (hl2 : lim ≤ 10 ^ 12) {cs : List Int} (hcs : cs.length = 240) {w j : Nat} (hw : w ≤ 6) (hj : j ≤ 7) {VS : List D} {c12 c13 c14 : Cell} (d : D) (ds : List D) (ρ : Sl) (h : rI sc T (.int lim) (.bl sp) P cs w j VS c12 c13 c14 (d :: ds) ρ) :
    ∃ ρ1, PF.gName 10 d ρ = some ρ1 ∧ ∃ ρ2, (b1_ulaw_vectors ρ1 = .nx ρ2 ∨ b1_ulaw_vectors ρ1 = .ct ρ2) ∧ rI sc T (.int lim) (.bl sp) P cs w j VS c12 c13 c14 ds ρ2 := by
  obtain ⟨k, row, c10, c11, h1, h2, h3, h4, rfl⟩ := h
  simp only [List.length_cons, List.range'_succ, List.map_cons, List.cons.injEq] at h1
  obtain ⟨rfl, h1⟩ := h1
  rw [List.length_cons] at h2
  refine ⟨_, rfl, ?_⟩
  obtain ⟨z, z1, z2⟩ := number_ok cs (i := 30 * (j : Int) + 5 * (k : Int)) (j := 30 * (j : Int) + 5 * (k : Int) + 5) (k := 30 * j + 5 * k) (by omega) (by omega) (by omega) lim hl hl2 sp
  have m30 : ∀ i, mulOk 30 i = true := fun i => mulOk_l (by decide)
  have m5 : ∀ i, mulOk 5 i = true := fun i => mulOk_l (by decide)
  have hr : (row.map D.int).length < 16777216 := by simp; omega
  have ap : row.map D.int ++ [.int z] = (row ++ [z]).map D.int := by simp
  generalize hx : 30 * (j : Int) + 5 * (k : Int) = x at *
  refine ⟨[.v sc, .v T, .v (.int (w : Int)), .v (.int lim), .v (.bl sp), .v (.lst (cs.map D.int)), .v P, .o VS, .v (.int (j : Int)), .o ((row ++ [z]).map D.int), .v (.int (k : Int)), .v (.int x), c12, c13, c14], .inl ?_, k + 1, row ++ [z], _, _, h1, by omega, by simp [h3], fun y hy => ?_, rfl⟩
  · rw [← ap]
    generalize cs.map D.int = CS at *
    generalize row.map D.int = RS at *
    simp (disch := first | omega | rfl | simp) [ltC, b1_ulaw_vectors, m30, m5, hx, z1]
  · rcases List.mem_append.mp hy with q | q
    · exact h4 y q
    · rw [List.mem_singleton.mp q]; exact z2
theorem ix_i {cs : List Int} {i : Int} {k : Nat} (h : i = (k : Int)) (hk : k < cs.length) : oIx (.lst (cs.map D.int)) (.int i) = .ok (.int cs[k]) := ix_seqI (seqI_l cs) h hk
theorem ix_vs {V : List Vec} {i : Int} (h0 : 0 ≤ i) (h1 : i < V.length) : ∃ v ∈ V, oIx (.lst (V.map vec)) (.int i) = .ok (vec v) := by
  obtain ⟨k, rfl⟩ := Int.eq_ofNat_of_zero_le h0
  have hk : k < (V.map vec).length := by simp; omega
  refine ⟨V[k]'(by omega), List.getElem_mem _, ?_⟩
  simp only [oIx, atI_nat (xs := V.map vec) rfl hk, List.getElem_map]
structure Vs (w j : Nat) (V : List Vec) : Prop where
  len : V.length = j
  ls : ∀ v ∈ V, v.length = w
  bd : ∀ v ∈ V, Bd (40 + 4 * (j - 2)) v
theorem Vs.add {w j : Nat} {V : List Vec} (h : Vs w j V) {u : Vec} (lu : u.length = w) (bu : Bd (40 + 4 * (j + 1 - 2)) u) : Vs w (j + 1) (V ++ [u]) := ⟨by simp [h.len], fun v hv => by
  rcases List.mem_append.mp hv with q | q
  · exact h.ls v q
  · rw [List.mem_singleton.mp q]; exact lu, fun v hv => by
  rcases List.mem_append.mp hv with q | q
  · exact (h.bd v q).up (by omega)
  · rw [List.mem_singleton.mp q]; exact bu⟩
def vI (sc T lim sp : D) (cs ps : List Int) (w n : Nat) (ds : List D) (ρ : Sl) : Prop := ∃ (j : Nat) (V : List Vec) (c8 c9 c10 c11 c12 c13 c14 : Cell), ds = (List.range' j ds.length).map (fun (j : Nat) => D.int (j : Int)) ∧ j + ds.length = n ∧ Vs w j V ∧ ρ = [.v sc, .v T, .v (.int (w : Int)), .v lim, .v sp, .v (.lst (cs.map D.int)), .v (.lst (ps.map D.int)), .o (V.map vec), c8, c9, c10, c11, c12, c13, c14]
theorem v_step {sc T : D} {lim : Int} {sp : Bool} (hl : 0 < lim) (hl2 : lim ≤ 10 ^ 12) {cs ps : List Int} (hcs : cs.length = 240) (hps : ps.length = 32) {w n : Nat} (hw : w ≤ 6) (hn : n ≤ 8) (d : D) (ds : List D) (ρ : Sl) (h : vI sc T (.int lim) (.bl sp) cs ps w n (d :: ds) ρ) :
    ∃ ρ1, PF.gName 8 d ρ = some ρ1 ∧ ∃ ρ2, (b2_ulaw_vectors ρ1 = .nx ρ2 ∨ b2_ulaw_vectors ρ1 = .ct ρ2) ∧ vI sc T (.int lim) (.bl sp) cs ps w n ds ρ2 := by
  obtain ⟨j, V, c8, c9, c10, c11, c12, c13, c14, h1, h2, h3, rfl⟩ := h
  simp only [List.length_cons, List.range'_succ, List.map_cons, List.cons.injEq] at h1
  obtain ⟨rfl, h1⟩ := h1
  rw [List.length_cons] at h2
  have hj : j ≤ 7 := by omega
  refine ⟨_, rfl, ?_⟩
  obtain ⟨ρ', f1, k, row, c10', c11', f2, f3, f4, f5, rfl⟩ := for_inv (rI sc T (.int lim) (.bl sp) (.lst (ps.map D.int)) cs w j (V.map vec) c12 c13 c14) (r_step hl hl2 hcs hw hj) (rngD 0 w) [.v sc, .v T, .v (.int (w : Int)), .v (.int lim), .v (.bl sp), .v (.lst (cs.map D.int)), .v (.lst (ps.map D.int)), .o (V.map vec), .v (.int (j : Int)), .o [], c10, c11, c12, c13, c14] ⟨0, [], c10, c11, by simp [rngD, List.range_eq_range'], by simp [rngD], rfl, fun x hx => by simp at hx, rfl⟩
  have f3 : k = w := by simpa using f3
  subst f3
  have rg := rng1_ok (n := k) (by omega)
  have p1 := ix_i (cs := ps) (i := 4 * (j : Int)) (k := 4 * j) (by omega) (by omega)
  have p2 := ix_i (cs := ps) (i := 4 * (j : Int) + 1) (k := 4 * j + 1) (by omega) (by omega)
  have p3 := ix_i (cs := ps) (i := 4 * (j : Int) + 2) (k := 4 * j + 2) (by omega) (by omega)
  generalize ps[4 * j]'(by omega) = a1 at *
  generalize ps[4 * j + 1]'(by omega) = a2 at *
  generalize ps[4 * j + 2]'(by omega) = a3 at *
  have m4 : ∀ i, mulOk 4 i = true := fun i => mulOk_l (by decide)
  have lV : (V.map vec).length < 16777216 := by simp [h3.len]; omega
  have ap : ∀ u, V.map vec ++ [vec u] = (V ++ [u]).map vec := fun u => by simp
  have A := h3.add (u := row) f4 (f5.up (by omega))
  have t1 : bTup (.lst (row.map D.int)) = .ok (vec row) := rfl
  have bi : ∀ i, bInt (.int i) = .ok (.int i) := fun _ => rfl
  have d8 : divOk 8 = true := divOk_s (by decide) (by decide)
  have fin : ∀ u, Vs k (j + 1) (V ++ [u]) → ∀ c8 c9 c10 c11 c12 c13 c14, vI sc T (.int lim) (.bl sp) cs ps k n ds [.v sc, .v T, .v (.int (k : Int)), .v (.int lim), .v (.bl sp), .v (.lst (cs.map D.int)), .v (.lst (ps.map D.int)), .o (V.map vec ++ [vec u]), c8, c9, c10, c11, c12, c13, c14] := fun u hu c8 c9 c10 c11 c12 c13 c14 => ⟨j + 1, V ++ [u], c8, c9, c10, c11, c12, c13, c14, h1, by omega, hu, by rw [ap]⟩
  by_cases c : 1 < (j : Int)
  · have j0 : ¬ ((j : Int) = 0) := by omega
    have j0' : ¬ j = 0 := by omega
    obtain ⟨v, mv, ev⟩ := ix_vs (V := V) (i := a1.fmod j) (fmod_b a1 j (by omega)).1 (by have := (fmod_b a1 j (by omega)).2; rw [h3.len]; omega)
    obtain ⟨u, mu, eu⟩ := ix_vs (V := V) (i := a2.fmod j) (fmod_b a2 j (by omega)).1 (by have := (fmod_b a2 j (by omega)).2; rw [h3.len]; omega)
    have r1 := fmod_b (a1.fdiv 8) 5 (by decide)
    have r2 := fmod_b (a2.fdiv 8) 9 (by decide)
    have mx := mixed_ok (h3.ls v mv) (h3.ls u mu) (by omega) (a := 1 + (a1.fdiv 8).fmod 5) (b := (a2.fdiv 8).fmod 9 - 4) (by omega) (by omega)
    have bx := bd_combs (s := 4) (h3.ls v mv) (h3.ls u mu) (h3.bd v mv) (h3.bd u mu) (a := 1 + (a1.fdiv 8).fmod 5) (b := (a2.fdiv 8).fmod 9 - 4) (by omega)
    have lx := comb_len (a := 1 + (a1.fdiv 8).fmod 5) (b := (a2.fdiv 8).fmod 9 - 4) (h3.ls v mv) (h3.ls u mu)
    have X := h3.add lx (bx.up (by omega))
    have Y := h3.add (h3.ls v mv) ((h3.bd v mv).up (by omega))
    have bl1 : bLst (vec v) = .ok (v.map D.int) := rfl
    have tv : bTup (.lst (v.map D.int)) = .ok (vec v) := rfl
    generalize hcc : comb (1 + (a1.fdiv 8).fmod 5) v ((a2.fdiv 8).fmod 9 - 4) u = cc at *
    by_cases k0 : a3.fmod 4 = 0
    · skip
      refine ⟨_, .inl ?_, fin v Y (.v (.int (j : Int))) (.o (v.map D.int)) c10' c11' (.v (.int a1)) (.v (.int a2)) (.v (.int (a3.fmod 4)))⟩
      generalize V.map vec = VS at *
      generalize cs.map D.int = CS at *
      generalize ps.map D.int = PS at *
      generalize rngD 0 k = R at *
      simp (disch := first | omega | rfl | simp) [leC, ltC, -cb_iff, -cb_nif, -List.map_map, -thaw, -oIx, -bLen, -bTup, -bLst, -bInt, -gRng1, b2_ulaw_vectors, rg, f1, m4, p1, p2, p3, bi, cb_t c, k0, j0, j0', ev, bl1, tv, eqv_int, eqOk_int, cb_t (show 1 < j by omega)]
    · by_cases k1 : a3.fmod 4 = 1
      · skip
        refine ⟨_, .inl ?_, fin cc X (.v (.int (j : Int))) (.v (vec cc)) c10' c11' (.v (.int a1)) (.v (.int a2)) (.v (.int (a3.fmod 4)))⟩
        generalize V.map vec = VS at *
        generalize cs.map D.int = CS at *
        generalize ps.map D.int = PS at *
        generalize rngD 0 k = R at *
        simp (disch := first | omega | rfl | simp) [leC, ltC, -cb_iff, -cb_nif, -List.map_map, -thaw, -oIx, -bLen, -bTup, -bLst, -bInt, -gRng1, b2_ulaw_vectors, rg, f1, m4, p1, p2, p3, bi, cb_t c, k0, k1, j0, j0', ev, eu, bl1, tv, tp_v, th_v, d8, mx, hcc, eqv_int, eqOk_int, cb_t (show 1 < j by omega)]
      · skip
        refine ⟨_, .inl ?_, fin row A (.v (.int (j : Int))) (.o (row.map D.int)) c10' c11' (.v (.int a1)) (.v (.int a2)) (.v (.int (a3.fmod 4)))⟩
        generalize V.map vec = VS at *
        generalize cs.map D.int = CS at *
        generalize ps.map D.int = PS at *
        generalize rngD 0 k = R at *
        simp (disch := first | omega | rfl | simp) [leC, ltC, -cb_iff, -cb_nif, -List.map_map, -thaw, -oIx, -bLen, -bTup, -bLst, -bInt, -gRng1, b2_ulaw_vectors, rg, f1, m4, p1, p2, p3, bi, cb_t c, k0, k1, j0, j0', t1, eqv_int, eqOk_int, cb_t (show 1 < j by omega)]
  · skip
    refine ⟨_, .inl ?_, fin row A (.v (.int (j : Int))) (.o (row.map D.int)) c10' c11' (.v (.int a1)) (.v (.int a2)) (.v (.int (a3.fmod 4)))⟩
    generalize V.map vec = VS at *
    generalize cs.map D.int = CS at *
    generalize ps.map D.int = PS at *
    generalize rngD 0 k = R at *
    simp (disch := first | omega | rfl | simp) [leC, ltC, -cb_iff, -cb_nif, -List.map_map, -thaw, -oIx, -bLen, -bTup, -bLst, -bInt, -gRng1, b2_ulaw_vectors, rg, f1, m4, p1, p2, p3, bi, cb_f c, t1, eqv_int, eqOk_int, cb_f (show ¬ 1 < j by omega)]
end MD_k03

set_option Elab.async false
set_option linter.all false
set_option maxRecDepth 100000
set_option maxHeartbeats 4000000
/-! k03: the lists of vectors. -/
namespace MF_k03
open PySem L2 PF ML RE S_k03 LC_k03 MA_k03 MB_k03 MC_k03 MD_k03

theorem pick4 (a b c d i : Int) (h0 : 0 ≤ i) (h : i < 4) : ∃ z : Int, oIx (.lst [.int a, .int b, .int c, .int d]) (.int i) = .ok (.int z) ∧ (z = a ∨ z = b ∨ z = c ∨ z = d) := by
  have : i = 0 ∨ i = 1 ∨ i = 2 ∨ i = 3 := by omega
  rcases this with e | e | e | e <;> subst e
  · exact ⟨a, by simp, by simp⟩
  · exact ⟨b, by simp, by simp⟩
  · exact ⟨c, by simp, by simp⟩
  · exact ⟨d, by simp, by simp⟩
theorem vectors_ok (sc : List Int) (hsc : sc.length ≤ 63) {ts : List Int} (hts : ts.length = 6) {w : Nat} (hw : w ≤ 6) : ∃ (V : List Vec) (n : Nat), n ≤ 8 ∧ Vs w n V ∧ f_ulaw_vectors [.rol (sc.map D.int), .lst (ts.map D.int), .int (w : Int)] = .ok (.fr (V.map vec)) := by
  obtain ⟨cs, hcs, r1⟩ := row_ok sc hsc 1 (by decide) 240 (by decide)
  obtain ⟨ps, hps, r2⟩ := row_ok sc hsc 2 (by decide) 32 (by decide)
  have r1 : f_ulaw_row [.rol (sc.map D.int), .int 1, .int 240] = _ := r1
  have r2 : f_ulaw_row [.rol (sc.map D.int), .int 2, .int 32] = _ := r2
  have x1 := ix_i (cs := ts) (i := 1) (k := 1) rfl (by omega)
  have x2 := ix_i (cs := ts) (i := 2) (k := 2) rfl (by omega)
  have x3 := ix_i (cs := ts) (i := 3) (k := 3) rfl (by omega)
  generalize ts[1]'(by omega) = t1 at *
  generalize ts[2]'(by omega) = t2 at *
  generalize ts[3]'(by omega) = t3 at *
  obtain ⟨lim, l1, l2⟩ := pick4 3 10 1000 (10 ^ 12) (t2.fmod 4) (fmod_b t2 4 (by decide)).1 (fmod_b t2 4 (by decide)).2
  have l3 : 0 < lim ∧ lim ≤ 10 ^ 12 := by rcases l2 with rfl | rfl | rfl | rfl <;> decide
  have b9 := fmod_b t1 9 (by decide)
  obtain ⟨n, hn⟩ := Int.eq_ofNat_of_zero_le b9.1
  have rg := rng1_ok (n := n) (by omega)
  have pw : cb ((0 : Int) ≤ 12 ∧ (12 : Int) ≤ 1000000 ∧ (10 : Int).natAbs < 2 ^ 64) = true := cb_t (by decide)
  obtain ⟨ρ', h1, j, V, c8, c9, c10, c11, c12, c13, c14, h2, h3, h4, rfl⟩ := for_inv (vI (.rol (sc.map D.int)) (.lst (ts.map D.int)) (.int lim) (.bl (t3.fmod 2 == 1)) cs ps w n) (v_step l3.1 l3.2 hcs hps hw (by omega)) (rngD 0 n) [.v (.rol (sc.map D.int)), .v (.lst (ts.map D.int)), .v (.int (w : Int)), .v (.int lim), .v (.bl (t3.fmod 2 == 1)), .v (.lst (cs.map D.int)), .v (.lst (ps.map D.int)), .o [], .e, .e, .e, .e, .e, .e, .e] ⟨0, [], .e, .e, .e, .e, .e, .e, .e, by simp [rngD, List.range_eq_range'], by simp [rngD], ⟨rfl, fun v hv => by simp at hv, fun v hv => by simp at hv⟩, rfl⟩
  have h3 : j = n := by simpa using h3
  subst h3
  refine ⟨V, j, by omega, h4, ?_⟩
  have bi : ∀ i, bInt (.int i) = .ok (.int i) := fun _ => rfl
  have tl : ∀ ds, thaw (.fr ds) = .ok (.lst ds) := fun _ => rfl
  generalize cs.map D.int = CS at *
  generalize ps.map D.int = PS at *
  generalize ts.map D.int = TS at *
  generalize V.map vec = VS at *
  generalize rngD 0 j = R at *
  have e12 : (10 : Int) ^ 12 = 1000000000000 := by decide
  rw [e12] at l1
  have q : oPow (.int 10) (.int 12) = .ok (.int 1000000000000) := by
    simp only [oPow, pw, if_true]
    show Res.ok (D.int (10 ^ 12)) = _
    rw [e12]
  simp (disch := first | omega | rfl | simp) [leC, ltC, -cb_iff, -cb_nif, -List.map_map, -thaw, -oPow, -oIx, -bInt, -gRng1, f_ulaw_vectors, g_ulaw_vectors, x1, x2, x3, bi, q, l1, r1, r2, tl, hn, rg, h1]
/-! ### the second list -/
theorem map_set' (V : List Vec) (a : Nat) (u : Vec) : (V.map vec).set a (vec u) = (V.set a u).map vec := by
  rw [List.map_set]
def oI (n : Nat) (V : List Vec) (d w : D) (cs : List Int) (ds : List D) (ρ : Sl) : Prop := ∃ (k : Nat) (O : List Vec) (c4 c5 c6 c7 : Cell), ds = (List.range' k ds.length).map (fun (j : Nat) => D.int (j : Int)) ∧ k + ds.length = 8 ∧ O.length = V.length ∧ (∀ v ∈ O, v.length = n) ∧ (∀ v ∈ O, Bd (64 + 2 * k) v) ∧ Eqs n V O ∧ ρ = [.v d, .v (.lst (cs.map D.int)), .v w, .o (O.map vec), c4, c5, c6, c7]
theorem o_step {n : Nat} {V : List Vec} {d w : D} {cs : List Int} (hV : ∀ v ∈ V, v.length = n) (hn : n ≤ 6) (hcs : cs.length = 60) (e : D) (ds : List D) (ρ : Sl) (h : oI n V d w cs (e :: ds) ρ) : ∃ ρ1, PF.gName 4 e ρ = some ρ1 ∧ ∃ ρ2, (b1_ulaw_other ρ1 = .nx ρ2 ∨ b1_ulaw_other ρ1 = .ct ρ2) ∧ oI n V d w cs ds ρ2 := by
  obtain ⟨k, O, c4, c5, c6, c7, h1, h2, h3, h4, h5, h6, rfl⟩ := h
  simp only [List.length_cons, List.range'_succ, List.map_cons, List.cons.injEq] at h1
  obtain ⟨rfl, h1⟩ := h1
  rw [List.length_cons] at h2
  refine ⟨_, rfl, ?_⟩
  by_cases l0 : O.length = 0
  · refine ⟨[.v d, .v (.lst (cs.map D.int)), .v w, .o (O.map vec), .v (.int (k : Int)), c5, c6, c7], .inl ?_, k + 1, O, _, _, _, _, h1, by omega, h3, h4, fun v hv => (h5 v hv).up (by omega), h6, rfl⟩
    have bl : bLen (.lst (O.map vec)) = .ok (.int 0) := by simp [bLen, l0]
    have c0 : cb ((0 : Int) < 0) = false := cb_f (by omega)
    generalize cs.map D.int = CS at *
    generalize O.map vec = OS at *
    simp [-cb_iff, -cb_nif, -bLen, b1_ulaw_other, bl, c0]
  · have bl : bLen (.lst (O.map vec)) = .ok (.int O.length) := by simp [bLen]
    have c0 : cb ((0 : Int) < O.length) = true := cb_t (by omega)
    have c0' : cb (0 < O.length) = true := cb_t (by omega)
    have x1 := ix_i (cs := cs) (i := 3 * (k : Int)) (k := 3 * k) (by omega) (by omega)
    have x2 := ix_i (cs := cs) (i := 3 * (k : Int) + 1) (k := 3 * k + 1) (by omega) (by omega)
    have x3 := ix_i (cs := cs) (i := 3 * (k : Int) + 2) (k := 3 * k + 2) (by omega) (by omega)
    generalize cs[3 * k]'(by omega) = a1 at *
    generalize cs[3 * k + 1]'(by omega) = a2 at *
    generalize cs[3 * k + 2]'(by omega) = a3 at *
    have l0' : ¬ ((O.length : Int) = 0) := by omega
    have fa := fmod_b a1 O.length (by omega)
    have fb := fmod_b a2 O.length (by omega)
    obtain ⟨a, ha⟩ := Int.eq_ofNat_of_zero_le fa.1
    obtain ⟨b, hb⟩ := Int.eq_ofNat_of_zero_le fb.1
    have la : a < O.length := by omega
    have lb : b < O.length := by omega
    have oA : oIx (.lst (O.map vec)) (.int (a : Int)) = .ok (vec O[a]) := by
      simp only [oIx, atI_nat (xs := O.map vec) (k := a) rfl (by simpa using la), List.getElem_map]
    have oB : oIx (.lst (O.map vec)) (.int (b : Int)) = .ok (vec O[b]) := by
      simp only [oIx, atI_nat (xs := O.map vec) (k := b) rfl (by simpa using lb), List.getElem_map]
    have iA : ixN (O.map vec).length (a : Int) = some a := by
      unfold ixN
      simp [la]
    have mA : O[a] ∈ O := List.getElem_mem la
    have mB : O[b] ∈ O := List.getElem_mem lb
    have m3 : ∀ i, mulOk 3 i = true := fun i => mulOk_l (by decide)
    have bi : ∀ i, bInt (.int i) = .ok (.int i) := fun _ => rfl
    have step : ∀ (x y : Int), x ≠ 0 → (a = b → y = 0) → x.natAbs + y.natAbs ≤ 4 → ∀ u : Vec, u = comb x O[a] y O[b] → ∀ c5 c6 c7, oI n V d w cs ds [.v d, .v (.lst (cs.map D.int)), .v w, .o ((O.map vec).set a (vec u)), .v (.int (k : Int)), c5, c6, c7] := fun x y hx hy hs u hu c5 c6 c7 => by
      subst hu
      refine ⟨k + 1, O.set a (comb x O[a] y O[b]), _, c5, c6, c7, h1, by omega, by simpa using h3, fun v hv => ?_, fun v hv => ?_, eqs_set hV h4 h6 la lb x y hx hy, by rw [map_set']⟩
      · rcases List.mem_or_eq_of_mem_set hv with q | q
        · exact h4 v q
        · rw [q]; exact comb_len (h4 _ mA) (h4 _ mB)
      · rcases List.mem_or_eq_of_mem_set hv with q | q
        · exact (h5 v q).up (by omega)
        · rw [q]; exact (bd_combs (s := 2) (h4 _ mA) (h4 _ mB) (h5 _ mA) (h5 _ mB) hs).up (by omega)
    have e1 : ∀ z, (.int z : D) = .int z := fun _ => rfl
    by_cases q : a = b
    · subst q
      have p2 : ∃ f : Int, oIx (.lst [.int 2, .int (-3)]) (.int (a3.fmod 2)) = .ok (.int f) ∧ f ≠ 0 ∧ f.natAbs ≤ 3 := by
        have := fmod_b a3 2 (by decide)
        have : a3.fmod 2 = 0 ∨ a3.fmod 2 = 1 := by omega
        rcases this with e | e <;> rw [e]
        · exact ⟨2, by simp, by decide, by decide⟩
        · exact ⟨-3, by simp, by decide, by decide⟩
      obtain ⟨f, f1, f2, f3⟩ := p2
      have mx := mixed_ok (h4 _ mA) (h4 _ mA) (by omega) (a := f) (b := 0) (by omega) (by decide)
      refine ⟨_, .inl ?_, step f 0 f2 (fun _ => rfl) (by simp; omega) _ rfl (.v (.int (a : Int))) (.v (.int (a : Int))) (.v (.int a3))⟩
      generalize cs.map D.int = CS at *
      generalize hO : O.map vec = OS at *
      have lO : OS.length = O.length := by rw [← hO]; simp
      generalize O[a] = u at *
      simp (disch := first | omega | rfl | simp) [leC, ltC, -cb_iff, -cb_nif, -List.map_map, -thaw, -oIx, -bLen, -bInt, b1_ulaw_other, bl, c0, c0', x1, x2, x3, bi, m3, ha, hb, l0, l0', oA, f1, mx, th_v, iA, eqv_int, eqOk_int]
    · have r7 := fmod_b a3 7 (by decide)
      have mx := mixed_ok (h4 _ mA) (h4 _ mB) (by omega) (a := 1) (b := a3.fmod 7 - 3) (by decide) (by omega)
      have q' : ¬ ((a : Int) = (b : Int)) := by omega
      refine ⟨_, .inl ?_, step 1 (a3.fmod 7 - 3) (by decide) (fun z => absurd z q) (by omega) _ rfl (.v (.int (a : Int))) (.v (.int (b : Int))) (.v (.int a3))⟩
      generalize cs.map D.int = CS at *
      generalize hO : O.map vec = OS at *
      generalize O[a] = u at *
      generalize O[b] = v at *
      simp (disch := first | omega | rfl | simp) [leC, ltC, -cb_iff, -cb_nif, -List.map_map, -thaw, -oIx, -bLen, -bInt, b1_ulaw_other, bl, c0, c0', x1, x2, x3, bi, m3, ha, hb, l0, l0', oA, oB, q, q', mx, th_v, iA, eqv_int, eqOk_int]
theorem zero_ok (n : Nat) (h1 : 1 ≤ n) (h2 : n ≤ 1000) : oMulT (.tup [.int 0]) (.int (n : Int)) = .ok (vec (List.replicate n (0 : Int))) := by
  have e : (List.replicate n [D.int 0]).flatten = (List.replicate n (0 : Int)).map D.int := by
    rw [List.map_replicate]
    clear h1 h2
    induction n with
    | zero => rfl
    | succ n ih => rw [List.replicate_succ, List.flatten_cons, ih, List.replicate_succ]; rfl
  have c := cb_t (p := [D.int 0] ≠ [] ∧ 1 ≤ (n : Int) ∧ (n : Int) ≤ 1000 ∧ [D.int 0].length ≤ 1000) ⟨by simp, by omega, by omega, by simp⟩
  simp only [oMulT, c, if_true, Int.toNat_natCast, e]
  rfl
theorem take1 (xs : List D) : cutD xs none (some 1) = xs.take 1 := by
  unfold cutD
  have : HT.sIx xs.length xs.length (some 1) = min 1 xs.length := HT.sIx_nat xs.length xs.length 1
  rw [HT.sIx_none, this]
  cases xs with
  | nil => rfl
  | cons x xs => simp
theorem other_ok {n : Nat} {V : List Vec} (hV : ∀ v ∈ V, v.length = n) (hb : ∀ v ∈ V, Bd 64 v) (h1 : 1 ≤ n) (hn : n ≤ 6) (hl : V.length ≤ 8) {cs : List Int} (hcs : cs.length = 60) : ∃ W : List Vec, W.length ≤ 100 ∧ (∀ v ∈ W, v.length = n) ∧ (∀ v ∈ W, Bd 80 v) ∧ Eqs n V W ∧ f_ulaw_other [.lst (V.map vec), .lst (cs.map D.int), .int (n : Int)] = .ok (.fr (W.map vec)) := by
  obtain ⟨ρ', e1, k, O, c4, c5, c6, c7, e2, e3, e4, e5, e6, e7, rfl⟩ := for_inv (oI n V (.lst (V.map vec)) (.int (n : Int)) cs) (o_step hV hn hcs) (rngD 0 8) [.v (.lst (V.map vec)), .v (.lst (cs.map D.int)), .v (.int (n : Int)), .o (V.map vec), .e, .e, .e, .e] ⟨0, V, .e, .e, .e, .e, by simp [rngD, List.range_eq_range'], by simp [rngD], rfl, hV, hb, eqs_refl, rfl⟩
  have e3 : k = 8 := by simpa using e3
  subst e3
  have tl : (O.take 1).length ≤ 1 := List.length_take_le 1 O
  refine ⟨_, ?_, ?_, ?_, eqs_end e7, ?_⟩
  · simp
    omega
  · intro v hv
    rcases List.mem_cons.mp hv with rfl | hv
    · simp
    · rcases List.mem_append.mp hv with q | q
      · exact e5 v (by simpa using q)
      · exact e5 v (List.mem_of_mem_take q)
  · intro v hv
    rcases List.mem_cons.mp hv with rfl | hv
    · exact bd_zero _ _
    · rcases List.mem_append.mp hv with q | q
      · exact e6 v (by simpa using q)
      · exact e6 v (List.mem_of_mem_take q)
  · have z := zero_ok n h1 (by omega)
    have rg := rng1_ok (n := 8) (by decide)
    have rg : gRng1 [.int 8] = _ := rg
    have eW : (List.replicate n 0 :: (O.reverse ++ O.take 1)).map vec = ([vec (List.replicate n 0)] ++ (O.map vec).reverse) ++ (O.map vec).take 1 := by simp
    have lO : (O.map vec).length ≤ 8 := by simp; omega
    have lt : ((O.map vec).take 1).length ≤ 1 := List.length_take_le _ _
    rw [eW]
    generalize cs.map D.int = CS at *
    generalize V.map vec = VS at *
    generalize vec (List.replicate n 0) = Z at *
    generalize O.map vec = OS at *
    generalize rngD 0 8 = R at *
    have lr : OS.reverse.length ≤ 8 := by simpa using lO
    have t1 := take1 OS
    generalize OS.take 1 = T1 at *
    simp (disch := first | omega | rfl | simp) [leC, ltC, -List.map_map, -oMulT, -gRng1, f_ulaw_other, g_ulaw_other, rg, e1, z, t1]
end MF_k03

set_option Elab.async false
set_option linter.all false
set_option maxRecDepth 100000
set_option maxHeartbeats 4000000
/-! k03: the plain law. -/
namespace M_k03
open PySem L2 PF ML RE S_k03 LC_k03 MA_k03 MB_k03 MC_k03 MD_k03 MF_k03

theorem lc_ex' {g : FG} {f : Sl → Res D} {ρ : Sl} (P : Int → Prop) : ∀ (xs : List D) (acc : List D), (∀ x ∈ xs, ∃ ρ1, g x ρ = some ρ1 ∧ ∃ z : Int, f ρ1 = .ok (.int z) ∧ P z) → acc.length + xs.length ≤ 100000 → ∃ zs : List Int, zs.length = xs.length ∧ (∀ z ∈ zs, P z) ∧ lcRun g tYesF f ρ xs acc = .ok (acc ++ zs.map D.int)
  | [], acc, _, _ => ⟨[], rfl, by simp, by simp [lcRun]⟩
  | x :: xs, acc, hf, hl => by
    obtain ⟨ρ1, h1, z, h2, h3⟩ := hf x (by simp)
    have hlt : acc.length < 16777216 := by simp at hl; omega
    obtain ⟨zs, i1, i2, i3⟩ := lc_ex' (g := g) (f := f) (ρ := ρ) P xs (acc ++ [.int z]) (fun y hy => hf y (by simp [hy])) (by simp at hl ⊢; omega)
    refine ⟨z :: zs, by simp [i1], fun y hy => ?_, ?_⟩
    · rcases List.mem_cons.mp hy with rfl | q
      · exact h3
      · exact i2 y q
    · unfold lcRun
      simp only [h1, tYesF, Res.nx, Res.bind_ok, if_true, h2, hlt]
      simpa using i3
theorem lc_ex {g : FG} {f : Sl → Res D} {ρ : Sl} (P : Int → Prop) (xs : List D) (hf : ∀ x ∈ xs, ∃ ρ1, g x ρ = some ρ1 ∧ ∃ z : Int, f ρ1 = .ok (.int z) ∧ P z) (hl : xs.length ≤ 100000) : ∃ zs : List Int, zs.length = xs.length ∧ (∀ z ∈ zs, P z) ∧ lcRun g tYesF f ρ xs [] = .ok (zs.map D.int) := by
  obtain ⟨zs, h1, h2, h3⟩ := lc_ex' (g := g) (f := f) (ρ := ρ) P xs [] hf (by simpa using hl)
  exact ⟨zs, h1, h2, by simpa using h3⟩
theorem mem_rng {n : Nat} {x : D} (h : x ∈ rngD 0 n) : ∃ k : Nat, k < n ∧ x = .int (k : Int) := by
  rw [rngD_ints] at h
  simp at h
  obtain ⟨k, h1, h2⟩ := h
  exact ⟨k, h1, h2.symm⟩
theorem pick2 (a b i : Int) (h0 : 0 ≤ i) (h : i < 2) : ∃ z : Int, oIx (.lst [.int a, .int b]) (.int i) = .ok (.int z) ∧ (z = a ∨ z = b) := by
  have : i = 0 ∨ i = 1 := by omega
  rcases this with e | e <;> subst e
  · exact ⟨a, by simp, by simp⟩
  · exact ⟨b, by simp, by simp⟩
theorem bi (i : Int) : bInt (.int i) = .ok (.int i) := rfl
/-! ### the sum of multiples -/
def tI (n : Nat) (V : List Vec) (x0 x1 x2 x4 x5 x6 : Cell) (cs : List Int) (ds : List D) (ρ : Sl) : Prop := ∃ (j : Nat) (t : Vec) (c8 : Cell), ds = (List.range' j ds.length).map (fun (j : Nat) => D.int (j : Int)) ∧ j + ds.length = V.length ∧ t.length = n ∧ Bd (64 + 2 * j) t ∧ Sp n V t ∧ ρ = [x0, x1, x2, .v (.lst (V.map vec)), .v (.lst (cs.map D.int)), x5, x6, .v (vec t), c8, .e, .e, .e, .e, .e, .e]
theorem t_step {n : Nat} {V : List Vec} (hV : ∀ v ∈ V, v.length = n) (hb : ∀ v ∈ V, Bd 64 v) (hn : n ≤ 6) (hl : V.length ≤ 8) {x0 x1 x2 x4 x5 x6 : Cell} {cs : List Int} (hcs : cs.length = 60) (d : D) (ds : List D) (ρ : Sl) (h : tI n V x0 x1 x2 x4 x5 x6 cs (d :: ds) ρ) : ∃ ρ1, PF.gName 8 d ρ = some ρ1 ∧ ∃ ρ2, (b2_law ρ1 = .nx ρ2 ∨ b2_law ρ1 = .ct ρ2) ∧ tI n V x0 x1 x2 x4 x5 x6 cs ds ρ2 := by
  obtain ⟨j, t, c8, h1, h2, h3, h4, h5, rfl⟩ := h
  simp only [List.length_cons, List.range'_succ, List.map_cons, List.cons.injEq] at h1
  obtain ⟨rfl, h1⟩ := h1
  rw [List.length_cons] at h2
  refine ⟨_, rfl, ?_⟩
  have hj : j < V.length := by omega
  have mV : V[j] ∈ V := List.getElem_mem hj
  have oV : oIx (.lst (V.map vec)) (.int (j : Int)) = .ok (vec V[j]) := by
    simp only [oIx, atI_nat (xs := V.map vec) (k := j) rfl (by simpa using hj), List.getElem_map]
  have f6 := fmod_b (j : Int) 6 (by decide)
  obtain ⟨m, hm⟩ := Int.eq_ofNat_of_zero_le f6.1
  have xc := ix_i (cs := cs) (i := 24 + (j : Int).fmod 6) (k := 24 + m) (by omega) (by omega)
  generalize cs[24 + m]'(by omega) = c at *
  have dj : divOk ((j : Int) + 1) = true := divOk_s (by omega) (by omega)
  have f7 := fmod_b (c.fdiv ((j : Int) + 1)) 7 (by decide)
  have mx := mixed_ok h3 (hV _ mV) (by omega) (a := 1) (b := (c.fdiv ((j : Int) + 1)).fmod 7 - 3) (by decide) (by omega)
  refine ⟨[x0, x1, x2, .v (.lst (V.map vec)), .v (.lst (cs.map D.int)), x5, x6, .v (vec (comb 1 t ((c.fdiv ((j : Int) + 1)).fmod 7 - 3) V[j])), .v (.int (j : Int)), .e, .e, .e, .e, .e, .e], .inl ?_, j + 1, _, _, h1, by omega, comb_len h3 (hV _ mV), (bd_combs (s := 2) h3 (hV _ mV) h4 ((hb _ mV).up (by omega)) (by omega)).up (by omega), .comb _ _ h5 (.mem mV), rfl⟩
  generalize V[j] = v at *
  generalize V.map vec = VS at *
  generalize cs.map D.int = CS at *
  simp (disch := first | omega | rfl | simp) [-thaw, -oIx, -bInt, b2_law, oV, xc, bi, dj, mx, th_v]
/-! ### all the values -/
theorem lies_run {n : Nat} {B : PB} (hn : n ≤ 6) (R : Rb n B) {x0 x1 x2 x3 x4 x6 x7 x8 x9 x10 x12 x13 x14 : Cell} : ∀ (us : List Vec) (c : Cell), (∀ u ∈ us, u.length = n ∧ Sz B u) → ∃ c', forRun (PF.gName 11) b4_law (us.map vec) [x0, x1, x2, x3, x4, .v (.lst (pD B)), x6, x7, x8, x9, x10, c, x12, x13, x14] = .nx [x0, x1, x2, x3, x4, .v (.lst (pD B)), x6, x7, x8, x9, x10, c', x12, x13, x14]
  | [], c, _ => ⟨c, rfl⟩
  | u :: us, c, h => by
    obtain ⟨c', ih⟩ := lies_run hn R (x0 := x0) (x1 := x1) (x2 := x2) (x3 := x3) (x4 := x4) (x6 := x6) (x7 := x7) (x8 := x8) (x9 := x9) (x10 := x10) (x12 := x12) (x13 := x13) (x14 := x14) us (.v (vec u)) (fun w hw => h w (by simp [hw]))
    refine ⟨c', ?_⟩
    have e := lies_ok hn R (h u (by simp)).1 (h u (by simp)).2
    rw [List.map_cons]
    simp only [forRun, PF.gName]
    generalize us.map vec = US at *
    generalize pD B = BS at *
    simpa [b4_law, e] using ih
theorem law_true : ∀ ns : List Int, ns.length ≤ 63 → f_law [.rol (ns.map D.int)] = .ok (.bl true) := fun ns hns => by
  obtain ⟨ts, hts, r0⟩ := row_ok ns hns 0 (by decide) 6 (by decide)
  have r0 : f_ulaw_row [.rol (ns.map D.int), .int 0, .int 6] = _ := r0
  obtain ⟨cs, hcs, r3⟩ := row_ok ns hns 3 (by decide) 60 (by decide)
  have r3 : f_ulaw_row [.rol (ns.map D.int), .int 3, .int 60] = _ := r3
  have x0 := ix_i (cs := ts) (i := 0) (k := 0) rfl (by omega)
  have x4 := ix_i (cs := ts) (i := 4) (k := 4) rfl (by omega)
  have x5 := ix_i (cs := ts) (i := 5) (k := 5) rfl (by omega)
  generalize ts[0]'(by omega) = t0 at *
  generalize ts[4]'(by omega) = t4 at *
  generalize ts[5]'(by omega) = t5 at *
  have b0 := fmod_b t0 6 (by decide)
  obtain ⟨w, hw⟩ := Int.eq_ofNat_of_zero_le (show 0 ≤ 1 + t0.fmod 6 by omega)
  have w1 : 1 ≤ w := by omega
  have w6 : w ≤ 6 := by omega
  obtain ⟨V, nv, n8, vs, ev⟩ := vectors_ok ns hns hts w6
  have vl := vs.len
  have hV := vs.ls
  have hb : ∀ v ∈ V, Bd 64 v := fun v hv => (vs.bd v hv).up (by omega)
  obtain ⟨L, B, I, eB⟩ := lred_ok hV (fun v hv => (hb v hv).up (by decide)) w6 (by omega)
  have due : Due w V B := ⟨L, I⟩
  have R := due.rb
  have sV := spans_ok w6 due hV (fun v hv => (hb v hv).up (by decide)) (by omega) eqs_refl
  obtain ⟨W, Wl, Wn, Wb, We, eW⟩ := other_ok hV hb w1 w6 (by omega) hcs
  have sW := spans_ok w6 due Wn Wb Wl We
  obtain ⟨_, s1, s2⟩ := I.st.fin
  obtain ⟨dd, d1, d2, d3⟩ := rb_size R w6 I.bB
  obtain ⟨lim, l1, l2⟩ := pick2 5 (10 ^ 12) (t4.fmod 2) (fmod_b t4 2 (by decide)).1 (fmod_b t4 2 (by decide)).2
  have l3 : 0 < lim ∧ lim ≤ 10 ^ 12 := by rcases l2 with rfl | rfl <;> decide
  have e12 : (10 : Int) ^ 12 = 1000000000000 := by decide
  have q12 : oPow (.int 10) (.int 12) = .ok (.int 1000000000000) := by
    have pw : cb ((0 : Int) ≤ 12 ∧ (12 : Int) ≤ 1000000 ∧ (10 : Int).natAbs < 2 ^ 64) = true := cb_t (by decide)
    simp only [oPow, pw, if_true]
    show Res.ok (D.int (10 ^ 12)) = _
    rw [e12]
  rw [e12] at l1
  have m5 : ∀ i, mulOk 5 i = true := fun i => mulOk_l (by decide)
  have rg := rng1_ok (n := w) (by omega)
  have rv := rng1_ok (n := V.length) (by omega)
  obtain ⟨vec0, a1, a2, a3⟩ := lc_ex (g := PF.gName 14) (f := b1_law) (ρ := [.v (.rol (ns.map D.int)), .v (.lst (ts.map D.int)), .v (.int (w : Int)), .v (.lst (V.map vec)), .v (.lst (cs.map D.int)), .v (.lst (pD B)), .e, .e, .e, .e, .e, .e, .e, .e, .e]) (fun z => z.natAbs < 2 ^ 40) (rngD 0 w) (fun x hx => by
    obtain ⟨k, hk, rfl⟩ := mem_rng hx
    obtain ⟨z, z1, z2⟩ := number_ok cs (i := 30 + 5 * (k : Int)) (j := 35 + 5 * (k : Int)) (k := 30 + 5 * k) (by omega) (by omega) (by omega) lim l3.1 l3.2 true
    refine ⟨_, rfl, z, ?_, z2⟩
    generalize cs.map D.int = CS at *
    generalize ts.map D.int = TS at *
    simp [-oIx, -bInt, -oPow, b1_law, m5, x4, bi, q12, l1, z1]) (by simp [rngD]; omega)
  have v0l : vec0.length = w := by rw [a1]; simp [rngD]
  have v0b : Bd 40 vec0 := a2
  have z0 := zero_ok w w1 (by omega)
  obtain ⟨ρ', g1, j, tot, c8, g2, g3, g4, g5, g6, rfl⟩ := for_inv (tI w V (.v (.rol (ns.map D.int))) (.v (.lst (ts.map D.int))) (.v (.int (w : Int))) .e (.v (.lst (pD B))) (.v (vec vec0)) cs) (t_step hV hb w6 (by omega) hcs) (rngD 0 V.length) [.v (.rol (ns.map D.int)), .v (.lst (ts.map D.int)), .v (.int (w : Int)), .v (.lst (V.map vec)), .v (.lst (cs.map D.int)), .v (.lst (pD B)), .v (vec vec0), .v (vec (List.replicate w 0)), .e, .e, .e, .e, .e, .e, .e] ⟨0, _, .e, by simp [rngD, List.range_eq_range'], by simp [rngD], by simp, bd_zero _ _, .zero, rfl⟩
  have g3 : j = V.length := by simpa using g3
  subst g3
  have tb : Bd 80 tot := g5.up (by omega)
  have mw : ∀ i, i = i := fun _ : Int => rfl
  have w0 : ¬ ((w : Int) = 0) := by omega
  have w0' : ¬ w = 0 := by omega
  obtain ⟨unit, u1, u2, u3⟩ := lc_ex (g := PF.gName 14) (f := b3_law) (ρ := [.v (.rol (ns.map D.int)), .v (.lst (ts.map D.int)), .v (.int (w : Int)), .v (.lst (V.map vec)), .v (.lst (cs.map D.int)), .v (.lst (pD B)), .v (vec vec0), .v (vec tot), c8, .e, .e, .e, .e, .e, .e]) (fun z => z.natAbs < 2 ^ 1) (rngD 0 w) (fun x hx => by
    obtain ⟨k, hk, rfl⟩ := mem_rng hx
    have bb1 : ∀ b : Bool, bInt (.bl b) = .ok (.int (if b then 1 else 0)) := fun _ => rfl
    refine ⟨_, rfl, (if ((k : Int) == t5.fmod w) then 1 else 0), ?_, ?_⟩
    · generalize cs.map D.int = CS at *
      generalize ts.map D.int = TS at *
      simp [-oIx, -bInt, b3_law, x5, bi, bb1, w0, w0', eqv_int, eqOk_int]
    · split <;> decide) (by simp [rngD]; omega)
  have ul : unit.length = w := by rw [u1]; simp [rngD]
  have ub : Bd 1 unit := u2
  have r5 := fmod_b (t5.fdiv 8) 5 (by decide)
  have mM := mixed_ok v0l g4 (by omega) (a := 1 + (t5.fdiv 8).fmod 5) (b := 2) (by omega) (by decide)
  have mN := mixed_ok v0l v0l (by omega) (a := -1) (b := 0) (by decide) (by decide)
  have ml := comb_len (a := 1 + (t5.fdiv 8).fmod 5) (b := 2) v0l g4
  have mb := bd_combs (s := 3) v0l g4 (v0b.up (by decide)) tb (a := 1 + (t5.fdiv 8).fmod 5) (b := 2) (by omega)
  have nl := comb_len (a := -1) (b := 0) v0l v0l
  have nb := bd_combs (s := 1) v0l v0l v0b v0b (a := -1) (b := 0) (by decide)
  have sp : Sp w (B.map (·.2)) tot := s1 tot g6
  have same := red_same R (1 + (t5.fdiv 8).fmod 5) 2 (by omega) v0l sp
  have zero := red_zero R sp
  generalize hM : comb (1 + (t5.fdiv 8).fmod 5) vec0 2 tot = moved at *
  generalize hN : comb (-1) vec0 0 vec0 = nega at *
  have sz : ∀ (u : Vec) (c : Nat), u.length = w → Bd c u → c ≤ 440 → Sz B u := fun u c lu bu hc => sz_of B u c d1 R.len lu bu (by omega)
  have sv := sz vec0 40 v0l v0b (by decide)
  have sm := sz moved 83 ml mb (by decide)
  have st := sz tot 80 g4 tb (by decide)
  have A1 := reduce_ok R (by omega) g4 st
  rw [zero] at A1
  have A2 := reduce_ok R (by omega) ml sm
  rw [same] at A2
  have A3 := rest_ok R (by omega) v0l sv
  have R0 : Rb w ([] : PB) := ⟨by simp, by simp, by simp, by simp, by simp, by simp, .nil⟩
  have A4 := reduce_ok R0 (by omega) v0l (v0b.up (by decide))
  have e0 : red [] vec0 = prim vec0 := rfl
  have e1 : pD [] = [] := rfl
  rw [e0, e1] at A4
  have A5 := lprim_ok (vec vec0) vec0 (sq_v _) (tp_v _) (v0b.up (by decide)) (by omega)
  have T1 := tuple_ok (List.replicate w 0) (by simp; omega)
  rw [List.length_replicate] at T1
  have T1 : f_ulaw_is_tuple [vec (List.replicate w 0), .int (w : Int)] = .ok (.bl true) := T1
  have T2 := tuple_ok (prim vec0) (by rw [prim_len, v0l]; omega)
  rw [prim_len, v0l] at T2
  have T2 : f_ulaw_is_tuple [vec (prim vec0), .int (w : Int)] = .ok (.bl true) := T2
  have lr := lies_run w6 R (x0 := .v (.rol (ns.map D.int))) (x1 := .v (.lst (ts.map D.int))) (x2 := .v (.int (w : Int))) (x3 := .v (.lst (V.map vec))) (x4 := .v (.lst (cs.map D.int))) (x6 := .v (vec vec0)) (x7 := .v (vec tot)) (x8 := c8) (x9 := .v (vec unit)) (x10 := .v (vec moved)) (x12 := .e) (x13 := .e) (x14 := .e) (us := [vec0, nega, moved, unit, tot, List.replicate w 0] ++ B.map (·.2)) (c := .e) (fun u hu => by
    rcases List.mem_append.mp hu with q | q
    · simp only [List.mem_cons, List.not_mem_nil, or_false] at q
      rcases q with rfl | rfl | rfl | rfl | rfl | rfl
      · exact ⟨v0l, sv⟩
      · exact ⟨nl, sz _ 41 nl nb (by decide)⟩
      · exact ⟨ml, sm⟩
      · exact ⟨ul, sz _ 1 ul ub (by decide)⟩
      · exact ⟨g4, st⟩
      · exact ⟨by simp, sz _ 0 (by simp) (bd_zero _ _) (by decide)⟩
    · obtain ⟨x, hx, rfl⟩ := List.mem_map.mp q
      exact ⟨R.len x hx, sz_mem R d1 (by omega) x hx B x.2 (fun _ h => h) (.inl rfl)⟩)
  rw [List.map_append, ← pD_vs] at lr
  simp only [List.map_cons, List.map_nil, List.cons_append, List.nil_append] at lr
  have lB : (pD B).length ≤ 6 := by
    have := (rb_full R).1
    simp [pD]
    omega
  have ov : ∀ u : Vec, eqOk (vec u) = true := eqOk_vec
  have ev' : ∀ u : Vec, eqv (vec u) (vec u) = true := fun u => by rw [eqv_vec]; simp
  have tl : ∀ ds, thaw (.fr ds) = .ok (.lst ds) := fun _ => rfl
  have bl : bLen (.lst (V.map vec)) = .ok (.int V.length) := by simp [bLen]
  have tv : ∀ u : Vec, bTup (.lst (u.map D.int)) = .ok (vec u) := fun _ => rfl
  have d8 : divOk 8 = true := divOk_s (by decide) (by decide)
  have bl1 : ∀ ds, bLst (.lst ds) = .ok ds := fun _ => rfl
  have W1 : wipeS [.v (.rol (ns.map D.int)), .v (.lst (ts.map D.int)), .v (.int (w : Int)), .v (.lst (V.map vec)), .v (.lst (cs.map D.int)), .v (.lst (pD B)), .e, .e, .e, .e, .e, .e, .e, .e, .e] [14] = [.v (.rol (ns.map D.int)), .v (.lst (ts.map D.int)), .v (.int (w : Int)), .v (.lst (V.map vec)), .v (.lst (cs.map D.int)), .v (.lst (pD B)), .e, .e, .e, .e, .e, .e, .e, .e, .e] := rfl
  have W2 : wipeS [.v (.rol (ns.map D.int)), .v (.lst (ts.map D.int)), .v (.int (w : Int)), .v (.lst (V.map vec)), .v (.lst (cs.map D.int)), .v (.lst (pD B)), .v (vec vec0), .v (vec tot), c8, .e, .e, .e, .e, .e, .e] [14] = [.v (.rol (ns.map D.int)), .v (.lst (ts.map D.int)), .v (.int (w : Int)), .v (.lst (V.map vec)), .v (.lst (cs.map D.int)), .v (.lst (pD B)), .v (vec vec0), .v (vec tot), c8, .e, .e, .e, .e, .e, .e] := rfl
  have t1 := tv vec0
  have t2 := tv unit
  have p0 := fun c => sqL c
  generalize vec0.map D.int = V0 at *
  generalize unit.map D.int = U0 at *
  obtain ⟨c', lr⟩ := lr
  have lV2 : ∀ x y z u v q : D, ([x, y, z, u, v, q].length + (pD B).length ≤ 16777216) := fun x y z u v q => by simp; omega
  generalize V.map vec = VS at *
  generalize W.map vec = WS at *
  generalize cs.map D.int = CS at *
  generalize ts.map D.int = TS at *
  generalize ns.map D.int = NS at *
  generalize hBS : pD B = BS at *
  generalize rngD 0 w = RW at *
  generalize rngD 0 V.length = RV at *

  simp (disch := first | omega | rfl | simp) [leC, ltC, -cb_iff, -cb_nif, -List.map_map, -thaw, -oMulT, -oPow, -oIx, -bInt, -bLen, -bTup, -bLst, -gRng1, -wipeS, -dSeq, f_law, g_law, r0, r3, tl, x5, x0, bi, hw, ev, eB, sV, eW, sW, rg, W1, a3, t1, z0, bl, rv, g1, W2, u3, t2, d8, mM, mN, lr, sqL, bl1, A1, A2, A3, A4, A5, T1, T2, th_v, ov, ev']
end M_k03

set_option Elab.async false
set_option linter.all false
set_option maxRecDepth 100000
set_option maxHeartbeats 4000000
/-! The walk: each def keeps its promise; the end (printed by gen.py) -/
namespace W_k03
open PySem PySem.Spec L2 PF S_k03
def top (i : Nat) : Stmt := PySem.Challenge.pw_costsexplained_k03_reduced_bases_of_spac.main.body.getD i (.Pass ⟨0, 0, 0, 0⟩)
structure Bi (mg : Mg) : Prop where
  abs : mg "abs" = none
  all : mg "all" = none
  bool : mg "bool" = none
  enumerate : mg "enumerate" = none
  gcd : mg "gcd" = some (.builtin "math.gcd")
  int : mg "int" = none
  isinstance : mg "isinstance" = none
  len : mg "len" = none
  list : mg "list" = none
  range : mg "range" = none
  tuple : mg "tuple" = none
  zip : mg "zip" = none
structure Ez (K : Frg) (mg : Mg) : Prop where
abbrev s_content : Stmt := top 2
theorem sc_content : FnScope ["vector", "part", "entry"] ["vector"] (defScope s_content) := ⟨rfl, rfl, rfl, by decide +kernel, rfl, by decide +kernel, by decide +kernel⟩
theorem ok_content {P : Program} {w : World} {K : Frg} {mg : Mg} {base : Heap} {f : Addr} {fd : FuncData} (F : Fun K "content" "content" s_content f fd) (B : Bi mg) (Z : Ez K mg) : FnOk P w K mg base (L2.CX P w) 1 f fd ["vector"] (spF K mg 1 f_content) :=
  fn_ok F sc_content fun cdv A outer s H E hr cs => (ms_cons (ms_set 1 sc_content.nd me_int)
    (ms_cons (ms_for cs.po cs.hc (mi_seq (me_var 0 (pv 0))) (mg_name 2 sc_content.nd) (ms_one (ms_set 1 sc_content.nd (me_bf2 cr_gcd b_gcd B.gcd (mr_rd 1 (pv 1)) (mr_rd 2 (pv 2))))))
    (ms_one (ms_ret (me_var 1 (pv 1))))))
abbrev s_primitive : Stmt := top 3
theorem sc_primitive : FnScope ["vector", "part", "entry"] ["vector"] (defScope s_primitive) := ⟨rfl, rfl, rfl, by decide +kernel, rfl, by decide +kernel, by decide +kernel⟩
theorem ok_primitive {P : Program} {w : World} {K : Frg} {mg : Mg} {base : Heap} {f : Addr} {fd : FuncData} (F : Fun K "primitive" "primitive" s_primitive f fd) (B : Bi mg) (Z : Ez K mg) {a_content : Addr} {d_content : FuncData} (D_content : Df P w K mg base "content" 1 a_content d_content ["vector"] f_content) : FnOk P w K mg base (L2.CX P w) 2 f fd ["vector"] (spF K mg 1 f_primitive) :=
  fn_ok F sc_primitive fun cdv A outer s H E hr cs => (ms_cons (ms_set 1 sc_primitive.nd (me_calD D_content (hr.mono (by decide)) cs.cw (ma_cons (me_var 0 (pv 0)) ma_nil) (len_cons (fun ρ ds h => len_nil h))))
    (ms_cons (ms_if (mt_cmp op_lt o_lt (mr_rd 1 (pv 1)) (mr_of me_int) (nomark _)) (ms_one (ms_ret (me_t1 call_tuple_of b_tup B.tuple (by decide +kernel) (mr_rd 0 (pv 0))))) ms_nil)
    (ms_one (ms_ret (me_t1 call_tuple_of b_tup B.tuple (by decide +kernel) (mr_f (mf_lc (own := [("entry", 2)]) cs.hc sc_primitive.nd (mi_seq (me_var 0 (pv 0))) (blkOk_by (N := ["vector", "part", "entry"]) (sc := defScope s_primitive) (by decide +kernel)) (fun _ _ _ _ _ => (mg_name 2 sc_primitive.nd)) (fun _ _ _ _ _ => mts_nil) (fun _ _ _ _ _ => (me_op op_fdivU o_fdiv (mr_rd 2 (pv 2)) (mr_rd 1 (pv 1)))))))))))
abbrev s_pivot_of : Stmt := top 4
theorem sc_pivot_of : FnScope ["vector", "place", "entry"] ["vector"] (defScope s_pivot_of) := ⟨rfl, rfl, rfl, by decide +kernel, rfl, by decide +kernel, by decide +kernel⟩
theorem ok_pivot_of {P : Program} {w : World} {K : Frg} {mg : Mg} {base : Heap} {f : Addr} {fd : FuncData} (F : Fun K "pivot_of" "pivot_of" s_pivot_of f fd) (B : Bi mg) (Z : Ez K mg) : FnOk P w K mg base (L2.CX P w) 1 f fd ["vector"] (spF K mg 1 f_pivot_of) :=
  fn_ok F sc_pivot_of fun cdv A outer s H E hr cs => (ms_cons (ms_for cs.po cs.hc (mi_enum rfl B.enumerate (ma_cons (me_var 0 (pv 0)) ma_nil)) (mg_tup cs.hc (mgs_cons (mg_name 1 sc_pivot_of.nd) (mgs_cons (mg_name 2 sc_pivot_of.nd) mgs_nil))) (ms_one (ms_if (mt_cmp (op_neD hr.units) o_ne (mr_rd 2 (pv 2)) (mr_of me_int) (nomark _)) (ms_one (ms_ret (me_var 1 (pv 1)))) ms_nil)))
    (ms_one (ms_ret me_non)))
abbrev s_clear : Stmt := top 5
theorem sc_clear : FnScope ["vector", "top", "place", "lead", "factor", "a", "b"] ["vector", "top", "place"] (defScope s_clear) := ⟨rfl, rfl, rfl, by decide +kernel, rfl, by decide +kernel, by decide +kernel⟩
theorem ok_clear {P : Program} {w : World} {K : Frg} {mg : Mg} {base : Heap} {f : Addr} {fd : FuncData} (F : Fun K "clear" "clear" s_clear f fd) (B : Bi mg) (Z : Ez K mg) {a_primitive : Addr} {d_primitive : FuncData} (D_primitive : Df P w K mg base "primitive" 2 a_primitive d_primitive ["vector"] f_primitive) : FnOk P w K mg base (L2.CX P w) 3 f fd ["vector", "top", "place"] (spF K mg 3 f_clear) :=
  fn_ok F sc_clear fun cdv A outer s H E hr cs => (ms_cons (ms_set 3 sc_clear.nd (me_ix ix_seq o_ix (mr_rd 1 (pv 1)) (mr_rd 2 (pv 2)) (fun _ _ => rfl)))
    (ms_cons (ms_set 4 sc_clear.nd (me_ix ix_seq o_ix (mr_rd 0 (pv 0)) (mr_rd 2 (pv 2)) (fun _ _ => rfl)))
    (ms_one (ms_ret (me_calD D_primitive (hr.mono (by decide)) cs.cw (ma_cons (me_of (mf_lc (own := [("a", 5), ("b", 6)]) cs.hc sc_clear.nd (mi_zip rfl B.zip (ma_cons (me_var 0 (pv 0)) (ma_cons (me_var 1 (pv 1)) ma_nil))) (blkOk_by (N := ["vector", "top", "place", "lead", "factor", "a", "b"]) (sc := defScope s_clear) (by decide +kernel)) (fun _ _ _ _ _ => (mg_tup cs.hc (mgs_cons (mg_name 5 sc_clear.nd) (mgs_cons (mg_name 6 sc_clear.nd) mgs_nil)))) (fun _ _ _ _ _ => mts_nil) (fun _ _ _ _ _ => (me_op op_sub o_sub (mr_of (me_op op_mulU o_mul (mr_rd 3 (pv 3)) (mr_rd 5 (pv 5)))) (mr_of (me_op op_mulU o_mul (mr_rd 4 (pv 4)) (mr_rd 6 (pv 6)))))))) ma_nil) (len_cons (fun ρ ds h => len_nil h)))))))
abbrev s_echelon : Stmt := top 6
theorem sc_echelon : FnScope ["vectors", "width", "basis", "left", "place", "found", "top", "vector", "k", "entry"] ["vectors", "width"] (defScope s_echelon) := ⟨rfl, rfl, rfl, by decide +kernel, rfl, by decide +kernel, by decide +kernel⟩
theorem ok_echelon {P : Program} {w : World} {K : Frg} {mg : Mg} {base : Heap} {f : Addr} {fd : FuncData} (F : Fun K "echelon" "echelon" s_echelon f fd) (B : Bi mg) (Z : Ez K mg) {a_primitive : Addr} {d_primitive : FuncData} (D_primitive : Df P w K mg base "primitive" 2 a_primitive d_primitive ["vector"] f_primitive) {a_clear : Addr} {d_clear : FuncData} (D_clear : Df P w K mg base "clear" 3 a_clear d_clear ["vector", "top", "place"] f_clear) : FnOk P w K mg base (L2.CX P w) 4 f fd ["vectors", "width"] (spF K mg 2 f_echelon) :=
  fn_ok F sc_echelon fun cdv A outer s H E hr cs => (ms_cons (ms_setO 2 sc_echelon.nd (mf_lst ma_nil))
    (ms_cons (ms_setLcO 3 (own := [("vector", 7)]) cs.hc sc_echelon.nd (sw_true rfl rfl rfl (by decide +kernel)) (mi_seq (me_var 0 (pv 0))) (blkOk_by (N := ["vectors", "width", "basis", "left", "place", "found", "top", "vector", "k", "entry"]) (sc := defScope s_echelon) (by decide +kernel)) (fun _ _ _ _ _ => (mg_name 7 sc_echelon.nd)) (fun _ _ _ _ _ => mts_nil) (fun _ _ _ _ _ => (me_calD D_primitive (hr.mono (by decide)) cw0 (ma_cons (me_var 7 (pv 7)) ma_nil) (len_cons (fun ρ ds h => len_nil h)))))
    (ms_cons (ms_for cs.po cs.hc (mi_rng1 rfl B.range (ma_cons (me_var 1 (pv 1)) ma_nil)) (mg_name 4 sc_echelon.nd) (ms_cons (ms_setLcL 3 5 (own := [("k", 8), ("vector", 7)]) cs.hc sc_echelon.nd (sw_true rfl rfl rfl (by decide +kernel)) (mi_enum rfl B.enumerate (ma_cons (me_var 3 (pv 3)) ma_nil)) (blkOk_by (N := ["vectors", "width", "basis", "left", "place", "found", "top", "vector", "k", "entry"]) (sc := defScope s_echelon) (by decide +kernel)) (fun _ _ _ _ _ => (mg_tup cs.hc (mgs_cons (mg_name 8 sc_echelon.nd) (mgs_cons (mg_name 7 sc_echelon.nd) mgs_nil)))) (fun _ _ _ _ _ => (mts_one (mt_cmp (op_neD hr.units) o_ne (mr_of (me_ix ix_seq o_ix (mr_rd 7 (pv 7)) (mr_rd 4 (pv 4)) (fun _ _ => rfl))) (mr_of me_int) (nomark _)))) (fun _ _ _ _ _ => (me_var 8 (pv 8))))
    (ms_one (ms_if (mt_tru (mr_rd 5 (pv 5))) (ms_cons (ms_popAt 6 3 sc_echelon.nd (pv 3) (me_ix ix_seq o_ix (mr_rd 5 (pv 5)) (mr_of me_int) (fun _ _ => rfl)))
    (ms_cons (ms_if (mt_cmp op_lt o_lt (mr_of (me_ix ix_seq o_ix (mr_rd 6 (pv 6)) (mr_rd 4 (pv 4)) (fun _ _ => rfl))) (mr_of me_int) (nomark _)) (ms_one (ms_set 6 sc_echelon.nd (me_t1 call_tuple_of b_tup B.tuple (by decide +kernel) (mr_f (mf_lc (own := [("entry", 9)]) cs.hc sc_echelon.nd (mi_seq (me_var 6 (pv 6))) (blkOk_by (N := ["vectors", "width", "basis", "left", "place", "found", "top", "vector", "k", "entry"]) (sc := defScope s_echelon) (by decide +kernel)) (fun _ _ _ _ _ => (mg_name 9 sc_echelon.nd)) (fun _ _ _ _ _ => mts_nil) (fun _ _ _ _ _ => (me_un un_neg o_neg (mr_rd 9 (pv 9))))))))) ms_nil)
    (ms_frz 3 (ms_cons (ms_setLcO 3 (own := [("vector", 7)]) cs.hc sc_echelon.nd (sw_true rfl rfl rfl (by decide +kernel)) (mi_seq (me_var 3 (pv 3))) (blkOk_by (N := ["vectors", "width", "basis", "left", "place", "found", "top", "vector", "k", "entry"]) (sc := defScope s_echelon) (by decide +kernel)) (fun _ _ _ _ _ => (mg_name 7 sc_echelon.nd)) (fun _ _ _ _ _ => mts_nil) (fun _ _ _ _ _ => (me_calD D_clear (hr.mono (by decide)) cw0 (ma_cons (me_var 7 (pv 7)) (ma_cons (me_var 6 (pv 6)) (ma_cons (me_var 4 (pv 4)) ma_nil))) (len_cons (len_cons (len_cons (fun ρ ds h => len_nil h)))))))
    (ms_frz 2 (ms_one (ms_setO 2 sc_echelon.nd (mf_op op_cat f_cat (mr_f (mf_lc (own := [("vector", 7)]) cs.hc sc_echelon.nd (mi_seq (me_var 2 (pv 2))) (blkOk_by (N := ["vectors", "width", "basis", "left", "place", "found", "top", "vector", "k", "entry"]) (sc := defScope s_echelon) (by decide +kernel)) (fun _ _ _ _ _ => (mg_name 7 sc_echelon.nd)) (fun _ _ _ _ _ => mts_nil) (fun _ _ _ _ _ => (me_calD D_clear (hr.mono (by decide)) cw0 (ma_cons (me_var 7 (pv 7)) (ma_cons (me_var 6 (pv 6)) (ma_cons (me_var 4 (pv 4)) ma_nil))) (len_cons (len_cons (len_cons (fun ρ ds h => len_nil h)))))))) (mr_f (mf_lst (ma_cons (me_var 6 (pv 6)) ma_nil))))))))))) ms_nil))))
    (ms_one (ms_retO 2 (pv 2))))))
abbrev s_reduce_by : Stmt := top 7
theorem sc_reduce_by : FnScope ["vector", "basis", "top"] ["vector", "basis"] (defScope s_reduce_by) := ⟨rfl, rfl, rfl, by decide +kernel, rfl, by decide +kernel, by decide +kernel⟩
theorem ok_reduce_by {P : Program} {w : World} {K : Frg} {mg : Mg} {base : Heap} {f : Addr} {fd : FuncData} (F : Fun K "reduce_by" "reduce_by" s_reduce_by f fd) (B : Bi mg) (Z : Ez K mg) {a_pivot_of : Addr} {d_pivot_of : FuncData} (D_pivot_of : Df P w K mg base "pivot_of" 1 a_pivot_of d_pivot_of ["vector"] f_pivot_of) {a_clear : Addr} {d_clear : FuncData} (D_clear : Df P w K mg base "clear" 3 a_clear d_clear ["vector", "top", "place"] f_clear) {a_primitive : Addr} {d_primitive : FuncData} (D_primitive : Df P w K mg base "primitive" 2 a_primitive d_primitive ["vector"] f_primitive) : FnOk P w K mg base (L2.CX P w) 4 f fd ["vector", "basis"] (spF K mg 2 f_reduce_by) :=
  fn_ok F sc_reduce_by fun cdv A outer s H E hr cs => (ms_cons (ms_for cs.po cs.hc (mi_seq (me_var 1 (pv 1))) (mg_name 2 sc_reduce_by.nd) (ms_one (ms_set 0 sc_reduce_by.nd (me_calD D_clear (hr.mono (by decide)) cs.cw (ma_cons (me_var 0 (pv 0)) (ma_cons (me_var 2 (pv 2)) (ma_cons (me_calD D_pivot_of (hr.mono (by decide)) cs.cw (ma_cons (me_var 2 (pv 2)) ma_nil) (len_cons (fun ρ ds h => len_nil h))) ma_nil))) (len_cons (len_cons (len_cons (fun ρ ds h => len_nil h))))))))
    (ms_one (ms_ret (me_calD D_primitive (hr.mono (by decide)) cs.cw (ma_cons (me_var 0 (pv 0)) ma_nil) (len_cons (fun ρ ds h => len_nil h))))))
abbrev s_ulaw_mix : Stmt := top 9
theorem sc_ulaw_mix : FnScope ["cell", "k", "first", "second"] ["cell", "k"] (defScope s_ulaw_mix) := ⟨rfl, rfl, rfl, by decide +kernel, rfl, by decide +kernel, by decide +kernel⟩
theorem ok_ulaw_mix {P : Program} {w : World} {K : Frg} {mg : Mg} {base : Heap} {f : Addr} {fd : FuncData} (F : Fun K "_law_mix" "_law_mix" s_ulaw_mix f fd) (B : Bi mg) (Z : Ez K mg) : FnOk P w K mg base (L2.CX P w) 1 f fd ["cell", "k"] (spF K mg 2 f_ulaw_mix) :=
  fn_ok F sc_ulaw_mix fun cdv A outer s H E hr cs => (ms_cons (ms_set 2 sc_ulaw_mix.nd (me_op op_modN o_mod (mr_of (me_t1 call_int1 b_int B.int (by decide +kernel) (mr_of (me_op op_addU o_add (mr_of (me_op op_addU o_add (mr_of (me_op op_mulU o_mul (mr_rd 0 (pv 0)) (mr_of me_int))) (mr_of (me_op op_mulU o_mul (mr_rd 1 (pv 1)) (mr_of me_int))))) (mr_of me_int))))) (mr_of me_int)))
    (ms_cons (ms_set 3 sc_ulaw_mix.nd (me_op op_modN o_mod (mr_of (me_t1 call_int1 b_int B.int (by decide +kernel) (mr_of (me_op op_addU o_add (mr_of (me_op op_addU o_add (mr_of (me_op op_mulU o_mul (mr_rd 2 (pv 2)) (mr_rd 2 (pv 2)))) (mr_of (me_op op_mulU o_mul (mr_rd 1 (pv 1)) (mr_of me_int))))) (mr_of me_int))))) (mr_of me_int)))
    (ms_one (ms_ret (me_op op_fdivU o_fdiv (mr_of (me_op op_modN o_mod (mr_of (me_t1 call_int1 b_int B.int (by decide +kernel) (mr_of (me_op op_addU o_add (mr_of (me_op op_mulU o_mul (mr_rd 3 (pv 3)) (mr_of me_int))) (mr_rd 2 (pv 2)))))) (mr_of me_int))) (mr_of me_int))))))
abbrev s_ulaw_row : Stmt := top 10
theorem sc_ulaw_row : FnScope ["script", "at", "many", "cell", "row", "rest", "k"] ["script", "at", "many"] (defScope s_ulaw_row) := ⟨rfl, rfl, rfl, by decide +kernel, rfl, by decide +kernel, by decide +kernel⟩
theorem ok_ulaw_row {P : Program} {w : World} {K : Frg} {mg : Mg} {base : Heap} {f : Addr} {fd : FuncData} (F : Fun K "_law_row" "_law_row" s_ulaw_row f fd) (B : Bi mg) (Z : Ez K mg) {a_ulaw_mix : Addr} {d_ulaw_mix : FuncData} (D_ulaw_mix : Df P w K mg base "_law_mix" 1 a_ulaw_mix d_ulaw_mix ["cell", "k"] f_ulaw_mix) : FnOk P w K mg base (L2.CX P w) 2 f fd ["script", "at", "many"] (spF K mg 3 f_ulaw_row) :=
  fn_ok F sc_ulaw_row fun cdv A outer s H E hr cs => (ms_cons (ms_set 3 sc_ulaw_row.nd (me_var 1 (pv 1)))
    (ms_cons (ms_if (mt_cmp op_lt o_lt (mr_rd 1 (pv 1)) (mr_of (me_b1 call_len b_len B.len (by decide +kernel) (mr_rd 0 (pv 0)))) (nomark _)) (ms_one (ms_set 3 sc_ulaw_row.nd (me_ix ix_seq o_ix (mr_rd 0 (pv 0)) (mr_rd 1 (pv 1)) (fun _ _ => rfl)))) (ms_one (ms_if (mt_cmp op_gt o_gt (mr_of (me_b1 call_len b_len B.len (by decide +kernel) (mr_rd 0 (pv 0)))) (mr_of me_int) (nomark _)) (ms_one (ms_set 3 sc_ulaw_row.nd (me_op op_addU o_add (mr_of (me_ix ix_seq o_ix (mr_rd 0 (pv 0)) (mr_of (me_op op_modN o_mod (mr_rd 1 (pv 1)) (mr_of (me_b1 call_len b_len B.len (by decide +kernel) (mr_rd 0 (pv 0)))))) (fun _ _ => rfl))) (mr_of (me_op op_mulU o_mul (mr_of me_int) (mr_rd 1 (pv 1))))))) ms_nil)))
    (ms_cons (ms_setO 4 sc_ulaw_row.nd (mf_lst ma_nil))
    (ms_cons (ms_set 5 sc_ulaw_row.nd (me_b1 call_abs b_abs B.abs (by decide +kernel) (mr_rd 3 (pv 3))))
    (ms_cons (ms_for cs.po cs.hc (mi_rng1 rfl B.range (ma_cons (me_var 2 (pv 2)) ma_nil)) (mg_name 6 sc_ulaw_row.nd) (ms_one (ms_if (PW.pt (mw_and (mt_cmp op_ge o_ge (mr_of (me_b1 call_abs b_abs B.abs (by decide +kernel) (mr_rd 3 (pv 3)))) (mr_of me_int) (nomark _)) (mw_and1 (mt_cmp op_gt o_gt (mr_rd 5 (pv 5)) (mr_of me_int) (nomark _))))) (ms_cons (ms_app 4 (pv 4) (me_op op_modN o_mod (mr_of (me_t1 call_int1 b_int B.int (by decide +kernel) (mr_rd 5 (pv 5)))) (mr_of me_int)))
    (ms_one (ms_set 5 sc_ulaw_row.nd (me_op op_fdivU o_fdiv (mr_rd 5 (pv 5)) (mr_of me_int))))) (ms_one (ms_app 4 (pv 4) (me_calD D_ulaw_mix (hr.mono (by decide)) cs.cw (ma_cons (me_var 3 (pv 3)) (ma_cons (me_var 6 (pv 6)) ma_nil)) (len_cons (len_cons (fun ρ ds h => len_nil h)))))))))
    (ms_one (ms_retO 4 (pv 4))))))))
abbrev s_ulaw_is_whole : Stmt := top 11
theorem sc_ulaw_is_whole : FnScope ["value"] ["value"] (defScope s_ulaw_is_whole) := ⟨rfl, rfl, rfl, by decide +kernel, rfl, by decide +kernel, by decide +kernel⟩
theorem ok_ulaw_is_whole {P : Program} {w : World} {K : Frg} {mg : Mg} {base : Heap} {f : Addr} {fd : FuncData} (F : Fun K "_law_is_whole" "_law_is_whole" s_ulaw_is_whole f fd) (B : Bi mg) (Z : Ez K mg) : FnOk P w K mg base (L2.CX P w) 1 f fd ["value"] (spF K mg 1 f_ulaw_is_whole) :=
  fn_ok F sc_ulaw_is_whole fun cdv A outer s H E hr cs => (ms_one (ms_ret (me_and (me_isi (mr_rd 0 (pv 0)) (by decide +kernel) B.isinstance B.int) (pe_one (me_not (me_isi (mr_rd 0 (pv 0)) (by decide +kernel) B.isinstance B.bool))))))
abbrev s_ulaw_is_tuple : Stmt := top 12
theorem sc_ulaw_is_tuple : FnScope ["value", "size", "num"] ["value", "size"] (defScope s_ulaw_is_tuple) := ⟨rfl, rfl, rfl, by decide +kernel, rfl, by decide +kernel, by decide +kernel⟩
theorem ok_ulaw_is_tuple {P : Program} {w : World} {K : Frg} {mg : Mg} {base : Heap} {f : Addr} {fd : FuncData} (F : Fun K "_law_is_tuple" "_law_is_tuple" s_ulaw_is_tuple f fd) (B : Bi mg) (Z : Ez K mg) {a_ulaw_is_whole : Addr} {d_ulaw_is_whole : FuncData} (D_ulaw_is_whole : Df P w K mg base "_law_is_whole" 1 a_ulaw_is_whole d_ulaw_is_whole ["value"] f_ulaw_is_whole) : FnOk P w K mg base (L2.CX P w) 2 f fd ["value", "size"] (spF K mg 2 f_ulaw_is_tuple) :=
  fn_ok F sc_ulaw_is_tuple fun cdv A outer s H E hr cs => (ms_one (ms_ret (me_and (me_isi (mr_rd 0 (pv 0)) (by decide +kernel) B.isinstance B.tuple) (me_and (me_cmp (op_eqD hr.units) o_eq (mr_of (me_b1 call_len b_len B.len (by decide +kernel) (mr_rd 0 (pv 0)))) (mr_rd 1 (pv 1)) (nomark _)) (pe_one (me_b1 (cr_all cs.hc) b_all B.all (by decide +kernel) (mr_f (mf_lc (own := [("num", 2)]) cs.hc sc_ulaw_is_tuple.nd (mi_seq (me_var 0 (pv 0))) (blkOk_by (N := ["value", "size", "num"]) (sc := defScope s_ulaw_is_tuple) (by decide +kernel)) (fun _ _ _ _ _ => (mg_name 2 sc_ulaw_is_tuple.nd)) (fun _ _ _ _ _ => mts_nil) (fun _ _ _ _ _ => (me_calD D_ulaw_is_whole (hr.mono (by decide)) cw0 (ma_cons (me_var 2 (pv 2)) ma_nil) (len_cons (fun ρ ds h => len_nil h))))))))))))
abbrev s_ulaw_common : Stmt := top 13
theorem sc_ulaw_common : FnScope ["left", "right", "step"] ["left", "right"] (defScope s_ulaw_common) := ⟨rfl, rfl, rfl, by decide +kernel, rfl, by decide +kernel, by decide +kernel⟩
theorem ok_ulaw_common {P : Program} {w : World} {K : Frg} {mg : Mg} {base : Heap} {f : Addr} {fd : FuncData} (F : Fun K "_law_common" "_law_common" s_ulaw_common f fd) (B : Bi mg) (Z : Ez K mg) : FnOk P w K mg base (L2.CX P w) 1 f fd ["left", "right"] (spF K mg 2 f_ulaw_common) :=
  fn_ok F sc_ulaw_common fun cdv A outer s H E hr cs => (ms_cons (ms_par 0 1 cs.hc sc_ulaw_common.nd (me_b1 call_abs b_abs B.abs (by decide +kernel) (mr_rd 0 (pv 0))) (me_b1 call_abs b_abs B.abs (by decide +kernel) (mr_rd 1 (pv 1))))
    (ms_cons (ms_for cs.po cs.hc (mi_rng1 rfl B.range (ma_cons (me_op op_addU o_add (mr_of (me_op op_mulU o_mul (mr_of me_int) (mr_of (me_bits (mr_rd 1 (pv 1)))))) (mr_of me_int)) ma_nil)) (mg_name 2 sc_ulaw_common.nd) (ms_cons (ms_if (mt_cmp (op_eqD hr.units) o_eq (mr_rd 1 (pv 1)) (mr_of me_int) (nomark _)) (ms_one (ms_ret (me_var 0 (pv 0)))) ms_nil)
    (ms_one (ms_par 0 1 cs.hc sc_ulaw_common.nd (me_var 1 (pv 1)) (me_op op_modN o_mod (mr_of (me_t1 call_int1 b_int B.int (by decide +kernel) (mr_rd 0 (pv 0)))) (mr_rd 1 (pv 1)))))))
    (ms_one (ms_ret (me_var 0 (pv 0))))))
abbrev s_ulaw_primitive : Stmt := top 14
theorem sc_ulaw_primitive : FnScope ["vector", "part", "num"] ["vector"] (defScope s_ulaw_primitive) := ⟨rfl, rfl, rfl, by decide +kernel, rfl, by decide +kernel, by decide +kernel⟩
theorem ok_ulaw_primitive {P : Program} {w : World} {K : Frg} {mg : Mg} {base : Heap} {f : Addr} {fd : FuncData} (F : Fun K "_law_primitive" "_law_primitive" s_ulaw_primitive f fd) (B : Bi mg) (Z : Ez K mg) {a_ulaw_common : Addr} {d_ulaw_common : FuncData} (D_ulaw_common : Df P w K mg base "_law_common" 1 a_ulaw_common d_ulaw_common ["left", "right"] f_ulaw_common) : FnOk P w K mg base (L2.CX P w) 2 f fd ["vector"] (spF K mg 1 f_ulaw_primitive) :=
  fn_ok F sc_ulaw_primitive fun cdv A outer s H E hr cs => (ms_cons (ms_set 1 sc_ulaw_primitive.nd me_int)
    (ms_cons (ms_for cs.po cs.hc (mi_seq (me_var 0 (pv 0))) (mg_name 2 sc_ulaw_primitive.nd) (ms_one (ms_set 1 sc_ulaw_primitive.nd (me_calD D_ulaw_common (hr.mono (by decide)) cs.cw (ma_cons (me_var 1 (pv 1)) (ma_cons (me_var 2 (pv 2)) ma_nil)) (len_cons (len_cons (fun ρ ds h => len_nil h)))))))
    (ms_cons (ms_if (mt_cmp op_lt o_lt (mr_rd 1 (pv 1)) (mr_of me_int) (nomark _)) (ms_one (ms_ret (me_t1 call_tuple_of b_tup B.tuple (by decide +kernel) (mr_rd 0 (pv 0))))) ms_nil)
    (ms_one (ms_ret (me_t1 call_tuple_of b_tup B.tuple (by decide +kernel) (mr_f (mf_lc (own := [("num", 2)]) cs.hc sc_ulaw_primitive.nd (mi_seq (me_var 0 (pv 0))) (blkOk_by (N := ["vector", "part", "num"]) (sc := defScope s_ulaw_primitive) (by decide +kernel)) (fun _ _ _ _ _ => (mg_name 2 sc_ulaw_primitive.nd)) (fun _ _ _ _ _ => mts_nil) (fun _ _ _ _ _ => (me_op op_fdivU o_fdiv (mr_rd 2 (pv 2)) (mr_rd 1 (pv 1))))))))))))
abbrev s_ulaw_number : Stmt := top 15
theorem sc_ulaw_number : FnScope ["cells", "limit", "sparse", "total", "cell"] ["cells", "limit", "sparse"] (defScope s_ulaw_number) := ⟨rfl, rfl, rfl, by decide +kernel, rfl, by decide +kernel, by decide +kernel⟩
theorem ok_ulaw_number {P : Program} {w : World} {K : Frg} {mg : Mg} {base : Heap} {f : Addr} {fd : FuncData} (F : Fun K "_law_number" "_law_number" s_ulaw_number f fd) (B : Bi mg) (Z : Ez K mg) : FnOk P w K mg base (L2.CX P w) 1 f fd ["cells", "limit", "sparse"] (spF K mg 3 f_ulaw_number) :=
  fn_ok F sc_ulaw_number fun cdv A outer s H E hr cs => (ms_cons (ms_set 3 sc_ulaw_number.nd me_int)
    (ms_cons (ms_for cs.po cs.hc (mi_seq (me_sl (mr_rd 0 (pv 0)) (mp_some me_int) mp_none)) (mg_name 4 sc_ulaw_number.nd) (ms_one (ms_set 3 sc_ulaw_number.nd (me_op op_addU o_add (mr_of (me_op op_mulU o_mul (mr_rd 3 (pv 3)) (mr_of me_int))) (mr_of (me_op op_modN o_mod (mr_of (me_t1 call_int1 b_int B.int (by decide +kernel) (mr_rd 4 (pv 4)))) (mr_of me_int)))))))
    (ms_cons (ms_if (PW.pt (mw_and (mt_tru (mr_rd 2 (pv 2))) (mw_and1 (mt_cmp op_lt o_lt (mr_of (me_op op_modN o_mod (mr_of (me_op op_fdivU o_fdiv (mr_of (me_t1 call_int1 b_int B.int (by decide +kernel) (mr_of (me_ix ix_seq o_ix (mr_rd 0 (pv 0)) (mr_of me_int) (fun _ _ => rfl))))) (mr_of me_int))) (mr_of me_int))) (mr_of me_int) (nomark _))))) (ms_one (ms_ret me_int)) ms_nil)
    (ms_one (ms_ret (me_op op_mulU o_mul (mr_of (me_op op_modN o_mod (mr_of (me_t1 call_int1 b_int B.int (by decide +kernel) (mr_rd 3 (pv 3)))) (mr_rd 1 (pv 1)))) (mr_of (me_op op_sub o_sub (mr_of me_int) (mr_of (me_op op_mulU o_mul (mr_of me_int) (mr_of (me_op op_modN o_mod (mr_of (me_t1 call_int1 b_int B.int (by decide +kernel) (mr_of (me_ix ix_seq o_ix (mr_rd 0 (pv 0)) (mr_of me_int) (fun _ _ => rfl))))) (mr_of me_int)))))))))))))
abbrev s_ulaw_mixed : Stmt := top 16
theorem sc_ulaw_mixed : FnScope ["first", "left", "second", "right", "k"] ["first", "left", "second", "right"] (defScope s_ulaw_mixed) := ⟨rfl, rfl, rfl, by decide +kernel, rfl, by decide +kernel, by decide +kernel⟩
theorem ok_ulaw_mixed {P : Program} {w : World} {K : Frg} {mg : Mg} {base : Heap} {f : Addr} {fd : FuncData} (F : Fun K "_law_mixed" "_law_mixed" s_ulaw_mixed f fd) (B : Bi mg) (Z : Ez K mg) : FnOk P w K mg base (L2.CX P w) 1 f fd ["first", "left", "second", "right"] (spF K mg 4 f_ulaw_mixed) :=
  fn_ok F sc_ulaw_mixed fun cdv A outer s H E hr cs => (ms_one (ms_ret (me_t1 call_tuple_of b_tup B.tuple (by decide +kernel) (mr_f (mf_lc (own := [("k", 4)]) cs.hc sc_ulaw_mixed.nd (mi_rng1 rfl B.range (ma_cons (me_b1 call_len b_len B.len (by decide +kernel) (mr_rd 0 (pv 0))) ma_nil)) (blkOk_by (N := ["first", "left", "second", "right", "k"]) (sc := defScope s_ulaw_mixed) (by decide +kernel)) (fun _ _ _ _ _ => (mg_name 4 sc_ulaw_mixed.nd)) (fun _ _ _ _ _ => mts_nil) (fun _ _ _ _ _ => (me_op op_addU o_add (mr_of (me_op op_mulU o_mul (mr_rd 1 (pv 1)) (mr_of (me_ix ix_seq o_ix (mr_rd 0 (pv 0)) (mr_rd 4 (pv 4)) (fun _ _ => rfl))))) (mr_of (me_op op_mulU o_mul (mr_rd 3 (pv 3)) (mr_of (me_ix ix_seq o_ix (mr_rd 2 (pv 2)) (mr_rd 4 (pv 4)) (fun _ _ => rfl))))))))))))
abbrev s_ulaw_clear : Stmt := top 17
theorem sc_ulaw_clear : FnScope ["vector", "top", "place", "k"] ["vector", "top", "place"] (defScope s_ulaw_clear) := ⟨rfl, rfl, rfl, by decide +kernel, rfl, by decide +kernel, by decide +kernel⟩
theorem ok_ulaw_clear {P : Program} {w : World} {K : Frg} {mg : Mg} {base : Heap} {f : Addr} {fd : FuncData} (F : Fun K "_law_clear" "_law_clear" s_ulaw_clear f fd) (B : Bi mg) (Z : Ez K mg) {a_ulaw_primitive : Addr} {d_ulaw_primitive : FuncData} (D_ulaw_primitive : Df P w K mg base "_law_primitive" 2 a_ulaw_primitive d_ulaw_primitive ["vector"] f_ulaw_primitive) : FnOk P w K mg base (L2.CX P w) 3 f fd ["vector", "top", "place"] (spF K mg 3 f_ulaw_clear) :=
  fn_ok F sc_ulaw_clear fun cdv A outer s H E hr cs => (ms_one (ms_ret (me_calD D_ulaw_primitive (hr.mono (by decide)) cs.cw (ma_cons (me_of (mf_lc (own := [("k", 3)]) cs.hc sc_ulaw_clear.nd (mi_rng1 rfl B.range (ma_cons (me_b1 call_len b_len B.len (by decide +kernel) (mr_rd 1 (pv 1))) ma_nil)) (blkOk_by (N := ["vector", "top", "place", "k"]) (sc := defScope s_ulaw_clear) (by decide +kernel)) (fun _ _ _ _ _ => (mg_name 3 sc_ulaw_clear.nd)) (fun _ _ _ _ _ => mts_nil) (fun _ _ _ _ _ => (me_op op_sub o_sub (mr_of (me_op op_mulU o_mul (mr_of (me_ix ix_seq o_ix (mr_rd 1 (pv 1)) (mr_rd 2 (pv 2)) (fun _ _ => rfl))) (mr_of (me_ix ix_seq o_ix (mr_rd 0 (pv 0)) (mr_rd 3 (pv 3)) (fun _ _ => rfl))))) (mr_of (me_op op_mulU o_mul (mr_of (me_ix ix_seq o_ix (mr_rd 0 (pv 0)) (mr_rd 2 (pv 2)) (fun _ _ => rfl))) (mr_of (me_ix ix_seq o_ix (mr_rd 1 (pv 1)) (mr_rd 3 (pv 3)) (fun _ _ => rfl))))))))) ma_nil) (len_cons (fun ρ ds h => len_nil h)))))
abbrev s_ulaw_reduced : Stmt := top 18
theorem sc_ulaw_reduced : FnScope ["vectors", "width", "basis", "left", "place", "tops", "top", "vector", "num"] ["vectors", "width"] (defScope s_ulaw_reduced) := ⟨rfl, rfl, rfl, by decide +kernel, rfl, by decide +kernel, by decide +kernel⟩
theorem ok_ulaw_reduced {P : Program} {w : World} {K : Frg} {mg : Mg} {base : Heap} {f : Addr} {fd : FuncData} (F : Fun K "_law_reduced" "_law_reduced" s_ulaw_reduced f fd) (B : Bi mg) (Z : Ez K mg) {a_ulaw_primitive : Addr} {d_ulaw_primitive : FuncData} (D_ulaw_primitive : Df P w K mg base "_law_primitive" 2 a_ulaw_primitive d_ulaw_primitive ["vector"] f_ulaw_primitive) {a_ulaw_clear : Addr} {d_ulaw_clear : FuncData} (D_ulaw_clear : Df P w K mg base "_law_clear" 3 a_ulaw_clear d_ulaw_clear ["vector", "top", "place"] f_ulaw_clear) : FnOk P w K mg base (L2.CX P w) 4 f fd ["vectors", "width"] (spF K mg 2 f_ulaw_reduced) :=
  fn_ok F sc_ulaw_reduced fun cdv A outer s H E hr cs => (ms_cons (ms_setO 2 sc_ulaw_reduced.nd (mf_lst ma_nil))
    (ms_cons (ms_setLcV 3 (own := [("vector", 7)]) cs.hc sc_ulaw_reduced.nd (sw_true rfl rfl rfl (by decide +kernel)) (mi_seq (me_var 0 (pv 0))) (blkOk_by (N := ["vectors", "width", "basis", "left", "place", "tops", "top", "vector", "num"]) (sc := defScope s_ulaw_reduced) (by decide +kernel)) (fun _ _ _ _ _ => (mg_name 7 sc_ulaw_reduced.nd)) (fun _ _ _ _ _ => mts_nil) (fun _ _ _ _ _ => (me_calD D_ulaw_primitive (hr.mono (by decide)) cw0 (ma_cons (me_var 7 (pv 7)) ma_nil) (len_cons (fun ρ ds h => len_nil h)))))
    (ms_cons (ms_for cs.po cs.hc (mi_rng1 rfl B.range (ma_cons (me_var 1 (pv 1)) ma_nil)) (mg_name 4 sc_ulaw_reduced.nd) (ms_cons (ms_setLcV 5 (own := [("vector", 7)]) cs.hc sc_ulaw_reduced.nd (sw_true rfl rfl rfl (by decide +kernel)) (mi_seq (me_var 3 (pv 3))) (blkOk_by (N := ["vectors", "width", "basis", "left", "place", "tops", "top", "vector", "num"]) (sc := defScope s_ulaw_reduced) (by decide +kernel)) (fun _ _ _ _ _ => (mg_name 7 sc_ulaw_reduced.nd)) (fun _ _ _ _ _ => (mts_one (mt_cmp (op_neD hr.units) o_ne (mr_of (me_ix ix_seq o_ix (mr_rd 7 (pv 7)) (mr_rd 4 (pv 4)) (fun _ _ => rfl))) (mr_of me_int) (nomark _)))) (fun _ _ _ _ _ => (me_var 7 (pv 7))))
    (ms_one (ms_if (mt_cmp op_gt o_gt (mr_of (me_b1 call_len b_len B.len (by decide +kernel) (mr_rd 5 (pv 5)))) (mr_of me_int) (nomark _)) (ms_cons (ms_set 6 sc_ulaw_reduced.nd (me_ix ix_seq o_ix (mr_rd 5 (pv 5)) (mr_of me_int) (fun _ _ => rfl)))
    (ms_cons (ms_if (mt_cmp op_lt o_lt (mr_of (me_ix ix_seq o_ix (mr_rd 6 (pv 6)) (mr_rd 4 (pv 4)) (fun _ _ => rfl))) (mr_of me_int) (nomark _)) (ms_one (ms_set 6 sc_ulaw_reduced.nd (me_t1 call_tuple_of b_tup B.tuple (by decide +kernel) (mr_f (mf_lc (own := [("num", 8)]) cs.hc sc_ulaw_reduced.nd (mi_seq (me_var 6 (pv 6))) (blkOk_by (N := ["vectors", "width", "basis", "left", "place", "tops", "top", "vector", "num"]) (sc := defScope s_ulaw_reduced) (by decide +kernel)) (fun _ _ _ _ _ => (mg_name 8 sc_ulaw_reduced.nd)) (fun _ _ _ _ _ => mts_nil) (fun _ _ _ _ _ => (me_un un_neg o_neg (mr_rd 8 (pv 8))))))))) ms_nil)
    (ms_cons (ms_setLcV 3 (own := [("vector", 7)]) cs.hc sc_ulaw_reduced.nd (sw_true rfl rfl rfl (by decide +kernel)) (mi_seq (me_var 3 (pv 3))) (blkOk_by (N := ["vectors", "width", "basis", "left", "place", "tops", "top", "vector", "num"]) (sc := defScope s_ulaw_reduced) (by decide +kernel)) (fun _ _ _ _ _ => (mg_name 7 sc_ulaw_reduced.nd)) (fun _ _ _ _ _ => mts_nil) (fun _ _ _ _ _ => (me_calD D_ulaw_clear (hr.mono (by decide)) cw0 (ma_cons (me_var 7 (pv 7)) (ma_cons (me_var 6 (pv 6)) (ma_cons (me_var 4 (pv 4)) ma_nil))) (len_cons (len_cons (len_cons (fun ρ ds h => len_nil h)))))))
    (ms_frz 2 (ms_one (ms_setO 2 sc_ulaw_reduced.nd (mf_op op_cat f_cat (mr_f (mf_lc (own := [("vector", 7)]) cs.hc sc_ulaw_reduced.nd (mi_seq (me_var 2 (pv 2))) (blkOk_by (N := ["vectors", "width", "basis", "left", "place", "tops", "top", "vector", "num"]) (sc := defScope s_ulaw_reduced) (by decide +kernel)) (fun _ _ _ _ _ => (mg_name 7 sc_ulaw_reduced.nd)) (fun _ _ _ _ _ => mts_nil) (fun _ _ _ _ _ => (me_calD D_ulaw_clear (hr.mono (by decide)) cw0 (ma_cons (me_var 7 (pv 7)) (ma_cons (me_var 6 (pv 6)) (ma_cons (me_var 4 (pv 4)) ma_nil))) (len_cons (len_cons (len_cons (fun ρ ds h => len_nil h)))))))) (mr_f (mf_lst (ma_cons (me_var 6 (pv 6)) ma_nil)))))))))) ms_nil))))
    (ms_one (ms_retO 2 (pv 2))))))
abbrev s_ulaw_pivot : Stmt := top 19
theorem sc_ulaw_pivot : FnScope ["vector", "k"] ["vector"] (defScope s_ulaw_pivot) := ⟨rfl, rfl, rfl, by decide +kernel, rfl, by decide +kernel, by decide +kernel⟩
theorem ok_ulaw_pivot {P : Program} {w : World} {K : Frg} {mg : Mg} {base : Heap} {f : Addr} {fd : FuncData} (F : Fun K "_law_pivot" "_law_pivot" s_ulaw_pivot f fd) (B : Bi mg) (Z : Ez K mg) : FnOk P w K mg base (L2.CX P w) 1 f fd ["vector"] (spF K mg 1 f_ulaw_pivot) :=
  fn_ok F sc_ulaw_pivot fun cdv A outer s H E hr cs => (ms_one (ms_ret (me_ix ix_seq o_ix (mr_f (mf_lc (own := [("k", 1)]) cs.hc sc_ulaw_pivot.nd (mi_rng1 rfl B.range (ma_cons (me_b1 call_len b_len B.len (by decide +kernel) (mr_rd 0 (pv 0))) ma_nil)) (blkOk_by (N := ["vector", "k"]) (sc := defScope s_ulaw_pivot) (by decide +kernel)) (fun _ _ _ _ _ => (mg_name 1 sc_ulaw_pivot.nd)) (fun _ _ _ _ _ => (mts_one (mt_cmp (op_neD hr.units) o_ne (mr_of (me_ix ix_seq o_ix (mr_rd 0 (pv 0)) (mr_rd 1 (pv 1)) (fun _ _ => rfl))) (mr_of me_int) (nomark _)))) (fun _ _ _ _ _ => (me_var 1 (pv 1))))) (mr_of me_int) (fun _ _ => rfl))))
abbrev s_ulaw_rest : Stmt := top 20
theorem sc_ulaw_rest : FnScope ["vector", "basis", "top"] ["vector", "basis"] (defScope s_ulaw_rest) := ⟨rfl, rfl, rfl, by decide +kernel, rfl, by decide +kernel, by decide +kernel⟩
theorem ok_ulaw_rest {P : Program} {w : World} {K : Frg} {mg : Mg} {base : Heap} {f : Addr} {fd : FuncData} (F : Fun K "_law_rest" "_law_rest" s_ulaw_rest f fd) (B : Bi mg) (Z : Ez K mg) {a_ulaw_pivot : Addr} {d_ulaw_pivot : FuncData} (D_ulaw_pivot : Df P w K mg base "_law_pivot" 1 a_ulaw_pivot d_ulaw_pivot ["vector"] f_ulaw_pivot) {a_ulaw_clear : Addr} {d_ulaw_clear : FuncData} (D_ulaw_clear : Df P w K mg base "_law_clear" 3 a_ulaw_clear d_ulaw_clear ["vector", "top", "place"] f_ulaw_clear) {a_ulaw_primitive : Addr} {d_ulaw_primitive : FuncData} (D_ulaw_primitive : Df P w K mg base "_law_primitive" 2 a_ulaw_primitive d_ulaw_primitive ["vector"] f_ulaw_primitive) : FnOk P w K mg base (L2.CX P w) 4 f fd ["vector", "basis"] (spF K mg 2 f_ulaw_rest) :=
  fn_ok F sc_ulaw_rest fun cdv A outer s H E hr cs => (ms_cons (ms_for cs.po cs.hc (mi_seq (me_var 1 (pv 1))) (mg_name 2 sc_ulaw_rest.nd) (ms_one (ms_set 0 sc_ulaw_rest.nd (me_calD D_ulaw_clear (hr.mono (by decide)) cs.cw (ma_cons (me_var 0 (pv 0)) (ma_cons (me_var 2 (pv 2)) (ma_cons (me_calD D_ulaw_pivot (hr.mono (by decide)) cs.cw (ma_cons (me_var 2 (pv 2)) ma_nil) (len_cons (fun ρ ds h => len_nil h))) ma_nil))) (len_cons (len_cons (len_cons (fun ρ ds h => len_nil h))))))))
    (ms_one (ms_ret (me_calD D_ulaw_primitive (hr.mono (by decide)) cs.cw (ma_cons (me_var 0 (pv 0)) ma_nil) (len_cons (fun ρ ds h => len_nil h))))))
abbrev s_ulaw_vectors : Stmt := top 21
theorem sc_ulaw_vectors : FnScope ["script", "turns", "width", "limit", "sparse", "cells", "picks", "vectors", "j", "row", "k", "at", "first", "second", "kind"] ["script", "turns", "width"] (defScope s_ulaw_vectors) := ⟨rfl, rfl, rfl, by decide +kernel, rfl, by decide +kernel, by decide +kernel⟩
theorem ok_ulaw_vectors {P : Program} {w : World} {K : Frg} {mg : Mg} {base : Heap} {f : Addr} {fd : FuncData} (F : Fun K "_law_vectors" "_law_vectors" s_ulaw_vectors f fd) (B : Bi mg) (Z : Ez K mg) {a_ulaw_row : Addr} {d_ulaw_row : FuncData} (D_ulaw_row : Df P w K mg base "_law_row" 2 a_ulaw_row d_ulaw_row ["script", "at", "many"] f_ulaw_row) {a_ulaw_number : Addr} {d_ulaw_number : FuncData} (D_ulaw_number : Df P w K mg base "_law_number" 1 a_ulaw_number d_ulaw_number ["cells", "limit", "sparse"] f_ulaw_number) {a_ulaw_mixed : Addr} {d_ulaw_mixed : FuncData} (D_ulaw_mixed : Df P w K mg base "_law_mixed" 1 a_ulaw_mixed d_ulaw_mixed ["first", "left", "second", "right"] f_ulaw_mixed) : FnOk P w K mg base (L2.CX P w) 3 f fd ["script", "turns", "width"] (spF K mg 3 f_ulaw_vectors) :=
  fn_ok F sc_ulaw_vectors fun cdv A outer s H E hr cs => (ms_cons (ms_set 3 sc_ulaw_vectors.nd (me_ix ix_seq o_ix (mr_f (mf_lst (ma_cons me_int (ma_cons me_int (ma_cons me_int (ma_cons (me_op op_pow o_pow (mr_of me_int) (mr_of me_int)) ma_nil)))))) (mr_of (me_op op_modN o_mod (mr_of (me_t1 call_int1 b_int B.int (by decide +kernel) (mr_of (me_ix ix_seq o_ix (mr_rd 1 (pv 1)) (mr_of me_int) (fun _ _ => rfl))))) (mr_of me_int))) (fun _ _ => rfl)))
    (ms_cons (ms_set 4 sc_ulaw_vectors.nd (me_cmp (op_eqD hr.units) o_eq (mr_of (me_op op_modN o_mod (mr_of (me_t1 call_int1 b_int B.int (by decide +kernel) (mr_of (me_ix ix_seq o_ix (mr_rd 1 (pv 1)) (mr_of me_int) (fun _ _ => rfl))))) (mr_of me_int))) (mr_of me_int) (nomark _)))
    (ms_cons (ms_set 5 sc_ulaw_vectors.nd (me_calD D_ulaw_row (hr.mono (by decide)) cs.cw (ma_cons (me_var 0 (pv 0)) (ma_cons me_int (ma_cons me_int ma_nil))) (len_cons (len_cons (len_cons (fun ρ ds h => len_nil h))))))
    (ms_cons (ms_set 6 sc_ulaw_vectors.nd (me_calD D_ulaw_row (hr.mono (by decide)) cs.cw (ma_cons (me_var 0 (pv 0)) (ma_cons me_int (ma_cons me_int ma_nil))) (len_cons (len_cons (len_cons (fun ρ ds h => len_nil h))))))
    (ms_cons (ms_setO 7 sc_ulaw_vectors.nd (mf_lst ma_nil))
    (ms_cons (ms_for cs.po cs.hc (mi_rng1 rfl B.range (ma_cons (me_op op_modN o_mod (mr_of (me_t1 call_int1 b_int B.int (by decide +kernel) (mr_of (me_ix ix_seq o_ix (mr_rd 1 (pv 1)) (mr_of me_int) (fun _ _ => rfl))))) (mr_of me_int)) ma_nil)) (mg_name 8 sc_ulaw_vectors.nd) (ms_cons (ms_setO 9 sc_ulaw_vectors.nd (mf_lst ma_nil))
    (ms_cons (ms_for cs.po cs.hc (mi_rng1 rfl B.range (ma_cons (me_var 2 (pv 2)) ma_nil)) (mg_name 10 sc_ulaw_vectors.nd) (ms_cons (ms_set 11 sc_ulaw_vectors.nd (me_op op_addU o_add (mr_of (me_op op_mulU o_mul (mr_of me_int) (mr_rd 8 (pv 8)))) (mr_of (me_op op_mulU o_mul (mr_of me_int) (mr_rd 10 (pv 10))))))
    (ms_one (ms_app 9 (pv 9) (me_calD D_ulaw_number (hr.mono (by decide)) cs.cw (ma_cons (me_sl (mr_rd 5 (pv 5)) (mp_some (me_var 11 (pv 11))) (mp_some (me_op op_addU o_add (mr_rd 11 (pv 11)) (mr_of me_int)))) (ma_cons (me_var 3 (pv 3)) (ma_cons (me_var 4 (pv 4)) ma_nil))) (len_cons (len_cons (len_cons (fun ρ ds h => len_nil h)))))))))
    (ms_cons (ms_par3 12 13 14 cs.hc sc_ulaw_vectors.nd (me_t1 call_int1 b_int B.int (by decide +kernel) (mr_of (me_ix ix_seq o_ix (mr_rd 6 (pv 6)) (mr_of (me_op op_mulU o_mul (mr_of me_int) (mr_rd 8 (pv 8)))) (fun _ _ => rfl)))) (me_t1 call_int1 b_int B.int (by decide +kernel) (mr_of (me_ix ix_seq o_ix (mr_rd 6 (pv 6)) (mr_of (me_op op_addU o_add (mr_of (me_op op_mulU o_mul (mr_of me_int) (mr_rd 8 (pv 8)))) (mr_of me_int))) (fun _ _ => rfl)))) (me_op op_modN o_mod (mr_of (me_t1 call_int1 b_int B.int (by decide +kernel) (mr_of (me_ix ix_seq o_ix (mr_rd 6 (pv 6)) (mr_of (me_op op_addU o_add (mr_of (me_op op_mulU o_mul (mr_of me_int) (mr_rd 8 (pv 8)))) (mr_of me_int))) (fun _ _ => rfl))))) (mr_of me_int)))
    (ms_cons (ms_if (PW.pt (mw_and (mt_cmp op_gt o_gt (mr_rd 8 (pv 8)) (mr_of me_int) (nomark _)) (mw_and1 (mt_cmp (op_eqD hr.units) o_eq (mr_rd 14 (pv 14)) (mr_of me_int) (nomark _))))) (ms_one (ms_setO 9 sc_ulaw_vectors.nd (mf_t1 call_list_of b_lst B.list (by decide +kernel) (mr_of (me_ix ix_seq o_ix (mr_rd 7 (pv 7)) (mr_of (me_op op_modN o_mod (mr_rd 12 (pv 12)) (mr_rd 8 (pv 8)))) (fun _ _ => rfl)))))) ms_nil)
    (ms_cons (ms_if (PW.pt (mw_and (mt_cmp op_gt o_gt (mr_rd 8 (pv 8)) (mr_of me_int) (nomark _)) (mw_and1 (mt_cmp (op_eqD hr.units) o_eq (mr_rd 14 (pv 14)) (mr_of me_int) (nomark _))))) (ms_one (ms_set 9 sc_ulaw_vectors.nd (me_calD D_ulaw_mixed (hr.mono (by decide)) cs.cw (ma_cons (me_ix ix_seq o_ix (mr_rd 7 (pv 7)) (mr_of (me_op op_modN o_mod (mr_rd 12 (pv 12)) (mr_rd 8 (pv 8)))) (fun _ _ => rfl)) (ma_cons (me_op op_addU o_add (mr_of me_int) (mr_of (me_op op_modN o_mod (mr_of (me_op op_fdivU o_fdiv (mr_rd 12 (pv 12)) (mr_of me_int))) (mr_of me_int)))) (ma_cons (me_ix ix_seq o_ix (mr_rd 7 (pv 7)) (mr_of (me_op op_modN o_mod (mr_rd 13 (pv 13)) (mr_rd 8 (pv 8)))) (fun _ _ => rfl)) (ma_cons (me_op op_sub o_sub (mr_of (me_op op_modN o_mod (mr_of (me_op op_fdivU o_fdiv (mr_rd 13 (pv 13)) (mr_of me_int))) (mr_of me_int))) (mr_of me_int)) ma_nil)))) (len_cons (len_cons (len_cons (len_cons (fun ρ ds h => len_nil h)))))))) ms_nil)
    (ms_one (ms_app 7 (pv 7) (me_t1 call_tuple_of b_tup B.tuple (by decide +kernel) (mr_rd 9 (pv 9)))))))))))
    (ms_one (ms_retO 7 (pv 7)))))))))
abbrev s_ulaw_other : Stmt := top 22
theorem sc_ulaw_other : FnScope ["vectors", "cells", "width", "other", "step", "a", "b", "many"] ["vectors", "cells", "width"] (defScope s_ulaw_other) := ⟨rfl, rfl, rfl, by decide +kernel, rfl, by decide +kernel, by decide +kernel⟩
theorem ok_ulaw_other {P : Program} {w : World} {K : Frg} {mg : Mg} {base : Heap} {f : Addr} {fd : FuncData} (F : Fun K "_law_other" "_law_other" s_ulaw_other f fd) (B : Bi mg) (Z : Ez K mg) {a_ulaw_mixed : Addr} {d_ulaw_mixed : FuncData} (D_ulaw_mixed : Df P w K mg base "_law_mixed" 1 a_ulaw_mixed d_ulaw_mixed ["first", "left", "second", "right"] f_ulaw_mixed) : FnOk P w K mg base (L2.CX P w) 2 f fd ["vectors", "cells", "width"] (spF K mg 3 f_ulaw_other) :=
  fn_ok F sc_ulaw_other fun cdv A outer s H E hr cs => (ms_cons (ms_setO 3 sc_ulaw_other.nd (mf_t1 call_list_of b_lst B.list (by decide +kernel) (mr_rd 0 (pv 0))))
    (ms_cons (ms_for cs.po cs.hc (mi_rng1 rfl B.range (ma_cons me_int ma_nil)) (mg_name 4 sc_ulaw_other.nd) (ms_one (ms_if (mt_cmp op_gt o_gt (mr_of (me_b1 call_len b_len B.len (by decide +kernel) (mr_rd 3 (pv 3)))) (mr_of me_int) (nomark _)) (ms_cons (ms_par3 5 6 7 cs.hc sc_ulaw_other.nd (me_t1 call_int1 b_int B.int (by decide +kernel) (mr_of (me_ix ix_seq o_ix (mr_rd 1 (pv 1)) (mr_of (me_op op_mulU o_mul (mr_of me_int) (mr_rd 4 (pv 4)))) (fun _ _ => rfl)))) (me_t1 call_int1 b_int B.int (by decide +kernel) (mr_of (me_ix ix_seq o_ix (mr_rd 1 (pv 1)) (mr_of (me_op op_addU o_add (mr_of (me_op op_mulU o_mul (mr_of me_int) (mr_rd 4 (pv 4)))) (mr_of me_int))) (fun _ _ => rfl)))) (me_t1 call_int1 b_int B.int (by decide +kernel) (mr_of (me_ix ix_seq o_ix (mr_rd 1 (pv 1)) (mr_of (me_op op_addU o_add (mr_of (me_op op_mulU o_mul (mr_of me_int) (mr_rd 4 (pv 4)))) (mr_of me_int))) (fun _ _ => rfl)))))
    (ms_cons (ms_par 5 6 cs.hc sc_ulaw_other.nd (me_op op_modN o_mod (mr_rd 5 (pv 5)) (mr_of (me_b1 call_len b_len B.len (by decide +kernel) (mr_rd 3 (pv 3))))) (me_op op_modN o_mod (mr_rd 6 (pv 6)) (mr_of (me_b1 call_len b_len B.len (by decide +kernel) (mr_rd 3 (pv 3))))))
    (ms_one (ms_if (mt_cmp (op_eqD hr.units) o_eq (mr_rd 5 (pv 5)) (mr_rd 6 (pv 6)) (nomark _)) (ms_one (ms_sto 3 (pv 3) (me_var 5 (pv 5)) (me_calD D_ulaw_mixed (hr.mono (by decide)) cs.cw (ma_cons (me_ix ix_seq o_ix (mr_rd 3 (pv 3)) (mr_rd 5 (pv 5)) (fun _ _ => rfl)) (ma_cons (me_ix ix_seq o_ix (mr_f (mf_lst (ma_cons me_int (ma_cons (me_un un_neg o_neg (mr_of me_int)) ma_nil)))) (mr_of (me_op op_modN o_mod (mr_rd 7 (pv 7)) (mr_of me_int))) (fun _ _ => rfl)) (ma_cons (me_ix ix_seq o_ix (mr_rd 3 (pv 3)) (mr_rd 5 (pv 5)) (fun _ _ => rfl)) (ma_cons me_int ma_nil)))) (len_cons (len_cons (len_cons (len_cons (fun ρ ds h => len_nil h)))))))) (ms_one (ms_sto 3 (pv 3) (me_var 5 (pv 5)) (me_calD D_ulaw_mixed (hr.mono (by decide)) cs.cw (ma_cons (me_ix ix_seq o_ix (mr_rd 3 (pv 3)) (mr_rd 5 (pv 5)) (fun _ _ => rfl)) (ma_cons me_int (ma_cons (me_ix ix_seq o_ix (mr_rd 3 (pv 3)) (mr_rd 6 (pv 6)) (fun _ _ => rfl)) (ma_cons (me_op op_sub o_sub (mr_of (me_op op_modN o_mod (mr_rd 7 (pv 7)) (mr_of me_int))) (mr_of me_int)) ma_nil)))) (len_cons (len_cons (len_cons (len_cons (fun ρ ds h => len_nil h)))))))))))) ms_nil)))
    (ms_one (ms_retF (mf_op op_cat f_cat (mr_f (mf_op op_cat f_cat (mr_f (mf_lst (ma_cons (me_op op_mulA o_mulT (mr_of (me_tup (ma_cons me_int ma_nil))) (mr_rd 2 (pv 2))) ma_nil))) (mr_f (mf_rev (mr_rd 3 (pv 3)))))) (mr_of (me_sl (mr_rd 3 (pv 3)) mp_none (mp_some me_int))))))))
abbrev s_ulaw_spans : Stmt := top 23
theorem sc_ulaw_spans : FnScope ["vectors", "width", "due", "given", "told", "row"] ["vectors", "width", "due"] (defScope s_ulaw_spans) := ⟨rfl, rfl, rfl, by decide +kernel, rfl, by decide +kernel, by decide +kernel⟩
theorem ok_ulaw_spans {P : Program} {w : World} {K : Frg} {mg : Mg} {base : Heap} {f : Addr} {fd : FuncData} (F : Fun K "_law_spans" "_law_spans" s_ulaw_spans f fd) (B : Bi mg) (Z : Ez K mg) {a_echelon : Addr} {d_echelon : FuncData} (D_echelon : Df P w K mg base "echelon" 4 a_echelon d_echelon ["vectors", "width"] f_echelon) {a_ulaw_is_tuple : Addr} {d_ulaw_is_tuple : FuncData} (D_ulaw_is_tuple : Df P w K mg base "_law_is_tuple" 2 a_ulaw_is_tuple d_ulaw_is_tuple ["value", "size"] f_ulaw_is_tuple) : FnOk P w K mg base (L2.CX P w) 5 f fd ["vectors", "width", "due"] (spF K mg 3 f_ulaw_spans) :=
  fn_ok F sc_ulaw_spans fun cdv A outer s H E hr cs => (ms_cons (ms_set 3 sc_ulaw_spans.nd (me_of (mf_t1 call_list_of b_lst B.list (by decide +kernel) (mr_rd 0 (pv 0)))))
    (ms_cons (ms_setO 4 sc_ulaw_spans.nd (mf_calD D_echelon (hr.mono (by decide)) cs.cw (ma_cons (me_var 3 (pv 3)) (ma_cons (me_var 1 (pv 1)) ma_nil)) (len_cons (len_cons (fun ρ ds h => len_nil h)))))
    (ms_cons (ms_if (mt_lend 4 (PW.pt (mw_or (mt_not (mt_tru (mr_of (me_isi (mr_rd 4 (pv 4)) (by decide +kernel) B.isinstance B.list)))) (mw_or (mt_not (mt_tru (mr_of (me_b1 (cr_all cs.hc) b_all B.all (by decide +kernel) (mr_f (mf_lc (own := [("row", 5)]) cs.hc sc_ulaw_spans.nd (mi_seq (me_var 4 (pv 4))) (blkOk_by (N := ["vectors", "width", "due", "given", "told", "row"]) (sc := defScope s_ulaw_spans) (by decide +kernel)) (fun _ _ _ _ _ => (mg_name 5 sc_ulaw_spans.nd)) (fun _ _ _ _ _ => mts_nil) (fun _ _ _ _ _ => (me_calD D_ulaw_is_tuple (hr.mono (by decide)) cw0 (ma_cons (me_var 5 (pv 5)) (ma_cons (me_var 1 (pv 1)) ma_nil)) (len_cons (len_cons (fun ρ ds h => len_nil h))))))))))) (mw_or1 (mt_cmp (op_neD hr.units) o_ne (mr_rd 4 (pv 4)) (mr_rd 2 (pv 2)) (nomark _))))))) (ms_one (ms_ret me_bl)) ms_nil)
    (ms_cons (ms_clr 4 (pv 4))
    (ms_one (ms_ret (me_cmp (op_eqD hr.units) o_eq (mr_rd 3 (pv 3)) (mr_rd 0 (pv 0)) (nomark _))))))))
abbrev s_ulaw_lies : Stmt := top 24
theorem sc_ulaw_lies : FnScope ["vector", "due", "basis", "told"] ["vector", "due"] (defScope s_ulaw_lies) := ⟨rfl, rfl, rfl, by decide +kernel, rfl, by decide +kernel, by decide +kernel⟩
theorem ok_ulaw_lies {P : Program} {w : World} {K : Frg} {mg : Mg} {base : Heap} {f : Addr} {fd : FuncData} (F : Fun K "_law_lies" "_law_lies" s_ulaw_lies f fd) (B : Bi mg) (Z : Ez K mg) {a_reduce_by : Addr} {d_reduce_by : FuncData} (D_reduce_by : Df P w K mg base "reduce_by" 4 a_reduce_by d_reduce_by ["vector", "basis"] f_reduce_by) {a_ulaw_rest : Addr} {d_ulaw_rest : FuncData} (D_ulaw_rest : Df P w K mg base "_law_rest" 4 a_ulaw_rest d_ulaw_rest ["vector", "basis"] f_ulaw_rest) {a_ulaw_is_tuple : Addr} {d_ulaw_is_tuple : FuncData} (D_ulaw_is_tuple : Df P w K mg base "_law_is_tuple" 2 a_ulaw_is_tuple d_ulaw_is_tuple ["value", "size"] f_ulaw_is_tuple) : FnOk P w K mg base (L2.CX P w) 5 f fd ["vector", "due"] (spF K mg 2 f_ulaw_lies) :=
  fn_ok F sc_ulaw_lies fun cdv A outer s H E hr cs => (ms_cons (ms_set 2 sc_ulaw_lies.nd (me_of (mf_t1 call_list_of b_lst B.list (by decide +kernel) (mr_rd 1 (pv 1)))))
    (ms_cons (ms_set 3 sc_ulaw_lies.nd (me_calD D_reduce_by (hr.mono (by decide)) cs.cw (ma_cons (me_var 0 (pv 0)) (ma_cons (me_var 2 (pv 2)) ma_nil)) (len_cons (len_cons (fun ρ ds h => len_nil h)))))
    (ms_one (ms_ret (me_and (me_calD D_ulaw_is_tuple (hr.mono (by decide)) cs.cw (ma_cons (me_var 3 (pv 3)) (ma_cons (me_b1 call_len b_len B.len (by decide +kernel) (mr_rd 0 (pv 0))) ma_nil)) (len_cons (len_cons (fun ρ ds h => len_nil h)))) (me_and (me_cmp (op_eqD hr.units) o_eq (mr_rd 3 (pv 3)) (mr_of (me_calD D_ulaw_rest (hr.mono (by decide)) cs.cw (ma_cons (me_var 0 (pv 0)) (ma_cons (me_var 1 (pv 1)) ma_nil)) (len_cons (len_cons (fun ρ ds h => len_nil h))))) (nomark _)) (pe_one (me_cmp (op_eqD hr.units) o_eq (mr_rd 2 (pv 2)) (mr_rd 1 (pv 1)) (nomark _)))))))))
abbrev s_law : Stmt := top 25
theorem sc_law : FnScope ["script", "turns", "width", "vectors", "cells", "due", "vector", "total", "j", "unit", "moved", "value", "zero", "plain", "k"] ["script"] (defScope s_law) := ⟨rfl, rfl, rfl, by decide +kernel, rfl, by decide +kernel, by decide +kernel⟩
theorem ok_law {P : Program} {w : World} {K : Frg} {mg : Mg} {base : Heap} {f : Addr} {fd : FuncData} (F : Fun K "law" "law" s_law f fd) (B : Bi mg) (Z : Ez K mg) {a_ulaw_row : Addr} {d_ulaw_row : FuncData} (D_ulaw_row : Df P w K mg base "_law_row" 2 a_ulaw_row d_ulaw_row ["script", "at", "many"] f_ulaw_row) {a_ulaw_vectors : Addr} {d_ulaw_vectors : FuncData} (D_ulaw_vectors : Df P w K mg base "_law_vectors" 3 a_ulaw_vectors d_ulaw_vectors ["script", "turns", "width"] f_ulaw_vectors) {a_ulaw_reduced : Addr} {d_ulaw_reduced : FuncData} (D_ulaw_reduced : Df P w K mg base "_law_reduced" 4 a_ulaw_reduced d_ulaw_reduced ["vectors", "width"] f_ulaw_reduced) {a_ulaw_other : Addr} {d_ulaw_other : FuncData} (D_ulaw_other : Df P w K mg base "_law_other" 2 a_ulaw_other d_ulaw_other ["vectors", "cells", "width"] f_ulaw_other) {a_ulaw_spans : Addr} {d_ulaw_spans : FuncData} (D_ulaw_spans : Df P w K mg base "_law_spans" 5 a_ulaw_spans d_ulaw_spans ["vectors", "width", "due"] f_ulaw_spans) {a_ulaw_number : Addr} {d_ulaw_number : FuncData} (D_ulaw_number : Df P w K mg base "_law_number" 1 a_ulaw_number d_ulaw_number ["cells", "limit", "sparse"] f_ulaw_number) {a_ulaw_mixed : Addr} {d_ulaw_mixed : FuncData} (D_ulaw_mixed : Df P w K mg base "_law_mixed" 1 a_ulaw_mixed d_ulaw_mixed ["first", "left", "second", "right"] f_ulaw_mixed) {a_ulaw_lies : Addr} {d_ulaw_lies : FuncData} (D_ulaw_lies : Df P w K mg base "_law_lies" 5 a_ulaw_lies d_ulaw_lies ["vector", "due"] f_ulaw_lies) {a_reduce_by : Addr} {d_reduce_by : FuncData} (D_reduce_by : Df P w K mg base "reduce_by" 4 a_reduce_by d_reduce_by ["vector", "basis"] f_reduce_by) {a_ulaw_rest : Addr} {d_ulaw_rest : FuncData} (D_ulaw_rest : Df P w K mg base "_law_rest" 4 a_ulaw_rest d_ulaw_rest ["vector", "basis"] f_ulaw_rest) {a_ulaw_is_tuple : Addr} {d_ulaw_is_tuple : FuncData} (D_ulaw_is_tuple : Df P w K mg base "_law_is_tuple" 2 a_ulaw_is_tuple d_ulaw_is_tuple ["value", "size"] f_ulaw_is_tuple) {a_ulaw_primitive : Addr} {d_ulaw_primitive : FuncData} (D_ulaw_primitive : Df P w K mg base "_law_primitive" 2 a_ulaw_primitive d_ulaw_primitive ["vector"] f_ulaw_primitive) : FnOk P w K mg base (L2.CX P w) 6 f fd ["script"] (spF K mg 1 f_law) :=
  fn_ok F sc_law fun cdv A outer s H E hr cs => (ms_cons (ms_set 1 sc_law.nd (me_calD D_ulaw_row (hr.mono (by decide)) cs.cw (ma_cons (me_var 0 (pv 0)) (ma_cons me_int (ma_cons me_int ma_nil))) (len_cons (len_cons (len_cons (fun ρ ds h => len_nil h))))))
    (ms_cons (ms_set 2 sc_law.nd (me_op op_addU o_add (mr_of me_int) (mr_of (me_op op_modN o_mod (mr_of (me_t1 call_int1 b_int B.int (by decide +kernel) (mr_of (me_ix ix_seq o_ix (mr_rd 1 (pv 1)) (mr_of me_int) (fun _ _ => rfl))))) (mr_of me_int)))))
    (ms_cons (ms_set 3 sc_law.nd (me_calD D_ulaw_vectors (hr.mono (by decide)) cs.cw (ma_cons (me_var 0 (pv 0)) (ma_cons (me_var 1 (pv 1)) (ma_cons (me_var 2 (pv 2)) ma_nil))) (len_cons (len_cons (len_cons (fun ρ ds h => len_nil h))))))
    (ms_cons (ms_set 4 sc_law.nd (me_calD D_ulaw_row (hr.mono (by decide)) cs.cw (ma_cons (me_var 0 (pv 0)) (ma_cons me_int (ma_cons me_int ma_nil))) (len_cons (len_cons (len_cons (fun ρ ds h => len_nil h))))))
    (ms_cons (ms_set 5 sc_law.nd (me_calD D_ulaw_reduced (hr.mono (by decide)) cs.cw (ma_cons (me_var 3 (pv 3)) (ma_cons (me_var 2 (pv 2)) ma_nil)) (len_cons (len_cons (fun ρ ds h => len_nil h)))))
    (ms_cons (ms_if (PW.pt (mw_or (mt_not (mt_tru (mr_of (me_calD D_ulaw_spans (hr.mono (by decide)) cs.cw (ma_cons (me_var 3 (pv 3)) (ma_cons (me_var 2 (pv 2)) (ma_cons (me_var 5 (pv 5)) ma_nil))) (len_cons (len_cons (len_cons (fun ρ ds h => len_nil h)))))))) (mw_or1 (mt_not (mt_tru (mr_of (me_calD D_ulaw_spans (hr.mono (by decide)) cs.cw (ma_cons (me_calD D_ulaw_other (hr.mono (by decide)) cs.cw (ma_cons (me_var 3 (pv 3)) (ma_cons (me_var 4 (pv 4)) (ma_cons (me_var 2 (pv 2)) ma_nil))) (len_cons (len_cons (len_cons (fun ρ ds h => len_nil h))))) (ma_cons (me_var 2 (pv 2)) (ma_cons (me_var 5 (pv 5)) ma_nil))) (len_cons (len_cons (len_cons (fun ρ ds h => len_nil h))))))))))) (ms_one (ms_ret me_bl)) ms_nil)
    (ms_cons (ms_set 6 sc_law.nd (me_t1 call_tuple_of b_tup B.tuple (by decide +kernel) (mr_f (mf_lc (own := [("k", 14)]) cs.hc sc_law.nd (mi_rng1 rfl B.range (ma_cons (me_var 2 (pv 2)) ma_nil)) (blkOk_by (N := ["script", "turns", "width", "vectors", "cells", "due", "vector", "total", "j", "unit", "moved", "value", "zero", "plain", "k"]) (sc := defScope s_law) (by decide +kernel)) (fun _ _ _ _ _ => (mg_name 14 sc_law.nd)) (fun _ _ _ _ _ => mts_nil) (fun _ _ _ _ _ => (me_calD D_ulaw_number (hr.mono (by decide)) cw0 (ma_cons (me_sl (mr_rd 4 (pv 4)) (mp_some (me_op op_addU o_add (mr_of me_int) (mr_of (me_op op_mulU o_mul (mr_of me_int) (mr_rd 14 (pv 14)))))) (mp_some (me_op op_addU o_add (mr_of me_int) (mr_of (me_op op_mulU o_mul (mr_of me_int) (mr_rd 14 (pv 14))))))) (ma_cons (me_ix ix_seq o_ix (mr_f (mf_lst (ma_cons me_int (ma_cons (me_op op_pow o_pow (mr_of me_int) (mr_of me_int)) ma_nil)))) (mr_of (me_op op_modN o_mod (mr_of (me_t1 call_int1 b_int B.int (by decide +kernel) (mr_of (me_ix ix_seq o_ix (mr_rd 1 (pv 1)) (mr_of me_int) (fun _ _ => rfl))))) (mr_of me_int))) (fun _ _ => rfl)) (ma_cons me_bl ma_nil))) (len_cons (len_cons (len_cons (fun ρ ds h => len_nil h))))))))))
    (ms_cons (ms_set 7 sc_law.nd (me_op op_mulA o_mulT (mr_of (me_tup (ma_cons me_int ma_nil))) (mr_rd 2 (pv 2))))
    (ms_cons (ms_for cs.po cs.hc (mi_rng1 rfl B.range (ma_cons (me_b1 call_len b_len B.len (by decide +kernel) (mr_rd 3 (pv 3))) ma_nil)) (mg_name 8 sc_law.nd) (ms_one (ms_set 7 sc_law.nd (me_calD D_ulaw_mixed (hr.mono (by decide)) cs.cw (ma_cons (me_var 7 (pv 7)) (ma_cons me_int (ma_cons (me_ix ix_seq o_ix (mr_rd 3 (pv 3)) (mr_rd 8 (pv 8)) (fun _ _ => rfl)) (ma_cons (me_op op_sub o_sub (mr_of (me_op op_modN o_mod (mr_of (me_op op_fdivU o_fdiv (mr_of (me_t1 call_int1 b_int B.int (by decide +kernel) (mr_of (me_ix ix_seq o_ix (mr_rd 4 (pv 4)) (mr_of (me_op op_addU o_add (mr_of me_int) (mr_of (me_op op_modN o_mod (mr_rd 8 (pv 8)) (mr_of me_int))))) (fun _ _ => rfl))))) (mr_of (me_op op_addU o_add (mr_rd 8 (pv 8)) (mr_of me_int))))) (mr_of me_int))) (mr_of me_int)) ma_nil)))) (len_cons (len_cons (len_cons (len_cons (fun ρ ds h => len_nil h)))))))))
    (ms_cons (ms_set 9 sc_law.nd (me_t1 call_tuple_of b_tup B.tuple (by decide +kernel) (mr_f (mf_lc (own := [("k", 14)]) cs.hc sc_law.nd (mi_rng1 rfl B.range (ma_cons (me_var 2 (pv 2)) ma_nil)) (blkOk_by (N := ["script", "turns", "width", "vectors", "cells", "due", "vector", "total", "j", "unit", "moved", "value", "zero", "plain", "k"]) (sc := defScope s_law) (by decide +kernel)) (fun _ _ _ _ _ => (mg_name 14 sc_law.nd)) (fun _ _ _ _ _ => mts_nil) (fun _ _ _ _ _ => (me_t1 call_int1 b_int B.int (by decide +kernel) (mr_of (me_cmp (op_eqD hr.units) o_eq (mr_rd 14 (pv 14)) (mr_of (me_op op_modN o_mod (mr_of (me_t1 call_int1 b_int B.int (by decide +kernel) (mr_of (me_ix ix_seq o_ix (mr_rd 1 (pv 1)) (mr_of me_int) (fun _ _ => rfl))))) (mr_rd 2 (pv 2)))) (nomark _)))))))))
    (ms_cons (ms_set 10 sc_law.nd (me_calD D_ulaw_mixed (hr.mono (by decide)) cs.cw (ma_cons (me_var 6 (pv 6)) (ma_cons (me_op op_addU o_add (mr_of me_int) (mr_of (me_op op_modN o_mod (mr_of (me_op op_fdivU o_fdiv (mr_of (me_t1 call_int1 b_int B.int (by decide +kernel) (mr_of (me_ix ix_seq o_ix (mr_rd 1 (pv 1)) (mr_of me_int) (fun _ _ => rfl))))) (mr_of me_int))) (mr_of me_int)))) (ma_cons (me_var 7 (pv 7)) (ma_cons me_int ma_nil)))) (len_cons (len_cons (len_cons (len_cons (fun ρ ds h => len_nil h)))))))
    (ms_cons (ms_for cs.po cs.hc (mi_seq (me_of (mf_op op_cat f_cat (mr_f (mf_lst (ma_cons (me_var 6 (pv 6)) (ma_cons (me_calD D_ulaw_mixed (hr.mono (by decide)) cs.cw (ma_cons (me_var 6 (pv 6)) (ma_cons (me_un un_neg o_neg (mr_of me_int)) (ma_cons (me_var 6 (pv 6)) (ma_cons me_int ma_nil)))) (len_cons (len_cons (len_cons (len_cons (fun ρ ds h => len_nil h)))))) (ma_cons (me_var 10 (pv 10)) (ma_cons (me_var 9 (pv 9)) (ma_cons (me_var 7 (pv 7)) (ma_cons (me_op op_mulA o_mulT (mr_of (me_tup (ma_cons me_int ma_nil))) (mr_rd 2 (pv 2))) ma_nil)))))))) (mr_rd 5 (pv 5))))) (mg_name 11 sc_law.nd) (ms_one (ms_if (mt_not (mt_tru (mr_of (me_calD D_ulaw_lies (hr.mono (by decide)) cs.cw (ma_cons (me_var 11 (pv 11)) (ma_cons (me_var 5 (pv 5)) ma_nil)) (len_cons (len_cons (fun ρ ds h => len_nil h))))))) (ms_one (ms_ret me_bl)) ms_nil)))
    (ms_cons (ms_set 12 sc_law.nd (me_calD D_reduce_by (hr.mono (by decide)) cs.cw (ma_cons (me_var 7 (pv 7)) (ma_cons (me_of (mf_t1 call_list_of b_lst B.list (by decide +kernel) (mr_rd 5 (pv 5)))) ma_nil)) (len_cons (len_cons (fun ρ ds h => len_nil h)))))
    (ms_cons (ms_if (PW.pt (mw_or (mt_not (mt_tru (mr_of (me_calD D_ulaw_is_tuple (hr.mono (by decide)) cs.cw (ma_cons (me_var 12 (pv 12)) (ma_cons (me_var 2 (pv 2)) ma_nil)) (len_cons (len_cons (fun ρ ds h => len_nil h))))))) (mw_or (mt_cmp (op_neD hr.units) o_ne (mr_rd 12 (pv 12)) (mr_of (me_op op_mulA o_mulT (mr_of (me_tup (ma_cons me_int ma_nil))) (mr_rd 2 (pv 2)))) (nomark _)) (mw_or1 (mt_cmp (op_neD hr.units) o_ne (mr_of (me_calD D_reduce_by (hr.mono (by decide)) cs.cw (ma_cons (me_var 10 (pv 10)) (ma_cons (me_of (mf_t1 call_list_of b_lst B.list (by decide +kernel) (mr_rd 5 (pv 5)))) ma_nil)) (len_cons (len_cons (fun ρ ds h => len_nil h))))) (mr_of (me_calD D_ulaw_rest (hr.mono (by decide)) cs.cw (ma_cons (me_var 6 (pv 6)) (ma_cons (me_var 5 (pv 5)) ma_nil)) (len_cons (len_cons (fun ρ ds h => len_nil h))))) (nomark _)))))) (ms_one (ms_ret me_bl)) ms_nil)
    (ms_cons (ms_set 13 sc_law.nd (me_calD D_reduce_by (hr.mono (by decide)) cs.cw (ma_cons (me_var 6 (pv 6)) (ma_cons (me_of (mf_lst ma_nil)) ma_nil)) (len_cons (len_cons (fun ρ ds h => len_nil h)))))
    (ms_cons (ms_if (PW.pt (mw_or (mt_not (mt_tru (mr_of (me_calD D_ulaw_is_tuple (hr.mono (by decide)) cs.cw (ma_cons (me_var 13 (pv 13)) (ma_cons (me_var 2 (pv 2)) ma_nil)) (len_cons (len_cons (fun ρ ds h => len_nil h))))))) (mw_or1 (mt_cmp (op_neD hr.units) o_ne (mr_rd 13 (pv 13)) (mr_of (me_calD D_ulaw_primitive (hr.mono (by decide)) cs.cw (ma_cons (me_var 6 (pv 6)) ma_nil) (len_cons (fun ρ ds h => len_nil h)))) (nomark _))))) (ms_one (ms_ret me_bl)) ms_nil)
    (ms_one (ms_ret (me_calD D_ulaw_spans (hr.mono (by decide)) cs.cw (ma_cons (me_var 3 (pv 3)) (ma_cons (me_var 2 (pv 2)) (ma_cons (me_var 5 (pv 5)) ma_nil))) (len_cons (len_cons (len_cons (fun ρ ds h => len_nil h)))))))))))))))))))))))
def fa : List (Frg → Bool) := [(He.Fa.glo "content").ok,
  (He.Fa.glo "primitive").ok,
  (He.Fa.glo "pivot_of").ok,
  (He.Fa.glo "clear").ok,
  (He.Fa.glo "echelon").ok,
  (He.Fa.glo "reduce_by").ok,
  (He.Fa.glo "_law_mix").ok,
  (He.Fa.glo "_law_row").ok,
  (He.Fa.glo "_law_is_whole").ok,
  (He.Fa.glo "_law_is_tuple").ok,
  (He.Fa.glo "_law_common").ok,
  (He.Fa.glo "_law_primitive").ok,
  (He.Fa.glo "_law_number").ok,
  (He.Fa.glo "_law_mixed").ok,
  (He.Fa.glo "_law_clear").ok,
  (He.Fa.glo "_law_reduced").ok,
  (He.Fa.glo "_law_pivot").ok,
  (He.Fa.glo "_law_rest").ok,
  (He.Fa.glo "_law_vectors").ok,
  (He.Fa.glo "_law_other").ok,
  (He.Fa.glo "_law_spans").ok,
  (He.Fa.glo "_law_lies").ok,
  (He.Fa.glo "law").ok,
  (He.Fa.free "abs").ok,
  (He.Fa.free "all").ok,
  (He.Fa.free "bool").ok,
  (He.Fa.free "enumerate").ok,
  (fun K => He.eqO (PySem.W.nsIn K mainGlobals "gcd") (some (some (.builtin "math.gcd")))),
  (He.Fa.free "int").ok,
  (He.Fa.free "isinstance").ok,
  (He.Fa.free "len").ok,
  (He.Fa.free "list").ok,
  (He.Fa.free "range").ok,
  (He.Fa.free "tuple").ok,
  (He.Fa.free "zip").ok]
def fn : List He.DefD := [dD "content" s_content, dD "primitive" s_primitive, dD "pivot_of" s_pivot_of, dD "clear" s_clear, dD "echelon" s_echelon, dD "reduce_by" s_reduce_by, dD "_law_mix" s_ulaw_mix, dD "_law_row" s_ulaw_row, dD "_law_is_whole" s_ulaw_is_whole, dD "_law_is_tuple" s_ulaw_is_tuple, dD "_law_common" s_ulaw_common, dD "_law_primitive" s_ulaw_primitive, dD "_law_number" s_ulaw_number, dD "_law_mixed" s_ulaw_mixed, dD "_law_clear" s_ulaw_clear, dD "_law_reduced" s_ulaw_reduced, dD "_law_pivot" s_ulaw_pivot, dD "_law_rest" s_ulaw_rest, dD "_law_vectors" s_ulaw_vectors, dD "_law_other" s_ulaw_other, dD "_law_spans" s_ulaw_spans, dD "_law_lies" s_ulaw_lies, dD "law" s_law]
abbrev R : PySem.W.OpenRow := PySem.W.OpenLaw.row PySem.Challenge.rw_costsexplained_k03_reduced_bases_of_spac
abbrev hk : PySem.W.Hook := hookP 5 fa fn
def ob (s : PySem.W.SharedT) : AlP := obsPG 5 fa fn (HandSHeadRun.getT s)
theorem ob_eq (s : PySem.W.SharedT) : ob s = hk.obs s.abs := obsPG_eq (HandSHeadRun.getT_eq s)
def nm0 : List Str := ["__name__", "content", "primitive", "pivot_of", "clear", "echelon", "reduce_by", "_law_mix", "_law_row", "_law_is_whole", "_law_is_tuple", "_law_common", "_law_primitive", "_law_number", "_law_mixed", "_law_clear", "_law_reduced", "_law_pivot", "_law_rest", "_law_vectors", "_law_other", "_law_spans", "_law_lies"]
def loose : List Str := nm0
def qv : Program := PySem.W.view R.prog [0, 25]
theorem run (w : World) : HandSHeadRun.RunEqI R qv hk ob 100000 loose w := by
  unfold HandSHeadRun.RunEqI
  kernel_rfl
theorem lk {x y : Str} {b b' : Bool} {r : List (Str × Bool)} (h : List.lookup x ((y, b) :: r) = some b') : (x = y ∧ b' = b) ∨ List.lookup x r = some b' := by
  unfold List.lookup at h
  split at h
  · rename_i e
    exact .inl ⟨eq_of_beq e, (Option.some.inj h).symm⟩
  · exact .inr h
theorem facts (hlaw : ∀ ns : List Int, ns.length ≤ 63 → f_law [.rol (ns.map D.int)] = .ok (.bl true)) {P : Program} {w : World} {K : Frg} {h : Heap} {mg : Mg} {f : Addr} (X : K.In h) (G : h.Ns mainGlobals mg) (hfa : mg ("law" : Str) = some (.ref f)) (c : SaysP fa fn K) :
    ∃ fd : FuncData, (∀ (s : Shared) (v : Value), BindsTo s fd ⟨[v], []⟩ [("script", v)]) ∧ ∀ base : Heap, K.In base → base.Ns mainGlobals mg → FnOk P w K mg base CX0 6 f fd ["script"] (spLaw K) := by
  obtain ⟨fd_content, F_content⟩ := c.def_ 0 (d := dD "content" s_content) rfl
  obtain ⟨fd_primitive, F_primitive⟩ := c.def_ 1 (d := dD "primitive" s_primitive) rfl
  obtain ⟨fd_pivot_of, F_pivot_of⟩ := c.def_ 2 (d := dD "pivot_of" s_pivot_of) rfl
  obtain ⟨fd_clear, F_clear⟩ := c.def_ 3 (d := dD "clear" s_clear) rfl
  obtain ⟨fd_echelon, F_echelon⟩ := c.def_ 4 (d := dD "echelon" s_echelon) rfl
  obtain ⟨fd_reduce_by, F_reduce_by⟩ := c.def_ 5 (d := dD "reduce_by" s_reduce_by) rfl
  obtain ⟨fd_ulaw_mix, F_ulaw_mix⟩ := c.def_ 6 (d := dD "_law_mix" s_ulaw_mix) rfl
  obtain ⟨fd_ulaw_row, F_ulaw_row⟩ := c.def_ 7 (d := dD "_law_row" s_ulaw_row) rfl
  obtain ⟨fd_ulaw_is_whole, F_ulaw_is_whole⟩ := c.def_ 8 (d := dD "_law_is_whole" s_ulaw_is_whole) rfl
  obtain ⟨fd_ulaw_is_tuple, F_ulaw_is_tuple⟩ := c.def_ 9 (d := dD "_law_is_tuple" s_ulaw_is_tuple) rfl
  obtain ⟨fd_ulaw_common, F_ulaw_common⟩ := c.def_ 10 (d := dD "_law_common" s_ulaw_common) rfl
  obtain ⟨fd_ulaw_primitive, F_ulaw_primitive⟩ := c.def_ 11 (d := dD "_law_primitive" s_ulaw_primitive) rfl
  obtain ⟨fd_ulaw_number, F_ulaw_number⟩ := c.def_ 12 (d := dD "_law_number" s_ulaw_number) rfl
  obtain ⟨fd_ulaw_mixed, F_ulaw_mixed⟩ := c.def_ 13 (d := dD "_law_mixed" s_ulaw_mixed) rfl
  obtain ⟨fd_ulaw_clear, F_ulaw_clear⟩ := c.def_ 14 (d := dD "_law_clear" s_ulaw_clear) rfl
  obtain ⟨fd_ulaw_reduced, F_ulaw_reduced⟩ := c.def_ 15 (d := dD "_law_reduced" s_ulaw_reduced) rfl
  obtain ⟨fd_ulaw_pivot, F_ulaw_pivot⟩ := c.def_ 16 (d := dD "_law_pivot" s_ulaw_pivot) rfl
  obtain ⟨fd_ulaw_rest, F_ulaw_rest⟩ := c.def_ 17 (d := dD "_law_rest" s_ulaw_rest) rfl
  obtain ⟨fd_ulaw_vectors, F_ulaw_vectors⟩ := c.def_ 18 (d := dD "_law_vectors" s_ulaw_vectors) rfl
  obtain ⟨fd_ulaw_other, F_ulaw_other⟩ := c.def_ 19 (d := dD "_law_other" s_ulaw_other) rfl
  obtain ⟨fd_ulaw_spans, F_ulaw_spans⟩ := c.def_ 20 (d := dD "_law_spans" s_ulaw_spans) rfl
  obtain ⟨fd_ulaw_lies, F_ulaw_lies⟩ := c.def_ 21 (d := dD "_law_lies" s_ulaw_lies) rfl
  obtain ⟨fd_law, F_law⟩ := c.def_ 22 (d := dD "law" s_law) rfl
  have e := hfa.symm.trans (He.glo_ok X G (c.fact 22 (f := (He.Fa.glo "law").ok) rfl))
  cases e
  have B : Bi mg := ⟨He.free_ok X G (c.fact 23 (f := (He.Fa.free "abs").ok) rfl), He.free_ok X G (c.fact 24 (f := (He.Fa.free "all").ok) rfl), He.free_ok X G (c.fact 25 (f := (He.Fa.free "bool").ok) rfl), He.free_ok X G (c.fact 26 (f := (He.Fa.free "enumerate").ok) rfl), PySem.W.mg_of X G (He.eqO_ok (c.fact 27 rfl)), He.free_ok X G (c.fact 28 (f := (He.Fa.free "int").ok) rfl), He.free_ok X G (c.fact 29 (f := (He.Fa.free "isinstance").ok) rfl), He.free_ok X G (c.fact 30 (f := (He.Fa.free "len").ok) rfl), He.free_ok X G (c.fact 31 (f := (He.Fa.free "list").ok) rfl), He.free_ok X G (c.fact 32 (f := (He.Fa.free "range").ok) rfl), He.free_ok X G (c.fact 33 (f := (He.Fa.free "tuple").ok) rfl), He.free_ok X G (c.fact 34 (f := (He.Fa.free "zip").ok) rfl)⟩
  have Z : Ez K mg := ⟨⟩
  have D_content := fun base => df_mk (P := P) (w := w) (base := base) (st := s_content) X G F_content (c.fact 0 (f := (He.Fa.glo "content").ok) rfl) (F_content.bindsN (ps := ["vector"]) fun _ _ _ _ _ _ us hl => match us, hl with | [_], _ => rfl) (ok_content (fun_of F_content) B Z)
  have D_primitive := fun base => df_mk (P := P) (w := w) (base := base) (st := s_primitive) X G F_primitive (c.fact 1 (f := (He.Fa.glo "primitive").ok) rfl) (F_primitive.bindsN (ps := ["vector"]) fun _ _ _ _ _ _ us hl => match us, hl with | [_], _ => rfl) (ok_primitive (fun_of F_primitive) B Z (D_content base))
  have D_pivot_of := fun base => df_mk (P := P) (w := w) (base := base) (st := s_pivot_of) X G F_pivot_of (c.fact 2 (f := (He.Fa.glo "pivot_of").ok) rfl) (F_pivot_of.bindsN (ps := ["vector"]) fun _ _ _ _ _ _ us hl => match us, hl with | [_], _ => rfl) (ok_pivot_of (fun_of F_pivot_of) B Z)
  have D_clear := fun base => df_mk (P := P) (w := w) (base := base) (st := s_clear) X G F_clear (c.fact 3 (f := (He.Fa.glo "clear").ok) rfl) (F_clear.bindsN (ps := ["vector", "top", "place"]) fun _ _ _ _ _ _ us hl => match us, hl with | [_, _, _], _ => rfl) (ok_clear (fun_of F_clear) B Z (D_primitive base))
  have D_echelon := fun base => df_mk (P := P) (w := w) (base := base) (st := s_echelon) X G F_echelon (c.fact 4 (f := (He.Fa.glo "echelon").ok) rfl) (F_echelon.bindsN (ps := ["vectors", "width"]) fun _ _ _ _ _ _ us hl => match us, hl with | [_, _], _ => rfl) (ok_echelon (fun_of F_echelon) B Z (D_primitive base) (D_clear base))
  have D_reduce_by := fun base => df_mk (P := P) (w := w) (base := base) (st := s_reduce_by) X G F_reduce_by (c.fact 5 (f := (He.Fa.glo "reduce_by").ok) rfl) (F_reduce_by.bindsN (ps := ["vector", "basis"]) fun _ _ _ _ _ _ us hl => match us, hl with | [_, _], _ => rfl) (ok_reduce_by (fun_of F_reduce_by) B Z (D_pivot_of base) (D_clear base) (D_primitive base))
  have D_ulaw_mix := fun base => df_mk (P := P) (w := w) (base := base) (st := s_ulaw_mix) X G F_ulaw_mix (c.fact 6 (f := (He.Fa.glo "_law_mix").ok) rfl) (F_ulaw_mix.bindsN (ps := ["cell", "k"]) fun _ _ _ _ _ _ us hl => match us, hl with | [_, _], _ => rfl) (ok_ulaw_mix (fun_of F_ulaw_mix) B Z)
  have D_ulaw_row := fun base => df_mk (P := P) (w := w) (base := base) (st := s_ulaw_row) X G F_ulaw_row (c.fact 7 (f := (He.Fa.glo "_law_row").ok) rfl) (F_ulaw_row.bindsN (ps := ["script", "at", "many"]) fun _ _ _ _ _ _ us hl => match us, hl with | [_, _, _], _ => rfl) (ok_ulaw_row (fun_of F_ulaw_row) B Z (D_ulaw_mix base))
  have D_ulaw_is_whole := fun base => df_mk (P := P) (w := w) (base := base) (st := s_ulaw_is_whole) X G F_ulaw_is_whole (c.fact 8 (f := (He.Fa.glo "_law_is_whole").ok) rfl) (F_ulaw_is_whole.bindsN (ps := ["value"]) fun _ _ _ _ _ _ us hl => match us, hl with | [_], _ => rfl) (ok_ulaw_is_whole (fun_of F_ulaw_is_whole) B Z)
  have D_ulaw_is_tuple := fun base => df_mk (P := P) (w := w) (base := base) (st := s_ulaw_is_tuple) X G F_ulaw_is_tuple (c.fact 9 (f := (He.Fa.glo "_law_is_tuple").ok) rfl) (F_ulaw_is_tuple.bindsN (ps := ["value", "size"]) fun _ _ _ _ _ _ us hl => match us, hl with | [_, _], _ => rfl) (ok_ulaw_is_tuple (fun_of F_ulaw_is_tuple) B Z (D_ulaw_is_whole base))
  have D_ulaw_common := fun base => df_mk (P := P) (w := w) (base := base) (st := s_ulaw_common) X G F_ulaw_common (c.fact 10 (f := (He.Fa.glo "_law_common").ok) rfl) (F_ulaw_common.bindsN (ps := ["left", "right"]) fun _ _ _ _ _ _ us hl => match us, hl with | [_, _], _ => rfl) (ok_ulaw_common (fun_of F_ulaw_common) B Z)
  have D_ulaw_primitive := fun base => df_mk (P := P) (w := w) (base := base) (st := s_ulaw_primitive) X G F_ulaw_primitive (c.fact 11 (f := (He.Fa.glo "_law_primitive").ok) rfl) (F_ulaw_primitive.bindsN (ps := ["vector"]) fun _ _ _ _ _ _ us hl => match us, hl with | [_], _ => rfl) (ok_ulaw_primitive (fun_of F_ulaw_primitive) B Z (D_ulaw_common base))
  have D_ulaw_number := fun base => df_mk (P := P) (w := w) (base := base) (st := s_ulaw_number) X G F_ulaw_number (c.fact 12 (f := (He.Fa.glo "_law_number").ok) rfl) (F_ulaw_number.bindsN (ps := ["cells", "limit", "sparse"]) fun _ _ _ _ _ _ us hl => match us, hl with | [_, _, _], _ => rfl) (ok_ulaw_number (fun_of F_ulaw_number) B Z)
  have D_ulaw_mixed := fun base => df_mk (P := P) (w := w) (base := base) (st := s_ulaw_mixed) X G F_ulaw_mixed (c.fact 13 (f := (He.Fa.glo "_law_mixed").ok) rfl) (F_ulaw_mixed.bindsN (ps := ["first", "left", "second", "right"]) fun _ _ _ _ _ _ us hl => match us, hl with | [_, _, _, _], _ => rfl) (ok_ulaw_mixed (fun_of F_ulaw_mixed) B Z)
  have D_ulaw_clear := fun base => df_mk (P := P) (w := w) (base := base) (st := s_ulaw_clear) X G F_ulaw_clear (c.fact 14 (f := (He.Fa.glo "_law_clear").ok) rfl) (F_ulaw_clear.bindsN (ps := ["vector", "top", "place"]) fun _ _ _ _ _ _ us hl => match us, hl with | [_, _, _], _ => rfl) (ok_ulaw_clear (fun_of F_ulaw_clear) B Z (D_ulaw_primitive base))
  have D_ulaw_reduced := fun base => df_mk (P := P) (w := w) (base := base) (st := s_ulaw_reduced) X G F_ulaw_reduced (c.fact 15 (f := (He.Fa.glo "_law_reduced").ok) rfl) (F_ulaw_reduced.bindsN (ps := ["vectors", "width"]) fun _ _ _ _ _ _ us hl => match us, hl with | [_, _], _ => rfl) (ok_ulaw_reduced (fun_of F_ulaw_reduced) B Z (D_ulaw_primitive base) (D_ulaw_clear base))
  have D_ulaw_pivot := fun base => df_mk (P := P) (w := w) (base := base) (st := s_ulaw_pivot) X G F_ulaw_pivot (c.fact 16 (f := (He.Fa.glo "_law_pivot").ok) rfl) (F_ulaw_pivot.bindsN (ps := ["vector"]) fun _ _ _ _ _ _ us hl => match us, hl with | [_], _ => rfl) (ok_ulaw_pivot (fun_of F_ulaw_pivot) B Z)
  have D_ulaw_rest := fun base => df_mk (P := P) (w := w) (base := base) (st := s_ulaw_rest) X G F_ulaw_rest (c.fact 17 (f := (He.Fa.glo "_law_rest").ok) rfl) (F_ulaw_rest.bindsN (ps := ["vector", "basis"]) fun _ _ _ _ _ _ us hl => match us, hl with | [_, _], _ => rfl) (ok_ulaw_rest (fun_of F_ulaw_rest) B Z (D_ulaw_pivot base) (D_ulaw_clear base) (D_ulaw_primitive base))
  have D_ulaw_vectors := fun base => df_mk (P := P) (w := w) (base := base) (st := s_ulaw_vectors) X G F_ulaw_vectors (c.fact 18 (f := (He.Fa.glo "_law_vectors").ok) rfl) (F_ulaw_vectors.bindsN (ps := ["script", "turns", "width"]) fun _ _ _ _ _ _ us hl => match us, hl with | [_, _, _], _ => rfl) (ok_ulaw_vectors (fun_of F_ulaw_vectors) B Z (D_ulaw_row base) (D_ulaw_number base) (D_ulaw_mixed base))
  have D_ulaw_other := fun base => df_mk (P := P) (w := w) (base := base) (st := s_ulaw_other) X G F_ulaw_other (c.fact 19 (f := (He.Fa.glo "_law_other").ok) rfl) (F_ulaw_other.bindsN (ps := ["vectors", "cells", "width"]) fun _ _ _ _ _ _ us hl => match us, hl with | [_, _, _], _ => rfl) (ok_ulaw_other (fun_of F_ulaw_other) B Z (D_ulaw_mixed base))
  have D_ulaw_spans := fun base => df_mk (P := P) (w := w) (base := base) (st := s_ulaw_spans) X G F_ulaw_spans (c.fact 20 (f := (He.Fa.glo "_law_spans").ok) rfl) (F_ulaw_spans.bindsN (ps := ["vectors", "width", "due"]) fun _ _ _ _ _ _ us hl => match us, hl with | [_, _, _], _ => rfl) (ok_ulaw_spans (fun_of F_ulaw_spans) B Z (D_echelon base) (D_ulaw_is_tuple base))
  have D_ulaw_lies := fun base => df_mk (P := P) (w := w) (base := base) (st := s_ulaw_lies) X G F_ulaw_lies (c.fact 21 (f := (He.Fa.glo "_law_lies").ok) rfl) (F_ulaw_lies.bindsN (ps := ["vector", "due"]) fun _ _ _ _ _ _ us hl => match us, hl with | [_, _], _ => rfl) (ok_ulaw_lies (fun_of F_ulaw_lies) B Z (D_reduce_by base) (D_ulaw_rest base) (D_ulaw_is_tuple base))
  exact ⟨fd_law, fun s v => FunD.bindsA (ps := ["script"]) F_law (fun _ _ _ _ _ _ us hl => match us, hl with | [_], _ => rfl) s [v] rfl, fun base _ _ => law_ok (ok_law (fun_of F_law) B Z (D_ulaw_row base) (D_ulaw_vectors base) (D_ulaw_reduced base) (D_ulaw_other base) (D_ulaw_spans base) (D_ulaw_number base) (D_ulaw_mixed base) (D_ulaw_lies base) (D_reduce_by base) (D_ulaw_rest base) (D_ulaw_is_tuple base) (D_ulaw_primitive base)) hlaw⟩
end W_k03

open PySem PySem.W PySem.Calls PyProof.Rows
set_option maxRecDepth 100000 in
set_option maxHeartbeats 0 in
theorem PySem.Challenge.cw_costsexplained_k03_reduced_bases_of_spac_holds : PySem.Challenge.rw_costsexplained_k03_reduced_bases_of_spac.Holds := by
  w_on; o_law
  refine HandSHeadRun.head_imp (r := OpenLaw.row PySem.Challenge.rw_costsexplained_k03_reduced_bases_of_spac) (q := W_k03.qv) (H := W_k03.hk) (ob := W_k03.ob) (M := 100000) (loose := W_k03.loose) (d := HandSHeadRun.topDef (OpenLaw.row PySem.Challenge.rw_costsexplained_k03_reduced_bases_of_spac).prog 25) (kwd := []) W_k03.ob_eq
    W_k03.run (by kernel_rfl) (by kernel_rfl) (by kernel_rfl) (by rfl) (by first | assumption | decide +kernel) (by decide +kernel) ⟨rfl, rfl, rfl, rfl, rfl, by decide +kernel⟩ ?hw ?hc
  case hw => w_witness2
  case hc =>
    refine L2.walk_ofE (l := PySem.Challenge.rw_costsexplained_k03_reduced_bases_of_spac) (n := 63) (k := 6) (x := "script") (CX := L2.CX0) rfl (by decide) (by kernel_rfl) ⟨rfl, by decide, by decide⟩ ?F (fun _ _ _ _ z => z)
    intro w mg fa h Y G hmg0
    obtain ⟨K, KX, c⟩ := Y
    have hmg : mg ("law" : PySem.Str) = some (.ref fa) := by
      have e : (HandSHeadRun.topDef (OpenLaw.row PySem.Challenge.rw_costsexplained_k03_reduced_bases_of_spac).prog 25).name = ("law" : PySem.Str) := by kernel_rfl
      rw [← e]
      exact hmg0
    obtain ⟨fd, hb, hF⟩ := W_k03.facts M_k03.law_true (P := (PySem.Challenge.rw_costsexplained_k03_reduced_bases_of_spac).prog) (w := w) KX G hmg c
    exact ⟨K, fd, PF.spLaw K, KX, hb, fun H a ns hl _ hS => ⟨a, ns, rfl, hS, hl, fun _ => rfl⟩, hF⟩
