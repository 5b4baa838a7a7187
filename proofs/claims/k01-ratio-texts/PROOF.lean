import PyProof.Rows.All
import Wide.All
import OpenK.AllK
import Wide.FinOn
import HandS.ForMost
import HandS.ForExc
import HandS.Wide
import HandS.WideBits
import HandS.Gcd
import HandS.IsInst
import HandS.ExcIs
import HandS.FStr
import HandS.TupAny
import HandS.TupMul
import HandS.Deep
import HandS.SortInts
import Lean
import HandS.Defaults
import HandS.Head0
import HandS.Head1
import HandS.Head2
import HandS.Head3
import HandS.HeadEnd
import HandS.HeadHook1
import HandS.HeadHook2
import HandS.Zip
import KE.GoesMore
import KE.GoesEnum
import HandS.Style
import HandS.RaiseMore
import HandS.ReplaceLit
import HandS.Text
import PyProof.StrOps2
import HandS.Codes
import HandS.ReplaceList
import PySem.Challenge.RW_costsexplained_k01_ratio_texts_read_back
set_option Elab.async false
set_option linter.all false
set_option maxRecDepth 100000
set_option maxHeartbeats 4000000
/-! # PF: a def's body read as a function on data. Data (D) are values without a heap; a heap is split in a shared part (never changed) and lists that one slot alone holds. -/
namespace PF
open PySem PySem.Spec L2

inductive D where
  | non | bl (b : Bool) | int (i : Int) | str (x : Str) | lst (xs : List D) | rol (xs : List D) | tup (xs : List D) | obj (c : Str) (ns : List Str) (vs : List D)
  | fr (xs : List D)

mutual
/-- the value v stands for the data d, in the heap H -/
inductive Rp (K : PySem.W.Frag) (mg : Str → Option Value) (H : Hp) : V → D → Prop
  | non : Rp K mg H .non .non
  | bl (b : Bool) : Rp K mg H (.bl b) (.bl b)
  | int (i : Int) : Rp K mg H (.int i) (.int i)
  | str (x : Str) : Rp K mg H (.str x) (.str x)
  | lst {a : Addr} {xs : List V} {ds : List D} : H a = some (.lst xs) → RpA K mg H xs ds → Rp K mg H (.ref a) (.lst ds)
  | rol {a : Addr} {xs : List V} {ds : List D} : SqL K H a xs → RpA K mg H xs ds → Rp K mg H (.ref a) (.rol ds)
  | tup {a : Addr} {xs : List V} {ds : List D} : SqT K H a xs → RpA K mg H xs ds → Rp K mg H (.ref a) (.tup ds)
  | obj {a C dx : Addr} {fs : List (Str × V)} {c : Str} {ns : List Str} {xs : List V} {ds : List D} : H a = some (.ins C dx fs) → mg c = some (.ref C) → fs = ns.zip xs → ns.length = xs.length → RpA K mg H xs ds → Rp K mg H (.ref a) (.obj c ns ds)
inductive RpA (K : PySem.W.Frag) (mg : Str → Option Value) (H : Hp) : List V → List D → Prop
  | nil : RpA K mg H [] []
  | cons {v : V} {vs : List V} {d : D} {ds : List D} : Rp K mg H v d → RpA K mg H vs ds → RpA K mg H (v :: vs) (d :: ds)
end

section
variable {K : PySem.W.Frag} {mg : Str → Option Value} {H H' : Hp}
theorem same_rd {a : Addr} {u : HO} (e : Same H H') (h : Rd H a u) : Rd H' a u := by
  rcases h with h | ⟨o, h⟩
  · exact .inl (e _ _ h)
  · exact .inr ⟨o, e _ _ h⟩
theorem same_l {a : Addr} {xs : List V} (e : Same H H') (h : SqL K H a xs) : SqL K H' a xs := by
  rcases h with h | h
  · exact .inl (same_rd e h)
  · exact .inr h
theorem same_t {a : Addr} {xs : List V} (e : Same H H') (h : SqT K H a xs) : SqT K H' a xs := by
  rcases h with h | h
  · exact .inl (same_rd e h)
  · exact .inr h
mutual
theorem Rp.up (e : Same H H') : ∀ (d : D) (v : V), Rp K mg H v d → Rp K mg H' v d
  | .non, _, h => by cases h; exact .non
  | .bl b, _, h => by cases h; exact .bl b
  | .int i, _, h => by cases h; exact .int i
  | .str x, _, h => by cases h; exact .str x
  | .lst ds, _, h => by
    cases h with
    | lst a b => exact .lst (e _ _ a) (RpA.up e ds _ b)
  | .rol ds, _, h => by
    cases h with
    | rol a b => exact .rol (same_l e a) (RpA.up e ds _ b)
  | .tup ds, _, h => by
    cases h with
    | tup a b => exact .tup (same_t e a) (RpA.up e ds _ b)
  | .obj c ns ds, _, h => by
    cases h with
    | obj a b c d f => exact .obj (e _ _ a) b c d (RpA.up e ds _ f)
  | .fr ds, _, h => by cases h
theorem RpA.up (e : Same H H') : ∀ (ds : List D) (vs : List V), RpA K mg H vs ds → RpA K mg H' vs ds
  | [], _, h => by cases h; exact .nil
  | d :: ds, _, h => by
    cases h with
    | cons a b => exact .cons (Rp.up e d _ a) (RpA.up e ds _ b)
end
theorem RpA.len : ∀ {vs : List V} {ds : List D}, RpA K mg H vs ds → vs.length = ds.length
  | _, _, .nil => rfl
  | _, _, .cons _ t => by simp [RpA.len t]
theorem RpA.app : ∀ {vs ws : List V} {ds es : List D}, RpA K mg H vs ds → RpA K mg H ws es → RpA K mg H (vs ++ ws) (ds ++ es)
  | _, _, _, _, .nil, s => s
  | _, _, _, _, .cons r t, s => .cons r (t.app s)
theorem RpA.get : ∀ {vs : List V} {ds : List D} {i : Nat} {d : D}, RpA K mg H vs ds → ds[i]? = some d → ∃ v, vs[i]? = some v ∧ Rp K mg H v d
  | _, _, _, _, .nil, e => by simp at e
  | _, _, 0, _, .cons r _, e => by simp at e; subst e; exact ⟨_, rfl, r⟩
  | _, _, i + 1, d, .cons _ t, e => by
    obtain ⟨v, h1, h2⟩ := RpA.get (i := i) t (by simpa using e)
    exact ⟨v, by simpa using h1, h2⟩
theorem RpA.getV : ∀ {vs : List V} {ds : List D} {i : Nat} {v : V}, RpA K mg H vs ds → vs[i]? = some v → ∃ d, ds[i]? = some d ∧ Rp K mg H v d
  | _, _, _, _, .nil, e => by simp at e
  | _, _, 0, _, .cons r _, e => by simp at e; subst e; exact ⟨_, rfl, r⟩
  | _, _, i + 1, v, .cons _ t, e => by
    obtain ⟨d, h1, h2⟩ := RpA.getV (i := i) t (by simpa using e)
    exact ⟨d, by simpa using h1, h2⟩
theorem RpA.take : ∀ {vs : List V} {ds : List D} (n : Nat), RpA K mg H vs ds → RpA K mg H (vs.take n) (ds.take n)
  | _, _, 0, _ => .nil
  | _, _, n + 1, .nil => .nil
  | _, _, n + 1, .cons r t => .cons r (t.take n)
theorem RpA.drop : ∀ {vs : List V} {ds : List D} (n : Nat), RpA K mg H vs ds → RpA K mg H (vs.drop n) (ds.drop n)
  | _, _, 0, r => r
  | _, _, n + 1, .nil => .nil
  | _, _, n + 1, .cons r t => t.drop n
theorem RpA.set {v : V} {d : D} (r : Rp K mg H v d) : ∀ {vs : List V} {ds : List D} (i : Nat), RpA K mg H vs ds → RpA K mg H (vs.set i v) (ds.set i d)
  | _, _, _, .nil => .nil
  | _, _, 0, .cons _ t => .cons r t
  | _, _, i + 1, .cons q t => .cons q (t.set r i)
theorem RpA.erase : ∀ {vs : List V} {ds : List D} (i : Nat), RpA K mg H vs ds → RpA K mg H (vs.eraseIdx i) (ds.eraseIdx i)
  | _, _, _, .nil => .nil
  | _, _, 0, .cons _ t => t
  | _, _, i + 1, .cons q t => .cons q (t.erase i)
theorem RpA.rev : ∀ {vs : List V} {ds : List D}, RpA K mg H vs ds → RpA K mg H vs.reverse ds.reverse
  | _, _, .nil => .nil
  | _, _, .cons q t => by
    rw [List.reverse_cons, List.reverse_cons]
    exact t.rev.app (.cons q .nil)
theorem RpA.ints : ∀ {vs : List V} {ns : List Int}, RpA K mg H vs (ns.map D.int) → vs = ns.map V.int
  | _, [], h => by cases h; rfl
  | _, n :: ns, h => by
    cases h with
    | cons a b => cases a; rw [RpA.ints b]; rfl
theorem RpA.bls : ∀ {vs : List V} {ns : List Bool}, RpA K mg H vs (ns.map D.bl) → vs = ns.map V.bl
  | _, [], h => by cases h; rfl
  | _, n :: ns, h => by
    cases h with
    | cons a b => cases a; rw [RpA.bls b]; rfl
theorem RpA.strs : ∀ {vs : List V} {ns : List Str}, RpA K mg H vs (ns.map D.str) → vs = ns.map V.str
  | _, [], h => by cases h; rfl
  | _, n :: ns, h => by
    cases h with
    | cons a b => cases a; rw [RpA.strs b]; rfl
theorem RpA.of_ints : ∀ (ns : List Int), RpA K mg H (ns.map V.int) (ns.map D.int)
  | [] => .nil
  | n :: ns => .cons (.int n) (RpA.of_ints ns)
theorem RpA.of_strs : ∀ (ns : List Str), RpA K mg H (ns.map V.str) (ns.map D.str)
  | [] => .nil
  | n :: ns => .cons (.str n) (RpA.of_strs ns)
end

/-! ### data as the library's data, for == -/
mutual
def D.py : D → PyData
  | .non => .none
  | .bl b => .bool b
  | .int i => .int i
  | .str x => .str x
  | .lst ds => .list (D.pyA ds)
  | .rol ds => .list (D.pyA ds)
  | .tup ds => .tuple (D.pyA ds)
  | .obj _ _ _ => .dict []
  | .fr _ => .dict []
def D.pyA : List D → List PyData
  | [] => []
  | d :: ds => d.py :: D.pyA ds
end
mutual
theorem Rp.dp {K : PySem.W.Frag} {mg : Str → Option Value} {H : Hp} : ∀ (d : D) (v : V), d.py.canLay0 = true → Rp K mg H v d → Dp K H v d.py
  | .non, _, _, h => by cases h; exact .non
  | .bl b, _, _, h => by cases h; exact .bl b
  | .int i, _, _, h => by cases h; exact .int i
  | .str x, _, _, h => by cases h; exact .str x
  | .lst ds, _, c, h => by
    cases h with
    | lst a b => exact .lst (SqL.of a) (RpA.dp ds _ (by simpa [D.py, PyData.canLay0] using c) b)
  | .rol ds, _, c, h => by
    cases h with
    | rol a b => exact .lst a (RpA.dp ds _ (by simpa [D.py, PyData.canLay0] using c) b)
  | .tup ds, _, c, h => by
    cases h with
    | tup a b => exact .tup a (RpA.dp ds _ (by simpa [D.py, PyData.canLay0] using c) b)
  | .obj c ns ds, _, c', h => by simp [D.py, PyData.canLay0] at c'
  | .fr ds, _, c', h => by cases h
theorem RpA.dp {K : PySem.W.Frag} {mg : Str → Option Value} {H : Hp} : ∀ (ds : List D) (vs : List V), PyData.canLayAll0 (D.pyA ds) = true → RpA K mg H vs ds → DpAll K H vs (D.pyA ds)
  | [], _, _, h => by cases h; exact .nil
  | d :: ds, _, c, h => by
    have c' : d.py.canLay0 = true ∧ PyData.canLayAll0 (D.pyA ds) = true := by simpa [D.pyA, PyData.canLayAll0] using c
    cases h with
    | cons a b => exact .cons (Rp.dp d _ c'.1 a) (RpA.dp ds _ c'.2 b)
end

/-! ### results -/
/-- a condition as a Bool that nothing unfolds -/
noncomputable def cb (p : Prop) : Bool := @decide p (Classical.propDecidable p)
theorem cb_t {p : Prop} (h : p) : cb p = true := @decide_eq_true p (Classical.propDecidable p) h
theorem cb_f {p : Prop} (h : ¬ p) : cb p = false := @decide_eq_false p (Classical.propDecidable p) h
theorem of_cb {p : Prop} (h : cb p = true) : p := @of_decide_eq_true p (Classical.propDecidable p) h
@[simp] theorem cb_iff {p : Prop} : (cb p = true) = p := propext ⟨of_cb, cb_t⟩
@[simp] theorem cb_nif {p : Prop} : (cb p = false) = ¬ p := propext ⟨fun h q => (by rw [cb_t q] at h; cases h), cb_f⟩
theorem cb_dec {p : Prop} [Decidable p] : cb p = decide p := by
  by_cases h : p
  · rw [cb_t h, decide_eq_true h]
  · rw [cb_f h, decide_eq_false h]
/-- a value; an exception of the class named x with its fields; or: nothing is said -/
inductive Res (α : Type) where
  | ok (a : α) | exc (x : Str) (fs : List (Str × D)) | bad
def Res.bind {α β : Type} (r : Res α) (k : α → Res β) : Res β := match r with
  | .ok a => k a
  | .exc x fs => .exc x fs
  | .bad => .bad
instance : Monad Res where
  pure := .ok
  bind := Res.bind
@[simp] theorem Res.bind_ok {α β : Type} (a : α) (k : α → Res β) : (Res.ok a).bind k = k a := rfl
@[simp] theorem Res.bind_exc {α β : Type} (x : Str) (fs : List (Str × D)) (k : α → Res β) : (Res.exc x fs).bind k = .exc x fs := rfl
@[simp] theorem Res.bind_bad {α β : Type} (k : α → Res β) : (Res.bad : Res α).bind k = .bad := rfl

/-- a slot: nothing is known; a shared value; a list that this slot alone holds -/
inductive Cell where
  | e | v (d : D) | o (ds : List D) | xc (c : Str) (fs : List (Str × D))
abbrev Sl := List Cell
abbrev Frg := PySem.W.Frag
abbrev Mg := Str → Option Value
/-- what an exception carries -/
def Xd (K : Frg) (mg : Mg) (S H : Hp) (dx : Option Addr) (fs : List (Str × D)) : Prop := match dx with
  | none => fs = []
  | some a => ∃ (ns : List Str) (xs : List V) (ds : List D), fs = ns.zip ds ∧ (ns ≠ [] ∧ ns.length = xs.length) ∧ H a = some (.xd (ns.zip xs)) ∧ RpA K mg S xs ds
theorem Xd.keep {K : Frg} {mg : Mg} {S H S' H' : Hp} {dx : Option Addr} {fs : List (Str × D)} (s : Same S S') (k : ∀ a gs, H a = some (.xd gs) → H' a = some (.xd gs)) (h : Xd K mg S H dx fs) : Xd K mg S' H' dx fs := by
  cases dx with
  | none => exact h
  | some a =>
    obtain ⟨ns, xs, ds, h1, h2, h3, h4⟩ := h
    exact ⟨ns, xs, ds, h1, h2, k _ _ h3, h4.up s ds xs⟩
/-- the exception that an except suite holds: its address, its class, its dict -/
abbrev Hx := Option (Addr × Addr × Option Addr)

/-! ### heaps that grow -/
structure Gr (S H S' H' : Hp) : Prop where
  s : Same S S'
  h : Same H H'
  i : Same S' H'
  n : ∀ a, H a ≠ none → S a = none → S' a = none
theorem Gr.refl {S H : Hp} (i : Same S H) : Gr S H S H := ⟨Same.refl _, Same.refl _, i, fun _ _ e => e⟩
theorem Gr.trans {S H S1 H1 S2 H2 : Hp} (a : Gr S H S1 H1) (b : Gr S1 H1 S2 H2) : Gr S H S2 H2 :=
  ⟨a.s.trans b.s, a.h.trans b.h, b.i, fun x h e => b.n x (fun q => by
    cases r : H x with
    | none => exact h r
    | some o => rw [a.h x o r] at q; cases q) (a.n x h e)⟩
theorem same_new {H : Hp} {p : Addr} {o : HO} (h : H p = none) : Same H (upd H p o) := fun b u e => by
  rw [upd_ne (ne_of_none e h)]; exact e
theorem same_none {S H : Hp} {p : Addr} (i : Same S H) (h : H p = none) : S p = none := by
  cases e : S p with
  | none => rfl
  | some o => rw [i p o e] at h; cases h
/-- a new shared object -/
theorem Gr.new {S H : Hp} {p : Addr} {o : HO} (i : Same S H) (h : H p = none) : Gr S H (upd S p o) (upd H p o) :=
  ⟨same_new (same_none i h), same_new h, fun b u e => by
    by_cases q : b = p
    · subst q; rw [upd_same] at e ⊢; exact e
    · rw [upd_ne q] at e ⊢; exact i b u e, fun a ha e => by
    have q : a ≠ p := fun z => ha (z ▸ h)
    rw [upd_ne q]; exact e⟩
/-- a new object that is not shared -/
theorem Gr.lay {S H : Hp} {p : Addr} {o : HO} (i : Same S H) (h : H p = none) : Gr S H S (upd H p o) :=
  ⟨Same.refl _, same_new h, i.trans (same_new h), fun _ _ e => e⟩
/-- the heap alone grows -/
theorem Gr.heap {S H H' : Hp} (i : Same S H) (h : Same H H') : Gr S H S H' := ⟨Same.refl _, h, i.trans h, fun _ _ e => e⟩

/-- the base of a def's call: the heap and its shared part at the entry -/
structure Bs where
  H0 : Hp
  S0 : Hp
structure Rel (K : PySem.W.Frag) (mg : Str → Option Value) (hx : Hx) (b : Bs) (S : Hp) (ρ : Sl) (σ : St) (H : Hp) : Prop where
  s0 : Same b.S0 S
  sh : Same S H
  h0 : Same b.H0 H
  nw : ∀ a, b.H0 a ≠ none → b.S0 a = none → S a = none
  len : ρ.length = σ.length
  val : ∀ (i : Nat) (d : D), ρ[i]? = some (.v d) → ∃ v, σ[i]? = some (some v) ∧ Rp K mg S v d
  own : ∀ (i : Nat) (ds : List D), ρ[i]? = some (.o ds) → ∃ p vs, σ[i]? = some (some (.ref p)) ∧ H p = some (.lst vs) ∧ S p = none ∧ b.H0 p = none ∧ RpA K mg S vs ds
  xc : ∀ (i : Nat) (c : Str) (fs : List (Str × D)), ρ[i]? = some (.xc c fs) → ∃ a C dx, hx = some (a, C, dx) ∧ σ[i]? = some (some (.ref a)) ∧ mg c = some (.ref C) ∧ Xd K mg S H dx fs
  apart : ∀ (i j : Nat) (ds es : List D) (p : Addr), i ≠ j → ρ[i]? = some (.o ds) → ρ[j]? = some (.o es) → σ[i]? = some (some (.ref p)) → σ[j]? = some (some (.ref p)) → False
section
variable {K : PySem.W.Frag} {mg : Str → Option Value} {hx : Hx} {b : Bs} {S H S' H' : Hp} {ρ : Sl} {σ : St}
theorem Rel.grow (R : Rel K mg hx b S ρ σ H) (g : Gr S H S' H') : Rel K mg hx b S' ρ σ H' where
  s0 := R.s0.trans g.s
  sh := g.i
  h0 := R.h0.trans g.h
  nw := fun a h e => g.n a (fun q => by
    cases r : b.H0 a with
    | none => exact h r
    | some o => rw [R.h0 a o r] at q; cases q) (R.nw a h e)
  len := R.len
  val := fun i d e => let ⟨v, h1, h2⟩ := R.val i d e; ⟨v, h1, h2.up g.s d v⟩
  own := fun i ds e => let ⟨p, vs, h1, h2, h3, h4, h5⟩ := R.own i ds e
    ⟨p, vs, h1, g.h _ _ h2, g.n p (by rw [h2]; simp) h3, h4, h5.up g.s ds vs⟩
  xc := fun i c fs e => let ⟨a, C, dx, h1, h2, h3, h4⟩ := R.xc i c fs e; ⟨a, C, dx, h1, h2, h3, h4.keep g.s fun _ _ q => g.h _ _ q⟩
  apart := R.apart
theorem getset {α : Type} {l : List α} {i j : Nat} {x y : α} (h : (l.set i x)[j]? = some y) : (i = j ∧ x = y ∧ j < l.length) ∨ (i ≠ j ∧ l[j]? = some y) := by
  by_cases e : i = j
  · subst e
    rw [List.getElem?_set] at h
    simp only [if_true] at h
    split at h
    · rename_i q; exact .inl ⟨rfl, Option.some.inj h, q⟩
    · cases h
  · rw [List.getElem?_set_ne e] at h
    exact .inr ⟨e, h⟩
/-- a slot gets a shared value -/
theorem Rel.put (R : Rel K mg hx b S ρ σ H) {i : Nat} {v : V} {d : D} (r : Rp K mg S v d) : Rel K mg hx b S (ρ.set i (.v d)) (σ.set i (some v)) H where
  s0 := R.s0
  sh := R.sh
  h0 := R.h0
  nw := R.nw
  len := by simp [R.len]
  val := fun j d' e => by
    rcases getset e with ⟨rfl, h2, h3⟩ | ⟨h1, h2⟩
    · cases h2
      exact ⟨v, by rw [List.getElem?_set_self (by rw [← R.len]; exact h3)], r⟩
    · obtain ⟨v', h3, h4⟩ := R.val j d' h2
      exact ⟨v', by rw [List.getElem?_set_ne h1]; exact h3, h4⟩
  own := fun j ds e => by
    rcases getset e with ⟨rfl, h2, h3⟩ | ⟨h1, h2⟩
    · cases h2
    · obtain ⟨p, vs, h3, h4⟩ := R.own j ds h2
      exact ⟨p, vs, by rw [List.getElem?_set_ne h1]; exact h3, h4⟩
  xc := fun j c fs e => by
    rcases getset e with ⟨_, h2, _⟩ | ⟨h1, h2⟩
    · cases h2
    · obtain ⟨a, C, dx, q1, q2, q3⟩ := R.xc j c fs h2
      exact ⟨a, C, dx, q1, by rw [List.getElem?_set_ne h1]; exact q2, q3⟩
  apart := fun j k ds es p ne e1 e2 e3 e4 => by
    rcases getset e1 with ⟨_, h2, _⟩ | ⟨h1, h2⟩
    · cases h2
    · rcases getset e2 with ⟨_, h4, _⟩ | ⟨h3, h4⟩
      · cases h4
      · rw [List.getElem?_set_ne h1] at e3
        rw [List.getElem?_set_ne h3] at e4
        exact R.apart j k ds es p ne h2 h4 e3 e4
/-- a slot gets a new list of its own -/
theorem Rel.putO (R : Rel K mg hx b S ρ σ H) {i : Nat} {p : Addr} {vs : List V} {ds : List D} (h : H p = some (.lst vs)) (hs : S p = none) (h0 : b.H0 p = none) (hn : ∀ (j : Nat) (es : List D), ρ[j]? = some (.o es) → σ[j]? ≠ some (some (.ref p))) (r : RpA K mg S vs ds) : Rel K mg hx b S (ρ.set i (.o ds)) (σ.set i (some (.ref p))) H where
  s0 := R.s0
  sh := R.sh
  h0 := R.h0
  nw := R.nw
  len := by simp [R.len]
  val := fun j d' e => by
    rcases getset e with ⟨rfl, h2, h3⟩ | ⟨h1, h2⟩
    · cases h2
    · obtain ⟨v', h3, h4⟩ := R.val j d' h2
      exact ⟨v', by rw [List.getElem?_set_ne h1]; exact h3, h4⟩
  own := fun j es e => by
    rcases getset e with ⟨rfl, h2, h3⟩ | ⟨h1, h2⟩
    · cases h2
      exact ⟨p, vs, by rw [List.getElem?_set_self (by rw [← R.len]; exact h3)], h, hs, h0, r⟩
    · obtain ⟨p, vs, h3, h4⟩ := R.own j es h2
      exact ⟨p, vs, by rw [List.getElem?_set_ne h1]; exact h3, h4⟩
  xc := fun j c fs e => by
    rcases getset e with ⟨_, h2, _⟩ | ⟨h1, h2⟩
    · cases h2
    · obtain ⟨a, C, dx, q1, q2, q3⟩ := R.xc j c fs h2
      exact ⟨a, C, dx, q1, by rw [List.getElem?_set_ne h1]; exact q2, q3⟩
  apart := fun j k ds es q ne e1 e2 e3 e4 => by
    rcases getset e1 with ⟨j1, _, h3⟩ | ⟨h1, h2⟩
    · rcases getset e2 with ⟨k1, _, _⟩ | ⟨h4, h5⟩
      · exact ne (j1.symm.trans k1)
      · subst j1
        rw [List.getElem?_set_self (by rw [← R.len]; exact h3)] at e3
        rw [List.getElem?_set_ne h4] at e4
        cases e3
        exact hn k es h5 e4
    · rw [List.getElem?_set_ne h1] at e3
      rcases getset e2 with ⟨k1, _, h3⟩ | ⟨h4, h5⟩
      · subst k1
        rw [List.getElem?_set_self (by rw [← R.len]; exact h3)] at e4
        cases e4
        exact hn j ds h2 e3
      · rw [List.getElem?_set_ne h4] at e4
        exact R.apart j k ds es q ne h2 h5 e3 e4
/-- nothing is known of a slot any more -/
theorem Rel.wipe1 (R : Rel K mg hx b S ρ σ H) {i : Nat} {x : Option V} : Rel K mg hx b S (ρ.set i .e) (σ.set i x) H where
  s0 := R.s0
  sh := R.sh
  h0 := R.h0
  nw := R.nw
  len := by simp [R.len]
  val := fun j d' e => by
    rcases getset e with ⟨_, h2, _⟩ | ⟨h1, h2⟩
    · cases h2
    · obtain ⟨v', h3, h4⟩ := R.val j d' h2
      exact ⟨v', by rw [List.getElem?_set_ne h1]; exact h3, h4⟩
  own := fun j ds e => by
    rcases getset e with ⟨_, h2, _⟩ | ⟨h1, h2⟩
    · cases h2
    · obtain ⟨p, vs, h3, h4⟩ := R.own j ds h2
      exact ⟨p, vs, by rw [List.getElem?_set_ne h1]; exact h3, h4⟩
  xc := fun j c fs e => by
    rcases getset e with ⟨_, h2, _⟩ | ⟨h1, h2⟩
    · cases h2
    · obtain ⟨a, C, dx, q1, q2, q3⟩ := R.xc j c fs h2
      exact ⟨a, C, dx, q1, by rw [List.getElem?_set_ne h1]; exact q2, q3⟩
  apart := fun j k ds es p ne e1 e2 e3 e4 => by
    rcases getset e1 with ⟨_, h2, _⟩ | ⟨h1, h2⟩
    · cases h2
    · rcases getset e2 with ⟨_, h4, _⟩ | ⟨h3, h4⟩
      · cases h4
      · rw [List.getElem?_set_ne h1] at e3
        rw [List.getElem?_set_ne h3] at e4
        exact R.apart j k ds es p ne h2 h4 e3 e4
/-- the list of slot i is changed in its place -/
theorem Rel.mut (R : Rel K mg hx b S ρ σ H) {i : Nat} {p : Addr} {vs : List V} {ds ds' : List D} (e : ρ[i]? = some (.o ds)) (es : σ[i]? = some (some (.ref p))) (r : RpA K mg S vs ds') : Rel K mg hx b S (ρ.set i (.o ds')) σ (upd H p (.lst vs)) := by
  obtain ⟨p', vs', q1, q2, q3, q4, q5⟩ := R.own i ds e
  rw [es] at q1
  cases q1
  have il : i < ρ.length := (List.getElem?_eq_some_iff.mp e).1
  refine ⟨R.s0, fun a o h => ?_, fun a o h => ?_, R.nw, by simp [R.len], fun j d' e' => ?_, fun j es' e' => ?_, fun j c fs e' => ?_, fun j k ds1 es1 q ne e1 e2 e3 e4 => ?_⟩
  · rw [upd_ne (fun z => by rw [z, q3] at h; cases h)]; exact R.sh a o h
  · rw [upd_ne (fun z => by rw [z, q4] at h; cases h)]; exact R.h0 a o h
  · rcases getset e' with ⟨_, h2, _⟩ | ⟨h1, h2⟩
    · cases h2
    · exact R.val j d' h2
  · rcases getset e' with ⟨rfl, h2, _⟩ | ⟨h1, h2⟩
    · cases h2
      exact ⟨p, vs, es, upd_same, q3, q4, r⟩
    · obtain ⟨p2, vs2, h3, h4, h5⟩ := R.own j es' h2
      refine ⟨p2, vs2, h3, ?_, h5⟩
      rw [upd_ne (fun z => by subst z; exact R.apart i j ds es' p2 h1 e h2 es h3)]
      exact h4
  · rcases getset e' with ⟨_, h2, _⟩ | ⟨h1, h2⟩
    · cases h2
    · obtain ⟨a, C, dx, z1, z2, z3, z4⟩ := R.xc j c fs h2
      exact ⟨a, C, dx, z1, z2, z3, z4.keep (Same.refl _) fun d gs z => by rw [upd_ne (fun w => by rw [w, q2] at z; cases z)]; exact z⟩
  · have old : ∀ (m : Nat) (ms : List D), (ρ.set i (.o ds'))[m]? = some (.o ms) → ∃ ms' : List D, ρ[m]? = some (.o ms') := fun m ms z => by
      rcases getset z with ⟨rfl, _, _⟩ | ⟨_, h2⟩
      · exact ⟨ds, e⟩
      · exact ⟨ms, h2⟩
    obtain ⟨a1, b1⟩ := old j ds1 e1
    obtain ⟨a2, b2⟩ := old k es1 e2
    exact R.apart j k a1 a2 q ne b1 b2 e3 e4
/-- the list of slot i is shared from now on -/
theorem Rel.freeze (R : Rel K mg hx b S ρ σ H) {i : Nat} {ds : List D} (e : ρ[i]? = some (.o ds)) : ∃ S', Same S S' ∧ Rel K mg hx b S' (ρ.set i (.v (.lst ds))) σ H := by
  obtain ⟨p, vs, q1, q2, q3, q4, q5⟩ := R.own i ds e
  have up : Same S (upd S p (.lst vs)) := same_new q3
  refine ⟨upd S p (.lst vs), up, R.s0.trans up, fun a o h => ?_, R.h0, fun a h e' => ?_, by simp [R.len], fun j d' e' => ?_, fun j es' e' => ?_, fun j c fs e' => ?_, fun j k ds1 es1 q ne e1 e2 e3 e4 => ?_⟩
  · by_cases z : a = p
    · subst z; rw [upd_same] at h; cases h; exact q2
    · rw [upd_ne z] at h; exact R.sh a o h
  · rw [upd_ne (fun z => by rw [z] at h; exact h q4)]
    exact R.nw a h e'
  · rcases getset e' with ⟨rfl, h2, _⟩ | ⟨h1, h2⟩
    · cases h2
      exact ⟨_, q1, .lst upd_same (q5.up up ds vs)⟩
    · obtain ⟨v', h3, h4⟩ := R.val j d' h2
      exact ⟨v', h3, h4.up up _ _⟩
  · rcases getset e' with ⟨_, h2, _⟩ | ⟨h1, h2⟩
    · cases h2
    · obtain ⟨p2, vs2, h3, h4, h5, h6, h7⟩ := R.own j es' h2
      refine ⟨p2, vs2, h3, h4, ?_, h6, h7.up up _ _⟩
      rw [upd_ne (fun z => by subst z; exact R.apart i j ds es' p2 h1 e h2 q1 h3)]
      exact h5
  · rcases getset e' with ⟨_, h2, _⟩ | ⟨h1, h2⟩
    · cases h2
    · obtain ⟨a, C, dx, z1, z2, z3, z4⟩ := R.xc j c fs h2
      exact ⟨a, C, dx, z1, z2, z3, z4.keep up fun _ _ z => z⟩
  · rcases getset e1 with ⟨_, h2, _⟩ | ⟨h1, h2⟩
    · cases h2
    · rcases getset e2 with ⟨_, h4, _⟩ | ⟨h3, h4⟩
      · cases h4
      · exact R.apart j k ds1 es1 q ne h2 h4 e3 e4
end
end PF

set_option Elab.async false
set_option linter.all false
set_option maxRecDepth 100000
set_option maxHeartbeats 4000000
namespace PF
open PySem PySem.Spec L2

abbrev RR (α β : Type) := Hp → Hp → Hp → α → β → Prop
def Po {α β : Type} (K : Frg) (mg : Mg) (R : RR α β) (W : WX) (S : Hp) (σ : L2.St) (H : Hp) (r : Res β) (Q : α → Hp → Prop) : Prop := match r with
  | .ok d => ∀ v S' H', Gr S H S' H' → R H S' H' v d → Q v H'
  | .exc x fs => ∀ S' H' C dx, Gr S H S' H' → mg x = some (.ref C) → Xd K mg S' H' dx fs → W (.ref C) dx σ H'
  | .bad => False
abbrev rrE (K : Frg) (mg : Mg) : RR V D := fun _ S _ v d => Rp K mg S v d
abbrev rrA (K : Frg) (mg : Mg) : RR (List V) (List D) := fun _ S _ v d => RpA K mg S v d
abbrev rrT : RR Bool Bool := fun _ _ _ b c => b = c
/-- an operand that is only read: a list may be a slot's own -/
def Rd1 (K : Frg) (mg : Mg) (S H : Hp) (v : V) (d : D) : Prop := match d with
  | .lst ds => ∃ (p : Addr) (vs : List V), v = .ref p ∧ H p = some (.lst vs) ∧ RpA K mg S vs ds
  | d => Rp K mg S v d
abbrev rrR (K : Frg) (mg : Mg) : RR V D := fun _ S H v d => Rd1 K mg S H v d
/-- a new list that nobody else holds -/
abbrev rrF (K : Frg) (mg : Mg) : RR V (List D) := fun H0 S H v ds => ∃ (p : Addr) (vs : List V), v = .ref p ∧ H0 p = none ∧ S p = none ∧ H p = some (.lst vs) ∧ RpA K mg S vs ds
/-- what a def hands back: a shared value, or a new list that nobody else holds -/
abbrev rrX (K : Frg) (mg : Mg) : RR V D := fun H0 S H v d => Rp K mg S v d ∨ ∃ ds, d = .fr ds ∧ rrF K mg H0 S H v ds
section
variable {K : Frg} {mg : Mg} {S H S' H' : Hp}
theorem Rd1.of {v : V} {d : D} (i : Same S H) (h : Rp K mg S v d) : Rd1 K mg S H v d := by
  cases d <;> first | exact h | skip
  cases h with
  | lst a b => exact ⟨_, _, rfl, i _ _ a, b⟩
theorem Rd1.up {v : V} {d : D} (g : Gr S H S' H') (h : Rd1 K mg S H v d) : Rd1 K mg S' H' v d := by
  cases d with
  | lst ds =>
    obtain ⟨p, vs, h1, h2, h3⟩ := h
    exact ⟨p, vs, h1, g.h _ _ h2, h3.up g.s ds vs⟩
  | _ => exact Rp.up g.s _ v h
theorem Xd.up {dx : Option Addr} {fs : List (Str × D)} (g : Gr S H S' H') (h : Xd K mg S H dx fs) : Xd K mg S' H' dx fs := by
  exact h.keep g.s fun _ _ q => g.h _ _ q
end
section
variable {α β γ δ : Type} {K : Frg} {mg : Mg} {R : RR α β} {R2 : RR γ δ} {W : WX} {S H S' H' : Hp} {σ : L2.St}
theorem Po.bind {r : Res β} {k : β → Res δ} {Q : α → Hp → Prop} {Q2 : γ → Hp → Prop} (h : Po K mg R2 W S σ H (r.bind k) Q2)
    (n : ∀ d v S' H', Gr S H S' H' → R H S' H' v d → Po K mg R2 W S σ H (k d) Q2 → Q v H') : Po K mg R W S σ H r Q := by
  cases r with
  | ok d => exact fun v S' H' g q => n d v S' H' g q h
  | exc x fs => exact h
  | bad => exact h
theorem Po.up {r : Res β} {Q : α → Hp → Prop} (g : Gr S H S' H') (hr : ∀ S2 H2 v d, Gr S' H' S2 H2 → R H' S2 H2 v d → R H S2 H2 v d) (h : Po K mg R W S σ H r Q) : Po K mg R W S' σ H' r Q := by
  cases r with
  | ok d => exact fun v S2 H2 g2 q => h v S2 H2 (g.trans g2) (hr _ _ _ _ g2 q)
  | exc x fs => exact fun S2 H2 C dx g2 q1 q2 => h S2 H2 C dx (g.trans g2) q1 q2
  | bad => exact h
theorem Po.wk {R' : RR α β} {r : Res β} {Q : α → Hp → Prop} (h : Po K mg R W S σ H r Q) (hr : ∀ S2 H2 v d, Gr S H S2 H2 → R' H S2 H2 v d → R H S2 H2 v d) : Po K mg R' W S σ H r Q := by
  cases r with
  | ok d => exact fun v S2 H2 g2 q => h v S2 H2 g2 (hr _ _ _ _ g2 q)
  | exc x fs => exact h
  | bad => exact h
theorem Po.q {r : Res β} {Q Q' : α → Hp → Prop} (h : Po K mg R W S σ H r Q) (hq : ∀ v H', Q v H' → Q' v H') : Po K mg R W S σ H r Q' := by
  cases r with
  | ok d => exact fun v S2 H2 g2 q => hq _ _ (h v S2 H2 g2 q)
  | exc x fs => exact h
  | bad => exact h
end
theorem Po.upE {K : Frg} {mg : Mg} {W : WX} {S H S' H' : Hp} {σ : L2.St} {r : Res D} {Q : VK} (g : Gr S H S' H') (h : Po K mg (rrE K mg) W S σ H r Q) : Po K mg (rrE K mg) W S' σ H' r Q := h.up g fun _ _ _ _ _ q => q
theorem Po.upX {K : Frg} {mg : Mg} {W : WX} {S H S' H' : Hp} {σ : L2.St} {r : Res D} {Q : VK} (g : Gr S H S' H') (h : Po K mg (rrX K mg) W S σ H r Q) : Po K mg (rrX K mg) W S' σ H' r Q := h.up g fun S2 H2 v d g2 q => q.imp id fun ⟨ds, e, p, vs, h1, h2, h3⟩ => ⟨ds, e, p, vs, h1, same_none g.h h2, h3⟩
theorem Po.upR {K : Frg} {mg : Mg} {W : WX} {S H S' H' : Hp} {σ : L2.St} {r : Res D} {Q : VK} (g : Gr S H S' H') (h : Po K mg (rrR K mg) W S σ H r Q) : Po K mg (rrR K mg) W S' σ H' r Q := h.up g fun _ _ _ _ _ q => q
theorem Po.upA {K : Frg} {mg : Mg} {W : WX} {S H S' H' : Hp} {σ : L2.St} {r : Res (List D)} {Q : List V → Hp → Prop} (g : Gr S H S' H') (h : Po K mg (rrA K mg) W S σ H r Q) : Po K mg (rrA K mg) W S' σ H' r Q := h.up g fun _ _ _ _ _ q => q
theorem Po.upT {K : Frg} {mg : Mg} {W : WX} {S H S' H' : Hp} {σ : L2.St} {r : Res Bool} {Q : Bool → Hp → Prop} (g : Gr S H S' H') (h : Po K mg rrT W S σ H r Q) : Po K mg rrT W S' σ H' r Q := h.up g fun _ _ _ _ _ q => q
theorem Po.upF {K : Frg} {mg : Mg} {W : WX} {S H S' H' : Hp} {σ : L2.St} {r : Res (List D)} {Q : VK} (g : Gr S H S' H') (h : Po K mg (rrF K mg) W S σ H r Q) : Po K mg (rrF K mg) W S' σ H' r Q := h.up g fun S2 H2 v d g2 ⟨p, vs, h1, h2, h3⟩ => ⟨p, vs, h1, same_none g.h h2, h3⟩

/-- the canonical reading of an expression (an argument list, a test) that yields f of the slots -/
def tG {α β : Type} (K : Frg) (mg : Mg) (hx : Hx) (R : RR α β) (W : WX) (f : Sl → Res β) : L2.St → Hp → (α → Hp → Prop) → Prop := fun σ H Q => ∃ b S ρ, Rel K mg hx b S ρ σ H ∧ Po K mg R W S σ H (f ρ) Q
abbrev ME (X : Cx) (hx : Hx) (W : WX) (e : Expr) (f : Sl → Res D) : Prop := PE X e (tG X.K X.mg hx (rrE X.K X.mg) W f)
abbrev MR (X : Cx) (hx : Hx) (W : WX) (e : Expr) (f : Sl → Res D) : Prop := PE X e (tG X.K X.mg hx (rrR X.K X.mg) W f)
abbrev MF (X : Cx) (hx : Hx) (W : WX) (e : Expr) (f : Sl → Res (List D)) : Prop := PE X e (tG X.K X.mg hx (rrF X.K X.mg) W f)
abbrev MA (X : Cx) (hx : Hx) (W : WX) (es : List Expr) (f : Sl → Res (List D)) : Prop := PA X es (tG X.K X.mg hx (rrA X.K X.mg) W f)
abbrev MT (X : Cx) (hx : Hx) (W : WX) (e : Expr) (f : Sl → Res Bool) : Prop := PT X e (tG X.K X.mg hx rrT W f)
abbrev MW (X : Cx) (hx : Hx) (W : WX) (e : Expr) (f : Sl → Res Bool) : Prop := PW X e (tG X.K X.mg hx rrT W f)

theorem pe_imp {X : Cx} {e : Expr} {t t' : TE} (h : PE X e t) (i : ∀ σ H Q, t' σ H Q → t σ H Q) : PE X e t' := ⟨fun pins s σ H Q I q => h.run pins s σ H Q I (i σ H Q q)⟩
theorem pa_imp {X : Cx} {e : List Expr} {t t' : TA} (h : PA X e t) (i : ∀ σ H Q, t' σ H Q → t σ H Q) : PA X e t' := ⟨fun ps pins s σ H Q I q => h.run ps pins s σ H Q I (i σ H Q q)⟩
theorem pt_imp {X : Cx} {e : Expr} {t t' : TT} (h : PT X e t) (i : ∀ σ H Q, t' σ H Q → t σ H Q) : PT X e t' := ⟨fun pins s σ H Q I q => h.run pins s σ H Q I (i σ H Q q)⟩
theorem pw_imp {X : Cx} {e : Expr} {t t' : TT} (h : PW X e t) (i : ∀ σ H Q, t' σ H Q → t σ H Q) : PW X e t' := ⟨fun w pins s σ H Q I q => h.run w pins s σ H Q I (i σ H Q q)⟩
theorem ps_imp {X : Cx} {st : Stmt} {t t' : TS} (h : PS X st t) (i : ∀ D σ H, t' D σ H → t D σ H) : PS X st t' := ⟨fun pins s σ H D I q => h.run pins s σ H D I (i D σ H q)⟩
theorem pss_imp {X : Cx} {st : List Stmt} {t t' : TS} (h : PSs X st t) (i : ∀ D σ H, t' D σ H → t D σ H) : PSs X st t' := ⟨fun pins s σ H D I q => h.run pins s σ H D I (i D σ H q)⟩
theorem pg_imp {X : Cx} {e : Expr} {t t' : TG} (h : PG X e t) (i : ∀ v σ H Q, t' v σ H Q → t v σ H Q) : PG X e t' := ⟨fun pins s σ H v u Q I r q => h.run pins s σ H v u Q I r (i v σ H Q q)⟩
theorem pi_imp {X : Cx} {tg e : Expr} {t t' : TI} (h : PI X tg e t) (i : ∀ σ H R, t' σ H R → t σ H R) : PI X tg e t' := ⟨fun pins s σ H R I q => h.run pins s σ H R I (i σ H R q)⟩

/-! ### expressions -/
@[simp] def sVar (i : Nat) (ρ : Sl) : Res D := match ρ[i]? with
  | some (.v d) => .ok d
  | _ => .bad
@[simp] def sRd (i : Nat) (ρ : Sl) : Res D := match ρ[i]? with
  | some (.v d) => .ok d
  | some (.o ds) => .ok (.lst ds)
  | _ => .bad
@[simp] def sC (d : D) (_ : Sl) : Res D := .ok d
@[simp] def sUn (g : D → Res D) (f : Sl → Res D) (ρ : Sl) : Res D := (f ρ).bind g
@[simp] def sOp (g : D → D → Res D) (f h : Sl → Res D) (ρ : Sl) : Res D := (f ρ).bind fun x => (h ρ).bind fun y => g x y
@[simp] def aNil (_ : Sl) : Res (List D) := .ok []
@[simp] def aCons (f : Sl → Res D) (h : Sl → Res (List D)) (ρ : Sl) : Res (List D) := (f ρ).bind fun x => (h ρ).bind fun y => .ok (x :: y)
@[simp] def sTup (h : Sl → Res (List D)) (ρ : Sl) : Res D := (h ρ).bind fun ds => if ds.length ≤ 16777216 then .ok (.tup ds) else .bad
@[simp] def fLst (h : Sl → Res (List D)) (ρ : Sl) : Res (List D) := (h ρ).bind fun ds => if ds.length ≤ 16777216 then .ok ds else .bad
@[simp] def fOp (g : D → D → Res (List D)) (f h : Sl → Res D) (ρ : Sl) : Res (List D) := (f ρ).bind fun x => (h ρ).bind fun y => g x y
@[simp] def fUn (g : D → Res (List D)) (f : Sl → Res D) (ρ : Sl) : Res (List D) := (f ρ).bind g
@[simp] def sLst (h : Sl → Res (List D)) (ρ : Sl) : Res D := (h ρ).bind fun ds => .ok (.lst ds)
/-- a new list that a def hands back is shared from now on -/
@[simp] def thaw (d : D) : Res D := match d with
  | .fr xs => .ok (.lst xs)
  | d => .ok d
@[simp] def unfr (d : D) : Res (List D) := match d with
  | .fr xs => .ok xs
  | _ => .bad
@[simp] def sCall (g : List D → Res D) (h : Sl → Res (List D)) (ρ : Sl) : Res D := (h ρ).bind fun ds => (g ds).bind thaw
@[simp] def fCall (g : List D → Res D) (h : Sl → Res (List D)) (ρ : Sl) : Res (List D) := (h ρ).bind fun ds => (g ds).bind unfr
@[simp] def tBl (d : D) : Res Bool := match d with
  | .bl b => .ok b
  | _ => .bad
@[simp] def sTest (f : Sl → Res D) (ρ : Sl) : Res Bool := (f ρ).bind tBl
@[simp] def tAnd (f h : Sl → Res Bool) (ρ : Sl) : Res Bool := (f ρ).bind fun b => if b then h ρ else .ok false
@[simp] def tOr (f h : Sl → Res Bool) (ρ : Sl) : Res Bool := (f ρ).bind fun b => if b then .ok true else h ρ
@[simp] def tNot (f : Sl → Res Bool) (ρ : Sl) : Res Bool := (f ρ).bind fun b => .ok (!b)
@[simp] def sAnd (f h : Sl → Res D) (ρ : Sl) : Res D := (f ρ).bind fun x => (tBl x).bind fun b => if b then h ρ else .ok (.bl false)
@[simp] def sOr (f h : Sl → Res D) (ρ : Sl) : Res D := (f ρ).bind fun x => (tBl x).bind fun b => if b then .ok (.bl true) else h ρ
@[simp] def sNot (f : Sl → Res D) (ρ : Sl) : Res D := (f ρ).bind fun x => (tBl x).bind fun b => .ok (.bl (!b))
@[simp] def sIte (t : Sl → Res Bool) (f h : Sl → Res D) (ρ : Sl) : Res D := (t ρ).bind fun b => if b then f ρ else h ρ

/-- an operation by values is the function g on data -/
def U1 (K : Frg) (mg : Mg) (r : V → Hp → VK → Prop) (g : D → Res D) : Prop := ∀ S σ H v d W Q, Same S H → Rd1 K mg S H v d → Po K mg (rrE K mg) W S σ H (g d) Q → r v H Q
def O2 (K : Frg) (mg : Mg) (r : R2) (g : D → D → Res D) : Prop := ∀ S σ H x y d e W Q, Same S H → Rd1 K mg S H x d → Rd1 K mg S H y e → Po K mg (rrE K mg) W S σ H (g d e) Q → r x y H Q
/-- .. that makes a new list -/
def U1F (K : Frg) (mg : Mg) (r : V → Hp → VK → Prop) (g : D → Res (List D)) : Prop := ∀ S σ H v d W Q, Same S H → Rd1 K mg S H v d → Po K mg (rrF K mg) W S σ H (g d) Q → r v H Q
def O2F (K : Frg) (mg : Mg) (r : R2) (g : D → D → Res (List D)) : Prop := ∀ S σ H x y d e W Q, Same S H → Rd1 K mg S H x d → Rd1 K mg S H y e → Po K mg (rrF K mg) W S σ H (g d e) Q → r x y H Q
section
variable {X : Cx} {hx : Hx} {W : WX} {a b c e : Expr} {pos : Pos} {fa fb fc : Sl → Res D}
theorem me_var (i : Nat) {x : Str} (h : PE X (.Name x pos) (tVar i)) : ME X hx W (.Name x pos) (sVar i) := pe_imp h fun σ H Q ⟨b, S, ρ, R, h⟩ => by
  unfold sVar at h
  split at h
  · rename_i d e
    obtain ⟨v, h1, h2⟩ := R.val i d e
    exact ⟨v, h1, h v S H (Gr.refl R.sh) h2⟩
  · exact h.elim
theorem mr_rd (i : Nat) {x : Str} (h : PE X (.Name x pos) (tVar i)) : MR X hx W (.Name x pos) (sRd i) := pe_imp h fun σ H Q ⟨b, S, ρ, R, h⟩ => by
  unfold sRd at h
  split at h
  · rename_i d e
    obtain ⟨v, h1, h2⟩ := R.val i d e
    exact ⟨v, h1, h v S H (Gr.refl R.sh) (Rd1.of R.sh h2)⟩
  · rename_i ds e
    obtain ⟨p, vs, h1, h2, h3, h4, h5⟩ := R.own i ds e
    exact ⟨_, h1, h _ S H (Gr.refl R.sh) ⟨p, vs, rfl, h2, h5⟩⟩
  · exact h.elim
theorem mr_of (h : ME X hx W e fa) : MR X hx W e fa := pe_imp h fun σ H Q ⟨b, S, ρ, R, h⟩ => ⟨b, S, ρ, R, h.wk fun _ _ _ _ g q => Rd1.of g.i q⟩
theorem me_of {ff : Sl → Res (List D)} (h : MF X hx W e ff) : ME X hx W e (sLst ff) := pe_imp h fun σ H Q ⟨b, S, ρ, R, h⟩ => ⟨b, S, ρ, R, h.bind fun d v S' H' g ⟨p, vs, h1, h2, h3, h4, h5⟩ k => by
  subst h1
  have up : Same S' (upd S' p (.lst vs)) := same_new h3
  refine k _ (upd S' p (.lst vs)) H' ⟨g.s.trans up, g.h, fun a o q => ?_, fun a ha q => ?_⟩ (.lst upd_same (h5.up up _ _))
  · by_cases z : a = p
    · subst z; rw [upd_same] at q; cases q; exact h4
    · rw [upd_ne z] at q; exact g.i a o q
  · rw [upd_ne (fun z => ha (by rw [z]; exact h2))]; exact g.n a ha q⟩
theorem mr_f {ff : Sl → Res (List D)} (h : MF X hx W e ff) : MR X hx W e (sLst ff) := mr_of (me_of h)
theorem me_con {v : V} {d : D} (h : PE X e (tC v)) (r : ∀ S, Rp X.K X.mg S v d) : ME X hx W e (sC d) := pe_imp h fun σ H Q ⟨b, S, ρ, R, h⟩ => h v S H (Gr.refl R.sh) (r S)
theorem me_int {i : Int} {j} : ME X hx W (.Constant (.int i) j pos) (sC (.int i)) := me_con pe_int fun _ => .int i
theorem me_bl {i : Bool} {j} : ME X hx W (.Constant (.bool i) j pos) (sC (.bl i)) := me_con pe_bl fun _ => .bl i
theorem me_non {j} : ME X hx W (.Constant .none j pos) (sC .non) := me_con pe_non fun _ => .non
theorem me_str {x : Str} {j} : ME X hx W (.Constant (.str x) j pos) (sC (.str x)) := me_con pe_str fun _ => .str x
theorem me_un {op : UnaryOp} {r : V → Hp → VK → Prop} {g : D → Res D} (ho : UnR X (unaryOp op) r) (hr : U1 X.K X.mg r g) (ha : MR X hx W a fa) : ME X hx W (.UnaryOp op a pos) (sUn g fa) :=
  pe_imp (pe_un ho ha) fun σ H Q ⟨b, S, ρ, R, h⟩ => ⟨b, S, ρ, R, h.bind fun d v S1 H1 g1 r1 k => hr S1 σ H1 v d W Q g1.i r1 (k.upE g1)⟩
theorem op_seq {f h : Sl → Res D} {g : D → D → Res D} {r : R2} (hr : O2 X.K X.mg r g) : ∀ σ H Q, tG X.K X.mg hx (rrE X.K X.mg) W (sOp g f h) σ H Q → tOp r (tG X.K X.mg hx (rrR X.K X.mg) W f) (tG X.K X.mg hx (rrR X.K X.mg) W h) σ H Q := fun σ H Q ⟨b, S, ρ, R, q⟩ =>
  ⟨b, S, ρ, R, q.bind fun d v S1 H1 g1 r1 k => ⟨b, S1, ρ, R.grow g1, (k.upE g1).bind fun d2 v2 S2 H2 g2 r2 k2 => hr S2 σ H2 v v2 d d2 W Q g2.i (r1.up g2) r2 (k2.upE g2)⟩⟩
theorem me_op {op : Operator} {r : R2} {g : D → D → Res D} (ho : OpR X (binaryOp op) r) (hr : O2 X.K X.mg r g) (ha : MR X hx W a fa) (hb : MR X hx W b fb) : ME X hx W (.BinOp a op b pos) (sOp g fa fb) := pe_imp (pe_op ho ha hb) (op_seq hr)
theorem me_cmp {op : CmpOp} {r : R2} {g : D → D → Res D} (ho : OpR X (compareOp op) r) (hr : O2 X.K X.mg r g) (ha : MR X hx W a fa) (hb : MR X hx W b fb) (hm : behindInMarks op b = false) : ME X hx W (.Compare a [op] [b] pos) (sOp g fa fb) := pe_imp (pe_cmpR ho ha hb hm) (op_seq hr)
theorem me_ix {r : R2} {g : D → D → Res D} (hi : IxR X r) (hr : O2 X.K X.mg r g) (ha : MR X hx W a fa) (hb : MR X hx W b fb) (hs : PlainIx b) : ME X hx W (.Subscript a b pos) (sOp g fa fb) := pe_imp (pe_ix hi ha hb hs) (op_seq hr)
theorem opF_seq {f h : Sl → Res D} {g : D → D → Res (List D)} {r : R2} (hr : O2F X.K X.mg r g) : ∀ σ H Q, tG X.K X.mg hx (rrF X.K X.mg) W (fOp g f h) σ H Q → tOp r (tG X.K X.mg hx (rrR X.K X.mg) W f) (tG X.K X.mg hx (rrR X.K X.mg) W h) σ H Q := fun σ H Q ⟨b, S, ρ, R, q⟩ =>
  ⟨b, S, ρ, R, q.bind fun d v S1 H1 g1 r1 k => ⟨b, S1, ρ, R.grow g1, (k.upF g1).bind fun d2 v2 S2 H2 g2 r2 k2 => hr S2 σ H2 v v2 d d2 W Q g2.i (r1.up g2) r2 (k2.upF g2)⟩⟩
theorem mf_op {op : Operator} {r : R2} {g : D → D → Res (List D)} (ho : OpR X (binaryOp op) r) (hr : O2F X.K X.mg r g) (ha : MR X hx W a fa) (hb : MR X hx W b fb) : MF X hx W (.BinOp a op b pos) (fOp g fa fb) := pe_imp (pe_op ho ha hb) (opF_seq hr)
theorem ma_nil : MA X hx W [] aNil := pa_imp pa_nil fun σ H Q ⟨b, S, ρ, R, q⟩ => q [] S H (Gr.refl R.sh) .nil
theorem ma_cons {es : List Expr} {fs : Sl → Res (List D)} (ha : ME X hx W e fa) (hr : MA X hx W es fs) (hs : starEach (e :: es) X.env = (false, eval e X.env) :: starEach es X.env := by rfl) : MA X hx W (e :: es) (aCons fa fs) :=
  pa_imp (pa_cons ha hr hs) fun σ H Q ⟨b, S, ρ, R, q⟩ => ⟨b, S, ρ, R, q.bind fun d v S1 H1 g1 r1 k => ⟨b, S1, ρ, R.grow g1, (k.upA g1).bind fun d2 v2 S2 H2 g2 r2 k2 => k2 _ S2 H2 g2 (.cons (r1.up g2.s d v) r2)⟩⟩
theorem sizeLine16 {n : Nat} (h : n ≤ 16777216) : n ≤ sizeLine := by rw [sizeLine_eq]; exact h
theorem me_tup {es : List Expr} {fs : Sl → Res (List D)} {x1} (h : MA X hx W es fs) : ME X hx W (.Tuple es x1 pos) (sTup fs) :=
  pe_imp (pe_tup h) fun σ H Q ⟨b, S, ρ, R, q⟩ => ⟨b, S, ρ, R, q.bind fun d v S1 H1 g1 r1 k => by
    split at k
    · rename_i hl
      refine ⟨sizeLine16 (by rw [r1.len]; exact hl), fun p hp => ?_⟩
      refine k _ _ _ (g1.trans (Gr.new g1.i hp)) (.tup (SqT.of upd_same) (r1.up (same_new (same_none g1.i hp)) _ _))
    · exact k.elim⟩
theorem mf_lst {es : List Expr} {fs : Sl → Res (List D)} {x1} (h : MA X hx W es fs) : MF X hx W (.List es x1) (fLst fs) :=
  pe_imp (pe_lst h) fun σ H Q ⟨b, S, ρ, R, q⟩ => ⟨b, S, ρ, R, q.bind fun d v S1 H1 g1 r1 k => by
    split at k
    · rename_i hl
      refine ⟨sizeLine16 (by rw [r1.len]; exact hl), fun p hp => ?_⟩
      refine k _ S1 _ (g1.trans (Gr.lay g1.i hp)) ⟨p, v, rfl, same_none g1.h hp, same_none g1.i hp, upd_same, r1⟩
    · exact k.elim⟩

/-! ### tests -/
theorem mt_val (h : ME X hx W e fa) (he : ∀ whole, isTrue e X.env whole = (do let v ← whole; standAt e.pos; holding [v] (truthy v)) := by intro _; rfl) : MT X hx W e (sTest fa) :=
  pt_imp (pt_val h he) fun σ H Q ⟨b, S, ρ, R, q⟩ => ⟨b, S, ρ, R, q.bind fun d v S1 H1 g1 r1 k => by
    cases r1 <;> first | exact k.elim | skip
    rename_i c
    exact ⟨c, rfl, k c S1 H1 g1 rfl⟩⟩
theorem mt_cmp {op : CmpOp} {r : R2} {g : D → D → Res D} (ho : OpR X (compareOp op) r) (hr : O2 X.K X.mg r g) (ha : MR X hx W a fa) (hb : MR X hx W b fb) (hm : behindInMarks op b = false) : MT X hx W (.Compare a [op] [b] pos) (sTest (sOp g fa fb)) :=
  pt_imp (pt_cmpR ho ha hb hm) fun σ H Q ⟨b, S, ρ, R, q⟩ => op_seq hr σ H _ ⟨b, S, ρ, R, q.bind fun d v S1 H1 g1 r1 k => by
    cases r1 <;> first | exact k.elim | skip
    rename_i c
    exact ⟨c, rfl, k c S1 H1 g1 rfl⟩⟩
theorem mt_not {t : Sl → Res Bool} (h : MT X hx W a t) : MT X hx W (.UnaryOp .Not a pos) (tNot t) :=
  pt_imp (pt_not h) fun σ H Q ⟨b, S, ρ, R, q⟩ => ⟨b, S, ρ, R, q.bind fun d v S1 H1 g1 r1 k => by
    cases r1
    exact k _ S1 H1 g1 rfl⟩
theorem mw_and1 {t : Sl → Res Bool} (h : MT X hx W a t) : MW X hx W (.BoolOp .And [a] pos) t := pw_and1 h
theorem mw_or1 {t : Sl → Res Bool} (h : MT X hx W a t) : MW X hx W (.BoolOp .Or [a] pos) t := pw_or1 h
theorem mw_and {t u : Sl → Res Bool} {rest : List Expr} (ha : MT X hx W a t) (hb : MW X hx W (.BoolOp .And (b :: rest) pos) u) : MW X hx W (.BoolOp .And (a :: b :: rest) pos) (tAnd t u) :=
  pw_imp (pw_and ha hb) fun σ H Q ⟨b, S, ρ, R, q⟩ => ⟨b, S, ρ, R, q.bind fun d v S1 H1 g1 r1 k => by
    cases r1
    cases d with
    | true => exact iteT ⟨b, S1, ρ, R.grow g1, Po.upT g1 k⟩
    | false => exact iteF (k _ S1 H1 g1 rfl)⟩
theorem mw_or {t u : Sl → Res Bool} {rest : List Expr} (ha : MT X hx W a t) (hb : MW X hx W (.BoolOp .Or (b :: rest) pos) u) : MW X hx W (.BoolOp .Or (a :: b :: rest) pos) (tOr t u) :=
  pw_imp (pw_or ha hb) fun σ H Q ⟨b, S, ρ, R, q⟩ => ⟨b, S, ρ, R, q.bind fun d v S1 H1 g1 r1 k => by
    cases r1
    cases d with
    | true => exact iteT (k _ S1 H1 g1 rfl)
    | false => exact iteF ⟨b, S1, ρ, R.grow g1, Po.upT g1 k⟩⟩
theorem me_and {rest : List Expr} (ha : ME X hx W a fa) (hb : ME X hx W (.BoolOp .And (b :: rest) pos) fb) : ME X hx W (.BoolOp .And (a :: b :: rest) pos) (sAnd fa fb) :=
  pe_imp (pe_and ha hb) fun σ H Q ⟨b, S, ρ, R, q⟩ => ⟨b, S, ρ, R, q.bind fun d v S1 H1 g1 r1 k => by
    cases r1 <;> first | exact k.elim | skip
    rename_i c
    refine ⟨c, rfl, ?_⟩
    cases c with
    | true => exact iteT ⟨b, S1, ρ, R.grow g1, Po.upE g1 k⟩
    | false => exact iteF (k _ S1 H1 g1 (.bl false))⟩
theorem me_or {rest : List Expr} (ha : ME X hx W a fa) (hb : ME X hx W (.BoolOp .Or (b :: rest) pos) fb) : ME X hx W (.BoolOp .Or (a :: b :: rest) pos) (sOr fa fb) :=
  pe_imp (pe_or ha hb) fun σ H Q ⟨b, S, ρ, R, q⟩ => ⟨b, S, ρ, R, q.bind fun d v S1 H1 g1 r1 k => by
    cases r1 <;> first | exact k.elim | skip
    rename_i c
    refine ⟨c, rfl, ?_⟩
    cases c with
    | true => exact iteT (k _ S1 H1 g1 (.bl true))
    | false => exact iteF ⟨b, S1, ρ, R.grow g1, Po.upE g1 k⟩⟩
theorem me_not (h : ME X hx W a fa) : ME X hx W (.UnaryOp .Not a pos) (sNot fa) :=
  pe_imp (pe_not h) fun σ H Q ⟨b, S, ρ, R, q⟩ => ⟨b, S, ρ, R, q.bind fun d v S1 H1 g1 r1 k => by
    cases r1 <;> first | exact k.elim | skip
    rename_i c
    exact ⟨c, rfl, k _ S1 H1 g1 (.bl _)⟩⟩
theorem me_ite {t : Sl → Res Bool} (hc : MT X hx W c t) (ha : ME X hx W a fa) (hb : ME X hx W b fb) : ME X hx W (.IfExp c a b pos) (sIte t fa fb) :=
  pe_imp (pe_ifExp hc ha hb) fun σ H Q ⟨b, S, ρ, R, q⟩ => ⟨b, S, ρ, R, q.bind fun d v S1 H1 g1 r1 k => by
    cases r1
    cases d with
    | true => exact iteT ⟨b, S1, ρ, R.grow g1, Po.upE g1 k⟩
    | false => exact iteF ⟨b, S1, ρ, R.grow g1, Po.upE g1 k⟩⟩
/-- the truth of a value -/
@[simp] def gTru (d : D) : Res Bool := match d with
  | .non => .ok false
  | .bl b => .ok b
  | .int i => .ok (i != 0)
  | .str x => if x.length ≤ 16777216 then .ok ((x.length : Int) != 0) else .bad
  | .lst ds => .ok (!ds.isEmpty)
  | .rol ds => .ok (!ds.isEmpty)
  | .tup ds => .ok (!ds.isEmpty)
  | .obj _ _ _ => .bad
  | .fr _ => .bad
@[simp] def tTru (f : Sl → Res D) (ρ : Sl) : Res Bool := (f ρ).bind gTru
theorem RpA.emp {K : Frg} {mg : Mg} {H : Hp} {vs : List V} {ds : List D} (h : RpA K mg H vs ds) : vs.isEmpty = ds.isEmpty := by cases h <;> rfl
theorem mt_tru (h : MR X hx W e fa) (he : ∀ whole, isTrue e X.env whole = (do let v ← whole; standAt e.pos; holding [v] (truthy v)) := by intro _; rfl) : MT X hx W e (tTru fa) :=
  pt_imp (pt_truth h he) fun σ H Q ⟨b, S, ρ, R, q⟩ => ⟨b, S, ρ, R, q.bind fun d v S1 H1 g1 r1 k => by
    cases d with
    | non => cases r1; exact ⟨_, rfl, k _ S1 H1 g1 rfl⟩
    | bl _ => cases r1; exact ⟨_, rfl, k _ S1 H1 g1 rfl⟩
    | int _ => cases r1; exact ⟨_, rfl, k _ S1 H1 g1 rfl⟩
    | str x =>
      cases r1
      simp only [gTru] at k
      split at k
      · rename_i hl
        exact ⟨_, ⟨sizeLine16 hl, rfl⟩, k _ S1 H1 g1 rfl⟩
      · exact k.elim
    | lst ds =>
      obtain ⟨p, vs, rfl, h2, h3⟩ := r1
      exact ⟨_, .inl ⟨vs, SqL.of h2, rfl⟩, k _ S1 H1 g1 (by rw [h3.emp])⟩
    | rol ds =>
      cases r1 with
      | rol h2 h3 => exact ⟨_, .inl ⟨_, same_l g1.i h2, rfl⟩, k _ S1 H1 g1 (by rw [h3.emp])⟩
    | tup ds =>
      cases r1 with
      | tup h2 h3 => exact ⟨_, .inr (.inl ⟨_, same_t g1.i h2, rfl⟩), k _ S1 H1 g1 (by rw [h3.emp])⟩
    | obj _ _ _ => exact k.elim
    | fr _ => exact k.elim⟩
/-- a < b < c -/
def sChain (g h : D → D → Res D) (fa fb fc : Sl → Res D) (ρ : Sl) : Res D := (fa ρ).bind fun x => (fb ρ).bind fun y => (g x y).bind fun z => (tBl z).bind fun b => if b then (fc ρ).bind fun w => h y w else .ok (.bl false)
end
end PF

set_option Elab.async false
set_option linter.all false
set_option maxRecDepth 100000
set_option maxHeartbeats 4000000
namespace PF
open PySem PySem.Spec L2

/-! ### statements -/
inductive Out where
  | nx (ρ : Sl) | ret (d : D) | bk (ρ : Sl) | ct (ρ : Sl) | exc (x : Str) (fs : List (Str × D)) (ρ : Sl) | bad
structure Bok (b : Bs) (S H : Hp) : Prop where
  s0 : Same b.S0 S
  sh : Same S H
  h0 : Same b.H0 H
  nw : ∀ a, b.H0 a ≠ none → b.S0 a = none → S a = none
theorem Rel.bok {K : Frg} {mg : Mg} {hx : Hx} {b : Bs} {S H : Hp} {ρ : Sl} {σ : L2.St} (R : Rel K mg hx b S ρ σ H) : Bok b S H := ⟨R.s0, R.sh, R.h0, R.nw⟩
def PoS (K : Frg) (mg : Mg) (hx : Hx) (W : WX) (b : Bs) (S : Hp) (o : Out) (D : Ends) : Prop := match o with
  | .nx ρ => ∀ S' σ H, Same S S' → Rel K mg hx b S' ρ σ H → D.nx σ H
  | .ret d => ∀ S' H v, Bok b S' H → rrX K mg b.H0 S' H v d → D.rt v H
  | .bk ρ => ∀ S' σ H, Same S S' → Rel K mg hx b S' ρ σ H → D.bk σ H
  | .ct ρ => ∀ S' σ H, Same S S' → Rel K mg hx b S' ρ σ H → D.ct σ H
  | .exc x fs ρ => ∀ S' σ H C dx, Same S S' → Rel K mg hx b S' ρ σ H → mg x = some (.ref C) → Xd K mg S' H dx fs → W (.ref C) dx σ H
  | .bad => False
def tS (K : Frg) (mg : Mg) (hx : Hx) (W : WX) (g : Sl → Out) : TS := fun D σ H => ∃ b S ρ, Rel K mg hx b S ρ σ H ∧ PoS K mg hx W b S (g ρ) D
abbrev MS (X : Cx) (hx : Hx) (W : WX) (st : Stmt) (g : Sl → Out) : Prop := PS X st (tS X.K X.mg hx W g)
abbrev MSs (X : Cx) (hx : Hx) (W : WX) (st : List Stmt) (g : Sl → Out) : Prop := PSs X st (tS X.K X.mg hx W g)
theorem PoS.up {K : Frg} {mg : Mg} {hx : Hx} {W : WX} {b : Bs} {S S1 : Hp} {o : Out} {D : Ends} (e : Same S S1) (h : PoS K mg hx W b S o D) : PoS K mg hx W b S1 o D := by
  cases o with
  | nx ρ => exact fun S' σ H q => h S' σ H (e.trans q)
  | ret d => exact h
  | bk ρ => exact fun S' σ H q => h S' σ H (e.trans q)
  | ct ρ => exact fun S' σ H q => h S' σ H (e.trans q)
  | exc x fs ρ => exact fun S' σ H C dx q => h S' σ H C dx (e.trans q)
  | bad => exact h
/-- an expression's result, then k -/
def rS {α : Type} (r : Res α) (ρ : Sl) (k : α → Out) : Out := match r with
  | .ok a => k a
  | .exc x fs => .exc x fs ρ
  | .bad => .bad
@[simp] theorem rS_ok {α : Type} (a : α) (ρ : Sl) (k : α → Out) : rS (.ok a) ρ k = k a := rfl
@[simp] theorem rS_exc {α : Type} (x : Str) (fs) (ρ : Sl) (k : α → Out) : rS (.exc x fs) ρ k = .exc x fs ρ := rfl
@[simp] theorem rS_bad {α : Type} (ρ : Sl) (k : α → Out) : rS .bad ρ k = .bad := rfl
theorem rS_po {α β : Type} {K : Frg} {mg : Mg} {hx : Hx} {RX : RR α β} {W : WX} {b : Bs} {S H : Hp} {ρ : Sl} {σ : L2.St} {r : Res β} {k : β → Out} {D : Ends} {Q : α → Hp → Prop} (R : Rel K mg hx b S ρ σ H) (h : PoS K mg hx W b S (rS r ρ k) D)
    (n : ∀ d v S' H', Gr S H S' H' → RX H S' H' v d → PoS K mg hx W b S (k d) D → Q v H') : Po K mg RX W S σ H r Q := by
  cases r with
  | ok d => exact fun v S' H' g q => n d v S' H' g q h
  | exc x fs => exact fun S' H' C dx g q1 q2 => h S' σ H' C dx g.s (R.grow g) q1 q2
  | bad => exact h
@[simp] def gSeq (g h : Sl → Out) (ρ : Sl) : Out := match g ρ with
  | .nx ρ' => h ρ'
  | o => o
@[simp] def gNil (ρ : Sl) : Out := .nx ρ
@[simp] def gIf (t : Sl → Res Bool) (g h : Sl → Out) (ρ : Sl) : Out := rS (t ρ) ρ fun b => if b then g ρ else h ρ
@[simp] def gRet (f : Sl → Res D) (ρ : Sl) : Out := rS (f ρ) ρ .ret
@[simp] def gRetN (_ : Sl) : Out := .ret .non
@[simp] def gBk (ρ : Sl) : Out := .bk ρ
@[simp] def gCt (ρ : Sl) : Out := .ct ρ
@[simp] def gDrop (f : Sl → Res D) (ρ : Sl) : Out := rS (f ρ) ρ fun _ => .nx ρ
/-- i = f -/
@[simp] def gSet (i : Nat) (f : Sl → Res D) (ρ : Sl) : Out := rS (f ρ) ρ fun d => .nx (ρ.set i (.v d))
/-- i = f, a new list that i alone holds -/
@[simp] def gSetO (i : Nat) (f : Sl → Res (List D)) (ρ : Sl) : Out := rS (f ρ) ρ fun d => .nx (ρ.set i (.o d))
/-- the list of slot i is shared from here on (no statement of the text) -/
@[simp] def gFrz (i : Nat) (g : Sl → Out) (ρ : Sl) : Out := match ρ[i]? with
  | some (.o ds) => g (ρ.set i (.v (.lst ds)))
  | some (.v _) => g ρ
  | _ => .bad
section
variable {X : Cx} {hx : Hx} {W : WX} {st : Stmt} {rest body : List Stmt} {g h : Sl → Out} {e c : Expr} {f : Sl → Res D} {pos : Pos}
theorem ms_nil : MSs X hx W [] gNil := pss_imp pss_nil fun D σ H ⟨b, S, ρ, R, q⟩ => q S σ H (Same.refl _) R
theorem ms_pass : MS X hx W (.Pass pos) gNil := ps_imp ps_pass fun D σ H ⟨b, S, ρ, R, q⟩ => q S σ H (Same.refl _) R
theorem ms_bk : MS X hx W (.Break pos) gBk := ps_imp ps_break fun D σ H ⟨b, S, ρ, R, q⟩ => q S σ H (Same.refl _) R
theorem ms_ct : MS X hx W (.Continue pos) gCt := ps_imp ps_continue fun D σ H ⟨b, S, ρ, R, q⟩ => q S σ H (Same.refl _) R
theorem ms_cons (h1 : MS X hx W st g) (h2 : MSs X hx W rest h) : MSs X hx W (st :: rest) (gSeq g h) := pss_imp (pss_cons h1 h2) fun D σ H ⟨b, S, ρ, R, q⟩ => by
  refine ⟨b, S, ρ, R, ?_⟩
  unfold gSeq at q
  cases e : g ρ with
  | nx ρ' => rw [e] at q; exact fun S' σ' H' s1 R' => ⟨b, S', ρ', R', PoS.up s1 q⟩
  | ret d => rw [e] at q; exact q
  | bk ρ' => rw [e] at q; exact q
  | ct ρ' => rw [e] at q; exact q
  | exc x fs ρ' => rw [e] at q; exact q
  | bad => rw [e] at q; exact q
theorem ms_one (h1 : MS X hx W st g) : MSs X hx W [st] g := pss_one h1
theorem ms_frz (i : Nat) (h1 : MSs X hx W rest g) : MSs X hx W rest (gFrz i g) := pss_imp h1 fun D σ H ⟨b, S, ρ, R, q⟩ => by
  unfold gFrz at q
  split at q
  · rename_i ds e
    obtain ⟨S', s1, R'⟩ := R.freeze e
    exact ⟨b, S', _, R', PoS.up s1 q⟩
  · exact ⟨b, S, ρ, R, q⟩
  · exact q.elim
theorem ms_if {t : Sl → Res Bool} {a1 a2 : List Stmt} (hc : MT X hx W c t) (h1 : MSs X hx W a1 g) (h2 : MSs X hx W a2 h) : MS X hx W (.If c a1 a2 pos) (gIf t g h) := ps_imp (ps_if hc h1 h2) fun D σ H ⟨b, S, ρ, R, q⟩ =>
  ⟨b, S, ρ, R, rS_po R q fun d v S1 H1 g1 r1 k => by
    cases r1
    cases d with
    | true => exact iteT ⟨b, S1, ρ, R.grow g1, PoS.up g1.s k⟩
    | false => exact iteF ⟨b, S1, ρ, R.grow g1, PoS.up g1.s k⟩⟩
theorem ms_ret (he : ME X hx W e f) : MS X hx W (.Return (some e) pos) (gRet f) := ps_imp (ps_ret he) fun D σ H ⟨b, S, ρ, R, q⟩ =>
  ⟨b, S, ρ, R, rS_po R q fun d v S1 H1 g1 r1 k => k S1 H1 v (R.grow g1).bok (.inl r1)⟩
/-- return x, x a list that this slot alone holds; return of a new list -/
@[simp] def gRetO (i : Nat) (ρ : Sl) : Out := match ρ[i]? with
  | some (.o ds) => .ret (.fr ds)
  | some (.v d) => .ret d
  | _ => .bad
theorem ms_retO (i : Nat) {x : Str} {p : Pos} (hv : PE X (.Name x p) (tVar i)) : MS X hx W (.Return (some (.Name x p)) pos) (gRetO i) := ps_imp (ps_ret hv) fun D σ H ⟨b, S, ρ, R, q⟩ => by
  unfold gRetO at q
  split at q
  · rename_i ds e1
    obtain ⟨p, vs, h1, h2, h3, h4, h5⟩ := R.own i ds e1
    exact ⟨_, h1, q S H _ R.bok (.inr ⟨ds, rfl, p, vs, rfl, h4, h3, h2, h5⟩)⟩
  · rename_i d e1
    obtain ⟨v, h1, h2⟩ := R.val i d e1
    exact ⟨v, h1, q S H v R.bok (.inl h2)⟩
  · exact q.elim
@[simp] def gRetF (ff : Sl → Res (List D)) (ρ : Sl) : Out := rS (ff ρ) ρ fun ds => .ret (.fr ds)
theorem ms_retF {ff : Sl → Res (List D)} (he : MF X hx W e ff) : MS X hx W (.Return (some e) pos) (gRetF ff) := ps_imp (ps_ret he) fun D σ H ⟨b, S, ρ, R, q⟩ =>
  ⟨b, S, ρ, R, rS_po R q fun d v S1 H1 g1 ⟨p, vs, h1, h2, h3, h4, h5⟩ k => k S1 H1 v (R.grow g1).bok (.inr ⟨d, rfl, p, vs, h1, same_none R.h0 h2, h3, h4, h5⟩)⟩
theorem ms_retN : MS X hx W (.Return none pos) gRetN := ps_imp ps_retN fun D σ H ⟨b, S, ρ, R, q⟩ => q S H .non R.bok (.inl .non)
theorem ms_drop (he : MR X hx W e f) (hs : swapsWith e none pos.line X.env = pure false := by rfl) : MS X hx W (.Expr e pos) (gDrop f) := ps_imp (ps_expr he hs) fun D σ H ⟨b, S, ρ, R, q⟩ =>
  ⟨b, S, ρ, R, rS_po R q fun d v S1 H1 g1 r1 k => k S1 σ H1 g1.s (R.grow g1)⟩
theorem ms_doc {x j pos'} : MS X hx W (.Expr (.Constant (.str x) j pos) pos') gNil := ps_imp ps_doc fun D σ H ⟨b, S, ρ, R, q⟩ => q S σ H (Same.refl _) R
theorem ms_set (i : Nat) {x : Str} {pos' : Pos} (hN : X.N.Nodup) (he : ME X hx W e f) (hi : X.N[i]? = some x := by rfl) (hl : Loc X.env.scope x := by first | exact Or.inl rfl | exact Or.inr rfl) (hs : swapsWith e (some (.Name x pos')) pos.line X.env = pure false := by rfl) (hf : X.fn x = true ∨ X.env.scope.names.lookup x = some .local := by first | exact .inl rfl | exact .inr rfl | assumption) :
    MS X hx W (.Assign [.Name x pos'] e pos) (gSet i f) := ps_imp (ps_set hN hi hl he hs hf) fun D σ H ⟨b, S, ρ, R, q⟩ =>
  ⟨b, S, ρ, R, rS_po R q fun d v S1 H1 g1 r1 k => k S1 _ H1 g1.s ((R.grow g1).put r1)⟩
theorem Rel.putN {K : Frg} {mg : Mg} {hx : Hx} {b : Bs} {S H S1 H1 : Hp} {ρ : Sl} {σ : L2.St} (R : Rel K mg hx b S ρ σ H) (g1 : Gr S H S1 H1) {i : Nat} {p : Addr} {vs : List V} {ds : List D} (h2 : H p = none) (h3 : S1 p = none) (h4 : H1 p = some (.lst vs)) (h5 : RpA K mg S1 vs ds) : Rel K mg hx b S1 (ρ.set i (.o ds)) (σ.set i (some (.ref p))) H1 :=
  (R.grow g1).putO h4 h3 (same_none R.h0 h2) (fun j es e1 e2 => by
    obtain ⟨p', vs', q1, q2, _⟩ := R.own j es e1
    rw [e2] at q1
    cases q1
    rw [h2] at q2
    cases q2) h5
theorem ms_setO (i : Nat) {ff : Sl → Res (List D)} {x : Str} {pos' : Pos} (hN : X.N.Nodup) (he : MF X hx W e ff) (hi : X.N[i]? = some x := by rfl) (hl : Loc X.env.scope x := by first | exact Or.inl rfl | exact Or.inr rfl) (hs : swapsWith e (some (.Name x pos')) pos.line X.env = pure false := by rfl) (hf : X.fn x = true ∨ X.env.scope.names.lookup x = some .local := by first | exact .inl rfl | exact .inr rfl | assumption) :
    MS X hx W (.Assign [.Name x pos'] e pos) (gSetO i ff) := ps_imp (ps_set hN hi hl he hs hf) fun D σ H ⟨b, S, ρ, R, q⟩ =>
  ⟨b, S, ρ, R, rS_po R q fun d v S1 H1 g1 ⟨p, vs, h1, h2, h3, h4, h5⟩ k => by
    subst h1
    exact k S1 _ H1 g1.s (R.putN g1 h2 h3 h4 h5)⟩
end

/-! ### targets -/
abbrev FG := D → Sl → Option Sl
def AgreeOff (is : List Nat) (σ σ' : L2.St) : Prop := σ'.length = σ.length ∧ ∀ i, i ∉ is → σ'[i]? = σ[i]?
def gG (K : Frg) (mg : Mg) (hx : Hx) (is : List Nat) (g : FG) : TG := fun v σ H Q => ∃ b S ρ d, Rel K mg hx b S ρ σ H ∧ Rp K mg S v d ∧ match g d ρ with
  | some ρ' => ∀ σ', Rel K mg hx b S ρ' σ' H → AgreeOff is σ σ' → Q σ' H
  | _ => False
abbrev MG (X : Cx) (hx : Hx) (tg : Expr) (is : List Nat) (g : FG) : Prop := PG X tg (gG X.K X.mg hx is g)
@[simp] def gName (i : Nat) : FG := fun d ρ => some (ρ.set i (.v d))
/-- a tuple's targets, from the left -/
abbrev FGs := List D → Sl → Option Sl
def gGs (K : Frg) (mg : Mg) (hx : Hx) (is : List Nat) (g : FGs) : TGs := fun vs σ H Q => ∃ b S ρ ds, Rel K mg hx b S ρ σ H ∧ RpA K mg S vs ds ∧ match g ds ρ with
  | some ρ' => ∀ σ', Rel K mg hx b S ρ' σ' H → AgreeOff is σ σ' → Q σ' H
  | _ => False
abbrev MGs (X : Cx) (hx : Hx) (tg : List Expr) (is : List Nat) (g : FGs) : Prop := PGs X tg (gGs X.K X.mg hx is g)
@[simp] def gsNil : FGs := fun ds ρ => match ds with
  | [] => some ρ
  | _ => none
@[simp] def gsCons (g : FG) (h : FGs) : FGs := fun ds ρ => match ds with
  | d :: r => (g d ρ).bind fun ρ1 => h r ρ1
  | _ => none
@[simp] def gTup (n : Nat) (h : FGs) : FG := fun d ρ => match d with
  | .tup ds => if ds.length = n then h ds ρ else none
  | _ => none
section
variable {X : Cx} {hx : Hx} {pos : Pos}
theorem agree_set {i : Nat} {σ : L2.St} {v : Option V} : AgreeOff [i] σ (σ.set i v) := ⟨by simp, fun j h => by rw [List.getElem?_set_ne (by simpa [eq_comm] using h)]⟩
theorem agree_trans {is js : List Nat} {a b c : L2.St} (h : AgreeOff is a b) (k : AgreeOff js b c) : AgreeOff (is ++ js) a c := ⟨k.1.trans h.1, fun i hi => by
  simp only [List.mem_append, not_or] at hi
  exact (k.2 i hi.2).trans (h.2 i hi.1)⟩
theorem mg_name (i : Nat) {x : Str} (hN : X.N.Nodup) (hi : X.N[i]? = some x := by rfl) (hl : Loc X.env.scope x := by first | exact Or.inl rfl | exact Or.inr rfl) (hf : X.fn x = true ∨ X.env.scope.names.lookup x = some .local := by first | exact .inl rfl | exact .inr rfl | assumption) : MG X hx (.Name x pos) [i] (gName i) :=
  pg_imp (pg_name hN hi hl hf) fun v σ H Q ⟨b, S, ρ, d, R, r, q⟩ => q _ (R.put r) agree_set
theorem pgs_imp {X : Cx} {es : List Expr} {t t' : TGs} (h : PGs X es t) (i : ∀ vs σ H Q, t' vs σ H Q → t vs σ H Q) : PGs X es t' := ⟨fun pins s σ H v u Q I r q => h.run pins s σ H v u Q I r (i v σ H Q q)⟩
theorem mgs_nil : MGs X hx [] [] gsNil := pgs_imp pgs_nil fun vs σ H Q ⟨b, S, ρ, ds, R, r, q⟩ => by
  cases r with
  | nil => exact ⟨rfl, q σ R ⟨rfl, fun _ _ => rfl⟩⟩
  | cons _ _ => exact q.elim
theorem mgs_cons {e : Expr} {es : List Expr} {is js : List Nat} {g : FG} {h : FGs} (h1 : MG X hx e is g) (h2 : MGs X hx es js h) (hs : (assignEach (e :: es) X.env).map (·.2) = assign e X.env :: (assignEach es X.env).map (·.2) := by rfl) : MGs X hx (e :: es) (is ++ js) (gsCons g h) :=
  pgs_imp (pgs_cons h1 h2 hs) fun vs σ H Q ⟨b, S, ρ, ds, R, r, q⟩ => by
    cases r with
    | nil => exact q.elim
    | @cons v vs d ds r1 r2 =>
      refine ⟨v, vs, rfl, b, S, ρ, d, R, r1, ?_⟩
      simp only [gsCons] at q
      cases e : g d ρ with
      | some ρ1 =>
        rw [e] at q
        exact fun σ1 R1 a1 => ⟨b, S, ρ1, ds, R1, r2, by
          simp only [Option.bind_some] at q
          split at q
          · exact fun σ2 R2 a2 => q σ2 R2 (agree_trans a1 a2)
          · exact q.elim⟩
      | none => rw [e] at q; exact q.elim
theorem mg_tup {es : List Expr} {k : Nat} {is : List Nat} {t : FGs} {n : Nat} (hc : X.calm = true) (h : MGs X hx es is t) (hn : (assignEach es X.env).length = n := by rfl) (hst : (assignEach es X.env).findIdx? (·.1) = none := by rfl) : MG X hx (.Tuple es k pos) is (gTup n t) :=
  pg_imp (pg_tup hc h hn hst) fun v σ H Q ⟨b, S, ρ, d, R, r, q⟩ => by
    cases r with
    | @tup a xs ds h1 h2 =>
      by_cases hl : ds.length = n
      · have e : gTup n t (.tup ds) ρ = t ds ρ := if_pos hl
        rw [e] at q
        exact ⟨a, xs, rfl, same_t R.sh h1, by rw [h2.len]; exact hl, b, S, ρ, ds, R, h2, q⟩
      · have e : gTup n t (.tup ds) ρ = none := if_neg hl
        rw [e] at q
        exact q.elim
    | _ => exact q.elim
/-- a, b = e -/
@[simp] def gAsg (g : FG) (f : Sl → Res D) (ρ : Sl) : Out := rS (f ρ) ρ fun d => match g d ρ with
  | some ρ' => .nx ρ'
  | none => .bad
theorem ms_asg {W : WX} {tg e : Expr} {is : List Nat} {g : FG} {f : Sl → Res D} (he : ME X hx W e f) (hg : MG X hx tg is g) (hs : swapsWithSole [tg] e pos.line X.env = pure false := by rfl) (hw : swappedStores [tg] e X.env = pure none := by rfl)
    (h1 : (assignEach [tg] X.env).map (·.2) = [assign tg X.env] := by rfl) : MS X hx W (.Assign [tg] e pos) (gAsg g f) := ps_imp (ps_asg he hg hs hw h1) fun D σ H ⟨b, S, ρ, R, q⟩ =>
  ⟨b, S, ρ, R, rS_po R q fun d v S1 H1 g1 r1 k => by
    refine ⟨b, S1, ρ, d, R.grow g1, r1, ?_⟩
    cases e : g d ρ with
    | some ρ' => rw [e] at k; exact fun σ' R' _ => k S1 σ' H1 g1.s R'
    | none => rw [e] at k; exact k⟩
end
end PF

set_option Elab.async false
set_option linter.all false
set_option maxRecDepth 100000
set_option maxHeartbeats 4000000
namespace PF
open PySem PySem.Spec L2

/-! ### lists that a slot alone holds -/
@[simp] def gApp (i : Nat) (f : Sl → Res D) (ρ : Sl) : Out := match ρ[i]? with
  | some (.o ds) => rS (f ρ) ρ fun d => if ds.length < 16777216 then .nx (ρ.set i (.o (ds ++ [d]))) else .bad
  | _ => .bad
@[simp] def gSto (i : Nat) (fi f : Sl → Res D) (ρ : Sl) : Out := match ρ[i]? with
  | some (.o ds) => rS (f ρ) ρ fun d => rS (fi ρ) ρ fun k => match k with
    | .int n => match ixN ds.length n with
      | some j => .nx (ρ.set i (.o (ds.set j d)))
      | none => .bad
    | _ => .bad
  | _ => .bad
@[simp] noncomputable def gPopAt (j i : Nat) (f : Sl → Res D) (ρ : Sl) : Out := match ρ[i]? with
  | some (.o ds) => rS (f ρ) ρ fun k => match k with
    | .int n => if cb (-(2 ^ 63) ≤ n ∧ n < 2 ^ 63) then (match seqIndex? n ds.length with
      | some m => match ds[m]? with
        | some d => .nx ((ρ.set i (.o (ds.eraseIdx m))).set j (.v d))
        | none => .bad
      | none => .bad) else .bad
    | _ => .bad
  | _ => .bad
@[simp] def gAug (i : Nat) (g : D → D → Res D) (f : Sl → Res D) (ρ : Sl) : Out := match ρ[i]? with
  | some (.v x) => rS (f ρ) ρ fun y => rS (g x y) ρ fun z => .nx (ρ.set i (.v z))
  | _ => .bad
theorem size16 {n : Nat} (h : n < 16777216) : n < sizeLine := by rw [sizeLine_eq]; exact h
section
variable {X : Cx} {hx : Hx} {W : WX} {e c o : Expr} {f : Sl → Res D} {pos : Pos}
theorem ms_app (i : Nat) {x : Str} {p ap ep : Pos} (hv : PE X (.Name x p) (tVar i)) (he : ME X hx W e f) (hs : swapsWith (.Call (.Attribute (.Name x p) "append" ap) [e] [] ep) none pos.line X.env = pure false := by rfl)
    (h : ∀ {t}, PE X e t → PE X (.Call (.Attribute (.Name x p) "append" ap) [e] [] ep) (tBM X.K "list" rAppend (tVar i) (tCons t tNil)) := by
      intro t ht; exact pe_bm PySem.F.plainAttrs_list PySem.F.slot_list_append PySem.F.type_list_append mt_append (pv _) (pa_cons ht pa_nil)) :
    MS X hx W (.Expr (.Call (.Attribute (.Name x p) "append" ap) [e] [] ep) pos) (gApp i f) := ps_imp (ps_expr (h he) hs) fun D σ H ⟨b, S, ρ, R, q⟩ => by
  unfold gApp at q
  split at q
  · rename_i ds e1
    obtain ⟨p, vs, h1, h2, h3, h4, h5⟩ := R.own i ds e1
    refine ⟨_, h1, .inl ⟨rfl, _, SqL.of h2⟩, b, S, ρ, R, rS_po R q fun d v S1 H1 g1 r1 k => ?_⟩
    split at k
    · rename_i hl
      refine ⟨p, vs, v, rfl, rfl, g1.h _ _ h2, size16 (by rw [h5.len]; exact hl), ?_⟩
      exact k S1 σ _ g1.s ((R.grow g1).mut e1 h1 ((h5.up g1.s _ _).app (.cons r1 .nil)))
    · exact k.elim
  · exact q.elim
theorem ms_sto (i : Nat) {x : Str} {ix : Expr} {fi : Sl → Res D} {p sp : Pos} (hv : PE X (.Name x p) (tVar i)) (hi : ME X hx W ix fi) (he : ME X hx W e f)
    (ha : ∀ v, assign (.Subscript (.Name x p) ix sp) X.env v = (do
      let ov ← holding [v] (eval (.Name x p) X.env)
      let iv ← holding [v, ov] (eval ix X.env)
      standAt sp
      holding [v, ov, iv] (setItem ov iv v)
      release [v, ov, iv] []) := by intro _; rfl)
    (hs : swapsWithSole [.Subscript (.Name x p) ix sp] e pos.line X.env = pure false := by rfl) (hw : swappedStores [.Subscript (.Name x p) ix sp] e X.env = pure none := by rfl)
    (h1 : (assignEach [.Subscript (.Name x p) ix sp] X.env).map (·.2) = [assign (.Subscript (.Name x p) ix sp) X.env] := by rfl) :
    MS X hx W (.Assign [.Subscript (.Name x p) ix sp] e pos) (gSto i fi f) := ps_imp (ps_asg he (pg_sub hv hi set_list ha) hs hw h1) fun D σ H ⟨b, S, ρ, R, q⟩ => by
  unfold gSto at q
  split at q
  · rename_i ds e1
    obtain ⟨p, vs, h1, h2, h3, h4, h5⟩ := R.own i ds e1
    refine ⟨b, S, ρ, R, rS_po R q fun d v S1 H1 g1 r1 k => ?_⟩
    refine ⟨_, h1, b, S1, ρ, R.grow g1, rS_po (R.grow g1) (PoS.up g1.s k) fun d2 v2 S2 H2 g2 r2 k2 => ?_⟩
    cases d2 with
    | int n =>
      cases r2
      simp only at k2
      split at k2
      · rename_i j hj
        have g := g1.trans g2
        refine ⟨p, vs, n, j, rfl, rfl, g.h _ _ h2, by rw [h5.len]; exact hj, ?_⟩
        exact k2 S2 σ _ g2.s ((R.grow g).mut e1 h1 ((h5.up g.s _ _).set (r1.up g2.s _ _) j))
      · exact k2.elim
    | _ => exact k2.elim
  · exact q.elim
theorem ms_popAt (j i : Nat) {y x : Str} {p py ap ep : Pos} (hN : X.N.Nodup) (hv : PE X (.Name x p) (tVar i)) (he : ME X hx W e f) (hi : X.N[j]? = some y := by rfl) (hl : Loc X.env.scope y := by first | exact Or.inl rfl | exact Or.inr rfl)
    (hs : swapsWith (.Call (.Attribute (.Name x p) "pop" ap) [e] [] ep) (some (.Name y py)) pos.line X.env = pure false := by rfl) (hf : X.fn y = true ∨ X.env.scope.names.lookup y = some .local := by first | exact .inl rfl | exact .inr rfl | assumption)
    (h : ∀ {t}, PE X e t → PE X (.Call (.Attribute (.Name x p) "pop" ap) [e] [] ep) (tBM X.K "list" rPopAt (tVar i) (tCons t tNil)) := by
      intro t ht; exact pe_bm PySem.F.plainAttrs_list PySem.F.slot_list_pop PySem.F.type_list_pop mt_popAt (pv _) (pa_cons ht pa_nil)) :
    MS X hx W (.Assign [.Name y py] (.Call (.Attribute (.Name x p) "pop" ap) [e] [] ep) pos) (gPopAt j i f) := ps_imp (ps_set hN hi hl (h he) hs hf) fun D σ H ⟨b, S, ρ, R, q⟩ => by
  unfold gPopAt at q
  split at q
  · rename_i ds e1
    obtain ⟨p, vs, h1, h2, h3, h4, h5⟩ := R.own i ds e1
    refine ⟨_, h1, .inl ⟨rfl, _, SqL.of h2⟩, b, S, ρ, R, rS_po R q fun d v S1 H1 g1 r1 k => ?_⟩
    cases d with
    | int n =>
      cases r1
      simp only at k
      split at k
      · rename_i hb0
        have hb := of_cb hb0
        split at k
        · rename_i m hm
          split at k
          · rename_i d hd
            obtain ⟨u, hu, ru⟩ := (h5.up g1.s _ _).get hd
            refine ⟨p, vs, n, m, u, rfl, rfl, g1.h _ _ h2, hb.1, hb.2, by rw [h5.len]; exact hm, hu, ?_⟩
            exact k S1 _ _ g1.s (((R.grow g1).mut e1 h1 ((h5.up g1.s _ _).erase m)).put ru)
          · exact k.elim
        · exact k.elim
      · exact k.elim
    | _ => exact k.elim
  · exact q.elim
theorem ms_aug (i : Nat) {x : Str} {op : Operator} {ti : TIp} {g : D → D → Res D} {pos' : Pos} (hN : X.N.Nodup) (ho : PIp X op ti) (hr : O2 X.K X.mg ti g) (he : ME X hx W e f) (hi : X.N[i]? = some x := by rfl) (hl : Loc X.env.scope x := by first | exact Or.inl rfl | exact Or.inr rfl) (hf : X.fn x = true ∨ X.env.scope.names.lookup x = some .local := by first | exact .inl rfl | exact .inr rfl | assumption) :
    MS X hx W (.AugAssign (.Name x pos') op e pos) (gAug i g f) := ps_imp (ps_aug hN hi hl he ho hf) fun D σ H ⟨b, S, ρ, R, q⟩ => by
  unfold gAug at q
  split at q
  · rename_i d e1
    obtain ⟨v, h1, h2⟩ := R.val i d e1
    refine ⟨v, h1, b, S, ρ, R, rS_po R q fun d2 v2 S1 H1 g1 r1 k => ?_⟩
    refine hr S1 σ H1 v v2 d d2 W _ g1.i (Rd1.of g1.i (h2.up g1.s _ _)) (Rd1.of g1.i r1) (rS_po (R.grow g1) (PoS.up g1.s k) fun d3 v3 S3 H3 g3 r3 k3 => ?_)
    exact k3 S3 _ H3 g3.s (((R.grow g1).grow g3).put r3)
  · exact q.elim
end

/-! ### what is walked -/
structure ItD (K : Frg) (mg : Mg) (S1 : Hp) (J : It) (ds : List D) : Prop where
  go : ∀ S H i d, Same S1 S → Same S H → ds[i]? = some d → J.go i H ∧ ∀ x H', J.yld i H x H' → ∃ S', Gr S H S' H' ∧ Rp K mg S' x d
  stop : ∀ S H, Same S1 S → Same S H → J.stop ds.length H
abbrev rrI (K : Frg) (mg : Mg) : RR It (List D) := fun _ S _ J ds => ItD K mg S J ds
abbrev MI (X : Cx) (hx : Hx) (W : WX) (tg e : Expr) (f : Sl → Res (List D)) : Prop := PI X tg e (tG X.K X.mg hx (rrI X.K X.mg) W f)
theorem Po.upI {K : Frg} {mg : Mg} {W : WX} {S H S' H' : Hp} {σ : L2.St} {r : Res (List D)} {Q : It → Hp → Prop} (g : Gr S H S' H') (h : Po K mg (rrI K mg) W S σ H r Q) : Po K mg (rrI K mg) W S' σ H' r Q := h.up g fun _ _ _ _ _ q => q
section
variable {K : Frg} {mg : Mg} {S : Hp} {a : Addr} {vs : List V} {ds : List D}
theorem itd_list (h : SqL K S a vs) (r : RpA K mg S vs ds) : ItD K mg S (Itl K a) ds where
  go := fun S' H i d s1 s2 e => by
    obtain ⟨v, h1, h2⟩ := (r.up s1 _ _).get e
    have q : SqL K H a vs := same_l (s1.trans s2) h
    exact ⟨⟨vs, v, q, h1⟩, fun x H' y => ⟨S', by rw [y.1]; exact Gr.refl s2, by
      have z := y.2 vs q
      rw [h1] at z
      cases z
      exact h2⟩⟩
  stop := fun S' H s1 s2 => ⟨vs, same_l (s1.trans s2) h, by rw [r.len]; exact Nat.le_refl _⟩
theorem itd_tup (h : SqT K S a vs) (r : RpA K mg S vs ds) : ItD K mg S (Itt K a) ds where
  go := fun S' H i d s1 s2 e => by
    obtain ⟨v, h1, h2⟩ := (r.up s1 _ _).get e
    have q : SqT K H a vs := same_t (s1.trans s2) h
    exact ⟨⟨vs, v, q, h1⟩, fun x H' y => ⟨S', by rw [y.1]; exact Gr.refl s2, by
      have z := y.2 vs q
      rw [h1] at z
      cases z
      exact h2⟩⟩
  stop := fun S' H s1 s2 => ⟨vs, same_t (s1.trans s2) h, by rw [r.len]; exact Nat.le_refl _⟩
/-- lo, lo + 1, .. -/
def rngD (lo : Int) (n : Nat) : List D := (List.range n).map fun (k : Nat) => .int (lo + (k : Int))
theorem rngD_len (lo : Int) (n : Nat) : (rngD lo n).length = n := by simp [rngD]
theorem rngD_get {lo : Int} {n i : Nat} {d : D} (h : (rngD lo n)[i]? = some d) : i < n ∧ d = .int (lo + (i : Int)) := by
  unfold rngD at h
  rw [List.getElem?_map] at h
  by_cases hi : i < n
  · rw [List.getElem?_range hi] at h
    exact ⟨hi, (Option.some.inj h).symm⟩
  · rw [List.getElem?_eq_none (by simpa using hi)] at h
    cases h
theorem itd_rng (lo : Int) (n : Nat) : ItD K mg S (Itr lo n) (rngD lo n) where
  go := fun S' H i d s1 s2 e => by
    obtain ⟨h1, rfl⟩ := rngD_get e
    exact ⟨h1, fun x H' y => ⟨S', by rw [y.1]; exact Gr.refl s2, by rw [y.2]; exact .int _⟩⟩
  stop := fun S' H s1 s2 => by rw [rngD_len]; exact Nat.le_refl n
/-- the signs of a text -/
def signsD (x : Str) : List D := x.cps.toList.map fun c => .str ⟨#[c]⟩
theorem itd_str (x : Str) : ItD K mg S (Its x) (signsD x) where
  go := fun S' H i d s1 s2 e => by
    unfold signsD at e
    rw [List.getElem?_map, Array.getElem?_toList] at e
    cases q : x.cps[i]? with
    | none => rw [q] at e; cases e
    | some c =>
      rw [q] at e
      cases (Option.some.inj e)
      have hi : i < x.cps.size := (Array.getElem?_eq_some_iff.mp q).1
      refine ⟨hi, fun y H' z => ⟨S', by rw [z.1]; exact Gr.refl s2, ?_⟩⟩
      obtain ⟨_, c', h1, h2⟩ := z
      rw [q] at h1
      cases h1
      rw [h2]
      exact .str _
  stop := fun S' H s1 s2 => by
    show x.cps.size ≤ (signsD x).length
    simp [signsD]
end
section
variable {X : Cx} {hx : Hx} {W : WX} {tg e a b c : Expr} {f fa fb : Sl → Res D} {pos p : Pos}
theorem pi_or {w1 w2 : TI} (h1 : PI X tg e w1) (h2 : PI X tg e w2) : PI X tg e (fun σ H R => w1 σ H R ∨ w2 σ H R) := ⟨fun pins s σ H R I h => h.elim (h1.run pins s σ H R I) (h2.run pins s σ H R I)⟩
@[simp] def dSeq (d : D) : Res (List D) := match d with
  | .lst ds => .ok ds
  | .rol ds => .ok ds
  | .tup ds => .ok ds
  | .str x => .ok (signsD x)
  | _ => .bad
@[simp] def iSeq (f : Sl → Res D) (ρ : Sl) : Res (List D) := (f ρ).bind dSeq
theorem mi_seq (h : ME X hx W e f) : MI X hx W tg e (iSeq f) := pi_imp (pi_or (pi_list h) (pi_or (pi_tup h) (pi_str h))) fun σ H Q ⟨b, S, ρ, R, q⟩ => by
  unfold iSeq at q
  cases ef : f ρ with
  | ok d =>
    rw [ef] at q
    have go : ∀ {Q' : VK}, (∀ v S' H', Gr S H S' H' → Rp X.K X.mg S' v d → Q' v H') → tG X.K X.mg hx (rrE X.K X.mg) W f σ H Q' := fun {Q'} k => ⟨b, S, ρ, R, by rw [ef]; exact k⟩
    cases d with
    | lst ds => exact .inl (go fun v S1 H1 g1 r1 => by
        cases r1 with
        | lst h1 h2 => exact ⟨_, rfl, ⟨_, SqL.of (g1.i _ _ h1)⟩, q _ S1 H1 g1 (itd_list (SqL.of h1) h2)⟩)
    | rol ds => exact .inl (go fun v S1 H1 g1 r1 => by
        cases r1 with
        | rol h1 h2 => exact ⟨_, rfl, ⟨_, same_l g1.i h1⟩, q _ S1 H1 g1 (itd_list h1 h2)⟩)
    | tup ds => exact .inr (.inl (go fun v S1 H1 g1 r1 => by
        cases r1 with
        | tup h1 h2 => exact ⟨_, rfl, ⟨_, same_t g1.i h1⟩, q _ S1 H1 g1 (itd_tup h1 h2)⟩))
    | str x => exact .inr (.inr (go fun v S1 H1 g1 r1 => by
        cases r1 with
        | str _ => exact ⟨_, rfl, q _ S1 H1 g1 (itd_str x)⟩))
    | _ => exact q.elim
  | exc x fs =>
    rw [ef] at q
    exact .inl ⟨b, S, ρ, R, by rw [ef]; exact q⟩
  | bad => rw [ef] at q; exact q.elim
@[simp] noncomputable def gRng1 (ds : List D) : Res (List D) := match ds with
  | [.int j] => if cb (-(2 ^ 62) ≤ j ∧ j < 2 ^ 62) then .ok (rngD 0 j.toNat) else .bad
  | _ => .bad
@[simp] noncomputable def gRng2 (ds : List D) : Res (List D) := match ds with
  | [.int i, .int j] => if cb ((-(2 ^ 62) ≤ i ∧ i < 2 ^ 62) ∧ -(2 ^ 62) ≤ j ∧ j < 2 ^ 62) then .ok (rngD i (j - i).toNat) else .bad
  | _ => .bad
theorem RpA.two {K : Frg} {mg : Mg} {S : Hp} {vs : List V} {d e : D} (r : RpA K mg S vs [d, e]) : ∃ v w, vs = [v, w] ∧ Rp K mg S v d ∧ Rp K mg S w e := by
  cases r with
  | cons a t =>
    cases t with
    | cons b t => cases t; exact ⟨_, _, rfl, a, b⟩
theorem RpA.one {K : Frg} {mg : Mg} {S : Hp} {vs : List V} {d : D} (r : RpA K mg S vs [d]) : ∃ v, vs = [v] ∧ Rp K mg S v d := by
  cases r with
  | cons a t => cases t; exact ⟨_, rfl, a⟩
@[simp] noncomputable def iRg1 (fs : Sl → Res (List D)) (ρ : Sl) : Res (List D) := (fs ρ).bind gRng1
@[simp] noncomputable def iRg2 (fs : Sl → Res (List D)) (ρ : Sl) : Res (List D) := (fs ρ).bind gRng2
theorem mi_rng1 {fs : Sl → Res (List D)} (hg : Gl X "range") (hm : X.mg "range" = none) (ha : MA X hx W [a] fs) (hs : starEach [a] X.env = [(false, eval a X.env)] := by rfl) : MI X hx W tg (.Call (.Name "range" p) [a] [] pos) (iRg1 fs) :=
  pi_imp (pi_range1 hg hm ha hs) fun σ H Q ⟨b, S, ρ, R, q⟩ => ⟨b, S, ρ, R, q.bind fun d v S1 H1 g1 r1 k => by
    unfold gRng1 at k
    split at k
    · rename_i j
      obtain ⟨v1, rfl, r2⟩ := r1.one
      cases r2
      split at k
      · rename_i hb0
        have hb := of_cb hb0
        exact ⟨j, rfl, hb.1, hb.2, k _ S1 H1 g1 (itd_rng 0 _)⟩
      · exact k.elim
    · exact k.elim⟩
theorem mi_rng2 {fs : Sl → Res (List D)} (hg : Gl X "range") (hm : X.mg "range" = none) (ha : MA X hx W [a, c] fs) (hs : starEach [a, c] X.env = [(false, eval a X.env), (false, eval c X.env)] := by rfl) (hs2 : starEach [c] X.env = [(false, eval c X.env)] := by rfl) : MI X hx W tg (.Call (.Name "range" p) [a, c] [] pos) (iRg2 fs) :=
  pi_imp (pi_range2 hg hm ha hs hs2) fun σ H Q ⟨b, S, ρ, R, q⟩ => ⟨b, S, ρ, R, q.bind fun d v S1 H1 g1 r1 k => by
    unfold gRng2 at k
    split at k
    · rename_i i j
      obtain ⟨v1, v2, rfl, r2, r3⟩ := r1.two
      cases r2
      cases r3
      split at k
      · rename_i hb0
        have hb := of_cb hb0
        exact ⟨i, j, rfl, ⟨hb.1.1, hb.1.2, hb.2.1, hb.2.2⟩, k _ S1 H1 g1 (itd_rng i _)⟩
      · exact k.elim
    · exact k.elim⟩
end

/-! ### for, while -/
def forRun (g : FG) (body : Sl → Out) : List D → Sl → Out
  | [], ρ => .nx ρ
  | d :: ds, ρ => match g d ρ with
    | some ρ1 => match body ρ1 with
      | .nx ρ2 => forRun g body ds ρ2
      | .ct ρ2 => forRun g body ds ρ2
      | .bk ρ2 => .nx ρ2
      | .ret d => .ret d
      | .exc x fs ρ2 => .exc x fs ρ2
      | .bad => .bad
    | none => .bad
@[simp] def gFor (items : Sl → Res (List D)) (g : FG) (body : Sl → Out) (ρ : Sl) : Out := rS (items ρ) ρ fun ds => forRun g body ds ρ
def whRun (t : Sl → Res Bool) (body : Sl → Out) : Nat → Sl → Out
  | 0, _ => .bad
  | n + 1, ρ => rS (t ρ) ρ fun b => if b then (match body ρ with
      | .nx ρ2 => whRun t body n ρ2
      | .ct ρ2 => whRun t body n ρ2
      | .bk ρ2 => .nx ρ2
      | .ret d => .ret d
      | .exc x fs ρ2 => .exc x fs ρ2
      | .bad => .bad) else .nx ρ
def gWh (fuel : Sl → Nat) (t : Sl → Res Bool) (body : Sl → Out) (ρ : Sl) : Out := whRun t body (fuel ρ) ρ
section
variable {X : Cx} {hx : Hx} {W : WX} {tg e c : Expr} {body : List Stmt} {pos : Pos}
theorem ms_for {is : List Nat} {items : Sl → Res (List D)} {g : FG} {gb : Sl → Out} (hp : PassesOwn (model X.prog X.w) X.A X.env X.xe) (hc : X.calm = true) (hi : MI X hx W tg e items) (hg : MG X hx tg is g) (hb : MSs X hx W body gb)
    (hs : ∀ x, foldedSetIterable e X.env x = pure x := by intro _; rfl) : MS X hx W (.For tg e body [] pos) (gFor items g gb) := ps_imp (ps_for hp hc hi hg hb hs) fun D σ H ⟨b, S, ρ, R, q⟩ =>
  ⟨b, S, ρ, R, rS_po R q fun ds J S1 H1 g1 r1 k => by
    refine ⟨fun i m σ' H' => m = ds.length - i ∧ i ≤ ds.length ∧ ∃ S' ρ', Same S1 S' ∧ Rel X.K X.mg hx b S' ρ' σ' H' ∧ PoS X.K X.mg hx W b S' (forRun g gb (ds.drop i) ρ') D, ⟨ds.length, rfl, Nat.zero_le _, S1, ρ, Same.refl _, R.grow g1, PoS.up g1.s k⟩, ?_⟩
    rintro i m σ' H' ⟨rfl, hi, S', ρ', s1, R', k'⟩
    by_cases hlt : i < ds.length
    · have ed : ds.drop i = ds[i] :: ds.drop (i + 1) := List.drop_eq_getElem_cons hlt
      obtain ⟨go, yl⟩ := r1.go S' H' i ds[i] s1 R'.sh (List.getElem?_eq_getElem hlt)
      refine .inr ⟨go, fun σ2 H2 => ∃ S2 ρ2, Same S1 S2 ∧ Rel X.K X.mg hx b S2 ρ2 σ2 H2 ∧ PoS X.K X.mg hx W b S2 (forRun g gb (ds.drop (i + 1)) ρ2) D, fun σ2 H2 w => ⟨ds.length - (i + 1), by omega, rfl, hlt, w⟩, fun x H2 y => ?_⟩
      obtain ⟨S2, g2, r2⟩ := yl x H2 y
      refine ⟨b, S2, ρ', ds[i], R'.grow g2, r2, ?_⟩
      rw [ed] at k'
      unfold forRun at k'
      cases eg : g ds[i] ρ' with
      | none => rw [eg] at k'; exact k'.elim
      | some ρ1 =>
        rw [eg] at k'
        intro σ3 R3 _
        refine ⟨b, S2, ρ1, R3, ?_⟩
        simp only at k'
        cases eb : gb ρ1 with
        | nx ρ2 => rw [eb] at k'; exact fun S4 σ4 H4 s4 R4 => ⟨S4, ρ2, (s1.trans g2.s).trans s4, R4, PoS.up (g2.s.trans s4) k'⟩
        | ct ρ2 => rw [eb] at k'; exact fun S4 σ4 H4 s4 R4 => ⟨S4, ρ2, (s1.trans g2.s).trans s4, R4, PoS.up (g2.s.trans s4) k'⟩
        | bk ρ2 => rw [eb] at k'; exact fun S4 σ4 H4 s4 R4 => k' S4 σ4 H4 (g2.s.trans s4) R4
        | ret d => rw [eb] at k'; exact k'
        | exc x fs ρ2 => rw [eb] at k'; exact PoS.up g2.s k'
        | bad => rw [eb] at k'; exact k'.elim
    · have ei : i = ds.length := by omega
      subst ei
      rw [List.drop_length] at k'
      exact .inl ⟨r1.stop S' H' s1 R'.sh, k' S' σ' H' (Same.refl _) R'⟩⟩
theorem ms_while {t : Sl → Res Bool} {gb : Sl → Out} (fuel : Sl → Nat) (hp : PassesOwn (model X.prog X.w) X.A X.env X.xe) (hc : MT X hx W c t) (hb : MSs X hx W body gb) : MS X hx W (.While c body [] pos) (gWh fuel t gb) := ps_imp (ps_while hp hc hb) fun D σ H ⟨b, S, ρ, R, q⟩ => by
  refine ⟨fun m σ' H' => ∃ S' ρ', Same S S' ∧ Rel X.K X.mg hx b S' ρ' σ' H' ∧ PoS X.K X.mg hx W b S' (whRun t gb m ρ') D, ⟨fuel ρ, S, ρ, Same.refl _, R, q⟩, ?_⟩
  rintro m σ' H' ⟨S', ρ', s1, R', k'⟩
  cases m with
  | zero => exact k'.elim
  | succ m =>
    refine ⟨b, S', ρ', R', rS_po R' k' fun d v S1 H1 g1 r1 k => ?_⟩
    cases r1
    cases d with
    | false => exact iteF (k S1 σ' H1 g1.s (R'.grow g1))
    | true =>
      refine iteT ⟨fun σ2 H2 => ∃ S2 ρ2, Same S S2 ∧ Rel X.K X.mg hx b S2 ρ2 σ2 H2 ∧ PoS X.K X.mg hx W b S2 (whRun t gb m ρ2) D, fun σ2 H2 w => ⟨m, Nat.lt_succ_self _, w⟩, b, S1, ρ', R'.grow g1, ?_⟩
      simp only [if_true] at k
      cases eb : gb ρ' with
      | nx ρ2 => rw [eb] at k; exact fun S4 σ4 H4 s4 R4 => ⟨S4, ρ2, (s1.trans g1.s).trans s4, R4, PoS.up (g1.s.trans s4) k⟩
      | ct ρ2 => rw [eb] at k; exact fun S4 σ4 H4 s4 R4 => ⟨S4, ρ2, (s1.trans g1.s).trans s4, R4, PoS.up (g1.s.trans s4) k⟩
      | bk ρ2 => rw [eb] at k; exact fun S4 σ4 H4 s4 R4 => k S4 σ4 H4 (g1.s.trans s4) R4
      | ret d => rw [eb] at k; exact k
      | exc x fs ρ2 => rw [eb] at k; exact PoS.up g1.s k
      | bad => rw [eb] at k; exact k.elim
end

/-! ### comprehensions -/
@[simp] def wipeS (ρ : Sl) : List Nat → Sl
  | [] => ρ
  | v :: vs => (wipeS ρ vs).set v .e
theorem Rel.wipeL {K : Frg} {mg : Mg} {hx : Hx} {b : Bs} {S H : Hp} {ρ : Sl} {σ : L2.St} (R : Rel K mg hx b S ρ σ H) : ∀ vs : List Nat, Rel K mg hx b S (wipeS ρ vs) (wipe σ vs) H
  | [] => R
  | v :: vs => (R.wipeL vs).wipe1
def Res.nx {α : Type} (r : Res α) : Res α := match r with
  | .ok a => .ok a
  | _ => .bad
def W0 : WX := fun _ _ _ _ => False
def lcRun (g : FG) (t : Sl → Res Bool) (f : Sl → Res D) (ρ : Sl) : List D → List D → Res (List D)
  | [], acc => .ok acc
  | d :: ds, acc => match g d ρ with
    | none => .bad
    | some ρ1 => (t ρ1).nx.bind fun b => if b then (f ρ1).nx.bind fun y => if acc.length < 16777216 then lcRun g t f ρ ds (acc ++ [y]) else .bad
      else lcRun g t f ρ ds acc
@[simp] def fLc (items : Sl → Res (List D)) (g : FG) (t : Sl → Res Bool) (f : Sl → Res D) (vs : List Nat) (ρ : Sl) : Res (List D) := (items ρ).bind fun ds => lcRun g t f (wipeS ρ vs) ds []
theorem wipe_get {σ : L2.St} {i : Nat} : ∀ {vs : List Nat}, i < σ.length → (wipe σ vs)[i]? = if i ∈ vs then some none else σ[i]?
  | [], _ => by simp [wipe]
  | v :: vs, h => by
    unfold wipe
    by_cases e : v = i
    · subst e
      rw [List.getElem?_set_self (by rw [wipe_length]; exact h)]
      simp
    · rw [List.getElem?_set_ne e, wipe_get (vs := vs) h]
      have : (i ∈ v :: vs) ↔ i ∈ vs := by simp [Ne.symm e]
      simp only [this]
theorem agree_wipe {is vs : List Nat} {σ σ' : L2.St} (h : AgreeOff is (wipe σ vs) σ') (hs : ∀ i ∈ is, i ∈ vs) : wipe σ' vs = wipe σ vs := by
  have hl : σ'.length = σ.length := h.1.trans (wipe_length σ vs)
  apply List.ext_getElem?
  intro i
  by_cases hi : i < σ.length
  · rw [wipe_get (by rw [hl]; exact hi), wipe_get hi]
    by_cases hm : i ∈ vs
    · simp [hm]
    · simp only [hm, if_false]
      rw [h.2 i (fun z => hm (hs i z)), wipe_get hi]
      simp [hm]
  · rw [List.getElem?_eq_none (by rw [wipe_length, hl]; omega), List.getElem?_eq_none (by rw [wipe_length]; omega)]
theorem Po.nx0 {α β : Type} {K : Frg} {mg : Mg} {R : RR α β} {W : WX} {S : Hp} {σ : L2.St} {H : Hp} {r : Res β} {Q : α → Hp → Prop} (h : Po K mg R W S σ H r.nx Q) : Po K mg R W0 S σ H r Q := by
  cases r with
  | ok d => exact h
  | exc x fs => exact h.elim
  | bad => exact h
section
variable {X : Cx} {hx : Hx} {W : WX}
abbrev MTs (X : Cx) (hx : Hx) (W : WX) (ifs : List Expr) (t : Sl → Res Bool) : Prop := PTs X ifs (tG X.K X.mg hx rrT W t)
@[simp] def tYesF (_ : Sl) : Res Bool := .ok true
theorem mts_nil : MTs X hx W [] tYesF := ⟨fun pins s σ H Q I ⟨b, S, ρ, R, q⟩ => pts_nil.run pins s σ H Q I (q true S H (Gr.refl R.sh) rfl)⟩
theorem mts_one {c : Expr} {t : Sl → Res Bool} (h : MT X hx W c t) : MTs X hx W [c] t := pts_one h
theorem lc_ok {items : Sl → Res (List D)} {g : FG} {t : Sl → Res Bool} {f : Sl → Res D} {is vs : List Nat} {K : Frg} {mg : Mg} {ts : TE} (his : ∀ i ∈ is, i ∈ vs) : ∀ σ H Q, tG K mg hx (rrF K mg) W (fLc items g t f vs) σ H Q →
    tLc (tG K mg hx (rrI K mg) W items) (gG K mg hx is g) (tG K mg hx rrT W0 t) (tG K mg hx (rrE K mg) W0 f) vs σ H Q := fun σ H Q ⟨b, S, ρ, R, q⟩ =>
  ⟨b, S, ρ, R, q.bind fun ds J S1 H1 g1 r1 k Dl hD => by
    have k1 : Po K mg (rrF K mg) W S1 σ H1 (lcRun g t f (wipeS ρ vs) ds []) Q := Po.upF g1 k
    have hS : S1 Dl = none := same_none g1.i hD
    refine ⟨fun i m H' => m = ds.length - i ∧ i ≤ ds.length ∧ ∃ S' acc vacc, Gr S1 H1 S' H' ∧ S' Dl = none ∧ H' Dl = some (.lst vacc) ∧ RpA K mg S' vacc acc ∧ Po K mg (rrF K mg) W S1 σ H1 (lcRun g t f (wipeS ρ vs) (ds.drop i) acc) Q,
      ⟨ds.length, rfl, Nat.zero_le _, S1, [], [], Gr.lay g1.i hD, hS, upd_same, .nil, k1⟩, ?_⟩
    rintro i m H' ⟨rfl, hi, S', acc, vacc, g', hS', hH', ra, k'⟩
    have R' : Rel K mg hx b S' (wipeS ρ vs) (wipe σ vs) H' := ((R.grow g1).grow g').wipeL vs
    by_cases hlt : i < ds.length
    · have ed : ds.drop i = ds[i] :: ds.drop (i + 1) := List.drop_eq_getElem_cons hlt
      obtain ⟨go, yl⟩ := r1.go S' H' i ds[i] g'.s g'.i (List.getElem?_eq_getElem hlt)
      refine .inr ⟨go, fun H2 => ∃ S2 acc2 vacc2, Gr S1 H1 S2 H2 ∧ S2 Dl = none ∧ H2 Dl = some (.lst vacc2) ∧ RpA K mg S2 vacc2 acc2 ∧ Po K mg (rrF K mg) W S1 σ H1 (lcRun g t f (wipeS ρ vs) (ds.drop (i + 1)) acc2) Q, fun H2 w => ⟨ds.length - (i + 1), by omega, rfl, hlt, w⟩, fun x H2 y => ?_⟩
      obtain ⟨S2, g2, r2⟩ := yl x H2 y
      have nD : S2 Dl = none := g2.n Dl (by rw [hH']; simp) hS'
      refine ⟨b, S2, wipeS ρ vs, ds[i], R'.grow g2, r2, ?_⟩
      rw [ed] at k'
      unfold lcRun at k'
      cases eg : g ds[i] (wipeS ρ vs) with
      | none => rw [eg] at k'; exact k'.elim
      | some ρ1 =>
        rw [eg] at k'
        intro σ3 R3 ag
        refine ⟨agree_wipe ag his, b, S2, ρ1, R3, ?_⟩
        simp only at k'
        refine Po.nx0 (W := W) ?_
        cases et : (t ρ1).nx with
        | exc x fs => cases e2 : t ρ1 <;> rw [e2] at et <;> cases et
        | bad => rw [et] at k'; exact k'.elim
        | ok bt =>
          rw [et] at k'
          intro bb S4 H4 g4 e4
          cases e4
          have gg := (g'.trans g2).trans g4
          have h4D : H4 Dl = some (.lst vacc) := g4.h _ _ (g2.h _ _ hH')
          have n4 : S4 Dl = none := g4.n Dl (by rw [g2.h _ _ hH']; simp) nD
          cases bt with
          | false => exact iteF ⟨S4, acc, vacc, gg, n4, h4D, ra.up (g2.s.trans g4.s) _ _, k'⟩
          | true =>
            refine iteT ⟨b, S4, ρ1, R3.grow g4, ?_⟩
            simp only [Res.bind_ok, if_true] at k'
            refine Po.nx0 (W := W) ?_
            cases ef : (f ρ1).nx with
            | exc x fs => cases e2 : f ρ1 <;> rw [e2] at ef <;> cases ef
            | bad => rw [ef] at k'; exact k'.elim
            | ok y =>
              rw [ef] at k'
              intro v S5 H5 g5 r5
              simp only [Res.bind_ok] at k'
              split at k'
              · rename_i hl
                have g45 := gg.trans g5
                have h5D : H5 Dl = some (.lst vacc) := g5.h _ _ h4D
                have n5 : S5 Dl = none := g5.n Dl (by rw [h4D]; simp) n4
                refine ⟨vacc, h5D, size16 (by rw [ra.len]; exact hl), S5, acc ++ [y], vacc ++ [v], ⟨g45.s, fun a o e => ?_, fun a o e => ?_, g45.n⟩, n5, upd_same, (ra.up ((g2.s.trans g4.s).trans g5.s) _ _).app (.cons r5 .nil), k'⟩
                · rw [upd_ne (fun z => by rw [z, hD] at e; cases e)]; exact g45.h a o e
                · rw [upd_ne (fun z => by rw [z, n5] at e; cases e)]; exact g45.i a o e
              · exact k'.elim
    · have ei : i = ds.length := by omega
      subst ei
      rw [List.drop_length] at k'
      exact .inl ⟨r1.stop S' H' g'.s g'.i, k' _ S' H' g' ⟨Dl, vacc, rfl, hD, hS', hH', ra⟩⟩⟩
theorem mf_lc {elt tg iter : Expr} {ifs : List Expr} {scope : Scope} {own : List (Str × Nat)} {pos : Pos} {items : Sl → Res (List D)} {is : List Nat} {g : FG} {t : Sl → Res Bool} {f : Sl → Res D} (hc : X.calm = true) (hN : X.N.Nodup) (hi : MI X hx W tg iter items) (ok : BlkOk X.N X.env.scope scope own)
    (hg : ∀ (s : Shared) (H : Hp) (C : Addr) (cl : List (Str × Addr)) (fp : List Addr), MG (X.blk s H scope (compEnvC scope cl C X.env) fp) hx tg is g) (ht : ∀ (s : Shared) (H : Hp) (C : Addr) (cl : List (Str × Addr)) (fp : List Addr), MTs (X.blk s H scope (compEnvC scope cl C X.env) fp) hx W0 ifs t)
    (he : ∀ (s : Shared) (H : Hp) (C : Addr) (cl : List (Str × Addr)) (fp : List Addr), ME (X.blk s H scope (compEnvC scope cl C X.env) fp) hx W0 elt f) (his : (is.all fun i => (own.map (·.2)).contains i) = true := by decide) (hs : ∀ x, foldedSetIterable iter X.env x = pure x := by intro _; rfl) :
    MF X hx W (.ListComp elt [⟨tg, iter, ifs, 0⟩] scope pos) (fLc items g t f (own.map (·.2))) :=
  pe_imp (pe_lc hc hN hi ok hg ht he hs) (lc_ok (ts := fun _ _ _ => True) fun i hi => by
    have h1 := List.all_eq_true.mp his i hi
    simpa using h1)
theorem ms_setLcO (i : Nat) {y : Str} {py : Pos} {elt tg iter : Expr} {ifs : List Expr} {scope : Scope} {own : List (Str × Nat)} {pos spos : Pos} {items : Sl → Res (List D)} {is : List Nat} {g : FG} {t : Sl → Res Bool} {f : Sl → Res D} (hc : X.calm = true) (hN : X.N.Nodup)
    (hsw : swapsWith (.ListComp elt [⟨tg, iter, ifs, 0⟩] scope pos) (some (.Name y py)) spos.line X.env = pure true) (hi : MI X hx W tg iter items) (ok : BlkOk X.N X.env.scope scope own)
    (hg : ∀ (s : Shared) (H : Hp) (C : Addr) (cl : List (Str × Addr)) (fp : List Addr), MG (X.blk s H scope (compEnvC scope cl C X.env) fp) hx tg is g) (ht : ∀ (s : Shared) (H : Hp) (C : Addr) (cl : List (Str × Addr)) (fp : List Addr), MTs (X.blk s H scope (compEnvC scope cl C X.env) fp) hx W0 ifs t)
    (he : ∀ (s : Shared) (H : Hp) (C : Addr) (cl : List (Str × Addr)) (fp : List Addr), ME (X.blk s H scope (compEnvC scope cl C X.env) fp) hx W0 elt f) (hy : X.N[i]? = some y := by rfl) (hyl : X.env.scope.names.lookup y = some .local := by rfl) (his : (is.all fun i => (own.map (·.2)).contains i) = true := by decide) (hs : ∀ x, foldedSetIterable iter X.env x = pure x := by intro _; rfl) :
    MS X hx W (.Assign [.Name y py] (.ListComp elt [⟨tg, iter, ifs, 0⟩] scope pos) spos) (gSetO i (fLc items g t f (own.map (·.2)))) :=
  ps_imp (ps_setLc hc hN hy hyl hsw hi ok hg ht he hs) fun D σ H ⟨b, S, ρ, R, q⟩ => lc_ok (ts := fun _ _ _ => True) (fun i hi => by
    have h1 := List.all_eq_true.mp his i hi
    simpa using h1) σ H _ ⟨b, S, ρ, R, rS_po R q fun d v S1 H1 g1 ⟨p, vs, h1, h2, h3, h4, h5⟩ k => by
      subst h1
      exact k S1 _ H1 g1.s (R.putN g1 h2 h3 h4 h5)⟩
end
end PF

set_option Elab.async false
set_option linter.all false
set_option maxRecDepth 100000
set_option maxHeartbeats 4000000
namespace PF
open PySem PySem.Spec L2

/-! ### defs and calls -/
/-- the promise of a def that hands back g of its arguments' data, and changes nothing -/
def spF (K : Frg) (mg : Mg) (n : Nat) (g : List D → Res D) : Sp := fun vs H Q E => ∃ ds S, vs.length = n ∧ Same S H ∧ RpA K mg S vs ds ∧ Po K mg (rrX K mg) (fun cls d _ H' => E cls d H') S [] H (g ds) Q
/-- what a body makes of its arguments: n slots -/
@[simp] def semF (n : Nat) (g : Sl → Out) (ds : List D) : Res D := match g (ds.map Cell.v ++ List.replicate (n - ds.length) .e) with
  | .nx _ => .ok .non
  | .ret d => .ok d
  | .exc x fs _ => .exc x fs
  | _ => .bad
theorem Rel.start {K : Frg} {mg : Mg} {N : List Str} {S H : Hp} {vs : List V} {ds : List D} (i : Same S H) (r : RpA K mg S vs ds) : Rel K mg none ⟨H, S⟩ S (ds.map Cell.v ++ List.replicate (N.length - ds.length) .e) (L2.start N vs) H where
  s0 := Same.refl _
  sh := i
  h0 := Same.refl _
  nw := fun _ _ e => e
  len := by simp [L2.start, r.len]
  val := fun j d e => by
    have hl := r.len
    rw [List.getElem?_append] at e
    split at e
    · rename_i hj
      rw [List.getElem?_map] at e
      cases q : ds[j]? with
      | none => rw [q] at e; cases e
      | some d' =>
        rw [q] at e
        cases e
        obtain ⟨v, h1, h2⟩ := r.get q
        refine ⟨v, ?_, h2⟩
        have hj' : j < vs.length := (List.getElem?_eq_some_iff.mp h1).1
        unfold L2.start
        rw [List.getElem?_append_left (by simpa using hj'), List.getElem?_map, h1]
        rfl
    · rw [List.getElem?_replicate] at e
      split at e <;> cases e
  own := fun j es e => by
    rw [List.getElem?_append] at e
    split at e
    · rw [List.getElem?_map] at e
      cases q : ds[j]? with
      | none => rw [q] at e; cases e
      | some d' => rw [q] at e; cases e
    · rw [List.getElem?_replicate] at e
      split at e <;> cases e
  xc := fun j c fs e => by
    rw [List.getElem?_append] at e
    split at e
    · rw [List.getElem?_map] at e
      cases q : ds[j]? with
      | none => rw [q] at e; cases e
      | some d' => rw [q] at e; cases e
    · rw [List.getElem?_replicate] at e
      split at e <;> cases e
  apart := fun j k es gs p ne e1 => by
    rw [List.getElem?_append] at e1
    split at e1
    · rw [List.getElem?_map] at e1
      cases q : ds[j]? with
      | none => rw [q] at e1; cases e1
      | some d' => rw [q] at e1; cases e1
    · rw [List.getElem?_replicate] at e1
      split at e1 <;> cases e1
theorem Bok.gr {b : Bs} {S H : Hp} (h : Bok b S H) : Gr b.S0 b.H0 S H := ⟨h.s0, h.h0, h.sh, h.nw⟩
abbrev WE0 (E : XK) : WX := fun cls d _ H => E cls d H
/-- what a body's statements may lean on -/
structure Cs (X : Cx) (W : WX) : Prop where
  tk : Takes X W
  po : PassesOwn (model X.prog X.w) X.A X.env X.xe
  hc : X.calm = true
section
variable {P : Program} {w : World} {K : Frg} {mg : Mg} {base : Heap}
theorem fn_ok {x qual : Str} {st : Stmt} {f : Addr} {fd : FuncData} {N ps : List Str} {k : Nat} {g : Sl → Out} (F : Fun K x qual st f fd) (Sc : FnScope N ps (defScope st))
    (hb : ∀ (cdv : Value) (A : Around) (outer : List Env) (s : Shared) (H : Hp) (E : XK), Room k (cxOf (L2.CX P w) P w K mg base N qual (defScope st) f cdv A outer s H E).A → Cs (cxOf (L2.CX P w) P w K mg base N qual (defScope st) f cdv A outer s H E) (WE0 E) →
      MSs (cxOf (L2.CX P w) P w K mg base N qual (defScope st) f cdv A outer s H E) none (WE0 E) (defBody st) g) : FnOk P w K mg base (L2.CX P w) (k + 1) f fd ps (spF K mg ps.length (semF N.length g)) :=
  F.okX Sc (fun vs H Q E h => by obtain ⟨ds, S, h1, _⟩ := h; exact h1) fun cdv A outer s H vs Q E hr h => by
    obtain ⟨ds, S, h1, h2, h3, h4⟩ := h
    refine ⟨_, hb cdv A outer s H E hr ⟨takes_of rfl rfl rfl rfl, passes_of rfl, rfl⟩, ⟨H, S⟩, S, ds.map Cell.v ++ List.replicate (N.length - ds.length) Cell.e, Rel.start (N := N) h2 h3, ?_⟩
    unfold semF at h4
    cases e : g (ds.map Cell.v ++ List.replicate (N.length - ds.length) .e) with
    | nx ρ => rw [e] at h4; exact fun S' σ' H' s1 R' => h4 .non S' H' R'.bok.gr (.inl .non)
    | ret d => rw [e] at h4; exact fun S' H' v bk r => h4 v S' H' bk.gr r
    | exc x fs ρ => rw [e] at h4; exact fun S' σ' H' C dx s1 R' m xd => h4 S' H' C dx R'.bok.gr m xd
    | bk ρ => rw [e] at h4; exact h4.elim
    | ct ρ => rw [e] at h4; exact h4.elim
    | bad => rw [e] at h4; exact h4.elim
/-- a promise of less -/
theorem FnOk.less {k f} {fd : FuncData} {ps : List Str} {n : Nat} {g g' : List D → Res D} (F : FnOk P w K mg base (L2.CX P w) k f fd ps (spF K mg n g)) (h : ∀ ds, g' ds = g ds ∨ g' ds = .bad) : FnOk P w K mg base (L2.CX P w) k f fd ps (spF K mg n g') :=
  F.imp fun vs H Q E ⟨ds, S, h1, h2, h3, h4⟩ => ⟨ds, S, h1, h2, h3, by
    rcases h ds with q | q
    · rw [← q]; exact h4
    · rw [q] at h4; exact h4.elim⟩
end
/-- what a call of a def asks of its place -/
abbrev Cw (X : Cx) (W : WX) : Prop := ∀ σ, PassesAt (L2.CX X.prog X.w) X σ (WE W σ)
theorem Cs.cw {X : Cx} {W : WX} (c : Cs X W) : Cw X W := fun σ => passAt c.tk σ
theorem cw0 {X : Cx} : Cw X W0 := fun σ pins H s e s' I h => by
  obtain ⟨_, _, _, _, _, _, _, _, _, _, _, _, z⟩ := h
  exact z.elim
/-- an argument list has its length -/
theorem len_nil {ρ : Sl} {ds : List D} (h : aNil ρ = .ok ds) : ds.length = 0 := by cases h; rfl
theorem len_cons {f : Sl → Res D} {fs : Sl → Res (List D)} {n : Nat} (ih : ∀ ρ ds, fs ρ = .ok ds → ds.length = n) : ∀ ρ ds, aCons f fs ρ = .ok ds → ds.length = n + 1 := fun ρ ds h => by
  unfold aCons at h
  cases e1 : f ρ with
  | ok d =>
    rw [e1] at h
    cases e2 : fs ρ with
    | ok r =>
      rw [Res.bind_ok, e2] at h
      cases h
      simp [ih ρ r e2]
    | exc y ys => rw [Res.bind_ok, e2] at h; cases h
    | bad => rw [Res.bind_ok, e2] at h; cases h
  | exc y ys => rw [e1] at h; cases h
  | bad => rw [e1] at h; cases h

/-! ### built-ins by their names -/
def aR1 (f : Sl → Res D) (ρ : Sl) : Res D := f ρ
section
variable {X : Cx} {hx : Hx} {W : WX} {x : Str} {p pos : Pos} {a b c : Expr} {id T : String} {r : List V → Hp → VK → Prop} {fa fb fc : Sl → Res D}
/-- a built-in of one operand that it only reads -/
theorem call1_imp {t : TE} {g : D → Res D} (hr : U1 X.K X.mg (fun v => r [v]) g) (h : PE X c (tCB r (tCons t tNil))) (hi : t = tG X.K X.mg hx (rrR X.K X.mg) W fa) : ME X hx W c (sUn g fa) := pe_imp h fun σ H Q ⟨b, S, ρ, R, q⟩ => by
  subst hi
  exact ⟨b, S, ρ, R, q.bind fun d v S1 H1 g1 r1 k => hr S1 σ H1 v d W Q g1.i r1 (k.upE g1)⟩
theorem me_b1 {g : D → Res D} (hc : CallR X (.builtin id) r) (hr : U1 X.K X.mg (fun v => r [v]) g) (hm : X.mg x = none) (hv : bootBuiltins x = some (.builtin id)) (ha : MR X hx W a fa) (hg : Gl X x := by rfl) (hn : x ≠ "__name__" := by decide) (hdb : (x == ("__debug__" : Str)) = false := by decide)
    (hs : starEach [a] X.env = (false, eval a X.env) :: starEach [] X.env := by rfl) (hpl : (backTo pos (starEach [] X.env)).any (·.1) = false := by rfl) : ME X hx W (.Call (.Name x p) [a] [] pos) (sUn g fa) :=
  call1_imp hr (pe_callB hc hg hm hv (pa_cons ha pa_nil hs) hn hdb hs hpl) rfl
theorem me_t1 {g : D → Res D} (hc : CallR X (.type T) r) (hr : U1 X.K X.mg (fun v => r [v]) g) (hm : X.mg x = none) (hv : bootBuiltins x = some (.type T)) (ha : MR X hx W a fa) (hg : Gl X x := by rfl) (hn : x ≠ "__name__" := by decide) (hdb : (x == ("__debug__" : Str)) = false := by decide)
    (hs : starEach [a] X.env = (false, eval a X.env) :: starEach [] X.env := by rfl) (hpl : (backTo pos (starEach [] X.env)).any (·.1) = false := by rfl) : ME X hx W (.Call (.Name x p) [a] [] pos) (sUn g fa) :=
  call1_imp hr (pe_callTy hc hg hm hv (pa_cons ha pa_nil hs) hn hdb hs hpl) rfl
theorem call1F_imp {t : TE} {g : D → Res (List D)} (hr : U1F X.K X.mg (fun v => r [v]) g) (h : PE X c (tCB r (tCons t tNil))) (hi : t = tG X.K X.mg hx (rrR X.K X.mg) W fa) : MF X hx W c (fUn g fa) := pe_imp h fun σ H Q ⟨b, S, ρ, R, q⟩ => by
  subst hi
  exact ⟨b, S, ρ, R, q.bind fun d v S1 H1 g1 r1 k => hr S1 σ H1 v d W Q g1.i r1 (k.upF g1)⟩
theorem mf_b1 {g : D → Res (List D)} (hc : CallR X (.builtin id) r) (hr : U1F X.K X.mg (fun v => r [v]) g) (hm : X.mg x = none) (hv : bootBuiltins x = some (.builtin id)) (ha : MR X hx W a fa) (hg : Gl X x := by rfl) (hn : x ≠ "__name__" := by decide) (hdb : (x == ("__debug__" : Str)) = false := by decide)
    (hs : starEach [a] X.env = (false, eval a X.env) :: starEach [] X.env := by rfl) (hpl : (backTo pos (starEach [] X.env)).any (·.1) = false := by rfl) : MF X hx W (.Call (.Name x p) [a] [] pos) (fUn g fa) :=
  call1F_imp hr (pe_callB hc hg hm hv (pa_cons ha pa_nil hs) hn hdb hs hpl) rfl
theorem mf_t1 {g : D → Res (List D)} (hc : CallR X (.type T) r) (hr : U1F X.K X.mg (fun v => r [v]) g) (hm : X.mg x = none) (hv : bootBuiltins x = some (.type T)) (ha : MR X hx W a fa) (hg : Gl X x := by rfl) (hn : x ≠ "__name__" := by decide) (hdb : (x == ("__debug__" : Str)) = false := by decide)
    (hs : starEach [a] X.env = (false, eval a X.env) :: starEach [] X.env := by rfl) (hpl : (backTo pos (starEach [] X.env)).any (·.1) = false := by rfl) : MF X hx W (.Call (.Name x p) [a] [] pos) (fUn g fa) :=
  call1F_imp hr (pe_callTy hc hg hm hv (pa_cons ha pa_nil hs) hn hdb hs hpl) rfl
theorem call2_imp {t u : TE} {g : D → D → Res D} (hr : O2 X.K X.mg (fun v w => r [v, w]) g) (h : PE X c (tCB r (tCons t (tCons u tNil)))) (hi : t = tG X.K X.mg hx (rrR X.K X.mg) W fa) (hj : u = tG X.K X.mg hx (rrR X.K X.mg) W fb) : ME X hx W c (sOp g fa fb) := pe_imp h fun σ H Q ⟨b, S, ρ, R, q⟩ => by
  subst hi hj
  exact ⟨b, S, ρ, R, q.bind fun d v S1 H1 g1 r1 k => ⟨b, S1, ρ, R.grow g1, (k.upE g1).bind fun d2 v2 S2 H2 g2 r2 k2 => hr S2 σ H2 v v2 d d2 W Q g2.i (r1.up g2) r2 (k2.upE g2)⟩⟩
theorem me_b2 {g : D → D → Res D} (hc : CallR X (.builtin id) r) (hr : O2 X.K X.mg (fun v w => r [v, w]) g) (hm : X.mg x = none) (hv : bootBuiltins x = some (.builtin id)) (ha : MR X hx W a fa) (hb : MR X hx W b fb) (hg : Gl X x := by rfl) (hn : x ≠ "__name__" := by decide) (hdb : (x == ("__debug__" : Str)) = false := by decide)
    (hs : starEach [a, b] X.env = (false, eval a X.env) :: starEach [b] X.env := by rfl) (hs2 : starEach [b] X.env = (false, eval b X.env) :: starEach [] X.env := by rfl) (hpl : (backTo pos (starEach [b] X.env)).any (·.1) = false := by rfl) : ME X hx W (.Call (.Name x p) [a, b] [] pos) (sOp g fa fb) :=
  call2_imp hr (pe_callB hc hg hm hv (pa_cons ha (pa_cons hb pa_nil hs2) hs) hn hdb hs hpl) rfl rfl
/-- a built-in function that a module brings (gcd) -/
theorem me_bf2 {g : D → D → Res D} (hc : CallR X (.builtin id) r) (hr : O2 X.K X.mg (fun v w => r [v, w]) g) (hm : X.mg x = some (.builtin id)) (ha : MR X hx W a fa) (hb : MR X hx W b fb) (hg : Gl X x := by rfl) (hdb : (x == ("__debug__" : Str)) = false := by decide)
    (hs : starEach [a, b] X.env = (false, eval a X.env) :: starEach [b] X.env := by rfl) (hs2 : starEach [b] X.env = (false, eval b X.env) :: starEach [] X.env := by rfl) (hpl : (backTo pos (starEach [b] X.env)).any (·.1) = false := by rfl) : ME X hx W (.Call (.Name x p) [a, b] [] pos) (sOp g fa fb) :=
  call2_imp hr (pe_callBfun hc hg hm (pa_cons ha (pa_cons hb pa_nil hs2) hs) hdb hs hpl) rfl rfl
end

/-! ### raise, try -/
/-- an exception class of the program, without an own __init__ -/
structure ExcT (K : Frg) (mg : Mg) (x : Str) (C : Addr) : Prop where
  g : mg x = some (.ref C)
  xk : PySem.W.excIn K C [.type "ValueError", .type "Exception", .type "BaseException", .type "object"] "ValueError.__new__" = true
  kp : PySem.W.keepIn K (.ref C) = true
  sb : PySem.W.subIn K (.ref C) (.type "BaseException") = some true
  ty : PySem.W.typeIn K (.ref C) = some (.type "type")
@[simp] def gRaise (x : Str) (ρ : Sl) : Out := .exc x [] ρ
theorem ms_raise {X : Cx} {hx : Hx} {W : WX} {x m : Str} {C : Addr} {j : Nat} {p p2 pos pos' : Pos} (c : Cs X W) (T : ExcT X.K X.mg x C) (hg : Gl X x := by rfl) (hdb : (x == ("__debug__" : Str)) = false := by decide) :
    MS X hx W (.Raise (some (.Call (.Name x p) [.Constant (.str m) j p2] [] pos')) none pos) (gRaise x) :=
  ps_imp (ps_raise c.hc c.tk (pmk_own PySem.F.excBase_ValueError T.xk T.g T.kp (raises_own T.sb T.ty) hg hdb)) fun D σ H ⟨b, S, ρ, R, q⟩ => q S σ H C none (Same.refl _) R T.g rfl

/-- try: body / except c as n: suite. tab: which exceptions the clause takes; slot i is n's -/
@[simp] def clrC (c : Cell) : Cell := match c with
  | .xc _ _ => .e
  | c => c
@[simp] def gTry (i : Nat) (tab : Str → Option Bool) (body : Sl → Out) (suite : Sl → Out) (ρ : Sl) : Out := match body ρ with
  | .exc x fs ρ1 => match tab x with
    | some true => if i < ρ1.length then (match suite (ρ1.set i (.xc x fs)) with
      | .nx ρ2 => .nx ((ρ2.set i .e).map clrC)
      | .bk ρ2 => .bk ((ρ2.set i .e).map clrC)
      | .ct ρ2 => .ct ((ρ2.set i .e).map clrC)
      | .ret d => .ret d
      | _ => .bad) else .bad
    | some false => .exc x fs ρ1
    | none => .bad
  | o => o
/-- the clause's class takes what the table says -/
def Tab (K : Frg) (mg : Mg) (tab : Str → Option Bool) (c : Value) : Prop := ∀ x C b, mg x = some (.ref C) → tab x = some b → PySem.W.exmOne K (.ref C) c = some b
def hxOf (a : Addr) (cls : Value) (d : Option Addr) : Hx := match cls with
  | .ref C => some (a, C, d)
  | _ => none
theorem Rel.exc {K : Frg} {mg : Mg} {b : Bs} {S H : Hp} {ρ : Sl} {σ : L2.St} {i : Nat} {a C : Addr} {dx : Option Addr} {c : Str} {fs : List (Str × D)} (R : Rel K mg none b S ρ σ H) (hi : i < ρ.length) (hm : mg c = some (.ref C)) (x : Xd K mg S H dx fs) : Rel K mg (some (a, C, dx)) b S (ρ.set i (.xc c fs)) (σ.set i (some (.ref a))) H where
  s0 := R.s0
  sh := R.sh
  h0 := R.h0
  nw := R.nw
  len := by simp [R.len]
  val := fun j d' e => by
    rcases getset e with ⟨_, h2, _⟩ | ⟨h1, h2⟩
    · cases h2
    · obtain ⟨v', h3, h4⟩ := R.val j d' h2
      exact ⟨v', by rw [List.getElem?_set_ne h1]; exact h3, h4⟩
  own := fun j ds e => by
    rcases getset e with ⟨_, h2, _⟩ | ⟨h1, h2⟩
    · cases h2
    · obtain ⟨p, vs, h3, h4⟩ := R.own j ds h2
      exact ⟨p, vs, by rw [List.getElem?_set_ne h1]; exact h3, h4⟩
  xc := fun j c' fs' e => by
    rcases getset e with ⟨h1, h2, h3⟩ | ⟨h1, h2⟩
    · cases h2
      subst h1
      exact ⟨a, C, dx, rfl, by rw [List.getElem?_set_self (by rw [← R.len]; exact hi)], hm, x⟩
    · obtain ⟨_, _, _, q1, _⟩ := R.xc j c' fs' h2
      cases q1
  apart := fun j k ds es p ne e1 e2 e3 e4 => by
    rcases getset e1 with ⟨_, h2, _⟩ | ⟨h1, h2⟩
    · cases h2
    · rcases getset e2 with ⟨_, h4, _⟩ | ⟨h3, h4⟩
      · cases h4
      · rw [List.getElem?_set_ne h1] at e3
        rw [List.getElem?_set_ne h3] at e4
        exact R.apart j k ds es p ne h2 h4 e3 e4
theorem clr_get {ρ : Sl} {i : Nat} {c : Cell} (h : (ρ.map clrC)[i]? = some c) : ∃ c0, ρ[i]? = some c0 ∧ clrC c0 = c := by
  rw [List.getElem?_map] at h
  cases e : ρ[i]? with
  | none => rw [e] at h; cases h
  | some c0 => rw [e] at h; exact ⟨c0, rfl, Option.some.inj h⟩
theorem Rel.clear {K : Frg} {mg : Mg} {hx : Hx} {b : Bs} {S H : Hp} {ρ : Sl} {σ : L2.St} (R : Rel K mg hx b S ρ σ H) : Rel K mg none b S (ρ.map clrC) σ H where
  s0 := R.s0
  sh := R.sh
  h0 := R.h0
  nw := R.nw
  len := by simp [R.len]
  val := fun i d e => by
    obtain ⟨c0, h1, h2⟩ := clr_get e
    cases c0 <;> cases h2
    exact R.val i _ h1
  own := fun i d e => by
    obtain ⟨c0, h1, h2⟩ := clr_get e
    cases c0 <;> cases h2
    exact R.own i _ h1
  xc := fun i c fs e => by
    obtain ⟨c0, h1, h2⟩ := clr_get e
    cases c0 <;> cases h2
  apart := fun i j ds es p ne e1 e2 => by
    obtain ⟨c0, h1, h2⟩ := clr_get e1
    obtain ⟨c1, h3, h4⟩ := clr_get e2
    cases c0 <;> cases h2
    cases c1 <;> cases h4
    exact R.apart i j _ _ p ne h1 h3
theorem ms_try {X : Cx} {W : WX} (i : Nat) {x n : Str} {c : Value} {body suite : List Stmt} {b₀ : Stmt} {np pos pos' : Pos} {gb gs : Sl → Out} {tab : Str → Option Bool} (cs : Cs X W) (hs : X.stack = X.env :: X.outer) (hf : X.env.frame = some X.env.locals) (hN : X.N.Nodup)
    (hc : Names X x c) (ht : Tab X.K X.mg tab c)
    (hb : ∀ (W' : WX) (pn : List (Addr × Obj)) (xe : Value → Shared → Prop), Cs (X.tr pn xe) W' → MSs (X.tr pn xe) none W' body gb)
    (hsu : ∀ (a : Addr) (oe : Obj) (C : Addr) (d : Option Addr) (pn : List (Addr × Obj)), Zc (.ref C) d oe → (∃ vs, oe.data = .fields vs) → MSs (X.suite a ((a, oe) :: pn)) (some (a, C, d)) W0 (b₀ :: suite) gs)
    (hi : X.N[i]? = some n := by rfl) (hln : X.env.kindOf n = some .local := by rfl) :
    MS X none W (.Try body [.ExceptHandler (some (.Name x np)) (some n) (b₀ :: suite) pos'] [] [] pos) (gTry i tab gb gs) :=
  ps_imp (ps_try_as (tb := fun W' => tS X.K X.mg none W' gb) (ts := fun a cls d D σ H => ∃ C, cls = .ref C ∧ tS X.K X.mg (some (a, C, d)) W0 gs D σ H) (Wout := W) hs hf hN hi hln hc cs.tk (fun W' pn xe tk po => hb W' pn xe ⟨tk, po, cs.hc⟩) (fun a oe cls d pn z hv => ⟨fun pins s σ H D I ⟨C, e, q⟩ => by
      subst e
      exact (hsu a oe C d pn z hv).run pins s σ H D I q⟩)) fun D σ H ⟨b, S, ρ, R, q⟩ => by
    refine ⟨b, S, ρ, R, ?_⟩
    unfold gTry at q
    cases e : gb ρ with
    | nx ρ' => rw [e] at q; exact q
    | ret d => rw [e] at q; exact q
    | bk ρ' => rw [e] at q; exact q
    | ct ρ' => rw [e] at q; exact q
    | bad => rw [e] at q; exact q
    | exc y fs ρ1 =>
      rw [e] at q
      intro S1 σ1 H1 C dx s1 R1 hm hxd
      simp only at q
      cases et : tab y with
      | none => rw [et] at q; exact q.elim
      | some tb =>
        rw [et] at q
        refine ⟨tb, ht y C tb hm et, fun e2 a _ => ?_, fun e2 => ?_⟩
        · subst e2
          simp only at q
          split at q
          · rename_i hil
            refine ⟨C, rfl, b, S1, _, Rel.exc R1 hil hm hxd, ?_⟩
            cases es : gs (ρ1.set i (.xc y fs)) with
            | nx ρ2 => rw [es] at q; exact fun S2 σ2 H2 s2 R2 => q S2 _ H2 (s1.trans s2) (R2.wipe1.clear)
            | bk ρ2 => rw [es] at q; exact fun S2 σ2 H2 s2 R2 => q S2 _ H2 (s1.trans s2) (R2.wipe1.clear)
            | ct ρ2 => rw [es] at q; exact fun S2 σ2 H2 s2 R2 => q S2 _ H2 (s1.trans s2) (R2.wipe1.clear)
            | ret d => rw [es] at q; exact q
            | exc y2 fs2 ρ2 => rw [es] at q; exact q.elim
            | bad => rw [es] at q; exact q.elim
          · exact q.elim
        · subst e2
          exact q S1 σ1 H1 C dx s1 R1 hm hxd

/-! ### isinstance of the exception that a suite holds -/
@[simp] def sIsE (i : Nat) (tab : Str → Option Bool) (ρ : Sl) : Res D := match ρ[i]? with
  | some (.xc x []) => match tab x with
    | some b => .ok (.bl b)
    | none => .bad
  | _ => .bad
/-- isinstance(e, c) by the table: every class that may be held is fit to be asked -/
def TabI (K : Frg) (mg : Mg) (tab : Str → Option Bool) (cv : Value) : Prop := ∀ x C b, mg x = some (.ref C) → tab x = some b → ExcC K C ∧ PySem.W.kitOne K (.ref C) cv = some b
def TabT (K : Frg) (mg : Mg) (tab : Str → Option Bool) (cvs : List Value) : Prop := ∀ x C b, mg x = some (.ref C) → tab x = some b → ExcC K C ∧ PySem.W.kitAny K (.ref C) cvs = some b
section
variable {X : Cx} {a D0 : Addr} {oe : Obj} {pn : List (Addr × Obj)} {d : Option Addr} {W : WX} {ce : Expr} {n : Str} {p p1 pos : Pos} {cv : V} {cu : Value}
theorem xd_none {K : Frg} {mg : Mg} {S H : Hp} {dx : Option Addr} (h : Xd K mg S H dx []) : dx = none := by
  cases dx with
  | none => rfl
  | some a =>
    obtain ⟨ns, xs, ds, h1, ⟨h2, h3⟩, h4, h5⟩ := h
    have hl := h5.len
    cases ns with
    | nil => exact absurd rfl h2
    | cons n ns =>
      cases ds with
      | nil => rw [List.length_nil] at hl; rw [hl] at h3; cases h3
      | cons d ds => cases h1
theorem me_isE (i : Nat) {tab : Str → Option Bool} (hz : Zc (.ref D0) d oe) (hf : ∃ vs, oe.data = .fields vs) (ht : TabI X.K X.mg tab cu) (hv : PE (X.suite a ((a, oe) :: pn)) (.Name n p1) (tVar i)) (hc : PE (X.suite a ((a, oe) :: pn)) ce (tC cv)) (k : ClsV cv cu)
    (hm : X.mg "isinstance" = none) (hg : Gl X "isinstance" := by rfl) (hs : starEach [.Name n p1, ce] X.env = (false, eval (.Name n p1) X.env) :: starEach [ce] X.env := by rfl) (hs2 : starEach [ce] X.env = (false, eval ce X.env) :: starEach [] X.env := by rfl) (hpl : (backTo pos (starEach [ce] X.env)).any (·.1) = false := by rfl) :
    ME (X.suite a ((a, oe) :: pn)) (some (a, D0, d)) W (.Call (.Name "isinstance" p) [.Name n p1, ce] [] pos) (sIsE i tab) := ⟨fun pins s σ H Q I ⟨b, S, ρ, R, q⟩ => by
  unfold sIsE at q
  split at q
  · rename_i x e
    obtain ⟨a1, C1, d1, h1, h2, h3, h4⟩ := R.xc i x [] e
    cases h1
    split at q
    · rename_i tb et
      obtain ⟨t1, t2⟩ := ht x D0 tb h3 et
      have hd := xd_none h4
      subst hd
      exact (pe_callB (x := "isinstance") (call_isE (X := X) (a := a) (pn := pn) t1 hz hf) hg hm PyProof.Rows.boot_isinstance (pa_cons hv (pa_cons hc pa_nil hs2) hs) (by decide) (by decide) hs hpl).run pins s σ H Q I ⟨_, h2, cv, cu, tb, rfl, fun u r => k.eq r, t2, q _ S H (Gr.refl R.sh) (.bl tb)⟩
    · exact q.elim
  · exact q.elim⟩
end
end PF

set_option Elab.async false
set_option linter.all false
set_option maxRecDepth 100000
set_option maxHeartbeats 4000000
namespace PF
open PySem PySem.Spec L2

section
variable {K : Frg} {mg : Mg} {S H : Hp}
theorem Rd1.dp {v : V} {d : D} (i : Same S H) (c : d.py.canLay0 = true) (h : Rd1 K mg S H v d) : Dp K H v d.py := by
  cases d with
  | lst ds =>
    obtain ⟨p, vs, rfl, h2, h3⟩ := h
    exact .lst (SqL.of h2) (RpA.dp ds _ (by simpa [D.py, PyData.canLay0] using c) (h3.up i ds vs))
  | _ => exact Rp.dp _ _ c (Rp.up i _ v h)
theorem Rd1.int {v : V} {i : Int} (h : Rd1 K mg S H v (.int i)) : v = .int i := by
  have h' : Rp K mg S v (.int i) := h
  cases h'; rfl
theorem Rd1.bl {v : V} {i : Bool} (h : Rd1 K mg S H v (.bl i)) : v = .bl i := by
  have h' : Rp K mg S v (.bl i) := h
  cases h'; rfl
theorem Rd1.str {v : V} {i : Str} (h : Rd1 K mg S H v (.str i)) : v = .str i := by
  have h' : Rp K mg S v (.str i) := h
  cases h'; rfl
theorem Rd1.lst {v : V} {ds : List D} (h : Rd1 K mg S H v (.lst ds)) : ∃ (p : Addr) (vs : List V), v = .ref p ∧ H p = some (.lst vs) ∧ RpA K mg S vs ds := h
theorem Rd1.rol {v : V} {ds : List D} (i : Same S H) (h : Rd1 K mg S H v (.rol ds)) : ∃ (p : Addr) (vs : List V), v = .ref p ∧ SqL K H p vs ∧ RpA K mg S vs ds := by
  have h' : Rp K mg S v (.rol ds) := h
  cases h' with
  | rol a b => exact ⟨_, _, rfl, same_l i a, b⟩
theorem Rd1.tup {v : V} {ds : List D} (i : Same S H) (h : Rd1 K mg S H v (.tup ds)) : ∃ (p : Addr) (vs : List V), v = .ref p ∧ SqT K H p vs ∧ SqT K S p vs ∧ RpA K mg S vs ds := by
  have h' : Rp K mg S v (.tup ds) := h
  cases h' with
  | tup a b => exact ⟨_, _, rfl, same_t i a, a, b⟩
theorem Rd1.non {v : V} (h : Rd1 K mg S H v .non) : v = .non := by
  have h' : Rp K mg S v .non := h
  cases h'; rfl
end
theorem po_new {K : Frg} {mg : Mg} {W : WX} {S H : Hp} {σ : L2.St} {ds : List D} {vs : List V} {Q : VK} (i : Same S H) (r : RpA K mg S vs ds) (q : Po K mg (rrE K mg) W S σ H (.ok (.tup ds)) Q) : ∀ p, H p = none → Q (.ref p) (upd H p (.tup vs)) := fun p hp =>
  q _ _ _ (Gr.new i hp) (.tup (SqT.of upd_same) (r.up (same_new (same_none i hp)) _ _))
theorem po_newL {K : Frg} {mg : Mg} {W : WX} {S H : Hp} {σ : L2.St} {ds : List D} {vs : List V} {Q : VK} (i : Same S H) (r : RpA K mg S vs ds) (q : Po K mg (rrF K mg) W S σ H (.ok ds) Q) : ∀ p, H p = none → Q (.ref p) (upd H p (.lst vs)) := fun p hp =>
  q _ S _ (Gr.lay i hp) ⟨p, vs, rfl, hp, same_none i hp, upd_same, r⟩

/-! ### operators -/
@[simp] def oAdd (d e : D) : Res D := match d, e with
  | .int i, .int j => .ok (.int (i + j))
  | .str x, .str y => if x.length + y.length ≤ 16777216 then .ok (.str (x ++ y)) else .bad
  | .tup a, .tup b => if a.length + b.length ≤ 16777216 then .ok (.tup (a ++ b)) else .bad
  | .lst a, .lst b => if a.length + b.length ≤ 16777216 then .ok (.lst (a ++ b)) else .bad
  | _, _ => .bad
@[simp] def oAddI (d e : D) : Res D := match d, e with
  | .int i, .int j => .ok (.int (i + j))
  | _, _ => .bad
@[simp] def oSub (d e : D) : Res D := match d, e with
  | .int i, .int j => .ok (.int (i - j))
  | _, _ => .bad
noncomputable def mulOk (i j : Int) : Bool := cb ((Builtin.Int.intBits i : Int) + Builtin.Int.intBits j ≤ 134217728 ∨ i.natAbs < 18446744073709551616 ∨ j.natAbs < 18446744073709551616)
@[simp] noncomputable def oMul (d e : D) : Res D := match d, e with
  | .int i, .int j => if mulOk i j then .ok (.int (i * j)) else .bad
  | _, _ => .bad
noncomputable def divOk (j : Int) : Bool := cb (j ≠ 0 ∧ j.natAbs.log2 < 9000)
/-- .. or the dividend is below 2 ^ 13500 -/
noncomputable def divOkD (i j : Int) : Bool := cb (j ≠ 0 ∧ i.natAbs.log2 < 13500)
@[simp] noncomputable def oFdiv (d e : D) : Res D := match d, e with
  | .int i, .int j => if divOk j || divOkD i j then .ok (.int (i.fdiv j)) else .bad
  | _, _ => .bad
@[simp] def oMod (d e : D) : Res D := match d, e with
  | .int i, .int j => if j ≠ 0 then .ok (.int (i.fmod j)) else .bad
  | _, _ => .bad
@[simp] noncomputable def oPow (d e : D) : Res D := match d, e with
  | .int i, .int j => if cb (0 ≤ j ∧ j ≤ 1000000 ∧ i.natAbs < 2 ^ 64) then .ok (.int (i ^ j.toNat)) else .bad
  | _, _ => .bad
@[simp] def oNeg (d : D) : Res D := match d with
  | .int i => .ok (.int (-i))
  | _ => .bad
def eqOk (d : D) : Bool := SeqAt.shaped d.py
def eqv (d e : D) : Bool := PyData.eqv d.py e.py
@[simp] def oEq (d e : D) : Res D := if eqOk d && eqOk e then .ok (.bl (eqv d e)) else .bad
@[simp] def oNe (d e : D) : Res D := if eqOk d && eqOk e then .ok (.bl (!eqv d e)) else .bad
@[simp] noncomputable def oLt (d e : D) : Res D := match d, e with
  | .int i, .int j => .ok (.bl (cb (i < j)))
  | _, _ => .bad
@[simp] noncomputable def oLe (d e : D) : Res D := match d, e with
  | .int i, .int j => .ok (.bl (cb (i ≤ j)))
  | _, _ => .bad
@[simp] noncomputable def oGt (d e : D) : Res D := match d, e with
  | .int i, .int j => .ok (.bl (cb (j < i)))
  | _, _ => .bad
@[simp] noncomputable def oGe (d e : D) : Res D := match d, e with
  | .int i, .int j => .ok (.bl (cb (j ≤ i)))
  | _, _ => .bad
@[simp] def isNon (d : D) : Bool := match d with
  | .non => true
  | _ => false
@[simp] def oIsN (d e : D) : Res D := match e with
  | .non => .ok (.bl (isNon d))
  | _ => .bad
@[simp] def oNotN (d e : D) : Res D := match e with
  | .non => .ok (.bl (!isNon d))
  | _ => .bad
@[simp] noncomputable def fRep (d e : D) : Res (List D) := match d, e with
  | .lst xs, .int k => if cb (-(2 ^ 63) ≤ k ∧ k < 2 ^ 63 ∧ xs.length * k.toNat ≤ 16777216) then .ok (List.replicate k.toNat xs).flatten else .bad
  | _, _ => .bad
@[simp] def fCat (d e : D) : Res (List D) := match d, e with
  | .lst xs, .lst ys => if xs.length + ys.length ≤ 16777216 then .ok (xs ++ ys) else .bad
  | _, _ => .bad
section
variable {X : Cx}
theorem CMulX_of_small {i j : Int} (h : mulOk i j = true) : IntMulOk i j := by
  rcases of_cb h with h | h | h
  · exact CMulX.ok h
  · exact CMul.ok (.inl ⟨by omega, by omega⟩)
  · exact CMul.ok (.inr ⟨by omega, by omega⟩)
theorem op_mulU : OpR X (binaryOp .Mult) (rI (fun i j => mulOk i j = true) fun i j => .int (i * j)) := opI fun _ _ _ _ _ _ _ hc q => PyProof.Rows.mul_int q (CMulX_of_small hc)
theorem noPy_dividend {x y : Int} (h : x.natAbs.log2 < 13500) : Builtin.divisionGoesByPylong x y = false := by
  have kx : (if x == 0 then 0 else x.natAbs.log2 / 30 + 1) ≤ 450 := by
    by_cases hx : (x == 0) = true
    · rw [if_pos hx]; exact Nat.zero_le _
    · rw [if_neg hx]; omega
  show (decide ((if y == 0 then 0 else y.natAbs.log2 / 30 + 1) > 300) && decide ((if x == 0 then 0 else x.natAbs.log2 / 30 + 1) > (if y == 0 then 0 else y.natAbs.log2 / 30 + 1) + 150)) = false
  by_cases hy : (if y == 0 then 0 else y.natAbs.log2 / 30 + 1) > 300
  · rw [decide_eq_false (p := (if x == 0 then 0 else x.natAbs.log2 / 30 + 1) > (if y == 0 then 0 else y.natAbs.log2 / 30 + 1) + 150) (by omega), Bool.and_false]
  · rw [decide_eq_false hy, Bool.false_and]
theorem op_fdivU : OpR X (binaryOp .FloorDiv) (rI (fun i j => (divOk j || divOkD i j) = true) fun i j => .int (i.fdiv j)) := opI fun i j _ _ _ _ _ hc q => by
  rcases Bool.or_eq_true_iff.mp hc with hc | hc
  · obtain ⟨h1, h2⟩ := of_cb hc
    exact PyProof.Rows.floordiv_int h1 q (.inl (PyProof.noPylong_of_log2 h2))
  · obtain ⟨h1, h2⟩ := of_cb hc
    exact PyProof.Rows.floordiv_int h1 q (.inl (noPy_dividend h2))
abbrev rAddU (K : Frg) : R2 := fun x y H Q => rI0 (fun i j => .int (i + j)) x y H Q ∨ ((fun x y H Q => ∃ i j, x = V.str i ∧ y = V.str j ∧ i.length + j.length ≤ sizeLine ∧ Q (V.str (i ++ j)) H : R2) x y H Q ∨ (rCatA K x y H Q ∨ rCat x y H Q))
theorem op_addU : OpR X (binaryOp .Add) (rAddU X.K) := op_add.or (op_add_str.or (op_catA.or op_cat))
end
section
variable {K : Frg} {mg : Mg}
theorem o_add : O2 K mg (rAddU K) oAdd := fun S σ H x y d e W Q i hx hy q => by
  unfold oAdd at q
  split at q
  · exact .inl ⟨_, _, hx.int, hy.int, q _ _ _ (Gr.refl i) (.int _)⟩
  · split at q
    · rename_i hl
      exact .inr (.inl ⟨_, _, hx.str, hy.str, sizeLine16 hl, q _ _ _ (Gr.refl i) (.str _)⟩)
    · exact q.elim
  · rename_i a b
    split at q
    · rename_i hl
      obtain ⟨p1, v1, rfl, h1, k1, r1⟩ := hx.tup i
      obtain ⟨p2, v2, rfl, h2, k2, r2⟩ := hy.tup i
      refine .inr (.inr (.inl ⟨p1, p2, v1, v2, rfl, rfl, h1, h2, sizeLine16 (by rw [r1.len, r2.len]; exact hl), fun e => ?_, fun _ e => ?_, fun _ _ => po_new i (r1.app r2) q⟩))
      · subst e
        cases r1
        exact q _ S H (Gr.refl i) (.tup k2 r2)
      · subst e
        cases r2
        rw [List.append_nil] at q
        exact q _ S H (Gr.refl i) (.tup k1 r1)
    · exact q.elim
  · split at q
    · rename_i hl
      obtain ⟨p1, v1, rfl, h1, r1⟩ := hx.lst
      obtain ⟨p2, v2, rfl, h2, r2⟩ := hy.lst
      exact .inr (.inr (.inr ⟨p1, p2, v1, v2, rfl, rfl, h1, h2, sizeLine16 (by rw [r1.len, r2.len]; exact hl), fun p hp => q _ _ _ (Gr.new i hp) (.lst upd_same ((r1.app r2).up (same_new (same_none i hp)) _ _))⟩))
    · exact q.elim
  · exact q.elim
theorem o_sub : O2 K mg (rI0 fun i j => .int (i - j)) oSub := fun S σ H x y d e W Q i hx hy q => by
  unfold oSub at q
  split at q
  · exact ⟨_, _, hx.int, hy.int, q _ _ _ (Gr.refl i) (.int _)⟩
  · exact q.elim
theorem o_addI : O2 K mg (rI0 fun i j => .int (i + j)) oAddI := fun S σ H x y d e W Q i hx hy q => by
  unfold oAddI at q
  split at q
  · exact ⟨_, _, hx.int, hy.int, q _ _ _ (Gr.refl i) (.int _)⟩
  · exact q.elim
theorem o_mul : O2 K mg (rI (fun i j => mulOk i j = true) fun i j => .int (i * j)) oMul := fun S σ H x y d e W Q i hx hy q => by
  unfold oMul at q
  split at q
  · split at q
    · rename_i hc
      exact ⟨_, _, hx.int, hy.int, hc, q _ _ _ (Gr.refl i) (.int _)⟩
    · exact q.elim
  · exact q.elim
theorem o_fdiv : O2 K mg (rI (fun i j => (divOk j || divOkD i j) = true) fun i j => .int (i.fdiv j)) oFdiv := fun S σ H x y d e W Q i hx hy q => by
  unfold oFdiv at q
  split at q
  · split at q
    · rename_i hc
      exact ⟨_, _, hx.int, hy.int, hc, q _ _ _ (Gr.refl i) (.int _)⟩
    · exact q.elim
  · exact q.elim
theorem o_mod : O2 K mg (rI (fun _ j => j ≠ 0) fun i j => .int (i.fmod j)) oMod := fun S σ H x y d e W Q i hx hy q => by
  unfold oMod at q
  split at q
  · split at q
    · rename_i hc
      exact ⟨_, _, hx.int, hy.int, hc, q _ _ _ (Gr.refl i) (.int _)⟩
    · exact q.elim
  · exact q.elim
theorem o_pow : O2 K mg (rI CPow fun i j => .int (i ^ j.toNat)) oPow := fun S σ H x y d e W Q i hx hy q => by
  unfold oPow at q
  split at q
  · split at q
    · rename_i hc
      exact ⟨_, _, hx.int, hy.int, of_cb hc, q _ _ _ (Gr.refl i) (.int _)⟩
    · exact q.elim
  · exact q.elim
theorem o_neg : U1 K mg (rU fun i => .int (-i)) oNeg := fun S σ H v d W Q i hx q => by
  unfold oNeg at q
  split at q
  · exact ⟨_, hx.int, q _ _ _ (Gr.refl i) (.int _)⟩
  · exact q.elim
theorem o_eq : O2 K mg (rEqD K) oEq := fun S σ H x y d e W Q i hx hy q => by
  unfold oEq at q
  split at q
  · rename_i hc
    obtain ⟨c1, c2⟩ := Bool.and_eq_true_iff.mp hc
    exact ⟨_, _, hx.dp i (SeqAt.canLay_of_shaped c1), hy.dp i (SeqAt.canLay_of_shaped c2), c1, c2, q _ _ _ (Gr.refl i) (.bl _)⟩
  · exact q.elim
theorem o_ne : O2 K mg (rNeD K) oNe := fun S σ H x y d e W Q i hx hy q => by
  unfold oNe at q
  split at q
  · rename_i hc
    obtain ⟨c1, c2⟩ := Bool.and_eq_true_iff.mp hc
    exact ⟨_, _, hx.dp i (SeqAt.canLay_of_shaped c1), hy.dp i (SeqAt.canLay_of_shaped c2), c1, c2, q _ _ _ (Gr.refl i) (.bl _)⟩
  · exact q.elim
theorem o_lt : O2 K mg (rI0 fun i j => .bl (decide (i < j))) oLt := fun S σ H x y d e W Q i hx hy q => by
  unfold oLt at q
  split at q
  · exact ⟨_, _, hx.int, hy.int, by dsimp only; rw [← cb_dec]; exact q _ _ _ (Gr.refl i) (.bl _)⟩
  · exact q.elim
theorem o_le : O2 K mg (rI0 fun i j => .bl (decide (i ≤ j))) oLe := fun S σ H x y d e W Q i hx hy q => by
  unfold oLe at q
  split at q
  · exact ⟨_, _, hx.int, hy.int, by dsimp only; rw [← cb_dec]; exact q _ _ _ (Gr.refl i) (.bl _)⟩
  · exact q.elim
theorem o_gt : O2 K mg (rI0 fun i j => .bl (decide (j < i))) oGt := fun S σ H x y d e W Q i hx hy q => by
  unfold oGt at q
  split at q
  · exact ⟨_, _, hx.int, hy.int, by dsimp only; rw [← cb_dec]; exact q _ _ _ (Gr.refl i) (.bl _)⟩
  · exact q.elim
theorem o_ge : O2 K mg (rI0 fun i j => .bl (decide (j ≤ i))) oGe := fun S σ H x y d e W Q i hx hy q => by
  unfold oGe at q
  split at q
  · exact ⟨_, _, hx.int, hy.int, by dsimp only; rw [← cb_dec]; exact q _ _ _ (Gr.refl i) (.bl _)⟩
  · exact q.elim
theorem isNon_v {S H : Hp} {v : V} {d : D} (h : Rd1 K mg S H v d) : decide (v = .non) = isNon d := by
  cases d with
  | lst ds => obtain ⟨p, vs, rfl, _⟩ := h; rfl
  | non => have h' : Rp K mg S v _ := h; cases h'; rfl
  | bl b => have h' : Rp K mg S v _ := h; cases h'; rfl
  | int i => have h' : Rp K mg S v _ := h; cases h'; rfl
  | str x => have h' : Rp K mg S v _ := h; cases h'; rfl
  | rol ds => have h' : Rp K mg S v _ := h; cases h'; rfl
  | tup ds => have h' : Rp K mg S v _ := h; cases h'; rfl
  | obj c ns ds => have h' : Rp K mg S v _ := h; cases h'; rfl
  | fr ds => have h' : Rp K mg S v _ := h; cases h'
theorem o_isN : O2 K mg (fun x y H Q => y = .non ∧ Q (.bl (decide (x = .non))) H) oIsN := fun S σ H x y d e W Q i hx hy q => by
  unfold oIsN at q
  split at q
  · exact ⟨hy.non, by rw [isNon_v hx]; exact q _ _ _ (Gr.refl i) (.bl _)⟩
  · exact q.elim
theorem o_notN : O2 K mg (fun x y H Q => y = .non ∧ Q (.bl (!decide (x = .non))) H) oNotN := fun S σ H x y d e W Q i hx hy q => by
  unfold oNotN at q
  split at q
  · exact ⟨hy.non, by rw [isNon_v hx]; exact q _ _ _ (Gr.refl i) (.bl _)⟩
  · exact q.elim
theorem RpA.rep {S : Hp} {vs : List V} {ds : List D} (r : RpA K mg S vs ds) : ∀ n, RpA K mg S (List.replicate n vs).flatten (List.replicate n ds).flatten
  | 0 => .nil
  | n + 1 => by
    rw [List.replicate_succ, List.replicate_succ, List.flatten_cons, List.flatten_cons]
    exact r.app (r.rep n)
theorem f_rep : O2F K mg rRep fRep := fun S σ H x y d e W Q i hx hy q => by
  unfold fRep at q
  split at q
  · split at q
    · rename_i hc0
      have hc := of_cb hc0
      obtain ⟨p, vs, rfl, h1, h2⟩ := hx.lst
      exact ⟨p, _, vs, rfl, hy.int, h1, hc.1, hc.2.1, sizeLine16 (by rw [h2.len]; exact hc.2.2), po_newL i (h2.rep _) q⟩
    · exact q.elim
  · exact q.elim
theorem f_cat : O2F K mg rCat fCat := fun S σ H x y d e W Q i hx hy q => by
  unfold fCat at q
  split at q
  · split at q
    · rename_i hc
      obtain ⟨p, vs, rfl, h1, h2⟩ := hx.lst
      obtain ⟨p', vs', rfl, h3, h4⟩ := hy.lst
      exact ⟨p, p', vs, vs', rfl, rfl, h1, h3, sizeLine16 (by rw [h2.len, h4.len]; exact hc), po_newL i (h2.app h4) q⟩
    · exact q.elim
  · exact q.elim
end
/-- t * k of a tuple (fewer than a thousand items of either) -/
def oRepT (d e : D) : Res D := match d, e with
  | .tup xs, .int k => if xs.isEmpty then .ok (.tup []) else .bad
  | _, _ => .bad

/-! ### places and parts -/
@[simp] def oIx (d e : D) : Res D := match d, e with
  | .lst xs, .int i => match atI xs i with
    | some v => .ok v
    | none => .bad
  | .rol xs, .int i => match atI xs i with
    | some v => .ok v
    | none => .bad
  | .tup xs, .int i => match atI xs i with
    | some v => .ok v
    | none => .bad
  | .str x, .int i => if x.length ≤ 16777216 then (match atI x.cps.toList i with
    | some c => .ok (.str ⟨#[c]⟩)
    | none => .bad) else .bad
  | _, _ => .bad
theorem atI_up {K : Frg} {mg : Mg} {S : Hp} {vs : List V} {ds : List D} {i : Int} {d : D} (r : RpA K mg S vs ds) (h : atI ds i = some d) : ∃ v, atI vs i = some v ∧ Rp K mg S v d := by
  unfold atI at h ⊢
  rw [r.len]
  cases e : ixN ds.length i with
  | none => rw [e] at h; cases h
  | some j =>
    rw [e] at h
    exact r.get h
theorem o_ix {K : Frg} {mg : Mg} : O2 K mg (rIx K) oIx := fun S σ H x y d e W Q i hx hy q => by
  unfold oIx at q
  split at q
  · split at q
    · rename_i v ha
      obtain ⟨p, vs, rfl, h1, h2⟩ := hx.lst
      obtain ⟨u, h3, h4⟩ := atI_up h2 ha
      exact .inl ⟨p, vs, _, u, rfl, hy.int, SqL.of h1, h3, q _ _ _ (Gr.refl i) h4⟩
    · exact q.elim
  · split at q
    · rename_i v ha
      obtain ⟨p, vs, rfl, h1, h2⟩ := hx.rol i
      obtain ⟨u, h3, h4⟩ := atI_up h2 ha
      exact .inl ⟨p, vs, _, u, rfl, hy.int, h1, h3, q _ _ _ (Gr.refl i) h4⟩
    · exact q.elim
  · split at q
    · rename_i v ha
      obtain ⟨p, vs, rfl, h1, _, h2⟩ := hx.tup i
      obtain ⟨u, h3, h4⟩ := atI_up h2 ha
      exact .inr (.inl ⟨p, vs, _, u, rfl, hy.int, h1, h3, q _ _ _ (Gr.refl i) h4⟩)
    · exact q.elim
  · split at q
    · rename_i hl
      split at q
      · rename_i c hc
        exact .inr (.inr ⟨_, _, c, hx.str, hy.int, sizeLine16 hl, hc, q _ _ _ (Gr.refl i) (.str _)⟩)
      · exact q.elim
    · exact q.elim
  · exact q.elim

/-! ### built-ins -/
@[simp] def bLen (d : D) : Res D := match d with
  | .lst xs => .ok (.int xs.length)
  | .rol xs => .ok (.int xs.length)
  | .tup xs => .ok (.int xs.length)
  | .str x => if x.length ≤ 16777216 then .ok (.int x.length) else .bad
  | _ => .bad
@[simp] def bAbs (d : D) : Res D := match d with
  | .int i => .ok (.int (if i < 0 then -i else i))
  | _ => .bad
@[simp] def bInt (d : D) : Res D := match d with
  | .int i => .ok (.int i)
  | .bl b => .ok (.int (if b then 1 else 0))
  | _ => .bad
@[simp] def bTup (d : D) : Res D := match d with
  | .lst xs => .ok (.tup xs)
  | .rol xs => .ok (.tup xs)
  | .tup xs => .ok (.tup xs)
  | _ => .bad
@[simp] def bLst (d : D) : Res (List D) := match d with
  | .lst xs => .ok xs
  | .rol xs => .ok xs
  | .tup xs => .ok xs
  | _ => .bad
@[simp] def bGcd (d e : D) : Res D := match d, e with
  | .int i, .int j => .ok (.int ((Nat.gcd i.natAbs j.natAbs : Nat) : Int))
  | _, _ => .bad
def dInts : List D → Option (List Int)
  | [] => some []
  | .int i :: r => (dInts r).map (i :: ·)
  | _ => none
def dBls : List D → Option (List Bool)
  | [] => some []
  | .bl i :: r => (dBls r).map (i :: ·)
  | _ => none
theorem dInts_map : ∀ {ds : List D} {ns : List Int}, dInts ds = some ns → ds = ns.map D.int
  | [], ns, h => by cases h; rfl
  | d :: r, ns, h => by
    cases d <;> first | cases h | skip
    rename_i i
    simp only [dInts, Option.map_eq_some_iff] at h
    obtain ⟨ms, h1, rfl⟩ := h
    rw [dInts_map h1]
    rfl
theorem dBls_map : ∀ {ds : List D} {ns : List Bool}, dBls ds = some ns → ds = ns.map D.bl
  | [], ns, h => by cases h; rfl
  | d :: r, ns, h => by
    cases d <;> first | cases h | skip
    rename_i i
    simp only [dBls, Option.map_eq_some_iff] at h
    obtain ⟨ms, h1, rfl⟩ := h
    rw [dBls_map h1]
    rfl
@[simp] theorem dInts_ok : ∀ ns : List Int, dInts (ns.map D.int) = some ns
  | [] => rfl
  | n :: ns => by simp [dInts, dInts_ok ns]
@[simp] theorem dBls_ok : ∀ ns : List Bool, dBls (ns.map D.bl) = some ns
  | [] => rfl
  | n :: ns => by simp [dBls, dBls_ok ns]
@[simp] def seqOf (d : D) : Option (List D) := match d with
  | .lst ds => some ds
  | .rol ds => some ds
  | _ => none
theorem Rd1.seq {K : Frg} {mg : Mg} {S H : Hp} {v : V} {d : D} {ds : List D} (i : Same S H) (h : Rd1 K mg S H v d) (e : seqOf d = some ds) : ∃ (p : Addr) (vs : List V), v = .ref p ∧ SqL K H p vs ∧ RpA K mg S vs ds := by
  cases d <;> cases e
  · obtain ⟨p, vs, h1, h2, h3⟩ := h.lst
    exact ⟨p, vs, h1, SqL.of h2, h3⟩
  · exact h.rol i
@[simp] def bSum (d : D) : Res D := match seqOf d with
  | some ds => match dInts ds with
    | some ns => .ok (.int ns.sum)
    | none => .bad
  | none => .bad
@[simp] def bAll (d : D) : Res D := match seqOf d with
  | some ds => match dBls ds with
    | some ns => .ok (.bl (ns.all id))
    | none => .bad
  | none => .bad
@[simp] def bAny (d : D) : Res D := match seqOf d with
  | some ds => match dBls ds with
    | some ns => .ok (.bl (ns.any id))
    | none => .bad
  | none => .bad
@[simp] def bBits (d : D) : Res D := match d with
  | .int i => .ok (.int (Builtin.Int.intBits i : Nat))
  | _ => .bad
/-- the built-in type of a value -/
@[simp] def dTy (d : D) : Option String := match d with
  | .non => some "NoneType"
  | .bl _ => some "bool"
  | .int _ => some "int"
  | .str _ => some "str"
  | .lst _ => some "list"
  | .tup _ => some "tuple"
  | _ => none
@[simp] def bIsi (t : String) (d : D) : Res D := match dTy d with
  | some a => match kitB a t with
    | some b => .ok (.bl b)
    | none => .bad
  | none => .bad
section
variable {K : Frg} {mg : Mg}
theorem b_len : U1 K mg (fun v => (fun xs H Q => ∃ x n, xs = [x] ∧ LenV K x H n ∧ Q (V.int n) H : List V → Hp → VK → Prop) [v]) bLen := fun S σ H v d W Q i hx q => by
  unfold bLen at q
  split at q
  · obtain ⟨p, vs, rfl, h1, h2⟩ := hx.lst
    exact ⟨_, _, rfl, .inl ⟨vs, SqL.of h1, rfl⟩, by rw [h2.len]; exact q _ _ _ (Gr.refl i) (.int _)⟩
  · obtain ⟨p, vs, rfl, h1, h2⟩ := hx.rol i
    exact ⟨_, _, rfl, .inl ⟨vs, h1, rfl⟩, by rw [h2.len]; exact q _ _ _ (Gr.refl i) (.int _)⟩
  · obtain ⟨p, vs, rfl, h1, _, h2⟩ := hx.tup i
    exact ⟨_, _, rfl, .inr ⟨vs, h1, rfl⟩, by rw [h2.len]; exact q _ _ _ (Gr.refl i) (.int _)⟩
  · split at q
    · rename_i hl
      rw [hx.str]
      exact ⟨_, _, rfl, ⟨sizeLine16 hl, rfl⟩, q _ _ _ (Gr.refl i) (.int _)⟩
    · exact q.elim
  · exact q.elim
theorem b_abs : U1 K mg (fun v => (fun xs H Q => ∃ i, xs = [V.int i] ∧ Q (V.int (if i < 0 then -i else i)) H : List V → Hp → VK → Prop) [v]) bAbs := fun S σ H v d W Q i hx q => by
  unfold bAbs at q
  split at q
  · rw [hx.int]; exact ⟨_, rfl, q _ _ _ (Gr.refl i) (.int _)⟩
  · exact q.elim
theorem b_int : U1 K mg (fun v => (fun xs H Q => (∃ i, xs = [V.int i] ∧ Q (V.int i) H) ∨ ∃ k, xs = [V.bl k] ∧ Q (V.int (if k then 1 else 0)) H : List V → Hp → VK → Prop) [v]) bInt := fun S σ H v d W Q i hx q => by
  unfold bInt at q
  split at q
  · rw [hx.int]; exact .inl ⟨_, rfl, q _ _ _ (Gr.refl i) (.int _)⟩
  · rw [hx.bl]; exact .inr ⟨_, rfl, q _ _ _ (Gr.refl i) (.int _)⟩
  · exact q.elim
theorem b_tup : U1 K mg (fun v => (fun xs H Q => ∃ p ys, xs = [V.ref p] ∧ ((SqL K H p ys ∧ ∀ l, H l = none → Q (V.ref l) (upd H l (.tup ys))) ∨ (SqT K H p ys ∧ Q (V.ref p) H)) : List V → Hp → VK → Prop) [v]) bTup := fun S σ H v d W Q i hx q => by
  unfold bTup at q
  split at q
  · obtain ⟨p, vs, rfl, h1, h2⟩ := hx.lst
    exact ⟨p, vs, rfl, .inl ⟨SqL.of h1, po_new i h2 q⟩⟩
  · obtain ⟨p, vs, rfl, h1, h2⟩ := hx.rol i
    exact ⟨p, vs, rfl, .inl ⟨h1, po_new i h2 q⟩⟩
  · obtain ⟨p, vs, rfl, h1, h2, h3⟩ := hx.tup i
    exact ⟨p, vs, rfl, .inr ⟨h1, q _ _ _ (Gr.refl i) (.tup h2 h3)⟩⟩
  · exact q.elim
theorem b_lst : U1F K mg (fun v => (fun xs H Q => ∃ p ys, xs = [V.ref p] ∧ (SqL K H p ys ∨ SqT K H p ys) ∧ ∀ l, H l = none → Q (V.ref l) (upd H l (.lst ys)) : List V → Hp → VK → Prop) [v]) bLst := fun S σ H v d W Q i hx q => by
  unfold bLst at q
  split at q
  · obtain ⟨p, vs, rfl, h1, h2⟩ := hx.lst
    exact ⟨p, vs, rfl, .inl (SqL.of h1), po_newL i h2 q⟩
  · obtain ⟨p, vs, rfl, h1, h2⟩ := hx.rol i
    exact ⟨p, vs, rfl, .inl h1, po_newL i h2 q⟩
  · obtain ⟨p, vs, rfl, h1, h2, h3⟩ := hx.tup i
    exact ⟨p, vs, rfl, .inr h1, po_newL i h3 q⟩
  · exact q.elim
theorem b_gcd : O2 K mg (fun v w => rGcd [v, w]) bGcd := fun S σ H x y d e W Q i hx hy q => by
  unfold bGcd at q
  split at q
  · rw [hx.int, hy.int]; exact ⟨_, _, rfl, q _ _ _ (Gr.refl i) (.int _)⟩
  · exact q.elim
theorem b_sum : U1 K mg (fun v => rSum K [v]) bSum := fun S σ H v d W Q i hx q => by
  unfold bSum at q
  split at q
  · rename_i ds e
    split at q
    · rename_i ns e2
      obtain ⟨p, vs, rfl, h1, h2⟩ := hx.seq i e
      rw [dInts_map e2] at h2
      rw [h2.ints] at h1
      exact ⟨p, ns, rfl, h1, q _ _ _ (Gr.refl i) (.int _)⟩
    · exact q.elim
  · exact q.elim
theorem b_all : U1 K mg (fun v => rAll K [v]) bAll := fun S σ H v d W Q i hx q => by
  unfold bAll at q
  split at q
  · rename_i ds e
    split at q
    · rename_i ns e2
      obtain ⟨p, vs, rfl, h1, h2⟩ := hx.seq i e
      rw [dBls_map e2] at h2
      rw [h2.bls] at h1
      exact ⟨p, ns, rfl, h1, q _ _ _ (Gr.refl i) (.bl _)⟩
    · exact q.elim
  · exact q.elim
theorem b_any : U1 K mg (fun v => rAny K [v]) bAny := fun S σ H v d W Q i hx q => by
  unfold bAny at q
  split at q
  · rename_i ds e
    split at q
    · rename_i ns e2
      obtain ⟨p, vs, rfl, h1, h2⟩ := hx.seq i e
      rw [dBls_map e2] at h2
      rw [h2.bls] at h1
      exact ⟨p, ns, rfl, h1, q _ _ _ (Gr.refl i) (.bl _)⟩
    · exact q.elim
  · exact q.elim
theorem Rd1.tyx {S H : Hp} {v : V} {d : D} {a : String} (i : Same S H) (h : Rd1 K mg S H v d) (e : dTy d = some a) : TyX K H v (.type a) := by
  cases d with
  | non => cases e; rw [h.non]; exact .base .non
  | bl b => cases e; rw [h.bl]; exact .base (.bl b)
  | int n => cases e; rw [h.int]; exact .base (.int n)
  | str x => cases e; rw [h.str]; exact .base (.str x)
  | lst ds => cases e; obtain ⟨p, vs, rfl, h1, h2⟩ := h.lst; exact .base (.lst h1)
  | tup ds =>
    cases e
    obtain ⟨p, vs, rfl, h1, h2, h3⟩ := h.tup i
    rcases h1 with (h1 | ⟨o, h1⟩) | ⟨o, its, n, h1, h2, _⟩
    · exact .base (.tup h1)
    · exact .fTuple h1
    · exact .kTuple h1 h2
  | _ => cases e
/-- isinstance(x, T), T a built-in class -/
theorem me_isi {X : Cx} {hx : Hx} {W : WX} {a : Expr} {fa : Sl → Res D} {t : Str} {T : String} {p p1 pos : Pos} (ha : MR X hx W a fa) (hv : bootBuiltins t = some (.type T)) (hm : X.mg "isinstance" = none) (hm2 : X.mg t = none) (hg : Gl X "isinstance" := by rfl) (hg2 : Gl X t := by rfl) (hn : t ≠ "__name__" := by decide) (hdb : (t == ("__debug__" : Str)) = false := by decide)
    (hs : starEach [a, .Name t p1] X.env = (false, eval a X.env) :: starEach [.Name t p1] X.env := by rfl) (hs2 : starEach [.Name t p1] X.env = (false, eval (.Name t p1) X.env) :: starEach [] X.env := by rfl) (hpl : (backTo pos (starEach [.Name t p1] X.env)).any (·.1) = false := by rfl) :
    ME X hx W (.Call (.Name "isinstance" p) [a, .Name t p1] [] pos) (sUn (bIsi T) fa) :=
  pe_imp (pe_callB (x := "isinstance") call_isi hg hm PyProof.Rows.boot_isinstance (pa_cons ha (pa_cons (pe_bltn (v := .ty T) hg2 hm2 hv rfl hn hdb) pa_nil hs2) hs) (by decide) (by decide) hs hpl) fun σ H Q ⟨b, S, ρ, R, q⟩ => ⟨b, S, ρ, R, q.bind fun d v S1 H1 g1 r1 k => by
    unfold bIsi at k
    split at k
    · rename_i a e1
      split at k
      · rename_i tb e2
        exact ⟨v, .ty T, .type a, .type T, tb, rfl, .ty T, Rd1.tyx g1.i r1 e1, kit_ty e2, k _ S1 H1 g1 (.bl tb)⟩
      · exact k.elim
    · exact k.elim⟩
/-- x.bit_length() -/
theorem me_bits {X : Cx} {hx : Hx} {W : WX} {o : Expr} {fo : Sl → Res D} {apos pos : Pos} (ho : MR X hx W o fo) (hbase : attributeBase o "bit_length" X.env (eval o X.env) = eval o X.env := by rfl) (hline : (apos.endLine == pos.line) = true := by rfl) :
    ME X hx W (.Call (.Attribute o "bit_length" apos) [] [] pos) (sUn bBits fo) := pe_imp (pe_bits ho hbase hline) fun σ H Q ⟨b, S, ρ, R, q⟩ => ⟨b, S, ρ, R, q.bind fun d v S1 H1 g1 r1 k => by
    unfold bBits at k
    split at k
    · exact ⟨_, r1.int, k _ S1 H1 g1 (.int _)⟩
    · exact k.elim⟩
/-- a slice's part -/
abbrev rrP : RR (Option Int) (Option Int) := fun _ _ _ b c => b = c
@[simp] def pNone (_ : Sl) : Res (Option Int) := .ok none
@[simp] def pSome (f : Sl → Res D) (ρ : Sl) : Res (Option Int) := (f ρ).bind fun d => match d with
  | .int i => .ok (some i)
  | _ => .bad
abbrev MP (X : Cx) (hx : Hx) (W : WX) (e : Option Expr) (f : Sl → Res (Option Int)) : Prop := PO X e (tG X.K X.mg hx rrP W f)
theorem po_imp {X : Cx} {e : Option Expr} {t t' : TO} (h : PO X e t) (i : ∀ σ H Q, t' σ H Q → t σ H Q) : PO X e t' := ⟨fun pins s σ H Q I q => h.run pins s σ H Q I (i σ H Q q)⟩
theorem mp_none {X : Cx} {hx : Hx} {W : WX} : MP X hx W none pNone := po_imp po_none fun σ H Q ⟨b, S, ρ, R, q⟩ => q none S H (Gr.refl R.sh) rfl
theorem mp_some {X : Cx} {hx : Hx} {W : WX} {e : Expr} {f : Sl → Res D} (h : ME X hx W e f) : MP X hx W (some e) (pSome f) := po_imp (po_some h) fun σ H Q ⟨b, S, ρ, R, q⟩ => ⟨b, S, ρ, R, q.bind fun d v S1 H1 g1 r1 k => by
  cases d <;> first | exact k.elim | skip
  cases r1
  exact ⟨_, rfl, k _ S1 H1 g1 rfl⟩⟩
theorem Po.upP {W : WX} {S H S' H' : Hp} {σ : L2.St} {r : Res (Option Int)} {Q : Option Int → Hp → Prop} (g : Gr S H S' H') (h : Po K mg rrP W S σ H r Q) : Po K mg rrP W S' σ H' r Q := h.up g fun _ _ _ _ _ q => q
def cutD (xs : List D) (lo hi : Option Int) : List D := (xs.drop (HT.sIx xs.length 0 lo)).take (HT.sIx xs.length xs.length hi - HT.sIx xs.length 0 lo)
theorem RpA.cut {S : Hp} {vs : List V} {ds : List D} (r : RpA K mg S vs ds) (lo hi : Option Int) : RpA K mg S (cutV vs lo hi) (cutD ds lo hi) := by
  unfold cutV cutD
  rw [r.len]
  exact (r.drop _).take _
@[simp] def fSl (f : Sl → Res D) (l h : Sl → Res (Option Int)) (ρ : Sl) : Res (List D) := (f ρ).bind fun d => (l ρ).bind fun lo => (h ρ).bind fun hi => match seqOf d with
  | some xs => .ok (cutD xs lo hi)
  | none => .bad
/-- a slice of a list: new -/
theorem mf_sl {X : Cx} {hx : Hx} {W : WX} {e : Expr} {lo hi : Option Expr} {f : Sl → Res D} {l h : Sl → Res (Option Int)} {pos p2 : Pos} (he : MR X hx W e f) (hl : MP X hx W lo l) (hh : MP X hx W hi h) : MF X hx W (.Subscript e (.Slice lo hi none p2) pos) (fSl f l h) :=
  pe_imp (pe_slice sl_list he hl hh) fun σ H Q ⟨b, S, ρ, R, q⟩ => ⟨b, S, ρ, R, q.bind fun d v S1 H1 g1 r1 k => ⟨b, S1, ρ, R.grow g1, (k.upF g1).bind fun d2 v2 S2 H2 g2 r2 k2 => ⟨b, S2, ρ, (R.grow g1).grow g2, (k2.upF g2).bind fun d3 v3 S3 H3 g3 r3 k3 => by
    cases r2
    cases r3
    split at k3
    · rename_i xs e1
      obtain ⟨p, vs, rfl, h1, h2⟩ := ((r1.up g2).up g3).seq g3.i e1
      exact ⟨p, vs, rfl, h1, po_newL g3.i (h2.cut _ _) (Po.upF g3 k3)⟩
    · exact k3.elim⟩⟩⟩
@[simp] def sSl (f : Sl → Res D) (l h : Sl → Res (Option Int)) (ρ : Sl) : Res D := (f ρ).bind fun d => (l ρ).bind fun lo => (h ρ).bind fun hi => match d with
  | .tup xs => .ok (.tup (cutD xs lo hi))
  | .str x => if x.length ≤ 16777216 then .ok (.str (cutS x lo hi)) else .bad
  | .lst xs => .ok (.lst (cutD xs lo hi))
  | .rol xs => .ok (.lst (cutD xs lo hi))
  | _ => .bad
end
end PF

set_option Elab.async false
set_option linter.all false
set_option maxRecDepth 100000
set_option maxHeartbeats 4000000
namespace PF
open PySem PySem.Spec L2

/-- a def of the text that keeps its promise, as its callers see it -/
structure Df (P : Program) (w : World) (K : Frg) (mg : Mg) (base : Heap) (x : Str) (k : Nat) (f : Addr) (fd : FuncData) (ps : List Str) (g : List D → Res D) : Prop where
  ok : FnOk P w K mg base (L2.CX P w) k f fd ps (spF K mg ps.length g)
  mg : mg x = some (.ref f)
  kp : PySem.W.keepIn K (.ref f) = true
  bi : Binds K fd ps []
theorem Po.freeze {K : Frg} {mg : Mg} {W : WX} {S H : Hp} {σ : L2.St} {r : Res D} {Q : VK} (h : Po K mg (rrE K mg) W S σ H (r.bind thaw) Q) : Po K mg (rrX K mg) W S σ H r Q := by
  cases r with
  | exc y ys => exact h
  | bad => exact h
  | ok d =>
    intro v S' H' g q
    rcases q with q | ⟨xs, rfl, p, vs, rfl, h2, h3, h4, h5⟩
    · cases d <;> first | exact h v S' H' g q | cases q
    · have up : Same S' (upd S' p (.lst vs)) := same_new h3
      refine h _ (upd S' p (.lst vs)) H' ⟨g.s.trans up, g.h, fun a o q => ?_, fun a ha q => ?_⟩ (.lst upd_same (h5.up up _ _))
      · by_cases z : a = p
        · subst z; rw [upd_same] at q; cases q; exact h4
        · rw [upd_ne z] at q; exact g.i a o q
      · rw [upd_ne (fun z => ha (by rw [z]; exact h2))]; exact g.n a ha q
theorem Po.unfr {K : Frg} {mg : Mg} {W : WX} {S H : Hp} {σ : L2.St} {r : Res D} {Q : VK} (h : Po K mg (rrF K mg) W S σ H (r.bind unfr) Q) : Po K mg (rrX K mg) W S σ H r Q := by
  cases r with
  | exc y ys => exact h
  | bad => exact h
  | ok d =>
    intro v S' H' g q
    rcases q with q | ⟨xs, rfl, q⟩
    · cases d <;> first | exact h.elim | cases q
    · exact h v S' H' g q
section
variable {X : Cx} {hx : Hx} {W : WX} {k : Nat} {f : Addr} {fd : FuncData} {ps : List Str} {g : List D → Res D} {x : Str} {p pos : Pos} {e : Expr} {es : List Expr} {fs : Sl → Res (List D)}
theorem call_imp (G : Df X.prog X.w X.K X.mg X.base x k f fd ps g) {σ : L2.St} {H : Hp} {Q : VK} (hfl : ∀ ρ ds, fs ρ = .ok ds → ds.length = ps.length) {b S ρ} (R : Rel X.K X.mg hx b S ρ σ H) (q : Po X.K X.mg (rrX X.K X.mg) W S σ H ((fs ρ).bind g) Q) : Po X.K X.mg (rrA X.K X.mg) W S σ H (fs ρ) fun vs H1 => spF X.K X.mg ps.length g vs H1 Q fun cls d H' => W cls d σ H' := by
  cases ef : fs ρ with
  | exc y ys => rw [ef] at q; exact q
  | bad => rw [ef] at q; exact q
  | ok ds =>
    rw [ef] at q
    intro v S1 H1 g1 r1
    refine ⟨ds, S1, by rw [r1.len]; exact hfl ρ ds ef, g1.i, r1, ?_⟩
    have q1 : Po X.K X.mg (rrX X.K X.mg) W S1 σ H1 (g ds) Q := Po.upX g1 q
    cases eg : g ds with
    | ok d => rw [eg] at q1; exact q1
    | exc y ys => rw [eg] at q1; exact q1
    | bad => rw [eg] at q1; exact q1
theorem bind_bind {α β γ : Type} (r : Res α) (f : α → Res β) (h : β → Res γ) : (r.bind fun a => (f a).bind h) = (r.bind f).bind h := by cases r <;> rfl
theorem me_calD (G : Df X.prog X.w X.K X.mg X.base x k f fd ps g) (hr : Room k X.A) (cw : Cw X W)
    (ha : MA X hx W (e :: es) fs) (hfl : ∀ ρ ds, fs ρ = .ok ds → ds.length = ps.length) (hg : Gl X x := by rfl) (hdb : (x == ("__debug__" : Str)) = false := by decide) (he : starEach (e :: es) X.env = (false, eval e X.env) :: starEach es X.env := by rfl) (hpl : (backTo pos (starEach es X.env)).any (·.1) = false := by rfl) :
    ME X hx W (.Call (.Name x p) (e :: es) [] pos) (sCall g fs) :=
  pe_imp (pe_callS G.ok hr hg G.mg G.kp G.bi cw ha hdb he hpl) fun σ H Q ⟨b, S, ρ, R, q⟩ => ⟨b, S, ρ, R, call_imp G hfl R (Po.freeze (by unfold sCall at q; rw [bind_bind] at q; exact q))⟩
theorem mf_calD (G : Df X.prog X.w X.K X.mg X.base x k f fd ps g) (hr : Room k X.A) (cw : Cw X W)
    (ha : MA X hx W (e :: es) fs) (hfl : ∀ ρ ds, fs ρ = .ok ds → ds.length = ps.length) (hg : Gl X x := by rfl) (hdb : (x == ("__debug__" : Str)) = false := by decide) (he : starEach (e :: es) X.env = (false, eval e X.env) :: starEach es X.env := by rfl) (hpl : (backTo pos (starEach es X.env)).any (·.1) = false := by rfl) :
    MF X hx W (.Call (.Name x p) (e :: es) [] pos) (fCall g fs) :=
  pe_imp (pe_callS G.ok hr hg G.mg G.kp G.bi cw ha hdb he hpl) fun σ H Q ⟨b, S, ρ, R, q⟩ => ⟨b, S, ρ, R, call_imp G hfl R (Po.unfr (by unfold fCall at q; rw [bind_bind] at q; exact q))⟩
end
/-- a, b = e1, e2 (two local names) -/
@[simp] def gPar (i j : Nat) (f h : Sl → Res D) (ρ : Sl) : Out := rS (f ρ) ρ fun d => rS (h ρ) ρ fun e => .nx ((ρ.set i (.v d)).set j (.v e))
theorem ms_par {X : Cx} {hx : Hx} {W : WX} (i j : Nat) {x y : Str} {a b : Expr} {f h : Sl → Res D} {px py pt pos : Pos} {kt k2 pt2} (hc : X.calm = true) (hN : X.N.Nodup) (ha : ME X hx W a f) (hb : ME X hx W b h) (hi : X.N[i]? = some x := by rfl) (hj : X.N[j]? = some y := by rfl) (hij : i ≠ j := by decide)
    (hx' : X.env.scope.names.lookup x = some .local := by rfl) (hy : X.env.scope.names.lookup y = some .local := by rfl)
    (s1 : starEach [a, b] X.env = (false, eval a X.env) :: starEach [b] X.env := by rfl) (s2 : starEach [b] X.env = (false, eval b X.env) :: starEach [] X.env := by rfl)
    (hw : swappedStores [.Tuple [.Name x px, .Name y py] kt pt] (.Tuple [a, b] k2 pt2) X.env = pure (some [x, y]) := by rfl)
    (hs : swapsWithSole [.Tuple [.Name x px, .Name y py] kt pt] (.Tuple [a, b] k2 pt2) pos.line X.env = pure false := by rfl) :
    MS X hx W (.Assign [.Tuple [.Name x px, .Name y py] kt pt] (.Tuple [a, b] k2 pt2) pos) (gPar i j f h) :=
  ps_imp (ps_par hc hN hi hj hij hx' hy (pa_cons ha (pa_cons hb pa_nil s2) s1) hw hs) fun D σ H ⟨b, S, ρ, R, q⟩ =>
    ⟨b, S, ρ, R, rS_po R q fun d v S1 H1 g1 r1 k => ⟨b, S1, ρ, R.grow g1, rS_po (R.grow g1) (PoS.up g1.s k) fun d2 v2 S2 H2 g2 r2 k2 =>
      ⟨v, v2, rfl, k2 S2 _ H2 g2.s ((((R.grow g1).grow g2).put (r1.up g2.s _ _)).put r2)⟩⟩⟩

/-! ### isinstance(e, (c1, c2, ..)) of the exception that a suite holds -/
def rIsET (K : Frg) (D0 a : Addr) : List V → Hp → VK → Prop := fun xs H Q => ∃ (tp : Addr) (cs : List V) (us : List Value) (b : Bool), xs = [.ref a, .ref tp] ∧ H tp = some (.tup cs) ∧ Paired ClsV cs us ∧ PySem.W.kitAny K (.ref D0) us = some b ∧ Q (.bl b) H
theorem call_isET {X : Cx} {a D0 : Addr} {oe : Obj} {pn : List (Addr × Obj)} (C : ExcC X.K D0) (hz : Zc (.ref D0) none oe) (hf : ∃ vs, oe.data = .fields vs) : CallR (X.suite a ((a, oe) :: pn)) (.builtin "isinstance") (rIsET X.K D0 a) := by
  intro pins s σ H xs us Q I r h
  obtain ⟨tp, cs, ws, b, rfl, hT, k, e, q⟩ := h
  obtain ⟨u1, u2, rfl, r1, r2⟩ := vals2 r
  cases (show u1 = Value.ref a from r1)
  cases (show u2 = Value.ref tp from r2)
  obtain ⟨hget, _⟩ := I.pin (a, oe) (List.mem_append.mpr (.inl List.mem_cons_self))
  obtain ⟨vs, hv⟩ := hf
  have J : PySem.W.InstAt s.heap a oe D0 none := by
    obtain ⟨oc, od, oda, osl⟩ := oe
    obtain ⟨h1, h2⟩ := hz
    dsimp only at h1 h2 hv
    subst h1 h2 hv
    exact ⟨hget, rfl, rfl, trivial⟩
  obtain ⟨_, its, rv, o, h1, h2, n, h3⟩ := (show ObjOk X.prog X.w H s.heap tp (.tup cs) from I.hok tp _ hT)
  have e3 := ClsV.all k rv
  subst e3
  obtain ⟨oc, od, dt, sl⟩ := o
  simp only at h2 h3
  subst h2 h3
  exact PySem.W.kia_tup (PySem.W.handS_kitx_exc C.hg C.hk C.hs C.hd C.ha C.hn C.ht C.hm) I.kIn J h1 e (fun z => nomatch z) fun tk => ⟨.bl b, H, I.kept (t' := tk) fun _ _ z => z, rfl, q⟩
def tcs : List V → TA
  | [] => tNil
  | c :: cs => tCons (tC c) (tcs cs)
theorem tcs_run {σ : L2.St} {H : Hp} : ∀ (cs : List V) (Q : List V → Hp → Prop), Q cs H → tcs cs σ H Q
  | [], _, h => h
  | c :: cs, Q, h => tcs_run cs _ h
theorem me_isET {X : Cx} {a D0 : Addr} {oe : Obj} {pn : List (Addr × Obj)} {d : Option Addr} {W : WX} {ces : List Expr} {n : Str} {p p1 pos pt : Pos} {kt} {cvs : List V} {cus : List Value} (i : Nat) {tab : Str → Option Bool} (hz : Zc (.ref D0) d oe) (hf : ∃ vs, oe.data = .fields vs) (ht : TabT X.K X.mg tab cus)
    (hv : PE (X.suite a ((a, oe) :: pn)) (.Name n p1) (tVar i)) (hc : PA (X.suite a ((a, oe) :: pn)) ces (tcs cvs)) (k : Paired ClsV cvs cus) (hm : X.mg "isinstance" = none) (hl : cvs.length ≤ 1000 := by simp) (hg : Gl X "isinstance" := by rfl)
    (hs : starEach [.Name n p1, .Tuple ces kt pt] X.env = (false, eval (.Name n p1) X.env) :: starEach [.Tuple ces kt pt] X.env := by rfl) (hs2 : starEach [.Tuple ces kt pt] X.env = (false, eval (.Tuple ces kt pt) X.env) :: starEach [] X.env := by rfl) (hpl : (backTo pos (starEach [.Tuple ces kt pt] X.env)).any (·.1) = false := by rfl) :
    ME (X.suite a ((a, oe) :: pn)) (some (a, D0, d)) W (.Call (.Name "isinstance" p) [.Name n p1, .Tuple ces kt pt] [] pos) (sIsE i tab) := ⟨fun pins s σ H Q I ⟨b, S, ρ, R, q⟩ => by
  unfold sIsE at q
  split at q
  · rename_i x e
    obtain ⟨a1, C1, d1, h1, h2, h3, h4⟩ := R.xc i x [] e
    cases h1
    split at q
    · rename_i tb et
      obtain ⟨t1, t2⟩ := ht x D0 tb h3 et
      have hd := xd_none h4
      subst hd
      exact (pe_callB (x := "isinstance") (call_isET (X := X) (a := a) (pn := pn) t1 hz hf) hg hm PyProof.Rows.boot_isinstance (pa_cons hv (pa_cons (pe_tup hc) pa_nil hs2) hs) (by decide) (by decide) hs hpl).run pins s σ H Q I ⟨_, h2, tcs_run cvs _ ⟨Nat.le_trans hl (sizeLine16 (by decide)), fun tp htp => ⟨tp, cvs, cus, tb, rfl, upd_same, k, t2, q _ _ _ (Gr.heap R.sh (same_new htp)) (.bl tb)⟩⟩⟩
    · exact q.elim
  · exact q.elim⟩
theorem iop_mulU {X : Cx} : PIp X .Mult (rI (fun i j => mulOk i j = true) fun i j => .int (i * j)) := (opI fun _ _ _ _ _ _ _ hc q => PyProof.Rows.imul_int q (CMulX_of_small hc) : OpR X (inplaceOp .Mult) _)
def whFuel : Nat := 1000000000000000000
/-- no exception leaves -/
theorem fn_calm {P : Program} {w : World} {K : Frg} {mg : Mg} {base : Heap} {k : Nat} {f : Addr} {fd : FuncData} {ps : List Str} {sp : Sp} (F : FnOk P w K mg base (L2.CX P w) k f fd ps sp) : FnOk P w K mg base CX0 k f fd ps (fun vs H Q _ => sp vs H Q fun _ _ _ => False) :=
  ⟨fun vs H Q E h => F.len _ _ _ _ h, fun A outer s H args us vs Q E hr he hb hv h => codeAny_mono (F.run A outer s H args us vs Q _ hr he hb hv h) fun r s' q => by
    cases r with
    | ok fl => cases fl <;> exact q
    | error e =>
      obtain ⟨_, _, _, _, _, _, _, _, _, _, _, _, z⟩ := q
      exact z.elim⟩
/-- law's own promise -/
def spLaw (K : Frg) : Sp := fun vs H Q _ => ∃ (a : Addr) (ns : List Int), vs = [.ref a] ∧ SqL K H a (ns.map V.int) ∧ ns.length ≤ 63 ∧ ∀ H', Q (.bl true) H'
theorem law_ok {P : Program} {w : World} {K : Frg} {mg : Mg} {base : Heap} {k : Nat} {f : Addr} {fd : FuncData} {g : List D → Res D} (F : FnOk P w K mg base (L2.CX P w) k f fd ["script"] (spF K mg 1 g))
    (h : ∀ ns : List Int, ns.length ≤ 63 → g [.rol (ns.map D.int)] = .ok (.bl true)) : FnOk P w K mg base CX0 k f fd ["script"] (spLaw K) :=
  (fn_calm F).imp fun vs H Q E ⟨a, ns, e, hS, hl, q⟩ => by
    subst e
    refine ⟨[.rol (ns.map D.int)], H, rfl, Same.refl _, .cons (.rol hS (RpA.of_ints ns)) .nil, ?_⟩
    rw [h ns hl]
    intro v S' H' g1 r1
    rcases r1 with r1 | ⟨_, e, _⟩
    · cases r1
      exact q H'
    · cases e
end PF

set_option Elab.async false
set_option linter.all false
set_option maxRecDepth 100000
set_option maxHeartbeats 4000000
/-! the head: a law's facts as one Bool of the written part, its defs by their places -/
namespace PF
open PySem PySem.Spec L2

abbrev AlP : Type := Bool × List He.FnW
def obsP (fa : List (Frg → Bool)) (fn : List He.DefD) (K : Frg) : AlP := ((fa.all fun f => f K) && fn.all fun d => d.ok K, fn.map fun d => He.fnW K d.at_)
def valP (fn : List He.DefD) : AlP := (true, fn.map He.DefD.val)
def SaysP (fa : List (Frg → Bool)) (fn : List He.DefD) (K : Frg) : Prop := obsP fa fn K = valP fn
def obsPG (n : Nat) (fa : List (Frg → Bool)) (fn : List He.DefD) (g : Addr → Option Obj) : AlP := obsP fa fn (He.frG g (He.asD g n))
def hookP (n : Nat) (fa : List (Frg → Bool)) (fn : List He.DefD) : PySem.W.Hook where
  α := AlP
  obs := fun s => obsPG n fa fn s.heap.get?
  val := fun _ => valP fn
  says := fun _ h => ∃ K : Frg, K.In h ∧ SaysP fa fn K
  of := fun _ _ e => ⟨_, He.frG_in, e⟩
  keeps := fun _ _ _ ⟨K, hK, c⟩ k => ⟨K, PySem.W.Frag.In.keeps hK k, c⟩
theorem obsPG_eq {n : Nat} {fa : List (Frg → Bool)} {fn : List He.DefD} {g : Addr → Option Obj} {s : Shared} (h : ∀ a, g a = s.heap.get? a) : obsPG n fa fn g = (hookP n fa fn).obs s := by
  have e : g = s.heap.get? := funext h
  rw [e] <;> rfl
section
variable {fa : List (Frg → Bool)} {fn : List He.DefD} {K : Frg}
theorem SaysP.fact (c : SaysP fa fn K) (i : Nat) {f : Frg → Bool} (h : fa[i]? = some f := by rfl) : f K = true := by
  have c1 := (He.ba (show ((fa.all fun f => f K) && fn.all fun d => d.ok K) = true from congrArg (fun z : AlP => z.1) c)).1
  exact List.all_eq_true.mp c1 f (List.mem_of_getElem? h)
theorem SaysP.def_ (c : SaysP fa fn K) (i : Nat) {d : He.DefD} (h : fn[i]? = some d := by rfl) : ∃ fd, FunD K d.name d.qual d.params d.body d.scope (d.dvs K) (d.kws K) (He.fAd K d.at_) fd := by
  have c2 := (He.ba (show ((fa.all fun f => f K) && fn.all fun d => d.ok K) = true from congrArg (fun z : AlP => z.1) c)).2
  have e : fn.map (fun d => He.fnW K d.at_) = fn.map He.DefD.val := congrArg (fun z : AlP => z.2) c
  have e2 : (fn.map fun d => He.fnW K d.at_)[i]? = (fn.map He.DefD.val)[i]? := by rw [e]
  rw [List.getElem?_map, List.getElem?_map, h] at e2
  exact He.DefD.funD (Option.some.inj e2) (List.all_eq_true.mp c2 d (List.mem_of_getElem? h))
end
theorem fun_of {K : Frg} {x qual : Str} {st : Stmt} {f : Addr} {fd : FuncData} {kws : List (Str × V)} (F : FunD K x qual (defArgs st) (defBody st) (defScope st) [] kws f fd) : Fun K x qual st f fd := by
  obtain ⟨oc, od, dV, kV, doc, pm, an, cdv, ct, osl, rfl, h2, h3, h4, h5⟩ := F.ex
  rcases h4 with ⟨_, rfl⟩ | ⟨h, _⟩
  · exact ⟨⟨oc, od, kV, doc, pm, an, cdv, ct, osl, rfl, h2, h3⟩, F.kp⟩
  · exact absurd rfl h
/-- one def of the text: a global one without defaults -/
def dD (x : Str) (st : Stmt) : He.DefD := ⟨(x, none), x, x, defArgs st, defBody st, defScope st, [], []⟩
theorem df_mk {P : Program} {w : World} {K : Frg} {mg : Mg} {base h : Heap} {x : Str} {st : Stmt} {fd : FuncData} {k : Nat} {ps : List Str} {g : List D → Res D} (X : K.In h) (G : h.Ns mainGlobals mg) (F : FunD K x x (defArgs st) (defBody st) (defScope st) [] [] (He.fAd K (x, none)) fd)
    (c : (He.Fa.glo x).ok K = true) (hb : Binds K fd ps []) (ok : FnOk P w K mg base (L2.CX P w) k (He.fAd K (x, none)) fd ps (spF K mg ps.length g)) : Df P w K mg base x k (He.fAd K (x, none)) fd ps g :=
  ⟨ok, He.glo_ok X G c, F.kp, hb⟩
/-- facts of an exception class, of isinstance -/
def excCB (K : Frg) (x : Str) : Bool := He.eqO (PySem.W.findIn K (.ref (He.ga K x)) "__getattribute__") (some (some (.builtin "BaseException.__getattribute__"))) && (He.eqO (PySem.W.findIn K (.ref (He.ga K x)) "__getattr__") (some none) && (decide (PySem.W.subIn K (.ref (He.ga K x)) (.type "BaseException") = some true) && (PySem.W.hasDictIn K (He.ga K x) &&
  (He.eqO (PySem.W.findIn K (.ref (He.ga K x)) "__class__") (some (some (.builtin "object.__class__"))) && (He.eqO (PySem.W.specialIn K (.builtin "object.__class__") "__get__") (some (some (.builtin "getset_descriptor.__get__"))) && (decide (PySem.W.takesIn K (.builtin "object.__class__") = some true) && decide (PySem.W.mroIn K (He.ga K x) (.type "object") = some true)))))))
theorem excCB_ok {K : Frg} {x : Str} (h : excCB K x = true) : ExcC K (He.ga K x) := by
  obtain ⟨h1, h⟩ := He.ba h
  obtain ⟨h2, h⟩ := He.ba h
  obtain ⟨h3, h⟩ := He.ba h
  obtain ⟨h4, h⟩ := He.ba h
  obtain ⟨h5, h⟩ := He.ba h
  obtain ⟨h6, h⟩ := He.ba h
  obtain ⟨h7, h8⟩ := He.ba h
  exact ⟨He.eqO_ok h1, He.eqO_ok h2, of_decide_eq_true h3, h4, He.eqO_ok h5, He.eqO_ok h6, of_decide_eq_true h7, of_decide_eq_true h8⟩
theorem excT_ok {K : Frg} {mg : Mg} {h : Heap} {x : Str} (X : K.In h) (G : h.Ns mainGlobals mg) (c : (He.Fa.glo x).ok K = true) (e : (He.Fa.exc x).ok K = true) : ExcT K mg x (He.ga K x) :=
  let ⟨h1, h2, h3, h4⟩ := He.exc_ok e
  ⟨He.glo_ok X G c, h1, h2, h3, h4⟩
/-- a table of isinstance answers (tuple: any of them) -/
def rowB (K : Frg) (x : Str) (us : List Value) (b : Bool) : Bool := decide (PySem.W.kitAny K (.ref (He.ga K x)) us = some b)
def row1B (K : Frg) (x : Str) (u : Value) (b : Bool) : Bool := decide (PySem.W.kitOne K (.ref (He.ga K x)) u = some b)
end PF

set_option Elab.async false
set_option linter.all false
set_option maxRecDepth 100000
set_option maxHeartbeats 4000000
/-! More rules: tuple * int, slices of any kind, zip, enumerate. -/
namespace PF
open PySem PySem.Spec L2 PyProof.Rows
/-! ### t * 1 is t itself -/
theorem tup_mul1 (l : Addr) (items : Array Value) (n : Nat) (dd : Option Addr) (sl : Array (Option Value)) (u : Tok) :
    Meets (Builtin.«tuple.__mul__» ⟨[.ref l, .int 1 u], []⟩) (fun _ R s => s.heap.get? l = some { cls := .type "tuple", dict := dd, data := .seq items n, slots := sl } ∧ R (.ok (.ret (Value.ref l))) s) :=
  .of_wp fun prog w A R s h => by
    obtain ⟨hp, g, d, tk, os⟩ := s
    obtain ⟨hl, h⟩ := h
    have c0 : (decide ((1 : Int) < -(2 ^ 63)) || decide ((1 : Int) ≥ 2 ^ 63)) = false := by decide
    have c1 : (items.isEmpty || (1 : Int) == 1) = true := by simp
    have f1 := AutoSeq1.idx_int
    wp_walk using wpAny_loadPart' hl
    repeat (first
      | (refine wpAny_ite_false (decide_eq_false (by rw [c0]; exact Bool.false_ne_true)) ?_; wp_walk using wpAny_loadPart' hl)
      | (refine wpAny_ite_true (decide_eq_true c1) ?_; wp_walk using wpAny_loadPart' hl))
    exact ⟨_, rfl, h⟩
def rMul1 (K : PySem.W.Frag) : R2 := fun x y H Q => ∃ l xs, x = .ref l ∧ y = .int 1 ∧ SqT K H l xs ∧ Q (.ref l) H
theorem op_mul1 {X : Cx} : OpR X (binaryOp .Mult) (rMul1 X.K) := by
  intro pins s σ H x y v u Q I rx ry h
  obtain ⟨l, xs, rfl, rfl, hT, q⟩ := h
  cases rx
  obtain ⟨t, rfl⟩ := ry
  obtain ⟨its, r, ⟨⟨cls, dd, data, sl⟩, ho, hc, n, hd⟩, hs⟩ := I.tuple hT
  simp only at hc hd
  subst hc hd
  refine wpAny_binaryOp_repeat_ref (T := "tuple") (U := "int") (by decide) ⟨_, ho, rfl⟩ (fun s' => typeIs_int s' 1 t) noFill_tuple_mul F.fills_int_mul F.slot_int_rmul repeat_tuple F.slot_int_index.lookup
    (call_meets F.slot_int_rmul (typeIs_int s 1 t) F.entry_int_rmul (F.args_int_rmul_2 _ _) (int_rmul_tuple 1 t l its.toArray n dd sl)
      ⟨ho, rfl, ⟨_, ho, rfl⟩, call_meets F.slot_tuple_mul ⟨_, ho, rfl⟩ F.entry_tuple_mul (F.args_tuple_mul_2 _ _) (tup_mul1 l its.toArray n dd sl t) ⟨ho, ?_⟩⟩)
  exact ⟨.ref l, H, I, rfl, q⟩
@[simp] noncomputable def oMulT (d e : D) : Res D := match d, e with
  | .int i, .int j => if mulOk i j then .ok (.int (i * j)) else .bad
  | .tup xs, .int k => if cb (xs ≠ [] ∧ 1 ≤ k ∧ k ≤ 1000 ∧ xs.length ≤ 1000) then .ok (.tup (List.replicate k.toNat xs).flatten) else .bad
  | _, _ => .bad
def rMulA (K : PySem.W.Frag) : R2 := fun x y H Q => rI (fun i j => mulOk i j = true) (fun i j => .int (i * j)) x y H Q ∨ rRepT K x y H Q ∨ rMul1 K x y H Q
theorem op_mulA {X : Cx} : OpR X (binaryOp .Mult) (rMulA X.K) := op_mulU.or (op_repT.or op_mul1)
theorem o_mulT {K : Frg} {mg : Mg} : O2 K mg (rMulA K) oMulT := fun S σ H x y d e W Q i hx hy q => by
  unfold oMulT at q
  split at q
  · split at q
    · rename_i hc
      exact .inl ⟨_, _, hx.int, hy.int, hc, q _ _ _ (Gr.refl i) (.int _)⟩
    · exact q.elim
  · rename_i xs k
    split at q
    · rename_i hc
      obtain ⟨h1, h2, h3, h4⟩ := of_cb hc
      obtain ⟨p, vs, rfl, k1, k2, r⟩ := hx.tup i
      by_cases e1 : k = 1
      · subst e1
        refine .inr (.inr ⟨p, vs, rfl, hy.int, k1, q _ S H (Gr.refl i) ?_⟩)
        have e2 : (List.replicate (1 : Int).toNat xs).flatten = xs := by simp
        rw [e2]
        exact .tup k2 r
      · refine .inr (.inl ⟨p, k, vs, rfl, hy.int, k1, fun z => h1 ?_, by omega, h3, by rw [r.len]; exact h4, po_new i (r.rep _) q⟩)
        subst z
        have := r.len
        exact List.eq_nil_of_length_eq_zero this.symm
    · exact q.elim
  · exact q.elim
/-! ### slices of any kind -/
theorem me_sl {X : Cx} {hx : Hx} {W : WX} {e : Expr} {lo hi : Option Expr} {f : Sl → Res D} {l h : Sl → Res (Option Int)} {pos p2 : Pos} (he : MR X hx W e f) (hl : MP X hx W lo l) (hh : MP X hx W hi h) : ME X hx W (.Subscript e (.Slice lo hi none p2) pos) (sSl f l h) :=
  pe_imp (pe_slice (sl_tupA.or (sl_str.or sl_list)) he hl hh) fun σ H Q ⟨b, S, ρ, R, q⟩ => ⟨b, S, ρ, R, q.bind fun d v S1 H1 g1 r1 k => ⟨b, S1, ρ, R.grow g1, (k.upE g1).bind fun d2 v2 S2 H2 g2 r2 k2 => ⟨b, S2, ρ, (R.grow g1).grow g2, (k2.upE g2).bind fun d3 v3 S3 H3 g3 r3 k3 => by
    cases r2
    cases r3
    have r := (r1.up g2).up g3
    have k4 := k3.upE g3
    have newL : ∀ xs vs, RpA X.K X.mg S3 vs xs → Po X.K X.mg (rrE X.K X.mg) W S3 σ H3 (.ok (.lst (cutD xs d2 d3))) Q → ∀ p, H3 p = none → Q (.ref p) (upd H3 p (.lst (cutV vs d2 d3))) := fun xs vs h2 z p hp =>
      z _ _ _ (Gr.new g3.i hp) (.lst upd_same ((h2.cut _ _).up (same_new (same_none g3.i hp)) _ _))
    cases d with
    | tup xs =>
      obtain ⟨p, vs, rfl, h1, h2, h3⟩ := r.tup g3.i
      refine .inl ⟨p, vs, rfl, h1, fun hw => ?_, fun _ => po_new g3.i (h3.cut _ _) k4⟩
      have e1 : cutD xs d2 d3 = xs := by
        unfold cutD
        rw [← h3.len, hw.1, hw.2, h3.len]
        simp
      refine k4 _ S3 H3 (Gr.refl g3.i) ?_
      rw [e1]
      exact .tup h2 h3
    | str x =>
      have k5 : Po X.K X.mg (rrE X.K X.mg) W S3 σ H3 (if x.length ≤ 16777216 then .ok (.str (cutS x d2 d3)) else .bad) Q := k4
      split at k5
      · rename_i hz
        exact .inr (.inl ⟨x, r.str, sizeLine16 hz, k5 _ S3 H3 (Gr.refl g3.i) (.str _)⟩)
      · exact k5.elim
    | lst xs =>
      obtain ⟨p, vs, rfl, h1, h2⟩ := r.lst
      exact .inr (.inr ⟨p, vs, rfl, SqL.of h1, newL xs vs h2 k4⟩)
    | rol xs =>
      obtain ⟨p, vs, rfl, h1, h2⟩ := r.rol g3.i
      exact .inr (.inr ⟨p, vs, rfl, h1, newL xs vs h2 k4⟩)
    | _ => exact k4.elim⟩⟩⟩
end PF

set_option Elab.async false
set_option linter.all false
set_option maxRecDepth 100000
set_option maxHeartbeats 4000000
/-! zip and enumerate over lists and tuples, in any mixture. -/
namespace PF
open PySem PySem.Spec L2 PyProof.Rows
def SqK (K : PySem.W.Frag) (t : Bool) (H : Hp) (a : Addr) (xs : List V) : Prop := match t with
  | true => SqT K H a xs
  | false => SqL K H a xs
def ItK (t : Bool) (h : Heap) (it a : Addr) (i : Nat) : Prop := match t with
  | true => h.IsTupleIter it a i
  | false => h.IsListIter it a i
def SeK (t : Bool) (h : Heap) (a : Addr) (its : Array Value) : Prop := match t with
  | true => h.IsTuple a its
  | false => h.IsList a its
def beK (t : Bool) (a : Addr) : Obj := match t with
  | true => { cls := .type "tuple_iterator", data := .fields #[.ref a, .int 0 0] }
  | false => { cls := .type "list_iterator", data := .fields #[.ref a, .int 0 0] }
theorem drawsK {prog : Program} {w : World} {A : Around} (t : Bool) (hh : A.handled = none) (it a : Addr) (hne : a ≠ it) (its : Array Value) : Draws prog w A it [it, a] its.size (fun i v => its[i]? = some v) (fun i h => ItK t h it a i ∧ SeK t h a its) := by
  cases t with
  | false => exact Draws.list hh it a hne its
  | true => exact Draws.tuple hh it a hne its
theorem beginsK (t : Bool) (a : Addr) (its : Array Value) : Begins (.ref a) (beK t a) fun h => SeK t h a its := by
  cases t with
  | false => exact begins_list a its
  | true => exact begins_tuple a its
theorem itK_new (t : Bool) {h : Heap} {it a : Addr} (e : h.get? it = some (beK t a)) : ItK t h it a 0 := by
  cases t with
  | false => exact ⟨_, e, rfl, rfl⟩
  | true => exact ⟨_, e, rfl, rfl⟩
theorem ItK.kept {t : Bool} {h h' : Heap} {it a : Addr} {i : Nat} (x : ItK t h it a i) (k : ∀ o, h.get? it = some o → h'.get? it = some o) : ItK t h' it a i := by
  cases t with
  | false => exact Heap.IsListIter.at x k
  | true => exact Heap.IsTupleIter.at x k
theorem ItK.obj {t : Bool} {h : Heap} {it a : Addr} {i : Nat} (x : ItK t h it a i) : ∃ o, h.get? it = some o ∧ ∀ v, o.data ≠ .cell v := by
  cases t with
  | false => obtain ⟨o, e, _, d⟩ := x; exact ⟨o, e, fun v q => by rw [d] at q; cases q⟩
  | true => obtain ⟨o, e, _, d⟩ := x; exact ⟨o, e, fun v q => by rw [d] at q; cases q⟩
theorem SeK.lt {t : Bool} {h : Heap} {a : Addr} {its : Array Value} (x : SeK t h a its) : a < h.objs.size := by
  cases t with
  | false => obtain ⟨o, e, _⟩ := x; exact Heap.lt_size e
  | true => obtain ⟨o, e, _⟩ := x; exact Heap.lt_size e
section
variable {X : Cx} {pins : List (Addr × Obj)} {σ : L2.St} {H : Hp} {s : Shared}
theorem Inv.seK {t : Bool} {a : Addr} {xs : List V} (I : Inv X pins σ H s) (h : SqK X.K t H a xs) : ∃ its : List Value, Vals xs its ∧ SeK t s.heap a its.toArray := by
  cases t with
  | false => obtain ⟨its, rv, p, _⟩ := I.list h; exact ⟨its, rv, p.isList⟩
  | true => obtain ⟨its, rv, p, _⟩ := I.tuple h; exact ⟨its, rv, p⟩
theorem Inv.seK_inj {t : Bool} {a : Addr} {xs ys : List V} (I : Inv X pins σ H s) (h : SqK X.K t H a xs) (h' : SqK X.K t H a ys) : xs = ys := by
  cases t with
  | false => exact I.list_inj h h'
  | true => exact I.tuple_inj h h'
end
/-! ### zip -/
def ItzG (K : PySem.W.Frag) (t1 t2 : Bool) (a b : Addr) : It :=
  ⟨fun i H => ∃ (xs ys : List V) (x y : V), SqK K t1 H a xs ∧ SqK K t2 H b ys ∧ xs[i]? = some x ∧ ys[i]? = some y,
    fun i H v H' => ∃ T x y, v = .ref T ∧ H T = none ∧ H' = upd H T (.tup [x, y]) ∧ (∀ xs, SqK K t1 H a xs → xs[i]? = some x) ∧ ∀ ys, SqK K t2 H b ys → ys[i]? = some y,
    fun i H => ∃ xs ys : List V, SqK K t1 H a xs ∧ SqK K t2 H b ys ∧ i = min xs.length ys.length⟩
theorem sep_of {a b z TI TO i1 i2 : Addr} (D : ZipApart z TI TO i1 i2 a b) : ZipSep2 z TI TO i1 i2 [i1, a] [i2, b] where
  TIz := D.TIz
  TOz := D.TOz
  TITO := D.TITO
  TIi1 := D.TIi1
  mem1 := by simp
  zf1 := by simp [Ne.symm D.i1z, Ne.symm D.l1z]
  Tf1 := by simp [D.TOi1, Ne.symm D.l1TO]
  TIi2 := D.TIi2
  mem2 := by simp
  zf2 := by simp [Ne.symm D.i2z, Ne.symm D.l2z]
  Tf2 := by simp [D.TOi2, Ne.symm D.l2TO]
  sep1_2 := by simp [D.i12, Ne.symm D.l2i1]
  sep2_1 := by simp [Ne.symm D.i12, Ne.symm D.l1i2]
theorem turn_zipG {P : Program} {w : World} {K : PySem.W.Frag} {elts : List Expr} {kk : Nat} {tpos : Pos} (t1 t2 : Bool) {a b z TI TO i1 i2 : Addr} (D : ZipApart z TI TO i1 i2 a b) :
    Turn P w K (.Tuple elts kk tpos) (ItzG K t1 t2 a b) [z, TI, TO, i1, i2] z (fun i h => IsZip h z TI TO .none ∧ IsPair h TI (.ref i1) (.ref i2) ∧ (∃ x y, IsPair h TO x y) ∧ ItK t1 h i1 a i ∧ ItK t2 h i2 b i) where
  mem := by simp
  obj := fun i h st c hc => by
    obtain ⟨hz, hTI, ⟨x, y, hTO⟩, h1, h2⟩ := st
    have e' : c = z ∨ c = TI ∨ c = TO ∨ c = i1 ∨ c = i2 := by simpa using hc
    rcases e' with q | q | q | q | q
    · rw [q]; exact ⟨_, hz, fun v q => nomatch q⟩
    · rw [q]; exact ⟨_, hTI, fun v q => nomatch q⟩
    · rw [q]; exact ⟨_, hTO, fun v q => nomatch q⟩
    · rw [q]; exact h1.obj
    · rw [q]; exact h2.obj
  keep := fun i h h' st k => by
    obtain ⟨hz, hTI, ⟨x, y, hTO⟩, h1, h2⟩ := st
    exact ⟨k z (by simp) _ hz, k TI (by simp) _ hTI, ⟨x, y, k TO (by simp) _ hTO⟩, h1.kept fun o q => k i1 (by simp) o q, h2.kept fun o q => k i2 (by simp) o q⟩
  item := by
    intro X hP hw hK hc i pins s σ H E I hf st hg
    subst hP hw hK
    obtain ⟨hz, hTI, ⟨x0, y0, hTO⟩, h1, h2⟩ := st
    obtain ⟨xs, ys, x, y, hqx, hqy, hx, hy⟩ := hg
    obtain ⟨its, rv, p⟩ := Inv.seK I hqx
    obtain ⟨its2, rv2, p2⟩ := Inv.seK I hqy
    obtain ⟨u, hu, ru⟩ := rv.get hx
    obtain ⟨u2, hu2, ru2⟩ := rv2.get hy
    have hzl : z < s.heap.objs.size := Heap.lt_size hz
    have hh : X.A.in1.handled = none := I.ok.hd hc
    have lt1 : i < its.toArray.size := by rw [List.size_toArray]; exact (List.getElem?_eq_some_iff.mp hu).1
    have lt2 : i < its2.toArray.size := by rw [List.size_toArray]; exact (List.getElem?_eq_some_iff.mp hu2).1
    refine wpAny_pyNext_zipD2_item (sep_of D) (drawsK t1 hh i1 a D.l1i1 its.toArray) (drawsK t2 hh i2 b D.l2i2 its2.toArray) hz hTI hTO ⟨h1, p⟩ ⟨h2, p2⟩ lt1 lt2 fun v1 v2 h' tk P1 P2 z' TO' h1' h2' hT hsz hk => ?_
    have e1 : v1 = u := by simpa [hu] using P1.symm
    have e2 : v2 = u2 := by simpa [hu2] using P2.symm
    subst e1 e2
    refine ⟨_, rfl, wpAny_letOwnedTupleGo_zip (s := { s with heap := h', toks := tk }) z' fun h'' z'' sb => ?_⟩
    have hT2 : h''.get? s.heap.objs.size = some { cls := .type "tuple", data := .seq #[v1, v2] } := (sb.2 _ (Nat.ne_of_gt hzl)).trans hT
    have new : ObjOk X.prog X.w (upd H s.heap.objs.size (.tup [x, y])) h'' s.heap.objs.size (.tup [x, y]) :=
      ⟨by show 2 ≤ sizeLine; decide, [v1, v2], .cons ru (.cons ru2 .nil), ⟨_, hT2, rfl, _, rfl⟩⟩
    have I1 : Inv X pins σ (upd H s.heap.objs.size (.tup [x, y])) { s with heap := h'', toks := tk } :=
      I.turnedNew (ch := [z, TI, TO, i1, i2]) (fun c o hb q => (sb.2 c (fun q' => hb (by simp [q']))).trans (hk c o (fun q' => hb (by simp [q'])) (fun q' => hb (by simp [q'])) (fun q' => hb (by simp [q'])) (fun q' => hb (by simp [q'])) q)) hf (Nat.le_refl _) new
    refine ⟨.ref s.heap.objs.size, _, I1, rfl, ⟨_, x, y, rfl, I.hok.fresh (Nat.le_refl _), rfl, fun l hl => by rw [Inv.seK_inj I hl hqx]; exact hx, fun l hl => by rw [Inv.seK_inj I hl hqy]; exact hy⟩, ⟨z'', ?_, ⟨v1, v2, ?_⟩, ?_, ?_⟩, fun c hcm => ?_⟩
    · exact (sb.2 _ D.TIz).trans (hk _ _ D.TIz D.TITO D.TIi1 D.TIi2 hTI)
    · exact (sb.2 _ D.TOz).trans TO'
    · exact h1'.1.kept fun o q => (sb.2 _ D.i1z).trans q
    · exact h2'.1.kept fun o q => (sb.2 _ D.i2z).trans q
    · have hlt : c < s.heap.objs.size := by
        have e' : c = z ∨ c = TI ∨ c = TO ∨ c = i1 ∨ c = i2 := by simpa using hcm
        rcases e' with q | q | q | q | q
        · rw [q]; exact hzl
        · rw [q]; exact Heap.lt_size hTI
        · rw [q]; exact Heap.lt_size hTO
        · rw [q]; obtain ⟨_, e1, _⟩ := h1.obj; exact Heap.lt_size e1
        · rw [q]; obtain ⟨_, e2, _⟩ := h2.obj; exact Heap.lt_size e2
      rw [upd_ne (Nat.ne_of_lt hlt)]
      exact (hf c hcm).1
  done := by
    intro X hP hw hK hc i pins s σ H E I hf st hg
    subst hP hw hK
    obtain ⟨hz, hTI, ⟨x0, y0, hTO⟩, h1, h2⟩ := st
    obtain ⟨xs, ys, hqx, hqy, hend⟩ := hg
    obtain ⟨its, rv, p⟩ := Inv.seK I hqx
    obtain ⟨its2, rv2, p2⟩ := Inv.seK I hqy
    have l1 : its.toArray.size = xs.length := by rw [List.size_toArray]; exact rv.length.symm
    have l2 : its2.toArray.size = ys.length := by rw [List.size_toArray]; exact rv2.length.symm
    have hh : X.A.in1.handled = none := I.ok.hd hc
    exact wpAny_pyNext_zipD2_end (sep_of D) (drawsK t1 hh i1 a D.l1i1 its.toArray) (drawsK t2 hh i2 b D.l2i2 its2.toArray) hz hTI hTO ⟨h1, p⟩ ⟨h2, p2⟩ (by omega) (by omega) (by omega) fun h' tk hk => ⟨rfl, I.turnedL (t' := tk) (ch := [z, TI, TO, i1, i2]) (fun c o hb q =>
      hk c o (fun q' => hb (by simp [q'])) (fun q' => hb (by simp [q'])) (fun q' => hb (by simp [q'])) (fun q' => hb (by simp [q'])) q) hf⟩
  self := fun A i s Q E st h => wpAny_pyIter_zip st.1 h
def iZipG (K : PySem.W.Frag) (ta : TA) : TI := fun σ H R => ta σ H fun vs H1 => ∃ t1 t2 a b xs ys, vs = [.ref a, .ref b] ∧ SqK K t1 H1 a xs ∧ SqK K t2 H1 b ys ∧ R (ItzG K t1 t2 a b) H1
theorem pi_zipG {X : Cx} {e e2 : Expr} {ta : TA} {p pos tpos : Pos} {elts : List Expr} {kk : Nat} (hg : Gl X "zip") (hm : X.mg "zip" = none) (ha : PA X [e, e2] ta)
    (hs : starEach [e, e2] X.env = (false, eval e X.env) :: starEach [e2] X.env := by rfl) (hpl : (backTo pos (starEach [e2] X.env)).any (·.1) = false := by rfl) :
    PI X (.Tuple elts kk tpos) (.Call (.Name "zip" p) [e, e2] [] pos) (iZipG X.K ta) := by
  refine ⟨fun pins s σ H R I h => ?_⟩
  refine Call_ (ld_blt I hg hm PyProof.Rows.boot_zip (PyProof.Rows.callWith_type1 (thn (ha.run pos pins s σ H _ I h) fun us s1 ⟨vs, H1, I1, r1, q1⟩ => ?_) hs hpl))
  obtain ⟨t1, t2, a, b, xs, ys, ex, hqx, hqy, q⟩ := q1
  subst ex
  cases r1 with
  | cons r rr =>
    cases rr with
    | cons r' rr =>
      cases rr
      cases r
      cases r'
      have fresh5 : ∀ c, c ∈ [s1.heap.objs.size + 4, s1.heap.objs.size + 2, s1.heap.objs.size + 3, s1.heap.objs.size, s1.heap.objs.size + 1] → FpOk X pins H1 c := fun c hcm => by
        have e' : c = s1.heap.objs.size + 4 ∨ c = s1.heap.objs.size + 2 ∨ c = s1.heap.objs.size + 3 ∨ c = s1.heap.objs.size ∨ c = s1.heap.objs.size + 1 := by simpa using hcm
        have hle : s1.heap.objs.size ≤ c := by
          rcases e' with z | z | z | z | z
          · rw [z]; exact Nat.le_add_right _ _
          · rw [z]; exact Nat.le_add_right _ _
          · rw [z]; exact Nat.le_add_right _ _
          · rw [z]; exact Nat.le_refl _
          · rw [z]; exact Nat.le_add_right _ _
        exact I1.fpOk hle (I1.hok.fresh hle)
      obtain ⟨its, rv, p1⟩ := Inv.seK I1 hqx
      obtain ⟨its2, rv2, p2⟩ := Inv.seK I1 hqy
      refine zip_begins2 (beginsK t1 a its.toArray) (beginsK t2 b its2.toArray) p1 p2 fun h' hz hTI hTO h1 h2 hsz hk => wpAny_pyIter_zip hz ?_
      have I2 : Inv X pins σ H1 { s1 with heap := h' } := I1.kept (t' := s1.toks) hk
      exact ⟨s1.heap.objs.size + 4, [s1.heap.objs.size + 4, s1.heap.objs.size + 2, s1.heap.objs.size + 3, s1.heap.objs.size, s1.heap.objs.size + 1], _, _, H1, rfl, I2, turn_zipG t1 t2 (PySem.W.ktu_apart s1.heap.objs.size a b p1.lt p2.lt), ⟨hz, hTI, ⟨_, _, hTO⟩, itK_new t1 h1, itK_new t2 h2⟩, fresh5, q⟩
/-! ### enumerate -/
theorem meets_enum1 {v : Value} {o : Obj} {H : Heap → Prop} (B : Begins v o H) :
    Meets (Builtin.«enumerate.__new__» ⟨[.type "enumerate", v], []⟩) (fun _ R s => H s.heap ∧
      R (.ok (.ret (.ref (s.heap.push o).objs.size))) { s with heap := (s.heap.push o).push { cls := .type "enumerate", data := .fields #[.none, .bool false, .ref s.heap.objs.size, rawInt 0, .none, .none] } }) :=
  .of_wp fun prog w A R s h => by
    obtain ⟨hp, g, d, tk, os⟩ := s; obtain ⟨h1, h⟩ := h
    have hsub := sub_enumerate
    have q1 : ∀ {A' : Around} {E : Value → Shared → Prop} {Q : Value → Shared → Prop}, Q (.ref hp.objs.size) ⟨hp.push o, g, d, tk, os⟩ → wpAny (model prog w) A' (pyIter v) Q E ⟨hp, g, d, tk, os⟩ :=
      fun q => B.iter prog w _ _ ⟨hp, g, d, tk, os⟩ _ h1 q
    wp_walk using q1
    refine wpAny_stack_any fun st => wpAny_pure ?_
    split
    · rename_i c _ _ _ _ _
      cases (c == Value.type "enumerate")
      · wp_walk using q1
        exact ⟨_, rfl, h⟩
      · wp_walk using q1
        exact ⟨_, rfl, h⟩
    · wp_walk using q1
      exact ⟨_, rfl, h⟩
theorem call_enum1 {prog : Program} {w : World} {A : Around} {E : Value → Shared → Prop} {s : Shared} {v : Value} {o : Obj} {H : Heap → Prop} {Q : Value → Shared → Prop} (B : Begins v o H) (h1 : H s.heap)
    (h : ∀ h', IsEnum h' (s.heap.objs.size + 1) s.heap.objs.size 0 .none → h'.get? s.heap.objs.size = some o → h'.objs.size = s.heap.objs.size + 2 →
      (∀ b o, s.heap.get? b = some o → h'.get? b = some o) → Q (.ref (s.heap.objs.size + 1)) { s with heap := h' }) :
    wpAny (model prog w) A (call (.type "enumerate") [v]) Q E s := by
  refine callType_new F.called_enumerate (by decide) (F.typeCall_enumerate_1 _) (F.newCall_enumerate_1 _) (fun obj => F.args_object_init_2 obj _) F.entry_enumerate_new (meets_enum1 B) ⟨h1, ?_⟩
  have hz : (s.heap.push o).objs.size = s.heap.objs.size + 1 := Heap.size_push ..
  show _ ∧ _
  rw [hz]
  have he := Heap.get?_push_size (s.heap.push o) (o := { cls := .type "enumerate", data := .fields #[.none, .bool false, .ref s.heap.objs.size, rawInt 0, .none, .none] }) rfl
  rw [hz] at he
  exact ⟨⟨_, he, rfl⟩, h _ he (Heap.get?_push_of_some _ (Heap.get?_push_size _ B.free)) (by rw [Heap.size_push, hz]) fun b o x => Heap.get?_push_of_some _ (Heap.get?_push_of_some _ x)⟩
def IteG (K : PySem.W.Frag) (t : Bool) (a : Addr) : It :=
  ⟨fun i H => ∃ (xs : List V) (x : V), SqK K t H a xs ∧ xs[i]? = some x, fun i H v H' => ∃ T x, v = .ref T ∧ H T = none ∧ H' = upd H T (.tup [.int (i : Nat), x]) ∧ ∀ xs, SqK K t H a xs → xs[i]? = some x, fun i H => ∃ xs : List V, SqK K t H a xs ∧ i = xs.length⟩
theorem turn_enumG {P : Program} {w : World} {K : PySem.W.Frag} {elts : List Expr} {kk : Nat} {tpos : Pos} (t : Bool) (a e it : Addr) :
    Turn P w K (.Tuple elts kk tpos) (IteG K t a) [e, it] e (fun i h => (∃ old, IsEnum h e it ((i : Nat) : Int) old) ∧ ItK t h it a i ∧ e ≠ it ∧ e ≠ a ∧ it ≠ a) where
  mem := by simp
  obj := fun i h st b hb => by
    obtain ⟨⟨old, he⟩, h1, _⟩ := st
    have e' : b = e ∨ b = it := by simpa using hb
    rcases e' with z | z
    · rw [z]; exact ⟨_, he, fun v q => nomatch q⟩
    · rw [z]; exact h1.obj
  keep := fun i h h' st k => let ⟨⟨old, he⟩, hi, hne⟩ := st; ⟨⟨old, k e (by simp) _ he⟩, hi.kept fun o q => k it (by simp) o q, hne⟩
  item := by
    intro X hP hw hK hc i pins s σ H E I hf st hg
    subst hP hw hK
    obtain ⟨⟨old, he⟩, hit, hne, hea, hia⟩ := st
    obtain ⟨xs, x, hq, hx⟩ := hg
    obtain ⟨its, rv, p⟩ := Inv.seK I hq
    obtain ⟨u, hu, ru⟩ := rv.get hx
    have hel : e < s.heap.objs.size := Heap.lt_size he
    have hil : it < s.heap.objs.size := by obtain ⟨_, q, _⟩ := hit.obj; exact Heap.lt_size q
    have hh : X.A.in1.handled = none := I.ok.hd hc
    have lt : i < its.toArray.size := by rw [List.size_toArray]; exact (List.getElem?_eq_some_iff.mp hu).1
    refine wpAny_pyNext_enum_itemC (drawsK t hh it a (Ne.symm hia) its.toArray) he ⟨hit, p⟩ lt hne (by simp [hne, hea]) fun v h' tk Pv ho hit' hT hsz hk => ?_
    have ev : v = u := by simpa [hu] using Pv.symm
    subst ev
    refine ⟨_, rfl, wpAny_letOwnedTupleGo_enum (s := { s with heap := h', toks := tk + 1 }) ho fun h'' he' sb => ?_⟩
    have hT2 : h''.get? s.heap.objs.size = some { cls := .type "tuple", data := .seq #[.int i tk, v] } := (sb.2 _ (Nat.ne_of_gt hel)).trans hT
    have new : ObjOk X.prog X.w (upd H s.heap.objs.size (.tup [.int (i : Nat), x])) h'' s.heap.objs.size (.tup [.int (i : Nat), x]) :=
      ⟨by show 2 ≤ sizeLine; decide, [.int i tk, v], .cons ⟨_, rfl⟩ (.cons ru .nil), ⟨_, hT2, rfl, _, rfl⟩⟩
    have I1 : Inv X pins σ (upd H s.heap.objs.size (.tup [.int (i : Nat), x])) { s with heap := h'', toks := tk + 1 } :=
      I.turnedNew (ch := [e, it]) (fun b ob hb q => (sb.2 b (fun z => hb (by simp [z]))).trans (hk b ob (fun z => hb (by simp [z])) (fun z => hb (by simp [z])) q)) hf (Nat.le_refl _) new
    refine ⟨.ref s.heap.objs.size, _, I1, rfl, ⟨_, x, rfl, I.hok.fresh (Nat.le_refl _), rfl, fun ys hy => by rw [Inv.seK_inj I hy hq]; exact hx⟩, ⟨⟨v, ?_⟩, hit'.1.kept fun o q => (sb.2 it (Ne.symm hne)).trans q, hne, hea, hia⟩, fun b hb => ?_⟩
    · have e1 : ((i + 1 : Nat) : Int) = (i : Int) + 1 := by omega
      rw [e1]; exact he'
    · have hb' : b < s.heap.objs.size := by
        have e' : b = e ∨ b = it := by simpa using hb
        rcases e' with z | z
        · rw [z]; exact hel
        · rw [z]; exact hil
      rw [upd_ne (Nat.ne_of_lt hb')]
      exact (hf b hb).1
  done := by
    intro X hP hw hK hc i pins s σ H E I hf st hg
    subst hP hw hK
    obtain ⟨⟨old, he⟩, hit, hne, hea, hia⟩ := st
    obtain ⟨xs, hq, hx⟩ := hg
    obtain ⟨its, rv, p⟩ := Inv.seK I hq
    have hl : its.toArray.size = i := by rw [List.size_toArray, hx]; exact rv.length.symm
    have hh : X.A.in1.handled = none := I.ok.hd hc
    exact wpAny_pyNext_enum_endD (drawsK t hh it a (Ne.symm hia) its.toArray) he ⟨by rw [hl]; exact hit, p⟩ fun h' eb => ⟨rfl, I.turnedL (t' := s.toks) (ch := [e, it]) (fun b o hb q => eb b o (fun z => hb (by simp [z])) q) hf⟩
  self := fun A i s Q E st h => let ⟨⟨_, he⟩, _⟩ := st; wpAny_pyIter_enum he h
def iEnumG (K : PySem.W.Frag) (ta : TA) : TI := fun σ H R => ta σ H fun vs H1 => ∃ t a xs, vs = [.ref a] ∧ SqK K t H1 a xs ∧ R (IteG K t a) H1
theorem pi_enumG {X : Cx} {e : Expr} {ta : TA} {p pos tpos : Pos} {elts : List Expr} {kk : Nat} (hg : Gl X "enumerate") (hm : X.mg "enumerate" = none) (ha : PA X [e] ta) (hs : starEach [e] X.env = [(false, eval e X.env)] := by rfl) :
    PI X (.Tuple elts kk tpos) (.Call (.Name "enumerate" p) [e] [] pos) (iEnumG X.K ta) := by
  refine ⟨fun pins s σ H R I h => ?_⟩
  refine Call_ (ld_blt I hg hm boot_enumerate (PyProof.Rows.callWith_type1 (thn (ha.run pos pins s σ H _ I h) fun us s1 ⟨vs, H1, I1, r1, q1⟩ => ?_) hs rfl))
  obtain ⟨t, a, xs, ex, hq, q⟩ := q1
  subst ex
  cases r1 with
  | cons r rr =>
    cases rr
    cases r
    obtain ⟨its, rv, p'⟩ := Inv.seK I1 hq
    have hal : a < s1.heap.objs.size := p'.lt
    refine call_enum1 (beginsK t a its.toArray) p' fun h' he hit hsz hk => wpAny_pyIter_enum he ?_
    have I2 : Inv X pins σ H1 { s1 with heap := h' } := I1.kept (t' := s1.toks) hk
    refine ⟨s1.heap.objs.size + 1, [s1.heap.objs.size + 1, s1.heap.objs.size], _, _, H1, rfl, I2, turn_enumG t a (s1.heap.objs.size + 1) s1.heap.objs.size, ⟨⟨.none, he⟩, itK_new t hit, Nat.succ_ne_self _, ?_, Nat.ne_of_gt hal⟩, fun b hb => ?_, q⟩
    · exact Nat.ne_of_gt (Nat.lt_succ_of_lt hal)
    · have e' : b = s1.heap.objs.size + 1 ∨ b = s1.heap.objs.size := by simpa using hb
      have hle : s1.heap.objs.size ≤ b := by
        rcases e' with z | z
        · rw [z]; exact Nat.le_add_right _ _
        · rw [z]; exact Nat.le_refl _
      exact I1.fpOk hle (I1.hok.fresh hle)
/-! ### the two as rules -/
@[simp] def dSq (d : D) : Res (List D) := match d with
  | .lst ds => .ok ds
  | .rol ds => .ok ds
  | .tup ds => .ok ds
  | _ => .bad
def zipD : List D → List D → List D
  | x :: xs, y :: ys => .tup [x, y] :: zipD xs ys
  | _, _ => []
def enumD (i : Nat) : List D → List D
  | [] => []
  | x :: xs => .tup [.int (i : Int), x] :: enumD (i + 1) xs
@[simp] def gZip (ds : List D) : Res (List D) := match ds with
  | [d, e] => (dSq d).bind fun xs => (dSq e).bind fun ys => .ok (zipD xs ys)
  | _ => .bad
@[simp] def gEnum (ds : List D) : Res (List D) := match ds with
  | [d] => (dSq d).bind fun xs => .ok (enumD 0 xs)
  | _ => .bad
@[simp] def iZip (fs : Sl → Res (List D)) (ρ : Sl) : Res (List D) := (fs ρ).bind gZip
@[simp] def iEnu (fs : Sl → Res (List D)) (ρ : Sl) : Res (List D) := (fs ρ).bind gEnum
theorem zipD_get : ∀ {xs ys : List D} {i : Nat} {d : D}, (zipD xs ys)[i]? = some d → ∃ x y, xs[i]? = some x ∧ ys[i]? = some y ∧ d = .tup [x, y]
  | [], _, _, _, h => by simp [zipD] at h
  | _ :: _, [], _, _, h => by simp [zipD] at h
  | x :: xs, y :: ys, 0, d, h => by
    simp [zipD] at h
    exact ⟨x, y, rfl, rfl, h.symm⟩
  | x :: xs, y :: ys, i + 1, d, h => by
    simp [zipD] at h
    simpa using zipD_get h
theorem zipD_len : ∀ (xs ys : List D), (zipD xs ys).length = min xs.length ys.length
  | [], _ => by simp [zipD]
  | _ :: _, [] => by simp [zipD]
  | x :: xs, y :: ys => by
    simp only [zipD, List.length_cons, zipD_len xs ys]
    omega
theorem enumD_get : ∀ {xs : List D} {j i : Nat} {d : D}, (enumD j xs)[i]? = some d → ∃ x, xs[i]? = some x ∧ d = .tup [.int ((j + i : Nat) : Int), x]
  | [], _, _, _, h => by simp [enumD] at h
  | x :: xs, j, 0, d, h => by
    simp [enumD] at h
    exact ⟨x, rfl, by simpa using h.symm⟩
  | x :: xs, j, i + 1, d, h => by
    simp only [enumD, List.getElem?_cons_succ] at h
    obtain ⟨y, h1, h2⟩ := enumD_get h
    exact ⟨y, by simpa using h1, by rw [h2]; congr 3; omega⟩
theorem enumD_len : ∀ (xs : List D) (j : Nat), (enumD j xs).length = xs.length
  | [], _ => rfl
  | x :: xs, j => by simp [enumD, enumD_len xs]
section
variable {K : Frg} {mg : Mg} {S : Hp} {v : V} {d : D} {ds : List D}
theorem Rp.sq (h : Rp K mg S v d) (e : dSq d = .ok ds) : ∃ t a vs, v = .ref a ∧ SqK K t S a vs ∧ RpA K mg S vs ds := by
  cases d <;> cases e
  · cases h with
    | lst a b => exact ⟨false, _, _, rfl, SqL.of a, b⟩
  · cases h with
    | rol a b => exact ⟨false, _, _, rfl, a, b⟩
  · cases h with
    | tup a b => exact ⟨true, _, _, rfl, a, b⟩
theorem same_k {t : Bool} {H H' : Hp} {a : Addr} {vs : List V} (e : Same H H') (h : SqK K t H a vs) : SqK K t H' a vs := by
  cases t with
  | false => exact same_l e h
  | true => exact same_t e h
theorem itd_zip {t1 t2 : Bool} {a b : Addr} {vs ws : List V} {xs ys : List D} (h1 : SqK K t1 S a vs) (r1 : RpA K mg S vs xs) (h2 : SqK K t2 S b ws) (r2 : RpA K mg S ws ys) : ItD K mg S (ItzG K t1 t2 a b) (zipD xs ys) where
  go := fun S' H i d s1 s2 e => by
    obtain ⟨x, y, e1, e2, rfl⟩ := zipD_get e
    obtain ⟨v, k1, k2⟩ := (r1.up s1 _ _).get e1
    obtain ⟨w, k3, k4⟩ := (r2.up s1 _ _).get e2
    have q1 : SqK K t1 H a vs := same_k (s1.trans s2) h1
    have q2 : SqK K t2 H b ws := same_k (s1.trans s2) h2
    refine ⟨⟨vs, ws, v, w, q1, q2, k1, k3⟩, fun z H' ⟨T, x', y', z1, z2, z3, z4, z5⟩ => ?_⟩
    have e3 := z4 vs q1
    rw [k1] at e3
    cases e3
    have e4 := z5 ws q2
    rw [k3] at e4
    cases e4
    subst z1 z3
    have up : Same S' (upd S' T (.tup [v, w])) := same_new (same_none s2 z2)
    exact ⟨_, Gr.new s2 z2, .tup (SqT.of upd_same) (.cons (k2.up up _ _) (.cons (k4.up up _ _) .nil))⟩
  stop := fun S' H s1 s2 => ⟨vs, ws, same_k (s1.trans s2) h1, same_k (s1.trans s2) h2, by rw [zipD_len, r1.len, r2.len]⟩
theorem itd_enum {t : Bool} {a : Addr} {vs : List V} {xs : List D} (h1 : SqK K t S a vs) (r1 : RpA K mg S vs xs) : ItD K mg S (IteG K t a) (enumD 0 xs) where
  go := fun S' H i d s1 s2 e => by
    obtain ⟨x, e1, rfl⟩ := enumD_get e
    obtain ⟨v, k1, k2⟩ := (r1.up s1 _ _).get e1
    have q1 : SqK K t H a vs := same_k (s1.trans s2) h1
    refine ⟨⟨vs, v, q1, k1⟩, fun z H' ⟨T, x', z1, z2, z3, z4⟩ => ?_⟩
    have e3 := z4 vs q1
    rw [k1] at e3
    cases e3
    subst z1 z3
    have up : Same S' (upd S' T (.tup [.int (i : Nat), v])) := same_new (same_none s2 z2)
    rw [Nat.zero_add]
    exact ⟨_, Gr.new s2 z2, .tup (SqT.of upd_same) (.cons (.int _) (.cons (k2.up up _ _) .nil))⟩
  stop := fun S' H s1 s2 => ⟨vs, same_k (s1.trans s2) h1, by rw [enumD_len, r1.len]⟩
end
section
variable {X : Cx} {hx : Hx} {W : WX} {e e2 : Expr} {elts : List Expr} {kk : Nat} {p pos tpos : Pos} {fs : Sl → Res (List D)}
theorem mi_zip (hg : Gl X "zip") (hm : X.mg "zip" = none) (ha : MA X hx W [e, e2] fs) (hs : starEach [e, e2] X.env = (false, eval e X.env) :: starEach [e2] X.env := by rfl) (hpl : (backTo pos (starEach [e2] X.env)).any (·.1) = false := by rfl) : MI X hx W (.Tuple elts kk tpos) (.Call (.Name "zip" p) [e, e2] [] pos) (iZip fs) :=
  pi_imp (pi_zipG hg hm ha hs hpl) fun σ H Q ⟨b, S, ρ, R, q⟩ => ⟨b, S, ρ, R, q.bind fun d v S1 H1 g1 r1 k => by
    unfold gZip at k
    split at k
    · rename_i d1 d2
      obtain ⟨v1, v2, rfl, q1, q2⟩ := r1.two
      cases e1 : dSq d1 with
      | exc _ _ => cases d1 <;> cases e1
      | bad => rw [e1] at k; exact k.elim
      | ok xs =>
        cases e2 : dSq d2 with
        | exc _ _ => cases d2 <;> cases e2
        | bad => rw [e1, Res.bind_ok, e2] at k; exact k.elim
        | ok ys =>
          rw [e1, Res.bind_ok, e2, Res.bind_ok] at k
          obtain ⟨t1, a1, vs, rfl, z1, z2⟩ := q1.sq e1
          obtain ⟨t2, a2, ws, rfl, z3, z4⟩ := q2.sq e2
          exact ⟨t1, t2, a1, a2, vs, ws, rfl, same_k g1.i z1, same_k g1.i z3, k _ S1 H1 g1 (itd_zip z1 z2 z3 z4)⟩
    · exact k.elim⟩
theorem mi_enum (hg : Gl X "enumerate") (hm : X.mg "enumerate" = none) (ha : MA X hx W [e] fs) (hs : starEach [e] X.env = [(false, eval e X.env)] := by rfl) : MI X hx W (.Tuple elts kk tpos) (.Call (.Name "enumerate" p) [e] [] pos) (iEnu fs) :=
  pi_imp (pi_enumG hg hm ha hs) fun σ H Q ⟨b, S, ρ, R, q⟩ => ⟨b, S, ρ, R, q.bind fun d v S1 H1 g1 r1 k => by
    unfold gEnum at k
    split at k
    · rename_i d1
      obtain ⟨v1, rfl, q1⟩ := r1.one
      cases e1 : dSq d1 with
      | exc _ _ => cases d1 <;> cases e1
      | bad => rw [e1] at k; exact k.elim
      | ok xs =>
        rw [e1, Res.bind_ok] at k
        obtain ⟨t1, a1, vs, rfl, z1, z2⟩ := q1.sq e1
        exact ⟨t1, a1, vs, rfl, same_k g1.i z1, k _ S1 H1 g1 (itd_enum z1 z2)⟩
    · exact k.elim⟩
end
end PF

set_option Elab.async false
set_option linter.all false
set_option maxRecDepth 100000
set_option maxHeartbeats 4000000
/-! A list of a slot's own, lent for the time of one expression; more of lists. -/
namespace PF
open PySem PySem.Spec L2 PyProof.Rows
mutual
/-- no list in it -/
def nol : D → Bool
  | .non => true
  | .bl _ => true
  | .int _ => true
  | .str _ => true
  | .tup ds => nolA ds
  | _ => false
def nolA : List D → Bool
  | [] => true
  | d :: ds => nol d && nolA ds
end
@[simp] theorem nol_non : nol .non = true := by simp [nol]
@[simp] theorem nol_bl (b : Bool) : nol (.bl b) = true := by simp [nol]
@[simp] theorem nol_int (i : Int) : nol (.int i) = true := by simp [nol]
@[simp] theorem nol_str (x : Str) : nol (.str x) = true := by simp [nol]
@[simp] theorem nol_tup (ds : List D) : nol (.tup ds) = nolA ds := by simp [nol]
@[simp] theorem nolA_nil : nolA [] = true := by simp [nolA]
@[simp] theorem nolA_cons (d : D) (ds : List D) : nolA (d :: ds) = (nol d && nolA ds) := by simp [nolA]
@[simp] theorem nolA_app : ∀ (ds es : List D), nolA (ds ++ es) = (nolA ds && nolA es)
  | [], es => by simp
  | d :: ds, es => by simp [nolA_app ds es, Bool.and_assoc]
@[simp] theorem nolA_ints : ∀ ns : List Int, nolA (ns.map D.int) = true
  | [] => by simp
  | n :: ns => by simp [nolA_ints ns]
/-- the shared part without the list at p -/
def less (S : Hp) (p : Addr) : Hp := fun a => if a = p then none else S a
section
variable {K : Frg} {mg : Mg} {S : Hp} {p : Addr} {ws : List V}
theorem less_ne {a : Addr} (h : a ≠ p) : less S p a = S a := if_neg h
theorem less_self : less S p p = none := if_pos rfl
theorem less_tup {a : Addr} {xs : List V} (hp : S p = some (.lst ws)) (h : SqT K S a xs) : SqT K (less S p) a xs := by
  rcases h with h | h
  · rcases h with h | ⟨o, h⟩
    · refine .inl (.inl ?_)
      rw [less_ne (fun e => by subst e; rw [hp] at h; cases h)]
      exact h
    · refine .inl (.inr ⟨o, ?_⟩)
      rw [less_ne (fun e => by subst e; rw [hp] at h; cases h)]
      exact h
  · exact .inr h
mutual
theorem Rp.less (hp : S p = some (.lst ws)) : ∀ (d : D) (v : V), nol d = true → Rp K mg S v d → Rp K mg (PF.less S p) v d
  | .non, _, _, h => by cases h; exact .non
  | .bl _, _, _, h => by cases h; exact .bl _
  | .int _, _, _, h => by cases h; exact .int _
  | .str _, _, _, h => by cases h; exact .str _
  | .tup ds, _, n, h => by
    cases h with
    | tup a b => exact .tup (less_tup hp a) (RpA.less hp ds _ (by simpa using n) b)
  | .lst _, _, n, _ => by cases n
  | .rol _, _, n, _ => by cases n
  | .obj _ _ _, _, n, _ => by cases n
  | .fr _, _, n, _ => by cases n
theorem RpA.less (hp : S p = some (.lst ws)) : ∀ (ds : List D) (vs : List V), nolA ds = true → RpA K mg S vs ds → RpA K mg (PF.less S p) vs ds
  | [], _, _, h => by cases h; exact .nil
  | d :: ds, _, n, h => by
    have n' : nol d = true ∧ nolA ds = true := by simpa using n
    cases h with
    | cons a b => exact .cons (Rp.less hp d _ n'.1 a) (RpA.less hp ds _ n'.2 b)
end
theorem Gr.less {H S2 H2 : Hp} (h0 : S p = none) (h1 : H p ≠ none) (g : Gr (upd S p (.lst ws)) H S2 H2) : Gr S H (PF.less S2 p) H2 where
  s := fun a o e => by
    have q : a ≠ p := fun z => by rw [z, h0] at e; cases e
    rw [less_ne q]
    exact g.s a o (by rw [upd_ne q]; exact e)
  h := g.h
  i := fun a o e => by
    have q : a ≠ p := fun z => by rw [z, less_self] at e; cases e
    rw [less_ne q] at e
    exact g.i a o e
  n := fun a ha e => by
    by_cases q : a = p
    · rw [q]; exact less_self
    · rw [less_ne q]
      exact g.n a ha (by rw [upd_ne q]; exact e)
end
/-- lend the list of slot i to f -/
def lend {α : Type} (i : Nat) (ok : α → Bool) (f : Sl → Res α) (ρ : Sl) : Res α := match ρ[i]? with
  | some (.o ds) => (f (ρ.set i (.v (.lst ds)))).nx.bind fun a => if ok a then .ok a else .bad
  | _ => f ρ
@[simp] def sLend (i : Nat) (f : Sl → Res D) (ρ : Sl) : Res D := match ρ[i]? with
  | some (.o ds) => (f (ρ.set i (.v (.lst ds)))).nx.bind fun a => if nol a then .ok a else .bad
  | _ => f ρ
@[simp] def fLend (i : Nat) (f : Sl → Res (List D)) (ρ : Sl) : Res (List D) := match ρ[i]? with
  | some (.o ds) => (f (ρ.set i (.v (.lst ds)))).nx.bind fun a => if nolA a then .ok a else .bad
  | _ => f ρ
@[simp] def tLend (i : Nat) (f : Sl → Res Bool) (ρ : Sl) : Res Bool := match ρ[i]? with
  | some (.o ds) => (f (ρ.set i (.v (.lst ds)))).nx
  | _ => f ρ
@[simp] theorem nx_ok {α : Type} (a : α) : (Res.ok a).nx = .ok a := rfl
/-- the list of slot i is shared, and at which place it stands -/
theorem Rel.freezeP {K : Frg} {mg : Mg} {hx : Hx} {b : Bs} {S H : Hp} {ρ : Sl} {σ : L2.St} (R : Rel K mg hx b S ρ σ H) {i : Nat} {ds : List D} (e : ρ[i]? = some (.o ds)) : ∃ p vs, H p = some (.lst vs) ∧ S p = none ∧ Rel K mg hx b (upd S p (.lst vs)) (ρ.set i (.v (.lst ds))) σ H := by
  obtain ⟨p, vs, q1, q2, q3, q4, q5⟩ := R.own i ds e
  have up : Same S (upd S p (.lst vs)) := same_new q3
  refine ⟨p, vs, q2, q3, R.s0.trans up, fun a o h => ?_, R.h0, fun a h e' => ?_, by simp [R.len], fun j d' e' => ?_, fun j es' e' => ?_, fun j c fs e' => ?_, fun j k ds1 es1 q ne e1 e2 e3 e4 => ?_⟩
  · by_cases z : a = p
    · subst z; rw [upd_same] at h; cases h; exact q2
    · rw [upd_ne z] at h; exact R.sh a o h
  · rw [upd_ne (fun z => by rw [z] at h; exact h q4)]
    exact R.nw a h e'
  · rcases getset e' with ⟨rfl, h2, _⟩ | ⟨h1, h2⟩
    · cases h2
      exact ⟨_, q1, .lst upd_same (q5.up up ds vs)⟩
    · obtain ⟨v', h3, h4⟩ := R.val j d' h2
      exact ⟨v', h3, h4.up up _ _⟩
  · rcases getset e' with ⟨_, h2, _⟩ | ⟨h1, h2⟩
    · cases h2
    · obtain ⟨p2, vs2, h3, h4, h5, h6, h7⟩ := R.own j es' h2
      refine ⟨p2, vs2, h3, h4, ?_, h6, h7.up up _ _⟩
      rw [upd_ne (fun z => by subst z; exact R.apart i j ds es' p2 h1 e h2 q1 h3)]
      exact h5
  · rcases getset e' with ⟨_, h2, _⟩ | ⟨h1, h2⟩
    · cases h2
    · obtain ⟨a, C, dx, z1, z2, z3, z4⟩ := R.xc j c fs h2
      exact ⟨a, C, dx, z1, z2, z3, z4.keep up fun _ _ z => z⟩
  · rcases getset e1 with ⟨_, h2, _⟩ | ⟨h1, h2⟩
    · cases h2
    · rcases getset e2 with ⟨_, h4, _⟩ | ⟨h3, h4⟩
      · cases h4
      · exact R.apart j k ds1 es1 q ne h2 h4 e3 e4
theorem lend_imp {α β : Type} {K : Frg} {mg : Mg} {hx : Hx} {RX : RR α β} {W : WX} {i : Nat} {f f' : Sl → Res β} {σ : L2.St} {H : Hp} {Q : α → Hp → Prop} (ok : β → Prop)
    (e0 : ∀ ρ, (∀ ds, ρ[i]? ≠ some (.o ds)) → f' ρ = f ρ) (e1 : ∀ ρ ds, ρ[i]? = some (.o ds) → f' ρ = .bad ∨ ∃ a, f (ρ.set i (.v (.lst ds))) = .ok a ∧ ok a ∧ f' ρ = .ok a)
    (hr : ∀ S S2 H2 p vs v a, S p = none → H p = some (.lst vs) → Gr (upd S p (.lst vs)) H S2 H2 → ok a → RX H S2 H2 v a → RX H (less S2 p) H2 v a) (h : tG K mg hx RX W f' σ H Q) : tG K mg hx RX W f σ H Q := by
  obtain ⟨b, S, ρ, R, q⟩ := h
  by_cases hc : ∃ ds, ρ[i]? = some (.o ds)
  · obtain ⟨ds, e⟩ := hc
    obtain ⟨p, vs, k1, k2, R'⟩ := R.freezeP e
    refine ⟨b, _, _, R', ?_⟩
    rcases e1 ρ ds e with z | ⟨a, z1, z2, z3⟩
    · rw [z] at q; exact q.elim
    · rw [z1]
      rw [z3] at q
      intro v S2 H2 g r
      exact q v (less S2 p) H2 (g.less k2 (by rw [k1]; simp)) (hr S S2 H2 p vs v a k2 k1 g z2 r)
  · exact ⟨b, S, ρ, R, by rw [← e0 ρ fun ds e => hc ⟨ds, e⟩]; exact q⟩
section
variable {X : Cx} {hx : Hx} {W : WX} {e : Expr}
theorem nxb {α : Type} {ok : α → Bool} {r : Res α} : (r.nx.bind fun a => if ok a then .ok a else .bad) = .bad ∨ ∃ a, r = .ok a ∧ ok a = true ∧ (r.nx.bind fun a => if ok a then Res.ok a else .bad) = .ok a := by
  cases r with
  | ok a =>
    cases h : ok a with
    | true => exact .inr ⟨a, rfl, h, by simp [h]⟩
    | false => exact .inl (by simp [h])
  | exc _ _ => exact .inl rfl
  | bad => exact .inl rfl
theorem me_lend (i : Nat) {f : Sl → Res D} (h : ME X hx W e f) : ME X hx W e (sLend i f) := pe_imp h fun σ H Q q => lend_imp (i := i) (f' := sLend i f) (fun d => nol d = true)
  (fun ρ hn => by
    unfold sLend
    split
    · rename_i ds e; exact absurd e (hn ds)
    · rfl)
  (fun ρ ds e => by
    have e2 : sLend i f ρ = (f (ρ.set i (.v (.lst ds)))).nx.bind fun a => if nol a then .ok a else .bad := by unfold sLend; rw [e]
    rw [e2]
    exact nxb)
  (fun S S2 H2 p vs v a k2 k1 g n r => Rp.less (g.s _ _ upd_same) a v n r) q
theorem mf_lend (i : Nat) {f : Sl → Res (List D)} (h : MF X hx W e f) : MF X hx W e (fLend i f) := pe_imp h fun σ H Q q => lend_imp (i := i) (f' := fLend i f) (fun d => nolA d = true)
  (fun ρ hn => by
    unfold fLend
    split
    · rename_i ds e; exact absurd e (hn ds)
    · rfl)
  (fun ρ ds e => by
    have e2 : fLend i f ρ = (f (ρ.set i (.v (.lst ds)))).nx.bind fun a => if nolA a then .ok a else .bad := by unfold fLend; rw [e]
    rw [e2]
    exact nxb)
  (fun S S2 H2 p vs v a k2 k1 g n ⟨p', ws, h1, h2, h3, h4, h5⟩ => ⟨p', ws, h1, h2, by
    by_cases z : p' = p
    · rw [z]; exact less_self
    · rw [less_ne z]; exact h3, h4, RpA.less (g.s _ _ upd_same) a ws n h5⟩) q
theorem mt_lend (i : Nat) {f : Sl → Res Bool} (h : MT X hx W e f) : MT X hx W e (tLend i f) := pt_imp h fun σ H Q q => lend_imp (i := i) (f' := tLend i f) (fun _ => True)
  (fun ρ hn => by
    unfold tLend
    split
    · rename_i ds e; exact absurd e (hn ds)
    · rfl)
  (fun ρ ds e => by
    have e2 : tLend i f ρ = (f (ρ.set i (.v (.lst ds)))).nx := by unfold tLend; rw [e]
    rw [e2]
    cases f (ρ.set i (.v (.lst ds))) with
    | ok a => exact .inr ⟨a, rfl, trivial, rfl⟩
    | exc _ _ => exact .inl rfl
    | bad => exact .inl rfl)
  (fun S S2 H2 p vs v a k2 k1 g n r => r) q
/-- x = [.. for .. in ..] with a list lent -/
theorem ms_setLcL (j i : Nat) {y : Str} {py : Pos} {elt tg iter : Expr} {ifs : List Expr} {scope : Scope} {own : List (Str × Nat)} {pos spos : Pos} {items : Sl → Res (List D)} {is : List Nat} {g : FG} {t : Sl → Res Bool} {f : Sl → Res D} (hc : X.calm = true) (hN : X.N.Nodup)
    (hsw : swapsWith (.ListComp elt [⟨tg, iter, ifs, 0⟩] scope pos) (some (.Name y py)) spos.line X.env = pure true) (hi : MI X hx W tg iter items) (ok : BlkOk X.N X.env.scope scope own)
    (hg : ∀ (s : Shared) (H : Hp) (C : Addr) (cl : List (Str × Addr)) (fp : List Addr), MG (X.blk s H scope (compEnvC scope cl C X.env) fp) hx tg is g) (ht : ∀ (s : Shared) (H : Hp) (C : Addr) (cl : List (Str × Addr)) (fp : List Addr), MTs (X.blk s H scope (compEnvC scope cl C X.env) fp) hx W0 ifs t)
    (he : ∀ (s : Shared) (H : Hp) (C : Addr) (cl : List (Str × Addr)) (fp : List Addr), ME (X.blk s H scope (compEnvC scope cl C X.env) fp) hx W0 elt f) (hy : X.N[i]? = some y := by rfl) (hyl : X.env.scope.names.lookup y = some .local := by rfl) (his : (is.all fun i => (own.map (·.2)).contains i) = true := by decide) (hs : ∀ x, foldedSetIterable iter X.env x = pure x := by intro _; rfl) :
    MS X hx W (.Assign [.Name y py] (.ListComp elt [⟨tg, iter, ifs, 0⟩] scope pos) spos) (gSetO i (fLend j (fLc items g t f (own.map (·.2))))) :=
  ps_imp (ps_setLc hc hN hy hyl hsw hi ok hg ht he hs) fun D σ H ⟨b, S, ρ, R, q⟩ => lc_ok (ts := fun _ _ _ => True) (fun i hi => by
    have h1 := List.all_eq_true.mp his i hi
    simpa using h1) σ H _ (lend_imp (i := j) (f' := fLend j (fLc items g t f (own.map (·.2)))) (fun d => nolA d = true)
  (fun ρ hn => by
    unfold fLend
    split
    · rename_i ds e; exact absurd e (hn ds)
    · rfl)
  (fun ρ ds e => by
    have e2 : fLend j (fLc items g t f (own.map (·.2))) ρ = (fLc items g t f (own.map (·.2)) (ρ.set j (.v (.lst ds)))).nx.bind fun a => if nolA a then .ok a else .bad := by unfold fLend; rw [e]
    rw [e2]
    exact nxb)
  (fun S S2 H2 p vs v a k2 k1 g n ⟨p', ws, h1, h2, h3, h4, h5⟩ => ⟨p', ws, h1, h2, by
    by_cases z : p' = p
    · rw [z]; exact less_self
    · rw [less_ne z]; exact h3, h4, RpA.less (g.s _ _ upd_same) a ws n h5⟩) ⟨b, S, ρ, R, rS_po R q fun d v S1 H1 g1 ⟨p, vs, h1, h2, h3, h4, h5⟩ k => by
      subst h1
      exact k S1 _ H1 g1.s (R.putN g1 h2 h3 h4 h5)⟩)
end
/-! ### more of lists -/
@[simp] def gClr (i : Nat) (ρ : Sl) : Out := match ρ[i]? with
  | some (.o _) => .nx (ρ.set i (.o []))
  | _ => .bad
@[simp] def gExt (i : Nat) (f : Sl → Res (List D)) (ρ : Sl) : Out := match ρ[i]? with
  | some (.o ds) => rS (f ρ) ρ fun es => if ds.length + es.length ≤ 16777216 then .nx (ρ.set i (.o (ds ++ es))) else .bad
  | _ => .bad
section
variable {X : Cx} {hx : Hx} {W : WX} {e : Expr} {pos : Pos}
theorem ms_clr (i : Nat) {x : Str} {p ap ep : Pos} (hv : PE X (.Name x p) (tVar i)) (hs : swapsWith (.Call (.Attribute (.Name x p) "clear" ap) [] [] ep) none pos.line X.env = pure false := by rfl)
    (h : PE X (.Call (.Attribute (.Name x p) "clear" ap) [] [] ep) (tBM0 X.K "list" rClear (tVar i)) := by
      exact pe_bm0 PySem.F.plainAttrs_list PySem.F.slot_list_clear PySem.F.type_list_clear mt_clear (pv _)) :
    MS X hx W (.Expr (.Call (.Attribute (.Name x p) "clear" ap) [] [] ep) pos) (gClr i) := ps_imp (ps_expr h hs) fun D σ H ⟨b, S, ρ, R, q⟩ => by
  unfold gClr at q
  split at q
  · rename_i ds e1
    obtain ⟨p, vs, h1, h2, h3, h4, h5⟩ := R.own i ds e1
    refine ⟨_, h1, .inl ⟨rfl, _, SqL.of h2⟩, ?_⟩
    exact ⟨p, vs, rfl, rfl, h2, q S σ _ (Same.refl _) (R.mut e1 h1 .nil)⟩
  · exact q.elim
theorem ms_ext (i : Nat) {x : Str} {p ap ep : Pos} {f : Sl → Res (List D)} (hv : PE X (.Name x p) (tVar i)) (he : MF X hx W e f) (hs : swapsWith (.Call (.Attribute (.Name x p) "extend" ap) [e] [] ep) none pos.line X.env = pure false := by rfl)
    (h : ∀ {t}, PE X e t → PE X (.Call (.Attribute (.Name x p) "extend" ap) [e] [] ep) (tBM X.K "list" rExtend (tVar i) (tCons t tNil)) := by
      intro t ht; exact pe_bm PySem.F.plainAttrs_list PySem.F.slot_list_extend PySem.F.type_list_extend mt_extend (pv _) (pa_cons ht pa_nil)) :
    MS X hx W (.Expr (.Call (.Attribute (.Name x p) "extend" ap) [e] [] ep) pos) (gExt i f) := ps_imp (ps_expr (h he) hs) fun D σ H ⟨b, S, ρ, R, q⟩ => by
  unfold gExt at q
  split at q
  · rename_i ds e1
    obtain ⟨p, vs, h1, h2, h3, h4, h5⟩ := R.own i ds e1
    refine ⟨_, h1, .inl ⟨rfl, _, SqL.of h2⟩, b, S, ρ, R, rS_po R q fun d v S1 H1 g1 ⟨p', ws, r1, r2, r3, r4, r5⟩ k => ?_⟩
    subst r1
    split at k
    · rename_i hl
      refine ⟨p, p', vs, ws, rfl, rfl, g1.h _ _ h2, r4, sizeLine16 (by rw [h5.len, r5.len]; exact hl), ?_⟩
      exact k S1 σ _ g1.s ((R.grow g1).mut e1 h1 ((h5.up g1.s _ _).app r5))
    · exact k.elim
  · exact q.elim
/-- xs[::-1] -/
@[simp] def fRev (f : Sl → Res D) (ρ : Sl) : Res (List D) := (f ρ).bind fun d => match seqOf d with
  | some xs => .ok xs.reverse
  | none => .bad
theorem mf_rev {f : Sl → Res D} {k : Nat} {p1 p2 p3 : Pos} (he : MR X hx W e f) : MF X hx W (.Subscript e (.Slice none none (some (.UnaryOp .USub (.Constant (.int 1) k p1) p2)) p3) pos) (fRev f) :=
  pe_imp (pe_revL he) fun σ H Q ⟨b, S, ρ, R, q⟩ => ⟨b, S, ρ, R, q.bind fun d v S1 H1 g1 r1 k => by
    split at k
    · rename_i xs e1
      obtain ⟨p, vs, rfl, h1, h2⟩ := r1.seq g1.i e1
      exact ⟨p, vs, rfl, h1, po_newL g1.i h2.rev (Po.upF g1 k)⟩
    · exact k.elim⟩
/-- a, b, c = e1, e2, e3 (local names) -/
@[simp] def gPar3 (i j l : Nat) (f g h : Sl → Res D) (ρ : Sl) : Out := rS (f ρ) ρ fun c => rS (g ρ) ρ fun d => rS (h ρ) ρ fun e => .nx (((ρ.set i (.v c)).set j (.v d)).set l (.v e))
theorem ms_par3 (i j l : Nat) {x y z : Str} {a b c : Expr} {f g h : Sl → Res D} {px py pz pt : Pos} {kt k2 pt2} (hc : X.calm = true) (hN : X.N.Nodup) (ha : ME X hx W a f) (hb : ME X hx W b g) (hcc : ME X hx W c h) (hi : X.N[i]? = some x := by rfl) (hj : X.N[j]? = some y := by rfl) (hl : X.N[l]? = some z := by rfl) (hij : i ≠ j := by decide) (hil : i ≠ l := by decide) (hjl : j ≠ l := by decide)
    (hx' : X.env.scope.names.lookup x = some .local := by rfl) (hy : X.env.scope.names.lookup y = some .local := by rfl) (hz : X.env.scope.names.lookup z = some .local := by rfl)
    (s1 : starEach [a, b, c] X.env = (false, eval a X.env) :: starEach [b, c] X.env := by rfl) (s2 : starEach [b, c] X.env = (false, eval b X.env) :: starEach [c] X.env := by rfl) (s3 : starEach [c] X.env = (false, eval c X.env) :: starEach [] X.env := by rfl)
    (hw : swappedStores [.Tuple [.Name x px, .Name y py, .Name z pz] kt pt] (.Tuple [a, b, c] k2 pt2) X.env = pure (some [x, y, z]) := by rfl)
    (hs : swapsWithSole [.Tuple [.Name x px, .Name y py, .Name z pz] kt pt] (.Tuple [a, b, c] k2 pt2) pos.line X.env = pure false := by rfl) :
    MS X hx W (.Assign [.Tuple [.Name x px, .Name y py, .Name z pz] kt pt] (.Tuple [a, b, c] k2 pt2) pos) (gPar3 i j l f g h) :=
  ps_imp (ps_par3 hc hN hi hj hl hij hil hjl hx' hy hz (pa_cons ha (pa_cons hb (pa_cons hcc pa_nil s3) s2) s1) hw hs) fun D σ H ⟨b, S, ρ, R, q⟩ =>
    ⟨b, S, ρ, R, rS_po R q fun d v S1 H1 g1 r1 k => ⟨b, S1, ρ, R.grow g1, rS_po (R.grow g1) (PoS.up g1.s k) fun d2 v2 S2 H2 g2 r2 k2 => ⟨b, S2, ρ, (R.grow g1).grow g2, rS_po ((R.grow g1).grow g2) (PoS.up g2.s k2) fun d3 v3 S3 H3 g3 r3 k3 =>
      ⟨v, v2, v3, rfl, k3 S3 _ H3 g3.s ((((((R.grow g1).grow g2).grow g3).put (r1.up (g2.s.trans g3.s) _ _)).put (r2.up g3.s _ _)).put r3)⟩⟩⟩⟩
/-- x = [.. for .. in ..], a shared list -/
theorem ms_setLcV (i : Nat) {y : Str} {py : Pos} {elt tg iter : Expr} {ifs : List Expr} {scope : Scope} {own : List (Str × Nat)} {spos : Pos} {items : Sl → Res (List D)} {is : List Nat} {g : FG} {t : Sl → Res Bool} {f : Sl → Res D} (hc : X.calm = true) (hN : X.N.Nodup)
    (hsw : swapsWith (.ListComp elt [⟨tg, iter, ifs, 0⟩] scope pos) (some (.Name y py)) spos.line X.env = pure true) (hi : MI X hx W tg iter items) (ok : BlkOk X.N X.env.scope scope own)
    (hg : ∀ (s : Shared) (H : Hp) (C : Addr) (cl : List (Str × Addr)) (fp : List Addr), MG (X.blk s H scope (compEnvC scope cl C X.env) fp) hx tg is g) (ht : ∀ (s : Shared) (H : Hp) (C : Addr) (cl : List (Str × Addr)) (fp : List Addr), MTs (X.blk s H scope (compEnvC scope cl C X.env) fp) hx W0 ifs t)
    (he : ∀ (s : Shared) (H : Hp) (C : Addr) (cl : List (Str × Addr)) (fp : List Addr), ME (X.blk s H scope (compEnvC scope cl C X.env) fp) hx W0 elt f) (hy : X.N[i]? = some y := by rfl) (hyl : X.env.scope.names.lookup y = some .local := by rfl) (his : (is.all fun i => (own.map (·.2)).contains i) = true := by decide) (hs : ∀ x, foldedSetIterable iter X.env x = pure x := by intro _; rfl) :
    MS X hx W (.Assign [.Name y py] (.ListComp elt [⟨tg, iter, ifs, 0⟩] scope pos) spos) (gSet i (sLst (fLc items g t f (own.map (·.2))))) :=
  ps_imp (ps_setLc hc hN hy hyl hsw hi ok hg ht he hs) fun D σ H ⟨b, S, ρ, R, q⟩ => lc_ok (ts := fun _ _ _ => True) (fun i hi => by
    have h1 := List.all_eq_true.mp his i hi
    simpa using h1) σ H _ ⟨b, S, ρ, R, by
      unfold gSet sLst at q
      cases ef : fLc items g t f (own.map (·.2)) ρ with
      | exc y ys => rw [ef] at q; exact fun S' H' C dx g q1 q2 => q S' σ H' C dx g.s (R.grow g) q1 q2
      | bad => rw [ef] at q; exact q.elim
      | ok ds =>
        rw [ef] at q
        intro v S1 H1 g1 ⟨p, vs, h1, h2, h3, h4, h5⟩
        subst h1
        have up : Same S1 (upd S1 p (.lst vs)) := same_new h3
        have g2 : Gr S H (upd S1 p (.lst vs)) H1 := ⟨g1.s.trans up, g1.h, fun a o q => by
          by_cases z : a = p
          · subst z; rw [upd_same] at q; cases q; exact h4
          · rw [upd_ne z] at q; exact g1.i a o q, fun a ha q => by
          rw [upd_ne (fun z => ha (by rw [z]; exact h2))]; exact g1.n a ha q⟩
        exact q _ _ H1 g2.s ((R.grow g2).put (.lst upd_same (h5.up up _ _)))⟩
/-- f(), no argument -/
theorem pe_call0S {k : Nat} {f : Addr} {fd : FuncData} {ps : List Str} {sp : Sp} {x : Str} {p : Pos} {CX : CXT} {E : L2.St → XK} (F : FnOk X.prog X.w X.K X.mg X.base CX k f fd ps sp) (hr : Room k X.A) (hg : Gl X x) (hm : X.mg x = some (.ref f)) (hk : PySem.W.keepIn X.K (.ref f) = true) (hb : Binds X.K fd ps []) (hp : ∀ σ, PassesAt CX X σ (E σ))
    (hdb : (x == ("__debug__" : Str)) = false := by decide) : PE X (.Call (.Name x p) [] [] pos) (tCallS sp E tNil) := by
  refine ⟨fun pins s σ H Q I h => ?_⟩
  refine wpAny_Call_Name_kw (ld_glob I hg hm ?_ hdb)
  exact PySem.W.callWith_K0 I.kIn hk (run_fnS (us := []) F hr hb (hp σ) I .nil h)
theorem me_cal0 {k : Nat} {f : Addr} {fd : FuncData} {ps : List Str} {g : List D → Res D} {x : Str} {p : Pos} (G : Df X.prog X.w X.K X.mg X.base x k f fd ps g) (hr : Room k X.A) (cw : Cw X W) (hn : ps = []) (hg : Gl X x := by rfl) (hdb : (x == ("__debug__" : Str)) = false := by decide) : ME X hx W (.Call (.Name x p) [] [] pos) (sCall g aNil) :=
  pe_imp (pe_call0S G.ok hr hg G.mg G.kp G.bi cw hdb) fun σ H Q ⟨b, S, ρ, R, q⟩ => by
    have z := call_imp (fs := aNil) G (fun ρ ds h => by rw [hn]; exact len_nil h) R (Po.freeze (Q := Q) (by unfold sCall at q; rw [bind_bind] at q; exact q))
    exact (show tCallS (spF X.K X.mg ps.length g) (WE W) tNil σ H Q from z [] S H (Gr.refl R.sh) .nil)
theorem mf_cal0 {k : Nat} {f : Addr} {fd : FuncData} {ps : List Str} {g : List D → Res D} {x : Str} {p : Pos} (G : Df X.prog X.w X.K X.mg X.base x k f fd ps g) (hr : Room k X.A) (cw : Cw X W) (hn : ps = []) (hg : Gl X x := by rfl) (hdb : (x == ("__debug__" : Str)) = false := by decide) : MF X hx W (.Call (.Name x p) [] [] pos) (fCall g aNil) :=
  pe_imp (pe_call0S G.ok hr hg G.mg G.kp G.bi cw hdb) fun σ H Q ⟨b, S, ρ, R, q⟩ => by
    have z := call_imp (fs := aNil) G (fun ρ ds h => by rw [hn]; exact len_nil h) R (Po.unfr (Q := Q) (by unfold fCall at q; rw [bind_bind] at q; exact q))
    exact (show tCallS (spF X.K X.mg ps.length g) (WE W) tNil σ H Q from z [] S H (Gr.refl R.sh) .nil)
end
/-! ### is True, is not False -/
@[simp] def oIsB (d e : D) : Res D := match d, e with
  | .bl a, .bl b => .ok (.bl (decide (a = b)))
  | _, _ => .bad
@[simp] def oNotB (d e : D) : Res D := match d, e with
  | .bl a, .bl b => .ok (.bl (!decide (a = b)))
  | _, _ => .bad
theorem o_isB {K : Frg} {mg : Mg} : O2 K mg rIsB oIsB := fun S σ H x y d e W Q i hx hy q => by
  unfold oIsB at q
  split at q
  · exact ⟨_, _, hx.bl, hy.bl, q _ _ _ (Gr.refl i) (.bl _)⟩
  · exact q.elim
theorem o_notB {K : Frg} {mg : Mg} : O2 K mg rNotB oNotB := fun S σ H x y d e W Q i hx hy q => by
  unfold oNotB at q
  split at q
  · exact ⟨_, _, hx.bl, hy.bl, q _ _ _ (Gr.refl i) (.bl _)⟩
  · exact q.elim
end PF

set_option Elab.async false
set_option linter.all false
set_option maxRecDepth 100000
set_option maxHeartbeats 4000000
/-! Texts: chains of comparisons, one sign in a text, str and int of each other, f-strings, partition, split, replace, repeated texts; constants of the module. -/
namespace PF
open PySem PySem.Spec L2 PyProof.Rows
section
variable {X : Cx} {hx : Hx} {W : WX} {a b c e : Expr} {pos : Pos} {fa fb fc : Sl → Res D}
/-! ### chains -/
@[simp] def sChn (o o' : D → D → Res D) (f g h : Sl → Res D) (ρ : Sl) : Res D := (f ρ).bind fun x => (g ρ).bind fun y => (o x y).bind fun z => (tBl z).bind fun k => if k then (h ρ).bind fun w => o' y w else .ok (.bl false)
theorem chn_seq {r r' : R2} {o o' : D → D → Res D} (hr : O2 X.K X.mg r o) (hr' : O2 X.K X.mg r' o') : ∀ σ H Q, tG X.K X.mg hx (rrE X.K X.mg) W (sChn o o' fa fb fc) σ H Q → tChain r r' (tG X.K X.mg hx (rrR X.K X.mg) W fa) (tG X.K X.mg hx (rrR X.K X.mg) W fb) (tG X.K X.mg hx (rrR X.K X.mg) W fc) σ H Q := fun σ H Q ⟨b, S, ρ, R, q⟩ =>
  ⟨b, S, ρ, R, q.bind fun d v S1 H1 g1 r1 k => ⟨b, S1, ρ, R.grow g1, (k.upE g1).bind fun d2 v2 S2 H2 g2 r2 k2 => hr S2 σ H2 v v2 d d2 W _ g2.i (r1.up g2) r2 ((k2.upE g2).bind fun d3 v3 S3 H3 g3 r3 k3 => by
    cases r3 with
    | @bl c =>
      refine ⟨c, rfl, ?_⟩
      cases c with
      | false => exact k3 _ S3 H3 g3 (.bl _)
      | true =>
        have k4 : Po X.K X.mg (rrE X.K X.mg) W S2 σ H2 ((fc ρ).bind fun w => o' d2 w) Q := k3
        exact ⟨b, S3, ρ, ((R.grow g1).grow g2).grow g3, (k4.upE g3).bind fun d5 v5 S5 H5 g5 r5 k5 => hr' S5 σ H5 v2 v5 d2 d5 W Q g5.i (r2.up (g3.trans g5)) r5 (k5.upE g5)⟩
    | _ => exact k3.elim)⟩⟩
theorem me_chn {op op' : CmpOp} {r r' : R2} {o o' : D → D → Res D} (ho : OpR X (compareOp op) r) (hr : O2 X.K X.mg r o) (ho' : OpR X (compareOp op') r') (hr' : O2 X.K X.mg r' o') (ha : MR X hx W a fa) (hb : MR X hx W b fb) (hc : MR X hx W c fc) (hm : lastMarks [op, op'] [b, c] = false := by with_unfolding_all rfl) :
    ME X hx W (.Compare a [op, op'] [b, c] pos) (sChn o o' fa fb fc) := pe_imp (pe_chain ho ho' ha hb hc hm) (chn_seq hr hr')
theorem mt_chn {op op' : CmpOp} {r r' : R2} {o o' : D → D → Res D} (ho : OpR X (compareOp op) r) (hr : O2 X.K X.mg r o) (ho' : OpR X (compareOp op') r') (hr' : O2 X.K X.mg r' o') (ha : MR X hx W a fa) (hb : MR X hx W b fb) (hc : MR X hx W c fc) (hm : lastMarks [op, op'] [b, c] = false := by with_unfolding_all rfl) :
    MT X hx W (.Compare a [op, op'] [b, c] pos) (sTest (sChn o o' fa fb fc)) :=
  pt_imp (pt_chain ho ho' ha hb hc hm) fun σ H Q ⟨b, S, ρ, R, q⟩ => chn_seq hr hr' σ H _ ⟨b, S, ρ, R, q.bind fun d v S1 H1 g1 r1 k => by
    cases r1 <;> first | exact k.elim | skip
    rename_i c
    exact ⟨c, rfl, k c S1 H1 g1 rfl⟩⟩
/-! ### one sign in a text -/
@[simp] def oInS (d e : D) : Res D := match d, e with
  | .str x, .str y => (match x.cps.toList with
    | [c] => .ok (.bl (decide (c ∈ y.cps.toList)))
    | _ => .bad)
  | _, _ => .bad
@[simp] def oNinS (d e : D) : Res D := match d, e with
  | .str x, .str y => (match x.cps.toList with
    | [c] => .ok (.bl (!decide (c ∈ y.cps.toList)))
    | _ => .bad)
  | _, _ => .bad
theorem one_of {x : Str} {c : Nat} (h : x.cps.toList = [c]) : x = ⟨#[c]⟩ := by
  cases x with
  | mk a =>
    have : a = #[c] := Array.toList_inj.mp (by simpa using h)
    rw [this]
theorem o_inS {K : Frg} {mg : Mg} : O2 K mg (fun x y H Q => ∃ (c : Nat) (z : Str), x = .str ⟨#[c]⟩ ∧ y = .str z ∧ Q (.bl (decide (c ∈ z.cps.toList))) H) oInS := fun S σ H x y d e W Q i hx hy q => by
  unfold oInS at q
  split at q
  · split at q
    · rename_i c hc
      refine ⟨c, _, ?_, hy.str, q _ _ _ (Gr.refl i) (.bl _)⟩
      rw [hx.str, one_of hc]
    · exact q.elim
  · exact q.elim
theorem o_ninS {K : Frg} {mg : Mg} : O2 K mg (fun x y H Q => ∃ (c : Nat) (z : Str), x = .str ⟨#[c]⟩ ∧ y = .str z ∧ Q (.bl (!decide (c ∈ z.cps.toList))) H) oNinS := fun S σ H x y d e W Q i hx hy q => by
  unfold oNinS at q
  split at q
  · split at q
    · rename_i c hc
      refine ⟨c, _, ?_, hy.str, q _ _ _ (Gr.refl i) (.bl _)⟩
      rw [hx.str, one_of hc]
    · exact q.elim
  · exact q.elim
/-! ### str, int -/
def strI (i : Int) : Str := Str.ofString (toString i)
noncomputable def fitS (i : Int) : Bool := cb (i.natAbs.log2 < 1920)
@[simp] noncomputable def bStr (d : D) : Res D := match d with
  | .int i => if fitS i then .ok (.str (strI i)) else .bad
  | .str x => .ok (.str x)
  | _ => .bad
theorem call_strU : CallR X (.type "str") (fun xs H Q => (∃ i, xs = [.int i] ∧ i.natAbs.log2 < 1920 ∧ Q (.str (toString i)) H) ∨ ∃ a, xs = [.str a] ∧ Q (.str a) H) := call_str_int.or SkE.call_str_str
theorem b_str {K : Frg} {mg : Mg} : U1 K mg (fun v => (fun xs H Q => (∃ i, xs = [V.int i] ∧ i.natAbs.log2 < 1920 ∧ Q (V.str (toString i)) H) ∨ ∃ a, xs = [V.str a] ∧ Q (V.str a) H : List V → Hp → VK → Prop) [v]) bStr := fun S σ H v d W Q i hx q => by
  unfold bStr at q
  split at q
  · split at q
    · rename_i hc
      rw [hx.int]
      exact .inl ⟨_, rfl, of_cb hc, q _ _ _ (Gr.refl i) (.str _)⟩
    · exact q.elim
  · rw [hx.str]; exact .inr ⟨_, rfl, q _ _ _ (Gr.refl i) (.str _)⟩
  · exact q.elim
@[simp] def bIntT (d : D) : Res D := match d with
  | .int i => .ok (.int i)
  | .bl b => .ok (.int (if b then 1 else 0))
  | .str x => (match intText? x with
    | some n => if x.length ≤ 640 then .ok (.int n) else .bad
    | none => .bad)
  | _ => .bad
theorem call_intT : CallR X (.type "int") (fun xs H Q => ((∃ i, xs = [.int i] ∧ Q (.int i) H) ∨ ∃ k, xs = [.bl k] ∧ Q (.int (if k then 1 else 0)) H) ∨ ∃ a n, xs = [.str a] ∧ PySem.intText? a = some n ∧ a.length ≤ 640 ∧ Q (.int n) H) := call_int1.or call_int_str
theorem b_intT {K : Frg} {mg : Mg} : U1 K mg (fun v => (fun xs H Q => ((∃ i, xs = [V.int i] ∧ Q (V.int i) H) ∨ ∃ k, xs = [V.bl k] ∧ Q (V.int (if k then 1 else 0)) H) ∨ ∃ a n, xs = [V.str a] ∧ PySem.intText? a = some n ∧ a.length ≤ 640 ∧ Q (V.int n) H : List V → Hp → VK → Prop) [v]) bIntT := fun S σ H v d W Q i hx q => by
  unfold bIntT at q
  split at q
  · rw [hx.int]; exact .inl (.inl ⟨_, rfl, q _ _ _ (Gr.refl i) (.int _)⟩)
  · rw [hx.bl]; exact .inl (.inr ⟨_, rfl, q _ _ _ (Gr.refl i) (.int _)⟩)
  · split at q
    · rename_i n hn
      split at q
      · rename_i hl
        rw [hx.str]; exact .inr ⟨_, n, rfl, hn, hl, q _ _ _ (Gr.refl i) (.int _)⟩
      · exact q.elim
    · exact q.elim
  · exact q.elim
/-! ### f-strings -/
@[simp] noncomputable def fmtD (d : D) : Res D := match d with
  | .int i => if fitS i then .ok (.str (strI i)) else .bad
  | .str x => if x.length ≤ 16777216 then .ok (.str x) else .bad
  | _ => .bad
theorem me_fmt (he : MR X hx W e fa) : ME X hx W (.FormattedValue e (-1) none pos) (sUn fmtD fa) := pe_imp (pe_fmt he) fun σ H Q ⟨b, S, ρ, R, q⟩ => ⟨b, S, ρ, R, q.bind fun d v S1 H1 g1 r1 k => by
  unfold fmtD at k
  split at k
  · split at k
    · rename_i hc
      exact .inr ⟨_, r1.int, of_cb hc, k _ S1 H1 g1 (.str _)⟩
    · exact k.elim
  · split at k
    · rename_i hl
      exact .inl ⟨_, r1.str, sizeLine16 hl, k _ S1 H1 g1 (.str _)⟩
    · exact k.elim
  · exact k.elim⟩
@[simp] def sJn : List (Sl → Res D) → Str → Sl → Res D
  | [], acc, _ => .ok (.str acc)
  | f :: fs, acc, ρ => (f ρ).bind fun d => match d with
    | .str y => if (acc ++ y).length ≤ 16777216 then sJn fs (acc ++ y) ρ else .bad
    | _ => .bad
theorem jn_seq {b : Bs} {ρ : Sl} {σ : L2.St} {Q : VK} : ∀ (fs : List (Sl → Res D)) (acc : Str) (S H : Hp), Rel X.K X.mg hx b S ρ σ H → Po X.K X.mg (rrE X.K X.mg) W S σ H (sJn fs acc ρ) Q → tJs (fs.map fun f => tG X.K X.mg hx (rrE X.K X.mg) W f) acc σ H fun out H1 => Q (.str out) H1
  | [], acc, S, H, R, q => q _ S H (Gr.refl R.sh) (.str _)
  | f :: fs, acc, S, H, R, q => ⟨b, S, ρ, R, q.bind fun d v S1 H1 g1 r1 k => by
    cases r1 with
    | @str y =>
      have k2 : Po X.K X.mg (rrE X.K X.mg) W S σ H (if (acc ++ y).length ≤ 16777216 then sJn fs (acc ++ y) ρ else .bad) Q := k
      split at k2
      · rename_i hl
        exact ⟨y, rfl, sizeLine16 hl, jn_seq fs (acc ++ y) S1 H1 (R.grow g1) (k2.upE g1)⟩
      · exact k2.elim
    | _ => exact k.elim⟩
inductive MJ (X : Cx) (hx : Hx) (W : WX) : List Expr → List (Sl → Res D) → Prop where
  | nil : MJ X hx W [] []
  | cons {e : Expr} {f : Sl → Res D} {es : List Expr} {fs : List (Sl → Res D)} (h : ME X hx W e f) (r : MJ X hx W es fs) : MJ X hx W (e :: es) (f :: fs)
theorem mj_nil : MJ X hx W [] [] := .nil
theorem mj_cons {f : Sl → Res D} {es : List Expr} {fs : List (Sl → Res D)} (h : ME X hx W e f) (r : MJ X hx W es fs) : MJ X hx W (e :: es) (f :: fs) := .cons h r
theorem MJ.pj {es : List Expr} {fs : List (Sl → Res D)} (h : MJ X hx W es fs) : PJ X es (fs.map fun f => tG X.K X.mg hx (rrE X.K X.mg) W f) := by
  induction h with
  | nil => exact .nil
  | cons h _ ih => exact .cons h ih
theorem me_joined {v1 v2 : Expr} {rest : List Expr} {fs : List (Sl → Res D)} (h : MJ X hx W (v1 :: v2 :: rest) fs) : ME X hx W (.JoinedStr (v1 :: v2 :: rest) pos) (sJn fs Str.empty) :=
  pe_imp (pe_joined h.pj) fun σ H Q ⟨b, S, ρ, R, q⟩ => jn_seq fs Str.empty S H R q
/-! ### methods of texts -/
/-- x.m(y) of a text x -/
@[simp] def sM1 (g : Str → D → Res D) (f h : Sl → Res D) (ρ : Sl) : Res D := (f ρ).bind fun x => match x with
  | .str a => (h ρ).bind fun y => g a y
  | _ => .bad
@[simp] def fM1 (g : Str → D → Res (List D)) (f h : Sl → Res D) (ρ : Sl) : Res (List D) := (f ρ).bind fun x => match x with
  | .str a => (h ρ).bind fun y => g a y
  | _ => .bad
def O1S (K : Frg) (mg : Mg) (r : V → List V → Hp → VK → Prop) (g : Str → D → Res D) : Prop := ∀ S σ H (a : Str) w d W Q, Same S H → Rd1 K mg S H w d → Po K mg (rrE K mg) W S σ H (g a d) Q → r (.str a) [w] H Q
def O1F (K : Frg) (mg : Mg) (r : V → List V → Hp → VK → Prop) (g : Str → D → Res (List D)) : Prop := ∀ S σ H (a : Str) w d W Q, Same S H → Rd1 K mg S H w d → Po K mg (rrF K mg) W S σ H (g a d) Q → r (.str a) [w] H Q
theorem me_m1 {r : V → List V → Hp → VK → Prop} {g : Str → D → Res D} (hr : O1S X.K X.mg r g) (h : PE X e (tM1 r (tG X.K X.mg hx (rrR X.K X.mg) W fa) (tG X.K X.mg hx (rrR X.K X.mg) W fb))) : ME X hx W e (sM1 g fa fb) :=
  pe_imp h fun σ H Q ⟨b, S, ρ, R, q⟩ => ⟨b, S, ρ, R, q.bind fun d v S1 H1 g1 r1 k => by
    cases d with
    | str x =>
      have e1 : v = .str x := r1.str
      have k2 : Po X.K X.mg (rrE X.K X.mg) W S σ H ((fb ρ).bind fun y => g x y) Q := k
      exact ⟨⟨x, e1⟩, b, S1, ρ, R.grow g1, (k2.upE g1).bind fun d2 v2 S2 H2 g2 r2 k3 => by rw [e1]; exact hr S2 σ H2 x v2 d2 W Q g2.i r2 (k3.upE g2)⟩
    | _ => exact k.elim⟩
theorem mf_m1 {r : V → List V → Hp → VK → Prop} {g : Str → D → Res (List D)} (hr : O1F X.K X.mg r g) (h : PE X e (tM1 r (tG X.K X.mg hx (rrR X.K X.mg) W fa) (tG X.K X.mg hx (rrR X.K X.mg) W fb))) : MF X hx W e (fM1 g fa fb) :=
  pe_imp h fun σ H Q ⟨b, S, ρ, R, q⟩ => ⟨b, S, ρ, R, q.bind fun d v S1 H1 g1 r1 k => by
    cases d with
    | str x =>
      have e1 : v = .str x := r1.str
      have k2 : Po X.K X.mg (rrF X.K X.mg) W S σ H ((fb ρ).bind fun y => g x y) Q := k
      exact ⟨⟨x, e1⟩, b, S1, ρ, R.grow g1, (k2.upF g1).bind fun d2 v2 S2 H2 g2 r2 k3 => by rw [e1]; exact hr S2 σ H2 x v2 d2 W Q g2.i r2 (k3.upF g2)⟩
    | _ => exact k.elim⟩
@[simp] def mPart (x : Str) (d : D) : Res D := match d with
  | .str y => if (y.length == 0) = false ∧ x.length ≤ 16777216 then .ok (.tup [.str (Txt.partition x y).1, .str (Txt.partition x y).2.1, .str (Txt.partition x y).2.2]) else .bad
  | _ => .bad
theorem o_part {K : Frg} {mg : Mg} : O1S K mg (fun x xs H Q => ∃ a b, x = .str a ∧ xs = [.str b] ∧ (b.length == 0) = false ∧ a.length ≤ sizeLine ∧ ∀ p, H p = none → Q (.ref p) (upd H p (.tup [.str (Txt.partition a b).1, .str (Txt.partition a b).2.1, .str (Txt.partition a b).2.2]))) mPart := fun S σ H a w d W Q i hx q => by
  unfold mPart at q
  split at q
  · split at q
    · rename_i hc
      exact ⟨_, _, rfl, by rw [hx.str], hc.1, sizeLine16 hc.2, po_new i (.cons (.str _) (.cons (.str _) (.cons (.str _) .nil))) q⟩
    · exact q.elim
  · exact q.elim
@[simp] def mSplit (x : Str) (d : D) : Res (List D) := match d with
  | .str y => if (y.length == 0) = false ∧ x.length + 2 ≤ 16777216 then .ok ((Txt.split x y).map D.str) else .bad
  | _ => .bad
theorem rp_strs {K : Frg} {mg : Mg} {S : Hp} : ∀ ys : List Str, RpA K mg S (ys.map V.str) (ys.map D.str)
  | [] => .nil
  | y :: ys => .cons (.str _) (rp_strs ys)
theorem o_split {K : Frg} {mg : Mg} : O1F K mg (fun x xs H Q => ∃ a b, x = .str a ∧ xs = [.str b] ∧ (b.length == 0) = false ∧ a.length + 2 ≤ sizeLine ∧ rNewStrs (Txt.split a b) H Q) mSplit := fun S σ H a w d W Q i hx q => by
  unfold mSplit at q
  split at q
  · split at q
    · rename_i hc
      exact ⟨_, _, rfl, by rw [hx.str], hc.1, sizeLine16 hc.2, po_newL i (rp_strs _) q⟩
    · exact q.elim
  · exact q.elim
/-! ### a text times an int -/
def repS (k : Nat) (x : Str) : Str := ⟨(List.replicate k x.cps).foldl (· ++ ·) #[]⟩
@[simp] noncomputable def oMulS (d e : D) : Res D := match d, e with
  | .int i, .int j => if mulOk i j then .ok (.int (i * j)) else .bad
  | .str x, .int k => if cb (2 ≤ k ∧ k ≤ 1000 ∧ x.length ≤ 1000 ∧ 1 ≤ x.length) then .ok (.str (repS k.toNat x)) else .bad
  | _, _ => .bad
def rMulS : R2 := fun x y H Q => ∃ (a : Str) (k : Int), x = .str a ∧ y = .int k ∧ 2 ≤ k ∧ k ≤ 1000 ∧ a.length ≤ 1000 ∧ 1 ≤ a.length ∧ Q (.str (repS k.toNat a)) H
theorem op_mulStr : OpR X (binaryOp .Mult) rMulS := by
  intro pins s σ H x y v u Q I rx ry h
  obtain ⟨a, k, rfl, rfl, h1, h2, h3, h4, q⟩ := h
  obtain ⟨t, rfl⟩ := rx
  obtain ⟨t', rfl⟩ := ry
  have n1 : ¬ k < 1 := by omega
  have n2 : (k == 1 || a.length == 0) = false := by
    rw [Bool.or_eq_false_iff]
    exact ⟨beq_false_of_ne (by omega), beq_false_of_ne (by omega)⟩
  have n3 : a.length * k.toNat ≤ 1000 * 1000 := Nat.mul_le_mul h3 (by omega)
  have tl : PySem.Builtin.Str.tooLong (a.length * k.toNat) = false := by
    unfold PySem.Builtin.Str.tooLong
    rw [sizeLine_eq]
    exact decide_eq_false (by omega)
  refine PySem.P.mul_str (by rw [decide_eq_false (by omega), decide_eq_false (by omega)]; rfl) (fun _ _ => ?_) (fun _ _ => ?_) ?_
  · have : (2 ^ 63 - 1 : Int) / 1000 ≤ (2 ^ 63 - 1) / k := by
      refine Int.le_ediv_of_mul_le (by omega) ?_
      have e1 : ((2 ^ 63 - 1 : Int) / 1000) * k ≤ ((2 ^ 63 - 1 : Int) / 1000) * 1000 := Int.mul_le_mul_of_nonneg_left h2 (by decide)
      exact Int.le_trans e1 (by decide)
    have e2 : (1000 : Int) ≤ (2 ^ 63 - 1 : Int) / 1000 := by decide
    omega
  · exact tl
  · rw [if_neg n1, if_neg (by rw [n2]; exact Bool.false_ne_true)]
    exact ⟨fits_reps tl, .str (repS k.toNat a), H, I.tok _, ⟨_, rfl⟩, q⟩
/-! ### constants of the module -/
theorem op_mulUS : OpR X (binaryOp .Mult) (fun x y H Q => rI (fun i j => mulOk i j = true) (fun i j => .int (i * j)) x y H Q ∨ rMulS x y H Q) := op_mulU.or op_mulStr
theorem o_mulS {K : Frg} {mg : Mg} : O2 K mg (fun x y H Q => rI (fun i j => mulOk i j = true) (fun i j => .int (i * j)) x y H Q ∨ rMulS x y H Q) oMulS := fun S σ H x y d e W Q i hx hy q => by
  unfold oMulS at q
  split at q
  · split at q
    · rename_i hc
      exact .inl ⟨_, _, hx.int, hy.int, hc, q _ _ _ (Gr.refl i) (.int _)⟩
    · exact q.elim
  · split at q
    · rename_i hc
      obtain ⟨h1, h2, h3, h4⟩ := of_cb hc
      exact .inr ⟨_, _, hx.str, hy.int, h1, h2, h3, h4, q _ _ _ (Gr.refl i) (.str _)⟩
    · exact q.elim
  · exact q.elim
def scV : D → Option V
  | .non => some .non
  | .bl b => some (.bl b)
  | .int i => some (.int i)
  | .str x => some (.str x)
  | _ => none
def Gc (mg : Mg) (x : Str) (d : D) : Prop := ∃ u v, scV d = some v ∧ mg x = some u ∧ RelV v u
theorem scV_rp {K : Frg} {mg : Mg} {S : Hp} {d : D} {v : V} (h : scV d = some v) : Rp K mg S v d := by
  cases d <;> cases h
  · exact .non
  · exact .bl _
  · exact .int _
  · exact .str _
theorem me_gc {x : Str} {d : D} (h : Gc X.mg x d) (hg : Gl X x := by rfl) (hd : (x == ("__debug__" : Str)) = false := by decide) : ME X hx W (.Name x pos) (sC d) := by
  obtain ⟨u, v, h1, h2, h3⟩ := h
  exact pe_imp (pe_glob hg h2 h3 hd) fun σ H Q ⟨b, S, ρ, R, q⟩ => q v S H (Gr.refl R.sh) (scV_rp h1)
def gcB (K : Frg) (x : Str) (d : D) : Bool := match PySem.W.nsIn K mainGlobals x, d with
  | some (some (.int i _)), .int j => decide (i = j)
  | some (some (.str a _)), .str b => decide (a = b)
  | _, _ => false
theorem gc_ok {K : Frg} {h : Heap} {mg : Mg} {x : Str} {d : D} (X : K.In h) (G : h.Ns mainGlobals mg) (c : gcB K x d = true) : Gc mg x d := by
  unfold gcB at c
  split at c
  · rename_i i t j e
    exact ⟨_, .int j, rfl, PySem.W.mg_of X G e, t, by rw [of_decide_eq_true c]⟩
  · rename_i a t b e
    exact ⟨_, .str b, rfl, PySem.W.mg_of X G e, t, by rw [of_decide_eq_true c]⟩
  · cases c
/-! ### replace, of two written texts, as an item behind one that begins with a written text -/
@[simp] def sRep (y z : Str) (f : Sl → Res D) (ρ : Sl) : Res D := (f ρ).bind fun d => match d with
  | .str x => if x.length + (x.length + 1) * z.length ≤ 16777216 then .ok (.str (Txt.replace x y z)) else .bad
  | _ => .bad
abbrev MET (X : Cx) (hx : Hx) (W : WX) (e : Expr) (f : Sl → Res D) : Prop := PET X e (tG X.K X.mg hx (rrE X.K X.mg) W f)
abbrev MAT (X : Cx) (hx : Hx) (W : WX) (es : List Expr) (f : Sl → Res (List D)) : Prop := PAT X es (tG X.K X.mg hx (rrA X.K X.mg) W f)
theorem pet_imp {t t' : TE} (h : PET X e t) (i : ∀ σ H Q, t' σ H Q → t σ H Q) : PET X e t' := fun pins s σ H Q h0 I q => h pins s σ H Q h0 I (i σ H Q q)
theorem pat_imp {es : List Expr} {t t' : TA} (h : PAT X es t) (i : ∀ σ H Q, t' σ H Q → t σ H Q) : PAT X es t' := fun ps pins s σ H Q h0 I q => h ps pins s σ H Q h0 I (i σ H Q q)
theorem met_of (h : ME X hx W e fa) : MET X hx W e fa := CwR.PET.of h
theorem met_rep {o : Expr} {y z : Str} {j k : Nat} {c0 c1 apos : Pos} (ho : MR X hx W o fa) (hyz : (y == z) = false := by decide)
    (hst : starEach [.Constant (.str y) j c0, .Constant (.str z) k c1] X.env = [(false, eval (.Constant (.str y) j c0) X.env), (false, eval (.Constant (.str z) k c1) X.env)] := by rfl)
    (hbase : attributeBase o "replace" X.env (eval o X.env) = eval o X.env := by rfl) (hline : (apos.endLine == pos.line) = true := by rfl) :
    MET X hx W (.Call (.Attribute o "replace" apos) [.Constant (.str y) j c0, .Constant (.str z) k c1] [] pos) (sRep y z fa) :=
  pet_imp (CwR.pet_replC ho hyz hst hbase hline) fun σ H Q ⟨b, S, ρ, R, q⟩ => ⟨b, S, ρ, R, q.bind fun d v S1 H1 g1 r1 k => by
    cases d with
    | str x =>
      have k2 : Po X.K X.mg (rrE X.K X.mg) W S σ H (if x.length + (x.length + 1) * z.length ≤ 16777216 then .ok (.str (Txt.replace x y z)) else .bad) Q := k
      split at k2
      · rename_i hl
        exact ⟨x, r1.str, hl, k2 _ S1 H1 g1 (.str _)⟩
      · exact k2.elim
    | _ => exact k.elim⟩
theorem mat_nil : MAT X hx W [] aNil := pat_imp pat_nil fun σ H Q ⟨b, S, ρ, R, q⟩ => q [] S H (Gr.refl R.sh) .nil
theorem aC_seq {fs : Sl → Res (List D)} : ∀ σ H Q, tG X.K X.mg hx (rrA X.K X.mg) W (aCons fa fs) σ H Q → tCons (tG X.K X.mg hx (rrE X.K X.mg) W fa) (tG X.K X.mg hx (rrA X.K X.mg) W fs) σ H Q := fun σ H Q ⟨b, S, ρ, R, q⟩ =>
  ⟨b, S, ρ, R, q.bind fun d v S1 H1 g1 r1 k => ⟨b, S1, ρ, R.grow g1, (k.upA g1).bind fun d2 v2 S2 H2 g2 r2 k2 => k2 _ S2 H2 g2 (.cons (r1.up g2.s d v) r2)⟩⟩
theorem mat_cons {es : List Expr} {fs : Sl → Res (List D)} (ha : MET X hx W e fa) (hr : MAT X hx W es fs) (hs : starEach (e :: es) X.env = (false, eval e X.env) :: starEach es X.env := by rfl) : MAT X hx W (e :: es) (aCons fa fs) :=
  pat_imp (pat_cons ha hr hs) aC_seq
/-- the first item begins with a written text: a token is out behind it -/
theorem ma_first {es : List Expr} {fs : Sl → Res (List D)} {op : Operator} {y : Str} {j : Nat} {c0 : Pos} {r : R2} {g : D → D → Res D} (ho : OpR X (binaryOp op) r) (hrr : O2 X.K X.mg r g) (hb : MR X hx W b fb) (hr : MAT X hx W es fs)
    (hs : starEach (.BinOp (.Constant (.str y) j c0) op b pos :: es) X.env = (false, eval (.BinOp (.Constant (.str y) j c0) op b pos) X.env) :: starEach es X.env := by rfl) : MA X hx W (.BinOp (.Constant (.str y) j c0) op b pos :: es) (aCons (sOp g (sC (.str y)) fb) fs) := by
  refine pa_imp (t := tCons (tOp r (tC (.str y)) (tG X.K X.mg hx (rrR X.K X.mg) W fb)) (tG X.K X.mg hx (rrA X.K X.mg) W fs)) ⟨fun ps pins s σ H Q I h => ?_⟩ fun σ H Q q => ?_
  · rw [hs]
    show wpAny _ _ (spliced ((false, eval (.BinOp (.Constant (.str y) j c0) op b pos) X.env) :: backTo ps (starEach es X.env))) _ _ s
    refine Calls.spliced_cons (wpAny_BinOp (Calls.Constant_str ?_))
    refine wpAny_mono (PySem.wpAny_toks (hb.run pins _ σ H _ (I.tok (s.toks + 1)) h)) (fun u s1 q => ?_) fun _ _ z => z.2
    obtain ⟨hk, w, H1, I1, r1, q1⟩ := q
    refine wpAny_mono (PySem.wpAny_toks (ho pins s1 σ H1 (.str y) w _ u _ I1 ⟨_, rfl⟩ r1 q1)) (fun v s2 q => ?_) fun _ _ z => z.2
    obtain ⟨hk2, x, H2, I2, r2, q2⟩ := q
    have h1 : 1 ≤ s2.toks := Nat.le_trans (Nat.le_trans (show 1 ≤ s.toks + 1 by omega) hk) hk2
    exact thn (hr ps pins s2 σ H2 _ h1 I2 q2) fun us s3 ⟨xs, H3, I3, r3, q3⟩ => ⟨x :: xs, H3, I3, .cons r2 r3, q3⟩
  · obtain ⟨b0, S, ρ, R, q⟩ := aC_seq σ H Q q
    have q' : Po X.K X.mg (rrE X.K X.mg) W S σ H ((fb ρ).bind fun y' => g (.str y) y') _ := q
    exact ⟨b0, S, ρ, R, q'.bind fun d v S1 H1 g1 r1 k => hrr S1 σ H1 (.str y) v (.str y) d W _ g1.i (Rd1.of g1.i (.str _)) r1 (k.upE g1)⟩
end
end PF

set_option Elab.async false
set_option linter.all false
set_option maxRecDepth 100000
/-! What each def of the program and of the law law_k01_ratio_texts_read_back makes of its arguments (printed by gen.py) -/
namespace S_k01
open PySem L2 PF
def t_ValueError (x : Str) : Option Bool := List.lookup x [("BadNumber", true)]
def t_BadNumber (x : Str) : Option Bool := List.lookup x [("BadNumber", true)]
def t_BadTsk_NotAan_Unlied_BadPer_NoCots_BadQon_BadRge_BadSen_TooMny (x : Str) : Option Bool := List.lookup x [("BadNumber", false)]
def t_BadTxt_BadNme_Unknme_Staley (x : Str) : Option Bool := List.lookup x [("BadNumber", false)]
def t_CostsError (x : Str) : Option Bool := List.lookup x [("BadNumber", true)]
/-- num 0, den 1, part 2 -/
noncomputable def g_make_ratio : Sl → Out :=
  (gSeq (gIf (sTest (sOp oEq (sRd 1) (sC (.int 0)))) (gRaise "BadNumber") gNil)
    (gSeq (gSet 2 (sOp bGcd (sRd 0) (sRd 1)))
    (gSeq (gIf (sTest (sOp oLt (sRd 1) (sC (.int 0)))) (gSet 2 (sUn oNeg (sRd 2))) gNil)
    (gRet (sTup (aCons (sOp oFdiv (sRd 0) (sRd 2)) (aCons (sOp oFdiv (sRd 1) (sRd 2)) aNil)))))))
noncomputable def f_make_ratio : List D → Res D := semF 3 g_make_ratio
/-- value 0 -/
noncomputable def g_ratio_text : Sl → Out :=
  (gSeq (gIf (sTest (sOp oEq (sOp oIx (sRd 0) (sC (.int 1))) (sC (.int 1)))) (gRet (sUn bStr (sOp oIx (sRd 0) (sC (.int 0))))) gNil)
    (gRet (sJn [(sUn fmtD (sOp oIx (sRd 0) (sC (.int 0)))), (sC (.str "/")), (sUn fmtD (sOp oIx (sRd 0) (sC (.int 1))))] Str.empty)))
noncomputable def f_ratio_text : List D → Res D := semF 1 g_ratio_text
/-- text 0, sign 1 -/
noncomputable def b1_read_digits : Sl → Out :=
  (gIf (sTest (sOp oNinS (sRd 1) (sC (.str "0123456789")))) (gRaise "BadNumber") gNil)
noncomputable def g_read_digits : Sl → Out :=
  (gSeq (gIf (tNot (sTest (sChn oLe oLe (sC (.int 1)) (sUn bLen (sRd 0)) (sC (.int 40))))) (gRaise "BadNumber") gNil)
    (gSeq (gFor (iSeq (sVar 0)) (gName 1) b1_read_digits)
    (gRet (sUn bIntT (sRd 0)))))
noncomputable def f_read_digits : List D → Res D := semF 2 g_read_digits
/-- text 0, body 1, head 2, mark 3, tail 4, num 5, den 6, value 7 -/
noncomputable def g_read_ratio : Sl → Out :=
  (gSeq (gSet 1 (sVar 0))
    (gSeq (gIf (sTest (sOp oEq (sSl (sRd 0) pNone (pSome (sC (.int 1)))) (sC (.str "-")))) (gSet 1 (sSl (sRd 0) (pSome (sC (.int 1))) pNone)) gNil)
    (gSeq (gAsg (gTup 3 (gsCons (gName 2) (gsCons (gName 3) (gsCons (gName 4) gsNil)))) (sM1 mPart (sRd 1) (sC (.str "/"))))
    (gSeq (gSet 5 (sCall f_read_digits (aCons (sVar 2) aNil)))
    (gSeq (gSet 6 (sC (.int 1)))
    (gSeq (gIf (sTest (sOp oEq (sRd 3) (sC (.str "/")))) (gSet 6 (sCall f_read_digits (aCons (sVar 4) aNil))) gNil)
    (gSeq (gIf (sTest (sOp oEq (sSl (sRd 0) pNone (pSome (sC (.int 1)))) (sC (.str "-")))) (gSet 5 (sUn oNeg (sRd 5))) gNil)
    (gSeq (gSet 7 (sCall f_make_ratio (aCons (sVar 5) (aCons (sVar 6) aNil))))
    (gSeq (gIf (sTest (sOp oNe (sCall f_ratio_text (aCons (sVar 7) aNil)) (sRd 0))) (gRaise "BadNumber") gNil)
    (gRet (sVar 7)))))))))))
noncomputable def f_read_ratio : List D → Res D := semF 8 g_read_ratio
/-- cell 0, k 1, first 2, second 3 -/
noncomputable def g_ulaw_mix : Sl → Out :=
  (gSeq (gSet 2 (sOp oMod (sUn bIntT (sOp oAdd (sOp oAdd (sOp oMul (sRd 0) (sC (.int 48271))) (sOp oMul (sRd 1) (sC (.int 69621)))) (sC (.int 11)))) (sC (.int 2147483647))))
    (gSeq (gSet 3 (sOp oMod (sUn bIntT (sOp oAdd (sOp oAdd (sOp oMul (sRd 2) (sRd 2)) (sOp oMul (sRd 1) (sC (.int 40692)))) (sC (.int 7)))) (sC (.int 2147483399))))
    (gRet (sOp oFdiv (sOp oMod (sUn bIntT (sOp oAdd (sOp oMul (sRd 3) (sC (.int 16807))) (sRd 2))) (sC (.int 2147483587))) (sC (.int 8))))))
noncomputable def f_ulaw_mix : List D → Res D := semF 4 g_ulaw_mix
/-- script 0, at 1, many 2, cell 3, row 4, rest 5, k 6 -/
noncomputable def b1_ulaw_row : Sl → Out :=
  (gIf (tAnd (sTest (sOp oGe (sUn bAbs (sRd 3)) (sC (.int 1000000000000000000)))) (sTest (sOp oGt (sRd 5) (sC (.int 0))))) (gSeq (gApp 4 (sOp oMod (sUn bIntT (sRd 5)) (sC (.int 1009))))
    (gSet 5 (sOp oFdiv (sRd 5) (sC (.int 1009))))) (gApp 4 (sCall f_ulaw_mix (aCons (sVar 3) (aCons (sVar 6) aNil)))))
noncomputable def g_ulaw_row : Sl → Out :=
  (gSeq (gSet 3 (sVar 1))
    (gSeq (gIf (sTest (sOp oLt (sRd 1) (sUn bLen (sRd 0)))) (gSet 3 (sOp oIx (sRd 0) (sRd 1))) (gIf (sTest (sOp oGt (sUn bLen (sRd 0)) (sC (.int 0)))) (gSet 3 (sOp oAdd (sOp oIx (sRd 0) (sOp oMod (sRd 1) (sUn bLen (sRd 0)))) (sOp oMul (sC (.int 7919)) (sRd 1)))) gNil))
    (gSeq (gSetO 4 (fLst aNil))
    (gSeq (gSet 5 (sUn bAbs (sRd 3)))
    (gSeq (gFor (iRg1 (aCons (sVar 2) aNil)) (gName 6) b1_ulaw_row)
    (gRetO 4))))))
noncomputable def f_ulaw_row : List D → Res D := semF 7 g_ulaw_row
/-- value 0 -/
noncomputable def g_ulaw_is_whole : Sl → Out :=
  (gRet (sAnd (sUn (bIsi "int") (sRd 0)) (sNot (sUn (bIsi "bool") (sRd 0)))))
noncomputable def f_ulaw_is_whole : List D → Res D := semF 1 g_ulaw_is_whole
/-- value 0, size 1, num 2 -/
noncomputable def b1_ulaw_is_tuple : Sl → Res D :=
  (sCall f_ulaw_is_whole (aCons (sVar 2) aNil))
noncomputable def g_ulaw_is_tuple : Sl → Out :=
  (gRet (sAnd (sUn (bIsi "tuple") (sRd 0)) (sAnd (sOp oEq (sUn bLen (sRd 0)) (sRd 1)) (sUn bAll (sLst (fLc (iSeq (sVar 0)) (gName 2) tYesF b1_ulaw_is_tuple [2]))))))
noncomputable def f_ulaw_is_tuple : List D → Res D := semF 3 g_ulaw_is_tuple
/-- left 0, right 1, step 2 -/
noncomputable def b1_ulaw_common : Sl → Out :=
  (gSeq (gIf (sTest (sOp oEq (sRd 1) (sC (.int 0)))) (gRet (sVar 0)) gNil)
    (gPar 0 1 (sVar 1) (sOp oMod (sUn bIntT (sRd 0)) (sRd 1))))
noncomputable def g_ulaw_common : Sl → Out :=
  (gSeq (gPar 0 1 (sUn bAbs (sRd 0)) (sUn bAbs (sRd 1)))
    (gSeq (gFor (iRg1 (aCons (sOp oAdd (sOp oMul (sC (.int 2)) (sUn bBits (sRd 1))) (sC (.int 4))) aNil)) (gName 2) b1_ulaw_common)
    (gRet (sVar 0))))
noncomputable def f_ulaw_common : List D → Res D := semF 3 g_ulaw_common
/-- num 0, den 1, part 2 -/
noncomputable def g_ulaw_lowest : Sl → Out :=
  (gSeq (gSet 2 (sCall f_ulaw_common (aCons (sVar 0) (aCons (sVar 1) aNil))))
    (gSeq (gIf (sTest (sOp oLt (sRd 1) (sC (.int 0)))) (gSet 2 (sUn oNeg (sRd 2))) gNil)
    (gRet (sTup (aCons (sOp oFdiv (sRd 0) (sRd 2)) (aCons (sOp oFdiv (sRd 1) (sRd 2)) aNil))))))
noncomputable def f_ulaw_lowest : List D → Res D := semF 3 g_ulaw_lowest
/-- cells 0, size 1, text 2, cell 3 -/
noncomputable def b1_ulaw_digits : Sl → Out :=
  (gSet 2 (sOp oAdd (sRd 2) (sOp oIx (sC (.str "0123456789")) (sOp oMod (sUn bIntT (sRd 3)) (sC (.int 10))))))
noncomputable def g_ulaw_digits : Sl → Out :=
  (gSeq (gSet 1 (sOp oIx (sLst (fLst (aCons (sC (.int 1)) (aCons (sC (.int 2)) (aCons (sC (.int 39)) (aCons (sC (.int 40)) (aCons (sC (.int 41)) (aCons (sOp oAdd (sC (.int 1)) (sOp oMod (sUn bIntT (sOp oIx (sRd 0) (sC (.int 1)))) (sC (.int 41)))) aNil)))))))) (sOp oMod (sUn bIntT (sOp oIx (sRd 0) (sC (.int 0)))) (sC (.int 6)))))
    (gSeq (gSet 2 (sOp oIx (sC (.str "123456789")) (sOp oMod (sUn bIntT (sOp oIx (sRd 0) (sC (.int 2)))) (sC (.int 9)))))
    (gSeq (gFor (iSeq (sSl (sRd 0) (pSome (sC (.int 3))) (pSome (sOp oAdd (sC (.int 2)) (sRd 1))))) (gName 3) b1_ulaw_digits)
    (gRet (sVar 2)))))
noncomputable def f_ulaw_digits : List D → Res D := semF 4 g_ulaw_digits
/-- ratio 0 -/
noncomputable def g_ulaw_text : Sl → Out :=
  (gSeq (gIf (sTest (sOp oEq (sOp oIx (sRd 0) (sC (.int 1))) (sC (.int 1)))) (gRet (sUn bStr (sOp oIx (sRd 0) (sC (.int 0))))) gNil)
    (gRet (sOp oAdd (sOp oAdd (sUn bStr (sOp oIx (sRd 0) (sC (.int 0)))) (sC (.str "/"))) (sUn bStr (sOp oIx (sRd 0) (sC (.int 1)))))))
noncomputable def f_ulaw_text : List D → Res D := semF 1 g_ulaw_text
/-- text 0, char 1 -/
noncomputable def b1_ulaw_is_number : Sl → Res D :=
  (sOp oNinS (sRd 1) (sC (.str "0123456789")))
noncomputable def g_ulaw_is_number : Sl → Out :=
  (gSeq (gIf (tOr (tNot (sTest (sChn oLe oLe (sC (.int 1)) (sUn bLen (sRd 0)) (sC (.int 40))))) (tTru (sUn bAny (sLst (fLc (iSeq (sVar 0)) (gName 1) tYesF b1_ulaw_is_number [1]))))) (gRet (sC (.bl false))) gNil)
    (gRet (sOr (sOp oEq (sUn bLen (sRd 0)) (sC (.int 1))) (sOp oNe (sOp oIx (sRd 0) (sC (.int 0))) (sC (.str "0"))))))
noncomputable def f_ulaw_is_number : List D → Res D := semF 2 g_ulaw_is_number
/-- text 0, body 1, sign 2, parts 3, num 4, den 5, part 6 -/
noncomputable def b1_ulaw_read : Sl → Res D :=
  (sCall f_ulaw_is_number (aCons (sVar 6) aNil))
noncomputable def g_ulaw_read : Sl → Out :=
  (gSeq (gSet 1 (sVar 0))
    (gSeq (gSet 2 (sC (.int 1)))
    (gSeq (gIf (sTest (sOp oEq (sSl (sRd 0) pNone (pSome (sC (.int 1)))) (sC (.str "-")))) (gSeq (gSet 1 (sSl (sRd 0) (pSome (sC (.int 1))) pNone))
    (gSet 2 (sUn oNeg (sC (.int 1))))) gNil)
    (gSeq (gSet 3 (sLst (fM1 mSplit (sRd 1) (sC (.str "/")))))
    (gSeq (gIf (tOr (sTest (sOp oGt (sUn bLen (sRd 3)) (sC (.int 2)))) (tNot (tTru (sUn bAll (sLst (fLc (iSeq (sVar 3)) (gName 6) tYesF b1_ulaw_read [6])))))) (gRet (sC .non)) gNil)
    (gSeq (gSet 4 (sUn bIntT (sOp oIx (sRd 3) (sC (.int 0)))))
    (gSeq (gIf (tAnd (sTest (sOp oEq (sRd 2) (sUn oNeg (sC (.int 1))))) (sTest (sOp oEq (sRd 4) (sC (.int 0))))) (gRet (sC .non)) gNil)
    (gSeq (gIf (sTest (sOp oEq (sUn bLen (sRd 3)) (sC (.int 1)))) (gRet (sTup (aCons (sOp oMul (sRd 2) (sRd 4)) (aCons (sC (.int 1)) aNil)))) gNil)
    (gSeq (gSet 5 (sUn bIntT (sOp oIx (sRd 3) (sC (.int 1)))))
    (gSeq (gIf (tOr (sTest (sOp oLt (sRd 5) (sC (.int 2)))) (sTest (sOp oNe (sCall f_ulaw_common (aCons (sVar 4) (aCons (sVar 5) aNil))) (sC (.int 1))))) (gRet (sC .non)) gNil)
    (gRet (sTup (aCons (sOp oMul (sRd 2) (sRd 4)) (aCons (sVar 5) aNil))))))))))))))
noncomputable def f_ulaw_read : List D → Res D := semF 7 g_ulaw_read
/-- ratio 0, told 1 -/
noncomputable def g_ulaw_written : Sl → Out :=
  (gSeq (gSet 1 (sCall f_ratio_text (aCons (sVar 0) aNil)))
    (gRet (sAnd (sUn (bIsi "str") (sRd 1)) (sOp oEq (sRd 1) (sCall f_ulaw_text (aCons (sVar 0) aNil))))))
noncomputable def f_ulaw_written : List D → Res D := semF 2 g_ulaw_written
/-- text 0, due 1, told 2, refused 3, e 4 -/
noncomputable def g_ulaw_reads : Sl → Out :=
  (gSeq (gSet 1 (sCall f_ulaw_read (aCons (sVar 0) aNil)))
    (gSeq (gSet 2 (sC .non))
    (gSeq (gSet 3 (sC (.bl false)))
    (gSeq (gTry 4 t_CostsError (gSet 2 (sCall f_read_ratio (aCons (sVar 0) aNil))) (gSeq (gSet 3 (sAnd (sIsE 4 t_BadNumber) (sIsE 4 t_ValueError)))
    (gSeq (gIf (tTru (sIsE 4 t_BadTsk_NotAan_Unlied_BadPer_NoCots_BadQon_BadRge_BadSen_TooMny)) (gSet 3 (sC (.bl false))) gNil)
    (gIf (tTru (sIsE 4 t_BadTxt_BadNme_Unknme_Staley)) (gSet 3 (sC (.bl false))) gNil))))
    (gSeq (gIf (sTest (sOp oIsN (sRd 1) (sC .non))) (gRet (sVar 3)) gNil)
    (gRet (sAnd (sNot (sVar 3)) (sAnd (sCall f_ulaw_is_tuple (aCons (sVar 2) (aCons (sC (.int 2)) aNil))) (sOp oEq (sRd 2) (sRd 1))))))))))
noncomputable def f_ulaw_reads : List D → Res D := semF 5 g_ulaw_reads
/-- text 0, turns 1, char 2, texts 3, turn 4, place 5 -/
noncomputable def b1_ulaw_near : Sl → Out :=
  (gSeq (gSet 5 (sOp oMod (sUn bIntT (sRd 4)) (sOp oAdd (sUn bLen (sRd 0)) (sC (.int 1)))))
    (gSeq (gApp 3 (sOp oAdd (sOp oAdd (sSl (sRd 0) pNone (pSome (sVar 5))) (sRd 2)) (sSl (sRd 0) (pSome (sVar 5)) pNone)))
    (gSeq (gApp 3 (sOp oAdd (sSl (sRd 0) pNone (pSome (sVar 5))) (sSl (sRd 0) (pSome (sOp oAdd (sRd 5) (sC (.int 1)))) pNone)))
    (gApp 3 (sOp oAdd (sOp oAdd (sSl (sRd 0) pNone (pSome (sVar 5))) (sRd 2)) (sSl (sRd 0) (pSome (sOp oAdd (sRd 5) (sC (.int 1)))) pNone))))))
noncomputable def g_ulaw_near : Sl → Out :=
  (gSeq (gSet 2 (sOp oIx (sOp oAdd (sC (.str "0123456789-/+ ._e,x")) (sC (.str "\n"))) (sOp oMod (sUn bIntT (sOp oIx (sRd 1) (sC (.int 0)))) (sC (.int 20)))))
    (gSeq (gSetO 3 (fLst aNil))
    (gSeq (gFor (iSeq (sSl (sRd 1) (pSome (sC (.int 1))) (pSome (sC (.int 4))))) (gName 4) b1_ulaw_near)
    (gSeq (gExt 3 (fLst (aCons (sOp oAdd (sC (.str "0")) (sRd 0)) (aCons (sOp oAdd (sC (.str "+")) (sRd 0)) (aCons (sOp oAdd (sC (.str "-")) (sRd 0)) (aCons (sOp oAdd (sC (.str " ")) (sRd 0)) (aCons (sOp oAdd (sRd 0) (sC (.str " "))) (aCons (sOp oAdd (sRd 0) (sC (.str "\n"))) (aCons (sOp oAdd (sC (.str "\n")) (sRd 0)) (aCons (sOp oAdd (sRd 0) (sC (.str "/"))) aNil))))))))))
    (gRetF (fOp fCat (sRd 3) (sLst (fLst (aCons (sOp oAdd (sC (.str "/")) (sRd 0)) (aCons (sOp oAdd (sRd 0) (sC (.str "/1"))) (aCons (sOp oAdd (sRd 0) (sC (.str "/3"))) (aCons (sOp oAdd (sC (.str "1/")) (sRd 0)) (aCons (sRep "/" " / " (sRd 0)) (aCons (sRep "/" "//" (sRd 0)) aNil))))))))))))))
noncomputable def f_ulaw_near : List D → Res D := semF 6 g_ulaw_near
/-- texts 0 -/
noncomputable def g_ulaw_fixed : Sl → Out :=
  (gSeq (gSetO 0 (fLst (aCons (sC (.str "0")) (aCons (sC (.str "-0")) (aCons (sC (.str "00")) (aCons (sC (.str "-")) (aCons (sC (.str "")) (aCons (sC (.str "/")) (aCons (sC (.str "-/")) (aCons (sC (.str "1/0")) (aCons (sC (.str "-1/0")) (aCons (sC (.str "0/1")) (aCons (sC (.str "0/7")) (aCons (sC (.str "-0/3")) (aCons (sC (.str "4/2")) (aCons (sC (.str "3/1")) (aCons (sC (.str "-3/1")) (aCons (sC (.str "01")) (aCons (sC (.str "-01")) aNil)))))))))))))))))))
    (gSeq (gExt 0 (fLst (aCons (sC (.str "1/02")) (aCons (sC (.str "02/3")) (aCons (sC (.str "1/-2")) (aCons (sC (.str "1/+2")) (aCons (sC (.str "--1")) (aCons (sC (.str "+1")) (aCons (sC (.str "1_0")) (aCons (sC (.str "1.0")) (aCons (sC (.str "1e3")) (aCons (sC (.str "0x1")) (aCons (sC (.str "1/2/3")) (aCons (sC (.str "-3")) (aCons (sC (.str "7/2")) (aCons (sC (.str "-1/2")) aNil))))))))))))))))
    (gRetO 0)))
noncomputable def f_ulaw_fixed : List D → Res D := semF 1 g_ulaw_fixed
/-- script 0, digits 1, over 2, turns 3, sign 4, ratio 5, short 6, value 7, forty 8, wide 9, texts 10, factor 11, text 12 -/
noncomputable def b1_law : Sl → Out :=
  (gIf (tOr (tNot (tTru (sCall f_ulaw_written (aCons (sVar 7) aNil)))) (tNot (tTru (sCall f_ulaw_reads (aCons (sCall f_ulaw_text (aCons (sVar 7) aNil)) aNil))))) (gRet (sC (.bl false))) gNil)
noncomputable def b2_law : Sl → Out :=
  (gIf (tNot (tTru (sCall f_ulaw_reads (aCons (sVar 12) aNil)))) (gRet (sC (.bl false))) gNil)
noncomputable def g_law : Sl → Out :=
  (gSeq (gSet 1 (sCall f_ulaw_digits (aCons (sCall f_ulaw_row (aCons (sVar 0) (aCons (sC (.int 0)) (aCons (sC (.int 43)) aNil)))) aNil)))
    (gSeq (gSet 2 (sCall f_ulaw_digits (aCons (sCall f_ulaw_row (aCons (sVar 0) (aCons (sC (.int 1)) (aCons (sC (.int 43)) aNil)))) aNil)))
    (gSeq (gSet 3 (sCall f_ulaw_row (aCons (sVar 0) (aCons (sC (.int 2)) (aCons (sC (.int 6)) aNil)))))
    (gSeq (gSet 4 (sOp oIx (sLst (fLst (aCons (sC (.str "")) (aCons (sC (.str "-")) aNil)))) (sOp oMod (sUn bIntT (sOp oIx (sRd 3) (sC (.int 4)))) (sC (.int 2)))))
    (gSeq (gSet 5 (sCall f_ulaw_lowest (aCons (sUn bIntT (sOp oAdd (sRd 4) (sRd 1))) (aCons (sUn bIntT (sRd 2)) aNil))))
    (gSeq (gSet 6 (sCall f_ulaw_lowest (aCons (sUn bIntT (sOp oAdd (sRd 4) (sSl (sRd 1) pNone (pSome (sC (.int 40)))))) (aCons (sUn bIntT (sSl (sRd 2) pNone (pSome (sC (.int 40))))) aNil))))
    (gSeq (gFor (iSeq (sLst (fLst (aCons (sVar 5) (aCons (sVar 6) (aCons (sTup (aCons (sOp oIx (sRd 5) (sC (.int 0))) (aCons (sC (.int 1)) aNil))) (aCons (sTup (aCons (sOp oIx (sRd 6) (sC (.int 1))) (aCons (sC (.int 1)) aNil))) (aCons (sTup (aCons (sC (.int 0)) (aCons (sC (.int 1)) aNil))) aNil)))))))) (gName 7) b1_law)
    (gSeq (gSet 8 (sSl (sOp oMulS (sRd 1) (sC (.int 40))) pNone (pSome (sC (.int 40)))))
    (gSeq (gSet 9 (sSl (sOp oMulS (sRd 2) (sC (.int 40))) pNone (pSome (sC (.int 40)))))
    (gSeq (gSetO 10 (fLst (aCons (sOp oAdd (sRd 4) (sRd 8)) (aCons (sOp oAdd (sOp oAdd (sRd 4) (sRd 8)) (sOp oIx (sRd 9) (sC (.int 0)))) (aCons (sOp oAdd (sC (.str "1/")) (sRd 9)) (aCons (sOp oAdd (sOp oAdd (sOp oAdd (sRd 4) (sC (.str "1/"))) (sRd 9)) (sC (.str "3"))) (aCons (sOp oAdd (sOp oAdd (sOp oAdd (sRd 4) (sRd 8)) (sC (.str "/"))) (sRd 9)) aNil)))))))
    (gSeq (gExt 10 (fLst (aCons (sOp oAdd (sOp oAdd (sRd 4) (sRd 8)) (sC (.str "/7"))) (aCons (sOp oAdd (sOp oAdd (sRd 4) (sRd 8)) (sC (.str "1/7"))) (aCons (sOp oAdd (sOp oAdd (sRd 4) (sC (.str "7/"))) (sRd 9)) (aCons (sOp oAdd (sC (.str "-")) (sRd 9)) (aCons (sOp oAdd (sOp oAdd (sC (.str "-")) (sRd 9)) (sC (.str "0"))) aNil)))))))
    (gSeq (gSet 11 (sOp oAdd (sC (.int 2)) (sOp oMod (sUn bIntT (sOp oIx (sRd 3) (sC (.int 5)))) (sC (.int 8)))))
    (gSeq (gApp 10 (sOp oAdd (sOp oAdd (sUn bStr (sOp oMul (sOp oIx (sRd 6) (sC (.int 0))) (sRd 11))) (sC (.str "/"))) (sUn bStr (sOp oMul (sOp oIx (sRd 6) (sC (.int 1))) (sRd 11)))))
    (gSeq (gExt 10 (fCall f_ulaw_near (aCons (sCall f_ulaw_text (aCons (sVar 6) aNil)) (aCons (sVar 3) aNil))))
    (gSeq (gExt 10 (fCall f_ulaw_fixed aNil))
    (gFrz 10 (gSeq (gFor (iSeq (sVar 10)) (gName 12) b2_law)
    (gRet (sAnd (sCall f_ulaw_written (aCons (sVar 5) aNil)) (sAnd (sCall f_ulaw_reads (aCons (sCall f_ulaw_text (aCons (sVar 6) aNil)) aNil)) (sCall f_ulaw_reads (aCons (sOp oAdd (sRd 4) (sRd 8)) aNil))))))))))))))))))))))
noncomputable def f_law : List D → Res D := semF 13 g_law
end S_k01

set_option Elab.async false
set_option linter.all false
set_option maxRecDepth 100000
set_option maxHeartbeats 4000000
/-! Lemmas for the plain laws: sizes, equality of data, Euclid. -/
namespace ML
open PySem L2 PF

theorem mulOk_r {i j : Int} (h : j.natAbs < 18446744073709551616) : mulOk i j = true := cb_t (.inr (.inr h))
theorem mulOk_l {i j : Int} (h : i.natAbs < 18446744073709551616) : mulOk i j = true := cb_t (.inr (.inl h))
theorem mulOk_b {i j : Int} {a b : Nat} (ha : i.natAbs < 2 ^ a) (hb : j.natAbs < 2 ^ b) (h : a + b ≤ 134217728) : mulOk i j = true := by
  have h1 := PyProof.Rows.intBits_le ha
  have h2 := PyProof.Rows.intBits_le hb
  exact cb_t (.inl (by omega))
theorem divOk_b {j : Int} {b : Nat} (h0 : j ≠ 0) (hb : j.natAbs < 2 ^ b) (h : b ≤ 9000) : divOk j = true := by
  refine cb_t ⟨h0, ?_⟩
  have h1 : j.natAbs ≠ 0 := by omega
  have h2 := Nat.log2_self_le h1
  have h3 : 2 ^ j.natAbs.log2 < 2 ^ b := Nat.lt_of_le_of_lt h2 hb
  have h4 := (Nat.pow_lt_pow_iff_right (by decide : 1 < 2)).mp h3
  omega
theorem divOk_s {j : Int} (h0 : j ≠ 0) (hb : j.natAbs < 18446744073709551616) : divOk j = true := divOk_b (b := 64) h0 hb (by decide)
theorem bits_lt (n : Int) : n.natAbs < 2 ^ (Builtin.Int.intBits n) := by
  unfold Builtin.Int.intBits
  split
  · rename_i h
    simp at h
    subst h
    decide
  · exact Nat.lt_log2_self
@[simp] theorem cb_True : cb True = true := cb_t trivial
@[simp] theorem cb_False : cb False = false := cb_f id
/-! ### sums and products stay below powers of two -/
theorem b_mul {i j : Int} {a b : Nat} (ha : i.natAbs < 2 ^ a) (hb : j.natAbs < 2 ^ b) : (i * j).natAbs < 2 ^ (a + b) := by
  rw [Int.natAbs_mul, Nat.pow_add]
  exact Nat.mul_lt_mul'' ha hb
theorem b_add {i j : Int} {a : Nat} (ha : i.natAbs < 2 ^ a) (hb : j.natAbs < 2 ^ a) : (i + j).natAbs < 2 ^ (a + 1) := by
  rw [Nat.pow_succ]
  omega
theorem b_sub {i j : Int} {a : Nat} (ha : i.natAbs < 2 ^ a) (hb : j.natAbs < 2 ^ a) : (i - j).natAbs < 2 ^ (a + 1) := by
  rw [Nat.pow_succ]
  omega
theorem b_up {i : Int} {a b : Nat} (ha : i.natAbs < 2 ^ a) (h : a ≤ b) : i.natAbs < 2 ^ b := Nat.lt_of_lt_of_le ha (Nat.pow_le_pow_right (by decide) h)
theorem b_neg {i : Int} {a : Nat} (ha : i.natAbs < 2 ^ a) : (-i).natAbs < 2 ^ a := by rw [Int.natAbs_neg]; exact ha

/-! ### equality of data -/
@[simp] theorem eqv_int (i j : Int) : eqv (.int i) (.int j) = (i == j) := by simp [eqv, D.py, PyData.eqv]
theorem sh_of {d : D} (h1 : d.py.canLay0 = true) (h2 : d.py.depth ≤ 64) : eqOk d = true := by
  unfold eqOk SeqAt.shaped
  rw [h1]
  simp [h2]
@[simp] theorem eqOk_int (i : Int) : eqOk (.int i) = true := sh_of (by simp [D.py, PyData.canLay0]) (by simp [D.py, PyData.depth])
@[simp] theorem eqOk_bl (i : Bool) : eqOk (.bl i) = true := sh_of (by simp [D.py, PyData.canLay0]) (by simp [D.py, PyData.depth])
@[simp] theorem eqOk_non : eqOk .non = true := sh_of (by simp [D.py, PyData.canLay0]) (by simp [D.py, PyData.depth])
theorem pyA_ints : ∀ ns : List Int, D.pyA (ns.map D.int) = ns.map PyData.int
  | [] => rfl
  | n :: ns => by simp [D.pyA, D.py, pyA_ints ns]
theorem lay_ints : ∀ ns : List Int, PyData.canLayAll0 (ns.map PyData.int) = true
  | [] => by simp [PyData.canLayAll0]
  | n :: ns => by simp [PyData.canLayAll0, PyData.canLay0, lay_ints ns]
theorem dep_ints : ∀ ns : List Int, PyData.depthAll (ns.map PyData.int) = 0
  | [] => by simp [PyData.depthAll]
  | n :: ns => by simp [PyData.depthAll, PyData.depth, dep_ints ns]
@[simp] theorem eqOk_ints (ns : List Int) : eqOk (.tup (ns.map D.int)) = true := sh_of (by simp [D.py, PyData.canLay0, pyA_ints, lay_ints]) (by simp [D.py, PyData.depth, pyA_ints, dep_ints])
@[simp] theorem eqOk_two (i j : Int) : eqOk (.tup [.int i, .int j]) = true := eqOk_ints [i, j]
@[simp] theorem eqv_two (i j k l : Int) : eqv (.tup [.int i, .int j]) (.tup [.int k, .int l]) = (i == k && j == l) := by simp [eqv, D.py, D.pyA, PyData.eqv, PyData.eqvAll]

/-! ### Euclid's division as the laws do it -/
theorem half_rest {b r : Nat} (h0 : 0 < r) (h : r < b) : 2 * (b % r) < b := by
  have h1 := Nat.mod_lt b h0
  by_cases c : 2 * r ≤ b
  · omega
  · have e : b % r = b - r := by
      rw [Nat.mod_eq_sub_mod (Nat.le_of_lt h), Nat.mod_eq_of_lt (by omega)]
    omega
theorem fmod_nat (a b : Nat) : Int.fmod (a : Int) (b : Int) = ((a % b : Nat) : Int) := by
  rw [Int.fmod_eq_emod_of_nonneg _ (Int.natCast_nonneg b)]
  exact (Int.natCast_emod a b).symm
theorem abs_nat (i : Int) : (if i < 0 then -i else i) = (i.natAbs : Int) := by
  split <;> omega
/-! ### loops -/
theorem for_inv {g : FG} {body : Sl → Out} (P : List D → Sl → Prop) (step : ∀ d ds ρ, P (d :: ds) ρ → ∃ ρ1, g d ρ = some ρ1 ∧ ∃ ρ2, (body ρ1 = .nx ρ2 ∨ body ρ1 = .ct ρ2) ∧ P ds ρ2) : ∀ ds ρ, P ds ρ → ∃ ρ', forRun g body ds ρ = .nx ρ' ∧ P [] ρ'
  | [], ρ, h => ⟨ρ, rfl, h⟩
  | d :: ds, ρ, h => by
    obtain ⟨ρ1, h1, ρ2, h2, h3⟩ := step d ds ρ h
    obtain ⟨ρ3, h4, h5⟩ := for_inv P step ds ρ2 h3
    refine ⟨ρ3, ?_, h5⟩
    rcases h2 with h2 | h2 <;> simp only [forRun, h1, h2] <;> exact h4
theorem rngD_ints (lo : Int) (n : Nat) : rngD lo n = ((List.range n).map fun (k : Nat) => lo + (k : Int)).map D.int := by simp [rngD]
theorem atI_nat {xs : List D} {i : Int} {k : Nat} (h : i = (k : Int)) (hk : k < xs.length) : atI xs i = some xs[k] := by
  have e : ixN xs.length i = some k := by
    unfold ixN
    subst h
    simp [hk]
  unfold atI
  rw [e]
  exact List.getElem?_eq_getElem hk
theorem nth_ints (ns : List Int) (k : Nat) (h : k < (ns.map D.int).length) : (ns.map D.int)[k] = .int (ns[k]'(by simpa using h)) := by simp
theorem atI_ints {ns : List Int} {i : Int} (h0 : 0 ≤ i) (h1 : i < ns.length) : ∃ z, atI (ns.map D.int) i = some (.int z) := by
  obtain ⟨k, rfl⟩ := Int.eq_ofNat_of_zero_le h0
  have hk : k < (ns.map D.int).length := by simp; omega
  exact ⟨_, by rw [atI_nat rfl hk, nth_ints]⟩
theorem rng1_ok {n : Nat} (h : n ≤ 1000000) : gRng1 [.int (n : Int)] = .ok (rngD 0 n) := by
  have hg : cb (-(2 ^ 62) ≤ (n : Int) ∧ (n : Int) < 2 ^ 62) = true := cb_t (by constructor <;> omega)
  unfold gRng1
  simp only [hg, if_true, Int.toNat_natCast]
theorem seq_nx {g h : Sl → Out} {ρ ρ' : Sl} (e : g ρ = .nx ρ') : gSeq g h ρ = h ρ' := by simp only [gSeq, e]
theorem seq_nx2 {g1 g2 h : Sl → Out} {ρ ρ' : Sl} (e : gSeq g1 g2 ρ = .nx ρ') : gSeq g1 (gSeq g2 h) ρ = h ρ' := by
  unfold gSeq at e ⊢
  cases e1 : g1 ρ with
  | nx a => rw [e1] at e; simp only [gSeq] at e ⊢; rw [e]
  | _ => rw [e1] at e; cases e
theorem semF_ret {n : Nat} {g : Sl → Out} {ds : List D} {d : D} (h : g (ds.map Cell.v ++ List.replicate (n - ds.length) .e) = .ret d) : semF n g ds = .ok d := by
  unfold semF
  rw [h]
@[simp] theorem atI_zero (x : D) (xs : List D) : atI (x :: xs) 0 = some x := atI_nat (xs := x :: xs) (k := 0) rfl (by simp)
@[simp] theorem atI_one (x y : D) (xs : List D) : atI (x :: y :: xs) 1 = some y := atI_nat (xs := x :: y :: xs) (k := 1) rfl (by simp)
@[simp] theorem atI_two (x y z : D) (xs : List D) : atI (x :: y :: z :: xs) 2 = some z := atI_nat (xs := x :: y :: z :: xs) (k := 2) rfl (by simp)
@[simp] theorem atI_three (x y z u : D) (xs : List D) : atI (x :: y :: z :: u :: xs) 3 = some u := atI_nat (xs := x :: y :: z :: u :: xs) (k := 3) rfl (by simp)
theorem cut_ints (ns : List Int) (lo hi : Option Int) : ∃ ms : List Int, cutD (ns.map D.int) lo hi = ms.map D.int := ⟨_, by
  unfold cutD
  rw [← List.map_drop, ← List.map_take]⟩
theorem pow_ok {i : Int} {k : Nat} (h : i.natAbs < 2 ^ 64) (hk : k ≤ 1000000) : cb (0 ≤ (k : Int) ∧ (k : Int) ≤ 1000000 ∧ i.natAbs < 2 ^ 64) = true := cb_t ⟨by omega, by omega, h⟩
theorem eq_zero_b (i : Int) : (i == 0) = decide (i = 0) := by by_cases h : i = 0 <;> simp [h]
@[simp] theorem kb_int_int : kitB "int" "int" = some true := by decide +kernel
@[simp] theorem kb_int_bool : kitB "int" "bool" = some false := by decide +kernel
@[simp] theorem kb_int_tuple : kitB "int" "tuple" = some false := by decide +kernel
@[simp] theorem kb_int_list : kitB "int" "list" = some false := by decide +kernel
@[simp] theorem kb_int_str : kitB "int" "str" = some false := by decide +kernel
@[simp] theorem kb_bool_int : kitB "bool" "int" = some true := by decide +kernel
@[simp] theorem kb_bool_bool : kitB "bool" "bool" = some true := by decide +kernel
@[simp] theorem kb_bool_tuple : kitB "bool" "tuple" = some false := by decide +kernel
@[simp] theorem kb_bool_list : kitB "bool" "list" = some false := by decide +kernel
@[simp] theorem kb_bool_str : kitB "bool" "str" = some false := by decide +kernel
@[simp] theorem kb_tuple_int : kitB "tuple" "int" = some false := by decide +kernel
@[simp] theorem kb_tuple_bool : kitB "tuple" "bool" = some false := by decide +kernel
@[simp] theorem kb_tuple_tuple : kitB "tuple" "tuple" = some true := by decide +kernel
@[simp] theorem kb_tuple_list : kitB "tuple" "list" = some false := by decide +kernel
@[simp] theorem kb_tuple_str : kitB "tuple" "str" = some false := by decide +kernel
@[simp] theorem kb_list_int : kitB "list" "int" = some false := by decide +kernel
@[simp] theorem kb_list_bool : kitB "list" "bool" = some false := by decide +kernel
@[simp] theorem kb_list_tuple : kitB "list" "tuple" = some false := by decide +kernel
@[simp] theorem kb_list_list : kitB "list" "list" = some true := by decide +kernel
@[simp] theorem kb_list_str : kitB "list" "str" = some false := by decide +kernel
@[simp] theorem kb_str_int : kitB "str" "int" = some false := by decide +kernel
@[simp] theorem kb_str_bool : kitB "str" "bool" = some false := by decide +kernel
@[simp] theorem kb_str_tuple : kitB "str" "tuple" = some false := by decide +kernel
@[simp] theorem kb_str_list : kitB "str" "list" = some false := by decide +kernel
@[simp] theorem kb_str_str : kitB "str" "str" = some true := by decide +kernel
@[simp] theorem kb_NoneType_int : kitB "NoneType" "int" = some false := by decide +kernel
@[simp] theorem kb_NoneType_bool : kitB "NoneType" "bool" = some false := by decide +kernel
@[simp] theorem kb_NoneType_tuple : kitB "NoneType" "tuple" = some false := by decide +kernel
@[simp] theorem kb_NoneType_list : kitB "NoneType" "list" = some false := by decide +kernel
@[simp] theorem kb_NoneType_str : kitB "NoneType" "str" = some false := by decide +kernel
/-! ### comprehensions over ints -/
theorem lc_ints' (i : Nat) (f : Sl → Res D) (h : Int → Int) (ρ : Sl) : ∀ (ns acc : List Int), (∀ n ∈ ns, f (ρ.set i (.v (.int n))) = .ok (.int (h n))) → acc.length + ns.length ≤ 100000 → lcRun (PF.gName i) tYesF f ρ (ns.map D.int) (acc.map D.int) = .ok ((acc ++ ns.map h).map D.int)
  | [], acc, _, _ => by simp [lcRun]
  | n :: ns, acc, hf, hl => by
    have e1 := hf n (by simp)
    have hlt : (acc.map D.int).length < 16777216 := by simp at hl ⊢; omega
    have ih := lc_ints' i f h ρ ns (acc ++ [h n]) (fun m hm => hf m (by simp [hm])) (by simp at hl ⊢; omega)
    rw [List.map_cons]
    unfold lcRun
    simp only [PF.gName, tYesF, Res.nx, Res.bind_ok, if_true, e1, hlt]
    simpa using ih
theorem lc_ints (i : Nat) (f : Sl → Res D) (h : Int → Int) (ρ : Sl) (ns : List Int) (hf : ∀ n ∈ ns, f (ρ.set i (.v (.int n))) = .ok (.int (h n))) (hl : ns.length ≤ 100000) : lcRun (PF.gName i) tYesF f ρ (ns.map D.int) [] = .ok ((ns.map h).map D.int) := by
  have := lc_ints' i f h ρ ns [] hf (by simpa using hl)
  simpa using this
/-! ### the greatest common part of a list -/
def G (p : Nat) : List Int → Nat
  | [] => p
  | n :: ns => G (Nat.gcd p n.natAbs) ns
def Bd (k : Nat) (ns : List Int) : Prop := ∀ n ∈ ns, n.natAbs < 2 ^ k
theorem b_gcd {p q k : Nat} (hp : p < 2 ^ k) (hq : q < 2 ^ k) : Nat.gcd p q < 2 ^ k := by
  by_cases h : p = 0
  · subst h; simpa using hq
  · exact Nat.lt_of_le_of_lt (Nat.gcd_le_left _ (by omega)) hp
theorem G_lt {k : Nat} : ∀ (ns : List Int) (p : Nat), p < 2 ^ k → Bd k ns → G p ns < 2 ^ k
  | [], p, hp, _ => hp
  | n :: ns, p, hp, h => G_lt ns _ (b_gcd hp (h n (by simp))) fun m hm => h m (by simp [hm])
theorem Bd.up {k l : Nat} {ns : List Int} (h : Bd k ns) (hl : k ≤ l) : Bd l ns := fun n hn => b_up (h n hn) hl
theorem Bd.mul {k l : Nat} {ns : List Int} {f : Int} (h : Bd k ns) (hf : f.natAbs < 2 ^ l) : Bd (l + k) (ns.map (f * ·)) := fun n hn => by
  obtain ⟨m, hm, rfl⟩ := List.mem_map.mp hn
  exact b_mul hf (h m hm)
/-! ### comprehensions in general -/
theorem lc_map' {α : Type} {g : FG} {f : Sl → Res D} {ρ : Sl} (e h : α → D) : ∀ (xs : List α) (acc : List D), (∀ x ∈ xs, ∃ ρ1, g (e x) ρ = some ρ1 ∧ f ρ1 = .ok (h x)) → acc.length + xs.length ≤ 100000 → lcRun g tYesF f ρ (xs.map e) acc = .ok (acc ++ xs.map h)
  | [], acc, _, _ => by simp [lcRun]
  | x :: xs, acc, hf, hl => by
    obtain ⟨ρ1, h1, h2⟩ := hf x (by simp)
    have hlt : acc.length < 16777216 := by simp at hl; omega
    have ih := lc_map' e h xs (acc ++ [h x]) (fun m hm => hf m (by simp [hm])) (by simp at hl ⊢; omega)
    rw [List.map_cons]
    unfold lcRun
    simp only [h1, tYesF, Res.nx, Res.bind_ok, if_true, h2, hlt]
    simpa using ih
theorem lc_map {α : Type} {g : FG} {f : Sl → Res D} {ρ : Sl} (e h : α → D) (xs : List α) (hf : ∀ x ∈ xs, ∃ ρ1, g (e x) ρ = some ρ1 ∧ f ρ1 = .ok (h x)) (hl : xs.length ≤ 100000) : lcRun g tYesF f ρ (xs.map e) [] = .ok (xs.map h) := by
  have := lc_map' e h xs [] hf (by simpa using hl)
  simpa using this
theorem dBls_of {α : Type} (p : α → Bool) : ∀ xs : List α, dBls (xs.map fun x => D.bl (p x)) = some (xs.map p)
  | [] => rfl
  | x :: xs => by simp [dBls, dBls_of p xs]
theorem dInts_of {α : Type} (p : α → Int) : ∀ xs : List α, dInts (xs.map fun x => D.int (p x)) = some (xs.map p)
  | [] => rfl
  | x :: xs => by simp [dInts, dInts_of p xs]
/-! ### vectors -/
def vec (ns : List Int) : D := .tup (ns.map D.int)
theorem eqvA_ints : ∀ a b : List Int, PyData.eqvAll (a.map PyData.int) (b.map PyData.int) = decide (a = b)
  | [], [] => by simp [PyData.eqvAll]
  | [], _ :: _ => by simp [PyData.eqvAll]
  | _ :: _, [] => by simp [PyData.eqvAll]
  | x :: a, y :: b => by
    simp only [List.map_cons, PyData.eqvAll, eqvA_ints a b, PyData.eqv]
    by_cases h : x = y <;> simp [h]
theorem eqv_vec (a b : List Int) : eqv (vec a) (vec b) = decide (a = b) := by simp [vec, eqv, D.py, pyA_ints, PyData.eqv, eqvA_ints]
@[simp] theorem eqOk_vec (a : List Int) : eqOk (vec a) = true := eqOk_ints a
theorem eqOk_pt (ns : List Int) (d : Int) : eqOk (.tup [vec ns, .int d]) = true := sh_of (by simp [vec, D.py, D.pyA, PyData.canLay0, PyData.canLayAll0, pyA_ints, lay_ints]) (by simp [vec, D.py, D.pyA, PyData.depth, PyData.depthAll, pyA_ints, dep_ints])
theorem eqv_pt (ns ms : List Int) (d e : Int) : eqv (.tup [vec ns, .int d]) (.tup [vec ms, .int e]) = (decide (ns = ms) && decide (d = e)) := by
  by_cases h : d = e <;> simp [vec, eqv, D.py, D.pyA, pyA_ints, PyData.eqv, PyData.eqvAll, eqvA_ints, h]
theorem eqOk_str {x : Str} (h : PyData.strOk x = true) : eqOk (.str x) = true := sh_of (by simp [D.py, PyData.canLay0, h]) (by simp [D.py, PyData.depth])
@[simp] theorem eqv_str (x y : Str) : eqv (.str x) (.str y) = (x == y) := by simp [eqv, D.py, PyData.eqv]
def Sm (ns : List Int) : Prop := ∀ n ∈ ns, n.natAbs < 18446744073709551616
def dotZ : List Int → List Int → Int
  | x :: xs, y :: ys => x * y + dotZ xs ys
  | _, _ => 0
theorem zip_ints : ∀ a b : List Int, zipD (a.map D.int) (b.map D.int) = (a.zip b).map fun z => D.tup [.int z.1, .int z.2]
  | [], _ => by simp [zipD]
  | _ :: _, [] => by simp [zipD]
  | x :: a, y :: b => by simp [zipD, zip_ints a b]
theorem dot_sum : ∀ a b : List Int, ((a.zip b).map fun z => z.1 * z.2).sum = dotZ a b
  | [], _ => by simp [dotZ]
  | _ :: _, [] => by simp [dotZ]
  | x :: a, y :: b => by simp [dotZ, dot_sum a b]
@[simp] theorem thaw_vec (ns : List Int) : thaw (vec ns) = .ok (vec ns) := rfl
@[simp] theorem thaw_bl (b : Bool) : thaw (.bl b) = .ok (.bl b) := rfl
@[simp] theorem thaw_int (i : Int) : thaw (.int i) = .ok (.int i) := rfl
@[simp] theorem thaw_tup (ds : List D) : thaw (.tup ds) = .ok (.tup ds) := rfl
@[simp] theorem thaw_lst (ds : List D) : thaw (.lst ds) = .ok (.lst ds) := rfl
@[simp] theorem thaw_fr (ds : List D) : thaw (.fr ds) = .ok (.lst ds) := rfl
@[simp] theorem thaw_non : thaw .non = .ok .non := rfl
/-- a list or tuple of ints -/
def allI : List D → Option (List Int)
  | [] => some []
  | .int i :: ds => (allI ds).map (i :: ·)
  | _ => none
theorem allI_map : ∀ ns : List Int, allI (ns.map D.int) = some ns
  | [] => rfl
  | n :: ns => by simp [allI, allI_map ns]
inductive SeqI : D → List Int → Prop
  | t (ns : List Int) : SeqI (.tup (ns.map D.int)) ns
  | l (ns : List Int) : SeqI (.lst (ns.map D.int)) ns
def seqI (d : D) : Option (List Int) := match d with
  | .tup ds => allI ds
  | .lst ds => allI ds
  | _ => none
theorem allI_eq : ∀ {ds : List D} {ns : List Int}, allI ds = some ns → ds = ns.map D.int
  | [], ns, h => by cases h; rfl
  | d :: r, ns, h => by
    cases d <;> first | cases h | skip
    rename_i i
    simp only [allI, Option.map_eq_some_iff] at h
    obtain ⟨ms, h1, rfl⟩ := h
    rw [allI_eq h1]
    rfl
@[simp] theorem seqI_t (ns : List Int) : seqI (.tup (ns.map D.int)) = some ns := allI_map ns
@[simp] theorem seqI_l (ns : List Int) : seqI (.lst (ns.map D.int)) = some ns := allI_map ns
@[simp] theorem seqI_v (ns : List Int) : seqI (vec ns) = some ns := allI_map ns
theorem ix_seqI {d : D} {ns : List Int} {i : Int} {k : Nat} (h : seqI d = some ns) (hi : i = (k : Int)) (hk : k < ns.length) : oIx d (.int i) = .ok (.int ns[k]) := by
  have key : ∀ ds : List D, allI ds = some ns → atI ds i = some (.int ns[k]) := fun ds e => by
    have e' := allI_eq e
    subst e'
    rw [atI_nat hi (by simpa using hk), nth_ints]
  cases d <;> first | cases h | skip
  · rename_i ds; simp only [oIx, key ds h]
  · rename_i ds; simp only [oIx, key ds h]
theorem len_seqI {d : D} {ns : List Int} (h : seqI d = some ns) : bLen d = .ok (.int (ns.length : Int)) := by
  cases d <;> first | cases h | skip
  · rename_i ds; simp [bLen, allI_eq h]
  · rename_i ds; simp [bLen, allI_eq h]
@[simp] theorem oIxT0 (x : D) (xs : List D) : oIx (.tup (x :: xs)) (.int 0) = .ok x := by simp only [oIx, atI_zero]
@[simp] theorem oIxT1 (x y : D) (xs : List D) : oIx (.tup (x :: y :: xs)) (.int 1) = .ok y := by simp only [oIx, atI_one]
@[simp] theorem oIxT2 (x y z : D) (xs : List D) : oIx (.tup (x :: y :: z :: xs)) (.int 2) = .ok z := by simp only [oIx, atI_two]
theorem leC {α : Type} {x c : Nat} {a b : α} (h : x ≤ c) : (if x ≤ c then a else b) = a := if_pos h
theorem ltC {α : Type} {x c : Nat} {a b : α} (h : x < c) : (if x < c then a else b) = a := if_pos h
@[simp] theorem oIxL0 (x : D) (xs : List D) : oIx (.lst (x :: xs)) (.int 0) = .ok x := by simp only [oIx, atI_zero]
@[simp] theorem oIxL1 (x y : D) (xs : List D) : oIx (.lst (x :: y :: xs)) (.int 1) = .ok y := by simp only [oIx, atI_one]
@[simp] theorem oIxL2 (x y z : D) (xs : List D) : oIx (.lst (x :: y :: z :: xs)) (.int 2) = .ok z := by simp only [oIx, atI_two]
end ML

set_option Elab.async false
set_option linter.all false
set_option maxRecDepth 100000
set_option maxHeartbeats 4000000
/-! What the defs that every law has (mix, row, common, is_whole, is_tuple) answer. Printed from LC.tpl, @ for the law's short name. -/
namespace LC_k01
open PySem L2 PF ML S_k01

theorem fmod_b (i m : Int) (h : 0 < m) : 0 ≤ i.fmod m ∧ i.fmod m < m := by
  rw [Int.fmod_eq_emod_of_nonneg _ (by omega)]
  exact ⟨Int.emod_nonneg _ (by omega), Int.emod_lt_of_pos _ (by omega)⟩
theorem mix_ok (c k : Int) : ∃ z, f_ulaw_mix [.int c, .int k] = .ok (.int z) := by
  have h1 : ∀ i, mulOk i 48271 = true := fun i => mulOk_r (by decide)
  have h2 : ∀ i, mulOk i 69621 = true := fun i => mulOk_r (by decide)
  have h3 : ∀ i, mulOk i 40692 = true := fun i => mulOk_r (by decide)
  have h4 : ∀ i, mulOk i 16807 = true := fun i => mulOk_r (by decide)
  have h5 : ∀ i : Int, mulOk (i.fmod 2147483647) (i.fmod 2147483647) = true := fun i => by
    have := fmod_b i 2147483647 (by decide)
    exact mulOk_l (by omega)
  have h6 : divOk 8 = true := divOk_s (by decide) (by decide)
  have key : ∀ (a b : Int), a = (c * 48271 + k * 69621 + 11).fmod 2147483647 → b = (a * a + k * 40692 + 7).fmod 2147483399 → f_ulaw_mix [.int c, .int k] = .ok (.int (((b * 16807 + a).fmod 2147483587).fdiv 8)) := by
    intro a b ea eb
    subst ea eb
    simp [f_ulaw_mix, g_ulaw_mix, h1, h2, h3, h4, h5, h6]
  exact ⟨_, key _ _ rfl rfl⟩
def rowI (ns : List Int) (a m : Int) (n : Nat) (ds : List D) (ρ : Sl) : Prop := ∃ (c r : Int) (cs ks : List Int) (kc : Cell), ds = ks.map D.int ∧ cs.length + ds.length = n ∧ ρ = [.v (.rol (ns.map D.int)), .v (.int a), .v (.int m), .v (.int c), .o (cs.map D.int), .v (.int r), kc]
theorem row_step {ns : List Int} {a m : Int} {n : Nat} (hn : n ≤ 1000) (d : D) (ds : List D) (ρ : Sl) (h : rowI ns a m n (d :: ds) ρ) : ∃ ρ1, gName 6 d ρ = some ρ1 ∧ ∃ ρ2, (b1_ulaw_row ρ1 = .nx ρ2 ∨ b1_ulaw_row ρ1 = .ct ρ2) ∧ rowI ns a m n ds ρ2 := by
  obtain ⟨c, r, cs, ks, kc, h1, h2, rfl⟩ := h
  cases ks with
  | nil => cases h1
  | cons k ks =>
    cases h1
    refine ⟨_, rfl, ?_⟩
    have hl : cs.length < 16777216 := by simp at h2; omega
    have h6 : divOk 1009 = true := divOk_s (by decide) (by decide)
    obtain ⟨z, hz⟩ := mix_ok c k
    have hA : ∀ ρ2, ρ2 = [.v (.rol (ns.map D.int)), .v (.int a), .v (.int m), .v (.int c), .o ((cs ++ [z]).map D.int), .v (.int r), .v (.int k)] → rowI ns a m n (ks.map D.int) ρ2 := fun ρ2 e => ⟨c, r, cs ++ [z], ks, _, rfl, by simp at h2 ⊢; omega, e⟩
    have hB : ∀ ρ2, ρ2 = [.v (.rol (ns.map D.int)), .v (.int a), .v (.int m), .v (.int c), .o ((cs ++ [r.fmod 1009]).map D.int), .v (.int (r.fdiv 1009)), .v (.int k)] → rowI ns a m n (ks.map D.int) ρ2 := fun ρ2 e => ⟨c, r.fdiv 1009, cs ++ [r.fmod 1009], ks, _, rfl, by simp at h2 ⊢; omega, e⟩
    cases e1 : cb (1000000000000000000 ≤ (if c < 0 then -c else c)) <;> cases e2 : cb (0 < r)
    · exact ⟨_, .inl (by simp [-cb_iff, -cb_nif, b1_ulaw_row, e1, e2, hl, hz]; rfl), hA _ (by simp)⟩
    · exact ⟨_, .inl (by simp [-cb_iff, -cb_nif, b1_ulaw_row, e1, e2, hl, hz]; rfl), hA _ (by simp)⟩
    · exact ⟨_, .inl (by simp [-cb_iff, -cb_nif, b1_ulaw_row, e1, e2, hl, hz]; rfl), hA _ (by simp)⟩
    · exact ⟨_, .inl (by simp [-cb_iff, -cb_nif, b1_ulaw_row, e1, e2, hl, h6]; rfl), hB _ (by simp)⟩
theorem row_ok (ns : List Int) (hns : ns.length ≤ 63) (a : Int) (ha : 0 ≤ a) (n : Nat) (hn : n ≤ 1000) : ∃ cs : List Int, cs.length = n ∧ f_ulaw_row [.rol (ns.map D.int), .int a, .int n] = .ok (.fr (cs.map D.int)) := by
  have fin : ∀ c r : Int, ∃ ρ', forRun (gName 6) b1_ulaw_row (rngD 0 n) [.v (.rol (ns.map D.int)), .v (.int a), .v (.int n), .v (.int c), .o [], .v (.int r), .e] = .nx ρ' ∧ rowI ns a n n [] ρ' := fun c r =>
    for_inv (rowI ns a n n) (row_step hn) _ _ ⟨c, r, [], _, .e, rngD_ints 0 n, by simp [rngD], rfl⟩
  have hg := rng1_ok (n := n) (by omega)
  have key : ∀ c : Int, ∃ cs : List Int, cs.length = n ∧ (gSeq (gSetO 4 (fLst aNil))
    (gSeq (gSet 5 (sUn bAbs (sRd 3)))
    (gSeq (gFor (iRg1 (aCons (sVar 2) aNil)) (gName 6) b1_ulaw_row)
    (gRetO 4)))) [.v (.rol (ns.map D.int)), .v (.int a), .v (.int n), .v (.int c), .e, .e, .e] = .ret (.fr (cs.map D.int)) := fun c => by
    obtain ⟨ρ', h1, c', r', cs, ks, kc, h2, h3, rfl⟩ := fin c (if c < 0 then -c else c)
    refine ⟨cs, by simpa using h3, ?_⟩
    simp [-cb_iff, -cb_nif, -gRng1, hg, h1]
  have h7 : ∀ i, mulOk 7919 i = true := fun i => mulOk_l (by decide)
  have start : ∃ c : Int, (gSeq (gSet 3 (sVar 1)) (gIf (sTest (sOp oLt (sRd 1) (sUn bLen (sRd 0)))) (gSet 3 (sOp oIx (sRd 0) (sRd 1))) (gIf (sTest (sOp oGt (sUn bLen (sRd 0)) (sC (.int 0)))) (gSet 3 (sOp oAdd (sOp oIx (sRd 0) (sOp oMod (sRd 1) (sUn bLen (sRd 0)))) (sOp oMul (sC (.int 7919)) (sRd 1)))) gNil))) [.v (.rol (ns.map D.int)), .v (.int a), .v (.int n), .e, .e, .e, .e] = .nx [.v (.rol (ns.map D.int)), .v (.int a), .v (.int n), .v (.int c), .e, .e, .e] := by
    by_cases e1 : a < (ns.length : Int)
    · obtain ⟨z, hz⟩ := atI_ints ha e1
      exact ⟨z, by simp [-cb_iff, -cb_nif, cb_t e1, hz]⟩
    · by_cases e2 : (0 : Int) < (ns.length : Int)
      · obtain ⟨z, hz⟩ := atI_ints (ns := ns) (fmod_b a _ e2).1 (fmod_b a _ e2).2
        have e3 : ns ≠ [] := by intro h; subst h; simp at e2
        exact ⟨z + 7919 * a, by simp [-cb_iff, -cb_nif, cb_f e1, cb_t e2, cb_t (show 0 < ns.length by omega), hz, h7, e3]⟩
      · exact ⟨a, by simp [-cb_iff, -cb_nif, cb_f e1, cb_f e2, cb_f (show ¬ 0 < ns.length by omega)]⟩
  obtain ⟨c, hc⟩ := start
  obtain ⟨cs, h8, h9⟩ := key c
  refine ⟨cs, h8, ?_⟩
  have e : g_ulaw_row [.v (.rol (ns.map D.int)), .v (.int a), .v (.int n), .e, .e, .e, .e] = .ret (.fr (cs.map D.int)) := by
    rw [← h9]
    unfold g_ulaw_row
    exact seq_nx2 hc
  unfold f_ulaw_row
  exact semF_ret e
theorem euc : ∀ (k l r : Nat) (ds : List D) (kc : Cell), r < 2 ^ k → 2 * k + 2 ≤ ds.length → forRun (gName 2) b1_ulaw_common ds [.v (.int (l : Int)), .v (.int (r : Int)), kc] = .ret (.int ((Nat.gcd l r : Nat) : Int))
  | _, _, _, [], _, _, h => by simp at h
  | k, l, r, d :: ds, kc, hr, h => by
    by_cases h0 : r = 0
    · subst h0
      simp [forRun, b1_ulaw_common]
    · have hz : ¬ ((r : Int) = 0) := by omega
      have e1 : forRun (gName 2) b1_ulaw_common (d :: ds) [.v (.int (l : Int)), .v (.int (r : Int)), kc] = forRun (gName 2) b1_ulaw_common ds [.v (.int (r : Int)), .v (.int ((l % r : Nat) : Int)), .v d] := by
        simp [forRun, b1_ulaw_common, hz, h0, fmod_nat]
      rw [e1, Nat.gcd_comm, Nat.gcd_rec, Nat.gcd_comm]
      cases k with
      | zero => simp at hr; omega
      | succ k =>
        cases ds with
        | nil => simp at h
        | cons d' ds =>
          by_cases h1 : l % r = 0
          · simp [forRun, b1_ulaw_common, h1]
          · have hz : ¬ (((l % r : Nat) : Int) = 0) := by omega
            have e2 : forRun (gName 2) b1_ulaw_common (d' :: ds) [.v (.int (r : Int)), .v (.int ((l % r : Nat) : Int)), .v d] = forRun (gName 2) b1_ulaw_common ds [.v (.int ((l % r : Nat) : Int)), .v (.int ((r % (l % r) : Nat) : Int)), .v d'] := by
              simp only [forRun, PF.gName]
              simp [b1_ulaw_common, hz, h1, fmod_nat, -Int.natCast_emod]
            have hlt := half_rest (b := r) (r := l % r) (by omega) (Nat.mod_lt _ (by omega))
            rw [e2, euc k (l % r) (r % (l % r)) ds _ (by rw [Nat.pow_succ] at hr; omega) (by simp at h; omega)]
            rw [Nat.gcd_comm (l % r) (r % (l % r)), ← Nat.gcd_rec, Nat.gcd_comm]
theorem common_ok (a b : Int) {k : Nat} (hb : b.natAbs < 2 ^ k) (hk : k ≤ 400000) : f_ulaw_common [.int a, .int b] = .ok (.int ((Nat.gcd a.natAbs b.natAbs : Nat) : Int)) := by
  have h1 := bits_lt (b.natAbs : Int)
  have h2 : Builtin.Int.intBits (b.natAbs : Int) ≤ k := PyProof.Rows.intBits_le (by simpa using hb)
  rw [Int.natAbs_natCast] at h1
  have h3 := rng1_ok (n := 2 * Builtin.Int.intBits (b.natAbs : Int) + 4) (by omega)
  have h4 := euc _ a.natAbs b.natAbs (rngD 0 (2 * Builtin.Int.intBits (b.natAbs : Int) + 4)) .e h1 (by rw [rngD_len]; omega)
  have hm : ∀ i, mulOk 2 i = true := fun i => mulOk_l (by decide)
  rw [Int.natCast_add, Int.natCast_mul] at h3
  refine semF_ret ?_
  simp [-gRng1, g_ulaw_common, abs_nat, hm] at h3 h4 ⊢
  simp [-gRng1, h3, h4]
theorem whole_ok (i : Int) : f_ulaw_is_whole [.int i] = .ok (.bl true) := by simp [f_ulaw_is_whole, g_ulaw_is_whole]
theorem tuple_run (ρ : Sl) (h : ρ.length = 3) : ∀ (ns : List Int) (acc : List Bool), acc.length + ns.length ≤ 100000 → lcRun (gName 2) tYesF b1_ulaw_is_tuple ρ (ns.map D.int) (acc.map D.bl) = .ok ((acc ++ ns.map fun _ => true).map D.bl)
  | [], acc, _ => by simp [lcRun]
  | n :: ns, acc, hl => by
    have e1 : b1_ulaw_is_tuple (ρ.set 2 (.v (.int n))) = .ok (.bl true) := by
      simp [b1_ulaw_is_tuple, h, whole_ok]
    have hlt : (acc.map D.bl).length < 16777216 := by simp at hl ⊢; omega
    have ih := tuple_run ρ h ns (acc ++ [true]) (by simp at hl ⊢; omega)
    rw [List.map_cons]
    unfold lcRun
    simp only [PF.gName, tYesF, Res.nx, Res.bind_ok, if_true, e1, hlt]
    simpa using ih
theorem tuple_ok (ns : List Int) (h : ns.length ≤ 100000) : f_ulaw_is_tuple [.tup (ns.map D.int), .int (ns.length : Int)] = .ok (.bl true) := by
  have e := tuple_run [.v (.tup (ns.map D.int)), .v (.int (ns.length : Int)), .e] rfl ns [] (by simpa using h)
  simp only [List.map_nil, List.nil_append] at e
  have e2 : dBls ((ns.map fun _ => true).map D.bl) = some (ns.map fun _ => true) := dBls_ok _
  simp only [List.map_map] at e e2
  simp [f_ulaw_is_tuple, g_ulaw_is_tuple, e, e2]
end LC_k01

set_option Elab.async false
set_option linter.all false
set_option maxRecDepth 100000
set_option maxHeartbeats 4000000
/-! Texts of numbers (no program in sight). -/
namespace TX
open PySem L2 PF ML SX TL
abbrev dg (l : List Nat) : Prop := NumText.AllDigits l
abbrev val (l : List Nat) : Nat := NumText.digitsVal l
def can (l : List Nat) : Prop := l.length = 1 ∨ l.head? ≠ some 48
theorem val_snoc (r : List Nat) (d : Nat) : val (r ++ [d]) = val r * 10 + (d - 48) := by
  unfold val NumText.digitsVal
  rw [List.foldl_append]
  rfl
theorem dg_app {a b : List Nat} : dg (a ++ b) ↔ dg a ∧ dg b := by
  constructor
  · intro h
    exact ⟨fun c hc => h c (by simp [hc]), fun c hc => h c (by simp [hc])⟩
  · intro ⟨h, k⟩ c hc
    rcases List.mem_append.mp hc with q | q
    · exact h c q
    · exact k c q
theorem snoc_cases (l : List Nat) : l = [] ∨ ∃ r d, l = r ++ [d] := by
  rcases List.eq_nil_or_concat l with h | ⟨r, d, h⟩
  · exact .inl h
  · exact .inr ⟨r, d, by rw [h]; simp⟩
theorem val_pos : ∀ (n : Nat) (l : List Nat), l.length = n → dg l → l ≠ [] → l.head? ≠ some 48 → 1 ≤ val l ∧ numL (val l) = l := by
  intro n
  induction n with
  | zero => intro l h _ h2; exact absurd (List.length_eq_zero_iff.mp h) h2
  | succ n ih =>
    intro l hl hd hne hh
    rcases snoc_cases l with rfl | ⟨r, d, rfl⟩
    · exact absurd rfl hne
    · obtain ⟨dr, dd⟩ := dg_app.mp hd
      have hd1 := dd d (by simp)
      by_cases hr : r = []
      · subst hr
        have h48 : d ≠ 48 := fun e => hh (by simp [e])
        have e : val ([] ++ [d]) = d - 48 := by
          rw [val_snoc]
          show 0 * 10 + (d - 48) = _
          omega
        rw [e]
        refine ⟨by omega, ?_⟩
        rw [numL_lt (by omega)]
        simp
        omega
      · have hr2 : r.head? ≠ some 48 := fun e => hh (by
          cases r with
          | nil => exact absurd rfl hr
          | cons x r => simpa using e)
        obtain ⟨i1, i2⟩ := ih r (by simp at hl; omega) dr hr hr2
        rw [val_snoc]
        refine ⟨by omega, ?_⟩
        rw [numL_step (by omega)]
        have e1 : (val r * 10 + (d - 48)) / 10 = val r := by omega
        have e2 : 48 + (val r * 10 + (d - 48)) % 10 = d := by omega
        rw [e1, e2, i2]
theorem num_val {l : List Nat} (hd : dg l) (hne : l ≠ []) (h : can l) : numL (val l) = l := by
  by_cases c : l.head? = some 48
  · rcases h with h | h
    · match l, h with
      | [x], _ =>
        have : x = 48 := by simpa using c
        subst this
        rfl
    · exact absurd c h
  · exact (val_pos _ l rfl hd hne c).2
theorem num_head : ∀ n : Nat, 1 ≤ n → (numL n).head? ≠ some 48 := by
  intro n
  induction n using Nat.strongRecOn with
  | _ n ih =>
    intro hn
    by_cases h : n < 10
    · rw [numL_lt h]
      simp
      omega
    · rw [numL_step (by omega)]
      have := ih (n / 10) (by omega) (by omega)
      have ne := numL_ne (n / 10)
      cases e : numL (n / 10) with
      | nil => exact absurd e ne
      | cons x r =>
        rw [e] at this
        simpa using this
theorem num_can (n : Nat) : can (numL n) := by
  by_cases h : n = 0
  · subst h
    exact .inl (by rw [numL_lt (by decide)]; rfl)
  · exact .inr (num_head n (by omega))
theorem num_eq {l : List Nat} (hd : dg l) (hne : l ≠ []) : numL (val l) = l ↔ can l := ⟨fun h => by rw [← h]; exact num_can _, num_val hd hne⟩
/-! ### the text of a whole number -/
theorem tl_pos (n : Nat) : tl (strI (n : Int)) = numL n := tl_num n
theorem tl_neg (n : Nat) (h : 1 ≤ n) : tl (strI (-(n : Int))) = 45 :: numL n := by
  obtain ⟨m, rfl⟩ : ∃ m, n = m + 1 := ⟨n - 1, by omega⟩
  have e1 : toString (-((m + 1 : Nat) : Int)) = "-" ++ toString ((m + 1 : Nat) : Int) := by
    show Int.repr (Int.negSucc m) = "-" ++ Int.repr (Int.ofNat (m + 1))
    rfl
  unfold strI
  rw [e1]
  have e2 := tl_num (m + 1)
  rw [tl_ofString] at e2
  rw [tl_ofString, String.toList_append, List.map_append, e2]
  rfl
def sg (neg : Bool) (n : Nat) : Int := if neg then -(n : Int) else n
def sgL (neg : Bool) : List Nat := if neg then [45] else []
theorem tl_sg (neg : Bool) (n : Nat) : tl (strI (sg neg n)) = (if neg = true ∧ n ≠ 0 then [45] else []) ++ numL n := by
  cases neg with
  | false => exact tl_pos n
  | true =>
    by_cases h : n = 0
    · subst h
      exact tl_pos 0
    · have : (if true = true ∧ n ≠ 0 then [45] else []) ++ numL n = 45 :: numL n := by simp [h]
      rw [this]
      exact tl_neg n (by omega)
theorem num_no (n : Nat) (s : Nat) (h : s < 48 ∨ 57 < s) : s ∉ numL n := numL_free h
theorem split_one {c : Nat} : ∀ {a a' b b' : List Nat}, c ∉ a → c ∉ a' → a ++ c :: b = a' ++ c :: b' → a = a' ∧ b = b'
  | [], [], b, b', _, _, h => ⟨rfl, by simpa using h⟩
  | [], x :: a', b, b', _, h2, h => by
    simp at h
    exact absurd (by simp [h.1]) h2
  | x :: a, [], b, b', h1, _, h => by
    simp at h
    exact absurd (by simp [h.1]) h1
  | x :: a, y :: a', b, b', h1, h2, h => by
    simp at h
    obtain ⟨e1, e2⟩ := split_one (c := c) (a := a) (a' := a') (b := b) (b' := b') (fun z => h1 (by simp [z])) (fun z => h2 (by simp [z])) h.2
    exact ⟨by rw [h.1, e1], e2⟩
theorem no47 {l : List Nat} (h : dg l) : 47 ∉ l := fun z => by have := h 47 z; omega
theorem sgL_no (neg : Bool) {l : List Nat} (h : 47 ∉ l) : 47 ∉ sgL neg ++ l := by
  unfold sgL
  split <;> simp [h]
/-- a text without a stroke -/
theorem one_iff {neg : Bool} {h : List Nat} (hd : dg h) (hne : h ≠ []) : tl (strI (sg neg (val h))) = sgL neg ++ h ↔ can h ∧ ¬ (neg = true ∧ val h = 0) := by
  rw [tl_sg]
  cases neg with
  | false =>
    have e : (if false = true ∧ val h ≠ 0 then [45] else []) ++ numL (val h) = numL (val h) := by simp
    rw [e]
    show numL (val h) = h ↔ _
    rw [num_eq hd hne]
    simp
  | true =>
    by_cases z : val h = 0
    · have e : (if true = true ∧ val h ≠ 0 then [45] else []) ++ numL (val h) = [48] := by rw [z]; rfl
      rw [e]
      constructor
      · intro q
        have : (48 : Nat) = 45 ∧ [] = h := by simpa [sgL] using q
        exact absurd this.1 (by decide)
      · intro q
        exact absurd ⟨rfl, z⟩ q.2
    · have e : (if true = true ∧ val h ≠ 0 then [45] else []) ++ numL (val h) = 45 :: numL (val h) := by simp [z]
      rw [e]
      show 45 :: numL (val h) = 45 :: h ↔ _
      rw [List.cons.injEq, num_eq hd hne]
      simp [z]
/-- the text of a ratio -/
noncomputable def rt (p q : Int) : Str := if q = 1 then strI p else strI p ++ S [47] ++ strI q
theorem two_iff {neg : Bool} {h r : List Nat} (hd : dg h) (hne : h ≠ []) (rd : dg r) (rne : r ≠ []) (d0 : 1 ≤ val r) {a b g : Nat} (ea : val h = g * a) (eb : val r = g * b) (eg : g = Nat.gcd (val h) (val r)) :
    tl (rt (sg neg a) b) = sgL neg ++ (h ++ 47 :: r) ↔ (can h ∧ can r ∧ ¬ (neg = true ∧ val h = 0) ∧ 2 ≤ val r ∧ g = 1) := by
  have hn := no47 hd
  have rn := no47 rd
  have sn : ∀ m, 47 ∉ tl (strI (sg neg m)) := fun m => by
    rw [tl_sg]
    intro q
    rcases List.mem_append.mp q with q | q
    · split at q <;> simp at q
    · exact num_no m 47 (.inl (by decide)) q
  have b0 : b ≠ 0 := fun z => by rw [z, Nat.mul_zero] at eb; omega
  constructor
  · intro e
    unfold rt at e
    split at e
    · exfalso
      refine sn a ?_
      rw [e]
      simp
    · rename_i b1
      rw [tl_append, tl_append] at e
      have e' : tl (strI (sg neg a)) ++ 47 :: tl (strI (b : Int)) = (sgL neg ++ h) ++ 47 :: r := by
        have t47 : tl (S [47]) = [47] := rfl
        rw [t47] at e
        simpa using e
      obtain ⟨q1, q2⟩ := split_one (sn a) (sgL_no neg hn) e'
      rw [tl_pos] at q2
      have v : b = val r := by
        rw [← q2]
        exact (numL_val b).symm
      have g1 : g = 1 := by
        rw [← v] at eb
        have : 1 * b = g * b := by omega
        exact (Nat.eq_of_mul_eq_mul_right (by omega) this).symm
      subst g1
      have av : a = val h := by omega
      rw [av] at q1
      have o := (one_iff (neg := neg) hd hne).mp q1
      refine ⟨o.1, ?_, o.2, ?_, rfl⟩
      · rw [← q2]; exact num_can b
      · have : b ≠ 1 := fun z => b1 (by rw [z]; rfl)
        omega
  · intro ⟨c1, c2, c3, c4, c5⟩
    subst c5
    have av : a = val h := by omega
    have bv : b = val r := by omega
    unfold rt
    rw [if_neg (by omega), tl_append, tl_append, tl_pos, av, bv, (one_iff (neg := neg) hd hne).mpr ⟨c1, c3⟩, num_val rd rne c2]
    have t47 : tl (S [47]) = [47] := rfl
    rw [t47]
    simp
end TX

set_option Elab.async false
set_option linter.all false
set_option maxRecDepth 100000
set_option maxHeartbeats 4000000
/-! k01: readers and writers, step by step. -/
namespace MA_k01
open PySem L2 PF ML SX TL TX S_k01 LC_k01

theorem digs : ("0123456789" : Str).cps.toList = [48, 49, 50, 51, 52, 53, 54, 55, 56, 57] := by decide +kernel
theorem mem_digs (c : Nat) : c ∈ ("0123456789" : Str).cps.toList ↔ 48 ≤ c ∧ c ≤ 57 := by
  rw [digs]
  simp
  omega
theorem sgn_l (c : Nat) : (⟨#[c]⟩ : Str).cps.toList = [c] := rfl
theorem nin (c : Nat) : oNinS (.str ⟨#[c]⟩) (.str "0123456789") = .ok (.bl (!decide (48 ≤ c ∧ c ≤ 57))) := by
  simp only [oNinS, sgn_l]
  congr 3
  exact decide_eq_decide.mpr (mem_digs c)
theorem sq_S (l : List Nat) : dSeq (.str (S l)) = .ok (l.map fun c => D.str ⟨#[c]⟩) := rfl
theorem bl_S {l : List Nat} (h : l.length ≤ 1000) : bLen (.str (S l)) = .ok (.int l.length) := by
  simp only [bLen, S_len]
  rw [if_pos (by omega)]
theorem val_lt : ∀ (n : Nat) (l : List Nat), l.length = n → dg l → val l < 10 ^ n := by
  intro n
  induction n with
  | zero => intro l h _; rw [List.length_eq_zero_iff.mp h]; decide
  | succ n ih =>
    intro l hl hd
    rcases snoc_cases l with rfl | ⟨r, d, rfl⟩
    · simp at hl
    · obtain ⟨dr, dd⟩ := dg_app.mp hd
      have hd1 := dd d (by simp)
      have i := ih r (by simp at hl; omega) dr
      rw [val_snoc, Nat.pow_succ]
      omega
theorem loop_ok (x : D) : ∀ (l : List Nat) (c1 : Cell), dg l → ∃ c', forRun (PF.gName 1) b1_read_digits (l.map fun c => D.str ⟨#[c]⟩) [.v x, c1] = .nx [.v x, c']
  | [], c1, _ => ⟨c1, rfl⟩
  | c :: l, c1, h => by
    obtain ⟨c', ih⟩ := loop_ok x l (.v (.str ⟨#[c]⟩)) h.tail
    refine ⟨c', ?_⟩
    have hc := h.head
    have e := nin c
    rw [show decide (48 ≤ c ∧ c ≤ 57) = true from decide_eq_true hc] at e
    rw [List.map_cons]
    simp only [forRun, PF.gName]
    simpa [-oNinS, b1_read_digits, e] using ih
theorem loop_no (x : D) : ∀ (l : List Nat) (c1 : Cell), ¬ dg l → ∃ ρ', forRun (PF.gName 1) b1_read_digits (l.map fun c => D.str ⟨#[c]⟩) [.v x, c1] = .exc "BadNumber" [] ρ'
  | [], c1, h => absurd (fun c hc => by simp at hc) h
  | c :: l, c1, h => by
    rw [List.map_cons]
    simp only [forRun, PF.gName]
    have e := nin c
    by_cases hc : 48 ≤ c ∧ c ≤ 57
    · obtain ⟨ρ', ih⟩ := loop_no x l (.v (.str ⟨#[c]⟩)) (fun q => h fun d hd => by
        rcases List.mem_cons.mp hd with rfl | hd
        · exact hc
        · exact q d hd)
      refine ⟨ρ', ?_⟩
      rw [show decide (48 ≤ c ∧ c ≤ 57) = true from decide_eq_true hc] at e
      simpa [-oNinS, b1_read_digits, e] using ih
    · rw [show decide (48 ≤ c ∧ c ≤ 57) = false from decide_eq_false hc] at e
      exact ⟨[.v x, .v (.str ⟨#[c]⟩)], by simp [-oNinS, b1_read_digits, e]⟩
theorem rd_ok {l : List Nat} (h1 : 1 ≤ l.length) (h2 : l.length ≤ 40) (hd : dg l) : f_read_digits [.str (S l)] = .ok (.int (val l : Nat)) := by
  obtain ⟨c', e⟩ := loop_ok (.str (S l)) l .e hd
  have it : intText? (S l) = some ((val l : Nat) : Int) := intText_digits (x := S l) hd (fun z => by rw [show l = [] from z] at h1; simp at h1) (by rw [S_len]; omega)
  have b1 := bl_S (l := l) (by omega)
  have k1 : cb ((1 : Int) ≤ (l.length : Int)) = true := cb_t (by omega)
  have k2 : cb ((l.length : Int) ≤ 40) = true := cb_t (by omega)
  have k3 : cb (1 ≤ l.length) = true := cb_t (by omega)
  have k4 : cb (l.length ≤ 40) = true := cb_t (by omega)
  have b2 : bIntT (.str (S l)) = .ok (.int (val l : Nat)) := by
    simp only [bIntT, it, S_len]
    rw [if_pos (by omega)]
  have sq := sq_S l
  generalize S l = x at *
  simp [-cb_iff, -cb_nif, -bLen, -dSeq, -bIntT, f_read_digits, g_read_digits, b1, k1, k2, k3, k4, sq, e, b2]
theorem rd_no {l : List Nat} (hl : l.length ≤ 1000) (h : ¬ (1 ≤ l.length ∧ l.length ≤ 40 ∧ dg l)) : f_read_digits [.str (S l)] = .exc "BadNumber" [] := by
  have b1 := bl_S (l := l) hl
  have sq := sq_S l
  by_cases h1 : 1 ≤ l.length
  · have k1 : cb ((1 : Int) ≤ (l.length : Int)) = true := cb_t (by omega)
    have k3 : cb (1 ≤ l.length) = true := cb_t (by omega)
    by_cases h2 : l.length ≤ 40
    · have k2 : cb ((l.length : Int) ≤ 40) = true := cb_t (by omega)
      have k4 : cb (l.length ≤ 40) = true := cb_t (by omega)
      obtain ⟨ρ', e⟩ := loop_no (.str (S l)) l .e (fun q => h ⟨h1, h2, q⟩)
      generalize S l = x at *
      simp [-cb_iff, -cb_nif, -bLen, -dSeq, -bIntT, f_read_digits, g_read_digits, b1, k1, k2, k3, k4, sq, e]
    · have k2 : cb ((l.length : Int) ≤ 40) = false := cb_f (by omega)
      have k4 : cb (l.length ≤ 40) = false := cb_f (by omega)
      generalize S l = x at *
      simp [-cb_iff, -cb_nif, -bLen, -dSeq, -bIntT, f_read_digits, g_read_digits, b1, k1, k2, k3, k4]
  · have k1 : cb ((1 : Int) ≤ (l.length : Int)) = false := cb_f (by omega)
    have k3 : cb (1 ≤ l.length) = false := cb_f (by omega)
    generalize S l = x at *
    simp [-cb_iff, -cb_nif, -bLen, -dSeq, -bIntT, f_read_digits, g_read_digits, b1, k1, k3]
/-! ### the law's look at one number -/
theorem any_no (ρ : Sl) (h : ρ.length = 2) : ∀ (l : List Nat) (acc : List Bool), acc.length + l.length ≤ 100000 → lcRun (PF.gName 1) tYesF b1_ulaw_is_number ρ (l.map fun c => D.str ⟨#[c]⟩) (acc.map D.bl) = .ok ((acc ++ l.map fun c => !decide (48 ≤ c ∧ c ≤ 57)).map D.bl)
  | [], acc, _ => by simp [lcRun]
  | c :: l, acc, hl => by
    have e := nin c
    have e1 : b1_ulaw_is_number (ρ.set 1 (.v (.str ⟨#[c]⟩))) = .ok (.bl (!decide (48 ≤ c ∧ c ≤ 57))) := by
      simp [-oNinS, b1_ulaw_is_number, h, e]
    have hlt : (acc.map D.bl).length < 16777216 := by simp at hl ⊢; omega
    have ih := any_no ρ h l (acc ++ [!decide (48 ≤ c ∧ c ≤ 57)]) (by simp at hl ⊢; omega)
    rw [List.map_cons]
    unfold lcRun
    simp only [PF.gName, tYesF, Res.nx, Res.bind_ok, if_true, e1, hlt]
    simpa using ih
theorem any_dg (l : List Nat) : (l.map fun c => !decide (48 ≤ c ∧ c ≤ 57)).any id = true ↔ ¬ dg l := by
  constructor
  · intro h q
    obtain ⟨b, hb, hb2⟩ := List.any_eq_true.mp h
    obtain ⟨c, hc, rfl⟩ := List.mem_map.mp hb
    have := q c hc
    simp [this] at hb2
  · intro h
    refine Classical.byContradiction fun z => h fun c hc => Classical.byContradiction fun y => z (List.any_eq_true.mpr ⟨_, List.mem_map.mpr ⟨c, hc, rfl⟩, by simp only [id, decide_eq_false y, Bool.not_false]⟩)
theorem is_num (l : List Nat) (hl : l.length ≤ 1000) : ∃ b : Bool, f_ulaw_is_number [.str (S l)] = .ok (.bl b) ∧ (b = true ↔ 1 ≤ l.length ∧ l.length ≤ 40 ∧ dg l ∧ can l) := by
  have b1 := bl_S (l := l) hl
  have sq := sq_S l
  by_cases h1 : 1 ≤ l.length
  · have k1 : cb ((1 : Int) ≤ (l.length : Int)) = true := cb_t (by omega)
    have k3 : cb (1 ≤ l.length) = true := cb_t (by omega)
    by_cases h2 : l.length ≤ 40
    · have k2 : cb ((l.length : Int) ≤ 40) = true := cb_t (by omega)
      have k4 : cb (l.length ≤ 40) = true := cb_t (by omega)
      have e := any_no [.v (.str (S l)), .e] rfl l [] (by simp; omega)
      have dB : ∀ bs : List Bool, dBls (bs.map D.bl) = some bs := dBls_ok
      simp only [List.map_nil, List.nil_append] at e
      by_cases hd : dg l
      · have a1 : (l.map fun c => !decide (48 ≤ c ∧ c ≤ 57)).any id = false := by
          cases q : (l.map fun c => !decide (48 ≤ c ∧ c ≤ 57)).any id with
          | false => rfl
          | true => exact absurd hd ((any_dg l).mp q)
        obtain ⟨c, r, rfl⟩ : ∃ c r, l = c :: r := by
          cases l with
          | nil => simp at h1
          | cons c r => exact ⟨c, r, rfl⟩
        have x0 : oIx (.str (S (c :: r))) (.int 0) = .ok (.str ⟨#[c]⟩) := by
          have a0 : atI (c :: r) 0 = some c := by unfold atI ixN; simp
          simp only [oIx, S_len]
          rw [if_pos (by omega)]
          show (match atI (c :: r) 0 with | some c => Res.ok (D.str ⟨#[c]⟩) | none => .bad) = _
          rw [a0]
        have ok1 : eqOk (.str (⟨#[c]⟩ : Str)) = true := eqOk_str (by
          have := hd.head
          simp [PyData.strOk]
          omega)
        have ok2 : eqOk (.str ("0" : Str)) = true := eqOk_str (by decide +kernel)
        have ev : eqv (.str (⟨#[c]⟩ : Str)) (.str ("0" : Str)) = decide (c = 48) := by
          rw [eqv_str]
          have : ("0" : Str) = S [48] := by decide +kernel
          rw [this]
          have := S_beq_eq (a := [c]) (b := [48])
          rw [show (S [c] : Str) = ⟨#[c]⟩ from rfl] at this
          rw [this]
          exact decide_eq_decide.mpr (by simp)
        have ei : eqv (.int ((c :: r).length : Nat)) (.int 1) = decide ((c :: r).length = 1) := by
          rw [eqv_int]
          by_cases q : (c :: r).length = 1
          · rw [q]; rfl
          · rw [decide_eq_false q]
            exact beq_false_of_ne (by omega)
        refine ⟨decide ((c :: r).length = 1) || !decide (c = 48), ?_, ?_⟩
        · have w : wipeS [.v (.str (S (c :: r))), .e] [1] = [.v (.str (S (c :: r))), .e] := rfl
          have an : bAny (.lst ((List.map (fun c => !decide (48 ≤ c ∧ c ≤ 57)) (c :: r)).map D.bl)) = .ok (.bl false) := by
            simp only [bAny, seqOf, dB, a1]
          generalize (List.map (fun c => !decide (48 ≤ c ∧ c ≤ 57)) (c :: r)).map D.bl = BS at *
          generalize (List.map (fun c => D.str ⟨#[c]⟩) (c :: r)) = CS at *
          generalize S (c :: r) = x at *
          generalize (c :: r).length = n at *
          have okn : eqOk (.int (n : Int)) = true := eqOk_int _
          cases q : decide (n = 1) with
          | true => 
            rw [q] at ei
            simp [-cb_iff, -cb_nif, -bLen, -dSeq, -oIx, -bAny, -wipeS, -eqv_int, f_ulaw_is_number, g_ulaw_is_number, b1, k1, k2, k3, k4, sq, w, e, an, x0, ok1, ok2, ev, ei, okn]
          | false => 
            rw [q] at ei
            simp [-cb_iff, -cb_nif, -bLen, -dSeq, -oIx, -bAny, -wipeS, -eqv_int, f_ulaw_is_number, g_ulaw_is_number, b1, k1, k2, k3, k4, sq, w, e, an, x0, ok1, ok2, ev, ei, okn]
        · simp only [Bool.or_eq_true, decide_eq_true_eq, Bool.not_eq_true', decide_eq_false_iff_not]
          constructor
          · intro q
            refine ⟨h1, h2, hd, ?_⟩
            rcases q with q | q
            · exact .inl q
            · exact .inr (by simpa using q)
          · intro ⟨_, _, _, q⟩
            rcases q with q | q
            · exact .inl q
            · exact .inr (by simpa using q)
      · have a1 := (any_dg l).mpr hd
        refine ⟨false, ?_, by simp [hd]⟩
        have w : wipeS [.v (.str (S l)), .e] [1] = [.v (.str (S l)), .e] := rfl
        have an : bAny (.lst ((l.map (fun c => !decide (48 ≤ c ∧ c ≤ 57))).map D.bl)) = .ok (.bl true) := by
          simp only [bAny, seqOf, dB, a1]
        generalize (l.map (fun c => !decide (48 ≤ c ∧ c ≤ 57))).map D.bl = BS at *
        generalize (l.map (fun c => D.str ⟨#[c]⟩)) = CS at *
        generalize S l = x at *
        simp [-cb_iff, -cb_nif, -bLen, -dSeq, -oIx, -bAny, -wipeS, f_ulaw_is_number, g_ulaw_is_number, b1, k1, k2, k3, k4, sq, w, e, an]
    · have k2 : cb ((l.length : Int) ≤ 40) = false := cb_f (by omega)
      have k4 : cb (l.length ≤ 40) = false := cb_f (by omega)
      refine ⟨false, ?_, by simp; omega⟩
      generalize S l = x at *
      simp [-cb_iff, -cb_nif, -bLen, -dSeq, f_ulaw_is_number, g_ulaw_is_number, b1, k1, k2, k3, k4]
  · have k1 : cb ((1 : Int) ≤ (l.length : Int)) = false := cb_f (by omega)
    have k3 : cb (1 ≤ l.length) = false := cb_f (by omega)
    refine ⟨false, ?_, by simp; omega⟩
    generalize S l = x at *
    simp [-cb_iff, -cb_nif, -bLen, -dSeq, f_ulaw_is_number, g_ulaw_is_number, b1, k1, k3]
/-! ### ratios and their texts -/
theorem fit_of {i : Int} (h : i.natAbs < 10 ^ 100) : fitS i = true := by
  refine cb_t ?_
  by_cases c : i.natAbs = 0
  · rw [c]; decide
  · have h2 := Nat.log2_self_le c
    have h3 : 2 ^ i.natAbs.log2 < 2 ^ 400 := Nat.lt_of_le_of_lt h2 (Nat.lt_trans h (by decide))
    have h4 := (Nat.pow_lt_pow_iff_right (by decide : 1 < 2)).mp h3
    omega
theorem sg_abs (neg : Bool) (n : Nat) : (sg neg n).natAbs = n := by
  unfold sg
  split <;> omega
theorem str_len {i : Int} (h : i.natAbs < 10 ^ 100) : (strI i).length ≤ 101 := by
  have e : i = sg (decide (i < 0)) i.natAbs := by
    unfold sg
    by_cases c : i < 0
    · rw [decide_eq_true c]
      simp only [if_true]
      omega
    · rw [decide_eq_false c]
      simp only [Bool.false_eq_true, if_false]
      omega
  rw [e, len_tl, tl_sg, List.length_append]
  have := numL_len (n := i.natAbs) (k := 100) (by decide) h
  split <;> simp <;> omega
theorem slash : ("/" : Str) = S [47] := by decide +kernel
theorem emp (x : Str) : Str.empty ++ x = x := ext_tl (by rw [tl_append]; rfl)
theorem rt_len {p q : Int} (hp : p.natAbs < 10 ^ 100) (hq : q.natAbs < 10 ^ 100) : (rt p q).length ≤ 203 := by
  have h1 := str_len hp
  have h2 := str_len hq
  unfold rt
  split
  · omega
  · rw [len_tl, tl_append, tl_append, List.length_append, List.length_append]
    rw [len_tl] at h1 h2
    have : (tl (S [47])).length = 1 := rfl
    omega
theorem cat_len (x y : Str) : (x ++ y).length = x.length + y.length := by
  rw [len_tl, tl_append, List.length_append, ← len_tl, ← len_tl]
theorem S1 : (S [47]).length = 1 := rfl
theorem rtext_ok {p q : Int} (hp : p.natAbs < 10 ^ 100) (hq : q.natAbs < 10 ^ 100) : f_ratio_text [.tup [.int p, .int q]] = .ok (.str (rt p q)) := by
  have h1 := str_len hp
  have h2 := str_len hq
  have f1 := fit_of hp
  have f2 := fit_of hq
  have l1 : (strI p ++ S [47]).length ≤ 16777216 := by rw [cat_len, S1]; omega
  have l2 : (strI p ++ S [47] ++ strI q).length ≤ 16777216 := by rw [cat_len, cat_len, S1]; omega
  unfold rt
  by_cases c : q = 1
  · simp [-S, f_ratio_text, g_ratio_text, c, f1, slash]
  · have l0 : (strI p).length ≤ 16777216 := by omega
    simp [-S, f_ratio_text, g_ratio_text, c, f1, f2, slash, emp, l0, l1, l2]
theorem ltext_ok {p q : Int} (hp : p.natAbs < 10 ^ 100) (hq : q.natAbs < 10 ^ 100) : f_ulaw_text [.tup [.int p, .int q]] = .ok (.str (rt p q)) := by
  have h1 := str_len hp
  have h2 := str_len hq
  have f1 := fit_of hp
  have f2 := fit_of hq
  have l1 : (strI p).length + (S [47]).length ≤ 16777216 := by rw [S1]; omega
  have l2 : (strI p ++ S [47]).length + (strI q).length ≤ 16777216 := by rw [cat_len, S1]; omega
  unfold rt
  by_cases c : q = 1
  · simp [-S, f_ulaw_text, g_ulaw_text, c, f1, slash]
  · simp [-S, f_ulaw_text, g_ulaw_text, c, f1, f2, slash, l1, l2]
/-! ### lowest terms -/
theorem sg_div (neg : Bool) {n g a : Nat} (h : n = g * a) (hg : 1 ≤ g) : (sg neg n).fdiv (g : Int) = sg neg a := by
  unfold sg
  subst h
  have e0 : ((g * a : Nat) : Int) = (g : Int) * (a : Int) := by simp
  split
  · rw [e0, ← Int.mul_neg, Int.mul_fdiv_cancel_left _ (by omega)]
  · rw [e0, Int.mul_fdiv_cancel_left _ (by omega)]
theorem make_ok (neg : Bool) {n d a b g : Nat} (hd : 1 ≤ d) (hd2 : d < 10 ^ 100) (eg : g = Nat.gcd n d) (ea : n = g * a) (eb : d = g * b) : f_make_ratio [.int (sg neg n), .int (d : Int)] = .ok (.tup [.int (sg neg a), .int (b : Int)]) := by
  have g1 : 1 ≤ g := by rw [eg]; exact Nat.gcd_pos_of_pos_right _ hd
  have gd : g ≤ d := by rw [eg]; exact Nat.gcd_le_right _ hd
  have e1 : bGcd (.int (sg neg n)) (.int (d : Int)) = .ok (.int (g : Int)) := by
    simp only [bGcd, sg_abs, Int.natAbs_natCast, ← eg]
  have e2 := sg_div neg ea g1
  have e3 : ((d : Nat) : Int).fdiv (g : Int) = (b : Int) := sg_div false eb g1
  have k : divOk (g : Int) = true := divOk_b (b := 400) (by omega) (by rw [Int.natAbs_natCast]; exact Nat.lt_of_le_of_lt gd (Nat.lt_trans hd2 (by decide))) (by decide)
  have d0 : ¬ ((d : Int) = 0) := by omega
  have d0' : ¬ d = 0 := by omega
  have dn : cb ((d : Int) < 0) = false := cb_f (by omega)
  simp [-cb_iff, -cb_nif, -bGcd, f_make_ratio, g_make_ratio, d0, d0', e1, dn, k, e2, e3]
theorem make_no (i : Int) : f_make_ratio [.int i, .int 0] = .exc "BadNumber" [] := by
  simp [f_make_ratio, g_make_ratio]
end MA_k01

set_option Elab.async false
set_option linter.all false
set_option maxRecDepth 100000
set_option maxHeartbeats 4000000
/-! k01: the program's reader and the law's at one text. -/
namespace MB_k01
open PySem L2 PF ML SX TL TX S_k01 LC_k01 MA_k01

/-- fit to be compared -/
abbrev Asc (l : List Nat) : Prop := ∀ c ∈ l, c < 128
theorem ok_S {l : List Nat} (h : Asc l) : eqOk (.str (S l)) = true := eqOk_str (by
  unfold PyData.strOk
  rw [← Array.all_toList]
  exact List.all_eq_true.mpr fun c hc => decide_eq_true (Nat.lt_trans (h c hc) (by decide)))
theorem ev_S (a b : List Nat) : eqv (.str (S a)) (.str (S b)) = decide (a = b) := by rw [eqv_str, S_beq_eq]
theorem minus : ("-" : Str) = S [45] := by decide +kernel
theorem empS : Str.empty = S [] := rfl
theorem cut_to (l : List Nat) (k : Nat) : cutS (S l) none (some (k : Int)) = S (l.take k) := by
  rw [C8.cutS_slice, slice_to (by omega), Int.toNat_natCast]
theorem cut_from (l : List Nat) (k : Nat) : cutS (S l) (some (k : Int)) none = S (l.drop k) := by
  rw [C8.cutS_slice, slice_from (by omega), Int.toNat_natCast]
/-- a text, its sign, its body -/
structure Tx (l : List Nat) (neg : Bool) (b : List Nat) : Prop where
  eq : l = sgL neg ++ b
  pos : neg = false → b.head? ≠ some 45
  len : l.length ≤ 900
  asc : Asc l
theorem Tx.mk' (l : List Nat) (hl : l.length ≤ 900) (ha : Asc l) : ∃ neg b, Tx l neg b := by
  cases l with
  | nil => exact ⟨false, [], rfl, fun _ => by simp, hl, ha⟩
  | cons c r =>
    by_cases h : c = 45
    · subst h
      exact ⟨true, r, rfl, (fun h => by cases h), hl, ha⟩
    · exact ⟨false, c :: r, rfl, fun _ => by simpa using h, hl, ha⟩
section
variable {l b : List Nat} {neg : Bool}
theorem Tx.lb (T : Tx l neg b) : b.length ≤ 900 := by
  have := T.len
  rw [T.eq, List.length_append] at this
  omega
theorem Tx.ab (T : Tx l neg b) : Asc b := fun c hc => T.asc c (by rw [T.eq]; simp [hc])
theorem Tx.c1 (T : Tx l neg b) : ∃ y, cutS (S l) none (some 1) = y ∧ eqOk (.str y) = true ∧ eqv (.str y) (.str (S [45])) = neg := by
  refine ⟨S (l.take 1), cut_to l 1, ok_S fun c hc => T.asc c (List.mem_of_mem_take hc), ?_⟩
  rw [ev_S, T.eq]
  cases neg with
  | true => exact decide_eq_true rfl
  | false =>
    refine decide_eq_false ?_
    show ¬ (b.take 1 = [45])
    intro q
    refine T.pos rfl ?_
    cases b with
    | nil => simp at q
    | cons c r => simpa using q
theorem Tx.c2 (T : Tx l true b) : cutS (S l) (some 1) none = S b := by
  have := cut_from l 1
  rw [T.eq] at this
  rw [T.eq]
  exact this
end
theorem ok1 : eqOk (.str (S [45])) = true := ok_S (by decide)
theorem ok2 : eqOk (.str (S [47])) = true := ok_S (by decide)
theorem ok3 : eqOk (.str (S [])) = true := ok_S fun c hc => by cases hc
theorem ev1 : eqv (.str (S [47])) (.str (S [47])) = true := by rw [ev_S]; rfl
theorem ev2 : eqv (.str (S [])) (.str (S [47])) = false := by rw [ev_S]; rfl
theorem l47 : ((S [47]).length == 0) = false := by decide +kernel
theorem part_no {b : List Nat} (h : 47 ∉ b) : Txt.partition (S b) (S [47]) = (S b, S [], S []) := SX.partition_none (by simp) (par_head_none h)
theorem part_yes {h r : List Nat} (hh : 47 ∉ h) : Txt.partition (S (h ++ 47 :: r)) (S [47]) = (S h, S [47], S r) := SX.partition_some (by simp) (par_head (sep := []) r hh)
/-- the first look at a text: the sign, the body, its parts -/
theorem read_run {l b h r m : List Nat} {neg : Bool} (T : Tx l neg b) (hp : Txt.partition (S b) (S [47]) = (S h, S m, S r)) (R : Res D)
    (k : ∀ (neg' : Bool) (y : Str), neg' = neg → cutS (S l) none (some 1) = y → eqOk (.str y) = true → eqv (.str y) (.str (S [45])) = neg → semF 8 (gSeq (gSet 5 (sCall f_read_digits (aCons (sVar 2) aNil)))
    (gSeq (gSet 6 (sC (.int 1)))
    (gSeq (gIf (sTest (sOp oEq (sRd 3) (sC (.str "/")))) (gSet 6 (sCall f_read_digits (aCons (sVar 4) aNil))) gNil)
    (gSeq (gIf (sTest (sOp oEq (sSl (sRd 0) pNone (pSome (sC (.int 1)))) (sC (.str "-")))) (gSet 5 (sUn oNeg (sRd 5))) gNil)
    (gSeq (gSet 7 (sCall f_make_ratio (aCons (sVar 5) (aCons (sVar 6) aNil))))
    (gSeq (gIf (sTest (sOp oNe (sCall f_ratio_text (aCons (sVar 7) aNil)) (sRd 0))) (gRaise "BadNumber") gNil)
    (gRet (sVar 7)))))))) [.str (S l), .str (S b), .str (S h), .str (S m), .str (S r)] = R) : f_read_ratio [.str (S l)] = R := by
  obtain ⟨y, y1, y2, y3⟩ := T.c1
  have k := k neg y rfl y1 y2 y3
  rw [← k]
  have z1 : (S l).length ≤ 16777216 := by rw [S_len]; have := T.len; omega
  have z2 : (S b).length ≤ 16777216 := by rw [S_len]; have := T.lb; omega
  have z3 := l47
  unfold f_read_ratio g_read_ratio
  cases neg with
  | true =>
    have y4 := T.c2
    generalize S l = x at *
    generalize S b = bb at *
    generalize S h = hh at *
    generalize S r = rr at *
    generalize S m = mm at *
    simp [-eqv_str, minus, slash, y1, y2, y3, y4, z1, z2, z3, S1, ok1, hp]
  | false =>
    have e : S b = S l := by rw [T.eq]; rfl
    rw [e] at hp z2 ⊢
    generalize S l = x at *
    generalize S h = hh at *
    generalize S r = rr at *
    generalize S m = mm at *
    simp [-eqv_str, minus, slash, y1, y2, y3, z1, z2, z3, S1, ok1, hp]
theorem no_neg (i : Int) : oNeg (.int i) = .ok (.int (-i)) := rfl
theorem val_b {h : List Nat} (hl : h.length ≤ 40) (hd : dg h) : val h < 10 ^ 100 := Nat.lt_of_lt_of_le (val_lt _ h rfl hd) (Nat.pow_le_pow_right (by decide) (by omega))
theorem asc_dg {h : List Nat} (hd : dg h) : Asc h := fun c hc => by have := hd c hc; omega
theorem asc_num (n : Nat) : Asc (numL n) := asc_dg (numL_digits n)
theorem asc_sg (neg : Bool) (n : Nat) : Asc (tl (strI (sg neg n))) := fun c hc => by
  rw [tl_sg] at hc
  rcases List.mem_append.mp hc with q | q
  · split at q <;> simp at q
    omega
  · exact asc_num n c q
theorem asc_rt (neg : Bool) (a b : Nat) : Asc (tl (rt (sg neg a) (b : Int))) := fun c hc => by
  unfold rt at hc
  split at hc
  · exact asc_sg neg a c hc
  · rw [tl_append, tl_append] at hc
    rcases List.mem_append.mp hc with q | q
    · rcases List.mem_append.mp q with q | q
      · exact asc_sg neg a c q
      · rw [List.mem_singleton.mp q]; decide
    · exact asc_sg false b c q
theorem tlS (l : List Nat) : tl (S l) = l := rfl
theorem ev_tl (x : Str) (l : List Nat) : eqv (.str x) (.str (S l)) = decide (tl x = l) := by
  have := ev_S (tl x) l
  rw [show S (tl x) = x from mk_tl x] at this
  exact this
theorem ok_tl {x : Str} (h : Asc (tl x)) : eqOk (.str x) = true := by
  have := ok_S h
  rw [show S (tl x) = x from mk_tl x] at this
  exact this
/-- the head is no number -/
theorem pr_bad1 {l b h r m : List Nat} {neg : Bool} (T : Tx l neg b) (hp : Txt.partition (S b) (S [47]) = (S h, S m, S r)) (hl : h.length ≤ 1000) (no : ¬ (1 ≤ h.length ∧ h.length ≤ 40 ∧ dg h)) : f_read_ratio [.str (S l)] = .exc "BadNumber" [] := by
  refine read_run T hp _ fun neg' y _ y1 y2 y3 => ?_
  have e := rd_no hl no
  simp [-eqv_str, e]
/-- one number -/
theorem pr_one {l h : List Nat} {neg : Bool} (T : Tx l neg h) (h1 : 1 ≤ h.length) (h2 : h.length ≤ 40) (hd : dg h) : f_read_ratio [.str (S l)] = if tl (strI (sg neg (val h))) = l then .ok (.tup [.int (sg neg (val h)), .int 1]) else .exc "BadNumber" [] := by
  refine read_run (m := []) (r := []) T (part_no (no47 hd)) _ fun neg' y _ y1 y2 y3 => ?_
  have e := rd_ok h1 h2 hd
  have v := val_b h2 hd
  have mk := make_ok neg (n := val h) (d := 1) (a := val h) (b := 1) (g := 1) (by decide) (by decide) (by rw [Nat.gcd_one_right]) (by omega) (by decide)
  have mk : f_make_ratio [.int (sg neg (val h)), .int 1] = .ok (.tup [.int (sg neg (val h)), .int 1]) := mk
  have rx := rtext_ok (p := sg neg (val h)) (q := 1) (by rw [sg_abs]; exact v) (by decide)
  have er : rt (sg neg (val h)) 1 = strI (sg neg (val h)) := by unfold rt; rw [if_pos rfl]
  rw [er] at rx
  have okx := ok_S T.asc
  have oky := ok_tl (asc_sg neg (val h))
  have evx := ev_tl (strI (sg neg (val h))) l
  have z1 : (S l).length ≤ 16777216 := by rw [S_len]; have := T.len; omega
  have es : (if neg = true then .ok (.int (-((val h : Nat) : Int))) else .ok (.int ((val h : Nat) : Int)) : Res D) = .ok (.int (sg neg (val h))) := by cases neg <;> rfl
  generalize S l = x at *
  generalize strI (sg neg (val h)) = w at *
  cases neg with
  | true =>
    have sv : -((val h : Nat) : Int) = sg true (val h) := rfl
    by_cases c : tl w = l
    · simp [-eqv_str, minus, slash, e, ok3, ok2, ok1, ev2, y1, y2, y3, z1, sv, mk, rx, okx, oky, evx, c]
    · simp [-eqv_str, minus, slash, e, ok3, ok2, ok1, ev2, y1, y2, y3, z1, sv, mk, rx, okx, oky, evx, c]
  | false =>
    have sv : ((val h : Nat) : Int) = sg false (val h) := rfl
    by_cases c : tl w = l
    · simp [-eqv_str, minus, slash, e, ok3, ok2, ok1, ev2, y1, y2, y3, z1, sv, mk, rx, okx, oky, evx, c]
    · simp [-eqv_str, minus, slash, e, ok3, ok2, ok1, ev2, y1, y2, y3, z1, sv, mk, rx, okx, oky, evx, c]
/-- the tail is no number -/
theorem pr_bad2 {l h r : List Nat} {neg : Bool} (T : Tx l neg (h ++ 47 :: r)) (h1 : 1 ≤ h.length) (h2 : h.length ≤ 40) (hd : dg h) (no : ¬ (1 ≤ r.length ∧ r.length ≤ 40 ∧ dg r)) : f_read_ratio [.str (S l)] = .exc "BadNumber" [] := by
  refine read_run T (part_yes (no47 hd)) _ fun neg' y _ y1 y2 y3 => ?_
  have e := rd_ok h1 h2 hd
  have rl : r.length ≤ 1000 := by have := T.lb; simp at this; omega
  have e2 := rd_no rl no
  simp [-eqv_str, minus, slash, e, e2, ok2, ok1, ev1]
theorem pr_zero {l h r : List Nat} {neg : Bool} (T : Tx l neg (h ++ 47 :: r)) (h1 : 1 ≤ h.length) (h2 : h.length ≤ 40) (hd : dg h) (r1 : 1 ≤ r.length) (r2 : r.length ≤ 40) (rd : dg r) (v0 : val r = 0) : f_read_ratio [.str (S l)] = .exc "BadNumber" [] := by
  refine read_run T (part_yes (no47 hd)) _ fun neg' y _ y1 y2 y3 => ?_
  have e := rd_ok h1 h2 hd
  have e2 := rd_ok r1 r2 rd
  rw [v0] at e2
  have e2 : f_read_digits [.str (S r)] = .ok (.int 0) := e2
  have mk := make_no
  have z1 : (S l).length ≤ 16777216 := by rw [S_len]; have := T.len; omega
  generalize S l = x at *
  cases neg with
  | true => simp [-eqv_str, minus, slash, e, e2, ok2, ok1, ev1, y1, y2, y3, z1, mk]
  | false => simp [-eqv_str, minus, slash, e, e2, ok2, ok1, ev1, y1, y2, y3, z1, mk]
/-- two numbers -/
theorem pr_two {l h r : List Nat} {neg : Bool} (T : Tx l neg (h ++ 47 :: r)) (h1 : 1 ≤ h.length) (h2 : h.length ≤ 40) (hd : dg h) (r1 : 1 ≤ r.length) (r2 : r.length ≤ 40) (rd : dg r) (v0 : 1 ≤ val r) {a b g : Nat} (eg : g = Nat.gcd (val h) (val r)) (ea : val h = g * a) (eb : val r = g * b) :
    f_read_ratio [.str (S l)] = if tl (rt (sg neg a) b) = l then .ok (.tup [.int (sg neg a), .int (b : Int)]) else .exc "BadNumber" [] := by
  refine read_run T (part_yes (no47 hd)) _ fun neg' y _ y1 y2 y3 => ?_
  have e := rd_ok h1 h2 hd
  have e2 := rd_ok r1 r2 rd
  have v := val_b h2 hd
  have u := val_b r2 rd
  have g1 : 1 ≤ g := by rw [eg]; exact Nat.gcd_pos_of_pos_right _ v0
  have av : a ≤ val h := by rw [ea]; exact Nat.le_mul_of_pos_left _ g1
  have bv : b ≤ val r := by rw [eb]; exact Nat.le_mul_of_pos_left _ g1
  have mk := make_ok neg (n := val h) (d := val r) v0 u eg ea eb
  have rx := rtext_ok (p := sg neg a) (q := (b : Int)) (by rw [sg_abs]; exact Nat.lt_of_le_of_lt av v) (by rw [Int.natAbs_natCast]; exact Nat.lt_of_le_of_lt bv u)
  have okx := ok_S T.asc
  have oky := ok_tl (asc_rt neg a b)
  have evx := ev_tl (rt (sg neg a) b) l
  have z1 : (S l).length ≤ 16777216 := by rw [S_len]; have := T.len; omega
  generalize S l = x at *
  generalize rt (sg neg a) b = w at *
  cases neg with
  | true =>
    have sv : -((val h : Nat) : Int) = sg true (val h) := rfl
    by_cases c : tl w = l
    · simp [-eqv_str, minus, slash, e, e2, ok2, ok1, ev1, y1, y2, y3, z1, sv, mk, rx, okx, oky, evx, c]
    · simp [-eqv_str, minus, slash, e, e2, ok2, ok1, ev1, y1, y2, y3, z1, sv, mk, rx, okx, oky, evx, c]
  | false =>
    have sv : ((val h : Nat) : Int) = sg false (val h) := rfl
    by_cases c : tl w = l
    · simp [-eqv_str, minus, slash, e, e2, ok2, ok1, ev1, y1, y2, y3, z1, sv, mk, rx, okx, oky, evx, c]
    · simp [-eqv_str, minus, slash, e, e2, ok2, ok1, ev1, y1, y2, y3, z1, sv, mk, rx, okx, oky, evx, c]
end MB_k01

set_option Elab.async false
set_option linter.all false
set_option maxRecDepth 100000
set_option maxHeartbeats 4000000
/-! k01: the law's reader; both agree. -/
namespace MC_k01
open PySem L2 PF ML SX TL TX S_k01 LC_k01 MA_k01 MB_k01

theorem spl_no {b : List Nat} (h : 47 ∉ b) : Txt.split (S b) (S [47]) = [S b] := by
  rw [split_S (by simp) (by decide), TL.spl_last1 h]
  rfl
theorem spl_yes {h r : List Nat} (hh : 47 ∉ h) : TL.spl [47] 0 [] (h ++ 47 :: r) = h :: TL.spl [47] 0 [] r := TL.spl_part1 (S := []) (acc := []) hh
theorem spl_two {h r : List Nat} (hh : 47 ∉ h) (hr : 47 ∉ r) : Txt.split (S (h ++ 47 :: r)) (S [47]) = [S h, S r] := by
  rw [split_S (by simp) (by decide), spl_yes hh, TL.spl_last1 hr]
  rfl
theorem spl_len (r : List Nat) : 1 ≤ (TL.spl [47] 0 [] r).length := by
  by_cases h : 47 ∈ r
  · obtain ⟨a, b, e, ha⟩ := List.eq_append_cons_of_mem h
    rw [e, spl_yes ha]
    simp
  · rw [TL.spl_last1 h]
    simp
theorem spl_more {h r : List Nat} (hh : 47 ∉ h) (hr : 47 ∈ r) : ∃ P, Txt.split (S (h ++ 47 :: r)) (S [47]) = P ∧ 2 < P.length := by
  obtain ⟨a, b, e, ha⟩ := List.eq_append_cons_of_mem hr
  refine ⟨_, split_S (by simp) (by decide), ?_⟩
  rw [spl_yes hh, e, spl_yes ha]
  have := spl_len b
  simp
  omega
theorem bint_ok {h : List Nat} (h1 : 1 ≤ h.length) (h2 : h.length ≤ 600) (hd : dg h) : bIntT (.str (S h)) = .ok (.int (val h : Nat)) := by
  have it : intText? (S h) = some ((val h : Nat) : Int) := intText_digits (x := S h) hd (fun z => by rw [show h = [] from z] at h1; simp at h1) (by rw [S_len]; omega)
  simp only [bIntT, it, S_len]
  rw [if_pos (by omega)]
theorem bint_i (i : Int) : bIntT (.int i) = .ok (.int i) := rfl
section
variable {l b : List Nat} {neg : Bool}
theorem lr_more (T : Tx l neg b) {P : List Str} (hp : Txt.split (S b) (S [47]) = P) (hP : 2 < P.length) : f_ulaw_read [.str (S l)] = .ok .non := by
  obtain ⟨y, y1, y2, y3⟩ := T.c1
  have z1 : (S l).length ≤ 16777216 := by rw [S_len]; have := T.len; omega
  have z2 : (S b).length + 2 ≤ 16777216 := by rw [S_len]; have := T.lb; omega
  have z3 : (S b).length ≤ 16777214 := by omega
  have b1 : bLen (.lst (P.map D.str)) = .ok (.int (P.length : Int)) := by simp [bLen]
  have k1 : cb ((2 : Int) < (P.length : Int)) = true := cb_t (by omega)
  have k2 : cb (2 < P.length) = true := cb_t hP
  cases neg with
  | true =>
    have y4 := T.c2
    generalize S l = x at *
    generalize S b = bb at *
    simp [-cb_iff, -cb_nif, -bLen, -eqv_str, f_ulaw_read, g_ulaw_read, minus, slash, y1, y2, y3, y4, z1, z2, z3, S1, ok1, hp, b1, k1, k2]
  | false =>
    have e : S b = S l := by rw [T.eq]; rfl
    rw [e] at hp z2 z3
    generalize S l = x at *
    simp [-cb_iff, -cb_nif, -bLen, -eqv_str, f_ulaw_read, g_ulaw_read, minus, slash, y1, y2, y3, z1, z2, z3, S1, ok1, hp, b1, k1, k2]
theorem lr_one (T : Tx l neg b) (h47 : 47 ∉ b) : f_ulaw_read [.str (S l)] = .ok (open Classical in if 1 ≤ b.length ∧ b.length ≤ 40 ∧ dg b ∧ can b ∧ ¬ (neg = true ∧ val b = 0) then .tup [.int (sg neg (val b)), .int 1] else .non) := by
  obtain ⟨y, y1, y2, y3⟩ := T.c1
  have hp := spl_no h47
  obtain ⟨bb0, n1, n2⟩ := is_num b (by have := T.lb; omega)
  have z1 : (S l).length ≤ 16777216 := by rw [S_len]; have := T.len; omega
  have z2 : (S b).length + 2 ≤ 16777216 := by rw [S_len]; have := T.lb; omega
  have z3 : (S b).length ≤ 16777214 := by omega
  have k1 : cb ((2 : Int) < 1) = false := cb_f (by decide)
  cases bb0 with
  | false =>
    have no : ¬ (1 ≤ b.length ∧ b.length ≤ 40 ∧ dg b ∧ can b ∧ ¬ (neg = true ∧ val b = 0)) := fun q => by
      have := n2.mpr ⟨q.1, q.2.1, q.2.2.1, q.2.2.2.1⟩
      cases this
    rw [if_neg no]
    cases neg with
    | true =>
      have y4 := T.c2
      generalize S l = x at *
      generalize S b = bb at *
      simp [-cb_iff, -cb_nif, -eqv_str, f_ulaw_read, g_ulaw_read, minus, slash, y1, y2, y3, y4, z1, z2, z3, S1, ok1, hp, k1, lcRun, b1_ulaw_read, n1, dBls]
    | false =>
      have e : S b = S l := by rw [T.eq]; rfl
      rw [e] at hp z2 z3 n1
      generalize S l = x at *
      simp [-cb_iff, -cb_nif, -eqv_str, f_ulaw_read, g_ulaw_read, minus, slash, y1, y2, y3, z1, z2, z3, S1, ok1, hp, k1, lcRun, b1_ulaw_read, n1, dBls]
  | true =>
    obtain ⟨q1, q2, q3, q4⟩ := n2.mp rfl
    have bi := bint_ok q1 (by omega) q3
    have mo : ∀ i, mulOk 1 i = true := fun i => mulOk_l (by decide)
    have mn : ∀ i, mulOk (-1) i = true := fun i => mulOk_l (by decide)
    cases neg with
    | true =>
      have y4 := T.c2
      have sv : -((val b : Nat) : Int) = sg true (val b) := rfl
      by_cases v0 : val b = 0
      · rw [if_neg (fun q => q.2.2.2.2 ⟨rfl, v0⟩)]
        rw [v0] at bi
        generalize S l = x at *
        generalize S b = bb at *
        simp [-cb_iff, -cb_nif, -eqv_str, -bIntT, f_ulaw_read, g_ulaw_read, minus, slash, y1, y2, y3, y4, z1, z2, z3, S1, ok1, hp, k1, lcRun, b1_ulaw_read, n1, dBls, bi]
      · rw [if_pos ⟨q1, q2, q3, q4, fun q => v0 q.2⟩]
        generalize S l = x at *
        generalize S b = bb at *
        simp [-cb_iff, -cb_nif, -eqv_str, -bIntT, f_ulaw_read, g_ulaw_read, minus, slash, y1, y2, y3, y4, z1, z2, z3, S1, ok1, hp, k1, lcRun, b1_ulaw_read, n1, dBls, bi, v0, mn, sv]
    | false =>
      have e : S b = S l := by rw [T.eq]; rfl
      rw [e] at hp z2 z3 n1 bi
      rw [if_pos ⟨q1, q2, q3, q4, fun q => by cases q.1⟩]
      have sv : sg false (val b) = ((val b : Nat) : Int) := rfl
      generalize S l = x at *
      simp [-cb_iff, -cb_nif, -eqv_str, -bIntT, f_ulaw_read, g_ulaw_read, minus, slash, y1, y2, y3, z1, z2, z3, S1, ok1, hp, k1, lcRun, b1_ulaw_read, n1, dBls, bi, mo, sv]
theorem lr_two {h r : List Nat} (T : Tx l neg (h ++ 47 :: r)) (hh : 47 ∉ h) (hr : 47 ∉ r) : f_ulaw_read [.str (S l)] = .ok (open Classical in if (1 ≤ h.length ∧ h.length ≤ 40 ∧ dg h ∧ can h) ∧ (1 ≤ r.length ∧ r.length ≤ 40 ∧ dg r ∧ can r) ∧ ¬ (neg = true ∧ val h = 0) ∧ 2 ≤ val r ∧ Nat.gcd (val h) (val r) = 1 then .tup [.int (sg neg (val h)), .int (val r : Nat)] else .non) := by
  obtain ⟨y, y1, y2, y3⟩ := T.c1
  have hp := spl_two hh hr
  have lb := T.lb
  have hl : h.length ≤ 900 ∧ r.length ≤ 900 := by simp at lb; omega
  obtain ⟨b1, n1, n2⟩ := is_num h (by omega)
  obtain ⟨b2, m1, m2⟩ := is_num r (by omega)
  have z1 : (S l).length ≤ 16777216 := by rw [S_len]; have := T.len; omega
  have z2 : (S (h ++ 47 :: r)).length + 2 ≤ 16777216 := by rw [S_len]; omega
  have z3 : (S (h ++ 47 :: r)).length ≤ 16777214 := by omega
  have k1 : cb ((2 : Int) < 2) = false := cb_f (by decide)
  have bad : (b1 && b2) = false → f_ulaw_read [.str (S l)] = .ok .non := fun hb => by
    cases neg with
    | true =>
      have y4 := T.c2
      generalize S l = x at *
      generalize S (h ++ 47 :: r) = bb at *
      cases b1 <;> cases b2 <;> first | (exact absurd hb (by decide)) | simp [-cb_iff, -cb_nif, -eqv_str, f_ulaw_read, g_ulaw_read, minus, slash, y1, y2, y3, y4, z1, z2, z3, S1, ok1, hp, k1, lcRun, b1_ulaw_read, n1, m1, dBls]
    | false =>
      have e : S (h ++ 47 :: r) = S l := by rw [T.eq]; rfl
      rw [e] at hp z2 z3
      generalize S l = x at *
      cases b1 <;> cases b2 <;> first | (exact absurd hb (by decide)) | simp [-cb_iff, -cb_nif, -eqv_str, f_ulaw_read, g_ulaw_read, minus, slash, y1, y2, y3, z1, z2, z3, S1, ok1, hp, k1, lcRun, b1_ulaw_read, n1, m1, dBls]
  by_cases hb : (b1 && b2) = false
  · rw [bad hb, if_neg]
    intro q
    rw [n2.mpr q.1, m2.mpr q.2.1] at hb
    cases hb
  · have hb1 : b1 = true := by cases b1 <;> simp at hb ⊢
    have hb2 : b2 = true := by cases b2 <;> simp at hb ⊢
    subst hb1 hb2
    clear bad hb
    obtain ⟨q1, q2, q3, q4⟩ := n2.mp rfl
    obtain ⟨p1, p2, p3, p4⟩ := m2.mp rfl
    have bi := bint_ok q1 (by omega) q3
    have bj := bint_ok p1 (by omega) p3
    have mo : ∀ i, mulOk 1 i = true := fun i => mulOk_l (by decide)
    have mn : ∀ i, mulOk (-1) i = true := fun i => mulOk_l (by decide)
    have cm := common_ok ((val h : Nat) : Int) ((val r : Nat) : Int) (k := 400) (by rw [Int.natAbs_natCast]; exact Nat.lt_trans (val_b p2 p3) (by decide)) (by decide)
    rw [Int.natAbs_natCast, Int.natAbs_natCast] at cm
    by_cases dr : 2 ≤ val r
    · have k2 : cb (((val r : Nat) : Int) < 2) = false := cb_f (by omega)
      have k3 : cb (val r < 2) = false := cb_f (by omega)
      by_cases gr : Nat.gcd (val h) (val r) = 1
      · rw [gr] at cm
        cases neg with
        | true =>
          have y4 := T.c2
          have sv : -((val h : Nat) : Int) = sg true (val h) := rfl
          by_cases v0 : val h = 0
          · rw [if_neg (fun q => q.2.2.1 ⟨rfl, v0⟩)]
            rw [v0] at bi
            generalize S l = x at *
            generalize S (h ++ 47 :: r) = bb at *
            simp [-cb_iff, -cb_nif, -eqv_str, -bIntT, f_ulaw_read, g_ulaw_read, minus, slash, y1, y2, y3, y4, z1, z2, z3, S1, ok1, hp, k1, lcRun, b1_ulaw_read, n1, m1, dBls, bi]
          · rw [if_pos ⟨⟨q1, q2, q3, q4⟩, ⟨p1, p2, p3, p4⟩, fun q => v0 q.2, dr, gr⟩]
            generalize S l = x at *
            generalize S (h ++ 47 :: r) = bb at *
            simp [-cb_iff, -cb_nif, -eqv_str, -bIntT, f_ulaw_read, g_ulaw_read, minus, slash, y1, y2, y3, y4, z1, z2, z3, S1, ok1, hp, k1, lcRun, b1_ulaw_read, n1, m1, dBls, bi, bj, v0, mn, sv, k2, k3, cm]
        | false =>
          have e : S (h ++ 47 :: r) = S l := by rw [T.eq]; rfl
          rw [e] at hp z2 z3
          rw [if_pos ⟨⟨q1, q2, q3, q4⟩, ⟨p1, p2, p3, p4⟩, fun q => (by cases q.1), dr, gr⟩]
          have sv : sg false (val h) = ((val h : Nat) : Int) := rfl
          generalize S l = x at *
          simp [-cb_iff, -cb_nif, -eqv_str, -bIntT, f_ulaw_read, g_ulaw_read, minus, slash, y1, y2, y3, z1, z2, z3, S1, ok1, hp, k1, lcRun, b1_ulaw_read, n1, m1, dBls, bi, bj, mo, sv, k2, k3, cm]
      · rw [if_neg (fun q => gr q.2.2.2.2)]
        have gr' : ¬ (((Nat.gcd (val h) (val r) : Nat) : Int) = 1) := by omega
        generalize Nat.gcd (val h) (val r) = g at *
        cases neg with
        | true =>
          have y4 := T.c2
          generalize S l = x at *
          generalize S (h ++ 47 :: r) = bb at *
          by_cases v0 : val h = 0
          · simp [-cb_iff, -cb_nif, -eqv_str, -bIntT, f_ulaw_read, g_ulaw_read, minus, slash, y1, y2, y3, y4, z1, z2, z3, S1, ok1, hp, k1, lcRun, b1_ulaw_read, n1, m1, dBls, bi, bj, v0]
          · simp [-cb_iff, -cb_nif, -eqv_str, -bIntT, f_ulaw_read, g_ulaw_read, minus, slash, y1, y2, y3, y4, z1, z2, z3, S1, ok1, hp, k1, lcRun, b1_ulaw_read, n1, m1, dBls, bi, bj, v0, mn, k2, k3, cm, gr, gr']
        | false =>
          have e : S (h ++ 47 :: r) = S l := by rw [T.eq]; rfl
          rw [e] at hp z2 z3
          generalize S l = x at *
          simp [-cb_iff, -cb_nif, -eqv_str, -bIntT, f_ulaw_read, g_ulaw_read, minus, slash, y1, y2, y3, z1, z2, z3, S1, ok1, hp, k1, lcRun, b1_ulaw_read, n1, m1, dBls, bi, bj, mo, k2, k3, cm, gr, gr']
    · have k2 : cb (((val r : Nat) : Int) < 2) = true := cb_t (by omega)
      have k3 : cb (val r < 2) = true := cb_t (by omega)
      rw [if_neg (fun q => dr q.2.2.2.1)]
      cases neg with
      | true =>
        have y4 := T.c2
        generalize S l = x at *
        generalize S (h ++ 47 :: r) = bb at *
        by_cases v0 : val h = 0
        · simp [-cb_iff, -cb_nif, -eqv_str, -bIntT, f_ulaw_read, g_ulaw_read, minus, slash, y1, y2, y3, y4, z1, z2, z3, S1, ok1, hp, k1, lcRun, b1_ulaw_read, n1, m1, dBls, bi, bj, v0]
        · simp [-cb_iff, -cb_nif, -eqv_str, -bIntT, f_ulaw_read, g_ulaw_read, minus, slash, y1, y2, y3, y4, z1, z2, z3, S1, ok1, hp, k1, lcRun, b1_ulaw_read, n1, m1, dBls, bi, bj, v0, mn, k2, k3]
      | false =>
        have e : S (h ++ 47 :: r) = S l := by rw [T.eq]; rfl
        rw [e] at hp z2 z3
        generalize S l = x at *
        simp [-cb_iff, -cb_nif, -eqv_str, -bIntT, f_ulaw_read, g_ulaw_read, minus, slash, y1, y2, y3, z1, z2, z3, S1, ok1, hp, k1, lcRun, b1_ulaw_read, n1, m1, dBls, bi, bj, mo, k2, k3]
end
end MC_k01

set_option Elab.async false
set_option linter.all false
set_option maxRecDepth 100000
set_option maxHeartbeats 4000000
/-! k01: both readers agree at every text. -/
namespace MD_k01
open PySem L2 PF ML SX TL TX S_k01 LC_k01 MA_k01 MB_k01 MC_k01

def dueD : Option (Int × Int) → D
  | none => .non
  | some (p, q) => .tup [.int p, .int q]
def dueR : Option (Int × Int) → Res D
  | none => .exc "BadNumber" []
  | some (p, q) => .ok (.tup [.int p, .int q])
theorem both (l : List Nat) (hl : l.length ≤ 900) (ha : Asc l) : ∃ due, f_ulaw_read [.str (S l)] = .ok (dueD due) ∧ f_read_ratio [.str (S l)] = dueR due := by
  obtain ⟨neg, b, T⟩ := Tx.mk' l hl ha
  have lb := T.lb
  by_cases h47 : 47 ∈ b
  · obtain ⟨h, r, e, hh⟩ := List.eq_append_cons_of_mem h47
    rw [e] at T lb
    have hl1 : h.length ≤ 900 ∧ r.length ≤ 900 := by simp at lb; omega
    by_cases r47 : 47 ∈ r
    · obtain ⟨P, p1, p2⟩ := spl_more hh r47
      refine ⟨none, lr_more T p1 p2, ?_⟩
      by_cases ok : 1 ≤ h.length ∧ h.length ≤ 40 ∧ dg h
      · exact pr_bad2 T ok.1 ok.2.1 ok.2.2 fun q => no47 q.2.2 r47
      · exact pr_bad1 T (part_yes hh) (by omega) ok
    · have L := lr_two T hh r47
      by_cases ok : 1 ≤ h.length ∧ h.length ≤ 40 ∧ dg h
      · by_cases ok2 : 1 ≤ r.length ∧ r.length ≤ 40 ∧ dg r
        · obtain ⟨h1, h2, hd⟩ := ok
          obtain ⟨r1, r2, rd⟩ := ok2
          have hne : h ≠ [] := fun z => by rw [z] at h1; simp at h1
          have rne : r ≠ [] := fun z => by rw [z] at r1; simp at r1
          by_cases v0 : val r = 0
          · refine ⟨none, ?_, pr_zero T h1 h2 hd r1 r2 rd v0⟩
            rw [L, if_neg (fun q => by have := q.2.2.2.1; omega)]
            rfl
          · obtain ⟨a, ea⟩ := Nat.gcd_dvd_left (val h) (val r)
            obtain ⟨d, ed⟩ := Nat.gcd_dvd_right (val h) (val r)
            have P := pr_two T h1 h2 hd r1 r2 rd (by omega) rfl ea ed
            have I := two_iff (neg := neg) hd hne rd rne (by omega) ea ed rfl
            rw [← T.eq] at I
            by_cases c : can h ∧ can r ∧ ¬ (neg = true ∧ val h = 0) ∧ 2 ≤ val r ∧ Nat.gcd (val h) (val r) = 1
            · refine ⟨some (sg neg (val h), (val r : Nat)), ?_, ?_⟩
              · rw [L, if_pos ⟨⟨h1, h2, hd, c.1⟩, ⟨r1, r2, rd, c.2.1⟩, c.2.2⟩]
                rfl
              · rw [P, if_pos (I.mpr c)]
                have ga : a = val h := by have := c.2.2.2.2; rw [this] at ea; omega
                have gd : d = val r := by have := c.2.2.2.2; rw [this] at ed; omega
                rw [ga, gd]
                rfl
            · refine ⟨none, ?_, ?_⟩
              · rw [L, if_neg (fun q => c ⟨q.1.2.2.2, q.2.1.2.2.2, q.2.2⟩)]
                rfl
              · rw [P, if_neg (fun q => c (I.mp q))]
                rfl
        · refine ⟨none, ?_, pr_bad2 T ok.1 ok.2.1 ok.2.2 ok2⟩
          rw [L, if_neg (fun q => ok2 ⟨q.2.1.1, q.2.1.2.1, q.2.1.2.2.1⟩)]
          rfl
      · refine ⟨none, ?_, pr_bad1 T (part_yes hh) (by omega) ok⟩
        rw [L, if_neg (fun q => ok ⟨q.1.1, q.1.2.1, q.1.2.2.1⟩)]
        rfl
  · have L := lr_one T h47
    by_cases ok : 1 ≤ b.length ∧ b.length ≤ 40 ∧ dg b
    · obtain ⟨h1, h2, hd⟩ := ok
      have P := pr_one T h1 h2 hd
      have I := one_iff (neg := neg) hd (fun z => by rw [z] at h1; simp at h1)
      rw [← T.eq] at I
      by_cases c : can b ∧ ¬ (neg = true ∧ val b = 0)
      · refine ⟨some (sg neg (val b), 1), ?_, ?_⟩
        · rw [L, if_pos ⟨h1, h2, hd, c.1, c.2⟩]
          rfl
        · rw [P, if_pos (I.mpr c)]
          rfl
      · refine ⟨none, ?_, ?_⟩
        · rw [L, if_neg (fun q => c q.2.2.2)]
          rfl
        · rw [P, if_neg (fun q => c (I.mp q))]
          rfl
    · refine ⟨none, ?_, pr_bad1 (m := []) (r := []) T (part_no h47) (by omega) ok⟩
      rw [L, if_neg (fun q => ok ⟨q.1, q.2.1, q.2.2.1⟩)]
      rfl
theorem reads_S (l : List Nat) (hl : l.length ≤ 900) (ha : Asc l) : f_ulaw_reads [.str (S l)] = .ok (.bl true) := by
  obtain ⟨due, h1, h2⟩ := both l hl ha
  generalize S l = x at *
  cases due with
  | none =>
    simp only [dueD, dueR] at h1 h2
    simp [f_ulaw_reads, g_ulaw_reads, h1, h2, t_CostsError, t_BadNumber, t_ValueError, t_BadTsk_NotAan_Unlied_BadPer_NoCots_BadQon_BadRge_BadSen_TooMny, t_BadTxt_BadNme_Unknme_Staley]
  | some pq =>
    obtain ⟨p, q⟩ := pq
    simp only [dueD, dueR] at h1 h2
    have t := tuple_ok [p, q] (by simp)
    have t : f_ulaw_is_tuple [.tup [.int p, .int q], .int 2] = .ok (.bl true) := t
    simp [f_ulaw_reads, g_ulaw_reads, h1, h2, t]
/-- a text that may be read -/
def Rd (d : D) : Prop := ∃ x : Str, d = .str x ∧ x.length ≤ 900 ∧ Asc (tl x)
theorem reads_ok {d : D} (h : Rd d) : f_ulaw_reads [d] = .ok (.bl true) := by
  obtain ⟨x, rfl, h1, h2⟩ := h
  have := reads_S (tl x) (by rw [← len_tl]; exact h1) h2
  rw [show S (tl x) = x from mk_tl x] at this
  exact this
end MD_k01

set_option Elab.async false
set_option linter.all false
set_option maxRecDepth 100000
set_option maxHeartbeats 4000000
/-! k01: what the law draws. -/
namespace MF_k01
open PySem L2 PF ML SX TL TX S_k01 LC_k01 MA_k01 MB_k01 MC_k01 MD_k01

/-! ### texts and their parts -/
theorem Rd_S {l : List Nat} (h1 : l.length ≤ 900) (h2 : Asc l) : Rd (.str (S l)) := ⟨S l, rfl, by rw [S_len]; exact h1, h2⟩
theorem asc_app {a b : List Nat} (ha : Asc a) (hb : Asc b) : Asc (a ++ b) := fun c hc => by
  rcases List.mem_append.mp hc with q | q
  · exact ha c q
  · exact hb c q
theorem asc_i (i : Int) : Asc (tl (strI i)) := by
  have e : i = sg (decide (i < 0)) i.natAbs := by
    unfold sg
    by_cases c : i < 0
    · rw [decide_eq_true c]
      simp only [if_true]
      omega
    · rw [decide_eq_false c]
      simp only [Bool.false_eq_true, if_false]
      omega
  rw [e]
  exact asc_sg _ _
theorem asc_rti (p q : Int) : Asc (tl (rt p q)) := by
  unfold rt
  split
  · exact asc_i p
  · rw [tl_append, tl_append]
    exact asc_app (asc_app (asc_i p) (fun c hc => by rw [List.mem_singleton.mp hc]; decide)) (asc_i q)
theorem rt_rd {p q : Int} (hp : p.natAbs < 10 ^ 100) (hq : q.natAbs < 10 ^ 100) : Rd (.str (rt p q)) := ⟨_, rfl, by have := rt_len hp hq; omega, asc_rti p q⟩
theorem written_ok {p q : Int} (hp : p.natAbs < 10 ^ 100) (hq : q.natAbs < 10 ^ 100) : f_ulaw_written [.tup [.int p, .int q]] = .ok (.bl true) := by
  have h1 := rtext_ok hp hq
  have h2 := ltext_ok hp hq
  have o := ok_tl (asc_rti p q)
  generalize rt p q = x at *
  simp [f_ulaw_written, g_ulaw_written, h1, h2, o]
/-- one sign of a text -/
theorem ix_str {x : Str} (hl : x.length ≤ 1000) {i : Int} (h0 : 0 ≤ i) (h1 : i < x.length) : ∃ c, c ∈ tl x ∧ oIx (.str x) (.int i) = .ok (.str (S [c])) := by
  obtain ⟨k, rfl⟩ := Int.eq_ofNat_of_zero_le h0
  have hk : k < (tl x).length := by rw [← len_tl]; omega
  refine ⟨(tl x)[k], List.getElem_mem _, ?_⟩
  have e : ixN (tl x).length (k : Int) = some k := by
    have hk2 : k < x.cps.size := by simpa using hk
    unfold ixN
    simp [hk2]
  have a : atI (tl x) (k : Int) = some (tl x)[k] := by
    unfold atI
    rw [e]
    exact List.getElem?_eq_getElem hk
  simp only [oIx]
  rw [if_pos (by omega), show x.cps.toList = tl x from rfl, a]
theorem lit_dig : (tl ("0123456789" : Str)).all (fun c => decide (48 ≤ c ∧ c ≤ 57)) = true := by decide +kernel
theorem lit_dig9 : (tl ("123456789" : Str)).all (fun c => decide (49 ≤ c ∧ c ≤ 57)) = true := by decide +kernel
theorem len_dig : ("0123456789" : Str).length = 10 := by decide +kernel
theorem len_dig9 : ("123456789" : Str).length = 9 := by decide +kernel
/-! ### the digits -/
def dI (cs : D) (sz : Int) (m : Nat) (ds : List D) (ρ : Sl) : Prop := ∃ (l : List Nat) (ks : List Int) (kc : Cell), ds = ks.map D.int ∧ l.length + ds.length ≤ m ∧ 1 ≤ l.length ∧ dg l ∧ l.head? ≠ some 48 ∧ ρ = [.v cs, .v (.int sz), .v (.str (S l)), kc]
theorem d_step {cs : D} {sz : Int} {m : Nat} (hm : m ≤ 41) (d : D) (ds : List D) (ρ : Sl) (h : dI cs sz m (d :: ds) ρ) : ∃ ρ1, PF.gName 3 d ρ = some ρ1 ∧ ∃ ρ2, (b1_ulaw_digits ρ1 = .nx ρ2 ∨ b1_ulaw_digits ρ1 = .ct ρ2) ∧ dI cs sz m ds ρ2 := by
  obtain ⟨l, ks, kc, h1, h2, h3, h4, h5, rfl⟩ := h
  cases ks with
  | nil => cases h1
  | cons k ks =>
    cases h1
    refine ⟨_, rfl, ?_⟩
    have b := fmod_b k 10 (by decide)
    obtain ⟨c, c1, c2⟩ := ix_str (x := "0123456789") (by rw [len_dig]; decide) b.1 (by rw [len_dig]; exact b.2)
    have hc := of_decide_eq_true (List.all_eq_true.mp lit_dig c c1)
    have h2 : l.length + (ks.length + 1) ≤ m := by simpa using h2
    have z : (S l).length + (S [c]).length ≤ 16777216 := by rw [S_len, S_len]; simp; omega
    have e : S l ++ S [c] = S (l ++ [c]) := S_cat l [c]
    refine ⟨[.v cs, .v (.int sz), .v (.str (S (l ++ [c]))), .v (.int k)], .inl ?_, l ++ [c], ks, _, rfl, by simp; omega, by simp, dg_app.mpr ⟨h4, fun x hx => by rw [List.mem_singleton.mp hx]; exact hc⟩, fun q => h5 (by
      cases l with
      | nil => simp at h3
      | cons x r => simpa using q), rfl⟩
    rw [← e]
    generalize S l = x at *
    generalize S [c] = y at *
    simp [-oIx, b1_ulaw_digits, c2, z]
theorem cutn (cs : List Int) (a b : Nat) : ∃ ms : List Int, cutD (cs.map D.int) (some (a : Int)) (some (b : Int)) = ms.map D.int ∧ ms.length ≤ b - a := by
  unfold cutD
  rw [← List.map_drop, ← List.map_take, HT.sIx_nat, HT.sIx_nat]
  refine ⟨_, rfl, ?_⟩
  rw [List.length_take, List.length_drop, List.length_map]
  omega
theorem pick6 (a b c d e f i : Int) (h0 : 0 ≤ i) (h : i < 6) : ∃ z : Int, oIx (.lst [.int a, .int b, .int c, .int d, .int e, .int f]) (.int i) = .ok (.int z) ∧ (z = a ∨ z = b ∨ z = c ∨ z = d ∨ z = e ∨ z = f) := by
  have : i = 0 ∨ i = 1 ∨ i = 2 ∨ i = 3 ∨ i = 4 ∨ i = 5 := by omega
  have key : ∀ k (hk : k < [a, b, c, d, e, f].length), oIx (.lst [.int a, .int b, .int c, .int d, .int e, .int f]) (.int ((k : Nat) : Int)) = .ok (.int [a, b, c, d, e, f][k]) := fun k hk => ix_seqI (seqI_l [a, b, c, d, e, f]) rfl hk
  rcases this with e | e | e | e | e | e <;> subst e
  · exact ⟨a, key 0 (by simp), by simp⟩
  · exact ⟨b, key 1 (by simp), by simp⟩
  · exact ⟨c, key 2 (by simp), by simp⟩
  · exact ⟨d, key 3 (by simp), by simp⟩
  · exact ⟨e, key 4 (by simp), by simp⟩
  · exact ⟨f, key 5 (by simp), by simp⟩
theorem ix_i {cs : List Int} {i : Int} {k : Nat} (h : i = (k : Int)) (hk : k < cs.length) : oIx (.lst (cs.map D.int)) (.int i) = .ok (.int cs[k]) := ix_seqI (seqI_l cs) h hk
theorem digits_ok {cs : List Int} (hcs : cs.length = 43) : ∃ l : List Nat, f_ulaw_digits [.lst (cs.map D.int)] = .ok (.str (S l)) ∧ 1 ≤ l.length ∧ l.length ≤ 41 ∧ dg l ∧ l.head? ≠ some 48 := by
  have x0 := ix_i (cs := cs) (i := 0) (k := 0) rfl (by omega)
  have x1 := ix_i (cs := cs) (i := 1) (k := 1) rfl (by omega)
  have x2 := ix_i (cs := cs) (i := 2) (k := 2) rfl (by omega)
  generalize cs[0]'(by omega) = c0 at *
  generalize cs[1]'(by omega) = c1 at *
  generalize cs[2]'(by omega) = c2 at *
  have b1 := fmod_b c1 41 (by decide)
  obtain ⟨z, z1, z2⟩ := pick6 1 2 39 40 41 (1 + c1.fmod 41) (c0.fmod 6) (fmod_b c0 6 (by decide)).1 (fmod_b c0 6 (by decide)).2
  obtain ⟨s, hs⟩ := Int.eq_ofNat_of_zero_le (show 0 ≤ z by omega)
  have s1 : 1 ≤ s ∧ s ≤ 41 := by omega
  have b9 := fmod_b c2 9 (by decide)
  obtain ⟨c, y1, y2⟩ := ix_str (x := "123456789") (by rw [len_dig9]; decide) b9.1 (by rw [len_dig9]; exact b9.2)
  have hc := of_decide_eq_true (List.all_eq_true.mp lit_dig9 c y1)
  obtain ⟨ms, m1, m2⟩ := cutn cs 3 (2 + s)
  have m1 : cutD (cs.map D.int) (some 3) (some (2 + (s : Int))) = ms.map D.int := by
    rw [← m1]
    congr 2
  obtain ⟨ρ', h1, l, ks, kc, h2, h3, h4, h5, h6, rfl⟩ := for_inv (dI (.lst (cs.map D.int)) (s : Int) s) (d_step s1.2) (ms.map D.int) [.v (.lst (cs.map D.int)), .v (.int (s : Int)), .v (.str (S [c])), .e] ⟨[c], ms, .e, rfl, by simp; omega, by simp, fun x hx => by rw [List.mem_singleton.mp hx]; omega, by simp; omega, rfl⟩
  refine ⟨l, ?_, h4, by simp at h3; omega, h5, h6⟩
  subst hs
  generalize cs.map D.int = CS at *
  generalize ms.map D.int = MS at *
  generalize S [c] = y at *
  generalize S l = x at *
  simp [-oIx, f_ulaw_digits, g_ulaw_digits, bint_i, x0, x1, x2, z1, y2, m1, h1]
/-! ### lowest terms -/
theorem lowest_ok {a b : Int} (hb : 0 < b) (ha2 : a.natAbs < 10 ^ 50) (hb2 : b.natAbs < 10 ^ 50) : ∃ p q : Int, f_ulaw_lowest [.int a, .int b] = .ok (.tup [.int p, .int q]) ∧ p.natAbs < 10 ^ 50 ∧ q.natAbs < 10 ^ 50 := by
  have cm := common_ok a b (k := 200) (Nat.lt_trans hb2 (by decide)) (by decide)
  have g1 : 1 ≤ Nat.gcd a.natAbs b.natAbs := Nat.gcd_pos_of_pos_right _ (by omega)
  have gd : Nat.gcd a.natAbs b.natAbs ≤ b.natAbs := Nat.gcd_le_right _ (by omega)
  have ga := Nat.gcd_dvd_left a.natAbs b.natAbs
  have gb := Nat.gcd_dvd_right a.natAbs b.natAbs
  generalize Nat.gcd a.natAbs b.natAbs = g at *
  have k : divOk (g : Int) = true := divOk_b (b := 200) (by omega) (by rw [Int.natAbs_natCast]; exact Nat.lt_of_le_of_lt gd (Nat.lt_trans hb2 (by decide))) (by decide)
  have dn : cb (b < 0) = false := cb_f (by omega)
  have sm : ∀ i : Int, g ∣ i.natAbs → (i.fdiv (g : Int)).natAbs ≤ i.natAbs := fun i hi => by
    have h4 : (g : Int) ∣ i := Int.natAbs_dvd_natAbs.mp (by rw [Int.natAbs_natCast]; exact hi)
    have h5 : i.natAbs = (i.fdiv (g : Int)).natAbs * g := by
      conv => lhs; rw [← Int.mul_fdiv_cancel' h4]
      rw [Int.natAbs_mul, Int.natAbs_natCast, Nat.mul_comm]
    rw [h5]
    exact Nat.le_mul_of_pos_right _ g1
  exact ⟨a.fdiv g, b.fdiv g, by simp [-cb_iff, -cb_nif, f_ulaw_lowest, g_ulaw_lowest, cm, dn, k], Nat.lt_of_le_of_lt (sm a ga) ha2, Nat.lt_of_le_of_lt (sm b gb) hb2⟩
/-- int of a sign and digits -/
theorem int_sg {l : List Nat} (h1 : 1 ≤ l.length) (h2 : l.length ≤ 41) (hd : dg l) (neg : Bool) : bIntT (.str (S (sgL neg) ++ S l)) = .ok (.int (sg neg (val l))) := by
  rw [S_cat]
  have hne : l ≠ [] := fun z => by rw [z] at h1; simp at h1
  cases neg with
  | true =>
    have it : intText? (S (sgL true ++ l)) = some (-((val l : Nat) : Int)) := intText_neg (x := S (sgL true ++ l)) (cs := l) rfl hd hne (by rw [S_len]; simp [sgL]; omega)
    simp only [bIntT, it, S_len]
    rw [if_pos (by simp [sgL]; omega)]
    rfl
  | false =>
    have it : intText? (S (sgL false ++ l)) = some ((val l : Nat) : Int) := intText_digits (x := S (sgL false ++ l)) hd hne (by rw [S_len]; simp [sgL]; omega)
    simp only [bIntT, it, S_len]
    rw [if_pos (by simp [sgL]; omega)]
    rfl
theorem val1 {l : List Nat} (h1 : 1 ≤ l.length) (hd : dg l) (h : l.head? ≠ some 48) : 1 ≤ val l := (val_pos _ l rfl hd (fun z => by rw [z] at h1; simp at h1) h).1
theorem val50 {l : List Nat} (h2 : l.length ≤ 41) (hd : dg l) : val l < 10 ^ 50 := Nat.lt_of_lt_of_le (val_lt _ l rfl hd) (Nat.pow_le_pow_right (by decide) (by omega))
/-! ### repeated texts -/
theorem fold_app : ∀ (L : List (Array Nat)) (acc : Array Nat), (L.foldl (· ++ ·) acc).toList = acc.toList ++ (L.map Array.toList).flatten
  | [], acc => by simp
  | a :: L, acc => by
    rw [List.foldl_cons, fold_app L (acc ++ a)]
    simp
theorem tl_rep (k : Nat) (x : Str) : tl (repS k x) = (List.replicate k (tl x)).flatten := by
  unfold repS
  show ((List.replicate k x.cps).foldl (· ++ ·) #[]).toList = _
  rw [fold_app]
  simp
theorem rep_in {k c : Nat} {x : Str} (h : c ∈ tl (repS k x)) : c ∈ tl x := by
  rw [tl_rep] at h
  obtain ⟨l, hl, hc⟩ := List.mem_flatten.mp h
  rw [List.eq_of_mem_replicate hl] at hc
  exact hc
theorem rep_ne {k : Nat} {x : Str} (hk : 1 ≤ k) (hx : 1 ≤ x.length) : 1 ≤ (repS k x).length := by
  rw [len_tl, tl_rep]
  obtain ⟨m, rfl⟩ : ∃ m, k = m + 1 := ⟨k - 1, by omega⟩
  rw [List.replicate_succ, List.flatten_cons, List.length_append]
  rw [len_tl] at hx
  omega
theorem rep_le {k : Nat} {x : Str} (hk : k ≤ 1000) (hx : x.length ≤ 1000) : (repS k x).length ≤ 16777216 := by
  rw [len_tl, tl_rep]
  rw [len_tl] at hx
  have : ∀ m : Nat, m ≤ 1000 → ((List.replicate m (tl x)).flatten).length ≤ m * 1000 := fun m => by
    induction m with
    | zero => intro _; simp
    | succ m ih =>
      intro h
      rw [List.replicate_succ, List.flatten_cons, List.length_append]
      have := ih (by omega)
      omega
  have := this k hk
  omega
/-! ### replace -/
theorem replS_in {y z : List Nat} : ∀ (l : List Nat) (s : Nat) (c : Nat), c ∈ StrLaws.replS y z s l → c ∈ z ∨ c ∈ l
  | [], s, c, h => by
    cases s <;> simp [StrLaws.replS] at h
  | x :: l, 0, c, h => by
    rw [StrLaws.replS] at h
    split at h
    · rcases List.mem_append.mp h with q | q
      · exact .inl q
      · rcases replS_in l _ c q with w | w
        · exact .inl w
        · exact .inr (by simp [w])
    · rcases List.mem_cons.mp h with q | q
      · exact .inr (by simp [q])
      · rcases replS_in l _ c q with w | w
        · exact .inl w
        · exact .inr (by simp [w])
  | x :: l, s + 1, c, h => by
    rw [StrLaws.replS] at h
    rcases replS_in l s c h with w | w
    · exact .inl w
    · exact .inr (by simp [w])
theorem rep_rd {x y z : Str} (hy : 1 ≤ y.length) (hx : x.length ≤ 205) (hz : z.length ≤ 3) (ax : Asc (tl x)) (az : Asc (tl z)) : Rd (.str (Txt.replace x y z)) := by
  refine ⟨_, rfl, ?_, fun c hc => ?_⟩
  · have := TK.replace_len x y z
    have : (x.length + 1) * z.length ≤ 206 * 3 := Nat.mul_le_mul (by omega) hz
    omega
  · have e : tl (Txt.replace x y z) = _ := StrLaws.replace_list hy
    rw [e] at hc
    rcases replS_in _ _ c hc with w | w
    · exact az c w
    · exact ax c w
end MF_k01

set_option Elab.async false
set_option linter.all false
set_option maxRecDepth 100000
set_option maxHeartbeats 4000000
/-! k01: the plain law. -/
namespace M_k01
open PySem L2 PF ML SX TL TX S_k01 LC_k01 MA_k01 MB_k01 MC_k01 MD_k01 MF_k01

/-- a short text -/
structure T (n : Nat) (x : Str) : Prop where
  len : x.length ≤ n
  asc : Asc (tl x)
theorem T.cat {a b : Nat} {x y : Str} (h : T a x) (k : T b y) : T (a + b) (x ++ y) := ⟨by rw [cat_len]; have := h.len; have := k.len; omega, by rw [tl_append]; exact asc_app h.asc k.asc⟩
theorem T.rd {n : Nat} {x : Str} (h : T n x) (hn : n ≤ 900) : Rd (.str x) := ⟨x, rfl, Nat.le_trans h.len hn, h.asc⟩
theorem T.cut {n : Nat} {x : Str} (h : T n x) (lo hi : Option Int) : T n (cutS x lo hi) := by
  have e : tl (cutS x lo hi) = _ := rfl
  refine ⟨?_, fun c hc => ?_⟩
  · have := h.len
    rw [len_tl]
    rw [len_tl] at this
    unfold cutS
    rw [tl_mk, List.length_take, List.length_drop]
    show min _ ((tl x).length - _) ≤ n
    omega
  · unfold cutS at hc
    rw [tl_mk] at hc
    exact h.asc c (List.mem_of_mem_drop (List.mem_of_mem_take hc))
theorem T.one {c : Nat} (h : c < 128) : T 1 (S [c]) := ⟨by rw [S_len]; simp, fun x hx => by rw [List.mem_singleton.mp hx]; exact h⟩
def litB (x : Str) : Bool := decide (x.length ≤ 20) && (tl x).all (fun c => decide (c < 128))
theorem lit_T {x : Str} (h : litB x = true) : T 20 x := by
  unfold litB at h
  rw [Bool.and_eq_true] at h
  exact ⟨of_decide_eq_true h.1, fun c hc => of_decide_eq_true (List.all_eq_true.mp h.2 c hc)⟩
theorem q0 : T 20 ("0" : Str) := lit_T (by decide +kernel)
theorem qp : T 20 ("+" : Str) := lit_T (by decide +kernel)
theorem qm : T 20 ("-" : Str) := lit_T (by decide +kernel)
theorem qb : T 20 (" " : Str) := lit_T (by decide +kernel)
theorem qn : T 20 ("\n" : Str) := lit_T (by decide +kernel)
theorem qs : T 20 ("/" : Str) := lit_T (by decide +kernel)
theorem qs1 : T 20 ("/1" : Str) := lit_T (by decide +kernel)
theorem qs3 : T 20 ("/3" : Str) := lit_T (by decide +kernel)
theorem qs7 : T 20 ("/7" : Str) := lit_T (by decide +kernel)
theorem q1s : T 20 ("1/" : Str) := lit_T (by decide +kernel)
theorem q17 : T 20 ("1/7" : Str) := lit_T (by decide +kernel)
theorem q7s : T 20 ("7/" : Str) := lit_T (by decide +kernel)
theorem q3 : T 20 ("3" : Str) := lit_T (by decide +kernel)
theorem qsp : T 20 (" / " : Str) := lit_T (by decide +kernel)
theorem qss : T 20 ("//" : Str) := lit_T (by decide +kernel)
theorem qch : T 20 ("0123456789-/+ ._e,x" : Str) := lit_T (by decide +kernel)
theorem lsp : (" / " : Str).length = 3 := by decide +kernel
theorem lss : ("//" : Str).length = 2 := by decide +kernel
theorem ls : ("/" : Str).length = 1 := by decide +kernel
theorem lch : (("0123456789-/+ ._e,x" : Str) ++ ("\n" : Str)).length = 20 := by decide +kernel
/-! ### near texts -/
def nI (x : Str) (turns : D) (ch : Str) (m : Nat) (ds : List D) (ρ : Sl) : Prop := ∃ (ks : List Int) (ts : List D) (c4 c5 : Cell), ds = ks.map D.int ∧ ts.length + 3 * ds.length ≤ m ∧ (∀ d ∈ ts, Rd d) ∧ ρ = [.v (.str x), .v turns, .v (.str ch), .o ts, c4, c5]
theorem n_step {x : Str} {turns : D} {ch : Str} {m : Nat} (hx : T 205 x) (hc : T 1 ch) (hm : m ≤ 100) (d : D) (ds : List D) (ρ : Sl) (h : nI x turns ch m (d :: ds) ρ) : ∃ ρ1, PF.gName 4 d ρ = some ρ1 ∧ ∃ ρ2, (b1_ulaw_near ρ1 = .nx ρ2 ∨ b1_ulaw_near ρ1 = .ct ρ2) ∧ nI x turns ch m ds ρ2 := by
  obtain ⟨ks, ts, c4, c5, h1, h2, h3, rfl⟩ := h
  cases ks with
  | nil => cases h1
  | cons k ks =>
    cases h1
    refine ⟨_, rfl, ?_⟩
    have h2 : ts.length + 3 * (ks.length + 1) ≤ m := by simpa using h2
    have lx := hx.len
    have bl : bLen (.str x) = .ok (.int x.length) := by
      simp only [bLen]
      rw [if_pos (by omega)]
    have n0 : ¬ ((x.length : Int) + 1 = 0) := by omega
    generalize hp : k.fmod ((x.length : Int) + 1) = p
    have A := hx.cut none (some p)
    have B := hx.cut (some p) none
    have C := hx.cut (some (p + 1)) none
    have z : x.length ≤ 16777216 := by omega
    generalize hA : cutS x none (some p) = a at A
    generalize hB : cutS x (some p) none = b at B
    generalize hC : cutS x (some (p + 1)) none = c at C
    have la := A.len
    have lb := B.len
    have lc := C.len
    have lh := hc.len
    refine ⟨[.v (.str x), .v turns, .v (.str ch), .o (((ts ++ [.str (a ++ ch ++ b)]) ++ [.str (a ++ c)]) ++ [.str (a ++ ch ++ c)]), .v (.int k), .v (.int p)], .inl ?_, ks, _, _, _, rfl, by simp; omega, fun d hd => ?_, rfl⟩
    · simp (disch := first | omega | (simp only [cat_len, List.length_append, List.length_cons, List.length_nil]; omega)) [leC, ltC, -bLen, b1_ulaw_near, bl, n0, hp, hA, hB, hC, z]
    · rcases List.mem_append.mp hd with q | q
      · rcases List.mem_append.mp q with q | q
        · rcases List.mem_append.mp q with q | q
          · exact h3 d q
          · rw [List.mem_singleton.mp q]; exact ((A.cat hc).cat B).rd (by decide)
        · rw [List.mem_singleton.mp q]; exact (A.cat C).rd (by decide)
      · rw [List.mem_singleton.mp q]; exact ((A.cat hc).cat C).rd (by decide)
theorem near_ok {x : Str} (hx : T 205 x) {ts : List Int} (hts : ts.length = 6) : ∃ ds, f_ulaw_near [.str x, .lst (ts.map D.int)] = .ok (.fr ds) ∧ ds.length ≤ 100 ∧ ∀ d ∈ ds, Rd d := by
  have x0 := ix_i (cs := ts) (i := 0) (k := 0) rfl (by omega)
  generalize ts[0]'(by omega) = t0 at *
  have b := fmod_b t0 20 (by decide)
  obtain ⟨c, c1, c2⟩ := ix_str (x := ("0123456789-/+ ._e,x" : Str) ++ ("\n" : Str)) (by rw [lch]; decide) b.1 (by rw [lch]; exact b.2)
  have hc : T 1 (S [c]) := T.one ((qch.cat qn).asc c c1)
  have lx := hx.len
  obtain ⟨ms, m1, m2⟩ := cutn ts 1 4
  have m1 : cutD (ts.map D.int) (some 1) (some 4) = ms.map D.int := m1
  obtain ⟨ρ', e1, ks, ds, c4, c5, e2, e3, e4, rfl⟩ := for_inv (nI x (.lst (ts.map D.int)) (S [c]) 9) (n_step hx hc (by decide)) (ms.map D.int) [.v (.str x), .v (.lst (ts.map D.int)), .v (.str (S [c])), .o [], .e, .e] ⟨ms, [], .e, .e, rfl, by simp; omega, by simp, rfl⟩
  have e3 : ds.length ≤ 9 := by simpa using e3
  have z1 : ("0123456789-/+ ._e,x" : Str).length + ("\n" : Str).length ≤ 16777216 := by rw [← cat_len, lch]; decide
  have r1 : x.length + (x.length + 1) * (" / " : Str).length ≤ 16777216 := by rw [lsp]; omega
  have r2 : x.length + (x.length + 1) * ("//" : Str).length ≤ 16777216 := by rw [lss]; omega
  have l0 := q0.len
  have l1 := qp.len
  have l2 := qm.len
  have l3 := qb.len
  have l4 := qn.len
  have l5 := qs.len
  have l6 := qs1.len
  have l7 := qs3.len
  have l8 := q1s.len
  refine ⟨(ds ++ [.str ("0" ++ x), .str ("+" ++ x), .str ("-" ++ x), .str (" " ++ x), .str (x ++ " "), .str (x ++ "\n"), .str ("\n" ++ x), .str (x ++ "/")]) ++ [.str ("/" ++ x), .str (x ++ "/1"), .str (x ++ "/3"), .str ("1/" ++ x), .str (Txt.replace x "/" " / "), .str (Txt.replace x "/" "//")], ?_, ?_, fun d hd => ?_⟩
  · generalize ts.map D.int = TS at *
    generalize ms.map D.int = MS at *
    generalize S [c] = ch at *
    simp (disch := first | omega | (simp only [cat_len, List.length_append, List.length_cons, List.length_nil]; omega)) [leC, ltC, -oIx, f_ulaw_near, g_ulaw_near, bint_i, x0, c2, z1, m1, e1, r1, r2]
  · simp
    omega
  · rcases List.mem_append.mp hd with q | q
    · rcases List.mem_append.mp q with q | q
      · exact e4 d q
      · simp only [List.mem_cons, List.not_mem_nil, or_false] at q
        rcases q with rfl | rfl | rfl | rfl | rfl | rfl | rfl | rfl
        · exact (q0.cat hx).rd (by decide)
        · exact (qp.cat hx).rd (by decide)
        · exact (qm.cat hx).rd (by decide)
        · exact (qb.cat hx).rd (by decide)
        · exact (hx.cat qb).rd (by decide)
        · exact (hx.cat qn).rd (by decide)
        · exact (qn.cat hx).rd (by decide)
        · exact (hx.cat qs).rd (by decide)
    · simp only [List.mem_cons, List.not_mem_nil, or_false] at q
      rcases q with rfl | rfl | rfl | rfl | rfl | rfl
      · exact (qs.cat hx).rd (by decide)
      · exact (hx.cat qs1).rd (by decide)
      · exact (hx.cat qs3).rd (by decide)
      · exact (q1s.cat hx).rd (by decide)
      · exact rep_rd (by rw [ls]; decide) hx.len (by rw [lsp]; decide) hx.asc qsp.asc
      · exact rep_rd (by rw [ls]; decide) hx.len (by rw [lss]; decide) hx.asc qss.asc
/-! ### fixed texts -/
def fix1 : List Str := ["0", "-0", "00", "-", "", "/", "-/", "1/0", "-1/0", "0/1", "0/7", "-0/3", "4/2", "3/1", "-3/1", "01", "-01"]
def fix2 : List Str := ["1/02", "02/3", "1/-2", "1/+2", "--1", "+1", "1_0", "1.0", "1e3", "0x1", "1/2/3", "-3", "7/2", "-1/2"]
theorem fix_b : ((fix1 ++ fix2).all litB) = true := by decide +kernel
theorem fixed_ok : ∃ ds, f_ulaw_fixed [] = .ok (.fr ds) ∧ ds.length ≤ 100 ∧ ∀ d ∈ ds, Rd d := by
  refine ⟨fix1.map D.str ++ fix2.map D.str, ?_, by simp [fix1, fix2], fun d hd => ?_⟩
  · simp [f_ulaw_fixed, g_ulaw_fixed, fix1, fix2]
  · rw [← List.map_append] at hd
    obtain ⟨x, hx, rfl⟩ := List.mem_map.mp hd
    exact (lit_T (List.all_eq_true.mp fix_b x hx)).rd (by decide)
/-! ### the whole -/
theorem v_run {y0 y1 y2 y3 y4 y5 y6 y8 y9 y10 y11 y12 : Cell} : ∀ (vs : List (Int × Int)) (c : Cell), (∀ v ∈ vs, v.1.natAbs < 10 ^ 100 ∧ v.2.natAbs < 10 ^ 100) → ∃ c', forRun (PF.gName 7) b1_law (vs.map fun v => D.tup [.int v.1, .int v.2]) [y0, y1, y2, y3, y4, y5, y6, c, y8, y9, y10, y11, y12] = .nx [y0, y1, y2, y3, y4, y5, y6, c', y8, y9, y10, y11, y12]
  | [], c, _ => ⟨c, rfl⟩
  | v :: vs, c, h => by
    obtain ⟨c', ih⟩ := v_run (y0 := y0) (y1 := y1) (y2 := y2) (y3 := y3) (y4 := y4) (y5 := y5) (y6 := y6) (y8 := y8) (y9 := y9) (y10 := y10) (y11 := y11) (y12 := y12) vs (.v (.tup [.int v.1, .int v.2])) (fun w hw => h w (by simp [hw]))
    obtain ⟨h1, h2⟩ := h v (by simp)
    refine ⟨c', ?_⟩
    have e1 := written_ok h1 h2
    have e2 := ltext_ok h1 h2
    have e3 := reads_ok (rt_rd h1 h2)
    rw [List.map_cons]
    simp only [forRun, PF.gName]
    generalize (vs.map fun v => D.tup [.int v.1, .int v.2]) = VS at *
    simpa [b1_law, e1, e2, e3] using ih
theorem r_run {y0 y1 y2 y3 y4 y5 y6 y7 y8 y9 y10 y11 : Cell} : ∀ (ds : List D) (c : Cell), (∀ d ∈ ds, Rd d) → ∃ c', forRun (PF.gName 12) b2_law ds [y0, y1, y2, y3, y4, y5, y6, y7, y8, y9, y10, y11, c] = .nx [y0, y1, y2, y3, y4, y5, y6, y7, y8, y9, y10, y11, c']
  | [], c, _ => ⟨c, rfl⟩
  | d :: ds, c, h => by
    obtain ⟨c', ih⟩ := r_run (y0 := y0) (y1 := y1) (y2 := y2) (y3 := y3) (y4 := y4) (y5 := y5) (y6 := y6) (y7 := y7) (y8 := y8) (y9 := y9) (y10 := y10) (y11 := y11) ds (.v d) (fun w hw => h w (by simp [hw]))
    refine ⟨c', ?_⟩
    have e := reads_ok (h d (by simp))
    simp only [forRun, PF.gName]
    simpa [b2_law, e] using ih
theorem sgS (i : Int) (h0 : 0 ≤ i) (h : i < 2) : ∃ neg : Bool, oIx (.lst [.str "", .str "-"]) (.int i) = .ok (.str (S (sgL neg))) := by
  have : i = 0 ∨ i = 1 := by omega
  rcases this with e | e <;> subst e
  · exact ⟨false, by rw [oIxL0]; rfl⟩
  · exact ⟨true, by rw [oIxL1, minus]; rfl⟩
theorem T.S {l : List Nat} (n : Nat) (h : l.length ≤ n) (a : Asc l) : T n (S l) := ⟨by rw [S_len]; exact h, a⟩
theorem law_true : ∀ ns : List Int, ns.length ≤ 63 → f_law [.rol (ns.map D.int)] = .ok (.bl true) := fun ns hns => by
  obtain ⟨c0, hc0, r0⟩ := row_ok ns hns 0 (by decide) 43 (by decide)
  have r0 : f_ulaw_row [.rol (ns.map D.int), .int 0, .int 43] = _ := r0
  obtain ⟨c1, hc1, r1⟩ := row_ok ns hns 1 (by decide) 43 (by decide)
  have r1 : f_ulaw_row [.rol (ns.map D.int), .int 1, .int 43] = _ := r1
  obtain ⟨ts, hts, r2⟩ := row_ok ns hns 2 (by decide) 6 (by decide)
  have r2 : f_ulaw_row [.rol (ns.map D.int), .int 2, .int 6] = _ := r2
  obtain ⟨dl, d1, d2, d3, d4, d5⟩ := digits_ok hc0
  obtain ⟨ol, o1, o2, o3, o4, o5⟩ := digits_ok hc1
  have x4 := ix_i (cs := ts) (i := 4) (k := 4) rfl (by omega)
  have x5 := ix_i (cs := ts) (i := 5) (k := 5) rfl (by omega)
  generalize ts[4]'(by omega) = t4 at *
  generalize ts[5]'(by omega) = t5 at *
  obtain ⟨neg, sg1⟩ := sgS (t4.fmod 2) (fmod_b t4 2 (by decide)).1 (fmod_b t4 2 (by decide)).2
  -- the numbers
  have tk : ∀ l : List Nat, dg l → dg (l.take 40) := fun l h c hc => h c (List.mem_of_mem_take hc)
  have tl40 : ∀ l : List Nat, 1 ≤ l.length → 1 ≤ (l.take 40).length := fun l h => by rw [List.length_take]; omega
  have th : ∀ l : List Nat, l.head? ≠ some 48 → (l.take 40).head? ≠ some 48 := fun l h q => h (by
    cases l with
    | nil => simpa using q
    | cons x r => simpa using q)
  have i1 := int_sg d2 d3 d4 neg
  have i2 := bint_ok o2 (by omega) o4
  have i3 := int_sg (l := dl.take 40) (tl40 _ d2) (by rw [List.length_take]; omega) (tk _ d4) neg
  have i4 := bint_ok (h := ol.take 40) (tl40 _ o2) (by rw [List.length_take]; omega) (tk _ o4)
  have k1 := cut_to dl 40
  have k2 := cut_to ol 40
  have k1 : cutS (S dl) none (some 40) = S (dl.take 40) := k1
  have k2 : cutS (S ol) none (some 40) = S (ol.take 40) := k2
  have vo := val1 o2 o4 o5
  have vo4 := val1 (l := ol.take 40) (tl40 _ o2) (tk _ o4) (th _ o5)
  obtain ⟨p, q, e1, e2, e3⟩ := lowest_ok (a := sg neg (val dl)) (b := ((val ol : Nat) : Int)) (by omega) (by rw [sg_abs]; exact val50 d3 d4) (by rw [Int.natAbs_natCast]; exact val50 o3 o4)
  obtain ⟨u, v, e4, e5, e6⟩ := lowest_ok (a := sg neg (val (dl.take 40))) (b := ((val (ol.take 40) : Nat) : Int)) (by omega) (by rw [sg_abs]; exact val50 (by rw [List.length_take]; omega) (tk _ d4)) (by rw [Int.natAbs_natCast]; exact val50 (by rw [List.length_take]; omega) (tk _ o4))
  have up : ∀ i : Int, i.natAbs < 10 ^ 50 → i.natAbs < 10 ^ 100 := fun i h => Nat.lt_of_lt_of_le h (by decide)
  have P := up p e2
  have Q := up q e3
  have U := up u e5
  have V := up v e6
  obtain ⟨cv, lv⟩ := v_run (y0 := .v (.rol (ns.map D.int))) (y1 := .v (.str (S dl))) (y2 := .v (.str (S ol))) (y3 := .v (.lst (ts.map D.int))) (y4 := .v (.str (S (sgL neg)))) (y5 := .v (.tup [.int p, .int q])) (y6 := .v (.tup [.int u, .int v])) (y8 := .e) (y9 := .e) (y10 := .e) (y11 := .e) (y12 := .e) [(p, q), (u, v), (p, 1), (v, 1), (0, 1)] .e (fun w hw => by
    simp only [List.mem_cons, List.not_mem_nil, or_false] at hw
    rcases hw with rfl | rfl | rfl | rfl | rfl
    · exact ⟨P, Q⟩
    · exact ⟨U, V⟩
    · exact ⟨P, (by decide : (1 : Int).natAbs < 10 ^ 100)⟩
    · exact ⟨V, (by decide : (1 : Int).natAbs < 10 ^ 100)⟩
    · exact ⟨by decide, by decide⟩)
  simp only [List.map_cons, List.map_nil] at lv
  -- the short texts
  have Ts : T 1 (S (sgL neg)) := T.S 1 (by cases neg <;> simp [sgL]) (fun c hc => by cases neg <;> simp [sgL] at hc; omega)
  have Td : T 41 (S dl) := T.S 41 d3 (asc_dg d4)
  have To : T 41 (S ol) := T.S 41 o3 (asc_dg o4)
  have Td4 : T 41 (S (dl.take 40)) := T.S 41 (by rw [List.length_take]; omega) (asc_dg (tk _ d4))
  have c40 : ∀ x : Str, x.length ≤ 41 → 1 ≤ x.length → cb ((2 : Int) ≤ 40 ∧ (40 : Int) ≤ 1000 ∧ x.length ≤ 1000 ∧ 1 ≤ x.length) = true := fun x h h1 => cb_t ⟨by decide, by decide, by omega, h1⟩
  have m1 : oMulS (.str (S dl)) (.int 40) = .ok (.str (repS 40 (S dl))) := by
    simp only [oMulS, c40 _ Td.len (by rw [S_len]; omega), if_true]
    rfl
  have m2 : oMulS (.str (S ol)) (.int 40) = .ok (.str (repS 40 (S ol))) := by
    simp only [oMulS, c40 _ To.len (by rw [S_len]; omega), if_true]
    rfl
  have rl : ∀ x : Str, x.length ≤ 41 → (repS 40 x).length ≤ 16777216 := fun x h => rep_le (by decide) (by omega)
  have fT : ∀ x : Str, T 41 x → T 40 (cutS (repS 40 x) none (some 40)) := fun x h => by
    refine ⟨?_, ?_⟩
    · rw [show repS 40 x = S (tl (repS 40 x)) from (mk_tl _).symm, show (40 : Int) = ((40 : Nat) : Int) from rfl, cut_to, S_len, List.length_take]
      omega
    · intro c hc
      rw [show repS 40 x = S (tl (repS 40 x)) from (mk_tl _).symm, show (40 : Int) = ((40 : Nat) : Int) from rfl, cut_to] at hc
      exact h.asc c (rep_in (List.mem_of_mem_take hc))
  have Tf := fT _ Td
  have Tw := fT _ To
  have wn : 1 ≤ (cutS (repS 40 (S ol)) none (some 40)).length := by
    have := rep_ne (k := 40) (x := S ol) (by decide) (by rw [S_len]; exact o2)
    rw [show repS 40 (S ol) = S (tl (repS 40 (S ol))) from (mk_tl _).symm, show (40 : Int) = ((40 : Nat) : Int) from rfl, cut_to, S_len, List.length_take]
    rw [len_tl] at this
    omega
  have z1 := rl _ Td.len
  have z2 := rl _ To.len
  generalize repS 40 (S dl) = ra at *
  generalize repS 40 (S ol) = rb at *
  generalize hfo : cutS ra none (some 40) = fo at *
  generalize hwi : cutS rb none (some 40) = wi at *
  obtain ⟨wc, w1, w2⟩ := ix_str (x := wi) (by have := Tw.len; omega) (i := 0) (by decide) (by omega)
  have Tc : T 1 (S [wc]) := T.one (Tw.asc wc w1)
  -- the factor
  have bf := fmod_b t5 8 (by decide)
  have sm : (2 + t5.fmod 8).natAbs < 10 := by omega
  have mm : ∀ i, mulOk i (2 + t5.fmod 8) = true := fun i => mulOk_r (by omega)
  have big : ∀ i : Int, i.natAbs < 10 ^ 50 → (i * (2 + t5.fmod 8)).natAbs < 10 ^ 100 := fun i h => by
    rw [Int.natAbs_mul]
    have : i.natAbs * (2 + t5.fmod 8).natAbs ≤ 10 ^ 50 * 10 := Nat.mul_le_mul (Nat.le_of_lt h) (by omega)
    exact Nat.lt_of_le_of_lt this (by decide)
  have f1 := fit_of (big u e5)
  have f2 := fit_of (big v e6)
  have T1 : T 101 (strI (u * (2 + t5.fmod 8))) := ⟨str_len (big u e5), asc_i _⟩
  have T2 : T 101 (strI (v * (2 + t5.fmod 8))) := ⟨str_len (big v e6), asc_i _⟩
  have ltx := ltext_ok U V
  have wr := written_ok P Q
  have re := reads_ok (rt_rd U V)
  have Tr : T 205 (rt u v) := ⟨by have := rt_len U V; omega, asc_rti u v⟩
  obtain ⟨nd, n1, n2, n3⟩ := near_ok Tr hts
  obtain ⟨fd, g1, g2, g3⟩ := fixed_ok
  generalize hfa : 2 + t5.fmod 8 = fa at *
  have last := reads_ok ((Ts.cat Tf).rd (by decide))
  generalize hA : S (sgL neg) = sn at *
  generalize hB : S [wc] = w0 at *
  obtain ⟨cr, rr⟩ := r_run (y0 := .v (.rol (ns.map D.int))) (y1 := .v (.str (S dl))) (y2 := .v (.str (S ol))) (y3 := .v (.lst (ts.map D.int))) (y4 := .v (.str sn)) (y5 := .v (.tup [.int p, .int q])) (y6 := .v (.tup [.int u, .int v])) (y7 := cv) (y8 := .v (.str fo)) (y9 := .v (.str wi))
    (y10 := .v (.lst (((([.str (sn ++ fo), .str (sn ++ fo ++ w0), .str ("1/" ++ wi), .str (sn ++ "1/" ++ wi ++ "3"), .str (sn ++ fo ++ "/" ++ wi)] ++ [.str (sn ++ fo ++ "/7"), .str (sn ++ fo ++ "1/7"), .str (sn ++ "7/" ++ wi), .str ("-" ++ wi), .str ("-" ++ wi ++ "0")]) ++ [.str (strI (u * fa) ++ "/" ++ strI (v * fa))]) ++ nd) ++ fd))) (y11 := .v (.int fa))
    (((([.str (sn ++ fo), .str (sn ++ fo ++ w0), .str ("1/" ++ wi), .str (sn ++ "1/" ++ wi ++ "3"), .str (sn ++ fo ++ "/" ++ wi)] ++ [.str (sn ++ fo ++ "/7"), .str (sn ++ fo ++ "1/7"), .str (sn ++ "7/" ++ wi), .str ("-" ++ wi), .str ("-" ++ wi ++ "0")]) ++ [.str (strI (u * fa) ++ "/" ++ strI (v * fa))]) ++ nd) ++ fd) .e (fun d hd => by
      rcases List.mem_append.mp hd with h | h
      · rcases List.mem_append.mp h with h | h
        · rcases List.mem_append.mp h with h | h
          · rcases List.mem_append.mp h with h | h
            · simp only [List.mem_cons, List.not_mem_nil, or_false] at h
              rcases h with rfl | rfl | rfl | rfl | rfl
              · exact (Ts.cat Tf).rd (by decide)
              · exact ((Ts.cat Tf).cat Tc).rd (by decide)
              · exact (q1s.cat Tw).rd (by decide)
              · exact (((Ts.cat q1s).cat Tw).cat q3).rd (by decide)
              · exact (((Ts.cat Tf).cat qs).cat Tw).rd (by decide)
            · simp only [List.mem_cons, List.not_mem_nil, or_false] at h
              rcases h with rfl | rfl | rfl | rfl | rfl
              · exact ((Ts.cat Tf).cat qs7).rd (by decide)
              · exact ((Ts.cat Tf).cat q17).rd (by decide)
              · exact ((Ts.cat q7s).cat Tw).rd (by decide)
              · exact (qm.cat Tw).rd (by decide)
              · exact ((qm.cat Tw).cat q0).rd (by decide)
          · rw [List.mem_singleton.mp h]
            exact ((T1.cat qs).cat T2).rd (by decide)
        · exact n3 d h
      · exact g3 d h)
  simp only [List.cons_append, List.nil_append, List.append_assoc] at rr
  have a1 := Ts.len
  have a2 := Td.len
  have a3 := To.len
  have a4 := Td4.len
  have a5 := Tf.len
  have a6 := Tw.len
  have a7 := Tc.len
  have a8 := T1.len
  have a9 := T2.len
  have b1 := q1s.len
  have b2 := q3.len
  have b3 := qs.len
  have b4 := qs7.len
  have b5 := q17.len
  have b6 := q7s.len
  have b7 := qm.len
  have b8 := q0.len
  have lno : (S dl).length ≤ 16777216 := by omega
  have lno2 : (S ol).length ≤ 16777216 := by omega
  have tl : ∀ ds, thaw (.fr ds) = .ok (.lst ds) := fun _ => rfl
  generalize S (dl.take 40) = sd4 at *
  generalize S (ol.take 40) = so4 at *
  generalize S dl = sd at *
  generalize S ol = so at *
  generalize hsu : strI (u * fa) = su at *
  generalize hsv : strI (v * fa) = sv at *
  generalize ns.map D.int = NS at *
  generalize c0.map D.int = C0 at *
  generalize c1.map D.int = C1 at *
  generalize ts.map D.int = TS at *
  have thaw_t : ∀ ds, thaw (.tup ds) = .ok (.tup ds) := fun _ => rfl
  have thaw_s : ∀ x, thaw (.str x) = .ok (.str x) := fun _ => rfl
  unfold f_law
  refine semF_ret ?_
  unfold g_law
  refine (seq_nx (ρ' := [.v (.rol NS), .v (.str sd), .e, .e, .e, .e, .e, .e, .e, .e, .e, .e, .e]) ?_).trans ?_
  · simp (disch := first | omega | (simp only [cat_len, List.length_append, List.length_cons, List.length_nil]; omega)) [leC, ltC, -bIntT, -oIx, -oMulS, -thaw, thaw_s, r0, tl, d1]
  refine (seq_nx (ρ' := [.v (.rol NS), .v (.str sd), .v (.str so), .e, .e, .e, .e, .e, .e, .e, .e, .e, .e]) ?_).trans ?_
  · simp (disch := first | omega | (simp only [cat_len, List.length_append, List.length_cons, List.length_nil]; omega)) [leC, ltC, -bIntT, -oIx, -oMulS, -thaw, thaw_s, r1, tl, o1]
  refine (seq_nx (ρ' := [.v (.rol NS), .v (.str sd), .v (.str so), .v (.lst TS), .e, .e, .e, .e, .e, .e, .e, .e, .e]) ?_).trans ?_
  · simp (disch := first | omega | (simp only [cat_len, List.length_append, List.length_cons, List.length_nil]; omega)) [leC, ltC, -bIntT, -oIx, -oMulS, -thaw, r2, tl]
  refine (seq_nx (ρ' := [.v (.rol NS), .v (.str sd), .v (.str so), .v (.lst TS), .v (.str sn), .e, .e, .e, .e, .e, .e, .e, .e]) ?_).trans ?_
  · simp (disch := first | omega | (simp only [cat_len, List.length_append, List.length_cons, List.length_nil]; omega)) [leC, ltC, -bIntT, -oIx, -oMulS, -thaw, x4, bint_i, sg1]
  refine (seq_nx (ρ' := [.v (.rol NS), .v (.str sd), .v (.str so), .v (.lst TS), .v (.str sn), .v (.tup [.int p, .int q]), .e, .e, .e, .e, .e, .e, .e]) ?_).trans ?_
  · simp (disch := first | omega | (simp only [cat_len, List.length_append, List.length_cons, List.length_nil]; omega)) [leC, ltC, -bIntT, -oIx, -oMulS, -thaw, thaw_t, i1, i2, e1]
  refine (seq_nx (ρ' := [.v (.rol NS), .v (.str sd), .v (.str so), .v (.lst TS), .v (.str sn), .v (.tup [.int p, .int q]), .v (.tup [.int u, .int v]), .e, .e, .e, .e, .e, .e]) ?_).trans ?_
  · simp (disch := first | omega | (simp only [cat_len, List.length_append, List.length_cons, List.length_nil]; omega)) [leC, ltC, -bIntT, -oIx, -oMulS, -thaw, thaw_t, k1, k2, lno, lno2, i3, i4, e4]
  refine (seq_nx (ρ' := [.v (.rol NS), .v (.str sd), .v (.str so), .v (.lst TS), .v (.str sn), .v (.tup [.int p, .int q]), .v (.tup [.int u, .int v]), cv, .e, .e, .e, .e, .e]) ?_).trans ?_
  · simp (disch := first | omega | (simp only [cat_len, List.length_append, List.length_cons, List.length_nil]; omega)) [leC, ltC, -bIntT, -oIx, -oMulS, -thaw, oIxT0, oIxT1, lv]
  refine (seq_nx (ρ' := [.v (.rol NS), .v (.str sd), .v (.str so), .v (.lst TS), .v (.str sn), .v (.tup [.int p, .int q]), .v (.tup [.int u, .int v]), cv, .v (.str fo), .e, .e, .e, .e]) ?_).trans ?_
  · simp (disch := first | omega | (simp only [cat_len, List.length_append, List.length_cons, List.length_nil]; omega)) [leC, ltC, -bIntT, -oIx, -oMulS, -thaw, m1, z1, hfo]
  refine (seq_nx (ρ' := [.v (.rol NS), .v (.str sd), .v (.str so), .v (.lst TS), .v (.str sn), .v (.tup [.int p, .int q]), .v (.tup [.int u, .int v]), cv, .v (.str fo), .v (.str wi), .e, .e, .e]) ?_).trans ?_
  · simp (disch := first | omega | (simp only [cat_len, List.length_append, List.length_cons, List.length_nil]; omega)) [leC, ltC, -bIntT, -oIx, -oMulS, -thaw, m2, z2, hwi]
  refine (seq_nx (ρ' := [.v (.rol NS), .v (.str sd), .v (.str so), .v (.lst TS), .v (.str sn), .v (.tup [.int p, .int q]), .v (.tup [.int u, .int v]), cv, .v (.str fo), .v (.str wi), .o ([.str (sn ++ fo), .str (sn ++ fo ++ w0), .str ("1/" ++ wi), .str (sn ++ "1/" ++ wi ++ "3"), .str (sn ++ fo ++ "/" ++ wi)]), .e, .e]) ?_).trans ?_
  · simp (disch := first | omega | (simp only [cat_len, List.length_append, List.length_cons, List.length_nil]; omega)) [leC, ltC, -bIntT, -oIx, -oMulS, -thaw, w2]
  refine (seq_nx (ρ' := [.v (.rol NS), .v (.str sd), .v (.str so), .v (.lst TS), .v (.str sn), .v (.tup [.int p, .int q]), .v (.tup [.int u, .int v]), cv, .v (.str fo), .v (.str wi), .o ([.str (sn ++ fo), .str (sn ++ fo ++ w0), .str ("1/" ++ wi), .str (sn ++ "1/" ++ wi ++ "3"), .str (sn ++ fo ++ "/" ++ wi)] ++ [.str (sn ++ fo ++ "/7"), .str (sn ++ fo ++ "1/7"), .str (sn ++ "7/" ++ wi), .str ("-" ++ wi), .str ("-" ++ wi ++ "0")]), .e, .e]) ?_).trans ?_
  · simp (disch := first | omega | (simp only [cat_len, List.length_append, List.length_cons, List.length_nil]; omega)) [leC, ltC, -bIntT, -oIx, -oMulS, -thaw]
  refine (seq_nx (ρ' := [.v (.rol NS), .v (.str sd), .v (.str so), .v (.lst TS), .v (.str sn), .v (.tup [.int p, .int q]), .v (.tup [.int u, .int v]), cv, .v (.str fo), .v (.str wi), .o ([.str (sn ++ fo), .str (sn ++ fo ++ w0), .str ("1/" ++ wi), .str (sn ++ "1/" ++ wi ++ "3"), .str (sn ++ fo ++ "/" ++ wi)] ++ [.str (sn ++ fo ++ "/7"), .str (sn ++ fo ++ "1/7"), .str (sn ++ "7/" ++ wi), .str ("-" ++ wi), .str ("-" ++ wi ++ "0")]), .v (.int fa), .e]) ?_).trans ?_
  · simp (disch := first | omega | (simp only [cat_len, List.length_append, List.length_cons, List.length_nil]; omega)) [leC, ltC, -bIntT, -oIx, -oMulS, -thaw, x5, bint_i, hfa]
  refine (seq_nx (ρ' := [.v (.rol NS), .v (.str sd), .v (.str so), .v (.lst TS), .v (.str sn), .v (.tup [.int p, .int q]), .v (.tup [.int u, .int v]), cv, .v (.str fo), .v (.str wi), .o (([.str (sn ++ fo), .str (sn ++ fo ++ w0), .str ("1/" ++ wi), .str (sn ++ "1/" ++ wi ++ "3"), .str (sn ++ fo ++ "/" ++ wi)] ++ [.str (sn ++ fo ++ "/7"), .str (sn ++ fo ++ "1/7"), .str (sn ++ "7/" ++ wi), .str ("-" ++ wi), .str ("-" ++ wi ++ "0")]) ++ [.str (su ++ "/" ++ sv)]), .v (.int fa), .e]) ?_).trans ?_
  · simp (disch := first | omega | (simp only [cat_len, List.length_append, List.length_cons, List.length_nil]; omega)) [leC, ltC, -bIntT, -oIx, -oMulS, -thaw, mm, f1, f2, hsu, hsv, oIxT0, oIxT1]
  refine (seq_nx (ρ' := [.v (.rol NS), .v (.str sd), .v (.str so), .v (.lst TS), .v (.str sn), .v (.tup [.int p, .int q]), .v (.tup [.int u, .int v]), cv, .v (.str fo), .v (.str wi), .o ((([.str (sn ++ fo), .str (sn ++ fo ++ w0), .str ("1/" ++ wi), .str (sn ++ "1/" ++ wi ++ "3"), .str (sn ++ fo ++ "/" ++ wi)] ++ [.str (sn ++ fo ++ "/7"), .str (sn ++ fo ++ "1/7"), .str (sn ++ "7/" ++ wi), .str ("-" ++ wi), .str ("-" ++ wi ++ "0")]) ++ [.str (su ++ "/" ++ sv)]) ++ nd), .v (.int fa), .e]) ?_).trans ?_
  · simp (disch := first | omega | (simp only [cat_len, List.length_append, List.length_cons, List.length_nil]; omega)) [leC, ltC, -bIntT, -oIx, -oMulS, -thaw, thaw_s, ltx, n1]
  refine (seq_nx (ρ' := [.v (.rol NS), .v (.str sd), .v (.str so), .v (.lst TS), .v (.str sn), .v (.tup [.int p, .int q]), .v (.tup [.int u, .int v]), cv, .v (.str fo), .v (.str wi), .o (((([.str (sn ++ fo), .str (sn ++ fo ++ w0), .str ("1/" ++ wi), .str (sn ++ "1/" ++ wi ++ "3"), .str (sn ++ fo ++ "/" ++ wi)] ++ [.str (sn ++ fo ++ "/7"), .str (sn ++ fo ++ "1/7"), .str (sn ++ "7/" ++ wi), .str ("-" ++ wi), .str ("-" ++ wi ++ "0")]) ++ [.str (su ++ "/" ++ sv)]) ++ nd) ++ fd), .v (.int fa), .e]) ?_).trans ?_
  · simp (disch := first | omega | (simp only [cat_len, List.length_append, List.length_cons, List.length_nil]; omega)) [leC, ltC, -bIntT, -oIx, -oMulS, -thaw, g1]
  have l1 := n2
  have l2 := g2
  simp (disch := first | omega | (simp only [cat_len, List.length_append, List.length_cons, List.length_nil]; omega)) [leC, ltC, -bIntT, -oIx, -oMulS, -thaw, thaw_s, ltx, rr, wr, re, last]
end M_k01

set_option Elab.async false
set_option linter.all false
set_option maxRecDepth 100000
set_option maxHeartbeats 4000000
/-! The walk: each def keeps its promise; the end (printed by gen.py) -/
namespace W_k01
open PySem PySem.Spec L2 PF S_k01
def top (i : Nat) : Stmt := PySem.Challenge.pw_costsexplained_k01_ratio_texts_read_back.main.body.getD i (.Pass ⟨0, 0, 0, 0⟩)
structure Bi (mg : Mg) : Prop where
  ValueError : mg "ValueError" = none
  abs : mg "abs" = none
  all : mg "all" = none
  any : mg "any" = none
  bool : mg "bool" = none
  gcd : mg "gcd" = some (.builtin "math.gcd")
  int : mg "int" = none
  isinstance : mg "isinstance" = none
  len : mg "len" = none
  range : mg "range" = none
  str : mg "str" = none
  tuple : mg "tuple" = none
structure Ez (K : Frg) (mg : Mg) : Prop where
  BadNumber : ExcT K mg "BadNumber" (He.ga K "BadNumber")
  g_BadName : mg "BadName" = some (.ref (He.ga K "BadName"))
  g_BadNumber : mg "BadNumber" = some (.ref (He.ga K "BadNumber"))
  g_BadPaper : mg "BadPaper" = some (.ref (He.ga K "BadPaper"))
  g_BadQuestion : mg "BadQuestion" = some (.ref (He.ga K "BadQuestion"))
  g_BadRange : mg "BadRange" = some (.ref (He.ga K "BadRange"))
  g_BadSeen : mg "BadSeen" = some (.ref (He.ga K "BadSeen"))
  g_BadTask : mg "BadTask" = some (.ref (He.ga K "BadTask"))
  g_BadText : mg "BadText" = some (.ref (He.ga K "BadText"))
  g_CostsError : mg "CostsError" = some (.ref (He.ga K "CostsError"))
  g_NoCosts : mg "NoCosts" = some (.ref (He.ga K "NoCosts"))
  g_NotAPlan : mg "NotAPlan" = some (.ref (He.ga K "NotAPlan"))
  g_StaleKey : mg "StaleKey" = some (.ref (He.ga K "StaleKey"))
  g_TooMany : mg "TooMany" = some (.ref (He.ga K "TooMany"))
  g_UnknownName : mg "UnknownName" = some (.ref (He.ga K "UnknownName"))
  g_Unlisted : mg "Unlisted" = some (.ref (He.ga K "Unlisted"))
  X_t_ValueError : TabI K mg t_ValueError (.type "ValueError")
  X_t_BadNumber : TabI K mg t_BadNumber (.ref (He.ga K "BadNumber"))
  X_t_BadTsk_NotAan_Unlied_BadPer_NoCots_BadQon_BadRge_BadSen_TooMny : TabT K mg t_BadTsk_NotAan_Unlied_BadPer_NoCots_BadQon_BadRge_BadSen_TooMny [(.ref (He.ga K "BadTask")), (.ref (He.ga K "NotAPlan")), (.ref (He.ga K "Unlisted")), (.ref (He.ga K "BadPaper")), (.ref (He.ga K "NoCosts")), (.ref (He.ga K "BadQuestion")), (.ref (He.ga K "BadRange")), (.ref (He.ga K "BadSeen")), (.ref (He.ga K "TooMany"))]
  X_t_BadTxt_BadNme_Unknme_Staley : TabT K mg t_BadTxt_BadNme_Unknme_Staley [(.ref (He.ga K "BadText")), (.ref (He.ga K "BadName")), (.ref (He.ga K "UnknownName")), (.ref (He.ga K "StaleKey"))]
  Y_t_CostsError : Tab K mg t_CostsError (.ref (He.ga K "CostsError"))
  c_DIGITS : Gc mg "DIGITS" (.str "0123456789")
  c_MOST_DIGITS : Gc mg "MOST_DIGITS" (.int 40)
abbrev s_make_ratio : Stmt := top 20
theorem sc_make_ratio : FnScope ["num", "den", "part"] ["num", "den"] (defScope s_make_ratio) := ⟨rfl, rfl, rfl, by decide +kernel, rfl, by decide +kernel, by decide +kernel⟩
theorem ok_make_ratio {P : Program} {w : World} {K : Frg} {mg : Mg} {base : Heap} {f : Addr} {fd : FuncData} (F : Fun K "make_ratio" "make_ratio" s_make_ratio f fd) (B : Bi mg) (Z : Ez K mg) : FnOk P w K mg base (L2.CX P w) 1 f fd ["num", "den"] (spF K mg 2 f_make_ratio) :=
  fn_ok F sc_make_ratio fun cdv A outer s H E hr cs => (ms_cons (ms_if (mt_cmp (op_eqD hr.units) o_eq (mr_rd 1 (pv 1)) (mr_of me_int) (nomark _)) (ms_one (ms_raise cs Z.BadNumber)) ms_nil)
    (ms_cons (ms_set 2 sc_make_ratio.nd (me_bf2 cr_gcd b_gcd B.gcd (mr_rd 0 (pv 0)) (mr_rd 1 (pv 1))))
    (ms_cons (ms_if (mt_cmp op_lt o_lt (mr_rd 1 (pv 1)) (mr_of me_int) (nomark _)) (ms_one (ms_set 2 sc_make_ratio.nd (me_un un_neg o_neg (mr_rd 2 (pv 2))))) ms_nil)
    (ms_one (ms_ret (me_tup (ma_cons (me_op op_fdivU o_fdiv (mr_rd 0 (pv 0)) (mr_rd 2 (pv 2))) (ma_cons (me_op op_fdivU o_fdiv (mr_rd 1 (pv 1)) (mr_rd 2 (pv 2))) ma_nil))))))))
abbrev s_ratio_text : Stmt := top 21
theorem sc_ratio_text : FnScope ["value"] ["value"] (defScope s_ratio_text) := ⟨rfl, rfl, rfl, by decide +kernel, rfl, by decide +kernel, by decide +kernel⟩
theorem ok_ratio_text {P : Program} {w : World} {K : Frg} {mg : Mg} {base : Heap} {f : Addr} {fd : FuncData} (F : Fun K "ratio_text" "ratio_text" s_ratio_text f fd) (B : Bi mg) (Z : Ez K mg) : FnOk P w K mg base (L2.CX P w) 1 f fd ["value"] (spF K mg 1 f_ratio_text) :=
  fn_ok F sc_ratio_text fun cdv A outer s H E hr cs => (ms_cons (ms_if (mt_cmp (op_eqD hr.units) o_eq (mr_of (me_ix ix_seq o_ix (mr_rd 0 (pv 0)) (mr_of me_int) (fun _ _ => rfl))) (mr_of me_int) (nomark _)) (ms_one (ms_ret (me_t1 call_strU b_str B.str (by decide +kernel) (mr_of (me_ix ix_seq o_ix (mr_rd 0 (pv 0)) (mr_of me_int) (fun _ _ => rfl)))))) ms_nil)
    (ms_one (ms_ret (me_joined (mj_cons (me_fmt (mr_of (me_ix ix_seq o_ix (mr_rd 0 (pv 0)) (mr_of me_int) (fun _ _ => rfl)))) (mj_cons me_str (mj_cons (me_fmt (mr_of (me_ix ix_seq o_ix (mr_rd 0 (pv 0)) (mr_of me_int) (fun _ _ => rfl)))) mj_nil)))))))
abbrev s_read_digits : Stmt := top 22
theorem sc_read_digits : FnScope ["text", "sign"] ["text"] (defScope s_read_digits) := ⟨rfl, rfl, rfl, by decide +kernel, rfl, by decide +kernel, by decide +kernel⟩
theorem ok_read_digits {P : Program} {w : World} {K : Frg} {mg : Mg} {base : Heap} {f : Addr} {fd : FuncData} (F : Fun K "read_digits" "read_digits" s_read_digits f fd) (B : Bi mg) (Z : Ez K mg) : FnOk P w K mg base (L2.CX P w) 1 f fd ["text"] (spF K mg 1 f_read_digits) :=
  fn_ok F sc_read_digits fun cdv A outer s H E hr cs => (ms_cons (ms_if (mt_not (mt_chn op_le o_le op_le o_le (mr_of me_int) (mr_of (me_b1 call_len b_len B.len (by decide +kernel) (mr_rd 0 (pv 0)))) (mr_of (me_gc Z.c_MOST_DIGITS)))) (ms_one (ms_raise cs Z.BadNumber)) ms_nil)
    (ms_cons (ms_for cs.po cs.hc (mi_seq (me_var 0 (pv 0))) (mg_name 1 sc_read_digits.nd) (ms_one (ms_if (mt_cmp op_notIn_sign o_ninS (mr_rd 1 (pv 1)) (mr_of (me_gc Z.c_DIGITS)) (by with_unfolding_all rfl)) (ms_one (ms_raise cs Z.BadNumber)) ms_nil)))
    (ms_one (ms_ret (me_t1 call_intT b_intT B.int (by decide +kernel) (mr_rd 0 (pv 0)))))))
abbrev s_read_ratio : Stmt := top 23
theorem sc_read_ratio : FnScope ["text", "body", "head", "mark", "tail", "num", "den", "value"] ["text"] (defScope s_read_ratio) := ⟨rfl, rfl, rfl, by decide +kernel, rfl, by decide +kernel, by decide +kernel⟩
theorem ok_read_ratio {P : Program} {w : World} {K : Frg} {mg : Mg} {base : Heap} {f : Addr} {fd : FuncData} (F : Fun K "read_ratio" "read_ratio" s_read_ratio f fd) (B : Bi mg) (Z : Ez K mg) {a_read_digits : Addr} {d_read_digits : FuncData} (D_read_digits : Df P w K mg base "read_digits" 1 a_read_digits d_read_digits ["text"] f_read_digits) {a_make_ratio : Addr} {d_make_ratio : FuncData} (D_make_ratio : Df P w K mg base "make_ratio" 1 a_make_ratio d_make_ratio ["num", "den"] f_make_ratio) {a_ratio_text : Addr} {d_ratio_text : FuncData} (D_ratio_text : Df P w K mg base "ratio_text" 1 a_ratio_text d_ratio_text ["value"] f_ratio_text) : FnOk P w K mg base (L2.CX P w) 2 f fd ["text"] (spF K mg 1 f_read_ratio) :=
  fn_ok F sc_read_ratio fun cdv A outer s H E hr cs => (ms_cons (ms_set 1 sc_read_ratio.nd (me_var 0 (pv 0)))
    (ms_cons (ms_if (mt_cmp (op_eqD hr.units) o_eq (mr_of (me_sl (mr_rd 0 (pv 0)) mp_none (mp_some me_int))) (mr_of me_str) (nomark _)) (ms_one (ms_set 1 sc_read_ratio.nd (me_sl (mr_rd 0 (pv 0)) (mp_some me_int) mp_none))) ms_nil)
    (ms_cons (ms_asg (me_m1 o_part (pe_partition (mr_rd 1 (pv 1)) (mr_of me_str))) (mg_tup cs.hc (mgs_cons (mg_name 2 sc_read_ratio.nd) (mgs_cons (mg_name 3 sc_read_ratio.nd) (mgs_cons (mg_name 4 sc_read_ratio.nd) mgs_nil)))))
    (ms_cons (ms_set 5 sc_read_ratio.nd (me_calD D_read_digits (hr.mono (by decide)) cs.cw (ma_cons (me_var 2 (pv 2)) ma_nil) (len_cons (fun ρ ds h => len_nil h))))
    (ms_cons (ms_set 6 sc_read_ratio.nd me_int)
    (ms_cons (ms_if (mt_cmp (op_eqD hr.units) o_eq (mr_rd 3 (pv 3)) (mr_of me_str) (nomark _)) (ms_one (ms_set 6 sc_read_ratio.nd (me_calD D_read_digits (hr.mono (by decide)) cs.cw (ma_cons (me_var 4 (pv 4)) ma_nil) (len_cons (fun ρ ds h => len_nil h))))) ms_nil)
    (ms_cons (ms_if (mt_cmp (op_eqD hr.units) o_eq (mr_of (me_sl (mr_rd 0 (pv 0)) mp_none (mp_some me_int))) (mr_of me_str) (nomark _)) (ms_one (ms_set 5 sc_read_ratio.nd (me_un un_neg o_neg (mr_rd 5 (pv 5))))) ms_nil)
    (ms_cons (ms_set 7 sc_read_ratio.nd (me_calD D_make_ratio (hr.mono (by decide)) cs.cw (ma_cons (me_var 5 (pv 5)) (ma_cons (me_var 6 (pv 6)) ma_nil)) (len_cons (len_cons (fun ρ ds h => len_nil h)))))
    (ms_cons (ms_if (mt_cmp (op_neD hr.units) o_ne (mr_of (me_calD D_ratio_text (hr.mono (by decide)) cs.cw (ma_cons (me_var 7 (pv 7)) ma_nil) (len_cons (fun ρ ds h => len_nil h)))) (mr_rd 0 (pv 0)) (nomark _)) (ms_one (ms_raise cs Z.BadNumber)) ms_nil)
    (ms_one (ms_ret (me_var 7 (pv 7)))))))))))))
abbrev s_ulaw_mix : Stmt := top 25
theorem sc_ulaw_mix : FnScope ["cell", "k", "first", "second"] ["cell", "k"] (defScope s_ulaw_mix) := ⟨rfl, rfl, rfl, by decide +kernel, rfl, by decide +kernel, by decide +kernel⟩
theorem ok_ulaw_mix {P : Program} {w : World} {K : Frg} {mg : Mg} {base : Heap} {f : Addr} {fd : FuncData} (F : Fun K "_law_mix" "_law_mix" s_ulaw_mix f fd) (B : Bi mg) (Z : Ez K mg) : FnOk P w K mg base (L2.CX P w) 1 f fd ["cell", "k"] (spF K mg 2 f_ulaw_mix) :=
  fn_ok F sc_ulaw_mix fun cdv A outer s H E hr cs => (ms_cons (ms_set 2 sc_ulaw_mix.nd (me_op op_modN o_mod (mr_of (me_t1 call_intT b_intT B.int (by decide +kernel) (mr_of (me_op op_addU o_add (mr_of (me_op op_addU o_add (mr_of (me_op op_mulU o_mul (mr_rd 0 (pv 0)) (mr_of me_int))) (mr_of (me_op op_mulU o_mul (mr_rd 1 (pv 1)) (mr_of me_int))))) (mr_of me_int))))) (mr_of me_int)))
    (ms_cons (ms_set 3 sc_ulaw_mix.nd (me_op op_modN o_mod (mr_of (me_t1 call_intT b_intT B.int (by decide +kernel) (mr_of (me_op op_addU o_add (mr_of (me_op op_addU o_add (mr_of (me_op op_mulU o_mul (mr_rd 2 (pv 2)) (mr_rd 2 (pv 2)))) (mr_of (me_op op_mulU o_mul (mr_rd 1 (pv 1)) (mr_of me_int))))) (mr_of me_int))))) (mr_of me_int)))
    (ms_one (ms_ret (me_op op_fdivU o_fdiv (mr_of (me_op op_modN o_mod (mr_of (me_t1 call_intT b_intT B.int (by decide +kernel) (mr_of (me_op op_addU o_add (mr_of (me_op op_mulU o_mul (mr_rd 3 (pv 3)) (mr_of me_int))) (mr_rd 2 (pv 2)))))) (mr_of me_int))) (mr_of me_int))))))
abbrev s_ulaw_row : Stmt := top 26
theorem sc_ulaw_row : FnScope ["script", "at", "many", "cell", "row", "rest", "k"] ["script", "at", "many"] (defScope s_ulaw_row) := ⟨rfl, rfl, rfl, by decide +kernel, rfl, by decide +kernel, by decide +kernel⟩
theorem ok_ulaw_row {P : Program} {w : World} {K : Frg} {mg : Mg} {base : Heap} {f : Addr} {fd : FuncData} (F : Fun K "_law_row" "_law_row" s_ulaw_row f fd) (B : Bi mg) (Z : Ez K mg) {a_ulaw_mix : Addr} {d_ulaw_mix : FuncData} (D_ulaw_mix : Df P w K mg base "_law_mix" 1 a_ulaw_mix d_ulaw_mix ["cell", "k"] f_ulaw_mix) : FnOk P w K mg base (L2.CX P w) 2 f fd ["script", "at", "many"] (spF K mg 3 f_ulaw_row) :=
  fn_ok F sc_ulaw_row fun cdv A outer s H E hr cs => (ms_cons (ms_set 3 sc_ulaw_row.nd (me_var 1 (pv 1)))
    (ms_cons (ms_if (mt_cmp op_lt o_lt (mr_rd 1 (pv 1)) (mr_of (me_b1 call_len b_len B.len (by decide +kernel) (mr_rd 0 (pv 0)))) (nomark _)) (ms_one (ms_set 3 sc_ulaw_row.nd (me_ix ix_seq o_ix (mr_rd 0 (pv 0)) (mr_rd 1 (pv 1)) (fun _ _ => rfl)))) (ms_one (ms_if (mt_cmp op_gt o_gt (mr_of (me_b1 call_len b_len B.len (by decide +kernel) (mr_rd 0 (pv 0)))) (mr_of me_int) (nomark _)) (ms_one (ms_set 3 sc_ulaw_row.nd (me_op op_addU o_add (mr_of (me_ix ix_seq o_ix (mr_rd 0 (pv 0)) (mr_of (me_op op_modN o_mod (mr_rd 1 (pv 1)) (mr_of (me_b1 call_len b_len B.len (by decide +kernel) (mr_rd 0 (pv 0)))))) (fun _ _ => rfl))) (mr_of (me_op op_mulU o_mul (mr_of me_int) (mr_rd 1 (pv 1))))))) ms_nil)))
    (ms_cons (ms_setO 4 sc_ulaw_row.nd (mf_lst ma_nil))
    (ms_cons (ms_set 5 sc_ulaw_row.nd (me_b1 call_abs b_abs B.abs (by decide +kernel) (mr_rd 3 (pv 3))))
    (ms_cons (ms_for cs.po cs.hc (mi_rng1 rfl B.range (ma_cons (me_var 2 (pv 2)) ma_nil)) (mg_name 6 sc_ulaw_row.nd) (ms_one (ms_if (PW.pt (mw_and (mt_cmp op_ge o_ge (mr_of (me_b1 call_abs b_abs B.abs (by decide +kernel) (mr_rd 3 (pv 3)))) (mr_of me_int) (nomark _)) (mw_and1 (mt_cmp op_gt o_gt (mr_rd 5 (pv 5)) (mr_of me_int) (nomark _))))) (ms_cons (ms_app 4 (pv 4) (me_op op_modN o_mod (mr_of (me_t1 call_intT b_intT B.int (by decide +kernel) (mr_rd 5 (pv 5)))) (mr_of me_int)))
    (ms_one (ms_set 5 sc_ulaw_row.nd (me_op op_fdivU o_fdiv (mr_rd 5 (pv 5)) (mr_of me_int))))) (ms_one (ms_app 4 (pv 4) (me_calD D_ulaw_mix (hr.mono (by decide)) cs.cw (ma_cons (me_var 3 (pv 3)) (ma_cons (me_var 6 (pv 6)) ma_nil)) (len_cons (len_cons (fun ρ ds h => len_nil h)))))))))
    (ms_one (ms_retO 4 (pv 4))))))))
abbrev s_ulaw_is_whole : Stmt := top 27
theorem sc_ulaw_is_whole : FnScope ["value"] ["value"] (defScope s_ulaw_is_whole) := ⟨rfl, rfl, rfl, by decide +kernel, rfl, by decide +kernel, by decide +kernel⟩
theorem ok_ulaw_is_whole {P : Program} {w : World} {K : Frg} {mg : Mg} {base : Heap} {f : Addr} {fd : FuncData} (F : Fun K "_law_is_whole" "_law_is_whole" s_ulaw_is_whole f fd) (B : Bi mg) (Z : Ez K mg) : FnOk P w K mg base (L2.CX P w) 1 f fd ["value"] (spF K mg 1 f_ulaw_is_whole) :=
  fn_ok F sc_ulaw_is_whole fun cdv A outer s H E hr cs => (ms_one (ms_ret (me_and (me_isi (mr_rd 0 (pv 0)) (by decide +kernel) B.isinstance B.int) (pe_one (me_not (me_isi (mr_rd 0 (pv 0)) (by decide +kernel) B.isinstance B.bool))))))
abbrev s_ulaw_is_tuple : Stmt := top 28
theorem sc_ulaw_is_tuple : FnScope ["value", "size", "num"] ["value", "size"] (defScope s_ulaw_is_tuple) := ⟨rfl, rfl, rfl, by decide +kernel, rfl, by decide +kernel, by decide +kernel⟩
theorem ok_ulaw_is_tuple {P : Program} {w : World} {K : Frg} {mg : Mg} {base : Heap} {f : Addr} {fd : FuncData} (F : Fun K "_law_is_tuple" "_law_is_tuple" s_ulaw_is_tuple f fd) (B : Bi mg) (Z : Ez K mg) {a_ulaw_is_whole : Addr} {d_ulaw_is_whole : FuncData} (D_ulaw_is_whole : Df P w K mg base "_law_is_whole" 1 a_ulaw_is_whole d_ulaw_is_whole ["value"] f_ulaw_is_whole) : FnOk P w K mg base (L2.CX P w) 2 f fd ["value", "size"] (spF K mg 2 f_ulaw_is_tuple) :=
  fn_ok F sc_ulaw_is_tuple fun cdv A outer s H E hr cs => (ms_one (ms_ret (me_and (me_isi (mr_rd 0 (pv 0)) (by decide +kernel) B.isinstance B.tuple) (me_and (me_cmp (op_eqD hr.units) o_eq (mr_of (me_b1 call_len b_len B.len (by decide +kernel) (mr_rd 0 (pv 0)))) (mr_rd 1 (pv 1)) (nomark _)) (pe_one (me_b1 (cr_all cs.hc) b_all B.all (by decide +kernel) (mr_f (mf_lc (own := [("num", 2)]) cs.hc sc_ulaw_is_tuple.nd (mi_seq (me_var 0 (pv 0))) (blkOk_by (N := ["value", "size", "num"]) (sc := defScope s_ulaw_is_tuple) (by decide +kernel)) (fun _ _ _ _ _ => (mg_name 2 sc_ulaw_is_tuple.nd)) (fun _ _ _ _ _ => mts_nil) (fun _ _ _ _ _ => (me_calD D_ulaw_is_whole (hr.mono (by decide)) cw0 (ma_cons (me_var 2 (pv 2)) ma_nil) (len_cons (fun ρ ds h => len_nil h))))))))))))
abbrev s_ulaw_common : Stmt := top 29
theorem sc_ulaw_common : FnScope ["left", "right", "step"] ["left", "right"] (defScope s_ulaw_common) := ⟨rfl, rfl, rfl, by decide +kernel, rfl, by decide +kernel, by decide +kernel⟩
theorem ok_ulaw_common {P : Program} {w : World} {K : Frg} {mg : Mg} {base : Heap} {f : Addr} {fd : FuncData} (F : Fun K "_law_common" "_law_common" s_ulaw_common f fd) (B : Bi mg) (Z : Ez K mg) : FnOk P w K mg base (L2.CX P w) 1 f fd ["left", "right"] (spF K mg 2 f_ulaw_common) :=
  fn_ok F sc_ulaw_common fun cdv A outer s H E hr cs => (ms_cons (ms_par 0 1 cs.hc sc_ulaw_common.nd (me_b1 call_abs b_abs B.abs (by decide +kernel) (mr_rd 0 (pv 0))) (me_b1 call_abs b_abs B.abs (by decide +kernel) (mr_rd 1 (pv 1))))
    (ms_cons (ms_for cs.po cs.hc (mi_rng1 rfl B.range (ma_cons (me_op op_addU o_add (mr_of (me_op op_mulU o_mul (mr_of me_int) (mr_of (me_bits (mr_rd 1 (pv 1)))))) (mr_of me_int)) ma_nil)) (mg_name 2 sc_ulaw_common.nd) (ms_cons (ms_if (mt_cmp (op_eqD hr.units) o_eq (mr_rd 1 (pv 1)) (mr_of me_int) (nomark _)) (ms_one (ms_ret (me_var 0 (pv 0)))) ms_nil)
    (ms_one (ms_par 0 1 cs.hc sc_ulaw_common.nd (me_var 1 (pv 1)) (me_op op_modN o_mod (mr_of (me_t1 call_intT b_intT B.int (by decide +kernel) (mr_rd 0 (pv 0)))) (mr_rd 1 (pv 1)))))))
    (ms_one (ms_ret (me_var 0 (pv 0))))))
abbrev s_ulaw_lowest : Stmt := top 30
theorem sc_ulaw_lowest : FnScope ["num", "den", "part"] ["num", "den"] (defScope s_ulaw_lowest) := ⟨rfl, rfl, rfl, by decide +kernel, rfl, by decide +kernel, by decide +kernel⟩
theorem ok_ulaw_lowest {P : Program} {w : World} {K : Frg} {mg : Mg} {base : Heap} {f : Addr} {fd : FuncData} (F : Fun K "_law_lowest" "_law_lowest" s_ulaw_lowest f fd) (B : Bi mg) (Z : Ez K mg) {a_ulaw_common : Addr} {d_ulaw_common : FuncData} (D_ulaw_common : Df P w K mg base "_law_common" 1 a_ulaw_common d_ulaw_common ["left", "right"] f_ulaw_common) : FnOk P w K mg base (L2.CX P w) 2 f fd ["num", "den"] (spF K mg 2 f_ulaw_lowest) :=
  fn_ok F sc_ulaw_lowest fun cdv A outer s H E hr cs => (ms_cons (ms_set 2 sc_ulaw_lowest.nd (me_calD D_ulaw_common (hr.mono (by decide)) cs.cw (ma_cons (me_var 0 (pv 0)) (ma_cons (me_var 1 (pv 1)) ma_nil)) (len_cons (len_cons (fun ρ ds h => len_nil h)))))
    (ms_cons (ms_if (mt_cmp op_lt o_lt (mr_rd 1 (pv 1)) (mr_of me_int) (nomark _)) (ms_one (ms_set 2 sc_ulaw_lowest.nd (me_un un_neg o_neg (mr_rd 2 (pv 2))))) ms_nil)
    (ms_one (ms_ret (me_tup (ma_cons (me_op op_fdivU o_fdiv (mr_rd 0 (pv 0)) (mr_rd 2 (pv 2))) (ma_cons (me_op op_fdivU o_fdiv (mr_rd 1 (pv 1)) (mr_rd 2 (pv 2))) ma_nil)))))))
abbrev s_ulaw_digits : Stmt := top 31
theorem sc_ulaw_digits : FnScope ["cells", "size", "text", "cell"] ["cells"] (defScope s_ulaw_digits) := ⟨rfl, rfl, rfl, by decide +kernel, rfl, by decide +kernel, by decide +kernel⟩
theorem ok_ulaw_digits {P : Program} {w : World} {K : Frg} {mg : Mg} {base : Heap} {f : Addr} {fd : FuncData} (F : Fun K "_law_digits" "_law_digits" s_ulaw_digits f fd) (B : Bi mg) (Z : Ez K mg) : FnOk P w K mg base (L2.CX P w) 1 f fd ["cells"] (spF K mg 1 f_ulaw_digits) :=
  fn_ok F sc_ulaw_digits fun cdv A outer s H E hr cs => (ms_cons (ms_set 1 sc_ulaw_digits.nd (me_ix ix_seq o_ix (mr_f (mf_lst (ma_cons me_int (ma_cons me_int (ma_cons me_int (ma_cons me_int (ma_cons me_int (ma_cons (me_op op_addU o_add (mr_of me_int) (mr_of (me_op op_modN o_mod (mr_of (me_t1 call_intT b_intT B.int (by decide +kernel) (mr_of (me_ix ix_seq o_ix (mr_rd 0 (pv 0)) (mr_of me_int) (fun _ _ => rfl))))) (mr_of me_int)))) ma_nil)))))))) (mr_of (me_op op_modN o_mod (mr_of (me_t1 call_intT b_intT B.int (by decide +kernel) (mr_of (me_ix ix_seq o_ix (mr_rd 0 (pv 0)) (mr_of me_int) (fun _ _ => rfl))))) (mr_of me_int))) (fun _ _ => rfl)))
    (ms_cons (ms_set 2 sc_ulaw_digits.nd (me_ix ix_seq o_ix (mr_of me_str) (mr_of (me_op op_modN o_mod (mr_of (me_t1 call_intT b_intT B.int (by decide +kernel) (mr_of (me_ix ix_seq o_ix (mr_rd 0 (pv 0)) (mr_of me_int) (fun _ _ => rfl))))) (mr_of me_int))) (fun _ _ => rfl)))
    (ms_cons (ms_for cs.po cs.hc (mi_seq (me_sl (mr_rd 0 (pv 0)) (mp_some me_int) (mp_some (me_op op_addU o_add (mr_of me_int) (mr_rd 1 (pv 1)))))) (mg_name 3 sc_ulaw_digits.nd) (ms_one (ms_set 2 sc_ulaw_digits.nd (me_op op_addU o_add (mr_rd 2 (pv 2)) (mr_of (me_ix ix_seq o_ix (mr_of me_str) (mr_of (me_op op_modN o_mod (mr_of (me_t1 call_intT b_intT B.int (by decide +kernel) (mr_rd 3 (pv 3)))) (mr_of me_int))) (fun _ _ => rfl)))))))
    (ms_one (ms_ret (me_var 2 (pv 2)))))))
abbrev s_ulaw_text : Stmt := top 32
theorem sc_ulaw_text : FnScope ["ratio"] ["ratio"] (defScope s_ulaw_text) := ⟨rfl, rfl, rfl, by decide +kernel, rfl, by decide +kernel, by decide +kernel⟩
theorem ok_ulaw_text {P : Program} {w : World} {K : Frg} {mg : Mg} {base : Heap} {f : Addr} {fd : FuncData} (F : Fun K "_law_text" "_law_text" s_ulaw_text f fd) (B : Bi mg) (Z : Ez K mg) : FnOk P w K mg base (L2.CX P w) 1 f fd ["ratio"] (spF K mg 1 f_ulaw_text) :=
  fn_ok F sc_ulaw_text fun cdv A outer s H E hr cs => (ms_cons (ms_if (mt_cmp (op_eqD hr.units) o_eq (mr_of (me_ix ix_seq o_ix (mr_rd 0 (pv 0)) (mr_of me_int) (fun _ _ => rfl))) (mr_of me_int) (nomark _)) (ms_one (ms_ret (me_t1 call_strU b_str B.str (by decide +kernel) (mr_of (me_ix ix_seq o_ix (mr_rd 0 (pv 0)) (mr_of me_int) (fun _ _ => rfl)))))) ms_nil)
    (ms_one (ms_ret (me_op op_addU o_add (mr_of (me_op op_addU o_add (mr_of (me_t1 call_strU b_str B.str (by decide +kernel) (mr_of (me_ix ix_seq o_ix (mr_rd 0 (pv 0)) (mr_of me_int) (fun _ _ => rfl))))) (mr_of me_str))) (mr_of (me_t1 call_strU b_str B.str (by decide +kernel) (mr_of (me_ix ix_seq o_ix (mr_rd 0 (pv 0)) (mr_of me_int) (fun _ _ => rfl)))))))))
abbrev s_ulaw_is_number : Stmt := top 33
theorem sc_ulaw_is_number : FnScope ["text", "char"] ["text"] (defScope s_ulaw_is_number) := ⟨rfl, rfl, rfl, by decide +kernel, rfl, by decide +kernel, by decide +kernel⟩
theorem ok_ulaw_is_number {P : Program} {w : World} {K : Frg} {mg : Mg} {base : Heap} {f : Addr} {fd : FuncData} (F : Fun K "_law_is_number" "_law_is_number" s_ulaw_is_number f fd) (B : Bi mg) (Z : Ez K mg) : FnOk P w K mg base (L2.CX P w) 1 f fd ["text"] (spF K mg 1 f_ulaw_is_number) :=
  fn_ok F sc_ulaw_is_number fun cdv A outer s H E hr cs => (ms_cons (ms_if (PW.pt (mw_or (mt_not (mt_chn op_le o_le op_le o_le (mr_of me_int) (mr_of (me_b1 call_len b_len B.len (by decide +kernel) (mr_rd 0 (pv 0)))) (mr_of me_int))) (mw_or1 (mt_tru (mr_of (me_b1 (cr_any cs.hc) b_any B.any (by decide +kernel) (mr_f (mf_lc (own := [("char", 1)]) cs.hc sc_ulaw_is_number.nd (mi_seq (me_var 0 (pv 0))) (blkOk_by (N := ["text", "char"]) (sc := defScope s_ulaw_is_number) (by decide +kernel)) (fun _ _ _ _ _ => (mg_name 1 sc_ulaw_is_number.nd)) (fun _ _ _ _ _ => mts_nil) (fun _ _ _ _ _ => (me_cmp op_notIn_sign o_ninS (mr_rd 1 (pv 1)) (mr_of me_str) (by with_unfolding_all rfl))))))))))) (ms_one (ms_ret me_bl)) ms_nil)
    (ms_one (ms_ret (me_or (me_cmp (op_eqD hr.units) o_eq (mr_of (me_b1 call_len b_len B.len (by decide +kernel) (mr_rd 0 (pv 0)))) (mr_of me_int) (nomark _)) (pe_one (me_cmp (op_neD hr.units) o_ne (mr_of (me_ix ix_seq o_ix (mr_rd 0 (pv 0)) (mr_of me_int) (fun _ _ => rfl))) (mr_of me_str) (nomark _)))))))
abbrev s_ulaw_read : Stmt := top 34
theorem sc_ulaw_read : FnScope ["text", "body", "sign", "parts", "num", "den", "part"] ["text"] (defScope s_ulaw_read) := ⟨rfl, rfl, rfl, by decide +kernel, rfl, by decide +kernel, by decide +kernel⟩
theorem ok_ulaw_read {P : Program} {w : World} {K : Frg} {mg : Mg} {base : Heap} {f : Addr} {fd : FuncData} (F : Fun K "_law_read" "_law_read" s_ulaw_read f fd) (B : Bi mg) (Z : Ez K mg) {a_ulaw_is_number : Addr} {d_ulaw_is_number : FuncData} (D_ulaw_is_number : Df P w K mg base "_law_is_number" 1 a_ulaw_is_number d_ulaw_is_number ["text"] f_ulaw_is_number) {a_ulaw_common : Addr} {d_ulaw_common : FuncData} (D_ulaw_common : Df P w K mg base "_law_common" 1 a_ulaw_common d_ulaw_common ["left", "right"] f_ulaw_common) : FnOk P w K mg base (L2.CX P w) 2 f fd ["text"] (spF K mg 1 f_ulaw_read) :=
  fn_ok F sc_ulaw_read fun cdv A outer s H E hr cs => (ms_cons (ms_set 1 sc_ulaw_read.nd (me_var 0 (pv 0)))
    (ms_cons (ms_set 2 sc_ulaw_read.nd me_int)
    (ms_cons (ms_if (mt_cmp (op_eqD hr.units) o_eq (mr_of (me_sl (mr_rd 0 (pv 0)) mp_none (mp_some me_int))) (mr_of me_str) (nomark _)) (ms_cons (ms_set 1 sc_ulaw_read.nd (me_sl (mr_rd 0 (pv 0)) (mp_some me_int) mp_none))
    (ms_one (ms_set 2 sc_ulaw_read.nd (me_un un_neg o_neg (mr_of me_int))))) ms_nil)
    (ms_cons (ms_set 3 sc_ulaw_read.nd (me_of (mf_m1 o_split (pe_split (mr_rd 1 (pv 1)) (mr_of me_str)))))
    (ms_cons (ms_if (PW.pt (mw_or (mt_cmp op_gt o_gt (mr_of (me_b1 call_len b_len B.len (by decide +kernel) (mr_rd 3 (pv 3)))) (mr_of me_int) (nomark _)) (mw_or1 (mt_not (mt_tru (mr_of (me_b1 (cr_all cs.hc) b_all B.all (by decide +kernel) (mr_f (mf_lc (own := [("part", 6)]) cs.hc sc_ulaw_read.nd (mi_seq (me_var 3 (pv 3))) (blkOk_by (N := ["text", "body", "sign", "parts", "num", "den", "part"]) (sc := defScope s_ulaw_read) (by decide +kernel)) (fun _ _ _ _ _ => (mg_name 6 sc_ulaw_read.nd)) (fun _ _ _ _ _ => mts_nil) (fun _ _ _ _ _ => (me_calD D_ulaw_is_number (hr.mono (by decide)) cw0 (ma_cons (me_var 6 (pv 6)) ma_nil) (len_cons (fun ρ ds h => len_nil h))))))))))))) (ms_one (ms_ret me_non)) ms_nil)
    (ms_cons (ms_set 4 sc_ulaw_read.nd (me_t1 call_intT b_intT B.int (by decide +kernel) (mr_of (me_ix ix_seq o_ix (mr_rd 3 (pv 3)) (mr_of me_int) (fun _ _ => rfl)))))
    (ms_cons (ms_if (PW.pt (mw_and (mt_cmp (op_eqD hr.units) o_eq (mr_rd 2 (pv 2)) (mr_of (me_un un_neg o_neg (mr_of me_int))) (nomark _)) (mw_and1 (mt_cmp (op_eqD hr.units) o_eq (mr_rd 4 (pv 4)) (mr_of me_int) (nomark _))))) (ms_one (ms_ret me_non)) ms_nil)
    (ms_cons (ms_if (mt_cmp (op_eqD hr.units) o_eq (mr_of (me_b1 call_len b_len B.len (by decide +kernel) (mr_rd 3 (pv 3)))) (mr_of me_int) (nomark _)) (ms_one (ms_ret (me_tup (ma_cons (me_op op_mulU o_mul (mr_rd 2 (pv 2)) (mr_rd 4 (pv 4))) (ma_cons me_int ma_nil))))) ms_nil)
    (ms_cons (ms_set 5 sc_ulaw_read.nd (me_t1 call_intT b_intT B.int (by decide +kernel) (mr_of (me_ix ix_seq o_ix (mr_rd 3 (pv 3)) (mr_of me_int) (fun _ _ => rfl)))))
    (ms_cons (ms_if (PW.pt (mw_or (mt_cmp op_lt o_lt (mr_rd 5 (pv 5)) (mr_of me_int) (nomark _)) (mw_or1 (mt_cmp (op_neD hr.units) o_ne (mr_of (me_calD D_ulaw_common (hr.mono (by decide)) cs.cw (ma_cons (me_var 4 (pv 4)) (ma_cons (me_var 5 (pv 5)) ma_nil)) (len_cons (len_cons (fun ρ ds h => len_nil h))))) (mr_of me_int) (nomark _))))) (ms_one (ms_ret me_non)) ms_nil)
    (ms_one (ms_ret (me_tup (ma_cons (me_op op_mulU o_mul (mr_rd 2 (pv 2)) (mr_rd 4 (pv 4))) (ma_cons (me_var 5 (pv 5)) ma_nil)))))))))))))))
abbrev s_ulaw_written : Stmt := top 35
theorem sc_ulaw_written : FnScope ["ratio", "told"] ["ratio"] (defScope s_ulaw_written) := ⟨rfl, rfl, rfl, by decide +kernel, rfl, by decide +kernel, by decide +kernel⟩
theorem ok_ulaw_written {P : Program} {w : World} {K : Frg} {mg : Mg} {base : Heap} {f : Addr} {fd : FuncData} (F : Fun K "_law_written" "_law_written" s_ulaw_written f fd) (B : Bi mg) (Z : Ez K mg) {a_ratio_text : Addr} {d_ratio_text : FuncData} (D_ratio_text : Df P w K mg base "ratio_text" 1 a_ratio_text d_ratio_text ["value"] f_ratio_text) {a_ulaw_text : Addr} {d_ulaw_text : FuncData} (D_ulaw_text : Df P w K mg base "_law_text" 1 a_ulaw_text d_ulaw_text ["ratio"] f_ulaw_text) : FnOk P w K mg base (L2.CX P w) 2 f fd ["ratio"] (spF K mg 1 f_ulaw_written) :=
  fn_ok F sc_ulaw_written fun cdv A outer s H E hr cs => (ms_cons (ms_set 1 sc_ulaw_written.nd (me_calD D_ratio_text (hr.mono (by decide)) cs.cw (ma_cons (me_var 0 (pv 0)) ma_nil) (len_cons (fun ρ ds h => len_nil h))))
    (ms_one (ms_ret (me_and (me_isi (mr_rd 1 (pv 1)) (by decide +kernel) B.isinstance B.str) (pe_one (me_cmp (op_eqD hr.units) o_eq (mr_rd 1 (pv 1)) (mr_of (me_calD D_ulaw_text (hr.mono (by decide)) cs.cw (ma_cons (me_var 0 (pv 0)) ma_nil) (len_cons (fun ρ ds h => len_nil h)))) (nomark _)))))))
abbrev s_ulaw_reads : Stmt := top 36
theorem sc_ulaw_reads : FnScope ["text", "due", "told", "refused", "e"] ["text"] (defScope s_ulaw_reads) := ⟨rfl, rfl, rfl, by decide +kernel, rfl, by decide +kernel, by decide +kernel⟩
theorem ok_ulaw_reads {P : Program} {w : World} {K : Frg} {mg : Mg} {base : Heap} {f : Addr} {fd : FuncData} (F : Fun K "_law_reads" "_law_reads" s_ulaw_reads f fd) (B : Bi mg) (Z : Ez K mg) {a_ulaw_read : Addr} {d_ulaw_read : FuncData} (D_ulaw_read : Df P w K mg base "_law_read" 2 a_ulaw_read d_ulaw_read ["text"] f_ulaw_read) {a_read_ratio : Addr} {d_read_ratio : FuncData} (D_read_ratio : Df P w K mg base "read_ratio" 2 a_read_ratio d_read_ratio ["text"] f_read_ratio) {a_ulaw_is_tuple : Addr} {d_ulaw_is_tuple : FuncData} (D_ulaw_is_tuple : Df P w K mg base "_law_is_tuple" 2 a_ulaw_is_tuple d_ulaw_is_tuple ["value", "size"] f_ulaw_is_tuple) : FnOk P w K mg base (L2.CX P w) 3 f fd ["text"] (spF K mg 1 f_ulaw_reads) :=
  fn_ok F sc_ulaw_reads fun cdv A outer s H E hr cs => (ms_cons (ms_set 1 sc_ulaw_reads.nd (me_calD D_ulaw_read (hr.mono (by decide)) cs.cw (ma_cons (me_var 0 (pv 0)) ma_nil) (len_cons (fun ρ ds h => len_nil h))))
    (ms_cons (ms_set 2 sc_ulaw_reads.nd me_non)
    (ms_cons (ms_set 3 sc_ulaw_reads.nd me_bl)
    (ms_cons (ms_try 4 cs rfl rfl sc_ulaw_reads.nd ⟨rfl, by decide, Or.inl Z.g_CostsError⟩ Z.Y_t_CostsError (fun W pn xe cs => (ms_one (ms_set 2 sc_ulaw_reads.nd (me_calD D_read_ratio (hr.mono (by decide)) cs.cw (ma_cons (me_var 0 (pv 0)) ma_nil) (len_cons (fun ρ ds h => len_nil h)))))) (fun a oe C dd pn hz hf => (ms_cons (ms_set 3 sc_ulaw_reads.nd (me_and (me_isE 4 hz hf Z.X_t_BadNumber (pv 4) (pe_glob (v := .ref (He.ga K "BadNumber")) rfl Z.g_BadNumber rfl) (.own _) B.isinstance) (pe_one (me_isE 4 hz hf Z.X_t_ValueError (pv 4) (pe_bltn (v := .ty "ValueError") rfl B.ValueError (by decide +kernel) rfl) (.ty _) B.isinstance))))
    (ms_cons (ms_if (mt_tru (mr_of (me_isET (cvs := [.ref (He.ga K "BadTask"), .ref (He.ga K "NotAPlan"), .ref (He.ga K "Unlisted"), .ref (He.ga K "BadPaper"), .ref (He.ga K "NoCosts"), .ref (He.ga K "BadQuestion"), .ref (He.ga K "BadRange"), .ref (He.ga K "BadSeen"), .ref (He.ga K "TooMany")]) 4 hz hf Z.X_t_BadTsk_NotAan_Unlied_BadPer_NoCots_BadQon_BadRge_BadSen_TooMny (pv 4) (pa_cons (pe_glob (v := .ref (He.ga K "BadTask")) rfl Z.g_BadTask rfl) (pa_cons (pe_glob (v := .ref (He.ga K "NotAPlan")) rfl Z.g_NotAPlan rfl) (pa_cons (pe_glob (v := .ref (He.ga K "Unlisted")) rfl Z.g_Unlisted rfl) (pa_cons (pe_glob (v := .ref (He.ga K "BadPaper")) rfl Z.g_BadPaper rfl) (pa_cons (pe_glob (v := .ref (He.ga K "NoCosts")) rfl Z.g_NoCosts rfl) (pa_cons (pe_glob (v := .ref (He.ga K "BadQuestion")) rfl Z.g_BadQuestion rfl) (pa_cons (pe_glob (v := .ref (He.ga K "BadRange")) rfl Z.g_BadRange rfl) (pa_cons (pe_glob (v := .ref (He.ga K "BadSeen")) rfl Z.g_BadSeen rfl) (pa_cons (pe_glob (v := .ref (He.ga K "TooMany")) rfl Z.g_TooMany rfl) pa_nil))))))))) (.cons (.own _) (.cons (.own _) (.cons (.own _) (.cons (.own _) (.cons (.own _) (.cons (.own _) (.cons (.own _) (.cons (.own _) (.cons (.own _) .nil))))))))) B.isinstance))) (ms_one (ms_set 3 sc_ulaw_reads.nd me_bl)) ms_nil)
    (ms_one (ms_if (mt_tru (mr_of (me_isET (cvs := [.ref (He.ga K "BadText"), .ref (He.ga K "BadName"), .ref (He.ga K "UnknownName"), .ref (He.ga K "StaleKey")]) 4 hz hf Z.X_t_BadTxt_BadNme_Unknme_Staley (pv 4) (pa_cons (pe_glob (v := .ref (He.ga K "BadText")) rfl Z.g_BadText rfl) (pa_cons (pe_glob (v := .ref (He.ga K "BadName")) rfl Z.g_BadName rfl) (pa_cons (pe_glob (v := .ref (He.ga K "UnknownName")) rfl Z.g_UnknownName rfl) (pa_cons (pe_glob (v := .ref (He.ga K "StaleKey")) rfl Z.g_StaleKey rfl) pa_nil)))) (.cons (.own _) (.cons (.own _) (.cons (.own _) (.cons (.own _) .nil)))) B.isinstance))) (ms_one (ms_set 3 sc_ulaw_reads.nd me_bl)) ms_nil))))))
    (ms_cons (ms_if (mt_cmp op_isN o_isN (mr_rd 1 (pv 1)) (mr_of me_non) (nomark _)) (ms_one (ms_ret (me_var 3 (pv 3)))) ms_nil)
    (ms_one (ms_ret (me_and (me_not (me_var 3 (pv 3))) (me_and (me_calD D_ulaw_is_tuple (hr.mono (by decide)) cs.cw (ma_cons (me_var 2 (pv 2)) (ma_cons me_int ma_nil)) (len_cons (len_cons (fun ρ ds h => len_nil h)))) (pe_one (me_cmp (op_eqD hr.units) o_eq (mr_rd 2 (pv 2)) (mr_rd 1 (pv 1)) (nomark _))))))))))))
abbrev s_ulaw_near : Stmt := top 37
theorem sc_ulaw_near : FnScope ["text", "turns", "char", "texts", "turn", "place"] ["text", "turns"] (defScope s_ulaw_near) := ⟨rfl, rfl, rfl, by decide +kernel, rfl, by decide +kernel, by decide +kernel⟩
theorem ok_ulaw_near {P : Program} {w : World} {K : Frg} {mg : Mg} {base : Heap} {f : Addr} {fd : FuncData} (F : Fun K "_law_near" "_law_near" s_ulaw_near f fd) (B : Bi mg) (Z : Ez K mg) : FnOk P w K mg base (L2.CX P w) 1 f fd ["text", "turns"] (spF K mg 2 f_ulaw_near) :=
  fn_ok F sc_ulaw_near fun cdv A outer s H E hr cs => (ms_cons (ms_set 2 sc_ulaw_near.nd (me_ix ix_seq o_ix (mr_of (me_op op_addU o_add (mr_of me_str) (mr_of me_str))) (mr_of (me_op op_modN o_mod (mr_of (me_t1 call_intT b_intT B.int (by decide +kernel) (mr_of (me_ix ix_seq o_ix (mr_rd 1 (pv 1)) (mr_of me_int) (fun _ _ => rfl))))) (mr_of me_int))) (fun _ _ => rfl)))
    (ms_cons (ms_setO 3 sc_ulaw_near.nd (mf_lst ma_nil))
    (ms_cons (ms_for cs.po cs.hc (mi_seq (me_sl (mr_rd 1 (pv 1)) (mp_some me_int) (mp_some me_int))) (mg_name 4 sc_ulaw_near.nd) (ms_cons (ms_set 5 sc_ulaw_near.nd (me_op op_modN o_mod (mr_of (me_t1 call_intT b_intT B.int (by decide +kernel) (mr_rd 4 (pv 4)))) (mr_of (me_op op_addU o_add (mr_of (me_b1 call_len b_len B.len (by decide +kernel) (mr_rd 0 (pv 0)))) (mr_of me_int)))))
    (ms_cons (ms_app 3 (pv 3) (me_op op_addU o_add (mr_of (me_op op_addU o_add (mr_of (me_sl (mr_rd 0 (pv 0)) mp_none (mp_some (me_var 5 (pv 5))))) (mr_rd 2 (pv 2)))) (mr_of (me_sl (mr_rd 0 (pv 0)) (mp_some (me_var 5 (pv 5))) mp_none))))
    (ms_cons (ms_app 3 (pv 3) (me_op op_addU o_add (mr_of (me_sl (mr_rd 0 (pv 0)) mp_none (mp_some (me_var 5 (pv 5))))) (mr_of (me_sl (mr_rd 0 (pv 0)) (mp_some (me_op op_addU o_add (mr_rd 5 (pv 5)) (mr_of me_int))) mp_none))))
    (ms_one (ms_app 3 (pv 3) (me_op op_addU o_add (mr_of (me_op op_addU o_add (mr_of (me_sl (mr_rd 0 (pv 0)) mp_none (mp_some (me_var 5 (pv 5))))) (mr_rd 2 (pv 2)))) (mr_of (me_sl (mr_rd 0 (pv 0)) (mp_some (me_op op_addU o_add (mr_rd 5 (pv 5)) (mr_of me_int))) mp_none)))))))))
    (ms_cons (ms_ext 3 (pv 3) (mf_lst (ma_cons (me_op op_addU o_add (mr_of me_str) (mr_rd 0 (pv 0))) (ma_cons (me_op op_addU o_add (mr_of me_str) (mr_rd 0 (pv 0))) (ma_cons (me_op op_addU o_add (mr_of me_str) (mr_rd 0 (pv 0))) (ma_cons (me_op op_addU o_add (mr_of me_str) (mr_rd 0 (pv 0))) (ma_cons (me_op op_addU o_add (mr_rd 0 (pv 0)) (mr_of me_str)) (ma_cons (me_op op_addU o_add (mr_rd 0 (pv 0)) (mr_of me_str)) (ma_cons (me_op op_addU o_add (mr_of me_str) (mr_rd 0 (pv 0))) (ma_cons (me_op op_addU o_add (mr_rd 0 (pv 0)) (mr_of me_str)) ma_nil))))))))))
    (ms_one (ms_retF (mf_op op_cat f_cat (mr_rd 3 (pv 3)) (mr_f (mf_lst (ma_first op_addU o_add (mr_rd 0 (pv 0)) (mat_cons (met_of (me_op op_addU o_add (mr_rd 0 (pv 0)) (mr_of me_str))) (mat_cons (met_of (me_op op_addU o_add (mr_rd 0 (pv 0)) (mr_of me_str))) (mat_cons (met_of (me_op op_addU o_add (mr_of me_str) (mr_rd 0 (pv 0)))) (mat_cons (met_rep (mr_rd 0 (pv 0))) (mat_cons (met_rep (mr_rd 0 (pv 0))) mat_nil)))))))))))))))
abbrev s_ulaw_fixed : Stmt := top 38
theorem sc_ulaw_fixed : FnScope ["texts"] [] (defScope s_ulaw_fixed) := ⟨rfl, rfl, rfl, by decide +kernel, rfl, by decide +kernel, by decide +kernel⟩
theorem ok_ulaw_fixed {P : Program} {w : World} {K : Frg} {mg : Mg} {base : Heap} {f : Addr} {fd : FuncData} (F : Fun K "_law_fixed" "_law_fixed" s_ulaw_fixed f fd) (B : Bi mg) (Z : Ez K mg) : FnOk P w K mg base (L2.CX P w) 1 f fd [] (spF K mg 0 f_ulaw_fixed) :=
  fn_ok F sc_ulaw_fixed fun cdv A outer s H E hr cs => (ms_cons (ms_setO 0 sc_ulaw_fixed.nd (mf_lst (ma_cons me_str (ma_cons me_str (ma_cons me_str (ma_cons me_str (ma_cons me_str (ma_cons me_str (ma_cons me_str (ma_cons me_str (ma_cons me_str (ma_cons me_str (ma_cons me_str (ma_cons me_str (ma_cons me_str (ma_cons me_str (ma_cons me_str (ma_cons me_str (ma_cons me_str ma_nil)))))))))))))))))))
    (ms_cons (ms_ext 0 (pv 0) (mf_lst (ma_cons me_str (ma_cons me_str (ma_cons me_str (ma_cons me_str (ma_cons me_str (ma_cons me_str (ma_cons me_str (ma_cons me_str (ma_cons me_str (ma_cons me_str (ma_cons me_str (ma_cons me_str (ma_cons me_str (ma_cons me_str ma_nil))))))))))))))))
    (ms_one (ms_retO 0 (pv 0)))))
abbrev s_law : Stmt := top 39
theorem sc_law : FnScope ["script", "digits", "over", "turns", "sign", "ratio", "short", "value", "forty", "wide", "texts", "factor", "text"] ["script"] (defScope s_law) := ⟨rfl, rfl, rfl, by decide +kernel, rfl, by decide +kernel, by decide +kernel⟩
theorem ok_law {P : Program} {w : World} {K : Frg} {mg : Mg} {base : Heap} {f : Addr} {fd : FuncData} (F : Fun K "law" "law" s_law f fd) (B : Bi mg) (Z : Ez K mg) {a_ulaw_row : Addr} {d_ulaw_row : FuncData} (D_ulaw_row : Df P w K mg base "_law_row" 2 a_ulaw_row d_ulaw_row ["script", "at", "many"] f_ulaw_row) {a_ulaw_digits : Addr} {d_ulaw_digits : FuncData} (D_ulaw_digits : Df P w K mg base "_law_digits" 1 a_ulaw_digits d_ulaw_digits ["cells"] f_ulaw_digits) {a_ulaw_lowest : Addr} {d_ulaw_lowest : FuncData} (D_ulaw_lowest : Df P w K mg base "_law_lowest" 2 a_ulaw_lowest d_ulaw_lowest ["num", "den"] f_ulaw_lowest) {a_ulaw_text : Addr} {d_ulaw_text : FuncData} (D_ulaw_text : Df P w K mg base "_law_text" 1 a_ulaw_text d_ulaw_text ["ratio"] f_ulaw_text) {a_ulaw_reads : Addr} {d_ulaw_reads : FuncData} (D_ulaw_reads : Df P w K mg base "_law_reads" 3 a_ulaw_reads d_ulaw_reads ["text"] f_ulaw_reads) {a_ulaw_written : Addr} {d_ulaw_written : FuncData} (D_ulaw_written : Df P w K mg base "_law_written" 2 a_ulaw_written d_ulaw_written ["ratio"] f_ulaw_written) {a_ulaw_near : Addr} {d_ulaw_near : FuncData} (D_ulaw_near : Df P w K mg base "_law_near" 1 a_ulaw_near d_ulaw_near ["text", "turns"] f_ulaw_near) {a_ulaw_fixed : Addr} {d_ulaw_fixed : FuncData} (D_ulaw_fixed : Df P w K mg base "_law_fixed" 1 a_ulaw_fixed d_ulaw_fixed [] f_ulaw_fixed) : FnOk P w K mg base (L2.CX P w) 4 f fd ["script"] (spF K mg 1 f_law) :=
  fn_ok F sc_law fun cdv A outer s H E hr cs => (ms_cons (ms_set 1 sc_law.nd (me_calD D_ulaw_digits (hr.mono (by decide)) cs.cw (ma_cons (me_calD D_ulaw_row (hr.mono (by decide)) cs.cw (ma_cons (me_var 0 (pv 0)) (ma_cons me_int (ma_cons me_int ma_nil))) (len_cons (len_cons (len_cons (fun ρ ds h => len_nil h))))) ma_nil) (len_cons (fun ρ ds h => len_nil h))))
    (ms_cons (ms_set 2 sc_law.nd (me_calD D_ulaw_digits (hr.mono (by decide)) cs.cw (ma_cons (me_calD D_ulaw_row (hr.mono (by decide)) cs.cw (ma_cons (me_var 0 (pv 0)) (ma_cons me_int (ma_cons me_int ma_nil))) (len_cons (len_cons (len_cons (fun ρ ds h => len_nil h))))) ma_nil) (len_cons (fun ρ ds h => len_nil h))))
    (ms_cons (ms_set 3 sc_law.nd (me_calD D_ulaw_row (hr.mono (by decide)) cs.cw (ma_cons (me_var 0 (pv 0)) (ma_cons me_int (ma_cons me_int ma_nil))) (len_cons (len_cons (len_cons (fun ρ ds h => len_nil h))))))
    (ms_cons (ms_set 4 sc_law.nd (me_ix ix_seq o_ix (mr_f (mf_lst (ma_cons me_str (ma_cons me_str ma_nil)))) (mr_of (me_op op_modN o_mod (mr_of (me_t1 call_intT b_intT B.int (by decide +kernel) (mr_of (me_ix ix_seq o_ix (mr_rd 3 (pv 3)) (mr_of me_int) (fun _ _ => rfl))))) (mr_of me_int))) (fun _ _ => rfl)))
    (ms_cons (ms_set 5 sc_law.nd (me_calD D_ulaw_lowest (hr.mono (by decide)) cs.cw (ma_cons (me_t1 call_intT b_intT B.int (by decide +kernel) (mr_of (me_op op_addU o_add (mr_rd 4 (pv 4)) (mr_rd 1 (pv 1))))) (ma_cons (me_t1 call_intT b_intT B.int (by decide +kernel) (mr_rd 2 (pv 2))) ma_nil)) (len_cons (len_cons (fun ρ ds h => len_nil h)))))
    (ms_cons (ms_set 6 sc_law.nd (me_calD D_ulaw_lowest (hr.mono (by decide)) cs.cw (ma_cons (me_t1 call_intT b_intT B.int (by decide +kernel) (mr_of (me_op op_addU o_add (mr_rd 4 (pv 4)) (mr_of (me_sl (mr_rd 1 (pv 1)) mp_none (mp_some me_int)))))) (ma_cons (me_t1 call_intT b_intT B.int (by decide +kernel) (mr_of (me_sl (mr_rd 2 (pv 2)) mp_none (mp_some me_int)))) ma_nil)) (len_cons (len_cons (fun ρ ds h => len_nil h)))))
    (ms_cons (ms_for cs.po cs.hc (mi_seq (me_of (mf_lst (ma_cons (me_var 5 (pv 5)) (ma_cons (me_var 6 (pv 6)) (ma_cons (me_tup (ma_cons (me_ix ix_seq o_ix (mr_rd 5 (pv 5)) (mr_of me_int) (fun _ _ => rfl)) (ma_cons me_int ma_nil))) (ma_cons (me_tup (ma_cons (me_ix ix_seq o_ix (mr_rd 6 (pv 6)) (mr_of me_int) (fun _ _ => rfl)) (ma_cons me_int ma_nil))) (ma_cons (me_tup (ma_cons me_int (ma_cons me_int ma_nil))) ma_nil)))))))) (mg_name 7 sc_law.nd) (ms_one (ms_if (PW.pt (mw_or (mt_not (mt_tru (mr_of (me_calD D_ulaw_written (hr.mono (by decide)) cs.cw (ma_cons (me_var 7 (pv 7)) ma_nil) (len_cons (fun ρ ds h => len_nil h)))))) (mw_or1 (mt_not (mt_tru (mr_of (me_calD D_ulaw_reads (hr.mono (by decide)) cs.cw (ma_cons (me_calD D_ulaw_text (hr.mono (by decide)) cs.cw (ma_cons (me_var 7 (pv 7)) ma_nil) (len_cons (fun ρ ds h => len_nil h))) ma_nil) (len_cons (fun ρ ds h => len_nil h))))))))) (ms_one (ms_ret me_bl)) ms_nil)))
    (ms_cons (ms_set 8 sc_law.nd (me_sl (mr_of (me_op op_mulUS o_mulS (mr_rd 1 (pv 1)) (mr_of me_int))) mp_none (mp_some me_int)))
    (ms_cons (ms_set 9 sc_law.nd (me_sl (mr_of (me_op op_mulUS o_mulS (mr_rd 2 (pv 2)) (mr_of me_int))) mp_none (mp_some me_int)))
    (ms_cons (ms_setO 10 sc_law.nd (mf_lst (ma_cons (me_op op_addU o_add (mr_rd 4 (pv 4)) (mr_rd 8 (pv 8))) (ma_cons (me_op op_addU o_add (mr_of (me_op op_addU o_add (mr_rd 4 (pv 4)) (mr_rd 8 (pv 8)))) (mr_of (me_ix ix_seq o_ix (mr_rd 9 (pv 9)) (mr_of me_int) (fun _ _ => rfl)))) (ma_cons (me_op op_addU o_add (mr_of me_str) (mr_rd 9 (pv 9))) (ma_cons (me_op op_addU o_add (mr_of (me_op op_addU o_add (mr_of (me_op op_addU o_add (mr_rd 4 (pv 4)) (mr_of me_str))) (mr_rd 9 (pv 9)))) (mr_of me_str)) (ma_cons (me_op op_addU o_add (mr_of (me_op op_addU o_add (mr_of (me_op op_addU o_add (mr_rd 4 (pv 4)) (mr_rd 8 (pv 8)))) (mr_of me_str))) (mr_rd 9 (pv 9))) ma_nil)))))))
    (ms_cons (ms_ext 10 (pv 10) (mf_lst (ma_cons (me_op op_addU o_add (mr_of (me_op op_addU o_add (mr_rd 4 (pv 4)) (mr_rd 8 (pv 8)))) (mr_of me_str)) (ma_cons (me_op op_addU o_add (mr_of (me_op op_addU o_add (mr_rd 4 (pv 4)) (mr_rd 8 (pv 8)))) (mr_of me_str)) (ma_cons (me_op op_addU o_add (mr_of (me_op op_addU o_add (mr_rd 4 (pv 4)) (mr_of me_str))) (mr_rd 9 (pv 9))) (ma_cons (me_op op_addU o_add (mr_of me_str) (mr_rd 9 (pv 9))) (ma_cons (me_op op_addU o_add (mr_of (me_op op_addU o_add (mr_of me_str) (mr_rd 9 (pv 9)))) (mr_of me_str)) ma_nil)))))))
    (ms_cons (ms_set 11 sc_law.nd (me_op op_addU o_add (mr_of me_int) (mr_of (me_op op_modN o_mod (mr_of (me_t1 call_intT b_intT B.int (by decide +kernel) (mr_of (me_ix ix_seq o_ix (mr_rd 3 (pv 3)) (mr_of me_int) (fun _ _ => rfl))))) (mr_of me_int)))))
    (ms_cons (ms_app 10 (pv 10) (me_op op_addU o_add (mr_of (me_op op_addU o_add (mr_of (me_t1 call_strU b_str B.str (by decide +kernel) (mr_of (me_op op_mulU o_mul (mr_of (me_ix ix_seq o_ix (mr_rd 6 (pv 6)) (mr_of me_int) (fun _ _ => rfl))) (mr_rd 11 (pv 11)))))) (mr_of me_str))) (mr_of (me_t1 call_strU b_str B.str (by decide +kernel) (mr_of (me_op op_mulU o_mul (mr_of (me_ix ix_seq o_ix (mr_rd 6 (pv 6)) (mr_of me_int) (fun _ _ => rfl))) (mr_rd 11 (pv 11))))))))
    (ms_cons (ms_ext 10 (pv 10) (mf_calD D_ulaw_near (hr.mono (by decide)) cs.cw (ma_cons (me_calD D_ulaw_text (hr.mono (by decide)) cs.cw (ma_cons (me_var 6 (pv 6)) ma_nil) (len_cons (fun ρ ds h => len_nil h))) (ma_cons (me_var 3 (pv 3)) ma_nil)) (len_cons (len_cons (fun ρ ds h => len_nil h)))))
    (ms_cons (ms_ext 10 (pv 10) (mf_cal0 D_ulaw_fixed (hr.mono (by decide)) cs.cw rfl))
    (ms_frz 10 (ms_cons (ms_for cs.po cs.hc (mi_seq (me_var 10 (pv 10))) (mg_name 12 sc_law.nd) (ms_one (ms_if (mt_not (mt_tru (mr_of (me_calD D_ulaw_reads (hr.mono (by decide)) cs.cw (ma_cons (me_var 12 (pv 12)) ma_nil) (len_cons (fun ρ ds h => len_nil h)))))) (ms_one (ms_ret me_bl)) ms_nil)))
    (ms_one (ms_ret (me_and (me_calD D_ulaw_written (hr.mono (by decide)) cs.cw (ma_cons (me_var 5 (pv 5)) ma_nil) (len_cons (fun ρ ds h => len_nil h))) (me_and (me_calD D_ulaw_reads (hr.mono (by decide)) cs.cw (ma_cons (me_calD D_ulaw_text (hr.mono (by decide)) cs.cw (ma_cons (me_var 6 (pv 6)) ma_nil) (len_cons (fun ρ ds h => len_nil h))) ma_nil) (len_cons (fun ρ ds h => len_nil h))) (pe_one (me_calD D_ulaw_reads (hr.mono (by decide)) cs.cw (ma_cons (me_op op_addU o_add (mr_rd 4 (pv 4)) (mr_rd 8 (pv 8))) ma_nil) (len_cons (fun ρ ds h => len_nil h)))))))))))))))))))))))))
def fa : List (Frg → Bool) := [(He.Fa.glo "make_ratio").ok,
  (He.Fa.glo "ratio_text").ok,
  (He.Fa.glo "read_digits").ok,
  (He.Fa.glo "read_ratio").ok,
  (He.Fa.glo "_law_mix").ok,
  (He.Fa.glo "_law_row").ok,
  (He.Fa.glo "_law_is_whole").ok,
  (He.Fa.glo "_law_is_tuple").ok,
  (He.Fa.glo "_law_common").ok,
  (He.Fa.glo "_law_lowest").ok,
  (He.Fa.glo "_law_digits").ok,
  (He.Fa.glo "_law_text").ok,
  (He.Fa.glo "_law_is_number").ok,
  (He.Fa.glo "_law_read").ok,
  (He.Fa.glo "_law_written").ok,
  (He.Fa.glo "_law_reads").ok,
  (He.Fa.glo "_law_near").ok,
  (He.Fa.glo "_law_fixed").ok,
  (He.Fa.glo "law").ok,
  (He.Fa.glo "BadName").ok,
  (He.Fa.glo "BadNumber").ok,
  (He.Fa.glo "BadPaper").ok,
  (He.Fa.glo "BadQuestion").ok,
  (He.Fa.glo "BadRange").ok,
  (He.Fa.glo "BadSeen").ok,
  (He.Fa.glo "BadTask").ok,
  (He.Fa.glo "BadText").ok,
  (He.Fa.glo "CostsError").ok,
  (He.Fa.glo "NoCosts").ok,
  (He.Fa.glo "NotAPlan").ok,
  (He.Fa.glo "StaleKey").ok,
  (He.Fa.glo "TooMany").ok,
  (He.Fa.glo "UnknownName").ok,
  (He.Fa.glo "Unlisted").ok,
  (He.Fa.exc "BadNumber").ok,
  (He.Fa.free "ValueError").ok,
  (He.Fa.free "abs").ok,
  (He.Fa.free "all").ok,
  (He.Fa.free "any").ok,
  (He.Fa.free "bool").ok,
  (fun K => He.eqO (PySem.W.nsIn K mainGlobals "gcd") (some (some (.builtin "math.gcd")))),
  (He.Fa.free "int").ok,
  (He.Fa.free "isinstance").ok,
  (He.Fa.free "len").ok,
  (He.Fa.free "range").ok,
  (He.Fa.free "str").ok,
  (He.Fa.free "tuple").ok,
  (excCB · "BadNumber"),
  (fun K => row1B K "BadNumber" (.type "ValueError") true),
  (fun K => row1B K "BadNumber" (.ref (He.ga K "BadNumber")) true),
  (fun K => rowB K "BadNumber" [(.ref (He.ga K "BadTask")), (.ref (He.ga K "NotAPlan")), (.ref (He.ga K "Unlisted")), (.ref (He.ga K "BadPaper")), (.ref (He.ga K "NoCosts")), (.ref (He.ga K "BadQuestion")), (.ref (He.ga K "BadRange")), (.ref (He.ga K "BadSeen")), (.ref (He.ga K "TooMany"))] false),
  (fun K => rowB K "BadNumber" [(.ref (He.ga K "BadText")), (.ref (He.ga K "BadName")), (.ref (He.ga K "UnknownName")), (.ref (He.ga K "StaleKey"))] false),
  (He.Fa.exm "BadNumber" "CostsError" true).ok,
  (fun K => gcB K "DIGITS" (.str "0123456789")),
  (fun K => gcB K "MOST_DIGITS" (.int 40))]
def fn : List He.DefD := [dD "make_ratio" s_make_ratio, dD "ratio_text" s_ratio_text, dD "read_digits" s_read_digits, dD "read_ratio" s_read_ratio, dD "_law_mix" s_ulaw_mix, dD "_law_row" s_ulaw_row, dD "_law_is_whole" s_ulaw_is_whole, dD "_law_is_tuple" s_ulaw_is_tuple, dD "_law_common" s_ulaw_common, dD "_law_lowest" s_ulaw_lowest, dD "_law_digits" s_ulaw_digits, dD "_law_text" s_ulaw_text, dD "_law_is_number" s_ulaw_is_number, dD "_law_read" s_ulaw_read, dD "_law_written" s_ulaw_written, dD "_law_reads" s_ulaw_reads, dD "_law_near" s_ulaw_near, dD "_law_fixed" s_ulaw_fixed, dD "law" s_law]
abbrev R : PySem.W.OpenRow := PySem.W.OpenLaw.row PySem.Challenge.rw_costsexplained_k01_ratio_texts_read_back
abbrev hk : PySem.W.Hook := hookP 5 fa fn
def ob (s : PySem.W.SharedT) : AlP := obsPG 5 fa fn (HandSHeadRun.getT s)
theorem ob_eq (s : PySem.W.SharedT) : ob s = hk.obs s.abs := obsPG_eq (HandSHeadRun.getT_eq s)
def nm0 : List Str := ["__name__", "CostsError", "BadNumber", "BadTask", "NotAPlan", "Unlisted", "BadPaper", "NoCosts", "BadQuestion", "BadRange", "BadSeen", "TooMany", "BadText", "BadName", "UnknownName", "StaleKey", "DIGITS", "MOST_DIGITS", "make_ratio", "ratio_text", "read_digits", "read_ratio", "_law_mix", "_law_row", "_law_is_whole", "_law_is_tuple", "_law_common", "_law_lowest", "_law_digits", "_law_text"]
def nm1 : List Str := ["_law_is_number", "_law_read", "_law_written", "_law_reads", "_law_near", "_law_fixed"]
def loose : List Str := nm0 ++ nm1
def qv : Program := PySem.W.view R.prog [0, 39]
theorem run (w : World) : HandSHeadRun.RunEqI R qv hk ob 100000 loose w := by
  unfold HandSHeadRun.RunEqI
  kernel_rfl
theorem lk {x y : Str} {b b' : Bool} {r : List (Str × Bool)} (h : List.lookup x ((y, b) :: r) = some b') : (x = y ∧ b' = b) ∨ List.lookup x r = some b' := by
  unfold List.lookup at h
  split at h
  · rename_i e
    exact .inl ⟨eq_of_beq e, (Option.some.inj h).symm⟩
  · exact .inr h
theorem facts (hlaw : ∀ ns : List Int, ns.length ≤ 63 → f_law [.rol (ns.map D.int)] = .ok (.bl true)) {P : Program} {w : World} {K : Frg} {h : Heap} {mg : Mg} {f : Addr} (X : K.In h) (G : h.Ns mainGlobals mg) (hfa : mg ("law" : Str) = some (.ref f)) (c : SaysP fa fn K) :
    ∃ fd : FuncData, (∀ (s : Shared) (v : Value), BindsTo s fd ⟨[v], []⟩ [("script", v)]) ∧ ∀ base : Heap, K.In base → base.Ns mainGlobals mg → FnOk P w K mg base CX0 4 f fd ["script"] (spLaw K) := by
  obtain ⟨fd_make_ratio, F_make_ratio⟩ := c.def_ 0 (d := dD "make_ratio" s_make_ratio) rfl
  obtain ⟨fd_ratio_text, F_ratio_text⟩ := c.def_ 1 (d := dD "ratio_text" s_ratio_text) rfl
  obtain ⟨fd_read_digits, F_read_digits⟩ := c.def_ 2 (d := dD "read_digits" s_read_digits) rfl
  obtain ⟨fd_read_ratio, F_read_ratio⟩ := c.def_ 3 (d := dD "read_ratio" s_read_ratio) rfl
  obtain ⟨fd_ulaw_mix, F_ulaw_mix⟩ := c.def_ 4 (d := dD "_law_mix" s_ulaw_mix) rfl
  obtain ⟨fd_ulaw_row, F_ulaw_row⟩ := c.def_ 5 (d := dD "_law_row" s_ulaw_row) rfl
  obtain ⟨fd_ulaw_is_whole, F_ulaw_is_whole⟩ := c.def_ 6 (d := dD "_law_is_whole" s_ulaw_is_whole) rfl
  obtain ⟨fd_ulaw_is_tuple, F_ulaw_is_tuple⟩ := c.def_ 7 (d := dD "_law_is_tuple" s_ulaw_is_tuple) rfl
  obtain ⟨fd_ulaw_common, F_ulaw_common⟩ := c.def_ 8 (d := dD "_law_common" s_ulaw_common) rfl
  obtain ⟨fd_ulaw_lowest, F_ulaw_lowest⟩ := c.def_ 9 (d := dD "_law_lowest" s_ulaw_lowest) rfl
  obtain ⟨fd_ulaw_digits, F_ulaw_digits⟩ := c.def_ 10 (d := dD "_law_digits" s_ulaw_digits) rfl
  obtain ⟨fd_ulaw_text, F_ulaw_text⟩ := c.def_ 11 (d := dD "_law_text" s_ulaw_text) rfl
  obtain ⟨fd_ulaw_is_number, F_ulaw_is_number⟩ := c.def_ 12 (d := dD "_law_is_number" s_ulaw_is_number) rfl
  obtain ⟨fd_ulaw_read, F_ulaw_read⟩ := c.def_ 13 (d := dD "_law_read" s_ulaw_read) rfl
  obtain ⟨fd_ulaw_written, F_ulaw_written⟩ := c.def_ 14 (d := dD "_law_written" s_ulaw_written) rfl
  obtain ⟨fd_ulaw_reads, F_ulaw_reads⟩ := c.def_ 15 (d := dD "_law_reads" s_ulaw_reads) rfl
  obtain ⟨fd_ulaw_near, F_ulaw_near⟩ := c.def_ 16 (d := dD "_law_near" s_ulaw_near) rfl
  obtain ⟨fd_ulaw_fixed, F_ulaw_fixed⟩ := c.def_ 17 (d := dD "_law_fixed" s_ulaw_fixed) rfl
  obtain ⟨fd_law, F_law⟩ := c.def_ 18 (d := dD "law" s_law) rfl
  have e := hfa.symm.trans (He.glo_ok X G (c.fact 18 (f := (He.Fa.glo "law").ok) rfl))
  cases e
  have B : Bi mg := ⟨He.free_ok X G (c.fact 35 (f := (He.Fa.free "ValueError").ok) rfl), He.free_ok X G (c.fact 36 (f := (He.Fa.free "abs").ok) rfl), He.free_ok X G (c.fact 37 (f := (He.Fa.free "all").ok) rfl), He.free_ok X G (c.fact 38 (f := (He.Fa.free "any").ok) rfl), He.free_ok X G (c.fact 39 (f := (He.Fa.free "bool").ok) rfl), PySem.W.mg_of X G (He.eqO_ok (c.fact 40 rfl)), He.free_ok X G (c.fact 41 (f := (He.Fa.free "int").ok) rfl), He.free_ok X G (c.fact 42 (f := (He.Fa.free "isinstance").ok) rfl), He.free_ok X G (c.fact 43 (f := (He.Fa.free "len").ok) rfl), He.free_ok X G (c.fact 44 (f := (He.Fa.free "range").ok) rfl), He.free_ok X G (c.fact 45 (f := (He.Fa.free "str").ok) rfl), He.free_ok X G (c.fact 46 (f := (He.Fa.free "tuple").ok) rfl)⟩
  have Z : Ez K mg := ⟨excT_ok X G (c.fact 20 (f := (He.Fa.glo "BadNumber").ok) rfl) (c.fact 34 (f := (He.Fa.exc "BadNumber").ok) rfl),
    He.glo_ok X G (c.fact 19 (f := (He.Fa.glo "BadName").ok) rfl),
    He.glo_ok X G (c.fact 20 (f := (He.Fa.glo "BadNumber").ok) rfl),
    He.glo_ok X G (c.fact 21 (f := (He.Fa.glo "BadPaper").ok) rfl),
    He.glo_ok X G (c.fact 22 (f := (He.Fa.glo "BadQuestion").ok) rfl),
    He.glo_ok X G (c.fact 23 (f := (He.Fa.glo "BadRange").ok) rfl),
    He.glo_ok X G (c.fact 24 (f := (He.Fa.glo "BadSeen").ok) rfl),
    He.glo_ok X G (c.fact 25 (f := (He.Fa.glo "BadTask").ok) rfl),
    He.glo_ok X G (c.fact 26 (f := (He.Fa.glo "BadText").ok) rfl),
    He.glo_ok X G (c.fact 27 (f := (He.Fa.glo "CostsError").ok) rfl),
    He.glo_ok X G (c.fact 28 (f := (He.Fa.glo "NoCosts").ok) rfl),
    He.glo_ok X G (c.fact 29 (f := (He.Fa.glo "NotAPlan").ok) rfl),
    He.glo_ok X G (c.fact 30 (f := (He.Fa.glo "StaleKey").ok) rfl),
    He.glo_ok X G (c.fact 31 (f := (He.Fa.glo "TooMany").ok) rfl),
    He.glo_ok X G (c.fact 32 (f := (He.Fa.glo "UnknownName").ok) rfl),
    He.glo_ok X G (c.fact 33 (f := (He.Fa.glo "Unlisted").ok) rfl),
    (by
    intro x C b hm ht
    rcases lk ht with ⟨rfl, rfl⟩ | ht
    · rw [He.glo_ok X G (c.fact 20 (f := (He.Fa.glo "BadNumber").ok) rfl)] at hm
      cases hm
      exact ⟨excCB_ok (c.fact 47 rfl), of_decide_eq_true (c.fact 48 rfl)⟩
    · cases ht),
    (by
    intro x C b hm ht
    rcases lk ht with ⟨rfl, rfl⟩ | ht
    · rw [He.glo_ok X G (c.fact 20 (f := (He.Fa.glo "BadNumber").ok) rfl)] at hm
      cases hm
      exact ⟨excCB_ok (c.fact 47 rfl), of_decide_eq_true (c.fact 49 rfl)⟩
    · cases ht),
    (by
    intro x C b hm ht
    rcases lk ht with ⟨rfl, rfl⟩ | ht
    · rw [He.glo_ok X G (c.fact 20 (f := (He.Fa.glo "BadNumber").ok) rfl)] at hm
      cases hm
      exact ⟨excCB_ok (c.fact 47 rfl), of_decide_eq_true (c.fact 50 rfl)⟩
    · cases ht),
    (by
    intro x C b hm ht
    rcases lk ht with ⟨rfl, rfl⟩ | ht
    · rw [He.glo_ok X G (c.fact 20 (f := (He.Fa.glo "BadNumber").ok) rfl)] at hm
      cases hm
      exact ⟨excCB_ok (c.fact 47 rfl), of_decide_eq_true (c.fact 51 rfl)⟩
    · cases ht),
    (by
    intro x C b hm ht
    rcases lk ht with ⟨rfl, rfl⟩ | ht
    · rw [He.glo_ok X G (c.fact 20 (f := (He.Fa.glo "BadNumber").ok) rfl)] at hm
      cases hm
      exact He.exm_ok (x := "BadNumber") (y := "CostsError") (c.fact 52 rfl)
    · cases ht),
    gc_ok X G (c.fact 53 rfl),
    gc_ok X G (c.fact 54 rfl)⟩
  have D_make_ratio := fun base => df_mk (P := P) (w := w) (base := base) (st := s_make_ratio) X G F_make_ratio (c.fact 0 (f := (He.Fa.glo "make_ratio").ok) rfl) (F_make_ratio.bindsN (ps := ["num", "den"]) fun _ _ _ _ _ _ us hl => match us, hl with | [_, _], _ => rfl) (ok_make_ratio (fun_of F_make_ratio) B Z)
  have D_ratio_text := fun base => df_mk (P := P) (w := w) (base := base) (st := s_ratio_text) X G F_ratio_text (c.fact 1 (f := (He.Fa.glo "ratio_text").ok) rfl) (F_ratio_text.bindsN (ps := ["value"]) fun _ _ _ _ _ _ us hl => match us, hl with | [_], _ => rfl) (ok_ratio_text (fun_of F_ratio_text) B Z)
  have D_read_digits := fun base => df_mk (P := P) (w := w) (base := base) (st := s_read_digits) X G F_read_digits (c.fact 2 (f := (He.Fa.glo "read_digits").ok) rfl) (F_read_digits.bindsN (ps := ["text"]) fun _ _ _ _ _ _ us hl => match us, hl with | [_], _ => rfl) (ok_read_digits (fun_of F_read_digits) B Z)
  have D_read_ratio := fun base => df_mk (P := P) (w := w) (base := base) (st := s_read_ratio) X G F_read_ratio (c.fact 3 (f := (He.Fa.glo "read_ratio").ok) rfl) (F_read_ratio.bindsN (ps := ["text"]) fun _ _ _ _ _ _ us hl => match us, hl with | [_], _ => rfl) (ok_read_ratio (fun_of F_read_ratio) B Z (D_read_digits base) (D_make_ratio base) (D_ratio_text base))
  have D_ulaw_mix := fun base => df_mk (P := P) (w := w) (base := base) (st := s_ulaw_mix) X G F_ulaw_mix (c.fact 4 (f := (He.Fa.glo "_law_mix").ok) rfl) (F_ulaw_mix.bindsN (ps := ["cell", "k"]) fun _ _ _ _ _ _ us hl => match us, hl with | [_, _], _ => rfl) (ok_ulaw_mix (fun_of F_ulaw_mix) B Z)
  have D_ulaw_row := fun base => df_mk (P := P) (w := w) (base := base) (st := s_ulaw_row) X G F_ulaw_row (c.fact 5 (f := (He.Fa.glo "_law_row").ok) rfl) (F_ulaw_row.bindsN (ps := ["script", "at", "many"]) fun _ _ _ _ _ _ us hl => match us, hl with | [_, _, _], _ => rfl) (ok_ulaw_row (fun_of F_ulaw_row) B Z (D_ulaw_mix base))
  have D_ulaw_is_whole := fun base => df_mk (P := P) (w := w) (base := base) (st := s_ulaw_is_whole) X G F_ulaw_is_whole (c.fact 6 (f := (He.Fa.glo "_law_is_whole").ok) rfl) (F_ulaw_is_whole.bindsN (ps := ["value"]) fun _ _ _ _ _ _ us hl => match us, hl with | [_], _ => rfl) (ok_ulaw_is_whole (fun_of F_ulaw_is_whole) B Z)
  have D_ulaw_is_tuple := fun base => df_mk (P := P) (w := w) (base := base) (st := s_ulaw_is_tuple) X G F_ulaw_is_tuple (c.fact 7 (f := (He.Fa.glo "_law_is_tuple").ok) rfl) (F_ulaw_is_tuple.bindsN (ps := ["value", "size"]) fun _ _ _ _ _ _ us hl => match us, hl with | [_, _], _ => rfl) (ok_ulaw_is_tuple (fun_of F_ulaw_is_tuple) B Z (D_ulaw_is_whole base))
  have D_ulaw_common := fun base => df_mk (P := P) (w := w) (base := base) (st := s_ulaw_common) X G F_ulaw_common (c.fact 8 (f := (He.Fa.glo "_law_common").ok) rfl) (F_ulaw_common.bindsN (ps := ["left", "right"]) fun _ _ _ _ _ _ us hl => match us, hl with | [_, _], _ => rfl) (ok_ulaw_common (fun_of F_ulaw_common) B Z)
  have D_ulaw_lowest := fun base => df_mk (P := P) (w := w) (base := base) (st := s_ulaw_lowest) X G F_ulaw_lowest (c.fact 9 (f := (He.Fa.glo "_law_lowest").ok) rfl) (F_ulaw_lowest.bindsN (ps := ["num", "den"]) fun _ _ _ _ _ _ us hl => match us, hl with | [_, _], _ => rfl) (ok_ulaw_lowest (fun_of F_ulaw_lowest) B Z (D_ulaw_common base))
  have D_ulaw_digits := fun base => df_mk (P := P) (w := w) (base := base) (st := s_ulaw_digits) X G F_ulaw_digits (c.fact 10 (f := (He.Fa.glo "_law_digits").ok) rfl) (F_ulaw_digits.bindsN (ps := ["cells"]) fun _ _ _ _ _ _ us hl => match us, hl with | [_], _ => rfl) (ok_ulaw_digits (fun_of F_ulaw_digits) B Z)
  have D_ulaw_text := fun base => df_mk (P := P) (w := w) (base := base) (st := s_ulaw_text) X G F_ulaw_text (c.fact 11 (f := (He.Fa.glo "_law_text").ok) rfl) (F_ulaw_text.bindsN (ps := ["ratio"]) fun _ _ _ _ _ _ us hl => match us, hl with | [_], _ => rfl) (ok_ulaw_text (fun_of F_ulaw_text) B Z)
  have D_ulaw_is_number := fun base => df_mk (P := P) (w := w) (base := base) (st := s_ulaw_is_number) X G F_ulaw_is_number (c.fact 12 (f := (He.Fa.glo "_law_is_number").ok) rfl) (F_ulaw_is_number.bindsN (ps := ["text"]) fun _ _ _ _ _ _ us hl => match us, hl with | [_], _ => rfl) (ok_ulaw_is_number (fun_of F_ulaw_is_number) B Z)
  have D_ulaw_read := fun base => df_mk (P := P) (w := w) (base := base) (st := s_ulaw_read) X G F_ulaw_read (c.fact 13 (f := (He.Fa.glo "_law_read").ok) rfl) (F_ulaw_read.bindsN (ps := ["text"]) fun _ _ _ _ _ _ us hl => match us, hl with | [_], _ => rfl) (ok_ulaw_read (fun_of F_ulaw_read) B Z (D_ulaw_is_number base) (D_ulaw_common base))
  have D_ulaw_written := fun base => df_mk (P := P) (w := w) (base := base) (st := s_ulaw_written) X G F_ulaw_written (c.fact 14 (f := (He.Fa.glo "_law_written").ok) rfl) (F_ulaw_written.bindsN (ps := ["ratio"]) fun _ _ _ _ _ _ us hl => match us, hl with | [_], _ => rfl) (ok_ulaw_written (fun_of F_ulaw_written) B Z (D_ratio_text base) (D_ulaw_text base))
  have D_ulaw_reads := fun base => df_mk (P := P) (w := w) (base := base) (st := s_ulaw_reads) X G F_ulaw_reads (c.fact 15 (f := (He.Fa.glo "_law_reads").ok) rfl) (F_ulaw_reads.bindsN (ps := ["text"]) fun _ _ _ _ _ _ us hl => match us, hl with | [_], _ => rfl) (ok_ulaw_reads (fun_of F_ulaw_reads) B Z (D_ulaw_read base) (D_read_ratio base) (D_ulaw_is_tuple base))
  have D_ulaw_near := fun base => df_mk (P := P) (w := w) (base := base) (st := s_ulaw_near) X G F_ulaw_near (c.fact 16 (f := (He.Fa.glo "_law_near").ok) rfl) (F_ulaw_near.bindsN (ps := ["text", "turns"]) fun _ _ _ _ _ _ us hl => match us, hl with | [_, _], _ => rfl) (ok_ulaw_near (fun_of F_ulaw_near) B Z)
  have D_ulaw_fixed := fun base => df_mk (P := P) (w := w) (base := base) (st := s_ulaw_fixed) X G F_ulaw_fixed (c.fact 17 (f := (He.Fa.glo "_law_fixed").ok) rfl) (F_ulaw_fixed.bindsN (ps := []) fun _ _ _ _ _ _ us hl => match us, hl with | [], _ => rfl) (ok_ulaw_fixed (fun_of F_ulaw_fixed) B Z)
  exact ⟨fd_law, fun s v => FunD.bindsA (ps := ["script"]) F_law (fun _ _ _ _ _ _ us hl => match us, hl with | [_], _ => rfl) s [v] rfl, fun base _ _ => law_ok (ok_law (fun_of F_law) B Z (D_ulaw_row base) (D_ulaw_digits base) (D_ulaw_lowest base) (D_ulaw_text base) (D_ulaw_reads base) (D_ulaw_written base) (D_ulaw_near base) (D_ulaw_fixed base)) hlaw⟩
end W_k01

open PySem PySem.W PySem.Calls PyProof.Rows
set_option maxRecDepth 100000 in
set_option maxHeartbeats 0 in
theorem PySem.Challenge.cw_costsexplained_k01_ratio_texts_read_back_holds : PySem.Challenge.rw_costsexplained_k01_ratio_texts_read_back.Holds := by
  w_on; o_law
  refine HandSHeadRun.head_imp (r := OpenLaw.row PySem.Challenge.rw_costsexplained_k01_ratio_texts_read_back) (q := W_k01.qv) (H := W_k01.hk) (ob := W_k01.ob) (M := 100000) (loose := W_k01.loose) (d := HandSHeadRun.topDef (OpenLaw.row PySem.Challenge.rw_costsexplained_k01_ratio_texts_read_back).prog 39) (kwd := []) W_k01.ob_eq
    W_k01.run (by kernel_rfl) (by kernel_rfl) (by kernel_rfl) (by rfl) (by first | assumption | decide +kernel) (by decide +kernel) ⟨rfl, rfl, rfl, rfl, rfl, by decide +kernel⟩ ?hw ?hc
  case hw => w_witness2
  case hc =>
    refine L2.walk_ofE (l := PySem.Challenge.rw_costsexplained_k01_ratio_texts_read_back) (n := 63) (k := 4) (x := "script") (CX := L2.CX0) rfl (by decide) (by kernel_rfl) ⟨rfl, by decide, by decide⟩ ?F (fun _ _ _ _ z => z)
    intro w mg fa h Y G hmg0
    obtain ⟨K, KX, c⟩ := Y
    have hmg : mg ("law" : PySem.Str) = some (.ref fa) := by
      have e : (HandSHeadRun.topDef (OpenLaw.row PySem.Challenge.rw_costsexplained_k01_ratio_texts_read_back).prog 39).name = ("law" : PySem.Str) := by kernel_rfl
      rw [← e]
      exact hmg0
    obtain ⟨fd, hb, hF⟩ := W_k01.facts M_k01.law_true (P := (PySem.Challenge.rw_costsexplained_k01_ratio_texts_read_back).prog) (w := w) KX G hmg c
    exact ⟨K, fd, PF.spLaw K, KX, hb, fun H a ns hl _ hS => ⟨a, ns, rfl, hS, hl, fun _ => rfl⟩, hF⟩
