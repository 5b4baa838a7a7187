import PyProof.Rows.All
import Wide.All
import OpenK.AllK
import Wide.FinOn
import HandS.ForMost
import HandS.ForExc
import HandS.Wide
import HandS.WideBits
import HandS.Gcd
import HandS.IsInst
import HandS.ExcIs
import HandS.FStr
import HandS.TupAny
import HandS.TupMul
import HandS.Deep
import HandS.SortInts
import HandS.Zip
import KE.GoesMore
import KE.GoesEnum
import HandS.Style
import HandS.RaiseMore
import HandS.ReplaceLit
import HandS.Text
import PyProof.StrOps2
import Lean
import HandS.Defaults
import HandS.Head0
import HandS.Head1
import HandS.Head2
import HandS.Head3
import HandS.HeadEnd
import HandS.HeadHook1
import HandS.HeadHook2
import HandS.ClsMeth
import HandS.Nested
import HandS.Star
import KE.KSuper
import KE.KDictZip
import HandS.Conv
import PySem.Challenge.RW_costsexplained_k11_menus_solved_and_judg
set_option Elab.async false
set_option linter.all false
set_option maxRecDepth 100000
set_option maxHeartbeats 4000000
/-! # PF: a def's body read as a function on data. Data (D) are values without a heap; a heap is split in a shared part (never changed) and lists that one slot alone holds. -/
namespace PF
open PySem PySem.Spec L2

inductive D where
  | non | bl (b : Bool) | int (i : Int) | str (x : Str) | lst (xs : List D) | rol (xs : List D) | tup (xs : List D) | obj (c : Str) (ns : List Str) (vs : List D)
  | fr (xs : List D) | raw (a : Addr)

mutual
/-- the value v stands for the data d, in the heap H -/
inductive Rp (K : PySem.W.Frag) (mg : Str → Option Value) (H : Hp) : V → D → Prop
  | non : Rp K mg H .non .non
  | bl (b : Bool) : Rp K mg H (.bl b) (.bl b)
  | int (i : Int) : Rp K mg H (.int i) (.int i)
  | str (x : Str) : Rp K mg H (.str x) (.str x)
  | lst {a : Addr} {xs : List V} {ds : List D} : H a = some (.lst xs) → RpA K mg H xs ds → Rp K mg H (.ref a) (.lst ds)
  | rol {a : Addr} {xs : List V} {ds : List D} : SqL K H a xs → RpA K mg H xs ds → Rp K mg H (.ref a) (.rol ds)
  | tup {a : Addr} {xs : List V} {ds : List D} : SqT K H a xs → RpA K mg H xs ds → Rp K mg H (.ref a) (.tup ds)
  | obj {a C dx : Addr} {fs : List (Str × V)} {c : Str} {ns : List Str} {xs : List V} {ds : List D} : H a = some (.ins C dx fs) → mg c = some (.ref C) → fs = ns.zip xs → ns.length = xs.length → RpA K mg H xs ds → Rp K mg H (.ref a) (.obj c ns ds)
  | raw (a : Addr) : Rp K mg H (.ref a) (.raw a)
inductive RpA (K : PySem.W.Frag) (mg : Str → Option Value) (H : Hp) : List V → List D → Prop
  | nil : RpA K mg H [] []
  | cons {v : V} {vs : List V} {d : D} {ds : List D} : Rp K mg H v d → RpA K mg H vs ds → RpA K mg H (v :: vs) (d :: ds)
end

section
variable {K : PySem.W.Frag} {mg : Str → Option Value} {H H' : Hp}
theorem same_rd {a : Addr} {u : HO} (e : Same H H') (h : Rd H a u) : Rd H' a u := by
  rcases h with h | ⟨o, h⟩
  · exact .inl (e _ _ h)
  · exact .inr ⟨o, e _ _ h⟩
theorem same_l {a : Addr} {xs : List V} (e : Same H H') (h : SqL K H a xs) : SqL K H' a xs := by
  rcases h with h | h
  · exact .inl (same_rd e h)
  · exact .inr h
theorem same_t {a : Addr} {xs : List V} (e : Same H H') (h : SqT K H a xs) : SqT K H' a xs := by
  rcases h with h | h
  · exact .inl (same_rd e h)
  · exact .inr h
mutual
theorem Rp.up (e : Same H H') : ∀ (d : D) (v : V), Rp K mg H v d → Rp K mg H' v d
  | .non, _, h => by cases h; exact .non
  | .bl b, _, h => by cases h; exact .bl b
  | .int i, _, h => by cases h; exact .int i
  | .str x, _, h => by cases h; exact .str x
  | .lst ds, _, h => by
    cases h with
    | lst a b => exact .lst (e _ _ a) (RpA.up e ds _ b)
  | .rol ds, _, h => by
    cases h with
    | rol a b => exact .rol (same_l e a) (RpA.up e ds _ b)
  | .tup ds, _, h => by
    cases h with
    | tup a b => exact .tup (same_t e a) (RpA.up e ds _ b)
  | .obj c ns ds, _, h => by
    cases h with
    | obj a b c d f => exact .obj (e _ _ a) b c d (RpA.up e ds _ f)
  | .fr ds, _, h => by cases h
  | .raw a, _, h => by cases h; exact .raw a
theorem RpA.up (e : Same H H') : ∀ (ds : List D) (vs : List V), RpA K mg H vs ds → RpA K mg H' vs ds
  | [], _, h => by cases h; exact .nil
  | d :: ds, _, h => by
    cases h with
    | cons a b => exact .cons (Rp.up e d _ a) (RpA.up e ds _ b)
end
theorem RpA.len : ∀ {vs : List V} {ds : List D}, RpA K mg H vs ds → vs.length = ds.length
  | _, _, .nil => rfl
  | _, _, .cons _ t => by simp [RpA.len t]
theorem RpA.app : ∀ {vs ws : List V} {ds es : List D}, RpA K mg H vs ds → RpA K mg H ws es → RpA K mg H (vs ++ ws) (ds ++ es)
  | _, _, _, _, .nil, s => s
  | _, _, _, _, .cons r t, s => .cons r (t.app s)
theorem RpA.get : ∀ {vs : List V} {ds : List D} {i : Nat} {d : D}, RpA K mg H vs ds → ds[i]? = some d → ∃ v, vs[i]? = some v ∧ Rp K mg H v d
  | _, _, _, _, .nil, e => by simp at e
  | _, _, 0, _, .cons r _, e => by simp at e; subst e; exact ⟨_, rfl, r⟩
  | _, _, i + 1, d, .cons _ t, e => by
    obtain ⟨v, h1, h2⟩ := RpA.get (i := i) t (by simpa using e)
    exact ⟨v, by simpa using h1, h2⟩
theorem RpA.getV : ∀ {vs : List V} {ds : List D} {i : Nat} {v : V}, RpA K mg H vs ds → vs[i]? = some v → ∃ d, ds[i]? = some d ∧ Rp K mg H v d
  | _, _, _, _, .nil, e => by simp at e
  | _, _, 0, _, .cons r _, e => by simp at e; subst e; exact ⟨_, rfl, r⟩
  | _, _, i + 1, v, .cons _ t, e => by
    obtain ⟨d, h1, h2⟩ := RpA.getV (i := i) t (by simpa using e)
    exact ⟨d, by simpa using h1, h2⟩
theorem RpA.take : ∀ {vs : List V} {ds : List D} (n : Nat), RpA K mg H vs ds → RpA K mg H (vs.take n) (ds.take n)
  | _, _, 0, _ => .nil
  | _, _, n + 1, .nil => .nil
  | _, _, n + 1, .cons r t => .cons r (t.take n)
theorem RpA.drop : ∀ {vs : List V} {ds : List D} (n : Nat), RpA K mg H vs ds → RpA K mg H (vs.drop n) (ds.drop n)
  | _, _, 0, r => r
  | _, _, n + 1, .nil => .nil
  | _, _, n + 1, .cons r t => t.drop n
theorem RpA.set {v : V} {d : D} (r : Rp K mg H v d) : ∀ {vs : List V} {ds : List D} (i : Nat), RpA K mg H vs ds → RpA K mg H (vs.set i v) (ds.set i d)
  | _, _, _, .nil => .nil
  | _, _, 0, .cons _ t => .cons r t
  | _, _, i + 1, .cons q t => .cons q (t.set r i)
theorem RpA.erase : ∀ {vs : List V} {ds : List D} (i : Nat), RpA K mg H vs ds → RpA K mg H (vs.eraseIdx i) (ds.eraseIdx i)
  | _, _, _, .nil => .nil
  | _, _, 0, .cons _ t => t
  | _, _, i + 1, .cons q t => .cons q (t.erase i)
theorem RpA.rev : ∀ {vs : List V} {ds : List D}, RpA K mg H vs ds → RpA K mg H vs.reverse ds.reverse
  | _, _, .nil => .nil
  | _, _, .cons q t => by
    rw [List.reverse_cons, List.reverse_cons]
    exact t.rev.app (.cons q .nil)
theorem RpA.ints : ∀ {vs : List V} {ns : List Int}, RpA K mg H vs (ns.map D.int) → vs = ns.map V.int
  | _, [], h => by cases h; rfl
  | _, n :: ns, h => by
    cases h with
    | cons a b => cases a; rw [RpA.ints b]; rfl
theorem RpA.bls : ∀ {vs : List V} {ns : List Bool}, RpA K mg H vs (ns.map D.bl) → vs = ns.map V.bl
  | _, [], h => by cases h; rfl
  | _, n :: ns, h => by
    cases h with
    | cons a b => cases a; rw [RpA.bls b]; rfl
theorem RpA.strs : ∀ {vs : List V} {ns : List Str}, RpA K mg H vs (ns.map D.str) → vs = ns.map V.str
  | _, [], h => by cases h; rfl
  | _, n :: ns, h => by
    cases h with
    | cons a b => cases a; rw [RpA.strs b]; rfl
theorem RpA.of_ints : ∀ (ns : List Int), RpA K mg H (ns.map V.int) (ns.map D.int)
  | [] => .nil
  | n :: ns => .cons (.int n) (RpA.of_ints ns)
theorem RpA.of_strs : ∀ (ns : List Str), RpA K mg H (ns.map V.str) (ns.map D.str)
  | [] => .nil
  | n :: ns => .cons (.str n) (RpA.of_strs ns)
end

/-! ### data as the library's data, for == -/
mutual
def D.py : D → PyData
  | .non => .none
  | .bl b => .bool b
  | .int i => .int i
  | .str x => .str x
  | .lst ds => .list (D.pyA ds)
  | .rol ds => .list (D.pyA ds)
  | .tup ds => .tuple (D.pyA ds)
  | .obj _ _ _ => .dict []
  | .fr _ => .dict []
  | .raw _ => .dict []
def D.pyA : List D → List PyData
  | [] => []
  | d :: ds => d.py :: D.pyA ds
end
mutual
theorem Rp.dp {K : PySem.W.Frag} {mg : Str → Option Value} {H : Hp} : ∀ (d : D) (v : V), d.py.canLay0 = true → Rp K mg H v d → Dp K H v d.py
  | .non, _, _, h => by cases h; exact .non
  | .bl b, _, _, h => by cases h; exact .bl b
  | .int i, _, _, h => by cases h; exact .int i
  | .str x, _, _, h => by cases h; exact .str x
  | .lst ds, _, c, h => by
    cases h with
    | lst a b => exact .lst (SqL.of a) (RpA.dp ds _ (by simpa [D.py, PyData.canLay0] using c) b)
  | .rol ds, _, c, h => by
    cases h with
    | rol a b => exact .lst a (RpA.dp ds _ (by simpa [D.py, PyData.canLay0] using c) b)
  | .tup ds, _, c, h => by
    cases h with
    | tup a b => exact .tup a (RpA.dp ds _ (by simpa [D.py, PyData.canLay0] using c) b)
  | .obj c ns ds, _, c', h => by simp [D.py, PyData.canLay0] at c'
  | .fr ds, _, c', h => by cases h
  | .raw a, _, c', h => by simp [D.py, PyData.canLay0] at c'
theorem RpA.dp {K : PySem.W.Frag} {mg : Str → Option Value} {H : Hp} : ∀ (ds : List D) (vs : List V), PyData.canLayAll0 (D.pyA ds) = true → RpA K mg H vs ds → DpAll K H vs (D.pyA ds)
  | [], _, _, h => by cases h; exact .nil
  | d :: ds, _, c, h => by
    have c' : d.py.canLay0 = true ∧ PyData.canLayAll0 (D.pyA ds) = true := by simpa [D.pyA, PyData.canLayAll0] using c
    cases h with
    | cons a b => exact .cons (Rp.dp d _ c'.1 a) (RpA.dp ds _ c'.2 b)
end

/-! ### results -/
/-- a condition as a Bool that nothing unfolds -/
noncomputable def cb (p : Prop) : Bool := @decide p (Classical.propDecidable p)
theorem cb_t {p : Prop} (h : p) : cb p = true := @decide_eq_true p (Classical.propDecidable p) h
theorem cb_f {p : Prop} (h : ¬ p) : cb p = false := @decide_eq_false p (Classical.propDecidable p) h
theorem of_cb {p : Prop} (h : cb p = true) : p := @of_decide_eq_true p (Classical.propDecidable p) h
@[simp] theorem cb_iff {p : Prop} : (cb p = true) = p := propext ⟨of_cb, cb_t⟩
@[simp] theorem cb_nif {p : Prop} : (cb p = false) = ¬ p := propext ⟨fun h q => (by rw [cb_t q] at h; cases h), cb_f⟩
theorem cb_dec {p : Prop} [Decidable p] : cb p = decide p := by
  by_cases h : p
  · rw [cb_t h, decide_eq_true h]
  · rw [cb_f h, decide_eq_false h]
/-- a value; an exception of the class named x with its fields; or: nothing is said -/
inductive Res (α : Type) where
  | ok (a : α) | exc (x : Str) (fs : List (Str × D)) | bad
def Res.bind {α β : Type} (r : Res α) (k : α → Res β) : Res β := match r with
  | .ok a => k a
  | .exc x fs => .exc x fs
  | .bad => .bad
instance : Monad Res where
  pure := .ok
  bind := Res.bind
@[simp] theorem Res.bind_ok {α β : Type} (a : α) (k : α → Res β) : (Res.ok a).bind k = k a := rfl
@[simp] theorem Res.bind_exc {α β : Type} (x : Str) (fs : List (Str × D)) (k : α → Res β) : (Res.exc x fs).bind k = .exc x fs := rfl
@[simp] theorem Res.bind_bad {α β : Type} (k : α → Res β) : (Res.bad : Res α).bind k = .bad := rfl

/-- a slot: nothing is known; a shared value; a list that this slot alone holds -/
inductive Cell where
  | e | v (d : D) | o (ds : List D) | xc (c : Str) (fs : List (Str × D))
abbrev Sl := List Cell
abbrev Frg := PySem.W.Frag
abbrev Mg := Str → Option Value
/-- what an exception carries -/
def Xd (K : Frg) (mg : Mg) (S H : Hp) (dx : Option Addr) (fs : List (Str × D)) : Prop := match dx with
  | none => fs = []
  | some a => ∃ (ns : List Str) (xs : List V) (ds : List D), fs = ns.zip ds ∧ (ns ≠ [] ∧ ns.length = xs.length) ∧ H a = some (.xd (ns.zip xs)) ∧ RpA K mg S xs ds
theorem Xd.keep {K : Frg} {mg : Mg} {S H S' H' : Hp} {dx : Option Addr} {fs : List (Str × D)} (s : Same S S') (k : ∀ a gs, H a = some (.xd gs) → H' a = some (.xd gs)) (h : Xd K mg S H dx fs) : Xd K mg S' H' dx fs := by
  cases dx with
  | none => exact h
  | some a =>
    obtain ⟨ns, xs, ds, h1, h2, h3, h4⟩ := h
    exact ⟨ns, xs, ds, h1, h2, k _ _ h3, h4.up s ds xs⟩
/-- the exception that an except suite holds: its address, its class, its dict -/
abbrev Hx := Option (Addr × Addr × Option Addr)

/-! ### heaps that grow -/
structure Gr (S H S' H' : Hp) : Prop where
  s : Same S S'
  h : Same H H'
  i : Same S' H'
  n : ∀ a, H a ≠ none → S a = none → S' a = none
theorem Gr.refl {S H : Hp} (i : Same S H) : Gr S H S H := ⟨Same.refl _, Same.refl _, i, fun _ _ e => e⟩
theorem Gr.trans {S H S1 H1 S2 H2 : Hp} (a : Gr S H S1 H1) (b : Gr S1 H1 S2 H2) : Gr S H S2 H2 :=
  ⟨a.s.trans b.s, a.h.trans b.h, b.i, fun x h e => b.n x (fun q => by
    cases r : H x with
    | none => exact h r
    | some o => rw [a.h x o r] at q; cases q) (a.n x h e)⟩
theorem same_new {H : Hp} {p : Addr} {o : HO} (h : H p = none) : Same H (upd H p o) := fun b u e => by
  rw [upd_ne (ne_of_none e h)]; exact e
theorem same_none {S H : Hp} {p : Addr} (i : Same S H) (h : H p = none) : S p = none := by
  cases e : S p with
  | none => rfl
  | some o => rw [i p o e] at h; cases h
/-- a new shared object -/
theorem Gr.new {S H : Hp} {p : Addr} {o : HO} (i : Same S H) (h : H p = none) : Gr S H (upd S p o) (upd H p o) :=
  ⟨same_new (same_none i h), same_new h, fun b u e => by
    by_cases q : b = p
    · subst q; rw [upd_same] at e ⊢; exact e
    · rw [upd_ne q] at e ⊢; exact i b u e, fun a ha e => by
    have q : a ≠ p := fun z => ha (z ▸ h)
    rw [upd_ne q]; exact e⟩
/-- a new object that is not shared -/
theorem Gr.lay {S H : Hp} {p : Addr} {o : HO} (i : Same S H) (h : H p = none) : Gr S H S (upd H p o) :=
  ⟨Same.refl _, same_new h, i.trans (same_new h), fun _ _ e => e⟩
/-- the heap alone grows -/
theorem Gr.heap {S H H' : Hp} (i : Same S H) (h : Same H H') : Gr S H S H' := ⟨Same.refl _, h, i.trans h, fun _ _ e => e⟩

/-- the base of a def's call: the heap and its shared part at the entry -/
structure Bs where
  H0 : Hp
  S0 : Hp
structure Rel (K : PySem.W.Frag) (mg : Str → Option Value) (hx : Hx) (b : Bs) (S : Hp) (ρ : Sl) (σ : St) (H : Hp) : Prop where
  s0 : Same b.S0 S
  sh : Same S H
  h0 : Same b.H0 H
  nw : ∀ a, b.H0 a ≠ none → b.S0 a = none → S a = none
  len : ρ.length = σ.length
  val : ∀ (i : Nat) (d : D), ρ[i]? = some (.v d) → ∃ v, σ[i]? = some (some v) ∧ Rp K mg S v d
  own : ∀ (i : Nat) (ds : List D), ρ[i]? = some (.o ds) → ∃ p vs, σ[i]? = some (some (.ref p)) ∧ H p = some (.lst vs) ∧ S p = none ∧ b.H0 p = none ∧ RpA K mg S vs ds
  xc : ∀ (i : Nat) (c : Str) (fs : List (Str × D)), ρ[i]? = some (.xc c fs) → ∃ a C dx, hx = some (a, C, dx) ∧ σ[i]? = some (some (.ref a)) ∧ mg c = some (.ref C) ∧ Xd K mg S H dx fs
  apart : ∀ (i j : Nat) (ds es : List D) (p : Addr), i ≠ j → ρ[i]? = some (.o ds) → ρ[j]? = some (.o es) → σ[i]? = some (some (.ref p)) → σ[j]? = some (some (.ref p)) → False
section
variable {K : PySem.W.Frag} {mg : Str → Option Value} {hx : Hx} {b : Bs} {S H S' H' : Hp} {ρ : Sl} {σ : St}
theorem Rel.grow (R : Rel K mg hx b S ρ σ H) (g : Gr S H S' H') : Rel K mg hx b S' ρ σ H' where
  s0 := R.s0.trans g.s
  sh := g.i
  h0 := R.h0.trans g.h
  nw := fun a h e => g.n a (fun q => by
    cases r : b.H0 a with
    | none => exact h r
    | some o => rw [R.h0 a o r] at q; cases q) (R.nw a h e)
  len := R.len
  val := fun i d e => let ⟨v, h1, h2⟩ := R.val i d e; ⟨v, h1, h2.up g.s d v⟩
  own := fun i ds e => let ⟨p, vs, h1, h2, h3, h4, h5⟩ := R.own i ds e
    ⟨p, vs, h1, g.h _ _ h2, g.n p (by rw [h2]; simp) h3, h4, h5.up g.s ds vs⟩
  xc := fun i c fs e => let ⟨a, C, dx, h1, h2, h3, h4⟩ := R.xc i c fs e; ⟨a, C, dx, h1, h2, h3, h4.keep g.s fun _ _ q => g.h _ _ q⟩
  apart := R.apart
theorem getset {α : Type} {l : List α} {i j : Nat} {x y : α} (h : (l.set i x)[j]? = some y) : (i = j ∧ x = y ∧ j < l.length) ∨ (i ≠ j ∧ l[j]? = some y) := by
  by_cases e : i = j
  · subst e
    rw [List.getElem?_set] at h
    simp only [if_true] at h
    split at h
    · rename_i q; exact .inl ⟨rfl, Option.some.inj h, q⟩
    · cases h
  · rw [List.getElem?_set_ne e] at h
    exact .inr ⟨e, h⟩
/-- a slot gets a shared value -/
theorem Rel.put (R : Rel K mg hx b S ρ σ H) {i : Nat} {v : V} {d : D} (r : Rp K mg S v d) : Rel K mg hx b S (ρ.set i (.v d)) (σ.set i (some v)) H where
  s0 := R.s0
  sh := R.sh
  h0 := R.h0
  nw := R.nw
  len := by simp [R.len]
  val := fun j d' e => by
    rcases getset e with ⟨rfl, h2, h3⟩ | ⟨h1, h2⟩
    · cases h2
      exact ⟨v, by rw [List.getElem?_set_self (by rw [← R.len]; exact h3)], r⟩
    · obtain ⟨v', h3, h4⟩ := R.val j d' h2
      exact ⟨v', by rw [List.getElem?_set_ne h1]; exact h3, h4⟩
  own := fun j ds e => by
    rcases getset e with ⟨rfl, h2, h3⟩ | ⟨h1, h2⟩
    · cases h2
    · obtain ⟨p, vs, h3, h4⟩ := R.own j ds h2
      exact ⟨p, vs, by rw [List.getElem?_set_ne h1]; exact h3, h4⟩
  xc := fun j c fs e => by
    rcases getset e with ⟨_, h2, _⟩ | ⟨h1, h2⟩
    · cases h2
    · obtain ⟨a, C, dx, q1, q2, q3⟩ := R.xc j c fs h2
      exact ⟨a, C, dx, q1, by rw [List.getElem?_set_ne h1]; exact q2, q3⟩
  apart := fun j k ds es p ne e1 e2 e3 e4 => by
    rcases getset e1 with ⟨_, h2, _⟩ | ⟨h1, h2⟩
    · cases h2
    · rcases getset e2 with ⟨_, h4, _⟩ | ⟨h3, h4⟩
      · cases h4
      · rw [List.getElem?_set_ne h1] at e3
        rw [List.getElem?_set_ne h3] at e4
        exact R.apart j k ds es p ne h2 h4 e3 e4
/-- a slot gets a new list of its own -/
theorem Rel.putO (R : Rel K mg hx b S ρ σ H) {i : Nat} {p : Addr} {vs : List V} {ds : List D} (h : H p = some (.lst vs)) (hs : S p = none) (h0 : b.H0 p = none) (hn : ∀ (j : Nat) (es : List D), ρ[j]? = some (.o es) → σ[j]? ≠ some (some (.ref p))) (r : RpA K mg S vs ds) : Rel K mg hx b S (ρ.set i (.o ds)) (σ.set i (some (.ref p))) H where
  s0 := R.s0
  sh := R.sh
  h0 := R.h0
  nw := R.nw
  len := by simp [R.len]
  val := fun j d' e => by
    rcases getset e with ⟨rfl, h2, h3⟩ | ⟨h1, h2⟩
    · cases h2
    · obtain ⟨v', h3, h4⟩ := R.val j d' h2
      exact ⟨v', by rw [List.getElem?_set_ne h1]; exact h3, h4⟩
  own := fun j es e => by
    rcases getset e with ⟨rfl, h2, h3⟩ | ⟨h1, h2⟩
    · cases h2
      exact ⟨p, vs, by rw [List.getElem?_set_self (by rw [← R.len]; exact h3)], h, hs, h0, r⟩
    · obtain ⟨p, vs, h3, h4⟩ := R.own j es h2
      exact ⟨p, vs, by rw [List.getElem?_set_ne h1]; exact h3, h4⟩
  xc := fun j c fs e => by
    rcases getset e with ⟨_, h2, _⟩ | ⟨h1, h2⟩
    · cases h2
    · obtain ⟨a, C, dx, q1, q2, q3⟩ := R.xc j c fs h2
      exact ⟨a, C, dx, q1, by rw [List.getElem?_set_ne h1]; exact q2, q3⟩
  apart := fun j k ds es q ne e1 e2 e3 e4 => by
    rcases getset e1 with ⟨j1, _, h3⟩ | ⟨h1, h2⟩
    · rcases getset e2 with ⟨k1, _, _⟩ | ⟨h4, h5⟩
      · exact ne (j1.symm.trans k1)
      · subst j1
        rw [List.getElem?_set_self (by rw [← R.len]; exact h3)] at e3
        rw [List.getElem?_set_ne h4] at e4
        cases e3
        exact hn k es h5 e4
    · rw [List.getElem?_set_ne h1] at e3
      rcases getset e2 with ⟨k1, _, h3⟩ | ⟨h4, h5⟩
      · subst k1
        rw [List.getElem?_set_self (by rw [← R.len]; exact h3)] at e4
        cases e4
        exact hn j ds h2 e3
      · rw [List.getElem?_set_ne h4] at e4
        exact R.apart j k ds es q ne h2 h5 e3 e4
/-- nothing is known of a slot any more -/
theorem Rel.wipe1 (R : Rel K mg hx b S ρ σ H) {i : Nat} {x : Option V} : Rel K mg hx b S (ρ.set i .e) (σ.set i x) H where
  s0 := R.s0
  sh := R.sh
  h0 := R.h0
  nw := R.nw
  len := by simp [R.len]
  val := fun j d' e => by
    rcases getset e with ⟨_, h2, _⟩ | ⟨h1, h2⟩
    · cases h2
    · obtain ⟨v', h3, h4⟩ := R.val j d' h2
      exact ⟨v', by rw [List.getElem?_set_ne h1]; exact h3, h4⟩
  own := fun j ds e => by
    rcases getset e with ⟨_, h2, _⟩ | ⟨h1, h2⟩
    · cases h2
    · obtain ⟨p, vs, h3, h4⟩ := R.own j ds h2
      exact ⟨p, vs, by rw [List.getElem?_set_ne h1]; exact h3, h4⟩
  xc := fun j c fs e => by
    rcases getset e with ⟨_, h2, _⟩ | ⟨h1, h2⟩
    · cases h2
    · obtain ⟨a, C, dx, q1, q2, q3⟩ := R.xc j c fs h2
      exact ⟨a, C, dx, q1, by rw [List.getElem?_set_ne h1]; exact q2, q3⟩
  apart := fun j k ds es p ne e1 e2 e3 e4 => by
    rcases getset e1 with ⟨_, h2, _⟩ | ⟨h1, h2⟩
    · cases h2
    · rcases getset e2 with ⟨_, h4, _⟩ | ⟨h3, h4⟩
      · cases h4
      · rw [List.getElem?_set_ne h1] at e3
        rw [List.getElem?_set_ne h3] at e4
        exact R.apart j k ds es p ne h2 h4 e3 e4
/-- the list of slot i is changed in its place -/
theorem Rel.mut (R : Rel K mg hx b S ρ σ H) {i : Nat} {p : Addr} {vs : List V} {ds ds' : List D} (e : ρ[i]? = some (.o ds)) (es : σ[i]? = some (some (.ref p))) (r : RpA K mg S vs ds') : Rel K mg hx b S (ρ.set i (.o ds')) σ (upd H p (.lst vs)) := by
  obtain ⟨p', vs', q1, q2, q3, q4, q5⟩ := R.own i ds e
  rw [es] at q1
  cases q1
  have il : i < ρ.length := (List.getElem?_eq_some_iff.mp e).1
  refine ⟨R.s0, fun a o h => ?_, fun a o h => ?_, R.nw, by simp [R.len], fun j d' e' => ?_, fun j es' e' => ?_, fun j c fs e' => ?_, fun j k ds1 es1 q ne e1 e2 e3 e4 => ?_⟩
  · rw [upd_ne (fun z => by rw [z, q3] at h; cases h)]; exact R.sh a o h
  · rw [upd_ne (fun z => by rw [z, q4] at h; cases h)]; exact R.h0 a o h
  · rcases getset e' with ⟨_, h2, _⟩ | ⟨h1, h2⟩
    · cases h2
    · exact R.val j d' h2
  · rcases getset e' with ⟨rfl, h2, _⟩ | ⟨h1, h2⟩
    · cases h2
      exact ⟨p, vs, es, upd_same, q3, q4, r⟩
    · obtain ⟨p2, vs2, h3, h4, h5⟩ := R.own j es' h2
      refine ⟨p2, vs2, h3, ?_, h5⟩
      rw [upd_ne (fun z => by subst z; exact R.apart i j ds es' p2 h1 e h2 es h3)]
      exact h4
  · rcases getset e' with ⟨_, h2, _⟩ | ⟨h1, h2⟩
    · cases h2
    · obtain ⟨a, C, dx, z1, z2, z3, z4⟩ := R.xc j c fs h2
      exact ⟨a, C, dx, z1, z2, z3, z4.keep (Same.refl _) fun d gs z => by rw [upd_ne (fun w => by rw [w, q2] at z; cases z)]; exact z⟩
  · have old : ∀ (m : Nat) (ms : List D), (ρ.set i (.o ds'))[m]? = some (.o ms) → ∃ ms' : List D, ρ[m]? = some (.o ms') := fun m ms z => by
      rcases getset z with ⟨rfl, _, _⟩ | ⟨_, h2⟩
      · exact ⟨ds, e⟩
      · exact ⟨ms, h2⟩
    obtain ⟨a1, b1⟩ := old j ds1 e1
    obtain ⟨a2, b2⟩ := old k es1 e2
    exact R.apart j k a1 a2 q ne b1 b2 e3 e4
/-- the list of slot i is shared from now on -/
theorem Rel.freeze (R : Rel K mg hx b S ρ σ H) {i : Nat} {ds : List D} (e : ρ[i]? = some (.o ds)) : ∃ S', Same S S' ∧ Rel K mg hx b S' (ρ.set i (.v (.lst ds))) σ H := by
  obtain ⟨p, vs, q1, q2, q3, q4, q5⟩ := R.own i ds e
  have up : Same S (upd S p (.lst vs)) := same_new q3
  refine ⟨upd S p (.lst vs), up, R.s0.trans up, fun a o h => ?_, R.h0, fun a h e' => ?_, by simp [R.len], fun j d' e' => ?_, fun j es' e' => ?_, fun j c fs e' => ?_, fun j k ds1 es1 q ne e1 e2 e3 e4 => ?_⟩
  · by_cases z : a = p
    · subst z; rw [upd_same] at h; cases h; exact q2
    · rw [upd_ne z] at h; exact R.sh a o h
  · rw [upd_ne (fun z => by rw [z] at h; exact h q4)]
    exact R.nw a h e'
  · rcases getset e' with ⟨rfl, h2, _⟩ | ⟨h1, h2⟩
    · cases h2
      exact ⟨_, q1, .lst upd_same (q5.up up ds vs)⟩
    · obtain ⟨v', h3, h4⟩ := R.val j d' h2
      exact ⟨v', h3, h4.up up _ _⟩
  · rcases getset e' with ⟨_, h2, _⟩ | ⟨h1, h2⟩
    · cases h2
    · obtain ⟨p2, vs2, h3, h4, h5, h6, h7⟩ := R.own j es' h2
      refine ⟨p2, vs2, h3, h4, ?_, h6, h7.up up _ _⟩
      rw [upd_ne (fun z => by subst z; exact R.apart i j ds es' p2 h1 e h2 q1 h3)]
      exact h5
  · rcases getset e' with ⟨_, h2, _⟩ | ⟨h1, h2⟩
    · cases h2
    · obtain ⟨a, C, dx, z1, z2, z3, z4⟩ := R.xc j c fs h2
      exact ⟨a, C, dx, z1, z2, z3, z4.keep up fun _ _ z => z⟩
  · rcases getset e1 with ⟨_, h2, _⟩ | ⟨h1, h2⟩
    · cases h2
    · rcases getset e2 with ⟨_, h4, _⟩ | ⟨h3, h4⟩
      · cases h4
      · exact R.apart j k ds1 es1 q ne h2 h4 e3 e4
end
end PF

set_option Elab.async false
set_option linter.all false
set_option maxRecDepth 100000
set_option maxHeartbeats 4000000
namespace PF
open PySem PySem.Spec L2

abbrev RR (α β : Type) := Hp → Hp → Hp → α → β → Prop
def Po {α β : Type} (K : Frg) (mg : Mg) (R : RR α β) (W : WX) (S : Hp) (σ : L2.St) (H : Hp) (r : Res β) (Q : α → Hp → Prop) : Prop := match r with
  | .ok d => ∀ v S' H', Gr S H S' H' → R H S' H' v d → Q v H'
  | .exc x fs => ∀ S' H' C dx, Gr S H S' H' → mg x = some (.ref C) → Xd K mg S' H' dx fs → W (.ref C) dx σ H'
  | .bad => False
abbrev rrE (K : Frg) (mg : Mg) : RR V D := fun _ S _ v d => Rp K mg S v d
abbrev rrA (K : Frg) (mg : Mg) : RR (List V) (List D) := fun _ S _ v d => RpA K mg S v d
abbrev rrT : RR Bool Bool := fun _ _ _ b c => b = c
/-- an operand that is only read: a list may be a slot's own -/
def Rd1 (K : Frg) (mg : Mg) (S H : Hp) (v : V) (d : D) : Prop := match d with
  | .lst ds => ∃ (p : Addr) (vs : List V), v = .ref p ∧ H p = some (.lst vs) ∧ RpA K mg S vs ds
  | d => Rp K mg S v d
abbrev rrR (K : Frg) (mg : Mg) : RR V D := fun _ S H v d => Rd1 K mg S H v d
/-- a new list that nobody else holds -/
abbrev rrF (K : Frg) (mg : Mg) : RR V (List D) := fun H0 S H v ds => ∃ (p : Addr) (vs : List V), v = .ref p ∧ H0 p = none ∧ S p = none ∧ H p = some (.lst vs) ∧ RpA K mg S vs ds
/-- what a def hands back: a shared value, or a new list that nobody else holds -/
abbrev rrX (K : Frg) (mg : Mg) : RR V D := fun H0 S H v d => Rp K mg S v d ∨ ∃ ds, d = .fr ds ∧ rrF K mg H0 S H v ds
section
variable {K : Frg} {mg : Mg} {S H S' H' : Hp}
theorem Rd1.of {v : V} {d : D} (i : Same S H) (h : Rp K mg S v d) : Rd1 K mg S H v d := by
  cases d <;> first | exact h | skip
  cases h with
  | lst a b => exact ⟨_, _, rfl, i _ _ a, b⟩
theorem Rd1.up {v : V} {d : D} (g : Gr S H S' H') (h : Rd1 K mg S H v d) : Rd1 K mg S' H' v d := by
  cases d with
  | lst ds =>
    obtain ⟨p, vs, h1, h2, h3⟩ := h
    exact ⟨p, vs, h1, g.h _ _ h2, h3.up g.s ds vs⟩
  | _ => exact Rp.up g.s _ v h
theorem Xd.up {dx : Option Addr} {fs : List (Str × D)} (g : Gr S H S' H') (h : Xd K mg S H dx fs) : Xd K mg S' H' dx fs := by
  exact h.keep g.s fun _ _ q => g.h _ _ q
end
section
variable {α β γ δ : Type} {K : Frg} {mg : Mg} {R : RR α β} {R2 : RR γ δ} {W : WX} {S H S' H' : Hp} {σ : L2.St}
theorem Po.bind {r : Res β} {k : β → Res δ} {Q : α → Hp → Prop} {Q2 : γ → Hp → Prop} (h : Po K mg R2 W S σ H (r.bind k) Q2)
    (n : ∀ d v S' H', Gr S H S' H' → R H S' H' v d → Po K mg R2 W S σ H (k d) Q2 → Q v H') : Po K mg R W S σ H r Q := by
  cases r with
  | ok d => exact fun v S' H' g q => n d v S' H' g q h
  | exc x fs => exact h
  | bad => exact h
theorem Po.up {r : Res β} {Q : α → Hp → Prop} (g : Gr S H S' H') (hr : ∀ S2 H2 v d, Gr S' H' S2 H2 → R H' S2 H2 v d → R H S2 H2 v d) (h : Po K mg R W S σ H r Q) : Po K mg R W S' σ H' r Q := by
  cases r with
  | ok d => exact fun v S2 H2 g2 q => h v S2 H2 (g.trans g2) (hr _ _ _ _ g2 q)
  | exc x fs => exact fun S2 H2 C dx g2 q1 q2 => h S2 H2 C dx (g.trans g2) q1 q2
  | bad => exact h
theorem Po.wk {R' : RR α β} {r : Res β} {Q : α → Hp → Prop} (h : Po K mg R W S σ H r Q) (hr : ∀ S2 H2 v d, Gr S H S2 H2 → R' H S2 H2 v d → R H S2 H2 v d) : Po K mg R' W S σ H r Q := by
  cases r with
  | ok d => exact fun v S2 H2 g2 q => h v S2 H2 g2 (hr _ _ _ _ g2 q)
  | exc x fs => exact h
  | bad => exact h
theorem Po.q {r : Res β} {Q Q' : α → Hp → Prop} (h : Po K mg R W S σ H r Q) (hq : ∀ v H', Q v H' → Q' v H') : Po K mg R W S σ H r Q' := by
  cases r with
  | ok d => exact fun v S2 H2 g2 q => hq _ _ (h v S2 H2 g2 q)
  | exc x fs => exact h
  | bad => exact h
end
theorem Po.upE {K : Frg} {mg : Mg} {W : WX} {S H S' H' : Hp} {σ : L2.St} {r : Res D} {Q : VK} (g : Gr S H S' H') (h : Po K mg (rrE K mg) W S σ H r Q) : Po K mg (rrE K mg) W S' σ H' r Q := h.up g fun _ _ _ _ _ q => q
theorem Po.upX {K : Frg} {mg : Mg} {W : WX} {S H S' H' : Hp} {σ : L2.St} {r : Res D} {Q : VK} (g : Gr S H S' H') (h : Po K mg (rrX K mg) W S σ H r Q) : Po K mg (rrX K mg) W S' σ H' r Q := h.up g fun S2 H2 v d g2 q => q.imp id fun ⟨ds, e, p, vs, h1, h2, h3⟩ => ⟨ds, e, p, vs, h1, same_none g.h h2, h3⟩
theorem Po.upR {K : Frg} {mg : Mg} {W : WX} {S H S' H' : Hp} {σ : L2.St} {r : Res D} {Q : VK} (g : Gr S H S' H') (h : Po K mg (rrR K mg) W S σ H r Q) : Po K mg (rrR K mg) W S' σ H' r Q := h.up g fun _ _ _ _ _ q => q
theorem Po.upA {K : Frg} {mg : Mg} {W : WX} {S H S' H' : Hp} {σ : L2.St} {r : Res (List D)} {Q : List V → Hp → Prop} (g : Gr S H S' H') (h : Po K mg (rrA K mg) W S σ H r Q) : Po K mg (rrA K mg) W S' σ H' r Q := h.up g fun _ _ _ _ _ q => q
theorem Po.upT {K : Frg} {mg : Mg} {W : WX} {S H S' H' : Hp} {σ : L2.St} {r : Res Bool} {Q : Bool → Hp → Prop} (g : Gr S H S' H') (h : Po K mg rrT W S σ H r Q) : Po K mg rrT W S' σ H' r Q := h.up g fun _ _ _ _ _ q => q
theorem Po.upF {K : Frg} {mg : Mg} {W : WX} {S H S' H' : Hp} {σ : L2.St} {r : Res (List D)} {Q : VK} (g : Gr S H S' H') (h : Po K mg (rrF K mg) W S σ H r Q) : Po K mg (rrF K mg) W S' σ H' r Q := h.up g fun S2 H2 v d g2 ⟨p, vs, h1, h2, h3⟩ => ⟨p, vs, h1, same_none g.h h2, h3⟩

/-- the canonical reading of an expression (an argument list, a test) that yields f of the slots -/
def tG {α β : Type} (K : Frg) (mg : Mg) (hx : Hx) (R : RR α β) (W : WX) (f : Sl → Res β) : L2.St → Hp → (α → Hp → Prop) → Prop := fun σ H Q => ∃ b S ρ, Rel K mg hx b S ρ σ H ∧ Po K mg R W S σ H (f ρ) Q
abbrev ME (X : Cx) (hx : Hx) (W : WX) (e : Expr) (f : Sl → Res D) : Prop := PE X e (tG X.K X.mg hx (rrE X.K X.mg) W f)
abbrev MR (X : Cx) (hx : Hx) (W : WX) (e : Expr) (f : Sl → Res D) : Prop := PE X e (tG X.K X.mg hx (rrR X.K X.mg) W f)
abbrev MF (X : Cx) (hx : Hx) (W : WX) (e : Expr) (f : Sl → Res (List D)) : Prop := PE X e (tG X.K X.mg hx (rrF X.K X.mg) W f)
abbrev MA (X : Cx) (hx : Hx) (W : WX) (es : List Expr) (f : Sl → Res (List D)) : Prop := PA X es (tG X.K X.mg hx (rrA X.K X.mg) W f)
abbrev MT (X : Cx) (hx : Hx) (W : WX) (e : Expr) (f : Sl → Res Bool) : Prop := PT X e (tG X.K X.mg hx rrT W f)
abbrev MW (X : Cx) (hx : Hx) (W : WX) (e : Expr) (f : Sl → Res Bool) : Prop := PW X e (tG X.K X.mg hx rrT W f)

theorem pe_imp {X : Cx} {e : Expr} {t t' : TE} (h : PE X e t) (i : ∀ σ H Q, t' σ H Q → t σ H Q) : PE X e t' := ⟨fun pins s σ H Q I q => h.run pins s σ H Q I (i σ H Q q)⟩
theorem pa_imp {X : Cx} {e : List Expr} {t t' : TA} (h : PA X e t) (i : ∀ σ H Q, t' σ H Q → t σ H Q) : PA X e t' := ⟨fun ps pins s σ H Q I q => h.run ps pins s σ H Q I (i σ H Q q)⟩
theorem pt_imp {X : Cx} {e : Expr} {t t' : TT} (h : PT X e t) (i : ∀ σ H Q, t' σ H Q → t σ H Q) : PT X e t' := ⟨fun pins s σ H Q I q => h.run pins s σ H Q I (i σ H Q q)⟩
theorem pw_imp {X : Cx} {e : Expr} {t t' : TT} (h : PW X e t) (i : ∀ σ H Q, t' σ H Q → t σ H Q) : PW X e t' := ⟨fun w pins s σ H Q I q => h.run w pins s σ H Q I (i σ H Q q)⟩
theorem ps_imp {X : Cx} {st : Stmt} {t t' : TS} (h : PS X st t) (i : ∀ D σ H, t' D σ H → t D σ H) : PS X st t' := ⟨fun pins s σ H D I q => h.run pins s σ H D I (i D σ H q)⟩
theorem pss_imp {X : Cx} {st : List Stmt} {t t' : TS} (h : PSs X st t) (i : ∀ D σ H, t' D σ H → t D σ H) : PSs X st t' := ⟨fun pins s σ H D I q => h.run pins s σ H D I (i D σ H q)⟩
theorem pg_imp {X : Cx} {e : Expr} {t t' : TG} (h : PG X e t) (i : ∀ v σ H Q, t' v σ H Q → t v σ H Q) : PG X e t' := ⟨fun pins s σ H v u Q I r q => h.run pins s σ H v u Q I r (i v σ H Q q)⟩
theorem pi_imp {X : Cx} {tg e : Expr} {t t' : TI} (h : PI X tg e t) (i : ∀ σ H R, t' σ H R → t σ H R) : PI X tg e t' := ⟨fun pins s σ H R I q => h.run pins s σ H R I (i σ H R q)⟩

/-! ### expressions -/
@[simp] def sVar (i : Nat) (ρ : Sl) : Res D := match ρ[i]? with
  | some (.v d) => .ok d
  | _ => .bad
@[simp] def sRd (i : Nat) (ρ : Sl) : Res D := match ρ[i]? with
  | some (.v d) => .ok d
  | some (.o ds) => .ok (.lst ds)
  | _ => .bad
@[simp] def sC (d : D) (_ : Sl) : Res D := .ok d
@[simp] def sUn (g : D → Res D) (f : Sl → Res D) (ρ : Sl) : Res D := (f ρ).bind g
@[simp] def sOp (g : D → D → Res D) (f h : Sl → Res D) (ρ : Sl) : Res D := (f ρ).bind fun x => (h ρ).bind fun y => g x y
@[simp] def aNil (_ : Sl) : Res (List D) := .ok []
@[simp] def aCons (f : Sl → Res D) (h : Sl → Res (List D)) (ρ : Sl) : Res (List D) := (f ρ).bind fun x => (h ρ).bind fun y => .ok (x :: y)
@[simp] def sTup (h : Sl → Res (List D)) (ρ : Sl) : Res D := (h ρ).bind fun ds => if ds.length ≤ 16777216 then .ok (.tup ds) else .bad
@[simp] def fLst (h : Sl → Res (List D)) (ρ : Sl) : Res (List D) := (h ρ).bind fun ds => if ds.length ≤ 16777216 then .ok ds else .bad
@[simp] def fOp (g : D → D → Res (List D)) (f h : Sl → Res D) (ρ : Sl) : Res (List D) := (f ρ).bind fun x => (h ρ).bind fun y => g x y
@[simp] def fUn (g : D → Res (List D)) (f : Sl → Res D) (ρ : Sl) : Res (List D) := (f ρ).bind g
@[simp] def sLst (h : Sl → Res (List D)) (ρ : Sl) : Res D := (h ρ).bind fun ds => .ok (.lst ds)
/-- a new list that a def hands back is shared from now on -/
@[simp] def thaw (d : D) : Res D := match d with
  | .fr xs => .ok (.lst xs)
  | d => .ok d
@[simp] def unfr (d : D) : Res (List D) := match d with
  | .fr xs => .ok xs
  | _ => .bad
@[simp] def sCall (g : List D → Res D) (h : Sl → Res (List D)) (ρ : Sl) : Res D := (h ρ).bind fun ds => (g ds).bind thaw
@[simp] def fCall (g : List D → Res D) (h : Sl → Res (List D)) (ρ : Sl) : Res (List D) := (h ρ).bind fun ds => (g ds).bind unfr
@[simp] def tBl (d : D) : Res Bool := match d with
  | .bl b => .ok b
  | _ => .bad
@[simp] def sTest (f : Sl → Res D) (ρ : Sl) : Res Bool := (f ρ).bind tBl
@[simp] def tAnd (f h : Sl → Res Bool) (ρ : Sl) : Res Bool := (f ρ).bind fun b => if b then h ρ else .ok false
@[simp] def tOr (f h : Sl → Res Bool) (ρ : Sl) : Res Bool := (f ρ).bind fun b => if b then .ok true else h ρ
@[simp] def tNot (f : Sl → Res Bool) (ρ : Sl) : Res Bool := (f ρ).bind fun b => .ok (!b)
@[simp] def sAnd (f h : Sl → Res D) (ρ : Sl) : Res D := (f ρ).bind fun x => (tBl x).bind fun b => if b then h ρ else .ok (.bl false)
@[simp] def sOr (f h : Sl → Res D) (ρ : Sl) : Res D := (f ρ).bind fun x => (tBl x).bind fun b => if b then .ok (.bl true) else h ρ
@[simp] def sNot (f : Sl → Res D) (ρ : Sl) : Res D := (f ρ).bind fun x => (tBl x).bind fun b => .ok (.bl (!b))
@[simp] def sIte (t : Sl → Res Bool) (f h : Sl → Res D) (ρ : Sl) : Res D := (t ρ).bind fun b => if b then f ρ else h ρ

/-- an operation by values is the function g on data -/
def U1 (K : Frg) (mg : Mg) (r : V → Hp → VK → Prop) (g : D → Res D) : Prop := ∀ S σ H v d W Q, Same S H → Rd1 K mg S H v d → Po K mg (rrE K mg) W S σ H (g d) Q → r v H Q
def O2 (K : Frg) (mg : Mg) (r : R2) (g : D → D → Res D) : Prop := ∀ S σ H x y d e W Q, Same S H → Rd1 K mg S H x d → Rd1 K mg S H y e → Po K mg (rrE K mg) W S σ H (g d e) Q → r x y H Q
/-- .. that makes a new list -/
def U1F (K : Frg) (mg : Mg) (r : V → Hp → VK → Prop) (g : D → Res (List D)) : Prop := ∀ S σ H v d W Q, Same S H → Rd1 K mg S H v d → Po K mg (rrF K mg) W S σ H (g d) Q → r v H Q
def O2F (K : Frg) (mg : Mg) (r : R2) (g : D → D → Res (List D)) : Prop := ∀ S σ H x y d e W Q, Same S H → Rd1 K mg S H x d → Rd1 K mg S H y e → Po K mg (rrF K mg) W S σ H (g d e) Q → r x y H Q
section
variable {X : Cx} {hx : Hx} {W : WX} {a b c e : Expr} {pos : Pos} {fa fb fc : Sl → Res D}
theorem me_var (i : Nat) {x : Str} (h : PE X (.Name x pos) (tVar i)) : ME X hx W (.Name x pos) (sVar i) := pe_imp h fun σ H Q ⟨b, S, ρ, R, h⟩ => by
  unfold sVar at h
  split at h
  · rename_i d e
    obtain ⟨v, h1, h2⟩ := R.val i d e
    exact ⟨v, h1, h v S H (Gr.refl R.sh) h2⟩
  · exact h.elim
theorem mr_rd (i : Nat) {x : Str} (h : PE X (.Name x pos) (tVar i)) : MR X hx W (.Name x pos) (sRd i) := pe_imp h fun σ H Q ⟨b, S, ρ, R, h⟩ => by
  unfold sRd at h
  split at h
  · rename_i d e
    obtain ⟨v, h1, h2⟩ := R.val i d e
    exact ⟨v, h1, h v S H (Gr.refl R.sh) (Rd1.of R.sh h2)⟩
  · rename_i ds e
    obtain ⟨p, vs, h1, h2, h3, h4, h5⟩ := R.own i ds e
    exact ⟨_, h1, h _ S H (Gr.refl R.sh) ⟨p, vs, rfl, h2, h5⟩⟩
  · exact h.elim
theorem mr_of (h : ME X hx W e fa) : MR X hx W e fa := pe_imp h fun σ H Q ⟨b, S, ρ, R, h⟩ => ⟨b, S, ρ, R, h.wk fun _ _ _ _ g q => Rd1.of g.i q⟩
theorem me_of {ff : Sl → Res (List D)} (h : MF X hx W e ff) : ME X hx W e (sLst ff) := pe_imp h fun σ H Q ⟨b, S, ρ, R, h⟩ => ⟨b, S, ρ, R, h.bind fun d v S' H' g ⟨p, vs, h1, h2, h3, h4, h5⟩ k => by
  subst h1
  have up : Same S' (upd S' p (.lst vs)) := same_new h3
  refine k _ (upd S' p (.lst vs)) H' ⟨g.s.trans up, g.h, fun a o q => ?_, fun a ha q => ?_⟩ (.lst upd_same (h5.up up _ _))
  · by_cases z : a = p
    · subst z; rw [upd_same] at q; cases q; exact h4
    · rw [upd_ne z] at q; exact g.i a o q
  · rw [upd_ne (fun z => ha (by rw [z]; exact h2))]; exact g.n a ha q⟩
theorem mr_f {ff : Sl → Res (List D)} (h : MF X hx W e ff) : MR X hx W e (sLst ff) := mr_of (me_of h)
theorem me_con {v : V} {d : D} (h : PE X e (tC v)) (r : ∀ S, Rp X.K X.mg S v d) : ME X hx W e (sC d) := pe_imp h fun σ H Q ⟨b, S, ρ, R, h⟩ => h v S H (Gr.refl R.sh) (r S)
theorem me_int {i : Int} {j} : ME X hx W (.Constant (.int i) j pos) (sC (.int i)) := me_con pe_int fun _ => .int i
theorem me_bl {i : Bool} {j} : ME X hx W (.Constant (.bool i) j pos) (sC (.bl i)) := me_con pe_bl fun _ => .bl i
theorem me_non {j} : ME X hx W (.Constant .none j pos) (sC .non) := me_con pe_non fun _ => .non
theorem me_str {x : Str} {j} : ME X hx W (.Constant (.str x) j pos) (sC (.str x)) := me_con pe_str fun _ => .str x
theorem me_un {op : UnaryOp} {r : V → Hp → VK → Prop} {g : D → Res D} (ho : UnR X (unaryOp op) r) (hr : U1 X.K X.mg r g) (ha : MR X hx W a fa) : ME X hx W (.UnaryOp op a pos) (sUn g fa) :=
  pe_imp (pe_un ho ha) fun σ H Q ⟨b, S, ρ, R, h⟩ => ⟨b, S, ρ, R, h.bind fun d v S1 H1 g1 r1 k => hr S1 σ H1 v d W Q g1.i r1 (k.upE g1)⟩
theorem op_seq {f h : Sl → Res D} {g : D → D → Res D} {r : R2} (hr : O2 X.K X.mg r g) : ∀ σ H Q, tG X.K X.mg hx (rrE X.K X.mg) W (sOp g f h) σ H Q → tOp r (tG X.K X.mg hx (rrR X.K X.mg) W f) (tG X.K X.mg hx (rrR X.K X.mg) W h) σ H Q := fun σ H Q ⟨b, S, ρ, R, q⟩ =>
  ⟨b, S, ρ, R, q.bind fun d v S1 H1 g1 r1 k => ⟨b, S1, ρ, R.grow g1, (k.upE g1).bind fun d2 v2 S2 H2 g2 r2 k2 => hr S2 σ H2 v v2 d d2 W Q g2.i (r1.up g2) r2 (k2.upE g2)⟩⟩
theorem me_op {op : Operator} {r : R2} {g : D → D → Res D} (ho : OpR X (binaryOp op) r) (hr : O2 X.K X.mg r g) (ha : MR X hx W a fa) (hb : MR X hx W b fb) : ME X hx W (.BinOp a op b pos) (sOp g fa fb) := pe_imp (pe_op ho ha hb) (op_seq hr)
theorem me_cmp {op : CmpOp} {r : R2} {g : D → D → Res D} (ho : OpR X (compareOp op) r) (hr : O2 X.K X.mg r g) (ha : MR X hx W a fa) (hb : MR X hx W b fb) (hm : behindInMarks op b = false) : ME X hx W (.Compare a [op] [b] pos) (sOp g fa fb) := pe_imp (pe_cmpR ho ha hb hm) (op_seq hr)
theorem me_ix {r : R2} {g : D → D → Res D} (hi : IxR X r) (hr : O2 X.K X.mg r g) (ha : MR X hx W a fa) (hb : MR X hx W b fb) (hs : PlainIx b) : ME X hx W (.Subscript a b pos) (sOp g fa fb) := pe_imp (pe_ix hi ha hb hs) (op_seq hr)
theorem opF_seq {f h : Sl → Res D} {g : D → D → Res (List D)} {r : R2} (hr : O2F X.K X.mg r g) : ∀ σ H Q, tG X.K X.mg hx (rrF X.K X.mg) W (fOp g f h) σ H Q → tOp r (tG X.K X.mg hx (rrR X.K X.mg) W f) (tG X.K X.mg hx (rrR X.K X.mg) W h) σ H Q := fun σ H Q ⟨b, S, ρ, R, q⟩ =>
  ⟨b, S, ρ, R, q.bind fun d v S1 H1 g1 r1 k => ⟨b, S1, ρ, R.grow g1, (k.upF g1).bind fun d2 v2 S2 H2 g2 r2 k2 => hr S2 σ H2 v v2 d d2 W Q g2.i (r1.up g2) r2 (k2.upF g2)⟩⟩
theorem mf_op {op : Operator} {r : R2} {g : D → D → Res (List D)} (ho : OpR X (binaryOp op) r) (hr : O2F X.K X.mg r g) (ha : MR X hx W a fa) (hb : MR X hx W b fb) : MF X hx W (.BinOp a op b pos) (fOp g fa fb) := pe_imp (pe_op ho ha hb) (opF_seq hr)
theorem ma_nil : MA X hx W [] aNil := pa_imp pa_nil fun σ H Q ⟨b, S, ρ, R, q⟩ => q [] S H (Gr.refl R.sh) .nil
theorem ma_cons {es : List Expr} {fs : Sl → Res (List D)} (ha : ME X hx W e fa) (hr : MA X hx W es fs) (hs : starEach (e :: es) X.env = (false, eval e X.env) :: starEach es X.env := by rfl) : MA X hx W (e :: es) (aCons fa fs) :=
  pa_imp (pa_cons ha hr hs) fun σ H Q ⟨b, S, ρ, R, q⟩ => ⟨b, S, ρ, R, q.bind fun d v S1 H1 g1 r1 k => ⟨b, S1, ρ, R.grow g1, (k.upA g1).bind fun d2 v2 S2 H2 g2 r2 k2 => k2 _ S2 H2 g2 (.cons (r1.up g2.s d v) r2)⟩⟩
theorem sizeLine16 {n : Nat} (h : n ≤ 16777216) : n ≤ sizeLine := by rw [sizeLine_eq]; exact h
theorem me_tup {es : List Expr} {fs : Sl → Res (List D)} {x1} (h : MA X hx W es fs) : ME X hx W (.Tuple es x1 pos) (sTup fs) :=
  pe_imp (pe_tup h) fun σ H Q ⟨b, S, ρ, R, q⟩ => ⟨b, S, ρ, R, q.bind fun d v S1 H1 g1 r1 k => by
    split at k
    · rename_i hl
      refine ⟨sizeLine16 (by rw [r1.len]; exact hl), fun p hp => ?_⟩
      refine k _ _ _ (g1.trans (Gr.new g1.i hp)) (.tup (SqT.of upd_same) (r1.up (same_new (same_none g1.i hp)) _ _))
    · exact k.elim⟩
theorem mf_lst {es : List Expr} {fs : Sl → Res (List D)} {x1} (h : MA X hx W es fs) : MF X hx W (.List es x1) (fLst fs) :=
  pe_imp (pe_lst h) fun σ H Q ⟨b, S, ρ, R, q⟩ => ⟨b, S, ρ, R, q.bind fun d v S1 H1 g1 r1 k => by
    split at k
    · rename_i hl
      refine ⟨sizeLine16 (by rw [r1.len]; exact hl), fun p hp => ?_⟩
      refine k _ S1 _ (g1.trans (Gr.lay g1.i hp)) ⟨p, v, rfl, same_none g1.h hp, same_none g1.i hp, upd_same, r1⟩
    · exact k.elim⟩

/-! ### tests -/
theorem mt_val (h : ME X hx W e fa) (he : ∀ whole, isTrue e X.env whole = (do let v ← whole; standAt e.pos; holding [v] (truthy v)) := by intro _; rfl) : MT X hx W e (sTest fa) :=
  pt_imp (pt_val h he) fun σ H Q ⟨b, S, ρ, R, q⟩ => ⟨b, S, ρ, R, q.bind fun d v S1 H1 g1 r1 k => by
    cases r1 <;> first | exact k.elim | skip
    rename_i c
    exact ⟨c, rfl, k c S1 H1 g1 rfl⟩⟩
theorem mt_cmp {op : CmpOp} {r : R2} {g : D → D → Res D} (ho : OpR X (compareOp op) r) (hr : O2 X.K X.mg r g) (ha : MR X hx W a fa) (hb : MR X hx W b fb) (hm : behindInMarks op b = false) : MT X hx W (.Compare a [op] [b] pos) (sTest (sOp g fa fb)) :=
  pt_imp (pt_cmpR ho ha hb hm) fun σ H Q ⟨b, S, ρ, R, q⟩ => op_seq hr σ H _ ⟨b, S, ρ, R, q.bind fun d v S1 H1 g1 r1 k => by
    cases r1 <;> first | exact k.elim | skip
    rename_i c
    exact ⟨c, rfl, k c S1 H1 g1 rfl⟩⟩
theorem mt_not {t : Sl → Res Bool} (h : MT X hx W a t) : MT X hx W (.UnaryOp .Not a pos) (tNot t) :=
  pt_imp (pt_not h) fun σ H Q ⟨b, S, ρ, R, q⟩ => ⟨b, S, ρ, R, q.bind fun d v S1 H1 g1 r1 k => by
    cases r1
    exact k _ S1 H1 g1 rfl⟩
theorem mw_and1 {t : Sl → Res Bool} (h : MT X hx W a t) : MW X hx W (.BoolOp .And [a] pos) t := pw_and1 h
theorem mw_or1 {t : Sl → Res Bool} (h : MT X hx W a t) : MW X hx W (.BoolOp .Or [a] pos) t := pw_or1 h
theorem mw_and {t u : Sl → Res Bool} {rest : List Expr} (ha : MT X hx W a t) (hb : MW X hx W (.BoolOp .And (b :: rest) pos) u) : MW X hx W (.BoolOp .And (a :: b :: rest) pos) (tAnd t u) :=
  pw_imp (pw_and ha hb) fun σ H Q ⟨b, S, ρ, R, q⟩ => ⟨b, S, ρ, R, q.bind fun d v S1 H1 g1 r1 k => by
    cases r1
    cases d with
    | true => exact iteT ⟨b, S1, ρ, R.grow g1, Po.upT g1 k⟩
    | false => exact iteF (k _ S1 H1 g1 rfl)⟩
theorem mw_or {t u : Sl → Res Bool} {rest : List Expr} (ha : MT X hx W a t) (hb : MW X hx W (.BoolOp .Or (b :: rest) pos) u) : MW X hx W (.BoolOp .Or (a :: b :: rest) pos) (tOr t u) :=
  pw_imp (pw_or ha hb) fun σ H Q ⟨b, S, ρ, R, q⟩ => ⟨b, S, ρ, R, q.bind fun d v S1 H1 g1 r1 k => by
    cases r1
    cases d with
    | true => exact iteT (k _ S1 H1 g1 rfl)
    | false => exact iteF ⟨b, S1, ρ, R.grow g1, Po.upT g1 k⟩⟩
theorem me_and {rest : List Expr} (ha : ME X hx W a fa) (hb : ME X hx W (.BoolOp .And (b :: rest) pos) fb) : ME X hx W (.BoolOp .And (a :: b :: rest) pos) (sAnd fa fb) :=
  pe_imp (pe_and ha hb) fun σ H Q ⟨b, S, ρ, R, q⟩ => ⟨b, S, ρ, R, q.bind fun d v S1 H1 g1 r1 k => by
    cases r1 <;> first | exact k.elim | skip
    rename_i c
    refine ⟨c, rfl, ?_⟩
    cases c with
    | true => exact iteT ⟨b, S1, ρ, R.grow g1, Po.upE g1 k⟩
    | false => exact iteF (k _ S1 H1 g1 (.bl false))⟩
theorem me_or {rest : List Expr} (ha : ME X hx W a fa) (hb : ME X hx W (.BoolOp .Or (b :: rest) pos) fb) : ME X hx W (.BoolOp .Or (a :: b :: rest) pos) (sOr fa fb) :=
  pe_imp (pe_or ha hb) fun σ H Q ⟨b, S, ρ, R, q⟩ => ⟨b, S, ρ, R, q.bind fun d v S1 H1 g1 r1 k => by
    cases r1 <;> first | exact k.elim | skip
    rename_i c
    refine ⟨c, rfl, ?_⟩
    cases c with
    | true => exact iteT (k _ S1 H1 g1 (.bl true))
    | false => exact iteF ⟨b, S1, ρ, R.grow g1, Po.upE g1 k⟩⟩
theorem me_not (h : ME X hx W a fa) : ME X hx W (.UnaryOp .Not a pos) (sNot fa) :=
  pe_imp (pe_not h) fun σ H Q ⟨b, S, ρ, R, q⟩ => ⟨b, S, ρ, R, q.bind fun d v S1 H1 g1 r1 k => by
    cases r1 <;> first | exact k.elim | skip
    rename_i c
    exact ⟨c, rfl, k _ S1 H1 g1 (.bl _)⟩⟩
theorem me_ite {t : Sl → Res Bool} (hc : MT X hx W c t) (ha : ME X hx W a fa) (hb : ME X hx W b fb) : ME X hx W (.IfExp c a b pos) (sIte t fa fb) :=
  pe_imp (pe_ifExp hc ha hb) fun σ H Q ⟨b, S, ρ, R, q⟩ => ⟨b, S, ρ, R, q.bind fun d v S1 H1 g1 r1 k => by
    cases r1
    cases d with
    | true => exact iteT ⟨b, S1, ρ, R.grow g1, Po.upE g1 k⟩
    | false => exact iteF ⟨b, S1, ρ, R.grow g1, Po.upE g1 k⟩⟩
/-- the truth of a value -/
@[simp] def gTru (d : D) : Res Bool := match d with
  | .non => .ok false
  | .bl b => .ok b
  | .int i => .ok (i != 0)
  | .str x => if x.length ≤ 16777216 then .ok ((x.length : Int) != 0) else .bad
  | .lst ds => .ok (!ds.isEmpty)
  | .rol ds => .ok (!ds.isEmpty)
  | .tup ds => .ok (!ds.isEmpty)
  | .obj _ _ _ => .bad
  | .fr _ => .bad
  | .raw _ => .bad
@[simp] def tTru (f : Sl → Res D) (ρ : Sl) : Res Bool := (f ρ).bind gTru
theorem RpA.emp {K : Frg} {mg : Mg} {H : Hp} {vs : List V} {ds : List D} (h : RpA K mg H vs ds) : vs.isEmpty = ds.isEmpty := by cases h <;> rfl
theorem mt_tru (h : MR X hx W e fa) (he : ∀ whole, isTrue e X.env whole = (do let v ← whole; standAt e.pos; holding [v] (truthy v)) := by intro _; rfl) : MT X hx W e (tTru fa) :=
  pt_imp (pt_truth h he) fun σ H Q ⟨b, S, ρ, R, q⟩ => ⟨b, S, ρ, R, q.bind fun d v S1 H1 g1 r1 k => by
    cases d with
    | non => cases r1; exact ⟨_, rfl, k _ S1 H1 g1 rfl⟩
    | bl _ => cases r1; exact ⟨_, rfl, k _ S1 H1 g1 rfl⟩
    | int _ => cases r1; exact ⟨_, rfl, k _ S1 H1 g1 rfl⟩
    | str x =>
      cases r1
      simp only [gTru] at k
      split at k
      · rename_i hl
        exact ⟨_, ⟨sizeLine16 hl, rfl⟩, k _ S1 H1 g1 rfl⟩
      · exact k.elim
    | lst ds =>
      obtain ⟨p, vs, rfl, h2, h3⟩ := r1
      exact ⟨_, .inl ⟨vs, SqL.of h2, rfl⟩, k _ S1 H1 g1 (by rw [h3.emp])⟩
    | rol ds =>
      cases r1 with
      | rol h2 h3 => exact ⟨_, .inl ⟨_, same_l g1.i h2, rfl⟩, k _ S1 H1 g1 (by rw [h3.emp])⟩
    | tup ds =>
      cases r1 with
      | tup h2 h3 => exact ⟨_, .inr (.inl ⟨_, same_t g1.i h2, rfl⟩), k _ S1 H1 g1 (by rw [h3.emp])⟩
    | obj _ _ _ => exact k.elim
    | fr _ => exact k.elim
    | raw _ => exact k.elim⟩
/-- a < b < c -/
def sChain (g h : D → D → Res D) (fa fb fc : Sl → Res D) (ρ : Sl) : Res D := (fa ρ).bind fun x => (fb ρ).bind fun y => (g x y).bind fun z => (tBl z).bind fun b => if b then (fc ρ).bind fun w => h y w else .ok (.bl false)
end
end PF

set_option Elab.async false
set_option linter.all false
set_option maxRecDepth 100000
set_option maxHeartbeats 4000000
namespace PF
open PySem PySem.Spec L2

/-! ### statements -/
inductive Out where
  | nx (ρ : Sl) | ret (d : D) | bk (ρ : Sl) | ct (ρ : Sl) | exc (x : Str) (fs : List (Str × D)) (ρ : Sl) | bad
structure Bok (b : Bs) (S H : Hp) : Prop where
  s0 : Same b.S0 S
  sh : Same S H
  h0 : Same b.H0 H
  nw : ∀ a, b.H0 a ≠ none → b.S0 a = none → S a = none
theorem Rel.bok {K : Frg} {mg : Mg} {hx : Hx} {b : Bs} {S H : Hp} {ρ : Sl} {σ : L2.St} (R : Rel K mg hx b S ρ σ H) : Bok b S H := ⟨R.s0, R.sh, R.h0, R.nw⟩
def PoS (K : Frg) (mg : Mg) (hx : Hx) (W : WX) (b : Bs) (S : Hp) (o : Out) (D : Ends) : Prop := match o with
  | .nx ρ => ∀ S' σ H, Same S S' → Rel K mg hx b S' ρ σ H → D.nx σ H
  | .ret d => ∀ S' H v, Bok b S' H → rrX K mg b.H0 S' H v d → D.rt v H
  | .bk ρ => ∀ S' σ H, Same S S' → Rel K mg hx b S' ρ σ H → D.bk σ H
  | .ct ρ => ∀ S' σ H, Same S S' → Rel K mg hx b S' ρ σ H → D.ct σ H
  | .exc x fs ρ => ∀ S' σ H C dx, Same S S' → Rel K mg hx b S' ρ σ H → mg x = some (.ref C) → Xd K mg S' H dx fs → W (.ref C) dx σ H
  | .bad => False
def tS (K : Frg) (mg : Mg) (hx : Hx) (W : WX) (g : Sl → Out) : TS := fun D σ H => ∃ b S ρ, Rel K mg hx b S ρ σ H ∧ PoS K mg hx W b S (g ρ) D
abbrev MS (X : Cx) (hx : Hx) (W : WX) (st : Stmt) (g : Sl → Out) : Prop := PS X st (tS X.K X.mg hx W g)
abbrev MSs (X : Cx) (hx : Hx) (W : WX) (st : List Stmt) (g : Sl → Out) : Prop := PSs X st (tS X.K X.mg hx W g)
theorem PoS.up {K : Frg} {mg : Mg} {hx : Hx} {W : WX} {b : Bs} {S S1 : Hp} {o : Out} {D : Ends} (e : Same S S1) (h : PoS K mg hx W b S o D) : PoS K mg hx W b S1 o D := by
  cases o with
  | nx ρ => exact fun S' σ H q => h S' σ H (e.trans q)
  | ret d => exact h
  | bk ρ => exact fun S' σ H q => h S' σ H (e.trans q)
  | ct ρ => exact fun S' σ H q => h S' σ H (e.trans q)
  | exc x fs ρ => exact fun S' σ H C dx q => h S' σ H C dx (e.trans q)
  | bad => exact h
/-- an expression's result, then k -/
def rS {α : Type} (r : Res α) (ρ : Sl) (k : α → Out) : Out := match r with
  | .ok a => k a
  | .exc x fs => .exc x fs ρ
  | .bad => .bad
@[simp] theorem rS_ok {α : Type} (a : α) (ρ : Sl) (k : α → Out) : rS (.ok a) ρ k = k a := rfl
@[simp] theorem rS_exc {α : Type} (x : Str) (fs) (ρ : Sl) (k : α → Out) : rS (.exc x fs) ρ k = .exc x fs ρ := rfl
@[simp] theorem rS_bad {α : Type} (ρ : Sl) (k : α → Out) : rS .bad ρ k = .bad := rfl
theorem rS_po {α β : Type} {K : Frg} {mg : Mg} {hx : Hx} {RX : RR α β} {W : WX} {b : Bs} {S H : Hp} {ρ : Sl} {σ : L2.St} {r : Res β} {k : β → Out} {D : Ends} {Q : α → Hp → Prop} (R : Rel K mg hx b S ρ σ H) (h : PoS K mg hx W b S (rS r ρ k) D)
    (n : ∀ d v S' H', Gr S H S' H' → RX H S' H' v d → PoS K mg hx W b S (k d) D → Q v H') : Po K mg RX W S σ H r Q := by
  cases r with
  | ok d => exact fun v S' H' g q => n d v S' H' g q h
  | exc x fs => exact fun S' H' C dx g q1 q2 => h S' σ H' C dx g.s (R.grow g) q1 q2
  | bad => exact h
@[simp] def gSeq (g h : Sl → Out) (ρ : Sl) : Out := match g ρ with
  | .nx ρ' => h ρ'
  | o => o
@[simp] def gNil (ρ : Sl) : Out := .nx ρ
@[simp] def gIf (t : Sl → Res Bool) (g h : Sl → Out) (ρ : Sl) : Out := rS (t ρ) ρ fun b => if b then g ρ else h ρ
@[simp] def gRet (f : Sl → Res D) (ρ : Sl) : Out := rS (f ρ) ρ .ret
@[simp] def gRetN (_ : Sl) : Out := .ret .non
@[simp] def gBk (ρ : Sl) : Out := .bk ρ
@[simp] def gCt (ρ : Sl) : Out := .ct ρ
@[simp] def gDrop (f : Sl → Res D) (ρ : Sl) : Out := rS (f ρ) ρ fun _ => .nx ρ
/-- i = f -/
@[simp] def gSet (i : Nat) (f : Sl → Res D) (ρ : Sl) : Out := rS (f ρ) ρ fun d => .nx (ρ.set i (.v d))
/-- i = f, a new list that i alone holds -/
@[simp] def gSetO (i : Nat) (f : Sl → Res (List D)) (ρ : Sl) : Out := rS (f ρ) ρ fun d => .nx (ρ.set i (.o d))
/-- the list of slot i is shared from here on (no statement of the text) -/
@[simp] def gFrz (i : Nat) (g : Sl → Out) (ρ : Sl) : Out := match ρ[i]? with
  | some (.o ds) => g (ρ.set i (.v (.lst ds)))
  | some (.v _) => g ρ
  | _ => .bad
section
variable {X : Cx} {hx : Hx} {W : WX} {st : Stmt} {rest body : List Stmt} {g h : Sl → Out} {e c : Expr} {f : Sl → Res D} {pos : Pos}
theorem ms_nil : MSs X hx W [] gNil := pss_imp pss_nil fun D σ H ⟨b, S, ρ, R, q⟩ => q S σ H (Same.refl _) R
theorem ms_pass : MS X hx W (.Pass pos) gNil := ps_imp ps_pass fun D σ H ⟨b, S, ρ, R, q⟩ => q S σ H (Same.refl _) R
theorem ms_bk : MS X hx W (.Break pos) gBk := ps_imp ps_break fun D σ H ⟨b, S, ρ, R, q⟩ => q S σ H (Same.refl _) R
theorem ms_ct : MS X hx W (.Continue pos) gCt := ps_imp ps_continue fun D σ H ⟨b, S, ρ, R, q⟩ => q S σ H (Same.refl _) R
theorem ms_cons (h1 : MS X hx W st g) (h2 : MSs X hx W rest h) : MSs X hx W (st :: rest) (gSeq g h) := pss_imp (pss_cons h1 h2) fun D σ H ⟨b, S, ρ, R, q⟩ => by
  refine ⟨b, S, ρ, R, ?_⟩
  unfold gSeq at q
  cases e : g ρ with
  | nx ρ' => rw [e] at q; exact fun S' σ' H' s1 R' => ⟨b, S', ρ', R', PoS.up s1 q⟩
  | ret d => rw [e] at q; exact q
  | bk ρ' => rw [e] at q; exact q
  | ct ρ' => rw [e] at q; exact q
  | exc x fs ρ' => rw [e] at q; exact q
  | bad => rw [e] at q; exact q
theorem ms_one (h1 : MS X hx W st g) : MSs X hx W [st] g := pss_one h1
theorem ms_frz (i : Nat) (h1 : MSs X hx W rest g) : MSs X hx W rest (gFrz i g) := pss_imp h1 fun D σ H ⟨b, S, ρ, R, q⟩ => by
  unfold gFrz at q
  split at q
  · rename_i ds e
    obtain ⟨S', s1, R'⟩ := R.freeze e
    exact ⟨b, S', _, R', PoS.up s1 q⟩
  · exact ⟨b, S, ρ, R, q⟩
  · exact q.elim
theorem ms_if {t : Sl → Res Bool} {a1 a2 : List Stmt} (hc : MT X hx W c t) (h1 : MSs X hx W a1 g) (h2 : MSs X hx W a2 h) : MS X hx W (.If c a1 a2 pos) (gIf t g h) := ps_imp (ps_if hc h1 h2) fun D σ H ⟨b, S, ρ, R, q⟩ =>
  ⟨b, S, ρ, R, rS_po R q fun d v S1 H1 g1 r1 k => by
    cases r1
    cases d with
    | true => exact iteT ⟨b, S1, ρ, R.grow g1, PoS.up g1.s k⟩
    | false => exact iteF ⟨b, S1, ρ, R.grow g1, PoS.up g1.s k⟩⟩
theorem ms_ret (he : ME X hx W e f) : MS X hx W (.Return (some e) pos) (gRet f) := ps_imp (ps_ret he) fun D σ H ⟨b, S, ρ, R, q⟩ =>
  ⟨b, S, ρ, R, rS_po R q fun d v S1 H1 g1 r1 k => k S1 H1 v (R.grow g1).bok (.inl r1)⟩
/-- return x, x a list that this slot alone holds; return of a new list -/
@[simp] def gRetO (i : Nat) (ρ : Sl) : Out := match ρ[i]? with
  | some (.o ds) => .ret (.fr ds)
  | some (.v d) => .ret d
  | _ => .bad
theorem ms_retO (i : Nat) {x : Str} {p : Pos} (hv : PE X (.Name x p) (tVar i)) : MS X hx W (.Return (some (.Name x p)) pos) (gRetO i) := ps_imp (ps_ret hv) fun D σ H ⟨b, S, ρ, R, q⟩ => by
  unfold gRetO at q
  split at q
  · rename_i ds e1
    obtain ⟨p, vs, h1, h2, h3, h4, h5⟩ := R.own i ds e1
    exact ⟨_, h1, q S H _ R.bok (.inr ⟨ds, rfl, p, vs, rfl, h4, h3, h2, h5⟩)⟩
  · rename_i d e1
    obtain ⟨v, h1, h2⟩ := R.val i d e1
    exact ⟨v, h1, q S H v R.bok (.inl h2)⟩
  · exact q.elim
@[simp] def gRetF (ff : Sl → Res (List D)) (ρ : Sl) : Out := rS (ff ρ) ρ fun ds => .ret (.fr ds)
theorem ms_retF {ff : Sl → Res (List D)} (he : MF X hx W e ff) : MS X hx W (.Return (some e) pos) (gRetF ff) := ps_imp (ps_ret he) fun D σ H ⟨b, S, ρ, R, q⟩ =>
  ⟨b, S, ρ, R, rS_po R q fun d v S1 H1 g1 ⟨p, vs, h1, h2, h3, h4, h5⟩ k => k S1 H1 v (R.grow g1).bok (.inr ⟨d, rfl, p, vs, h1, same_none R.h0 h2, h3, h4, h5⟩)⟩
theorem ms_retN : MS X hx W (.Return none pos) gRetN := ps_imp ps_retN fun D σ H ⟨b, S, ρ, R, q⟩ => q S H .non R.bok (.inl .non)
theorem ms_drop (he : MR X hx W e f) (hs : swapsWith e none pos.line X.env = pure false := by rfl) : MS X hx W (.Expr e pos) (gDrop f) := ps_imp (ps_expr he hs) fun D σ H ⟨b, S, ρ, R, q⟩ =>
  ⟨b, S, ρ, R, rS_po R q fun d v S1 H1 g1 r1 k => k S1 σ H1 g1.s (R.grow g1)⟩
theorem ms_doc {x j pos'} : MS X hx W (.Expr (.Constant (.str x) j pos) pos') gNil := ps_imp ps_doc fun D σ H ⟨b, S, ρ, R, q⟩ => q S σ H (Same.refl _) R
theorem ms_set (i : Nat) {x : Str} {pos' : Pos} (hN : X.N.Nodup) (he : ME X hx W e f) (hi : X.N[i]? = some x := by rfl) (hl : Loc X.env.scope x := by first | exact Or.inl rfl | exact Or.inr rfl) (hs : swapsWith e (some (.Name x pos')) pos.line X.env = pure false := by rfl) (hf : X.fn x = true ∨ X.env.scope.names.lookup x = some .local := by first | exact .inl rfl | exact .inr rfl | assumption) :
    MS X hx W (.Assign [.Name x pos'] e pos) (gSet i f) := ps_imp (ps_set hN hi hl he hs hf) fun D σ H ⟨b, S, ρ, R, q⟩ =>
  ⟨b, S, ρ, R, rS_po R q fun d v S1 H1 g1 r1 k => k S1 _ H1 g1.s ((R.grow g1).put r1)⟩
theorem Rel.putN {K : Frg} {mg : Mg} {hx : Hx} {b : Bs} {S H S1 H1 : Hp} {ρ : Sl} {σ : L2.St} (R : Rel K mg hx b S ρ σ H) (g1 : Gr S H S1 H1) {i : Nat} {p : Addr} {vs : List V} {ds : List D} (h2 : H p = none) (h3 : S1 p = none) (h4 : H1 p = some (.lst vs)) (h5 : RpA K mg S1 vs ds) : Rel K mg hx b S1 (ρ.set i (.o ds)) (σ.set i (some (.ref p))) H1 :=
  (R.grow g1).putO h4 h3 (same_none R.h0 h2) (fun j es e1 e2 => by
    obtain ⟨p', vs', q1, q2, _⟩ := R.own j es e1
    rw [e2] at q1
    cases q1
    rw [h2] at q2
    cases q2) h5
theorem ms_setO (i : Nat) {ff : Sl → Res (List D)} {x : Str} {pos' : Pos} (hN : X.N.Nodup) (he : MF X hx W e ff) (hi : X.N[i]? = some x := by rfl) (hl : Loc X.env.scope x := by first | exact Or.inl rfl | exact Or.inr rfl) (hs : swapsWith e (some (.Name x pos')) pos.line X.env = pure false := by rfl) (hf : X.fn x = true ∨ X.env.scope.names.lookup x = some .local := by first | exact .inl rfl | exact .inr rfl | assumption) :
    MS X hx W (.Assign [.Name x pos'] e pos) (gSetO i ff) := ps_imp (ps_set hN hi hl he hs hf) fun D σ H ⟨b, S, ρ, R, q⟩ =>
  ⟨b, S, ρ, R, rS_po R q fun d v S1 H1 g1 ⟨p, vs, h1, h2, h3, h4, h5⟩ k => by
    subst h1
    exact k S1 _ H1 g1.s (R.putN g1 h2 h3 h4 h5)⟩
end

/-! ### targets -/
abbrev FG := D → Sl → Option Sl
def AgreeOff (is : List Nat) (σ σ' : L2.St) : Prop := σ'.length = σ.length ∧ ∀ i, i ∉ is → σ'[i]? = σ[i]?
def gG (K : Frg) (mg : Mg) (hx : Hx) (is : List Nat) (g : FG) : TG := fun v σ H Q => ∃ b S ρ d, Rel K mg hx b S ρ σ H ∧ Rp K mg S v d ∧ match g d ρ with
  | some ρ' => ∀ σ', Rel K mg hx b S ρ' σ' H → AgreeOff is σ σ' → Q σ' H
  | _ => False
abbrev MG (X : Cx) (hx : Hx) (tg : Expr) (is : List Nat) (g : FG) : Prop := PG X tg (gG X.K X.mg hx is g)
@[simp] def gName (i : Nat) : FG := fun d ρ => some (ρ.set i (.v d))
/-- a tuple's targets, from the left -/
abbrev FGs := List D → Sl → Option Sl
def gGs (K : Frg) (mg : Mg) (hx : Hx) (is : List Nat) (g : FGs) : TGs := fun vs σ H Q => ∃ b S ρ ds, Rel K mg hx b S ρ σ H ∧ RpA K mg S vs ds ∧ match g ds ρ with
  | some ρ' => ∀ σ', Rel K mg hx b S ρ' σ' H → AgreeOff is σ σ' → Q σ' H
  | _ => False
abbrev MGs (X : Cx) (hx : Hx) (tg : List Expr) (is : List Nat) (g : FGs) : Prop := PGs X tg (gGs X.K X.mg hx is g)
@[simp] def gsNil : FGs := fun ds ρ => match ds with
  | [] => some ρ
  | _ => none
@[simp] def gsCons (g : FG) (h : FGs) : FGs := fun ds ρ => match ds with
  | d :: r => (g d ρ).bind fun ρ1 => h r ρ1
  | _ => none
@[simp] def gTup (n : Nat) (h : FGs) : FG := fun d ρ => match d with
  | .tup ds => if ds.length = n then h ds ρ else none
  | _ => none
section
variable {X : Cx} {hx : Hx} {pos : Pos}
theorem agree_set {i : Nat} {σ : L2.St} {v : Option V} : AgreeOff [i] σ (σ.set i v) := ⟨by simp, fun j h => by rw [List.getElem?_set_ne (by simpa [eq_comm] using h)]⟩
theorem agree_trans {is js : List Nat} {a b c : L2.St} (h : AgreeOff is a b) (k : AgreeOff js b c) : AgreeOff (is ++ js) a c := ⟨k.1.trans h.1, fun i hi => by
  simp only [List.mem_append, not_or] at hi
  exact (k.2 i hi.2).trans (h.2 i hi.1)⟩
theorem mg_name (i : Nat) {x : Str} (hN : X.N.Nodup) (hi : X.N[i]? = some x := by rfl) (hl : Loc X.env.scope x := by first | exact Or.inl rfl | exact Or.inr rfl) (hf : X.fn x = true ∨ X.env.scope.names.lookup x = some .local := by first | exact .inl rfl | exact .inr rfl | assumption) : MG X hx (.Name x pos) [i] (gName i) :=
  pg_imp (pg_name hN hi hl hf) fun v σ H Q ⟨b, S, ρ, d, R, r, q⟩ => q _ (R.put r) agree_set
theorem pgs_imp {X : Cx} {es : List Expr} {t t' : TGs} (h : PGs X es t) (i : ∀ vs σ H Q, t' vs σ H Q → t vs σ H Q) : PGs X es t' := ⟨fun pins s σ H v u Q I r q => h.run pins s σ H v u Q I r (i v σ H Q q)⟩
theorem mgs_nil : MGs X hx [] [] gsNil := pgs_imp pgs_nil fun vs σ H Q ⟨b, S, ρ, ds, R, r, q⟩ => by
  cases r with
  | nil => exact ⟨rfl, q σ R ⟨rfl, fun _ _ => rfl⟩⟩
  | cons _ _ => exact q.elim
theorem mgs_cons {e : Expr} {es : List Expr} {is js : List Nat} {g : FG} {h : FGs} (h1 : MG X hx e is g) (h2 : MGs X hx es js h) (hs : (assignEach (e :: es) X.env).map (·.2) = assign e X.env :: (assignEach es X.env).map (·.2) := by rfl) : MGs X hx (e :: es) (is ++ js) (gsCons g h) :=
  pgs_imp (pgs_cons h1 h2 hs) fun vs σ H Q ⟨b, S, ρ, ds, R, r, q⟩ => by
    cases r with
    | nil => exact q.elim
    | @cons v vs d ds r1 r2 =>
      refine ⟨v, vs, rfl, b, S, ρ, d, R, r1, ?_⟩
      simp only [gsCons] at q
      cases e : g d ρ with
      | some ρ1 =>
        rw [e] at q
        exact fun σ1 R1 a1 => ⟨b, S, ρ1, ds, R1, r2, by
          simp only [Option.bind_some] at q
          split at q
          · exact fun σ2 R2 a2 => q σ2 R2 (agree_trans a1 a2)
          · exact q.elim⟩
      | none => rw [e] at q; exact q.elim
theorem mg_tup {es : List Expr} {k : Nat} {is : List Nat} {t : FGs} {n : Nat} (hc : X.calm = true) (h : MGs X hx es is t) (hn : (assignEach es X.env).length = n := by rfl) (hst : (assignEach es X.env).findIdx? (·.1) = none := by rfl) : MG X hx (.Tuple es k pos) is (gTup n t) :=
  pg_imp (pg_tup hc h hn hst) fun v σ H Q ⟨b, S, ρ, d, R, r, q⟩ => by
    cases r with
    | @tup a xs ds h1 h2 =>
      by_cases hl : ds.length = n
      · have e : gTup n t (.tup ds) ρ = t ds ρ := if_pos hl
        rw [e] at q
        exact ⟨a, xs, rfl, same_t R.sh h1, by rw [h2.len]; exact hl, b, S, ρ, ds, R, h2, q⟩
      · have e : gTup n t (.tup ds) ρ = none := if_neg hl
        rw [e] at q
        exact q.elim
    | _ => exact q.elim
/-- a, b = e -/
@[simp] def gAsg (g : FG) (f : Sl → Res D) (ρ : Sl) : Out := rS (f ρ) ρ fun d => match g d ρ with
  | some ρ' => .nx ρ'
  | none => .bad
theorem ms_asg {W : WX} {tg e : Expr} {is : List Nat} {g : FG} {f : Sl → Res D} (he : ME X hx W e f) (hg : MG X hx tg is g) (hs : swapsWithSole [tg] e pos.line X.env = pure false := by rfl) (hw : swappedStores [tg] e X.env = pure none := by rfl)
    (h1 : (assignEach [tg] X.env).map (·.2) = [assign tg X.env] := by rfl) : MS X hx W (.Assign [tg] e pos) (gAsg g f) := ps_imp (ps_asg he hg hs hw h1) fun D σ H ⟨b, S, ρ, R, q⟩ =>
  ⟨b, S, ρ, R, rS_po R q fun d v S1 H1 g1 r1 k => by
    refine ⟨b, S1, ρ, d, R.grow g1, r1, ?_⟩
    cases e : g d ρ with
    | some ρ' => rw [e] at k; exact fun σ' R' _ => k S1 σ' H1 g1.s R'
    | none => rw [e] at k; exact k⟩
end
end PF

set_option Elab.async false
set_option linter.all false
set_option maxRecDepth 100000
set_option maxHeartbeats 4000000
namespace PF
open PySem PySem.Spec L2

/-! ### lists that a slot alone holds -/
@[simp] def gApp (i : Nat) (f : Sl → Res D) (ρ : Sl) : Out := match ρ[i]? with
  | some (.o ds) => rS (f ρ) ρ fun d => if ds.length < 16777216 then .nx (ρ.set i (.o (ds ++ [d]))) else .bad
  | _ => .bad
@[simp] def gSto (i : Nat) (fi f : Sl → Res D) (ρ : Sl) : Out := match ρ[i]? with
  | some (.o ds) => rS (f ρ) ρ fun d => rS (fi ρ) ρ fun k => match k with
    | .int n => match ixN ds.length n with
      | some j => .nx (ρ.set i (.o (ds.set j d)))
      | none => .bad
    | _ => .bad
  | _ => .bad
@[simp] noncomputable def gPopAt (j i : Nat) (f : Sl → Res D) (ρ : Sl) : Out := match ρ[i]? with
  | some (.o ds) => rS (f ρ) ρ fun k => match k with
    | .int n => if cb (-(2 ^ 63) ≤ n ∧ n < 2 ^ 63) then (match seqIndex? n ds.length with
      | some m => match ds[m]? with
        | some d => .nx ((ρ.set i (.o (ds.eraseIdx m))).set j (.v d))
        | none => .bad
      | none => .bad) else .bad
    | _ => .bad
  | _ => .bad
@[simp] def gAug (i : Nat) (g : D → D → Res D) (f : Sl → Res D) (ρ : Sl) : Out := match ρ[i]? with
  | some (.v x) => rS (f ρ) ρ fun y => rS (g x y) ρ fun z => .nx (ρ.set i (.v z))
  | _ => .bad
theorem size16 {n : Nat} (h : n < 16777216) : n < sizeLine := by rw [sizeLine_eq]; exact h
section
variable {X : Cx} {hx : Hx} {W : WX} {e c o : Expr} {f : Sl → Res D} {pos : Pos}
theorem ms_app (i : Nat) {x : Str} {p ap ep : Pos} (hv : PE X (.Name x p) (tVar i)) (he : ME X hx W e f) (hs : swapsWith (.Call (.Attribute (.Name x p) "append" ap) [e] [] ep) none pos.line X.env = pure false := by rfl)
    (h : ∀ {t}, PE X e t → PE X (.Call (.Attribute (.Name x p) "append" ap) [e] [] ep) (tBM X.K "list" rAppend (tVar i) (tCons t tNil)) := by
      intro t ht; exact pe_bm PySem.F.plainAttrs_list PySem.F.slot_list_append PySem.F.type_list_append mt_append (pv _) (pa_cons ht pa_nil)) :
    MS X hx W (.Expr (.Call (.Attribute (.Name x p) "append" ap) [e] [] ep) pos) (gApp i f) := ps_imp (ps_expr (h he) hs) fun D σ H ⟨b, S, ρ, R, q⟩ => by
  unfold gApp at q
  split at q
  · rename_i ds e1
    obtain ⟨p, vs, h1, h2, h3, h4, h5⟩ := R.own i ds e1
    refine ⟨_, h1, .inl ⟨rfl, _, SqL.of h2⟩, b, S, ρ, R, rS_po R q fun d v S1 H1 g1 r1 k => ?_⟩
    split at k
    · rename_i hl
      refine ⟨p, vs, v, rfl, rfl, g1.h _ _ h2, size16 (by rw [h5.len]; exact hl), ?_⟩
      exact k S1 σ _ g1.s ((R.grow g1).mut e1 h1 ((h5.up g1.s _ _).app (.cons r1 .nil)))
    · exact k.elim
  · exact q.elim
theorem ms_sto (i : Nat) {x : Str} {ix : Expr} {fi : Sl → Res D} {p sp : Pos} (hv : PE X (.Name x p) (tVar i)) (hi : ME X hx W ix fi) (he : ME X hx W e f)
    (ha : ∀ v, assign (.Subscript (.Name x p) ix sp) X.env v = (do
      let ov ← holding [v] (eval (.Name x p) X.env)
      let iv ← holding [v, ov] (eval ix X.env)
      standAt sp
      holding [v, ov, iv] (setItem ov iv v)
      release [v, ov, iv] []) := by intro _; rfl)
    (hs : swapsWithSole [.Subscript (.Name x p) ix sp] e pos.line X.env = pure false := by rfl) (hw : swappedStores [.Subscript (.Name x p) ix sp] e X.env = pure none := by rfl)
    (h1 : (assignEach [.Subscript (.Name x p) ix sp] X.env).map (·.2) = [assign (.Subscript (.Name x p) ix sp) X.env] := by rfl) :
    MS X hx W (.Assign [.Subscript (.Name x p) ix sp] e pos) (gSto i fi f) := ps_imp (ps_asg he (pg_sub hv hi set_list ha) hs hw h1) fun D σ H ⟨b, S, ρ, R, q⟩ => by
  unfold gSto at q
  split at q
  · rename_i ds e1
    obtain ⟨p, vs, h1, h2, h3, h4, h5⟩ := R.own i ds e1
    refine ⟨b, S, ρ, R, rS_po R q fun d v S1 H1 g1 r1 k => ?_⟩
    refine ⟨_, h1, b, S1, ρ, R.grow g1, rS_po (R.grow g1) (PoS.up g1.s k) fun d2 v2 S2 H2 g2 r2 k2 => ?_⟩
    cases d2 with
    | int n =>
      cases r2
      simp only at k2
      split at k2
      · rename_i j hj
        have g := g1.trans g2
        refine ⟨p, vs, n, j, rfl, rfl, g.h _ _ h2, by rw [h5.len]; exact hj, ?_⟩
        exact k2 S2 σ _ g2.s ((R.grow g).mut e1 h1 ((h5.up g.s _ _).set (r1.up g2.s _ _) j))
      · exact k2.elim
    | _ => exact k2.elim
  · exact q.elim
theorem ms_popAt (j i : Nat) {y x : Str} {p py ap ep : Pos} (hN : X.N.Nodup) (hv : PE X (.Name x p) (tVar i)) (he : ME X hx W e f) (hi : X.N[j]? = some y := by rfl) (hl : Loc X.env.scope y := by first | exact Or.inl rfl | exact Or.inr rfl)
    (hs : swapsWith (.Call (.Attribute (.Name x p) "pop" ap) [e] [] ep) (some (.Name y py)) pos.line X.env = pure false := by rfl) (hf : X.fn y = true ∨ X.env.scope.names.lookup y = some .local := by first | exact .inl rfl | exact .inr rfl | assumption)
    (h : ∀ {t}, PE X e t → PE X (.Call (.Attribute (.Name x p) "pop" ap) [e] [] ep) (tBM X.K "list" rPopAt (tVar i) (tCons t tNil)) := by
      intro t ht; exact pe_bm PySem.F.plainAttrs_list PySem.F.slot_list_pop PySem.F.type_list_pop mt_popAt (pv _) (pa_cons ht pa_nil)) :
    MS X hx W (.Assign [.Name y py] (.Call (.Attribute (.Name x p) "pop" ap) [e] [] ep) pos) (gPopAt j i f) := ps_imp (ps_set hN hi hl (h he) hs hf) fun D σ H ⟨b, S, ρ, R, q⟩ => by
  unfold gPopAt at q
  split at q
  · rename_i ds e1
    obtain ⟨p, vs, h1, h2, h3, h4, h5⟩ := R.own i ds e1
    refine ⟨_, h1, .inl ⟨rfl, _, SqL.of h2⟩, b, S, ρ, R, rS_po R q fun d v S1 H1 g1 r1 k => ?_⟩
    cases d with
    | int n =>
      cases r1
      simp only at k
      split at k
      · rename_i hb0
        have hb := of_cb hb0
        split at k
        · rename_i m hm
          split at k
          · rename_i d hd
            obtain ⟨u, hu, ru⟩ := (h5.up g1.s _ _).get hd
            refine ⟨p, vs, n, m, u, rfl, rfl, g1.h _ _ h2, hb.1, hb.2, by rw [h5.len]; exact hm, hu, ?_⟩
            exact k S1 _ _ g1.s (((R.grow g1).mut e1 h1 ((h5.up g1.s _ _).erase m)).put ru)
          · exact k.elim
        · exact k.elim
      · exact k.elim
    | _ => exact k.elim
  · exact q.elim
theorem ms_aug (i : Nat) {x : Str} {op : Operator} {ti : TIp} {g : D → D → Res D} {pos' : Pos} (hN : X.N.Nodup) (ho : PIp X op ti) (hr : O2 X.K X.mg ti g) (he : ME X hx W e f) (hi : X.N[i]? = some x := by rfl) (hl : Loc X.env.scope x := by first | exact Or.inl rfl | exact Or.inr rfl) (hf : X.fn x = true ∨ X.env.scope.names.lookup x = some .local := by first | exact .inl rfl | exact .inr rfl | assumption) :
    MS X hx W (.AugAssign (.Name x pos') op e pos) (gAug i g f) := ps_imp (ps_aug hN hi hl he ho hf) fun D σ H ⟨b, S, ρ, R, q⟩ => by
  unfold gAug at q
  split at q
  · rename_i d e1
    obtain ⟨v, h1, h2⟩ := R.val i d e1
    refine ⟨v, h1, b, S, ρ, R, rS_po R q fun d2 v2 S1 H1 g1 r1 k => ?_⟩
    refine hr S1 σ H1 v v2 d d2 W _ g1.i (Rd1.of g1.i (h2.up g1.s _ _)) (Rd1.of g1.i r1) (rS_po (R.grow g1) (PoS.up g1.s k) fun d3 v3 S3 H3 g3 r3 k3 => ?_)
    exact k3 S3 _ H3 g3.s (((R.grow g1).grow g3).put r3)
  · exact q.elim
end

/-! ### what is walked -/
structure ItD (K : Frg) (mg : Mg) (S1 : Hp) (J : It) (ds : List D) : Prop where
  go : ∀ S H i d, Same S1 S → Same S H → ds[i]? = some d → J.go i H ∧ ∀ x H', J.yld i H x H' → ∃ S', Gr S H S' H' ∧ Rp K mg S' x d
  stop : ∀ S H, Same S1 S → Same S H → J.stop ds.length H
abbrev rrI (K : Frg) (mg : Mg) : RR It (List D) := fun _ S _ J ds => ItD K mg S J ds
abbrev MI (X : Cx) (hx : Hx) (W : WX) (tg e : Expr) (f : Sl → Res (List D)) : Prop := PI X tg e (tG X.K X.mg hx (rrI X.K X.mg) W f)
theorem Po.upI {K : Frg} {mg : Mg} {W : WX} {S H S' H' : Hp} {σ : L2.St} {r : Res (List D)} {Q : It → Hp → Prop} (g : Gr S H S' H') (h : Po K mg (rrI K mg) W S σ H r Q) : Po K mg (rrI K mg) W S' σ H' r Q := h.up g fun _ _ _ _ _ q => q
section
variable {K : Frg} {mg : Mg} {S : Hp} {a : Addr} {vs : List V} {ds : List D}
theorem itd_list (h : SqL K S a vs) (r : RpA K mg S vs ds) : ItD K mg S (Itl K a) ds where
  go := fun S' H i d s1 s2 e => by
    obtain ⟨v, h1, h2⟩ := (r.up s1 _ _).get e
    have q : SqL K H a vs := same_l (s1.trans s2) h
    exact ⟨⟨vs, v, q, h1⟩, fun x H' y => ⟨S', by rw [y.1]; exact Gr.refl s2, by
      have z := y.2 vs q
      rw [h1] at z
      cases z
      exact h2⟩⟩
  stop := fun S' H s1 s2 => ⟨vs, same_l (s1.trans s2) h, by rw [r.len]; exact Nat.le_refl _⟩
theorem itd_tup (h : SqT K S a vs) (r : RpA K mg S vs ds) : ItD K mg S (Itt K a) ds where
  go := fun S' H i d s1 s2 e => by
    obtain ⟨v, h1, h2⟩ := (r.up s1 _ _).get e
    have q : SqT K H a vs := same_t (s1.trans s2) h
    exact ⟨⟨vs, v, q, h1⟩, fun x H' y => ⟨S', by rw [y.1]; exact Gr.refl s2, by
      have z := y.2 vs q
      rw [h1] at z
      cases z
      exact h2⟩⟩
  stop := fun S' H s1 s2 => ⟨vs, same_t (s1.trans s2) h, by rw [r.len]; exact Nat.le_refl _⟩
/-- lo, lo + 1, .. -/
def rngD (lo : Int) (n : Nat) : List D := (List.range n).map fun (k : Nat) => .int (lo + (k : Int))
theorem rngD_len (lo : Int) (n : Nat) : (rngD lo n).length = n := by simp [rngD]
theorem rngD_get {lo : Int} {n i : Nat} {d : D} (h : (rngD lo n)[i]? = some d) : i < n ∧ d = .int (lo + (i : Int)) := by
  unfold rngD at h
  rw [List.getElem?_map] at h
  by_cases hi : i < n
  · rw [List.getElem?_range hi] at h
    exact ⟨hi, (Option.some.inj h).symm⟩
  · rw [List.getElem?_eq_none (by simpa using hi)] at h
    cases h
theorem itd_rng (lo : Int) (n : Nat) : ItD K mg S (Itr lo n) (rngD lo n) where
  go := fun S' H i d s1 s2 e => by
    obtain ⟨h1, rfl⟩ := rngD_get e
    exact ⟨h1, fun x H' y => ⟨S', by rw [y.1]; exact Gr.refl s2, by rw [y.2]; exact .int _⟩⟩
  stop := fun S' H s1 s2 => by rw [rngD_len]; exact Nat.le_refl n
/-- the signs of a text -/
def signsD (x : Str) : List D := x.cps.toList.map fun c => .str ⟨#[c]⟩
theorem itd_str (x : Str) : ItD K mg S (Its x) (signsD x) where
  go := fun S' H i d s1 s2 e => by
    unfold signsD at e
    rw [List.getElem?_map, Array.getElem?_toList] at e
    cases q : x.cps[i]? with
    | none => rw [q] at e; cases e
    | some c =>
      rw [q] at e
      cases (Option.some.inj e)
      have hi : i < x.cps.size := (Array.getElem?_eq_some_iff.mp q).1
      refine ⟨hi, fun y H' z => ⟨S', by rw [z.1]; exact Gr.refl s2, ?_⟩⟩
      obtain ⟨_, c', h1, h2⟩ := z
      rw [q] at h1
      cases h1
      rw [h2]
      exact .str _
  stop := fun S' H s1 s2 => by
    show x.cps.size ≤ (signsD x).length
    simp [signsD]
end
section
variable {X : Cx} {hx : Hx} {W : WX} {tg e a b c : Expr} {f fa fb : Sl → Res D} {pos p : Pos}
theorem pi_or {w1 w2 : TI} (h1 : PI X tg e w1) (h2 : PI X tg e w2) : PI X tg e (fun σ H R => w1 σ H R ∨ w2 σ H R) := ⟨fun pins s σ H R I h => h.elim (h1.run pins s σ H R I) (h2.run pins s σ H R I)⟩
@[simp] def dSeq (d : D) : Res (List D) := match d with
  | .lst ds => .ok ds
  | .rol ds => .ok ds
  | .tup ds => .ok ds
  | .str x => .ok (signsD x)
  | _ => .bad
@[simp] def iSeq (f : Sl → Res D) (ρ : Sl) : Res (List D) := (f ρ).bind dSeq
theorem mi_seq (h : ME X hx W e f) : MI X hx W tg e (iSeq f) := pi_imp (pi_or (pi_list h) (pi_or (pi_tup h) (pi_str h))) fun σ H Q ⟨b, S, ρ, R, q⟩ => by
  unfold iSeq at q
  cases ef : f ρ with
  | ok d =>
    rw [ef] at q
    have go : ∀ {Q' : VK}, (∀ v S' H', Gr S H S' H' → Rp X.K X.mg S' v d → Q' v H') → tG X.K X.mg hx (rrE X.K X.mg) W f σ H Q' := fun {Q'} k => ⟨b, S, ρ, R, by rw [ef]; exact k⟩
    cases d with
    | lst ds => exact .inl (go fun v S1 H1 g1 r1 => by
        cases r1 with
        | lst h1 h2 => exact ⟨_, rfl, ⟨_, SqL.of (g1.i _ _ h1)⟩, q _ S1 H1 g1 (itd_list (SqL.of h1) h2)⟩)
    | rol ds => exact .inl (go fun v S1 H1 g1 r1 => by
        cases r1 with
        | rol h1 h2 => exact ⟨_, rfl, ⟨_, same_l g1.i h1⟩, q _ S1 H1 g1 (itd_list h1 h2)⟩)
    | tup ds => exact .inr (.inl (go fun v S1 H1 g1 r1 => by
        cases r1 with
        | tup h1 h2 => exact ⟨_, rfl, ⟨_, same_t g1.i h1⟩, q _ S1 H1 g1 (itd_tup h1 h2)⟩))
    | str x => exact .inr (.inr (go fun v S1 H1 g1 r1 => by
        cases r1 with
        | str _ => exact ⟨_, rfl, q _ S1 H1 g1 (itd_str x)⟩))
    | _ => exact q.elim
  | exc x fs =>
    rw [ef] at q
    exact .inl ⟨b, S, ρ, R, by rw [ef]; exact q⟩
  | bad => rw [ef] at q; exact q.elim
@[simp] noncomputable def gRng1 (ds : List D) : Res (List D) := match ds with
  | [.int j] => if cb (-(2 ^ 62) ≤ j ∧ j < 2 ^ 62) then .ok (rngD 0 j.toNat) else .bad
  | _ => .bad
@[simp] noncomputable def gRng2 (ds : List D) : Res (List D) := match ds with
  | [.int i, .int j] => if cb ((-(2 ^ 62) ≤ i ∧ i < 2 ^ 62) ∧ -(2 ^ 62) ≤ j ∧ j < 2 ^ 62) then .ok (rngD i (j - i).toNat) else .bad
  | _ => .bad
theorem RpA.two {K : Frg} {mg : Mg} {S : Hp} {vs : List V} {d e : D} (r : RpA K mg S vs [d, e]) : ∃ v w, vs = [v, w] ∧ Rp K mg S v d ∧ Rp K mg S w e := by
  cases r with
  | cons a t =>
    cases t with
    | cons b t => cases t; exact ⟨_, _, rfl, a, b⟩
theorem RpA.one {K : Frg} {mg : Mg} {S : Hp} {vs : List V} {d : D} (r : RpA K mg S vs [d]) : ∃ v, vs = [v] ∧ Rp K mg S v d := by
  cases r with
  | cons a t => cases t; exact ⟨_, rfl, a⟩
@[simp] noncomputable def iRg1 (fs : Sl → Res (List D)) (ρ : Sl) : Res (List D) := (fs ρ).bind gRng1
@[simp] noncomputable def iRg2 (fs : Sl → Res (List D)) (ρ : Sl) : Res (List D) := (fs ρ).bind gRng2
theorem mi_rng1 {fs : Sl → Res (List D)} (hg : Gl X "range") (hm : X.mg "range" = none) (ha : MA X hx W [a] fs) (hs : starEach [a] X.env = [(false, eval a X.env)] := by rfl) : MI X hx W tg (.Call (.Name "range" p) [a] [] pos) (iRg1 fs) :=
  pi_imp (pi_range1 hg hm ha hs) fun σ H Q ⟨b, S, ρ, R, q⟩ => ⟨b, S, ρ, R, q.bind fun d v S1 H1 g1 r1 k => by
    unfold gRng1 at k
    split at k
    · rename_i j
      obtain ⟨v1, rfl, r2⟩ := r1.one
      cases r2
      split at k
      · rename_i hb0
        have hb := of_cb hb0
        exact ⟨j, rfl, hb.1, hb.2, k _ S1 H1 g1 (itd_rng 0 _)⟩
      · exact k.elim
    · exact k.elim⟩
theorem mi_rng2 {fs : Sl → Res (List D)} (hg : Gl X "range") (hm : X.mg "range" = none) (ha : MA X hx W [a, c] fs) (hs : starEach [a, c] X.env = [(false, eval a X.env), (false, eval c X.env)] := by rfl) (hs2 : starEach [c] X.env = [(false, eval c X.env)] := by rfl) : MI X hx W tg (.Call (.Name "range" p) [a, c] [] pos) (iRg2 fs) :=
  pi_imp (pi_range2 hg hm ha hs hs2) fun σ H Q ⟨b, S, ρ, R, q⟩ => ⟨b, S, ρ, R, q.bind fun d v S1 H1 g1 r1 k => by
    unfold gRng2 at k
    split at k
    · rename_i i j
      obtain ⟨v1, v2, rfl, r2, r3⟩ := r1.two
      cases r2
      cases r3
      split at k
      · rename_i hb0
        have hb := of_cb hb0
        exact ⟨i, j, rfl, ⟨hb.1.1, hb.1.2, hb.2.1, hb.2.2⟩, k _ S1 H1 g1 (itd_rng i _)⟩
      · exact k.elim
    · exact k.elim⟩
end

/-! ### for, while -/
def forRun (g : FG) (body : Sl → Out) : List D → Sl → Out
  | [], ρ => .nx ρ
  | d :: ds, ρ => match g d ρ with
    | some ρ1 => match body ρ1 with
      | .nx ρ2 => forRun g body ds ρ2
      | .ct ρ2 => forRun g body ds ρ2
      | .bk ρ2 => .nx ρ2
      | .ret d => .ret d
      | .exc x fs ρ2 => .exc x fs ρ2
      | .bad => .bad
    | none => .bad
@[simp] def gFor (items : Sl → Res (List D)) (g : FG) (body : Sl → Out) (ρ : Sl) : Out := rS (items ρ) ρ fun ds => forRun g body ds ρ
def whRun (t : Sl → Res Bool) (body : Sl → Out) : Nat → Sl → Out
  | 0, _ => .bad
  | n + 1, ρ => rS (t ρ) ρ fun b => if b then (match body ρ with
      | .nx ρ2 => whRun t body n ρ2
      | .ct ρ2 => whRun t body n ρ2
      | .bk ρ2 => .nx ρ2
      | .ret d => .ret d
      | .exc x fs ρ2 => .exc x fs ρ2
      | .bad => .bad) else .nx ρ
def gWh (fuel : Sl → Nat) (t : Sl → Res Bool) (body : Sl → Out) (ρ : Sl) : Out := whRun t body (fuel ρ) ρ
section
variable {X : Cx} {hx : Hx} {W : WX} {tg e c : Expr} {body : List Stmt} {pos : Pos}
theorem ms_for {is : List Nat} {items : Sl → Res (List D)} {g : FG} {gb : Sl → Out} (hp : PassesOwn (model X.prog X.w) X.A X.env X.xe) (hc : X.calm = true) (hi : MI X hx W tg e items) (hg : MG X hx tg is g) (hb : MSs X hx W body gb)
    (hs : ∀ x, foldedSetIterable e X.env x = pure x := by intro _; rfl) : MS X hx W (.For tg e body [] pos) (gFor items g gb) := ps_imp (ps_for hp hc hi hg hb hs) fun D σ H ⟨b, S, ρ, R, q⟩ =>
  ⟨b, S, ρ, R, rS_po R q fun ds J S1 H1 g1 r1 k => by
    refine ⟨fun i m σ' H' => m = ds.length - i ∧ i ≤ ds.length ∧ ∃ S' ρ', Same S1 S' ∧ Rel X.K X.mg hx b S' ρ' σ' H' ∧ PoS X.K X.mg hx W b S' (forRun g gb (ds.drop i) ρ') D, ⟨ds.length, rfl, Nat.zero_le _, S1, ρ, Same.refl _, R.grow g1, PoS.up g1.s k⟩, ?_⟩
    rintro i m σ' H' ⟨rfl, hi, S', ρ', s1, R', k'⟩
    by_cases hlt : i < ds.length
    · have ed : ds.drop i = ds[i] :: ds.drop (i + 1) := List.drop_eq_getElem_cons hlt
      obtain ⟨go, yl⟩ := r1.go S' H' i ds[i] s1 R'.sh (List.getElem?_eq_getElem hlt)
      refine .inr ⟨go, fun σ2 H2 => ∃ S2 ρ2, Same S1 S2 ∧ Rel X.K X.mg hx b S2 ρ2 σ2 H2 ∧ PoS X.K X.mg hx W b S2 (forRun g gb (ds.drop (i + 1)) ρ2) D, fun σ2 H2 w => ⟨ds.length - (i + 1), by omega, rfl, hlt, w⟩, fun x H2 y => ?_⟩
      obtain ⟨S2, g2, r2⟩ := yl x H2 y
      refine ⟨b, S2, ρ', ds[i], R'.grow g2, r2, ?_⟩
      rw [ed] at k'
      unfold forRun at k'
      cases eg : g ds[i] ρ' with
      | none => rw [eg] at k'; exact k'.elim
      | some ρ1 =>
        rw [eg] at k'
        intro σ3 R3 _
        refine ⟨b, S2, ρ1, R3, ?_⟩
        simp only at k'
        cases eb : gb ρ1 with
        | nx ρ2 => rw [eb] at k'; exact fun S4 σ4 H4 s4 R4 => ⟨S4, ρ2, (s1.trans g2.s).trans s4, R4, PoS.up (g2.s.trans s4) k'⟩
        | ct ρ2 => rw [eb] at k'; exact fun S4 σ4 H4 s4 R4 => ⟨S4, ρ2, (s1.trans g2.s).trans s4, R4, PoS.up (g2.s.trans s4) k'⟩
        | bk ρ2 => rw [eb] at k'; exact fun S4 σ4 H4 s4 R4 => k' S4 σ4 H4 (g2.s.trans s4) R4
        | ret d => rw [eb] at k'; exact k'
        | exc x fs ρ2 => rw [eb] at k'; exact PoS.up g2.s k'
        | bad => rw [eb] at k'; exact k'.elim
    · have ei : i = ds.length := by omega
      subst ei
      rw [List.drop_length] at k'
      exact .inl ⟨r1.stop S' H' s1 R'.sh, k' S' σ' H' (Same.refl _) R'⟩⟩
theorem ms_while {t : Sl → Res Bool} {gb : Sl → Out} (fuel : Sl → Nat) (hp : PassesOwn (model X.prog X.w) X.A X.env X.xe) (hc : MT X hx W c t) (hb : MSs X hx W body gb) : MS X hx W (.While c body [] pos) (gWh fuel t gb) := ps_imp (ps_while hp hc hb) fun D σ H ⟨b, S, ρ, R, q⟩ => by
  refine ⟨fun m σ' H' => ∃ S' ρ', Same S S' ∧ Rel X.K X.mg hx b S' ρ' σ' H' ∧ PoS X.K X.mg hx W b S' (whRun t gb m ρ') D, ⟨fuel ρ, S, ρ, Same.refl _, R, q⟩, ?_⟩
  rintro m σ' H' ⟨S', ρ', s1, R', k'⟩
  cases m with
  | zero => exact k'.elim
  | succ m =>
    refine ⟨b, S', ρ', R', rS_po R' k' fun d v S1 H1 g1 r1 k => ?_⟩
    cases r1
    cases d with
    | false => exact iteF (k S1 σ' H1 g1.s (R'.grow g1))
    | true =>
      refine iteT ⟨fun σ2 H2 => ∃ S2 ρ2, Same S S2 ∧ Rel X.K X.mg hx b S2 ρ2 σ2 H2 ∧ PoS X.K X.mg hx W b S2 (whRun t gb m ρ2) D, fun σ2 H2 w => ⟨m, Nat.lt_succ_self _, w⟩, b, S1, ρ', R'.grow g1, ?_⟩
      simp only [if_true] at k
      cases eb : gb ρ' with
      | nx ρ2 => rw [eb] at k; exact fun S4 σ4 H4 s4 R4 => ⟨S4, ρ2, (s1.trans g1.s).trans s4, R4, PoS.up (g1.s.trans s4) k⟩
      | ct ρ2 => rw [eb] at k; exact fun S4 σ4 H4 s4 R4 => ⟨S4, ρ2, (s1.trans g1.s).trans s4, R4, PoS.up (g1.s.trans s4) k⟩
      | bk ρ2 => rw [eb] at k; exact fun S4 σ4 H4 s4 R4 => k S4 σ4 H4 (g1.s.trans s4) R4
      | ret d => rw [eb] at k; exact k
      | exc x fs ρ2 => rw [eb] at k; exact PoS.up g1.s k
      | bad => rw [eb] at k; exact k.elim
end

/-! ### comprehensions -/
@[simp] def wipeS (ρ : Sl) : List Nat → Sl
  | [] => ρ
  | v :: vs => (wipeS ρ vs).set v .e
theorem Rel.wipeL {K : Frg} {mg : Mg} {hx : Hx} {b : Bs} {S H : Hp} {ρ : Sl} {σ : L2.St} (R : Rel K mg hx b S ρ σ H) : ∀ vs : List Nat, Rel K mg hx b S (wipeS ρ vs) (wipe σ vs) H
  | [] => R
  | v :: vs => (R.wipeL vs).wipe1
def Res.nx {α : Type} (r : Res α) : Res α := match r with
  | .ok a => .ok a
  | _ => .bad
def W0 : WX := fun _ _ _ _ => False
def lcRun (g : FG) (t : Sl → Res Bool) (f : Sl → Res D) (ρ : Sl) : List D → List D → Res (List D)
  | [], acc => .ok acc
  | d :: ds, acc => match g d ρ with
    | none => .bad
    | some ρ1 => (t ρ1).nx.bind fun b => if b then (f ρ1).nx.bind fun y => if acc.length < 16777216 then lcRun g t f ρ ds (acc ++ [y]) else .bad
      else lcRun g t f ρ ds acc
@[simp] def fLc (items : Sl → Res (List D)) (g : FG) (t : Sl → Res Bool) (f : Sl → Res D) (vs : List Nat) (ρ : Sl) : Res (List D) := (items ρ).bind fun ds => lcRun g t f (wipeS ρ vs) ds []
theorem wipe_get {σ : L2.St} {i : Nat} : ∀ {vs : List Nat}, i < σ.length → (wipe σ vs)[i]? = if i ∈ vs then some none else σ[i]?
  | [], _ => by simp [wipe]
  | v :: vs, h => by
    unfold wipe
    by_cases e : v = i
    · subst e
      rw [List.getElem?_set_self (by rw [wipe_length]; exact h)]
      simp
    · rw [List.getElem?_set_ne e, wipe_get (vs := vs) h]
      have : (i ∈ v :: vs) ↔ i ∈ vs := by simp [Ne.symm e]
      simp only [this]
theorem agree_wipe {is vs : List Nat} {σ σ' : L2.St} (h : AgreeOff is (wipe σ vs) σ') (hs : ∀ i ∈ is, i ∈ vs) : wipe σ' vs = wipe σ vs := by
  have hl : σ'.length = σ.length := h.1.trans (wipe_length σ vs)
  apply List.ext_getElem?
  intro i
  by_cases hi : i < σ.length
  · rw [wipe_get (by rw [hl]; exact hi), wipe_get hi]
    by_cases hm : i ∈ vs
    · simp [hm]
    · simp only [hm, if_false]
      rw [h.2 i (fun z => hm (hs i z)), wipe_get hi]
      simp [hm]
  · rw [List.getElem?_eq_none (by rw [wipe_length, hl]; omega), List.getElem?_eq_none (by rw [wipe_length]; omega)]
theorem Po.nx0 {α β : Type} {K : Frg} {mg : Mg} {R : RR α β} {W : WX} {S : Hp} {σ : L2.St} {H : Hp} {r : Res β} {Q : α → Hp → Prop} (h : Po K mg R W S σ H r.nx Q) : Po K mg R W0 S σ H r Q := by
  cases r with
  | ok d => exact h
  | exc x fs => exact h.elim
  | bad => exact h
section
variable {X : Cx} {hx : Hx} {W : WX}
abbrev MTs (X : Cx) (hx : Hx) (W : WX) (ifs : List Expr) (t : Sl → Res Bool) : Prop := PTs X ifs (tG X.K X.mg hx rrT W t)
@[simp] def tYesF (_ : Sl) : Res Bool := .ok true
theorem mts_nil : MTs X hx W [] tYesF := ⟨fun pins s σ H Q I ⟨b, S, ρ, R, q⟩ => pts_nil.run pins s σ H Q I (q true S H (Gr.refl R.sh) rfl)⟩
theorem mts_one {c : Expr} {t : Sl → Res Bool} (h : MT X hx W c t) : MTs X hx W [c] t := pts_one h
theorem lc_ok {items : Sl → Res (List D)} {g : FG} {t : Sl → Res Bool} {f : Sl → Res D} {is vs : List Nat} {K : Frg} {mg : Mg} {ts : TE} (his : ∀ i ∈ is, i ∈ vs) : ∀ σ H Q, tG K mg hx (rrF K mg) W (fLc items g t f vs) σ H Q →
    tLc (tG K mg hx (rrI K mg) W items) (gG K mg hx is g) (tG K mg hx rrT W0 t) (tG K mg hx (rrE K mg) W0 f) vs σ H Q := fun σ H Q ⟨b, S, ρ, R, q⟩ =>
  ⟨b, S, ρ, R, q.bind fun ds J S1 H1 g1 r1 k Dl hD => by
    have k1 : Po K mg (rrF K mg) W S1 σ H1 (lcRun g t f (wipeS ρ vs) ds []) Q := Po.upF g1 k
    have hS : S1 Dl = none := same_none g1.i hD
    refine ⟨fun i m H' => m = ds.length - i ∧ i ≤ ds.length ∧ ∃ S' acc vacc, Gr S1 H1 S' H' ∧ S' Dl = none ∧ H' Dl = some (.lst vacc) ∧ RpA K mg S' vacc acc ∧ Po K mg (rrF K mg) W S1 σ H1 (lcRun g t f (wipeS ρ vs) (ds.drop i) acc) Q,
      ⟨ds.length, rfl, Nat.zero_le _, S1, [], [], Gr.lay g1.i hD, hS, upd_same, .nil, k1⟩, ?_⟩
    rintro i m H' ⟨rfl, hi, S', acc, vacc, g', hS', hH', ra, k'⟩
    have R' : Rel K mg hx b S' (wipeS ρ vs) (wipe σ vs) H' := ((R.grow g1).grow g').wipeL vs
    by_cases hlt : i < ds.length
    · have ed : ds.drop i = ds[i] :: ds.drop (i + 1) := List.drop_eq_getElem_cons hlt
      obtain ⟨go, yl⟩ := r1.go S' H' i ds[i] g'.s g'.i (List.getElem?_eq_getElem hlt)
      refine .inr ⟨go, fun H2 => ∃ S2 acc2 vacc2, Gr S1 H1 S2 H2 ∧ S2 Dl = none ∧ H2 Dl = some (.lst vacc2) ∧ RpA K mg S2 vacc2 acc2 ∧ Po K mg (rrF K mg) W S1 σ H1 (lcRun g t f (wipeS ρ vs) (ds.drop (i + 1)) acc2) Q, fun H2 w => ⟨ds.length - (i + 1), by omega, rfl, hlt, w⟩, fun x H2 y => ?_⟩
      obtain ⟨S2, g2, r2⟩ := yl x H2 y
      have nD : S2 Dl = none := g2.n Dl (by rw [hH']; simp) hS'
      refine ⟨b, S2, wipeS ρ vs, ds[i], R'.grow g2, r2, ?_⟩
      rw [ed] at k'
      unfold lcRun at k'
      cases eg : g ds[i] (wipeS ρ vs) with
      | none => rw [eg] at k'; exact k'.elim
      | some ρ1 =>
        rw [eg] at k'
        intro σ3 R3 ag
        refine ⟨agree_wipe ag his, b, S2, ρ1, R3, ?_⟩
        simp only at k'
        refine Po.nx0 (W := W) ?_
        cases et : (t ρ1).nx with
        | exc x fs => cases e2 : t ρ1 <;> rw [e2] at et <;> cases et
        | bad => rw [et] at k'; exact k'.elim
        | ok bt =>
          rw [et] at k'
          intro bb S4 H4 g4 e4
          cases e4
          have gg := (g'.trans g2).trans g4
          have h4D : H4 Dl = some (.lst vacc) := g4.h _ _ (g2.h _ _ hH')
          have n4 : S4 Dl = none := g4.n Dl (by rw [g2.h _ _ hH']; simp) nD
          cases bt with
          | false => exact iteF ⟨S4, acc, vacc, gg, n4, h4D, ra.up (g2.s.trans g4.s) _ _, k'⟩
          | true =>
            refine iteT ⟨b, S4, ρ1, R3.grow g4, ?_⟩
            simp only [Res.bind_ok, if_true] at k'
            refine Po.nx0 (W := W) ?_
            cases ef : (f ρ1).nx with
            | exc x fs => cases e2 : f ρ1 <;> rw [e2] at ef <;> cases ef
            | bad => rw [ef] at k'; exact k'.elim
            | ok y =>
              rw [ef] at k'
              intro v S5 H5 g5 r5
              simp only [Res.bind_ok] at k'
              split at k'
              · rename_i hl
                have g45 := gg.trans g5
                have h5D : H5 Dl = some (.lst vacc) := g5.h _ _ h4D
                have n5 : S5 Dl = none := g5.n Dl (by rw [h4D]; simp) n4
                refine ⟨vacc, h5D, size16 (by rw [ra.len]; exact hl), S5, acc ++ [y], vacc ++ [v], ⟨g45.s, fun a o e => ?_, fun a o e => ?_, g45.n⟩, n5, upd_same, (ra.up ((g2.s.trans g4.s).trans g5.s) _ _).app (.cons r5 .nil), k'⟩
                · rw [upd_ne (fun z => by rw [z, hD] at e; cases e)]; exact g45.h a o e
                · rw [upd_ne (fun z => by rw [z, n5] at e; cases e)]; exact g45.i a o e
              · exact k'.elim
    · have ei : i = ds.length := by omega
      subst ei
      rw [List.drop_length] at k'
      exact .inl ⟨r1.stop S' H' g'.s g'.i, k' _ S' H' g' ⟨Dl, vacc, rfl, hD, hS', hH', ra⟩⟩⟩
theorem mf_lc {elt tg iter : Expr} {ifs : List Expr} {scope : Scope} {own : List (Str × Nat)} {pos : Pos} {items : Sl → Res (List D)} {is : List Nat} {g : FG} {t : Sl → Res Bool} {f : Sl → Res D} (hc : X.calm = true) (hN : X.N.Nodup) (hi : MI X hx W tg iter items) (ok : BlkOk X.N X.env.scope scope own)
    (hg : ∀ (s : Shared) (H : Hp) (C : Addr) (cl : List (Str × Addr)) (fp : List Addr), MG (X.blk s H scope (compEnvC scope cl C X.env) fp) hx tg is g) (ht : ∀ (s : Shared) (H : Hp) (C : Addr) (cl : List (Str × Addr)) (fp : List Addr), MTs (X.blk s H scope (compEnvC scope cl C X.env) fp) hx W0 ifs t)
    (he : ∀ (s : Shared) (H : Hp) (C : Addr) (cl : List (Str × Addr)) (fp : List Addr), ME (X.blk s H scope (compEnvC scope cl C X.env) fp) hx W0 elt f) (his : (is.all fun i => (own.map (·.2)).contains i) = true := by decide) (hs : ∀ x, foldedSetIterable iter X.env x = pure x := by intro _; rfl) :
    MF X hx W (.ListComp elt [⟨tg, iter, ifs, 0⟩] scope pos) (fLc items g t f (own.map (·.2))) :=
  pe_imp (pe_lc hc hN hi ok hg ht he hs) (lc_ok (ts := fun _ _ _ => True) fun i hi => by
    have h1 := List.all_eq_true.mp his i hi
    simpa using h1)
theorem ms_setLcO (i : Nat) {y : Str} {py : Pos} {elt tg iter : Expr} {ifs : List Expr} {scope : Scope} {own : List (Str × Nat)} {pos spos : Pos} {items : Sl → Res (List D)} {is : List Nat} {g : FG} {t : Sl → Res Bool} {f : Sl → Res D} (hc : X.calm = true) (hN : X.N.Nodup)
    (hsw : swapsWith (.ListComp elt [⟨tg, iter, ifs, 0⟩] scope pos) (some (.Name y py)) spos.line X.env = pure true) (hi : MI X hx W tg iter items) (ok : BlkOk X.N X.env.scope scope own)
    (hg : ∀ (s : Shared) (H : Hp) (C : Addr) (cl : List (Str × Addr)) (fp : List Addr), MG (X.blk s H scope (compEnvC scope cl C X.env) fp) hx tg is g) (ht : ∀ (s : Shared) (H : Hp) (C : Addr) (cl : List (Str × Addr)) (fp : List Addr), MTs (X.blk s H scope (compEnvC scope cl C X.env) fp) hx W0 ifs t)
    (he : ∀ (s : Shared) (H : Hp) (C : Addr) (cl : List (Str × Addr)) (fp : List Addr), ME (X.blk s H scope (compEnvC scope cl C X.env) fp) hx W0 elt f) (hy : X.N[i]? = some y := by rfl) (hyl : X.env.scope.names.lookup y = some .local := by rfl) (his : (is.all fun i => (own.map (·.2)).contains i) = true := by decide) (hs : ∀ x, foldedSetIterable iter X.env x = pure x := by intro _; rfl) :
    MS X hx W (.Assign [.Name y py] (.ListComp elt [⟨tg, iter, ifs, 0⟩] scope pos) spos) (gSetO i (fLc items g t f (own.map (·.2)))) :=
  ps_imp (ps_setLc hc hN hy hyl hsw hi ok hg ht he hs) fun D σ H ⟨b, S, ρ, R, q⟩ => lc_ok (ts := fun _ _ _ => True) (fun i hi => by
    have h1 := List.all_eq_true.mp his i hi
    simpa using h1) σ H _ ⟨b, S, ρ, R, rS_po R q fun d v S1 H1 g1 ⟨p, vs, h1, h2, h3, h4, h5⟩ k => by
      subst h1
      exact k S1 _ H1 g1.s (R.putN g1 h2 h3 h4 h5)⟩
end
end PF

set_option Elab.async false
set_option linter.all false
set_option maxRecDepth 100000
set_option maxHeartbeats 4000000
namespace PF
open PySem PySem.Spec L2

/-! ### defs and calls -/
/-- the promise of a def that hands back g of its arguments' data, and changes nothing -/
def spF (K : Frg) (mg : Mg) (n : Nat) (g : List D → Res D) : Sp := fun vs H Q E => ∃ ds S, vs.length = n ∧ Same S H ∧ RpA K mg S vs ds ∧ Po K mg (rrX K mg) (fun cls d _ H' => E cls d H') S [] H (g ds) Q
/-- what a body makes of its arguments: n slots -/
@[simp] def semF (n : Nat) (g : Sl → Out) (ds : List D) : Res D := match g (ds.map Cell.v ++ List.replicate (n - ds.length) .e) with
  | .nx _ => .ok .non
  | .ret d => .ok d
  | .exc x fs _ => .exc x fs
  | _ => .bad
theorem Rel.start {K : Frg} {mg : Mg} {N : List Str} {S H : Hp} {vs : List V} {ds : List D} (i : Same S H) (r : RpA K mg S vs ds) : Rel K mg none ⟨H, S⟩ S (ds.map Cell.v ++ List.replicate (N.length - ds.length) .e) (L2.start N vs) H where
  s0 := Same.refl _
  sh := i
  h0 := Same.refl _
  nw := fun _ _ e => e
  len := by simp [L2.start, r.len]
  val := fun j d e => by
    have hl := r.len
    rw [List.getElem?_append] at e
    split at e
    · rename_i hj
      rw [List.getElem?_map] at e
      cases q : ds[j]? with
      | none => rw [q] at e; cases e
      | some d' =>
        rw [q] at e
        cases e
        obtain ⟨v, h1, h2⟩ := r.get q
        refine ⟨v, ?_, h2⟩
        have hj' : j < vs.length := (List.getElem?_eq_some_iff.mp h1).1
        unfold L2.start
        rw [List.getElem?_append_left (by simpa using hj'), List.getElem?_map, h1]
        rfl
    · rw [List.getElem?_replicate] at e
      split at e <;> cases e
  own := fun j es e => by
    rw [List.getElem?_append] at e
    split at e
    · rw [List.getElem?_map] at e
      cases q : ds[j]? with
      | none => rw [q] at e; cases e
      | some d' => rw [q] at e; cases e
    · rw [List.getElem?_replicate] at e
      split at e <;> cases e
  xc := fun j c fs e => by
    rw [List.getElem?_append] at e
    split at e
    · rw [List.getElem?_map] at e
      cases q : ds[j]? with
      | none => rw [q] at e; cases e
      | some d' => rw [q] at e; cases e
    · rw [List.getElem?_replicate] at e
      split at e <;> cases e
  apart := fun j k es gs p ne e1 => by
    rw [List.getElem?_append] at e1
    split at e1
    · rw [List.getElem?_map] at e1
      cases q : ds[j]? with
      | none => rw [q] at e1; cases e1
      | some d' => rw [q] at e1; cases e1
    · rw [List.getElem?_replicate] at e1
      split at e1 <;> cases e1
theorem Bok.gr {b : Bs} {S H : Hp} (h : Bok b S H) : Gr b.S0 b.H0 S H := ⟨h.s0, h.h0, h.sh, h.nw⟩
abbrev WE0 (E : XK) : WX := fun cls d _ H => E cls d H
/-- what a body's statements may lean on -/
structure Cs (X : Cx) (W : WX) : Prop where
  tk : Takes X W
  po : PassesOwn (model X.prog X.w) X.A X.env X.xe
  hc : X.calm = true
section
variable {P : Program} {w : World} {K : Frg} {mg : Mg} {base : Heap}
theorem fn_ok {x qual : Str} {st : Stmt} {f : Addr} {fd : FuncData} {N ps : List Str} {k : Nat} {g : Sl → Out} (F : Fun K x qual st f fd) (Sc : FnScope N ps (defScope st))
    (hb : ∀ (cdv : Value) (A : Around) (outer : List Env) (s : Shared) (H : Hp) (E : XK), Room k (cxOf (L2.CX P w) P w K mg base N qual (defScope st) f cdv A outer s H E).A → Cs (cxOf (L2.CX P w) P w K mg base N qual (defScope st) f cdv A outer s H E) (WE0 E) →
      MSs (cxOf (L2.CX P w) P w K mg base N qual (defScope st) f cdv A outer s H E) none (WE0 E) (defBody st) g) : FnOk P w K mg base (L2.CX P w) (k + 1) f fd ps (spF K mg ps.length (semF N.length g)) :=
  F.okX Sc (fun vs H Q E h => by obtain ⟨ds, S, h1, _⟩ := h; exact h1) fun cdv A outer s H vs Q E hr h => by
    obtain ⟨ds, S, h1, h2, h3, h4⟩ := h
    refine ⟨_, hb cdv A outer s H E hr ⟨takes_of rfl rfl rfl rfl, passes_of rfl, rfl⟩, ⟨H, S⟩, S, ds.map Cell.v ++ List.replicate (N.length - ds.length) Cell.e, Rel.start (N := N) h2 h3, ?_⟩
    unfold semF at h4
    cases e : g (ds.map Cell.v ++ List.replicate (N.length - ds.length) .e) with
    | nx ρ => rw [e] at h4; exact fun S' σ' H' s1 R' => h4 .non S' H' R'.bok.gr (.inl .non)
    | ret d => rw [e] at h4; exact fun S' H' v bk r => h4 v S' H' bk.gr r
    | exc x fs ρ => rw [e] at h4; exact fun S' σ' H' C dx s1 R' m xd => h4 S' H' C dx R'.bok.gr m xd
    | bk ρ => rw [e] at h4; exact h4.elim
    | ct ρ => rw [e] at h4; exact h4.elim
    | bad => rw [e] at h4; exact h4.elim
/-- a promise of less -/
theorem FnOk.less {k f} {fd : FuncData} {ps : List Str} {n : Nat} {g g' : List D → Res D} (F : FnOk P w K mg base (L2.CX P w) k f fd ps (spF K mg n g)) (h : ∀ ds, g' ds = g ds ∨ g' ds = .bad) : FnOk P w K mg base (L2.CX P w) k f fd ps (spF K mg n g') :=
  F.imp fun vs H Q E ⟨ds, S, h1, h2, h3, h4⟩ => ⟨ds, S, h1, h2, h3, by
    rcases h ds with q | q
    · rw [← q]; exact h4
    · rw [q] at h4; exact h4.elim⟩
end
/-- what a call of a def asks of its place -/
abbrev Cw (X : Cx) (W : WX) : Prop := ∀ σ, PassesAt (L2.CX X.prog X.w) X σ (WE W σ)
theorem Cs.cw {X : Cx} {W : WX} (c : Cs X W) : Cw X W := fun σ => passAt c.tk σ
theorem cw0 {X : Cx} : Cw X W0 := fun σ pins H s e s' I h => by
  obtain ⟨_, _, _, _, _, _, _, _, _, _, _, _, z⟩ := h
  exact z.elim
/-- an argument list has its length -/
theorem len_nil {ρ : Sl} {ds : List D} (h : aNil ρ = .ok ds) : ds.length = 0 := by cases h; rfl
theorem len_cons {f : Sl → Res D} {fs : Sl → Res (List D)} {n : Nat} (ih : ∀ ρ ds, fs ρ = .ok ds → ds.length = n) : ∀ ρ ds, aCons f fs ρ = .ok ds → ds.length = n + 1 := fun ρ ds h => by
  unfold aCons at h
  cases e1 : f ρ with
  | ok d =>
    rw [e1] at h
    cases e2 : fs ρ with
    | ok r =>
      rw [Res.bind_ok, e2] at h
      cases h
      simp [ih ρ r e2]
    | exc y ys => rw [Res.bind_ok, e2] at h; cases h
    | bad => rw [Res.bind_ok, e2] at h; cases h
  | exc y ys => rw [e1] at h; cases h
  | bad => rw [e1] at h; cases h

/-! ### built-ins by their names -/
def aR1 (f : Sl → Res D) (ρ : Sl) : Res D := f ρ
section
variable {X : Cx} {hx : Hx} {W : WX} {x : Str} {p pos : Pos} {a b c : Expr} {id T : String} {r : List V → Hp → VK → Prop} {fa fb fc : Sl → Res D}
/-- a built-in of one operand that it only reads -/
theorem call1_imp {t : TE} {g : D → Res D} (hr : U1 X.K X.mg (fun v => r [v]) g) (h : PE X c (tCB r (tCons t tNil))) (hi : t = tG X.K X.mg hx (rrR X.K X.mg) W fa) : ME X hx W c (sUn g fa) := pe_imp h fun σ H Q ⟨b, S, ρ, R, q⟩ => by
  subst hi
  exact ⟨b, S, ρ, R, q.bind fun d v S1 H1 g1 r1 k => hr S1 σ H1 v d W Q g1.i r1 (k.upE g1)⟩
theorem me_b1 {g : D → Res D} (hc : CallR X (.builtin id) r) (hr : U1 X.K X.mg (fun v => r [v]) g) (hm : X.mg x = none) (hv : bootBuiltins x = some (.builtin id)) (ha : MR X hx W a fa) (hg : Gl X x := by rfl) (hn : x ≠ "__name__" := by decide) (hdb : (x == ("__debug__" : Str)) = false := by decide)
    (hs : starEach [a] X.env = (false, eval a X.env) :: starEach [] X.env := by rfl) (hpl : (backTo pos (starEach [] X.env)).any (·.1) = false := by rfl) : ME X hx W (.Call (.Name x p) [a] [] pos) (sUn g fa) :=
  call1_imp hr (pe_callB hc hg hm hv (pa_cons ha pa_nil hs) hn hdb hs hpl) rfl
theorem me_t1 {g : D → Res D} (hc : CallR X (.type T) r) (hr : U1 X.K X.mg (fun v => r [v]) g) (hm : X.mg x = none) (hv : bootBuiltins x = some (.type T)) (ha : MR X hx W a fa) (hg : Gl X x := by rfl) (hn : x ≠ "__name__" := by decide) (hdb : (x == ("__debug__" : Str)) = false := by decide)
    (hs : starEach [a] X.env = (false, eval a X.env) :: starEach [] X.env := by rfl) (hpl : (backTo pos (starEach [] X.env)).any (·.1) = false := by rfl) : ME X hx W (.Call (.Name x p) [a] [] pos) (sUn g fa) :=
  call1_imp hr (pe_callTy hc hg hm hv (pa_cons ha pa_nil hs) hn hdb hs hpl) rfl
theorem call1F_imp {t : TE} {g : D → Res (List D)} (hr : U1F X.K X.mg (fun v => r [v]) g) (h : PE X c (tCB r (tCons t tNil))) (hi : t = tG X.K X.mg hx (rrR X.K X.mg) W fa) : MF X hx W c (fUn g fa) := pe_imp h fun σ H Q ⟨b, S, ρ, R, q⟩ => by
  subst hi
  exact ⟨b, S, ρ, R, q.bind fun d v S1 H1 g1 r1 k => hr S1 σ H1 v d W Q g1.i r1 (k.upF g1)⟩
theorem mf_b1 {g : D → Res (List D)} (hc : CallR X (.builtin id) r) (hr : U1F X.K X.mg (fun v => r [v]) g) (hm : X.mg x = none) (hv : bootBuiltins x = some (.builtin id)) (ha : MR X hx W a fa) (hg : Gl X x := by rfl) (hn : x ≠ "__name__" := by decide) (hdb : (x == ("__debug__" : Str)) = false := by decide)
    (hs : starEach [a] X.env = (false, eval a X.env) :: starEach [] X.env := by rfl) (hpl : (backTo pos (starEach [] X.env)).any (·.1) = false := by rfl) : MF X hx W (.Call (.Name x p) [a] [] pos) (fUn g fa) :=
  call1F_imp hr (pe_callB hc hg hm hv (pa_cons ha pa_nil hs) hn hdb hs hpl) rfl
theorem mf_t1 {g : D → Res (List D)} (hc : CallR X (.type T) r) (hr : U1F X.K X.mg (fun v => r [v]) g) (hm : X.mg x = none) (hv : bootBuiltins x = some (.type T)) (ha : MR X hx W a fa) (hg : Gl X x := by rfl) (hn : x ≠ "__name__" := by decide) (hdb : (x == ("__debug__" : Str)) = false := by decide)
    (hs : starEach [a] X.env = (false, eval a X.env) :: starEach [] X.env := by rfl) (hpl : (backTo pos (starEach [] X.env)).any (·.1) = false := by rfl) : MF X hx W (.Call (.Name x p) [a] [] pos) (fUn g fa) :=
  call1F_imp hr (pe_callTy hc hg hm hv (pa_cons ha pa_nil hs) hn hdb hs hpl) rfl
theorem call2_imp {t u : TE} {g : D → D → Res D} (hr : O2 X.K X.mg (fun v w => r [v, w]) g) (h : PE X c (tCB r (tCons t (tCons u tNil)))) (hi : t = tG X.K X.mg hx (rrR X.K X.mg) W fa) (hj : u = tG X.K X.mg hx (rrR X.K X.mg) W fb) : ME X hx W c (sOp g fa fb) := pe_imp h fun σ H Q ⟨b, S, ρ, R, q⟩ => by
  subst hi hj
  exact ⟨b, S, ρ, R, q.bind fun d v S1 H1 g1 r1 k => ⟨b, S1, ρ, R.grow g1, (k.upE g1).bind fun d2 v2 S2 H2 g2 r2 k2 => hr S2 σ H2 v v2 d d2 W Q g2.i (r1.up g2) r2 (k2.upE g2)⟩⟩
theorem me_b2 {g : D → D → Res D} (hc : CallR X (.builtin id) r) (hr : O2 X.K X.mg (fun v w => r [v, w]) g) (hm : X.mg x = none) (hv : bootBuiltins x = some (.builtin id)) (ha : MR X hx W a fa) (hb : MR X hx W b fb) (hg : Gl X x := by rfl) (hn : x ≠ "__name__" := by decide) (hdb : (x == ("__debug__" : Str)) = false := by decide)
    (hs : starEach [a, b] X.env = (false, eval a X.env) :: starEach [b] X.env := by rfl) (hs2 : starEach [b] X.env = (false, eval b X.env) :: starEach [] X.env := by rfl) (hpl : (backTo pos (starEach [b] X.env)).any (·.1) = false := by rfl) : ME X hx W (.Call (.Name x p) [a, b] [] pos) (sOp g fa fb) :=
  call2_imp hr (pe_callB hc hg hm hv (pa_cons ha (pa_cons hb pa_nil hs2) hs) hn hdb hs hpl) rfl rfl
/-- a built-in function that a module brings (gcd) -/
theorem me_bf2 {g : D → D → Res D} (hc : CallR X (.builtin id) r) (hr : O2 X.K X.mg (fun v w => r [v, w]) g) (hm : X.mg x = some (.builtin id)) (ha : MR X hx W a fa) (hb : MR X hx W b fb) (hg : Gl X x := by rfl) (hdb : (x == ("__debug__" : Str)) = false := by decide)
    (hs : starEach [a, b] X.env = (false, eval a X.env) :: starEach [b] X.env := by rfl) (hs2 : starEach [b] X.env = (false, eval b X.env) :: starEach [] X.env := by rfl) (hpl : (backTo pos (starEach [b] X.env)).any (·.1) = false := by rfl) : ME X hx W (.Call (.Name x p) [a, b] [] pos) (sOp g fa fb) :=
  call2_imp hr (pe_callBfun hc hg hm (pa_cons ha (pa_cons hb pa_nil hs2) hs) hdb hs hpl) rfl rfl
end

/-! ### raise, try -/
/-- an exception class of the program, without an own __init__ -/
structure ExcT (K : Frg) (mg : Mg) (x : Str) (C : Addr) : Prop where
  g : mg x = some (.ref C)
  xk : PySem.W.excIn K C [.type "ValueError", .type "Exception", .type "BaseException", .type "object"] "ValueError.__new__" = true
  kp : PySem.W.keepIn K (.ref C) = true
  sb : PySem.W.subIn K (.ref C) (.type "BaseException") = some true
  ty : PySem.W.typeIn K (.ref C) = some (.type "type")
@[simp] def gRaise (x : Str) (ρ : Sl) : Out := .exc x [] ρ
theorem ms_raise {X : Cx} {hx : Hx} {W : WX} {x m : Str} {C : Addr} {j : Nat} {p p2 pos pos' : Pos} (c : Cs X W) (T : ExcT X.K X.mg x C) (hg : Gl X x := by rfl) (hdb : (x == ("__debug__" : Str)) = false := by decide) :
    MS X hx W (.Raise (some (.Call (.Name x p) [.Constant (.str m) j p2] [] pos')) none pos) (gRaise x) :=
  ps_imp (ps_raise c.hc c.tk (pmk_own PySem.F.excBase_ValueError T.xk T.g T.kp (raises_own T.sb T.ty) hg hdb)) fun D σ H ⟨b, S, ρ, R, q⟩ => q S σ H C none (Same.refl _) R T.g rfl

/-- try: body / except c as n: suite. tab: which exceptions the clause takes; slot i is n's -/
@[simp] def clrC (c : Cell) : Cell := match c with
  | .xc _ _ => .e
  | c => c
@[simp] def gTry (i : Nat) (tab : Str → Option Bool) (body : Sl → Out) (suite : Sl → Out) (ρ : Sl) : Out := match body ρ with
  | .exc x fs ρ1 => match tab x with
    | some true => if i < ρ1.length then (match suite (ρ1.set i (.xc x fs)) with
      | .nx ρ2 => .nx ((ρ2.set i .e).map clrC)
      | .bk ρ2 => .bk ((ρ2.set i .e).map clrC)
      | .ct ρ2 => .ct ((ρ2.set i .e).map clrC)
      | .ret d => .ret d
      | _ => .bad) else .bad
    | some false => .exc x fs ρ1
    | none => .bad
  | o => o
/-- the clause's class takes what the table says -/
def Tab (K : Frg) (mg : Mg) (tab : Str → Option Bool) (c : Value) : Prop := ∀ x C b, mg x = some (.ref C) → tab x = some b → PySem.W.exmOne K (.ref C) c = some b
def hxOf (a : Addr) (cls : Value) (d : Option Addr) : Hx := match cls with
  | .ref C => some (a, C, d)
  | _ => none
theorem Rel.exc {K : Frg} {mg : Mg} {b : Bs} {S H : Hp} {ρ : Sl} {σ : L2.St} {i : Nat} {a C : Addr} {dx : Option Addr} {c : Str} {fs : List (Str × D)} (R : Rel K mg none b S ρ σ H) (hi : i < ρ.length) (hm : mg c = some (.ref C)) (x : Xd K mg S H dx fs) : Rel K mg (some (a, C, dx)) b S (ρ.set i (.xc c fs)) (σ.set i (some (.ref a))) H where
  s0 := R.s0
  sh := R.sh
  h0 := R.h0
  nw := R.nw
  len := by simp [R.len]
  val := fun j d' e => by
    rcases getset e with ⟨_, h2, _⟩ | ⟨h1, h2⟩
    · cases h2
    · obtain ⟨v', h3, h4⟩ := R.val j d' h2
      exact ⟨v', by rw [List.getElem?_set_ne h1]; exact h3, h4⟩
  own := fun j ds e => by
    rcases getset e with ⟨_, h2, _⟩ | ⟨h1, h2⟩
    · cases h2
    · obtain ⟨p, vs, h3, h4⟩ := R.own j ds h2
      exact ⟨p, vs, by rw [List.getElem?_set_ne h1]; exact h3, h4⟩
  xc := fun j c' fs' e => by
    rcases getset e with ⟨h1, h2, h3⟩ | ⟨h1, h2⟩
    · cases h2
      subst h1
      exact ⟨a, C, dx, rfl, by rw [List.getElem?_set_self (by rw [← R.len]; exact hi)], hm, x⟩
    · obtain ⟨_, _, _, q1, _⟩ := R.xc j c' fs' h2
      cases q1
  apart := fun j k ds es p ne e1 e2 e3 e4 => by
    rcases getset e1 with ⟨_, h2, _⟩ | ⟨h1, h2⟩
    · cases h2
    · rcases getset e2 with ⟨_, h4, _⟩ | ⟨h3, h4⟩
      · cases h4
      · rw [List.getElem?_set_ne h1] at e3
        rw [List.getElem?_set_ne h3] at e4
        exact R.apart j k ds es p ne h2 h4 e3 e4
theorem clr_get {ρ : Sl} {i : Nat} {c : Cell} (h : (ρ.map clrC)[i]? = some c) : ∃ c0, ρ[i]? = some c0 ∧ clrC c0 = c := by
  rw [List.getElem?_map] at h
  cases e : ρ[i]? with
  | none => rw [e] at h; cases h
  | some c0 => rw [e] at h; exact ⟨c0, rfl, Option.some.inj h⟩
theorem Rel.clear {K : Frg} {mg : Mg} {hx : Hx} {b : Bs} {S H : Hp} {ρ : Sl} {σ : L2.St} (R : Rel K mg hx b S ρ σ H) : Rel K mg none b S (ρ.map clrC) σ H where
  s0 := R.s0
  sh := R.sh
  h0 := R.h0
  nw := R.nw
  len := by simp [R.len]
  val := fun i d e => by
    obtain ⟨c0, h1, h2⟩ := clr_get e
    cases c0 <;> cases h2
    exact R.val i _ h1
  own := fun i d e => by
    obtain ⟨c0, h1, h2⟩ := clr_get e
    cases c0 <;> cases h2
    exact R.own i _ h1
  xc := fun i c fs e => by
    obtain ⟨c0, h1, h2⟩ := clr_get e
    cases c0 <;> cases h2
  apart := fun i j ds es p ne e1 e2 => by
    obtain ⟨c0, h1, h2⟩ := clr_get e1
    obtain ⟨c1, h3, h4⟩ := clr_get e2
    cases c0 <;> cases h2
    cases c1 <;> cases h4
    exact R.apart i j _ _ p ne h1 h3
theorem ms_try {X : Cx} {W : WX} (i : Nat) {x n : Str} {c : Value} {body suite : List Stmt} {b₀ : Stmt} {np pos pos' : Pos} {gb gs : Sl → Out} {tab : Str → Option Bool} (cs : Cs X W) (hs : X.stack = X.env :: X.outer) (hf : X.env.frame = some X.env.locals) (hN : X.N.Nodup)
    (hc : Names X x c) (ht : Tab X.K X.mg tab c)
    (hb : ∀ (W' : WX) (pn : List (Addr × Obj)) (xe : Value → Shared → Prop), Cs (X.tr pn xe) W' → MSs (X.tr pn xe) none W' body gb)
    (hsu : ∀ (a : Addr) (oe : Obj) (C : Addr) (d : Option Addr) (pn : List (Addr × Obj)), Zc (.ref C) d oe → (∃ vs, oe.data = .fields vs) → MSs (X.suite a ((a, oe) :: pn)) (some (a, C, d)) W0 (b₀ :: suite) gs)
    (hi : X.N[i]? = some n := by rfl) (hln : X.env.kindOf n = some .local := by rfl) :
    MS X none W (.Try body [.ExceptHandler (some (.Name x np)) (some n) (b₀ :: suite) pos'] [] [] pos) (gTry i tab gb gs) :=
  ps_imp (ps_try_as (tb := fun W' => tS X.K X.mg none W' gb) (ts := fun a cls d D σ H => ∃ C, cls = .ref C ∧ tS X.K X.mg (some (a, C, d)) W0 gs D σ H) (Wout := W) hs hf hN hi hln hc cs.tk (fun W' pn xe tk po => hb W' pn xe ⟨tk, po, cs.hc⟩) (fun a oe cls d pn z hv => ⟨fun pins s σ H D I ⟨C, e, q⟩ => by
      subst e
      exact (hsu a oe C d pn z hv).run pins s σ H D I q⟩)) fun D σ H ⟨b, S, ρ, R, q⟩ => by
    refine ⟨b, S, ρ, R, ?_⟩
    unfold gTry at q
    cases e : gb ρ with
    | nx ρ' => rw [e] at q; exact q
    | ret d => rw [e] at q; exact q
    | bk ρ' => rw [e] at q; exact q
    | ct ρ' => rw [e] at q; exact q
    | bad => rw [e] at q; exact q
    | exc y fs ρ1 =>
      rw [e] at q
      intro S1 σ1 H1 C dx s1 R1 hm hxd
      simp only at q
      cases et : tab y with
      | none => rw [et] at q; exact q.elim
      | some tb =>
        rw [et] at q
        refine ⟨tb, ht y C tb hm et, fun e2 a _ => ?_, fun e2 => ?_⟩
        · subst e2
          simp only at q
          split at q
          · rename_i hil
            refine ⟨C, rfl, b, S1, _, Rel.exc R1 hil hm hxd, ?_⟩
            cases es : gs (ρ1.set i (.xc y fs)) with
            | nx ρ2 => rw [es] at q; exact fun S2 σ2 H2 s2 R2 => q S2 _ H2 (s1.trans s2) (R2.wipe1.clear)
            | bk ρ2 => rw [es] at q; exact fun S2 σ2 H2 s2 R2 => q S2 _ H2 (s1.trans s2) (R2.wipe1.clear)
            | ct ρ2 => rw [es] at q; exact fun S2 σ2 H2 s2 R2 => q S2 _ H2 (s1.trans s2) (R2.wipe1.clear)
            | ret d => rw [es] at q; exact q
            | exc y2 fs2 ρ2 => rw [es] at q; exact q.elim
            | bad => rw [es] at q; exact q.elim
          · exact q.elim
        · subst e2
          exact q S1 σ1 H1 C dx s1 R1 hm hxd

/-! ### isinstance of the exception that a suite holds -/
@[simp] def sIsE (i : Nat) (tab : Str → Option Bool) (ρ : Sl) : Res D := match ρ[i]? with
  | some (.xc x []) => match tab x with
    | some b => .ok (.bl b)
    | none => .bad
  | _ => .bad
/-- isinstance(e, c) by the table: every class that may be held is fit to be asked -/
def TabI (K : Frg) (mg : Mg) (tab : Str → Option Bool) (cv : Value) : Prop := ∀ x C b, mg x = some (.ref C) → tab x = some b → ExcC K C ∧ PySem.W.kitOne K (.ref C) cv = some b
def TabT (K : Frg) (mg : Mg) (tab : Str → Option Bool) (cvs : List Value) : Prop := ∀ x C b, mg x = some (.ref C) → tab x = some b → ExcC K C ∧ PySem.W.kitAny K (.ref C) cvs = some b
section
variable {X : Cx} {a D0 : Addr} {oe : Obj} {pn : List (Addr × Obj)} {d : Option Addr} {W : WX} {ce : Expr} {n : Str} {p p1 pos : Pos} {cv : V} {cu : Value}
theorem xd_none {K : Frg} {mg : Mg} {S H : Hp} {dx : Option Addr} (h : Xd K mg S H dx []) : dx = none := by
  cases dx with
  | none => rfl
  | some a =>
    obtain ⟨ns, xs, ds, h1, ⟨h2, h3⟩, h4, h5⟩ := h
    have hl := h5.len
    cases ns with
    | nil => exact absurd rfl h2
    | cons n ns =>
      cases ds with
      | nil => rw [List.length_nil] at hl; rw [hl] at h3; cases h3
      | cons d ds => cases h1
theorem me_isE (i : Nat) {tab : Str → Option Bool} (hz : Zc (.ref D0) d oe) (hf : ∃ vs, oe.data = .fields vs) (ht : TabI X.K X.mg tab cu) (hv : PE (X.suite a ((a, oe) :: pn)) (.Name n p1) (tVar i)) (hc : PE (X.suite a ((a, oe) :: pn)) ce (tC cv)) (k : ClsV cv cu)
    (hm : X.mg "isinstance" = none) (hg : Gl X "isinstance" := by rfl) (hs : starEach [.Name n p1, ce] X.env = (false, eval (.Name n p1) X.env) :: starEach [ce] X.env := by rfl) (hs2 : starEach [ce] X.env = (false, eval ce X.env) :: starEach [] X.env := by rfl) (hpl : (backTo pos (starEach [ce] X.env)).any (·.1) = false := by rfl) :
    ME (X.suite a ((a, oe) :: pn)) (some (a, D0, d)) W (.Call (.Name "isinstance" p) [.Name n p1, ce] [] pos) (sIsE i tab) := ⟨fun pins s σ H Q I ⟨b, S, ρ, R, q⟩ => by
  unfold sIsE at q
  split at q
  · rename_i x e
    obtain ⟨a1, C1, d1, h1, h2, h3, h4⟩ := R.xc i x [] e
    cases h1
    split at q
    · rename_i tb et
      obtain ⟨t1, t2⟩ := ht x D0 tb h3 et
      have hd := xd_none h4
      subst hd
      exact (pe_callB (x := "isinstance") (call_isE (X := X) (a := a) (pn := pn) t1 hz hf) hg hm PyProof.Rows.boot_isinstance (pa_cons hv (pa_cons hc pa_nil hs2) hs) (by decide) (by decide) hs hpl).run pins s σ H Q I ⟨_, h2, cv, cu, tb, rfl, fun u r => k.eq r, t2, q _ S H (Gr.refl R.sh) (.bl tb)⟩
    · exact q.elim
  · exact q.elim⟩
end
end PF

set_option Elab.async false
set_option linter.all false
set_option maxRecDepth 100000
set_option maxHeartbeats 4000000
namespace PF
open PySem PySem.Spec L2

section
variable {K : Frg} {mg : Mg} {S H : Hp}
theorem Rd1.dp {v : V} {d : D} (i : Same S H) (c : d.py.canLay0 = true) (h : Rd1 K mg S H v d) : Dp K H v d.py := by
  cases d with
  | lst ds =>
    obtain ⟨p, vs, rfl, h2, h3⟩ := h
    exact .lst (SqL.of h2) (RpA.dp ds _ (by simpa [D.py, PyData.canLay0] using c) (h3.up i ds vs))
  | _ => exact Rp.dp _ _ c (Rp.up i _ v h)
theorem Rd1.int {v : V} {i : Int} (h : Rd1 K mg S H v (.int i)) : v = .int i := by
  have h' : Rp K mg S v (.int i) := h
  cases h'; rfl
theorem Rd1.bl {v : V} {i : Bool} (h : Rd1 K mg S H v (.bl i)) : v = .bl i := by
  have h' : Rp K mg S v (.bl i) := h
  cases h'; rfl
theorem Rd1.str {v : V} {i : Str} (h : Rd1 K mg S H v (.str i)) : v = .str i := by
  have h' : Rp K mg S v (.str i) := h
  cases h'; rfl
theorem Rd1.lst {v : V} {ds : List D} (h : Rd1 K mg S H v (.lst ds)) : ∃ (p : Addr) (vs : List V), v = .ref p ∧ H p = some (.lst vs) ∧ RpA K mg S vs ds := h
theorem Rd1.rol {v : V} {ds : List D} (i : Same S H) (h : Rd1 K mg S H v (.rol ds)) : ∃ (p : Addr) (vs : List V), v = .ref p ∧ SqL K H p vs ∧ RpA K mg S vs ds := by
  have h' : Rp K mg S v (.rol ds) := h
  cases h' with
  | rol a b => exact ⟨_, _, rfl, same_l i a, b⟩
theorem Rd1.tup {v : V} {ds : List D} (i : Same S H) (h : Rd1 K mg S H v (.tup ds)) : ∃ (p : Addr) (vs : List V), v = .ref p ∧ SqT K H p vs ∧ SqT K S p vs ∧ RpA K mg S vs ds := by
  have h' : Rp K mg S v (.tup ds) := h
  cases h' with
  | tup a b => exact ⟨_, _, rfl, same_t i a, a, b⟩
theorem Rd1.non {v : V} (h : Rd1 K mg S H v .non) : v = .non := by
  have h' : Rp K mg S v .non := h
  cases h'; rfl
end
theorem po_new {K : Frg} {mg : Mg} {W : WX} {S H : Hp} {σ : L2.St} {ds : List D} {vs : List V} {Q : VK} (i : Same S H) (r : RpA K mg S vs ds) (q : Po K mg (rrE K mg) W S σ H (.ok (.tup ds)) Q) : ∀ p, H p = none → Q (.ref p) (upd H p (.tup vs)) := fun p hp =>
  q _ _ _ (Gr.new i hp) (.tup (SqT.of upd_same) (r.up (same_new (same_none i hp)) _ _))
theorem po_newL {K : Frg} {mg : Mg} {W : WX} {S H : Hp} {σ : L2.St} {ds : List D} {vs : List V} {Q : VK} (i : Same S H) (r : RpA K mg S vs ds) (q : Po K mg (rrF K mg) W S σ H (.ok ds) Q) : ∀ p, H p = none → Q (.ref p) (upd H p (.lst vs)) := fun p hp =>
  q _ S _ (Gr.lay i hp) ⟨p, vs, rfl, hp, same_none i hp, upd_same, r⟩

/-! ### operators -/
@[simp] def oAdd (d e : D) : Res D := match d, e with
  | .int i, .int j => .ok (.int (i + j))
  | .str x, .str y => if x.length + y.length ≤ 16777216 then .ok (.str (x ++ y)) else .bad
  | .tup a, .tup b => if a.length + b.length ≤ 16777216 then .ok (.tup (a ++ b)) else .bad
  | .lst a, .lst b => if a.length + b.length ≤ 16777216 then .ok (.lst (a ++ b)) else .bad
  | _, _ => .bad
@[simp] def oAddI (d e : D) : Res D := match d, e with
  | .int i, .int j => .ok (.int (i + j))
  | _, _ => .bad
@[simp] def oSub (d e : D) : Res D := match d, e with
  | .int i, .int j => .ok (.int (i - j))
  | _, _ => .bad
noncomputable def mulOk (i j : Int) : Bool := cb ((Builtin.Int.intBits i : Int) + Builtin.Int.intBits j ≤ 134217728 ∨ i.natAbs < 18446744073709551616 ∨ j.natAbs < 18446744073709551616)
@[simp] noncomputable def oMul (d e : D) : Res D := match d, e with
  | .int i, .int j => if mulOk i j then .ok (.int (i * j)) else .bad
  | _, _ => .bad
noncomputable def divOk (j : Int) : Bool := cb (j ≠ 0 ∧ j.natAbs.log2 < 9000)
/-- .. or the dividend is below 2 ^ 13500 -/
noncomputable def divOkD (i j : Int) : Bool := cb (j ≠ 0 ∧ i.natAbs.log2 < 13500)
@[simp] noncomputable def oFdiv (d e : D) : Res D := match d, e with
  | .int i, .int j => if divOk j || divOkD i j then .ok (.int (i.fdiv j)) else .bad
  | _, _ => .bad
@[simp] def oMod (d e : D) : Res D := match d, e with
  | .int i, .int j => if j ≠ 0 then .ok (.int (i.fmod j)) else .bad
  | _, _ => .bad
@[simp] noncomputable def oPow (d e : D) : Res D := match d, e with
  | .int i, .int j => if cb (0 ≤ j ∧ j ≤ 1000000 ∧ i.natAbs < 2 ^ 64) then .ok (.int (i ^ j.toNat)) else .bad
  | _, _ => .bad
@[simp] def oNeg (d : D) : Res D := match d with
  | .int i => .ok (.int (-i))
  | _ => .bad
def eqOk (d : D) : Bool := SeqAt.shaped d.py
def eqv (d e : D) : Bool := PyData.eqv d.py e.py
@[simp] def oEq (d e : D) : Res D := if eqOk d && eqOk e then .ok (.bl (eqv d e)) else .bad
@[simp] def oNe (d e : D) : Res D := if eqOk d && eqOk e then .ok (.bl (!eqv d e)) else .bad
@[simp] noncomputable def oLt (d e : D) : Res D := match d, e with
  | .int i, .int j => .ok (.bl (cb (i < j)))
  | _, _ => .bad
@[simp] noncomputable def oLe (d e : D) : Res D := match d, e with
  | .int i, .int j => .ok (.bl (cb (i ≤ j)))
  | _, _ => .bad
@[simp] noncomputable def oGt (d e : D) : Res D := match d, e with
  | .int i, .int j => .ok (.bl (cb (j < i)))
  | _, _ => .bad
@[simp] noncomputable def oGe (d e : D) : Res D := match d, e with
  | .int i, .int j => .ok (.bl (cb (j ≤ i)))
  | _, _ => .bad
@[simp] def isNon (d : D) : Bool := match d with
  | .non => true
  | _ => false
@[simp] def oIsN (d e : D) : Res D := match e with
  | .non => .ok (.bl (isNon d))
  | _ => .bad
@[simp] def oNotN (d e : D) : Res D := match e with
  | .non => .ok (.bl (!isNon d))
  | _ => .bad
@[simp] noncomputable def fRep (d e : D) : Res (List D) := match d, e with
  | .lst xs, .int k => if cb (-(2 ^ 63) ≤ k ∧ k < 2 ^ 63 ∧ xs.length * k.toNat ≤ 16777216) then .ok (List.replicate k.toNat xs).flatten else .bad
  | _, _ => .bad
@[simp] def fCat (d e : D) : Res (List D) := match d, e with
  | .lst xs, .lst ys => if xs.length + ys.length ≤ 16777216 then .ok (xs ++ ys) else .bad
  | _, _ => .bad
section
variable {X : Cx}
theorem CMulX_of_small {i j : Int} (h : mulOk i j = true) : IntMulOk i j := by
  rcases of_cb h with h | h | h
  · exact CMulX.ok h
  · exact CMul.ok (.inl ⟨by omega, by omega⟩)
  · exact CMul.ok (.inr ⟨by omega, by omega⟩)
theorem op_mulU : OpR X (binaryOp .Mult) (rI (fun i j => mulOk i j = true) fun i j => .int (i * j)) := opI fun _ _ _ _ _ _ _ hc q => PyProof.Rows.mul_int q (CMulX_of_small hc)
theorem noPy_dividend {x y : Int} (h : x.natAbs.log2 < 13500) : Builtin.divisionGoesByPylong x y = false := by
  have kx : (if x == 0 then 0 else x.natAbs.log2 / 30 + 1) ≤ 450 := by
    by_cases hx : (x == 0) = true
    · rw [if_pos hx]; exact Nat.zero_le _
    · rw [if_neg hx]; omega
  show (decide ((if y == 0 then 0 else y.natAbs.log2 / 30 + 1) > 300) && decide ((if x == 0 then 0 else x.natAbs.log2 / 30 + 1) > (if y == 0 then 0 else y.natAbs.log2 / 30 + 1) + 150)) = false
  by_cases hy : (if y == 0 then 0 else y.natAbs.log2 / 30 + 1) > 300
  · rw [decide_eq_false (p := (if x == 0 then 0 else x.natAbs.log2 / 30 + 1) > (if y == 0 then 0 else y.natAbs.log2 / 30 + 1) + 150) (by omega), Bool.and_false]
  · rw [decide_eq_false hy, Bool.false_and]
theorem op_fdivU : OpR X (binaryOp .FloorDiv) (rI (fun i j => (divOk j || divOkD i j) = true) fun i j => .int (i.fdiv j)) := opI fun i j _ _ _ _ _ hc q => by
  rcases Bool.or_eq_true_iff.mp hc with hc | hc
  · obtain ⟨h1, h2⟩ := of_cb hc
    exact PyProof.Rows.floordiv_int h1 q (.inl (PyProof.noPylong_of_log2 h2))
  · obtain ⟨h1, h2⟩ := of_cb hc
    exact PyProof.Rows.floordiv_int h1 q (.inl (noPy_dividend h2))
abbrev rAddU (K : Frg) : R2 := fun x y H Q => rI0 (fun i j => .int (i + j)) x y H Q ∨ ((fun x y H Q => ∃ i j, x = V.str i ∧ y = V.str j ∧ i.length + j.length ≤ sizeLine ∧ Q (V.str (i ++ j)) H : R2) x y H Q ∨ (rCatA K x y H Q ∨ rCat x y H Q))
theorem op_addU : OpR X (binaryOp .Add) (rAddU X.K) := op_add.or (op_add_str.or (op_catA.or op_cat))
end
section
variable {K : Frg} {mg : Mg}
theorem o_add : O2 K mg (rAddU K) oAdd := fun S σ H x y d e W Q i hx hy q => by
  unfold oAdd at q
  split at q
  · exact .inl ⟨_, _, hx.int, hy.int, q _ _ _ (Gr.refl i) (.int _)⟩
  · split at q
    · rename_i hl
      exact .inr (.inl ⟨_, _, hx.str, hy.str, sizeLine16 hl, q _ _ _ (Gr.refl i) (.str _)⟩)
    · exact q.elim
  · rename_i a b
    split at q
    · rename_i hl
      obtain ⟨p1, v1, rfl, h1, k1, r1⟩ := hx.tup i
      obtain ⟨p2, v2, rfl, h2, k2, r2⟩ := hy.tup i
      refine .inr (.inr (.inl ⟨p1, p2, v1, v2, rfl, rfl, h1, h2, sizeLine16 (by rw [r1.len, r2.len]; exact hl), fun e => ?_, fun _ e => ?_, fun _ _ => po_new i (r1.app r2) q⟩))
      · subst e
        cases r1
        exact q _ S H (Gr.refl i) (.tup k2 r2)
      · subst e
        cases r2
        rw [List.append_nil] at q
        exact q _ S H (Gr.refl i) (.tup k1 r1)
    · exact q.elim
  · split at q
    · rename_i hl
      obtain ⟨p1, v1, rfl, h1, r1⟩ := hx.lst
      obtain ⟨p2, v2, rfl, h2, r2⟩ := hy.lst
      exact .inr (.inr (.inr ⟨p1, p2, v1, v2, rfl, rfl, h1, h2, sizeLine16 (by rw [r1.len, r2.len]; exact hl), fun p hp => q _ _ _ (Gr.new i hp) (.lst upd_same ((r1.app r2).up (same_new (same_none i hp)) _ _))⟩))
    · exact q.elim
  · exact q.elim
theorem o_sub : O2 K mg (rI0 fun i j => .int (i - j)) oSub := fun S σ H x y d e W Q i hx hy q => by
  unfold oSub at q
  split at q
  · exact ⟨_, _, hx.int, hy.int, q _ _ _ (Gr.refl i) (.int _)⟩
  · exact q.elim
theorem o_addI : O2 K mg (rI0 fun i j => .int (i + j)) oAddI := fun S σ H x y d e W Q i hx hy q => by
  unfold oAddI at q
  split at q
  · exact ⟨_, _, hx.int, hy.int, q _ _ _ (Gr.refl i) (.int _)⟩
  · exact q.elim
theorem o_mul : O2 K mg (rI (fun i j => mulOk i j = true) fun i j => .int (i * j)) oMul := fun S σ H x y d e W Q i hx hy q => by
  unfold oMul at q
  split at q
  · split at q
    · rename_i hc
      exact ⟨_, _, hx.int, hy.int, hc, q _ _ _ (Gr.refl i) (.int _)⟩
    · exact q.elim
  · exact q.elim
theorem o_fdiv : O2 K mg (rI (fun i j => (divOk j || divOkD i j) = true) fun i j => .int (i.fdiv j)) oFdiv := fun S σ H x y d e W Q i hx hy q => by
  unfold oFdiv at q
  split at q
  · split at q
    · rename_i hc
      exact ⟨_, _, hx.int, hy.int, hc, q _ _ _ (Gr.refl i) (.int _)⟩
    · exact q.elim
  · exact q.elim
theorem o_mod : O2 K mg (rI (fun _ j => j ≠ 0) fun i j => .int (i.fmod j)) oMod := fun S σ H x y d e W Q i hx hy q => by
  unfold oMod at q
  split at q
  · split at q
    · rename_i hc
      exact ⟨_, _, hx.int, hy.int, hc, q _ _ _ (Gr.refl i) (.int _)⟩
    · exact q.elim
  · exact q.elim
theorem o_pow : O2 K mg (rI CPow fun i j => .int (i ^ j.toNat)) oPow := fun S σ H x y d e W Q i hx hy q => by
  unfold oPow at q
  split at q
  · split at q
    · rename_i hc
      exact ⟨_, _, hx.int, hy.int, of_cb hc, q _ _ _ (Gr.refl i) (.int _)⟩
    · exact q.elim
  · exact q.elim
theorem o_neg : U1 K mg (rU fun i => .int (-i)) oNeg := fun S σ H v d W Q i hx q => by
  unfold oNeg at q
  split at q
  · exact ⟨_, hx.int, q _ _ _ (Gr.refl i) (.int _)⟩
  · exact q.elim
theorem o_eq : O2 K mg (rEqD K) oEq := fun S σ H x y d e W Q i hx hy q => by
  unfold oEq at q
  split at q
  · rename_i hc
    obtain ⟨c1, c2⟩ := Bool.and_eq_true_iff.mp hc
    exact ⟨_, _, hx.dp i (SeqAt.canLay_of_shaped c1), hy.dp i (SeqAt.canLay_of_shaped c2), c1, c2, q _ _ _ (Gr.refl i) (.bl _)⟩
  · exact q.elim
theorem o_ne : O2 K mg (rNeD K) oNe := fun S σ H x y d e W Q i hx hy q => by
  unfold oNe at q
  split at q
  · rename_i hc
    obtain ⟨c1, c2⟩ := Bool.and_eq_true_iff.mp hc
    exact ⟨_, _, hx.dp i (SeqAt.canLay_of_shaped c1), hy.dp i (SeqAt.canLay_of_shaped c2), c1, c2, q _ _ _ (Gr.refl i) (.bl _)⟩
  · exact q.elim
theorem o_lt : O2 K mg (rI0 fun i j => .bl (decide (i < j))) oLt := fun S σ H x y d e W Q i hx hy q => by
  unfold oLt at q
  split at q
  · exact ⟨_, _, hx.int, hy.int, by dsimp only; rw [← cb_dec]; exact q _ _ _ (Gr.refl i) (.bl _)⟩
  · exact q.elim
theorem o_le : O2 K mg (rI0 fun i j => .bl (decide (i ≤ j))) oLe := fun S σ H x y d e W Q i hx hy q => by
  unfold oLe at q
  split at q
  · exact ⟨_, _, hx.int, hy.int, by dsimp only; rw [← cb_dec]; exact q _ _ _ (Gr.refl i) (.bl _)⟩
  · exact q.elim
theorem o_gt : O2 K mg (rI0 fun i j => .bl (decide (j < i))) oGt := fun S σ H x y d e W Q i hx hy q => by
  unfold oGt at q
  split at q
  · exact ⟨_, _, hx.int, hy.int, by dsimp only; rw [← cb_dec]; exact q _ _ _ (Gr.refl i) (.bl _)⟩
  · exact q.elim
theorem o_ge : O2 K mg (rI0 fun i j => .bl (decide (j ≤ i))) oGe := fun S σ H x y d e W Q i hx hy q => by
  unfold oGe at q
  split at q
  · exact ⟨_, _, hx.int, hy.int, by dsimp only; rw [← cb_dec]; exact q _ _ _ (Gr.refl i) (.bl _)⟩
  · exact q.elim
theorem isNon_v {S H : Hp} {v : V} {d : D} (h : Rd1 K mg S H v d) : decide (v = .non) = isNon d := by
  cases d with
  | lst ds => obtain ⟨p, vs, rfl, _⟩ := h; rfl
  | non => have h' : Rp K mg S v _ := h; cases h'; rfl
  | bl b => have h' : Rp K mg S v _ := h; cases h'; rfl
  | int i => have h' : Rp K mg S v _ := h; cases h'; rfl
  | str x => have h' : Rp K mg S v _ := h; cases h'; rfl
  | rol ds => have h' : Rp K mg S v _ := h; cases h'; rfl
  | tup ds => have h' : Rp K mg S v _ := h; cases h'; rfl
  | obj c ns ds => have h' : Rp K mg S v _ := h; cases h'; rfl
  | fr ds => have h' : Rp K mg S v _ := h; cases h'
  | raw a => have h' : Rp K mg S v _ := h; cases h'; rfl
theorem o_isN : O2 K mg (fun x y H Q => y = .non ∧ Q (.bl (decide (x = .non))) H) oIsN := fun S σ H x y d e W Q i hx hy q => by
  unfold oIsN at q
  split at q
  · exact ⟨hy.non, by rw [isNon_v hx]; exact q _ _ _ (Gr.refl i) (.bl _)⟩
  · exact q.elim
theorem o_notN : O2 K mg (fun x y H Q => y = .non ∧ Q (.bl (!decide (x = .non))) H) oNotN := fun S σ H x y d e W Q i hx hy q => by
  unfold oNotN at q
  split at q
  · exact ⟨hy.non, by rw [isNon_v hx]; exact q _ _ _ (Gr.refl i) (.bl _)⟩
  · exact q.elim
theorem RpA.rep {S : Hp} {vs : List V} {ds : List D} (r : RpA K mg S vs ds) : ∀ n, RpA K mg S (List.replicate n vs).flatten (List.replicate n ds).flatten
  | 0 => .nil
  | n + 1 => by
    rw [List.replicate_succ, List.replicate_succ, List.flatten_cons, List.flatten_cons]
    exact r.app (r.rep n)
theorem f_rep : O2F K mg rRep fRep := fun S σ H x y d e W Q i hx hy q => by
  unfold fRep at q
  split at q
  · split at q
    · rename_i hc0
      have hc := of_cb hc0
      obtain ⟨p, vs, rfl, h1, h2⟩ := hx.lst
      exact ⟨p, _, vs, rfl, hy.int, h1, hc.1, hc.2.1, sizeLine16 (by rw [h2.len]; exact hc.2.2), po_newL i (h2.rep _) q⟩
    · exact q.elim
  · exact q.elim
theorem f_cat : O2F K mg rCat fCat := fun S σ H x y d e W Q i hx hy q => by
  unfold fCat at q
  split at q
  · split at q
    · rename_i hc
      obtain ⟨p, vs, rfl, h1, h2⟩ := hx.lst
      obtain ⟨p', vs', rfl, h3, h4⟩ := hy.lst
      exact ⟨p, p', vs, vs', rfl, rfl, h1, h3, sizeLine16 (by rw [h2.len, h4.len]; exact hc), po_newL i (h2.app h4) q⟩
    · exact q.elim
  · exact q.elim
end
/-- t * k of a tuple (fewer than a thousand items of either) -/
def oRepT (d e : D) : Res D := match d, e with
  | .tup xs, .int k => if xs.isEmpty then .ok (.tup []) else .bad
  | _, _ => .bad

/-! ### places and parts -/
@[simp] def oIx (d e : D) : Res D := match d, e with
  | .lst xs, .int i => match atI xs i with
    | some v => .ok v
    | none => .bad
  | .rol xs, .int i => match atI xs i with
    | some v => .ok v
    | none => .bad
  | .tup xs, .int i => match atI xs i with
    | some v => .ok v
    | none => .bad
  | .str x, .int i => if x.length ≤ 16777216 then (match atI x.cps.toList i with
    | some c => .ok (.str ⟨#[c]⟩)
    | none => .bad) else .bad
  | _, _ => .bad
theorem atI_up {K : Frg} {mg : Mg} {S : Hp} {vs : List V} {ds : List D} {i : Int} {d : D} (r : RpA K mg S vs ds) (h : atI ds i = some d) : ∃ v, atI vs i = some v ∧ Rp K mg S v d := by
  unfold atI at h ⊢
  rw [r.len]
  cases e : ixN ds.length i with
  | none => rw [e] at h; cases h
  | some j =>
    rw [e] at h
    exact r.get h
theorem o_ix {K : Frg} {mg : Mg} : O2 K mg (rIx K) oIx := fun S σ H x y d e W Q i hx hy q => by
  unfold oIx at q
  split at q
  · split at q
    · rename_i v ha
      obtain ⟨p, vs, rfl, h1, h2⟩ := hx.lst
      obtain ⟨u, h3, h4⟩ := atI_up h2 ha
      exact .inl ⟨p, vs, _, u, rfl, hy.int, SqL.of h1, h3, q _ _ _ (Gr.refl i) h4⟩
    · exact q.elim
  · split at q
    · rename_i v ha
      obtain ⟨p, vs, rfl, h1, h2⟩ := hx.rol i
      obtain ⟨u, h3, h4⟩ := atI_up h2 ha
      exact .inl ⟨p, vs, _, u, rfl, hy.int, h1, h3, q _ _ _ (Gr.refl i) h4⟩
    · exact q.elim
  · split at q
    · rename_i v ha
      obtain ⟨p, vs, rfl, h1, _, h2⟩ := hx.tup i
      obtain ⟨u, h3, h4⟩ := atI_up h2 ha
      exact .inr (.inl ⟨p, vs, _, u, rfl, hy.int, h1, h3, q _ _ _ (Gr.refl i) h4⟩)
    · exact q.elim
  · split at q
    · rename_i hl
      split at q
      · rename_i c hc
        exact .inr (.inr ⟨_, _, c, hx.str, hy.int, sizeLine16 hl, hc, q _ _ _ (Gr.refl i) (.str _)⟩)
      · exact q.elim
    · exact q.elim
  · exact q.elim

/-! ### built-ins -/
@[simp] def bLen (d : D) : Res D := match d with
  | .lst xs => .ok (.int xs.length)
  | .rol xs => .ok (.int xs.length)
  | .tup xs => .ok (.int xs.length)
  | .str x => if x.length ≤ 16777216 then .ok (.int x.length) else .bad
  | _ => .bad
@[simp] def bAbs (d : D) : Res D := match d with
  | .int i => .ok (.int (if i < 0 then -i else i))
  | _ => .bad
@[simp] def bInt (d : D) : Res D := match d with
  | .int i => .ok (.int i)
  | .bl b => .ok (.int (if b then 1 else 0))
  | _ => .bad
@[simp] def bTup (d : D) : Res D := match d with
  | .lst xs => .ok (.tup xs)
  | .rol xs => .ok (.tup xs)
  | .tup xs => .ok (.tup xs)
  | _ => .bad
@[simp] def bLst (d : D) : Res (List D) := match d with
  | .lst xs => .ok xs
  | .rol xs => .ok xs
  | .tup xs => .ok xs
  | _ => .bad
@[simp] def bGcd (d e : D) : Res D := match d, e with
  | .int i, .int j => .ok (.int ((Nat.gcd i.natAbs j.natAbs : Nat) : Int))
  | _, _ => .bad
def dInts : List D → Option (List Int)
  | [] => some []
  | .int i :: r => (dInts r).map (i :: ·)
  | _ => none
def dBls : List D → Option (List Bool)
  | [] => some []
  | .bl i :: r => (dBls r).map (i :: ·)
  | _ => none
theorem dInts_map : ∀ {ds : List D} {ns : List Int}, dInts ds = some ns → ds = ns.map D.int
  | [], ns, h => by cases h; rfl
  | d :: r, ns, h => by
    cases d <;> first | cases h | skip
    rename_i i
    simp only [dInts, Option.map_eq_some_iff] at h
    obtain ⟨ms, h1, rfl⟩ := h
    rw [dInts_map h1]
    rfl
theorem dBls_map : ∀ {ds : List D} {ns : List Bool}, dBls ds = some ns → ds = ns.map D.bl
  | [], ns, h => by cases h; rfl
  | d :: r, ns, h => by
    cases d <;> first | cases h | skip
    rename_i i
    simp only [dBls, Option.map_eq_some_iff] at h
    obtain ⟨ms, h1, rfl⟩ := h
    rw [dBls_map h1]
    rfl
@[simp] theorem dInts_ok : ∀ ns : List Int, dInts (ns.map D.int) = some ns
  | [] => rfl
  | n :: ns => by simp [dInts, dInts_ok ns]
@[simp] theorem dBls_ok : ∀ ns : List Bool, dBls (ns.map D.bl) = some ns
  | [] => rfl
  | n :: ns => by simp [dBls, dBls_ok ns]
@[simp] def seqOf (d : D) : Option (List D) := match d with
  | .lst ds => some ds
  | .rol ds => some ds
  | _ => none
theorem Rd1.seq {K : Frg} {mg : Mg} {S H : Hp} {v : V} {d : D} {ds : List D} (i : Same S H) (h : Rd1 K mg S H v d) (e : seqOf d = some ds) : ∃ (p : Addr) (vs : List V), v = .ref p ∧ SqL K H p vs ∧ RpA K mg S vs ds := by
  cases d <;> cases e
  · obtain ⟨p, vs, h1, h2, h3⟩ := h.lst
    exact ⟨p, vs, h1, SqL.of h2, h3⟩
  · exact h.rol i
@[simp] def bSum (d : D) : Res D := match seqOf d with
  | some ds => match dInts ds with
    | some ns => .ok (.int ns.sum)
    | none => .bad
  | none => .bad
@[simp] def bAll (d : D) : Res D := match seqOf d with
  | some ds => match dBls ds with
    | some ns => .ok (.bl (ns.all id))
    | none => .bad
  | none => .bad
@[simp] def bAny (d : D) : Res D := match seqOf d with
  | some ds => match dBls ds with
    | some ns => .ok (.bl (ns.any id))
    | none => .bad
  | none => .bad
@[simp] def bBits (d : D) : Res D := match d with
  | .int i => .ok (.int (Builtin.Int.intBits i : Nat))
  | _ => .bad
/-- the built-in type of a value -/
@[simp] def dTy (d : D) : Option String := match d with
  | .non => some "NoneType"
  | .bl _ => some "bool"
  | .int _ => some "int"
  | .str _ => some "str"
  | .lst _ => some "list"
  | .tup _ => some "tuple"
  | _ => none
@[simp] def bIsi (t : String) (d : D) : Res D := match dTy d with
  | some a => match kitB a t with
    | some b => .ok (.bl b)
    | none => .bad
  | none => .bad
section
variable {K : Frg} {mg : Mg}
theorem b_len : U1 K mg (fun v => (fun xs H Q => ∃ x n, xs = [x] ∧ LenV K x H n ∧ Q (V.int n) H : List V → Hp → VK → Prop) [v]) bLen := fun S σ H v d W Q i hx q => by
  unfold bLen at q
  split at q
  · obtain ⟨p, vs, rfl, h1, h2⟩ := hx.lst
    exact ⟨_, _, rfl, .inl ⟨vs, SqL.of h1, rfl⟩, by rw [h2.len]; exact q _ _ _ (Gr.refl i) (.int _)⟩
  · obtain ⟨p, vs, rfl, h1, h2⟩ := hx.rol i
    exact ⟨_, _, rfl, .inl ⟨vs, h1, rfl⟩, by rw [h2.len]; exact q _ _ _ (Gr.refl i) (.int _)⟩
  · obtain ⟨p, vs, rfl, h1, _, h2⟩ := hx.tup i
    exact ⟨_, _, rfl, .inr ⟨vs, h1, rfl⟩, by rw [h2.len]; exact q _ _ _ (Gr.refl i) (.int _)⟩
  · split at q
    · rename_i hl
      rw [hx.str]
      exact ⟨_, _, rfl, ⟨sizeLine16 hl, rfl⟩, q _ _ _ (Gr.refl i) (.int _)⟩
    · exact q.elim
  · exact q.elim
theorem b_abs : U1 K mg (fun v => (fun xs H Q => ∃ i, xs = [V.int i] ∧ Q (V.int (if i < 0 then -i else i)) H : List V → Hp → VK → Prop) [v]) bAbs := fun S σ H v d W Q i hx q => by
  unfold bAbs at q
  split at q
  · rw [hx.int]; exact ⟨_, rfl, q _ _ _ (Gr.refl i) (.int _)⟩
  · exact q.elim
theorem b_int : U1 K mg (fun v => (fun xs H Q => (∃ i, xs = [V.int i] ∧ Q (V.int i) H) ∨ ∃ k, xs = [V.bl k] ∧ Q (V.int (if k then 1 else 0)) H : List V → Hp → VK → Prop) [v]) bInt := fun S σ H v d W Q i hx q => by
  unfold bInt at q
  split at q
  · rw [hx.int]; exact .inl ⟨_, rfl, q _ _ _ (Gr.refl i) (.int _)⟩
  · rw [hx.bl]; exact .inr ⟨_, rfl, q _ _ _ (Gr.refl i) (.int _)⟩
  · exact q.elim
theorem b_tup : U1 K mg (fun v => (fun xs H Q => ∃ p ys, xs = [V.ref p] ∧ ((SqL K H p ys ∧ ∀ l, H l = none → Q (V.ref l) (upd H l (.tup ys))) ∨ (SqT K H p ys ∧ Q (V.ref p) H)) : List V → Hp → VK → Prop) [v]) bTup := fun S σ H v d W Q i hx q => by
  unfold bTup at q
  split at q
  · obtain ⟨p, vs, rfl, h1, h2⟩ := hx.lst
    exact ⟨p, vs, rfl, .inl ⟨SqL.of h1, po_new i h2 q⟩⟩
  · obtain ⟨p, vs, rfl, h1, h2⟩ := hx.rol i
    exact ⟨p, vs, rfl, .inl ⟨h1, po_new i h2 q⟩⟩
  · obtain ⟨p, vs, rfl, h1, h2, h3⟩ := hx.tup i
    exact ⟨p, vs, rfl, .inr ⟨h1, q _ _ _ (Gr.refl i) (.tup h2 h3)⟩⟩
  · exact q.elim
theorem b_lst : U1F K mg (fun v => (fun xs H Q => ∃ p ys, xs = [V.ref p] ∧ (SqL K H p ys ∨ SqT K H p ys) ∧ ∀ l, H l = none → Q (V.ref l) (upd H l (.lst ys)) : List V → Hp → VK → Prop) [v]) bLst := fun S σ H v d W Q i hx q => by
  unfold bLst at q
  split at q
  · obtain ⟨p, vs, rfl, h1, h2⟩ := hx.lst
    exact ⟨p, vs, rfl, .inl (SqL.of h1), po_newL i h2 q⟩
  · obtain ⟨p, vs, rfl, h1, h2⟩ := hx.rol i
    exact ⟨p, vs, rfl, .inl h1, po_newL i h2 q⟩
  · obtain ⟨p, vs, rfl, h1, h2, h3⟩ := hx.tup i
    exact ⟨p, vs, rfl, .inr h1, po_newL i h3 q⟩
  · exact q.elim
theorem b_gcd : O2 K mg (fun v w => rGcd [v, w]) bGcd := fun S σ H x y d e W Q i hx hy q => by
  unfold bGcd at q
  split at q
  · rw [hx.int, hy.int]; exact ⟨_, _, rfl, q _ _ _ (Gr.refl i) (.int _)⟩
  · exact q.elim
theorem b_sum : U1 K mg (fun v => rSum K [v]) bSum := fun S σ H v d W Q i hx q => by
  unfold bSum at q
  split at q
  · rename_i ds e
    split at q
    · rename_i ns e2
      obtain ⟨p, vs, rfl, h1, h2⟩ := hx.seq i e
      rw [dInts_map e2] at h2
      rw [h2.ints] at h1
      exact ⟨p, ns, rfl, h1, q _ _ _ (Gr.refl i) (.int _)⟩
    · exact q.elim
  · exact q.elim
theorem b_all : U1 K mg (fun v => rAll K [v]) bAll := fun S σ H v d W Q i hx q => by
  unfold bAll at q
  split at q
  · rename_i ds e
    split at q
    · rename_i ns e2
      obtain ⟨p, vs, rfl, h1, h2⟩ := hx.seq i e
      rw [dBls_map e2] at h2
      rw [h2.bls] at h1
      exact ⟨p, ns, rfl, h1, q _ _ _ (Gr.refl i) (.bl _)⟩
    · exact q.elim
  · exact q.elim
theorem b_any : U1 K mg (fun v => rAny K [v]) bAny := fun S σ H v d W Q i hx q => by
  unfold bAny at q
  split at q
  · rename_i ds e
    split at q
    · rename_i ns e2
      obtain ⟨p, vs, rfl, h1, h2⟩ := hx.seq i e
      rw [dBls_map e2] at h2
      rw [h2.bls] at h1
      exact ⟨p, ns, rfl, h1, q _ _ _ (Gr.refl i) (.bl _)⟩
    · exact q.elim
  · exact q.elim
theorem Rd1.tyx {S H : Hp} {v : V} {d : D} {a : String} (i : Same S H) (h : Rd1 K mg S H v d) (e : dTy d = some a) : TyX K H v (.type a) := by
  cases d with
  | non => cases e; rw [h.non]; exact .base .non
  | bl b => cases e; rw [h.bl]; exact .base (.bl b)
  | int n => cases e; rw [h.int]; exact .base (.int n)
  | str x => cases e; rw [h.str]; exact .base (.str x)
  | lst ds => cases e; obtain ⟨p, vs, rfl, h1, h2⟩ := h.lst; exact .base (.lst h1)
  | tup ds =>
    cases e
    obtain ⟨p, vs, rfl, h1, h2, h3⟩ := h.tup i
    rcases h1 with (h1 | ⟨o, h1⟩) | ⟨o, its, n, h1, h2, _⟩
    · exact .base (.tup h1)
    · exact .fTuple h1
    · exact .kTuple h1 h2
  | _ => cases e
/-- isinstance(x, T), T a built-in class -/
theorem me_isi {X : Cx} {hx : Hx} {W : WX} {a : Expr} {fa : Sl → Res D} {t : Str} {T : String} {p p1 pos : Pos} (ha : MR X hx W a fa) (hv : bootBuiltins t = some (.type T)) (hm : X.mg "isinstance" = none) (hm2 : X.mg t = none) (hg : Gl X "isinstance" := by rfl) (hg2 : Gl X t := by rfl) (hn : t ≠ "__name__" := by decide) (hdb : (t == ("__debug__" : Str)) = false := by decide)
    (hs : starEach [a, .Name t p1] X.env = (false, eval a X.env) :: starEach [.Name t p1] X.env := by rfl) (hs2 : starEach [.Name t p1] X.env = (false, eval (.Name t p1) X.env) :: starEach [] X.env := by rfl) (hpl : (backTo pos (starEach [.Name t p1] X.env)).any (·.1) = false := by rfl) :
    ME X hx W (.Call (.Name "isinstance" p) [a, .Name t p1] [] pos) (sUn (bIsi T) fa) :=
  pe_imp (pe_callB (x := "isinstance") call_isi hg hm PyProof.Rows.boot_isinstance (pa_cons ha (pa_cons (pe_bltn (v := .ty T) hg2 hm2 hv rfl hn hdb) pa_nil hs2) hs) (by decide) (by decide) hs hpl) fun σ H Q ⟨b, S, ρ, R, q⟩ => ⟨b, S, ρ, R, q.bind fun d v S1 H1 g1 r1 k => by
    unfold bIsi at k
    split at k
    · rename_i a e1
      split at k
      · rename_i tb e2
        exact ⟨v, .ty T, .type a, .type T, tb, rfl, .ty T, Rd1.tyx g1.i r1 e1, kit_ty e2, k _ S1 H1 g1 (.bl tb)⟩
      · exact k.elim
    · exact k.elim⟩
/-- x.bit_length() -/
theorem me_bits {X : Cx} {hx : Hx} {W : WX} {o : Expr} {fo : Sl → Res D} {apos pos : Pos} (ho : MR X hx W o fo) (hbase : attributeBase o "bit_length" X.env (eval o X.env) = eval o X.env := by rfl) (hline : (apos.endLine == pos.line) = true := by rfl) :
    ME X hx W (.Call (.Attribute o "bit_length" apos) [] [] pos) (sUn bBits fo) := pe_imp (pe_bits ho hbase hline) fun σ H Q ⟨b, S, ρ, R, q⟩ => ⟨b, S, ρ, R, q.bind fun d v S1 H1 g1 r1 k => by
    unfold bBits at k
    split at k
    · exact ⟨_, r1.int, k _ S1 H1 g1 (.int _)⟩
    · exact k.elim⟩
/-- a slice's part -/
abbrev rrP : RR (Option Int) (Option Int) := fun _ _ _ b c => b = c
@[simp] def pNone (_ : Sl) : Res (Option Int) := .ok none
@[simp] def pSome (f : Sl → Res D) (ρ : Sl) : Res (Option Int) := (f ρ).bind fun d => match d with
  | .int i => .ok (some i)
  | _ => .bad
abbrev MP (X : Cx) (hx : Hx) (W : WX) (e : Option Expr) (f : Sl → Res (Option Int)) : Prop := PO X e (tG X.K X.mg hx rrP W f)
theorem po_imp {X : Cx} {e : Option Expr} {t t' : TO} (h : PO X e t) (i : ∀ σ H Q, t' σ H Q → t σ H Q) : PO X e t' := ⟨fun pins s σ H Q I q => h.run pins s σ H Q I (i σ H Q q)⟩
theorem mp_none {X : Cx} {hx : Hx} {W : WX} : MP X hx W none pNone := po_imp po_none fun σ H Q ⟨b, S, ρ, R, q⟩ => q none S H (Gr.refl R.sh) rfl
theorem mp_some {X : Cx} {hx : Hx} {W : WX} {e : Expr} {f : Sl → Res D} (h : ME X hx W e f) : MP X hx W (some e) (pSome f) := po_imp (po_some h) fun σ H Q ⟨b, S, ρ, R, q⟩ => ⟨b, S, ρ, R, q.bind fun d v S1 H1 g1 r1 k => by
  cases d <;> first | exact k.elim | skip
  cases r1
  exact ⟨_, rfl, k _ S1 H1 g1 rfl⟩⟩
theorem Po.upP {W : WX} {S H S' H' : Hp} {σ : L2.St} {r : Res (Option Int)} {Q : Option Int → Hp → Prop} (g : Gr S H S' H') (h : Po K mg rrP W S σ H r Q) : Po K mg rrP W S' σ H' r Q := h.up g fun _ _ _ _ _ q => q
def cutD (xs : List D) (lo hi : Option Int) : List D := (xs.drop (HT.sIx xs.length 0 lo)).take (HT.sIx xs.length xs.length hi - HT.sIx xs.length 0 lo)
theorem RpA.cut {S : Hp} {vs : List V} {ds : List D} (r : RpA K mg S vs ds) (lo hi : Option Int) : RpA K mg S (cutV vs lo hi) (cutD ds lo hi) := by
  unfold cutV cutD
  rw [r.len]
  exact (r.drop _).take _
@[simp] def fSl (f : Sl → Res D) (l h : Sl → Res (Option Int)) (ρ : Sl) : Res (List D) := (f ρ).bind fun d => (l ρ).bind fun lo => (h ρ).bind fun hi => match seqOf d with
  | some xs => .ok (cutD xs lo hi)
  | none => .bad
/-- a slice of a list: new -/
theorem mf_sl {X : Cx} {hx : Hx} {W : WX} {e : Expr} {lo hi : Option Expr} {f : Sl → Res D} {l h : Sl → Res (Option Int)} {pos p2 : Pos} (he : MR X hx W e f) (hl : MP X hx W lo l) (hh : MP X hx W hi h) : MF X hx W (.Subscript e (.Slice lo hi none p2) pos) (fSl f l h) :=
  pe_imp (pe_slice sl_list he hl hh) fun σ H Q ⟨b, S, ρ, R, q⟩ => ⟨b, S, ρ, R, q.bind fun d v S1 H1 g1 r1 k => ⟨b, S1, ρ, R.grow g1, (k.upF g1).bind fun d2 v2 S2 H2 g2 r2 k2 => ⟨b, S2, ρ, (R.grow g1).grow g2, (k2.upF g2).bind fun d3 v3 S3 H3 g3 r3 k3 => by
    cases r2
    cases r3
    split at k3
    · rename_i xs e1
      obtain ⟨p, vs, rfl, h1, h2⟩ := ((r1.up g2).up g3).seq g3.i e1
      exact ⟨p, vs, rfl, h1, po_newL g3.i (h2.cut _ _) (Po.upF g3 k3)⟩
    · exact k3.elim⟩⟩⟩
@[simp] def sSl (f : Sl → Res D) (l h : Sl → Res (Option Int)) (ρ : Sl) : Res D := (f ρ).bind fun d => (l ρ).bind fun lo => (h ρ).bind fun hi => match d with
  | .tup xs => .ok (.tup (cutD xs lo hi))
  | .str x => if x.length ≤ 16777216 then .ok (.str (cutS x lo hi)) else .bad
  | .lst xs => .ok (.lst (cutD xs lo hi))
  | .rol xs => .ok (.lst (cutD xs lo hi))
  | _ => .bad
end
end PF

set_option Elab.async false
set_option linter.all false
set_option maxRecDepth 100000
set_option maxHeartbeats 4000000
namespace PF
open PySem PySem.Spec L2

/-- a def of the text that keeps its promise, as its callers see it -/
structure Df (P : Program) (w : World) (K : Frg) (mg : Mg) (base : Heap) (x : Str) (k : Nat) (f : Addr) (fd : FuncData) (ps : List Str) (g : List D → Res D) : Prop where
  ok : FnOk P w K mg base (L2.CX P w) k f fd ps (spF K mg ps.length g)
  mg : mg x = some (.ref f)
  kp : PySem.W.keepIn K (.ref f) = true
  bi : Binds K fd ps []
theorem Po.freeze {K : Frg} {mg : Mg} {W : WX} {S H : Hp} {σ : L2.St} {r : Res D} {Q : VK} (h : Po K mg (rrE K mg) W S σ H (r.bind thaw) Q) : Po K mg (rrX K mg) W S σ H r Q := by
  cases r with
  | exc y ys => exact h
  | bad => exact h
  | ok d =>
    intro v S' H' g q
    rcases q with q | ⟨xs, rfl, p, vs, rfl, h2, h3, h4, h5⟩
    · cases d <;> first | exact h v S' H' g q | cases q
    · have up : Same S' (upd S' p (.lst vs)) := same_new h3
      refine h _ (upd S' p (.lst vs)) H' ⟨g.s.trans up, g.h, fun a o q => ?_, fun a ha q => ?_⟩ (.lst upd_same (h5.up up _ _))
      · by_cases z : a = p
        · subst z; rw [upd_same] at q; cases q; exact h4
        · rw [upd_ne z] at q; exact g.i a o q
      · rw [upd_ne (fun z => ha (by rw [z]; exact h2))]; exact g.n a ha q
theorem Po.unfr {K : Frg} {mg : Mg} {W : WX} {S H : Hp} {σ : L2.St} {r : Res D} {Q : VK} (h : Po K mg (rrF K mg) W S σ H (r.bind unfr) Q) : Po K mg (rrX K mg) W S σ H r Q := by
  cases r with
  | exc y ys => exact h
  | bad => exact h
  | ok d =>
    intro v S' H' g q
    rcases q with q | ⟨xs, rfl, q⟩
    · cases d <;> first | exact h.elim | cases q
    · exact h v S' H' g q
section
variable {X : Cx} {hx : Hx} {W : WX} {k : Nat} {f : Addr} {fd : FuncData} {ps : List Str} {g : List D → Res D} {x : Str} {p pos : Pos} {e : Expr} {es : List Expr} {fs : Sl → Res (List D)}
theorem call_imp (G : Df X.prog X.w X.K X.mg X.base x k f fd ps g) {σ : L2.St} {H : Hp} {Q : VK} (hfl : ∀ ρ ds, fs ρ = .ok ds → ds.length = ps.length) {b S ρ} (R : Rel X.K X.mg hx b S ρ σ H) (q : Po X.K X.mg (rrX X.K X.mg) W S σ H ((fs ρ).bind g) Q) : Po X.K X.mg (rrA X.K X.mg) W S σ H (fs ρ) fun vs H1 => spF X.K X.mg ps.length g vs H1 Q fun cls d H' => W cls d σ H' := by
  cases ef : fs ρ with
  | exc y ys => rw [ef] at q; exact q
  | bad => rw [ef] at q; exact q
  | ok ds =>
    rw [ef] at q
    intro v S1 H1 g1 r1
    refine ⟨ds, S1, by rw [r1.len]; exact hfl ρ ds ef, g1.i, r1, ?_⟩
    have q1 : Po X.K X.mg (rrX X.K X.mg) W S1 σ H1 (g ds) Q := Po.upX g1 q
    cases eg : g ds with
    | ok d => rw [eg] at q1; exact q1
    | exc y ys => rw [eg] at q1; exact q1
    | bad => rw [eg] at q1; exact q1
theorem bind_bind {α β γ : Type} (r : Res α) (f : α → Res β) (h : β → Res γ) : (r.bind fun a => (f a).bind h) = (r.bind f).bind h := by cases r <;> rfl
theorem me_calD (G : Df X.prog X.w X.K X.mg X.base x k f fd ps g) (hr : Room k X.A) (cw : Cw X W)
    (ha : MA X hx W (e :: es) fs) (hfl : ∀ ρ ds, fs ρ = .ok ds → ds.length = ps.length) (hg : Gl X x := by rfl) (hdb : (x == ("__debug__" : Str)) = false := by decide) (he : starEach (e :: es) X.env = (false, eval e X.env) :: starEach es X.env := by rfl) (hpl : (backTo pos (starEach es X.env)).any (·.1) = false := by rfl) :
    ME X hx W (.Call (.Name x p) (e :: es) [] pos) (sCall g fs) :=
  pe_imp (pe_callS G.ok hr hg G.mg G.kp G.bi cw ha hdb he hpl) fun σ H Q ⟨b, S, ρ, R, q⟩ => ⟨b, S, ρ, R, call_imp G hfl R (Po.freeze (by unfold sCall at q; rw [bind_bind] at q; exact q))⟩
theorem mf_calD (G : Df X.prog X.w X.K X.mg X.base x k f fd ps g) (hr : Room k X.A) (cw : Cw X W)
    (ha : MA X hx W (e :: es) fs) (hfl : ∀ ρ ds, fs ρ = .ok ds → ds.length = ps.length) (hg : Gl X x := by rfl) (hdb : (x == ("__debug__" : Str)) = false := by decide) (he : starEach (e :: es) X.env = (false, eval e X.env) :: starEach es X.env := by rfl) (hpl : (backTo pos (starEach es X.env)).any (·.1) = false := by rfl) :
    MF X hx W (.Call (.Name x p) (e :: es) [] pos) (fCall g fs) :=
  pe_imp (pe_callS G.ok hr hg G.mg G.kp G.bi cw ha hdb he hpl) fun σ H Q ⟨b, S, ρ, R, q⟩ => ⟨b, S, ρ, R, call_imp G hfl R (Po.unfr (by unfold fCall at q; rw [bind_bind] at q; exact q))⟩
end
/-- a, b = e1, e2 (two local names) -/
@[simp] def gPar (i j : Nat) (f h : Sl → Res D) (ρ : Sl) : Out := rS (f ρ) ρ fun d => rS (h ρ) ρ fun e => .nx ((ρ.set i (.v d)).set j (.v e))
theorem ms_par {X : Cx} {hx : Hx} {W : WX} (i j : Nat) {x y : Str} {a b : Expr} {f h : Sl → Res D} {px py pt pos : Pos} {kt k2 pt2} (hc : X.calm = true) (hN : X.N.Nodup) (ha : ME X hx W a f) (hb : ME X hx W b h) (hi : X.N[i]? = some x := by rfl) (hj : X.N[j]? = some y := by rfl) (hij : i ≠ j := by decide)
    (hx' : X.env.scope.names.lookup x = some .local := by rfl) (hy : X.env.scope.names.lookup y = some .local := by rfl)
    (s1 : starEach [a, b] X.env = (false, eval a X.env) :: starEach [b] X.env := by rfl) (s2 : starEach [b] X.env = (false, eval b X.env) :: starEach [] X.env := by rfl)
    (hw : swappedStores [.Tuple [.Name x px, .Name y py] kt pt] (.Tuple [a, b] k2 pt2) X.env = pure (some [x, y]) := by rfl)
    (hs : swapsWithSole [.Tuple [.Name x px, .Name y py] kt pt] (.Tuple [a, b] k2 pt2) pos.line X.env = pure false := by rfl) :
    MS X hx W (.Assign [.Tuple [.Name x px, .Name y py] kt pt] (.Tuple [a, b] k2 pt2) pos) (gPar i j f h) :=
  ps_imp (ps_par hc hN hi hj hij hx' hy (pa_cons ha (pa_cons hb pa_nil s2) s1) hw hs) fun D σ H ⟨b, S, ρ, R, q⟩ =>
    ⟨b, S, ρ, R, rS_po R q fun d v S1 H1 g1 r1 k => ⟨b, S1, ρ, R.grow g1, rS_po (R.grow g1) (PoS.up g1.s k) fun d2 v2 S2 H2 g2 r2 k2 =>
      ⟨v, v2, rfl, k2 S2 _ H2 g2.s ((((R.grow g1).grow g2).put (r1.up g2.s _ _)).put r2)⟩⟩⟩

/-! ### isinstance(e, (c1, c2, ..)) of the exception that a suite holds -/
def rIsET (K : Frg) (D0 a : Addr) : List V → Hp → VK → Prop := fun xs H Q => ∃ (tp : Addr) (cs : List V) (us : List Value) (b : Bool), xs = [.ref a, .ref tp] ∧ H tp = some (.tup cs) ∧ Paired ClsV cs us ∧ PySem.W.kitAny K (.ref D0) us = some b ∧ Q (.bl b) H
theorem call_isET {X : Cx} {a D0 : Addr} {oe : Obj} {pn : List (Addr × Obj)} (C : ExcC X.K D0) (hz : Zc (.ref D0) none oe) (hf : ∃ vs, oe.data = .fields vs) : CallR (X.suite a ((a, oe) :: pn)) (.builtin "isinstance") (rIsET X.K D0 a) := by
  intro pins s σ H xs us Q I r h
  obtain ⟨tp, cs, ws, b, rfl, hT, k, e, q⟩ := h
  obtain ⟨u1, u2, rfl, r1, r2⟩ := vals2 r
  cases (show u1 = Value.ref a from r1)
  cases (show u2 = Value.ref tp from r2)
  obtain ⟨hget, _⟩ := I.pin (a, oe) (List.mem_append.mpr (.inl List.mem_cons_self))
  obtain ⟨vs, hv⟩ := hf
  have J : PySem.W.InstAt s.heap a oe D0 none := by
    obtain ⟨oc, od, oda, osl⟩ := oe
    obtain ⟨h1, h2⟩ := hz
    dsimp only at h1 h2 hv
    subst h1 h2 hv
    exact ⟨hget, rfl, rfl, trivial⟩
  obtain ⟨_, its, rv, o, h1, h2, n, h3⟩ := (show ObjOk X.prog X.w H s.heap tp (.tup cs) from I.hok tp _ hT)
  have e3 := ClsV.all k rv
  subst e3
  obtain ⟨oc, od, dt, sl⟩ := o
  simp only at h2 h3
  subst h2 h3
  exact PySem.W.kia_tup (PySem.W.handS_kitx_exc C.hg C.hk C.hs C.hd C.ha C.hn C.ht C.hm) I.kIn J h1 e (fun z => nomatch z) fun tk => ⟨.bl b, H, I.kept (t' := tk) fun _ _ z => z, rfl, q⟩
def tcs : List V → TA
  | [] => tNil
  | c :: cs => tCons (tC c) (tcs cs)
theorem tcs_run {σ : L2.St} {H : Hp} : ∀ (cs : List V) (Q : List V → Hp → Prop), Q cs H → tcs cs σ H Q
  | [], _, h => h
  | c :: cs, Q, h => tcs_run cs _ h
theorem me_isET {X : Cx} {a D0 : Addr} {oe : Obj} {pn : List (Addr × Obj)} {d : Option Addr} {W : WX} {ces : List Expr} {n : Str} {p p1 pos pt : Pos} {kt} {cvs : List V} {cus : List Value} (i : Nat) {tab : Str → Option Bool} (hz : Zc (.ref D0) d oe) (hf : ∃ vs, oe.data = .fields vs) (ht : TabT X.K X.mg tab cus)
    (hv : PE (X.suite a ((a, oe) :: pn)) (.Name n p1) (tVar i)) (hc : PA (X.suite a ((a, oe) :: pn)) ces (tcs cvs)) (k : Paired ClsV cvs cus) (hm : X.mg "isinstance" = none) (hl : cvs.length ≤ 1000 := by simp) (hg : Gl X "isinstance" := by rfl)
    (hs : starEach [.Name n p1, .Tuple ces kt pt] X.env = (false, eval (.Name n p1) X.env) :: starEach [.Tuple ces kt pt] X.env := by rfl) (hs2 : starEach [.Tuple ces kt pt] X.env = (false, eval (.Tuple ces kt pt) X.env) :: starEach [] X.env := by rfl) (hpl : (backTo pos (starEach [.Tuple ces kt pt] X.env)).any (·.1) = false := by rfl) :
    ME (X.suite a ((a, oe) :: pn)) (some (a, D0, d)) W (.Call (.Name "isinstance" p) [.Name n p1, .Tuple ces kt pt] [] pos) (sIsE i tab) := ⟨fun pins s σ H Q I ⟨b, S, ρ, R, q⟩ => by
  unfold sIsE at q
  split at q
  · rename_i x e
    obtain ⟨a1, C1, d1, h1, h2, h3, h4⟩ := R.xc i x [] e
    cases h1
    split at q
    · rename_i tb et
      obtain ⟨t1, t2⟩ := ht x D0 tb h3 et
      have hd := xd_none h4
      subst hd
      exact (pe_callB (x := "isinstance") (call_isET (X := X) (a := a) (pn := pn) t1 hz hf) hg hm PyProof.Rows.boot_isinstance (pa_cons hv (pa_cons (pe_tup hc) pa_nil hs2) hs) (by decide) (by decide) hs hpl).run pins s σ H Q I ⟨_, h2, tcs_run cvs _ ⟨Nat.le_trans hl (sizeLine16 (by decide)), fun tp htp => ⟨tp, cvs, cus, tb, rfl, upd_same, k, t2, q _ _ _ (Gr.heap R.sh (same_new htp)) (.bl tb)⟩⟩⟩
    · exact q.elim
  · exact q.elim⟩
theorem iop_mulU {X : Cx} : PIp X .Mult (rI (fun i j => mulOk i j = true) fun i j => .int (i * j)) := (opI fun _ _ _ _ _ _ _ hc q => PyProof.Rows.imul_int q (CMulX_of_small hc) : OpR X (inplaceOp .Mult) _)
def whFuel : Nat := 1000000000000000000
/-- no exception leaves -/
theorem fn_calm {P : Program} {w : World} {K : Frg} {mg : Mg} {base : Heap} {k : Nat} {f : Addr} {fd : FuncData} {ps : List Str} {sp : Sp} (F : FnOk P w K mg base (L2.CX P w) k f fd ps sp) : FnOk P w K mg base CX0 k f fd ps (fun vs H Q _ => sp vs H Q fun _ _ _ => False) :=
  ⟨fun vs H Q E h => F.len _ _ _ _ h, fun A outer s H args us vs Q E hr he hb hv h => codeAny_mono (F.run A outer s H args us vs Q _ hr he hb hv h) fun r s' q => by
    cases r with
    | ok fl => cases fl <;> exact q
    | error e =>
      obtain ⟨_, _, _, _, _, _, _, _, _, _, _, _, z⟩ := q
      exact z.elim⟩
/-- law's own promise -/
def spLaw (K : Frg) : Sp := fun vs H Q _ => ∃ (a : Addr) (ns : List Int), vs = [.ref a] ∧ SqL K H a (ns.map V.int) ∧ ns.length ≤ 63 ∧ ∀ H', Q (.bl true) H'
theorem law_ok {P : Program} {w : World} {K : Frg} {mg : Mg} {base : Heap} {k : Nat} {f : Addr} {fd : FuncData} {g : List D → Res D} (F : FnOk P w K mg base (L2.CX P w) k f fd ["script"] (spF K mg 1 g))
    (h : ∀ ns : List Int, ns.length ≤ 63 → g [.rol (ns.map D.int)] = .ok (.bl true)) : FnOk P w K mg base CX0 k f fd ["script"] (spLaw K) :=
  (fn_calm F).imp fun vs H Q E ⟨a, ns, e, hS, hl, q⟩ => by
    subst e
    refine ⟨[.rol (ns.map D.int)], H, rfl, Same.refl _, .cons (.rol hS (RpA.of_ints ns)) .nil, ?_⟩
    rw [h ns hl]
    intro v S' H' g1 r1
    rcases r1 with r1 | ⟨_, e, _⟩
    · cases r1
      exact q H'
    · cases e
end PF

set_option Elab.async false
set_option linter.all false
set_option maxRecDepth 100000
set_option maxHeartbeats 4000000
/-! More rules: tuple * int, slices of any kind, zip, enumerate. -/
namespace PF
open PySem PySem.Spec L2 PyProof.Rows
/-! ### t * 1 is t itself -/
theorem tup_mul1 (l : Addr) (items : Array Value) (n : Nat) (dd : Option Addr) (sl : Array (Option Value)) (u : Tok) :
    Meets (Builtin.«tuple.__mul__» ⟨[.ref l, .int 1 u], []⟩) (fun _ R s => s.heap.get? l = some { cls := .type "tuple", dict := dd, data := .seq items n, slots := sl } ∧ R (.ok (.ret (Value.ref l))) s) :=
  .of_wp fun prog w A R s h => by
    obtain ⟨hp, g, d, tk, os⟩ := s
    obtain ⟨hl, h⟩ := h
    have c0 : (decide ((1 : Int) < -(2 ^ 63)) || decide ((1 : Int) ≥ 2 ^ 63)) = false := by decide
    have c1 : (items.isEmpty || (1 : Int) == 1) = true := by simp
    have f1 := AutoSeq1.idx_int
    wp_walk using wpAny_loadPart' hl
    repeat (first
      | (refine wpAny_ite_false (decide_eq_false (by rw [c0]; exact Bool.false_ne_true)) ?_; wp_walk using wpAny_loadPart' hl)
      | (refine wpAny_ite_true (decide_eq_true c1) ?_; wp_walk using wpAny_loadPart' hl))
    exact ⟨_, rfl, h⟩
def rMul1 (K : PySem.W.Frag) : R2 := fun x y H Q => ∃ l xs, x = .ref l ∧ y = .int 1 ∧ SqT K H l xs ∧ Q (.ref l) H
theorem op_mul1 {X : Cx} : OpR X (binaryOp .Mult) (rMul1 X.K) := by
  intro pins s σ H x y v u Q I rx ry h
  obtain ⟨l, xs, rfl, rfl, hT, q⟩ := h
  cases rx
  obtain ⟨t, rfl⟩ := ry
  obtain ⟨its, r, ⟨⟨cls, dd, data, sl⟩, ho, hc, n, hd⟩, hs⟩ := I.tuple hT
  simp only at hc hd
  subst hc hd
  refine wpAny_binaryOp_repeat_ref (T := "tuple") (U := "int") (by decide) ⟨_, ho, rfl⟩ (fun s' => typeIs_int s' 1 t) noFill_tuple_mul F.fills_int_mul F.slot_int_rmul repeat_tuple F.slot_int_index.lookup
    (call_meets F.slot_int_rmul (typeIs_int s 1 t) F.entry_int_rmul (F.args_int_rmul_2 _ _) (int_rmul_tuple 1 t l its.toArray n dd sl)
      ⟨ho, rfl, ⟨_, ho, rfl⟩, call_meets F.slot_tuple_mul ⟨_, ho, rfl⟩ F.entry_tuple_mul (F.args_tuple_mul_2 _ _) (tup_mul1 l its.toArray n dd sl t) ⟨ho, ?_⟩⟩)
  exact ⟨.ref l, H, I, rfl, q⟩
@[simp] noncomputable def oMulT (d e : D) : Res D := match d, e with
  | .int i, .int j => if mulOk i j then .ok (.int (i * j)) else .bad
  | .tup xs, .int k => if cb (xs ≠ [] ∧ 1 ≤ k ∧ k ≤ 1000 ∧ xs.length ≤ 1000) then .ok (.tup (List.replicate k.toNat xs).flatten) else .bad
  | _, _ => .bad
def rMulA (K : PySem.W.Frag) : R2 := fun x y H Q => rI (fun i j => mulOk i j = true) (fun i j => .int (i * j)) x y H Q ∨ rRepT K x y H Q ∨ rMul1 K x y H Q
theorem op_mulA {X : Cx} : OpR X (binaryOp .Mult) (rMulA X.K) := op_mulU.or (op_repT.or op_mul1)
theorem o_mulT {K : Frg} {mg : Mg} : O2 K mg (rMulA K) oMulT := fun S σ H x y d e W Q i hx hy q => by
  unfold oMulT at q
  split at q
  · split at q
    · rename_i hc
      exact .inl ⟨_, _, hx.int, hy.int, hc, q _ _ _ (Gr.refl i) (.int _)⟩
    · exact q.elim
  · rename_i xs k
    split at q
    · rename_i hc
      obtain ⟨h1, h2, h3, h4⟩ := of_cb hc
      obtain ⟨p, vs, rfl, k1, k2, r⟩ := hx.tup i
      by_cases e1 : k = 1
      · subst e1
        refine .inr (.inr ⟨p, vs, rfl, hy.int, k1, q _ S H (Gr.refl i) ?_⟩)
        have e2 : (List.replicate (1 : Int).toNat xs).flatten = xs := by simp
        rw [e2]
        exact .tup k2 r
      · refine .inr (.inl ⟨p, k, vs, rfl, hy.int, k1, fun z => h1 ?_, by omega, h3, by rw [r.len]; exact h4, po_new i (r.rep _) q⟩)
        subst z
        have := r.len
        exact List.eq_nil_of_length_eq_zero this.symm
    · exact q.elim
  · exact q.elim
/-! ### slices of any kind -/
theorem me_sl {X : Cx} {hx : Hx} {W : WX} {e : Expr} {lo hi : Option Expr} {f : Sl → Res D} {l h : Sl → Res (Option Int)} {pos p2 : Pos} (he : MR X hx W e f) (hl : MP X hx W lo l) (hh : MP X hx W hi h) : ME X hx W (.Subscript e (.Slice lo hi none p2) pos) (sSl f l h) :=
  pe_imp (pe_slice (sl_tupA.or (sl_str.or sl_list)) he hl hh) fun σ H Q ⟨b, S, ρ, R, q⟩ => ⟨b, S, ρ, R, q.bind fun d v S1 H1 g1 r1 k => ⟨b, S1, ρ, R.grow g1, (k.upE g1).bind fun d2 v2 S2 H2 g2 r2 k2 => ⟨b, S2, ρ, (R.grow g1).grow g2, (k2.upE g2).bind fun d3 v3 S3 H3 g3 r3 k3 => by
    cases r2
    cases r3
    have r := (r1.up g2).up g3
    have k4 := k3.upE g3
    have newL : ∀ xs vs, RpA X.K X.mg S3 vs xs → Po X.K X.mg (rrE X.K X.mg) W S3 σ H3 (.ok (.lst (cutD xs d2 d3))) Q → ∀ p, H3 p = none → Q (.ref p) (upd H3 p (.lst (cutV vs d2 d3))) := fun xs vs h2 z p hp =>
      z _ _ _ (Gr.new g3.i hp) (.lst upd_same ((h2.cut _ _).up (same_new (same_none g3.i hp)) _ _))
    cases d with
    | tup xs =>
      obtain ⟨p, vs, rfl, h1, h2, h3⟩ := r.tup g3.i
      refine .inl ⟨p, vs, rfl, h1, fun hw => ?_, fun _ => po_new g3.i (h3.cut _ _) k4⟩
      have e1 : cutD xs d2 d3 = xs := by
        unfold cutD
        rw [← h3.len, hw.1, hw.2, h3.len]
        simp
      refine k4 _ S3 H3 (Gr.refl g3.i) ?_
      rw [e1]
      exact .tup h2 h3
    | str x =>
      have k5 : Po X.K X.mg (rrE X.K X.mg) W S3 σ H3 (if x.length ≤ 16777216 then .ok (.str (cutS x d2 d3)) else .bad) Q := k4
      split at k5
      · rename_i hz
        exact .inr (.inl ⟨x, r.str, sizeLine16 hz, k5 _ S3 H3 (Gr.refl g3.i) (.str _)⟩)
      · exact k5.elim
    | lst xs =>
      obtain ⟨p, vs, rfl, h1, h2⟩ := r.lst
      exact .inr (.inr ⟨p, vs, rfl, SqL.of h1, newL xs vs h2 k4⟩)
    | rol xs =>
      obtain ⟨p, vs, rfl, h1, h2⟩ := r.rol g3.i
      exact .inr (.inr ⟨p, vs, rfl, h1, newL xs vs h2 k4⟩)
    | _ => exact k4.elim⟩⟩⟩
end PF

set_option Elab.async false
set_option linter.all false
set_option maxRecDepth 100000
set_option maxHeartbeats 4000000
/-! zip and enumerate over lists and tuples, in any mixture. -/
namespace PF
open PySem PySem.Spec L2 PyProof.Rows
def SqK (K : PySem.W.Frag) (t : Bool) (H : Hp) (a : Addr) (xs : List V) : Prop := match t with
  | true => SqT K H a xs
  | false => SqL K H a xs
def ItK (t : Bool) (h : Heap) (it a : Addr) (i : Nat) : Prop := match t with
  | true => h.IsTupleIter it a i
  | false => h.IsListIter it a i
def SeK (t : Bool) (h : Heap) (a : Addr) (its : Array Value) : Prop := match t with
  | true => h.IsTuple a its
  | false => h.IsList a its
def beK (t : Bool) (a : Addr) : Obj := match t with
  | true => { cls := .type "tuple_iterator", data := .fields #[.ref a, .int 0 0] }
  | false => { cls := .type "list_iterator", data := .fields #[.ref a, .int 0 0] }
theorem drawsK {prog : Program} {w : World} {A : Around} (t : Bool) (hh : A.handled = none) (it a : Addr) (hne : a ≠ it) (its : Array Value) : Draws prog w A it [it, a] its.size (fun i v => its[i]? = some v) (fun i h => ItK t h it a i ∧ SeK t h a its) := by
  cases t with
  | false => exact Draws.list hh it a hne its
  | true => exact Draws.tuple hh it a hne its
theorem beginsK (t : Bool) (a : Addr) (its : Array Value) : Begins (.ref a) (beK t a) fun h => SeK t h a its := by
  cases t with
  | false => exact begins_list a its
  | true => exact begins_tuple a its
theorem itK_new (t : Bool) {h : Heap} {it a : Addr} (e : h.get? it = some (beK t a)) : ItK t h it a 0 := by
  cases t with
  | false => exact ⟨_, e, rfl, rfl⟩
  | true => exact ⟨_, e, rfl, rfl⟩
theorem ItK.kept {t : Bool} {h h' : Heap} {it a : Addr} {i : Nat} (x : ItK t h it a i) (k : ∀ o, h.get? it = some o → h'.get? it = some o) : ItK t h' it a i := by
  cases t with
  | false => exact Heap.IsListIter.at x k
  | true => exact Heap.IsTupleIter.at x k
theorem ItK.obj {t : Bool} {h : Heap} {it a : Addr} {i : Nat} (x : ItK t h it a i) : ∃ o, h.get? it = some o ∧ ∀ v, o.data ≠ .cell v := by
  cases t with
  | false => obtain ⟨o, e, _, d⟩ := x; exact ⟨o, e, fun v q => by rw [d] at q; cases q⟩
  | true => obtain ⟨o, e, _, d⟩ := x; exact ⟨o, e, fun v q => by rw [d] at q; cases q⟩
theorem SeK.lt {t : Bool} {h : Heap} {a : Addr} {its : Array Value} (x : SeK t h a its) : a < h.objs.size := by
  cases t with
  | false => obtain ⟨o, e, _⟩ := x; exact Heap.lt_size e
  | true => obtain ⟨o, e, _⟩ := x; exact Heap.lt_size e
section
variable {X : Cx} {pins : List (Addr × Obj)} {σ : L2.St} {H : Hp} {s : Shared}
theorem Inv.seK {t : Bool} {a : Addr} {xs : List V} (I : Inv X pins σ H s) (h : SqK X.K t H a xs) : ∃ its : List Value, Vals xs its ∧ SeK t s.heap a its.toArray := by
  cases t with
  | false => obtain ⟨its, rv, p, _⟩ := I.list h; exact ⟨its, rv, p.isList⟩
  | true => obtain ⟨its, rv, p, _⟩ := I.tuple h; exact ⟨its, rv, p⟩
theorem Inv.seK_inj {t : Bool} {a : Addr} {xs ys : List V} (I : Inv X pins σ H s) (h : SqK X.K t H a xs) (h' : SqK X.K t H a ys) : xs = ys := by
  cases t with
  | false => exact I.list_inj h h'
  | true => exact I.tuple_inj h h'
end
/-! ### zip -/
def ItzG (K : PySem.W.Frag) (t1 t2 : Bool) (a b : Addr) : It :=
  ⟨fun i H => ∃ (xs ys : List V) (x y : V), SqK K t1 H a xs ∧ SqK K t2 H b ys ∧ xs[i]? = some x ∧ ys[i]? = some y,
    fun i H v H' => ∃ T x y, v = .ref T ∧ H T = none ∧ H' = upd H T (.tup [x, y]) ∧ (∀ xs, SqK K t1 H a xs → xs[i]? = some x) ∧ ∀ ys, SqK K t2 H b ys → ys[i]? = some y,
    fun i H => ∃ xs ys : List V, SqK K t1 H a xs ∧ SqK K t2 H b ys ∧ i = min xs.length ys.length⟩
theorem sep_of {a b z TI TO i1 i2 : Addr} (D : ZipApart z TI TO i1 i2 a b) : ZipSep2 z TI TO i1 i2 [i1, a] [i2, b] where
  TIz := D.TIz
  TOz := D.TOz
  TITO := D.TITO
  TIi1 := D.TIi1
  mem1 := by simp
  zf1 := by simp [Ne.symm D.i1z, Ne.symm D.l1z]
  Tf1 := by simp [D.TOi1, Ne.symm D.l1TO]
  TIi2 := D.TIi2
  mem2 := by simp
  zf2 := by simp [Ne.symm D.i2z, Ne.symm D.l2z]
  Tf2 := by simp [D.TOi2, Ne.symm D.l2TO]
  sep1_2 := by simp [D.i12, Ne.symm D.l2i1]
  sep2_1 := by simp [Ne.symm D.i12, Ne.symm D.l1i2]
theorem turn_zipG {P : Program} {w : World} {K : PySem.W.Frag} {elts : List Expr} {kk : Nat} {tpos : Pos} (t1 t2 : Bool) {a b z TI TO i1 i2 : Addr} (D : ZipApart z TI TO i1 i2 a b) :
    Turn P w K (.Tuple elts kk tpos) (ItzG K t1 t2 a b) [z, TI, TO, i1, i2] z (fun i h => IsZip h z TI TO .none ∧ IsPair h TI (.ref i1) (.ref i2) ∧ (∃ x y, IsPair h TO x y) ∧ ItK t1 h i1 a i ∧ ItK t2 h i2 b i) where
  mem := by simp
  obj := fun i h st c hc => by
    obtain ⟨hz, hTI, ⟨x, y, hTO⟩, h1, h2⟩ := st
    have e' : c = z ∨ c = TI ∨ c = TO ∨ c = i1 ∨ c = i2 := by simpa using hc
    rcases e' with q | q | q | q | q
    · rw [q]; exact ⟨_, hz, fun v q => nomatch q⟩
    · rw [q]; exact ⟨_, hTI, fun v q => nomatch q⟩
    · rw [q]; exact ⟨_, hTO, fun v q => nomatch q⟩
    · rw [q]; exact h1.obj
    · rw [q]; exact h2.obj
  keep := fun i h h' st k => by
    obtain ⟨hz, hTI, ⟨x, y, hTO⟩, h1, h2⟩ := st
    exact ⟨k z (by simp) _ hz, k TI (by simp) _ hTI, ⟨x, y, k TO (by simp) _ hTO⟩, h1.kept fun o q => k i1 (by simp) o q, h2.kept fun o q => k i2 (by simp) o q⟩
  item := by
    intro X hP hw hK hc i pins s σ H E I hf st hg
    subst hP hw hK
    obtain ⟨hz, hTI, ⟨x0, y0, hTO⟩, h1, h2⟩ := st
    obtain ⟨xs, ys, x, y, hqx, hqy, hx, hy⟩ := hg
    obtain ⟨its, rv, p⟩ := Inv.seK I hqx
    obtain ⟨its2, rv2, p2⟩ := Inv.seK I hqy
    obtain ⟨u, hu, ru⟩ := rv.get hx
    obtain ⟨u2, hu2, ru2⟩ := rv2.get hy
    have hzl : z < s.heap.objs.size := Heap.lt_size hz
    have hh : X.A.in1.handled = none := I.ok.hd hc
    have lt1 : i < its.toArray.size := by rw [List.size_toArray]; exact (List.getElem?_eq_some_iff.mp hu).1
    have lt2 : i < its2.toArray.size := by rw [List.size_toArray]; exact (List.getElem?_eq_some_iff.mp hu2).1
    refine wpAny_pyNext_zipD2_item (sep_of D) (drawsK t1 hh i1 a D.l1i1 its.toArray) (drawsK t2 hh i2 b D.l2i2 its2.toArray) hz hTI hTO ⟨h1, p⟩ ⟨h2, p2⟩ lt1 lt2 fun v1 v2 h' tk P1 P2 z' TO' h1' h2' hT hsz hk => ?_
    have e1 : v1 = u := by simpa [hu] using P1.symm
    have e2 : v2 = u2 := by simpa [hu2] using P2.symm
    subst e1 e2
    refine ⟨_, rfl, wpAny_letOwnedTupleGo_zip (s := { s with heap := h', toks := tk }) z' fun h'' z'' sb => ?_⟩
    have hT2 : h''.get? s.heap.objs.size = some { cls := .type "tuple", data := .seq #[v1, v2] } := (sb.2 _ (Nat.ne_of_gt hzl)).trans hT
    have new : ObjOk X.prog X.w (upd H s.heap.objs.size (.tup [x, y])) h'' s.heap.objs.size (.tup [x, y]) :=
      ⟨by show 2 ≤ sizeLine; decide, [v1, v2], .cons ru (.cons ru2 .nil), ⟨_, hT2, rfl, _, rfl⟩⟩
    have I1 : Inv X pins σ (upd H s.heap.objs.size (.tup [x, y])) { s with heap := h'', toks := tk } :=
      I.turnedNew (ch := [z, TI, TO, i1, i2]) (fun c o hb q => (sb.2 c (fun q' => hb (by simp [q']))).trans (hk c o (fun q' => hb (by simp [q'])) (fun q' => hb (by simp [q'])) (fun q' => hb (by simp [q'])) (fun q' => hb (by simp [q'])) q)) hf (Nat.le_refl _) new
    refine ⟨.ref s.heap.objs.size, _, I1, rfl, ⟨_, x, y, rfl, I.hok.fresh (Nat.le_refl _), rfl, fun l hl => by rw [Inv.seK_inj I hl hqx]; exact hx, fun l hl => by rw [Inv.seK_inj I hl hqy]; exact hy⟩, ⟨z'', ?_, ⟨v1, v2, ?_⟩, ?_, ?_⟩, fun c hcm => ?_⟩
    · exact (sb.2 _ D.TIz).trans (hk _ _ D.TIz D.TITO D.TIi1 D.TIi2 hTI)
    · exact (sb.2 _ D.TOz).trans TO'
    · exact h1'.1.kept fun o q => (sb.2 _ D.i1z).trans q
    · exact h2'.1.kept fun o q => (sb.2 _ D.i2z).trans q
    · have hlt : c < s.heap.objs.size := by
        have e' : c = z ∨ c = TI ∨ c = TO ∨ c = i1 ∨ c = i2 := by simpa using hcm
        rcases e' with q | q | q | q | q
        · rw [q]; exact hzl
        · rw [q]; exact Heap.lt_size hTI
        · rw [q]; exact Heap.lt_size hTO
        · rw [q]; obtain ⟨_, e1, _⟩ := h1.obj; exact Heap.lt_size e1
        · rw [q]; obtain ⟨_, e2, _⟩ := h2.obj; exact Heap.lt_size e2
      rw [upd_ne (Nat.ne_of_lt hlt)]
      exact (hf c hcm).1
  done := by
    intro X hP hw hK hc i pins s σ H E I hf st hg
    subst hP hw hK
    obtain ⟨hz, hTI, ⟨x0, y0, hTO⟩, h1, h2⟩ := st
    obtain ⟨xs, ys, hqx, hqy, hend⟩ := hg
    obtain ⟨its, rv, p⟩ := Inv.seK I hqx
    obtain ⟨its2, rv2, p2⟩ := Inv.seK I hqy
    have l1 : its.toArray.size = xs.length := by rw [List.size_toArray]; exact rv.length.symm
    have l2 : its2.toArray.size = ys.length := by rw [List.size_toArray]; exact rv2.length.symm
    have hh : X.A.in1.handled = none := I.ok.hd hc
    exact wpAny_pyNext_zipD2_end (sep_of D) (drawsK t1 hh i1 a D.l1i1 its.toArray) (drawsK t2 hh i2 b D.l2i2 its2.toArray) hz hTI hTO ⟨h1, p⟩ ⟨h2, p2⟩ (by omega) (by omega) (by omega) fun h' tk hk => ⟨rfl, I.turnedL (t' := tk) (ch := [z, TI, TO, i1, i2]) (fun c o hb q =>
      hk c o (fun q' => hb (by simp [q'])) (fun q' => hb (by simp [q'])) (fun q' => hb (by simp [q'])) (fun q' => hb (by simp [q'])) q) hf⟩
  self := fun A i s Q E st h => wpAny_pyIter_zip st.1 h
def iZipG (K : PySem.W.Frag) (ta : TA) : TI := fun σ H R => ta σ H fun vs H1 => ∃ t1 t2 a b xs ys, vs = [.ref a, .ref b] ∧ SqK K t1 H1 a xs ∧ SqK K t2 H1 b ys ∧ R (ItzG K t1 t2 a b) H1
theorem pi_zipG {X : Cx} {e e2 : Expr} {ta : TA} {p pos tpos : Pos} {elts : List Expr} {kk : Nat} (hg : Gl X "zip") (hm : X.mg "zip" = none) (ha : PA X [e, e2] ta)
    (hs : starEach [e, e2] X.env = (false, eval e X.env) :: starEach [e2] X.env := by rfl) (hpl : (backTo pos (starEach [e2] X.env)).any (·.1) = false := by rfl) :
    PI X (.Tuple elts kk tpos) (.Call (.Name "zip" p) [e, e2] [] pos) (iZipG X.K ta) := by
  refine ⟨fun pins s σ H R I h => ?_⟩
  refine Call_ (ld_blt I hg hm PyProof.Rows.boot_zip (PyProof.Rows.callWith_type1 (thn (ha.run pos pins s σ H _ I h) fun us s1 ⟨vs, H1, I1, r1, q1⟩ => ?_) hs hpl))
  obtain ⟨t1, t2, a, b, xs, ys, ex, hqx, hqy, q⟩ := q1
  subst ex
  cases r1 with
  | cons r rr =>
    cases rr with
    | cons r' rr =>
      cases rr
      cases r
      cases r'
      have fresh5 : ∀ c, c ∈ [s1.heap.objs.size + 4, s1.heap.objs.size + 2, s1.heap.objs.size + 3, s1.heap.objs.size, s1.heap.objs.size + 1] → FpOk X pins H1 c := fun c hcm => by
        have e' : c = s1.heap.objs.size + 4 ∨ c = s1.heap.objs.size + 2 ∨ c = s1.heap.objs.size + 3 ∨ c = s1.heap.objs.size ∨ c = s1.heap.objs.size + 1 := by simpa using hcm
        have hle : s1.heap.objs.size ≤ c := by
          rcases e' with z | z | z | z | z
          · rw [z]; exact Nat.le_add_right _ _
          · rw [z]; exact Nat.le_add_right _ _
          · rw [z]; exact Nat.le_add_right _ _
          · rw [z]; exact Nat.le_refl _
          · rw [z]; exact Nat.le_add_right _ _
        exact I1.fpOk hle (I1.hok.fresh hle)
      obtain ⟨its, rv, p1⟩ := Inv.seK I1 hqx
      obtain ⟨its2, rv2, p2⟩ := Inv.seK I1 hqy
      refine zip_begins2 (beginsK t1 a its.toArray) (beginsK t2 b its2.toArray) p1 p2 fun h' hz hTI hTO h1 h2 hsz hk => wpAny_pyIter_zip hz ?_
      have I2 : Inv X pins σ H1 { s1 with heap := h' } := I1.kept (t' := s1.toks) hk
      exact ⟨s1.heap.objs.size + 4, [s1.heap.objs.size + 4, s1.heap.objs.size + 2, s1.heap.objs.size + 3, s1.heap.objs.size, s1.heap.objs.size + 1], _, _, H1, rfl, I2, turn_zipG t1 t2 (PySem.W.ktu_apart s1.heap.objs.size a b p1.lt p2.lt), ⟨hz, hTI, ⟨_, _, hTO⟩, itK_new t1 h1, itK_new t2 h2⟩, fresh5, q⟩
/-! ### enumerate -/
theorem meets_enum1 {v : Value} {o : Obj} {H : Heap → Prop} (B : Begins v o H) :
    Meets (Builtin.«enumerate.__new__» ⟨[.type "enumerate", v], []⟩) (fun _ R s => H s.heap ∧
      R (.ok (.ret (.ref (s.heap.push o).objs.size))) { s with heap := (s.heap.push o).push { cls := .type "enumerate", data := .fields #[.none, .bool false, .ref s.heap.objs.size, rawInt 0, .none, .none] } }) :=
  .of_wp fun prog w A R s h => by
    obtain ⟨hp, g, d, tk, os⟩ := s; obtain ⟨h1, h⟩ := h
    have hsub := sub_enumerate
    have q1 : ∀ {A' : Around} {E : Value → Shared → Prop} {Q : Value → Shared → Prop}, Q (.ref hp.objs.size) ⟨hp.push o, g, d, tk, os⟩ → wpAny (model prog w) A' (pyIter v) Q E ⟨hp, g, d, tk, os⟩ :=
      fun q => B.iter prog w _ _ ⟨hp, g, d, tk, os⟩ _ h1 q
    wp_walk using q1
    refine wpAny_stack_any fun st => wpAny_pure ?_
    split
    · rename_i c _ _ _ _ _
      cases (c == Value.type "enumerate")
      · wp_walk using q1
        exact ⟨_, rfl, h⟩
      · wp_walk using q1
        exact ⟨_, rfl, h⟩
    · wp_walk using q1
      exact ⟨_, rfl, h⟩
theorem call_enum1 {prog : Program} {w : World} {A : Around} {E : Value → Shared → Prop} {s : Shared} {v : Value} {o : Obj} {H : Heap → Prop} {Q : Value → Shared → Prop} (B : Begins v o H) (h1 : H s.heap)
    (h : ∀ h', IsEnum h' (s.heap.objs.size + 1) s.heap.objs.size 0 .none → h'.get? s.heap.objs.size = some o → h'.objs.size = s.heap.objs.size + 2 →
      (∀ b o, s.heap.get? b = some o → h'.get? b = some o) → Q (.ref (s.heap.objs.size + 1)) { s with heap := h' }) :
    wpAny (model prog w) A (call (.type "enumerate") [v]) Q E s := by
  refine callType_new F.called_enumerate (by decide) (F.typeCall_enumerate_1 _) (F.newCall_enumerate_1 _) (fun obj => F.args_object_init_2 obj _) F.entry_enumerate_new (meets_enum1 B) ⟨h1, ?_⟩
  have hz : (s.heap.push o).objs.size = s.heap.objs.size + 1 := Heap.size_push ..
  show _ ∧ _
  rw [hz]
  have he := Heap.get?_push_size (s.heap.push o) (o := { cls := .type "enumerate", data := .fields #[.none, .bool false, .ref s.heap.objs.size, rawInt 0, .none, .none] }) rfl
  rw [hz] at he
  exact ⟨⟨_, he, rfl⟩, h _ he (Heap.get?_push_of_some _ (Heap.get?_push_size _ B.free)) (by rw [Heap.size_push, hz]) fun b o x => Heap.get?_push_of_some _ (Heap.get?_push_of_some _ x)⟩
def IteG (K : PySem.W.Frag) (t : Bool) (a : Addr) : It :=
  ⟨fun i H => ∃ (xs : List V) (x : V), SqK K t H a xs ∧ xs[i]? = some x, fun i H v H' => ∃ T x, v = .ref T ∧ H T = none ∧ H' = upd H T (.tup [.int (i : Nat), x]) ∧ ∀ xs, SqK K t H a xs → xs[i]? = some x, fun i H => ∃ xs : List V, SqK K t H a xs ∧ i = xs.length⟩
theorem turn_enumG {P : Program} {w : World} {K : PySem.W.Frag} {elts : List Expr} {kk : Nat} {tpos : Pos} (t : Bool) (a e it : Addr) :
    Turn P w K (.Tuple elts kk tpos) (IteG K t a) [e, it] e (fun i h => (∃ old, IsEnum h e it ((i : Nat) : Int) old) ∧ ItK t h it a i ∧ e ≠ it ∧ e ≠ a ∧ it ≠ a) where
  mem := by simp
  obj := fun i h st b hb => by
    obtain ⟨⟨old, he⟩, h1, _⟩ := st
    have e' : b = e ∨ b = it := by simpa using hb
    rcases e' with z | z
    · rw [z]; exact ⟨_, he, fun v q => nomatch q⟩
    · rw [z]; exact h1.obj
  keep := fun i h h' st k => let ⟨⟨old, he⟩, hi, hne⟩ := st; ⟨⟨old, k e (by simp) _ he⟩, hi.kept fun o q => k it (by simp) o q, hne⟩
  item := by
    intro X hP hw hK hc i pins s σ H E I hf st hg
    subst hP hw hK
    obtain ⟨⟨old, he⟩, hit, hne, hea, hia⟩ := st
    obtain ⟨xs, x, hq, hx⟩ := hg
    obtain ⟨its, rv, p⟩ := Inv.seK I hq
    obtain ⟨u, hu, ru⟩ := rv.get hx
    have hel : e < s.heap.objs.size := Heap.lt_size he
    have hil : it < s.heap.objs.size := by obtain ⟨_, q, _⟩ := hit.obj; exact Heap.lt_size q
    have hh : X.A.in1.handled = none := I.ok.hd hc
    have lt : i < its.toArray.size := by rw [List.size_toArray]; exact (List.getElem?_eq_some_iff.mp hu).1
    refine wpAny_pyNext_enum_itemC (drawsK t hh it a (Ne.symm hia) its.toArray) he ⟨hit, p⟩ lt hne (by simp [hne, hea]) fun v h' tk Pv ho hit' hT hsz hk => ?_
    have ev : v = u := by simpa [hu] using Pv.symm
    subst ev
    refine ⟨_, rfl, wpAny_letOwnedTupleGo_enum (s := { s with heap := h', toks := tk + 1 }) ho fun h'' he' sb => ?_⟩
    have hT2 : h''.get? s.heap.objs.size = some { cls := .type "tuple", data := .seq #[.int i tk, v] } := (sb.2 _ (Nat.ne_of_gt hel)).trans hT
    have new : ObjOk X.prog X.w (upd H s.heap.objs.size (.tup [.int (i : Nat), x])) h'' s.heap.objs.size (.tup [.int (i : Nat), x]) :=
      ⟨by show 2 ≤ sizeLine; decide, [.int i tk, v], .cons ⟨_, rfl⟩ (.cons ru .nil), ⟨_, hT2, rfl, _, rfl⟩⟩
    have I1 : Inv X pins σ (upd H s.heap.objs.size (.tup [.int (i : Nat), x])) { s with heap := h'', toks := tk + 1 } :=
      I.turnedNew (ch := [e, it]) (fun b ob hb q => (sb.2 b (fun z => hb (by simp [z]))).trans (hk b ob (fun z => hb (by simp [z])) (fun z => hb (by simp [z])) q)) hf (Nat.le_refl _) new
    refine ⟨.ref s.heap.objs.size, _, I1, rfl, ⟨_, x, rfl, I.hok.fresh (Nat.le_refl _), rfl, fun ys hy => by rw [Inv.seK_inj I hy hq]; exact hx⟩, ⟨⟨v, ?_⟩, hit'.1.kept fun o q => (sb.2 it (Ne.symm hne)).trans q, hne, hea, hia⟩, fun b hb => ?_⟩
    · have e1 : ((i + 1 : Nat) : Int) = (i : Int) + 1 := by omega
      rw [e1]; exact he'
    · have hb' : b < s.heap.objs.size := by
        have e' : b = e ∨ b = it := by simpa using hb
        rcases e' with z | z
        · rw [z]; exact hel
        · rw [z]; exact hil
      rw [upd_ne (Nat.ne_of_lt hb')]
      exact (hf b hb).1
  done := by
    intro X hP hw hK hc i pins s σ H E I hf st hg
    subst hP hw hK
    obtain ⟨⟨old, he⟩, hit, hne, hea, hia⟩ := st
    obtain ⟨xs, hq, hx⟩ := hg
    obtain ⟨its, rv, p⟩ := Inv.seK I hq
    have hl : its.toArray.size = i := by rw [List.size_toArray, hx]; exact rv.length.symm
    have hh : X.A.in1.handled = none := I.ok.hd hc
    exact wpAny_pyNext_enum_endD (drawsK t hh it a (Ne.symm hia) its.toArray) he ⟨by rw [hl]; exact hit, p⟩ fun h' eb => ⟨rfl, I.turnedL (t' := s.toks) (ch := [e, it]) (fun b o hb q => eb b o (fun z => hb (by simp [z])) q) hf⟩
  self := fun A i s Q E st h => let ⟨⟨_, he⟩, _⟩ := st; wpAny_pyIter_enum he h
def iEnumG (K : PySem.W.Frag) (ta : TA) : TI := fun σ H R => ta σ H fun vs H1 => ∃ t a xs, vs = [.ref a] ∧ SqK K t H1 a xs ∧ R (IteG K t a) H1
theorem pi_enumG {X : Cx} {e : Expr} {ta : TA} {p pos tpos : Pos} {elts : List Expr} {kk : Nat} (hg : Gl X "enumerate") (hm : X.mg "enumerate" = none) (ha : PA X [e] ta) (hs : starEach [e] X.env = [(false, eval e X.env)] := by rfl) :
    PI X (.Tuple elts kk tpos) (.Call (.Name "enumerate" p) [e] [] pos) (iEnumG X.K ta) := by
  refine ⟨fun pins s σ H R I h => ?_⟩
  refine Call_ (ld_blt I hg hm boot_enumerate (PyProof.Rows.callWith_type1 (thn (ha.run pos pins s σ H _ I h) fun us s1 ⟨vs, H1, I1, r1, q1⟩ => ?_) hs rfl))
  obtain ⟨t, a, xs, ex, hq, q⟩ := q1
  subst ex
  cases r1 with
  | cons r rr =>
    cases rr
    cases r
    obtain ⟨its, rv, p'⟩ := Inv.seK I1 hq
    have hal : a < s1.heap.objs.size := p'.lt
    refine call_enum1 (beginsK t a its.toArray) p' fun h' he hit hsz hk => wpAny_pyIter_enum he ?_
    have I2 : Inv X pins σ H1 { s1 with heap := h' } := I1.kept (t' := s1.toks) hk
    refine ⟨s1.heap.objs.size + 1, [s1.heap.objs.size + 1, s1.heap.objs.size], _, _, H1, rfl, I2, turn_enumG t a (s1.heap.objs.size + 1) s1.heap.objs.size, ⟨⟨.none, he⟩, itK_new t hit, Nat.succ_ne_self _, ?_, Nat.ne_of_gt hal⟩, fun b hb => ?_, q⟩
    · exact Nat.ne_of_gt (Nat.lt_succ_of_lt hal)
    · have e' : b = s1.heap.objs.size + 1 ∨ b = s1.heap.objs.size := by simpa using hb
      have hle : s1.heap.objs.size ≤ b := by
        rcases e' with z | z
        · rw [z]; exact Nat.le_add_right _ _
        · rw [z]; exact Nat.le_refl _
      exact I1.fpOk hle (I1.hok.fresh hle)
/-! ### the two as rules -/
@[simp] def dSq (d : D) : Res (List D) := match d with
  | .lst ds => .ok ds
  | .rol ds => .ok ds
  | .tup ds => .ok ds
  | _ => .bad
def zipD : List D → List D → List D
  | x :: xs, y :: ys => .tup [x, y] :: zipD xs ys
  | _, _ => []
def enumD (i : Nat) : List D → List D
  | [] => []
  | x :: xs => .tup [.int (i : Int), x] :: enumD (i + 1) xs
@[simp] def gZip (ds : List D) : Res (List D) := match ds with
  | [d, e] => (dSq d).bind fun xs => (dSq e).bind fun ys => .ok (zipD xs ys)
  | _ => .bad
@[simp] def gEnum (ds : List D) : Res (List D) := match ds with
  | [d] => (dSq d).bind fun xs => .ok (enumD 0 xs)
  | _ => .bad
@[simp] def iZip (fs : Sl → Res (List D)) (ρ : Sl) : Res (List D) := (fs ρ).bind gZip
@[simp] def iEnu (fs : Sl → Res (List D)) (ρ : Sl) : Res (List D) := (fs ρ).bind gEnum
theorem zipD_get : ∀ {xs ys : List D} {i : Nat} {d : D}, (zipD xs ys)[i]? = some d → ∃ x y, xs[i]? = some x ∧ ys[i]? = some y ∧ d = .tup [x, y]
  | [], _, _, _, h => by simp [zipD] at h
  | _ :: _, [], _, _, h => by simp [zipD] at h
  | x :: xs, y :: ys, 0, d, h => by
    simp [zipD] at h
    exact ⟨x, y, rfl, rfl, h.symm⟩
  | x :: xs, y :: ys, i + 1, d, h => by
    simp [zipD] at h
    simpa using zipD_get h
theorem zipD_len : ∀ (xs ys : List D), (zipD xs ys).length = min xs.length ys.length
  | [], _ => by simp [zipD]
  | _ :: _, [] => by simp [zipD]
  | x :: xs, y :: ys => by
    simp only [zipD, List.length_cons, zipD_len xs ys]
    omega
theorem enumD_get : ∀ {xs : List D} {j i : Nat} {d : D}, (enumD j xs)[i]? = some d → ∃ x, xs[i]? = some x ∧ d = .tup [.int ((j + i : Nat) : Int), x]
  | [], _, _, _, h => by simp [enumD] at h
  | x :: xs, j, 0, d, h => by
    simp [enumD] at h
    exact ⟨x, rfl, by simpa using h.symm⟩
  | x :: xs, j, i + 1, d, h => by
    simp only [enumD, List.getElem?_cons_succ] at h
    obtain ⟨y, h1, h2⟩ := enumD_get h
    exact ⟨y, by simpa using h1, by rw [h2]; congr 3; omega⟩
theorem enumD_len : ∀ (xs : List D) (j : Nat), (enumD j xs).length = xs.length
  | [], _ => rfl
  | x :: xs, j => by simp [enumD, enumD_len xs]
section
variable {K : Frg} {mg : Mg} {S : Hp} {v : V} {d : D} {ds : List D}
theorem Rp.sq (h : Rp K mg S v d) (e : dSq d = .ok ds) : ∃ t a vs, v = .ref a ∧ SqK K t S a vs ∧ RpA K mg S vs ds := by
  cases d <;> cases e
  · cases h with
    | lst a b => exact ⟨false, _, _, rfl, SqL.of a, b⟩
  · cases h with
    | rol a b => exact ⟨false, _, _, rfl, a, b⟩
  · cases h with
    | tup a b => exact ⟨true, _, _, rfl, a, b⟩
theorem same_k {t : Bool} {H H' : Hp} {a : Addr} {vs : List V} (e : Same H H') (h : SqK K t H a vs) : SqK K t H' a vs := by
  cases t with
  | false => exact same_l e h
  | true => exact same_t e h
theorem itd_zip {t1 t2 : Bool} {a b : Addr} {vs ws : List V} {xs ys : List D} (h1 : SqK K t1 S a vs) (r1 : RpA K mg S vs xs) (h2 : SqK K t2 S b ws) (r2 : RpA K mg S ws ys) : ItD K mg S (ItzG K t1 t2 a b) (zipD xs ys) where
  go := fun S' H i d s1 s2 e => by
    obtain ⟨x, y, e1, e2, rfl⟩ := zipD_get e
    obtain ⟨v, k1, k2⟩ := (r1.up s1 _ _).get e1
    obtain ⟨w, k3, k4⟩ := (r2.up s1 _ _).get e2
    have q1 : SqK K t1 H a vs := same_k (s1.trans s2) h1
    have q2 : SqK K t2 H b ws := same_k (s1.trans s2) h2
    refine ⟨⟨vs, ws, v, w, q1, q2, k1, k3⟩, fun z H' ⟨T, x', y', z1, z2, z3, z4, z5⟩ => ?_⟩
    have e3 := z4 vs q1
    rw [k1] at e3
    cases e3
    have e4 := z5 ws q2
    rw [k3] at e4
    cases e4
    subst z1 z3
    have up : Same S' (upd S' T (.tup [v, w])) := same_new (same_none s2 z2)
    exact ⟨_, Gr.new s2 z2, .tup (SqT.of upd_same) (.cons (k2.up up _ _) (.cons (k4.up up _ _) .nil))⟩
  stop := fun S' H s1 s2 => ⟨vs, ws, same_k (s1.trans s2) h1, same_k (s1.trans s2) h2, by rw [zipD_len, r1.len, r2.len]⟩
theorem itd_enum {t : Bool} {a : Addr} {vs : List V} {xs : List D} (h1 : SqK K t S a vs) (r1 : RpA K mg S vs xs) : ItD K mg S (IteG K t a) (enumD 0 xs) where
  go := fun S' H i d s1 s2 e => by
    obtain ⟨x, e1, rfl⟩ := enumD_get e
    obtain ⟨v, k1, k2⟩ := (r1.up s1 _ _).get e1
    have q1 : SqK K t H a vs := same_k (s1.trans s2) h1
    refine ⟨⟨vs, v, q1, k1⟩, fun z H' ⟨T, x', z1, z2, z3, z4⟩ => ?_⟩
    have e3 := z4 vs q1
    rw [k1] at e3
    cases e3
    subst z1 z3
    have up : Same S' (upd S' T (.tup [.int (i : Nat), v])) := same_new (same_none s2 z2)
    rw [Nat.zero_add]
    exact ⟨_, Gr.new s2 z2, .tup (SqT.of upd_same) (.cons (.int _) (.cons (k2.up up _ _) .nil))⟩
  stop := fun S' H s1 s2 => ⟨vs, same_k (s1.trans s2) h1, by rw [enumD_len, r1.len]⟩
end
section
variable {X : Cx} {hx : Hx} {W : WX} {e e2 : Expr} {elts : List Expr} {kk : Nat} {p pos tpos : Pos} {fs : Sl → Res (List D)}
theorem mi_zip (hg : Gl X "zip") (hm : X.mg "zip" = none) (ha : MA X hx W [e, e2] fs) (hs : starEach [e, e2] X.env = (false, eval e X.env) :: starEach [e2] X.env := by rfl) (hpl : (backTo pos (starEach [e2] X.env)).any (·.1) = false := by rfl) : MI X hx W (.Tuple elts kk tpos) (.Call (.Name "zip" p) [e, e2] [] pos) (iZip fs) :=
  pi_imp (pi_zipG hg hm ha hs hpl) fun σ H Q ⟨b, S, ρ, R, q⟩ => ⟨b, S, ρ, R, q.bind fun d v S1 H1 g1 r1 k => by
    unfold gZip at k
    split at k
    · rename_i d1 d2
      obtain ⟨v1, v2, rfl, q1, q2⟩ := r1.two
      cases e1 : dSq d1 with
      | exc _ _ => cases d1 <;> cases e1
      | bad => rw [e1] at k; exact k.elim
      | ok xs =>
        cases e2 : dSq d2 with
        | exc _ _ => cases d2 <;> cases e2
        | bad => rw [e1, Res.bind_ok, e2] at k; exact k.elim
        | ok ys =>
          rw [e1, Res.bind_ok, e2, Res.bind_ok] at k
          obtain ⟨t1, a1, vs, rfl, z1, z2⟩ := q1.sq e1
          obtain ⟨t2, a2, ws, rfl, z3, z4⟩ := q2.sq e2
          exact ⟨t1, t2, a1, a2, vs, ws, rfl, same_k g1.i z1, same_k g1.i z3, k _ S1 H1 g1 (itd_zip z1 z2 z3 z4)⟩
    · exact k.elim⟩
theorem mi_enum (hg : Gl X "enumerate") (hm : X.mg "enumerate" = none) (ha : MA X hx W [e] fs) (hs : starEach [e] X.env = [(false, eval e X.env)] := by rfl) : MI X hx W (.Tuple elts kk tpos) (.Call (.Name "enumerate" p) [e] [] pos) (iEnu fs) :=
  pi_imp (pi_enumG hg hm ha hs) fun σ H Q ⟨b, S, ρ, R, q⟩ => ⟨b, S, ρ, R, q.bind fun d v S1 H1 g1 r1 k => by
    unfold gEnum at k
    split at k
    · rename_i d1
      obtain ⟨v1, rfl, q1⟩ := r1.one
      cases e1 : dSq d1 with
      | exc _ _ => cases d1 <;> cases e1
      | bad => rw [e1] at k; exact k.elim
      | ok xs =>
        rw [e1, Res.bind_ok] at k
        obtain ⟨t1, a1, vs, rfl, z1, z2⟩ := q1.sq e1
        exact ⟨t1, a1, vs, rfl, same_k g1.i z1, k _ S1 H1 g1 (itd_enum z1 z2)⟩
    · exact k.elim⟩
end
end PF

set_option Elab.async false
set_option linter.all false
set_option maxRecDepth 100000
set_option maxHeartbeats 4000000
/-! A list of a slot's own, lent for the time of one expression; more of lists. -/
namespace PF
open PySem PySem.Spec L2 PyProof.Rows
mutual
/-- no list in it -/
def nol : D → Bool
  | .non => true
  | .bl _ => true
  | .int _ => true
  | .str _ => true
  | .tup ds => nolA ds
  | .obj _ _ ds => nolA ds
  | _ => false
def nolA : List D → Bool
  | [] => true
  | d :: ds => nol d && nolA ds
end
@[simp] theorem nol_non : nol .non = true := by simp [nol]
@[simp] theorem nol_bl (b : Bool) : nol (.bl b) = true := by simp [nol]
@[simp] theorem nol_int (i : Int) : nol (.int i) = true := by simp [nol]
@[simp] theorem nol_str (x : Str) : nol (.str x) = true := by simp [nol]
@[simp] theorem nol_tup (ds : List D) : nol (.tup ds) = nolA ds := by simp [nol]
@[simp] theorem nol_obj (c : Str) (ns : List Str) (ds : List D) : nol (.obj c ns ds) = nolA ds := by simp [nol]
@[simp] theorem nolA_nil : nolA [] = true := by simp [nolA]
@[simp] theorem nolA_cons (d : D) (ds : List D) : nolA (d :: ds) = (nol d && nolA ds) := by simp [nolA]
@[simp] theorem nolA_app : ∀ (ds es : List D), nolA (ds ++ es) = (nolA ds && nolA es)
  | [], es => by simp
  | d :: ds, es => by simp [nolA_app ds es, Bool.and_assoc]
@[simp] theorem nolA_ints : ∀ ns : List Int, nolA (ns.map D.int) = true
  | [] => by simp
  | n :: ns => by simp [nolA_ints ns]
/-- the shared part without the list at p -/
def less (S : Hp) (p : Addr) : Hp := fun a => if a = p then none else S a
section
variable {K : Frg} {mg : Mg} {S : Hp} {p : Addr} {ws : List V}
theorem less_ne {a : Addr} (h : a ≠ p) : less S p a = S a := if_neg h
theorem less_self : less S p p = none := if_pos rfl
theorem less_tup {a : Addr} {xs : List V} (hp : S p = some (.lst ws)) (h : SqT K S a xs) : SqT K (less S p) a xs := by
  rcases h with h | h
  · rcases h with h | ⟨o, h⟩
    · refine .inl (.inl ?_)
      rw [less_ne (fun e => by subst e; rw [hp] at h; cases h)]
      exact h
    · refine .inl (.inr ⟨o, ?_⟩)
      rw [less_ne (fun e => by subst e; rw [hp] at h; cases h)]
      exact h
  · exact .inr h
mutual
theorem Rp.less (hp : S p = some (.lst ws)) : ∀ (d : D) (v : V), nol d = true → Rp K mg S v d → Rp K mg (PF.less S p) v d
  | .non, _, _, h => by cases h; exact .non
  | .bl _, _, _, h => by cases h; exact .bl _
  | .int _, _, _, h => by cases h; exact .int _
  | .str _, _, _, h => by cases h; exact .str _
  | .tup ds, _, n, h => by
    cases h with
    | tup a b => exact .tup (less_tup hp a) (RpA.less hp ds _ (by simpa using n) b)
  | .lst _, _, n, _ => by cases n
  | .rol _, _, n, _ => by cases n
  | .obj _ _ ds, _, n, h => by
    cases h with
    | obj a b c d f => exact .obj (by rw [less_ne (fun e => by subst e; rw [hp] at a; cases a)]; exact a) b c d (RpA.less hp ds _ (by simpa using n) f)
  | .fr _, _, n, _ => by cases n
  | .raw _, _, n, _ => by cases n
theorem RpA.less (hp : S p = some (.lst ws)) : ∀ (ds : List D) (vs : List V), nolA ds = true → RpA K mg S vs ds → RpA K mg (PF.less S p) vs ds
  | [], _, _, h => by cases h; exact .nil
  | d :: ds, _, n, h => by
    have n' : nol d = true ∧ nolA ds = true := by simpa using n
    cases h with
    | cons a b => exact .cons (Rp.less hp d _ n'.1 a) (RpA.less hp ds _ n'.2 b)
end
theorem Gr.less {H S2 H2 : Hp} (h0 : S p = none) (h1 : H p ≠ none) (g : Gr (upd S p (.lst ws)) H S2 H2) : Gr S H (PF.less S2 p) H2 where
  s := fun a o e => by
    have q : a ≠ p := fun z => by rw [z, h0] at e; cases e
    rw [less_ne q]
    exact g.s a o (by rw [upd_ne q]; exact e)
  h := g.h
  i := fun a o e => by
    have q : a ≠ p := fun z => by rw [z, less_self] at e; cases e
    rw [less_ne q] at e
    exact g.i a o e
  n := fun a ha e => by
    by_cases q : a = p
    · rw [q]; exact less_self
    · rw [less_ne q]
      exact g.n a ha (by rw [upd_ne q]; exact e)
end
/-- lend the list of slot i to f -/
def lend {α : Type} (i : Nat) (ok : α → Bool) (f : Sl → Res α) (ρ : Sl) : Res α := match ρ[i]? with
  | some (.o ds) => (f (ρ.set i (.v (.lst ds)))).nx.bind fun a => if ok a then .ok a else .bad
  | _ => f ρ
@[simp] def sLend (i : Nat) (f : Sl → Res D) (ρ : Sl) : Res D := match ρ[i]? with
  | some (.o ds) => (f (ρ.set i (.v (.lst ds)))).nx.bind fun a => if nol a then .ok a else .bad
  | _ => f ρ
@[simp] def fLend (i : Nat) (f : Sl → Res (List D)) (ρ : Sl) : Res (List D) := match ρ[i]? with
  | some (.o ds) => (f (ρ.set i (.v (.lst ds)))).nx.bind fun a => if nolA a then .ok a else .bad
  | _ => f ρ
@[simp] def tLend (i : Nat) (f : Sl → Res Bool) (ρ : Sl) : Res Bool := match ρ[i]? with
  | some (.o ds) => (f (ρ.set i (.v (.lst ds)))).nx
  | _ => f ρ
@[simp] theorem nx_ok {α : Type} (a : α) : (Res.ok a).nx = .ok a := rfl
/-- the list of slot i is shared, and at which place it stands -/
theorem Rel.freezeP {K : Frg} {mg : Mg} {hx : Hx} {b : Bs} {S H : Hp} {ρ : Sl} {σ : L2.St} (R : Rel K mg hx b S ρ σ H) {i : Nat} {ds : List D} (e : ρ[i]? = some (.o ds)) : ∃ p vs, H p = some (.lst vs) ∧ S p = none ∧ Rel K mg hx b (upd S p (.lst vs)) (ρ.set i (.v (.lst ds))) σ H := by
  obtain ⟨p, vs, q1, q2, q3, q4, q5⟩ := R.own i ds e
  have up : Same S (upd S p (.lst vs)) := same_new q3
  refine ⟨p, vs, q2, q3, R.s0.trans up, fun a o h => ?_, R.h0, fun a h e' => ?_, by simp [R.len], fun j d' e' => ?_, fun j es' e' => ?_, fun j c fs e' => ?_, fun j k ds1 es1 q ne e1 e2 e3 e4 => ?_⟩
  · by_cases z : a = p
    · subst z; rw [upd_same] at h; cases h; exact q2
    · rw [upd_ne z] at h; exact R.sh a o h
  · rw [upd_ne (fun z => by rw [z] at h; exact h q4)]
    exact R.nw a h e'
  · rcases getset e' with ⟨rfl, h2, _⟩ | ⟨h1, h2⟩
    · cases h2
      exact ⟨_, q1, .lst upd_same (q5.up up ds vs)⟩
    · obtain ⟨v', h3, h4⟩ := R.val j d' h2
      exact ⟨v', h3, h4.up up _ _⟩
  · rcases getset e' with ⟨_, h2, _⟩ | ⟨h1, h2⟩
    · cases h2
    · obtain ⟨p2, vs2, h3, h4, h5, h6, h7⟩ := R.own j es' h2
      refine ⟨p2, vs2, h3, h4, ?_, h6, h7.up up _ _⟩
      rw [upd_ne (fun z => by subst z; exact R.apart i j ds es' p2 h1 e h2 q1 h3)]
      exact h5
  · rcases getset e' with ⟨_, h2, _⟩ | ⟨h1, h2⟩
    · cases h2
    · obtain ⟨a, C, dx, z1, z2, z3, z4⟩ := R.xc j c fs h2
      exact ⟨a, C, dx, z1, z2, z3, z4.keep up fun _ _ z => z⟩
  · rcases getset e1 with ⟨_, h2, _⟩ | ⟨h1, h2⟩
    · cases h2
    · rcases getset e2 with ⟨_, h4, _⟩ | ⟨h3, h4⟩
      · cases h4
      · exact R.apart j k ds1 es1 q ne h2 h4 e3 e4
theorem lend_imp {α β : Type} {K : Frg} {mg : Mg} {hx : Hx} {RX : RR α β} {W : WX} {i : Nat} {f f' : Sl → Res β} {σ : L2.St} {H : Hp} {Q : α → Hp → Prop} (ok : β → Prop)
    (e0 : ∀ ρ, (∀ ds, ρ[i]? ≠ some (.o ds)) → f' ρ = f ρ) (e1 : ∀ ρ ds, ρ[i]? = some (.o ds) → f' ρ = .bad ∨ ∃ a, f (ρ.set i (.v (.lst ds))) = .ok a ∧ ok a ∧ f' ρ = .ok a)
    (hr : ∀ S S2 H2 p vs v a, S p = none → H p = some (.lst vs) → Gr (upd S p (.lst vs)) H S2 H2 → ok a → RX H S2 H2 v a → RX H (less S2 p) H2 v a) (h : tG K mg hx RX W f' σ H Q) : tG K mg hx RX W f σ H Q := by
  obtain ⟨b, S, ρ, R, q⟩ := h
  by_cases hc : ∃ ds, ρ[i]? = some (.o ds)
  · obtain ⟨ds, e⟩ := hc
    obtain ⟨p, vs, k1, k2, R'⟩ := R.freezeP e
    refine ⟨b, _, _, R', ?_⟩
    rcases e1 ρ ds e with z | ⟨a, z1, z2, z3⟩
    · rw [z] at q; exact q.elim
    · rw [z1]
      rw [z3] at q
      intro v S2 H2 g r
      exact q v (less S2 p) H2 (g.less k2 (by rw [k1]; simp)) (hr S S2 H2 p vs v a k2 k1 g z2 r)
  · exact ⟨b, S, ρ, R, by rw [← e0 ρ fun ds e => hc ⟨ds, e⟩]; exact q⟩
section
variable {X : Cx} {hx : Hx} {W : WX} {e : Expr}
theorem nxb {α : Type} {ok : α → Bool} {r : Res α} : (r.nx.bind fun a => if ok a then .ok a else .bad) = .bad ∨ ∃ a, r = .ok a ∧ ok a = true ∧ (r.nx.bind fun a => if ok a then Res.ok a else .bad) = .ok a := by
  cases r with
  | ok a =>
    cases h : ok a with
    | true => exact .inr ⟨a, rfl, h, by simp [h]⟩
    | false => exact .inl (by simp [h])
  | exc _ _ => exact .inl rfl
  | bad => exact .inl rfl
theorem me_lend (i : Nat) {f : Sl → Res D} (h : ME X hx W e f) : ME X hx W e (sLend i f) := pe_imp h fun σ H Q q => lend_imp (i := i) (f' := sLend i f) (fun d => nol d = true)
  (fun ρ hn => by
    unfold sLend
    split
    · rename_i ds e; exact absurd e (hn ds)
    · rfl)
  (fun ρ ds e => by
    have e2 : sLend i f ρ = (f (ρ.set i (.v (.lst ds)))).nx.bind fun a => if nol a then .ok a else .bad := by unfold sLend; rw [e]
    rw [e2]
    exact nxb)
  (fun S S2 H2 p vs v a k2 k1 g n r => Rp.less (g.s _ _ upd_same) a v n r) q
theorem mf_lend (i : Nat) {f : Sl → Res (List D)} (h : MF X hx W e f) : MF X hx W e (fLend i f) := pe_imp h fun σ H Q q => lend_imp (i := i) (f' := fLend i f) (fun d => nolA d = true)
  (fun ρ hn => by
    unfold fLend
    split
    · rename_i ds e; exact absurd e (hn ds)
    · rfl)
  (fun ρ ds e => by
    have e2 : fLend i f ρ = (f (ρ.set i (.v (.lst ds)))).nx.bind fun a => if nolA a then .ok a else .bad := by unfold fLend; rw [e]
    rw [e2]
    exact nxb)
  (fun S S2 H2 p vs v a k2 k1 g n ⟨p', ws, h1, h2, h3, h4, h5⟩ => ⟨p', ws, h1, h2, by
    by_cases z : p' = p
    · rw [z]; exact less_self
    · rw [less_ne z]; exact h3, h4, RpA.less (g.s _ _ upd_same) a ws n h5⟩) q
theorem mt_lend (i : Nat) {f : Sl → Res Bool} (h : MT X hx W e f) : MT X hx W e (tLend i f) := pt_imp h fun σ H Q q => lend_imp (i := i) (f' := tLend i f) (fun _ => True)
  (fun ρ hn => by
    unfold tLend
    split
    · rename_i ds e; exact absurd e (hn ds)
    · rfl)
  (fun ρ ds e => by
    have e2 : tLend i f ρ = (f (ρ.set i (.v (.lst ds)))).nx := by unfold tLend; rw [e]
    rw [e2]
    cases f (ρ.set i (.v (.lst ds))) with
    | ok a => exact .inr ⟨a, rfl, trivial, rfl⟩
    | exc _ _ => exact .inl rfl
    | bad => exact .inl rfl)
  (fun S S2 H2 p vs v a k2 k1 g n r => r) q
/-- x = [.. for .. in ..] with a list lent -/
theorem ms_setLcL (j i : Nat) {y : Str} {py : Pos} {elt tg iter : Expr} {ifs : List Expr} {scope : Scope} {own : List (Str × Nat)} {pos spos : Pos} {items : Sl → Res (List D)} {is : List Nat} {g : FG} {t : Sl → Res Bool} {f : Sl → Res D} (hc : X.calm = true) (hN : X.N.Nodup)
    (hsw : swapsWith (.ListComp elt [⟨tg, iter, ifs, 0⟩] scope pos) (some (.Name y py)) spos.line X.env = pure true) (hi : MI X hx W tg iter items) (ok : BlkOk X.N X.env.scope scope own)
    (hg : ∀ (s : Shared) (H : Hp) (C : Addr) (cl : List (Str × Addr)) (fp : List Addr), MG (X.blk s H scope (compEnvC scope cl C X.env) fp) hx tg is g) (ht : ∀ (s : Shared) (H : Hp) (C : Addr) (cl : List (Str × Addr)) (fp : List Addr), MTs (X.blk s H scope (compEnvC scope cl C X.env) fp) hx W0 ifs t)
    (he : ∀ (s : Shared) (H : Hp) (C : Addr) (cl : List (Str × Addr)) (fp : List Addr), ME (X.blk s H scope (compEnvC scope cl C X.env) fp) hx W0 elt f) (hy : X.N[i]? = some y := by rfl) (hyl : X.env.scope.names.lookup y = some .local := by rfl) (his : (is.all fun i => (own.map (·.2)).contains i) = true := by decide) (hs : ∀ x, foldedSetIterable iter X.env x = pure x := by intro _; rfl) :
    MS X hx W (.Assign [.Name y py] (.ListComp elt [⟨tg, iter, ifs, 0⟩] scope pos) spos) (gSetO i (fLend j (fLc items g t f (own.map (·.2))))) :=
  ps_imp (ps_setLc hc hN hy hyl hsw hi ok hg ht he hs) fun D σ H ⟨b, S, ρ, R, q⟩ => lc_ok (ts := fun _ _ _ => True) (fun i hi => by
    have h1 := List.all_eq_true.mp his i hi
    simpa using h1) σ H _ (lend_imp (i := j) (f' := fLend j (fLc items g t f (own.map (·.2)))) (fun d => nolA d = true)
  (fun ρ hn => by
    unfold fLend
    split
    · rename_i ds e; exact absurd e (hn ds)
    · rfl)
  (fun ρ ds e => by
    have e2 : fLend j (fLc items g t f (own.map (·.2))) ρ = (fLc items g t f (own.map (·.2)) (ρ.set j (.v (.lst ds)))).nx.bind fun a => if nolA a then .ok a else .bad := by unfold fLend; rw [e]
    rw [e2]
    exact nxb)
  (fun S S2 H2 p vs v a k2 k1 g n ⟨p', ws, h1, h2, h3, h4, h5⟩ => ⟨p', ws, h1, h2, by
    by_cases z : p' = p
    · rw [z]; exact less_self
    · rw [less_ne z]; exact h3, h4, RpA.less (g.s _ _ upd_same) a ws n h5⟩) ⟨b, S, ρ, R, rS_po R q fun d v S1 H1 g1 ⟨p, vs, h1, h2, h3, h4, h5⟩ k => by
      subst h1
      exact k S1 _ H1 g1.s (R.putN g1 h2 h3 h4 h5)⟩)
end
/-! ### more of lists -/
@[simp] def gClr (i : Nat) (ρ : Sl) : Out := match ρ[i]? with
  | some (.o _) => .nx (ρ.set i (.o []))
  | _ => .bad
@[simp] def gExt (i : Nat) (f : Sl → Res (List D)) (ρ : Sl) : Out := match ρ[i]? with
  | some (.o ds) => rS (f ρ) ρ fun es => if ds.length + es.length ≤ 16777216 then .nx (ρ.set i (.o (ds ++ es))) else .bad
  | _ => .bad
section
variable {X : Cx} {hx : Hx} {W : WX} {e : Expr} {pos : Pos}
theorem ms_clr (i : Nat) {x : Str} {p ap ep : Pos} (hv : PE X (.Name x p) (tVar i)) (hs : swapsWith (.Call (.Attribute (.Name x p) "clear" ap) [] [] ep) none pos.line X.env = pure false := by rfl)
    (h : PE X (.Call (.Attribute (.Name x p) "clear" ap) [] [] ep) (tBM0 X.K "list" rClear (tVar i)) := by
      exact pe_bm0 PySem.F.plainAttrs_list PySem.F.slot_list_clear PySem.F.type_list_clear mt_clear (pv _)) :
    MS X hx W (.Expr (.Call (.Attribute (.Name x p) "clear" ap) [] [] ep) pos) (gClr i) := ps_imp (ps_expr h hs) fun D σ H ⟨b, S, ρ, R, q⟩ => by
  unfold gClr at q
  split at q
  · rename_i ds e1
    obtain ⟨p, vs, h1, h2, h3, h4, h5⟩ := R.own i ds e1
    refine ⟨_, h1, .inl ⟨rfl, _, SqL.of h2⟩, ?_⟩
    exact ⟨p, vs, rfl, rfl, h2, q S σ _ (Same.refl _) (R.mut e1 h1 .nil)⟩
  · exact q.elim
theorem ms_ext (i : Nat) {x : Str} {p ap ep : Pos} {f : Sl → Res (List D)} (hv : PE X (.Name x p) (tVar i)) (he : MF X hx W e f) (hs : swapsWith (.Call (.Attribute (.Name x p) "extend" ap) [e] [] ep) none pos.line X.env = pure false := by rfl)
    (h : ∀ {t}, PE X e t → PE X (.Call (.Attribute (.Name x p) "extend" ap) [e] [] ep) (tBM X.K "list" rExtend (tVar i) (tCons t tNil)) := by
      intro t ht; exact pe_bm PySem.F.plainAttrs_list PySem.F.slot_list_extend PySem.F.type_list_extend mt_extend (pv _) (pa_cons ht pa_nil)) :
    MS X hx W (.Expr (.Call (.Attribute (.Name x p) "extend" ap) [e] [] ep) pos) (gExt i f) := ps_imp (ps_expr (h he) hs) fun D σ H ⟨b, S, ρ, R, q⟩ => by
  unfold gExt at q
  split at q
  · rename_i ds e1
    obtain ⟨p, vs, h1, h2, h3, h4, h5⟩ := R.own i ds e1
    refine ⟨_, h1, .inl ⟨rfl, _, SqL.of h2⟩, b, S, ρ, R, rS_po R q fun d v S1 H1 g1 ⟨p', ws, r1, r2, r3, r4, r5⟩ k => ?_⟩
    subst r1
    split at k
    · rename_i hl
      refine ⟨p, p', vs, ws, rfl, rfl, g1.h _ _ h2, r4, sizeLine16 (by rw [h5.len, r5.len]; exact hl), ?_⟩
      exact k S1 σ _ g1.s ((R.grow g1).mut e1 h1 ((h5.up g1.s _ _).app r5))
    · exact k.elim
  · exact q.elim
/-- xs[::-1] -/
@[simp] def fRev (f : Sl → Res D) (ρ : Sl) : Res (List D) := (f ρ).bind fun d => match seqOf d with
  | some xs => .ok xs.reverse
  | none => .bad
theorem mf_rev {f : Sl → Res D} {k : Nat} {p1 p2 p3 : Pos} (he : MR X hx W e f) : MF X hx W (.Subscript e (.Slice none none (some (.UnaryOp .USub (.Constant (.int 1) k p1) p2)) p3) pos) (fRev f) :=
  pe_imp (pe_revL he) fun σ H Q ⟨b, S, ρ, R, q⟩ => ⟨b, S, ρ, R, q.bind fun d v S1 H1 g1 r1 k => by
    split at k
    · rename_i xs e1
      obtain ⟨p, vs, rfl, h1, h2⟩ := r1.seq g1.i e1
      exact ⟨p, vs, rfl, h1, po_newL g1.i h2.rev (Po.upF g1 k)⟩
    · exact k.elim⟩
/-- a, b, c = e1, e2, e3 (local names) -/
@[simp] def gPar3 (i j l : Nat) (f g h : Sl → Res D) (ρ : Sl) : Out := rS (f ρ) ρ fun c => rS (g ρ) ρ fun d => rS (h ρ) ρ fun e => .nx (((ρ.set i (.v c)).set j (.v d)).set l (.v e))
theorem ms_par3 (i j l : Nat) {x y z : Str} {a b c : Expr} {f g h : Sl → Res D} {px py pz pt : Pos} {kt k2 pt2} (hc : X.calm = true) (hN : X.N.Nodup) (ha : ME X hx W a f) (hb : ME X hx W b g) (hcc : ME X hx W c h) (hi : X.N[i]? = some x := by rfl) (hj : X.N[j]? = some y := by rfl) (hl : X.N[l]? = some z := by rfl) (hij : i ≠ j := by decide) (hil : i ≠ l := by decide) (hjl : j ≠ l := by decide)
    (hx' : X.env.scope.names.lookup x = some .local := by rfl) (hy : X.env.scope.names.lookup y = some .local := by rfl) (hz : X.env.scope.names.lookup z = some .local := by rfl)
    (s1 : starEach [a, b, c] X.env = (false, eval a X.env) :: starEach [b, c] X.env := by rfl) (s2 : starEach [b, c] X.env = (false, eval b X.env) :: starEach [c] X.env := by rfl) (s3 : starEach [c] X.env = (false, eval c X.env) :: starEach [] X.env := by rfl)
    (hw : swappedStores [.Tuple [.Name x px, .Name y py, .Name z pz] kt pt] (.Tuple [a, b, c] k2 pt2) X.env = pure (some [x, y, z]) := by rfl)
    (hs : swapsWithSole [.Tuple [.Name x px, .Name y py, .Name z pz] kt pt] (.Tuple [a, b, c] k2 pt2) pos.line X.env = pure false := by rfl) :
    MS X hx W (.Assign [.Tuple [.Name x px, .Name y py, .Name z pz] kt pt] (.Tuple [a, b, c] k2 pt2) pos) (gPar3 i j l f g h) :=
  ps_imp (ps_par3 hc hN hi hj hl hij hil hjl hx' hy hz (pa_cons ha (pa_cons hb (pa_cons hcc pa_nil s3) s2) s1) hw hs) fun D σ H ⟨b, S, ρ, R, q⟩ =>
    ⟨b, S, ρ, R, rS_po R q fun d v S1 H1 g1 r1 k => ⟨b, S1, ρ, R.grow g1, rS_po (R.grow g1) (PoS.up g1.s k) fun d2 v2 S2 H2 g2 r2 k2 => ⟨b, S2, ρ, (R.grow g1).grow g2, rS_po ((R.grow g1).grow g2) (PoS.up g2.s k2) fun d3 v3 S3 H3 g3 r3 k3 =>
      ⟨v, v2, v3, rfl, k3 S3 _ H3 g3.s ((((((R.grow g1).grow g2).grow g3).put (r1.up (g2.s.trans g3.s) _ _)).put (r2.up g3.s _ _)).put r3)⟩⟩⟩⟩
/-- x = [.. for .. in ..], a shared list -/
theorem ms_setLcV (i : Nat) {y : Str} {py : Pos} {elt tg iter : Expr} {ifs : List Expr} {scope : Scope} {own : List (Str × Nat)} {spos : Pos} {items : Sl → Res (List D)} {is : List Nat} {g : FG} {t : Sl → Res Bool} {f : Sl → Res D} (hc : X.calm = true) (hN : X.N.Nodup)
    (hsw : swapsWith (.ListComp elt [⟨tg, iter, ifs, 0⟩] scope pos) (some (.Name y py)) spos.line X.env = pure true) (hi : MI X hx W tg iter items) (ok : BlkOk X.N X.env.scope scope own)
    (hg : ∀ (s : Shared) (H : Hp) (C : Addr) (cl : List (Str × Addr)) (fp : List Addr), MG (X.blk s H scope (compEnvC scope cl C X.env) fp) hx tg is g) (ht : ∀ (s : Shared) (H : Hp) (C : Addr) (cl : List (Str × Addr)) (fp : List Addr), MTs (X.blk s H scope (compEnvC scope cl C X.env) fp) hx W0 ifs t)
    (he : ∀ (s : Shared) (H : Hp) (C : Addr) (cl : List (Str × Addr)) (fp : List Addr), ME (X.blk s H scope (compEnvC scope cl C X.env) fp) hx W0 elt f) (hy : X.N[i]? = some y := by rfl) (hyl : X.env.scope.names.lookup y = some .local := by rfl) (his : (is.all fun i => (own.map (·.2)).contains i) = true := by decide) (hs : ∀ x, foldedSetIterable iter X.env x = pure x := by intro _; rfl) :
    MS X hx W (.Assign [.Name y py] (.ListComp elt [⟨tg, iter, ifs, 0⟩] scope pos) spos) (gSet i (sLst (fLc items g t f (own.map (·.2))))) :=
  ps_imp (ps_setLc hc hN hy hyl hsw hi ok hg ht he hs) fun D σ H ⟨b, S, ρ, R, q⟩ => lc_ok (ts := fun _ _ _ => True) (fun i hi => by
    have h1 := List.all_eq_true.mp his i hi
    simpa using h1) σ H _ ⟨b, S, ρ, R, by
      unfold gSet sLst at q
      cases ef : fLc items g t f (own.map (·.2)) ρ with
      | exc y ys => rw [ef] at q; exact fun S' H' C dx g q1 q2 => q S' σ H' C dx g.s (R.grow g) q1 q2
      | bad => rw [ef] at q; exact q.elim
      | ok ds =>
        rw [ef] at q
        intro v S1 H1 g1 ⟨p, vs, h1, h2, h3, h4, h5⟩
        subst h1
        have up : Same S1 (upd S1 p (.lst vs)) := same_new h3
        have g2 : Gr S H (upd S1 p (.lst vs)) H1 := ⟨g1.s.trans up, g1.h, fun a o q => by
          by_cases z : a = p
          · subst z; rw [upd_same] at q; cases q; exact h4
          · rw [upd_ne z] at q; exact g1.i a o q, fun a ha q => by
          rw [upd_ne (fun z => ha (by rw [z]; exact h2))]; exact g1.n a ha q⟩
        exact q _ _ H1 g2.s ((R.grow g2).put (.lst upd_same (h5.up up _ _)))⟩
/-- f(), no argument -/
theorem pe_call0S {k : Nat} {f : Addr} {fd : FuncData} {ps : List Str} {sp : Sp} {x : Str} {p : Pos} {CX : CXT} {E : L2.St → XK} (F : FnOk X.prog X.w X.K X.mg X.base CX k f fd ps sp) (hr : Room k X.A) (hg : Gl X x) (hm : X.mg x = some (.ref f)) (hk : PySem.W.keepIn X.K (.ref f) = true) (hb : Binds X.K fd ps []) (hp : ∀ σ, PassesAt CX X σ (E σ))
    (hdb : (x == ("__debug__" : Str)) = false := by decide) : PE X (.Call (.Name x p) [] [] pos) (tCallS sp E tNil) := by
  refine ⟨fun pins s σ H Q I h => ?_⟩
  refine wpAny_Call_Name_kw (ld_glob I hg hm ?_ hdb)
  exact PySem.W.callWith_K0 I.kIn hk (run_fnS (us := []) F hr hb (hp σ) I .nil h)
theorem me_cal0 {k : Nat} {f : Addr} {fd : FuncData} {ps : List Str} {g : List D → Res D} {x : Str} {p : Pos} (G : Df X.prog X.w X.K X.mg X.base x k f fd ps g) (hr : Room k X.A) (cw : Cw X W) (hn : ps = []) (hg : Gl X x := by rfl) (hdb : (x == ("__debug__" : Str)) = false := by decide) : ME X hx W (.Call (.Name x p) [] [] pos) (sCall g aNil) :=
  pe_imp (pe_call0S G.ok hr hg G.mg G.kp G.bi cw hdb) fun σ H Q ⟨b, S, ρ, R, q⟩ => by
    have z := call_imp (fs := aNil) G (fun ρ ds h => by rw [hn]; exact len_nil h) R (Po.freeze (Q := Q) (by unfold sCall at q; rw [bind_bind] at q; exact q))
    exact (show tCallS (spF X.K X.mg ps.length g) (WE W) tNil σ H Q from z [] S H (Gr.refl R.sh) .nil)
theorem mf_cal0 {k : Nat} {f : Addr} {fd : FuncData} {ps : List Str} {g : List D → Res D} {x : Str} {p : Pos} (G : Df X.prog X.w X.K X.mg X.base x k f fd ps g) (hr : Room k X.A) (cw : Cw X W) (hn : ps = []) (hg : Gl X x := by rfl) (hdb : (x == ("__debug__" : Str)) = false := by decide) : MF X hx W (.Call (.Name x p) [] [] pos) (fCall g aNil) :=
  pe_imp (pe_call0S G.ok hr hg G.mg G.kp G.bi cw hdb) fun σ H Q ⟨b, S, ρ, R, q⟩ => by
    have z := call_imp (fs := aNil) G (fun ρ ds h => by rw [hn]; exact len_nil h) R (Po.unfr (Q := Q) (by unfold fCall at q; rw [bind_bind] at q; exact q))
    exact (show tCallS (spF X.K X.mg ps.length g) (WE W) tNil σ H Q from z [] S H (Gr.refl R.sh) .nil)
end
/-! ### is True, is not False -/
@[simp] def oIsB (d e : D) : Res D := match d, e with
  | .bl a, .bl b => .ok (.bl (decide (a = b)))
  | _, _ => .bad
@[simp] def oNotB (d e : D) : Res D := match d, e with
  | .bl a, .bl b => .ok (.bl (!decide (a = b)))
  | _, _ => .bad
theorem o_isB {K : Frg} {mg : Mg} : O2 K mg rIsB oIsB := fun S σ H x y d e W Q i hx hy q => by
  unfold oIsB at q
  split at q
  · exact ⟨_, _, hx.bl, hy.bl, q _ _ _ (Gr.refl i) (.bl _)⟩
  · exact q.elim
theorem o_notB {K : Frg} {mg : Mg} : O2 K mg rNotB oNotB := fun S σ H x y d e W Q i hx hy q => by
  unfold oNotB at q
  split at q
  · exact ⟨_, _, hx.bl, hy.bl, q _ _ _ (Gr.refl i) (.bl _)⟩
  · exact q.elim
end PF

set_option Elab.async false
set_option linter.all false
set_option maxRecDepth 100000
set_option maxHeartbeats 4000000
/-! Texts: chains of comparisons, one sign in a text, str and int of each other, f-strings, partition, split, replace, repeated texts; constants of the module. -/
namespace PF
open PySem PySem.Spec L2 PyProof.Rows
section
variable {X : Cx} {hx : Hx} {W : WX} {a b c e : Expr} {pos : Pos} {fa fb fc : Sl → Res D}
/-! ### chains -/
@[simp] def sChn (o o' : D → D → Res D) (f g h : Sl → Res D) (ρ : Sl) : Res D := (f ρ).bind fun x => (g ρ).bind fun y => (o x y).bind fun z => (tBl z).bind fun k => if k then (h ρ).bind fun w => o' y w else .ok (.bl false)
theorem chn_seq {r r' : R2} {o o' : D → D → Res D} (hr : O2 X.K X.mg r o) (hr' : O2 X.K X.mg r' o') : ∀ σ H Q, tG X.K X.mg hx (rrE X.K X.mg) W (sChn o o' fa fb fc) σ H Q → tChain r r' (tG X.K X.mg hx (rrR X.K X.mg) W fa) (tG X.K X.mg hx (rrR X.K X.mg) W fb) (tG X.K X.mg hx (rrR X.K X.mg) W fc) σ H Q := fun σ H Q ⟨b, S, ρ, R, q⟩ =>
  ⟨b, S, ρ, R, q.bind fun d v S1 H1 g1 r1 k => ⟨b, S1, ρ, R.grow g1, (k.upE g1).bind fun d2 v2 S2 H2 g2 r2 k2 => hr S2 σ H2 v v2 d d2 W _ g2.i (r1.up g2) r2 ((k2.upE g2).bind fun d3 v3 S3 H3 g3 r3 k3 => by
    cases r3 with
    | @bl c =>
      refine ⟨c, rfl, ?_⟩
      cases c with
      | false => exact k3 _ S3 H3 g3 (.bl _)
      | true =>
        have k4 : Po X.K X.mg (rrE X.K X.mg) W S2 σ H2 ((fc ρ).bind fun w => o' d2 w) Q := k3
        exact ⟨b, S3, ρ, ((R.grow g1).grow g2).grow g3, (k4.upE g3).bind fun d5 v5 S5 H5 g5 r5 k5 => hr' S5 σ H5 v2 v5 d2 d5 W Q g5.i (r2.up (g3.trans g5)) r5 (k5.upE g5)⟩
    | _ => exact k3.elim)⟩⟩
theorem me_chn {op op' : CmpOp} {r r' : R2} {o o' : D → D → Res D} (ho : OpR X (compareOp op) r) (hr : O2 X.K X.mg r o) (ho' : OpR X (compareOp op') r') (hr' : O2 X.K X.mg r' o') (ha : MR X hx W a fa) (hb : MR X hx W b fb) (hc : MR X hx W c fc) (hm : lastMarks [op, op'] [b, c] = false := by with_unfolding_all rfl) :
    ME X hx W (.Compare a [op, op'] [b, c] pos) (sChn o o' fa fb fc) := pe_imp (pe_chain ho ho' ha hb hc hm) (chn_seq hr hr')
theorem mt_chn {op op' : CmpOp} {r r' : R2} {o o' : D → D → Res D} (ho : OpR X (compareOp op) r) (hr : O2 X.K X.mg r o) (ho' : OpR X (compareOp op') r') (hr' : O2 X.K X.mg r' o') (ha : MR X hx W a fa) (hb : MR X hx W b fb) (hc : MR X hx W c fc) (hm : lastMarks [op, op'] [b, c] = false := by with_unfolding_all rfl) :
    MT X hx W (.Compare a [op, op'] [b, c] pos) (sTest (sChn o o' fa fb fc)) :=
  pt_imp (pt_chain ho ho' ha hb hc hm) fun σ H Q ⟨b, S, ρ, R, q⟩ => chn_seq hr hr' σ H _ ⟨b, S, ρ, R, q.bind fun d v S1 H1 g1 r1 k => by
    cases r1 <;> first | exact k.elim | skip
    rename_i c
    exact ⟨c, rfl, k c S1 H1 g1 rfl⟩⟩
/-! ### one sign in a text -/
@[simp] def oInS (d e : D) : Res D := match d, e with
  | .str x, .str y => (match x.cps.toList with
    | [c] => .ok (.bl (decide (c ∈ y.cps.toList)))
    | _ => .bad)
  | _, _ => .bad
@[simp] def oNinS (d e : D) : Res D := match d, e with
  | .str x, .str y => (match x.cps.toList with
    | [c] => .ok (.bl (!decide (c ∈ y.cps.toList)))
    | _ => .bad)
  | _, _ => .bad
theorem one_of {x : Str} {c : Nat} (h : x.cps.toList = [c]) : x = ⟨#[c]⟩ := by
  cases x with
  | mk a =>
    have : a = #[c] := Array.toList_inj.mp (by simpa using h)
    rw [this]
theorem o_inS {K : Frg} {mg : Mg} : O2 K mg (fun x y H Q => ∃ (c : Nat) (z : Str), x = .str ⟨#[c]⟩ ∧ y = .str z ∧ Q (.bl (decide (c ∈ z.cps.toList))) H) oInS := fun S σ H x y d e W Q i hx hy q => by
  unfold oInS at q
  split at q
  · split at q
    · rename_i c hc
      refine ⟨c, _, ?_, hy.str, q _ _ _ (Gr.refl i) (.bl _)⟩
      rw [hx.str, one_of hc]
    · exact q.elim
  · exact q.elim
theorem o_ninS {K : Frg} {mg : Mg} : O2 K mg (fun x y H Q => ∃ (c : Nat) (z : Str), x = .str ⟨#[c]⟩ ∧ y = .str z ∧ Q (.bl (!decide (c ∈ z.cps.toList))) H) oNinS := fun S σ H x y d e W Q i hx hy q => by
  unfold oNinS at q
  split at q
  · split at q
    · rename_i c hc
      refine ⟨c, _, ?_, hy.str, q _ _ _ (Gr.refl i) (.bl _)⟩
      rw [hx.str, one_of hc]
    · exact q.elim
  · exact q.elim
/-! ### str, int -/
def strI (i : Int) : Str := Str.ofString (toString i)
noncomputable def fitS (i : Int) : Bool := cb (i.natAbs.log2 < 1920)
@[simp] noncomputable def bStr (d : D) : Res D := match d with
  | .int i => if fitS i then .ok (.str (strI i)) else .bad
  | .str x => .ok (.str x)
  | _ => .bad
theorem call_strU : CallR X (.type "str") (fun xs H Q => (∃ i, xs = [.int i] ∧ i.natAbs.log2 < 1920 ∧ Q (.str (toString i)) H) ∨ ∃ a, xs = [.str a] ∧ Q (.str a) H) := call_str_int.or SkE.call_str_str
theorem b_str {K : Frg} {mg : Mg} : U1 K mg (fun v => (fun xs H Q => (∃ i, xs = [V.int i] ∧ i.natAbs.log2 < 1920 ∧ Q (V.str (toString i)) H) ∨ ∃ a, xs = [V.str a] ∧ Q (V.str a) H : List V → Hp → VK → Prop) [v]) bStr := fun S σ H v d W Q i hx q => by
  unfold bStr at q
  split at q
  · split at q
    · rename_i hc
      rw [hx.int]
      exact .inl ⟨_, rfl, of_cb hc, q _ _ _ (Gr.refl i) (.str _)⟩
    · exact q.elim
  · rw [hx.str]; exact .inr ⟨_, rfl, q _ _ _ (Gr.refl i) (.str _)⟩
  · exact q.elim
@[simp] def bIntT (d : D) : Res D := match d with
  | .int i => .ok (.int i)
  | .bl b => .ok (.int (if b then 1 else 0))
  | .str x => (match intText? x with
    | some n => if x.length ≤ 640 then .ok (.int n) else .bad
    | none => .bad)
  | _ => .bad
theorem call_intT : CallR X (.type "int") (fun xs H Q => ((∃ i, xs = [.int i] ∧ Q (.int i) H) ∨ ∃ k, xs = [.bl k] ∧ Q (.int (if k then 1 else 0)) H) ∨ ∃ a n, xs = [.str a] ∧ PySem.intText? a = some n ∧ a.length ≤ 640 ∧ Q (.int n) H) := call_int1.or call_int_str
theorem b_intT {K : Frg} {mg : Mg} : U1 K mg (fun v => (fun xs H Q => ((∃ i, xs = [V.int i] ∧ Q (V.int i) H) ∨ ∃ k, xs = [V.bl k] ∧ Q (V.int (if k then 1 else 0)) H) ∨ ∃ a n, xs = [V.str a] ∧ PySem.intText? a = some n ∧ a.length ≤ 640 ∧ Q (V.int n) H : List V → Hp → VK → Prop) [v]) bIntT := fun S σ H v d W Q i hx q => by
  unfold bIntT at q
  split at q
  · rw [hx.int]; exact .inl (.inl ⟨_, rfl, q _ _ _ (Gr.refl i) (.int _)⟩)
  · rw [hx.bl]; exact .inl (.inr ⟨_, rfl, q _ _ _ (Gr.refl i) (.int _)⟩)
  · split at q
    · rename_i n hn
      split at q
      · rename_i hl
        rw [hx.str]; exact .inr ⟨_, n, rfl, hn, hl, q _ _ _ (Gr.refl i) (.int _)⟩
      · exact q.elim
    · exact q.elim
  · exact q.elim
/-! ### f-strings -/
@[simp] noncomputable def fmtD (d : D) : Res D := match d with
  | .int i => if fitS i then .ok (.str (strI i)) else .bad
  | .str x => if x.length ≤ 16777216 then .ok (.str x) else .bad
  | _ => .bad
theorem me_fmt (he : MR X hx W e fa) : ME X hx W (.FormattedValue e (-1) none pos) (sUn fmtD fa) := pe_imp (pe_fmt he) fun σ H Q ⟨b, S, ρ, R, q⟩ => ⟨b, S, ρ, R, q.bind fun d v S1 H1 g1 r1 k => by
  unfold fmtD at k
  split at k
  · split at k
    · rename_i hc
      exact .inr ⟨_, r1.int, of_cb hc, k _ S1 H1 g1 (.str _)⟩
    · exact k.elim
  · split at k
    · rename_i hl
      exact .inl ⟨_, r1.str, sizeLine16 hl, k _ S1 H1 g1 (.str _)⟩
    · exact k.elim
  · exact k.elim⟩
@[simp] def sJn : List (Sl → Res D) → Str → Sl → Res D
  | [], acc, _ => .ok (.str acc)
  | f :: fs, acc, ρ => (f ρ).bind fun d => match d with
    | .str y => if (acc ++ y).length ≤ 16777216 then sJn fs (acc ++ y) ρ else .bad
    | _ => .bad
theorem jn_seq {b : Bs} {ρ : Sl} {σ : L2.St} {Q : VK} : ∀ (fs : List (Sl → Res D)) (acc : Str) (S H : Hp), Rel X.K X.mg hx b S ρ σ H → Po X.K X.mg (rrE X.K X.mg) W S σ H (sJn fs acc ρ) Q → tJs (fs.map fun f => tG X.K X.mg hx (rrE X.K X.mg) W f) acc σ H fun out H1 => Q (.str out) H1
  | [], acc, S, H, R, q => q _ S H (Gr.refl R.sh) (.str _)
  | f :: fs, acc, S, H, R, q => ⟨b, S, ρ, R, q.bind fun d v S1 H1 g1 r1 k => by
    cases r1 with
    | @str y =>
      have k2 : Po X.K X.mg (rrE X.K X.mg) W S σ H (if (acc ++ y).length ≤ 16777216 then sJn fs (acc ++ y) ρ else .bad) Q := k
      split at k2
      · rename_i hl
        exact ⟨y, rfl, sizeLine16 hl, jn_seq fs (acc ++ y) S1 H1 (R.grow g1) (k2.upE g1)⟩
      · exact k2.elim
    | _ => exact k.elim⟩
inductive MJ (X : Cx) (hx : Hx) (W : WX) : List Expr → List (Sl → Res D) → Prop where
  | nil : MJ X hx W [] []
  | cons {e : Expr} {f : Sl → Res D} {es : List Expr} {fs : List (Sl → Res D)} (h : ME X hx W e f) (r : MJ X hx W es fs) : MJ X hx W (e :: es) (f :: fs)
theorem mj_nil : MJ X hx W [] [] := .nil
theorem mj_cons {f : Sl → Res D} {es : List Expr} {fs : List (Sl → Res D)} (h : ME X hx W e f) (r : MJ X hx W es fs) : MJ X hx W (e :: es) (f :: fs) := .cons h r
theorem MJ.pj {es : List Expr} {fs : List (Sl → Res D)} (h : MJ X hx W es fs) : PJ X es (fs.map fun f => tG X.K X.mg hx (rrE X.K X.mg) W f) := by
  induction h with
  | nil => exact .nil
  | cons h _ ih => exact .cons h ih
theorem me_joined {v1 v2 : Expr} {rest : List Expr} {fs : List (Sl → Res D)} (h : MJ X hx W (v1 :: v2 :: rest) fs) : ME X hx W (.JoinedStr (v1 :: v2 :: rest) pos) (sJn fs Str.empty) :=
  pe_imp (pe_joined h.pj) fun σ H Q ⟨b, S, ρ, R, q⟩ => jn_seq fs Str.empty S H R q
/-! ### methods of texts -/
/-- x.m(y) of a text x -/
@[simp] def sM1 (g : Str → D → Res D) (f h : Sl → Res D) (ρ : Sl) : Res D := (f ρ).bind fun x => match x with
  | .str a => (h ρ).bind fun y => g a y
  | _ => .bad
@[simp] def fM1 (g : Str → D → Res (List D)) (f h : Sl → Res D) (ρ : Sl) : Res (List D) := (f ρ).bind fun x => match x with
  | .str a => (h ρ).bind fun y => g a y
  | _ => .bad
def O1S (K : Frg) (mg : Mg) (r : V → List V → Hp → VK → Prop) (g : Str → D → Res D) : Prop := ∀ S σ H (a : Str) w d W Q, Same S H → Rd1 K mg S H w d → Po K mg (rrE K mg) W S σ H (g a d) Q → r (.str a) [w] H Q
def O1F (K : Frg) (mg : Mg) (r : V → List V → Hp → VK → Prop) (g : Str → D → Res (List D)) : Prop := ∀ S σ H (a : Str) w d W Q, Same S H → Rd1 K mg S H w d → Po K mg (rrF K mg) W S σ H (g a d) Q → r (.str a) [w] H Q
theorem me_m1 {r : V → List V → Hp → VK → Prop} {g : Str → D → Res D} (hr : O1S X.K X.mg r g) (h : PE X e (tM1 r (tG X.K X.mg hx (rrR X.K X.mg) W fa) (tG X.K X.mg hx (rrR X.K X.mg) W fb))) : ME X hx W e (sM1 g fa fb) :=
  pe_imp h fun σ H Q ⟨b, S, ρ, R, q⟩ => ⟨b, S, ρ, R, q.bind fun d v S1 H1 g1 r1 k => by
    cases d with
    | str x =>
      have e1 : v = .str x := r1.str
      have k2 : Po X.K X.mg (rrE X.K X.mg) W S σ H ((fb ρ).bind fun y => g x y) Q := k
      exact ⟨⟨x, e1⟩, b, S1, ρ, R.grow g1, (k2.upE g1).bind fun d2 v2 S2 H2 g2 r2 k3 => by rw [e1]; exact hr S2 σ H2 x v2 d2 W Q g2.i r2 (k3.upE g2)⟩
    | _ => exact k.elim⟩
theorem mf_m1 {r : V → List V → Hp → VK → Prop} {g : Str → D → Res (List D)} (hr : O1F X.K X.mg r g) (h : PE X e (tM1 r (tG X.K X.mg hx (rrR X.K X.mg) W fa) (tG X.K X.mg hx (rrR X.K X.mg) W fb))) : MF X hx W e (fM1 g fa fb) :=
  pe_imp h fun σ H Q ⟨b, S, ρ, R, q⟩ => ⟨b, S, ρ, R, q.bind fun d v S1 H1 g1 r1 k => by
    cases d with
    | str x =>
      have e1 : v = .str x := r1.str
      have k2 : Po X.K X.mg (rrF X.K X.mg) W S σ H ((fb ρ).bind fun y => g x y) Q := k
      exact ⟨⟨x, e1⟩, b, S1, ρ, R.grow g1, (k2.upF g1).bind fun d2 v2 S2 H2 g2 r2 k3 => by rw [e1]; exact hr S2 σ H2 x v2 d2 W Q g2.i r2 (k3.upF g2)⟩
    | _ => exact k.elim⟩
@[simp] def mPart (x : Str) (d : D) : Res D := match d with
  | .str y => if (y.length == 0) = false ∧ x.length ≤ 16777216 then .ok (.tup [.str (Txt.partition x y).1, .str (Txt.partition x y).2.1, .str (Txt.partition x y).2.2]) else .bad
  | _ => .bad
theorem o_part {K : Frg} {mg : Mg} : O1S K mg (fun x xs H Q => ∃ a b, x = .str a ∧ xs = [.str b] ∧ (b.length == 0) = false ∧ a.length ≤ sizeLine ∧ ∀ p, H p = none → Q (.ref p) (upd H p (.tup [.str (Txt.partition a b).1, .str (Txt.partition a b).2.1, .str (Txt.partition a b).2.2]))) mPart := fun S σ H a w d W Q i hx q => by
  unfold mPart at q
  split at q
  · split at q
    · rename_i hc
      exact ⟨_, _, rfl, by rw [hx.str], hc.1, sizeLine16 hc.2, po_new i (.cons (.str _) (.cons (.str _) (.cons (.str _) .nil))) q⟩
    · exact q.elim
  · exact q.elim
@[simp] def mSplit (x : Str) (d : D) : Res (List D) := match d with
  | .str y => if (y.length == 0) = false ∧ x.length + 2 ≤ 16777216 then .ok ((Txt.split x y).map D.str) else .bad
  | _ => .bad
theorem rp_strs {K : Frg} {mg : Mg} {S : Hp} : ∀ ys : List Str, RpA K mg S (ys.map V.str) (ys.map D.str)
  | [] => .nil
  | y :: ys => .cons (.str _) (rp_strs ys)
theorem o_split {K : Frg} {mg : Mg} : O1F K mg (fun x xs H Q => ∃ a b, x = .str a ∧ xs = [.str b] ∧ (b.length == 0) = false ∧ a.length + 2 ≤ sizeLine ∧ rNewStrs (Txt.split a b) H Q) mSplit := fun S σ H a w d W Q i hx q => by
  unfold mSplit at q
  split at q
  · split at q
    · rename_i hc
      exact ⟨_, _, rfl, by rw [hx.str], hc.1, sizeLine16 hc.2, po_newL i (rp_strs _) q⟩
    · exact q.elim
  · exact q.elim
/-! ### a text times an int -/
def repS (k : Nat) (x : Str) : Str := ⟨(List.replicate k x.cps).foldl (· ++ ·) #[]⟩
@[simp] noncomputable def oMulS (d e : D) : Res D := match d, e with
  | .int i, .int j => if mulOk i j then .ok (.int (i * j)) else .bad
  | .str x, .int k => if cb (2 ≤ k ∧ k ≤ 1000 ∧ x.length ≤ 1000 ∧ 1 ≤ x.length) then .ok (.str (repS k.toNat x)) else .bad
  | _, _ => .bad
def rMulS : R2 := fun x y H Q => ∃ (a : Str) (k : Int), x = .str a ∧ y = .int k ∧ 2 ≤ k ∧ k ≤ 1000 ∧ a.length ≤ 1000 ∧ 1 ≤ a.length ∧ Q (.str (repS k.toNat a)) H
theorem op_mulStr : OpR X (binaryOp .Mult) rMulS := by
  intro pins s σ H x y v u Q I rx ry h
  obtain ⟨a, k, rfl, rfl, h1, h2, h3, h4, q⟩ := h
  obtain ⟨t, rfl⟩ := rx
  obtain ⟨t', rfl⟩ := ry
  have n1 : ¬ k < 1 := by omega
  have n2 : (k == 1 || a.length == 0) = false := by
    rw [Bool.or_eq_false_iff]
    exact ⟨beq_false_of_ne (by omega), beq_false_of_ne (by omega)⟩
  have n3 : a.length * k.toNat ≤ 1000 * 1000 := Nat.mul_le_mul h3 (by omega)
  have tl : PySem.Builtin.Str.tooLong (a.length * k.toNat) = false := by
    unfold PySem.Builtin.Str.tooLong
    rw [sizeLine_eq]
    exact decide_eq_false (by omega)
  refine PySem.P.mul_str (by rw [decide_eq_false (by omega), decide_eq_false (by omega)]; rfl) (fun _ _ => ?_) (fun _ _ => ?_) ?_
  · have : (2 ^ 63 - 1 : Int) / 1000 ≤ (2 ^ 63 - 1) / k := by
      refine Int.le_ediv_of_mul_le (by omega) ?_
      have e1 : ((2 ^ 63 - 1 : Int) / 1000) * k ≤ ((2 ^ 63 - 1 : Int) / 1000) * 1000 := Int.mul_le_mul_of_nonneg_left h2 (by decide)
      exact Int.le_trans e1 (by decide)
    have e2 : (1000 : Int) ≤ (2 ^ 63 - 1 : Int) / 1000 := by decide
    omega
  · exact tl
  · rw [if_neg n1, if_neg (by rw [n2]; exact Bool.false_ne_true)]
    exact ⟨fits_reps tl, .str (repS k.toNat a), H, I.tok _, ⟨_, rfl⟩, q⟩
/-! ### constants of the module -/
theorem op_mulUS : OpR X (binaryOp .Mult) (fun x y H Q => rI (fun i j => mulOk i j = true) (fun i j => .int (i * j)) x y H Q ∨ rMulS x y H Q) := op_mulU.or op_mulStr
theorem o_mulS {K : Frg} {mg : Mg} : O2 K mg (fun x y H Q => rI (fun i j => mulOk i j = true) (fun i j => .int (i * j)) x y H Q ∨ rMulS x y H Q) oMulS := fun S σ H x y d e W Q i hx hy q => by
  unfold oMulS at q
  split at q
  · split at q
    · rename_i hc
      exact .inl ⟨_, _, hx.int, hy.int, hc, q _ _ _ (Gr.refl i) (.int _)⟩
    · exact q.elim
  · split at q
    · rename_i hc
      obtain ⟨h1, h2, h3, h4⟩ := of_cb hc
      exact .inr ⟨_, _, hx.str, hy.int, h1, h2, h3, h4, q _ _ _ (Gr.refl i) (.str _)⟩
    · exact q.elim
  · exact q.elim
def scV : D → Option V
  | .non => some .non
  | .bl b => some (.bl b)
  | .int i => some (.int i)
  | .str x => some (.str x)
  | _ => none
def Gc (mg : Mg) (x : Str) (d : D) : Prop := ∃ u v, scV d = some v ∧ mg x = some u ∧ RelV v u
theorem scV_rp {K : Frg} {mg : Mg} {S : Hp} {d : D} {v : V} (h : scV d = some v) : Rp K mg S v d := by
  cases d <;> cases h
  · exact .non
  · exact .bl _
  · exact .int _
  · exact .str _
theorem me_gc {x : Str} {d : D} (h : Gc X.mg x d) (hg : Gl X x := by rfl) (hd : (x == ("__debug__" : Str)) = false := by decide) : ME X hx W (.Name x pos) (sC d) := by
  obtain ⟨u, v, h1, h2, h3⟩ := h
  exact pe_imp (pe_glob hg h2 h3 hd) fun σ H Q ⟨b, S, ρ, R, q⟩ => q v S H (Gr.refl R.sh) (scV_rp h1)
def gcB (K : Frg) (x : Str) (d : D) : Bool := match PySem.W.nsIn K mainGlobals x, d with
  | some (some (.int i _)), .int j => decide (i = j)
  | some (some (.str a _)), .str b => decide (a = b)
  | _, _ => false
theorem gc_ok {K : Frg} {h : Heap} {mg : Mg} {x : Str} {d : D} (X : K.In h) (G : h.Ns mainGlobals mg) (c : gcB K x d = true) : Gc mg x d := by
  unfold gcB at c
  split at c
  · rename_i i t j e
    exact ⟨_, .int j, rfl, PySem.W.mg_of X G e, t, by rw [of_decide_eq_true c]⟩
  · rename_i a t b e
    exact ⟨_, .str b, rfl, PySem.W.mg_of X G e, t, by rw [of_decide_eq_true c]⟩
  · cases c
/-! ### replace, of two written texts, as an item behind one that begins with a written text -/
@[simp] def sRep (y z : Str) (f : Sl → Res D) (ρ : Sl) : Res D := (f ρ).bind fun d => match d with
  | .str x => if x.length + (x.length + 1) * z.length ≤ 16777216 then .ok (.str (Txt.replace x y z)) else .bad
  | _ => .bad
abbrev MET (X : Cx) (hx : Hx) (W : WX) (e : Expr) (f : Sl → Res D) : Prop := PET X e (tG X.K X.mg hx (rrE X.K X.mg) W f)
abbrev MAT (X : Cx) (hx : Hx) (W : WX) (es : List Expr) (f : Sl → Res (List D)) : Prop := PAT X es (tG X.K X.mg hx (rrA X.K X.mg) W f)
theorem pet_imp {t t' : TE} (h : PET X e t) (i : ∀ σ H Q, t' σ H Q → t σ H Q) : PET X e t' := fun pins s σ H Q h0 I q => h pins s σ H Q h0 I (i σ H Q q)
theorem pat_imp {es : List Expr} {t t' : TA} (h : PAT X es t) (i : ∀ σ H Q, t' σ H Q → t σ H Q) : PAT X es t' := fun ps pins s σ H Q h0 I q => h ps pins s σ H Q h0 I (i σ H Q q)
theorem met_of (h : ME X hx W e fa) : MET X hx W e fa := CwR.PET.of h
theorem met_rep {o : Expr} {y z : Str} {j k : Nat} {c0 c1 apos : Pos} (ho : MR X hx W o fa) (hyz : (y == z) = false := by decide)
    (hst : starEach [.Constant (.str y) j c0, .Constant (.str z) k c1] X.env = [(false, eval (.Constant (.str y) j c0) X.env), (false, eval (.Constant (.str z) k c1) X.env)] := by rfl)
    (hbase : attributeBase o "replace" X.env (eval o X.env) = eval o X.env := by rfl) (hline : (apos.endLine == pos.line) = true := by rfl) :
    MET X hx W (.Call (.Attribute o "replace" apos) [.Constant (.str y) j c0, .Constant (.str z) k c1] [] pos) (sRep y z fa) :=
  pet_imp (CwR.pet_replC ho hyz hst hbase hline) fun σ H Q ⟨b, S, ρ, R, q⟩ => ⟨b, S, ρ, R, q.bind fun d v S1 H1 g1 r1 k => by
    cases d with
    | str x =>
      have k2 : Po X.K X.mg (rrE X.K X.mg) W S σ H (if x.length + (x.length + 1) * z.length ≤ 16777216 then .ok (.str (Txt.replace x y z)) else .bad) Q := k
      split at k2
      · rename_i hl
        exact ⟨x, r1.str, hl, k2 _ S1 H1 g1 (.str _)⟩
      · exact k2.elim
    | _ => exact k.elim⟩
theorem mat_nil : MAT X hx W [] aNil := pat_imp pat_nil fun σ H Q ⟨b, S, ρ, R, q⟩ => q [] S H (Gr.refl R.sh) .nil
theorem aC_seq {fs : Sl → Res (List D)} : ∀ σ H Q, tG X.K X.mg hx (rrA X.K X.mg) W (aCons fa fs) σ H Q → tCons (tG X.K X.mg hx (rrE X.K X.mg) W fa) (tG X.K X.mg hx (rrA X.K X.mg) W fs) σ H Q := fun σ H Q ⟨b, S, ρ, R, q⟩ =>
  ⟨b, S, ρ, R, q.bind fun d v S1 H1 g1 r1 k => ⟨b, S1, ρ, R.grow g1, (k.upA g1).bind fun d2 v2 S2 H2 g2 r2 k2 => k2 _ S2 H2 g2 (.cons (r1.up g2.s d v) r2)⟩⟩
theorem mat_cons {es : List Expr} {fs : Sl → Res (List D)} (ha : MET X hx W e fa) (hr : MAT X hx W es fs) (hs : starEach (e :: es) X.env = (false, eval e X.env) :: starEach es X.env := by rfl) : MAT X hx W (e :: es) (aCons fa fs) :=
  pat_imp (pat_cons ha hr hs) aC_seq
/-- the first item begins with a written text: a token is out behind it -/
theorem ma_first {es : List Expr} {fs : Sl → Res (List D)} {op : Operator} {y : Str} {j : Nat} {c0 : Pos} {r : R2} {g : D → D → Res D} (ho : OpR X (binaryOp op) r) (hrr : O2 X.K X.mg r g) (hb : MR X hx W b fb) (hr : MAT X hx W es fs)
    (hs : starEach (.BinOp (.Constant (.str y) j c0) op b pos :: es) X.env = (false, eval (.BinOp (.Constant (.str y) j c0) op b pos) X.env) :: starEach es X.env := by rfl) : MA X hx W (.BinOp (.Constant (.str y) j c0) op b pos :: es) (aCons (sOp g (sC (.str y)) fb) fs) := by
  refine pa_imp (t := tCons (tOp r (tC (.str y)) (tG X.K X.mg hx (rrR X.K X.mg) W fb)) (tG X.K X.mg hx (rrA X.K X.mg) W fs)) ⟨fun ps pins s σ H Q I h => ?_⟩ fun σ H Q q => ?_
  · rw [hs]
    show wpAny _ _ (spliced ((false, eval (.BinOp (.Constant (.str y) j c0) op b pos) X.env) :: backTo ps (starEach es X.env))) _ _ s
    refine Calls.spliced_cons (wpAny_BinOp (Calls.Constant_str ?_))
    refine wpAny_mono (PySem.wpAny_toks (hb.run pins _ σ H _ (I.tok (s.toks + 1)) h)) (fun u s1 q => ?_) fun _ _ z => z.2
    obtain ⟨hk, w, H1, I1, r1, q1⟩ := q
    refine wpAny_mono (PySem.wpAny_toks (ho pins s1 σ H1 (.str y) w _ u _ I1 ⟨_, rfl⟩ r1 q1)) (fun v s2 q => ?_) fun _ _ z => z.2
    obtain ⟨hk2, x, H2, I2, r2, q2⟩ := q
    have h1 : 1 ≤ s2.toks := Nat.le_trans (Nat.le_trans (show 1 ≤ s.toks + 1 by omega) hk) hk2
    exact thn (hr ps pins s2 σ H2 _ h1 I2 q2) fun us s3 ⟨xs, H3, I3, r3, q3⟩ => ⟨x :: xs, H3, I3, .cons r2 r3, q3⟩
  · obtain ⟨b0, S, ρ, R, q⟩ := aC_seq σ H Q q
    have q' : Po X.K X.mg (rrE X.K X.mg) W S σ H ((fb ρ).bind fun y' => g (.str y) y') _ := q
    exact ⟨b0, S, ρ, R, q'.bind fun d v S1 H1 g1 r1 k => hrr S1 σ H1 (.str y) v (.str y) d W _ g1.i (Rd1.of g1.i (.str _)) r1 (k.upE g1)⟩
end
end PF

set_option Elab.async false
set_option linter.all false
set_option maxRecDepth 100000
set_option maxHeartbeats 4000000
/-! the head: a law's facts as one Bool of the written part, its defs by their places -/
namespace PF
open PySem PySem.Spec L2

abbrev AlP : Type := Bool × List He.FnW
def obsP (fa : List (Frg → Bool)) (fn : List He.DefD) (K : Frg) : AlP := ((fa.all fun f => f K) && fn.all fun d => d.ok K, fn.map fun d => He.fnW K d.at_)
def valP (fn : List He.DefD) : AlP := (true, fn.map He.DefD.val)
def SaysP (fa : List (Frg → Bool)) (fn : List He.DefD) (K : Frg) : Prop := obsP fa fn K = valP fn
def obsPG (n : Nat) (fa : List (Frg → Bool)) (fn : List He.DefD) (g : Addr → Option Obj) : AlP := obsP fa fn (He.frG g (He.asD g n))
def hookP (n : Nat) (fa : List (Frg → Bool)) (fn : List He.DefD) : PySem.W.Hook where
  α := AlP
  obs := fun s => obsPG n fa fn s.heap.get?
  val := fun _ => valP fn
  says := fun _ h => ∃ K : Frg, K.In h ∧ SaysP fa fn K
  of := fun _ _ e => ⟨_, He.frG_in, e⟩
  keeps := fun _ _ _ ⟨K, hK, c⟩ k => ⟨K, PySem.W.Frag.In.keeps hK k, c⟩
theorem obsPG_eq {n : Nat} {fa : List (Frg → Bool)} {fn : List He.DefD} {g : Addr → Option Obj} {s : Shared} (h : ∀ a, g a = s.heap.get? a) : obsPG n fa fn g = (hookP n fa fn).obs s := by
  have e : g = s.heap.get? := funext h
  rw [e] <;> rfl
section
variable {fa : List (Frg → Bool)} {fn : List He.DefD} {K : Frg}
theorem SaysP.fact (c : SaysP fa fn K) (i : Nat) {f : Frg → Bool} (h : fa[i]? = some f := by rfl) : f K = true := by
  have c1 := (He.ba (show ((fa.all fun f => f K) && fn.all fun d => d.ok K) = true from congrArg (fun z : AlP => z.1) c)).1
  exact List.all_eq_true.mp c1 f (List.mem_of_getElem? h)
theorem SaysP.def_ (c : SaysP fa fn K) (i : Nat) {d : He.DefD} (h : fn[i]? = some d := by rfl) : ∃ fd, FunD K d.name d.qual d.params d.body d.scope (d.dvs K) (d.kws K) (He.fAd K d.at_) fd := by
  have c2 := (He.ba (show ((fa.all fun f => f K) && fn.all fun d => d.ok K) = true from congrArg (fun z : AlP => z.1) c)).2
  have e : fn.map (fun d => He.fnW K d.at_) = fn.map He.DefD.val := congrArg (fun z : AlP => z.2) c
  have e2 : (fn.map fun d => He.fnW K d.at_)[i]? = (fn.map He.DefD.val)[i]? := by rw [e]
  rw [List.getElem?_map, List.getElem?_map, h] at e2
  exact He.DefD.funD (Option.some.inj e2) (List.all_eq_true.mp c2 d (List.mem_of_getElem? h))
end
theorem fun_of {K : Frg} {x qual : Str} {st : Stmt} {f : Addr} {fd : FuncData} {kws : List (Str × V)} (F : FunD K x qual (defArgs st) (defBody st) (defScope st) [] kws f fd) : Fun K x qual st f fd := by
  obtain ⟨oc, od, dV, kV, doc, pm, an, cdv, ct, osl, rfl, h2, h3, h4, h5⟩ := F.ex
  rcases h4 with ⟨_, rfl⟩ | ⟨h, _⟩
  · exact ⟨⟨oc, od, kV, doc, pm, an, cdv, ct, osl, rfl, h2, h3⟩, F.kp⟩
  · exact absurd rfl h
/-- one def of the text: a global one without defaults -/
def dD (x : Str) (st : Stmt) : He.DefD := ⟨(x, none), x, x, defArgs st, defBody st, defScope st, [], []⟩
theorem df_mk {P : Program} {w : World} {K : Frg} {mg : Mg} {base h : Heap} {x : Str} {st : Stmt} {fd : FuncData} {k : Nat} {ps : List Str} {g : List D → Res D} (X : K.In h) (G : h.Ns mainGlobals mg) (F : FunD K x x (defArgs st) (defBody st) (defScope st) [] [] (He.fAd K (x, none)) fd)
    (c : (He.Fa.glo x).ok K = true) (hb : Binds K fd ps []) (ok : FnOk P w K mg base (L2.CX P w) k (He.fAd K (x, none)) fd ps (spF K mg ps.length g)) : Df P w K mg base x k (He.fAd K (x, none)) fd ps g :=
  ⟨ok, He.glo_ok X G c, F.kp, hb⟩
/-- facts of an exception class, of isinstance -/
def excCB (K : Frg) (x : Str) : Bool := He.eqO (PySem.W.findIn K (.ref (He.ga K x)) "__getattribute__") (some (some (.builtin "BaseException.__getattribute__"))) && (He.eqO (PySem.W.findIn K (.ref (He.ga K x)) "__getattr__") (some none) && (decide (PySem.W.subIn K (.ref (He.ga K x)) (.type "BaseException") = some true) && (PySem.W.hasDictIn K (He.ga K x) &&
  (He.eqO (PySem.W.findIn K (.ref (He.ga K x)) "__class__") (some (some (.builtin "object.__class__"))) && (He.eqO (PySem.W.specialIn K (.builtin "object.__class__") "__get__") (some (some (.builtin "getset_descriptor.__get__"))) && (decide (PySem.W.takesIn K (.builtin "object.__class__") = some true) && decide (PySem.W.mroIn K (He.ga K x) (.type "object") = some true)))))))
theorem excCB_ok {K : Frg} {x : Str} (h : excCB K x = true) : ExcC K (He.ga K x) := by
  obtain ⟨h1, h⟩ := He.ba h
  obtain ⟨h2, h⟩ := He.ba h
  obtain ⟨h3, h⟩ := He.ba h
  obtain ⟨h4, h⟩ := He.ba h
  obtain ⟨h5, h⟩ := He.ba h
  obtain ⟨h6, h⟩ := He.ba h
  obtain ⟨h7, h8⟩ := He.ba h
  exact ⟨He.eqO_ok h1, He.eqO_ok h2, of_decide_eq_true h3, h4, He.eqO_ok h5, He.eqO_ok h6, of_decide_eq_true h7, of_decide_eq_true h8⟩
theorem excT_ok {K : Frg} {mg : Mg} {h : Heap} {x : Str} (X : K.In h) (G : h.Ns mainGlobals mg) (c : (He.Fa.glo x).ok K = true) (e : (He.Fa.exc x).ok K = true) : ExcT K mg x (He.ga K x) :=
  let ⟨h1, h2, h3, h4⟩ := He.exc_ok e
  ⟨He.glo_ok X G c, h1, h2, h3, h4⟩
/-- a table of isinstance answers (tuple: any of them) -/
def rowB (K : Frg) (x : Str) (us : List Value) (b : Bool) : Bool := decide (PySem.W.kitAny K (.ref (He.ga K x)) us = some b)
def row1B (K : Frg) (x : Str) (u : Value) (b : Bool) : Bool := decide (PySem.W.kitOne K (.ref (He.ga K x)) u = some b)
end PF

set_option Elab.async false
set_option linter.all false
set_option maxRecDepth 100000
set_option maxHeartbeats 4000000
/-! super().__init__(..) in a def of the written part that closes over __class__; the def's own rule. -/
namespace PF
open PySem PySem.Spec L2 PyProof.Rows NdefX PySem.W ClX

theorem boot_super : bootBuiltins "super" = some (.type "super") := by decide +kernel
/-- what of the text a super() in the def at f asks: f itself, its code object, its cell __class__ (it holds the class D) -/
structure SupF (X : Cx) (f cda cc D : Addr) (me : Str) : Prop where
  fu : X.env.func = some f
  co : X.env.code = .ref cda
  cl : X.env.cells.lookup ("__class__" : Str) = some cc
  fd : ∃ oc od fd osl ar, X.K.lookup f = some ⟨oc, od, .func fd, osl⟩ ∧ (fd.params.posonlyargs ++ fd.params.args).head? = some ar ∧ ar.arg = me
  code : ∃ ccl cdd vs ccs file tf, X.K.lookup cda = some ⟨ccl, cdd, .fields vs, ccs⟩ ∧ vs[2]? = some (.str file tf) ∧ ((X.prog.main.file : Str) == file) = true
  cell : ∃ cl cld csl, X.K.lookup cc = some ⟨cl, cld, .cell (some (.ref D)), csl⟩
  top : (X.prog.main.scope.names.lookup ("super" : Str)).isSome = false
  glo : X.mg "super" = none
  ks : X.env.kindOf "super" = some .globalImplicit
  kc : X.env.kindOf "__class__" = some .free
  km : X.env.kindOf me = some .local
  cls : ∃ cd, clsIn X.K D = some cd
/-- what the object's class C must be: below D; the next __init__ behind D is the def at g -/
structure SupC (K : Frag) (C D g : Addr) : Prop where
  sub : mroIn K C (.ref D) = some true
  nx : ks_superIn K C D "__init__" = some (some (.ref g))
  ty : typeIn K (.ref g) = some (.type "function")
  fn : fnIn K g = true
  st : nsIn K cStatics "thirdparty.any" = some none
section
variable {X : Cx} {f cda cc D C g : Addr} {me : Str} {CX : CXT} {k : Nat} {sp : Sp} {E : L2.St → XK} {fd : FuncData} {ps : List Str} {e : Expr} {es : List Expr} {t : TA} {p0 p1 apos pos spos : Pos} {pins : List (Addr × Obj)} {s : Shared} {σ : L2.St} {H : Hp} {x dx : Addr} {fs : List (Str × V)} {body : List Stmt}
theorem cls_at {K : Frag} {h : Heap} {D : Addr} {cd : ClassData} (X : K.In h) (e : clsIn K D = some cd) : ∃ oD, h.get? D = some oD ∧ oD.data = .cls cd := by
  unfold clsIn at e
  split at e
  · rename_i c d cd' sl ho
    cases e
    exact ⟨_, X _ _ ho, rfl⟩
  · cases e
theorem fn_at {K : Frag} {h : Heap} {g : Addr} (X : K.In h) (e : typeIn K (.ref g) = some (.type "function")) : ∃ of, h.get? g = some of ∧ of.cls = .type "function" := by
  have ht' : (K.lookup g).map (·.cls) = some (.type "function") := e
  cases z : K.lookup g with
  | none => rw [z] at ht'; cases ht'
  | some of => rw [z] at ht'; exact ⟨of, X _ _ z, Option.some.inj ht'⟩
theorem code_fnS {Q : VK} {us : List Value} {vs : List V} (F : FnOk X.prog X.w X.K X.mg X.base CX k f fd ps sp) (hr : Room k X.A) (hb : Binds X.K fd ps []) (hx : PassesAt CX X σ (E σ))
    (I : Inv X pins σ H s) (r : Vals vs us) (h : sp vs H Q (E σ)) : codeAny (model X.prog X.w) X.A (.call (.ref f) ⟨us, []⟩) (fun r s' => match r with | .ok (.ret v) => EP X pins σ Q v s' | .ok _ => False | .error e => X.xe e s') s := by
  have hl : us.length = ps.length := by rw [← r.length]; exact F.len _ _ _ _ h
  have b := hb s us I.kIn (by rw [List.append_nil]; exact hl)
  rw [List.append_nil] at b
  refine codeAny_mono (F.run X.A X.stack s H ⟨us, []⟩ us vs Q (E σ) hr I.env0 b r h) fun r s' hq => ?_
  cases r with
  | error e => exact hx pins H s e s' I hq
  | ok fl =>
    cases fl with
    | ret u => exact I.after hq
    | next => exact False.elim hq
    | brk => exact False.elim hq
    | cont => exact False.elim hq
/-- super().__init__(e, ..) as a statement: the next class's def runs on the same object -/
theorem sup_stmt {Dn : Ends} (Su : SupF X f cda cc D me) (Sc : SupC X.K C D g) (F : FnOk X.prog X.w X.K X.mg X.base CX k g fd ps sp) (hbi : Binds X.K fd ps []) (hr : Room k X.A) (hx : ∀ σ, PassesAt CX X σ (E σ)) (ha : PA X (e :: es) t)
    (I : Inv X pins σ H s) (hN : X.N[0]? = some me) (hσ : σ[0]? = some (some (.ref x))) (hV : Vis X.env.scope me) (hH : H x = some (.ins C dx fs))
    (h : t σ H fun vs H1 => sp (.ref x :: vs) H1 (fun _ H2 => Dn.nx σ H2) (E σ))
    (he : starEach (e :: es) X.env = (false, eval e X.env) :: starEach es X.env := by rfl) (hpl : (backTo pos (starEach es X.env)).any (·.1) = false := by rfl)
    (hs : swapsWith (.Call (.Attribute (.Call (.Name "super" p0) [] [] p1) "__init__" apos) (e :: es) [] pos) none spos.line X.env = pure false := by rfl)
    (hev : eval (.Call (.Attribute (.Call (.Name "super" p0) [] [] p1) "__init__" apos) (e :: es) [] pos) X.env = (do
      let ov ← attributeBase (.Call (.Name "super" p0) [] [] p1) "__init__" X.env (eval (.Call (.Name "super" p0) [] [] p1) X.env)
      standAt apos.atName
      let (f, first) ← holding [ov] (getMethod ov "__init__" (pure false))
      callWith pos f first (backTo pos (starEach (e :: es) X.env)) []) := by rfl) :
    _root_.PySem.wpAt (model X.prog X.w) X.A (.func body X.env) (exec (.Expr (.Call (.Attribute (.Call (.Name "super" p0) [] [] p1) "__init__" apos) (e :: es) [] pos) spos) X.env) (SP X pins Dn) X.xe s := by
  have KX := I.kIn
  obtain ⟨oc, od, fd, osl, ar, lf, hp, har⟩ := Su.fd
  obtain ⟨ccl, cdd, vs, ccs, file, tf, lc, hvs, hfile⟩ := Su.code
  obtain ⟨cl, cld, csl, lcc⟩ := Su.cell
  obtain ⟨cdD, hcd⟩ := Su.cls
  obtain ⟨oD, hD1, hD2⟩ := cls_at KX hcd
  obtain ⟨mA, OM, _, _, _, _⟩ := ins_get I.hok hH
  obtain ⟨odx, IA, _⟩ := OM.look
  refine ks_wpAt_Expr_any (ks_wpAt_MethodCall (pl := pure false) ?_ hev) I.quiet hs
  refine ks_wpAt_super_base Su.ks Su.kc (by decide) Su.fu (KX _ _ lf) rfl hp Su.co (KX _ _ lc) rfl hvs hfile Su.top ?_
  obtain ⟨mb, hb1, hb2⟩ := I.mod.blt
  refine ks_loadName_global I.ok.kind Su.ks (Calls.loadGlobal_builtin (by rw [I.ok.glob]; exact I.mod.glob.keeps I.bk) Su.glo (by rw [I.ok.blt]; exact hb1.keeps I.bk) ((hb2 "super" (by decide)).trans boot_super) ⟨rfl, ?_⟩)
  refine wpAny_loadName_free I.ok.kind Su.kc Su.cl ⟨_, KX _ _ lcc, rfl⟩ ?_
  obtain ⟨m, hns, hl⟩ := I.loc
  obtain ⟨u, ru, lk⟩ := hl 0 me (.ref x) hN hσ hV
  obtain rfl : u = Value.ref x := ru
  have hm : m me = some (.ref x) := by
    rcases lk with ⟨_, q⟩ | ⟨q, _⟩
    · exact q
    · rw [Su.km] at q
      rcases q with q | q <;> cases q
  rw [har]
  refine wpAny_loadName_local I.ok.kind Su.km hns hm ?_
  refine ks_wpAny_isType_cls hD1 hD2 ⟨rfl, ?_⟩
  refine ks_wpAny_call_super hD1 hD2 IA.at_ IA.cls (fun c q => by cases q) (looks_mroIn KX Sc.sub) (fun h' e1 k1 => ?_)
  have I1 : Inv X pins σ H { s with heap := h', toks := s.toks } := I.kept (t' := s.toks) k1
  have KX1 := I1.kIn
  have nx := Sc.nx
  unfold ks_superIn at nx
  cases hc : clsIn X.K C with
  | none => rw [hc] at nx; cases nx
  | some cd =>
    rw [hc] at nx
    obtain ⟨of, hof, hofc⟩ := fn_at KX1 Sc.ty
    refine ks_wpAny_getMethod_super e1 (looks_opaque KX1 Sc.st) (l₀ := cd.mro) ?_ rfl KX1 nx hof hofc (ks_ne KX IA hc) (by decide) ?_
    · exact fun A Q E s k q => wpAny_bind ((looks_clsIn KX1 hc) A _ E s k (wpAny_pure q))
    · have I2 : Inv X ((h'.objs.size, methodObj (.ref g) (.ref x)) :: pins) σ H { s with heap := h'.push (methodObj (.ref g) (.ref x)), toks := s.toks + 1 } :=
        pin_new (s := { s with heap := h', toks := s.toks }) I1 (fun _ _ z => Heap.get?_push_of_some _ z) (Nat.le_refl _) (Heap.get?_push_size h' rfl) (fun v z => nomatch z)
      have hL : h'.objs.size ≠ X.env.locals := (I2.pin (h'.objs.size, methodObj (.ref g) (.ref x)) (List.mem_append_right _ List.mem_cons_self)).2.2.1
      have hb0 : X.base.get? h'.objs.size = none := base_none I1 (Nat.le_refl _)
      refine callWith_M (K := X.K) (h₀ := X.base) (first := []) I2.ok.mod.kin (news_at hL hb0 (pin_at I2)) List.mem_cons_self Sc.fn ?_ he hpl
      refine thn (ha.run pos _ _ σ H _ I2 h) fun us s3 ⟨ws, H1, I3, r, q⟩ => ⟨⟨pin_at I3, I3.kIn⟩, ?_⟩
      have z : wpAny (model X.prog X.w) X.A (call (.ref h'.objs.size) us) (EP X ((h'.objs.size, methodObj (.ref g) (.ref x)) :: pins) σ (fun _ H2 => Dn.nx σ H2)) X.xe s3 :=
        wpAny_call (method_call (pin_at I3) (code_fnS (us := .ref x :: us) (vs := .ref x :: ws) F hr hbi (hx σ) I3 (.cons rfl r) q))
      exact thn z fun _ s4 ⟨v, H4, I4, _, q4⟩ => ⟨σ, H4, unpin I4, q4⟩
end
/-! ### the rule of a def that closes over __class__ -/
section
variable {CX : CXT} {P : Program} {w : World} {K : Frag} {mg : Str → Option Value} {base : Heap} {k : Nat} {f cc cda D : Addr} {name qual : Str} {params : Arguments} {body : List Stmt} {scope : Scope} {dV kV doc pm ct oc cl : Value} {an od cld : Option Addr} {osl csl : Array (Option Value)} {N ps : List Str} {sp : Sp}
abbrev niF (name qual : Str) (params : Arguments) (body : List Stmt) (scope : Scope) (cc cda : Addr) : NF := ⟨name, qual, params, body, scope, [("__class__", cc)], cda⟩
theorem fn_ofS (lk : K.lookup f = some ⟨oc, od, .func (ksFn name qual params body scope dV kV doc pm an (.ref cda) ct cc), osl⟩) (hcd : codeIn K (.ref cda) qual = true) (lcc : K.lookup cc = some ⟨cl, cld, .cell (some (.ref D)), csl⟩) (S : NScope N ps ["__class__"] scope)
    (len : ∀ vs H Q E, sp vs H Q E → vs.length = ps.length)
    (hbody : ∀ (A : Around) (outer : List Env) (s s1 : Shared) (H : Hp) (vs : List V) (Q : VK) (E : XK), Room k (A.deeper (envF (niF name qual params body scope cc cda) f s.heap.objs.size)) → sp vs H Q E →
      Inv (ncx CX P w K mg base N (niF name qual params body scope cc cda) f A outer s H E) [] (startF N vs [some (.ref D)]) H s1 →
      _root_.PySem.wpAt (model P w) (A.deeper (envF (niF name qual params body scope cc cda) f s.heap.objs.size)) (.func body (envF (niF name qual params body scope cc cda) f s.heap.objs.size)) (execs body (envF (niF name qual params body scope cc cda) f s.heap.objs.size))
        (SP (ncx CX P w K mg base N (niF name qual params body scope cc cda) f A outer s H E) [] { nx := fun _ H' => Q .non H', rt := Q }) (ncx CX P w K mg base N (niF name qual params body scope cc cda) f A outer s H E).xe s1) :
    FnOk P w K mg base CX (k + 1) f (ksFn name qual params body scope dV kV doc pm an (.ref cda) ct cc) ps sp := by
  refine ⟨len, fun A outer s H args us vs Q E hr e0 hb r hsp => ?_⟩
  have hl := len _ _ _ _ hsp
  have KX : K.In s.heap := e0.mod.kin.keeps fun b o e => (e0.bs b o e).1
  have lim : s.heap.NoLimit := e0.mod.nolimit.keeps fun b o e => (e0.bs b o e).1
  have hloc : ∀ y ∈ ps.zip us, scope.names.lookup y.1 = some .local := fun ⟨n, v⟩ hy => S.par n (List.of_mem_zip hy).1
  have C : CellsAt [("__class__", cc)] ["__class__"] [some (.ref D)] s.heap H := by
    have ex : (([("__class__", cc)] : List (Str × Addr)).lookup ("__class__" : Str)) = some cc := rfl
    have on : ∀ y c, (([("__class__", cc)] : List (Str × Addr)).lookup y) = some c → y = ("__class__" : Str) ∧ c = cc := fun y c e => by
      by_cases q : y = ("__class__" : Str)
      · subst q
        rw [ex] at e
        cases e
        exact ⟨rfl, rfl⟩
      · have : (([("__class__", cc)] : List (Str × Addr)).lookup y) = none := by
          unfold List.lookup
          rw [beq_false_of_ne q]
          rfl
        rw [this] at e
        cases e
    refine ⟨rfl, fun y c e => ?_, fun x y c e1 e2 => ?_, fun i y e => ?_⟩
    · obtain ⟨_, rfl⟩ := on y c e
      exact ⟨(e0.bs _ _ (e0.mod.kin _ _ lcc)).2, _, _, KX _ _ lcc, rfl⟩
    · rw [(on x c e1).1, (on y c e2).1]
    · cases i with
      | zero =>
        cases e
        exact ⟨cc, ex, fun v e => by cases e; exact ⟨.ref D, rfl, _, KX _ _ lcc, rfl⟩⟩
      | succ i => cases e
  refine ks_codeAny_call_defAt hr.depth (KX _ _ lk) rfl lim (codeRec_of KX hcd) rfl hb S.nocell hloc (fun h₀ hns kp => ?_) S.co S.gen S.kind
  have I := inv_startN (CX := CX) (P := P) (w := w) (F := niF name qual params body scope cc cda) (f := f) (E := E) (tk := s.toks + (ps.zip us).length) S hr.hd e0 hl r C hns kp
  refine ks_wpAt_mono (hbody A outer s _ H vs Q E (hr.deeper _) hsp I) (fun fl s' hs => ?_) fun e s' hs => hs
  have fin : ∀ {σ' : L2.St} {H' : Hp} {v : V} {u : Value}, Inv (ncx CX P w K mg base N (niF name qual params body scope cc cda) f A outer s H E) [] σ' H' s' → L2.RelV v u → Q v H' → CE outer P w H s Q u s' :=
    fun {σ' H' v u} J rv q => ⟨v, H', J.os, J.bare, J.base, J.hok, rv, q⟩
  cases fl with
  | ret u =>
    obtain ⟨v, σ', H', J, rv, q⟩ := hs
    exact fin J rv q
  | next =>
    obtain ⟨σ', H', J, q⟩ := hs
    exact fin (v := V.non) (u := Value.none) J rfl q
  | brk =>
    obtain ⟨_, _, _, q⟩ := hs
    exact False.elim q
  | cont =>
    obtain ⟨_, _, _, q⟩ := hs
    exact False.elim q
end
end PF

set_option Elab.async false
set_option linter.all false
set_option maxRecDepth 100000
set_option maxHeartbeats 4000000
/-! Instances that are not changed any more: attributes, constants of their classes, methods. -/
namespace PF
open PySem PySem.Spec L2 PyProof.Rows

theorem zip_look {K : Frg} {mg : Mg} {S : Hp} (f : Str) : ∀ {ns : List Str} {xs : List V} {ds : List D} {d : D}, RpA K mg S xs ds → (ns.zip ds).lookup f = some d → ∃ v, (ns.zip xs).lookup f = some v ∧ Rp K mg S v d
  | [], _, _, _, _, h => by simp at h
  | n :: ns, _, [], _, r, h => by simp at h
  | n :: ns, _, d0 :: ds, d, r, h => by
    cases r with
    | @cons v vs _ _ r1 r2 =>
      rw [List.zip_cons_cons] at h ⊢
      unfold List.lookup at h ⊢
      cases e : f == n with
      | true =>
        rw [e] at h
        cases h
        exact ⟨v, rfl, r1⟩
      | false =>
        rw [e] at h
        exact zip_look f r2 h
theorem zip_none (f : Str) : ∀ {ns : List Str} {xs : List V}, f ∉ ns → (ns.zip xs).lookup f = none
  | [], _, _ => by simp
  | n :: ns, [], _ => by simp
  | n :: ns, x :: xs, h => by
    rw [List.zip_cons_cons]
    unfold List.lookup
    rw [beq_false_of_ne (fun e => h (by simp [e]))]
    exact zip_none f (fun e => h (by simp [e]))
/-- o.f, a field of an instance of one of the classes cs -/
@[simp] def bFld (cs : List Str) (f : Str) (d : D) : Res D := match d with
  | .obj c ns ds => if c ∈ cs then (match (ns.zip ds).lookup f with
    | some v => .ok v
    | none => .bad) else .bad
  | _ => .bad
def FldT (K : Frg) (mg : Mg) (cs : List Str) (f : Str) : Prop := ∀ c ∈ cs, ∀ C, mg c = some (.ref C) → Cls K C ∧ NoAttr K C f
/-- o.f, a constant of the instance's class -/
@[simp] def bCon (tab : List (Str × D)) (f : Str) (d : D) : Res D := match d with
  | .obj c ns _ => if f ∈ ns then .bad else (match tab.lookup c with
    | some v => .ok v
    | none => .bad)
  | _ => .bad
def ConT (K : Frg) (mg : Mg) (tab : List (Str × D)) (f : Str) : Prop := ∀ c d, tab.lookup c = some d → ∀ C, mg c = some (.ref C) → Cls K C ∧ ∃ v u, scV d = some v ∧ Con K C f v u
/-- C.f, a constant of the class named x -/
def CcT (K : Frg) (mg : Mg) (x f : Str) (d : D) : Prop := ∃ C mc v u, mg x = some (.ref C) ∧ scV d = some v ∧ ClX.CRead K C mc ∧ ClX.CVal K C mc f v u
section
variable {X : Cx} {hx : Hx} {W : WX} {e : Expr} {pos : Pos} {fa : Sl → Res D} {f : Str}
theorem me_fld {cs : List Str} (ht : FldT X.K X.mg cs f) (he : MR X hx W e fa) (hb : attributeBase e f X.env (eval e X.env) = eval e X.env := by rfl) : ME X hx W (.Attribute e f pos) (sUn (bFld cs f) fa) :=
  pe_imp (pe_fld he hb) fun σ H Q ⟨b, S, ρ, R, q⟩ => ⟨b, S, ρ, R, q.bind fun d v S1 H1 g1 r1 k => by
    cases d with
    | obj c ns ds =>
      have r : Rp X.K X.mg S1 v (.obj c ns ds) := r1
      cases r with
      | @obj a C dx fs _ _ xs _ h1 h2 h3 h4 h5 =>
        have k2 : Po X.K X.mg (rrE X.K X.mg) W S σ H (if c ∈ cs then (match (ns.zip ds).lookup f with | some v => .ok v | none => .bad) else .bad) Q := k
        split at k2
        · rename_i hc
          obtain ⟨c1, c2⟩ := ht c hc C h2
          split at k2
          · rename_i w hw
            obtain ⟨v, hv, rv⟩ := zip_look f h5 hw
            exact ⟨a, C, dx, fs, v, rfl, g1.i _ _ h1, c1, c2, by rw [h3]; exact hv, k2 v S1 H1 g1 rv⟩
          · exact k2.elim
        · exact k2.elim
    | _ => exact k.elim⟩
theorem me_cono {tab : List (Str × D)} (ht : ConT X.K X.mg tab f) (he : MR X hx W e fa) (hb : attributeBase e f X.env (eval e X.env) = eval e X.env := by rfl) : ME X hx W (.Attribute e f pos) (sUn (bCon tab f) fa) :=
  pe_imp (pe_con he hb) fun σ H Q ⟨b, S, ρ, R, q⟩ => ⟨b, S, ρ, R, q.bind fun d v S1 H1 g1 r1 k => by
    cases d with
    | obj c ns ds =>
      have r : Rp X.K X.mg S1 v (.obj c ns ds) := r1
      cases r with
      | @obj a C dx fs _ _ xs _ h1 h2 h3 h4 h5 =>
        have k2 : Po X.K X.mg (rrE X.K X.mg) W S σ H (if f ∈ ns then .bad else (match tab.lookup c with | some v => .ok v | none => .bad)) Q := k
        split at k2
        · exact k2.elim
        · rename_i hf
          split at k2
          · rename_i w hw
            obtain ⟨c1, v, u, c2, c3⟩ := ht c w hw C h2
            exact ⟨a, C, dx, fs, v, u, rfl, g1.i _ _ h1, c1, c3, by rw [h3]; exact zip_none f hf, k2 v S1 H1 g1 (scV_rp c2)⟩
          · exact k2.elim
    | _ => exact k.elim⟩
theorem me_ccon {x : Str} {p : Pos} {d : D} (ht : CcT X.K X.mg x f d) (hg : Gl X x := by rfl) (hd : (x == ("__debug__" : Str)) = false := by decide) (hb : attributeBase (.Name x p) f X.env (eval (.Name x p) X.env) = eval (.Name x p) X.env := by rfl) : ME X hx W (.Attribute (.Name x p) f pos) (sC d) := by
  obtain ⟨C, mc, v, u, h1, h2, h3, h4⟩ := ht
  exact pe_imp (ClX.pe_cval (pe_glob (v := .ref C) hg h1 rfl hd) hb) fun σ H Q ⟨b, S, ρ, R, q⟩ => ⟨C, mc, v, u, rfl, h3, h4, q v S H (Gr.refl R.sh) (scV_rp h2)⟩
end
/-! ### methods -/
abbrev MtT := List (Str × (List D → Res D))
structure MethT (P : Program) (w : World) (K : Frg) (mg : Mg) (base : Heap) (tab : MtT) (m : Str) (n k : Nat) : Prop where
  of : ∀ c g, tab.lookup c = some g → ∀ C, mg c = some (.ref C) → Cls K C ∧ ∃ f fd ps, Meth K C m f ∧ FnOk P w K mg base (L2.CX P w) k f fd ps (spF K mg ps.length g) ∧ Binds K fd ps [] ∧ ps.length = n + 1
@[simp] def rMeth (tab : MtT) (m : Str) (f : Sl → Res D) (fs : Sl → Res (List D)) (ρ : Sl) : Res D := (f ρ).bind fun d => match d with
  | .obj c ns ds => if m ∈ ns then .bad else (match tab.lookup c with
    | some g => (fs ρ).bind fun as => g (.obj c ns ds :: as)
    | none => .bad)
  | _ => .bad
@[simp] def sMeth (tab : MtT) (m : Str) (f : Sl → Res D) (fs : Sl → Res (List D)) (ρ : Sl) : Res D := (rMeth tab m f fs ρ).bind thaw
@[simp] def fMeth (tab : MtT) (m : Str) (f : Sl → Res D) (fs : Sl → Res (List D)) (ρ : Sl) : Res (List D) := (rMeth tab m f fs ρ).bind unfr
theorem meth_imp {K : Frg} {mg : Mg} {W : WX} {g : List D → Res D} {fs : Sl → Res (List D)} {n : Nat} {d0 : D} {v0 : V} {σ : L2.St} {H : Hp} {Q : VK} (hfl : ∀ ρ ds, fs ρ = .ok ds → ds.length = n) {S : Hp} {ρ : Sl} (r0 : Rp K mg S v0 d0) (i : Same S H) (q : Po K mg (rrX K mg) W S σ H ((fs ρ).bind fun as => g (d0 :: as)) Q) :
    Po K mg (rrA K mg) W S σ H (fs ρ) fun vs H1 => spF K mg (n + 1) g (v0 :: vs) H1 Q fun cls d H' => W cls d σ H' := by
  cases ef : fs ρ with
  | exc y ys => rw [ef] at q; exact q
  | bad => rw [ef] at q; exact q
  | ok ds =>
    rw [ef] at q
    intro v S1 H1 g1 r1
    refine ⟨d0 :: ds, S1, by rw [List.length_cons, r1.len, hfl ρ ds ef], g1.i, .cons (Rp.up g1.s _ _ r0) r1, ?_⟩
    have q1 : Po K mg (rrX K mg) W S1 σ H1 (g (d0 :: ds)) Q := Po.upX g1 q
    cases eg : g (d0 :: ds) with
    | ok d => rw [eg] at q1; exact q1
    | exc y ys => rw [eg] at q1; exact q1
    | bad => rw [eg] at q1; exact q1
section
variable {X : Cx} {hx : Hx} {W : WX} {o e : Expr} {es : List Expr} {pos apos : Pos} {fo : Sl → Res D} {fs : Sl → Res (List D)} {m : Str} {tab : MtT} {n k : Nat}
theorem pe_methD {pl : Sem Bool} (G : MethT X.prog X.w X.K X.mg X.base tab m n k) (hr : Room k X.A) (cw : Cw X W) (he : MR X hx W o fo) (ha : MA X hx W (e :: es) fs) (hfl : ∀ ρ ds, fs ρ = .ok ds → ds.length = n)
    (hst : starEach (e :: es) X.env = (false, eval e X.env) :: starEach es X.env) (hpl : (backTo pos (starEach es X.env)).any (·.1) = false)
    (ht : eval (.Call (.Attribute o m apos) (e :: es) [] pos) X.env = (do
      let ov ← eval o X.env
      standAt apos.atName
      let (f, first) ← holding [ov] (getMethod ov m pl)
      callWith pos f first (backTo pos (starEach (e :: es) X.env)) (backToKw pos (keywordEach [] X.env)))) :
    PE X (.Call (.Attribute o m apos) (e :: es) [] pos) (tG X.K X.mg hx (rrX X.K X.mg) W (rMeth tab m fo fs)) := by
  refine ⟨fun pins s σ H Q I ⟨b, S, ρ, R, q⟩ => ?_⟩
  refine methcall_of he I ⟨b, S, ρ, R, q.bind fun d v S1 H1 g1 r1 kk => ?_⟩ ht
  cases d with
  | obj c ns ds =>
    have r : Rp X.K X.mg S1 v (.obj c ns ds) := r1
    cases r with
    | @obj a C dx fv _ _ xs _ h1 h2 h3 h4 h5 =>
      have k2 : Po X.K X.mg (rrX X.K X.mg) W S σ H (if m ∈ ns then .bad else (match tab.lookup c with | some g => (fs ρ).bind fun as => g (.obj c ns ds :: as) | none => .bad)) Q := kk
      split at k2
      · exact k2.elim
      · rename_i hm
        split at k2
        · rename_i g hg
          obtain ⟨c1, f, fd, ps, c2, F, B, c3⟩ := G.of c g hg C h2
          refine ⟨a, C, dx, fv, f, rfl, g1.i _ _ h1, c1, c2, by rw [h3]; exact zip_none m hm, fun s1 I1 => ?_⟩
          refine PySem.W.callWith_K (first := [.ref a]) (h₀ := X.base) I1.ok.mod.kin c2.kp (thn (ha.run pos pins s1 σ H1 _ I1 ⟨b, S1, ρ, R.grow g1, meth_imp hfl (.obj h1 h2 h3 h4 h5) g1.i (Po.upX g1 k2)⟩) fun us s2 ⟨vs, H2, I2, r, q2⟩ => ⟨I2.kIn, ?_⟩) hst hpl
          rw [← c3] at q2
          exact run_fnS (us := .ref a :: us) (vs := .ref a :: vs) (E := WE W) F hr B (cw σ) I2 (.cons rfl r) q2
        · exact k2.elim
  | _ => exact kk.elim
theorem pe_methD0 {pl : Sem Bool} (G : MethT X.prog X.w X.K X.mg X.base tab m 0 k) (hr : Room k X.A) (cw : Cw X W) (he : MR X hx W o fo)
    (ht : eval (.Call (.Attribute o m apos) [] [] pos) X.env = (do
      let ov ← eval o X.env
      standAt apos.atName
      let (f, first) ← holding [ov] (getMethod ov m pl)
      callWith pos f first (backTo pos (starEach [] X.env)) (backToKw pos (keywordEach [] X.env)))) :
    PE X (.Call (.Attribute o m apos) [] [] pos) (tG X.K X.mg hx (rrX X.K X.mg) W (rMeth tab m fo aNil)) := by
  refine ⟨fun pins s σ H Q I ⟨b, S, ρ, R, q⟩ => ?_⟩
  refine methcall_of he I ⟨b, S, ρ, R, q.bind fun d v S1 H1 g1 r1 kk => ?_⟩ ht
  cases d with
  | obj c ns ds =>
    have r : Rp X.K X.mg S1 v (.obj c ns ds) := r1
    cases r with
    | @obj a C dx fv _ _ xs _ h1 h2 h3 h4 h5 =>
      have k2 : Po X.K X.mg (rrX X.K X.mg) W S σ H (if m ∈ ns then .bad else (match tab.lookup c with | some g => (aNil ρ).bind fun as => g (.obj c ns ds :: as) | none => .bad)) Q := kk
      split at k2
      · exact k2.elim
      · rename_i hm
        split at k2
        · rename_i g hg
          obtain ⟨c1, f, fd, ps, c2, F, B, c3⟩ := G.of c g hg C h2
          refine ⟨a, C, dx, fv, f, rfl, g1.i _ _ h1, c1, c2, by rw [h3]; exact zip_none m hm, fun s1 I1 => ?_⟩
          have z := meth_imp (n := 0) (fs := aNil) (ρ := ρ) (g := g) (fun ρ ds h => len_nil h) (.obj h1 h2 h3 h4 h5) g1.i (Po.upX g1 k2)
          have z2 := z [] S1 H1 (Gr.refl g1.i) .nil
          rw [← c3] at z2
          exact PySem.W.callWith_K0 (first := [.ref a]) I1.kIn c2.kp (run_fnS (us := [.ref a]) (vs := [.ref a]) (E := WE W) F hr B (cw σ) I1 (.cons rfl .nil) z2)
        · exact k2.elim
  | _ => exact kk.elim
theorem po_thaw {K : Frg} {mg : Mg} {hx : Hx} {W : WX} {f : Sl → Res D} : ∀ σ H Q, tG K mg hx (rrE K mg) W (fun ρ => (f ρ).bind thaw) σ H Q → tG K mg hx (rrX K mg) W f σ H Q := fun σ H Q ⟨b, S, ρ, R, q⟩ => ⟨b, S, ρ, R, Po.freeze q⟩
theorem po_unfr {K : Frg} {mg : Mg} {hx : Hx} {W : WX} {f : Sl → Res D} : ∀ σ H Q, tG K mg hx (rrF K mg) W (fun ρ => (f ρ).bind unfr) σ H Q → tG K mg hx (rrX K mg) W f σ H Q := fun σ H Q ⟨b, S, ρ, R, q⟩ => ⟨b, S, ρ, R, Po.unfr q⟩
theorem me_meth {pl : Sem Bool} (G : MethT X.prog X.w X.K X.mg X.base tab m n k) (hr : Room k X.A) (cw : Cw X W) (he : MR X hx W o fo) (ha : MA X hx W (e :: es) fs) (hfl : ∀ ρ ds, fs ρ = .ok ds → ds.length = n)
    (hst : starEach (e :: es) X.env = (false, eval e X.env) :: starEach es X.env := by rfl) (hpl : (backTo pos (starEach es X.env)).any (·.1) = false := by rfl)
    (ht : eval (.Call (.Attribute o m apos) (e :: es) [] pos) X.env = (do
      let ov ← eval o X.env
      standAt apos.atName
      let (f, first) ← holding [ov] (getMethod ov m pl)
      callWith pos f first (backTo pos (starEach (e :: es) X.env)) (backToKw pos (keywordEach [] X.env))) := by rfl) : ME X hx W (.Call (.Attribute o m apos) (e :: es) [] pos) (sMeth tab m fo fs) := pe_imp (pe_methD G hr cw he ha hfl hst hpl ht) po_thaw
theorem mf_meth {pl : Sem Bool} (G : MethT X.prog X.w X.K X.mg X.base tab m n k) (hr : Room k X.A) (cw : Cw X W) (he : MR X hx W o fo) (ha : MA X hx W (e :: es) fs) (hfl : ∀ ρ ds, fs ρ = .ok ds → ds.length = n)
    (hst : starEach (e :: es) X.env = (false, eval e X.env) :: starEach es X.env := by rfl) (hpl : (backTo pos (starEach es X.env)).any (·.1) = false := by rfl)
    (ht : eval (.Call (.Attribute o m apos) (e :: es) [] pos) X.env = (do
      let ov ← eval o X.env
      standAt apos.atName
      let (f, first) ← holding [ov] (getMethod ov m pl)
      callWith pos f first (backTo pos (starEach (e :: es) X.env)) (backToKw pos (keywordEach [] X.env))) := by rfl) : MF X hx W (.Call (.Attribute o m apos) (e :: es) [] pos) (fMeth tab m fo fs) := pe_imp (pe_methD G hr cw he ha hfl hst hpl ht) po_unfr
theorem me_meth0 {pl : Sem Bool} (G : MethT X.prog X.w X.K X.mg X.base tab m 0 k) (hr : Room k X.A) (cw : Cw X W) (he : MR X hx W o fo)
    (ht : eval (.Call (.Attribute o m apos) [] [] pos) X.env = (do
      let ov ← eval o X.env
      standAt apos.atName
      let (f, first) ← holding [ov] (getMethod ov m pl)
      callWith pos f first (backTo pos (starEach [] X.env)) (backToKw pos (keywordEach [] X.env))) := by rfl) : ME X hx W (.Call (.Attribute o m apos) [] [] pos) (sMeth tab m fo aNil) := pe_imp (pe_methD0 G hr cw he ht) po_thaw
theorem mf_meth0 {pl : Sem Bool} (G : MethT X.prog X.w X.K X.mg X.base tab m 0 k) (hr : Room k X.A) (cw : Cw X W) (he : MR X hx W o fo)
    (ht : eval (.Call (.Attribute o m apos) [] [] pos) X.env = (do
      let ov ← eval o X.env
      standAt apos.atName
      let (f, first) ← holding [ov] (getMethod ov m pl)
      callWith pos f first (backTo pos (starEach [] X.env)) (backToKw pos (keywordEach [] X.env))) := by rfl) : MF X hx W (.Call (.Attribute o m apos) [] [] pos) (fMeth tab m fo aNil) := pe_imp (pe_methD0 G hr cw he ht) po_unfr
end
end PF

set_option Elab.async false
set_option linter.all false
set_option maxRecDepth 100000
set_option maxHeartbeats 4000000
/-! An __init__ read as a function on the attributes; the making of an instance. -/
namespace PF
open PySem PySem.Spec L2 PyProof.Rows

abbrev Fl := List (Str × D)
inductive RpF (K : Frg) (mg : Mg) (S : Hp) : List (Str × V) → Fl → Prop
  | nil : RpF K mg S [] []
  | cons {f : Str} {v : V} {d : D} {fv : List (Str × V)} {fl : Fl} : Rp K mg S v d → RpF K mg S fv fl → RpF K mg S ((f, v) :: fv) ((f, d) :: fl)
@[simp] def putD (f : Str) (d : D) : Fl → Fl
  | [] => [(f, d)]
  | (g, x) :: r => if g = f then (g, d) :: r else (g, x) :: putD f d r
section
variable {K : Frg} {mg : Mg} {S S' : Hp}
theorem RpF.up (e : Same S S') : ∀ {fv : List (Str × V)} {fl : Fl}, RpF K mg S fv fl → RpF K mg S' fv fl
  | _, _, .nil => .nil
  | _, _, .cons r t => .cons (r.up e _ _) (t.up e)
theorem RpF.len : ∀ {fv : List (Str × V)} {fl : Fl}, RpF K mg S fv fl → fv.length = fl.length
  | _, _, .nil => rfl
  | _, _, .cons _ t => by simp [t.len]
theorem RpF.put {f : Str} {v : V} {d : D} (r : Rp K mg S v d) : ∀ {fv : List (Str × V)} {fl : Fl}, RpF K mg S fv fl → RpF K mg S (putF f v fv) (putD f d fl)
  | _, _, .nil => .cons r .nil
  | _, _, .cons (f := g) (v := x) (fv := fv) q t => by
    unfold putD
    rw [show putF f v ((g, x) :: fv) = (if g = f then (g, v) :: fv else (g, x) :: putF f v fv) from rfl]
    by_cases h : g = f
    · rw [if_pos h, if_pos h]; exact .cons r t
    · rw [if_neg h, if_neg h]; exact .cons q (t.put r)
theorem RpF.obj : ∀ {fv : List (Str × V)} {fl : Fl}, RpF K mg S fv fl → ∃ xs, fv = (fl.map (·.1)).zip xs ∧ (fl.map (·.1)).length = xs.length ∧ RpA K mg S xs (fl.map (·.2))
  | _, _, .nil => ⟨[], rfl, rfl, .nil⟩
  | _, _, .cons (f := f) (v := v) r t => by
    obtain ⟨xs, h1, h2, h3⟩ := t.obj
    exact ⟨v :: xs, by rw [h1]; rfl, by simpa using h2, .cons r h3⟩
end
/-- the object at x may change; nothing else -/
structure Gx (x : Addr) (S H S' H' : Hp) : Prop where
  s : Same S S'
  h : ∀ a o, a ≠ x → H a = some o → H' a = some o
  i : Same S' H'
  n : ∀ a, H a ≠ none → S a = none → S' a = none
  k : H x ≠ none → H' x ≠ none
theorem Gx.gr {x : Addr} {S H S1 H1 S2 H2 : Hp} (a : Gr S H S1 H1) (b : Gx x S1 H1 S2 H2) : Gx x S H S2 H2 where
  s := a.s.trans b.s
  h := fun y o q e => b.h y o q (a.h y o e)
  i := b.i
  n := fun y h e => b.n y (fun q => by
    cases r : H y with
    | none => exact h r
    | some o => rw [a.h y o r] at q; cases q) (a.n y h e)
  k := fun h => b.k fun q => by
    cases r : H x with
    | none => exact h r
    | some o => rw [a.h x o r] at q; cases q
def InC (mg : Mg) (cs : List Str) (C : Addr) : Prop := ∃ c ∈ cs, mg c = some (.ref C)
/-- the promise of an __init__: the attributes at the end are g of those at its start and of the arguments' data -/
def spI (K : Frg) (mg : Mg) (cs : List Str) (n : Nat) (g : Addr → Fl → List D → Res Fl) : Sp := fun vs H Q E => ∃ ds S x C dx us fv fl, vs = .ref x :: us ∧ us.length = n ∧ H x = some (.ins C dx fv) ∧ S x = none ∧ InC mg cs C ∧ Same S H ∧ RpF K mg S fv fl ∧ RpA K mg S us ds ∧
  match g x fl ds with
  | .ok fl' => ∀ S' H' fv', Gx x S H S' H' → H' x = some (.ins C dx fv') → RpF K mg S' fv' fl' → Q .non H'
  | .exc y ys => ∀ S' H' C' dx', Gx x S H S' H' → mg y = some (.ref C') → Xd K mg S' H' dx' ys → E (.ref C') dx' H'
  | .bad => False
theorem spI_len {K : Frg} {mg : Mg} {cs : List Str} {n : Nat} {g : Addr → Fl → List D → Res Fl} {vs H Q E} (h : spI K mg cs n g vs H Q E) : vs.length = n + 1 := by
  obtain ⟨ds, S, x, C, dx, us, fv, fl, rfl, h1, _⟩ := h
  simp [h1]
inductive OutI where
  | nx (fl : Fl) (ρ : Sl) | exc (x : Str) (fs : List (Str × D)) (ρ : Sl) | bad
structure Io (K : Frg) (mg : Mg) (cs : List Str) (b : Bs) (S : Hp) (x C dx : Addr) (fv : List (Str × V)) (fl : Fl) : Prop where
  at_ : b.H0 x = some (.ins C dx fv)
  s : S x = none
  cls : InC mg cs C
  rp : RpF K mg S fv fl
structure Gb (x : Addr) (b b' : Bs) : Prop where
  s : b'.S0 = b.S0
  h : ∀ a, a ≠ x → b'.H0 a = b.H0 a
  k : b'.H0 x ≠ none
theorem Gb.trans {x : Addr} {b b1 b2 : Bs} (h1 : Gb x b b1) (h2 : Gb x b1 b2) : Gb x b b2 := ⟨h2.s.trans h1.s, fun a q => (h2.h a q).trans (h1.h a q), h2.k⟩
def PoI (K : Frg) (mg : Mg) (cs : List Str) (W : WX) (b : Bs) (S : Hp) (x C dx : Addr) (o : OutI) (D : Ends) : Prop := match o with
  | .nx fl ρ => ∀ b' S' σ H fv, Same S S' → Gb x b b' → Rel K mg none b' S' ρ σ H → Io K mg cs b' S' x C dx fv fl → D.nx σ H
  | .exc y ys ρ => ∀ b' S' σ H C' dx', Same S S' → Gb x b b' → Rel K mg none b' S' ρ σ H → mg y = some (.ref C') → Xd K mg S' H dx' ys → W (.ref C') dx' σ H
  | .bad => False
abbrev GI := Addr → Fl → Sl → OutI
def tI (K : Frg) (mg : Mg) (cs : List Str) (W : WX) (x : Addr) (g : GI) : TS := fun D σ H => ∃ b S ρ C dx fv fl, Rel K mg none b S ρ σ H ∧ Io K mg cs b S x C dx fv fl ∧ PoI K mg cs W b S x C dx (g x fl ρ) D
abbrev NI (X : Cx) (cs : List Str) (W : WX) (st : Stmt) (g : GI) : Prop := ∀ x, PS X st (tI X.K X.mg cs W x g)
abbrev NIs (X : Cx) (cs : List Str) (W : WX) (st : List Stmt) (g : GI) : Prop := ∀ x, PSs X st (tI X.K X.mg cs W x g)
theorem PoI.up {K : Frg} {mg : Mg} {cs : List Str} {W : WX} {b b1 : Bs} {S S1 : Hp} {x C dx : Addr} {o : OutI} {D : Ends} (e : Same S S1) (e2 : Gb x b b1) (h : PoI K mg cs W b S x C dx o D) : PoI K mg cs W b1 S1 x C dx o D := by
  cases o with
  | nx fl ρ => exact fun b' S' σ H fv q1 q2 => h b' S' σ H fv (e.trans q1) (e2.trans q2)
  | exc y ys ρ => exact fun b' S' σ H C' dx' q1 q2 => h b' S' σ H C' dx' (e.trans q1) (e2.trans q2)
  | bad => exact h
theorem Io.gb {K : Frg} {mg : Mg} {cs : List Str} {b : Bs} {S : Hp} {x C dx : Addr} {fv : List (Str × V)} {fl : Fl} (h : Io K mg cs b S x C dx fv fl) : Gb x b b := ⟨rfl, fun _ _ => rfl, by rw [h.at_]; simp⟩
theorem Io.grow {K : Frg} {mg : Mg} {cs : List Str} {b : Bs} {S S' H : Hp} {x C dx : Addr} {fv : List (Str × V)} {fl : Fl} (h : Io K mg cs b S x C dx fv fl) (e : Same S S') (B : Bok b S' H) (s0 : Same b.S0 S) : Io K mg cs b S' x C dx fv fl :=
  ⟨h.at_, B.nw x (by rw [h.at_]; simp) (by
    cases r : b.S0 x with
    | none => rfl
    | some o => rw [← h.s, s0 x o r]), h.cls, h.rp.up e⟩
/-- an expression's result, then k -/
def rI {α : Type} (r : Res α) (ρ : Sl) (k : α → OutI) : OutI := match r with
  | .ok a => k a
  | .exc x fs => .exc x fs ρ
  | .bad => .bad
@[simp] theorem rI_ok {α : Type} (a : α) (ρ : Sl) (k : α → OutI) : rI (.ok a) ρ k = k a := rfl
@[simp] theorem rI_exc {α : Type} (x : Str) (fs) (ρ : Sl) (k : α → OutI) : rI (.exc x fs) ρ k = .exc x fs ρ := rfl
@[simp] theorem rI_bad {α : Type} (ρ : Sl) (k : α → OutI) : rI .bad ρ k = .bad := rfl
/-- a statement that leaves the object alone -/
@[simp] def jPl (f : Sl → Out) (_ : Addr) (fl : Fl) (ρ : Sl) : OutI := match f ρ with
  | .nx ρ' => .nx fl ρ'
  | .exc x fs ρ' => .exc x fs ρ'
  | _ => .bad
@[simp] def jSeq (g h : GI) (x : Addr) (fl : Fl) (ρ : Sl) : OutI := match g x fl ρ with
  | .nx fl' ρ' => h x fl' ρ'
  | o => o
@[simp] def jNil (_ : Addr) (fl : Fl) (ρ : Sl) : OutI := .nx fl ρ
/-- self.f = e -/
@[simp] def jFld (f : Str) (fe : Sl → Res D) (x : Addr) (fl : Fl) (ρ : Sl) : OutI := rI (fe ρ) ρ fun d => match (ρ[0]? : Option Cell) with
  | some (Cell.v (D.raw y)) => if y = x ∧ fl.length < 1000 then .nx (putD f d fl) ρ else .bad
  | _ => .bad
/-- what the object at x says changes -/
theorem Rel.setObj {K : Frg} {mg : Mg} {b : Bs} {S : Hp} {ρ : Sl} {σ : L2.St} {H : Hp} {x : Addr} {o : HO} (R : Rel K mg none b S ρ σ H) (hx : b.H0 x ≠ none) (hs : S x = none) : Rel K mg none ⟨upd b.H0 x o, b.S0⟩ S ρ σ (upd H x o) where
  s0 := R.s0
  sh := fun a u e => by
    rw [upd_ne (fun z => by rw [z, hs] at e; cases e)]
    exact R.sh a u e
  h0 := fun a u e => by
    by_cases z : a = x
    · subst z
      have e : upd b.H0 a o a = some u := e
      rw [upd_same] at e ⊢
      exact e
    · have e : upd b.H0 x o a = some u := e
      rw [upd_ne z] at e ⊢
      exact R.h0 a u e
  nw := fun a e q => R.nw a (by
    by_cases z : a = x
    · rw [z]; exact hx
    · have e : upd b.H0 x o a ≠ none := e
      rw [upd_ne z] at e
      exact e) q
  len := R.len
  val := R.val
  own := fun i ds e => by
    obtain ⟨p, vs, h1, h2, h3, h4, h5⟩ := R.own i ds e
    have z : p ≠ x := fun z => hx (by rw [← z]; exact h4)
    exact ⟨p, vs, h1, by rw [upd_ne z]; exact h2, h3, by show upd b.H0 x o p = none; rw [upd_ne z]; exact h4, h5⟩
  xc := fun i c fs e => by
    obtain ⟨a, C, dx, h1, _⟩ := R.xc i c fs e
    cases h1
  apart := R.apart
section
variable {X : Cx} {cs : List Str} {W : WX} {st : Stmt} {rest : List Stmt} {g h : GI} {f : Str} {e : Expr} {pos pos' : Pos}
theorem ni_pl {fo : Sl → Out} (hs : MS X none W st fo) : NI X cs W st (jPl fo) := fun x => ps_imp hs fun D σ H ⟨b, S, ρ, C, dx, fv, fl, R, io, q⟩ => by
  refine ⟨b, S, ρ, R, ?_⟩
  unfold jPl at q
  cases ef : fo ρ with
  | nx ρ' => rw [ef] at q; exact fun S' σ' H' s1 R' => q b S' σ' H' fv s1 io.gb R' (io.grow s1 R'.bok R.s0)
  | exc y ys ρ' => rw [ef] at q; exact fun S' σ' H' C' dx' s1 R' m xd => q b S' σ' H' C' dx' s1 io.gb R' m xd
  | ret d => rw [ef] at q; exact q.elim
  | bk ρ' => rw [ef] at q; exact q.elim
  | ct ρ' => rw [ef] at q; exact q.elim
  | bad => rw [ef] at q; exact q.elim
theorem ni_nil : NIs X cs W [] jNil := fun x => pss_imp pss_nil fun D σ H ⟨b, S, ρ, C, dx, fv, fl, R, io, q⟩ => q b S σ H fv (Same.refl _) io.gb R io
theorem ni_cons (h1 : NI X cs W st g) (h2 : NIs X cs W rest h) : NIs X cs W (st :: rest) (jSeq g h) := fun x => pss_imp (pss_cons (h1 x) (h2 x)) fun D σ H ⟨b, S, ρ, C, dx, fv, fl, R, io, q⟩ => by
  refine ⟨b, S, ρ, C, dx, fv, fl, R, io, ?_⟩
  unfold jSeq at q
  cases ef : g x fl ρ with
  | nx fl' ρ' => rw [ef] at q; exact fun b' S' σ' H' fv' s1 g1 R' io' => ⟨b', S', ρ', C, dx, fv', fl', R', io', PoI.up s1 g1 q⟩
  | exc y ys ρ' => rw [ef] at q; exact q
  | bad => rw [ef] at q; exact q.elim
theorem rI_po {α β : Type} {K : Frg} {mg : Mg} {RX : RR α β} {W : WX} {cs : List Str} {b : Bs} {S H : Hp} {ρ : Sl} {σ : L2.St} {x C dx : Addr} {fv : List (Str × V)} {fl : Fl} {r : Res β} {k : β → OutI} {D : Ends} {Q : α → Hp → Prop} (R : Rel K mg none b S ρ σ H) (io : Io K mg cs b S x C dx fv fl) (h : PoI K mg cs W b S x C dx (rI r ρ k) D)
    (n : ∀ d v S' H', Gr S H S' H' → RX H S' H' v d → PoI K mg cs W b S x C dx (k d) D → Q v H') : Po K mg RX W S σ H r Q := by
  cases r with
  | ok d => exact fun v S' H' g q => n d v S' H' g q h
  | exc y ys => exact fun S' H' C' dx' g q1 q2 => h b S' σ H' C' dx' g.s io.gb (R.grow g) q1 q2
  | bad => exact h
theorem ni_fld {me : Str} {p : Pos} {fe : Sl → Res D} (ht : FldT X.K X.mg cs f) (hv : PE X (.Name me p) (tVar 0)) (he : ME X none W e fe) (hs : swapsWith e (some (.Attribute (.Name me p) f pos')) pos.line X.env = pure false := by rfl) : NI X cs W (.Assign [.Attribute (.Name me p) f pos'] e pos) (jFld f fe) :=
  fun x => ps_imp (ps_fld hv he hs) fun D σ H ⟨b, S, ρ, C, dx, fv, fl, R, io, q⟩ => ⟨b, S, ρ, R, rI_po R io q fun d v S1 H1 g1 r1 k => by
    split at k
    · rename_i y ey
      split at k
      · rename_i hh
        obtain ⟨rfl, hl⟩ := hh
        obtain ⟨v0, h1, h2⟩ := R.val 0 _ ey
        cases h2
        obtain ⟨c, hc, hm⟩ := io.cls
        obtain ⟨c1, c2⟩ := ht c hc C hm
        have R1 := R.grow g1
        have io1 := io.grow g1.s R1.bok R.s0
        refine ⟨_, h1, y, C, dx, fv, rfl, R1.h0 _ _ io.at_, c1, c2, by rw [io.rp.len]; exact hl, ?_⟩
        exact k ⟨upd b.H0 y (.ins C dx (putF f v fv)), b.S0⟩ S1 σ _ (putF f v fv) g1.s ⟨rfl, fun a q => upd_ne q, by show upd b.H0 y _ y ≠ none; rw [upd_same]; simp⟩ (R1.setObj (by rw [io.at_]; simp) io1.s) ⟨upd_same, io1.s, io1.cls, io1.rp.put r1⟩
      · exact k.elim
    · exact k.elim⟩
end
/-! ### the rule of an __init__ -/
/-- what a body makes of the attributes and its arguments: n slots -/
@[simp] def semI (n : Nat) (g : GI) (x : Addr) (fl : Fl) (ds : List D) : Res Fl := match g x fl (.v (.raw x) :: ds.map Cell.v ++ List.replicate (n - (ds.length + 1)) .e) with
  | .nx fl' _ => .ok fl'
  | .exc y ys _ => .exc y ys
  | .bad => .bad
theorem gx_of {x : Addr} {b b' : Bs} {S H S' H' : Hp} {K : Frg} {mg : Mg} {ρ : Sl} {σ : L2.St} (e1 : b.S0 = S) (e2 : b.H0 = H) (g : Gb x b b') (R : Rel K mg none b' S' ρ σ H') : Gx x S H S' H' where
  s := by rw [← e1, ← g.s]; exact R.s0
  h := fun a o q e => R.h0 a o (by rw [g.h a q, e2]; exact e)
  i := R.sh
  n := fun a h e => by
    refine R.nw a ?_ (by rw [g.s, e1]; exact e)
    by_cases z : a = x
    · rw [z]; exact g.k
    · rw [g.h a z, e2]; exact h
  k := fun _ q => by
    cases r : b'.H0 x with
    | none => exact g.k r
    | some o => rw [R.h0 x o r] at q; cases q
/-- the promise, from the body's outcome -/
theorem spI_ends {K : Frg} {mg : Mg} {cs : List Str} {n : Nat} {g : GI} {x C dx : Addr} {fl : Fl} {ds : List D} {S H : Hp} {Q : VK} {E : XK} (hx : H x = some (.ins C dx fv)) (q : match semI n g x fl ds with
  | .ok fl' => ∀ S' H' fv', Gx x S H S' H' → H' x = some (.ins C dx fv') → RpF K mg S' fv' fl' → Q .non H'
  | .exc y ys => ∀ S' H' C' dx', Gx x S H S' H' → mg y = some (.ref C') → Xd K mg S' H' dx' ys → E (.ref C') dx' H'
  | .bad => False) : PoI K mg cs (WE0 E) ⟨H, S⟩ S x C dx (g x fl (.v (.raw x) :: ds.map Cell.v ++ List.replicate (n - (ds.length + 1)) .e)) { nx := fun _ H' => Q .non H', rt := Q } := by
  unfold semI at q
  cases e : g x fl (.v (.raw x) :: ds.map Cell.v ++ List.replicate (n - (ds.length + 1)) .e) with
  | nx fl' ρ => rw [e] at q; exact fun b' S' σ H' fv' s1 gb R io => q S' H' fv' (gx_of rfl rfl gb R) (R.h0 _ _ io.at_) io.rp
  | exc y ys ρ => rw [e] at q; exact fun b' S' σ H' C' dx' s1 gb R m xd => q S' H' C' dx' (gx_of rfl rfl gb R) m xd
  | bad => rw [e] at q; exact q.elim
section
variable {P : Program} {w : World} {K : Frg} {mg : Mg} {base : Heap}
theorem in_ok {x qual : Str} {st : Stmt} {f : Addr} {fd : FuncData} {N ps : List Str} {k n : Nat} {cs : List Str} {g : GI} (F : Fun K x qual st f fd) (Sc : FnScope N ps (defScope st)) (hn : ps.length = n + 1)
    (hb : ∀ (cdv : Value) (A : Around) (outer : List Env) (s : Shared) (H : Hp) (E : XK), Room k (cxOf (L2.CX P w) P w K mg base N qual (defScope st) f cdv A outer s H E).A → Cs (cxOf (L2.CX P w) P w K mg base N qual (defScope st) f cdv A outer s H E) (WE0 E) →
      NIs (cxOf (L2.CX P w) P w K mg base N qual (defScope st) f cdv A outer s H E) cs (WE0 E) (defBody st) g) : FnOk P w K mg base (L2.CX P w) (k + 1) f fd ps (spI K mg cs n (semI N.length g)) :=
  F.okX Sc (fun vs H Q E h => by rw [hn]; exact spI_len h) fun cdv A outer s H vs Q E hr h => by
    obtain ⟨ds, S, x, C, dx, us, fv, fl, rfl, h1, h2, h3, h4, h5, h6, h7, h8⟩ := h
    refine ⟨_, hb cdv A outer s H E hr ⟨takes_of rfl rfl rfl rfl, passes_of rfl, rfl⟩ x, ⟨H, S⟩, S, .v (.raw x) :: ds.map Cell.v ++ List.replicate (N.length - (ds.length + 1)) Cell.e, C, dx, fv, fl, Rel.start (N := N) (ds := .raw x :: ds) h5 (.cons (.raw x) h7), ⟨h2, h3, h4, h6⟩, spI_ends h2 h8⟩
end
end PF

set_option Elab.async false
set_option linter.all false
set_option maxRecDepth 100000
set_option maxHeartbeats 4000000
/-! super().__init__ in the reading of an __init__; the making of an instance; isinstance of own classes; the head's facts of defs that close over __class__. -/
namespace PF
open PySem PySem.Spec L2 PyProof.Rows

/-! ### super().__init__(..) -/
theorem Rel.gx {K : Frg} {mg : Mg} {b : Bs} {S H S' H' : Hp} {ρ : Sl} {σ : L2.St} {x : Addr} {o : HO} (R : Rel K mg none b S ρ σ H) (g : Gx x S H S' H') (hx : b.H0 x ≠ none) (ho : H' x = some o) : Rel K mg none ⟨upd b.H0 x o, b.S0⟩ S' ρ σ H' where
  s0 := R.s0.trans g.s
  sh := g.i
  h0 := fun a u e => by
    by_cases z : a = x
    · subst z
      have e : upd b.H0 a o a = some u := e
      rw [upd_same] at e
      rw [ho]; exact e
    · have e : upd b.H0 x o a = some u := e
      rw [upd_ne z] at e
      exact g.h a u z (R.h0 a u e)
  nw := fun a e q => by
    have e2 : b.H0 a ≠ none := by
      by_cases z : a = x
      · rw [z]; exact hx
      · have e : upd b.H0 x o a ≠ none := e
        rw [upd_ne z] at e
        exact e
    refine g.n a (fun r => ?_) (R.nw a e2 q)
    cases w : b.H0 a with
    | none => exact e2 w
    | some u => rw [R.h0 a u w] at r; cases r
  len := R.len
  val := fun i d e => let ⟨v, h1, h2⟩ := R.val i d e; ⟨v, h1, h2.up g.s d v⟩
  own := fun i ds e => by
    obtain ⟨p, vs, h1, h2, h3, h4, h5⟩ := R.own i ds e
    have z : p ≠ x := fun z => hx (by rw [← z]; exact h4)
    exact ⟨p, vs, h1, g.h _ _ z h2, g.n p (by rw [h2]; simp) h3, by show upd b.H0 x o p = none; rw [upd_ne z]; exact h4, h5.up g.s ds vs⟩
  xc := fun i c fs e => by
    obtain ⟨a, C, dx, h1, _⟩ := R.xc i c fs e
    cases h1
  apart := R.apart
@[simp] def jSup (gs : Addr → Fl → List D → Res Fl) (fs : Sl → Res (List D)) (x : Addr) (fl : Fl) (ρ : Sl) : OutI := match (ρ[0]? : Option Cell) with
  | some (Cell.v (D.raw y)) => if y = x then rI (fs ρ) ρ fun ds => rI (gs x fl ds) ρ fun fl' => .nx fl' ρ else .bad
  | _ => .bad
/-- a statement at the level of one code -/
def NIa (X : Cx) (cs : List Str) (W : WX) (body : List Stmt) (st : Stmt) (g : GI) : Prop := ∀ x (pins : List (Addr × Obj)) (s : Shared) (σ : L2.St) (H : Hp) (D : Ends), Inv X pins σ H s → tI X.K X.mg cs W x g D σ H →
  _root_.PySem.wpAt (model X.prog X.w) X.A (.func body X.env) (exec st X.env) (SP X pins D) X.xe s
/-- what every class among cs must be for the def of the class at D -/
def SupT (K : Frg) (mg : Mg) (cs : List Str) (D g : Addr) : Prop := ∀ c ∈ cs, ∀ C, mg c = some (.ref C) → SupC K C D g
theorem ni_sup {X : Cx} {cs cs' : List Str} {W : WX} {body : List Stmt} {f cda cc D g : Addr} {me : Str} {k n : Nat} {fd : FuncData} {ps : List Str} {gs : Addr → Fl → List PF.D → Res Fl} {e : Expr} {es : List Expr} {fs : Sl → Res (List PF.D)} {p0 p1 apos pos spos : Pos}
    (Su : SupF X f cda cc D me) (Sc : SupT X.K X.mg cs D g) (F : FnOk X.prog X.w X.K X.mg X.base (L2.CX X.prog X.w) k g fd ps (spI X.K X.mg cs' n gs)) (hbi : Binds X.K fd ps []) (hr : Room k X.A) (cw : Cw X W) (ha : MA X none W (e :: es) fs) (hfl : ∀ ρ ds, fs ρ = .ok ds → ds.length = n) (hcs : ∀ c ∈ cs, c ∈ cs')
    (hN : X.N[0]? = some me) (hV : Vis X.env.scope me)
    (he : starEach (e :: es) X.env = (false, eval e X.env) :: starEach es X.env := by rfl) (hpl : (backTo pos (starEach es X.env)).any (·.1) = false := by rfl)
    (hs : swapsWith (.Call (.Attribute (.Call (.Name "super" p0) [] [] p1) "__init__" apos) (e :: es) [] pos) none spos.line X.env = pure false := by rfl)
    (hev : eval (.Call (.Attribute (.Call (.Name "super" p0) [] [] p1) "__init__" apos) (e :: es) [] pos) X.env = (do
      let ov ← attributeBase (.Call (.Name "super" p0) [] [] p1) "__init__" X.env (eval (.Call (.Name "super" p0) [] [] p1) X.env)
      standAt apos.atName
      let (f, first) ← holding [ov] (getMethod ov "__init__" (pure false))
      callWith pos f first (backTo pos (starEach (e :: es) X.env)) []) := by rfl) :
    NIa X cs W body (.Expr (.Call (.Attribute (.Call (.Name "super" p0) [] [] p1) "__init__" apos) (e :: es) [] pos) spos) (jSup gs fs) := fun x pins s σ H Dn I ⟨b, S, ρ, C, dx, fv, fl, R, io, q⟩ => by
  unfold jSup at q
  split at q
  · rename_i y ey
    split at q
    · rename_i hy
      subst hy
      obtain ⟨v0, h1, h2⟩ := R.val 0 _ ey
      cases h2
      obtain ⟨c, hc, hm⟩ := io.cls
      have hx0 : b.H0 y ≠ none := by rw [io.at_]; simp
      refine sup_stmt (E := WE W) Su (Sc c hc C hm) F hbi hr cw ha I hN h1 hV (R.h0 _ _ io.at_) ⟨b, S, ρ, R, ?_⟩ he hpl hs hev
      cases ef : fs ρ with
      | exc z zs => rw [ef] at q; exact fun S' H' C' dx' g q1 q2 => q b S' σ H' C' dx' g.s io.gb (R.grow g) q1 q2
      | bad => rw [ef] at q; exact q.elim
      | ok ds =>
        rw [ef] at q
        intro vs S1 H1 g1 r1
        have R1 := R.grow g1
        have io1 := io.grow g1.s R1.bok R.s0
        refine ⟨ds, S1, y, C, dx, vs, fv, fl, rfl, r1.len.trans (hfl ρ ds ef), R1.h0 _ _ io.at_, io1.s, ⟨c, hcs c hc, hm⟩, g1.i, io1.rp, r1, ?_⟩
        have q : PoI X.K X.mg cs W b S y C dx (rI (gs y fl ds) ρ fun fl' => .nx fl' ρ) Dn := q
        cases eg : gs y fl ds with
        | ok fl' =>
          rw [eg] at q
          intro S' H' fv' gx hx' rp
          exact q ⟨upd b.H0 y (.ins C dx fv'), b.S0⟩ S' σ H' fv' (g1.s.trans gx.s) ⟨rfl, fun a z => upd_ne z, by show upd b.H0 y _ y ≠ none; rw [upd_same]; simp⟩ (R1.gx gx hx0 hx') ⟨upd_same, gx.n y (by rw [R1.h0 _ _ io.at_]; simp) io1.s, io.cls, rp⟩
        | exc z zs =>
          rw [eg] at q
          intro S' H' C' dx' gx m xd
          cases ho : H' y with
          | none => exact absurd ho (gx.k (by rw [R1.h0 _ _ io.at_]; simp))
          | some o => exact q ⟨upd b.H0 y o, b.S0⟩ S' σ H' C' dx' (g1.s.trans gx.s) ⟨rfl, fun a z => upd_ne z, by show upd b.H0 y _ y ≠ none; rw [upd_same]; simp⟩ (R1.gx gx hx0 ho) m xd
        | bad => rw [eg] at q; exact q.elim
    · exact q.elim
  · exact q.elim
/-! ### the making of an instance -/
/-- what g says at every address -/
noncomputable def aAny {α : Type} (g : Addr → Res α) : Res α := @dite _ (∃ r, ∀ x, g x = r) (Classical.propDecidable _) (fun h => h.choose) (fun _ => .bad)
theorem aAny_eq {α : Type} {g : Addr → Res α} {r : Res α} (h : ∀ x, g x = r) : aAny g = r := by
  have e : ∃ r, ∀ x, g x = r := ⟨r, h⟩
  unfold aAny
  rw [dif_pos e]
  exact (e.choose_spec 0).symm.trans (h 0)
theorem aAny_cases {α : Type} (g : Addr → Res α) : (∀ x, g x = aAny g) ∨ aAny g = .bad := by
  by_cases e : ∃ r, ∀ x, g x = r
  · left
    intro x
    rw [aAny_eq (r := e.choose) e.choose_spec]
    exact e.choose_spec x
  · right
    unfold aAny
    rw [dif_neg e]
@[simp] noncomputable def sMake (c : Str) (g : Addr → Fl → List D → Res Fl) (fs : Sl → Res (List D)) (ρ : Sl) : Res D := (fs ρ).bind fun ds => (aAny fun x => g x [] ds).bind fun fl => .ok (.obj c (fl.map (·.1)) (fl.map (·.2)))
structure MkT (P : Program) (w : World) (K : Frg) (mg : Mg) (base : Heap) (c : Str) (n k : Nat) (g : Addr → Fl → List D → Res Fl) (C f : Addr) (fd : FuncData) (ps cs : List Str) : Prop where
  gl : mg c = some (.ref C)
  mkk : Mk K C f
  ok : FnOk P w K mg base (L2.CX P w) k f fd ps (spI K mg cs n g)
  bi : Binds K fd ps []
  cs : c ∈ cs
section
variable {X : Cx} {hx : Hx} {W : WX} {e : Expr} {es : List Expr} {pos p : Pos} {fs : Sl → Res (List D)} {c : Str} {n k : Nat} {g : Addr → Fl → List D → Res Fl} {C f : Addr} {fd : FuncData} {ps cs : List Str}
theorem run_makeS {CX : CXT} {sp : Sp} {E : L2.St → XK} {pins : List (Addr × Obj)} {σ : L2.St} {H : Hp} {s : Shared} {Q : VK} {us : List Value} {vs : List V} (M : Mk X.K C f) (F : FnOk X.prog X.w X.K X.mg X.base CX k f fd ps sp) (hr : Room (k + 1) X.A) (hb : Binds X.K fd ps []) (hx : PassesAt CX X σ (E σ)) (I : Inv X pins σ H s) (r : Vals vs us)
    (h : ∀ x dx, H x = Option.none → H dx = Option.none → dx ≠ x → sp (V.ref x :: vs) (upd (upd H dx (.own x)) x (.ins C dx [])) (fun v H2 => v = .non ∧ Q (.ref x) H2) (E σ)) :
    wpAny (model X.prog X.w) X.A (call (.ref C) us) (EP X pins σ Q) X.xe s := by
  have hq := h (s.heap.objs.size + 1) s.heap.objs.size (I.hok.fresh (Nat.le_succ _)) (I.hok.fresh (Nat.le_refl _)) (Nat.ne_of_lt (Nat.lt_succ_self _))
  have I2 := Inv.made (C := C) I
  have r2 : Vals (V.ref (s.heap.objs.size + 1) :: vs) (Value.ref (s.heap.objs.size + 1) :: us) := .cons rfl r
  have hl : (Value.ref (s.heap.objs.size + 1) :: us).length = ps.length := by rw [← r2.length]; exact F.len _ _ _ _ hq
  have bb := hb { s with heap := (s.heap.push PySem.W.emptyDict).push (PySem.W.instObj C s.heap.objs.size) } (Value.ref (s.heap.objs.size + 1) :: us) I2.kIn (by rw [List.append_nil]; exact hl)
  rw [List.append_nil] at bb
  refine wpAny_call (make_map (f := f) I.kIn M.makes M.init (beq_iff_eq.mp M.fn) (codeAny_mono (F.run _ X.stack _ _ ⟨Value.ref (s.heap.objs.size + 1) :: us, []⟩ (Value.ref (s.heap.objs.size + 1) :: us) _ _ (E σ) (hr.make C us [])
    (I2.env0.make C us []) bb r2 hq) fun r s' hq' => ?_))
  cases r with
  | error e => exact hx pins _ _ e s' I2 hq'
  | ok fl =>
    cases fl with
    | ret u =>
      obtain ⟨v, H', I3, rv, ev, q3⟩ := I2.after hq'
      subst ev
      exact ⟨rv, ⟨V.ref (s.heap.objs.size + 1), H', I3, rfl, q3⟩⟩
    | next => exact False.elim hq'
    | brk => exact False.elim hq'
    | cont => exact False.elim hq'
theorem me_make (M : MkT X.prog X.w X.K X.mg X.base c n k g C f fd ps cs) (hr : Room (k + 1) X.A) (cw : Cw X W) (ha : MA X hx W (e :: es) fs) (hfl : ∀ ρ ds, fs ρ = .ok ds → ds.length = n) (hg : Gl X c := by rfl) (hdb : (c == ("__debug__" : Str)) = false := by decide)
    (he : starEach (e :: es) X.env = (false, eval e X.env) :: starEach es X.env := by rfl) (hpl : (backTo pos (starEach es X.env)).any (·.1) = false := by rfl) : ME X hx W (.Call (.Name c p) (e :: es) [] pos) (sMake c g fs) := by
  refine ⟨fun pins s σ H Q I ⟨b, S, ρ, R, q⟩ => ?_⟩
  refine wpAny_Call_Name_kw (ld_glob I hg M.gl ?_ hdb)
  refine PySem.W.callWith_K (h₀ := X.base) I.ok.mod.kin M.mkk.kp (thn (ha.run pos pins s σ H (fun vs H1 => ∀ x dx, H1 x = Option.none → H1 dx = Option.none → dx ≠ x → spI X.K X.mg cs n g (V.ref x :: vs) (upd (upd H1 dx (.own x)) x (.ins C dx [])) (fun v H2 => v = .non ∧ Q (.ref x) H2) (WE W σ)) I ⟨b, S, ρ, R, ?_⟩) fun us s1 ⟨vs, H1, I1, r, q⟩ => ⟨I1.kIn, ?_⟩) he hpl
  · unfold sMake at q
    cases ef : fs ρ with
    | exc z zs => rw [ef] at q; exact q
    | bad => rw [ef] at q; exact q.elim
    | ok ds =>
      rw [ef] at q
      intro vs S1 H1 g1 r1 x dx hx1 hd1 hne
      have hsx : S1 x = none := same_none g1.i hx1
      have hsd : S1 dx = none := same_none g1.i hd1
      have keep : ∀ a o, H1 a = some o → upd (upd H1 dx (.own x)) x (.ins C dx []) a = some o := fun a o e => by
        rw [upd_ne (fun z => by rw [z, hx1] at e; cases e), upd_ne (fun z => by rw [z, hd1] at e; cases e)]
        exact e
      have ih : Same S1 (upd (upd H1 dx (.own x)) x (.ins C dx [])) := fun a o e => keep a o (g1.i a o e)
      have gr : ∀ {S' H' : Hp}, Gx x S1 (upd (upd H1 dx (.own x)) x (.ins C dx [])) S' H' → Gr S1 H1 S' H' := fun gx => ⟨gx.s, fun a o e => gx.h a o (fun z => by rw [z, hx1] at e; cases e) (keep a o e), gx.i, fun a ha e => gx.n a (by
        cases w : H1 a with
        | none => exact absurd w ha
        | some o => rw [keep a o w]; simp) e⟩
      refine ⟨ds, S1, x, C, dx, vs, [], [], rfl, r1.len.trans (hfl ρ ds ef), upd_same, hsx, ⟨c, M.cs, M.gl⟩, ih, .nil, r1, ?_⟩
      have q : Po X.K X.mg (rrE X.K X.mg) W S σ H ((aAny fun x => g x [] ds).bind fun fl => .ok (.obj c (fl.map (·.1)) (fl.map (·.2)))) Q := q
      rcases aAny_cases (fun x => g x [] ds) with z | z
      · have z := z x
        rw [← z] at q
        cases eg : g x [] ds with
        | ok fl' =>
          rw [eg] at q
          intro S' H' fv' gx hx' rp
          have hs' : S' x = none := gx.n x (by rw [upd_same]; simp) hsx
          have up : Same S' (upd S' x (.ins C dx fv')) := same_new hs'
          have g2 := gr gx
          obtain ⟨xs, p1, p2, p3⟩ := (rp.up up).obj
          refine ⟨rfl, q _ (upd S' x (.ins C dx fv')) H' (g1.trans ⟨g2.s.trans up, g2.h, fun a o e => ?_, fun a ha e => ?_⟩) (.obj upd_same M.gl p1 p2 p3)⟩
          · by_cases w : a = x
            · subst w; rw [upd_same] at e; rw [hx']; exact e
            · rw [upd_ne w] at e; exact g2.i a o e
          · rw [upd_ne (fun w => ha (by rw [w]; exact hx1))]
            exact g2.n a ha e
        | exc y ys =>
          rw [eg] at q
          exact fun S' H' C' dx' gx m xd => q S' H' C' dx' (g1.trans (gr gx)) m xd
        | bad => rw [eg] at q; exact q.elim
      · rw [z] at q; exact q.elim
  · exact run_makeS (CX := L2.CX X.prog X.w) (sp := spI X.K X.mg cs n g) (E := WE W) M.mkk M.ok hr M.bi (cw σ) I1 r q
/-! ### isinstance(x, C), C an own class; x an object -/
@[simp] def bIsC (tab : List (Str × Bool)) (d : D) : Res D := match d with
  | .obj c _ _ => (match tab.lookup c with
    | some b => .ok (.bl b)
    | none => .bad)
  | _ => .bad
structure IsF (K : Frg) (A C : Addr) (b : Bool) : Prop where
  cl : Cls K A
  ha : PySem.W.findIn K (.ref A) "__class__" = some (some (.builtin "object.__class__"))
  hn : PySem.W.specialIn K (.builtin "object.__class__") "__get__" = some (some (.builtin "getset_descriptor.__get__"))
  ht : PySem.W.takesIn K (.builtin "object.__class__") = some true
  hm : PySem.W.mroIn K A (.type "object") = some true
  k : PySem.W.kitOne K (.ref A) (.ref C) = some b
def IsCT (K : Frg) (mg : Mg) (tab : List (Str × Bool)) (x : Str) : Prop := ∃ C, mg x = some (.ref C) ∧ ∀ c b, tab.lookup c = some b → ∀ A, mg c = some (.ref A) → IsF K A C b
theorem me_isC {a : Expr} {fa : Sl → Res D} {t : Str} {p1 : Pos} {tab : List (Str × Bool)} (ht : IsCT X.K X.mg tab t) (ha : MR X hx W a fa) (hm : X.mg "isinstance" = none) (hg : Gl X "isinstance" := by rfl) (hg2 : Gl X t := by rfl) (hdb : (t == ("__debug__" : Str)) = false := by decide)
    (hs : starEach [a, .Name t p1] X.env = (false, eval a X.env) :: starEach [.Name t p1] X.env := by rfl) (hs2 : starEach [.Name t p1] X.env = (false, eval (.Name t p1) X.env) :: starEach [] X.env := by rfl) (hpl : (backTo pos (starEach [.Name t p1] X.env)).any (·.1) = false := by rfl) :
    ME X hx W (.Call (.Name "isinstance" p) [a, .Name t p1] [] pos) (sUn (bIsC tab) fa) := by
  obtain ⟨C, h1, h2⟩ := ht
  exact pe_imp (pe_callB (x := "isinstance") call_isi hg hm PyProof.Rows.boot_isinstance (pa_cons ha (pa_cons (pe_glob (v := .ref C) hg2 h1 rfl hdb) pa_nil hs2) hs) (by decide) (by decide) hs hpl) fun σ H Q ⟨b, S, ρ, R, q⟩ => ⟨b, S, ρ, R, q.bind fun d v S1 H1 g1 r1 k => by
    cases d with
    | obj c ns ds =>
      have r : Rp X.K X.mg S1 v (.obj c ns ds) := r1
      have k : Po X.K X.mg (rrE X.K X.mg) W S σ H (match tab.lookup c with | some b => .ok (.bl b) | none => .bad) Q := k
      split at k
      · rename_i tb e2
        cases r with
        | @obj a A dx fs _ _ xs _ q1 q2 q3 q4 q5 =>
          obtain ⟨i1, i2, i3, i4, i5, i6⟩ := h2 c tb e2 A q2
          exact ⟨.ref a, .ref C, .ref A, .ref C, tb, rfl, .own C, .base (.ins (g1.i _ _ q1) i1 i2 i3 i4 i5), i6, k _ S1 H1 g1 (.bl tb)⟩
      · exact k.elim
    | _ => exact k.elim⟩
end
end PF

set_option Elab.async false
set_option linter.all false
set_option maxRecDepth 100000
set_option maxHeartbeats 4000000
/-! Defs that close over __class__: the head's facts, the rule of their __init__. -/
namespace PF
open PySem PySem.Spec L2 PyProof.Rows NdefX PySem.W
structure SDef : Type where
  at_ : Str × Option Str
  name : Str
  qual : Str
  params : Arguments
  body : List Stmt
  scope : PySem.Scope
  cl : Str
abbrev FnS : Type := Option (Str × Str × Arguments × FuncBody × PySem.Scope × Addr × List Str × Addr)
def fnS (K : Frg) (p : Str × Option Str) : FnS := match K.lookup (He.fAd K p) with
  | some ⟨_, _, .func fd, _⟩ => some (fd.name, fd.qualname, fd.params, fd.body, fd.scope, fd.globals, fd.closure.map (·.1), fd.builtins)
  | _ => none
def SDef.val (d : SDef) : FnS := some (d.name, d.qual, d.params, .stmts d.body, d.scope, mainGlobals, ["__class__"], builtinsNs)
def nonB : Value → Bool
  | .none => true
  | _ => false
theorem nonB_ok {v : Value} (h : nonB v = true) : v = .none := by cases v <;> first | rfl | cases h
def cellB (K : Frg) (l : List (Str × Addr)) (D : Addr) : Bool := match l with
  | [(_, cc)] => (match K.lookup cc with
    | some ⟨_, _, .cell (some (.ref E)), _⟩ => decide (E = D)
    | _ => false)
  | _ => false
theorem cellB_ok {K : Frg} {l : List (Str × Addr)} {D : Addr} {x : Str} (hx : l.map (·.1) = [x]) (h : cellB K l D = true) : ∃ cc, l = [(x, cc)] ∧ ∃ cl cld csl, K.lookup cc = some ⟨cl, cld, .cell (some (.ref D)), csl⟩ := by
  match l, hx with
  | [(y, cc)], hx =>
    cases hx
    refine ⟨cc, rfl, ?_⟩
    unfold cellB at h
    cases q : K.lookup cc with
    | none => simp only [q] at h; cases h
    | some o =>
      obtain ⟨oc, od, dt, osl⟩ := o
      simp only [q] at h
      cases dt with
      | cell v =>
        cases v with
        | none => cases h
        | some v =>
          cases v with
          | ref E => exact ⟨oc, od, osl, by rw [← (of_decide_eq_true h : E = D)]⟩
          | _ => cases h
      | _ => cases h
def fileB (K : Frg) (cd : Value) (file : Str) : Bool := match cd with
  | .ref c => (match K.lookup c with
    | some ⟨_, _, .fields vs, _⟩ => (match (vs[2]? : Option Value) with
      | some (Value.str fi _) => file == fi
      | _ => false)
    | _ => false)
  | _ => false
theorem fileB_ok {K : Frg} {cd : Value} {file : Str} (h : fileB K cd file = true) : ∃ cda, cd = .ref cda ∧ ∃ ccl cdd vs ccs fi tf, K.lookup cda = some ⟨ccl, cdd, .fields vs, ccs⟩ ∧ vs[2]? = some (.str fi tf) ∧ (file == fi) = true := by
  cases cd with
  | ref c =>
    refine ⟨c, rfl, ?_⟩
    unfold fileB at h
    cases q : K.lookup c with
    | none => simp only [q] at h; cases h
    | some o =>
      obtain ⟨oc, od, dt, osl⟩ := o
      simp only [q] at h
      cases dt with
      | fields vs =>
        simp only at h
        cases e : vs[2]? with
        | none => rw [e] at h; cases h
        | some v =>
          rw [e] at h
          cases v with
          | str fi t => exact ⟨oc, od, vs, osl, fi, t, rfl, e, h⟩
          | _ => cases h
      | _ => cases h
  | _ => cases h
def SDef.ok (K : Frg) (file : Str) (d : SDef) : Bool := PySem.W.keepIn K (.ref (He.fAd K d.at_)) && (match K.lookup (He.fAd K d.at_) with
  | some ⟨_, _, .func fd, _⟩ => PySem.W.codeIn K fd.code d.qual && (nonB fd.defaults && (cellB K fd.closure (He.ga K d.cl) && fileB K fd.code file))
  | _ => false)
structure FunS (K : Frg) (d : SDef) (D : Addr) (file : Str) (f : Addr) (fd : FuncData) : Prop where
  ex : ∃ (oc : Value) (od : Option Addr) (osl : Array (Option Value)) (kV doc pm : Value) (an : Option Addr) (cda : Addr) (ct : Value) (cc : Addr), fd = ksFn d.name d.qual d.params d.body d.scope .none kV doc pm an (.ref cda) ct cc ∧ K.lookup f = some ⟨oc, od, .func fd, osl⟩ ∧ codeIn K (.ref cda) d.qual = true ∧
    (∃ cl cld csl, K.lookup cc = some ⟨cl, cld, .cell (some (.ref D)), csl⟩) ∧ (∃ ccl cdd vs ccs fi tf, K.lookup cda = some ⟨ccl, cdd, .fields vs, ccs⟩ ∧ vs[2]? = some (.str fi tf) ∧ (file == fi) = true)
  kp : PySem.W.keepIn K (.ref f) = true
theorem SDef.funS {K : Frg} {file : Str} {d : SDef} (e : fnS K d.at_ = d.val) (c : d.ok K file = true) : ∃ fd, FunS K d (He.ga K d.cl) file (He.fAd K d.at_) fd := by
  obtain ⟨kp, c2⟩ := He.ba c
  unfold fnS at e
  cases q : K.lookup (He.fAd K d.at_) with
  | none => rw [q] at c2; cases c2
  | some o =>
    obtain ⟨oc, od, dt, osl⟩ := o
    rw [q] at c2 e
    cases dt with
    | func fd =>
      obtain ⟨n1, n2, n3, n4, n5, n6, n7, n8, n9, n10, n11, n12, n13, n14, n15⟩ := fd
      have e2 : (some (n1, n2, n3, n4, n5, n6, n7.map (·.1), n15) : FnS) = (some (d.name, d.qual, d.params, FuncBody.stmts d.body, d.scope, mainGlobals, [("__class__" : Str)], builtinsNs) : FnS) := e
      simp only [Option.some.injEq, Prod.mk.injEq] at e2
      obtain ⟨h1, h2, h3, h4, h5, h6, h7, h8⟩ := e2
      subst h1 h2 h3 h4 h5 h6 h8
      have c3 : (PySem.W.codeIn K n13 d.qual && (nonB n8 && (cellB K n7 (He.ga K d.cl) && fileB K n13 file))) = true := c2
      obtain ⟨k1, k2⟩ := He.ba c3
      obtain ⟨k3, k4⟩ := He.ba k2
      obtain ⟨k5, k6⟩ := He.ba k4
      obtain ⟨cc, rfl, j1⟩ := cellB_ok h7 k5
      obtain ⟨cda, rfl, j2⟩ := fileB_ok k6
      cases nonB_ok k3
      exact ⟨_, ⟨oc, od, osl, n9, n10, n11, n12, cda, n14, cc, rfl, q, k1, j1, j2⟩, kp⟩
    | _ => cases c2
theorem FunS.bindsN {K : Frg} {d : SDef} {D f : Addr} {file : Str} {fd : FuncData} {ps : List Str} (F : FunS K d D file f fd)
    (h : ∀ (kV doc pm : Value) (an : Option Addr) (cdv ct : Value) (cc : Addr) (us : List Value), us.length = ps.length → bindArgs (ksFn d.name d.qual d.params d.body d.scope .none kV doc pm an cdv ct cc) ⟨us, []⟩ = pure (ps.zip us)) : Binds K fd ps [] := by
  obtain ⟨oc, od, osl, kV, doc, pm, an, cda, ct, cc, rfl, _⟩ := F.ex
  exact .all (h kV doc pm an (.ref cda) ct cc)
/-! ### the rule -/
structure SupP (P : Program) (file : Str) : Prop where
  file : (P.main.file : Str) = file
  top : (P.main.scope.names.lookup ("super" : Str)).isSome = false
def NIas (X : Cx) (cs : List Str) (W : WX) (body : List Stmt) (sts : List Stmt) (g : GI) : Prop := ∀ x (pins : List (Addr × Obj)) (s : Shared) (σ : L2.St) (H : Hp) (D : Ends), Inv X pins σ H s → tI X.K X.mg cs W x g D σ H →
  _root_.PySem.wpAt (model X.prog X.w) X.A (.func body X.env) (execs sts X.env) (SP X pins D) X.xe s
theorem nias_cons {X : Cx} {cs : List Str} {W : WX} {body : List Stmt} {st : Stmt} {rest : List Stmt} {g h : GI} (h1 : NIa X cs W body st g) (h2 : NIs X cs W rest h) : NIas X cs W body (st :: rest) (jSeq g h) := fun x pins s σ H D I ⟨b, S, ρ, C, dx, fv, fl, R, io, q⟩ => by
  refine ks_wpAt_execs_cons (_root_.PySem.wpAt_mono (h1 x pins s σ H { nx := fun σ' H' => tI X.K X.mg cs W x h D σ' H', rt := D.rt, bk := D.bk, ct := D.ct } I ⟨b, S, ρ, C, dx, fv, fl, R, io, ?_⟩) (fun fl s' hs => ?_) fun _ _ e => e)
  · unfold jSeq at q
    cases ef : g x fl ρ with
    | nx fl' ρ' => rw [ef] at q; exact fun b' S' σ' H' fv' s1 g1 R' io' => ⟨b', S', ρ', C, dx, fv', fl', R', io', PoI.up s1 g1 q⟩
    | exc y ys ρ' => rw [ef] at q; exact q
    | bad => rw [ef] at q; exact q.elim
  · cases fl with
    | next =>
      obtain ⟨σ', H', I', t⟩ := hs
      exact wpAt_of_wpAny ((h2 x).run pins s' σ' H' D I' t)
    | ret u => exact hs
    | brk => exact hs
    | cont => exact hs
section
variable {P : Program} {w : World} {K : Frg} {mg : Mg} {base : Heap}
theorem Rel.startF {N : List Str} {S H : Hp} {vs : List V} {ds : List D} {D0 : Addr} (hN : vs.length + 1 ≤ N.length) (i : Same S H) (r : RpA K mg S vs ds) : Rel K mg none ⟨H, S⟩ S (ds.map Cell.v ++ List.replicate (N.length - ds.length) .e) (NdefX.startF N vs [some (.ref D0)]) H := by
  have R := Rel.start (N := N) (mg := mg) (K := K) i r
  have hl := r.len
  have z : ∀ j d, (ds.map Cell.v ++ List.replicate (N.length - ds.length) Cell.e)[j]? = some (Cell.v d) → ds[j]? = some d := fun j d e => by
    rw [List.getElem?_append] at e
    split at e
    · rw [List.getElem?_map] at e
      cases q : ds[j]? with
      | none => rw [q] at e; cases e
      | some d' => rw [q] at e; cases e; rfl
    · rw [List.getElem?_replicate] at e
      split at e <;> cases e
  have y : ∀ j c, (ds.map Cell.v ++ List.replicate (N.length - ds.length) Cell.e)[j]? = some c → (∃ d, c = Cell.v d) ∨ c = Cell.e := fun j c e => by
    rw [List.getElem?_append] at e
    split at e
    · rw [List.getElem?_map] at e
      cases q : ds[j]? with
      | none => rw [q] at e; cases e
      | some d' => rw [q] at e; cases e; exact .inl ⟨_, rfl⟩
    · rw [List.getElem?_replicate] at e
      split at e <;> cases e
      exact .inr rfl
  refine ⟨R.s0, R.sh, R.h0, R.nw, ?_, fun j d e => ?_, fun j es e => ?_, fun j c fs e => ?_, fun j k es gs p ne e1 => ?_⟩
  · simp [NdefX.startF, hl]; omega
  · obtain ⟨v, h1, h2⟩ := r.get (z j d e)
    refine ⟨v, ?_, h2⟩
    have hj' : j < vs.length := (List.getElem?_eq_some_iff.mp h1).1
    unfold NdefX.startF
    rw [List.getElem?_append_left (by simpa using hj'), List.getElem?_map, h1]
    rfl
  · rcases y j _ e with ⟨_, q⟩ | q <;> cases q
  · rcases y j _ e with ⟨_, q⟩ | q <;> cases q
  · rcases y j _ e1 with ⟨_, q⟩ | q <;> cases q
theorem in_okS {d : SDef} {D f : Addr} {file me : Str} {fd : FuncData} {N ps : List Str} {k n : Nat} {cs : List Str} {g : GI} {ar : Arg} (F : FunS K d D file f fd) (hP : SupP P file) (hg : mg "super" = none) (hD : ∃ cd, clsIn K D = some cd)
    (Sc : NScope N ps ["__class__"] d.scope) (hn : ps.length = n + 1) (hN : ps.length + 1 ≤ N.length) (har : (d.params.posonlyargs ++ d.params.args).head? = some ar) (hme : ar.arg = me)
    (hks : d.scope.names.lookup ("super" : Str) = some .globalImplicit) (hkm : d.scope.names.lookup me = some .local)
    (hb : ∀ (cc cda : Addr) (A : Around) (outer : List Env) (s : Shared) (H : Hp) (E : XK), Room k (ncx (L2.CX P w) P w K mg base N (niF d.name d.qual d.params d.body d.scope cc cda) f A outer s H E).A → Cs (ncx (L2.CX P w) P w K mg base N (niF d.name d.qual d.params d.body d.scope cc cda) f A outer s H E) (WE0 E) →
      SupF (ncx (L2.CX P w) P w K mg base N (niF d.name d.qual d.params d.body d.scope cc cda) f A outer s H E) f cda cc D me → NIas (ncx (L2.CX P w) P w K mg base N (niF d.name d.qual d.params d.body d.scope cc cda) f A outer s H E) cs (WE0 E) d.body d.body g) :
    FnOk P w K mg base (L2.CX P w) (k + 1) f fd ps (spI K mg cs n (semI N.length g)) := by
  obtain ⟨oc, od, osl, kV, doc, pm, an, cda, ct, cc, rfl, lk, hcd, ⟨cl, cld, csl, lcc⟩, ccl, cdd, vs0, ccs, fi, tf, lc, hvs, hfi⟩ := F.ex
  refine fn_ofS lk hcd lcc Sc (fun vs H Q E h => by rw [hn]; exact spI_len h) fun A outer s s1 H vs Q E hr h I => ?_
  obtain ⟨ds, S, x, C, dx, us, fv, fl, rfl, h1, h2, h3, h4, h5, h6, h7, h8⟩ := h
  refine hb cc cda A outer s H E hr ⟨takes_of rfl rfl rfl rfl, passes_of rfl, rfl⟩ ?_ x [] s1 _ H _ I ⟨⟨H, S⟩, S, .v (.raw x) :: ds.map Cell.v ++ List.replicate (N.length - (ds.length + 1)) Cell.e, C, dx, fv, fl, Rel.startF (N := N) (ds := .raw x :: ds) (by rw [hn] at hN; simpa [h1] using hN) h5 (.cons (.raw x) h7), ⟨h2, h3, h4, h6⟩, spI_ends h2 h8⟩
  exact ⟨rfl, rfl, rfl, ⟨oc, od, _, osl, ar, lk, har, hme⟩, ⟨ccl, cdd, vs0, ccs, fi, tf, lc, hvs, by rw [show ((ncx (L2.CX P w) P w K mg base N (niF d.name d.qual d.params d.body d.scope cc cda) f A outer s H E).prog.main.file : Str) = file from hP.file]; exact hfi⟩, ⟨cl, cld, csl, lcc⟩, hP.top, hg, hks, Sc.frk _ (by simp), hkm, hD⟩
end
/-! ### the hook -/
abbrev AlM : Type := (Bool × List He.FnW) × List FnS
def obsM (file : Str) (fa : List (Frg → Bool)) (fn : List He.DefD) (fs : List SDef) (K : Frg) : AlM := (((fa.all fun f => f K) && ((fn.all fun d => d.ok K) && fs.all fun d => d.ok K file), fn.map fun d => He.fnW K d.at_), fs.map fun d => fnS K d.at_)
def valM (fn : List He.DefD) (fs : List SDef) : AlM := ((true, fn.map He.DefD.val), fs.map SDef.val)
def SaysM (file : Str) (fa : List (Frg → Bool)) (fn : List He.DefD) (fs : List SDef) (K : Frg) : Prop := obsM file fa fn fs K = valM fn fs
def obsMG (n : Nat) (file : Str) (fa : List (Frg → Bool)) (fn : List He.DefD) (fs : List SDef) (g : Addr → Option Obj) : AlM := obsM file fa fn fs (He.frG g (cStatics :: He.asD g n))
def hookM (n : Nat) (file : Str) (fa : List (Frg → Bool)) (fn : List He.DefD) (fs : List SDef) : PySem.W.Hook where
  α := AlM
  obs := fun s => obsMG n file fa fn fs s.heap.get?
  val := fun _ => valM fn fs
  says := fun _ h => ∃ K : Frg, K.In h ∧ SaysM file fa fn fs K
  of := fun _ _ e => ⟨_, He.frG_in, e⟩
  keeps := fun _ _ _ ⟨K, hK, c⟩ k => ⟨K, PySem.W.Frag.In.keeps hK k, c⟩
theorem obsMG_eq {n : Nat} {file : Str} {fa : List (Frg → Bool)} {fn : List He.DefD} {fs : List SDef} {g : Addr → Option Obj} {s : Shared} (h : ∀ a, g a = s.heap.get? a) : obsMG n file fa fn fs g = (hookM n file fa fn fs).obs s := by
  have e : g = s.heap.get? := funext h
  rw [e] <;> rfl
section
variable {file : Str} {fa : List (Frg → Bool)} {fn : List He.DefD} {fs : List SDef} {K : Frg}
theorem SaysM.bools (c : SaysM file fa fn fs K) : ((fa.all fun f => f K) = true) ∧ ((fn.all fun d => d.ok K) = true) ∧ ((fs.all fun d => d.ok K file) = true) := by
  obtain ⟨h1, h2⟩ := He.ba (show ((fa.all fun f => f K) && ((fn.all fun d => d.ok K) && fs.all fun d => d.ok K file)) = true from congrArg (fun z : AlM => z.1.1) c)
  obtain ⟨h3, h4⟩ := He.ba h2
  exact ⟨h1, h3, h4⟩
theorem SaysM.fact (c : SaysM file fa fn fs K) (i : Nat) {f : Frg → Bool} (h : fa[i]? = some f := by rfl) : f K = true := List.all_eq_true.mp c.bools.1 f (List.mem_of_getElem? h)
theorem SaysM.def_ (c : SaysM file fa fn fs K) (i : Nat) {d : He.DefD} (h : fn[i]? = some d := by rfl) : ∃ fd, FunD K d.name d.qual d.params d.body d.scope (d.dvs K) (d.kws K) (He.fAd K d.at_) fd := by
  have e : fn.map (fun d => He.fnW K d.at_) = fn.map He.DefD.val := congrArg (fun z : AlM => z.1.2) c
  have e2 : (fn.map fun d => He.fnW K d.at_)[i]? = (fn.map He.DefD.val)[i]? := by rw [e]
  rw [List.getElem?_map, List.getElem?_map, h] at e2
  exact He.DefD.funD (Option.some.inj e2) (List.all_eq_true.mp c.bools.2.1 d (List.mem_of_getElem? h))
theorem SaysM.sdef (c : SaysM file fa fn fs K) (i : Nat) {d : SDef} (h : fs[i]? = some d := by rfl) : ∃ fd, FunS K d (He.ga K d.cl) file (He.fAd K d.at_) fd := by
  have e : fs.map (fun d => fnS K d.at_) = fs.map SDef.val := congrArg (fun z : AlM => z.2) c
  have e2 : (fs.map fun d => fnS K d.at_)[i]? = (fs.map SDef.val)[i]? := by rw [e]
  rw [List.getElem?_map, List.getElem?_map, h] at e2
  exact SDef.funS (Option.some.inj e2) (List.all_eq_true.mp c.bools.2.2 d (List.mem_of_getElem? h))
end
end PF

set_option Elab.async false
set_option linter.all false
set_option maxRecDepth 100000
set_option maxHeartbeats 4000000
/-! list(enumerate(xs)). -/
namespace PF
open PySem PySem.Spec L2 PyProof.Rows
theorem enum_no_len : typeLookup (.type "enumerate") "__len__" = pure none := am_miss_of_fast (by decide +kernel)
theorem enum_no_hint : typeLookup (.type "enumerate") "__length_hint__" = pure none := am_miss_of_fast (by decide +kernel)
section
variable {prog : Program} {w : World} {A : Around} {E : Value → Shared → Prop} {s : Shared}
/-- the next pair, while the tuple that was given out first is still there -/
theorem enum_next_held {e it T : Addr} {fp : List Addr} {n i : Nat} {P : Nat → Value → Prop} {St : Nat → Heap → Prop} {old : Value} {f : Bool} {oT : Obj} {Q : Value → Shared → Prop}
    (D : Draws prog w A it fp n P St) (he : IsEnumHeld s.heap e it i old T f) (hT : s.heap.get? T = some oT) (hTe : T ≠ e) (hTi : T ≠ it) (hst : St i s.heap) (hlt : i < n) (hne : e ≠ it) (hef : e ∉ fp)
    (hQ : ∀ x h' tk, P i x → IsEnumHeld h' e it ((i : Int) + 1) old T true → St (i + 1) h' →
      h'.get? s.heap.objs.size = some { cls := .type "tuple", data := .seq #[.int i tk, x] } → h'.objs.size = s.heap.objs.size + 1 →
      (∀ b o, b ≠ e → b ≠ it → s.heap.get? b = some o → h'.get? b = some o) → Q (.ref s.heap.objs.size) { s with heap := h', toks := tk + 1 }) :
    wpAny (model prog w) A (Builtin.«enumerate.__next__» ⟨[.ref e], []⟩) (fun fin s' => ∃ v, fin = .done (.ret v) ∧ Q v s') E s := by
  obtain ⟨hp, g, d, tk₀, os⟩ := s
  show wpAny _ _ (field (.ref e) 2 >>= _) _ _ _
  refine wpAny_bind (wpAny_field he rfl (x := .ref it) rfl ?_)
  refine wpAny_bind (D.item i _ _ _ hlt hst fun x h₁ tk hPx hit₁ hs₁ => ?_)
  replace hs₁ : Heap.SameBut it hp h₁ := hs₁
  have he₁ : IsEnumHeld h₁ e it i old T f := (hs₁.2 e hne).trans he
  show wpAny _ _ (field (.ref e) 3 >>= _) _ _ ⟨h₁, g, d, tk, os⟩
  refine wpAny_bind (wpAny_field he₁ rfl (x := rawInt i) rfl ?_)
  show wpAny _ _ (field (.ref e) 4 >>= _) _ _ ⟨h₁, g, d, tk, os⟩
  refine wpAny_bind (wpAny_field he₁ rfl (x := .none) rfl ?_)
  show wpAny _ _ (mkInt i >>= _) _ _ ⟨h₁, g, d, tk, os⟩
  refine wpAny_bind (wpAny_mkInt ?_)
  show wpAny _ _ (setField (.ref e) 3 (rawInt ((i : Int) + 1)) >>= _) _ _ ⟨h₁, g, d, tk + 1, os⟩
  refine wpAny_bind (wpAny_setField_rec he₁ (by simp) fun h₂ he₂ hs₂ => ?_)
  replace hs₂ : Heap.SameBut e h₁ h₂ := hs₂
  replace he₂ : IsEnumHeld h₂ e it ((i : Int) + 1) old T f := he₂
  show wpAny _ _ (setField (.ref e) 4 .none >>= _) _ _ ⟨h₂, g, d, tk + 1, os⟩
  refine wpAny_bind (wpAny_setField_rec he₂ (by simp) fun h₃ he₃ hs₃ => ?_)
  replace hs₃ : Heap.SameBut e h₂ h₃ := hs₃
  replace he₃ : IsEnumHeld h₃ e it ((i : Int) + 1) old T f := he₃
  show wpAny _ _ (newTuple [.int i tk, x] >>= _) _ _ ⟨h₃, g, d, tk + 1, os⟩
  refine wpAny_bind (wpAny_newTuple ?_)
  have he₄ : IsEnumHeld (h₃.push { cls := .type "tuple", data := .seq #[.int i tk, x] }) e it ((i : Int) + 1) old T f := Heap.get?_push_of_some _ he₃
  generalize hh₄ : h₃.push { cls := .type "tuple", data := .seq #[.int i tk, x] } = h₄ at he₄
  have hsz : h₃.objs.size = hp.objs.size := by rw [hs₃.1, hs₂.1, hs₁.1]
  have hel : e < hp.objs.size := Heap.lt_size he
  have ht₄ : h₄.get? hp.objs.size = some { cls := .type "tuple", data := .seq #[.int i tk, x] } := by rw [← hh₄, ← hsz]; exact Heap.get?_push_size _ rfl
  have hz₄ : h₄.objs.size = hp.objs.size + 1 := by rw [← hh₄, Heap.size_push, hsz]
  have hk₄ : ∀ b o, b ≠ e → b ≠ it → hp.get? b = some o → h₄.get? b = some o := fun b o hbe hbi hb => by
    rw [← hh₄]; exact Heap.get?_push_of_some _ (hs₃.extBut b o hbe (hs₂.extBut b o hbe (hs₁.extBut b o hbi hb)))
  have hit₄ : St (i + 1) h₄ := D.frame _ _ _ hit₁ fun b hb o y => by
    have hbe : b ≠ e := fun q => hef (q ▸ hb)
    rw [← hh₄]; exact Heap.get?_push_of_some _ (hs₃.extBut b o hbe (hs₂.extBut b o hbe y))
  show wpAny _ _ (Builtin.SmallTypes.ownedTupleIsFree (.ref e) >>= _) _ _ ⟨h₄, g, d, tk + 1, os⟩
  rw [hsz]
  clear hh₄ he₃ hs₃ he₂ hs₂ he₁ hs₁ hit₁ hsz h₃ h₂ h₁
  refine wpAny_bind (wpAny_tupleHeld_enum (s := ⟨h₄, g, d, tk + 1, os⟩) he₄ (hk₄ T oT hTe hTi hT) fun h₅ he₅ hs₅ => ?_)
  replace hs₅ : Heap.SameBut e h₄ h₅ := hs₅
  simp only [Bool.false_eq_true, if_false]
  refine wpAny_pure ⟨_, rfl, hQ x h₅ tk hPx he₅ (D.frame _ _ _ hit₄ fun b hb o y => hs₅.extBut b o (fun q => hef (q ▸ hb)) y) (hs₅.extBut _ _ (Nat.ne_of_gt hel) ht₄) ?_ fun b o hbe hbi hb => hs₅.extBut b o hbe (hk₄ b o hbe hbi hb)⟩
  show h₅.objs.size = hp.objs.size + 1
  rw [hs₅.1, hz₄]
theorem pyNext_enum_held {e it T : Addr} {fp : List Addr} {n i : Nat} {P : Nat → Value → Prop} {St : Nat → Heap → Prop} {old : Value} {f : Bool} {oT : Obj} {Q : Option Value → Shared → Prop}
    (D : Draws prog w A.in1 it fp n P St) (he : IsEnumHeld s.heap e it i old T f) (hT : s.heap.get? T = some oT) (hTe : T ≠ e) (hTi : T ≠ it) (hst : St i s.heap) (hlt : i < n) (hne : e ≠ it) (hef : e ∉ fp)
    (hQ : ∀ x h' tk, P i x → IsEnumHeld h' e it ((i : Int) + 1) old T true → St (i + 1) h' →
      h'.get? s.heap.objs.size = some { cls := .type "tuple", data := .seq #[.int i tk, x] } → h'.objs.size = s.heap.objs.size + 1 →
      (∀ b o, b ≠ e → b ≠ it → s.heap.get? b = some o → h'.get? b = some o) → Q (some (.ref s.heap.objs.size)) { s with heap := h', toks := tk + 1 }) :
    wpAny (model prog w) A (pyNext (.ref e)) Q E s := by
  have hTy : s.TypeIs (.ref e) "enumerate" := ⟨_, he, rfl⟩
  unfold pyNext
  exact wpAny_bind (wpAny_attempt (wpAny_callSpecial?_slot (name := Str.ofString "__next__") hTy F.slot_enumerate_next
    (wpAny_call_entry F.slot_enumerate_next hTy F.entry_enumerate_next
      (enum_next_held D he hT hTe hTi hst hlt hne hef fun x h' tk a1 a2 a3 a4 a5 a6 => wpAny_pure (hQ x h' tk a1 a2 a3 a4 a5 a6)) (F.args_enumerate_next_1 _))))
theorem pyNext_enum_endH {e it T : Addr} {fp : List Addr} {n : Nat} {i : Int} {P : Nat → Value → Prop} {St : Nat → Heap → Prop} {old : Value} {f : Bool} {Q : Option Value → Shared → Prop}
    (D : Draws prog w A.in1 it fp n P St) (he : IsEnumHeld s.heap e it i old T f) (hst : St n s.heap)
    (hQ : ∀ h', Heap.ExtBut it s.heap h' → Q none { s with heap := h' }) : wpAny (model prog w) A (pyNext (.ref e)) Q E s := by
  have hT : s.TypeIs (.ref e) "enumerate" := ⟨_, he, rfl⟩
  unfold pyNext
  refine wpAny_bind (wpAny_attempt (wpAny_callSpecial?_slot (name := Str.ofString "__next__") hT F.slot_enumerate_next
    (wpAny_call_entry F.slot_enumerate_next hT F.entry_enumerate_next ?_ (F.args_enumerate_next_1 _))))
  show wpAny _ _ (field (.ref e) 2 >>= _) _ _ _
  refine wpAny_bind (wpAny_field he rfl (x := .ref it) rfl ?_)
  refine wpAny_bind (D.done _ _ _ hst fun h' x he' hx' => ?_)
  obtain ⟨o, ho, hc⟩ := hx'
  refine wpAny_bind (wpAny_isInstance (T := "StopIteration") (b := true) ⟨o, ho, hc⟩ isSubtype_stop ?_)
  exact wpAny_pure (hQ _ he')
end
theorem SqK.up {K : PySem.W.Frag} {t : Bool} {H H' : Hp} {a : Addr} {xs : List V} (e : Same H H') (h : SqK K t H a xs) : SqK K t H' a xs := by
  cases t with
  | true => exact same_t e h
  | false => exact same_l e h
/-- where the enumeration stands -/
def EnAt (h : Heap) (e it S : Addr) (i : Nat) : Prop := (∃ old, IsEnum h e it ((i : Nat) : Int) old) ∨ ∃ old T f oT, IsEnumHeld h e it ((i : Nat) : Int) old T f ∧ h.get? T = some oT ∧ T ≠ e ∧ T ≠ it ∧ T ≠ S
section
variable {X : Cx} {pins : List (Addr × Obj)} {σ : L2.St} {H0 : Hp} {S e it a : Addr} {xs : List V} {t : Bool} {A : Around} {R : Result → Shared → Prop} {res : Value}
/-- the pairs that were laid so far -/
def Laid (H0 H : Hp) (S : Addr) (xs : List V) (ts : List Addr) : Prop := ∀ j T, ts[j]? = some T → ∃ x, xs[j]? = some x ∧ T ≠ S ∧ H0 T = none ∧ H T = some (.tup [.int (j : Nat), x])
theorem enum_loop (hh : A.handled = none) (hz : xs.length ≤ sizeLine) (hS0 : H0 S = none) (hSe : S ≠ e) (hSi : S ≠ it) (hSa : S ≠ a) (hei : e ≠ it) (hea : e ≠ a) (hia : it ≠ a) (hq : SqK X.K t H0 a xs)
    (hR : ∀ H' s' ts, Inv X pins σ H' s' → Same H0 H' → ts.length = xs.length → H' S = some (.lst (ts.map V.ref)) → Laid H0 H' S xs ts → R (.ok (.ret res)) s') :
    ∀ (k i : Nat) (s : Shared) (H : Hp) (ts : List Addr), xs.length - i = k → i ≤ xs.length → Inv X pins σ H s → Same H0 H → ts.length = i → H S = some (.lst (ts.map V.ref)) → Laid H0 H S xs ts → ItK t s.heap it a i → EnAt s.heap e it S i →
      (∀ b ∈ [e, it], FpOk X pins H b) → codeAny (model X.prog X.w) A (.builtin "list.extend.loop" ⟨[.ref S, .ref e, res], []⟩) R s := by
  intro k
  induction k with
  | zero =>
    intro i s H ts hk hi I i0 hts hS hL hit hen hf
    have hin : i = xs.length := by omega
    subst hin
    obtain ⟨its, rv, p⟩ := Inv.seK I (SqK.up i0 hq)
    have hl : its.toArray.size = xs.length := by rw [List.size_toArray]; exact rv.length.symm
    refine codeAny_builtin F.entry_extend_loop ?_
    rw [Around.under_plainId F.plain_extend_loop _]
    show wpAny _ A.in1 (pyNext (.ref e) >>= _) _ _ s
    have fin : ∀ h', Heap.ExtBut it s.heap h' → R (.ok (.ret res)) { s with heap := h' } := fun h' eb =>
      hR H _ ts (I.turnedL (t' := s.toks) (ch := [e, it]) (fun b o hb q => eb b o (fun z => hb (by simp [z])) q) hf) i0 hts hS hL
    rcases hen with ⟨old, he⟩ | ⟨old, T, f, oT, he, hT, r1, r2, r3⟩
    · exact wpAny_bind (wpAny_pyNext_enum_endD (drawsK t (show A.in1.in1.handled = none from hh) it a (Ne.symm hia) its.toArray) he ⟨by rw [hl]; exact hit, p⟩ fun h' eb => wpAny_pure (fin h' eb))
    · exact wpAny_bind (pyNext_enum_endH (drawsK t (show A.in1.in1.handled = none from hh) it a (Ne.symm hia) its.toArray) he ⟨by rw [hl]; exact hit, p⟩ fun h' eb => wpAny_pure (fin h' eb))
  | succ k ih =>
    intro i s H ts hk hi I i0 hts hS hL hit hen hf
    have hlt : i < xs.length := by omega
    obtain ⟨its, rv, p⟩ := Inv.seK I (SqK.up i0 hq)
    have hl : its.toArray.size = xs.length := by rw [List.size_toArray]; exact rv.length.symm
    have hx : xs[i]? = some xs[i] := List.getElem?_eq_getElem hlt
    obtain ⟨u, hu, ru⟩ := rv.get hx
    have hlt2 : i < its.toArray.size := by omega
    have hdr := drawsK (prog := X.prog) (w := X.w) t (show A.in1.in1.handled = none from hh) it a (Ne.symm hia) its.toArray
    refine codeAny_builtin F.entry_extend_loop ?_
    rw [Around.under_plainId F.plain_extend_loop _]
    show wpAny _ A.in1 (pyNext (.ref e) >>= _) _ _ s
    have hil : it < s.heap.objs.size := by obtain ⟨_, q, _⟩ := hit.obj; exact Heap.lt_size q
    have hel : e < s.heap.objs.size := by rcases hen with ⟨old, he⟩ | ⟨old, T, f, oT, he, _⟩ <;> exact Heap.lt_size he
    have hSl : S < s.heap.objs.size := by obtain ⟨_, its', n', _, _, e'⟩ := I.lstM hS; exact Heap.lt_size e'
    -- behind the pair that was drawn
    have step : ∀ (v : Value) (h' : Heap) (tk : Nat), its.toArray[i]? = some v → ItK t h' it a (i + 1) → EnAt h' e it S (i + 1) → h'.get? s.heap.objs.size = some { cls := .type "tuple", data := .seq #[.int i tk, v] } →
        (∀ b o, b ≠ e → b ≠ it → s.heap.get? b = some o → h'.get? b = some o) →
        wpAny (model X.prog X.w) A.in1 (updateSeq S (·.push (.ref s.heap.objs.size)) >>= fun _ => again (.builtin "list.extend.loop" ⟨[.ref S, .ref e, res], []⟩))
          (fun fin s' => match fin with | .done f => R (.ok f) s' | .again c' => c'.quiet = true ∧ codeAny (model X.prog X.w) A c' R s') (fun er s' => R (.error er) s') { s with heap := h', toks := tk + 1 } := by
      intro v h' tk Pv hit' hen' hT hk'
      have ev : v = u := by simpa [hu] using Pv.symm
      subst ev
      have nT : s.heap.objs.size ≠ S := Nat.ne_of_gt hSl
      have new : ObjOk X.prog X.w (upd H s.heap.objs.size (.tup [.int (i : Nat), xs[i]])) h' s.heap.objs.size (.tup [.int (i : Nat), xs[i]]) :=
        ⟨by show 2 ≤ sizeLine; decide, [.int i tk, v], .cons ⟨_, rfl⟩ (.cons ru .nil), ⟨_, hT, rfl, _, rfl⟩⟩
      have I1 : Inv X pins σ (upd H s.heap.objs.size (.tup [.int (i : Nat), xs[i]])) { s with heap := h', toks := tk + 1 } :=
        I.turnedNew (ch := [e, it]) (fun b ob hb q => hk' b ob (fun z => hb (by simp [z])) (fun z => hb (by simp [z])) q) hf (Nat.le_refl _) new
      have hS1 : upd H s.heap.objs.size (.tup [.int (i : Nat), xs[i]]) S = some (.lst (ts.map V.ref)) := by rw [upd_ne (Ne.symm nT)]; exact hS
      obtain ⟨z1, lits, n1, r1, l1, e1⟩ := I1.lstM hS1
      have hs1 : lits.toArray.size ≤ sizeLine := by rw [List.size_toArray, ← l1]; exact z1
      have hts2 : (ts.map V.ref ++ [V.ref s.heap.objs.size]).length ≤ sizeLine := by simp [hts]; omega
      have I2 := I1.lset (ys := ts.map V.ref ++ [V.ref s.heap.objs.size]) (its' := lits ++ [.ref s.heap.objs.size]) (t' := tk + 1) hS1 e1 (f := (·.push (.ref s.heap.objs.size))) (by simp) (r1.append (.cons (show RelV (V.ref s.heap.objs.size) (.ref s.heap.objs.size) from rfl) .nil)) hts2
      have hf0 : H s.heap.objs.size = none := I.hok.fresh (Nat.le_refl _)
      have new0 : H0 s.heap.objs.size = none := same_none i0 hf0
      refine wpAny_bind (wpAny_updateSeq e1 rfl (wpAny_pure ⟨plainId_quiet F.plain_extend_loop _, ih (i + 1) _ _ (ts ++ [s.heap.objs.size]) (by omega) hlt I2 ?_ (by simp [hts]) ?_ ?_ ?_ ?_ ?_⟩) hs1 (by rw [Array.size_push]; omega))
      · intro b o q
        rw [upd_ne (fun z => by rw [z, hS0] at q; cases q), upd_ne (fun z => by rw [z, new0] at q; cases q)]
        exact i0 b o q
      · rw [upd_same, List.map_append]; rfl
      · intro j T hj
        rw [List.getElem?_append] at hj
        split at hj
        · obtain ⟨x, h1, h2, h3, h4⟩ := hL j T hj
          refine ⟨x, h1, h2, h3, ?_⟩
          rw [upd_ne h2, upd_ne (fun z => by rw [z, hf0] at h4; cases h4)]
          exact h4
        · rename_i hj'
          have ej : j = i := by
            rw [List.getElem?_singleton] at hj
            split at hj
            · omega
            · cases hj
          subst ej
          have eT : s.heap.objs.size = T := by simpa [hts] using hj
          subst eT
          refine ⟨_, hx, nT, new0, ?_⟩
          rw [upd_ne nT, upd_same]
      · exact hit'.kept fun o q => (Heap.get?_update_other _ _ hSi).trans q
      · rcases hen' with ⟨old, he⟩ | ⟨old, T, f, oT, he, hT', r1, r2, r3⟩
        · exact .inl ⟨old, (Heap.get?_update_other _ _ hSe).trans he⟩
        · exact .inr ⟨old, T, f, oT, (Heap.get?_update_other _ _ hSe).trans he, (Heap.get?_update_other _ _ (Ne.symm r3)).trans hT', r1, r2, r3⟩
      · intro b hb
        obtain ⟨f1, f2⟩ := hf b hb
        refine ⟨?_, f2⟩
        have hb' : b < s.heap.objs.size := by
          have e' : b = e ∨ b = it := by simpa using hb
          rcases e' with z | z
          · rw [z]; exact hel
          · rw [z]; exact hil
        have hbS : b ≠ S := by
          have e' : b = e ∨ b = it := by simpa using hb
          rcases e' with z | z
          · rw [z]; exact Ne.symm hSe
          · rw [z]; exact Ne.symm hSi
        rw [upd_ne hbS, upd_ne (Nat.ne_of_lt hb')]
        exact f1
    have ec : ((i + 1 : Nat) : Int) = (i : Int) + 1 := by omega
    rcases hen with ⟨old, he⟩ | ⟨old, T, f, oT, he, hT, r1, r2, r3⟩
    · refine wpAny_bind (wpAny_pyNext_enum_itemC hdr he ⟨hit, p⟩ hlt2 hei (by simp [hei, hea]) fun v h' tk Pv ho hit' hT hsz hk' => ?_)
      exact step v h' tk Pv hit'.1 (.inr ⟨_, s.heap.objs.size, false, _, by rw [ec]; exact ho, hT, Nat.ne_of_gt hel, Nat.ne_of_gt hil, Nat.ne_of_gt hSl⟩) hT hk'
    · refine wpAny_bind (pyNext_enum_held hdr he hT r1 r2 ⟨hit, p⟩ hlt2 hei (by simp [hei, hea]) fun v h' tk Pv ho hit' hT' hsz hk' => ?_)
      exact step v h' tk Pv hit'.1 (.inr ⟨old, T, true, oT, by rw [ec]; exact ho, hk' _ _ r1 r2 hT, r1, r2, r3⟩) hT' hk'
/-- list(e) where e is an enumeration at its start -/
theorem call_listEn {s : Shared} {H : Hp} {E : Value → Shared → Prop} {Q : Value → Shared → Prop} (hh : A.handled = none) (hz : xs.length ≤ sizeLine) (I : Inv X pins σ H s) (hei : e ≠ it) (hea : e ≠ a) (hia : it ≠ a) (hq : SqK X.K t H a xs)
    (he : IsEnum s.heap e it 0 .none) (hit : ItK t s.heap it a 0) (hf : ∀ b ∈ [e, it], FpOk X pins H b)
    (hQ : ∀ p H' s' ts, H p = none → Inv X pins σ H' s' → Same H H' → ts.length = xs.length → H' p = some (.lst (ts.map V.ref)) → Laid H H' p xs ts → Q (.ref p) s') :
    wpAny (model X.prog X.w) A (call (.type "list") [.ref e]) Q E s := by
  have hS0 : H s.heap.objs.size = none := I.hok.fresh (Nat.le_refl _)
  have hel : e < s.heap.objs.size := Heap.lt_size he
  have hil : it < s.heap.objs.size := by obtain ⟨_, q, _⟩ := hit.obj; exact Heap.lt_size q
  obtain ⟨its, rv, p⟩ := Inv.seK I hq
  have hal : a < s.heap.objs.size := p.lt
  refine callType_codes (Q₁ := fun obj s₁ => obj = .ref s.heap.objs.size ∧ s₁ = { s with heap := s.heap.push { cls := .type "list", data := .seq #[] } }) F.called_list (F.typeCall_list_1 _) F.entry_list_init
    (code_list_new _ ⟨rfl, rfl⟩) fun obj s₁ h₁ => ?_
  obtain ⟨rfl, rfl⟩ := h₁
  have I1 : Inv X pins σ (upd H s.heap.objs.size (.lst [])) { s with heap := s.heap.push { cls := .type "list", data := .seq #[] } } := I.lnew (ys := []) (its := []) (t' := s.toks) .nil (Nat.zero_le _)
  refine ⟨⟨_, Heap.get?_push_size _ rfl, rfl⟩, F.args_list_init_2 _ _, ?_⟩
  have hS : (s.heap.push { cls := .type "list", data := .seq #[] }).get? s.heap.objs.size = some { cls := .type "list", data := .seq #[] } := Heap.get?_push_size _ rfl
  generalize hSg : s.heap.objs.size = S at *
  have hSe : S ≠ e := Ne.symm (Nat.ne_of_lt hel)
  have hSi : S ≠ it := Ne.symm (Nat.ne_of_lt hil)
  have hSa : S ≠ a := Ne.symm (Nat.ne_of_lt hal)
  have at0 : ∀ {h' : Heap}, (∀ b o, b ≠ S → s.heap.get? b = some o → h'.get? b = some o) → IsEnum h' e it 0 .none ∧ ItK t h' it a 0 := fun k => ⟨k e _ (Ne.symm hSe) he, hit.kept fun o q => k it o (Ne.symm hSi) q⟩
  have k1 : ∀ b o, b ≠ S → s.heap.get? b = some o → (s.heap.push { cls := .type "list", data := .seq #[] }).get? b = some o := fun b o _ q => Heap.get?_push_of_some _ q
  generalize s.heap.push { cls := .type "list", data := .seq #[] } = h1 at *
  have hu1 : upd H S (.lst []) S = some (.lst []) := upd_same
  show wpAny _ A.in1.in1 (do let old ← Builtin.List.listItems (.ref S); Builtin.List.listUpdate (.ref S) (fun _ => #[]); letGo old.toList.reverse; Builtin.List.listExtendWith (.ref S) (.ref e) .none) _ _ _
  refine wpAny_bind ?_
  unfold Builtin.List.listItems
  refine wpAny_bind (wpAny_seqItems hS rfl (wpAny_pure ?_))
  show wpAny _ A.in1.in1 (updateSeq S (fun _ => #[]) >>= fun _ => letGo (#[] : Array Value).toList.reverse >>= fun _ => Builtin.List.listExtendWith (.ref S) (.ref e) .none) _ _ _
  refine wpAny_bind (wpAny_updateSeq hS rfl ?_)
  have hS₂ := Heap.get?_update_self (Obj.mapSeq (fun _ => (#[] : Array Value))) hS rfl
  have I2 := I1.lset (ys := []) (its' := []) (t' := s.toks) hu1 hS (f := fun _ => #[]) rfl .nil (Nat.zero_le _)
  have k2 : ∀ b o, b ≠ S → s.heap.get? b = some o → (h1.update S (Obj.mapSeq (fun _ => (#[] : Array Value)))).get? b = some o := fun b o hb q => (Heap.get?_update_other _ _ (Ne.symm hb)).trans (k1 b o hb q)
  refine wpAny_bind (wpAny_letGo ?_)
  show wpAny _ A.in1.in1 (Builtin.List.listExtendWith (.ref S) (.ref e) .none) _ _ { s with heap := h1.update S (Obj.mapSeq (fun _ => (#[] : Array Value))) }
  have hS₂' : (h1.update S (Obj.mapSeq (fun _ => (#[] : Array Value)))).get? S = some { cls := .type "list", data := .seq #[] } := hS₂
  have I2' : Inv X pins σ (upd (upd H S (.lst [])) S (.lst [])) { s with heap := h1.update S (Obj.mapSeq (fun _ => (#[] : Array Value))) } := I2
  clear I2 hS₂ I1 hS k1
  generalize h1.update S (Obj.mapSeq (fun _ => (#[] : Array Value))) = h2 at *
  obtain ⟨e2, i2⟩ := at0 k2
  have hT : ({ s with heap := h2 } : Shared).TypeIs (.ref e) "enumerate" := ⟨_, e2, rfl⟩
  unfold Builtin.List.listExtendWith
  refine wpAny_bind (wpAny_typeOf hT ?_)
  have g1 : Builtin.List.listSameRef (.ref S) (.ref e) = false := by simp [Builtin.List.listSameRef, hSe]
  have g2 : (Value.type "enumerate" == Value.type "list") = false := by decide
  have g3 : (Value.type "enumerate" == Value.type "tuple") = false := by decide
  simp only [g1, g2, g3, Bool.or_false, Bool.false_eq_true, if_false]
  refine wpAny_bind (wpAny_pyIter_enum e2 ?_)
  refine wpAny_bind (wpAny_holding ?_)
  unfold Builtin.List.listLengthHint
  refine wpAny_bind (wpAny_specialOf hT enum_no_len ?_)
  show wpAny _ A.in1.in1 (specialOf (Value.ref e) (Str.ofString "__length_hint__") >>= _) _ _ _
  refine wpAny_bind (wpAny_specialOf hT enum_no_hint ?_)
  refine wpAny_pure ?_
  show wpAny _ A.in1.in1 (rule "list.extend.makes-room" >>= fun _ => Builtin.List.listTouch (.ref S) >>= fun _ =>
    again (.builtin "list.extend.loop" ⟨[.ref S, .ref e, .none], []⟩)) _ _ _
  refine wpAny_bind (wpAny_rule ?_)
  refine wpAny_bind ?_
  show wpAny _ A.in1.in1 (updateSeq S (·.push .none) >>= fun _ => updateSeq S (·.pop)) _ _ _
  have hu2 : upd (upd H S (.lst [])) S (.lst []) S = some (.lst []) := upd_same
  have I3 := I2'.lset (ys := [V.non]) (its' := [.none]) (t' := s.toks) hu2 hS₂' (f := (·.push .none)) rfl (.cons (show RelV V.non .none from rfl) .nil) (by show 1 ≤ sizeLine; decide)
  refine wpAny_bind (wpAny_updateSeq hS₂' rfl ?_)
  have hS₃ := Heap.get?_update_self (Obj.mapSeq (·.push Value.none)) hS₂' rfl
  have hu3 : upd (upd (upd H S (.lst [])) S (.lst [])) S (.lst [V.non]) S = some (.lst [V.non]) := upd_same
  have I4 := I3.lset (ys := []) (its' := []) (its := [.none]) (t' := s.toks) hu3 hS₃ (f := (·.pop)) rfl .nil (Nat.zero_le _)
  refine wpAny_updateSeq (hz := by show 1 ≤ sizeLine; decide) hS₃ rfl ?_
  have k3 : ∀ b o, b ≠ S → s.heap.get? b = some o → ((h2.update S (Obj.mapSeq (·.push Value.none))).update S (Obj.mapSeq (·.pop))).get? b = some o :=
    fun b o hb q => (Heap.get?_update_other _ _ (Ne.symm hb)).trans ((Heap.get?_update_other _ _ (Ne.symm hb)).trans (k2 b o hb q))
  have hu4 : ∀ b, b ≠ S → upd (upd (upd (upd H S (.lst [])) S (.lst [])) S (.lst [V.non])) S (.lst []) b = H b := fun b hb => by rw [upd_ne hb, upd_ne hb, upd_ne hb, upd_ne hb]
  have e4 := (at0 k3).1
  have i4 := (at0 k3).2
  refine wpAny_pure ⟨plainId_quiet F.plain_extend_loop _, enum_loop (H0 := H) (S := S) (e := e) (it := it) (a := a) (xs := xs) (t := t) (A := A.in1) hh hz hS0 hSe hSi hSa hei hea hia hq (fun H' s' ts J j0 jl jS jL => ⟨rfl, hQ S H' s' ts hS0 J j0 jl jS jL⟩)
    xs.length 0 _ _ [] rfl (Nat.zero_le _) I4 (fun b o q => ?_) rfl upd_same (fun j T q => by simp at q) i4 (.inl ⟨.none, e4⟩) (fun b hb => ?_)⟩
  · rw [hu4 b (fun z => by rw [z, hS0] at q; cases q)]; exact q
  · obtain ⟨f1, f2⟩ := hf b hb
    refine ⟨?_, f2⟩
    have hbS : b ≠ S := by
      have e' : b = e ∨ b = it := by simpa using hb
      rcases e' with z | z
      · rw [z]; exact Ne.symm hSe
      · rw [z]; exact Ne.symm hSi
    rw [hu4 b hbS]
    exact f1
/-- list(enumerate(x)) -/
def tLstEn (K : Frg) (ta : TA) : TE := fun σ H Q => ta σ H fun vs H1 => ∃ t a xs, vs = [.ref a] ∧ SqK K t H1 a xs ∧ xs.length ≤ sizeLine ∧ ∀ p H2 ts, H1 p = none → Same H1 H2 → ts.length = xs.length → H2 p = some (.lst (ts.map V.ref)) → Laid H1 H2 p xs ts → Q (.ref p) H2
theorem pe_listEn {ex : Expr} {ta : TA} {p pos p2 pos2 : Pos} (hc : X.calm = true) (hg : Gl X "list") (hm : X.mg "list" = none) (hg2 : Gl X "enumerate") (hm2 : X.mg "enumerate" = none) (ha : PA X [ex] ta) (hs : starEach [ex] X.env = [(false, eval ex X.env)] := by rfl)
    (na : starEach [.Call (.Name "enumerate" p2) [ex] [] pos2] X.env = (false, eval (.Call (.Name "enumerate" p2) [ex] [] pos2) X.env) :: starEach [] X.env := by rfl) : PE X (.Call (.Name "list" p) [.Call (.Name "enumerate" p2) [ex] [] pos2] [] pos) (tLstEn X.K ta) := by
  refine ⟨fun pins s σ H Q I h => ?_⟩
  refine Call_ (ld_blt I hg hm boot_list (PyProof.Rows.callWith_type1 (args_cons ?_ na) na))
  refine Call_ (ld_blt I hg2 hm2 boot_enumerate (PyProof.Rows.callWith_type1 (thn (ha.run _ pins s σ H _ I h) fun us s1 ⟨vs, H1, I1, r1, q1⟩ => ?_) hs rfl))
  obtain ⟨t, a, xs, ex, hq, hz, q⟩ := q1
  subst ex
  cases r1 with
  | cons r rr =>
    cases rr
    cases r
    obtain ⟨its, rv, p'⟩ := Inv.seK I1 hq
    have hal : a < s1.heap.objs.size := p'.lt
    refine call_enum1 (beginsK t a its.toArray) p' fun h' he hit hsz hk => args_nil ?_
    have I2 : Inv X pins σ H1 { s1 with heap := h' } := I1.kept (t' := s1.toks) hk
    refine call_listEn (A := X.A) (I1.ok.hd hc) hz I2 (Nat.succ_ne_self _) (Nat.ne_of_gt (Nat.lt_succ_of_lt hal)) (Nat.ne_of_gt hal) hq he (itK_new t hit) (fun b hb => ?_) fun p H' s' ts hp J j0 jl jS jL => ⟨.ref p, H', J, rfl, q p H' ts hp j0 jl jS jL⟩
    have e' : b = s1.heap.objs.size + 1 ∨ b = s1.heap.objs.size := by simpa using hb
    have hle : s1.heap.objs.size ≤ b := by
      rcases e' with z | z
      · rw [z]; exact Nat.le_add_right _ _
      · rw [z]; exact Nat.le_refl _
    exact I1.fpOk hle (I1.hok.fresh hle)
@[simp] def fLstEn (fs : Sl → Res (List D)) (ρ : Sl) : Res (List D) := (fs ρ).bind fun ds => match ds with
  | [d] => (dSq d).bind fun xs => if xs.length ≤ 16777216 then .ok (enumD 0 xs) else .bad
  | _ => .bad
theorem rpa_of {K : Frg} {mg : Mg} {S : Hp} : ∀ {vs : List V} {ds : List D}, vs.length = ds.length → (∀ (i : Nat) (v : V) (d : D), vs[i]? = some v → ds[i]? = some d → Rp K mg S v d) → RpA K mg S vs ds
  | [], [], _, _ => .nil
  | [], _ :: _, h, _ => by simp at h
  | _ :: _, [], h, _ => by simp at h
  | v :: vs, d :: ds, h, f => .cons (f 0 v d rfl rfl) (rpa_of (by simpa using h) fun i v d h1 h2 => f (i + 1) v d (by simpa using h1) (by simpa using h2))
theorem mf_listEn {hx : Hx} {W : WX} {ex : Expr} {fs : Sl → Res (List D)} {p pos p2 pos2 : Pos} (hc : X.calm = true) (hm : X.mg "list" = none) (hm2 : X.mg "enumerate" = none) (ha : MA X hx W [ex] fs) (hg : Gl X "list" := by rfl) (hg2 : Gl X "enumerate" := by rfl) (hs : starEach [ex] X.env = [(false, eval ex X.env)] := by rfl)
    (na : starEach [.Call (.Name "enumerate" p2) [ex] [] pos2] X.env = (false, eval (.Call (.Name "enumerate" p2) [ex] [] pos2) X.env) :: starEach [] X.env := by rfl) : MF X hx W (.Call (.Name "list" p) [.Call (.Name "enumerate" p2) [ex] [] pos2] [] pos) (fLstEn fs) :=
  pe_imp (pe_listEn hc hg hm hg2 hm2 ha hs na) fun σ H Q ⟨b, S, ρ, R, q⟩ => ⟨b, S, ρ, R, q.bind fun d v S1 H1 g1 r1 k => by
    split at k
    · rename_i d1
      obtain ⟨v1, rfl, q1⟩ := r1.one
      cases e1 : dSq d1 with
      | exc _ _ => cases d1 <;> cases e1
      | bad => rw [e1] at k; exact k.elim
      | ok xs =>
        rw [e1, Res.bind_ok] at k
        obtain ⟨t1, a1, vs, rfl, z1, z2⟩ := q1.sq e1
        split at k
        · rename_i hl
          refine ⟨t1, a1, vs, rfl, same_k g1.i z1, by rw [z2.len, sizeLine_eq]; omega, fun p H2 ts hp j0 jl jS jL => ?_⟩
          have up : Same S1 (fun a => if a = p then none else if H1 a = none then H2 a else S1 a) := fun a o e => by
            have h1 := g1.i a o e
            show (if a = p then none else if H1 a = none then H2 a else S1 a) = some o
            rw [if_neg (fun z => by rw [z, hp] at h1; cases h1), if_neg (by rw [h1]; simp)]
            exact e
          refine k (.ref p) (fun a => if a = p then none else if H1 a = none then H2 a else S1 a) H2 (g1.trans ⟨up, j0, fun a o e => ?_, fun a ha e => ?_⟩) ⟨p, ts.map V.ref, rfl, same_none g1.h hp, if_pos rfl, jS, ?_⟩
          · have e : (if a = p then none else if H1 a = none then H2 a else S1 a) = some o := e
            split at e
            · cases e
            · split at e
              · exact e
              · exact j0 _ _ (g1.i _ _ e)
          · show (if a = p then none else if H1 a = none then H2 a else S1 a) = none
            by_cases z : a = p
            · rw [if_pos z]
            · rw [if_neg z, if_neg ha]; exact e
          · refine rpa_of (by rw [List.length_map, jl, enumD_len, z2.len]) fun i v d h1 h2 => ?_
            obtain ⟨x, h3, rfl⟩ := enumD_get h2
            rw [List.getElem?_map] at h1
            cases hT : ts[i]? with
            | none => rw [hT] at h1; cases h1
            | some T =>
              rw [hT] at h1
              cases h1
              obtain ⟨y, k1, k2, k3, k4⟩ := jL i T hT
              obtain ⟨d', k5, k6⟩ := z2.getV k1
              rw [h3] at k5
              cases k5
              refine .tup (xs := [.int (i : Nat), y]) (SqT.of ?_) (.cons (by rw [Nat.zero_add]; exact .int _) (.cons (k6.up up _ _) .nil))
              show (if T = p then none else if H1 T = none then H2 T else S1 T) = _
              rw [if_neg k2, if_pos k3]
              exact k4
        · exact k.elim
    · exact k.elim⟩
end
end PF

set_option Elab.async false
set_option linter.all false
set_option maxRecDepth 100000
set_option maxHeartbeats 4000000
/-! xs[i] += v, min, max, xs.index(v), list(range(..)). -/
namespace PF
open PySem PySem.Spec L2 PyProof.Rows
section
variable {X : Cx}
def rGetL (K : PySem.W.Frag) : V → V → Hp → VK → Prop := fun x y H Q => ∃ p xs i v, x = .ref p ∧ y = .int i ∧ SqL K H p xs ∧ atI xs i = some v ∧ Q v H
theorem get_list : PGet X (rGetL X.K) := by
  intro pins s σ H x y v u Q I rx ry h
  obtain ⟨p, xs, i, z, rfl, rfl, hq, he, q⟩ := h
  cases rx
  obtain ⟨t, rfl⟩ := ry
  obtain ⟨its, r, pl, hz⟩ := I.list hq
  obtain ⟨j, h1, h2, h3, h4, h5⟩ := atI_get he
  obtain ⟨w, ew, rw'⟩ := r.get h2
  have hl := r.length
  have hn := line63
  have fin : EP X pins σ Q w s := ⟨z, H, I, rw', q⟩
  by_cases h0 : 0 ≤ i
  · have hj : i.toNat = j := by
      rw [seqIndex_of h0 h5] at h1
      exact Option.some.inj h1
    exact wpAny_getItem_list pl.isList h0 (by omega) (by rw [hj]; simpa using ew) fin
  · have hj : (i + (its.toArray.size : Int)).toNat = j := by
      rw [seqIndex_neg (by omega) h4] at h1
      rw [List.size_toArray, ← hl]
      exact Option.some.inj h1
    exact wpAny_getItem_list_neg pl.isList (by omega) (by rw [List.size_toArray] <;> omega) (by omega) (by rw [hj]; simpa using ew) fin
end
/-- xs[k] op= v, xs a list that slot i alone holds -/
@[simp] def gAugS (i : Nat) (g : D → D → Res D) (fi f : Sl → Res D) (ρ : Sl) : Out := match (ρ[i]? : Option Cell) with
  | some (Cell.o ds) => rS (fi ρ) ρ fun k => match k with
    | .int n => match ixN ds.length n with
      | some j => match (ds[j]? : Option D) with
        | some d => rS (f ρ) ρ fun e => rS (g d e) ρ fun z => .nx (ρ.set i (.o (ds.set j z)))
        | none => .bad
      | none => .bad
    | _ => .bad
  | _ => .bad
section
variable {X : Cx} {hx : Hx} {W : WX} {e : Expr} {pos : Pos} {f : Sl → Res D}
theorem ms_augS (i : Nat) {x : Str} {ix : Expr} {op : Operator} {ti : TIp} {g : D → D → Res D} {fi : Sl → Res D} {p tpos : Pos} (hv : PE X (.Name x p) (tVar i)) (hi : ME X hx W ix fi) (ho : PIp X op ti) (hr : O2 X.K X.mg ti g) (he : ME X hx W e f)
    (ha : ∀ ov iv new, augStore ix ov iv new = (do holding [new, ov, iv] (setItem ov iv new); release [new, ov, iv] []; pure .next) := by intros; rfl) :
    MS X hx W (.AugAssign (.Subscript (.Name x p) ix tpos) op e pos) (gAugS i g fi f) := ps_imp (ps_augS hv hi get_list he ho set_list ha) fun D σ H ⟨b, S, ρ, R, q⟩ => by
  unfold gAugS at q
  split at q
  · rename_i ds e1
    obtain ⟨p, vs, h1, h2, h3, h4, h5⟩ := R.own i ds e1
    refine ⟨_, h1, b, S, ρ, R, rS_po R q fun d v S1 H1 g1 r1 k => ?_⟩
    cases d with
    | int n =>
      cases r1
      simp only at k
      split at k
      · rename_i j hj
        split at k
        · rename_i d hd
          obtain ⟨v, hv, rv⟩ := h5.get hd
          have hat : atI vs n = some v := by unfold atI; rw [h5.len, hj]; exact hv
          refine ⟨p, vs, n, v, rfl, rfl, SqL.of (g1.h _ _ h2), hat, b, S1, ρ, R.grow g1, rS_po (R.grow g1) (PoS.up g1.s k) fun d2 v2 S2 H2 g2 r2 k2 => ?_⟩
          have R2 := (R.grow g1).grow g2
          have g12 := g1.trans g2
          refine hr S2 σ H2 v v2 d d2 W _ g2.i (Rd1.of g2.i (rv.up g12.s _ _)) (Rd1.of g2.i r2) (rS_po R2 (PoS.up g2.s k2) fun d3 v3 S3 H3 g3 r3 k3 => ?_)
          have g := g12.trans g3
          exact ⟨p, vs, n, j, rfl, rfl, g.h _ _ h2, by rw [h5.len]; exact hj, k3 S3 σ _ g3.s (((R2.grow g3)).mut e1 h1 ((h5.up g.s _ _).set r3 j))⟩
        · exact k.elim
      · exact k.elim
    | _ => exact k.elim
  · exact q.elim
end
/-! ### min, max of a list of numbers -/
def lmin : List Int → Int
  | [] => 0
  | [x] => x
  | x :: xs => if x ≤ lmin xs then x else lmin xs
theorem lmin_le : ∀ {ns : List Int} {y : Int}, y ∈ ns → lmin ns ≤ y
  | [x], y, h => by simp at h; simp [lmin, h]
  | x :: z :: xs, y, h => by
    have ih : ∀ y, y ∈ z :: xs → lmin (z :: xs) ≤ y := fun y h => lmin_le h
    unfold lmin
    rcases List.mem_cons.mp h with e | e
    · subst e; split <;> omega
    · have := ih y e; split <;> omega
theorem lmin_mem : ∀ {ns : List Int}, ns ≠ [] → lmin ns ∈ ns
  | [x], _ => by simp [lmin]
  | x :: z :: xs, _ => by
    have ih : lmin (z :: xs) ∈ z :: xs := lmin_mem (by simp)
    unfold lmin
    split
    · exact List.mem_cons_self
    · exact List.mem_cons_of_mem _ ih
def lmax : List Int → Int
  | [] => 0
  | [x] => x
  | x :: xs => if lmax xs ≤ x then x else lmax xs
theorem lmax_le : ∀ {ns : List Int} {y : Int}, y ∈ ns → y ≤ lmax ns
  | [x], y, h => by simp at h; simp [lmax, h]
  | x :: z :: xs, y, h => by
    have ih : ∀ y, y ∈ z :: xs → y ≤ lmax (z :: xs) := fun y h => lmax_le h
    unfold lmax
    rcases List.mem_cons.mp h with e | e
    · subst e; split <;> omega
    · have := ih y e; split <;> omega
theorem lmax_mem : ∀ {ns : List Int}, ns ≠ [] → lmax ns ∈ ns
  | [x], _ => by simp [lmax]
  | x :: z :: xs, _ => by
    have ih : lmax (z :: xs) ∈ z :: xs := lmax_mem (by simp)
    unfold lmax
    split
    · exact List.mem_cons_self
    · exact List.mem_cons_of_mem _ ih
@[simp] def bMin (d : D) : Res D := match seqOf d with
  | some ds => (match dInts ds with
    | some (n :: ns) => .ok (.int (lmin (n :: ns)))
    | _ => .bad)
  | none => .bad
@[simp] def bMax (d : D) : Res D := match seqOf d with
  | some ds => (match dInts ds with
    | some (n :: ns) => .ok (.int (lmax (n :: ns)))
    | _ => .bad)
  | none => .bad
/-- the first place of n -/
def ixOf (n : Int) : List Int → Option Nat
  | [] => none
  | m :: ms => if m = n then some 0 else (ixOf n ms).map (· + 1)
theorem ixOf_some {n : Int} : ∀ {ms : List Int} {j : Nat}, ixOf n ms = some j → ms[j]? = some n ∧ ∀ (i : Nat) (m : Int), i < j → ms[i]? = some m → m ≠ n
  | [], j, h => by cases h
  | m :: ms, j, h => by
    unfold ixOf at h
    split at h
    · rename_i e
      cases h
      exact ⟨by simp [e], fun i m hi => by omega⟩
    · rename_i e
      cases q : ixOf n ms with
      | none => rw [q] at h; cases h
      | some k =>
        rw [q] at h
        have h : some (k + 1) = some j := h
        cases h
        obtain ⟨h1, h2⟩ := ixOf_some q
        refine ⟨by simpa using h1, fun i m' hi hm => ?_⟩
        cases i with
        | zero => simp at hm; rw [← hm]; exact e
        | succ i => exact h2 i m' (by omega) (by simpa using hm)
theorem ixOf_mem {n : Int} : ∀ {ms : List Int}, n ∈ ms → ∃ j, ixOf n ms = some j ∧ j < ms.length
  | m :: ms, h => by
    unfold ixOf
    split
    · exact ⟨0, rfl, by simp⟩
    · rename_i e
      obtain ⟨j, h1, h2⟩ := ixOf_mem (n := n) (ms := ms) (by simpa [Ne.symm e] using h)
      exact ⟨j + 1, by rw [h1]; rfl, by simpa using h2⟩
@[simp] def gIdx (ds : List D) (e : D) : Res D := match dInts ds with
  | some ns => (match e with
    | .int n => (match ixOf n ns with
      | some j => .ok (.int (j : Nat))
      | none => .bad)
    | _ => .bad)
  | none => .bad
@[simp] def sIdx (fa fb : Sl → Res D) (ρ : Sl) : Res D := (fa ρ).bind fun d => match seqOf d with
  | some ds => (fb ρ).bind fun e => gIdx ds e
  | none => .bad
section
variable {K : Frg} {mg : Mg}
theorem b_min : U1 K mg (fun v => rMin K [v]) bMin := fun S σ H v d W Q i hx q => by
  unfold bMin at q
  split at q
  · rename_i ds e
    split at q
    · rename_i n ns e2
      obtain ⟨p, vs, rfl, h1, h2⟩ := hx.seq i e
      rw [dInts_map e2] at h2
      rw [h2.ints] at h1
      refine ⟨p, n :: ns, rfl, h1, by simp, fun m hm hle => ?_⟩
      have e3 : m = lmin (n :: ns) := by
        have a1 := lmin_le hm
        have a2 := hle _ (lmin_mem (ns := n :: ns) (by simp))
        omega
      rw [e3]
      exact q _ _ _ (Gr.refl i) (.int _)
    · exact q.elim
  · exact q.elim
theorem b_max : U1 K mg (fun v => rMax K [v]) bMax := fun S σ H v d W Q i hx q => by
  unfold bMax at q
  split at q
  · rename_i ds e
    split at q
    · rename_i n ns e2
      obtain ⟨p, vs, rfl, h1, h2⟩ := hx.seq i e
      rw [dInts_map e2] at h2
      rw [h2.ints] at h1
      refine ⟨p, n :: ns, rfl, h1, by simp, fun m hm hle => ?_⟩
      have e3 : m = lmax (n :: ns) := by
        have a1 := lmax_le hm
        have a2 := hle _ (lmax_mem (ns := n :: ns) (by simp))
        omega
      rw [e3]
      exact q _ _ _ (Gr.refl i) (.int _)
    · exact q.elim
  · exact q.elim
end
section
variable {X : Cx} {hx : Hx} {W : WX} {o e : Expr} {apos cpos : Pos} {fa fb : Sl → Res D}
theorem me_idx (ho : MR X hx W o fa) (he : MR X hx W e fb) (h : ∀ {to t}, PE X o to → PE X e t → PE X (.Call (.Attribute o "index" apos) [e] [] cpos) (tBM X.K "list" (rIndex X.K) to (tCons t tNil)) := by
      intro to t ho ht; exact pe_bm PySem.F.plainAttrs_list PySem.F.slot_list_index PySem.F.type_list_index mt_index ho (pa_cons ht pa_nil)) :
    ME X hx W (.Call (.Attribute o "index" apos) [e] [] cpos) (sIdx fa fb) := pe_imp (h ho he) fun σ H Q ⟨b, S, ρ, R, q⟩ => ⟨b, S, ρ, R, q.bind fun d v S1 H1 g1 r1 k => by
    split at k
    · rename_i ds e0
      obtain ⟨p, vs, rfl, h1, h2⟩ := r1.seq g1.i e0
      refine ⟨.inl ⟨rfl, _, h1⟩, b, S1, ρ, R.grow g1, (k.upE g1).bind fun d2 v2 S2 H2 g2 r2 k2 => ?_⟩
      unfold gIdx at k2
      split at k2
      · rename_i ns e2
        split at k2
        · rename_i n
          split at k2
          · rename_i j e3
            rw [dInts_map e2] at h2
            have h1 := same_l g2.h h1
            rw [h2.ints] at h1
            obtain ⟨i1, i2⟩ := ixOf_some e3
            have ei : v2 = .int n := r2.int
            subst ei
            refine ⟨p, ns.map V.int, .int n, j, .int n, rfl, rfl, h1, rfl, by simp [flatV], by rw [List.getElem?_map, i1]; rfl, by simp [eqV], fun m z hm hz => ?_, k2 _ S2 H2 g2 (.int _)⟩
            rw [List.getElem?_map] at hz
            cases e4 : ns[m]? with
            | none => rw [e4] at hz; cases hz
            | some m' =>
              rw [e4] at hz
              cases hz
              have := i2 m m' hm e4
              simp [eqV, this]
          · exact k2.elim
        · exact k2.elim
      · exact k2.elim
    · exact k.elim⟩
/-- list(range(n)), list(range(a, b)) -/
@[simp] noncomputable def fLRg (fs : Sl → Res (List D)) (ρ : Sl) : Res (List D) := (fs ρ).bind fun ds => match ds with
  | [.int j] => if cb (-(2 ^ 62) ≤ j ∧ j ≤ 16777216) then .ok (rngD 0 j.toNat) else .bad
  | _ => .bad
theorem rgV_map (a b : Int) : rgV a b = (List.range (b - a).toNat).map fun (k : Nat) => V.int (a + (k : Int)) := rfl
theorem rpa_rg {K : Frg} {mg : Mg} {S : Hp} (a : Int) : ∀ (l : List Nat), RpA K mg S (l.map fun (k : Nat) => V.int (a + (k : Int))) (l.map fun (k : Nat) => D.int (a + (k : Int)))
  | [] => .nil
  | k :: l => .cons (.int _) (rpa_rg a l)
theorem mf_lrg {a : Expr} {fs : Sl → Res D} {p pos p2 pos2 : Pos} (hc : X.calm = true) (hm : X.mg "list" = none) (hm2 : X.mg "range" = none) (ha : ME X hx W a fs) (hg : Gl X "list" := by rfl) (hg2 : Gl X "range" := by rfl) (na : starEach [a] X.env = (false, eval a X.env) :: starEach [] X.env := by rfl)
    (nb : starEach [.Call (.Name "range" p2) [a] [] pos2] X.env = (false, eval (.Call (.Name "range" p2) [a] [] pos2) X.env) :: starEach [] X.env := by rfl) : MF X hx W (.Call (.Name "list" p) [.Call (.Name "range" p2) [a] [] pos2] [] pos) (fLRg (aCons fs aNil)) :=
  pe_imp (pe_listRg hc hg hm (prg_1 hg2 hm2 ha na) nb) fun σ H Q ⟨b, S, ρ, R, q⟩ => ⟨b, S, ρ, R, by
    unfold fLRg aCons aNil at q
    cases ef : fs ρ with
    | exc y ys => rw [ef] at q; exact q
    | bad => rw [ef] at q; exact q.elim
    | ok d =>
      rw [ef] at q
      intro v S1 H1 g1 r1
      have q : Po X.K X.mg (rrF X.K X.mg) W S σ H (match [d] with | [.int j] => if cb (-(2 ^ 62) ≤ j ∧ j ≤ 16777216) then .ok (rngD 0 j.toNat) else .bad | _ => .bad) Q := q
      cases d with
      | int j =>
        cases r1
        have q : Po X.K X.mg (rrF X.K X.mg) W S σ H (if cb (-(2 ^ 62) ≤ j ∧ j ≤ 16777216) then .ok (rngD 0 j.toNat) else .bad) Q := q
        split at q
        · rename_i hb0
          have hb := of_cb hb0
          refine ⟨j, rfl, ⟨by omega, by omega, by omega, by omega, by omega⟩, fun p hp => ?_⟩
          have hs : S1 p = none := same_none g1.i hp
          refine q (.ref p) S1 _ (g1.trans (Gr.lay g1.i hp)) ⟨p, _, rfl, same_none g1.h hp, hs, upd_same, ?_⟩
          rw [rgV_map, Int.sub_zero]
          exact rpa_rg 0 _
        · exact q.elim
      | _ => exact q.elim⟩
end
end PF

set_option Elab.async false
set_option linter.all false
set_option maxRecDepth 100000
/-! What each def of the program and of the law law_k11_menus_solved_and_judged makes of its arguments (printed by gen.py) -/
namespace S_k11
open PySem L2 PF
def t_BadNumber (x : Str) : Option Bool := List.lookup x [("BadNumber", true), ("BadTask", false), ("NotAPlan", false)]
def t_NotAPlan (x : Str) : Option Bool := List.lookup x [("BadNumber", false), ("BadTask", false), ("NotAPlan", true)]
def t_BadTask (x : Str) : Option Bool := List.lookup x [("BadNumber", false), ("BadTask", true), ("NotAPlan", false)]
def t_Unlied_BadPer_NoCots_BadQon_BadRge_BadSen_TooMny_BadTxt_BadNme (x : Str) : Option Bool := List.lookup x [("BadNumber", false), ("BadTask", false), ("NotAPlan", false)]
def t_ValueError (x : Str) : Option Bool := List.lookup x [("BadNumber", true), ("BadTask", true), ("NotAPlan", true)]
def t_Unknme_Staley (x : Str) : Option Bool := List.lookup x [("BadNumber", false), ("BadTask", false), ("NotAPlan", false)]
def t_CostsError (x : Str) : Option Bool := List.lookup x [("BadNumber", true), ("BadTask", true), ("NotAPlan", true)]
def cs_usages : List Str := ["Menu"]
def cs_width : List Str := ["Menu"]
def tc_KIND : List (Str × D) := [("Menu", (.str "menu"))]
def tc_PLANS : List (Str × D) := [("Menu", (.int 120))]
def is_Menu : List (Str × Bool) := [("Menu", true)]
def is_Task : List (Str × Bool) := [("Menu", true)]
/-- num 0, den 1, part 2 -/
noncomputable def g_make_ratio : Sl → Out :=
  (gSeq (gIf (sTest (sOp oEq (sRd 1) (sC (.int 0)))) (gRaise "BadNumber") gNil)
    (gSeq (gSet 2 (sOp bGcd (sRd 0) (sRd 1)))
    (gSeq (gIf (sTest (sOp oLt (sRd 1) (sC (.int 0)))) (gSet 2 (sUn oNeg (sRd 2))) gNil)
    (gRet (sTup (aCons (sOp oFdiv (sRd 0) (sRd 2)) (aCons (sOp oFdiv (sRd 1) (sRd 2)) aNil)))))))
noncomputable def f_make_ratio : List D → Res D := semF 3 g_make_ratio
/-- left 0, right 1, a 2, b 3 -/
noncomputable def b1_dot : Sl → Res D :=
  (sOp oMul (sRd 2) (sRd 3))
noncomputable def g_dot : Sl → Out :=
  (gRet (sUn bSum (sLst (fLc (iZip (aCons (sVar 0) (aCons (sVar 1) aNil))) (gTup 2 (gsCons (gName 2) (gsCons (gName 3) gsNil))) tYesF b1_dot [2, 3]))))
noncomputable def f_dot : List D → Res D := semF 4 g_dot
/-- vector 0, part 1, entry 2 -/
noncomputable def b1_content : Sl → Out :=
  (gSet 1 (sOp bGcd (sRd 1) (sRd 2)))
noncomputable def g_content : Sl → Out :=
  (gSeq (gSet 1 (sC (.int 0)))
    (gSeq (gFor (iSeq (sVar 0)) (gName 2) b1_content)
    (gRet (sVar 1))))
noncomputable def f_content : List D → Res D := semF 3 g_content
/-- nums 0, den 1, part 2, entry 3 -/
noncomputable def b1_make_point : Sl → Res D :=
  (sOp oFdiv (sRd 3) (sRd 2))
noncomputable def g_make_point : Sl → Out :=
  (gSeq (gIf (sTest (sOp oEq (sRd 1) (sC (.int 0)))) (gRaise "BadNumber") gNil)
    (gSeq (gSet 2 (sOp bGcd (sCall f_content (aCons (sVar 0) aNil)) (sRd 1)))
    (gSeq (gIf (sTest (sOp oLt (sRd 1) (sC (.int 0)))) (gSet 2 (sUn oNeg (sRd 2))) gNil)
    (gRet (sTup (aCons (sUn bTup (sLst (fLc (iSeq (sVar 0)) (gName 3) tYesF b1_make_point [3]))) (aCons (sOp oFdiv (sRd 1) (sRd 2)) aNil)))))))
noncomputable def f_make_point : List D → Res D := semF 4 g_make_point
/-- value 0 -/
noncomputable def g_is_whole : Sl → Out :=
  (gRet (sAnd (sUn (bIsi "int") (sRd 0)) (sNot (sUn (bIsi "bool") (sRd 0)))))
noncomputable def f_is_whole : List D → Res D := semF 1 g_is_whole
/-- value 0, word 1, length 2 -/
noncomputable def g_has_form : Sl → Out :=
  (gRet (sAnd (sUn (bIsi "tuple") (sRd 0)) (sAnd (sOp oEq (sUn bLen (sRd 0)) (sRd 2)) (sOp oEq (sOp oIx (sRd 0) (sC (.int 0))) (sRd 1)))))
noncomputable def f_has_form : List D → Res D := semF 3 g_has_form
/-- width 0, amounts 1, nums 2, letter 3, amount 4 -/
noncomputable def b1_tally : Sl → Out :=
  (gAugS 2 oAddI (sVar 3) (sVar 4))
noncomputable def g_tally : Sl → Out :=
  (gSeq (gSetO 2 (fOp fRep (sLst (fLst (aCons (sC (.int 0)) aNil))) (sRd 0)))
    (gSeq (gFor (iSeq (sVar 1)) (gTup 2 (gsCons (gName 3) (gsCons (gName 4) gsNil))) b1_tally)
    (gRetO 2)))
noncomputable def f_tally : List D → Res D := semF 5 g_tally
/-- self 0, width 1 -/
noncomputable def g_Task_init : GI :=
  (jSeq (jPl (gIf (tNot (sTest (sChn oLe oLe (sC (.int 1)) (sRd 1) (sC (.int 8))))) (gRaise "BadTask") gNil))
    (jSeq (jFld "width" (sVar 1))
    jNil))
noncomputable def f_Task_init : Addr → Fl → List D → Res Fl := semI 2 g_Task_init
/-- self 0, costs 1 -/
noncomputable def g_Task_check_costs : Sl → Out :=
  (gIf (sTest (sOp oNe (sUn bLen (sRd 1)) (sUn (bFld cs_width "width") (sRd 0)))) (gRaise "BadNumber") gNil)
noncomputable def f_Task_check_costs : List D → Res D := semF 2 g_Task_check_costs
/-- self 0, plan 1 -/
noncomputable def g_Task_scale : Sl → Out :=
  (gRet (sC (.int 1)))
noncomputable def f_Task_scale : List D → Res D := semF 2 g_Task_scale
/-- self 0, plan 1 -/
noncomputable def g_Menu_is_plan : Sl → Out :=
  (gRet (sAnd (sCall f_is_whole (aCons (sVar 1) aNil)) (sChn oLe oLt (sC (.int 0)) (sRd 1) (sUn bLen (sUn (bFld cs_usages "usages") (sRd 0))))))
noncomputable def f_Menu_is_plan : List D → Res D := semF 2 g_Menu_is_plan
noncomputable def mt_is_plan : MtT := [("Menu", f_Menu_is_plan)]
noncomputable def mt_scale : MtT := [("Menu", f_Task_scale)]
/-- self 0, plan 1 -/
noncomputable def g_Menu_amounts : Sl → Out :=
  (gRetF (fLstEn (aCons (sOp oIx (sUn (bFld cs_usages "usages") (sRd 0)) (sRd 1)) aNil)))
noncomputable def f_Menu_amounts : List D → Res D := semF 2 g_Menu_amounts
noncomputable def mt_amounts : MtT := [("Menu", f_Menu_amounts)]
/-- self 0, plan 1 -/
noncomputable def g_Task_usage : Sl → Out :=
  (gSeq (gIf (tNot (tTru (sMeth mt_is_plan "is_plan" (sRd 0) (aCons (sVar 1) aNil)))) (gRaise "NotAPlan") gNil)
    (gRet (sCall f_make_point (aCons (sCall f_tally (aCons (sUn (bFld cs_width "width") (sRd 0)) (aCons (sMeth mt_amounts "amounts" (sRd 0) (aCons (sVar 1) aNil)) aNil))) (aCons (sMeth mt_scale "scale" (sRd 0) (aCons (sVar 1) aNil)) aNil)))))
noncomputable def f_Task_usage : List D → Res D := semF 2 g_Task_usage
noncomputable def mt_check_costs : MtT := [("Menu", f_Task_check_costs)]
noncomputable def mt_usage : MtT := [("Menu", f_Task_usage)]
/-- self 0, costs 1, plan 2, nums 3, den 4 -/
noncomputable def g_Task_cost_of : Sl → Out :=
  (gSeq (gDrop (sMeth mt_check_costs "check_costs" (sRd 0) (aCons (sVar 1) aNil)))
    (gSeq (gAsg (gTup 2 (gsCons (gName 3) (gsCons (gName 4) gsNil))) (sMeth mt_usage "usage" (sRd 0) (aCons (sVar 2) aNil)))
    (gRet (sCall f_make_ratio (aCons (sCall f_dot (aCons (sVar 1) (aCons (sVar 3) aNil))) (aCons (sVar 4) aNil))))))
noncomputable def f_Task_cost_of : List D → Res D := semF 5 g_Task_cost_of
/-- self 0, plan 1, rival 2, nums 3, den 4, others 5, part 6, a 7, b 8 -/
noncomputable def b1_Task_row_between : Sl → Res D :=
  (sOp oSub (sOp oMul (sRd 8) (sRd 4)) (sOp oMul (sRd 7) (sRd 6)))
noncomputable def g_Task_row_between : Sl → Out :=
  (gSeq (gAsg (gTup 2 (gsCons (gName 3) (gsCons (gName 4) gsNil))) (sMeth mt_usage "usage" (sRd 0) (aCons (sVar 1) aNil)))
    (gSeq (gAsg (gTup 2 (gsCons (gName 5) (gsCons (gName 6) gsNil))) (sMeth mt_usage "usage" (sRd 0) (aCons (sVar 2) aNil)))
    (gRet (sUn bTup (sLst (fLc (iZip (aCons (sVar 3) (aCons (sVar 5) aNil))) (gTup 2 (gsCons (gName 7) (gsCons (gName 8) gsNil))) tYesF b1_Task_row_between [7, 8]))))))
noncomputable def f_Task_row_between : List D → Res D := semF 9 g_Task_row_between
/-- self 0 -/
noncomputable def g_Menu_plans : Sl → Out :=
  (gRetF (fLRg (aCons (sUn bLen (sUn (bFld cs_usages "usages") (sRd 0))) aNil)))
noncomputable def f_Menu_plans : List D → Res D := semF 1 g_Menu_plans
noncomputable def mt_plans : MtT := [("Menu", f_Menu_plans)]
noncomputable def mt_row_between : MtT := [("Menu", f_Task_row_between)]
/-- self 0, plan 1, rival 2 -/
noncomputable def b1_Task_rules : Sl → Res Bool :=
  (sTest (sOp oNe (sRd 2) (sRd 1)))
noncomputable def b2_Task_rules : Sl → Res D :=
  (sMeth mt_row_between "row_between" (sRd 0) (aCons (sVar 1) (aCons (sVar 2) aNil)))
noncomputable def g_Task_rules : Sl → Out :=
  (gSeq (gIf (tNot (tTru (sMeth mt_is_plan "is_plan" (sRd 0) (aCons (sVar 1) aNil)))) (gRaise "NotAPlan") gNil)
    (gRetF (fLc (iSeq (sMeth mt_plans "plans" (sRd 0) aNil)) (gName 2) b1_Task_rules b2_Task_rules [2])))
noncomputable def f_Task_rules : List D → Res D := semF 3 g_Task_rules
/-- self 0, direction 1 -/
noncomputable def g_Task_is_way : Sl → Out :=
  (gRet (sC (.bl false)))
noncomputable def f_Task_is_way : List D → Res D := semF 2 g_Task_is_way
/-- self 0, direction 1 -/
noncomputable def g_Task_drift : Sl → Out :=
  (gRaise "NotAPlan")
noncomputable def f_Task_drift : List D → Res D := semF 2 g_Task_drift
/-- self 0, width 1, usages 2, __class__ 3, row 4 -/
noncomputable def b1_Menu_init : Sl → Out :=
  (gIf (sTest (sOp oNe (sUn bLen (sRd 4)) (sRd 1))) (gRaise "BadTask") gNil)
noncomputable def g_Menu_init : GI :=
  (jSeq (jSup f_Task_init (aCons (sVar 1) aNil))
    (jSeq (jPl (gIf (tNot (sTest (sChn oLe oLe (sC (.int 1)) (sUn bLen (sRd 2)) (sC (.int 24))))) (gRaise "BadTask") gNil))
    (jSeq (jPl (gFor (iSeq (sVar 2)) (gName 4) b1_Menu_init))
    (jSeq (jFld "usages" (sUn bTup (sLst (fLc (iSeq (sVar 2)) (gName 4) tYesF (sUn bTup (sRd 4)) [4]))))
    jNil))))
noncomputable def f_Menu_init : Addr → Fl → List D → Res Fl := semI 5 g_Menu_init
/-- self 0, costs 1, prices 2, row 3 -/
noncomputable def b1_Menu_solve : Sl → Res D :=
  (sCall f_dot (aCons (sVar 1) (aCons (sVar 3) aNil)))
noncomputable def g_Menu_solve : Sl → Out :=
  (gSeq (gDrop (sMeth mt_check_costs "check_costs" (sRd 0) (aCons (sVar 1) aNil)))
    (gSeq (gSet 2 (sLst (fLc (iSeq (sUn (bFld cs_usages "usages") (sRd 0))) (gName 3) tYesF b1_Menu_solve [3])))
    (gRet (sTup (aCons (sC (.str "best")) (aCons (sIdx (sRd 2) (sUn bMin (sRd 2))) (aCons (sC .non) aNil)))))))
noncomputable def f_Menu_solve : List D → Res D := semF 4 g_Menu_solve
/-- self 0, costs 1, answer 2, price 3, row 4 -/
noncomputable def b1_Menu_judge : Sl → Res D :=
  (sOp oGe (sCall f_dot (aCons (sVar 1) (aCons (sVar 4) aNil))) (sRd 3))
noncomputable def g_Menu_judge : Sl → Out :=
  (gSeq (gDrop (sMeth mt_check_costs "check_costs" (sRd 0) (aCons (sVar 1) aNil)))
    (gSeq (gIf (tOr (tNot (tTru (sCall f_has_form (aCons (sVar 2) (aCons (sC (.str "best")) (aCons (sC (.int 3)) aNil)))))) (tOr (sTest (sOp oNotN (sOp oIx (sRd 2) (sC (.int 2))) (sC .non))) (tNot (tTru (sMeth mt_is_plan "is_plan" (sRd 0) (aCons (sOp oIx (sRd 2) (sC (.int 1))) aNil)))))) (gRet (sC (.bl false))) gNil)
    (gSeq (gSet 3 (sCall f_dot (aCons (sVar 1) (aCons (sOp oIx (sUn (bFld cs_usages "usages") (sRd 0)) (sOp oIx (sRd 2) (sC (.int 1)))) aNil))))
    (gRet (sUn bAll (sLst (fLc (iSeq (sUn (bFld cs_usages "usages") (sRd 0))) (gName 4) tYesF b1_Menu_judge [4])))))))
noncomputable def f_Menu_judge : List D → Res D := semF 5 g_Menu_judge
/-- cell 0, k 1, first 2, second 3 -/
noncomputable def g_ulaw_mix : Sl → Out :=
  (gSeq (gSet 2 (sOp oMod (sUn bIntT (sOp oAdd (sOp oAdd (sOp oMul (sRd 0) (sC (.int 48271))) (sOp oMul (sRd 1) (sC (.int 69621)))) (sC (.int 11)))) (sC (.int 2147483647))))
    (gSeq (gSet 3 (sOp oMod (sUn bIntT (sOp oAdd (sOp oAdd (sOp oMul (sRd 2) (sRd 2)) (sOp oMul (sRd 1) (sC (.int 40692)))) (sC (.int 7)))) (sC (.int 2147483399))))
    (gRet (sOp oFdiv (sOp oMod (sUn bIntT (sOp oAdd (sOp oMul (sRd 3) (sC (.int 16807))) (sRd 2))) (sC (.int 2147483587))) (sC (.int 8))))))
noncomputable def f_ulaw_mix : List D → Res D := semF 4 g_ulaw_mix
/-- script 0, at 1, many 2, cell 3, row 4, rest 5, k 6 -/
noncomputable def b1_ulaw_row : Sl → Out :=
  (gIf (tAnd (sTest (sOp oGe (sUn bAbs (sRd 3)) (sC (.int 1000000000000000000)))) (sTest (sOp oGt (sRd 5) (sC (.int 0))))) (gSeq (gApp 4 (sOp oMod (sUn bIntT (sRd 5)) (sC (.int 1009))))
    (gSet 5 (sOp oFdiv (sRd 5) (sC (.int 1009))))) (gApp 4 (sCall f_ulaw_mix (aCons (sVar 3) (aCons (sVar 6) aNil)))))
noncomputable def g_ulaw_row : Sl → Out :=
  (gSeq (gSet 3 (sVar 1))
    (gSeq (gIf (sTest (sOp oLt (sRd 1) (sUn bLen (sRd 0)))) (gSet 3 (sOp oIx (sRd 0) (sRd 1))) (gIf (sTest (sOp oGt (sUn bLen (sRd 0)) (sC (.int 0)))) (gSet 3 (sOp oAdd (sOp oIx (sRd 0) (sOp oMod (sRd 1) (sUn bLen (sRd 0)))) (sOp oMul (sC (.int 7919)) (sRd 1)))) gNil))
    (gSeq (gSetO 4 (fLst aNil))
    (gSeq (gSet 5 (sUn bAbs (sRd 3)))
    (gSeq (gFor (iRg1 (aCons (sVar 2) aNil)) (gName 6) b1_ulaw_row)
    (gRetO 4))))))
noncomputable def f_ulaw_row : List D → Res D := semF 7 g_ulaw_row
/-- value 0 -/
noncomputable def g_ulaw_is_whole : Sl → Out :=
  (gRet (sAnd (sUn (bIsi "int") (sRd 0)) (sNot (sUn (bIsi "bool") (sRd 0)))))
noncomputable def f_ulaw_is_whole : List D → Res D := semF 1 g_ulaw_is_whole
/-- value 0, size 1, num 2 -/
noncomputable def b1_ulaw_is_tuple : Sl → Res D :=
  (sCall f_ulaw_is_whole (aCons (sVar 2) aNil))
noncomputable def g_ulaw_is_tuple : Sl → Out :=
  (gRet (sAnd (sUn (bIsi "tuple") (sRd 0)) (sAnd (sOp oEq (sUn bLen (sRd 0)) (sRd 1)) (sUn bAll (sLst (fLc (iSeq (sVar 0)) (gName 2) tYesF b1_ulaw_is_tuple [2]))))))
noncomputable def f_ulaw_is_tuple : List D → Res D := semF 3 g_ulaw_is_tuple
/-- left 0, right 1, total 2, k 3 -/
noncomputable def b1_ulaw_dot : Sl → Out :=
  (gSet 2 (sOp oAdd (sRd 2) (sOp oMul (sOp oIx (sRd 0) (sRd 3)) (sOp oIx (sRd 1) (sRd 3)))))
noncomputable def g_ulaw_dot : Sl → Out :=
  (gSeq (gSet 2 (sC (.int 0)))
    (gSeq (gFor (iRg1 (aCons (sUn bLen (sRd 0)) aNil)) (gName 3) b1_ulaw_dot)
    (gRet (sVar 2))))
noncomputable def f_ulaw_dot : List D → Res D := semF 4 g_ulaw_dot
/-- first 0, second 1, mode 2 -/
noncomputable def g_ulaw_amount : Sl → Out :=
  (gSeq (gIf (sTest (sOp oEq (sRd 2) (sC (.int 0)))) (gRet (sOp oMod (sRd 0) (sC (.int 6)))) gNil)
    (gSeq (gIf (sTest (sOp oEq (sRd 2) (sC (.int 1)))) (gRet (sOp oSub (sOp oMod (sRd 0) (sC (.int 19))) (sC (.int 9)))) gNil)
    (gSeq (gIf (sTest (sOp oEq (sRd 2) (sC (.int 2)))) (gRet (sOp oMul (sOp oMod (sUn bIntT (sOp oAdd (sOp oAdd (sOp oMul (sRd 0) (sOp oPow (sC (.int 10)) (sC (.int 32)))) (sOp oMul (sRd 1) (sOp oPow (sC (.int 10)) (sC (.int 16))))) (sOp oMul (sOp oMul (sRd 0) (sRd 1)) (sC (.int 7919))))) (sOp oPow (sC (.int 10)) (sC (.int 40)))) (sOp oSub (sC (.int 1)) (sOp oMul (sC (.int 2)) (sOp oMod (sRd 1) (sC (.int 2))))))) gNil)
    (gRet (sOp oMod (sRd 0) (sC (.int 3)))))))
noncomputable def f_ulaw_amount : List D → Res D := semF 3 g_ulaw_amount
/-- cells 0, many 1, width 2, mode 3, vectors 4, j 5, vector 6, k 7, at 8 -/
noncomputable def b1_ulaw_vectors : Sl → Out :=
  (gSeq (gSet 8 (sOp oMul (sC (.int 2)) (sOp oAdd (sOp oMul (sRd 2) (sRd 5)) (sRd 7))))
    (gApp 6 (sCall f_ulaw_amount (aCons (sUn bIntT (sOp oIx (sRd 0) (sRd 8))) (aCons (sUn bIntT (sOp oIx (sRd 0) (sOp oAdd (sRd 8) (sC (.int 1))))) (aCons (sVar 3) aNil))))))
noncomputable def b2_ulaw_vectors : Sl → Out :=
  (gSeq (gSetO 6 (fLst aNil))
    (gSeq (gFor (iRg1 (aCons (sVar 2) aNil)) (gName 7) b1_ulaw_vectors)
    (gApp 4 (sUn bTup (sRd 6)))))
noncomputable def g_ulaw_vectors : Sl → Out :=
  (gSeq (gSetO 4 (fLst aNil))
    (gSeq (gFor (iRg1 (aCons (sVar 1) aNil)) (gName 5) b2_ulaw_vectors)
    (gRetO 4)))
noncomputable def f_ulaw_vectors : List D → Res D := semF 9 g_ulaw_vectors
/-- value 0, due 1 -/
noncomputable def g_ulaw_is_bool : Sl → Out :=
  (gRet (sAnd (sUn (bIsi "bool") (sRd 0)) (sOp oEq (sRd 0) (sRd 1))))
noncomputable def f_ulaw_is_bool : List D → Res D := semF 2 g_ulaw_is_bool
noncomputable def mt_cost_of : MtT := [("Menu", f_Task_cost_of)]
noncomputable def mt_solve : MtT := [("Menu", f_Menu_solve)]
noncomputable def mt_judge : MtT := [("Menu", f_Menu_judge)]
noncomputable def mt_rules : MtT := [("Menu", f_Task_rules)]
noncomputable def mt_drift : MtT := [("Menu", f_Task_drift)]
/-- way 0, menu 1, costs 2, value 3, code 4, e 5 -/
noncomputable def g_ulaw_error : Sl → Out :=
  (gSeq (gSet 4 (sC (.int 0)))
    (gSeq (gTry 5 t_CostsError (gIf (sTest (sOp oEq (sRd 0) (sC (.int 0)))) (gDrop (sMeth mt_cost_of "cost_of" (sRd 1) (aCons (sVar 2) (aCons (sVar 3) aNil)))) (gIf (sTest (sOp oEq (sRd 0) (sC (.int 1)))) (gDrop (sMeth mt_solve "solve" (sRd 1) (aCons (sVar 2) aNil))) (gIf (sTest (sOp oEq (sRd 0) (sC (.int 2)))) (gDrop (sMeth mt_judge "judge" (sRd 1) (aCons (sVar 2) (aCons (sVar 3) aNil)))) (gIf (sTest (sOp oEq (sRd 0) (sC (.int 3)))) (gDrop (sMeth mt_usage "usage" (sRd 1) (aCons (sVar 3) aNil))) (gIf (sTest (sOp oEq (sRd 0) (sC (.int 4)))) (gDrop (sMeth mt_rules "rules" (sRd 1) (aCons (sVar 3) aNil))) (gIf (sTest (sOp oEq (sRd 0) (sC (.int 5)))) (gDrop (sMeth mt_drift "drift" (sRd 1) (aCons (sVar 3) aNil))) (gDrop (sMake "Menu" f_Menu_init (aCons (sVar 2) (aCons (sVar 3) aNil)))))))))) (gSeq (gSet 4 (sOp oAdd (sOp oAdd (sOp oMul (sC (.int 4)) (sUn bIntT (sIsE 5 t_BadNumber))) (sOp oMul (sC (.int 2)) (sUn bIntT (sIsE 5 t_NotAPlan)))) (sUn bIntT (sIsE 5 t_BadTask))))
    (gSeq (gIf (tTru (sIsE 5 t_Unlied_BadPer_NoCots_BadQon_BadRge_BadSen_TooMny_BadTxt_BadNme)) (gSet 4 (sUn oNeg (sC (.int 1)))) gNil)
    (gIf (tOr (tTru (sIsE 5 t_Unknme_Staley)) (tNot (tTru (sIsE 5 t_ValueError)))) (gSet 4 (sUn oNeg (sC (.int 1)))) gNil))))
    (gRet (sVar 4))))
noncomputable def f_ulaw_error : List D → Res D := semF 6 g_ulaw_error
/-- menu 0, width 1, usages 2, plans 3, plan 4, told 5, row 6 -/
noncomputable def b1_ulaw_is_menu : Sl → Res D :=
  (sCall f_ulaw_is_tuple (aCons (sVar 6) (aCons (sVar 1) aNil)))
noncomputable def b2_ulaw_is_menu : Sl → Res D :=
  (sCall f_ulaw_is_whole (aCons (sVar 4) aNil))
noncomputable def b3_ulaw_is_menu : Sl → Out :=
  (gSeq (gSet 5 (sMeth mt_usage "usage" (sRd 0) (aCons (sVar 4) aNil)))
    (gSeq (gIf (tOr (tNot (tTru (sUn (bIsi "tuple") (sRd 5)))) (tOr (sTest (sOp oNe (sUn bLen (sRd 5)) (sC (.int 2)))) (tNot (tTru (sCall f_ulaw_is_tuple (aCons (sOp oIx (sRd 5) (sC (.int 0))) (aCons (sVar 1) aNil))))))) (gRet (sC (.bl false))) gNil)
    (gIf (tOr (sTest (sOp oNe (sRd 5) (sTup (aCons (sOp oIx (sRd 2) (sRd 4)) (aCons (sC (.int 1)) aNil))))) (tOr (tNot (tTru (sCall f_ulaw_is_whole (aCons (sOp oIx (sRd 5) (sC (.int 1))) aNil)))) (tNot (tTru (sCall f_ulaw_is_bool (aCons (sMeth mt_is_plan "is_plan" (sRd 0) (aCons (sVar 4) aNil)) (aCons (sC (.bl true)) aNil))))))) (gRet (sC (.bl false))) gNil)))
noncomputable def g_ulaw_is_menu : Sl → Out :=
  (gSeq (gIf (tOr (tNot (tTru (sUn (bIsC is_Menu) (sRd 0)))) (tOr (tNot (tTru (sUn (bIsC is_Task) (sRd 0)))) (tOr (sTest (sOp oNe (sUn (bCon tc_KIND "KIND") (sRd 0)) (sC (.str "menu")))) (sTest (sOp oNe (sUn (bCon tc_PLANS "PLANS") (sRd 0)) (sC (.int 120))))))) (gRet (sC (.bl false))) gNil)
    (gSeq (gIf (tOr (tNot (tTru (sCall f_ulaw_is_whole (aCons (sUn (bFld cs_width "width") (sRd 0)) aNil)))) (tOr (sTest (sOp oNe (sUn (bFld cs_width "width") (sRd 0)) (sRd 1))) (tNot (tTru (sUn (bIsi "tuple") (sUn (bFld cs_usages "usages") (sRd 0))))))) (gRet (sC (.bl false))) gNil)
    (gSeq (gIf (tOr (tNot (tTru (sUn bAll (sLst (fLc (iSeq (sUn (bFld cs_usages "usages") (sRd 0))) (gName 6) tYesF b1_ulaw_is_menu [6]))))) (sTest (sOp oNe (sUn (bFld cs_usages "usages") (sRd 0)) (sUn bTup (sRd 2))))) (gRet (sC (.bl false))) gNil)
    (gSeq (gSetO 3 (fMeth mt_plans "plans" (sRd 0) aNil))
    (gSeq (gIf (tLend 3 (tOr (tNot (tTru (sUn (bIsi "list") (sRd 3)))) (tNot (tTru (sUn bAll (sLst (fLc (iSeq (sVar 3)) (gName 4) tYesF b2_ulaw_is_menu [4]))))))) (gRet (sC (.bl false))) gNil)
    (gSeq (gIf (sTest (sOp oNe (sRd 3) (sLst (fLRg (aCons (sUn bLen (sRd 2)) aNil))))) (gRet (sC (.bl false))) gNil)
    (gSeq (gClr 3)
    (gSeq (gFor (iRg1 (aCons (sUn bLen (sRd 2)) aNil)) (gName 4) b3_ulaw_is_menu)
    (gRet (sOp oEq (sMeth mt_plans "plans" (sRd 0) aNil) (sLst (fLRg (aCons (sUn bLen (sRd 2)) aNil)))))))))))))
noncomputable def f_ulaw_is_menu : List D → Res D := semF 7 g_ulaw_is_menu
/-- menu 0, usages 1, costs 2, prices 3, told 4, plan 5, price 6, best 7, wrong 8, row 9, answer 10 -/
noncomputable def b1_ulaw_priced : Sl → Res D :=
  (sCall f_ulaw_dot (aCons (sVar 2) (aCons (sVar 9) aNil)))
noncomputable def b2_ulaw_priced : Sl → Out :=
  (gSeq (gSet 6 (sMeth mt_cost_of "cost_of" (sRd 0) (aCons (sVar 2) (aCons (sVar 5) aNil))))
    (gSeq (gIf (tOr (tNot (tTru (sCall f_ulaw_is_tuple (aCons (sVar 6) (aCons (sC (.int 2)) aNil))))) (sTest (sOp oNe (sRd 6) (sTup (aCons (sOp oIx (sRd 3) (sRd 5)) (aCons (sC (.int 1)) aNil)))))) (gRet (sC (.bl false))) gNil)
    (gIf (tNot (tTru (sCall f_ulaw_is_bool (aCons (sMeth mt_judge "judge" (sRd 0) (aCons (sVar 2) (aCons (sTup (aCons (sC (.str "best")) (aCons (sVar 5) (aCons (sC .non) aNil)))) aNil))) (aCons (sOp oEq (sOp oIx (sRd 3) (sRd 5)) (sUn bMin (sRd 3))) aNil))))) (gRet (sC (.bl false))) gNil)))
noncomputable def b3_ulaw_priced : Sl → Res D :=
  (sCall f_ulaw_is_bool (aCons (sMeth mt_judge "judge" (sRd 0) (aCons (sVar 2) (aCons (sVar 10) aNil))) (aCons (sC (.bl false)) aNil)))
noncomputable def g_ulaw_priced : Sl → Out :=
  (gSeq (gSet 3 (sLst (fLc (iSeq (sVar 1)) (gName 9) tYesF b1_ulaw_priced [9])))
    (gSeq (gSet 4 (sMeth mt_solve "solve" (sRd 0) (aCons (sVar 2) aNil)))
    (gSeq (gIf (tOr (tNot (tTru (sUn (bIsi "tuple") (sRd 4)))) (tOr (sTest (sOp oNe (sUn bLen (sRd 4)) (sC (.int 3)))) (tOr (sTest (sOp oNe (sOp oIx (sRd 4) (sC (.int 0))) (sC (.str "best")))) (sTest (sOp oNotN (sOp oIx (sRd 4) (sC (.int 2))) (sC .non)))))) (gRet (sC (.bl false))) gNil)
    (gSeq (gIf (tOr (tNot (tTru (sCall f_ulaw_is_whole (aCons (sOp oIx (sRd 4) (sC (.int 1))) aNil)))) (tOr (tNot (sTest (sChn oLe oLt (sC (.int 0)) (sOp oIx (sRd 4) (sC (.int 1))) (sUn bLen (sRd 1))))) (sTest (sOp oNe (sOp oIx (sRd 3) (sOp oIx (sRd 4) (sC (.int 1)))) (sUn bMin (sRd 3)))))) (gRet (sC (.bl false))) gNil)
    (gSeq (gFor (iRg1 (aCons (sUn bLen (sRd 1)) aNil)) (gName 5) b2_ulaw_priced)
    (gSeq (gSet 7 (sIdx (sRd 3) (sUn bMin (sRd 3))))
    (gSeq (gSetO 8 (fLst (aCons (sTup (aCons (sC (.str "best")) (aCons (sVar 7) (aCons (sTup aNil) aNil)))) (aCons (sTup (aCons (sC (.str "best")) (aCons (sVar 7) (aCons (sC (.int 0)) aNil)))) (aCons (sTup (aCons (sC (.str "best")) (aCons (sVar 7) aNil))) (aCons (sTup (aCons (sC (.str "best")) (aCons (sVar 7) (aCons (sC .non) (aCons (sC .non) aNil))))) (aCons (sTup (aCons (sC (.str "none")) (aCons (sC .non) aNil))) (aCons (sVar 7) (aCons (sC .non) aNil)))))))))
    (gSeq (gExt 8 (fLst (aCons (sTup (aCons (sC (.str "open")) (aCons (sVar 7) (aCons (sC .non) aNil)))) (aCons (sTup (aCons (sC (.str "Best")) (aCons (sVar 7) (aCons (sC .non) aNil)))) (aCons (sTup (aCons (sVar 7) (aCons (sC (.str "best")) (aCons (sC .non) aNil)))) (aCons (sC (.str "best")) (aCons (sTup aNil) (aCons (sTup (aCons (sC (.str "best")) (aCons (sTup (aCons (sVar 7) aNil)) (aCons (sC .non) aNil)))) aNil))))))))
    (gSeq (gExt 8 (fLst (aCons (sTup (aCons (sC (.str "none")) (aCons (sVar 7) (aCons (sC .non) aNil)))) (aCons (sTup (aCons (sC (.str "best")) (aCons (sC .non) (aCons (sC .non) aNil)))) (aCons (sTup (aCons (sTup (aCons (sC (.str "best")) (aCons (sVar 7) (aCons (sC .non) aNil)))) aNil)) (aCons (sTup (aCons (sC (.str "best")) (aCons (sC (.str "")) (aCons (sC .non) aNil)))) aNil))))))
    (gFrz 8 (gRet (sUn bAll (sLst (fLc (iSeq (sVar 8)) (gName 10) tYesF b3_ulaw_priced [10]))))))))))))))
noncomputable def f_ulaw_priced : List D → Res D := semF 11 g_ulaw_priced
/-- menu 0, usages 1, plan 2, many_costs 3, rows 4, costs 5, best 6, row 7 -/
noncomputable def b1_ulaw_ruled : Sl → Res D :=
  (sCall f_ulaw_is_tuple (aCons (sVar 7) (aCons (sUn bLen (sOp oIx (sRd 1) (sC (.int 0)))) aNil)))
noncomputable def b2_ulaw_ruled : Sl → Res D :=
  (sOp oGe (sCall f_ulaw_dot (aCons (sVar 5) (aCons (sVar 7) aNil))) (sCall f_ulaw_dot (aCons (sVar 5) (aCons (sOp oIx (sRd 1) (sRd 2)) aNil))))
noncomputable def b3_ulaw_ruled : Sl → Res D :=
  (sOp oGe (sCall f_ulaw_dot (aCons (sVar 5) (aCons (sVar 7) aNil))) (sC (.int 0)))
noncomputable def b4_ulaw_ruled : Sl → Out :=
  (gSeq (gSet 6 (sUn bAll (sLst (fLc (iSeq (sVar 1)) (gName 7) tYesF b2_ulaw_ruled [7]))))
    (gIf (sTest (sOp oNe (sRd 6) (sUn bAll (sLst (fLc (iSeq (sVar 4)) (gName 7) tYesF b3_ulaw_ruled [7]))))) (gRet (sC (.bl false))) gNil))
noncomputable def g_ulaw_ruled : Sl → Out :=
  (gSeq (gSet 4 (sMeth mt_rules "rules" (sRd 0) (aCons (sVar 2) aNil)))
    (gSeq (gIf (tOr (tNot (tTru (sUn (bIsi "list") (sRd 4)))) (tNot (tTru (sUn bAll (sLst (fLc (iSeq (sVar 4)) (gName 7) tYesF b1_ulaw_ruled [7])))))) (gRet (sC (.bl false))) gNil)
    (gSeq (gFor (iSeq (sVar 3)) (gName 5) b4_ulaw_ruled)
    (gRet (sC (.bl true))))))
noncomputable def f_ulaw_ruled : List D → Res D := semF 8 g_ulaw_ruled
noncomputable def mt_is_way : MtT := [("Menu", f_Task_is_way)]
/-- menu 0, usages 1, costs 2, many 3, width 4, value 5, wrong 6, way 7, direction 8 -/
noncomputable def b1_ulaw_refuses : Sl → Out :=
  (gSeq (gIf (tNot (tTru (sCall f_ulaw_is_bool (aCons (sMeth mt_is_plan "is_plan" (sRd 0) (aCons (sVar 5) aNil)) (aCons (sC (.bl false)) aNil))))) (gRet (sC (.bl false))) gNil)
    (gSeq (gIf (tNot (tTru (sCall f_ulaw_is_bool (aCons (sMeth mt_judge "judge" (sRd 0) (aCons (sVar 2) (aCons (sTup (aCons (sC (.str "best")) (aCons (sVar 5) (aCons (sC .non) aNil)))) aNil))) (aCons (sC (.bl false)) aNil))))) (gRet (sC (.bl false))) gNil)
    (gSeq (gIf (tOr (sTest (sOp oNe (sCall f_ulaw_error (aCons (sC (.int 3)) (aCons (sVar 0) (aCons (sVar 2) (aCons (sVar 5) aNil))))) (sC (.int 2)))) (sTest (sOp oNe (sCall f_ulaw_error (aCons (sC (.int 4)) (aCons (sVar 0) (aCons (sVar 2) (aCons (sVar 5) aNil))))) (sC (.int 2))))) (gRet (sC (.bl false))) gNil)
    (gIf (tOr (sTest (sOp oNe (sCall f_ulaw_error (aCons (sC (.int 0)) (aCons (sVar 0) (aCons (sVar 2) (aCons (sVar 5) aNil))))) (sC (.int 2)))) (sTest (sOp oNe (sCall f_ulaw_error (aCons (sC (.int 0)) (aCons (sVar 0) (aCons (sOp oAdd (sRd 2) (sTup (aCons (sC (.int 1)) aNil))) (aCons (sVar 5) aNil))))) (sC (.int 4))))) (gRet (sC (.bl false))) gNil))))
noncomputable def b2_ulaw_refuses : Sl → Out :=
  (gIf (tOr (sTest (sOp oNe (sCall f_ulaw_error (aCons (sVar 7) (aCons (sVar 0) (aCons (sVar 6) (aCons (sC (.int 0)) aNil))))) (sC (.int 4)))) (sTest (sOp oNe (sCall f_ulaw_error (aCons (sVar 7) (aCons (sVar 0) (aCons (sVar 6) (aCons (sTup (aCons (sC (.str "best")) (aCons (sC (.int 0)) (aCons (sC .non) aNil)))) aNil))))) (sC (.int 4))))) (gRet (sC (.bl false))) gNil)
noncomputable def b3_ulaw_refuses : Sl → Out :=
  (gFor (iSeq (sLst (fLst (aCons (sC (.int 0)) (aCons (sC (.int 1)) (aCons (sC (.int 2)) aNil)))))) (gName 7) b2_ulaw_refuses)
noncomputable def b4_ulaw_refuses : Sl → Out :=
  (gIf (tOr (tNot (tTru (sCall f_ulaw_is_bool (aCons (sMeth mt_is_way "is_way" (sRd 0) (aCons (sVar 8) aNil)) (aCons (sC (.bl false)) aNil))))) (sTest (sOp oNe (sCall f_ulaw_error (aCons (sC (.int 5)) (aCons (sVar 0) (aCons (sVar 2) (aCons (sVar 8) aNil))))) (sC (.int 2))))) (gRet (sC (.bl false))) gNil)
noncomputable def g_ulaw_refuses : Sl → Out :=
  (gSeq (gPar 3 4 (sUn bLen (sRd 1)) (sUn bLen (sOp oIx (sRd 1) (sC (.int 0)))))
    (gSeq (gFor (iSeq (sLst (fLst (aCons (sUn oNeg (sC (.int 1))) (aCons (sVar 3) (aCons (sOp oAdd (sRd 3) (sC (.int 24))) (aCons (sUn oNeg (sRd 3)) (aCons (sOp oPow (sC (.int 10)) (sC (.int 20))) (aCons (sC .non) (aCons (sC (.str "0")) (aCons (sC (.str "best")) (aCons (sTup aNil) (aCons (sTup (aCons (sC (.int 0)) aNil)) (aCons (sTup (aCons (sC (.int 0)) (aCons (sC (.int 1)) aNil))) aNil)))))))))))))) (gName 5) b1_ulaw_refuses)
    (gSeq (gFor (iSeq (sLst (fLst (aCons (sOp oAdd (sRd 2) (sTup (aCons (sC (.int 0)) aNil))) (aCons (sSl (sRd 2) (pSome (sC (.int 1))) pNone) aNil))))) (gName 6) b3_ulaw_refuses)
    (gSeq (gFor (iSeq (sLst (fLst (aCons (sOp oMulT (sTup (aCons (sC (.int 0)) aNil)) (sRd 4)) (aCons (sOp oMulT (sTup (aCons (sC (.int 1)) aNil)) (sRd 4)) (aCons (sOp oIx (sRd 1) (sC (.int 0))) (aCons (sTup aNil) (aCons (sOp oMulT (sTup (aCons (sC (.int 0)) aNil)) (sRd 3)) (aCons (sTup (aCons (sC (.int 0)) aNil)) (aCons (sC .non) (aCons (sC (.int 0)) (aCons (sC (.str "way")) aNil)))))))))))) (gName 8) b4_ulaw_refuses)
    (gRet (sC (.bl true)))))))
noncomputable def f_ulaw_refuses : List D → Res D := semF 9 g_ulaw_refuses
/-- usages 0, width 1, turns 2, place 3, short 4, wide 5, rows 6 -/
noncomputable def b1_ulaw_barred : Sl → Out :=
  (gIf (sTest (sOp oNe (sCall f_ulaw_error (aCons (sC (.int 6)) (aCons (sC .non) (aCons (sVar 1) (aCons (sLst (fUn bLst (sRd 6))) aNil))))) (sC (.int 1)))) (gRet (sC (.bl false))) gNil)
noncomputable def g_ulaw_barred : Sl → Out :=
  (gSeq (gSet 3 (sOp oMod (sUn bIntT (sOp oIx (sRd 2) (sC (.int 0)))) (sUn bLen (sRd 0))))
    (gSeq (gSet 4 (sLst (fOp fCat (sLst (fOp fCat (sSl (sRd 0) pNone (pSome (sVar 3))) (sLst (fLst (aCons (sSl (sOp oIx (sRd 0) (sRd 3)) (pSome (sC (.int 1))) pNone) aNil))))) (sSl (sRd 0) (pSome (sOp oAdd (sRd 3) (sC (.int 1)))) pNone))))
    (gSeq (gSet 5 (sLst (fOp fCat (sLst (fOp fCat (sSl (sRd 0) pNone (pSome (sVar 3))) (sLst (fLst (aCons (sOp oAdd (sOp oIx (sRd 0) (sRd 3)) (sTup (aCons (sC (.int 0)) aNil))) aNil))))) (sSl (sRd 0) (pSome (sOp oAdd (sRd 3) (sC (.int 1)))) pNone))))
    (gSeq (gFor (iSeq (sLst (fLst (aCons (sVar 4) (aCons (sVar 5) (aCons (sLst (fLst aNil)) (aCons (sLst (fOp fRep (sSl (sRd 0) pNone (pSome (sC (.int 1)))) (sC (.int 25)))) aNil))))))) (gName 6) b1_ulaw_barred)
    (gSeq (gIf (tOr (sTest (sOp oNe (sCall f_ulaw_error (aCons (sC (.int 6)) (aCons (sC .non) (aCons (sC (.int 0)) (aCons (sLst (fLst (aCons (sTup aNil) aNil))) aNil))))) (sC (.int 1)))) (sTest (sOp oNe (sCall f_ulaw_error (aCons (sC (.int 6)) (aCons (sC .non) (aCons (sC (.int 9)) (aCons (sLst (fLst (aCons (sOp oMulT (sTup (aCons (sC (.int 1)) aNil)) (sC (.int 9))) (aCons (sOp oMulT (sTup (aCons (sC (.int 0)) aNil)) (sC (.int 9))) aNil)))) aNil))))) (sC (.int 1))))) (gRet (sC (.bl false))) gNil)
    (gRet (sAnd (sOp oEq (sCall f_ulaw_error (aCons (sC (.int 6)) (aCons (sC .non) (aCons (sOp oAdd (sRd 1) (sC (.int 1))) (aCons (sLst (fUn bLst (sRd 0))) aNil))))) (sC (.int 1))) (sOp oEq (sCall f_ulaw_error (aCons (sC (.int 6)) (aCons (sC .non) (aCons (sVar 1) (aCons (sLst (fOp fRep (sSl (sRd 0) pNone (pSome (sC (.int 1)))) (sC (.int 24)))) aNil))))) (sC (.int 0))))))))))
noncomputable def f_ulaw_barred : List D → Res D := semF 7 g_ulaw_barred
/-- script 0, turns 1, width 2, many 3, usages 4, costs 5, given 6, menu 7, turned 8, other 9, first 10, second 11, gap 12, unit 13, back 14, wide 15, nums 16, plan 17, k 18, num 19 -/
noncomputable def b1_law : Sl → Res D :=
  (sOp oSub (sOp oIx (sOp oIx (sRd 4) (sRd 10)) (sRd 18)) (sOp oIx (sOp oIx (sRd 4) (sRd 11)) (sRd 18)))
noncomputable def b2_law : Sl → Res D :=
  (sUn bIntT (sOp oEq (sRd 18) (sOp oMod (sUn bIntT (sOp oIx (sRd 1) (sC (.int 6)))) (sRd 2))))
noncomputable def b3_law : Sl → Out :=
  (gIf (tNot (tTru (sCall f_ulaw_priced (aCons (sVar 7) (aCons (sVar 4) (aCons (sVar 16) aNil)))))) (gRet (sC (.bl false))) gNil)
noncomputable def b4_law : Sl → Out :=
  (gIf (tOr (tNot (tTru (sCall f_ulaw_ruled (aCons (sVar 7) (aCons (sVar 4) (aCons (sVar 17) (aCons (sVar 15) aNil))))))) (tNot (tTru (sCall f_ulaw_ruled (aCons (sVar 9) (aCons (sVar 8) (aCons (sVar 17) (aCons (sVar 15) aNil)))))))) (gRet (sC (.bl false))) gNil)
noncomputable def g_law : Sl → Out :=
  (gSeq (gSet 1 (sCall f_ulaw_row (aCons (sVar 0) (aCons (sC (.int 0)) (aCons (sC (.int 10)) aNil)))))
    (gSeq (gSet 2 (sOp oIx (sLst (fLst (aCons (sC (.int 1)) (aCons (sC (.int 8)) (aCons (sC (.int 2)) (aCons (sC (.int 3)) (aCons (sOp oAdd (sC (.int 1)) (sOp oMod (sOp oFdiv (sUn bIntT (sOp oIx (sRd 1) (sC (.int 0)))) (sC (.int 5))) (sC (.int 8)))) aNil))))))) (sOp oMod (sUn bIntT (sOp oIx (sRd 1) (sC (.int 0)))) (sC (.int 5)))))
    (gSeq (gSet 3 (sOp oIx (sLst (fLst (aCons (sC (.int 24)) (aCons (sC (.int 1)) (aCons (sC (.int 2)) (aCons (sOp oAdd (sC (.int 3)) (sOp oMod (sOp oFdiv (sUn bIntT (sOp oIx (sRd 1) (sC (.int 1)))) (sC (.int 5))) (sC (.int 4)))) (aCons (sOp oAdd (sC (.int 1)) (sOp oMod (sOp oFdiv (sUn bIntT (sOp oIx (sRd 1) (sC (.int 1)))) (sC (.int 5))) (sC (.int 24)))) aNil))))))) (sOp oMod (sUn bIntT (sOp oIx (sRd 1) (sC (.int 1)))) (sC (.int 5)))))
    (gSeq (gSet 4 (sCall f_ulaw_vectors (aCons (sCall f_ulaw_row (aCons (sVar 0) (aCons (sC (.int 1)) (aCons (sOp oMul (sOp oMul (sC (.int 2)) (sC (.int 24))) (sC (.int 8))) aNil)))) (aCons (sVar 3) (aCons (sVar 2) (aCons (sOp oMod (sUn bIntT (sOp oIx (sRd 1) (sC (.int 2)))) (sC (.int 4))) aNil))))))
    (gSeq (gSet 5 (sOp oIx (sCall f_ulaw_vectors (aCons (sCall f_ulaw_row (aCons (sVar 0) (aCons (sC (.int 2)) (aCons (sC (.int 16)) aNil)))) (aCons (sC (.int 1)) (aCons (sVar 2) (aCons (sOp oMod (sUn bIntT (sOp oIx (sRd 1) (sC (.int 3)))) (sC (.int 3))) aNil))))) (sC (.int 0))))
    (gSeq (gSetO 6 (fUn bLst (sRd 4)))
    (gSeq (gSet 7 (sLend 6 (sMake "Menu" f_Menu_init (aCons (sVar 2) (aCons (sVar 6) aNil)))))
    (gSeq (gSet 8 (sLst (fRev (sRd 4))))
    (gSeq (gSet 9 (sMake "Menu" f_Menu_init (aCons (sVar 2) (aCons (sLst (fUn bLst (sRd 8))) aNil))))
    (gSeq (gSto 6 (sC (.int 0)) (sOp oMulT (sTup (aCons (sC (.int 5)) aNil)) (sRd 2)))
    (gSeq (gApp 6 (sOp oMulT (sTup (aCons (sC (.int 0)) aNil)) (sRd 2)))
    (gSeq (gAsg (gTup 2 (gsCons (gName 10) (gsCons (gName 11) gsNil))) (sTup (aCons (sOp oMod (sUn bIntT (sOp oIx (sRd 1) (sC (.int 4)))) (sRd 3)) (aCons (sOp oMod (sUn bIntT (sOp oIx (sRd 1) (sC (.int 5)))) (sRd 3)) aNil))))
    (gSeq (gSet 12 (sUn bTup (sLst (fLc (iRg1 (aCons (sVar 2) aNil)) (gName 18) tYesF b1_law [18]))))
    (gSeq (gSet 13 (sUn bTup (sLst (fLc (iRg1 (aCons (sVar 2) aNil)) (gName 18) tYesF b2_law [18]))))
    (gSeq (gSet 14 (sUn bTup (sLst (fLc (iSeq (sVar 5)) (gName 19) tYesF (sUn oNeg (sRd 19)) [19]))))
    (gSeq (gSet 15 (sLst (fLst (aCons (sVar 5) (aCons (sOp oMulT (sTup (aCons (sC (.int 0)) aNil)) (sRd 2)) (aCons (sVar 13) (aCons (sVar 12) (aCons (sUn bTup (sLst (fLc (iSeq (sVar 12)) (gName 19) tYesF (sUn oNeg (sRd 19)) [19]))) (aCons (sVar 14) aNil)))))))))
    (gSeq (gIf (tOr (sTest (sOp oNe (sC (.int 120)) (sC (.int 120)))) (tOr (tNot (tTru (sCall f_ulaw_is_menu (aCons (sVar 7) (aCons (sVar 2) (aCons (sVar 4) aNil)))))) (tNot (tTru (sCall f_ulaw_is_menu (aCons (sVar 9) (aCons (sVar 2) (aCons (sVar 8) aNil)))))))) (gRet (sC (.bl false))) gNil)
    (gSeq (gFor (iSeq (sVar 15)) (gName 16) b3_law)
    (gSeq (gIf (tOr (tNot (tTru (sCall f_ulaw_priced (aCons (sVar 9) (aCons (sVar 8) (aCons (sVar 5) aNil)))))) (tNot (tTru (sCall f_ulaw_priced (aCons (sVar 9) (aCons (sVar 8) (aCons (sVar 12) aNil))))))) (gRet (sC (.bl false))) gNil)
    (gSeq (gFor (iSeq (sLst (fLst (aCons (sVar 10) (aCons (sVar 11) (aCons (sOp oSub (sRd 3) (sC (.int 1))) aNil)))))) (gName 17) b4_law)
    (gSeq (gIf (tOr (tNot (tTru (sCall f_ulaw_refuses (aCons (sVar 7) (aCons (sVar 4) (aCons (sVar 5) aNil)))))) (tNot (tTru (sCall f_ulaw_barred (aCons (sVar 4) (aCons (sVar 2) (aCons (sSl (sRd 1) (pSome (sC (.int 7))) pNone) aNil))))))) (gRet (sC (.bl false))) gNil)
    (gRet (sAnd (sCall f_ulaw_is_menu (aCons (sVar 7) (aCons (sVar 2) (aCons (sVar 4) aNil)))) (sCall f_ulaw_priced (aCons (sVar 7) (aCons (sVar 4) (aCons (sVar 5) aNil)))))))))))))))))))))))))))
noncomputable def f_law : List D → Res D := semF 20 g_law
end S_k11

set_option Elab.async false
set_option linter.all false
set_option maxRecDepth 100000
set_option maxHeartbeats 4000000
/-! Lemmas for the plain laws: sizes, equality of data, Euclid. -/
namespace ML
open PySem L2 PF

theorem mulOk_r {i j : Int} (h : j.natAbs < 18446744073709551616) : mulOk i j = true := cb_t (.inr (.inr h))
theorem mulOk_l {i j : Int} (h : i.natAbs < 18446744073709551616) : mulOk i j = true := cb_t (.inr (.inl h))
theorem mulOk_b {i j : Int} {a b : Nat} (ha : i.natAbs < 2 ^ a) (hb : j.natAbs < 2 ^ b) (h : a + b ≤ 134217728) : mulOk i j = true := by
  have h1 := PyProof.Rows.intBits_le ha
  have h2 := PyProof.Rows.intBits_le hb
  exact cb_t (.inl (by omega))
theorem divOk_b {j : Int} {b : Nat} (h0 : j ≠ 0) (hb : j.natAbs < 2 ^ b) (h : b ≤ 9000) : divOk j = true := by
  refine cb_t ⟨h0, ?_⟩
  have h1 : j.natAbs ≠ 0 := by omega
  have h2 := Nat.log2_self_le h1
  have h3 : 2 ^ j.natAbs.log2 < 2 ^ b := Nat.lt_of_le_of_lt h2 hb
  have h4 := (Nat.pow_lt_pow_iff_right (by decide : 1 < 2)).mp h3
  omega
theorem divOk_s {j : Int} (h0 : j ≠ 0) (hb : j.natAbs < 18446744073709551616) : divOk j = true := divOk_b (b := 64) h0 hb (by decide)
theorem bits_lt (n : Int) : n.natAbs < 2 ^ (Builtin.Int.intBits n) := by
  unfold Builtin.Int.intBits
  split
  · rename_i h
    simp at h
    subst h
    decide
  · exact Nat.lt_log2_self
@[simp] theorem cb_True : cb True = true := cb_t trivial
@[simp] theorem cb_False : cb False = false := cb_f id
/-! ### sums and products stay below powers of two -/
theorem b_mul {i j : Int} {a b : Nat} (ha : i.natAbs < 2 ^ a) (hb : j.natAbs < 2 ^ b) : (i * j).natAbs < 2 ^ (a + b) := by
  rw [Int.natAbs_mul, Nat.pow_add]
  exact Nat.mul_lt_mul'' ha hb
theorem b_add {i j : Int} {a : Nat} (ha : i.natAbs < 2 ^ a) (hb : j.natAbs < 2 ^ a) : (i + j).natAbs < 2 ^ (a + 1) := by
  rw [Nat.pow_succ]
  omega
theorem b_sub {i j : Int} {a : Nat} (ha : i.natAbs < 2 ^ a) (hb : j.natAbs < 2 ^ a) : (i - j).natAbs < 2 ^ (a + 1) := by
  rw [Nat.pow_succ]
  omega
theorem b_up {i : Int} {a b : Nat} (ha : i.natAbs < 2 ^ a) (h : a ≤ b) : i.natAbs < 2 ^ b := Nat.lt_of_lt_of_le ha (Nat.pow_le_pow_right (by decide) h)
theorem b_neg {i : Int} {a : Nat} (ha : i.natAbs < 2 ^ a) : (-i).natAbs < 2 ^ a := by rw [Int.natAbs_neg]; exact ha

/-! ### equality of data -/
@[simp] theorem eqv_int (i j : Int) : eqv (.int i) (.int j) = (i == j) := by simp [eqv, D.py, PyData.eqv]
theorem sh_of {d : D} (h1 : d.py.canLay0 = true) (h2 : d.py.depth ≤ 64) : eqOk d = true := by
  unfold eqOk SeqAt.shaped
  rw [h1]
  simp [h2]
@[simp] theorem eqOk_int (i : Int) : eqOk (.int i) = true := sh_of (by simp [D.py, PyData.canLay0]) (by simp [D.py, PyData.depth])
@[simp] theorem eqOk_bl (i : Bool) : eqOk (.bl i) = true := sh_of (by simp [D.py, PyData.canLay0]) (by simp [D.py, PyData.depth])
@[simp] theorem eqOk_non : eqOk .non = true := sh_of (by simp [D.py, PyData.canLay0]) (by simp [D.py, PyData.depth])
theorem pyA_ints : ∀ ns : List Int, D.pyA (ns.map D.int) = ns.map PyData.int
  | [] => rfl
  | n :: ns => by simp [D.pyA, D.py, pyA_ints ns]
theorem lay_ints : ∀ ns : List Int, PyData.canLayAll0 (ns.map PyData.int) = true
  | [] => by simp [PyData.canLayAll0]
  | n :: ns => by simp [PyData.canLayAll0, PyData.canLay0, lay_ints ns]
theorem dep_ints : ∀ ns : List Int, PyData.depthAll (ns.map PyData.int) = 0
  | [] => by simp [PyData.depthAll]
  | n :: ns => by simp [PyData.depthAll, PyData.depth, dep_ints ns]
@[simp] theorem eqOk_ints (ns : List Int) : eqOk (.tup (ns.map D.int)) = true := sh_of (by simp [D.py, PyData.canLay0, pyA_ints, lay_ints]) (by simp [D.py, PyData.depth, pyA_ints, dep_ints])
@[simp] theorem eqOk_two (i j : Int) : eqOk (.tup [.int i, .int j]) = true := eqOk_ints [i, j]
@[simp] theorem eqv_two (i j k l : Int) : eqv (.tup [.int i, .int j]) (.tup [.int k, .int l]) = (i == k && j == l) := by simp [eqv, D.py, D.pyA, PyData.eqv, PyData.eqvAll]

/-! ### Euclid's division as the laws do it -/
theorem half_rest {b r : Nat} (h0 : 0 < r) (h : r < b) : 2 * (b % r) < b := by
  have h1 := Nat.mod_lt b h0
  by_cases c : 2 * r ≤ b
  · omega
  · have e : b % r = b - r := by
      rw [Nat.mod_eq_sub_mod (Nat.le_of_lt h), Nat.mod_eq_of_lt (by omega)]
    omega
theorem fmod_nat (a b : Nat) : Int.fmod (a : Int) (b : Int) = ((a % b : Nat) : Int) := by
  rw [Int.fmod_eq_emod_of_nonneg _ (Int.natCast_nonneg b)]
  exact (Int.natCast_emod a b).symm
theorem abs_nat (i : Int) : (if i < 0 then -i else i) = (i.natAbs : Int) := by
  split <;> omega
/-! ### loops -/
theorem for_inv {g : FG} {body : Sl → Out} (P : List D → Sl → Prop) (step : ∀ d ds ρ, P (d :: ds) ρ → ∃ ρ1, g d ρ = some ρ1 ∧ ∃ ρ2, (body ρ1 = .nx ρ2 ∨ body ρ1 = .ct ρ2) ∧ P ds ρ2) : ∀ ds ρ, P ds ρ → ∃ ρ', forRun g body ds ρ = .nx ρ' ∧ P [] ρ'
  | [], ρ, h => ⟨ρ, rfl, h⟩
  | d :: ds, ρ, h => by
    obtain ⟨ρ1, h1, ρ2, h2, h3⟩ := step d ds ρ h
    obtain ⟨ρ3, h4, h5⟩ := for_inv P step ds ρ2 h3
    refine ⟨ρ3, ?_, h5⟩
    rcases h2 with h2 | h2 <;> simp only [forRun, h1, h2] <;> exact h4
theorem rngD_ints (lo : Int) (n : Nat) : rngD lo n = ((List.range n).map fun (k : Nat) => lo + (k : Int)).map D.int := by simp [rngD]
theorem atI_nat {xs : List D} {i : Int} {k : Nat} (h : i = (k : Int)) (hk : k < xs.length) : atI xs i = some xs[k] := by
  have e : ixN xs.length i = some k := by
    unfold ixN
    subst h
    simp [hk]
  unfold atI
  rw [e]
  exact List.getElem?_eq_getElem hk
theorem nth_ints (ns : List Int) (k : Nat) (h : k < (ns.map D.int).length) : (ns.map D.int)[k] = .int (ns[k]'(by simpa using h)) := by simp
theorem atI_ints {ns : List Int} {i : Int} (h0 : 0 ≤ i) (h1 : i < ns.length) : ∃ z, atI (ns.map D.int) i = some (.int z) := by
  obtain ⟨k, rfl⟩ := Int.eq_ofNat_of_zero_le h0
  have hk : k < (ns.map D.int).length := by simp; omega
  exact ⟨_, by rw [atI_nat rfl hk, nth_ints]⟩
theorem rng1_ok {n : Nat} (h : n ≤ 1000000) : gRng1 [.int (n : Int)] = .ok (rngD 0 n) := by
  have hg : cb (-(2 ^ 62) ≤ (n : Int) ∧ (n : Int) < 2 ^ 62) = true := cb_t (by constructor <;> omega)
  unfold gRng1
  simp only [hg, if_true, Int.toNat_natCast]
theorem seq_nx {g h : Sl → Out} {ρ ρ' : Sl} (e : g ρ = .nx ρ') : gSeq g h ρ = h ρ' := by simp only [gSeq, e]
theorem seq_nx2 {g1 g2 h : Sl → Out} {ρ ρ' : Sl} (e : gSeq g1 g2 ρ = .nx ρ') : gSeq g1 (gSeq g2 h) ρ = h ρ' := by
  unfold gSeq at e ⊢
  cases e1 : g1 ρ with
  | nx a => rw [e1] at e; simp only [gSeq] at e ⊢; rw [e]
  | _ => rw [e1] at e; cases e
theorem semF_ret {n : Nat} {g : Sl → Out} {ds : List D} {d : D} (h : g (ds.map Cell.v ++ List.replicate (n - ds.length) .e) = .ret d) : semF n g ds = .ok d := by
  unfold semF
  rw [h]
@[simp] theorem atI_zero (x : D) (xs : List D) : atI (x :: xs) 0 = some x := atI_nat (xs := x :: xs) (k := 0) rfl (by simp)
@[simp] theorem atI_one (x y : D) (xs : List D) : atI (x :: y :: xs) 1 = some y := atI_nat (xs := x :: y :: xs) (k := 1) rfl (by simp)
@[simp] theorem atI_two (x y z : D) (xs : List D) : atI (x :: y :: z :: xs) 2 = some z := atI_nat (xs := x :: y :: z :: xs) (k := 2) rfl (by simp)
@[simp] theorem atI_three (x y z u : D) (xs : List D) : atI (x :: y :: z :: u :: xs) 3 = some u := atI_nat (xs := x :: y :: z :: u :: xs) (k := 3) rfl (by simp)
theorem cut_ints (ns : List Int) (lo hi : Option Int) : ∃ ms : List Int, cutD (ns.map D.int) lo hi = ms.map D.int := ⟨_, by
  unfold cutD
  rw [← List.map_drop, ← List.map_take]⟩
theorem pow_ok {i : Int} {k : Nat} (h : i.natAbs < 2 ^ 64) (hk : k ≤ 1000000) : cb (0 ≤ (k : Int) ∧ (k : Int) ≤ 1000000 ∧ i.natAbs < 2 ^ 64) = true := cb_t ⟨by omega, by omega, h⟩
theorem eq_zero_b (i : Int) : (i == 0) = decide (i = 0) := by by_cases h : i = 0 <;> simp [h]
@[simp] theorem kb_int_int : kitB "int" "int" = some true := by decide +kernel
@[simp] theorem kb_int_bool : kitB "int" "bool" = some false := by decide +kernel
@[simp] theorem kb_int_tuple : kitB "int" "tuple" = some false := by decide +kernel
@[simp] theorem kb_int_list : kitB "int" "list" = some false := by decide +kernel
@[simp] theorem kb_int_str : kitB "int" "str" = some false := by decide +kernel
@[simp] theorem kb_bool_int : kitB "bool" "int" = some true := by decide +kernel
@[simp] theorem kb_bool_bool : kitB "bool" "bool" = some true := by decide +kernel
@[simp] theorem kb_bool_tuple : kitB "bool" "tuple" = some false := by decide +kernel
@[simp] theorem kb_bool_list : kitB "bool" "list" = some false := by decide +kernel
@[simp] theorem kb_bool_str : kitB "bool" "str" = some false := by decide +kernel
@[simp] theorem kb_tuple_int : kitB "tuple" "int" = some false := by decide +kernel
@[simp] theorem kb_tuple_bool : kitB "tuple" "bool" = some false := by decide +kernel
@[simp] theorem kb_tuple_tuple : kitB "tuple" "tuple" = some true := by decide +kernel
@[simp] theorem kb_tuple_list : kitB "tuple" "list" = some false := by decide +kernel
@[simp] theorem kb_tuple_str : kitB "tuple" "str" = some false := by decide +kernel
@[simp] theorem kb_list_int : kitB "list" "int" = some false := by decide +kernel
@[simp] theorem kb_list_bool : kitB "list" "bool" = some false := by decide +kernel
@[simp] theorem kb_list_tuple : kitB "list" "tuple" = some false := by decide +kernel
@[simp] theorem kb_list_list : kitB "list" "list" = some true := by decide +kernel
@[simp] theorem kb_list_str : kitB "list" "str" = some false := by decide +kernel
@[simp] theorem kb_str_int : kitB "str" "int" = some false := by decide +kernel
@[simp] theorem kb_str_bool : kitB "str" "bool" = some false := by decide +kernel
@[simp] theorem kb_str_tuple : kitB "str" "tuple" = some false := by decide +kernel
@[simp] theorem kb_str_list : kitB "str" "list" = some false := by decide +kernel
@[simp] theorem kb_str_str : kitB "str" "str" = some true := by decide +kernel
@[simp] theorem kb_NoneType_int : kitB "NoneType" "int" = some false := by decide +kernel
@[simp] theorem kb_NoneType_bool : kitB "NoneType" "bool" = some false := by decide +kernel
@[simp] theorem kb_NoneType_tuple : kitB "NoneType" "tuple" = some false := by decide +kernel
@[simp] theorem kb_NoneType_list : kitB "NoneType" "list" = some false := by decide +kernel
@[simp] theorem kb_NoneType_str : kitB "NoneType" "str" = some false := by decide +kernel
/-! ### comprehensions over ints -/
theorem lc_ints' (i : Nat) (f : Sl → Res D) (h : Int → Int) (ρ : Sl) : ∀ (ns acc : List Int), (∀ n ∈ ns, f (ρ.set i (.v (.int n))) = .ok (.int (h n))) → acc.length + ns.length ≤ 100000 → lcRun (PF.gName i) tYesF f ρ (ns.map D.int) (acc.map D.int) = .ok ((acc ++ ns.map h).map D.int)
  | [], acc, _, _ => by simp [lcRun]
  | n :: ns, acc, hf, hl => by
    have e1 := hf n (by simp)
    have hlt : (acc.map D.int).length < 16777216 := by simp at hl ⊢; omega
    have ih := lc_ints' i f h ρ ns (acc ++ [h n]) (fun m hm => hf m (by simp [hm])) (by simp at hl ⊢; omega)
    rw [List.map_cons]
    unfold lcRun
    simp only [PF.gName, tYesF, Res.nx, Res.bind_ok, if_true, e1, hlt]
    simpa using ih
theorem lc_ints (i : Nat) (f : Sl → Res D) (h : Int → Int) (ρ : Sl) (ns : List Int) (hf : ∀ n ∈ ns, f (ρ.set i (.v (.int n))) = .ok (.int (h n))) (hl : ns.length ≤ 100000) : lcRun (PF.gName i) tYesF f ρ (ns.map D.int) [] = .ok ((ns.map h).map D.int) := by
  have := lc_ints' i f h ρ ns [] hf (by simpa using hl)
  simpa using this
/-! ### the greatest common part of a list -/
def G (p : Nat) : List Int → Nat
  | [] => p
  | n :: ns => G (Nat.gcd p n.natAbs) ns
def Bd (k : Nat) (ns : List Int) : Prop := ∀ n ∈ ns, n.natAbs < 2 ^ k
theorem b_gcd {p q k : Nat} (hp : p < 2 ^ k) (hq : q < 2 ^ k) : Nat.gcd p q < 2 ^ k := by
  by_cases h : p = 0
  · subst h; simpa using hq
  · exact Nat.lt_of_le_of_lt (Nat.gcd_le_left _ (by omega)) hp
theorem G_lt {k : Nat} : ∀ (ns : List Int) (p : Nat), p < 2 ^ k → Bd k ns → G p ns < 2 ^ k
  | [], p, hp, _ => hp
  | n :: ns, p, hp, h => G_lt ns _ (b_gcd hp (h n (by simp))) fun m hm => h m (by simp [hm])
theorem Bd.up {k l : Nat} {ns : List Int} (h : Bd k ns) (hl : k ≤ l) : Bd l ns := fun n hn => b_up (h n hn) hl
theorem Bd.mul {k l : Nat} {ns : List Int} {f : Int} (h : Bd k ns) (hf : f.natAbs < 2 ^ l) : Bd (l + k) (ns.map (f * ·)) := fun n hn => by
  obtain ⟨m, hm, rfl⟩ := List.mem_map.mp hn
  exact b_mul hf (h m hm)
/-! ### comprehensions in general -/
theorem lc_map' {α : Type} {g : FG} {f : Sl → Res D} {ρ : Sl} (e h : α → D) : ∀ (xs : List α) (acc : List D), (∀ x ∈ xs, ∃ ρ1, g (e x) ρ = some ρ1 ∧ f ρ1 = .ok (h x)) → acc.length + xs.length ≤ 100000 → lcRun g tYesF f ρ (xs.map e) acc = .ok (acc ++ xs.map h)
  | [], acc, _, _ => by simp [lcRun]
  | x :: xs, acc, hf, hl => by
    obtain ⟨ρ1, h1, h2⟩ := hf x (by simp)
    have hlt : acc.length < 16777216 := by simp at hl; omega
    have ih := lc_map' e h xs (acc ++ [h x]) (fun m hm => hf m (by simp [hm])) (by simp at hl ⊢; omega)
    rw [List.map_cons]
    unfold lcRun
    simp only [h1, tYesF, Res.nx, Res.bind_ok, if_true, h2, hlt]
    simpa using ih
theorem lc_map {α : Type} {g : FG} {f : Sl → Res D} {ρ : Sl} (e h : α → D) (xs : List α) (hf : ∀ x ∈ xs, ∃ ρ1, g (e x) ρ = some ρ1 ∧ f ρ1 = .ok (h x)) (hl : xs.length ≤ 100000) : lcRun g tYesF f ρ (xs.map e) [] = .ok (xs.map h) := by
  have := lc_map' e h xs [] hf (by simpa using hl)
  simpa using this
theorem dBls_of {α : Type} (p : α → Bool) : ∀ xs : List α, dBls (xs.map fun x => D.bl (p x)) = some (xs.map p)
  | [] => rfl
  | x :: xs => by simp [dBls, dBls_of p xs]
theorem dInts_of {α : Type} (p : α → Int) : ∀ xs : List α, dInts (xs.map fun x => D.int (p x)) = some (xs.map p)
  | [] => rfl
  | x :: xs => by simp [dInts, dInts_of p xs]
/-! ### vectors -/
def vec (ns : List Int) : D := .tup (ns.map D.int)
theorem eqvA_ints : ∀ a b : List Int, PyData.eqvAll (a.map PyData.int) (b.map PyData.int) = decide (a = b)
  | [], [] => by simp [PyData.eqvAll]
  | [], _ :: _ => by simp [PyData.eqvAll]
  | _ :: _, [] => by simp [PyData.eqvAll]
  | x :: a, y :: b => by
    simp only [List.map_cons, PyData.eqvAll, eqvA_ints a b, PyData.eqv]
    by_cases h : x = y <;> simp [h]
theorem eqv_vec (a b : List Int) : eqv (vec a) (vec b) = decide (a = b) := by simp [vec, eqv, D.py, pyA_ints, PyData.eqv, eqvA_ints]
@[simp] theorem eqOk_vec (a : List Int) : eqOk (vec a) = true := eqOk_ints a
theorem eqOk_pt (ns : List Int) (d : Int) : eqOk (.tup [vec ns, .int d]) = true := sh_of (by simp [vec, D.py, D.pyA, PyData.canLay0, PyData.canLayAll0, pyA_ints, lay_ints]) (by simp [vec, D.py, D.pyA, PyData.depth, PyData.depthAll, pyA_ints, dep_ints])
theorem eqv_pt (ns ms : List Int) (d e : Int) : eqv (.tup [vec ns, .int d]) (.tup [vec ms, .int e]) = (decide (ns = ms) && decide (d = e)) := by
  by_cases h : d = e <;> simp [vec, eqv, D.py, D.pyA, pyA_ints, PyData.eqv, PyData.eqvAll, eqvA_ints, h]
theorem eqOk_str {x : Str} (h : PyData.strOk x = true) : eqOk (.str x) = true := sh_of (by simp [D.py, PyData.canLay0, h]) (by simp [D.py, PyData.depth])
@[simp] theorem eqv_str (x y : Str) : eqv (.str x) (.str y) = (x == y) := by simp [eqv, D.py, PyData.eqv]
def Sm (ns : List Int) : Prop := ∀ n ∈ ns, n.natAbs < 18446744073709551616
def dotZ : List Int → List Int → Int
  | x :: xs, y :: ys => x * y + dotZ xs ys
  | _, _ => 0
theorem zip_ints : ∀ a b : List Int, zipD (a.map D.int) (b.map D.int) = (a.zip b).map fun z => D.tup [.int z.1, .int z.2]
  | [], _ => by simp [zipD]
  | _ :: _, [] => by simp [zipD]
  | x :: a, y :: b => by simp [zipD, zip_ints a b]
theorem dot_sum : ∀ a b : List Int, ((a.zip b).map fun z => z.1 * z.2).sum = dotZ a b
  | [], _ => by simp [dotZ]
  | _ :: _, [] => by simp [dotZ]
  | x :: a, y :: b => by simp [dotZ, dot_sum a b]
@[simp] theorem thaw_vec (ns : List Int) : thaw (vec ns) = .ok (vec ns) := rfl
@[simp] theorem thaw_bl (b : Bool) : thaw (.bl b) = .ok (.bl b) := rfl
@[simp] theorem thaw_int (i : Int) : thaw (.int i) = .ok (.int i) := rfl
@[simp] theorem thaw_tup (ds : List D) : thaw (.tup ds) = .ok (.tup ds) := rfl
@[simp] theorem thaw_lst (ds : List D) : thaw (.lst ds) = .ok (.lst ds) := rfl
@[simp] theorem thaw_fr (ds : List D) : thaw (.fr ds) = .ok (.lst ds) := rfl
@[simp] theorem thaw_non : thaw .non = .ok .non := rfl
/-- a list or tuple of ints -/
def allI : List D → Option (List Int)
  | [] => some []
  | .int i :: ds => (allI ds).map (i :: ·)
  | _ => none
theorem allI_map : ∀ ns : List Int, allI (ns.map D.int) = some ns
  | [] => rfl
  | n :: ns => by simp [allI, allI_map ns]
inductive SeqI : D → List Int → Prop
  | t (ns : List Int) : SeqI (.tup (ns.map D.int)) ns
  | l (ns : List Int) : SeqI (.lst (ns.map D.int)) ns
def seqI (d : D) : Option (List Int) := match d with
  | .tup ds => allI ds
  | .lst ds => allI ds
  | _ => none
theorem allI_eq : ∀ {ds : List D} {ns : List Int}, allI ds = some ns → ds = ns.map D.int
  | [], ns, h => by cases h; rfl
  | d :: r, ns, h => by
    cases d <;> first | cases h | skip
    rename_i i
    simp only [allI, Option.map_eq_some_iff] at h
    obtain ⟨ms, h1, rfl⟩ := h
    rw [allI_eq h1]
    rfl
@[simp] theorem seqI_t (ns : List Int) : seqI (.tup (ns.map D.int)) = some ns := allI_map ns
@[simp] theorem seqI_l (ns : List Int) : seqI (.lst (ns.map D.int)) = some ns := allI_map ns
@[simp] theorem seqI_v (ns : List Int) : seqI (vec ns) = some ns := allI_map ns
theorem ix_seqI {d : D} {ns : List Int} {i : Int} {k : Nat} (h : seqI d = some ns) (hi : i = (k : Int)) (hk : k < ns.length) : oIx d (.int i) = .ok (.int ns[k]) := by
  have key : ∀ ds : List D, allI ds = some ns → atI ds i = some (.int ns[k]) := fun ds e => by
    have e' := allI_eq e
    subst e'
    rw [atI_nat hi (by simpa using hk), nth_ints]
  cases d <;> first | cases h | skip
  · rename_i ds; simp only [oIx, key ds h]
  · rename_i ds; simp only [oIx, key ds h]
theorem len_seqI {d : D} {ns : List Int} (h : seqI d = some ns) : bLen d = .ok (.int (ns.length : Int)) := by
  cases d <;> first | cases h | skip
  · rename_i ds; simp [bLen, allI_eq h]
  · rename_i ds; simp [bLen, allI_eq h]
@[simp] theorem oIxT0 (x : D) (xs : List D) : oIx (.tup (x :: xs)) (.int 0) = .ok x := by simp only [oIx, atI_zero]
@[simp] theorem oIxT1 (x y : D) (xs : List D) : oIx (.tup (x :: y :: xs)) (.int 1) = .ok y := by simp only [oIx, atI_one]
@[simp] theorem oIxT2 (x y z : D) (xs : List D) : oIx (.tup (x :: y :: z :: xs)) (.int 2) = .ok z := by simp only [oIx, atI_two]
theorem leC {α : Type} {x c : Nat} {a b : α} (h : x ≤ c) : (if x ≤ c then a else b) = a := if_pos h
theorem ltC {α : Type} {x c : Nat} {a b : α} (h : x < c) : (if x < c then a else b) = a := if_pos h
@[simp] theorem oIxL0 (x : D) (xs : List D) : oIx (.lst (x :: xs)) (.int 0) = .ok x := by simp only [oIx, atI_zero]
@[simp] theorem oIxL1 (x y : D) (xs : List D) : oIx (.lst (x :: y :: xs)) (.int 1) = .ok y := by simp only [oIx, atI_one]
@[simp] theorem oIxL2 (x y z : D) (xs : List D) : oIx (.lst (x :: y :: z :: xs)) (.int 2) = .ok z := by simp only [oIx, atI_two]
end ML

set_option Elab.async false
set_option linter.all false
set_option maxRecDepth 100000
set_option maxHeartbeats 4000000
/-! What the defs that every law has (mix, row, common, is_whole, is_tuple) answer. Printed from LC.tpl, @ for the law's short name. -/
namespace LC_k11
open PySem L2 PF ML S_k11

theorem fmod_b (i m : Int) (h : 0 < m) : 0 ≤ i.fmod m ∧ i.fmod m < m := by
  rw [Int.fmod_eq_emod_of_nonneg _ (by omega)]
  exact ⟨Int.emod_nonneg _ (by omega), Int.emod_lt_of_pos _ (by omega)⟩
theorem mix_okB (c k : Int) : ∃ z : Int, (0 ≤ z ∧ z < 2147483648) ∧ f_ulaw_mix [.int c, .int k] = .ok (.int z) := by
  have h1 : ∀ i, mulOk i 48271 = true := fun i => mulOk_r (by decide)
  have h2 : ∀ i, mulOk i 69621 = true := fun i => mulOk_r (by decide)
  have h3 : ∀ i, mulOk i 40692 = true := fun i => mulOk_r (by decide)
  have h4 : ∀ i, mulOk i 16807 = true := fun i => mulOk_r (by decide)
  have h5 : ∀ i : Int, mulOk (i.fmod 2147483647) (i.fmod 2147483647) = true := fun i => by
    have := fmod_b i 2147483647 (by decide)
    exact mulOk_l (by omega)
  have h6 : divOk 8 = true := divOk_s (by decide) (by decide)
  have key : ∀ (a b : Int), a = (c * 48271 + k * 69621 + 11).fmod 2147483647 → b = (a * a + k * 40692 + 7).fmod 2147483399 → f_ulaw_mix [.int c, .int k] = .ok (.int (((b * 16807 + a).fmod 2147483587).fdiv 8)) := by
    intro a b ea eb
    subst ea eb
    simp [f_ulaw_mix, g_ulaw_mix, h1, h2, h3, h4, h5, h6]
  refine ⟨_, ?_, key _ _ rfl rfl⟩
  generalize (((c * 48271 + k * 69621 + 11).fmod 2147483647 * (c * 48271 + k * 69621 + 11).fmod 2147483647 + k * 40692 + 7).fmod 2147483399 * 16807 + (c * 48271 + k * 69621 + 11).fmod 2147483647) = q
  have hb := fmod_b q 2147483587 (by decide)
  rw [Int.fdiv_eq_ediv_of_nonneg _ (by decide)]
  omega
theorem mix_ok (c k : Int) : ∃ z, f_ulaw_mix [.int c, .int k] = .ok (.int z) := let ⟨z, _, h⟩ := mix_okB c k; ⟨z, h⟩
def rowI (ns : List Int) (a m : Int) (n : Nat) (ds : List D) (ρ : Sl) : Prop := ∃ (c r : Int) (cs ks : List Int) (kc : Cell), ds = ks.map D.int ∧ (cs.length + ds.length = n ∧ ∀ x ∈ cs, 0 ≤ x ∧ x < 2147483648) ∧ ρ = [.v (.rol (ns.map D.int)), .v (.int a), .v (.int m), .v (.int c), .o (cs.map D.int), .v (.int r), kc]
theorem row_step {ns : List Int} {a m : Int} {n : Nat} (hn : n ≤ 1000) (d : D) (ds : List D) (ρ : Sl) (h : rowI ns a m n (d :: ds) ρ) : ∃ ρ1, gName 6 d ρ = some ρ1 ∧ ∃ ρ2, (b1_ulaw_row ρ1 = .nx ρ2 ∨ b1_ulaw_row ρ1 = .ct ρ2) ∧ rowI ns a m n ds ρ2 := by
  obtain ⟨c, r, cs, ks, kc, h1, ⟨h2, hB0⟩, rfl⟩ := h
  cases ks with
  | nil => cases h1
  | cons k ks =>
    cases h1
    refine ⟨_, rfl, ?_⟩
    have hl : cs.length < 16777216 := by simp at h2; omega
    have h6 : divOk 1009 = true := divOk_s (by decide) (by decide)
    obtain ⟨z, hzb, hz⟩ := mix_okB c k
    have hA : ∀ ρ2, ρ2 = [.v (.rol (ns.map D.int)), .v (.int a), .v (.int m), .v (.int c), .o ((cs ++ [z]).map D.int), .v (.int r), .v (.int k)] → rowI ns a m n (ks.map D.int) ρ2 := fun ρ2 e => ⟨c, r, cs ++ [z], ks, _, rfl, ⟨by simp at h2 ⊢; omega, fun x hx => (List.mem_append.mp hx).elim (hB0 x) fun q => by rw [List.mem_singleton.mp q]; exact hzb⟩, e⟩
    have hB : ∀ ρ2, ρ2 = [.v (.rol (ns.map D.int)), .v (.int a), .v (.int m), .v (.int c), .o ((cs ++ [r.fmod 1009]).map D.int), .v (.int (r.fdiv 1009)), .v (.int k)] → rowI ns a m n (ks.map D.int) ρ2 := fun ρ2 e => ⟨c, r.fdiv 1009, cs ++ [r.fmod 1009], ks, _, rfl, ⟨by simp at h2 ⊢; omega, fun x hx => (List.mem_append.mp hx).elim (hB0 x) fun q => by rw [List.mem_singleton.mp q]; have := fmod_b r 1009 (by decide); omega⟩, e⟩
    cases e1 : cb (1000000000000000000 ≤ (if c < 0 then -c else c)) <;> cases e2 : cb (0 < r)
    · exact ⟨_, .inl (by simp [-cb_iff, -cb_nif, b1_ulaw_row, e1, e2, hl, hz]; rfl), hA _ (by simp)⟩
    · exact ⟨_, .inl (by simp [-cb_iff, -cb_nif, b1_ulaw_row, e1, e2, hl, hz]; rfl), hA _ (by simp)⟩
    · exact ⟨_, .inl (by simp [-cb_iff, -cb_nif, b1_ulaw_row, e1, e2, hl, hz]; rfl), hA _ (by simp)⟩
    · exact ⟨_, .inl (by simp [-cb_iff, -cb_nif, b1_ulaw_row, e1, e2, hl, h6]; rfl), hB _ (by simp)⟩
theorem row_okB (ns : List Int) (hns : ns.length ≤ 63) (a : Int) (ha : 0 ≤ a) (n : Nat) (hn : n ≤ 1000) : ∃ cs : List Int, cs.length = n ∧ (∀ x ∈ cs, 0 ≤ x ∧ x < 2147483648) ∧ f_ulaw_row [.rol (ns.map D.int), .int a, .int n] = .ok (.fr (cs.map D.int)) := by
  have fin : ∀ c r : Int, ∃ ρ', forRun (gName 6) b1_ulaw_row (rngD 0 n) [.v (.rol (ns.map D.int)), .v (.int a), .v (.int n), .v (.int c), .o [], .v (.int r), .e] = .nx ρ' ∧ rowI ns a n n [] ρ' := fun c r =>
    for_inv (rowI ns a n n) (row_step hn) _ _ ⟨c, r, [], _, .e, rngD_ints 0 n, ⟨by simp [rngD], by simp⟩, rfl⟩
  have hg := rng1_ok (n := n) (by omega)
  have key : ∀ c : Int, ∃ cs : List Int, cs.length = n ∧ (∀ x ∈ cs, 0 ≤ x ∧ x < 2147483648) ∧ (gSeq (gSetO 4 (fLst aNil))
    (gSeq (gSet 5 (sUn bAbs (sRd 3)))
    (gSeq (gFor (iRg1 (aCons (sVar 2) aNil)) (gName 6) b1_ulaw_row)
    (gRetO 4)))) [.v (.rol (ns.map D.int)), .v (.int a), .v (.int n), .v (.int c), .e, .e, .e] = .ret (.fr (cs.map D.int)) := fun c => by
    obtain ⟨ρ', h1, c', r', cs, ks, kc, h2, ⟨h3, hB1⟩, rfl⟩ := fin c (if c < 0 then -c else c)
    refine ⟨cs, by simpa using h3, hB1, ?_⟩
    simp [-cb_iff, -cb_nif, -gRng1, hg, h1]
  have h7 : ∀ i, mulOk 7919 i = true := fun i => mulOk_l (by decide)
  have start : ∃ c : Int, (gSeq (gSet 3 (sVar 1)) (gIf (sTest (sOp oLt (sRd 1) (sUn bLen (sRd 0)))) (gSet 3 (sOp oIx (sRd 0) (sRd 1))) (gIf (sTest (sOp oGt (sUn bLen (sRd 0)) (sC (.int 0)))) (gSet 3 (sOp oAdd (sOp oIx (sRd 0) (sOp oMod (sRd 1) (sUn bLen (sRd 0)))) (sOp oMul (sC (.int 7919)) (sRd 1)))) gNil))) [.v (.rol (ns.map D.int)), .v (.int a), .v (.int n), .e, .e, .e, .e] = .nx [.v (.rol (ns.map D.int)), .v (.int a), .v (.int n), .v (.int c), .e, .e, .e] := by
    by_cases e1 : a < (ns.length : Int)
    · obtain ⟨z, hz⟩ := atI_ints ha e1
      exact ⟨z, by simp [-cb_iff, -cb_nif, cb_t e1, hz]⟩
    · by_cases e2 : (0 : Int) < (ns.length : Int)
      · obtain ⟨z, hz⟩ := atI_ints (ns := ns) (fmod_b a _ e2).1 (fmod_b a _ e2).2
        have e3 : ns ≠ [] := by intro h; subst h; simp at e2
        exact ⟨z + 7919 * a, by simp [-cb_iff, -cb_nif, cb_f e1, cb_t e2, cb_t (show 0 < ns.length by omega), hz, h7, e3]⟩
      · exact ⟨a, by simp [-cb_iff, -cb_nif, cb_f e1, cb_f e2, cb_f (show ¬ 0 < ns.length by omega)]⟩
  obtain ⟨c, hc⟩ := start
  obtain ⟨cs, h8, hB2, h9⟩ := key c
  refine ⟨cs, h8, hB2, ?_⟩
  have e : g_ulaw_row [.v (.rol (ns.map D.int)), .v (.int a), .v (.int n), .e, .e, .e, .e] = .ret (.fr (cs.map D.int)) := by
    rw [← h9]
    unfold g_ulaw_row
    exact seq_nx2 hc
  unfold f_ulaw_row
  exact semF_ret e
theorem row_ok (ns : List Int) (hns : ns.length ≤ 63) (a : Int) (ha : 0 ≤ a) (n : Nat) (hn : n ≤ 1000) : ∃ cs : List Int, cs.length = n ∧ f_ulaw_row [.rol (ns.map D.int), .int a, .int n] = .ok (.fr (cs.map D.int)) := let ⟨cs, h1, _, h2⟩ := row_okB ns hns a ha n hn; ⟨cs, h1, h2⟩
theorem whole_ok (i : Int) : f_ulaw_is_whole [.int i] = .ok (.bl true) := by simp [f_ulaw_is_whole, g_ulaw_is_whole]
theorem tuple_run (ρ : Sl) (h : ρ.length = 3) : ∀ (ns : List Int) (acc : List Bool), acc.length + ns.length ≤ 100000 → lcRun (gName 2) tYesF b1_ulaw_is_tuple ρ (ns.map D.int) (acc.map D.bl) = .ok ((acc ++ ns.map fun _ => true).map D.bl)
  | [], acc, _ => by simp [lcRun]
  | n :: ns, acc, hl => by
    have e1 : b1_ulaw_is_tuple (ρ.set 2 (.v (.int n))) = .ok (.bl true) := by
      simp [b1_ulaw_is_tuple, h, whole_ok]
    have hlt : (acc.map D.bl).length < 16777216 := by simp at hl ⊢; omega
    have ih := tuple_run ρ h ns (acc ++ [true]) (by simp at hl ⊢; omega)
    rw [List.map_cons]
    unfold lcRun
    simp only [PF.gName, tYesF, Res.nx, Res.bind_ok, if_true, e1, hlt]
    simpa using ih
theorem tuple_ok (ns : List Int) (h : ns.length ≤ 100000) : f_ulaw_is_tuple [.tup (ns.map D.int), .int (ns.length : Int)] = .ok (.bl true) := by
  have e := tuple_run [.v (.tup (ns.map D.int)), .v (.int (ns.length : Int)), .e] rfl ns [] (by simpa using h)
  simp only [List.map_nil, List.nil_append] at e
  have e2 : dBls ((ns.map fun _ => true).map D.bl) = some (ns.map fun _ => true) := dBls_ok _
  simp only [List.map_map] at e e2
  simp [f_ulaw_is_tuple, g_ulaw_is_tuple, e, e2]
end LC_k11

set_option Elab.async false
set_option linter.all false
set_option maxRecDepth 100000
set_option maxHeartbeats 4000000
/-! k11: what the menu's defs answer. -/
namespace M_k11
open PySem L2 PF ML S_k11 LC_k11

abbrev Rw := List (List Int)
def rowsT (rows : Rw) : D := .tup (rows.map vec)
def rowsL (rows : Rw) : D := .lst (rows.map vec)
abbrev menuO (w : Nat) (rows : Rw) : D := .obj "Menu" ["width", "usages"] [.int (w : Int), rowsT rows]
section
variable {w : Nat} {rows : Rw}
@[simp high] theorem fld_w : bFld cs_width "width" (menuO w rows) = .ok (.int (w : Int)) := rfl
@[simp high] theorem fld_u : bFld cs_usages "usages" (menuO w rows) = .ok (rowsT rows) := rfl
@[simp high] theorem con_kind : bCon tc_KIND "KIND" (menuO w rows) = .ok (.str "menu") := rfl
@[simp high] theorem con_plans : bCon tc_PLANS "PLANS" (menuO w rows) = .ok (.int 120) := rfl
@[simp high] theorem is_menu : bIsC is_Menu (menuO w rows) = .ok (.bl true) := rfl
@[simp high] theorem is_task : bIsC is_Task (menuO w rows) = .ok (.bl true) := rfl
end
@[simp high] theorem lk1 : List.lookup ("Menu" : Str) mt_is_plan = some f_Menu_is_plan := rfl
@[simp high] theorem lk2 : List.lookup ("Menu" : Str) mt_scale = some f_Task_scale := rfl
@[simp high] theorem lk3 : List.lookup ("Menu" : Str) mt_amounts = some f_Menu_amounts := rfl
@[simp high] theorem lk4 : List.lookup ("Menu" : Str) mt_check_costs = some f_Task_check_costs := rfl
@[simp high] theorem lk5 : List.lookup ("Menu" : Str) mt_usage = some f_Task_usage := rfl
@[simp high] theorem lk6 : List.lookup ("Menu" : Str) mt_plans = some f_Menu_plans := rfl
@[simp high] theorem lk7 : List.lookup ("Menu" : Str) mt_row_between = some f_Task_row_between := rfl
@[simp high] theorem lk8 : List.lookup ("Menu" : Str) mt_is_way = some f_Task_is_way := rfl
@[simp high] theorem lk9 : List.lookup ("Menu" : Str) mt_cost_of = some f_Task_cost_of := rfl
@[simp high] theorem lk10 : List.lookup ("Menu" : Str) mt_solve = some f_Menu_solve := rfl
@[simp high] theorem lk11 : List.lookup ("Menu" : Str) mt_judge = some f_Menu_judge := rfl
@[simp high] theorem lk12 : List.lookup ("Menu" : Str) mt_rules = some f_Task_rules := rfl
@[simp high] theorem lk13 : List.lookup ("Menu" : Str) mt_drift = some f_Task_drift := rfl
@[simp high] theorem nm1 : (("is_plan" : Str) ∈ (["width", "usages"] : List Str)) = False := eq_false (by decide)
@[simp high] theorem nm2 : (("scale" : Str) ∈ (["width", "usages"] : List Str)) = False := eq_false (by decide)
@[simp high] theorem nm3 : (("amounts" : Str) ∈ (["width", "usages"] : List Str)) = False := eq_false (by decide)
@[simp high] theorem nm4 : (("check_costs" : Str) ∈ (["width", "usages"] : List Str)) = False := eq_false (by decide)
@[simp high] theorem nm5 : (("usage" : Str) ∈ (["width", "usages"] : List Str)) = False := eq_false (by decide)
@[simp high] theorem nm6 : (("plans" : Str) ∈ (["width", "usages"] : List Str)) = False := eq_false (by decide)
@[simp high] theorem nm7 : (("row_between" : Str) ∈ (["width", "usages"] : List Str)) = False := eq_false (by decide)
@[simp high] theorem nm8 : (("is_way" : Str) ∈ (["width", "usages"] : List Str)) = False := eq_false (by decide)
@[simp high] theorem nm9 : (("cost_of" : Str) ∈ (["width", "usages"] : List Str)) = False := eq_false (by decide)
@[simp high] theorem nm10 : (("solve" : Str) ∈ (["width", "usages"] : List Str)) = False := eq_false (by decide)
@[simp high] theorem nm11 : (("judge" : Str) ∈ (["width", "usages"] : List Str)) = False := eq_false (by decide)
@[simp high] theorem nm12 : (("rules" : Str) ∈ (["width", "usages"] : List Str)) = False := eq_false (by decide)
@[simp high] theorem nm13 : (("drift" : Str) ∈ (["width", "usages"] : List Str)) = False := eq_false (by decide)
/-- a menu: w wide, its rows -/
structure Mn (w : Nat) (rows : Rw) : Prop where
  w1 : 1 ≤ w
  w8 : w ≤ 8
  n1 : 1 ≤ rows.length
  n24 : rows.length ≤ 24
  len : ∀ r ∈ rows, r.length = w
  bd : ∀ r ∈ rows, Bd 140 r
theorem whole_int (i : Int) : f_is_whole [.int i] = .ok (.bl true) := by simp [f_is_whole, g_is_whole]
theorem len_rows (rows : Rw) : bLen (rowsT rows) = .ok (.int (rows.length : Int)) := by simp [rowsT]
theorem len_vec (r : List Int) : bLen (vec r) = .ok (.int (r.length : Int)) := by simp [vec]
/-! ### is_plan -/
theorem plan_in {w : Nat} {rows : Rw} {p : Nat} (h : p < rows.length) : f_Menu_is_plan [menuO w rows, .int (p : Int)] = .ok (.bl true) := by
  have c1 : cb ((0 : Int) ≤ (p : Int)) = true := cb_t (by omega)
  have c2 : cb ((p : Int) < (rows.length : Int)) = true := cb_t (by omega)
  simp [-cb_iff, -cb_nif, -bLen, -bFld, f_Menu_is_plan, g_Menu_is_plan, whole_int, c1, c2, len_rows, cb_t h]
theorem plan_out {w : Nat} {rows : Rw} {i : Int} (h : i < 0 ∨ (rows.length : Int) ≤ i) : f_Menu_is_plan [menuO w rows, .int i] = .ok (.bl false) := by
  by_cases c0 : (0 : Int) ≤ i
  · have c2 : cb (i < (rows.length : Int)) = false := cb_f (by omega)
    simp [-cb_iff, -cb_nif, -bLen, -bFld, f_Menu_is_plan, g_Menu_is_plan, whole_int, cb_t c0, c2, len_rows]
  · simp [-cb_iff, -cb_nif, -bLen, -bFld, f_Menu_is_plan, g_Menu_is_plan, whole_int, cb_f c0, len_rows]
/-- values that are no whole numbers -/
def NotW (d : D) : Prop := d = .non ∨ (∃ x, d = .str x) ∨ ∃ ds, d = .tup ds
theorem whole_not {d : D} (h : NotW d) : f_is_whole [d] = .ok (.bl false) := by
  rcases h with rfl | ⟨x, rfl⟩ | ⟨ds, rfl⟩ <;> simp [f_is_whole, g_is_whole]
theorem plan_not {w : Nat} {rows : Rw} {d : D} (h : NotW d) : f_Menu_is_plan [menuO w rows, d] = .ok (.bl false) := by
  have e := whole_not h
  simp [-cb_iff, -cb_nif, -bFld, f_Menu_is_plan, g_Menu_is_plan, e]
/-! ### check_costs -/
theorem check_ok {w : Nat} {rows : Rw} {c : List Int} (h : c.length = w) : f_Task_check_costs [menuO w rows, vec c] = .ok .non := by
  simp [-cb_iff, -cb_nif, -bLen, -bFld, f_Task_check_costs, g_Task_check_costs, len_vec, h]
theorem check_bad {w : Nat} {rows : Rw} {c : List Int} (h : c.length ≠ w) : f_Task_check_costs [menuO w rows, vec c] = .exc "BadNumber" [] := by
  have h' : ¬ ((c.length : Int) = (w : Int)) := by omega
  simp [-cb_iff, -cb_nif, -bLen, -bFld, f_Task_check_costs, g_Task_check_costs, len_vec, h, h']
end M_k11

set_option Elab.async false
set_option linter.all false
set_option maxRecDepth 100000
set_option maxHeartbeats 4000000
namespace M_k11
open PySem L2 PF ML S_k11 LC_k11

/-! ### dot -/
theorem dot_ok (d e : D) (a b : List Int) (hd : dSq d = .ok (a.map D.int)) (he : dSq e = .ok (b.map D.int)) (ha : Bd 200 a) (hb : Bd 200 b) (hl : a.length ≤ 1000) : f_dot [d, e] = .ok (.int (dotZ a b)) := by
  have h := lc_map (g := gTup 2 (gsCons (PF.gName 2) (gsCons (PF.gName 3) gsNil))) (f := b1_dot) (ρ := [.v d, .v e, .e, .e]) (fun z : Int × Int => D.tup [.int z.1, .int z.2]) (fun z => D.int (z.1 * z.2)) (a.zip b)
    (fun z hz => ⟨_, by simp; rfl, by simp [b1_dot, mulOk_b (ha _ (List.of_mem_zip hz).1) (hb _ (List.of_mem_zip hz).2) (by decide)]⟩) (by rw [List.length_zip]; omega)
  have h3 : dInts ((a.zip b).map fun z => D.int (z.1 * z.2)) = some _ := dInts_of (fun z : Int × Int => z.1 * z.2) (a.zip b)
  simp [-dSq, f_dot, g_dot, hd, he, zip_ints, h, h3, dot_sum]
theorem dot_vv {a b : List Int} (ha : Bd 200 a) (hb : Bd 200 b) (hl : a.length ≤ 1000) : f_dot [vec a, vec b] = .ok (.int (dotZ a b)) := dot_ok _ _ a b rfl rfl ha hb hl
/-! ### content, make_point -/
theorem content_run (v : D) : ∀ (ns : List Int) (p : Nat) (kc : Cell), ∃ kc', forRun (PF.gName 2) b1_content (ns.map D.int) [.v v, .v (.int (p : Int)), kc] = .nx [.v v, .v (.int ((G p ns : Nat) : Int)), kc']
  | [], p, kc => ⟨kc, rfl⟩
  | n :: ns, p, kc => by
    obtain ⟨kc', ih⟩ := content_run v ns (Nat.gcd p n.natAbs) (.v (.int n))
    refine ⟨kc', ?_⟩
    rw [List.map_cons]
    simp only [forRun, PF.gName]
    simpa [b1_content, G] using ih
theorem content_ok (ns : List Int) : f_content [.lst (ns.map D.int)] = .ok (.int ((G 0 ns : Nat) : Int)) := by
  obtain ⟨kc', h⟩ := content_run (.lst (ns.map D.int)) ns 0 .e
  have h : forRun (PF.gName 2) b1_content (ns.map D.int) [.v (.lst (ns.map D.int)), .v (.int 0), .e] = _ := h
  simp [f_content, g_content, h]
theorem fd1 (ns : List Int) : ns.map (·.fdiv (1 : Int)) = ns := by
  have : (fun x : Int => x.fdiv (1 : Int)) = id := by funext x; simp
  rw [this, List.map_id]
theorem point_ok (ns : List Int) (hl : ns.length ≤ 1000) : f_make_point [.lst (ns.map D.int), .int 1] = .ok (.tup [vec ns, .int 1]) := by
  have h1 := content_ok ns
  have k1 : divOk 1 = true := divOk_s (by decide) (by decide)
  have hg : Nat.gcd (G 0 ns) 1 = 1 := Nat.gcd_one_right _
  have e := lc_ints 3 b1_make_point (·.fdiv 1) [.v (.lst (ns.map D.int)), .v (.int 1), .v (.int 1), .e] ns (fun n _ => by simp [b1_make_point, k1]) (by omega)
  rw [fd1] at e
  have e3 : (1 : Int).fdiv 1 = 1 := by decide
  unfold vec
  simp [-cb_iff, -cb_nif, -List.map_map, f_make_point, g_make_point, h1, hg, cb_f (show ¬ (1 : Int) < 0 by omega), k1, e, e3]
/-! ### tally -/
theorem ixN_nat {n k : Nat} (h : k < n) : ixN n (k : Int) = some k := by
  unfold ixN
  rw [if_pos (by omega), if_pos (by omega)]
  simp
def talP (w : Nat) (am : D) (r : List Int) (ds : List D) (ρ : Sl) : Prop := ∃ (dn rest : List Int) (kl ka : Cell), dn ++ rest = r ∧ ds = enumD dn.length (rest.map D.int) ∧ ρ = [.v (.int (w : Int)), .v am, .o ((dn ++ List.replicate rest.length 0).map D.int), kl, ka]
theorem tal_step (w : Nat) (am : D) (r : List Int) (d : D) (ds : List D) (ρ : Sl) (h : talP w am r (d :: ds) ρ) : ∃ ρ1, gTup 2 (gsCons (PF.gName 3) (gsCons (PF.gName 4) gsNil)) d ρ = some ρ1 ∧ ∃ ρ2, (b1_tally ρ1 = .nx ρ2 ∨ b1_tally ρ1 = .ct ρ2) ∧ talP w am r ds ρ2 := by
  obtain ⟨dn, rest, kl, ka, h1, h2, rfl⟩ := h
  cases rest with
  | nil => cases h2
  | cons x rest =>
    rw [List.map_cons, enumD] at h2
    injection h2 with h2 h3
    subst h2 h3
    refine ⟨[.v (.int (w : Int)), .v am, .o ((dn ++ List.replicate (rest.length + 1) 0).map D.int), .v (.int (dn.length : Int)), .v (.int x)], rfl, ?_⟩
    have k1 : ((dn ++ List.replicate (rest.length + 1) 0).map D.int).length = dn.length + rest.length + 1 := by simp; omega
    have k2 : ixN (dn.length + rest.length + 1) (dn.length : Int) = some dn.length := ixN_nat (by omega)
    have k3 : ((dn ++ List.replicate (rest.length + 1) (0 : Int)).map D.int)[dn.length]? = some (.int 0) := by
      rw [List.getElem?_map, List.getElem?_append_right (Nat.le_refl _), Nat.sub_self]
      rfl
    have k4 : ((dn ++ List.replicate (rest.length + 1) (0 : Int)).map D.int).set dn.length (.int x) = ((dn ++ [x]) ++ List.replicate rest.length 0).map D.int := by
      rw [List.map_append, List.set_append_right _ _ (by simp)]
      simp [List.replicate_succ]
    refine ⟨[.v (.int (w : Int)), .v am, .o (((dn ++ [x]) ++ List.replicate rest.length 0).map D.int), .v (.int (dn.length : Int)), .v (.int x)], .inl ?_, dn ++ [x], rest, _, _, by simpa using h1, by simp, rfl⟩
    rw [← k4]
    generalize hL : (dn ++ List.replicate (rest.length + 1) (0 : Int)).map D.int = L at *
    simp [b1_tally, k1, k2, k3]
theorem rep_one (w : Nat) : (List.replicate w [D.int 0]).flatten = (List.replicate w (0 : Int)).map D.int := by
  induction w with
  | zero => rfl
  | succ n ih => simpa [List.replicate_succ] using ih
theorem tally_ok (w : Nat) (r : List Int) (hr : r.length = w) (hw : w ≤ 1000) : f_tally [.int (w : Int), .lst (enumD 0 (r.map D.int))] = .ok (.fr (r.map D.int)) := by
  obtain ⟨ρ', h1, dn, rest, kl, ka, h2, h3, rfl⟩ := for_inv (talP w (.lst (enumD 0 (r.map D.int))) r) (tal_step w _ r) _ [.v (.int (w : Int)), .v (.lst (enumD 0 (r.map D.int))), .o ((List.replicate r.length 0).map D.int), .e, .e] ⟨[], r, .e, .e, rfl, rfl, by simp⟩
  have hrest : rest = [] := by
    cases rest with
    | nil => rfl
    | cons x rest => cases h3
  subst hrest
  rw [List.append_nil] at h2
  subst h2
  have c : cb (-(2 ^ 63) ≤ (w : Int) ∧ (w : Int) < 2 ^ 63 ∧ 1 * (w : Int).toNat ≤ 16777216) = true := cb_t ⟨by omega, by omega, by omega⟩
  have e0 : (List.replicate w [D.int 0]).flatten = (List.replicate dn.length (0 : Int)).map D.int := by
    rw [hr]
    exact rep_one w
  simp only [List.length_nil, List.replicate_zero, List.append_nil] at h1
  simp [-cb_iff, -cb_nif] at c
  simp only [List.map_replicate] at e0 h1
  simp [-cb_iff, -cb_nif, f_tally, g_tally, c, e0, h1]
/-! ### amounts, usage -/
theorem ixRows {rows : Rw} {p : Nat} (h : p < rows.length) : oIx (rowsT rows) (.int (p : Int)) = .ok (vec rows[p]) := by
  unfold rowsT
  simp only [oIx]
  rw [atI_nat (k := p) rfl (by simpa using h)]
  simp
theorem amounts_ok {w : Nat} {rows : Rw} (M : Mn w rows) {p : Nat} (h : p < rows.length) : f_Menu_amounts [menuO w rows, .int (p : Int)] = .ok (.fr (enumD 0 (rows[p].map D.int))) := by
  have h1 := ixRows h
  have h2 : (rows[p].map D.int).length ≤ 16777216 := by
    rw [List.length_map, M.len _ (List.getElem_mem h)]
    have := M.w8
    omega
  have h3 : dSq (vec rows[p]) = .ok (rows[p].map D.int) := rfl
  simp [-cb_iff, -cb_nif, -oIx, -bFld, -dSq, -List.length_map, f_Menu_amounts, g_Menu_amounts, h1, h2, h3]
theorem usage_ok {w : Nat} {rows : Rw} (M : Mn w rows) {p : Nat} (h : p < rows.length) : f_Task_usage [menuO w rows, .int (p : Int)] = .ok (.tup [vec rows[p], .int 1]) := by
  have h1 := plan_in (w := w) h
  have h2 := amounts_ok M h
  have h3 := tally_ok w rows[p] (M.len _ (List.getElem_mem h)) (by have := M.w8; omega)
  have h4 := point_ok rows[p] (by rw [M.len _ (List.getElem_mem h)]; have := M.w8; omega)
  have h5 : f_Task_scale [menuO w rows, .int (p : Int)] = .ok (.int 1) := by simp [f_Task_scale, g_Task_scale]
  simp [-cb_iff, -cb_nif, -bFld, f_Task_usage, g_Task_usage, h1, h2, h3, h4, h5]
theorem usage_bad {w : Nat} {rows : Rw} {d : D} (h1 : f_Menu_is_plan [menuO w rows, d] = .ok (.bl false)) : f_Task_usage [menuO w rows, d] = .exc "NotAPlan" [] := by
  simp [-cb_iff, -cb_nif, -bFld, f_Task_usage, g_Task_usage, h1]
end M_k11

set_option Elab.async false
set_option linter.all false
set_option maxRecDepth 100000
set_option maxHeartbeats 4000000
namespace M_k11
open PySem L2 PF ML S_k11 LC_k11

theorem lc_fm' {α : Type} {g : FG} {t : Sl → Res Bool} {f : Sl → Res D} {ρ : Sl} (e h : α → D) (p : α → Bool) : ∀ (xs : List α) (acc : List D), (∀ x ∈ xs, ∃ ρ1, g (e x) ρ = some ρ1 ∧ t ρ1 = .ok (p x) ∧ (p x = true → f ρ1 = .ok (h x))) → acc.length + xs.length ≤ 100000 → lcRun g t f ρ (xs.map e) acc = .ok (acc ++ (xs.filter p).map h)
  | [], acc, _, _ => by simp [lcRun]
  | x :: xs, acc, hf, hl => by
    obtain ⟨ρ1, h1, h2, h3⟩ := hf x (by simp)
    have hlt : acc.length < 16777216 := by simp at hl; omega
    rw [List.map_cons]
    unfold lcRun
    cases hp : p x with
    | true =>
      have ih := lc_fm' (g := g) (t := t) (f := f) (ρ := ρ) e h p xs (acc ++ [h x]) (fun m hm => hf m (by simp [hm])) (by simp at hl ⊢; omega)
      simp only [h1, h2, hp, Res.nx, Res.bind_ok, if_true, h3 hp, hlt]
      simpa [List.filter_cons, hp] using ih
    | false =>
      have ih := lc_fm' (g := g) (t := t) (f := f) (ρ := ρ) e h p xs acc (fun m hm => hf m (by simp [hm])) (by simp at hl ⊢; omega)
      simp only [h1, h2, hp, Res.nx, Res.bind_ok]
      simpa [List.filter_cons, hp] using ih
theorem lc_fm {α : Type} {g : FG} {t : Sl → Res Bool} {f : Sl → Res D} {ρ : Sl} (e h : α → D) (p : α → Bool) (xs : List α) (hf : ∀ x ∈ xs, ∃ ρ1, g (e x) ρ = some ρ1 ∧ t ρ1 = .ok (p x) ∧ (p x = true → f ρ1 = .ok (h x))) (hl : xs.length ≤ 100000) : lcRun g t f ρ (xs.map e) [] = .ok ((xs.filter p).map h) := by
  have := lc_fm' (g := g) (t := t) (f := f) (ρ := ρ) e h p xs [] hf (by simpa using hl)
  simpa using this
section
variable {w : Nat} {rows : Rw} {c : List Int}
theorem ratio_ok (n : Int) : f_make_ratio [.int n, .int 1] = .ok (.tup [.int n, .int 1]) := by
  have k1 : divOk 1 = true := divOk_s (by decide) (by decide)
  have hg : Nat.gcd n.natAbs 1 = 1 := Nat.gcd_one_right _
  have e3 : (1 : Int).fdiv 1 = 1 := by decide
  simp [-cb_iff, -cb_nif, f_make_ratio, g_make_ratio, hg, cb_f (show ¬ (1 : Int) < 0 by omega), k1, e3]
theorem Mn.mem (M : Mn w rows) {p : Nat} (h : p < rows.length) : rows[p].length = w := M.len _ (List.getElem_mem h)
theorem Mn.bd2 (M : Mn w rows) {p : Nat} (h : p < rows.length) : Bd 200 rows[p] := (M.bd _ (List.getElem_mem h)).up (by decide)
theorem cost_ok (M : Mn w rows) (hc : c.length = w) (hb : Bd 200 c) {p : Nat} (h : p < rows.length) : f_Task_cost_of [menuO w rows, vec c, .int (p : Int)] = .ok (.tup [.int (dotZ c rows[p]), .int 1]) := by
  have h1 := check_ok (rows := rows) hc
  have h2 := usage_ok M h
  have h3 := dot_vv hb (M.bd2 h) (by rw [hc]; have := M.w8; omega)
  have h4 := ratio_ok (dotZ c rows[p])
  simp [-cb_iff, -cb_nif, -bFld, f_Task_cost_of, g_Task_cost_of, h1, h2, h3, h4]
theorem cost_bad (d : D) (hc : c.length ≠ w) : f_Task_cost_of [menuO w rows, vec c, d] = .exc "BadNumber" [] := by
  have h1 := check_bad (rows := rows) hc
  simp [-cb_iff, -cb_nif, -bFld, f_Task_cost_of, g_Task_cost_of, h1]
theorem cost_not {d : D} (hc : c.length = w) (hd : f_Menu_is_plan [menuO w rows, d] = .ok (.bl false)) : f_Task_cost_of [menuO w rows, vec c, d] = .exc "NotAPlan" [] := by
  have h1 := check_ok (rows := rows) hc
  have h2 := usage_bad hd
  simp [-cb_iff, -cb_nif, -bFld, f_Task_cost_of, g_Task_cost_of, h1, h2]
/-! ### plans, rules -/
theorem plans_ok (M : Mn w rows) : f_Menu_plans [menuO w rows] = .ok (.fr (rngD 0 rows.length)) := by
  have c : cb (-(2 ^ 62) ≤ (rows.length : Int) ∧ (rows.length : Int) ≤ 16777216) = true := cb_t ⟨by omega, by have := M.n24; omega⟩
  simp [-cb_iff, -cb_nif] at c
  simp [-cb_iff, -cb_nif, -bFld, -bLen, f_Menu_plans, g_Menu_plans, len_rows, c]
def rowd (a b : List Int) : List Int := (a.zip b).map fun z => z.2 - z.1
theorem between_ok (M : Mn w rows) {p q : Nat} (hp : p < rows.length) (hq : q < rows.length) : f_Task_row_between [menuO w rows, .int (p : Int), .int (q : Int)] = .ok (vec (rowd rows[p] rows[q])) := by
  have h1 := usage_ok M hp
  have h2 := usage_ok M hq
  have m1 : ∀ i, mulOk i 1 = true := fun i => mulOk_r (by decide)
  have e := lc_map (g := gTup 2 (gsCons (PF.gName 7) (gsCons (PF.gName 8) gsNil))) (f := b1_Task_row_between) (ρ := [.v (menuO w rows), .v (.int (p : Int)), .v (.int (q : Int)), .v (vec rows[p]), .v (.int 1), .v (vec rows[q]), .v (.int 1), .e, .e])
    (fun z : Int × Int => D.tup [.int z.1, .int z.2]) (fun z => D.int (z.2 - z.1)) (rows[p].zip rows[q]) (fun z hz => ⟨_, by simp; rfl, by simp [b1_Task_row_between, m1]⟩) (by rw [List.length_zip, M.mem hp]; have := M.w8; omega)
  have d1 : dSq (vec rows[p]) = .ok (rows[p].map D.int) := rfl
  have d2 : dSq (vec rows[q]) = .ok (rows[q].map D.int) := rfl
  simp [-cb_iff, -cb_nif, -bFld, -dSq, f_Task_row_between, g_Task_row_between, h1, h2, d1, d2, zip_ints, e]
  simp [rowd, vec]
def rowAt (rows : Rw) (k : Nat) : List Int := rows.getD k []
theorem rowAt_eq {k : Nat} (h : k < rows.length) : rowAt rows k = rows[k] := by
  unfold rowAt
  rw [List.getD_eq_getElem?_getD, List.getElem?_eq_getElem h]
  rfl
def ruleRows (rows : Rw) (p : Nat) : Rw := ((List.range rows.length).filter fun k => !decide (k = p)).map fun k => rowd (rowAt rows p) (rowAt rows k)
theorem rules_ok (M : Mn w rows) {p : Nat} (hp : p < rows.length) : f_Task_rules [menuO w rows, .int (p : Int)] = .ok (.fr ((ruleRows rows p).map vec)) := by
  have h1 := plan_in (w := w) hp
  have h2 := plans_ok M
  have e := lc_fm (g := PF.gName 2) (t := b1_Task_rules) (f := b2_Task_rules) (ρ := [.v (menuO w rows), .v (.int (p : Int)), .e]) (fun k : Nat => D.int (0 + (k : Int))) (fun k => vec (rowd (rowAt rows p) (rowAt rows k))) (fun k => !decide (k = p)) (List.range rows.length)
    (fun k hk => by
      have hk' : k < rows.length := by simpa using hk
      have h3 := between_ok M hp hk'
      rw [← rowAt_eq hp, ← rowAt_eq hk'] at h3
      refine ⟨_, rfl, ?_, fun _ => ?_⟩
      · by_cases z : k = p
        · subst z; simp [b1_Task_rules]
        · have z2 : ¬ ((k : Int) = (p : Int)) := by omega
          simp [b1_Task_rules, z, z2]
      · simp [-bFld, -thaw, b2_Task_rules, h3]) (by have := M.n24; simp; omega)
  have e2 : rngD 0 rows.length = (List.range rows.length).map fun k : Nat => D.int (0 + (k : Int)) := rfl
  rw [← e2] at e
  have e3 : (((List.range rows.length).filter fun k => !decide (k = p)).map fun k => vec (rowd (rowAt rows p) (rowAt rows k))) = (ruleRows rows p).map vec := by simp [ruleRows]
  rw [e3] at e
  simp [-cb_iff, -cb_nif, -bFld, f_Task_rules, g_Task_rules, h1, h2, e]
theorem rules_bad {d : D} (h1 : f_Menu_is_plan [menuO w rows, d] = .ok (.bl false)) : f_Task_rules [menuO w rows, d] = .exc "NotAPlan" [] := by
  simp [-cb_iff, -cb_nif, -bFld, f_Task_rules, g_Task_rules, h1]
/-! ### solve -/
def prices (c : List Int) (rows : Rw) : List Int := rows.map (dotZ c)
theorem prices_lc (M : Mn w rows) (hc : c.length = w) (hb : Bd 200 c) {f : Sl → Res D} {i : Nat} {ρ : Sl} (hf : ∀ r, f_dot [vec c, vec r] = .ok (.int (dotZ c r)) → f (ρ.set i (.v (vec r))) = .ok (.int (dotZ c r))) : lcRun (PF.gName i) tYesF f ρ (rows.map vec) [] = .ok ((prices c rows).map D.int) := by
  have e := lc_map (g := PF.gName i) (f := f) (ρ := ρ) vec (fun r => D.int (dotZ c r)) rows (fun r hr => ⟨_, rfl, hf r (dot_vv hb ((M.bd r hr).up (by decide)) (by rw [hc]; have := M.w8; omega))⟩) (by have := M.n24; omega)
  rw [e]
  simp [prices]
theorem prices_ne (M : Mn w rows) : prices c rows ≠ [] := by
  intro h
  have := M.n1
  have h2 : (prices c rows).length = rows.length := by simp [prices]
  rw [h] at h2
  simp at h2
  omega
/-- the first cheapest plan -/
def best (c : List Int) (rows : Rw) : Nat := (ixOf (lmin (prices c rows)) (prices c rows)).getD 0
theorem best_ix (M : Mn w rows) : ixOf (lmin (prices c rows)) (prices c rows) = some (best c rows) ∧ best c rows < rows.length := by
  obtain ⟨j, h1, h2⟩ := ixOf_mem (lmin_mem (prices_ne (c := c) M))
  have : best c rows = j := by unfold best; rw [h1]; rfl
  rw [this]
  exact ⟨h1, by simpa [prices] using h2⟩
theorem dI (ns : List Int) : dInts (ns.map D.int) = some ns := by
  have := dInts_of (fun x : Int => x) ns
  simpa using this
theorem bmin_ok {ns : List Int} (h : ns ≠ []) : bMin (.lst (ns.map D.int)) = .ok (.int (lmin ns)) := by
  cases ns with
  | nil => exact absurd rfl h
  | cons n ns =>
    unfold bMin
    have e : seqOf (D.lst ((n :: ns).map D.int)) = some ((n :: ns).map D.int) := rfl
    rw [e]
    simp only [dI]
theorem solve_ok (M : Mn w rows) (hc : c.length = w) (hb : Bd 200 c) : f_Menu_solve [menuO w rows, vec c] = .ok (.tup [.str "best", .int (best c rows : Int), .non]) := by
  have h1 := check_ok (rows := rows) hc
  have e := prices_lc (f := b1_Menu_solve) (i := 3) (ρ := [.v (menuO w rows), .v (vec c), .e, .e]) M hc hb (fun r h => by simp [b1_Menu_solve, h])
  have h2 := bmin_ok (prices_ne (c := c) M)
  have h3 := (best_ix (c := c) M).1
  have e4 : dSeq (rowsT rows) = .ok (rows.map vec) := rfl
  have h5 : gIdx ((prices c rows).map D.int) (.int (lmin (prices c rows))) = .ok (.int (best c rows : Int)) := by
    simp only [gIdx, dI, h3]
  have e5 : ∀ ds, seqOf (D.lst ds) = some ds := fun _ => rfl
  simp [-cb_iff, -cb_nif, -bFld, -dSeq, -bMin, -gIdx, -seqOf, f_Menu_solve, g_Menu_solve, h1, e4, e, h2, h5, e5]
theorem solve_bad (hc : c.length ≠ w) : f_Menu_solve [menuO w rows, vec c] = .exc "BadNumber" [] := by
  have h1 := check_bad (rows := rows) hc
  simp [-cb_iff, -cb_nif, -bFld, f_Menu_solve, g_Menu_solve, h1]
end
end M_k11

set_option Elab.async false
set_option linter.all false
set_option maxRecDepth 100000
set_option maxHeartbeats 4000000
namespace M_k11
open PySem L2 PF ML S_k11 LC_k11
section
variable {w : Nat} {rows : Rw} {c : List Int}
/-! ### judge -/
theorem ok_best : eqOk (.str "best") = true := eqOk_str (by decide +kernel)
theorem ok_none : eqOk (.str "none") = true := eqOk_str (by decide +kernel)
theorem ok_open : eqOk (.str "open") = true := eqOk_str (by decide +kernel)
theorem ok_Best : eqOk (.str "Best") = true := eqOk_str (by decide +kernel)
theorem s1 : (("open" : Str) == ("best" : Str)) = false := by decide
theorem s2 : (("Best" : Str) == ("best" : Str)) = false := by decide
theorem s3 : (("none" : Str) == ("best" : Str)) = false := by decide
theorem eqv_is (i : Int) (x : Str) : eqv (.int i) (.str x) = false := by simp [eqv, D.py, PyData.eqv]
theorem form_ok (a b : D) : f_has_form [.tup [.str "best", a, b], .str "best", .int 3] = .ok (.bl true) := by
  simp [f_has_form, g_has_form, ok_best]
theorem form_ne {x a b : D} (h1 : eqOk x = true) (h2 : eqv x (.str "best") = false) : f_has_form [.tup [x, a, b], .str "best", .int 3] = .ok (.bl false) := by
  simp [f_has_form, g_has_form, ok_best, h1, h2]
theorem form_len {ds : List D} (h : ds.length ≠ 3) : f_has_form [.tup ds, .str "best", .int 3] = .ok (.bl false) := by
  have h2 : ¬ ((ds.length : Int) = 3) := by omega
  simp [f_has_form, g_has_form, h2]
theorem form_int (i : Int) : f_has_form [.int i, .str "best", .int 3] = .ok (.bl false) := by simp [f_has_form, g_has_form]
theorem form_non : f_has_form [.non, .str "best", .int 3] = .ok (.bl false) := by simp [f_has_form, g_has_form]
theorem form_str (x : Str) : f_has_form [.str x, .str "best", .int 3] = .ok (.bl false) := by simp [f_has_form, g_has_form]
theorem judge_f {d : D} (hc : c.length = w) (h : f_has_form [d, .str "best", .int 3] = .ok (.bl false)) : f_Menu_judge [menuO w rows, vec c, d] = .ok (.bl false) := by
  have h1 := check_ok (rows := rows) hc
  simp [-cb_iff, -cb_nif, -bFld, -dSeq, -oIx, f_Menu_judge, g_Menu_judge, h1, h]
theorem judge_2 {a b : D} (hc : c.length = w) (hb : oNotN b .non = .ok (.bl true)) : f_Menu_judge [menuO w rows, vec c, .tup [.str "best", a, b]] = .ok (.bl false) := by
  have h1 := check_ok (rows := rows) hc
  have h2 := form_ok a b
  simp [-cb_iff, -cb_nif, -bFld, -dSeq, -oIx, -oNotN, f_Menu_judge, g_Menu_judge, h1, h2, hb]
theorem judge_1 {a : D} (hc : c.length = w) (ha : f_Menu_is_plan [menuO w rows, a] = .ok (.bl false)) : f_Menu_judge [menuO w rows, vec c, .tup [.str "best", a, .non]] = .ok (.bl false) := by
  have h1 := check_ok (rows := rows) hc
  have h2 := form_ok a .non
  simp [-cb_iff, -cb_nif, -bFld, -dSeq, -oIx, f_Menu_judge, g_Menu_judge, h1, h2, ha]
theorem judge_bad {d : D} (hc : c.length ≠ w) : f_Menu_judge [menuO w rows, vec c, d] = .exc "BadNumber" [] := by
  have h1 := check_bad (rows := rows) hc
  simp [-cb_iff, -cb_nif, -bFld, -dSeq, -oIx, f_Menu_judge, g_Menu_judge, h1]
theorem dB {α : Type} (p : α → Bool) (xs : List α) : dBls (xs.map fun x => D.bl (p x)) = some (xs.map p) := dBls_of p xs
theorem judge_ok (M : Mn w rows) (hc : c.length = w) (hb : Bd 200 c) {p : Nat} (h : p < rows.length) : f_Menu_judge [menuO w rows, vec c, .tup [.str "best", .int (p : Int), .non]] = .ok (.bl (rows.all fun r => cb (dotZ c rows[p] ≤ dotZ c r))) := by
  have h1 := check_ok (rows := rows) hc
  have h2 := form_ok (.int (p : Int)) .non
  have h3 := plan_in (w := w) h
  have h4 := ixRows h
  have h5 := dot_vv hb (M.bd2 h) (by rw [hc]; have := M.w8; omega)
  have e := lc_map (g := PF.gName 4) (f := b1_Menu_judge) (ρ := [.v (menuO w rows), .v (vec c), .v (.tup [.str "best", .int (p : Int), .non]), .v (.int (dotZ c rows[p])), .e]) vec (fun r => D.bl (cb (dotZ c rows[p] ≤ dotZ c r))) rows
    (fun r hr => ⟨_, rfl, by
      have := dot_vv hb ((M.bd r hr).up (by decide)) (by rw [hc]; have := M.w8; omega)
      simp [-cb_iff, -cb_nif, b1_Menu_judge, this]⟩) (by have := M.n24; omega)
  have e2 := dB (fun r => cb (dotZ c rows[p] ≤ dotZ c r)) rows
  have e4 : dSeq (rowsT rows) = .ok (rows.map vec) := rfl
  simp [-cb_iff, -cb_nif, -bFld, -dSeq, -oIx, f_Menu_judge, g_Menu_judge, h1, h2, h3, h4, h5, e, e2, e4]
/-! ### the making -/
@[simp high] theorem wu : (("width" : Str) = ("usages" : Str)) = False := eq_false (by decide)
theorem task_ok (x : Addr) (h1 : 1 ≤ w) (h8 : w ≤ 8) : f_Task_init x [] [.int (w : Int)] = .ok [("width", .int (w : Int))] := by
  simp [-cb_iff, -cb_nif, f_Task_init, g_Task_init, cb_t (show (1 : Int) ≤ (w : Int) by omega), cb_t (show (w : Int) ≤ 8 by omega), cb_t h1, cb_t h8]
theorem task_bad (x : Addr) {i : Int} (h : i < 1 ∨ 8 < i) : f_Task_init x [] [.int i] = .exc "BadTask" [] := by
  by_cases c0 : (1 : Int) ≤ i
  · simp [-cb_iff, -cb_nif, f_Task_init, g_Task_init, cb_t c0, cb_f (show ¬ i ≤ 8 by omega)]
  · simp [-cb_iff, -cb_nif, f_Task_init, g_Task_init, cb_f c0]
theorem init_run (x : Addr) (us : D) (wi : Int) : ∀ (rs : Rw) (kr : Cell), (∃ kr', (∀ r ∈ rs, (r.length : Int) = wi) ∧ forRun (PF.gName 4) b1_Menu_init (rs.map vec) [.v (.raw x), .v (.int wi), .v us, .e, kr] = .nx [.v (.raw x), .v (.int wi), .v us, .e, kr']) ∨
    ((∃ r ∈ rs, (r.length : Int) ≠ wi) ∧ ∃ ρ', forRun (PF.gName 4) b1_Menu_init (rs.map vec) [.v (.raw x), .v (.int wi), .v us, .e, kr] = .exc "BadTask" [] ρ')
  | [], kr => .inl ⟨kr, by simp, rfl⟩
  | r :: rs, kr => by
    have h0 := len_vec r
    by_cases h : (r.length : Int) = wi
    · have hb : b1_Menu_init [.v (.raw x), .v (.int wi), .v us, .e, .v (vec r)] = .nx [.v (.raw x), .v (.int wi), .v us, .e, .v (vec r)] := by simp [-bLen, b1_Menu_init, h0, h]
      rcases init_run x us wi rs (.v (vec r)) with ⟨kr', h1, h2⟩ | ⟨⟨r', h1, h2⟩, ρ', h3⟩
      · refine .inl ⟨kr', fun r' hr => ?_, ?_⟩
        · rcases List.mem_cons.mp hr with e | e
          · rw [e]; exact h
          · exact h1 r' e
        · rw [List.map_cons]
          simp only [forRun, PF.gName, List.set_cons_succ, List.set_cons_zero, hb]
          simpa using h2
      · refine .inr ⟨⟨r', by simp [h1], h2⟩, ρ', ?_⟩
        rw [List.map_cons]
        simp only [forRun, PF.gName, List.set_cons_succ, List.set_cons_zero, hb]
        simpa using h3
    · have hb : b1_Menu_init [.v (.raw x), .v (.int wi), .v us, .e, .v (vec r)] = .exc "BadTask" [] [.v (.raw x), .v (.int wi), .v us, .e, .v (vec r)] := by simp [-bLen, b1_Menu_init, h0, h]
      refine .inr ⟨⟨r, by simp, h⟩, [.v (.raw x), .v (.int wi), .v us, .e, .v (vec r)], ?_⟩
      rw [List.map_cons]
      simp only [forRun, PF.gName, List.set_cons_succ, List.set_cons_zero, hb]
      try simp
theorem init_ok (M : Mn w rows) (x : Addr) : f_Menu_init x [] [.int (w : Int), rowsL rows] = .ok [("width", .int (w : Int)), ("usages", rowsT rows)] := by
  have h1 := task_ok x M.w1 M.w8
  have n1 := M.n1
  have n24 := M.n24
  rcases init_run x (rowsL rows) (w : Int) rows .e with ⟨kr', _, h2⟩ | ⟨⟨r, hr, h2⟩, _⟩
  · have e := lc_map (g := PF.gName 4) (f := sUn bTup (sRd 4)) (ρ := [.v (.raw x), .v (.int (w : Int)), .v (rowsL rows), .e, .e]) vec vec rows (fun r hr => ⟨_, rfl, by simp [vec]⟩) (by omega)
    have e2 : dSeq (rowsL rows) = .ok (rows.map vec) := rfl
    have e3 : bLen (rowsL rows) = .ok (.int (rows.length : Int)) := by simp [rowsL]
    have e4 : bTup (.lst (rows.map vec)) = .ok (rowsT rows) := by simp [rowsT]
    simp [-cb_iff, -cb_nif, -dSeq, -bLen, -bTup, f_Menu_init, g_Menu_init, h1, e2, e3, cb_t (show (1 : Int) ≤ (rows.length : Int) by omega), cb_t (show (rows.length : Int) ≤ 24 by omega), cb_t n1, cb_t n24, h2, e, e4]
  · exact absurd (M.len r hr) (by omega)
theorem init_bad (wi : Int) (rs : Rw) (x : Addr) (h : wi < 1 ∨ 8 < wi ∨ rs.length = 0 ∨ 24 < rs.length ∨ ∃ r ∈ rs, (r.length : Int) ≠ wi) : f_Menu_init x [] [.int wi, rowsL rs] = .exc "BadTask" [] := by
  by_cases h1 : wi < 1 ∨ 8 < wi
  · have h2 := task_bad x h1
    simp [-cb_iff, -cb_nif, -dSeq, -bLen, -bTup, f_Menu_init, g_Menu_init, h2]
  · have hw : wi = ((wi.toNat : Nat) : Int) := by omega
    have h2 := task_ok (w := wi.toNat) x (by omega) (by omega)
    rw [← hw] at h2
    have e3 : bLen (rowsL rs) = .ok (.int (rs.length : Int)) := by simp [rowsL]
    have e2 : dSeq (rowsL rs) = .ok (rs.map vec) := rfl
    by_cases h3 : (1 : Int) ≤ (rs.length : Int)
    · by_cases h4 : (rs.length : Int) ≤ 24
      · rcases init_run x (rowsL rs) wi rs .e with ⟨kr', h5, _⟩ | ⟨_, ρ', h5⟩
        · exfalso
          rcases h with h | h | h | h | ⟨r, hr, h⟩
          · omega
          · omega
          · omega
          · omega
          · exact h (h5 r hr)
        · simp [-cb_iff, -cb_nif, -dSeq, -bLen, -bTup, f_Menu_init, g_Menu_init, h2, e2, e3, cb_t h3, cb_t h4, cb_t (show 1 ≤ rs.length by omega), cb_t (show rs.length ≤ 24 by omega), h5]
      · simp [-cb_iff, -cb_nif, -dSeq, -bLen, -bTup, f_Menu_init, g_Menu_init, h2, e3, cb_t h3, cb_f h4, cb_t (show 1 ≤ rs.length by omega), cb_f (show ¬ rs.length ≤ 24 by omega)]
    · simp [-cb_iff, -cb_nif, -dSeq, -bLen, -bTup, f_Menu_init, g_Menu_init, h2, e3, cb_f h3, cb_f (show ¬ 1 ≤ rs.length by omega)]
end
end M_k11

set_option Elab.async false
set_option linter.all false
set_option maxRecDepth 100000
set_option maxHeartbeats 4000000
namespace M_k11
open PySem L2 PF ML S_k11 LC_k11
/-! ### the law's own defs -/
theorem ldot_run (d e : D) (a b : List Int) (hd : seqI d = some a) (he : seqI e = some b) (hl : a.length = b.length) (sa : Bd 200 a) (sb : Bd 200 b) : ∀ (m k : Nat) (t : Int) (kc : Cell), k + m = a.length → ∃ kc', forRun (PF.gName 3) b1_ulaw_dot ((List.range' k m).map fun (j : Nat) => D.int (j : Int)) [.v d, .v e, .v (.int t), kc] = .nx [.v d, .v e, .v (.int (t + dotZ (a.drop k) (b.drop k))), kc']
  | 0, k, t, kc, h => ⟨kc, by
    have e1 : a.drop k = [] := List.drop_eq_nil_of_le (by omega)
    simp [forRun, e1, dotZ]⟩
  | m + 1, k, t, kc, h => by
    have ka : k < a.length := by omega
    have kb : k < b.length := by omega
    obtain ⟨kc', ih⟩ := ldot_run d e a b hd he hl sa sb m (k + 1) (t + a[k] * b[k]) (.v (.int (k : Int))) (by omega)
    refine ⟨kc', ?_⟩
    have i1 : oIx d (.int (k : Int)) = .ok (.int a[k]) := ix_seqI hd rfl ka
    have i2 : oIx e (.int (k : Int)) = .ok (.int b[k]) := ix_seqI he rfl kb
    have hm : mulOk a[k] b[k] = true := mulOk_b (sa _ (List.getElem_mem ka)) (sb _ (List.getElem_mem kb)) (by decide)
    have step : b1_ulaw_dot [.v d, .v e, .v (.int t), .v (.int (k : Int))] = .nx [.v d, .v e, .v (.int (t + a[k] * b[k])), .v (.int (k : Int))] := by
      simp [-oIx, b1_ulaw_dot, i1, i2, hm]
    rw [List.range'_succ, List.map_cons]
    simp only [forRun, PF.gName, List.set_cons_succ, List.set_cons_zero, step]
    rw [ih]
    rw [List.drop_eq_getElem_cons ka, List.drop_eq_getElem_cons kb]
    simp only [dotZ]
    rw [Int.add_assoc]
theorem rng_r (n : Nat) : rngD 0 n = (List.range' 0 n).map (fun (j : Nat) => D.int (j : Int)) := by simp [rngD, List.range_eq_range']
theorem ldot_ok (a b : List Int) (hl : a.length = b.length) (sa : Bd 200 a) (sb : Bd 200 b) (h : a.length ≤ 1000) : f_ulaw_dot [vec a, vec b] = .ok (.int (dotZ a b)) := by
  obtain ⟨kc', h1⟩ := ldot_run (vec a) (vec b) a b (seqI_v a) (seqI_v b) hl sa sb a.length 0 0 .e (by omega)
  rw [← rng_r] at h1
  simp only [List.drop_zero, Int.zero_add] at h1
  have hg := rng1_ok (n := a.length) (by omega)
  simp [-bLen, -gRng1, f_ulaw_dot, g_ulaw_dot, len_vec, hg, h1]
theorem bool_ok (a b : Bool) : f_ulaw_is_bool [.bl a, .bl b] = .ok (.bl (decide (a = b))) := by
  cases a <;> cases b <;> simp [f_ulaw_is_bool, g_ulaw_is_bool, eqv, D.py, PyData.eqv]
/-! ### _law_error -/
@[simp high] theorem tc1 : t_CostsError "BadNumber" = some true := rfl
@[simp high] theorem tc2 : t_CostsError "BadTask" = some true := rfl
@[simp high] theorem tc3 : t_CostsError "NotAPlan" = some true := rfl
@[simp high] theorem tb1 : t_BadNumber "BadNumber" = some true := rfl
@[simp high] theorem tb2 : t_BadNumber "BadTask" = some false := rfl
@[simp high] theorem tb3 : t_BadNumber "NotAPlan" = some false := rfl
@[simp high] theorem tn1 : t_NotAPlan "BadNumber" = some false := rfl
@[simp high] theorem tn2 : t_NotAPlan "BadTask" = some false := rfl
@[simp high] theorem tn3 : t_NotAPlan "NotAPlan" = some true := rfl
@[simp high] theorem tt1 : t_BadTask "BadNumber" = some false := rfl
@[simp high] theorem tt2 : t_BadTask "BadTask" = some true := rfl
@[simp high] theorem tt3 : t_BadTask "NotAPlan" = some false := rfl
@[simp high] theorem tu1 : t_Unlied_BadPer_NoCots_BadQon_BadRge_BadSen_TooMny_BadTxt_BadNme "BadNumber" = some false := rfl
@[simp high] theorem tu2 : t_Unlied_BadPer_NoCots_BadQon_BadRge_BadSen_TooMny_BadTxt_BadNme "BadTask" = some false := rfl
@[simp high] theorem tu3 : t_Unlied_BadPer_NoCots_BadQon_BadRge_BadSen_TooMny_BadTxt_BadNme "NotAPlan" = some false := rfl
@[simp high] theorem tk1 : t_Unknme_Staley "BadNumber" = some false := rfl
@[simp high] theorem tk2 : t_Unknme_Staley "BadTask" = some false := rfl
@[simp high] theorem tk3 : t_Unknme_Staley "NotAPlan" = some false := rfl
@[simp high] theorem tv1 : t_ValueError "BadNumber" = some true := rfl
@[simp high] theorem tv2 : t_ValueError "BadTask" = some true := rfl
@[simp high] theorem tv3 : t_ValueError "NotAPlan" = some true := rfl
section
variable {w : Nat} {rows : Rw} {c : List Int} {a b : D}
theorem er0 (h : f_Task_cost_of [menuO w rows, a, b] = .exc "BadNumber" []) : f_ulaw_error [.int 0, menuO w rows, a, b] = .ok (.int 4) := by
  have m1 : ∀ i, mulOk 4 i = true := fun i => mulOk_l (by decide)
  have m2 : ∀ i, mulOk 2 i = true := fun i => mulOk_l (by decide)
  simp [-cb_iff, -cb_nif, f_ulaw_error, g_ulaw_error, h, m1, m2]
theorem er0n (h : f_Task_cost_of [menuO w rows, a, b] = .exc "NotAPlan" []) : f_ulaw_error [.int 0, menuO w rows, a, b] = .ok (.int 2) := by
  have m1 : ∀ i, mulOk 4 i = true := fun i => mulOk_l (by decide)
  have m2 : ∀ i, mulOk 2 i = true := fun i => mulOk_l (by decide)
  simp [-cb_iff, -cb_nif, f_ulaw_error, g_ulaw_error, h, m1, m2]
theorem er1 (h : f_Menu_solve [menuO w rows, a] = .exc "BadNumber" []) : f_ulaw_error [.int 1, menuO w rows, a, b] = .ok (.int 4) := by
  have m1 : ∀ i, mulOk 4 i = true := fun i => mulOk_l (by decide)
  have m2 : ∀ i, mulOk 2 i = true := fun i => mulOk_l (by decide)
  simp [-cb_iff, -cb_nif, f_ulaw_error, g_ulaw_error, h, m1, m2]
theorem er2 (h : f_Menu_judge [menuO w rows, a, b] = .exc "BadNumber" []) : f_ulaw_error [.int 2, menuO w rows, a, b] = .ok (.int 4) := by
  have m1 : ∀ i, mulOk 4 i = true := fun i => mulOk_l (by decide)
  have m2 : ∀ i, mulOk 2 i = true := fun i => mulOk_l (by decide)
  simp [-cb_iff, -cb_nif, f_ulaw_error, g_ulaw_error, h, m1, m2]
theorem er3 (h : f_Task_usage [menuO w rows, b] = .exc "NotAPlan" []) : f_ulaw_error [.int 3, menuO w rows, a, b] = .ok (.int 2) := by
  have m1 : ∀ i, mulOk 4 i = true := fun i => mulOk_l (by decide)
  have m2 : ∀ i, mulOk 2 i = true := fun i => mulOk_l (by decide)
  simp [-cb_iff, -cb_nif, f_ulaw_error, g_ulaw_error, h, m1, m2]
theorem er4 (h : f_Task_rules [menuO w rows, b] = .exc "NotAPlan" []) : f_ulaw_error [.int 4, menuO w rows, a, b] = .ok (.int 2) := by
  have m1 : ∀ i, mulOk 4 i = true := fun i => mulOk_l (by decide)
  have m2 : ∀ i, mulOk 2 i = true := fun i => mulOk_l (by decide)
  simp [-cb_iff, -cb_nif, f_ulaw_error, g_ulaw_error, h, m1, m2]
theorem er5 : f_ulaw_error [.int 5, menuO w rows, a, b] = .ok (.int 2) := by
  have m1 : ∀ i, mulOk 4 i = true := fun i => mulOk_l (by decide)
  have m2 : ∀ i, mulOk 2 i = true := fun i => mulOk_l (by decide)
  have h : f_Task_drift [menuO w rows, b] = .exc "NotAPlan" [] := by simp [f_Task_drift, g_Task_drift]
  simp [-cb_iff, -cb_nif, f_ulaw_error, g_ulaw_error, h, m1, m2]
theorem er6 {i : Int} {rs : Rw} {o : D} (h : i < 1 ∨ 8 < i ∨ rs.length = 0 ∨ 24 < rs.length ∨ ∃ r ∈ rs, (r.length : Int) ≠ i) : f_ulaw_error [.int 6, o, .int i, rowsL rs] = .ok (.int 1) := by
  have m1 : ∀ i, mulOk 4 i = true := fun i => mulOk_l (by decide)
  have m2 : ∀ i, mulOk 2 i = true := fun i => mulOk_l (by decide)
  have h2 : aAny (fun x => f_Menu_init x [] [.int i, rowsL rs]) = .exc "BadTask" [] := aAny_eq (init_bad i rs · h)
  simp [-cb_iff, -cb_nif, f_ulaw_error, g_ulaw_error, h2, m1, m2]
theorem er6o {o : D} (M : Mn w rows) : f_ulaw_error [.int 6, o, .int (w : Int), rowsL rows] = .ok (.int 0) := by
  have h2 : aAny (fun x => f_Menu_init x [] [.int (w : Int), rowsL rows]) = .ok _ := aAny_eq (init_ok M)
  simp [-cb_iff, -cb_nif, f_ulaw_error, g_ulaw_error, h2]
theorem make_ok {fs : Sl → Res (List D)} {ρ : Sl} (M : Mn w rows) (h : fs ρ = .ok [.int (w : Int), rowsL rows]) : sMake "Menu" f_Menu_init fs ρ = .ok (menuO w rows) := by
  have h2 : aAny (fun x => f_Menu_init x [] [.int (w : Int), rowsL rows]) = .ok _ := aAny_eq (init_ok M)
  simp [h, h2]
end
end M_k11

set_option Elab.async false
set_option linter.all false
set_option maxRecDepth 100000
set_option maxHeartbeats 4000000
namespace M_k11
open PySem L2 PF ML S_k11 LC_k11
/-! ### the drawn rows -/
theorem amount_ok (f s m : Int) (hf : 0 ≤ f ∧ f < 2147483648) (hs : 0 ≤ s ∧ s < 2147483648) : ∃ z : Int, z.natAbs < 2 ^ 140 ∧ f_ulaw_amount [.int f, .int s, .int m] = .ok (.int z) := by
  by_cases m0 : m = 0
  · subst m0
    have := fmod_b f 6 (by decide)
    exact ⟨f.fmod 6, Nat.lt_of_lt_of_le (show (f.fmod 6).natAbs < 2 ^ 3 by omega) (by decide), by simp [f_ulaw_amount, g_ulaw_amount]⟩
  by_cases m1 : m = 1
  · subst m1
    have := fmod_b f 19 (by decide)
    exact ⟨f.fmod 19 - 9, Nat.lt_of_lt_of_le (show (f.fmod 19 - 9).natAbs < 2 ^ 5 by omega) (by decide), by simp [f_ulaw_amount, g_ulaw_amount]⟩
  by_cases m2 : m = 2
  · subst m2
    have a1 : ∀ i, mulOk f i = true := fun i => mulOk_l (by omega)
    have a2 : ∀ i, mulOk s i = true := fun i => mulOk_l (by omega)
    have a3 : ∀ i, mulOk i 7919 = true := fun i => mulOk_r (by decide)
    have a4 : ∀ i, mulOk 2 i = true := fun i => mulOk_l (by decide)
    have q2 := fmod_b s 2 (by decide)
    have a5 : ∀ i, mulOk i (1 - 2 * s.fmod 2) = true := fun i => mulOk_r (by omega)
    refine ⟨(f * 10 ^ 32 + s * 10 ^ 16 + f * s * 7919).fmod (10 ^ 40) * (1 - 2 * s.fmod 2), ?_, by simp [f_ulaw_amount, g_ulaw_amount, a1, a2, a3, a4, a5]⟩
    generalize f * 10 ^ 32 + s * 10 ^ 16 + f * s * 7919 = q
    have b1 := fmod_b q (10 ^ 40) (by decide)
    generalize q.fmod (10 ^ 40) = r at *
    have b2 : r.natAbs < 2 ^ 133 := Nat.lt_of_lt_of_le (show r.natAbs < 10 ^ 40 by omega) (by decide)
    exact b_up (b_mul b2 (show (1 - 2 * s.fmod 2).natAbs < 2 ^ 1 by omega)) (by decide)
  · have := fmod_b f 3 (by decide)
    exact ⟨f.fmod 3, Nat.lt_of_lt_of_le (show (f.fmod 3).natAbs < 2 ^ 2 by omega) (by decide), by simp [f_ulaw_amount, g_ulaw_amount, m0, m1, m2]⟩
theorem vec_run (cs : List Int) (hb : ∀ x ∈ cs, 0 ≤ x ∧ x < 2147483648) (w : Nat) (hw : w ≤ 8) (dm md : Int) (vs : List D) (j : Nat) : ∀ (m k : Nat) (v : List Int) (kc ka : Cell), k + m = w → 2 * (w * j + w) ≤ cs.length → v.length = k → Bd 140 v →
    ∃ (v' : List Int) (kc' ka' : Cell), v'.length = w ∧ Bd 140 v' ∧ forRun (PF.gName 7) b1_ulaw_vectors ((List.range' k m).map fun (i : Nat) => D.int (i : Int)) [.v (.lst (cs.map D.int)), .v (.int dm), .v (.int (w : Int)), .v (.int md), .o vs, .v (.int (j : Int)), .o (v.map D.int), kc, ka] =
      .nx [.v (.lst (cs.map D.int)), .v (.int dm), .v (.int (w : Int)), .v (.int md), .o vs, .v (.int (j : Int)), .o (v'.map D.int), kc', ka']
  | 0, k, v, kc, ka, h, _, hv, hB => ⟨v, kc, ka, by omega, hB, by simp [forRun]⟩
  | m + 1, k, v, kc, ka, h, hc, hv, hB => by
    have i1 : 2 * (w * j + k) + 1 < cs.length := by omega
    have i2 : 2 * (w * j + k) < cs.length := by omega
    obtain ⟨z, hz, hza⟩ := amount_ok cs[2 * (w * j + k)] cs[2 * (w * j + k) + 1] md (hb _ (List.getElem_mem i2)) (hb _ (List.getElem_mem i1))
    obtain ⟨v', kc', ka', h1, h2, h3⟩ := vec_run cs hb w hw dm md vs j m (k + 1) (v ++ [z]) (.v (.int (k : Int))) (.v (.int (2 * ((w : Int) * (j : Int) + (k : Int))))) (by omega) hc (by simp [hv]) (fun x hx => (List.mem_append.mp hx).elim (hB x) fun q => by rw [List.mem_singleton.mp q]; exact hz)
    refine ⟨v', kc', ka', h1, h2, ?_⟩
    have e1 : oIx (.lst (cs.map D.int)) (.int (2 * ((w : Int) * (j : Int) + (k : Int)))) = .ok (.int cs[2 * (w * j + k)]) := ix_seqI (seqI_l cs) (by simp) i2
    have e2 : oIx (.lst (cs.map D.int)) (.int (2 * ((w : Int) * (j : Int) + (k : Int)) + 1)) = .ok (.int cs[2 * (w * j + k) + 1]) := ix_seqI (seqI_l cs) (by simp) i1
    have m1 : mulOk (w : Int) (j : Int) = true := mulOk_l (by omega)
    have m2 : ∀ i, mulOk 2 i = true := fun i => mulOk_l (by decide)
    have hl : v.length < 16777216 := by omega
    have step : b1_ulaw_vectors [.v (.lst (cs.map D.int)), .v (.int dm), .v (.int (w : Int)), .v (.int md), .o vs, .v (.int (j : Int)), .o (v.map D.int), .v (.int (k : Int)), ka] = .nx [.v (.lst (cs.map D.int)), .v (.int dm), .v (.int (w : Int)), .v (.int md), .o vs, .v (.int (j : Int)), .o ((v ++ [z]).map D.int), .v (.int (k : Int)), .v (.int (2 * ((w : Int) * (j : Int) + (k : Int))))] := by
      generalize hC : cs.map D.int = C at *
      simp [-oIx, -thaw, b1_ulaw_vectors, m1, m2, e1, e2, hza, hl]
    rw [List.range'_succ, List.map_cons]
    simp only [forRun, PF.gName, List.set_cons_succ, List.set_cons_zero, step]
    exact h3
theorem vecs_run (cs : List Int) (hb : ∀ x ∈ cs, 0 ≤ x ∧ x < 2147483648) (w : Nat) (hw : w ≤ 8) (n : Nat) (hn : n ≤ 24) (md : Int) (hc : 2 * (w * n) ≤ cs.length) : ∀ (m j : Nat) (rs : Rw) (kj kv kc ka : Cell), j + m = n → rs.length = j → (∀ r ∈ rs, r.length = w ∧ Bd 140 r) →
    ∃ (rs' : Rw) (kj' kv' kc' ka' : Cell), rs'.length = n ∧ (∀ r ∈ rs', r.length = w ∧ Bd 140 r) ∧ forRun (PF.gName 5) b2_ulaw_vectors ((List.range' j m).map fun (i : Nat) => D.int (i : Int)) [.v (.lst (cs.map D.int)), .v (.int (n : Int)), .v (.int (w : Int)), .v (.int md), .o (rs.map vec), kj, kv, kc, ka] =
      .nx [.v (.lst (cs.map D.int)), .v (.int (n : Int)), .v (.int (w : Int)), .v (.int md), .o (rs'.map vec), kj', kv', kc', ka']
  | 0, j, rs, kj, kv, kc, ka, h, hr, hB => ⟨rs, kj, kv, kc, ka, by omega, hB, by simp [forRun]⟩
  | m + 1, j, rs, kj, kv, kc, ka, h, hr, hB => by
    have hj : j + 1 ≤ n := by omega
    have hwj : w * j + w ≤ w * n := by
      have := Nat.mul_le_mul_left w hj
      rw [Nat.mul_add, Nat.mul_one] at this
      exact this
    obtain ⟨v, kc', ka', h1, h2, h3⟩ := vec_run cs hb w hw (n : Int) md (rs.map vec) j w 0 [] kc ka (by omega) (by omega) rfl (fun _ h => by simp at h)
    rw [← rng_r] at h3
    obtain ⟨rs', kj2, kv2, kc2, ka2, g1, g2, g3⟩ := vecs_run cs hb w hw n hn md hc m (j + 1) (rs ++ [v]) (.v (.int (j : Int))) (.o (v.map D.int)) kc' ka' (by omega) (by simp [hr]) (fun r hx => (List.mem_append.mp hx).elim (hB r) fun q => by rw [List.mem_singleton.mp q]; exact ⟨h1, h2⟩)
    refine ⟨rs', kj2, kv2, kc2, ka2, g1, g2, ?_⟩
    have hg := rng1_ok (n := w) (by omega)
    have hl : rs.length < 16777216 := by omega
    have step : b2_ulaw_vectors [.v (.lst (cs.map D.int)), .v (.int (n : Int)), .v (.int (w : Int)), .v (.int md), .o (rs.map vec), .v (.int (j : Int)), kv, kc, ka] = .nx [.v (.lst (cs.map D.int)), .v (.int (n : Int)), .v (.int (w : Int)), .v (.int md), .o ((rs ++ [v]).map vec), .v (.int (j : Int)), .o (v.map D.int), kc', ka'] := by
      generalize hC : cs.map D.int = C at *
      simp only [List.map_nil] at h3
      simp [-gRng1, b2_ulaw_vectors, hg, h3, hl, vec]
    rw [List.range'_succ, List.map_cons]
    simp only [forRun, PF.gName, List.set_cons_succ, List.set_cons_zero, step]
    exact g3
theorem vectors_ok (cs : List Int) (hb : ∀ x ∈ cs, 0 ≤ x ∧ x < 2147483648) (w : Nat) (hw : w ≤ 8) (n : Nat) (hn : n ≤ 24) (md : Int) (hc : 2 * (w * n) ≤ cs.length) : ∃ rs : Rw, rs.length = n ∧ (∀ r ∈ rs, r.length = w ∧ Bd 140 r) ∧ f_ulaw_vectors [.lst (cs.map D.int), .int (n : Int), .int (w : Int), .int md] = .ok (.fr (rs.map vec)) := by
  obtain ⟨rs, kj, kv, kc, ka, h1, h2, h3⟩ := vecs_run cs hb w hw n hn md hc n 0 [] .e .e .e .e (by omega) rfl (fun _ h => by simp at h)
  rw [← rng_r] at h3
  refine ⟨rs, h1, h2, ?_⟩
  have hg := rng1_ok (n := n) (by omega)
  simp only [List.map_nil] at h3
  generalize cs.map D.int = C at *
  simp [-gRng1, f_ulaw_vectors, g_ulaw_vectors, hg, h3]
/-! ### _law_is_menu -/
theorem eqvA_rows : ∀ a b : Rw, PyData.eqvAll (D.pyA (a.map vec)) (D.pyA (b.map vec)) = decide (a = b)
  | [], [] => by simp [D.pyA, PyData.eqvAll]
  | [], _ :: _ => by simp [D.pyA, PyData.eqvAll]
  | _ :: _, [] => by simp [D.pyA, PyData.eqvAll]
  | x :: a, y :: b => by
    have ih := eqvA_rows a b
    have h := eqv_vec x y
    unfold eqv at h
    simp only [List.map_cons, D.pyA, PyData.eqvAll, ih, h]
    by_cases h1 : x = y <;> by_cases h2 : a = b <;> simp [h1, h2]
theorem eqv_rows (a b : Rw) : eqv (rowsT a) (rowsT b) = decide (a = b) := by
  have := eqvA_rows a b
  simp [rowsT, eqv, D.py, PyData.eqv, this]
theorem lay_rows : ∀ a : Rw, PyData.canLayAll0 (D.pyA (a.map vec)) = true
  | [] => by simp [D.pyA, PyData.canLayAll0]
  | x :: a => by
    have ih := lay_rows a
    simp [D.pyA, PyData.canLayAll0, ih, vec, D.py, PyData.canLay0, pyA_ints, lay_ints]
theorem dep_rows : ∀ a : Rw, PyData.depthAll (D.pyA (a.map vec)) ≤ 1
  | [] => by simp [D.pyA, PyData.depthAll]
  | x :: a => by
    have ih := dep_rows a
    have h : PyData.depth (D.py (vec x)) = 1 := by simp [vec, D.py, PyData.depth, pyA_ints, dep_ints]
    simp only [List.map_cons, D.pyA, PyData.depthAll, h]
    omega
theorem eqOk_rows (a : Rw) : eqOk (rowsT a) = true := sh_of (by simp [rowsT, D.py, PyData.canLay0, lay_rows]) (by
  have := dep_rows a
  simp [rowsT, D.py, PyData.depth]
  omega)
end M_k11

set_option Elab.async false
set_option linter.all false
set_option maxRecDepth 100000
set_option maxHeartbeats 4000000
namespace M_k11
open PySem L2 PF ML S_k11 LC_k11
theorem cut_take (ds : List D) (k : Nat) (h : k ≤ ds.length) : cutD ds none (some (k : Int)) = ds.take k := by
  unfold cutD
  rw [HT.sIx_none, HT.sIx_nat]
  simp [Nat.min_eq_left h]
theorem cut_drop (ds : List D) (k : Nat) (h : k ≤ ds.length) : cutD ds (some (k : Int)) none = ds.drop k := by
  unfold cutD
  rw [HT.sIx_none, HT.sIx_nat, Nat.min_eq_left h]
  exact List.take_of_length_le (by rw [List.length_drop]; omega)
theorem lc_all {g : FG} {f : Sl → Res D} {ρ : Sl} (ds : List D) (hf : ∀ d ∈ ds, ∃ ρ1, g d ρ = some ρ1 ∧ f ρ1 = .ok (.bl true)) (hl : ds.length ≤ 100000) : lcRun g tYesF f ρ ds [] = .ok (ds.map fun _ => D.bl true) := by
  have := lc_map (g := g) (f := f) (ρ := ρ) (fun d : D => d) (fun _ => D.bl true) ds hf hl
  simpa using this
theorem dB_true (ds : List D) : dBls (ds.map fun _ => D.bl true) = some (ds.map fun _ => true) := dBls_of (fun _ => true) ds
theorem all_true {α : Type} (xs : List α) : (xs.map fun _ => true).all id = true := by simp
theorem eqOk_li (ns : List Int) : eqOk (.lst (ns.map D.int)) = true := sh_of (by simp [D.py, PyData.canLay0, pyA_ints, lay_ints]) (by simp [D.py, PyData.depth, pyA_ints, dep_ints])
theorem eqv_li (ns : List Int) : eqv (.lst (ns.map D.int)) (.lst (ns.map D.int)) = true := by simp [eqv, D.py, pyA_ints, PyData.eqv, eqvA_ints]
theorem eqOk_rg (n : Nat) : eqOk (.lst (rngD 0 n)) = true := by rw [rngD_ints]; exact eqOk_li _
theorem eqv_rg (n : Nat) : eqv (.lst (rngD 0 n)) (.lst (rngD 0 n)) = true := by rw [rngD_ints]; exact eqv_li _
theorem ok_menu : eqOk (.str "menu") = true := eqOk_str (by decide +kernel)
theorem mem_rng {n : Nat} {x : D} (h : x ∈ rngD 0 n) : ∃ k : Nat, k < n ∧ x = .int (k : Int) := by
  rw [rngD_ints] at h
  simp at h
  obtain ⟨k, h1, h2⟩ := h
  exact ⟨k, h1, h2.symm⟩
theorem tup_len {r : List Int} {w : Nat} (h : r.length = w) (hw : w ≤ 1000) : f_ulaw_is_tuple [vec r, .int (w : Int)] = .ok (.bl true) := by
  have := tuple_ok r (by omega)
  rw [h] at this
  exact this
section
variable {w : Nat} {rows : Rw} {c : List Int}
theorem ixRowsL {p : Nat} (h : p < rows.length) : oIx (rowsL rows) (.int (p : Int)) = .ok (vec rows[p]) := by
  unfold rowsL
  simp only [oIx]
  rw [atI_nat (k := p) rfl (by simpa using h)]
  simp
theorem lenL (rows : Rw) : bLen (rowsL rows) = .ok (.int (rows.length : Int)) := by simp [rowsL]
theorem seqL (rows : Rw) : dSeq (rowsL rows) = .ok (rows.map vec) := rfl
theorem seqT (rows : Rw) : dSeq (rowsT rows) = .ok (rows.map vec) := rfl
theorem tyT (rows : Rw) : dTy (rowsT rows) = some "tuple" := rfl
theorem tupL (rows : Rw) : bTup (rowsL rows) = .ok (rowsT rows) := rfl
theorem lrg_ok (n : Nat) (h : n ≤ 1000) {fs : Sl → Res (List D)} {ρ : Sl} (hf : fs ρ = .ok [.int (n : Int)]) : fLRg fs ρ = .ok (rngD 0 n) := by
  have c : cb (-(2 ^ 62) ≤ (n : Int) ∧ (n : Int) ≤ 16777216) = true := cb_t ⟨by omega, by omega⟩
  unfold fLRg
  rw [hf]
  simp only [Res.bind_ok, c, if_true, Int.toNat_natCast]
theorem im_step (M : Mn w rows) (d : D) (ds : List D) (ρ : Sl) (h : (∀ x ∈ d :: ds, ∃ k : Nat, k < rows.length ∧ x = .int (k : Int)) ∧ ∃ kp kt, ρ = [.v (menuO w rows), .v (.int (w : Int)), .v (rowsL rows), .o [], kp, kt, .e]) :
    ∃ ρ1, PF.gName 4 d ρ = some ρ1 ∧ ∃ ρ2, (b3_ulaw_is_menu ρ1 = .nx ρ2 ∨ b3_ulaw_is_menu ρ1 = .ct ρ2) ∧ ((∀ x ∈ ds, ∃ k : Nat, k < rows.length ∧ x = .int (k : Int)) ∧ ∃ kp kt, ρ2 = [.v (menuO w rows), .v (.int (w : Int)), .v (rowsL rows), .o [], kp, kt, .e]) := by
  obtain ⟨h1, kp, kt, rfl⟩ := h
  obtain ⟨p, hp, rfl⟩ := h1 d (by simp)
  refine ⟨[.v (menuO w rows), .v (.int (w : Int)), .v (rowsL rows), .o [], .v (.int (p : Int)), kt, .e], rfl, [.v (menuO w rows), .v (.int (w : Int)), .v (rowsL rows), .o [], .v (.int (p : Int)), .v (.tup [vec rows[p], .int 1]), .e], .inl ?_, fun x hx => h1 x (by simp [hx]), _, _, rfl⟩
  have h2 := usage_ok M hp
  have h3 := tup_len (M.mem hp) (by have := M.w8; omega)
  have h4 := plan_in (w := w) hp
  have h5 := ixRowsL hp
  have h6 := bool_ok true true
  have h7 := whole_ok 1
  simp [-cb_iff, -cb_nif, -bFld, -oIx, -thaw, b3_ulaw_is_menu, h2, h3, h4, h5, h6, h7, eqOk_pt, eqv_pt]
theorem is_menu_ok (M : Mn w rows) : f_ulaw_is_menu [menuO w rows, .int (w : Int), rowsL rows] = .ok (.bl true) := by
  have h1 := whole_ok (w : Int)
  have n24 := M.n24
  have e1 := lc_all (g := PF.gName 6) (f := b1_ulaw_is_menu) (ρ := [.v (menuO w rows), .v (.int (w : Int)), .v (rowsL rows), .e, .e, .e, .e]) (rows.map vec) (fun d hd => by
    obtain ⟨r, hr, rfl⟩ := List.mem_map.mp hd
    exact ⟨_, rfl, by simp [-thaw, b1_ulaw_is_menu, tup_len (M.len r hr) (by have := M.w8; omega)]⟩) (by simpa using Nat.le_trans n24 (by decide))
  have e2 := lc_all (g := PF.gName 4) (f := b2_ulaw_is_menu) (ρ := [.v (menuO w rows), .v (.int (w : Int)), .v (rowsL rows), .v (.lst (rngD 0 rows.length)), .e, .e, .e]) (rngD 0 rows.length) (fun d hd => by
    obtain ⟨k, hk, rfl⟩ := mem_rng hd
    exact ⟨_, rfl, by simp [-thaw, b2_ulaw_is_menu, whole_ok]⟩) (by rw [rngD_len]; omega)
  have hp := plans_ok M
  have hg := rng1_ok (n := rows.length) (by omega)
  obtain ⟨ρ', l1, _, kp, kt, rfl⟩ := for_inv (g := PF.gName 4) (body := b3_ulaw_is_menu) (fun ds ρ => (∀ x ∈ ds, ∃ k : Nat, k < rows.length ∧ x = .int (k : Int)) ∧ ∃ kp kt, ρ = [.v (menuO w rows), .v (.int (w : Int)), .v (rowsL rows), .o [], kp, kt, .e]) (im_step M) (rngD 0 rows.length)
    [.v (menuO w rows), .v (.int (w : Int)), .v (rowsL rows), .o [], .e, .e, .e] ⟨fun x hx => mem_rng hx, .e, .e, rfl⟩
  have lr : ∀ (fs : Sl → Res (List D)) (ρ : Sl), fs ρ = .ok [.int (rows.length : Int)] → fLRg fs ρ = .ok (rngD 0 rows.length) := fun fs ρ h => lrg_ok rows.length (by omega) h
  refine semF_ret ?_
  refine (seq_nx (ρ' := [.v (menuO w rows), .v (.int (w : Int)), .v (rowsL rows), .e, .e, .e, .e]) ?_).trans ?_
  · simp [-bCon, -bIsC, ok_menu]
  refine (seq_nx (ρ' := [.v (menuO w rows), .v (.int (w : Int)), .v (rowsL rows), .e, .e, .e, .e]) ?_).trans ?_
  · simp [-bFld, -thaw, -dTy, h1, tyT]
  refine (seq_nx (ρ' := [.v (menuO w rows), .v (.int (w : Int)), .v (rowsL rows), .e, .e, .e, .e]) ?_).trans ?_
  · simp [-bFld, -thaw, -dSeq, -bTup, -List.map_map, seqT, tupL, e1, dB_true, eqOk_rows, eqv_rows]
  refine (seq_nx (ρ' := [.v (menuO w rows), .v (.int (w : Int)), .v (rowsL rows), .o (rngD 0 rows.length), .e, .e, .e]) ?_).trans ?_
  · simp [-bFld, hp]
  refine (seq_nx (ρ' := [.v (menuO w rows), .v (.int (w : Int)), .v (rowsL rows), .o (rngD 0 rows.length), .e, .e, .e]) ?_).trans ?_
  · simp [-bFld, -thaw, e2, dB_true]
  refine (seq_nx (ρ' := [.v (menuO w rows), .v (.int (w : Int)), .v (rowsL rows), .o (rngD 0 rows.length), .e, .e, .e]) ?_).trans ?_
  · have := lr (aCons (sUn bLen (sRd 2)) aNil) [.v (menuO w rows), .v (.int (w : Int)), .v (rowsL rows), .o (rngD 0 rows.length), .e, .e, .e] (by simp [-bLen, lenL])
    simp [-fLRg, -bFld, -thaw, this, eqOk_rg, eqv_rg]
  refine (seq_nx (ρ' := [.v (menuO w rows), .v (.int (w : Int)), .v (rowsL rows), .o [], .e, .e, .e]) ?_).trans ?_
  · simp
  refine (seq_nx (ρ' := [.v (menuO w rows), .v (.int (w : Int)), .v (rowsL rows), .o [], kp, kt, .e]) ?_).trans ?_
  · simp [-gRng1, -bLen, lenL, hg, l1]
  have := lr (aCons (sUn bLen (sRd 2)) aNil) [.v (menuO w rows), .v (.int (w : Int)), .v (rowsL rows), .o [], kp, kt, .e] (by simp [-bLen, lenL])
  simp [-fLRg, -bFld, -thaw, this, hp, eqOk_rg, eqv_rg]
end
end M_k11

set_option Elab.async false
set_option linter.all false
set_option maxRecDepth 100000
set_option maxHeartbeats 4000000
namespace M_k11
open PySem L2 PF ML S_k11 LC_k11
section
variable {w : Nat} {rows : Rw} {c : List Int}
theorem price_at {p : Nat} (h : p < rows.length) : oIx (.lst ((prices c rows).map D.int)) (.int (p : Int)) = .ok (.int (dotZ c rows[p])) := by
  have := ix_seqI (seqI_l (prices c rows)) (i := (p : Int)) rfl (show p < (prices c rows).length by simpa [prices] using h)
  rw [this]
  simp [prices]
/-- a plan is found best exactly where its price is the least -/
theorem all_min {p : Nat} (h : p < rows.length) : (rows.all fun r => cb (dotZ c rows[p] ≤ dotZ c r)) = decide (dotZ c rows[p] = lmin (prices c rows)) := by
  have hm : dotZ c rows[p] ∈ prices c rows := List.mem_map.mpr ⟨_, List.getElem_mem h, rfl⟩
  by_cases e : dotZ c rows[p] = lmin (prices c rows)
  · rw [decide_eq_true e]
    refine List.all_eq_true.mpr fun r hr => cb_t ?_
    rw [e]
    exact lmin_le (List.mem_map.mpr ⟨r, hr, rfl⟩)
  · rw [decide_eq_false e]
    refine List.all_eq_false.mpr ?_
    obtain ⟨r, hr, e2⟩ := List.mem_map.mp (lmin_mem (show prices c rows ≠ [] from fun z => by rw [z] at hm; simp at hm))
    refine ⟨r, hr, ?_⟩
    have h1 := lmin_le hm
    have e2 : dotZ c r = lmin (prices c rows) := e2
    rw [← e2] at h1 e
    have e3 : dotZ c r ≠ dotZ c rows[p] := fun z => e z.symm
    rw [cb_f (by omega)]
    exact Bool.false_ne_true
theorem two_ok (a b : Int) : f_ulaw_is_tuple [.tup [.int a, .int b], .int 2] = .ok (.bl true) := tuple_ok [a, b] (by simp)
theorem pr_step (M : Mn w rows) (hc : c.length = w) (hb : Bd 200 c) (told : D) (d : D) (ds : List D) (ρ : Sl) (h : (∀ x ∈ d :: ds, ∃ k : Nat, k < rows.length ∧ x = .int (k : Int)) ∧ ∃ kp kt, ρ = [.v (menuO w rows), .v (rowsL rows), .v (vec c), .v (.lst ((prices c rows).map D.int)), .v told, kp, kt, .e, .e, .e, .e]) :
    ∃ ρ1, PF.gName 5 d ρ = some ρ1 ∧ ∃ ρ2, (b2_ulaw_priced ρ1 = .nx ρ2 ∨ b2_ulaw_priced ρ1 = .ct ρ2) ∧ ((∀ x ∈ ds, ∃ k : Nat, k < rows.length ∧ x = .int (k : Int)) ∧ ∃ kp kt, ρ2 = [.v (menuO w rows), .v (rowsL rows), .v (vec c), .v (.lst ((prices c rows).map D.int)), .v told, kp, kt, .e, .e, .e, .e]) := by
  obtain ⟨h1, kp, kt, rfl⟩ := h
  obtain ⟨p, hp, rfl⟩ := h1 d (by simp)
  refine ⟨[.v (menuO w rows), .v (rowsL rows), .v (vec c), .v (.lst ((prices c rows).map D.int)), .v told, .v (.int (p : Int)), kt, .e, .e, .e, .e], rfl, [.v (menuO w rows), .v (rowsL rows), .v (vec c), .v (.lst ((prices c rows).map D.int)), .v told, .v (.int (p : Int)), .v (.tup [.int (dotZ c rows[p]), .int 1]), .e, .e, .e, .e], .inl ?_, fun x hx => h1 x (by simp [hx]), _, _, rfl⟩
  have h2 := cost_ok M hc hb hp
  have h3 := two_ok (dotZ c rows[p]) 1
  have h4 := judge_ok M hc hb hp
  rw [all_min hp] at h4
  have h5 := price_at (c := c) hp
  have h6 := bmin_ok (prices_ne (c := c) M)
  have h7 := bool_ok (decide (dotZ c rows[p] = lmin (prices c rows))) (decide (dotZ c rows[p] = lmin (prices c rows)))
  generalize hP : D.lst ((prices c rows).map D.int) = P at *
  have h8 : (dotZ c rows[p] == lmin (prices c rows)) = decide (dotZ c rows[p] = lmin (prices c rows)) := by by_cases q : dotZ c rows[p] = lmin (prices c rows) <;> simp [q]
  generalize decide (dotZ c rows[p] = lmin (prices c rows)) = q at *
  simp [-cb_iff, -cb_nif, -bFld, -oIx, -bMin, -thaw, b2_ulaw_priced, h2, h3, h4, h5, h6, h7, h8]
theorem nonW_non : NotW .non := .inl rfl
theorem nonW_str (x : Str) : NotW (.str x) := .inr (.inl ⟨x, rfl⟩)
theorem nonW_tup (ds : List D) : NotW (.tup ds) := .inr (.inr ⟨ds, rfl⟩)
/-- the answers that are wrong -/
def wrongs (j : Int) : List D := [.tup [.str "best", .int j, .tup []], .tup [.str "best", .int j, .int 0], .tup [.str "best", .int j], .tup [.str "best", .int j, .non, .non], .tup [.str "none", .non], .int j, .non,
  .tup [.str "open", .int j, .non], .tup [.str "Best", .int j, .non], .tup [.int j, .str "best", .non], .str "best", .tup [], .tup [.str "best", .tup [.int j], .non],
  .tup [.str "none", .int j, .non], .tup [.str "best", .non, .non], .tup [.tup [.str "best", .int j, .non]], .tup [.str "best", .str "", .non]]
theorem wrong_no (hc : c.length = w) (j : Int) (d : D) (hd : d ∈ wrongs j) : f_Menu_judge [menuO w rows, vec c, d] = .ok (.bl false) := by
  unfold wrongs at hd
  simp only [List.mem_cons, List.not_mem_nil, or_false] at hd
  rcases hd with h | h | h | h | h | h | h | h | h | h | h | h | h | h | h | h | h <;> subst h
  · exact judge_2 hc (by simp)
  · exact judge_2 hc (by simp)
  · exact judge_f hc (form_len (by simp))
  · exact judge_f hc (form_len (by simp))
  · exact judge_f hc (form_len (by simp))
  · exact judge_f hc (form_int j)
  · exact judge_f hc form_non
  · exact judge_f hc (form_ne ok_open (by rw [eqv_str]; exact s1))
  · exact judge_f hc (form_ne ok_Best (by rw [eqv_str]; exact s2))
  · exact judge_f hc (form_ne (eqOk_int j) (eqv_is _ _))
  · exact judge_f hc (form_str _)
  · exact judge_f hc (form_len (by simp))
  · exact judge_1 hc (plan_not (nonW_tup _))
  · exact judge_f hc (form_ne ok_none (by rw [eqv_str]; exact s3))
  · exact judge_1 hc (plan_not nonW_non)
  · exact judge_f hc (form_len (by simp))
  · exact judge_1 hc (plan_not (nonW_str _))
theorem priced_ok (M : Mn w rows) (hc : c.length = w) (hb : Bd 200 c) : f_ulaw_priced [menuO w rows, rowsL rows, vec c] = .ok (.bl true) := by
  have w8 := M.w8
  have n24 := M.n24
  have n1 := M.n1
  have e1 := lc_map (g := PF.gName 9) (f := b1_ulaw_priced) (ρ := [.v (menuO w rows), .v (rowsL rows), .v (vec c), .e, .e, .e, .e, .e, .e, .e, .e]) vec (fun r => D.int (dotZ c r)) rows
    (fun r hr => ⟨_, rfl, by simp [-thaw, b1_ulaw_priced, ldot_ok c r (by rw [hc, M.len r hr]) hb ((M.bd r hr).up (by decide)) (by omega)]⟩) (by omega)
  have e2 : rows.map (fun r => D.int (dotZ c r)) = (prices c rows).map D.int := by simp [prices]
  rw [e2] at e1
  have h1 := solve_ok M hc hb
  obtain ⟨hj, hjl⟩ := best_ix (c := c) M
  have h2 := bmin_ok (prices_ne (c := c) M)
  have h3 := price_at (c := c) hjl
  have h4 : dotZ c rows[best c rows] = lmin (prices c rows) := by
    have := (ixOf_some hj).1
    simpa [prices, hjl] using this
  rw [h4] at h3
  have h5 : gIdx ((prices c rows).map D.int) (.int (lmin (prices c rows))) = .ok (.int (best c rows : Int)) := by
    simp only [gIdx, dI, hj]
  have e5 : ∀ ds, seqOf (D.lst ds) = some ds := fun _ => rfl
  have hg := rng1_ok (n := rows.length) (by omega)
  obtain ⟨ρ', l1, _, kp, kt, rfl⟩ := for_inv (g := PF.gName 5) (body := b2_ulaw_priced) (fun ds ρ => (∀ x ∈ ds, ∃ k : Nat, k < rows.length ∧ x = .int (k : Int)) ∧ ∃ kp kt, ρ = [.v (menuO w rows), .v (rowsL rows), .v (vec c), .v (.lst ((prices c rows).map D.int)), .v (.tup [.str "best", .int (best c rows : Int), .non]), kp, kt, .e, .e, .e, .e])
    (pr_step M hc hb (.tup [.str "best", .int (best c rows : Int), .non])) (rngD 0 rows.length) [.v (menuO w rows), .v (rowsL rows), .v (vec c), .v (.lst ((prices c rows).map D.int)), .v (.tup [.str "best", .int (best c rows : Int), .non]), .e, .e, .e, .e, .e, .e] ⟨fun x hx => mem_rng hx, .e, .e, rfl⟩
  have e6 := fun kp kt k8 => lc_all (g := PF.gName 10) (f := b3_ulaw_priced) (ρ := [.v (menuO w rows), .v (rowsL rows), .v (vec c), .v (.lst ((prices c rows).map D.int)), .v (.tup [.str "best", .int (best c rows : Int), .non]), kp, kt, .v (.int (best c rows : Int)), k8, .e, .e]) (wrongs (best c rows : Int)) (fun d hd => ⟨_, rfl, by
      have := wrong_no (rows := rows) hc _ d hd
      have h2 := bool_ok false false
      simp [-thaw, b3_ulaw_priced, this, h2]⟩) (by simp [wrongs])
  have c1 : cb ((0 : Int) ≤ (best c rows : Int)) = true := cb_t (by omega)
  have c2 : cb ((best c rows : Int) < (rows.length : Int)) = true := cb_t (by omega)
  have w1 := whole_ok (best c rows : Int)
  generalize hP : (prices c rows).map D.int = P at *
  generalize hL : lmin (prices c rows) = L at *
  generalize hJ : best c rows = J at *
  refine semF_ret ?_
  refine (seq_nx (ρ' := [.v (menuO w rows), .v (rowsL rows), .v (vec c), .v (.lst P), .e, .e, .e, .e, .e, .e, .e]) ?_).trans ?_
  · simp [-dSeq, seqL, e1]
  refine (seq_nx (ρ' := [.v (menuO w rows), .v (rowsL rows), .v (vec c), .v (.lst P), .v (.tup [.str "best", .int (J : Int), .non]), .e, .e, .e, .e, .e, .e]) ?_).trans ?_
  · simp [-bFld, h1]
  refine (seq_nx (ρ' := [.v (menuO w rows), .v (rowsL rows), .v (vec c), .v (.lst P), .v (.tup [.str "best", .int (J : Int), .non]), .e, .e, .e, .e, .e, .e]) ?_).trans ?_
  · simp [-oIx, ok_best]
  refine (seq_nx (ρ' := [.v (menuO w rows), .v (rowsL rows), .v (vec c), .v (.lst P), .v (.tup [.str "best", .int (J : Int), .non]), .e, .e, .e, .e, .e, .e]) ?_).trans ?_
  · simp [-cb_iff, -cb_nif, -oIx, -bLen, -bMin, -thaw, w1, lenL, c1, c2, h3, h2, cb_t hjl]
  refine (seq_nx (ρ' := [.v (menuO w rows), .v (rowsL rows), .v (vec c), .v (.lst P), .v (.tup [.str "best", .int (J : Int), .non]), kp, kt, .e, .e, .e, .e]) ?_).trans ?_
  · simp [-gRng1, -bLen, lenL, hg, l1]
  refine (seq_nx (ρ' := [.v (menuO w rows), .v (rowsL rows), .v (vec c), .v (.lst P), .v (.tup [.str "best", .int (J : Int), .non]), kp, kt, .v (.int (J : Int)), .e, .e, .e]) ?_).trans ?_
  · simp [-bMin, -gIdx, -seqOf, h2, h5, e5]
  refine (seq_nx (ρ' := [.v (menuO w rows), .v (rowsL rows), .v (vec c), .v (.lst P), .v (.tup [.str "best", .int (J : Int), .non]), kp, kt, .v (.int (J : Int)), .o ((wrongs (J : Int)).take 7), .e, .e]) ?_).trans ?_
  · simp [wrongs]
  refine (seq_nx (ρ' := [.v (menuO w rows), .v (rowsL rows), .v (vec c), .v (.lst P), .v (.tup [.str "best", .int (J : Int), .non]), kp, kt, .v (.int (J : Int)), .o ((wrongs (J : Int)).take 13), .e, .e]) ?_).trans ?_
  · simp [wrongs]
  refine (seq_nx (ρ' := [.v (menuO w rows), .v (rowsL rows), .v (vec c), .v (.lst P), .v (.tup [.str "best", .int (J : Int), .non]), kp, kt, .v (.int (J : Int)), .o (wrongs (J : Int)), .e, .e]) ?_).trans ?_
  · simp [wrongs]
  have e7 := e6 kp kt (.v (.lst (wrongs (J : Int))))
  generalize wrongs (J : Int) = Wr at *
  simp [e7, dB_true]
end
end M_k11

set_option Elab.async false
set_option linter.all false
set_option maxRecDepth 100000
set_option maxHeartbeats 4000000
namespace M_k11
open PySem L2 PF ML S_k11 LC_k11
section
variable {w : Nat} {rows : Rw} {c : List Int}
/-! ### _law_ruled -/
theorem dot_rowd : ∀ (c a b : List Int), c.length = a.length → c.length = b.length → dotZ c (rowd a b) = dotZ c b - dotZ c a
  | [], a, b, h1, h2 => by
    cases a <;> cases b <;> simp [dotZ, rowd] at h1 h2 ⊢
  | x :: c, [], b, h1, h2 => by simp at h1
  | x :: c, y :: a, [], h1, h2 => by simp at h2
  | x :: c, y :: a, z :: b, h1, h2 => by
    have ih := dot_rowd c a b (by simpa using h1) (by simpa using h2)
    have e : rowd (y :: a) (z :: b) = (z - y) :: rowd a b := by simp [rowd]
    rw [e]
    simp only [dotZ, ih]
    rw [Int.mul_sub]
    omega
theorem rowd_len (a b : List Int) : (rowd a b).length = min a.length b.length := by simp [rowd]
theorem rowd_bd {a b : List Int} (ha : Bd 140 a) (hb : Bd 140 b) : Bd 200 (rowd a b) := fun x hx => by
  unfold rowd at hx
  obtain ⟨z, hz, rfl⟩ := List.mem_map.mp hx
  exact b_up (b_sub (hb _ (List.of_mem_zip hz).2) (ha _ (List.of_mem_zip hz).1)) (by decide)
theorem rule_mem (M : Mn w rows) {p : Nat} (hp : p < rows.length) {r : List Int} (h : r ∈ ruleRows rows p) : r.length = w ∧ Bd 200 r ∧ ∃ k, ∃ hk : k < rows.length, r = rowd rows[p] rows[k] := by
  unfold ruleRows at h
  obtain ⟨k, hk, rfl⟩ := List.mem_map.mp h
  have hk2 : k < rows.length := by
    have := (List.mem_filter.mp hk).1
    simpa using this
  rw [rowAt_eq hp, rowAt_eq hk2]
  refine ⟨by rw [rowd_len, M.mem hp, M.mem hk2]; omega, rowd_bd (M.bd _ (List.getElem_mem hp)) (M.bd _ (List.getElem_mem hk2)), k, hk2, rfl⟩
theorem rule_len (rows : Rw) (p : Nat) : (ruleRows rows p).length ≤ rows.length := by
  unfold ruleRows
  rw [List.length_map]
  exact Nat.le_trans (List.length_filter_le _ _) (by simp)
theorem rule_all (M : Mn w rows) (hc : c.length = w) {p : Nat} (hp : p < rows.length) : ((ruleRows rows p).all fun r => cb (0 ≤ dotZ c r)) = rows.all fun r => cb (dotZ c rows[p] ≤ dotZ c r) := by
  cases e : rows.all fun r => cb (dotZ c rows[p] ≤ dotZ c r) with
  | true =>
    refine List.all_eq_true.mpr fun r hr => cb_t ?_
    obtain ⟨_, _, k, hk, rfl⟩ := rule_mem M hp hr
    rw [dot_rowd c _ _ (by rw [hc, M.mem hp]) (by rw [hc, M.mem hk])]
    have := of_cb (List.all_eq_true.mp e _ (List.getElem_mem hk))
    omega
  | false =>
    refine List.all_eq_false.mpr ?_
    obtain ⟨r, hr, h⟩ := List.all_eq_false.mp e
    obtain ⟨k, hk, rfl⟩ := List.getElem_of_mem hr
    have h2 : ¬ dotZ c rows[p] ≤ dotZ c rows[k] := fun z => h (cb_t z)
    have hkp : k ≠ p := fun z => by subst z; exact h2 (Int.le_refl _)
    refine ⟨rowd rows[p] rows[k], ?_, ?_⟩
    · unfold ruleRows
      refine List.mem_map.mpr ⟨k, List.mem_filter.mpr ⟨by simpa using hk, by simpa using hkp⟩, by rw [rowAt_eq hp, rowAt_eq hk]⟩
    · rw [dot_rowd c _ _ (by rw [hc, M.mem hp]) (by rw [hc, M.mem hk]), cb_f (by omega)]
      exact Bool.false_ne_true
theorem ru_step (M : Mn w rows) {p : Nat} (hp : p < rows.length) (mc : D) (d : D) (ds : List D) (ρ : Sl) (h : (∀ x ∈ d :: ds, ∃ c : List Int, c.length = w ∧ Bd 200 c ∧ x = vec c) ∧ ∃ kc kb, ρ = [.v (menuO w rows), .v (rowsL rows), .v (.int (p : Int)), .v mc, .v (.lst ((ruleRows rows p).map vec)), kc, kb, .e]) :
    ∃ ρ1, PF.gName 5 d ρ = some ρ1 ∧ ∃ ρ2, (b4_ulaw_ruled ρ1 = .nx ρ2 ∨ b4_ulaw_ruled ρ1 = .ct ρ2) ∧ ((∀ x ∈ ds, ∃ c : List Int, c.length = w ∧ Bd 200 c ∧ x = vec c) ∧ ∃ kc kb, ρ2 = [.v (menuO w rows), .v (rowsL rows), .v (.int (p : Int)), .v mc, .v (.lst ((ruleRows rows p).map vec)), kc, kb, .e]) := by
  obtain ⟨h1, kc, kb, rfl⟩ := h
  obtain ⟨c, hc, hb, rfl⟩ := h1 d (by simp)
  have w8 := M.w8
  have n24 := M.n24
  refine ⟨[.v (menuO w rows), .v (rowsL rows), .v (.int (p : Int)), .v mc, .v (.lst ((ruleRows rows p).map vec)), .v (vec c), kb, .e], rfl, [.v (menuO w rows), .v (rowsL rows), .v (.int (p : Int)), .v mc, .v (.lst ((ruleRows rows p).map vec)), .v (vec c), .v (.bl (rows.all fun r => cb (dotZ c rows[p] ≤ dotZ c r))), .e], .inl ?_, fun x hx => h1 x (by simp [hx]), _, _, rfl⟩
  have e1 := fun kb => lc_map (g := PF.gName 7) (f := b2_ulaw_ruled) (ρ := [.v (menuO w rows), .v (rowsL rows), .v (.int (p : Int)), .v mc, .v (.lst ((ruleRows rows p).map vec)), .v (vec c), kb, .e]) vec (fun r => D.bl (cb (dotZ c rows[p] ≤ dotZ c r))) rows
    (fun r hr => ⟨_, rfl, by
      have k1 := ldot_ok c r (by rw [hc, M.len r hr]) hb ((M.bd r hr).up (by decide)) (by omega)
      have k2 := ldot_ok c rows[p] (by rw [hc, M.mem hp]) hb (M.bd2 hp) (by omega)
      have k3 := ixRowsL hp
      simp [-cb_iff, -cb_nif, -thaw, -oIx, b2_ulaw_ruled, k1, k2, k3]⟩) (by omega)
  have e2 := fun kb => lc_map (g := PF.gName 7) (f := b3_ulaw_ruled) (ρ := [.v (menuO w rows), .v (rowsL rows), .v (.int (p : Int)), .v mc, .v (.lst ((ruleRows rows p).map vec)), .v (vec c), kb, .e]) vec (fun r => D.bl (cb (0 ≤ dotZ c r))) (ruleRows rows p)
    (fun r hr => ⟨_, rfl, by
      obtain ⟨q1, q2, _⟩ := rule_mem M hp hr
      have k1 := ldot_ok c r (by rw [hc, q1]) hb q2 (by omega)
      simp [-cb_iff, -cb_nif, -thaw, -oIx, b3_ulaw_ruled, k1]⟩) (by have := rule_len rows p; omega)
  have e3 := dB (fun r => cb (dotZ c rows[p] ≤ dotZ c r)) rows
  have e4 := dB (fun r => cb (0 ≤ dotZ c r)) (ruleRows rows p)
  have e5 := rule_all M hc hp
  have a1 : ((rows.map fun r => cb (dotZ c rows[p] ≤ dotZ c r)).all fun x => x) = rows.all fun r => cb (dotZ c rows[p] ≤ dotZ c r) := by rw [List.all_map]; rfl
  have a2 : (((ruleRows rows p).map fun r => cb (0 ≤ dotZ c r)).all fun x => x) = rows.all fun r => cb (dotZ c rows[p] ≤ dotZ c r) := by rw [List.all_map, ← e5]; rfl
  have g1 : bAll (.lst (rows.map fun r => D.bl (cb (dotZ c rows[p] ≤ dotZ c r)))) = .ok (.bl (rows.all fun r => cb (dotZ c rows[p] ≤ dotZ c r))) := by
    simp only [bAll, seqOf, e3]
    rw [← a1]
    simp [-cb_iff, -cb_nif]
    first | done | rfl
  have g2 : bAll (.lst ((ruleRows rows p).map fun r => D.bl (cb (0 ≤ dotZ c r)))) = .ok (.bl (rows.all fun r => cb (dotZ c rows[p] ≤ dotZ c r))) := by
    simp only [bAll, seqOf, e4]
    rw [← a2]
    simp [-cb_iff, -cb_nif]
    first | done | rfl
  generalize (rows.all fun r => cb (dotZ c rows[p] ≤ dotZ c r)) = q at *
  generalize hR : (ruleRows rows p).map vec = RR at *
  have q2 : eqv (.bl q) (.bl q) = true := by cases q <;> simp [eqv, D.py, PyData.eqv]
  simp [-cb_iff, -cb_nif, -dSeq, -bAll, b4_ulaw_ruled, seqL, e1, e2, g1, g2, q2]
  simp [-cb_iff, -cb_nif, -bAll, e2, g2, q2]
theorem ruled_ok (M : Mn w rows) {p : Nat} (hp : p < rows.length) (cs : Rw) (hcs : ∀ c ∈ cs, c.length = w ∧ Bd 200 c) : f_ulaw_ruled [menuO w rows, rowsL rows, .int (p : Int), .lst (cs.map vec)] = .ok (.bl true) := by
  have w8 := M.w8
  have n24 := M.n24
  have h1 := rules_ok M hp
  have h0 : oIx (rowsL rows) (.int 0) = .ok (vec rows[0]) := ixRowsL (p := 0) (by omega)
  have hl := len_vec rows[0]
  rw [M.len _ (List.getElem_mem _)] at hl
  have e1 := lc_all (g := PF.gName 7) (f := b1_ulaw_ruled) (ρ := [.v (menuO w rows), .v (rowsL rows), .v (.int (p : Int)), .v (.lst (cs.map vec)), .v (.lst ((ruleRows rows p).map vec)), .e, .e, .e]) ((ruleRows rows p).map vec) (fun d hd => by
    obtain ⟨r, hr, rfl⟩ := List.mem_map.mp hd
    have k := tup_len (rule_mem M hp hr).1 (by omega)
    exact ⟨_, rfl, by simp [-thaw, -oIx, -bLen, b1_ulaw_ruled, h0, hl, k]⟩) (by have := rule_len rows p; simp; omega)
  obtain ⟨ρ', l1, _, kc, kb, rfl⟩ := for_inv (g := PF.gName 5) (body := b4_ulaw_ruled) (fun ds ρ => (∀ x ∈ ds, ∃ c : List Int, c.length = w ∧ Bd 200 c ∧ x = vec c) ∧ ∃ kc kb, ρ = [.v (menuO w rows), .v (rowsL rows), .v (.int (p : Int)), .v (.lst (cs.map vec)), .v (.lst ((ruleRows rows p).map vec)), kc, kb, .e])
    (ru_step M hp _) (cs.map vec) [.v (menuO w rows), .v (rowsL rows), .v (.int (p : Int)), .v (.lst (cs.map vec)), .v (.lst ((ruleRows rows p).map vec)), .e, .e, .e] ⟨fun x hx => by
      obtain ⟨c, hc, rfl⟩ := List.mem_map.mp hx
      exact ⟨c, (hcs c hc).1, (hcs c hc).2, rfl⟩, .e, .e, rfl⟩
  generalize (ruleRows rows p).map vec = RR at *
  generalize cs.map vec = CC at *
  refine semF_ret ?_
  simp [-bFld, g_ulaw_ruled, h1, e1, dB_true, l1]
end
end M_k11

set_option Elab.async false
set_option linter.all false
set_option maxRecDepth 100000
set_option maxHeartbeats 4000000
namespace M_k11
open PySem L2 PF ML S_k11 LC_k11
section
variable {w : Nat} {rows : Rw} {c : List Int}
theorem add_one (c : List Int) (i : Int) (h : c.length ≤ 1000) : oAdd (vec c) (.tup [.int i]) = .ok (vec (c ++ [i])) := by
  have : c.length + 1 ≤ 16777216 := by omega
  simp [vec, this]
theorem rep_ints (i : Int) (n : Nat) : (List.replicate n [D.int i]).flatten = (List.replicate n i).map D.int := by
  induction n with
  | zero => rfl
  | succ n ih => simpa [List.replicate_succ] using ih
theorem mulT_ok (i : Int) {n : Nat} (h1 : 1 ≤ n) (h : n ≤ 1000) : oMulT (.tup [.int i]) (.int (n : Int)) = .ok (vec (List.replicate n i)) := by
  have c : cb (([D.int i] : List D) ≠ [] ∧ 1 ≤ (n : Int) ∧ (n : Int) ≤ 1000 ∧ ([D.int i] : List D).length ≤ 1000) = true := cb_t ⟨by simp, by omega, by omega, by simp⟩
  unfold oMulT
  simp only [c, if_true, Int.toNat_natCast, rep_ints]
  rfl
/-- a value that is no plan -/
def NoP (w : Nat) (rows : Rw) (d : D) : Prop := f_Menu_is_plan [menuO w rows, d] = .ok (.bl false)
theorem rf_step (M : Mn w rows) (hc : c.length = w) (d : D) (ds : List D) (ρ : Sl) (h : (∀ x ∈ d :: ds, NoP w rows x) ∧ ∃ kv, ρ = [.v (menuO w rows), .v (rowsL rows), .v (vec c), .v (.int (rows.length : Int)), .v (.int (w : Int)), kv, .e, .e, .e]) :
    ∃ ρ1, PF.gName 5 d ρ = some ρ1 ∧ ∃ ρ2, (b1_ulaw_refuses ρ1 = .nx ρ2 ∨ b1_ulaw_refuses ρ1 = .ct ρ2) ∧ ((∀ x ∈ ds, NoP w rows x) ∧ ∃ kv, ρ2 = [.v (menuO w rows), .v (rowsL rows), .v (vec c), .v (.int (rows.length : Int)), .v (.int (w : Int)), kv, .e, .e, .e]) := by
  obtain ⟨h1, kv, rfl⟩ := h
  have hd : f_Menu_is_plan [menuO w rows, d] = .ok (.bl false) := h1 d (by simp)
  refine ⟨[.v (menuO w rows), .v (rowsL rows), .v (vec c), .v (.int (rows.length : Int)), .v (.int (w : Int)), .v d, .e, .e, .e], rfl, [.v (menuO w rows), .v (rowsL rows), .v (vec c), .v (.int (rows.length : Int)), .v (.int (w : Int)), .v d, .e, .e, .e], .inl ?_, fun x hx => h1 x (by simp [hx]), _, rfl⟩
  have w8 := M.w8
  have h2 := judge_1 (rows := rows) hc hd
  have h3 := bool_ok false false
  have h4 := er3 (a := vec c) (usage_bad hd)
  have h5 := er4 (a := vec c) (rules_bad hd)
  have h6 := er0n (cost_not hc hd)
  have h7 := er0 (cost_bad (w := w) (rows := rows) (c := c ++ [1]) d (by simp [hc]))
  have h8 := add_one c 1 (by omega)
  simp [-bFld, -thaw, -oAdd, b1_ulaw_refuses, hd, h2, h3, h4, h5, h6, h7, h8]
/-- a vector of costs of another length -/
theorem rw_step (c' : List Int) (hc : c'.length ≠ w) (i : Int) (hi : i = 0 ∨ i = 1 ∨ i = 2) (a2 a3 a4 a5 a8 : Cell) (us : Cell) : b2_ulaw_refuses [.v (menuO w rows), us, a2, a3, a4, a5, .v (vec c'), .v (.int i), a8] = .nx [.v (menuO w rows), us, a2, a3, a4, a5, .v (vec c'), .v (.int i), a8] := by
  have k : ∀ b, f_ulaw_error [.int i, menuO w rows, vec c', b] = .ok (.int 4) := fun b => by
    rcases hi with rfl | rfl | rfl
    · exact er0 (cost_bad b hc)
    · exact er1 (solve_bad hc)
    · exact er2 (judge_bad hc)
  simp [-thaw, b2_ulaw_refuses, k]
theorem rw_loop (c' : List Int) (hc : c'.length ≠ w) (a2 a3 a4 a5 a7 a8 : Cell) (us : Cell) : b3_ulaw_refuses [.v (menuO w rows), us, a2, a3, a4, a5, .v (vec c'), a7, a8] = .nx [.v (menuO w rows), us, a2, a3, a4, a5, .v (vec c'), .v (.int 2), a8] := by
  have s0 := rw_step (rows := rows) c' hc 0 (.inl rfl) a2 a3 a4 a5 a8 us
  have s1 := rw_step (rows := rows) c' hc 1 (.inr (.inl rfl)) a2 a3 a4 a5 a8 us
  have s2 := rw_step (rows := rows) c' hc 2 (.inr (.inr rfl)) a2 a3 a4 a5 a8 us
  generalize vec c' = C at *
  simp [b3_ulaw_refuses, forRun, s0, s1, s2]
theorem rd_step (d : D) (a1 a2 a3 a4 a5 a6 a7 : Cell) (x : D) (h2 : a2 = .v x) : b4_ulaw_refuses [.v (menuO w rows), a1, a2, a3, a4, a5, a6, a7, .v d] = .nx [.v (menuO w rows), a1, a2, a3, a4, a5, a6, a7, .v d] := by
  subst h2
  have k := er5 (w := w) (rows := rows) (a := x) (b := d)
  have k2 : f_Task_is_way [menuO w rows, d] = .ok (.bl false) := by simp [f_Task_is_way, g_Task_is_way]
  have h3 := bool_ok false false
  simp [-thaw, b4_ulaw_refuses, k, k2, h3]
theorem rd_run (a1 a3 a4 a5 a6 a7 : Cell) (x : D) : ∀ (ds : List D) (a8 : Cell), ∃ a8', forRun (PF.gName 8) b4_ulaw_refuses ds [.v (menuO w rows), a1, .v x, a3, a4, a5, a6, a7, a8] = .nx [.v (menuO w rows), a1, .v x, a3, a4, a5, a6, a7, a8']
  | [], a8 => ⟨a8, rfl⟩
  | d :: ds, a8 => by
    obtain ⟨a8', ih⟩ := rd_run a1 a3 a4 a5 a6 a7 x ds (.v d)
    refine ⟨a8', ?_⟩
    have s := rd_step (w := w) (rows := rows) d a1 (.v x) a3 a4 a5 a6 a7 x rfl
    simp only [forRun, PF.gName, List.set_cons_succ, List.set_cons_zero, s]
    exact ih
theorem refuses_ok (M : Mn w rows) (hc : c.length = w) : f_ulaw_refuses [menuO w rows, rowsL rows, vec c] = .ok (.bl true) := by
  have w8 := M.w8
  have w1 := M.w1
  have n1 := M.n1
  have n24 := M.n24
  have h0 : oIx (rowsL rows) (.int 0) = .ok (vec rows[0]) := ixRowsL (p := 0) (by omega)
  have hl := len_vec rows[0]
  rw [M.len _ (List.getElem_mem _)] at hl
  obtain ⟨ρ', l1, _, kv, rfl⟩ := for_inv (g := PF.gName 5) (body := b1_ulaw_refuses) (fun ds ρ => (∀ x ∈ ds, NoP w rows x) ∧ ∃ kv, ρ = [.v (menuO w rows), .v (rowsL rows), .v (vec c), .v (.int (rows.length : Int)), .v (.int (w : Int)), kv, .e, .e, .e])
    (rf_step M hc) [.int (-1), .int (rows.length : Int), .int ((rows.length : Int) + 24), .int (-(rows.length : Int)), .int (10 ^ 20), .non, .str "0", .str "best", .tup [], .tup [.int 0], .tup [.int 0, .int 1]]
    [.v (menuO w rows), .v (rowsL rows), .v (vec c), .v (.int (rows.length : Int)), .v (.int (w : Int)), .e, .e, .e, .e] ⟨fun x hx => by
      simp only [List.mem_cons, List.not_mem_nil, or_false] at hx
      rcases hx with h | h | h | h | h | h | h | h | h | h | h <;> subst h
      · exact plan_out (.inl (by omega))
      · exact plan_out (.inr (by omega))
      · exact plan_out (.inr (by omega))
      · exact plan_out (.inl (by omega))
      · exact plan_out (.inr (by omega))
      · exact plan_not nonW_non
      · exact plan_not (nonW_str _)
      · exact plan_not (nonW_str _)
      · exact plan_not (nonW_tup _)
      · exact plan_not (nonW_tup _)
      · exact plan_not (nonW_tup _), .e, rfl⟩
  have a0 := add_one c 0 (by omega)
  have cd : cutD (c.map D.int) (some 1) none = (c.drop 1).map D.int := by
    have := cut_drop (c.map D.int) 1 (by simp; omega)
    simpa using this
  have s1 := fun a5 a7 => rw_loop (w := w) (rows := rows) (c ++ [0]) (by simp [hc]) (.v (vec c)) (.v (.int (rows.length : Int))) (.v (.int (w : Int))) a5 a7 .e (.v (rowsL rows))
  have s2 := fun a5 a7 => rw_loop (w := w) (rows := rows) (c.drop 1) (by simp [hc]; omega) (.v (vec c)) (.v (.int (rows.length : Int))) (.v (.int (w : Int))) a5 a7 .e (.v (rowsL rows))
  have m0 := mulT_ok 0 w1 (by omega)
  have m1 := mulT_ok 1 w1 (by omega)
  have m2 := mulT_ok 0 n1 (by omega)
  refine semF_ret ?_
  refine (seq_nx (ρ' := [.v (menuO w rows), .v (rowsL rows), .v (vec c), .v (.int (rows.length : Int)), .v (.int (w : Int)), .e, .e, .e, .e]) ?_).trans ?_
  · simp [-oIx, -bLen, lenL, h0, hl]
  refine (seq_nx (ρ' := [.v (menuO w rows), .v (rowsL rows), .v (vec c), .v (.int (rows.length : Int)), .v (.int (w : Int)), kv, .e, .e, .e]) ?_).trans ?_
  · simp at l1
    simp [l1]
  refine (seq_nx (ρ' := [.v (menuO w rows), .v (rowsL rows), .v (vec c), .v (.int (rows.length : Int)), .v (.int (w : Int)), kv, .v (vec (c.drop 1)), .v (.int 2), .e]) ?_).trans ?_
  · have e1 : (fLst (aCons (sOp oAdd (sRd 2) (sTup (aCons (sC (.int 0)) aNil))) (aCons (sSl (sRd 2) (pSome (sC (.int 1))) pNone) aNil))) [.v (menuO w rows), .v (rowsL rows), .v (vec c), .v (.int (rows.length : Int)), .v (.int (w : Int)), kv, .e, .e, .e] = .ok [vec (c ++ [0]), vec (c.drop 1)] := by
      simp [-oAdd, a0]
      simp [vec, cd]
    generalize hA : vec (c ++ [0]) = A at *
    generalize hB : vec (c.drop 1) = B at *
    simp only [gFor, iSeq, sLst, e1, Res.bind_ok, dSeq, rS_ok]
    simp [forRun, s1, s2]
  obtain ⟨a8', r1⟩ := rd_run (w := w) (rows := rows) (.v (rowsL rows)) (.v (.int (rows.length : Int))) (.v (.int (w : Int))) kv (.v (vec (c.drop 1))) (.v (.int 2)) (vec c) [vec (List.replicate w 0), vec (List.replicate w 1), vec rows[0], .tup [], vec (List.replicate rows.length 0), .tup [.int 0], .non, .int 0, .str "way"] .e
  refine (seq_nx (ρ' := [.v (menuO w rows), .v (rowsL rows), .v (vec c), .v (.int (rows.length : Int)), .v (.int (w : Int)), kv, .v (vec (c.drop 1)), .v (.int 2), a8']) ?_).trans ?_
  · simp [-oIx, -oMulT, -List.drop_one, m0, m1, m2, h0, r1]
  · simp
end
end M_k11

set_option Elab.async false
set_option linter.all false
set_option maxRecDepth 100000
set_option maxHeartbeats 4000000
namespace M_k11
open PySem L2 PF ML S_k11 LC_k11
section
variable {w : Nat} {rows : Rw} {c : List Int}
theorem map_nil_vec : (([] : Rw).map vec) = [] := rfl
/-- one row is put in the place of another -/
abbrev spl (rows : Rw) (p : Nat) (r : List Int) : Rw := rows.take p ++ [r] ++ rows.drop (p + 1)
theorem spl_len {p : Nat} (hp : p < rows.length) (r : List Int) : (spl rows p r).length = rows.length := by
  simp [spl]; omega
theorem cat_ok {xs ys : List D} (h : xs.length + ys.length ≤ 16777216) : fCat (.lst xs) (.lst ys) = .ok (xs ++ ys) := by
  unfold fCat
  exact if_pos h
theorem splice_ok {E : Sl → Res D} {r : List Int} {p : Nat} (hp : p < rows.length) (h24 : rows.length ≤ 24) (a1 a2 a4 a5 a6 : Cell) (hE : E [.v (rowsL rows), a1, a2, .v (.int (p : Int)), a4, a5, a6] = .ok (vec r)) :
    (sLst (fOp fCat (sLst (fOp fCat (sSl (sRd 0) pNone (pSome (sVar 3))) (sLst (fLst (aCons E aNil))))) (sSl (sRd 0) (pSome (sOp oAdd (sRd 3) (sC (.int 1)))) pNone))) [.v (rowsL rows), a1, a2, .v (.int (p : Int)), a4, a5, a6] = .ok (rowsL (spl rows p r)) := by
  have e1 := cut_take (rows.map vec) p (by simp; omega)
  have e2 := cut_drop (rows.map vec) (p + 1) (by simp; omega)
  have e3 : ((p : Int) + 1) = ((p + 1 : Nat) : Int) := by omega
  have l1 : fCat (.lst ((rows.map vec).take p)) (.lst [vec r]) = .ok ((rows.map vec).take p ++ [vec r]) := cat_ok (by simp; omega)
  have l2 : fCat (.lst ((rows.map vec).take p ++ [vec r])) (.lst ((rows.map vec).drop (p + 1))) = .ok ((rows.map vec).take p ++ [vec r] ++ (rows.map vec).drop (p + 1)) := cat_ok (by simp; omega)
  have l0 : (0 + 1 ≤ 16777216) = True := eq_true (by omega)
  have e4 : rowsL (spl rows p r) = .lst ((rows.map vec).take p ++ [vec r] ++ (rows.map vec).drop (p + 1)) := by simp [spl, rowsL, List.map_take, List.map_drop]
  rw [e4]
  unfold rowsL at *
  generalize rows.map vec = R at *
  simp only [sLst, fOp, sSl, sRd, sVar, fLst, aCons, aNil, pNone, pSome, sOp, sC, oAdd, Res.bind_ok, Res.nx, hE, List.getElem?_cons_zero, List.getElem?_cons_succ, e1, e3, e2, List.length_singleton, List.length_cons, List.length_nil, l0, if_true, l1, l2]
theorem bar_run (a1 a2 a3 a4 a5 : Cell) (ha : a1 = .v (.int (w : Int))) (us : Cell) : ∀ (rss : List Rw) (a6 : Cell), (∀ rs ∈ rss, rs.length = 0 ∨ 24 < rs.length ∨ ∃ r ∈ rs, (r.length : Int) ≠ (w : Int)) → ∃ a6', forRun (PF.gName 6) b1_ulaw_barred (rss.map rowsL) [us, a1, a2, a3, a4, a5, a6] = .nx [us, a1, a2, a3, a4, a5, a6']
  | [], a6, _ => ⟨a6, rfl⟩
  | rs :: rss, a6, h => by
    subst ha
    obtain ⟨a6', ih⟩ := bar_run (.v (.int (w : Int))) a2 a3 a4 a5 rfl us rss (.v (rowsL rs)) fun x hx => h x (by simp [hx])
    refine ⟨a6', ?_⟩
    have k : f_ulaw_error [.int 6, .non, .int (w : Int), .lst (rs.map vec)] = .ok (.int 1) := er6 (o := .non) (.inr (.inr (h rs (by simp))))
    have k2 : bLst (rowsL rs) = .ok (rs.map vec) := rfl
    have s : b1_ulaw_barred [us, .v (.int (w : Int)), a2, a3, a4, a5, .v (rowsL rs)] = .nx [us, .v (.int (w : Int)), a2, a3, a4, a5, .v (rowsL rs)] := by
      simp [-thaw, -bLst, b1_ulaw_barred, k2, k]
    simp only [List.map_cons, forRun, PF.gName, List.set_cons_succ, List.set_cons_zero, s]
    exact ih
theorem rep_rows (rows : Rw) (h : rows ≠ []) (k : Nat) (hk : k ≤ 1000) : fRep (.lst (cutD (rows.map vec) none (some 1))) (.int (k : Int)) = .ok ((List.replicate k (rowAt rows 0)).map vec) := by
  cases rows with
  | nil => exact absurd rfl h
  | cons r rows =>
    have e := cut_take ((r :: rows).map vec) 1 (by simp)
    have e1 : cutD ((r :: rows).map vec) none (some 1) = [vec r] := by
      have : ((1 : Nat) : Int) = 1 := rfl
      rw [← this, e]; rfl
    have c : cb (-(2 ^ 63) ≤ (k : Int) ∧ (k : Int) < 2 ^ 63 ∧ ([vec r] : List D).length * (k : Int).toNat ≤ 16777216) = true := cb_t ⟨by omega, by omega, by simp; omega⟩
    rw [e1]
    show (if cb (-(2 ^ 63) ≤ (k : Int) ∧ (k : Int) < 2 ^ 63 ∧ ([vec r] : List D).length * (k : Int).toNat ≤ 16777216) = true then Res.ok (List.replicate (k : Int).toNat [vec r]).flatten else .bad) = _
    rw [if_pos c, Int.toNat_natCast]
    congr 1
    have er : rowAt (r :: rows) 0 = r := rfl
    rw [er]
    clear c e e1 hk
    induction k with
    | zero => rfl
    | succ n ih => simp [List.replicate_succ, ih]
theorem barred_ok (M : Mn w rows) (t : Int) (ts : List Int) : f_ulaw_barred [rowsL rows, .int (w : Int), .lst ((t :: ts).map D.int)] = .ok (.bl true) := by
  have w8 := M.w8
  have w1 := M.w1
  have n1 := M.n1
  have n24 := M.n24
  have hb := fmod_b t rows.length (by omega)
  obtain ⟨p, hq⟩ : ∃ p : Nat, t.fmod rows.length = (p : Int) := ⟨_, (Int.toNat_of_nonneg hb.1).symm⟩
  have hp : p < rows.length := by omega
  have hne : rows ≠ [] := fun z => by subst z; simp at n1
  have ht : oIx (.lst ((t :: ts).map D.int)) (.int 0) = .ok (.int t) := by rw [List.map_cons]; exact oIxL0 _ _
  have hr := ixRowsL hp
  have hm := M.mem hp
  have a0 := add_one rows[p] 0 (by omega)
  have cd : cutD (rows[p].map D.int) (some 1) none = (rows[p].drop 1).map D.int := by
    have := cut_drop (rows[p].map D.int) 1 (by simp; omega)
    simpa using this
  have hrow0 : rowAt rows 0 ∈ rows := by
    rw [rowAt_eq (by omega)]; exact List.getElem_mem _
  have r25 := rep_rows rows hne 25 (by decide)
  have r24 := rep_rows rows hne 24 (by decide)
  have m1 := mulT_ok 1 (n := 9) (by decide) (by decide)
  have m0 := mulT_ok 0 (n := 9) (by decide) (by decide)
  have E1 : f_ulaw_error [.int 6, .non, .int 0, .lst [.tup []]] = .ok (.int 1) := er6 (rs := [[]]) (o := .non) (.inl (by omega))
  have E2 : f_ulaw_error [.int 6, .non, .int 9, .lst [vec (List.replicate 9 1), vec (List.replicate 9 0)]] = .ok (.int 1) := er6 (rs := [List.replicate 9 1, List.replicate 9 0]) (o := .non) (.inr (.inl (by omega)))
  have E3 : f_ulaw_error [.int 6, .non, .int ((w : Int) + 1), .lst (rows.map vec)] = .ok (.int 1) := er6 (rs := rows) (o := .non) (.inr (.inr (.inr (.inr ⟨_, hrow0, by rw [M.len _ hrow0]; omega⟩))))
  have M24 : Mn w (List.replicate 24 (rowAt rows 0)) := ⟨w1, w8, by simp, by simp, fun r h => by rw [(List.mem_replicate.mp h).2]; exact M.len _ hrow0, fun r h => by rw [(List.mem_replicate.mp h).2]; exact M.bd _ hrow0⟩
  have E4 : f_ulaw_error [.int 6, .non, .int (w : Int), .lst ((List.replicate 24 (rowAt rows 0)).map vec)] = .ok (.int 0) := er6o (o := .non) M24
  have k2 : bLst (rowsL rows) = .ok (rows.map vec) := rfl
  have sp1 := fun a5 => splice_ok (rows := rows) (E := sSl (sOp oIx (sRd 0) (sRd 3)) (pSome (sC (.int 1))) pNone) (r := rows[p].drop 1) hp n24 (.v (.int (w : Int))) (.v (.lst ((t :: ts).map D.int))) .e a5 .e (by
    simp only [sSl, sOp, sRd, List.getElem?_cons_zero, List.getElem?_cons_succ, Res.bind_ok, hr, pSome, pNone, sC]
    simp [vec, cd])
  have sp2 := fun a4 => splice_ok (rows := rows) (E := sOp oAdd (sOp oIx (sRd 0) (sRd 3)) (sTup (aCons (sC (.int 0)) aNil))) (r := rows[p] ++ [0]) hp n24 (.v (.int (w : Int))) (.v (.lst ((t :: ts).map D.int))) a4 .e .e (by
    simp [-oIx, -oAdd, hr, a0])
  obtain ⟨a6, l1⟩ := bar_run (.v (.int (w : Int))) (.v (.lst ((t :: ts).map D.int))) (.v (.int (p : Int))) (.v (rowsL (spl rows p (rows[p].drop 1)))) (.v (rowsL (spl rows p (rows[p] ++ [0])))) rfl (.v (rowsL rows)) [spl rows p (rows[p].drop 1), spl rows p (rows[p] ++ [0]), [], List.replicate 25 (rowAt rows 0)] .e (fun rs h => by
    simp only [List.mem_cons, List.not_mem_nil, or_false] at h
    rcases h with h | h | h | h <;> subst h
    · exact .inr (.inr ⟨rows[p].drop 1, by simp [spl], by rw [List.length_drop]; omega⟩)
    · exact .inr (.inr ⟨rows[p] ++ [0], by simp [spl], by simp; omega⟩)
    · exact .inl rfl
    · exact .inr (.inl (by simp)))
  generalize hT : D.lst ((t :: ts).map D.int) = T at *
  have e25 : rowsL (List.replicate 25 (rowAt rows 0)) = .lst ((List.replicate 25 (rowAt rows 0)).map vec) := rfl
  have e00 : rowsL [] = .lst [] := rfl
  simp only [List.map_cons, List.map_nil] at l1
  rw [e25, e00] at l1
  generalize hA4 : rowsL (spl rows p (rows[p].drop 1)) = A4 at *
  generalize hA5 : rowsL (spl rows p (rows[p] ++ [0])) = A5 at *
  generalize hR25 : (List.replicate 25 (rowAt rows 0)).map vec = R25 at *
  have r25 : fRep (.lst (cutD (rows.map vec) none (some 1))) (.int 25) = .ok R25 := r25
  refine semF_ret ?_
  refine (seq_nx (ρ' := [.v (rowsL rows), .v (.int (w : Int)), .v T, .v (.int (p : Int)), .e, .e, .e]) ?_).trans ?_
  · have hz : ¬ ((rows.length : Int) = 0) := by omega
    simp [-oIx, -bLen, lenL, ht, hq, hne]
  refine (seq_nx (ρ' := [.v (rowsL rows), .v (.int (w : Int)), .v T, .v (.int (p : Int)), .v A4, .e, .e]) ?_).trans ?_
  · have := sp1 .e
    simp only [gSet, this]
    simp
  refine (seq_nx (ρ' := [.v (rowsL rows), .v (.int (w : Int)), .v T, .v (.int (p : Int)), .v A4, .v A5, .e]) ?_).trans ?_
  · have := sp2 (.v A4)
    simp only [gSet, this]
    simp
  refine (seq_nx (ρ' := [.v (rowsL rows), .v (.int (w : Int)), .v T, .v (.int (p : Int)), .v A4, .v A5, a6]) ?_).trans ?_
  · have e0 : sSl (sRd 0) pNone (pSome (sC (.int 1))) [.v (rowsL rows), .v (.int (w : Int)), .v T, .v (.int (p : Int)), .v A4, .v A5, .e] = .ok (.lst (cutD (rows.map vec) none (some 1))) := by simp [rowsL]
    simp [-sSl, -fRep, e0, r25]
    exact l1
  have e0 : sSl (sRd 0) pNone (pSome (sC (.int 1))) [.v (rowsL rows), .v (.int (w : Int)), .v T, .v (.int (p : Int)), .v A4, .v A5, a6] = .ok (.lst (cutD (rows.map vec) none (some 1))) := by simp [rowsL]
  refine (seq_nx (ρ' := [.v (rowsL rows), .v (.int (w : Int)), .v T, .v (.int (p : Int)), .v A4, .v A5, a6]) ?_).trans ?_
  · have m1' : oMulT (.tup [.int 1]) (.int 9) = .ok (vec (List.replicate 9 1)) := m1
    have m0' : oMulT (.tup [.int 0]) (.int 9) = .ok (vec (List.replicate 9 0)) := m0
    simp [-thaw, -oMulT, -List.reduceReplicate, m1', m0', E1, E2]
  have r24' : fRep (.lst (cutD (rows.map vec) none (some 1))) (.int 24) = .ok ((List.replicate 24 (rowAt rows 0)).map vec) := r24
  simp [-thaw, -bLst, -sSl, -fRep, -List.reduceReplicate, -List.map_replicate, k2, E3, e0, r24', E4]
end
end M_k11

set_option Elab.async false
set_option linter.all false
set_option maxRecDepth 100000
set_option maxHeartbeats 8000000
namespace M_k11
open PySem L2 PF ML S_k11 LC_k11
section
variable {w : Nat} {rows : Rw} {c : List Int}
theorem pick_ok (xs : List Int) (q lo hi : Int) (h0 : 0 ≤ q) (h1 : q < xs.length) (hx : ∀ x ∈ xs, lo ≤ x ∧ x ≤ hi) : ∃ z : Int, (lo ≤ z ∧ z ≤ hi) ∧ oIx (.lst (xs.map D.int)) (.int q) = .ok (.int z) := by
  obtain ⟨k, rfl⟩ := Int.eq_ofNat_of_zero_le h0
  have hk : k < xs.length := by omega
  exact ⟨xs[k], hx _ (List.getElem_mem hk), ix_seqI (seqI_l xs) rfl hk⟩
theorem nol_ints : ∀ ns : List Int, nolA (ns.map D.int) = true
  | [] => by simp [nolA]
  | n :: ns => by simp [nolA, nol_ints ns]
theorem nol_rows : ∀ rs : Rw, nolA (rs.map vec) = true
  | [] => by simp [nolA]
  | r :: rs => by simp [nolA, nol_rows rs, vec, nol, nol_ints]
theorem nol_menu (w : Nat) (rows : Rw) : nol (menuO w rows) = true := by simp [nol, nolA, rowsT, nol_rows]
theorem sto6 {ρ : Sl} {R : List D} {f : Sl → Res D} {d : D} (h6 : ρ[6]? = some (.o R)) (hf : f ρ = .ok d) (hl : 0 < R.length) : gSto 6 (sC (.int 0)) f ρ = .nx (ρ.set 6 (.o (R.set 0 d))) := by
  have h := ixN_nat hl
  have h2 : ixN R.length 0 = some 0 := h
  simp [h6, hf, h2]
theorem app6 {ρ : Sl} {R : List D} {f : Sl → Res D} {d : D} (h6 : ρ[6]? = some (.o R)) (hf : f ρ = .ok d) (hl : R.length < 16777216) : gApp 6 f ρ = .nx (ρ.set 6 (.o (R ++ [d]))) := by
  simp [h6, hf, hl]
def nth (r : List Int) (k : Nat) : Int := r.getD k 0
theorem nth_ix {r : List Int} {k : Nat} (h : k < r.length) : oIx (vec r) (.int (0 + (k : Int))) = .ok (.int (nth r k)) := by
  have e : nth r k = r[k] := by
    unfold nth
    rw [List.getD_eq_getElem?_getD, List.getElem?_eq_getElem h]
    rfl
  rw [e]
  exact ix_seqI (seqI_v r) (by simp) h
theorem nth_bd {r : List Int} {b : Nat} (h : Bd b r) (k : Nat) : (nth r k).natAbs < 2 ^ b := by
  unfold nth
  rw [List.getD_eq_getElem?_getD]
  cases e : r[k]? with
  | none => exact Nat.lt_of_lt_of_le (by decide : (Int.natAbs 0) < 1) (Nat.one_le_two_pow)
  | some x => exact h x (List.mem_of_getElem? e)
theorem bd_neg {b : Nat} {r : List Int} (h : Bd b r) : Bd b (r.map (fun x => -x)) := fun x hx => by
  obtain ⟨y, hy, rfl⟩ := List.mem_map.mp hx
  rw [Int.natAbs_neg]
  exact h y hy
theorem prices_run (M : Mn w rows) (a0 a1 a2 a3 a5 a6 a8 a9 a10 a11 a12 a13 a14 a15 a17 a18 a19 : Cell) : ∀ (cs : Rw) (kn : Cell), (∀ c ∈ cs, c.length = w ∧ Bd 200 c) → ∃ kn', forRun (PF.gName 16) b3_law (cs.map vec) [a0, a1, a2, a3, .v (rowsL rows), a5, a6, .v (menuO w rows), a8, a9, a10, a11, a12, a13, a14, a15, kn, a17, a18, a19] = .nx [a0, a1, a2, a3, .v (rowsL rows), a5, a6, .v (menuO w rows), a8, a9, a10, a11, a12, a13, a14, a15, kn', a17, a18, a19]
  | [], kn, _ => ⟨kn, rfl⟩
  | c :: cs, kn, h => by
    obtain ⟨kn', ih⟩ := prices_run M a0 a1 a2 a3 a5 a6 a8 a9 a10 a11 a12 a13 a14 a15 a17 a18 a19 cs (.v (vec c)) fun x hx => h x (by simp [hx])
    refine ⟨kn', ?_⟩
    have k := priced_ok M (h c (by simp)).1 (h c (by simp)).2
    have s : b3_law [a0, a1, a2, a3, .v (rowsL rows), a5, a6, .v (menuO w rows), a8, a9, a10, a11, a12, a13, a14, a15, .v (vec c), a17, a18, a19] = .nx [a0, a1, a2, a3, .v (rowsL rows), a5, a6, .v (menuO w rows), a8, a9, a10, a11, a12, a13, a14, a15, .v (vec c), a17, a18, a19] := by simp [-thaw, b3_law, k]
    simp only [List.map_cons, forRun, PF.gName, List.set_cons_succ, List.set_cons_zero, s]
    exact ih
theorem ruled_run {rows2 : Rw} (M : Mn w rows) (M2 : Mn w rows2) (hl : rows2.length = rows.length) (cs : Rw) (hcs : ∀ c ∈ cs, c.length = w ∧ Bd 200 c) (a0 a1 a2 a3 a5 a6 a10 a11 a12 a13 a14 a16 a18 a19 : Cell) : ∀ (ps : List Nat) (kp : Cell), (∀ p ∈ ps, p < rows.length) → ∃ kp', forRun (PF.gName 17) b4_law (ps.map fun p : Nat => D.int (p : Int)) [a0, a1, a2, a3, .v (rowsL rows), a5, a6, .v (menuO w rows), .v (rowsL rows2), .v (menuO w rows2), a10, a11, a12, a13, a14, .v (.lst (cs.map vec)), a16, kp, a18, a19] = .nx [a0, a1, a2, a3, .v (rowsL rows), a5, a6, .v (menuO w rows), .v (rowsL rows2), .v (menuO w rows2), a10, a11, a12, a13, a14, .v (.lst (cs.map vec)), a16, kp', a18, a19]
  | [], kp, _ => ⟨kp, rfl⟩
  | p :: ps, kp, h => by
    obtain ⟨kp', ih⟩ := ruled_run M M2 hl cs hcs a0 a1 a2 a3 a5 a6 a10 a11 a12 a13 a14 a16 a18 a19 ps (.v (.int (p : Int))) fun x hx => h x (by simp [hx])
    refine ⟨kp', ?_⟩
    have hp := h p (by simp)
    have k1 := ruled_ok M hp cs hcs
    have k2 := ruled_ok M2 (by omega : p < rows2.length) cs hcs
    generalize hC : D.lst (cs.map vec) = C at *
    have s : b4_law [a0, a1, a2, a3, .v (rowsL rows), a5, a6, .v (menuO w rows), .v (rowsL rows2), .v (menuO w rows2), a10, a11, a12, a13, a14, .v C, a16, .v (.int (p : Int)), a18, a19] = .nx [a0, a1, a2, a3, .v (rowsL rows), a5, a6, .v (menuO w rows), .v (rowsL rows2), .v (menuO w rows2), a10, a11, a12, a13, a14, .v C, a16, .v (.int (p : Int)), a18, a19] := by simp [-thaw, b4_law, k1, k2]
    simp only [List.map_cons, forRun, PF.gName, List.set_cons_succ, List.set_cons_zero, s]
    exact ih
end
theorem law_true (ns : List Int) (hns : ns.length ≤ 63) : f_law [.rol (ns.map D.int)] = .ok (.bl true) := by
  obtain ⟨ts, tl, tb, hr0⟩ := row_okB ns hns 0 (by decide) 10 (by decide)
  obtain ⟨cs1, cl1, cb1, hr1⟩ := row_okB ns hns 1 (by decide) 384 (by decide)
  obtain ⟨cs2, cl2, cb2, hr2⟩ := row_okB ns hns 2 (by decide) 16 (by decide)
  have hr0 : f_ulaw_row [.rol (ns.map D.int), .int 0, .int 10] = .ok (.fr (ts.map D.int)) := hr0
  have hr1 : f_ulaw_row [.rol (ns.map D.int), .int 1, .int 384] = .ok (.fr (cs1.map D.int)) := hr1
  have hr2 : f_ulaw_row [.rol (ns.map D.int), .int 2, .int 16] = .ok (.fr (cs2.map D.int)) := hr2
  generalize hS : D.rol (ns.map D.int) = S at *
  have t0 := ix_seqI (seqI_l ts) (i := 0) (k := 0) rfl (by omega)
  have t1 := ix_seqI (seqI_l ts) (i := 1) (k := 1) rfl (by omega)
  have t2 := ix_seqI (seqI_l ts) (i := 2) (k := 2) rfl (by omega)
  have t3 := ix_seqI (seqI_l ts) (i := 3) (k := 3) rfl (by omega)
  have t4 := ix_seqI (seqI_l ts) (i := 4) (k := 4) rfl (by omega)
  have t5 := ix_seqI (seqI_l ts) (i := 5) (k := 5) rfl (by omega)
  have t6 := ix_seqI (seqI_l ts) (i := 6) (k := 6) rfl (by omega)
  obtain ⟨u, us, hu⟩ : ∃ u us, ts.drop 7 = u :: us := by
    cases e : ts.drop 7 with
    | nil => have := congrArg List.length e; simp at this; omega
    | cons u us => exact ⟨u, us, rfl⟩
  have t7 : cutD (ts.map D.int) (some 7) none = (u :: us).map D.int := by
    have := cut_drop (ts.map D.int) 7 (by simp; omega)
    rw [← List.map_drop, hu] at this
    exact this
  have sl7 : ∀ ρ : Sl, ρ[1]? = some (.v (.lst (ts.map D.int))) → sSl (sRd 1) (pSome (sC (.int 7))) pNone ρ = .ok (.lst ((u :: us).map D.int)) := fun ρ h => by
    rw [← t7]
    simp [h]
  generalize ts[0] = z0 at *
  generalize ts[1] = z1 at *
  generalize ts[2] = z2 at *
  generalize ts[3] = z3 at *
  generalize ts[4] = z4 at *
  generalize ts[5] = z5 at *
  generalize ts[6] = z6 at *
  have d5 : divOk 5 = true := divOk_s (by decide) (by decide)
  have m2 : ∀ i, mulOk 2 i = true := fun i => mulOk_l (by decide)
  have m48 : ∀ i, mulOk 48 i = true := fun i => mulOk_l (by decide)
  obtain ⟨zw, hzw, hw5⟩ := pick_ok [1, 8, 2, 3, 1 + (z0.fdiv 5).fmod 8] (z0.fmod 5) 1 8 (fmod_b z0 5 (by decide)).1 (fmod_b z0 5 (by decide)).2 (fun x hx => by
    have := fmod_b (z0.fdiv 5) 8 (by decide)
    simp only [List.mem_cons, List.not_mem_nil, or_false] at hx
    rcases hx with h | h | h | h | h <;> omega)
  obtain ⟨zn, hzn, hn5⟩ := pick_ok [24, 1, 2, 3 + (z1.fdiv 5).fmod 4, 1 + (z1.fdiv 5).fmod 24] (z1.fmod 5) 1 24 (fmod_b z1 5 (by decide)).1 (fmod_b z1 5 (by decide)).2 (fun x hx => by
    have h4 := fmod_b (z1.fdiv 5) 4 (by decide)
    have h24 := fmod_b (z1.fdiv 5) 24 (by decide)
    simp only [List.mem_cons, List.not_mem_nil, or_false] at hx
    rcases hx with h | h | h | h | h <;> omega)
  obtain ⟨w, rfl⟩ := Int.eq_ofNat_of_zero_le (show 0 ≤ zw by omega)
  obtain ⟨n, rfl⟩ := Int.eq_ofNat_of_zero_le (show 0 ≤ zn by omega)
  have hw5 : oIx (.lst [.int 1, .int 8, .int 2, .int 3, .int (1 + (z0.fdiv 5).fmod 8)]) (.int (z0.fmod 5)) = .ok (.int (w : Int)) := hw5
  have hn5 : oIx (.lst [.int 24, .int 1, .int 2, .int (3 + (z1.fdiv 5).fmod 4), .int (1 + (z1.fdiv 5).fmod 24)]) (.int (z1.fmod 5)) = .ok (.int (n : Int)) := hn5
  have hwn : w * n ≤ 192 := Nat.mul_le_mul (show w ≤ 8 by omega) (show n ≤ 24 by omega)
  obtain ⟨rows, rl, rb, hv1⟩ := vectors_ok cs1 cb1 w (by omega) n (by omega) (z2.fmod 4) (by omega)
  obtain ⟨rs1, rl1, rb1, hv2⟩ := vectors_ok cs2 cb2 w (by omega) 1 (by omega) (z3.fmod 3) (by omega)
  obtain ⟨c, rfl⟩ : ∃ c, rs1 = [c] := by
    cases rs1 with
    | nil => cases rl1
    | cons c rs => cases rs with
      | nil => exact ⟨c, rfl⟩
      | cons _ _ => simp at rl1
  have hc := (rb1 c (by simp)).1
  have hcb : Bd 200 c := (rb1 c (by simp)).2.up (by decide)
  have hv2 : f_ulaw_vectors [.lst (cs2.map D.int), .int 1, .int (w : Int), .int (z3.fmod 3)] = .ok (.fr [vec c]) := hv2
  generalize hT : D.lst (ts.map D.int) = T at *
  have hr0 : (f_ulaw_row [S, .int 0, .int 10]).bind thaw = .ok T := by rw [hr0, ← hT]; rfl
  generalize cs1.map D.int = C1 at *
  generalize cs2.map D.int = C2 at *
  have M : Mn w rows := ⟨by omega, by omega, by omega, by omega, fun r h => (rb r h).1, fun r h => (rb r h).2⟩
  have M2 : Mn w rows.reverse := ⟨by omega, by omega, by simp; omega, by simp; omega, fun r h => (rb r (by simpa using h)).1, fun r h => (rb r (by simpa using h)).2⟩
  have mul5 := mulT_ok 5 M.w1 (by omega)
  have mul0 := mulT_ok 0 M.w1 (by omega)
  have hn0 : n ≠ 0 := by omega
  have hw0 : w ≠ 0 := by omega
  have b4 := fmod_b z4 n (by omega)
  have b5 := fmod_b z5 n (by omega)
  obtain ⟨f, hf⟩ : ∃ f : Nat, z4.fmod n = (f : Int) := ⟨_, (Int.toNat_of_nonneg b4.1).symm⟩
  obtain ⟨s, hs⟩ : ∃ s : Nat, z5.fmod n = (s : Int) := ⟨_, (Int.toNat_of_nonneg b5.1).symm⟩
  have hfl : f < rows.length := by omega
  have hsl : s < rows.length := by omega
  have ixf := ixRowsL hfl
  have ixs := ixRowsL hsl
  have hg := rng1_ok (n := w) (by omega)
  have er : rngD 0 w = (List.range w).map fun k : Nat => D.int (0 + (k : Int)) := rfl
  obtain ⟨gap, hgap⟩ : ∃ gap, gap = (List.range w).map (fun k => nth rows[f] k - nth rows[s] k) := ⟨_, rfl⟩
  obtain ⟨unt, hunt⟩ : ∃ unt : List Int, unt = (List.range w).map (fun k : Nat => if eqv (.int (0 + (k : Int))) (.int (z6.fmod w)) = true then 1 else 0) := ⟨_, rfl⟩
  have gl : gap.length = w := by rw [hgap]; simp
  have ul : unt.length = w := by rw [hunt]; simp
  have gb : Bd 200 gap := fun x hx => by
    rw [hgap] at hx
    obtain ⟨k, hk, rfl⟩ := List.mem_map.mp hx
    exact b_up (b_sub (nth_bd (M.bd _ (List.getElem_mem hfl)) k) (nth_bd (M.bd _ (List.getElem_mem hsl)) k)) (by decide)
  have ub : Bd 200 unt := fun x hx => by
    rw [hunt] at hx
    obtain ⟨k, hk, rfl⟩ := List.mem_map.mp hx
    split <;> decide
  have nl : ∀ r : List Int, (r.map (fun x => -x)).length = r.length := fun r => by simp
  have hn1 : ((n : Int) - 1) = ((n - 1 : Nat) : Int) := by omega
  refine semF_ret ?_
  refine (seq_nx (ρ' := [.v S, .v T, .e, .e, .e, .e, .e, .e, .e, .e, .e, .e, .e, .e, .e, .e, .e, .e, .e, .e]) ?_).trans ?_
  · simp [-thaw, hr0]
  refine (seq_nx (ρ' := [.v S, .v T, .v (.int (w : Int)), .e, .e, .e, .e, .e, .e, .e, .e, .e, .e, .e, .e, .e, .e, .e, .e, .e]) ?_).trans ?_
  · simp [-oIx, -atI_zero, -atI_one, -atI_two, -atI_three, t0, d5, hw5]
  refine (seq_nx (ρ' := [.v S, .v T, .v (.int (w : Int)), .v (.int (n : Int)), .e, .e, .e, .e, .e, .e, .e, .e, .e, .e, .e, .e, .e, .e, .e, .e]) ?_).trans ?_
  · simp [-oIx, -atI_zero, -atI_one, -atI_two, -atI_three, t1, d5, hn5]
  refine (seq_nx (ρ' := [.v S, .v T, .v (.int (w : Int)), .v (.int (n : Int)), .v (rowsL rows), .e, .e, .e, .e, .e, .e, .e, .e, .e, .e, .e, .e, .e, .e, .e]) ?_).trans ?_
  · simp [-oIx, t2, m2, m48, hr1, hv1, rowsL]
  refine (seq_nx (ρ' := [.v S, .v T, .v (.int (w : Int)), .v (.int (n : Int)), .v (rowsL rows), .v (vec c), .e, .e, .e, .e, .e, .e, .e, .e, .e, .e, .e, .e, .e, .e]) ?_).trans ?_
  · simp [-oIx, t3, hr2, hv2]
  refine (seq_nx (ρ' := [.v S, .v T, .v (.int (w : Int)), .v (.int (n : Int)), .v (rowsL rows), .v (vec c), .o (rows.map vec), .e, .e, .e, .e, .e, .e, .e, .e, .e, .e, .e, .e, .e]) ?_).trans ?_
  · simp [rowsL]
  refine (seq_nx (ρ' := [.v S, .v T, .v (.int (w : Int)), .v (.int (n : Int)), .v (rowsL rows), .v (vec c), .o (rows.map vec), .v (menuO w rows), .e, .e, .e, .e, .e, .e, .e, .e, .e, .e, .e, .e]) ?_).trans ?_
  · have mk := make_ok (fs := aCons (sVar 2) (aCons (sVar 6) aNil)) (ρ := [.v S, .v T, .v (.int (w : Int)), .v (.int (n : Int)), .v (rowsL rows), .v (vec c), .v (rowsL rows), .e, .e, .e, .e, .e, .e, .e, .e, .e, .e, .e, .e, .e]) M (by simp)
    have nm : nol (menuO w rows) = true := nol_menu w rows
    unfold rowsL at mk
    have e : sLend 6 (sMake "Menu" f_Menu_init (aCons (sVar 2) (aCons (sVar 6) aNil))) [.v S, .v T, .v (.int (w : Int)), .v (.int (n : Int)), .v (rowsL rows), .v (vec c), .o (rows.map vec), .e, .e, .e, .e, .e, .e, .e, .e, .e, .e, .e, .e, .e] = .ok (menuO w rows) := by
      unfold rowsL
      simp only [sLend, List.getElem?_cons_zero, List.getElem?_cons_succ, List.set_cons_succ, List.set_cons_zero, mk, Res.nx, Res.bind_ok, nm, if_true]
    simp only [gSet, e, rS_ok, List.set_cons_succ, List.set_cons_zero]
  refine (seq_nx (ρ' := [.v S, .v T, .v (.int (w : Int)), .v (.int (n : Int)), .v (rowsL rows), .v (vec c), .o (rows.map vec), .v (menuO w rows), .v (rowsL rows.reverse), .e, .e, .e, .e, .e, .e, .e, .e, .e, .e, .e]) ?_).trans ?_
  · simp [rowsL]
  refine (seq_nx (ρ' := [.v S, .v T, .v (.int (w : Int)), .v (.int (n : Int)), .v (rowsL rows), .v (vec c), .o (rows.map vec), .v (menuO w rows), .v (rowsL rows.reverse), .v (menuO w rows.reverse), .e, .e, .e, .e, .e, .e, .e, .e, .e, .e]) ?_).trans ?_
  · have mk := make_ok (fs := aCons (sVar 2) (aCons (sLst (fUn bLst (sRd 8))) aNil)) (ρ := [.v S, .v T, .v (.int (w : Int)), .v (.int (n : Int)), .v (rowsL rows), .v (vec c), .o (rows.map vec), .v (menuO w rows), .v (rowsL rows.reverse), .e, .e, .e, .e, .e, .e, .e, .e, .e, .e, .e]) M2 (by simp [rowsL])
    simp only [gSet, mk, rS_ok, List.set_cons_succ, List.set_cons_zero]
  refine (seq_nx (ρ' := [.v S, .v T, .v (.int (w : Int)), .v (.int (n : Int)), .v (rowsL rows), .v (vec c), .o ((rows.map vec).set 0 (vec (List.replicate w 5))), .v (menuO w rows), .v (rowsL rows.reverse), .v (menuO w rows.reverse), .e, .e, .e, .e, .e, .e, .e, .e, .e, .e]) ?_).trans ?_
  · exact sto6 rfl (by simp [-oMulT, mul5]) (by simp; omega)
  refine (seq_nx (ρ' := [.v S, .v T, .v (.int (w : Int)), .v (.int (n : Int)), .v (rowsL rows), .v (vec c), .o ((rows.map vec).set 0 (vec (List.replicate w 5)) ++ [vec (List.replicate w 0)]), .v (menuO w rows), .v (rowsL rows.reverse), .v (menuO w rows.reverse), .e, .e, .e, .e, .e, .e, .e, .e, .e, .e]) ?_).trans ?_
  · exact app6 rfl (by simp [-oMulT, mul0]) (by simp; omega)
  generalize (rows.map vec).set 0 (vec (List.replicate w 5)) ++ [vec (List.replicate w 0)] = G0
  refine (seq_nx (ρ' := [.v S, .v T, .v (.int (w : Int)), .v (.int (n : Int)), .v (rowsL rows), .v (vec c), .o G0, .v (menuO w rows), .v (rowsL rows.reverse), .v (menuO w rows.reverse), .v (.int (f : Int)), .v (.int (s : Int)), .e, .e, .e, .e, .e, .e, .e, .e]) ?_).trans ?_
  · simp [-oIx, t4, t5, hf, hs, hn0]
  refine (seq_nx (ρ' := [.v S, .v T, .v (.int (w : Int)), .v (.int (n : Int)), .v (rowsL rows), .v (vec c), .o G0, .v (menuO w rows), .v (rowsL rows.reverse), .v (menuO w rows.reverse), .v (.int (f : Int)), .v (.int (s : Int)), .v (vec gap), .e, .e, .e, .e, .e, .e, .e]) ?_).trans ?_
  · have e := lc_map (g := PF.gName 18) (f := b1_law) (ρ := [.v S, .v T, .v (.int (w : Int)), .v (.int (n : Int)), .v (rowsL rows), .v (vec c), .o G0, .v (menuO w rows), .v (rowsL rows.reverse), .v (menuO w rows.reverse), .v (.int (f : Int)), .v (.int (s : Int)), .e, .e, .e, .e, .e, .e, .e, .e]) (fun k : Nat => D.int (0 + (k : Int))) (fun k => D.int (nth rows[f] k - nth rows[s] k)) (List.range w) (fun k hk => ⟨_, rfl, by
      have hk : k < w := by simpa using hk
      have k1 := nth_ix (r := rows[f]) (k := k) (by rw [M.mem hfl]; exact hk)
      have k2 := nth_ix (r := rows[s]) (k := k) (by rw [M.mem hsl]; exact hk)
      simp only [b1_law, sOp, sRd, List.getElem?_cons_zero, List.getElem?_cons_succ, List.set_cons_succ, List.set_cons_zero, Res.bind_ok, ixf, ixs, k1, k2, oSub]⟩) (by simp; omega)
    rw [← er] at e
    have e2 : ((List.range w).map fun k => D.int (nth rows[f] k - nth rows[s] k)) = gap.map D.int := by rw [hgap, List.map_map]; rfl
    rw [e2] at e
    simp [-gRng1, hg, e]
    rfl
  refine (seq_nx (ρ' := [.v S, .v T, .v (.int (w : Int)), .v (.int (n : Int)), .v (rowsL rows), .v (vec c), .o G0, .v (menuO w rows), .v (rowsL rows.reverse), .v (menuO w rows.reverse), .v (.int (f : Int)), .v (.int (s : Int)), .v (vec gap), .v (vec unt), .e, .e, .e, .e, .e, .e]) ?_).trans ?_
  · have e := lc_map (g := PF.gName 18) (f := b2_law) (ρ := [.v S, .v T, .v (.int (w : Int)), .v (.int (n : Int)), .v (rowsL rows), .v (vec c), .o G0, .v (menuO w rows), .v (rowsL rows.reverse), .v (menuO w rows.reverse), .v (.int (f : Int)), .v (.int (s : Int)), .v (vec gap), .e, .e, .e, .e, .e, .e, .e]) (fun k : Nat => D.int (0 + (k : Int))) (fun k => D.int (if eqv (.int (0 + (k : Int))) (.int (z6.fmod w)) = true then 1 else 0)) (List.range w) (fun k hk => ⟨_, rfl, by
      simp [-oIx, b2_law, t6, hw0]⟩) (by simp; omega)
    rw [← er] at e
    have e2 : ((List.range w).map fun k : Nat => D.int (if eqv (.int (0 + (k : Int))) (.int (z6.fmod w)) = true then 1 else 0)) = unt.map D.int := by rw [hunt, List.map_map]; rfl
    rw [e2] at e
    simp [-gRng1, hg, e]
    rfl
  refine (seq_nx (ρ' := [.v S, .v T, .v (.int (w : Int)), .v (.int (n : Int)), .v (rowsL rows), .v (vec c), .o G0, .v (menuO w rows), .v (rowsL rows.reverse), .v (menuO w rows.reverse), .v (.int (f : Int)), .v (.int (s : Int)), .v (vec gap), .v (vec unt), .v (vec (c.map fun x => -x)), .e, .e, .e, .e, .e]) ?_).trans ?_
  · have e := lc_ints 19 (sUn oNeg (sRd 19)) (fun x => -x) [.v S, .v T, .v (.int (w : Int)), .v (.int (n : Int)), .v (rowsL rows), .v (vec c), .o G0, .v (menuO w rows), .v (rowsL rows.reverse), .v (menuO w rows.reverse), .v (.int (f : Int)), .v (.int (s : Int)), .v (vec gap), .v (vec unt), .e, .e, .e, .e, .e, .e] c (fun n _ => by simp) (by omega)
    have e0 : dSeq (vec c) = .ok (c.map D.int) := rfl
    simp [-dSeq, -List.map_map, e0, e]
    rfl
  refine (seq_nx (ρ' := [.v S, .v T, .v (.int (w : Int)), .v (.int (n : Int)), .v (rowsL rows), .v (vec c), .o G0, .v (menuO w rows), .v (rowsL rows.reverse), .v (menuO w rows.reverse), .v (.int (f : Int)), .v (.int (s : Int)), .v (vec gap), .v (vec unt), .v (vec (c.map fun x => -x)), .v (.lst ([c, List.replicate w 0, unt, gap, gap.map (fun x => -x), c.map (fun x => -x)].map vec)), .e, .e, .e, .e]) ?_).trans ?_
  · have e := lc_ints 19 (sUn oNeg (sRd 19)) (fun x => -x) [.v S, .v T, .v (.int (w : Int)), .v (.int (n : Int)), .v (rowsL rows), .v (vec c), .o G0, .v (menuO w rows), .v (rowsL rows.reverse), .v (menuO w rows.reverse), .v (.int (f : Int)), .v (.int (s : Int)), .v (vec gap), .v (vec unt), .v (vec (c.map fun x => -x)), .e, .e, .e, .e, .e] gap (fun n _ => by simp) (by omega)
    have e0 : dSeq (vec gap) = .ok (gap.map D.int) := rfl
    simp [-dSeq, -oMulT, -List.map_map, e0, e, mul0]
    rfl
  obtain ⟨Ws, hWs⟩ : ∃ Ws : Rw, Ws = [c, List.replicate w 0, unt, gap, gap.map (fun x => -x), c.map (fun x => -x)] := ⟨_, rfl⟩
  have hW : ∀ x ∈ Ws, x.length = w ∧ Bd 200 x := fun x hx => by
    rw [hWs] at hx
    simp only [List.mem_cons, List.not_mem_nil, or_false] at hx
    rcases hx with h | h | h | h | h | h <;> subst h
    · exact ⟨hc, hcb⟩
    · exact ⟨by simp, fun y hy => by rw [(List.mem_replicate.mp hy).2]; decide⟩
    · exact ⟨ul, ub⟩
    · exact ⟨gl, gb⟩
    · exact ⟨by rw [nl, gl], bd_neg gb⟩
    · exact ⟨by rw [nl, hc], bd_neg hcb⟩
  rw [← hWs]
  refine (seq_nx (ρ' := [.v S, .v T, .v (.int (w : Int)), .v (.int (n : Int)), .v (rowsL rows), .v (vec c), .o G0, .v (menuO w rows), .v (rowsL rows.reverse), .v (menuO w rows.reverse), .v (.int (f : Int)), .v (.int (s : Int)), .v (vec gap), .v (vec unt), .v (vec (c.map fun x => -x)), .v (.lst (Ws.map vec)), .e, .e, .e, .e]) ?_).trans ?_
  · have k1 := is_menu_ok M
    have k2 := is_menu_ok M2
    simp [-thaw, k1, k2]
  obtain ⟨kn, l1⟩ := prices_run M (.v S) (.v T) (.v (.int (w : Int))) (.v (.int (n : Int))) (.v (vec c)) (.o G0) (.v (rowsL rows.reverse)) (.v (menuO w rows.reverse)) (.v (.int (f : Int))) (.v (.int (s : Int))) (.v (vec gap)) (.v (vec unt)) (.v (vec (c.map fun x => -x))) (.v (.lst (Ws.map vec))) (.e) (.e) (.e) Ws .e hW
  refine (seq_nx (ρ' := [.v S, .v T, .v (.int (w : Int)), .v (.int (n : Int)), .v (rowsL rows), .v (vec c), .o G0, .v (menuO w rows), .v (rowsL rows.reverse), .v (menuO w rows.reverse), .v (.int (f : Int)), .v (.int (s : Int)), .v (vec gap), .v (vec unt), .v (vec (c.map fun x => -x)), .v (.lst (Ws.map vec)), kn, .e, .e, .e]) ?_).trans ?_
  · have e0 : dSeq (.lst (Ws.map vec)) = .ok (Ws.map vec) := rfl
    simp only [gFor, iSeq, sVar, List.getElem?_cons_zero, List.getElem?_cons_succ, Res.bind_ok, e0, rS_ok]
    exact l1
  refine (seq_nx (ρ' := [.v S, .v T, .v (.int (w : Int)), .v (.int (n : Int)), .v (rowsL rows), .v (vec c), .o G0, .v (menuO w rows), .v (rowsL rows.reverse), .v (menuO w rows.reverse), .v (.int (f : Int)), .v (.int (s : Int)), .v (vec gap), .v (vec unt), .v (vec (c.map fun x => -x)), .v (.lst (Ws.map vec)), kn, .e, .e, .e]) ?_).trans ?_
  · have k1 := priced_ok M2 hc hcb
    have k2 := priced_ok M2 gl gb
    simp [-thaw, k1, k2]
  obtain ⟨kp, l2⟩ := ruled_run M M2 (by simp) Ws hW (.v S) (.v T) (.v (.int (w : Int))) (.v (.int (n : Int))) (.v (vec c)) (.o G0) (.v (.int (f : Int))) (.v (.int (s : Int))) (.v (vec gap)) (.v (vec unt)) (.v (vec (c.map fun x => -x))) (kn) (.e) (.e) [f, s, n - 1] .e (fun p hp => by
    simp only [List.mem_cons, List.not_mem_nil, or_false] at hp
    rcases hp with h | h | h <;> omega)
  refine (seq_nx (ρ' := [.v S, .v T, .v (.int (w : Int)), .v (.int (n : Int)), .v (rowsL rows), .v (vec c), .o G0, .v (menuO w rows), .v (rowsL rows.reverse), .v (menuO w rows.reverse), .v (.int (f : Int)), .v (.int (s : Int)), .v (vec gap), .v (vec unt), .v (vec (c.map fun x => -x)), .v (.lst (Ws.map vec)), kn, kp, .e, .e]) ?_).trans ?_
  · have e0 : (iSeq (sLst (fLst (aCons (sVar 10) (aCons (sVar 11) (aCons (sOp oSub (sRd 3) (sC (.int 1))) aNil)))))) [.v S, .v T, .v (.int (w : Int)), .v (.int (n : Int)), .v (rowsL rows), .v (vec c), .o G0, .v (menuO w rows), .v (rowsL rows.reverse), .v (menuO w rows.reverse), .v (.int (f : Int)), .v (.int (s : Int)), .v (vec gap), .v (vec unt), .v (vec (c.map fun x => -x)), .v (.lst (Ws.map vec)), kn, .e, .e, .e] = .ok ([f, s, n - 1].map fun p : Nat => D.int (p : Int)) := by
      simp [hn1]
    simp only [gFor, e0, rS_ok]
    exact l2
  refine (seq_nx (ρ' := [.v S, .v T, .v (.int (w : Int)), .v (.int (n : Int)), .v (rowsL rows), .v (vec c), .o G0, .v (menuO w rows), .v (rowsL rows.reverse), .v (menuO w rows.reverse), .v (.int (f : Int)), .v (.int (s : Int)), .v (vec gap), .v (vec unt), .v (vec (c.map fun x => -x)), .v (.lst (Ws.map vec)), kn, kp, .e, .e]) ?_).trans ?_
  · have k1 := refuses_ok M hc
    have k2 := barred_ok M u us
    have k3 := sl7 [.v S, .v T, .v (.int (w : Int)), .v (.int (n : Int)), .v (rowsL rows), .v (vec c), .o G0, .v (menuO w rows), .v (rowsL rows.reverse), .v (menuO w rows.reverse), .v (.int (f : Int)), .v (.int (s : Int)), .v (vec gap), .v (vec unt), .v (vec (c.map fun x => -x)), .v (.lst (Ws.map vec)), kn, kp, .e, .e] rfl
    simp only [List.map_cons] at k2 k3
    simp [-thaw, -sSl, k1, k2, k3]
  have k1 := is_menu_ok M
  have k2 := priced_ok M hc hcb
  simp [-thaw, k1, k2]
end M_k11

set_option Elab.async false
set_option linter.all false
set_option maxRecDepth 100000
set_option maxHeartbeats 4000000
/-! The head's facts of classes, as Bools of the written part. -/
namespace PF
open PySem PySem.Spec L2 PyProof.Rows
/-- one method of the text, without defaults -/
def dM (c m : Str) (q : Str) (st : Stmt) : He.DefD := ⟨(c, some m), m, q, defArgs st, defBody st, defScope st, [], []⟩
def sM (c m : Str) (q : Str) (st : Stmt) : SDef := ⟨(c, some m), m, q, defArgs st, defBody st, defScope st, c⟩
/-- the body of a class of the text -/
def clsBody (s : Stmt) : List Stmt := match s with
  | .ClassDef _ _ _ b _ _ _ _ _ _ _ => b
  | _ => []
theorem lkA {α : Type} {x y : Str} {b b' : α} {r : List (Str × α)} (h : List.lookup x ((y, b) :: r) = some b') : (x = y ∧ b' = b) ∨ List.lookup x r = some b' := by
  unfold List.lookup at h
  split at h
  · rename_i e
    exact .inl ⟨eq_of_beq e, (Option.some.inj h).symm⟩
  · exact .inr h
theorem lkN {α : Type} {x : Str} {b' : α} (h : List.lookup x ([] : List (Str × α)) = some b') : False := by cases h
section
variable {K : Frg} {mg : Mg} {h : Heap}
/-- the class named c has the method m, the def at p -/
def methB (K : Frg) (c m : Str) (p : Str × Option Str) : Bool := He.eqO (PySem.W.findIn K (.ref (He.ga K c)) m) (some (some (.ref (He.fAd K p)))) && (PySem.W.isFn K (.ref (He.fAd K p)) && PySem.W.keepIn K (.ref (He.fAd K p)))
theorem methB_ok {c m : Str} {p : Str × Option Str} (q : methB K c m p = true) : Meth K (He.ga K c) m (He.fAd K p) := by
  obtain ⟨c1, c⟩ := He.ba q
  obtain ⟨c2, c3⟩ := He.ba c
  exact ⟨He.eqO_ok c1, c2, c3⟩
def mkB (K : Frg) (c : Str) (p : Str × Option Str) : Bool := PySem.W.makesIn K (He.ga K c) && (He.eqO (PySem.W.findIn K (.ref (He.ga K c)) "__init__") (some (some (.ref (He.fAd K p)))) && (PySem.W.isFn K (.ref (He.fAd K p)) && PySem.W.keepIn K (.ref (He.ga K c))))
theorem mkB_ok {c : Str} {p : Str × Option Str} (q : mkB K c p = true) : Mk K (He.ga K c) (He.fAd K p) := by
  obtain ⟨c1, c⟩ := He.ba q
  obtain ⟨c2, c⟩ := He.ba c
  obtain ⟨c3, c4⟩ := He.ba c
  exact ⟨c1, He.eqO_ok c2, c3, c4⟩
/-- a constant of the class named c, read through an instance -/
def conB (K : Frg) (c f : Str) (d : D) : Bool := match PySem.W.findIn K (.ref (He.ga K c)) f, scV d with
  | some (some u), some v => He.relB v u && (He.eqO (PySem.W.specialIn K u "__get__") (some none) && !(PySem.W.copiedNames.contains f))
  | _, _ => false
theorem conB_ok {c f : Str} {d : D} (q : conB K c f d = true) : ∃ v u, scV d = some v ∧ Con K (He.ga K c) f v u := by
  unfold conB at q
  split at q
  · rename_i u v e1 e2
    obtain ⟨c1, c⟩ := He.ba q
    obtain ⟨c2, c3⟩ := He.ba c
    exact ⟨v, u, e2, e1, He.relB_ok c1, He.eqO_ok c2, by simpa using c3⟩
  · cases q
/-- .. read through the class itself -/
def cconB (K : Frg) (c f : Str) (d : D) : Bool := PySem.W.readsIn K (He.ga K c) (.type "type") && (He.eqO (PySem.W.specialIn K (.ref (He.ga K c)) "__getattribute__") (some (some (.builtin "type.__getattribute__"))) && (match PySem.W.findCls K (.ref (He.ga K c)) (.type "type") f, scV d with
  | some (.val u), some v => He.relB v u
  | _, _ => false))
theorem cconB_ok {c f : Str} {d : D} (hg : mg c = some (.ref (He.ga K c))) (q : cconB K c f d = true) : CcT K mg c f d := by
  obtain ⟨c1, c⟩ := He.ba q
  obtain ⟨c2, c3⟩ := He.ba c
  split at c3
  · rename_i u v e1 e2
    exact ⟨_, .type "type", v, u, hg, e2, ⟨c1, He.eqO_ok c2⟩, ⟨e1, He.relB_ok c3⟩⟩
  · cases c3
/-- isinstance of an object of the class named a; the class named c -/
def isB (K : Frg) (a c : Str) (b : Bool) : Bool := (He.Fa.cls a).ok K && (He.eqO (PySem.W.findIn K (.ref (He.ga K a)) "__class__") (some (some (.builtin "object.__class__"))) && (He.eqO (PySem.W.specialIn K (.builtin "object.__class__") "__get__") (some (some (.builtin "getset_descriptor.__get__"))) && (decide (PySem.W.takesIn K (.builtin "object.__class__") = some true) &&
  (decide (PySem.W.mroIn K (He.ga K a) (.type "object") = some true) && decide (PySem.W.kitOne K (.ref (He.ga K a)) (.ref (He.ga K c)) = some b)))))
theorem isB_ok {a c : Str} {b : Bool} (q : isB K a c b = true) : IsF K (He.ga K a) (He.ga K c) b := by
  obtain ⟨c1, q⟩ := He.ba q
  obtain ⟨c2, q⟩ := He.ba q
  obtain ⟨c3, q⟩ := He.ba q
  obtain ⟨c4, q⟩ := He.ba q
  obtain ⟨c5, c6⟩ := He.ba q
  exact ⟨He.cls_ok c1, He.eqO_ok c2, He.eqO_ok c3, of_decide_eq_true c4, of_decide_eq_true c5, of_decide_eq_true c6⟩
/-- super() in a def of the class named d, on an instance of the class named c, leads to the def at p -/
def supB (K : Frg) (c d : Str) (p : Str × Option Str) : Bool := decide (PySem.W.mroIn K (He.ga K c) (.ref (He.ga K d)) = some true) && (decide (PySem.W.ks_superIn K (He.ga K c) (He.ga K d) "__init__" = some (some (.ref (He.fAd K p)))) && (decide (PySem.W.typeIn K (.ref (He.fAd K p)) = some (.type "function")) && (PySem.W.fnIn K (He.fAd K p) && He.eqO (PySem.W.nsIn K PySem.cStatics "thirdparty.any") (some none))))
theorem supB_ok {c d : Str} {p : Str × Option Str} (q : supB K c d p = true) : SupC K (He.ga K c) (He.ga K d) (He.fAd K p) := by
  obtain ⟨c1, q⟩ := He.ba q
  obtain ⟨c2, q⟩ := He.ba q
  obtain ⟨c3, q⟩ := He.ba q
  obtain ⟨c4, c5⟩ := He.ba q
  exact ⟨of_decide_eq_true c1, of_decide_eq_true c2, of_decide_eq_true c3, c4, He.eqO_ok c5⟩
def clsInB (K : Frg) (c : Str) : Bool := (PySem.W.clsIn K (He.ga K c)).isSome
theorem clsInB_ok {c : Str} (q : clsInB K c = true) : ∃ cd, PySem.W.clsIn K (He.ga K c) = some cd := Option.isSome_iff_exists.mp q
end
end PF

set_option Elab.async false
set_option linter.all false
set_option maxRecDepth 100000
set_option maxHeartbeats 4000000
/-! The walk: each def keeps its promise; the end (printed by gen.py) -/
namespace W_k11
open PySem PySem.Spec L2 PF S_k11
def top (i : Nat) : Stmt := PySem.Challenge.pw_costsexplained_k11_menus_solved_and_judg.main.body.getD i (.Pass ⟨0, 0, 0, 0⟩)
def mth (i j : Nat) : Stmt := (clsBody (top i)).getD j (.Pass ⟨0, 0, 0, 0⟩)
abbrev file : Str := "/claim/cut.py"
def ci_Task : List Str := ["Menu"]
def ci_Menu : List Str := ["Menu"]
structure Bi (mg : Mg) : Prop where
  ValueError : mg "ValueError" = none
  abs : mg "abs" = none
  all : mg "all" = none
  bool : mg "bool" = none
  enumerate : mg "enumerate" = none
  gcd : mg "gcd" = some (.builtin "math.gcd")
  int : mg "int" = none
  isinstance : mg "isinstance" = none
  len : mg "len" = none
  list : mg "list" = none
  min : mg "min" = none
  range : mg "range" = none
  sum : mg "sum" = none
  super : mg "super" = none
  tuple : mg "tuple" = none
  zip : mg "zip" = none
structure Ez (K : Frg) (mg : Mg) : Prop where
  BadNumber : ExcT K mg "BadNumber" (He.ga K "BadNumber")
  BadTask : ExcT K mg "BadTask" (He.ga K "BadTask")
  NotAPlan : ExcT K mg "NotAPlan" (He.ga K "NotAPlan")
  g_BadName : mg "BadName" = some (.ref (He.ga K "BadName"))
  g_BadNumber : mg "BadNumber" = some (.ref (He.ga K "BadNumber"))
  g_BadPaper : mg "BadPaper" = some (.ref (He.ga K "BadPaper"))
  g_BadQuestion : mg "BadQuestion" = some (.ref (He.ga K "BadQuestion"))
  g_BadRange : mg "BadRange" = some (.ref (He.ga K "BadRange"))
  g_BadSeen : mg "BadSeen" = some (.ref (He.ga K "BadSeen"))
  g_BadTask : mg "BadTask" = some (.ref (He.ga K "BadTask"))
  g_BadText : mg "BadText" = some (.ref (He.ga K "BadText"))
  g_CostsError : mg "CostsError" = some (.ref (He.ga K "CostsError"))
  g_NoCosts : mg "NoCosts" = some (.ref (He.ga K "NoCosts"))
  g_NotAPlan : mg "NotAPlan" = some (.ref (He.ga K "NotAPlan"))
  g_StaleKey : mg "StaleKey" = some (.ref (He.ga K "StaleKey"))
  g_TooMany : mg "TooMany" = some (.ref (He.ga K "TooMany"))
  g_UnknownName : mg "UnknownName" = some (.ref (He.ga K "UnknownName"))
  g_Unlisted : mg "Unlisted" = some (.ref (He.ga K "Unlisted"))
  g_Menu : mg "Menu" = some (.ref (He.ga K "Menu"))
  g_Task : mg "Task" = some (.ref (He.ga K "Task"))
  X_t_BadNumber : TabI K mg t_BadNumber (.ref (He.ga K "BadNumber"))
  X_t_NotAPlan : TabI K mg t_NotAPlan (.ref (He.ga K "NotAPlan"))
  X_t_BadTask : TabI K mg t_BadTask (.ref (He.ga K "BadTask"))
  X_t_Unlied_BadPer_NoCots_BadQon_BadRge_BadSen_TooMny_BadTxt_BadNme : TabT K mg t_Unlied_BadPer_NoCots_BadQon_BadRge_BadSen_TooMny_BadTxt_BadNme [(.ref (He.ga K "Unlisted")), (.ref (He.ga K "BadPaper")), (.ref (He.ga K "NoCosts")), (.ref (He.ga K "BadQuestion")), (.ref (He.ga K "BadRange")), (.ref (He.ga K "BadSeen")), (.ref (He.ga K "TooMany")), (.ref (He.ga K "BadText")), (.ref (He.ga K "BadName"))]
  X_t_ValueError : TabI K mg t_ValueError (.type "ValueError")
  X_t_Unknme_Staley : TabT K mg t_Unknme_Staley [(.ref (He.ga K "UnknownName")), (.ref (He.ga K "StaleKey"))]
  Y_t_CostsError : Tab K mg t_CostsError (.ref (He.ga K "CostsError"))
  f_usages : FldT K mg cs_usages "usages"
  f_width : FldT K mg cs_width "width"
  n_KIND : ConT K mg tc_KIND "KIND"
  n_PLANS : ConT K mg tc_PLANS "PLANS"
  k_Menu_MOST : CcT K mg "Menu" "MOST" (.int 24)
  k_Task_PLANS : CcT K mg "Task" "PLANS" (.int 120)
  k_Task_WIDTH : CcT K mg "Task" "WIDTH" (.int 8)
  I_Menu : IsCT K mg is_Menu "Menu"
  I_Task : IsCT K mg is_Task "Task"
  u_Menu : SupT K mg ci_Menu (He.ga K "Menu") (He.fAd K ("Task", some "__init__"))
  v_Menu : ∃ cd, PySem.W.clsIn K (He.ga K "Menu") = some cd
abbrev s_make_ratio : Stmt := top 19
theorem sc_make_ratio : FnScope ["num", "den", "part"] ["num", "den"] (defScope s_make_ratio) := ⟨rfl, rfl, rfl, by decide +kernel, rfl, by decide +kernel, by decide +kernel⟩
theorem ok_make_ratio {P : Program} {w : World} {K : Frg} {mg : Mg} {base : Heap} {f : Addr} {fd : FuncData} (F : Fun K "make_ratio" "make_ratio" s_make_ratio f fd) (B : Bi mg) (Z : Ez K mg) : FnOk P w K mg base (L2.CX P w) 1 f fd ["num", "den"] (spF K mg 2 f_make_ratio) :=
  fn_ok F sc_make_ratio fun cdv A outer s H E hr cs => (ms_cons (ms_if (mt_cmp (op_eqD hr.units) o_eq (mr_rd 1 (pv 1)) (mr_of me_int) (nomark _)) (ms_one (ms_raise cs Z.BadNumber)) ms_nil)
    (ms_cons (ms_set 2 sc_make_ratio.nd (me_bf2 cr_gcd b_gcd B.gcd (mr_rd 0 (pv 0)) (mr_rd 1 (pv 1))))
    (ms_cons (ms_if (mt_cmp op_lt o_lt (mr_rd 1 (pv 1)) (mr_of me_int) (nomark _)) (ms_one (ms_set 2 sc_make_ratio.nd (me_un un_neg o_neg (mr_rd 2 (pv 2))))) ms_nil)
    (ms_one (ms_ret (me_tup (ma_cons (me_op op_fdivU o_fdiv (mr_rd 0 (pv 0)) (mr_rd 2 (pv 2))) (ma_cons (me_op op_fdivU o_fdiv (mr_rd 1 (pv 1)) (mr_rd 2 (pv 2))) ma_nil))))))))
abbrev s_dot : Stmt := top 21
theorem sc_dot : FnScope ["left", "right", "a", "b"] ["left", "right"] (defScope s_dot) := ⟨rfl, rfl, rfl, by decide +kernel, rfl, by decide +kernel, by decide +kernel⟩
theorem ok_dot {P : Program} {w : World} {K : Frg} {mg : Mg} {base : Heap} {f : Addr} {fd : FuncData} (F : Fun K "dot" "dot" s_dot f fd) (B : Bi mg) (Z : Ez K mg) : FnOk P w K mg base (L2.CX P w) 1 f fd ["left", "right"] (spF K mg 2 f_dot) :=
  fn_ok F sc_dot fun cdv A outer s H E hr cs => (ms_one (ms_ret (me_b1 (cr_sum cs.hc) b_sum B.sum (by decide +kernel) (mr_f (mf_lc (own := [("a", 2), ("b", 3)]) cs.hc sc_dot.nd (mi_zip rfl B.zip (ma_cons (me_var 0 (pv 0)) (ma_cons (me_var 1 (pv 1)) ma_nil))) (blkOk_by (N := ["left", "right", "a", "b"]) (sc := defScope s_dot) (by decide +kernel)) (fun _ _ _ _ _ => (mg_tup cs.hc (mgs_cons (mg_name 2 sc_dot.nd) (mgs_cons (mg_name 3 sc_dot.nd) mgs_nil)))) (fun _ _ _ _ _ => mts_nil) (fun _ _ _ _ _ => (me_op op_mulU o_mul (mr_rd 2 (pv 2)) (mr_rd 3 (pv 3)))))))))
abbrev s_content : Stmt := top 22
theorem sc_content : FnScope ["vector", "part", "entry"] ["vector"] (defScope s_content) := ⟨rfl, rfl, rfl, by decide +kernel, rfl, by decide +kernel, by decide +kernel⟩
theorem ok_content {P : Program} {w : World} {K : Frg} {mg : Mg} {base : Heap} {f : Addr} {fd : FuncData} (F : Fun K "content" "content" s_content f fd) (B : Bi mg) (Z : Ez K mg) : FnOk P w K mg base (L2.CX P w) 1 f fd ["vector"] (spF K mg 1 f_content) :=
  fn_ok F sc_content fun cdv A outer s H E hr cs => (ms_cons (ms_set 1 sc_content.nd me_int)
    (ms_cons (ms_for cs.po cs.hc (mi_seq (me_var 0 (pv 0))) (mg_name 2 sc_content.nd) (ms_one (ms_set 1 sc_content.nd (me_bf2 cr_gcd b_gcd B.gcd (mr_rd 1 (pv 1)) (mr_rd 2 (pv 2))))))
    (ms_one (ms_ret (me_var 1 (pv 1))))))
abbrev s_make_point : Stmt := top 23
theorem sc_make_point : FnScope ["nums", "den", "part", "entry"] ["nums", "den"] (defScope s_make_point) := ⟨rfl, rfl, rfl, by decide +kernel, rfl, by decide +kernel, by decide +kernel⟩
theorem ok_make_point {P : Program} {w : World} {K : Frg} {mg : Mg} {base : Heap} {f : Addr} {fd : FuncData} (F : Fun K "make_point" "make_point" s_make_point f fd) (B : Bi mg) (Z : Ez K mg) {a_content : Addr} {d_content : FuncData} (D_content : Df P w K mg base "content" 1 a_content d_content ["vector"] f_content) : FnOk P w K mg base (L2.CX P w) 2 f fd ["nums", "den"] (spF K mg 2 f_make_point) :=
  fn_ok F sc_make_point fun cdv A outer s H E hr cs => (ms_cons (ms_if (mt_cmp (op_eqD hr.units) o_eq (mr_rd 1 (pv 1)) (mr_of me_int) (nomark _)) (ms_one (ms_raise cs Z.BadNumber)) ms_nil)
    (ms_cons (ms_set 2 sc_make_point.nd (me_bf2 cr_gcd b_gcd B.gcd (mr_of (me_calD D_content (hr.mono (by decide)) cs.cw (ma_cons (me_var 0 (pv 0)) ma_nil) (len_cons (fun ρ ds h => len_nil h)))) (mr_rd 1 (pv 1))))
    (ms_cons (ms_if (mt_cmp op_lt o_lt (mr_rd 1 (pv 1)) (mr_of me_int) (nomark _)) (ms_one (ms_set 2 sc_make_point.nd (me_un un_neg o_neg (mr_rd 2 (pv 2))))) ms_nil)
    (ms_one (ms_ret (me_tup (ma_cons (me_t1 call_tuple_of b_tup B.tuple (by decide +kernel) (mr_f (mf_lc (own := [("entry", 3)]) cs.hc sc_make_point.nd (mi_seq (me_var 0 (pv 0))) (blkOk_by (N := ["nums", "den", "part", "entry"]) (sc := defScope s_make_point) (by decide +kernel)) (fun _ _ _ _ _ => (mg_name 3 sc_make_point.nd)) (fun _ _ _ _ _ => mts_nil) (fun _ _ _ _ _ => (me_op op_fdivU o_fdiv (mr_rd 3 (pv 3)) (mr_rd 2 (pv 2))))))) (ma_cons (me_op op_fdivU o_fdiv (mr_rd 1 (pv 1)) (mr_rd 2 (pv 2))) ma_nil))))))))
abbrev s_is_whole : Stmt := top 25
theorem sc_is_whole : FnScope ["value"] ["value"] (defScope s_is_whole) := ⟨rfl, rfl, rfl, by decide +kernel, rfl, by decide +kernel, by decide +kernel⟩
theorem ok_is_whole {P : Program} {w : World} {K : Frg} {mg : Mg} {base : Heap} {f : Addr} {fd : FuncData} (F : Fun K "is_whole" "is_whole" s_is_whole f fd) (B : Bi mg) (Z : Ez K mg) : FnOk P w K mg base (L2.CX P w) 1 f fd ["value"] (spF K mg 1 f_is_whole) :=
  fn_ok F sc_is_whole fun cdv A outer s H E hr cs => (ms_one (ms_ret (me_and (me_isi (mr_rd 0 (pv 0)) (by decide +kernel) B.isinstance B.int) (pe_one (me_not (me_isi (mr_rd 0 (pv 0)) (by decide +kernel) B.isinstance B.bool))))))
abbrev s_has_form : Stmt := top 26
theorem sc_has_form : FnScope ["value", "word", "length"] ["value", "word", "length"] (defScope s_has_form) := ⟨rfl, rfl, rfl, by decide +kernel, rfl, by decide +kernel, by decide +kernel⟩
theorem ok_has_form {P : Program} {w : World} {K : Frg} {mg : Mg} {base : Heap} {f : Addr} {fd : FuncData} (F : Fun K "has_form" "has_form" s_has_form f fd) (B : Bi mg) (Z : Ez K mg) : FnOk P w K mg base (L2.CX P w) 1 f fd ["value", "word", "length"] (spF K mg 3 f_has_form) :=
  fn_ok F sc_has_form fun cdv A outer s H E hr cs => (ms_one (ms_ret (me_and (me_isi (mr_rd 0 (pv 0)) (by decide +kernel) B.isinstance B.tuple) (me_and (me_cmp (op_eqD hr.units) o_eq (mr_of (me_b1 call_len b_len B.len (by decide +kernel) (mr_rd 0 (pv 0)))) (mr_rd 2 (pv 2)) (nomark _)) (pe_one (me_cmp (op_eqD hr.units) o_eq (mr_of (me_ix ix_seq o_ix (mr_rd 0 (pv 0)) (mr_of me_int) (fun _ _ => rfl))) (mr_rd 1 (pv 1)) (nomark _)))))))
abbrev s_tally : Stmt := top 28
theorem sc_tally : FnScope ["width", "amounts", "nums", "letter", "amount"] ["width", "amounts"] (defScope s_tally) := ⟨rfl, rfl, rfl, by decide +kernel, rfl, by decide +kernel, by decide +kernel⟩
theorem ok_tally {P : Program} {w : World} {K : Frg} {mg : Mg} {base : Heap} {f : Addr} {fd : FuncData} (F : Fun K "tally" "tally" s_tally f fd) (B : Bi mg) (Z : Ez K mg) : FnOk P w K mg base (L2.CX P w) 1 f fd ["width", "amounts"] (spF K mg 2 f_tally) :=
  fn_ok F sc_tally fun cdv A outer s H E hr cs => (ms_cons (ms_setO 2 sc_tally.nd (mf_op op_rep f_rep (mr_f (mf_lst (ma_cons me_int ma_nil))) (mr_rd 0 (pv 0))))
    (ms_cons (ms_for cs.po cs.hc (mi_seq (me_var 1 (pv 1))) (mg_tup cs.hc (mgs_cons (mg_name 3 sc_tally.nd) (mgs_cons (mg_name 4 sc_tally.nd) mgs_nil))) (ms_one (ms_augS 2 (pv 2) (me_var 3 (pv 3)) ip_add o_addI (me_var 4 (pv 4)))))
    (ms_one (ms_retO 2 (pv 2)))))
abbrev s_Task_init : Stmt := mth 29 3
theorem sc_Task_init : FnScope ["self", "width"] ["self", "width"] (defScope s_Task_init) := ⟨rfl, rfl, rfl, by decide +kernel, rfl, by decide +kernel, by decide +kernel⟩
theorem ok_Task_init {P : Program} {w : World} {K : Frg} {mg : Mg} {base : Heap} {f : Addr} {fd : FuncData} (F : Fun K "__init__" "Task.__init__" s_Task_init f fd) (B : Bi mg) (Z : Ez K mg) : FnOk P w K mg base (L2.CX P w) 1 f fd ["self", "width"] (spI K mg ci_Task 1 f_Task_init) :=
  in_ok F sc_Task_init rfl fun cdv A outer s H E hr cs => (ni_cons (ni_pl (ms_if (mt_not (mt_chn op_le o_le op_le o_le (mr_of me_int) (mr_rd 1 (pv 1)) (mr_of (me_ccon Z.k_Task_WIDTH)))) (ms_one (ms_raise cs Z.BadTask)) ms_nil))
    (ni_cons (ni_fld Z.f_width (pv 0) (me_var 1 (pv 1)))
    ni_nil))
abbrev s_Task_check_costs : Stmt := mth 29 5
theorem sc_Task_check_costs : FnScope ["self", "costs"] ["self", "costs"] (defScope s_Task_check_costs) := ⟨rfl, rfl, rfl, by decide +kernel, rfl, by decide +kernel, by decide +kernel⟩
theorem ok_Task_check_costs {P : Program} {w : World} {K : Frg} {mg : Mg} {base : Heap} {f : Addr} {fd : FuncData} (F : Fun K "check_costs" "Task.check_costs" s_Task_check_costs f fd) (B : Bi mg) (Z : Ez K mg) : FnOk P w K mg base (L2.CX P w) 1 f fd ["self", "costs"] (spF K mg 2 f_Task_check_costs) :=
  fn_ok F sc_Task_check_costs fun cdv A outer s H E hr cs => (ms_one (ms_if (mt_cmp (op_neD hr.units) o_ne (mr_of (me_b1 call_len b_len B.len (by decide +kernel) (mr_rd 1 (pv 1)))) (mr_of (me_fld Z.f_width (mr_rd 0 (pv 0)))) (nomark _)) (ms_one (ms_raise cs Z.BadNumber)) ms_nil))
abbrev s_Task_scale : Stmt := mth 29 8
theorem sc_Task_scale : FnScope ["self", "plan"] ["self", "plan"] (defScope s_Task_scale) := ⟨rfl, rfl, rfl, by decide +kernel, rfl, by decide +kernel, by decide +kernel⟩
theorem ok_Task_scale {P : Program} {w : World} {K : Frg} {mg : Mg} {base : Heap} {f : Addr} {fd : FuncData} (F : Fun K "scale" "Task.scale" s_Task_scale f fd) (B : Bi mg) (Z : Ez K mg) : FnOk P w K mg base (L2.CX P w) 1 f fd ["self", "plan"] (spF K mg 2 f_Task_scale) :=
  fn_ok F sc_Task_scale fun cdv A outer s H E hr cs => (ms_one (ms_ret me_int))
abbrev s_Menu_is_plan : Stmt := mth 30 3
theorem sc_Menu_is_plan : FnScope ["self", "plan"] ["self", "plan"] (defScope s_Menu_is_plan) := ⟨rfl, rfl, rfl, by decide +kernel, rfl, by decide +kernel, by decide +kernel⟩
theorem ok_Menu_is_plan {P : Program} {w : World} {K : Frg} {mg : Mg} {base : Heap} {f : Addr} {fd : FuncData} (F : Fun K "is_plan" "Menu.is_plan" s_Menu_is_plan f fd) (B : Bi mg) (Z : Ez K mg) {a_is_whole : Addr} {d_is_whole : FuncData} (D_is_whole : Df P w K mg base "is_whole" 1 a_is_whole d_is_whole ["value"] f_is_whole) : FnOk P w K mg base (L2.CX P w) 2 f fd ["self", "plan"] (spF K mg 2 f_Menu_is_plan) :=
  fn_ok F sc_Menu_is_plan fun cdv A outer s H E hr cs => (ms_one (ms_ret (me_and (me_calD D_is_whole (hr.mono (by decide)) cs.cw (ma_cons (me_var 1 (pv 1)) ma_nil) (len_cons (fun ρ ds h => len_nil h))) (pe_one (me_chn op_le o_le op_lt o_lt (mr_of me_int) (mr_rd 1 (pv 1)) (mr_of (me_b1 call_len b_len B.len (by decide +kernel) (mr_of (me_fld Z.f_usages (mr_rd 0 (pv 0)))))))))))
abbrev s_Menu_amounts : Stmt := mth 30 4
theorem sc_Menu_amounts : FnScope ["self", "plan"] ["self", "plan"] (defScope s_Menu_amounts) := ⟨rfl, rfl, rfl, by decide +kernel, rfl, by decide +kernel, by decide +kernel⟩
theorem ok_Menu_amounts {P : Program} {w : World} {K : Frg} {mg : Mg} {base : Heap} {f : Addr} {fd : FuncData} (F : Fun K "amounts" "Menu.amounts" s_Menu_amounts f fd) (B : Bi mg) (Z : Ez K mg) : FnOk P w K mg base (L2.CX P w) 1 f fd ["self", "plan"] (spF K mg 2 f_Menu_amounts) :=
  fn_ok F sc_Menu_amounts fun cdv A outer s H E hr cs => (ms_one (ms_retF (mf_listEn cs.hc B.list B.enumerate (ma_cons (me_ix ix_seq o_ix (mr_of (me_fld Z.f_usages (mr_rd 0 (pv 0)))) (mr_rd 1 (pv 1)) (fun _ _ => rfl)) ma_nil))))
abbrev s_Task_usage : Stmt := mth 29 9
theorem sc_Task_usage : FnScope ["self", "plan"] ["self", "plan"] (defScope s_Task_usage) := ⟨rfl, rfl, rfl, by decide +kernel, rfl, by decide +kernel, by decide +kernel⟩
theorem ok_Task_usage {P : Program} {w : World} {K : Frg} {mg : Mg} {base : Heap} {f : Addr} {fd : FuncData} (F : Fun K "usage" "Task.usage" s_Task_usage f fd) (B : Bi mg) (Z : Ez K mg) (M_is_plan : MethT P w K mg base mt_is_plan "is_plan" 1 2) (M_scale : MethT P w K mg base mt_scale "scale" 1 1) (M_amounts : MethT P w K mg base mt_amounts "amounts" 1 1) {a_tally : Addr} {d_tally : FuncData} (D_tally : Df P w K mg base "tally" 1 a_tally d_tally ["width", "amounts"] f_tally) {a_make_point : Addr} {d_make_point : FuncData} (D_make_point : Df P w K mg base "make_point" 2 a_make_point d_make_point ["nums", "den"] f_make_point) : FnOk P w K mg base (L2.CX P w) 3 f fd ["self", "plan"] (spF K mg 2 f_Task_usage) :=
  fn_ok F sc_Task_usage fun cdv A outer s H E hr cs => (ms_cons (ms_if (mt_not (mt_tru (mr_of (me_meth M_is_plan (hr.mono (by decide)) cs.cw (mr_rd 0 (pv 0)) (ma_cons (me_var 1 (pv 1)) ma_nil) (len_cons (fun ρ ds h => len_nil h)))))) (ms_one (ms_raise cs Z.NotAPlan)) ms_nil)
    (ms_one (ms_ret (me_calD D_make_point (hr.mono (by decide)) cs.cw (ma_cons (me_calD D_tally (hr.mono (by decide)) cs.cw (ma_cons (me_fld Z.f_width (mr_rd 0 (pv 0))) (ma_cons (me_meth M_amounts (hr.mono (by decide)) cs.cw (mr_rd 0 (pv 0)) (ma_cons (me_var 1 (pv 1)) ma_nil) (len_cons (fun ρ ds h => len_nil h))) ma_nil)) (len_cons (len_cons (fun ρ ds h => len_nil h)))) (ma_cons (me_meth M_scale (hr.mono (by decide)) cs.cw (mr_rd 0 (pv 0)) (ma_cons (me_var 1 (pv 1)) ma_nil) (len_cons (fun ρ ds h => len_nil h))) ma_nil)) (len_cons (len_cons (fun ρ ds h => len_nil h)))))))
abbrev s_Task_cost_of : Stmt := mth 29 10
theorem sc_Task_cost_of : FnScope ["self", "costs", "plan", "nums", "den"] ["self", "costs", "plan"] (defScope s_Task_cost_of) := ⟨rfl, rfl, rfl, by decide +kernel, rfl, by decide +kernel, by decide +kernel⟩
theorem ok_Task_cost_of {P : Program} {w : World} {K : Frg} {mg : Mg} {base : Heap} {f : Addr} {fd : FuncData} (F : Fun K "cost_of" "Task.cost_of" s_Task_cost_of f fd) (B : Bi mg) (Z : Ez K mg) (M_check_costs : MethT P w K mg base mt_check_costs "check_costs" 1 1) (M_usage : MethT P w K mg base mt_usage "usage" 1 3) {a_dot : Addr} {d_dot : FuncData} (D_dot : Df P w K mg base "dot" 1 a_dot d_dot ["left", "right"] f_dot) {a_make_ratio : Addr} {d_make_ratio : FuncData} (D_make_ratio : Df P w K mg base "make_ratio" 1 a_make_ratio d_make_ratio ["num", "den"] f_make_ratio) : FnOk P w K mg base (L2.CX P w) 4 f fd ["self", "costs", "plan"] (spF K mg 3 f_Task_cost_of) :=
  fn_ok F sc_Task_cost_of fun cdv A outer s H E hr cs => (ms_cons (ms_drop (mr_of (me_meth M_check_costs (hr.mono (by decide)) cs.cw (mr_rd 0 (pv 0)) (ma_cons (me_var 1 (pv 1)) ma_nil) (len_cons (fun ρ ds h => len_nil h)))))
    (ms_cons (ms_asg (me_meth M_usage (hr.mono (by decide)) cs.cw (mr_rd 0 (pv 0)) (ma_cons (me_var 2 (pv 2)) ma_nil) (len_cons (fun ρ ds h => len_nil h))) (mg_tup cs.hc (mgs_cons (mg_name 3 sc_Task_cost_of.nd) (mgs_cons (mg_name 4 sc_Task_cost_of.nd) mgs_nil))))
    (ms_one (ms_ret (me_calD D_make_ratio (hr.mono (by decide)) cs.cw (ma_cons (me_calD D_dot (hr.mono (by decide)) cs.cw (ma_cons (me_var 1 (pv 1)) (ma_cons (me_var 3 (pv 3)) ma_nil)) (len_cons (len_cons (fun ρ ds h => len_nil h)))) (ma_cons (me_var 4 (pv 4)) ma_nil)) (len_cons (len_cons (fun ρ ds h => len_nil h))))))))
abbrev s_Task_row_between : Stmt := mth 29 11
theorem sc_Task_row_between : FnScope ["self", "plan", "rival", "nums", "den", "others", "part", "a", "b"] ["self", "plan", "rival"] (defScope s_Task_row_between) := ⟨rfl, rfl, rfl, by decide +kernel, rfl, by decide +kernel, by decide +kernel⟩
theorem ok_Task_row_between {P : Program} {w : World} {K : Frg} {mg : Mg} {base : Heap} {f : Addr} {fd : FuncData} (F : Fun K "row_between" "Task.row_between" s_Task_row_between f fd) (B : Bi mg) (Z : Ez K mg) (M_usage : MethT P w K mg base mt_usage "usage" 1 3) : FnOk P w K mg base (L2.CX P w) 4 f fd ["self", "plan", "rival"] (spF K mg 3 f_Task_row_between) :=
  fn_ok F sc_Task_row_between fun cdv A outer s H E hr cs => (ms_cons (ms_asg (me_meth M_usage (hr.mono (by decide)) cs.cw (mr_rd 0 (pv 0)) (ma_cons (me_var 1 (pv 1)) ma_nil) (len_cons (fun ρ ds h => len_nil h))) (mg_tup cs.hc (mgs_cons (mg_name 3 sc_Task_row_between.nd) (mgs_cons (mg_name 4 sc_Task_row_between.nd) mgs_nil))))
    (ms_cons (ms_asg (me_meth M_usage (hr.mono (by decide)) cs.cw (mr_rd 0 (pv 0)) (ma_cons (me_var 2 (pv 2)) ma_nil) (len_cons (fun ρ ds h => len_nil h))) (mg_tup cs.hc (mgs_cons (mg_name 5 sc_Task_row_between.nd) (mgs_cons (mg_name 6 sc_Task_row_between.nd) mgs_nil))))
    (ms_one (ms_ret (me_t1 call_tuple_of b_tup B.tuple (by decide +kernel) (mr_f (mf_lc (own := [("a", 7), ("b", 8)]) cs.hc sc_Task_row_between.nd (mi_zip rfl B.zip (ma_cons (me_var 3 (pv 3)) (ma_cons (me_var 5 (pv 5)) ma_nil))) (blkOk_by (N := ["self", "plan", "rival", "nums", "den", "others", "part", "a", "b"]) (sc := defScope s_Task_row_between) (by decide +kernel)) (fun _ _ _ _ _ => (mg_tup cs.hc (mgs_cons (mg_name 7 sc_Task_row_between.nd) (mgs_cons (mg_name 8 sc_Task_row_between.nd) mgs_nil)))) (fun _ _ _ _ _ => mts_nil) (fun _ _ _ _ _ => (me_op op_sub o_sub (mr_of (me_op op_mulU o_mul (mr_rd 8 (pv 8)) (mr_rd 4 (pv 4)))) (mr_of (me_op op_mulU o_mul (mr_rd 7 (pv 7)) (mr_rd 6 (pv 6)))))))))))))
abbrev s_Menu_plans : Stmt := mth 30 5
theorem sc_Menu_plans : FnScope ["self"] ["self"] (defScope s_Menu_plans) := ⟨rfl, rfl, rfl, by decide +kernel, rfl, by decide +kernel, by decide +kernel⟩
theorem ok_Menu_plans {P : Program} {w : World} {K : Frg} {mg : Mg} {base : Heap} {f : Addr} {fd : FuncData} (F : Fun K "plans" "Menu.plans" s_Menu_plans f fd) (B : Bi mg) (Z : Ez K mg) : FnOk P w K mg base (L2.CX P w) 1 f fd ["self"] (spF K mg 1 f_Menu_plans) :=
  fn_ok F sc_Menu_plans fun cdv A outer s H E hr cs => (ms_one (ms_retF (mf_lrg cs.hc B.list B.range (me_b1 call_len b_len B.len (by decide +kernel) (mr_of (me_fld Z.f_usages (mr_rd 0 (pv 0))))))))
abbrev s_Task_rules : Stmt := mth 29 13
theorem sc_Task_rules : FnScope ["self", "plan", "rival"] ["self", "plan"] (defScope s_Task_rules) := ⟨rfl, rfl, rfl, by decide +kernel, rfl, by decide +kernel, by decide +kernel⟩
theorem ok_Task_rules {P : Program} {w : World} {K : Frg} {mg : Mg} {base : Heap} {f : Addr} {fd : FuncData} (F : Fun K "rules" "Task.rules" s_Task_rules f fd) (B : Bi mg) (Z : Ez K mg) (M_is_plan : MethT P w K mg base mt_is_plan "is_plan" 1 2) (M_plans : MethT P w K mg base mt_plans "plans" 0 1) (M_row_between : MethT P w K mg base mt_row_between "row_between" 2 4) : FnOk P w K mg base (L2.CX P w) 5 f fd ["self", "plan"] (spF K mg 2 f_Task_rules) :=
  fn_ok F sc_Task_rules fun cdv A outer s H E hr cs => (ms_cons (ms_if (mt_not (mt_tru (mr_of (me_meth M_is_plan (hr.mono (by decide)) cs.cw (mr_rd 0 (pv 0)) (ma_cons (me_var 1 (pv 1)) ma_nil) (len_cons (fun ρ ds h => len_nil h)))))) (ms_one (ms_raise cs Z.NotAPlan)) ms_nil)
    (ms_one (ms_retF (mf_lc (own := [("rival", 2)]) cs.hc sc_Task_rules.nd (mi_seq (me_meth0 M_plans (hr.mono (by decide)) cs.cw (mr_rd 0 (pv 0)))) (blkOk_by (N := ["self", "plan", "rival"]) (sc := defScope s_Task_rules) (by decide +kernel)) (fun _ _ _ _ _ => (mg_name 2 sc_Task_rules.nd)) (fun _ _ _ _ _ => (mts_one (mt_cmp (op_neD hr.units) o_ne (mr_rd 2 (pv 2)) (mr_rd 1 (pv 1)) (nomark _)))) (fun _ _ _ _ _ => (me_meth M_row_between (hr.mono (by decide)) cw0 (mr_rd 0 (pv 0)) (ma_cons (me_var 1 (pv 1)) (ma_cons (me_var 2 (pv 2)) ma_nil)) (len_cons (len_cons (fun ρ ds h => len_nil h)))))))))
abbrev s_Task_is_way : Stmt := mth 29 14
theorem sc_Task_is_way : FnScope ["self", "direction"] ["self", "direction"] (defScope s_Task_is_way) := ⟨rfl, rfl, rfl, by decide +kernel, rfl, by decide +kernel, by decide +kernel⟩
theorem ok_Task_is_way {P : Program} {w : World} {K : Frg} {mg : Mg} {base : Heap} {f : Addr} {fd : FuncData} (F : Fun K "is_way" "Task.is_way" s_Task_is_way f fd) (B : Bi mg) (Z : Ez K mg) : FnOk P w K mg base (L2.CX P w) 1 f fd ["self", "direction"] (spF K mg 2 f_Task_is_way) :=
  fn_ok F sc_Task_is_way fun cdv A outer s H E hr cs => (ms_one (ms_ret me_bl))
abbrev s_Task_drift : Stmt := mth 29 15
theorem sc_Task_drift : FnScope ["self", "direction"] ["self", "direction"] (defScope s_Task_drift) := ⟨rfl, rfl, rfl, by decide +kernel, rfl, by decide +kernel, by decide +kernel⟩
theorem ok_Task_drift {P : Program} {w : World} {K : Frg} {mg : Mg} {base : Heap} {f : Addr} {fd : FuncData} (F : Fun K "drift" "Task.drift" s_Task_drift f fd) (B : Bi mg) (Z : Ez K mg) : FnOk P w K mg base (L2.CX P w) 1 f fd ["self", "direction"] (spF K mg 2 f_Task_drift) :=
  fn_ok F sc_Task_drift fun cdv A outer s H E hr cs => (ms_one (ms_raise cs Z.NotAPlan))
abbrev s_Menu_init : Stmt := mth 30 2
theorem sc_Menu_init : NdefX.NScope ["self", "width", "usages", "__class__", "row"] ["self", "width", "usages"] ["__class__"] (defScope s_Menu_init) := NdefX.nscope_by (by decide +kernel)
theorem ok_Menu_init {P : Program} {w : World} {K : Frg} {mg : Mg} {base : Heap} {f : Addr} {fd : FuncData} (F : FunS K (sM "Menu" "__init__" "Menu.__init__" s_Menu_init) (He.ga K "Menu") file f fd) (hP : SupP P file) (B : Bi mg) (Z : Ez K mg) {d_Task_init : FuncData} (I_Task_init : FnOk P w K mg base (L2.CX P w) 1 (He.fAd K ("Task", some "__init__")) d_Task_init ["self", "width"] (spI K mg ci_Task 1 f_Task_init)) (J_Task_init : Binds K d_Task_init ["self", "width"] []) : FnOk P w K mg base (L2.CX P w) 2 f fd ["self", "width", "usages"] (spI K mg ci_Menu 2 f_Menu_init) :=
  in_okS F hP B.super Z.v_Menu sc_Menu_init rfl (by decide) rfl rfl rfl rfl fun cc cda A outer s H E hr cs su => (nias_cons (ni_sup su Z.u_Menu I_Task_init J_Task_init (hr.mono (by decide)) cs.cw (ma_cons (me_var 1 (pv 1)) ma_nil) (len_cons (fun ρ ds h => len_nil h)) (by decide +kernel) rfl (.inl rfl))
    (ni_cons (ni_pl (ms_if (mt_not (mt_chn op_le o_le op_le o_le (mr_of me_int) (mr_of (me_b1 call_len b_len B.len (by decide +kernel) (mr_rd 2 (pv 2)))) (mr_of (me_ccon Z.k_Menu_MOST)))) (ms_one (ms_raise cs Z.BadTask)) ms_nil))
    (ni_cons (ni_pl (ms_for cs.po cs.hc (mi_seq (me_var 2 (pv 2))) (mg_name 4 sc_Menu_init.nd) (ms_one (ms_if (mt_cmp (op_neD hr.units) o_ne (mr_of (me_b1 call_len b_len B.len (by decide +kernel) (mr_rd 4 (pv 4)))) (mr_rd 1 (pv 1)) (nomark _)) (ms_one (ms_raise cs Z.BadTask)) ms_nil))))
    (ni_cons (ni_fld Z.f_usages (pv 0) (me_t1 call_tuple_of b_tup B.tuple (by decide +kernel) (mr_f (mf_lc (own := [("row", 4)]) cs.hc sc_Menu_init.nd (mi_seq (me_var 2 (pv 2))) (blkOk_by (N := ["self", "width", "usages", "__class__", "row"]) (sc := defScope s_Menu_init) (by decide +kernel)) (fun _ _ _ _ _ => (mg_name 4 sc_Menu_init.nd)) (fun _ _ _ _ _ => mts_nil) (fun _ _ _ _ _ => (me_t1 call_tuple_of b_tup B.tuple (by decide +kernel) (mr_rd 4 (pv 4))))))))
    ni_nil))))
abbrev s_Menu_solve : Stmt := mth 30 6
theorem sc_Menu_solve : FnScope ["self", "costs", "prices", "row"] ["self", "costs"] (defScope s_Menu_solve) := ⟨rfl, rfl, rfl, by decide +kernel, rfl, by decide +kernel, by decide +kernel⟩
theorem ok_Menu_solve {P : Program} {w : World} {K : Frg} {mg : Mg} {base : Heap} {f : Addr} {fd : FuncData} (F : Fun K "solve" "Menu.solve" s_Menu_solve f fd) (B : Bi mg) (Z : Ez K mg) (M_check_costs : MethT P w K mg base mt_check_costs "check_costs" 1 1) {a_dot : Addr} {d_dot : FuncData} (D_dot : Df P w K mg base "dot" 1 a_dot d_dot ["left", "right"] f_dot) : FnOk P w K mg base (L2.CX P w) 2 f fd ["self", "costs"] (spF K mg 2 f_Menu_solve) :=
  fn_ok F sc_Menu_solve fun cdv A outer s H E hr cs => (ms_cons (ms_drop (mr_of (me_meth M_check_costs (hr.mono (by decide)) cs.cw (mr_rd 0 (pv 0)) (ma_cons (me_var 1 (pv 1)) ma_nil) (len_cons (fun ρ ds h => len_nil h)))))
    (ms_cons (ms_setLcV 2 (own := [("row", 3)]) cs.hc sc_Menu_solve.nd (sw_true rfl rfl rfl (by decide +kernel)) (mi_seq (me_fld Z.f_usages (mr_rd 0 (pv 0)))) (blkOk_by (N := ["self", "costs", "prices", "row"]) (sc := defScope s_Menu_solve) (by decide +kernel)) (fun _ _ _ _ _ => (mg_name 3 sc_Menu_solve.nd)) (fun _ _ _ _ _ => mts_nil) (fun _ _ _ _ _ => (me_calD D_dot (hr.mono (by decide)) cw0 (ma_cons (me_var 1 (pv 1)) (ma_cons (me_var 3 (pv 3)) ma_nil)) (len_cons (len_cons (fun ρ ds h => len_nil h))))))
    (ms_one (ms_ret (me_tup (ma_cons me_str (ma_cons (me_idx (mr_rd 2 (pv 2)) (mr_of (me_b1 (cr_min cs.hc) b_min B.min (by decide +kernel) (mr_rd 2 (pv 2))))) (ma_cons me_non ma_nil))))))))
abbrev s_Menu_judge : Stmt := mth 30 7
theorem sc_Menu_judge : FnScope ["self", "costs", "answer", "price", "row"] ["self", "costs", "answer"] (defScope s_Menu_judge) := ⟨rfl, rfl, rfl, by decide +kernel, rfl, by decide +kernel, by decide +kernel⟩
theorem ok_Menu_judge {P : Program} {w : World} {K : Frg} {mg : Mg} {base : Heap} {f : Addr} {fd : FuncData} (F : Fun K "judge" "Menu.judge" s_Menu_judge f fd) (B : Bi mg) (Z : Ez K mg) (M_check_costs : MethT P w K mg base mt_check_costs "check_costs" 1 1) (M_is_plan : MethT P w K mg base mt_is_plan "is_plan" 1 2) {a_has_form : Addr} {d_has_form : FuncData} (D_has_form : Df P w K mg base "has_form" 1 a_has_form d_has_form ["value", "word", "length"] f_has_form) {a_dot : Addr} {d_dot : FuncData} (D_dot : Df P w K mg base "dot" 1 a_dot d_dot ["left", "right"] f_dot) : FnOk P w K mg base (L2.CX P w) 3 f fd ["self", "costs", "answer"] (spF K mg 3 f_Menu_judge) :=
  fn_ok F sc_Menu_judge fun cdv A outer s H E hr cs => (ms_cons (ms_drop (mr_of (me_meth M_check_costs (hr.mono (by decide)) cs.cw (mr_rd 0 (pv 0)) (ma_cons (me_var 1 (pv 1)) ma_nil) (len_cons (fun ρ ds h => len_nil h)))))
    (ms_cons (ms_if (PW.pt (mw_or (mt_not (mt_tru (mr_of (me_calD D_has_form (hr.mono (by decide)) cs.cw (ma_cons (me_var 2 (pv 2)) (ma_cons me_str (ma_cons me_int ma_nil))) (len_cons (len_cons (len_cons (fun ρ ds h => len_nil h)))))))) (mw_or (mt_cmp op_notN o_notN (mr_of (me_ix ix_seq o_ix (mr_rd 2 (pv 2)) (mr_of me_int) (fun _ _ => rfl))) (mr_of me_non) (nomark _)) (mw_or1 (mt_not (mt_tru (mr_of (me_meth M_is_plan (hr.mono (by decide)) cs.cw (mr_rd 0 (pv 0)) (ma_cons (me_ix ix_seq o_ix (mr_rd 2 (pv 2)) (mr_of me_int) (fun _ _ => rfl)) ma_nil) (len_cons (fun ρ ds h => len_nil h)))))))))) (ms_one (ms_ret me_bl)) ms_nil)
    (ms_cons (ms_set 3 sc_Menu_judge.nd (me_calD D_dot (hr.mono (by decide)) cs.cw (ma_cons (me_var 1 (pv 1)) (ma_cons (me_ix ix_seq o_ix (mr_of (me_fld Z.f_usages (mr_rd 0 (pv 0)))) (mr_of (me_ix ix_seq o_ix (mr_rd 2 (pv 2)) (mr_of me_int) (fun _ _ => rfl))) (fun _ _ => rfl)) ma_nil)) (len_cons (len_cons (fun ρ ds h => len_nil h)))))
    (ms_one (ms_ret (me_b1 (cr_all cs.hc) b_all B.all (by decide +kernel) (mr_f (mf_lc (own := [("row", 4)]) cs.hc sc_Menu_judge.nd (mi_seq (me_fld Z.f_usages (mr_rd 0 (pv 0)))) (blkOk_by (N := ["self", "costs", "answer", "price", "row"]) (sc := defScope s_Menu_judge) (by decide +kernel)) (fun _ _ _ _ _ => (mg_name 4 sc_Menu_judge.nd)) (fun _ _ _ _ _ => mts_nil) (fun _ _ _ _ _ => (me_cmp op_ge o_ge (mr_of (me_calD D_dot (hr.mono (by decide)) cw0 (ma_cons (me_var 1 (pv 1)) (ma_cons (me_var 4 (pv 4)) ma_nil)) (len_cons (len_cons (fun ρ ds h => len_nil h))))) (mr_rd 3 (pv 3)) (nomark _)))))))))))
abbrev s_ulaw_mix : Stmt := top 32
theorem sc_ulaw_mix : FnScope ["cell", "k", "first", "second"] ["cell", "k"] (defScope s_ulaw_mix) := ⟨rfl, rfl, rfl, by decide +kernel, rfl, by decide +kernel, by decide +kernel⟩
theorem ok_ulaw_mix {P : Program} {w : World} {K : Frg} {mg : Mg} {base : Heap} {f : Addr} {fd : FuncData} (F : Fun K "_law_mix" "_law_mix" s_ulaw_mix f fd) (B : Bi mg) (Z : Ez K mg) : FnOk P w K mg base (L2.CX P w) 1 f fd ["cell", "k"] (spF K mg 2 f_ulaw_mix) :=
  fn_ok F sc_ulaw_mix fun cdv A outer s H E hr cs => (ms_cons (ms_set 2 sc_ulaw_mix.nd (me_op op_modN o_mod (mr_of (me_t1 call_intT b_intT B.int (by decide +kernel) (mr_of (me_op op_addU o_add (mr_of (me_op op_addU o_add (mr_of (me_op op_mulU o_mul (mr_rd 0 (pv 0)) (mr_of me_int))) (mr_of (me_op op_mulU o_mul (mr_rd 1 (pv 1)) (mr_of me_int))))) (mr_of me_int))))) (mr_of me_int)))
    (ms_cons (ms_set 3 sc_ulaw_mix.nd (me_op op_modN o_mod (mr_of (me_t1 call_intT b_intT B.int (by decide +kernel) (mr_of (me_op op_addU o_add (mr_of (me_op op_addU o_add (mr_of (me_op op_mulU o_mul (mr_rd 2 (pv 2)) (mr_rd 2 (pv 2)))) (mr_of (me_op op_mulU o_mul (mr_rd 1 (pv 1)) (mr_of me_int))))) (mr_of me_int))))) (mr_of me_int)))
    (ms_one (ms_ret (me_op op_fdivU o_fdiv (mr_of (me_op op_modN o_mod (mr_of (me_t1 call_intT b_intT B.int (by decide +kernel) (mr_of (me_op op_addU o_add (mr_of (me_op op_mulU o_mul (mr_rd 3 (pv 3)) (mr_of me_int))) (mr_rd 2 (pv 2)))))) (mr_of me_int))) (mr_of me_int))))))
abbrev s_ulaw_row : Stmt := top 33
theorem sc_ulaw_row : FnScope ["script", "at", "many", "cell", "row", "rest", "k"] ["script", "at", "many"] (defScope s_ulaw_row) := ⟨rfl, rfl, rfl, by decide +kernel, rfl, by decide +kernel, by decide +kernel⟩
theorem ok_ulaw_row {P : Program} {w : World} {K : Frg} {mg : Mg} {base : Heap} {f : Addr} {fd : FuncData} (F : Fun K "_law_row" "_law_row" s_ulaw_row f fd) (B : Bi mg) (Z : Ez K mg) {a_ulaw_mix : Addr} {d_ulaw_mix : FuncData} (D_ulaw_mix : Df P w K mg base "_law_mix" 1 a_ulaw_mix d_ulaw_mix ["cell", "k"] f_ulaw_mix) : FnOk P w K mg base (L2.CX P w) 2 f fd ["script", "at", "many"] (spF K mg 3 f_ulaw_row) :=
  fn_ok F sc_ulaw_row fun cdv A outer s H E hr cs => (ms_cons (ms_set 3 sc_ulaw_row.nd (me_var 1 (pv 1)))
    (ms_cons (ms_if (mt_cmp op_lt o_lt (mr_rd 1 (pv 1)) (mr_of (me_b1 call_len b_len B.len (by decide +kernel) (mr_rd 0 (pv 0)))) (nomark _)) (ms_one (ms_set 3 sc_ulaw_row.nd (me_ix ix_seq o_ix (mr_rd 0 (pv 0)) (mr_rd 1 (pv 1)) (fun _ _ => rfl)))) (ms_one (ms_if (mt_cmp op_gt o_gt (mr_of (me_b1 call_len b_len B.len (by decide +kernel) (mr_rd 0 (pv 0)))) (mr_of me_int) (nomark _)) (ms_one (ms_set 3 sc_ulaw_row.nd (me_op op_addU o_add (mr_of (me_ix ix_seq o_ix (mr_rd 0 (pv 0)) (mr_of (me_op op_modN o_mod (mr_rd 1 (pv 1)) (mr_of (me_b1 call_len b_len B.len (by decide +kernel) (mr_rd 0 (pv 0)))))) (fun _ _ => rfl))) (mr_of (me_op op_mulU o_mul (mr_of me_int) (mr_rd 1 (pv 1))))))) ms_nil)))
    (ms_cons (ms_setO 4 sc_ulaw_row.nd (mf_lst ma_nil))
    (ms_cons (ms_set 5 sc_ulaw_row.nd (me_b1 call_abs b_abs B.abs (by decide +kernel) (mr_rd 3 (pv 3))))
    (ms_cons (ms_for cs.po cs.hc (mi_rng1 rfl B.range (ma_cons (me_var 2 (pv 2)) ma_nil)) (mg_name 6 sc_ulaw_row.nd) (ms_one (ms_if (PW.pt (mw_and (mt_cmp op_ge o_ge (mr_of (me_b1 call_abs b_abs B.abs (by decide +kernel) (mr_rd 3 (pv 3)))) (mr_of me_int) (nomark _)) (mw_and1 (mt_cmp op_gt o_gt (mr_rd 5 (pv 5)) (mr_of me_int) (nomark _))))) (ms_cons (ms_app 4 (pv 4) (me_op op_modN o_mod (mr_of (me_t1 call_intT b_intT B.int (by decide +kernel) (mr_rd 5 (pv 5)))) (mr_of me_int)))
    (ms_one (ms_set 5 sc_ulaw_row.nd (me_op op_fdivU o_fdiv (mr_rd 5 (pv 5)) (mr_of me_int))))) (ms_one (ms_app 4 (pv 4) (me_calD D_ulaw_mix (hr.mono (by decide)) cs.cw (ma_cons (me_var 3 (pv 3)) (ma_cons (me_var 6 (pv 6)) ma_nil)) (len_cons (len_cons (fun ρ ds h => len_nil h)))))))))
    (ms_one (ms_retO 4 (pv 4))))))))
abbrev s_ulaw_is_whole : Stmt := top 34
theorem sc_ulaw_is_whole : FnScope ["value"] ["value"] (defScope s_ulaw_is_whole) := ⟨rfl, rfl, rfl, by decide +kernel, rfl, by decide +kernel, by decide +kernel⟩
theorem ok_ulaw_is_whole {P : Program} {w : World} {K : Frg} {mg : Mg} {base : Heap} {f : Addr} {fd : FuncData} (F : Fun K "_law_is_whole" "_law_is_whole" s_ulaw_is_whole f fd) (B : Bi mg) (Z : Ez K mg) : FnOk P w K mg base (L2.CX P w) 1 f fd ["value"] (spF K mg 1 f_ulaw_is_whole) :=
  fn_ok F sc_ulaw_is_whole fun cdv A outer s H E hr cs => (ms_one (ms_ret (me_and (me_isi (mr_rd 0 (pv 0)) (by decide +kernel) B.isinstance B.int) (pe_one (me_not (me_isi (mr_rd 0 (pv 0)) (by decide +kernel) B.isinstance B.bool))))))
abbrev s_ulaw_is_tuple : Stmt := top 35
theorem sc_ulaw_is_tuple : FnScope ["value", "size", "num"] ["value", "size"] (defScope s_ulaw_is_tuple) := ⟨rfl, rfl, rfl, by decide +kernel, rfl, by decide +kernel, by decide +kernel⟩
theorem ok_ulaw_is_tuple {P : Program} {w : World} {K : Frg} {mg : Mg} {base : Heap} {f : Addr} {fd : FuncData} (F : Fun K "_law_is_tuple" "_law_is_tuple" s_ulaw_is_tuple f fd) (B : Bi mg) (Z : Ez K mg) {a_ulaw_is_whole : Addr} {d_ulaw_is_whole : FuncData} (D_ulaw_is_whole : Df P w K mg base "_law_is_whole" 1 a_ulaw_is_whole d_ulaw_is_whole ["value"] f_ulaw_is_whole) : FnOk P w K mg base (L2.CX P w) 2 f fd ["value", "size"] (spF K mg 2 f_ulaw_is_tuple) :=
  fn_ok F sc_ulaw_is_tuple fun cdv A outer s H E hr cs => (ms_one (ms_ret (me_and (me_isi (mr_rd 0 (pv 0)) (by decide +kernel) B.isinstance B.tuple) (me_and (me_cmp (op_eqD hr.units) o_eq (mr_of (me_b1 call_len b_len B.len (by decide +kernel) (mr_rd 0 (pv 0)))) (mr_rd 1 (pv 1)) (nomark _)) (pe_one (me_b1 (cr_all cs.hc) b_all B.all (by decide +kernel) (mr_f (mf_lc (own := [("num", 2)]) cs.hc sc_ulaw_is_tuple.nd (mi_seq (me_var 0 (pv 0))) (blkOk_by (N := ["value", "size", "num"]) (sc := defScope s_ulaw_is_tuple) (by decide +kernel)) (fun _ _ _ _ _ => (mg_name 2 sc_ulaw_is_tuple.nd)) (fun _ _ _ _ _ => mts_nil) (fun _ _ _ _ _ => (me_calD D_ulaw_is_whole (hr.mono (by decide)) cw0 (ma_cons (me_var 2 (pv 2)) ma_nil) (len_cons (fun ρ ds h => len_nil h))))))))))))
abbrev s_ulaw_dot : Stmt := top 36
theorem sc_ulaw_dot : FnScope ["left", "right", "total", "k"] ["left", "right"] (defScope s_ulaw_dot) := ⟨rfl, rfl, rfl, by decide +kernel, rfl, by decide +kernel, by decide +kernel⟩
theorem ok_ulaw_dot {P : Program} {w : World} {K : Frg} {mg : Mg} {base : Heap} {f : Addr} {fd : FuncData} (F : Fun K "_law_dot" "_law_dot" s_ulaw_dot f fd) (B : Bi mg) (Z : Ez K mg) : FnOk P w K mg base (L2.CX P w) 1 f fd ["left", "right"] (spF K mg 2 f_ulaw_dot) :=
  fn_ok F sc_ulaw_dot fun cdv A outer s H E hr cs => (ms_cons (ms_set 2 sc_ulaw_dot.nd me_int)
    (ms_cons (ms_for cs.po cs.hc (mi_rng1 rfl B.range (ma_cons (me_b1 call_len b_len B.len (by decide +kernel) (mr_rd 0 (pv 0))) ma_nil)) (mg_name 3 sc_ulaw_dot.nd) (ms_one (ms_set 2 sc_ulaw_dot.nd (me_op op_addU o_add (mr_rd 2 (pv 2)) (mr_of (me_op op_mulU o_mul (mr_of (me_ix ix_seq o_ix (mr_rd 0 (pv 0)) (mr_rd 3 (pv 3)) (fun _ _ => rfl))) (mr_of (me_ix ix_seq o_ix (mr_rd 1 (pv 1)) (mr_rd 3 (pv 3)) (fun _ _ => rfl)))))))))
    (ms_one (ms_ret (me_var 2 (pv 2))))))
abbrev s_ulaw_amount : Stmt := top 37
theorem sc_ulaw_amount : FnScope ["first", "second", "mode"] ["first", "second", "mode"] (defScope s_ulaw_amount) := ⟨rfl, rfl, rfl, by decide +kernel, rfl, by decide +kernel, by decide +kernel⟩
theorem ok_ulaw_amount {P : Program} {w : World} {K : Frg} {mg : Mg} {base : Heap} {f : Addr} {fd : FuncData} (F : Fun K "_law_amount" "_law_amount" s_ulaw_amount f fd) (B : Bi mg) (Z : Ez K mg) : FnOk P w K mg base (L2.CX P w) 1 f fd ["first", "second", "mode"] (spF K mg 3 f_ulaw_amount) :=
  fn_ok F sc_ulaw_amount fun cdv A outer s H E hr cs => (ms_cons (ms_if (mt_cmp (op_eqD hr.units) o_eq (mr_rd 2 (pv 2)) (mr_of me_int) (nomark _)) (ms_one (ms_ret (me_op op_modN o_mod (mr_rd 0 (pv 0)) (mr_of me_int)))) ms_nil)
    (ms_cons (ms_if (mt_cmp (op_eqD hr.units) o_eq (mr_rd 2 (pv 2)) (mr_of me_int) (nomark _)) (ms_one (ms_ret (me_op op_sub o_sub (mr_of (me_op op_modN o_mod (mr_rd 0 (pv 0)) (mr_of me_int))) (mr_of me_int)))) ms_nil)
    (ms_cons (ms_if (mt_cmp (op_eqD hr.units) o_eq (mr_rd 2 (pv 2)) (mr_of me_int) (nomark _)) (ms_one (ms_ret (me_op op_mulU o_mul (mr_of (me_op op_modN o_mod (mr_of (me_t1 call_intT b_intT B.int (by decide +kernel) (mr_of (me_op op_addU o_add (mr_of (me_op op_addU o_add (mr_of (me_op op_mulU o_mul (mr_rd 0 (pv 0)) (mr_of (me_op op_pow o_pow (mr_of me_int) (mr_of me_int))))) (mr_of (me_op op_mulU o_mul (mr_rd 1 (pv 1)) (mr_of (me_op op_pow o_pow (mr_of me_int) (mr_of me_int))))))) (mr_of (me_op op_mulU o_mul (mr_of (me_op op_mulU o_mul (mr_rd 0 (pv 0)) (mr_rd 1 (pv 1)))) (mr_of me_int))))))) (mr_of (me_op op_pow o_pow (mr_of me_int) (mr_of me_int))))) (mr_of (me_op op_sub o_sub (mr_of me_int) (mr_of (me_op op_mulU o_mul (mr_of me_int) (mr_of (me_op op_modN o_mod (mr_rd 1 (pv 1)) (mr_of me_int)))))))))) ms_nil)
    (ms_one (ms_ret (me_op op_modN o_mod (mr_rd 0 (pv 0)) (mr_of me_int)))))))
abbrev s_ulaw_vectors : Stmt := top 38
theorem sc_ulaw_vectors : FnScope ["cells", "many", "width", "mode", "vectors", "j", "vector", "k", "at"] ["cells", "many", "width", "mode"] (defScope s_ulaw_vectors) := ⟨rfl, rfl, rfl, by decide +kernel, rfl, by decide +kernel, by decide +kernel⟩
theorem ok_ulaw_vectors {P : Program} {w : World} {K : Frg} {mg : Mg} {base : Heap} {f : Addr} {fd : FuncData} (F : Fun K "_law_vectors" "_law_vectors" s_ulaw_vectors f fd) (B : Bi mg) (Z : Ez K mg) {a_ulaw_amount : Addr} {d_ulaw_amount : FuncData} (D_ulaw_amount : Df P w K mg base "_law_amount" 1 a_ulaw_amount d_ulaw_amount ["first", "second", "mode"] f_ulaw_amount) : FnOk P w K mg base (L2.CX P w) 2 f fd ["cells", "many", "width", "mode"] (spF K mg 4 f_ulaw_vectors) :=
  fn_ok F sc_ulaw_vectors fun cdv A outer s H E hr cs => (ms_cons (ms_setO 4 sc_ulaw_vectors.nd (mf_lst ma_nil))
    (ms_cons (ms_for cs.po cs.hc (mi_rng1 rfl B.range (ma_cons (me_var 1 (pv 1)) ma_nil)) (mg_name 5 sc_ulaw_vectors.nd) (ms_cons (ms_setO 6 sc_ulaw_vectors.nd (mf_lst ma_nil))
    (ms_cons (ms_for cs.po cs.hc (mi_rng1 rfl B.range (ma_cons (me_var 2 (pv 2)) ma_nil)) (mg_name 7 sc_ulaw_vectors.nd) (ms_cons (ms_set 8 sc_ulaw_vectors.nd (me_op op_mulU o_mul (mr_of me_int) (mr_of (me_op op_addU o_add (mr_of (me_op op_mulU o_mul (mr_rd 2 (pv 2)) (mr_rd 5 (pv 5)))) (mr_rd 7 (pv 7))))))
    (ms_one (ms_app 6 (pv 6) (me_calD D_ulaw_amount (hr.mono (by decide)) cs.cw (ma_cons (me_t1 call_intT b_intT B.int (by decide +kernel) (mr_of (me_ix ix_seq o_ix (mr_rd 0 (pv 0)) (mr_rd 8 (pv 8)) (fun _ _ => rfl)))) (ma_cons (me_t1 call_intT b_intT B.int (by decide +kernel) (mr_of (me_ix ix_seq o_ix (mr_rd 0 (pv 0)) (mr_of (me_op op_addU o_add (mr_rd 8 (pv 8)) (mr_of me_int))) (fun _ _ => rfl)))) (ma_cons (me_var 3 (pv 3)) ma_nil))) (len_cons (len_cons (len_cons (fun ρ ds h => len_nil h)))))))))
    (ms_one (ms_app 4 (pv 4) (me_t1 call_tuple_of b_tup B.tuple (by decide +kernel) (mr_rd 6 (pv 6))))))))
    (ms_one (ms_retO 4 (pv 4)))))
abbrev s_ulaw_is_bool : Stmt := top 39
theorem sc_ulaw_is_bool : FnScope ["value", "due"] ["value", "due"] (defScope s_ulaw_is_bool) := ⟨rfl, rfl, rfl, by decide +kernel, rfl, by decide +kernel, by decide +kernel⟩
theorem ok_ulaw_is_bool {P : Program} {w : World} {K : Frg} {mg : Mg} {base : Heap} {f : Addr} {fd : FuncData} (F : Fun K "_law_is_bool" "_law_is_bool" s_ulaw_is_bool f fd) (B : Bi mg) (Z : Ez K mg) : FnOk P w K mg base (L2.CX P w) 1 f fd ["value", "due"] (spF K mg 2 f_ulaw_is_bool) :=
  fn_ok F sc_ulaw_is_bool fun cdv A outer s H E hr cs => (ms_one (ms_ret (me_and (me_isi (mr_rd 0 (pv 0)) (by decide +kernel) B.isinstance B.bool) (pe_one (me_cmp (op_eqD hr.units) o_eq (mr_rd 0 (pv 0)) (mr_rd 1 (pv 1)) (nomark _))))))
abbrev s_ulaw_error : Stmt := top 40
theorem sc_ulaw_error : FnScope ["way", "menu", "costs", "value", "code", "e"] ["way", "menu", "costs", "value"] (defScope s_ulaw_error) := ⟨rfl, rfl, rfl, by decide +kernel, rfl, by decide +kernel, by decide +kernel⟩
theorem ok_ulaw_error {P : Program} {w : World} {K : Frg} {mg : Mg} {base : Heap} {f : Addr} {fd : FuncData} (F : Fun K "_law_error" "_law_error" s_ulaw_error f fd) (B : Bi mg) (Z : Ez K mg) (M_cost_of : MethT P w K mg base mt_cost_of "cost_of" 2 4) (M_solve : MethT P w K mg base mt_solve "solve" 1 2) (M_judge : MethT P w K mg base mt_judge "judge" 2 3) (M_usage : MethT P w K mg base mt_usage "usage" 1 3) (M_rules : MethT P w K mg base mt_rules "rules" 1 5) (M_drift : MethT P w K mg base mt_drift "drift" 1 1) {aC_Menu aI_Menu : Addr} {dI_Menu : FuncData} {pI_Menu cI_Menu : List Str} (C_Menu : MkT P w K mg base "Menu" 2 2 f_Menu_init aC_Menu aI_Menu dI_Menu pI_Menu cI_Menu) : FnOk P w K mg base (L2.CX P w) 6 f fd ["way", "menu", "costs", "value"] (spF K mg 4 f_ulaw_error) :=
  fn_ok F sc_ulaw_error fun cdv A outer s H E hr cs => (ms_cons (ms_set 4 sc_ulaw_error.nd me_int)
    (ms_cons (ms_try 5 cs rfl rfl sc_ulaw_error.nd ⟨rfl, by decide, Or.inl Z.g_CostsError⟩ Z.Y_t_CostsError (fun W pn xe cs => (ms_one (ms_if (mt_cmp (op_eqD hr.units) o_eq (mr_rd 0 (pv 0)) (mr_of me_int) (nomark _)) (ms_one (ms_drop (mr_of (me_meth M_cost_of (hr.mono (by decide)) cs.cw (mr_rd 1 (pv 1)) (ma_cons (me_var 2 (pv 2)) (ma_cons (me_var 3 (pv 3)) ma_nil)) (len_cons (len_cons (fun ρ ds h => len_nil h))))))) (ms_one (ms_if (mt_cmp (op_eqD hr.units) o_eq (mr_rd 0 (pv 0)) (mr_of me_int) (nomark _)) (ms_one (ms_drop (mr_of (me_meth M_solve (hr.mono (by decide)) cs.cw (mr_rd 1 (pv 1)) (ma_cons (me_var 2 (pv 2)) ma_nil) (len_cons (fun ρ ds h => len_nil h)))))) (ms_one (ms_if (mt_cmp (op_eqD hr.units) o_eq (mr_rd 0 (pv 0)) (mr_of me_int) (nomark _)) (ms_one (ms_drop (mr_of (me_meth M_judge (hr.mono (by decide)) cs.cw (mr_rd 1 (pv 1)) (ma_cons (me_var 2 (pv 2)) (ma_cons (me_var 3 (pv 3)) ma_nil)) (len_cons (len_cons (fun ρ ds h => len_nil h))))))) (ms_one (ms_if (mt_cmp (op_eqD hr.units) o_eq (mr_rd 0 (pv 0)) (mr_of me_int) (nomark _)) (ms_one (ms_drop (mr_of (me_meth M_usage (hr.mono (by decide)) cs.cw (mr_rd 1 (pv 1)) (ma_cons (me_var 3 (pv 3)) ma_nil) (len_cons (fun ρ ds h => len_nil h)))))) (ms_one (ms_if (mt_cmp (op_eqD hr.units) o_eq (mr_rd 0 (pv 0)) (mr_of me_int) (nomark _)) (ms_one (ms_drop (mr_of (me_meth M_rules (hr.mono (by decide)) cs.cw (mr_rd 1 (pv 1)) (ma_cons (me_var 3 (pv 3)) ma_nil) (len_cons (fun ρ ds h => len_nil h)))))) (ms_one (ms_if (mt_cmp (op_eqD hr.units) o_eq (mr_rd 0 (pv 0)) (mr_of me_int) (nomark _)) (ms_one (ms_drop (mr_of (me_meth M_drift (hr.mono (by decide)) cs.cw (mr_rd 1 (pv 1)) (ma_cons (me_var 3 (pv 3)) ma_nil) (len_cons (fun ρ ds h => len_nil h)))))) (ms_one (ms_drop (mr_of (me_make C_Menu (hr.mono (by decide)) cs.cw (ma_cons (me_var 2 (pv 2)) (ma_cons (me_var 3 (pv 3)) ma_nil)) (len_cons (len_cons (fun ρ ds h => len_nil h)))))))))))))))))))) (fun a oe C dd pn hz hf => (ms_cons (ms_set 4 sc_ulaw_error.nd (me_op op_addU o_add (mr_of (me_op op_addU o_add (mr_of (me_op op_mulU o_mul (mr_of me_int) (mr_of (me_t1 call_intT b_intT B.int (by decide +kernel) (mr_of (me_isE 5 hz hf Z.X_t_BadNumber (pv 5) (pe_glob (v := .ref (He.ga K "BadNumber")) rfl Z.g_BadNumber rfl) (.own _) B.isinstance)))))) (mr_of (me_op op_mulU o_mul (mr_of me_int) (mr_of (me_t1 call_intT b_intT B.int (by decide +kernel) (mr_of (me_isE 5 hz hf Z.X_t_NotAPlan (pv 5) (pe_glob (v := .ref (He.ga K "NotAPlan")) rfl Z.g_NotAPlan rfl) (.own _) B.isinstance)))))))) (mr_of (me_t1 call_intT b_intT B.int (by decide +kernel) (mr_of (me_isE 5 hz hf Z.X_t_BadTask (pv 5) (pe_glob (v := .ref (He.ga K "BadTask")) rfl Z.g_BadTask rfl) (.own _) B.isinstance))))))
    (ms_cons (ms_if (mt_tru (mr_of (me_isET (cvs := [.ref (He.ga K "Unlisted"), .ref (He.ga K "BadPaper"), .ref (He.ga K "NoCosts"), .ref (He.ga K "BadQuestion"), .ref (He.ga K "BadRange"), .ref (He.ga K "BadSeen"), .ref (He.ga K "TooMany"), .ref (He.ga K "BadText"), .ref (He.ga K "BadName")]) 5 hz hf Z.X_t_Unlied_BadPer_NoCots_BadQon_BadRge_BadSen_TooMny_BadTxt_BadNme (pv 5) (pa_cons (pe_glob (v := .ref (He.ga K "Unlisted")) rfl Z.g_Unlisted rfl) (pa_cons (pe_glob (v := .ref (He.ga K "BadPaper")) rfl Z.g_BadPaper rfl) (pa_cons (pe_glob (v := .ref (He.ga K "NoCosts")) rfl Z.g_NoCosts rfl) (pa_cons (pe_glob (v := .ref (He.ga K "BadQuestion")) rfl Z.g_BadQuestion rfl) (pa_cons (pe_glob (v := .ref (He.ga K "BadRange")) rfl Z.g_BadRange rfl) (pa_cons (pe_glob (v := .ref (He.ga K "BadSeen")) rfl Z.g_BadSeen rfl) (pa_cons (pe_glob (v := .ref (He.ga K "TooMany")) rfl Z.g_TooMany rfl) (pa_cons (pe_glob (v := .ref (He.ga K "BadText")) rfl Z.g_BadText rfl) (pa_cons (pe_glob (v := .ref (He.ga K "BadName")) rfl Z.g_BadName rfl) pa_nil))))))))) (.cons (.own _) (.cons (.own _) (.cons (.own _) (.cons (.own _) (.cons (.own _) (.cons (.own _) (.cons (.own _) (.cons (.own _) (.cons (.own _) .nil))))))))) B.isinstance))) (ms_one (ms_set 4 sc_ulaw_error.nd (me_un un_neg o_neg (mr_of me_int)))) ms_nil)
    (ms_one (ms_if (PW.pt (mw_or (mt_tru (mr_of (me_isET (cvs := [.ref (He.ga K "UnknownName"), .ref (He.ga K "StaleKey")]) 5 hz hf Z.X_t_Unknme_Staley (pv 5) (pa_cons (pe_glob (v := .ref (He.ga K "UnknownName")) rfl Z.g_UnknownName rfl) (pa_cons (pe_glob (v := .ref (He.ga K "StaleKey")) rfl Z.g_StaleKey rfl) pa_nil)) (.cons (.own _) (.cons (.own _) .nil)) B.isinstance))) (mw_or1 (mt_not (mt_tru (mr_of (me_isE 5 hz hf Z.X_t_ValueError (pv 5) (pe_bltn (v := .ty "ValueError") rfl B.ValueError (by decide +kernel) rfl) (.ty _) B.isinstance))))))) (ms_one (ms_set 4 sc_ulaw_error.nd (me_un un_neg o_neg (mr_of me_int)))) ms_nil))))))
    (ms_one (ms_ret (me_var 4 (pv 4))))))
abbrev s_ulaw_is_menu : Stmt := top 41
theorem sc_ulaw_is_menu : FnScope ["menu", "width", "usages", "plans", "plan", "told", "row"] ["menu", "width", "usages"] (defScope s_ulaw_is_menu) := ⟨rfl, rfl, rfl, by decide +kernel, rfl, by decide +kernel, by decide +kernel⟩
theorem ok_ulaw_is_menu {P : Program} {w : World} {K : Frg} {mg : Mg} {base : Heap} {f : Addr} {fd : FuncData} (F : Fun K "_law_is_menu" "_law_is_menu" s_ulaw_is_menu f fd) (B : Bi mg) (Z : Ez K mg) {a_ulaw_is_whole : Addr} {d_ulaw_is_whole : FuncData} (D_ulaw_is_whole : Df P w K mg base "_law_is_whole" 1 a_ulaw_is_whole d_ulaw_is_whole ["value"] f_ulaw_is_whole) {a_ulaw_is_tuple : Addr} {d_ulaw_is_tuple : FuncData} (D_ulaw_is_tuple : Df P w K mg base "_law_is_tuple" 2 a_ulaw_is_tuple d_ulaw_is_tuple ["value", "size"] f_ulaw_is_tuple) (M_plans : MethT P w K mg base mt_plans "plans" 0 1) (M_usage : MethT P w K mg base mt_usage "usage" 1 3) (M_is_plan : MethT P w K mg base mt_is_plan "is_plan" 1 2) {a_ulaw_is_bool : Addr} {d_ulaw_is_bool : FuncData} (D_ulaw_is_bool : Df P w K mg base "_law_is_bool" 1 a_ulaw_is_bool d_ulaw_is_bool ["value", "due"] f_ulaw_is_bool) : FnOk P w K mg base (L2.CX P w) 4 f fd ["menu", "width", "usages"] (spF K mg 3 f_ulaw_is_menu) :=
  fn_ok F sc_ulaw_is_menu fun cdv A outer s H E hr cs => (ms_cons (ms_if (PW.pt (mw_or (mt_not (mt_tru (mr_of (me_isC Z.I_Menu (mr_rd 0 (pv 0)) B.isinstance)))) (mw_or (mt_not (mt_tru (mr_of (me_isC Z.I_Task (mr_rd 0 (pv 0)) B.isinstance)))) (mw_or (mt_cmp (op_neD hr.units) o_ne (mr_of (me_cono Z.n_KIND (mr_rd 0 (pv 0)))) (mr_of me_str) (nomark _)) (mw_or1 (mt_cmp (op_neD hr.units) o_ne (mr_of (me_cono Z.n_PLANS (mr_rd 0 (pv 0)))) (mr_of me_int) (nomark _))))))) (ms_one (ms_ret me_bl)) ms_nil)
    (ms_cons (ms_if (PW.pt (mw_or (mt_not (mt_tru (mr_of (me_calD D_ulaw_is_whole (hr.mono (by decide)) cs.cw (ma_cons (me_fld Z.f_width (mr_rd 0 (pv 0))) ma_nil) (len_cons (fun ρ ds h => len_nil h)))))) (mw_or (mt_cmp (op_neD hr.units) o_ne (mr_of (me_fld Z.f_width (mr_rd 0 (pv 0)))) (mr_rd 1 (pv 1)) (nomark _)) (mw_or1 (mt_not (mt_tru (mr_of (me_isi (mr_of (me_fld Z.f_usages (mr_rd 0 (pv 0)))) (by decide +kernel) B.isinstance B.tuple)))))))) (ms_one (ms_ret me_bl)) ms_nil)
    (ms_cons (ms_if (PW.pt (mw_or (mt_not (mt_tru (mr_of (me_b1 (cr_all cs.hc) b_all B.all (by decide +kernel) (mr_f (mf_lc (own := [("row", 6)]) cs.hc sc_ulaw_is_menu.nd (mi_seq (me_fld Z.f_usages (mr_rd 0 (pv 0)))) (blkOk_by (N := ["menu", "width", "usages", "plans", "plan", "told", "row"]) (sc := defScope s_ulaw_is_menu) (by decide +kernel)) (fun _ _ _ _ _ => (mg_name 6 sc_ulaw_is_menu.nd)) (fun _ _ _ _ _ => mts_nil) (fun _ _ _ _ _ => (me_calD D_ulaw_is_tuple (hr.mono (by decide)) cw0 (ma_cons (me_var 6 (pv 6)) (ma_cons (me_var 1 (pv 1)) ma_nil)) (len_cons (len_cons (fun ρ ds h => len_nil h))))))))))) (mw_or1 (mt_cmp (op_neD hr.units) o_ne (mr_of (me_fld Z.f_usages (mr_rd 0 (pv 0)))) (mr_of (me_t1 call_tuple_of b_tup B.tuple (by decide +kernel) (mr_rd 2 (pv 2)))) (nomark _))))) (ms_one (ms_ret me_bl)) ms_nil)
    (ms_cons (ms_setO 3 sc_ulaw_is_menu.nd (mf_meth0 M_plans (hr.mono (by decide)) cs.cw (mr_rd 0 (pv 0))))
    (ms_cons (ms_if (mt_lend 3 (PW.pt (mw_or (mt_not (mt_tru (mr_of (me_isi (mr_rd 3 (pv 3)) (by decide +kernel) B.isinstance B.list)))) (mw_or1 (mt_not (mt_tru (mr_of (me_b1 (cr_all cs.hc) b_all B.all (by decide +kernel) (mr_f (mf_lc (own := [("plan", 4)]) cs.hc sc_ulaw_is_menu.nd (mi_seq (me_var 3 (pv 3))) (blkOk_by (N := ["menu", "width", "usages", "plans", "plan", "told", "row"]) (sc := defScope s_ulaw_is_menu) (by decide +kernel)) (fun _ _ _ _ _ => (mg_name 4 sc_ulaw_is_menu.nd)) (fun _ _ _ _ _ => mts_nil) (fun _ _ _ _ _ => (me_calD D_ulaw_is_whole (hr.mono (by decide)) cw0 (ma_cons (me_var 4 (pv 4)) ma_nil) (len_cons (fun ρ ds h => len_nil h)))))))))))))) (ms_one (ms_ret me_bl)) ms_nil)
    (ms_cons (ms_if (mt_cmp (op_neD hr.units) o_ne (mr_rd 3 (pv 3)) (mr_f (mf_lrg cs.hc B.list B.range (me_b1 call_len b_len B.len (by decide +kernel) (mr_rd 2 (pv 2))))) (nomark _)) (ms_one (ms_ret me_bl)) ms_nil)
    (ms_cons (ms_clr 3 (pv 3))
    (ms_cons (ms_for cs.po cs.hc (mi_rng1 rfl B.range (ma_cons (me_b1 call_len b_len B.len (by decide +kernel) (mr_rd 2 (pv 2))) ma_nil)) (mg_name 4 sc_ulaw_is_menu.nd) (ms_cons (ms_set 5 sc_ulaw_is_menu.nd (me_meth M_usage (hr.mono (by decide)) cs.cw (mr_rd 0 (pv 0)) (ma_cons (me_var 4 (pv 4)) ma_nil) (len_cons (fun ρ ds h => len_nil h))))
    (ms_cons (ms_if (PW.pt (mw_or (mt_not (mt_tru (mr_of (me_isi (mr_rd 5 (pv 5)) (by decide +kernel) B.isinstance B.tuple)))) (mw_or (mt_cmp (op_neD hr.units) o_ne (mr_of (me_b1 call_len b_len B.len (by decide +kernel) (mr_rd 5 (pv 5)))) (mr_of me_int) (nomark _)) (mw_or1 (mt_not (mt_tru (mr_of (me_calD D_ulaw_is_tuple (hr.mono (by decide)) cs.cw (ma_cons (me_ix ix_seq o_ix (mr_rd 5 (pv 5)) (mr_of me_int) (fun _ _ => rfl)) (ma_cons (me_var 1 (pv 1)) ma_nil)) (len_cons (len_cons (fun ρ ds h => len_nil h))))))))))) (ms_one (ms_ret me_bl)) ms_nil)
    (ms_one (ms_if (PW.pt (mw_or (mt_cmp (op_neD hr.units) o_ne (mr_rd 5 (pv 5)) (mr_of (me_tup (ma_cons (me_ix ix_seq o_ix (mr_rd 2 (pv 2)) (mr_rd 4 (pv 4)) (fun _ _ => rfl)) (ma_cons me_int ma_nil)))) (nomark _)) (mw_or (mt_not (mt_tru (mr_of (me_calD D_ulaw_is_whole (hr.mono (by decide)) cs.cw (ma_cons (me_ix ix_seq o_ix (mr_rd 5 (pv 5)) (mr_of me_int) (fun _ _ => rfl)) ma_nil) (len_cons (fun ρ ds h => len_nil h)))))) (mw_or1 (mt_not (mt_tru (mr_of (me_calD D_ulaw_is_bool (hr.mono (by decide)) cs.cw (ma_cons (me_meth M_is_plan (hr.mono (by decide)) cs.cw (mr_rd 0 (pv 0)) (ma_cons (me_var 4 (pv 4)) ma_nil) (len_cons (fun ρ ds h => len_nil h))) (ma_cons me_bl ma_nil)) (len_cons (len_cons (fun ρ ds h => len_nil h))))))))))) (ms_one (ms_ret me_bl)) ms_nil)))))
    (ms_one (ms_ret (me_cmp (op_eqD hr.units) o_eq (mr_of (me_meth0 M_plans (hr.mono (by decide)) cs.cw (mr_rd 0 (pv 0)))) (mr_f (mf_lrg cs.hc B.list B.range (me_b1 call_len b_len B.len (by decide +kernel) (mr_rd 2 (pv 2))))) (nomark _))))))))))))
abbrev s_ulaw_priced : Stmt := top 42
theorem sc_ulaw_priced : FnScope ["menu", "usages", "costs", "prices", "told", "plan", "price", "best", "wrong", "row", "answer"] ["menu", "usages", "costs"] (defScope s_ulaw_priced) := ⟨rfl, rfl, rfl, by decide +kernel, rfl, by decide +kernel, by decide +kernel⟩
theorem ok_ulaw_priced {P : Program} {w : World} {K : Frg} {mg : Mg} {base : Heap} {f : Addr} {fd : FuncData} (F : Fun K "_law_priced" "_law_priced" s_ulaw_priced f fd) (B : Bi mg) (Z : Ez K mg) {a_ulaw_dot : Addr} {d_ulaw_dot : FuncData} (D_ulaw_dot : Df P w K mg base "_law_dot" 1 a_ulaw_dot d_ulaw_dot ["left", "right"] f_ulaw_dot) (M_solve : MethT P w K mg base mt_solve "solve" 1 2) {a_ulaw_is_whole : Addr} {d_ulaw_is_whole : FuncData} (D_ulaw_is_whole : Df P w K mg base "_law_is_whole" 1 a_ulaw_is_whole d_ulaw_is_whole ["value"] f_ulaw_is_whole) (M_cost_of : MethT P w K mg base mt_cost_of "cost_of" 2 4) {a_ulaw_is_tuple : Addr} {d_ulaw_is_tuple : FuncData} (D_ulaw_is_tuple : Df P w K mg base "_law_is_tuple" 2 a_ulaw_is_tuple d_ulaw_is_tuple ["value", "size"] f_ulaw_is_tuple) (M_judge : MethT P w K mg base mt_judge "judge" 2 3) {a_ulaw_is_bool : Addr} {d_ulaw_is_bool : FuncData} (D_ulaw_is_bool : Df P w K mg base "_law_is_bool" 1 a_ulaw_is_bool d_ulaw_is_bool ["value", "due"] f_ulaw_is_bool) : FnOk P w K mg base (L2.CX P w) 5 f fd ["menu", "usages", "costs"] (spF K mg 3 f_ulaw_priced) :=
  fn_ok F sc_ulaw_priced fun cdv A outer s H E hr cs => (ms_cons (ms_setLcV 3 (own := [("row", 9)]) cs.hc sc_ulaw_priced.nd (sw_true rfl rfl rfl (by decide +kernel)) (mi_seq (me_var 1 (pv 1))) (blkOk_by (N := ["menu", "usages", "costs", "prices", "told", "plan", "price", "best", "wrong", "row", "answer"]) (sc := defScope s_ulaw_priced) (by decide +kernel)) (fun _ _ _ _ _ => (mg_name 9 sc_ulaw_priced.nd)) (fun _ _ _ _ _ => mts_nil) (fun _ _ _ _ _ => (me_calD D_ulaw_dot (hr.mono (by decide)) cw0 (ma_cons (me_var 2 (pv 2)) (ma_cons (me_var 9 (pv 9)) ma_nil)) (len_cons (len_cons (fun ρ ds h => len_nil h))))))
    (ms_cons (ms_set 4 sc_ulaw_priced.nd (me_meth M_solve (hr.mono (by decide)) cs.cw (mr_rd 0 (pv 0)) (ma_cons (me_var 2 (pv 2)) ma_nil) (len_cons (fun ρ ds h => len_nil h))))
    (ms_cons (ms_if (PW.pt (mw_or (mt_not (mt_tru (mr_of (me_isi (mr_rd 4 (pv 4)) (by decide +kernel) B.isinstance B.tuple)))) (mw_or (mt_cmp (op_neD hr.units) o_ne (mr_of (me_b1 call_len b_len B.len (by decide +kernel) (mr_rd 4 (pv 4)))) (mr_of me_int) (nomark _)) (mw_or (mt_cmp (op_neD hr.units) o_ne (mr_of (me_ix ix_seq o_ix (mr_rd 4 (pv 4)) (mr_of me_int) (fun _ _ => rfl))) (mr_of me_str) (nomark _)) (mw_or1 (mt_cmp op_notN o_notN (mr_of (me_ix ix_seq o_ix (mr_rd 4 (pv 4)) (mr_of me_int) (fun _ _ => rfl))) (mr_of me_non) (nomark _))))))) (ms_one (ms_ret me_bl)) ms_nil)
    (ms_cons (ms_if (PW.pt (mw_or (mt_not (mt_tru (mr_of (me_calD D_ulaw_is_whole (hr.mono (by decide)) cs.cw (ma_cons (me_ix ix_seq o_ix (mr_rd 4 (pv 4)) (mr_of me_int) (fun _ _ => rfl)) ma_nil) (len_cons (fun ρ ds h => len_nil h)))))) (mw_or (mt_not (mt_chn op_le o_le op_lt o_lt (mr_of me_int) (mr_of (me_ix ix_seq o_ix (mr_rd 4 (pv 4)) (mr_of me_int) (fun _ _ => rfl))) (mr_of (me_b1 call_len b_len B.len (by decide +kernel) (mr_rd 1 (pv 1)))))) (mw_or1 (mt_cmp (op_neD hr.units) o_ne (mr_of (me_ix ix_seq o_ix (mr_rd 3 (pv 3)) (mr_of (me_ix ix_seq o_ix (mr_rd 4 (pv 4)) (mr_of me_int) (fun _ _ => rfl))) (fun _ _ => rfl))) (mr_of (me_b1 (cr_min cs.hc) b_min B.min (by decide +kernel) (mr_rd 3 (pv 3)))) (nomark _)))))) (ms_one (ms_ret me_bl)) ms_nil)
    (ms_cons (ms_for cs.po cs.hc (mi_rng1 rfl B.range (ma_cons (me_b1 call_len b_len B.len (by decide +kernel) (mr_rd 1 (pv 1))) ma_nil)) (mg_name 5 sc_ulaw_priced.nd) (ms_cons (ms_set 6 sc_ulaw_priced.nd (me_meth M_cost_of (hr.mono (by decide)) cs.cw (mr_rd 0 (pv 0)) (ma_cons (me_var 2 (pv 2)) (ma_cons (me_var 5 (pv 5)) ma_nil)) (len_cons (len_cons (fun ρ ds h => len_nil h)))))
    (ms_cons (ms_if (PW.pt (mw_or (mt_not (mt_tru (mr_of (me_calD D_ulaw_is_tuple (hr.mono (by decide)) cs.cw (ma_cons (me_var 6 (pv 6)) (ma_cons me_int ma_nil)) (len_cons (len_cons (fun ρ ds h => len_nil h))))))) (mw_or1 (mt_cmp (op_neD hr.units) o_ne (mr_rd 6 (pv 6)) (mr_of (me_tup (ma_cons (me_ix ix_seq o_ix (mr_rd 3 (pv 3)) (mr_rd 5 (pv 5)) (fun _ _ => rfl)) (ma_cons me_int ma_nil)))) (nomark _))))) (ms_one (ms_ret me_bl)) ms_nil)
    (ms_one (ms_if (mt_not (mt_tru (mr_of (me_calD D_ulaw_is_bool (hr.mono (by decide)) cs.cw (ma_cons (me_meth M_judge (hr.mono (by decide)) cs.cw (mr_rd 0 (pv 0)) (ma_cons (me_var 2 (pv 2)) (ma_cons (me_tup (ma_cons me_str (ma_cons (me_var 5 (pv 5)) (ma_cons me_non ma_nil)))) ma_nil)) (len_cons (len_cons (fun ρ ds h => len_nil h)))) (ma_cons (me_cmp (op_eqD hr.units) o_eq (mr_of (me_ix ix_seq o_ix (mr_rd 3 (pv 3)) (mr_rd 5 (pv 5)) (fun _ _ => rfl))) (mr_of (me_b1 (cr_min cs.hc) b_min B.min (by decide +kernel) (mr_rd 3 (pv 3)))) (nomark _)) ma_nil)) (len_cons (len_cons (fun ρ ds h => len_nil h))))))) (ms_one (ms_ret me_bl)) ms_nil)))))
    (ms_cons (ms_set 7 sc_ulaw_priced.nd (me_idx (mr_rd 3 (pv 3)) (mr_of (me_b1 (cr_min cs.hc) b_min B.min (by decide +kernel) (mr_rd 3 (pv 3))))))
    (ms_cons (ms_setO 8 sc_ulaw_priced.nd (mf_lst (ma_cons (me_tup (ma_cons me_str (ma_cons (me_var 7 (pv 7)) (ma_cons (me_tup ma_nil) ma_nil)))) (ma_cons (me_tup (ma_cons me_str (ma_cons (me_var 7 (pv 7)) (ma_cons me_int ma_nil)))) (ma_cons (me_tup (ma_cons me_str (ma_cons (me_var 7 (pv 7)) ma_nil))) (ma_cons (me_tup (ma_cons me_str (ma_cons (me_var 7 (pv 7)) (ma_cons me_non (ma_cons me_non ma_nil))))) (ma_cons (me_tup (ma_cons me_str (ma_cons me_non ma_nil))) (ma_cons (me_var 7 (pv 7)) (ma_cons me_non ma_nil)))))))))
    (ms_cons (ms_ext 8 (pv 8) (mf_lst (ma_cons (me_tup (ma_cons me_str (ma_cons (me_var 7 (pv 7)) (ma_cons me_non ma_nil)))) (ma_cons (me_tup (ma_cons me_str (ma_cons (me_var 7 (pv 7)) (ma_cons me_non ma_nil)))) (ma_cons (me_tup (ma_cons (me_var 7 (pv 7)) (ma_cons me_str (ma_cons me_non ma_nil)))) (ma_cons me_str (ma_cons (me_tup ma_nil) (ma_cons (me_tup (ma_cons me_str (ma_cons (me_tup (ma_cons (me_var 7 (pv 7)) ma_nil)) (ma_cons me_non ma_nil)))) ma_nil))))))))
    (ms_cons (ms_ext 8 (pv 8) (mf_lst (ma_cons (me_tup (ma_cons me_str (ma_cons (me_var 7 (pv 7)) (ma_cons me_non ma_nil)))) (ma_cons (me_tup (ma_cons me_str (ma_cons me_non (ma_cons me_non ma_nil)))) (ma_cons (me_tup (ma_cons (me_tup (ma_cons me_str (ma_cons (me_var 7 (pv 7)) (ma_cons me_non ma_nil)))) ma_nil)) (ma_cons (me_tup (ma_cons me_str (ma_cons me_str (ma_cons me_non ma_nil)))) ma_nil))))))
    (ms_frz 8 (ms_one (ms_ret (me_b1 (cr_all cs.hc) b_all B.all (by decide +kernel) (mr_f (mf_lc (own := [("answer", 10)]) cs.hc sc_ulaw_priced.nd (mi_seq (me_var 8 (pv 8))) (blkOk_by (N := ["menu", "usages", "costs", "prices", "told", "plan", "price", "best", "wrong", "row", "answer"]) (sc := defScope s_ulaw_priced) (by decide +kernel)) (fun _ _ _ _ _ => (mg_name 10 sc_ulaw_priced.nd)) (fun _ _ _ _ _ => mts_nil) (fun _ _ _ _ _ => (me_calD D_ulaw_is_bool (hr.mono (by decide)) cw0 (ma_cons (me_meth M_judge (hr.mono (by decide)) cw0 (mr_rd 0 (pv 0)) (ma_cons (me_var 2 (pv 2)) (ma_cons (me_var 10 (pv 10)) ma_nil)) (len_cons (len_cons (fun ρ ds h => len_nil h)))) (ma_cons me_bl ma_nil)) (len_cons (len_cons (fun ρ ds h => len_nil h))))))))))))))))))))
abbrev s_ulaw_ruled : Stmt := top 43
theorem sc_ulaw_ruled : FnScope ["menu", "usages", "plan", "many_costs", "rows", "costs", "best", "row"] ["menu", "usages", "plan", "many_costs"] (defScope s_ulaw_ruled) := ⟨rfl, rfl, rfl, by decide +kernel, rfl, by decide +kernel, by decide +kernel⟩
theorem ok_ulaw_ruled {P : Program} {w : World} {K : Frg} {mg : Mg} {base : Heap} {f : Addr} {fd : FuncData} (F : Fun K "_law_ruled" "_law_ruled" s_ulaw_ruled f fd) (B : Bi mg) (Z : Ez K mg) (M_rules : MethT P w K mg base mt_rules "rules" 1 5) {a_ulaw_is_tuple : Addr} {d_ulaw_is_tuple : FuncData} (D_ulaw_is_tuple : Df P w K mg base "_law_is_tuple" 2 a_ulaw_is_tuple d_ulaw_is_tuple ["value", "size"] f_ulaw_is_tuple) {a_ulaw_dot : Addr} {d_ulaw_dot : FuncData} (D_ulaw_dot : Df P w K mg base "_law_dot" 1 a_ulaw_dot d_ulaw_dot ["left", "right"] f_ulaw_dot) : FnOk P w K mg base (L2.CX P w) 6 f fd ["menu", "usages", "plan", "many_costs"] (spF K mg 4 f_ulaw_ruled) :=
  fn_ok F sc_ulaw_ruled fun cdv A outer s H E hr cs => (ms_cons (ms_set 4 sc_ulaw_ruled.nd (me_meth M_rules (hr.mono (by decide)) cs.cw (mr_rd 0 (pv 0)) (ma_cons (me_var 2 (pv 2)) ma_nil) (len_cons (fun ρ ds h => len_nil h))))
    (ms_cons (ms_if (PW.pt (mw_or (mt_not (mt_tru (mr_of (me_isi (mr_rd 4 (pv 4)) (by decide +kernel) B.isinstance B.list)))) (mw_or1 (mt_not (mt_tru (mr_of (me_b1 (cr_all cs.hc) b_all B.all (by decide +kernel) (mr_f (mf_lc (own := [("row", 7)]) cs.hc sc_ulaw_ruled.nd (mi_seq (me_var 4 (pv 4))) (blkOk_by (N := ["menu", "usages", "plan", "many_costs", "rows", "costs", "best", "row"]) (sc := defScope s_ulaw_ruled) (by decide +kernel)) (fun _ _ _ _ _ => (mg_name 7 sc_ulaw_ruled.nd)) (fun _ _ _ _ _ => mts_nil) (fun _ _ _ _ _ => (me_calD D_ulaw_is_tuple (hr.mono (by decide)) cw0 (ma_cons (me_var 7 (pv 7)) (ma_cons (me_b1 call_len b_len B.len (by decide +kernel) (mr_of (me_ix ix_seq o_ix (mr_rd 1 (pv 1)) (mr_of me_int) (fun _ _ => rfl)))) ma_nil)) (len_cons (len_cons (fun ρ ds h => len_nil h)))))))))))))) (ms_one (ms_ret me_bl)) ms_nil)
    (ms_cons (ms_for cs.po cs.hc (mi_seq (me_var 3 (pv 3))) (mg_name 5 sc_ulaw_ruled.nd) (ms_cons (ms_set 6 sc_ulaw_ruled.nd (me_b1 (cr_all cs.hc) b_all B.all (by decide +kernel) (mr_f (mf_lc (own := [("row", 7)]) cs.hc sc_ulaw_ruled.nd (mi_seq (me_var 1 (pv 1))) (blkOk_by (N := ["menu", "usages", "plan", "many_costs", "rows", "costs", "best", "row"]) (sc := defScope s_ulaw_ruled) (by decide +kernel)) (fun _ _ _ _ _ => (mg_name 7 sc_ulaw_ruled.nd)) (fun _ _ _ _ _ => mts_nil) (fun _ _ _ _ _ => (me_cmp op_ge o_ge (mr_of (me_calD D_ulaw_dot (hr.mono (by decide)) cw0 (ma_cons (me_var 5 (pv 5)) (ma_cons (me_var 7 (pv 7)) ma_nil)) (len_cons (len_cons (fun ρ ds h => len_nil h))))) (mr_of (me_calD D_ulaw_dot (hr.mono (by decide)) cw0 (ma_cons (me_var 5 (pv 5)) (ma_cons (me_ix ix_seq o_ix (mr_rd 1 (pv 1)) (mr_rd 2 (pv 2)) (fun _ _ => rfl)) ma_nil)) (len_cons (len_cons (fun ρ ds h => len_nil h))))) (nomark _)))))))
    (ms_one (ms_if (mt_cmp (op_neD hr.units) o_ne (mr_rd 6 (pv 6)) (mr_of (me_b1 (cr_all cs.hc) b_all B.all (by decide +kernel) (mr_f (mf_lc (own := [("row", 7)]) cs.hc sc_ulaw_ruled.nd (mi_seq (me_var 4 (pv 4))) (blkOk_by (N := ["menu", "usages", "plan", "many_costs", "rows", "costs", "best", "row"]) (sc := defScope s_ulaw_ruled) (by decide +kernel)) (fun _ _ _ _ _ => (mg_name 7 sc_ulaw_ruled.nd)) (fun _ _ _ _ _ => mts_nil) (fun _ _ _ _ _ => (me_cmp op_ge o_ge (mr_of (me_calD D_ulaw_dot (hr.mono (by decide)) cw0 (ma_cons (me_var 5 (pv 5)) (ma_cons (me_var 7 (pv 7)) ma_nil)) (len_cons (len_cons (fun ρ ds h => len_nil h))))) (mr_of me_int) (nomark _))))))) (nomark _)) (ms_one (ms_ret me_bl)) ms_nil))))
    (ms_one (ms_ret me_bl)))))
abbrev s_ulaw_refuses : Stmt := top 44
theorem sc_ulaw_refuses : FnScope ["menu", "usages", "costs", "many", "width", "value", "wrong", "way", "direction"] ["menu", "usages", "costs"] (defScope s_ulaw_refuses) := ⟨rfl, rfl, rfl, by decide +kernel, rfl, by decide +kernel, by decide +kernel⟩
theorem ok_ulaw_refuses {P : Program} {w : World} {K : Frg} {mg : Mg} {base : Heap} {f : Addr} {fd : FuncData} (F : Fun K "_law_refuses" "_law_refuses" s_ulaw_refuses f fd) (B : Bi mg) (Z : Ez K mg) (M_is_plan : MethT P w K mg base mt_is_plan "is_plan" 1 2) {a_ulaw_is_bool : Addr} {d_ulaw_is_bool : FuncData} (D_ulaw_is_bool : Df P w K mg base "_law_is_bool" 1 a_ulaw_is_bool d_ulaw_is_bool ["value", "due"] f_ulaw_is_bool) (M_judge : MethT P w K mg base mt_judge "judge" 2 3) {a_ulaw_error : Addr} {d_ulaw_error : FuncData} (D_ulaw_error : Df P w K mg base "_law_error" 6 a_ulaw_error d_ulaw_error ["way", "menu", "costs", "value"] f_ulaw_error) (M_is_way : MethT P w K mg base mt_is_way "is_way" 1 1) : FnOk P w K mg base (L2.CX P w) 7 f fd ["menu", "usages", "costs"] (spF K mg 3 f_ulaw_refuses) :=
  fn_ok F sc_ulaw_refuses fun cdv A outer s H E hr cs => (ms_cons (ms_par 3 4 cs.hc sc_ulaw_refuses.nd (me_b1 call_len b_len B.len (by decide +kernel) (mr_rd 1 (pv 1))) (me_b1 call_len b_len B.len (by decide +kernel) (mr_of (me_ix ix_seq o_ix (mr_rd 1 (pv 1)) (mr_of me_int) (fun _ _ => rfl)))))
    (ms_cons (ms_for cs.po cs.hc (mi_seq (me_of (mf_lst (ma_cons (me_un un_neg o_neg (mr_of me_int)) (ma_cons (me_var 3 (pv 3)) (ma_cons (me_op op_addU o_add (mr_rd 3 (pv 3)) (mr_of me_int)) (ma_cons (me_un un_neg o_neg (mr_rd 3 (pv 3))) (ma_cons (me_op op_pow o_pow (mr_of me_int) (mr_of me_int)) (ma_cons me_non (ma_cons me_str (ma_cons me_str (ma_cons (me_tup ma_nil) (ma_cons (me_tup (ma_cons me_int ma_nil)) (ma_cons (me_tup (ma_cons me_int (ma_cons me_int ma_nil))) ma_nil)))))))))))))) (mg_name 5 sc_ulaw_refuses.nd) (ms_cons (ms_if (mt_not (mt_tru (mr_of (me_calD D_ulaw_is_bool (hr.mono (by decide)) cs.cw (ma_cons (me_meth M_is_plan (hr.mono (by decide)) cs.cw (mr_rd 0 (pv 0)) (ma_cons (me_var 5 (pv 5)) ma_nil) (len_cons (fun ρ ds h => len_nil h))) (ma_cons me_bl ma_nil)) (len_cons (len_cons (fun ρ ds h => len_nil h))))))) (ms_one (ms_ret me_bl)) ms_nil)
    (ms_cons (ms_if (mt_not (mt_tru (mr_of (me_calD D_ulaw_is_bool (hr.mono (by decide)) cs.cw (ma_cons (me_meth M_judge (hr.mono (by decide)) cs.cw (mr_rd 0 (pv 0)) (ma_cons (me_var 2 (pv 2)) (ma_cons (me_tup (ma_cons me_str (ma_cons (me_var 5 (pv 5)) (ma_cons me_non ma_nil)))) ma_nil)) (len_cons (len_cons (fun ρ ds h => len_nil h)))) (ma_cons me_bl ma_nil)) (len_cons (len_cons (fun ρ ds h => len_nil h))))))) (ms_one (ms_ret me_bl)) ms_nil)
    (ms_cons (ms_if (PW.pt (mw_or (mt_cmp (op_neD hr.units) o_ne (mr_of (me_calD D_ulaw_error (hr.mono (by decide)) cs.cw (ma_cons me_int (ma_cons (me_var 0 (pv 0)) (ma_cons (me_var 2 (pv 2)) (ma_cons (me_var 5 (pv 5)) ma_nil)))) (len_cons (len_cons (len_cons (len_cons (fun ρ ds h => len_nil h))))))) (mr_of me_int) (nomark _)) (mw_or1 (mt_cmp (op_neD hr.units) o_ne (mr_of (me_calD D_ulaw_error (hr.mono (by decide)) cs.cw (ma_cons me_int (ma_cons (me_var 0 (pv 0)) (ma_cons (me_var 2 (pv 2)) (ma_cons (me_var 5 (pv 5)) ma_nil)))) (len_cons (len_cons (len_cons (len_cons (fun ρ ds h => len_nil h))))))) (mr_of me_int) (nomark _))))) (ms_one (ms_ret me_bl)) ms_nil)
    (ms_one (ms_if (PW.pt (mw_or (mt_cmp (op_neD hr.units) o_ne (mr_of (me_calD D_ulaw_error (hr.mono (by decide)) cs.cw (ma_cons me_int (ma_cons (me_var 0 (pv 0)) (ma_cons (me_var 2 (pv 2)) (ma_cons (me_var 5 (pv 5)) ma_nil)))) (len_cons (len_cons (len_cons (len_cons (fun ρ ds h => len_nil h))))))) (mr_of me_int) (nomark _)) (mw_or1 (mt_cmp (op_neD hr.units) o_ne (mr_of (me_calD D_ulaw_error (hr.mono (by decide)) cs.cw (ma_cons me_int (ma_cons (me_var 0 (pv 0)) (ma_cons (me_op op_addU o_add (mr_rd 2 (pv 2)) (mr_of (me_tup (ma_cons me_int ma_nil)))) (ma_cons (me_var 5 (pv 5)) ma_nil)))) (len_cons (len_cons (len_cons (len_cons (fun ρ ds h => len_nil h))))))) (mr_of me_int) (nomark _))))) (ms_one (ms_ret me_bl)) ms_nil))))))
    (ms_cons (ms_for cs.po cs.hc (mi_seq (me_of (mf_lst (ma_cons (me_op op_addU o_add (mr_rd 2 (pv 2)) (mr_of (me_tup (ma_cons me_int ma_nil)))) (ma_cons (me_sl (mr_rd 2 (pv 2)) (mp_some me_int) mp_none) ma_nil))))) (mg_name 6 sc_ulaw_refuses.nd) (ms_one (ms_for cs.po cs.hc (mi_seq (me_of (mf_lst (ma_cons me_int (ma_cons me_int (ma_cons me_int ma_nil)))))) (mg_name 7 sc_ulaw_refuses.nd) (ms_one (ms_if (PW.pt (mw_or (mt_cmp (op_neD hr.units) o_ne (mr_of (me_calD D_ulaw_error (hr.mono (by decide)) cs.cw (ma_cons (me_var 7 (pv 7)) (ma_cons (me_var 0 (pv 0)) (ma_cons (me_var 6 (pv 6)) (ma_cons me_int ma_nil)))) (len_cons (len_cons (len_cons (len_cons (fun ρ ds h => len_nil h))))))) (mr_of me_int) (nomark _)) (mw_or1 (mt_cmp (op_neD hr.units) o_ne (mr_of (me_calD D_ulaw_error (hr.mono (by decide)) cs.cw (ma_cons (me_var 7 (pv 7)) (ma_cons (me_var 0 (pv 0)) (ma_cons (me_var 6 (pv 6)) (ma_cons (me_tup (ma_cons me_str (ma_cons me_int (ma_cons me_non ma_nil)))) ma_nil)))) (len_cons (len_cons (len_cons (len_cons (fun ρ ds h => len_nil h))))))) (mr_of me_int) (nomark _))))) (ms_one (ms_ret me_bl)) ms_nil)))))
    (ms_cons (ms_for cs.po cs.hc (mi_seq (me_of (mf_lst (ma_cons (me_op op_mulA o_mulT (mr_of (me_tup (ma_cons me_int ma_nil))) (mr_rd 4 (pv 4))) (ma_cons (me_op op_mulA o_mulT (mr_of (me_tup (ma_cons me_int ma_nil))) (mr_rd 4 (pv 4))) (ma_cons (me_ix ix_seq o_ix (mr_rd 1 (pv 1)) (mr_of me_int) (fun _ _ => rfl)) (ma_cons (me_tup ma_nil) (ma_cons (me_op op_mulA o_mulT (mr_of (me_tup (ma_cons me_int ma_nil))) (mr_rd 3 (pv 3))) (ma_cons (me_tup (ma_cons me_int ma_nil)) (ma_cons me_non (ma_cons me_int (ma_cons me_str ma_nil)))))))))))) (mg_name 8 sc_ulaw_refuses.nd) (ms_one (ms_if (PW.pt (mw_or (mt_not (mt_tru (mr_of (me_calD D_ulaw_is_bool (hr.mono (by decide)) cs.cw (ma_cons (me_meth M_is_way (hr.mono (by decide)) cs.cw (mr_rd 0 (pv 0)) (ma_cons (me_var 8 (pv 8)) ma_nil) (len_cons (fun ρ ds h => len_nil h))) (ma_cons me_bl ma_nil)) (len_cons (len_cons (fun ρ ds h => len_nil h))))))) (mw_or1 (mt_cmp (op_neD hr.units) o_ne (mr_of (me_calD D_ulaw_error (hr.mono (by decide)) cs.cw (ma_cons me_int (ma_cons (me_var 0 (pv 0)) (ma_cons (me_var 2 (pv 2)) (ma_cons (me_var 8 (pv 8)) ma_nil)))) (len_cons (len_cons (len_cons (len_cons (fun ρ ds h => len_nil h))))))) (mr_of me_int) (nomark _))))) (ms_one (ms_ret me_bl)) ms_nil)))
    (ms_one (ms_ret me_bl))))))
abbrev s_ulaw_barred : Stmt := top 45
theorem sc_ulaw_barred : FnScope ["usages", "width", "turns", "place", "short", "wide", "rows"] ["usages", "width", "turns"] (defScope s_ulaw_barred) := ⟨rfl, rfl, rfl, by decide +kernel, rfl, by decide +kernel, by decide +kernel⟩
theorem ok_ulaw_barred {P : Program} {w : World} {K : Frg} {mg : Mg} {base : Heap} {f : Addr} {fd : FuncData} (F : Fun K "_law_barred" "_law_barred" s_ulaw_barred f fd) (B : Bi mg) (Z : Ez K mg) {a_ulaw_error : Addr} {d_ulaw_error : FuncData} (D_ulaw_error : Df P w K mg base "_law_error" 6 a_ulaw_error d_ulaw_error ["way", "menu", "costs", "value"] f_ulaw_error) : FnOk P w K mg base (L2.CX P w) 7 f fd ["usages", "width", "turns"] (spF K mg 3 f_ulaw_barred) :=
  fn_ok F sc_ulaw_barred fun cdv A outer s H E hr cs => (ms_cons (ms_set 3 sc_ulaw_barred.nd (me_op op_modN o_mod (mr_of (me_t1 call_intT b_intT B.int (by decide +kernel) (mr_of (me_ix ix_seq o_ix (mr_rd 2 (pv 2)) (mr_of me_int) (fun _ _ => rfl))))) (mr_of (me_b1 call_len b_len B.len (by decide +kernel) (mr_rd 0 (pv 0))))))
    (ms_cons (ms_set 4 sc_ulaw_barred.nd (me_of (mf_op op_cat f_cat (mr_f (mf_op op_cat f_cat (mr_of (me_sl (mr_rd 0 (pv 0)) mp_none (mp_some (me_var 3 (pv 3))))) (mr_f (mf_lst (ma_cons (me_sl (mr_of (me_ix ix_seq o_ix (mr_rd 0 (pv 0)) (mr_rd 3 (pv 3)) (fun _ _ => rfl))) (mp_some me_int) mp_none) ma_nil))))) (mr_of (me_sl (mr_rd 0 (pv 0)) (mp_some (me_op op_addU o_add (mr_rd 3 (pv 3)) (mr_of me_int))) mp_none)))))
    (ms_cons (ms_set 5 sc_ulaw_barred.nd (me_of (mf_op op_cat f_cat (mr_f (mf_op op_cat f_cat (mr_of (me_sl (mr_rd 0 (pv 0)) mp_none (mp_some (me_var 3 (pv 3))))) (mr_f (mf_lst (ma_cons (me_op op_addU o_add (mr_of (me_ix ix_seq o_ix (mr_rd 0 (pv 0)) (mr_rd 3 (pv 3)) (fun _ _ => rfl))) (mr_of (me_tup (ma_cons me_int ma_nil)))) ma_nil))))) (mr_of (me_sl (mr_rd 0 (pv 0)) (mp_some (me_op op_addU o_add (mr_rd 3 (pv 3)) (mr_of me_int))) mp_none)))))
    (ms_cons (ms_for cs.po cs.hc (mi_seq (me_of (mf_lst (ma_cons (me_var 4 (pv 4)) (ma_cons (me_var 5 (pv 5)) (ma_cons (me_of (mf_lst ma_nil)) (ma_cons (me_of (mf_op op_rep f_rep (mr_of (me_sl (mr_rd 0 (pv 0)) mp_none (mp_some me_int))) (mr_of me_int))) ma_nil))))))) (mg_name 6 sc_ulaw_barred.nd) (ms_one (ms_if (mt_cmp (op_neD hr.units) o_ne (mr_of (me_calD D_ulaw_error (hr.mono (by decide)) cs.cw (ma_cons me_int (ma_cons me_non (ma_cons (me_var 1 (pv 1)) (ma_cons (me_of (mf_t1 call_list_of b_lst B.list (by decide +kernel) (mr_rd 6 (pv 6)))) ma_nil)))) (len_cons (len_cons (len_cons (len_cons (fun ρ ds h => len_nil h))))))) (mr_of me_int) (nomark _)) (ms_one (ms_ret me_bl)) ms_nil)))
    (ms_cons (ms_if (PW.pt (mw_or (mt_cmp (op_neD hr.units) o_ne (mr_of (me_calD D_ulaw_error (hr.mono (by decide)) cs.cw (ma_cons me_int (ma_cons me_non (ma_cons me_int (ma_cons (me_of (mf_lst (ma_cons (me_tup ma_nil) ma_nil))) ma_nil)))) (len_cons (len_cons (len_cons (len_cons (fun ρ ds h => len_nil h))))))) (mr_of me_int) (nomark _)) (mw_or1 (mt_cmp (op_neD hr.units) o_ne (mr_of (me_calD D_ulaw_error (hr.mono (by decide)) cs.cw (ma_cons me_int (ma_cons me_non (ma_cons me_int (ma_cons (me_of (mf_lst (ma_cons (me_op op_mulA o_mulT (mr_of (me_tup (ma_cons me_int ma_nil))) (mr_of me_int)) (ma_cons (me_op op_mulA o_mulT (mr_of (me_tup (ma_cons me_int ma_nil))) (mr_of me_int)) ma_nil)))) ma_nil)))) (len_cons (len_cons (len_cons (len_cons (fun ρ ds h => len_nil h))))))) (mr_of me_int) (nomark _))))) (ms_one (ms_ret me_bl)) ms_nil)
    (ms_one (ms_ret (me_and (me_cmp (op_eqD hr.units) o_eq (mr_of (me_calD D_ulaw_error (hr.mono (by decide)) cs.cw (ma_cons me_int (ma_cons me_non (ma_cons (me_op op_addU o_add (mr_rd 1 (pv 1)) (mr_of me_int)) (ma_cons (me_of (mf_t1 call_list_of b_lst B.list (by decide +kernel) (mr_rd 0 (pv 0)))) ma_nil)))) (len_cons (len_cons (len_cons (len_cons (fun ρ ds h => len_nil h))))))) (mr_of me_int) (nomark _)) (pe_one (me_cmp (op_eqD hr.units) o_eq (mr_of (me_calD D_ulaw_error (hr.mono (by decide)) cs.cw (ma_cons me_int (ma_cons me_non (ma_cons (me_var 1 (pv 1)) (ma_cons (me_of (mf_op op_rep f_rep (mr_of (me_sl (mr_rd 0 (pv 0)) mp_none (mp_some me_int))) (mr_of me_int))) ma_nil)))) (len_cons (len_cons (len_cons (len_cons (fun ρ ds h => len_nil h))))))) (mr_of me_int) (nomark _)))))))))))
abbrev s_law : Stmt := top 46
theorem sc_law : FnScope ["script", "turns", "width", "many", "usages", "costs", "given", "menu", "turned", "other", "first", "second", "gap", "unit", "back", "wide", "nums", "plan", "k", "num"] ["script"] (defScope s_law) := ⟨rfl, rfl, rfl, by decide +kernel, rfl, by decide +kernel, by decide +kernel⟩
theorem ok_law {P : Program} {w : World} {K : Frg} {mg : Mg} {base : Heap} {f : Addr} {fd : FuncData} (F : Fun K "law" "law" s_law f fd) (B : Bi mg) (Z : Ez K mg) {a_ulaw_row : Addr} {d_ulaw_row : FuncData} (D_ulaw_row : Df P w K mg base "_law_row" 2 a_ulaw_row d_ulaw_row ["script", "at", "many"] f_ulaw_row) {a_ulaw_vectors : Addr} {d_ulaw_vectors : FuncData} (D_ulaw_vectors : Df P w K mg base "_law_vectors" 2 a_ulaw_vectors d_ulaw_vectors ["cells", "many", "width", "mode"] f_ulaw_vectors) {aC_Menu aI_Menu : Addr} {dI_Menu : FuncData} {pI_Menu cI_Menu : List Str} (C_Menu : MkT P w K mg base "Menu" 2 2 f_Menu_init aC_Menu aI_Menu dI_Menu pI_Menu cI_Menu) {a_ulaw_is_menu : Addr} {d_ulaw_is_menu : FuncData} (D_ulaw_is_menu : Df P w K mg base "_law_is_menu" 4 a_ulaw_is_menu d_ulaw_is_menu ["menu", "width", "usages"] f_ulaw_is_menu) {a_ulaw_priced : Addr} {d_ulaw_priced : FuncData} (D_ulaw_priced : Df P w K mg base "_law_priced" 5 a_ulaw_priced d_ulaw_priced ["menu", "usages", "costs"] f_ulaw_priced) {a_ulaw_ruled : Addr} {d_ulaw_ruled : FuncData} (D_ulaw_ruled : Df P w K mg base "_law_ruled" 6 a_ulaw_ruled d_ulaw_ruled ["menu", "usages", "plan", "many_costs"] f_ulaw_ruled) {a_ulaw_barred : Addr} {d_ulaw_barred : FuncData} (D_ulaw_barred : Df P w K mg base "_law_barred" 7 a_ulaw_barred d_ulaw_barred ["usages", "width", "turns"] f_ulaw_barred) {a_ulaw_refuses : Addr} {d_ulaw_refuses : FuncData} (D_ulaw_refuses : Df P w K mg base "_law_refuses" 7 a_ulaw_refuses d_ulaw_refuses ["menu", "usages", "costs"] f_ulaw_refuses) : FnOk P w K mg base (L2.CX P w) 8 f fd ["script"] (spF K mg 1 f_law) :=
  fn_ok F sc_law fun cdv A outer s H E hr cs => (ms_cons (ms_set 1 sc_law.nd (me_calD D_ulaw_row (hr.mono (by decide)) cs.cw (ma_cons (me_var 0 (pv 0)) (ma_cons me_int (ma_cons me_int ma_nil))) (len_cons (len_cons (len_cons (fun ρ ds h => len_nil h))))))
    (ms_cons (ms_set 2 sc_law.nd (me_ix ix_seq o_ix (mr_f (mf_lst (ma_cons me_int (ma_cons me_int (ma_cons me_int (ma_cons me_int (ma_cons (me_op op_addU o_add (mr_of me_int) (mr_of (me_op op_modN o_mod (mr_of (me_op op_fdivU o_fdiv (mr_of (me_t1 call_intT b_intT B.int (by decide +kernel) (mr_of (me_ix ix_seq o_ix (mr_rd 1 (pv 1)) (mr_of me_int) (fun _ _ => rfl))))) (mr_of me_int))) (mr_of me_int)))) ma_nil))))))) (mr_of (me_op op_modN o_mod (mr_of (me_t1 call_intT b_intT B.int (by decide +kernel) (mr_of (me_ix ix_seq o_ix (mr_rd 1 (pv 1)) (mr_of me_int) (fun _ _ => rfl))))) (mr_of me_int))) (fun _ _ => rfl)))
    (ms_cons (ms_set 3 sc_law.nd (me_ix ix_seq o_ix (mr_f (mf_lst (ma_cons me_int (ma_cons me_int (ma_cons me_int (ma_cons (me_op op_addU o_add (mr_of me_int) (mr_of (me_op op_modN o_mod (mr_of (me_op op_fdivU o_fdiv (mr_of (me_t1 call_intT b_intT B.int (by decide +kernel) (mr_of (me_ix ix_seq o_ix (mr_rd 1 (pv 1)) (mr_of me_int) (fun _ _ => rfl))))) (mr_of me_int))) (mr_of me_int)))) (ma_cons (me_op op_addU o_add (mr_of me_int) (mr_of (me_op op_modN o_mod (mr_of (me_op op_fdivU o_fdiv (mr_of (me_t1 call_intT b_intT B.int (by decide +kernel) (mr_of (me_ix ix_seq o_ix (mr_rd 1 (pv 1)) (mr_of me_int) (fun _ _ => rfl))))) (mr_of me_int))) (mr_of me_int)))) ma_nil))))))) (mr_of (me_op op_modN o_mod (mr_of (me_t1 call_intT b_intT B.int (by decide +kernel) (mr_of (me_ix ix_seq o_ix (mr_rd 1 (pv 1)) (mr_of me_int) (fun _ _ => rfl))))) (mr_of me_int))) (fun _ _ => rfl)))
    (ms_cons (ms_set 4 sc_law.nd (me_calD D_ulaw_vectors (hr.mono (by decide)) cs.cw (ma_cons (me_calD D_ulaw_row (hr.mono (by decide)) cs.cw (ma_cons (me_var 0 (pv 0)) (ma_cons me_int (ma_cons (me_op op_mulU o_mul (mr_of (me_op op_mulU o_mul (mr_of me_int) (mr_of me_int))) (mr_of me_int)) ma_nil))) (len_cons (len_cons (len_cons (fun ρ ds h => len_nil h))))) (ma_cons (me_var 3 (pv 3)) (ma_cons (me_var 2 (pv 2)) (ma_cons (me_op op_modN o_mod (mr_of (me_t1 call_intT b_intT B.int (by decide +kernel) (mr_of (me_ix ix_seq o_ix (mr_rd 1 (pv 1)) (mr_of me_int) (fun _ _ => rfl))))) (mr_of me_int)) ma_nil)))) (len_cons (len_cons (len_cons (len_cons (fun ρ ds h => len_nil h)))))))
    (ms_cons (ms_set 5 sc_law.nd (me_ix ix_seq o_ix (mr_of (me_calD D_ulaw_vectors (hr.mono (by decide)) cs.cw (ma_cons (me_calD D_ulaw_row (hr.mono (by decide)) cs.cw (ma_cons (me_var 0 (pv 0)) (ma_cons me_int (ma_cons me_int ma_nil))) (len_cons (len_cons (len_cons (fun ρ ds h => len_nil h))))) (ma_cons me_int (ma_cons (me_var 2 (pv 2)) (ma_cons (me_op op_modN o_mod (mr_of (me_t1 call_intT b_intT B.int (by decide +kernel) (mr_of (me_ix ix_seq o_ix (mr_rd 1 (pv 1)) (mr_of me_int) (fun _ _ => rfl))))) (mr_of me_int)) ma_nil)))) (len_cons (len_cons (len_cons (len_cons (fun ρ ds h => len_nil h))))))) (mr_of me_int) (fun _ _ => rfl)))
    (ms_cons (ms_setO 6 sc_law.nd (mf_t1 call_list_of b_lst B.list (by decide +kernel) (mr_rd 4 (pv 4))))
    (ms_cons (ms_set 7 sc_law.nd (me_lend 6 (me_make C_Menu (hr.mono (by decide)) cs.cw (ma_cons (me_var 2 (pv 2)) (ma_cons (me_var 6 (pv 6)) ma_nil)) (len_cons (len_cons (fun ρ ds h => len_nil h))))))
    (ms_cons (ms_set 8 sc_law.nd (me_of (mf_rev (mr_rd 4 (pv 4)))))
    (ms_cons (ms_set 9 sc_law.nd (me_make C_Menu (hr.mono (by decide)) cs.cw (ma_cons (me_var 2 (pv 2)) (ma_cons (me_of (mf_t1 call_list_of b_lst B.list (by decide +kernel) (mr_rd 8 (pv 8)))) ma_nil)) (len_cons (len_cons (fun ρ ds h => len_nil h)))))
    (ms_cons (ms_sto 6 (pv 6) me_int (me_op op_mulA o_mulT (mr_of (me_tup (ma_cons me_int ma_nil))) (mr_rd 2 (pv 2))))
    (ms_cons (ms_app 6 (pv 6) (me_op op_mulA o_mulT (mr_of (me_tup (ma_cons me_int ma_nil))) (mr_rd 2 (pv 2))))
    (ms_cons (ms_asg (me_tup (ma_cons (me_op op_modN o_mod (mr_of (me_t1 call_intT b_intT B.int (by decide +kernel) (mr_of (me_ix ix_seq o_ix (mr_rd 1 (pv 1)) (mr_of me_int) (fun _ _ => rfl))))) (mr_rd 3 (pv 3))) (ma_cons (me_op op_modN o_mod (mr_of (me_t1 call_intT b_intT B.int (by decide +kernel) (mr_of (me_ix ix_seq o_ix (mr_rd 1 (pv 1)) (mr_of me_int) (fun _ _ => rfl))))) (mr_rd 3 (pv 3))) ma_nil))) (mg_tup cs.hc (mgs_cons (mg_name 10 sc_law.nd) (mgs_cons (mg_name 11 sc_law.nd) mgs_nil))))
    (ms_cons (ms_set 12 sc_law.nd (me_t1 call_tuple_of b_tup B.tuple (by decide +kernel) (mr_f (mf_lc (own := [("k", 18)]) cs.hc sc_law.nd (mi_rng1 rfl B.range (ma_cons (me_var 2 (pv 2)) ma_nil)) (blkOk_by (N := ["script", "turns", "width", "many", "usages", "costs", "given", "menu", "turned", "other", "first", "second", "gap", "unit", "back", "wide", "nums", "plan", "k", "num"]) (sc := defScope s_law) (by decide +kernel)) (fun _ _ _ _ _ => (mg_name 18 sc_law.nd)) (fun _ _ _ _ _ => mts_nil) (fun _ _ _ _ _ => (me_op op_sub o_sub (mr_of (me_ix ix_seq o_ix (mr_of (me_ix ix_seq o_ix (mr_rd 4 (pv 4)) (mr_rd 10 (pv 10)) (fun _ _ => rfl))) (mr_rd 18 (pv 18)) (fun _ _ => rfl))) (mr_of (me_ix ix_seq o_ix (mr_of (me_ix ix_seq o_ix (mr_rd 4 (pv 4)) (mr_rd 11 (pv 11)) (fun _ _ => rfl))) (mr_rd 18 (pv 18)) (fun _ _ => rfl)))))))))
    (ms_cons (ms_set 13 sc_law.nd (me_t1 call_tuple_of b_tup B.tuple (by decide +kernel) (mr_f (mf_lc (own := [("k", 18)]) cs.hc sc_law.nd (mi_rng1 rfl B.range (ma_cons (me_var 2 (pv 2)) ma_nil)) (blkOk_by (N := ["script", "turns", "width", "many", "usages", "costs", "given", "menu", "turned", "other", "first", "second", "gap", "unit", "back", "wide", "nums", "plan", "k", "num"]) (sc := defScope s_law) (by decide +kernel)) (fun _ _ _ _ _ => (mg_name 18 sc_law.nd)) (fun _ _ _ _ _ => mts_nil) (fun _ _ _ _ _ => (me_t1 call_intT b_intT B.int (by decide +kernel) (mr_of (me_cmp (op_eqD hr.units) o_eq (mr_rd 18 (pv 18)) (mr_of (me_op op_modN o_mod (mr_of (me_t1 call_intT b_intT B.int (by decide +kernel) (mr_of (me_ix ix_seq o_ix (mr_rd 1 (pv 1)) (mr_of me_int) (fun _ _ => rfl))))) (mr_rd 2 (pv 2)))) (nomark _)))))))))
    (ms_cons (ms_set 14 sc_law.nd (me_t1 call_tuple_of b_tup B.tuple (by decide +kernel) (mr_f (mf_lc (own := [("num", 19)]) cs.hc sc_law.nd (mi_seq (me_var 5 (pv 5))) (blkOk_by (N := ["script", "turns", "width", "many", "usages", "costs", "given", "menu", "turned", "other", "first", "second", "gap", "unit", "back", "wide", "nums", "plan", "k", "num"]) (sc := defScope s_law) (by decide +kernel)) (fun _ _ _ _ _ => (mg_name 19 sc_law.nd)) (fun _ _ _ _ _ => mts_nil) (fun _ _ _ _ _ => (me_un un_neg o_neg (mr_rd 19 (pv 19))))))))
    (ms_cons (ms_set 15 sc_law.nd (me_of (mf_lst (ma_cons (me_var 5 (pv 5)) (ma_cons (me_op op_mulA o_mulT (mr_of (me_tup (ma_cons me_int ma_nil))) (mr_rd 2 (pv 2))) (ma_cons (me_var 13 (pv 13)) (ma_cons (me_var 12 (pv 12)) (ma_cons (me_t1 call_tuple_of b_tup B.tuple (by decide +kernel) (mr_f (mf_lc (own := [("num", 19)]) cs.hc sc_law.nd (mi_seq (me_var 12 (pv 12))) (blkOk_by (N := ["script", "turns", "width", "many", "usages", "costs", "given", "menu", "turned", "other", "first", "second", "gap", "unit", "back", "wide", "nums", "plan", "k", "num"]) (sc := defScope s_law) (by decide +kernel)) (fun _ _ _ _ _ => (mg_name 19 sc_law.nd)) (fun _ _ _ _ _ => mts_nil) (fun _ _ _ _ _ => (me_un un_neg o_neg (mr_rd 19 (pv 19))))))) (ma_cons (me_var 14 (pv 14)) ma_nil)))))))))
    (ms_cons (ms_if (PW.pt (mw_or (mt_cmp (op_neD hr.units) o_ne (mr_of (me_ccon Z.k_Task_PLANS)) (mr_of me_int) (nomark _)) (mw_or (mt_not (mt_tru (mr_of (me_calD D_ulaw_is_menu (hr.mono (by decide)) cs.cw (ma_cons (me_var 7 (pv 7)) (ma_cons (me_var 2 (pv 2)) (ma_cons (me_var 4 (pv 4)) ma_nil))) (len_cons (len_cons (len_cons (fun ρ ds h => len_nil h)))))))) (mw_or1 (mt_not (mt_tru (mr_of (me_calD D_ulaw_is_menu (hr.mono (by decide)) cs.cw (ma_cons (me_var 9 (pv 9)) (ma_cons (me_var 2 (pv 2)) (ma_cons (me_var 8 (pv 8)) ma_nil))) (len_cons (len_cons (len_cons (fun ρ ds h => len_nil h)))))))))))) (ms_one (ms_ret me_bl)) ms_nil)
    (ms_cons (ms_for cs.po cs.hc (mi_seq (me_var 15 (pv 15))) (mg_name 16 sc_law.nd) (ms_one (ms_if (mt_not (mt_tru (mr_of (me_calD D_ulaw_priced (hr.mono (by decide)) cs.cw (ma_cons (me_var 7 (pv 7)) (ma_cons (me_var 4 (pv 4)) (ma_cons (me_var 16 (pv 16)) ma_nil))) (len_cons (len_cons (len_cons (fun ρ ds h => len_nil h)))))))) (ms_one (ms_ret me_bl)) ms_nil)))
    (ms_cons (ms_if (PW.pt (mw_or (mt_not (mt_tru (mr_of (me_calD D_ulaw_priced (hr.mono (by decide)) cs.cw (ma_cons (me_var 9 (pv 9)) (ma_cons (me_var 8 (pv 8)) (ma_cons (me_var 5 (pv 5)) ma_nil))) (len_cons (len_cons (len_cons (fun ρ ds h => len_nil h)))))))) (mw_or1 (mt_not (mt_tru (mr_of (me_calD D_ulaw_priced (hr.mono (by decide)) cs.cw (ma_cons (me_var 9 (pv 9)) (ma_cons (me_var 8 (pv 8)) (ma_cons (me_var 12 (pv 12)) ma_nil))) (len_cons (len_cons (len_cons (fun ρ ds h => len_nil h))))))))))) (ms_one (ms_ret me_bl)) ms_nil)
    (ms_cons (ms_for cs.po cs.hc (mi_seq (me_of (mf_lst (ma_cons (me_var 10 (pv 10)) (ma_cons (me_var 11 (pv 11)) (ma_cons (me_op op_sub o_sub (mr_rd 3 (pv 3)) (mr_of me_int)) ma_nil)))))) (mg_name 17 sc_law.nd) (ms_one (ms_if (PW.pt (mw_or (mt_not (mt_tru (mr_of (me_calD D_ulaw_ruled (hr.mono (by decide)) cs.cw (ma_cons (me_var 7 (pv 7)) (ma_cons (me_var 4 (pv 4)) (ma_cons (me_var 17 (pv 17)) (ma_cons (me_var 15 (pv 15)) ma_nil)))) (len_cons (len_cons (len_cons (len_cons (fun ρ ds h => len_nil h))))))))) (mw_or1 (mt_not (mt_tru (mr_of (me_calD D_ulaw_ruled (hr.mono (by decide)) cs.cw (ma_cons (me_var 9 (pv 9)) (ma_cons (me_var 8 (pv 8)) (ma_cons (me_var 17 (pv 17)) (ma_cons (me_var 15 (pv 15)) ma_nil)))) (len_cons (len_cons (len_cons (len_cons (fun ρ ds h => len_nil h)))))))))))) (ms_one (ms_ret me_bl)) ms_nil)))
    (ms_cons (ms_if (PW.pt (mw_or (mt_not (mt_tru (mr_of (me_calD D_ulaw_refuses (hr.mono (by decide)) cs.cw (ma_cons (me_var 7 (pv 7)) (ma_cons (me_var 4 (pv 4)) (ma_cons (me_var 5 (pv 5)) ma_nil))) (len_cons (len_cons (len_cons (fun ρ ds h => len_nil h)))))))) (mw_or1 (mt_not (mt_tru (mr_of (me_calD D_ulaw_barred (hr.mono (by decide)) cs.cw (ma_cons (me_var 4 (pv 4)) (ma_cons (me_var 2 (pv 2)) (ma_cons (me_sl (mr_rd 1 (pv 1)) (mp_some me_int) mp_none) ma_nil))) (len_cons (len_cons (len_cons (fun ρ ds h => len_nil h))))))))))) (ms_one (ms_ret me_bl)) ms_nil)
    (ms_one (ms_ret (me_and (me_calD D_ulaw_is_menu (hr.mono (by decide)) cs.cw (ma_cons (me_var 7 (pv 7)) (ma_cons (me_var 2 (pv 2)) (ma_cons (me_var 4 (pv 4)) ma_nil))) (len_cons (len_cons (len_cons (fun ρ ds h => len_nil h))))) (pe_one (me_calD D_ulaw_priced (hr.mono (by decide)) cs.cw (ma_cons (me_var 7 (pv 7)) (ma_cons (me_var 4 (pv 4)) (ma_cons (me_var 5 (pv 5)) ma_nil))) (len_cons (len_cons (len_cons (fun ρ ds h => len_nil h))))))))))))))))))))))))))))))
def fa : List (Frg → Bool) := [(He.Fa.glo "make_ratio").ok,
  (He.Fa.glo "dot").ok,
  (He.Fa.glo "content").ok,
  (He.Fa.glo "make_point").ok,
  (He.Fa.glo "is_whole").ok,
  (He.Fa.glo "has_form").ok,
  (He.Fa.glo "tally").ok,
  (He.Fa.glo "_law_mix").ok,
  (He.Fa.glo "_law_row").ok,
  (He.Fa.glo "_law_is_whole").ok,
  (He.Fa.glo "_law_is_tuple").ok,
  (He.Fa.glo "_law_dot").ok,
  (He.Fa.glo "_law_amount").ok,
  (He.Fa.glo "_law_vectors").ok,
  (He.Fa.glo "_law_is_bool").ok,
  (He.Fa.glo "_law_error").ok,
  (He.Fa.glo "_law_is_menu").ok,
  (He.Fa.glo "_law_priced").ok,
  (He.Fa.glo "_law_ruled").ok,
  (He.Fa.glo "_law_refuses").ok,
  (He.Fa.glo "_law_barred").ok,
  (He.Fa.glo "law").ok,
  (He.Fa.glo "BadName").ok,
  (He.Fa.glo "BadNumber").ok,
  (He.Fa.glo "BadPaper").ok,
  (He.Fa.glo "BadQuestion").ok,
  (He.Fa.glo "BadRange").ok,
  (He.Fa.glo "BadSeen").ok,
  (He.Fa.glo "BadTask").ok,
  (He.Fa.glo "BadText").ok,
  (He.Fa.glo "CostsError").ok,
  (He.Fa.glo "NoCosts").ok,
  (He.Fa.glo "NotAPlan").ok,
  (He.Fa.glo "StaleKey").ok,
  (He.Fa.glo "TooMany").ok,
  (He.Fa.glo "UnknownName").ok,
  (He.Fa.glo "Unlisted").ok,
  (He.Fa.glo "Menu").ok,
  (He.Fa.glo "Task").ok,
  (He.Fa.exc "BadNumber").ok,
  (He.Fa.exc "BadTask").ok,
  (He.Fa.exc "NotAPlan").ok,
  (He.Fa.free "ValueError").ok,
  (He.Fa.free "abs").ok,
  (He.Fa.free "all").ok,
  (He.Fa.free "bool").ok,
  (He.Fa.free "enumerate").ok,
  (fun K => He.eqO (PySem.W.nsIn K mainGlobals "gcd") (some (some (.builtin "math.gcd")))),
  (He.Fa.free "int").ok,
  (He.Fa.free "isinstance").ok,
  (He.Fa.free "len").ok,
  (He.Fa.free "list").ok,
  (He.Fa.free "min").ok,
  (He.Fa.free "range").ok,
  (He.Fa.free "sum").ok,
  (He.Fa.free "super").ok,
  (He.Fa.free "tuple").ok,
  (He.Fa.free "zip").ok,
  (excCB · "BadNumber"),
  (excCB · "BadTask"),
  (excCB · "NotAPlan"),
  (fun K => row1B K "BadNumber" (.ref (He.ga K "BadNumber")) true),
  (fun K => row1B K "BadTask" (.ref (He.ga K "BadNumber")) false),
  (fun K => row1B K "NotAPlan" (.ref (He.ga K "BadNumber")) false),
  (fun K => row1B K "BadNumber" (.ref (He.ga K "NotAPlan")) false),
  (fun K => row1B K "BadTask" (.ref (He.ga K "NotAPlan")) false),
  (fun K => row1B K "NotAPlan" (.ref (He.ga K "NotAPlan")) true),
  (fun K => row1B K "BadNumber" (.ref (He.ga K "BadTask")) false),
  (fun K => row1B K "BadTask" (.ref (He.ga K "BadTask")) true),
  (fun K => row1B K "NotAPlan" (.ref (He.ga K "BadTask")) false),
  (fun K => rowB K "BadNumber" [(.ref (He.ga K "Unlisted")), (.ref (He.ga K "BadPaper")), (.ref (He.ga K "NoCosts")), (.ref (He.ga K "BadQuestion")), (.ref (He.ga K "BadRange")), (.ref (He.ga K "BadSeen")), (.ref (He.ga K "TooMany")), (.ref (He.ga K "BadText")), (.ref (He.ga K "BadName"))] false),
  (fun K => rowB K "BadTask" [(.ref (He.ga K "Unlisted")), (.ref (He.ga K "BadPaper")), (.ref (He.ga K "NoCosts")), (.ref (He.ga K "BadQuestion")), (.ref (He.ga K "BadRange")), (.ref (He.ga K "BadSeen")), (.ref (He.ga K "TooMany")), (.ref (He.ga K "BadText")), (.ref (He.ga K "BadName"))] false),
  (fun K => rowB K "NotAPlan" [(.ref (He.ga K "Unlisted")), (.ref (He.ga K "BadPaper")), (.ref (He.ga K "NoCosts")), (.ref (He.ga K "BadQuestion")), (.ref (He.ga K "BadRange")), (.ref (He.ga K "BadSeen")), (.ref (He.ga K "TooMany")), (.ref (He.ga K "BadText")), (.ref (He.ga K "BadName"))] false),
  (fun K => row1B K "BadNumber" (.type "ValueError") true),
  (fun K => row1B K "BadTask" (.type "ValueError") true),
  (fun K => row1B K "NotAPlan" (.type "ValueError") true),
  (fun K => rowB K "BadNumber" [(.ref (He.ga K "UnknownName")), (.ref (He.ga K "StaleKey"))] false),
  (fun K => rowB K "BadTask" [(.ref (He.ga K "UnknownName")), (.ref (He.ga K "StaleKey"))] false),
  (fun K => rowB K "NotAPlan" [(.ref (He.ga K "UnknownName")), (.ref (He.ga K "StaleKey"))] false),
  (He.Fa.exm "BadNumber" "CostsError" true).ok,
  (He.Fa.exm "BadTask" "CostsError" true).ok,
  (He.Fa.exm "NotAPlan" "CostsError" true).ok,
  (He.Fa.cls "Menu").ok,
  (He.Fa.noat "Menu" "usages").ok,
  (He.Fa.noat "Menu" "width").ok,
  (conB · "Menu" "KIND" (.str "menu")),
  (conB · "Menu" "PLANS" (.int 120)),
  (cconB · "Menu" "MOST" (.int 24)),
  (cconB · "Task" "PLANS" (.int 120)),
  (cconB · "Task" "WIDTH" (.int 8)),
  (isB · "Menu" "Menu" true),
  (isB · "Menu" "Task" true),
  (supB · "Menu" "Menu" ("Task", some "__init__")),
  (clsInB · "Menu"),
  (methB · "Menu" "is_plan" ("Menu", some "is_plan")),
  (methB · "Menu" "scale" ("Task", some "scale")),
  (methB · "Menu" "amounts" ("Menu", some "amounts")),
  (methB · "Menu" "check_costs" ("Task", some "check_costs")),
  (methB · "Menu" "usage" ("Task", some "usage")),
  (methB · "Menu" "plans" ("Menu", some "plans")),
  (methB · "Menu" "row_between" ("Task", some "row_between")),
  (methB · "Menu" "cost_of" ("Task", some "cost_of")),
  (methB · "Menu" "solve" ("Menu", some "solve")),
  (methB · "Menu" "judge" ("Menu", some "judge")),
  (methB · "Menu" "rules" ("Task", some "rules")),
  (methB · "Menu" "drift" ("Task", some "drift")),
  (methB · "Menu" "is_way" ("Task", some "is_way")),
  (mkB · "Menu" ("Menu", some "__init__"))]
def fn : List He.DefD := [dD "make_ratio" s_make_ratio, dD "dot" s_dot, dD "content" s_content, dD "make_point" s_make_point, dD "is_whole" s_is_whole, dD "has_form" s_has_form, dD "tally" s_tally, dD "_law_mix" s_ulaw_mix, dD "_law_row" s_ulaw_row, dD "_law_is_whole" s_ulaw_is_whole, dD "_law_is_tuple" s_ulaw_is_tuple, dD "_law_dot" s_ulaw_dot, dD "_law_amount" s_ulaw_amount, dD "_law_vectors" s_ulaw_vectors, dD "_law_is_bool" s_ulaw_is_bool, dD "_law_error" s_ulaw_error, dD "_law_is_menu" s_ulaw_is_menu, dD "_law_priced" s_ulaw_priced, dD "_law_ruled" s_ulaw_ruled, dD "_law_refuses" s_ulaw_refuses, dD "_law_barred" s_ulaw_barred, dD "law" s_law, dM "Task" "__init__" "Task.__init__" s_Task_init, dM "Task" "check_costs" "Task.check_costs" s_Task_check_costs, dM "Task" "scale" "Task.scale" s_Task_scale, dM "Menu" "is_plan" "Menu.is_plan" s_Menu_is_plan, dM "Menu" "amounts" "Menu.amounts" s_Menu_amounts, dM "Task" "usage" "Task.usage" s_Task_usage, dM "Task" "cost_of" "Task.cost_of" s_Task_cost_of, dM "Task" "row_between" "Task.row_between" s_Task_row_between, dM "Menu" "plans" "Menu.plans" s_Menu_plans, dM "Task" "rules" "Task.rules" s_Task_rules, dM "Task" "is_way" "Task.is_way" s_Task_is_way, dM "Task" "drift" "Task.drift" s_Task_drift, dM "Menu" "solve" "Menu.solve" s_Menu_solve, dM "Menu" "judge" "Menu.judge" s_Menu_judge]
def fs : List SDef := [sM "Menu" "__init__" "Menu.__init__" s_Menu_init]
abbrev R : PySem.W.OpenRow := PySem.W.OpenLaw.row PySem.Challenge.rw_costsexplained_k11_menus_solved_and_judg
abbrev hk : PySem.W.Hook := hookM 5 file fa fn fs
def ob (s : PySem.W.SharedT) : AlM := obsMG 5 file fa fn fs (HandSHeadRun.getT s)
theorem ob_eq (s : PySem.W.SharedT) : ob s = hk.obs s.abs := obsMG_eq (HandSHeadRun.getT_eq s)
def nm0 : List Str := ["_wall", "__name__", "CostsError", "BadNumber", "BadTask", "NotAPlan", "Unlisted", "BadPaper", "NoCosts", "BadQuestion", "BadRange", "BadSeen", "TooMany", "BadText", "BadName", "UnknownName", "StaleKey", "make_ratio", "dot", "content", "make_point", "is_whole", "has_form", "tally", "Task", "Menu", "_law_mix", "_law_row", "_law_is_whole", "_law_is_tuple"]
def nm1 : List Str := ["_law_dot", "_law_amount", "_law_vectors", "_law_is_bool", "_law_error", "_law_is_menu", "_law_priced", "_law_ruled", "_law_refuses", "_law_barred"]
def loose : List Str := nm0 ++ nm1
def qv : Program := PySem.W.view R.prog [0, 46]
theorem run (w : World) : HandSHeadRun.RunEqI R qv hk ob 100000 loose w := by
  unfold HandSHeadRun.RunEqI
  kernel_rfl
theorem lk {x y : Str} {b b' : Bool} {r : List (Str × Bool)} (h : List.lookup x ((y, b) :: r) = some b') : (x = y ∧ b' = b) ∨ List.lookup x r = some b' := by
  unfold List.lookup at h
  split at h
  · rename_i e
    exact .inl ⟨eq_of_beq e, (Option.some.inj h).symm⟩
  · exact .inr h
theorem facts (hlaw : ∀ ns : List Int, ns.length ≤ 63 → f_law [.rol (ns.map D.int)] = .ok (.bl true)) {P : Program} {w : World} {K : Frg} {h : Heap} {mg : Mg} {f : Addr} (hP : SupP P file) (X : K.In h) (G : h.Ns mainGlobals mg) (hfa : mg ("law" : Str) = some (.ref f)) (c : SaysM file fa fn fs K) :
    ∃ fd : FuncData, (∀ (s : Shared) (v : Value), BindsTo s fd ⟨[v], []⟩ [("script", v)]) ∧ ∀ base : Heap, K.In base → base.Ns mainGlobals mg → FnOk P w K mg base CX0 8 f fd ["script"] (spLaw K) := by
  obtain ⟨fd_make_ratio, F_make_ratio⟩ := c.def_ 0 (d := dD "make_ratio" s_make_ratio) rfl
  obtain ⟨fd_dot, F_dot⟩ := c.def_ 1 (d := dD "dot" s_dot) rfl
  obtain ⟨fd_content, F_content⟩ := c.def_ 2 (d := dD "content" s_content) rfl
  obtain ⟨fd_make_point, F_make_point⟩ := c.def_ 3 (d := dD "make_point" s_make_point) rfl
  obtain ⟨fd_is_whole, F_is_whole⟩ := c.def_ 4 (d := dD "is_whole" s_is_whole) rfl
  obtain ⟨fd_has_form, F_has_form⟩ := c.def_ 5 (d := dD "has_form" s_has_form) rfl
  obtain ⟨fd_tally, F_tally⟩ := c.def_ 6 (d := dD "tally" s_tally) rfl
  obtain ⟨fd_ulaw_mix, F_ulaw_mix⟩ := c.def_ 7 (d := dD "_law_mix" s_ulaw_mix) rfl
  obtain ⟨fd_ulaw_row, F_ulaw_row⟩ := c.def_ 8 (d := dD "_law_row" s_ulaw_row) rfl
  obtain ⟨fd_ulaw_is_whole, F_ulaw_is_whole⟩ := c.def_ 9 (d := dD "_law_is_whole" s_ulaw_is_whole) rfl
  obtain ⟨fd_ulaw_is_tuple, F_ulaw_is_tuple⟩ := c.def_ 10 (d := dD "_law_is_tuple" s_ulaw_is_tuple) rfl
  obtain ⟨fd_ulaw_dot, F_ulaw_dot⟩ := c.def_ 11 (d := dD "_law_dot" s_ulaw_dot) rfl
  obtain ⟨fd_ulaw_amount, F_ulaw_amount⟩ := c.def_ 12 (d := dD "_law_amount" s_ulaw_amount) rfl
  obtain ⟨fd_ulaw_vectors, F_ulaw_vectors⟩ := c.def_ 13 (d := dD "_law_vectors" s_ulaw_vectors) rfl
  obtain ⟨fd_ulaw_is_bool, F_ulaw_is_bool⟩ := c.def_ 14 (d := dD "_law_is_bool" s_ulaw_is_bool) rfl
  obtain ⟨fd_ulaw_error, F_ulaw_error⟩ := c.def_ 15 (d := dD "_law_error" s_ulaw_error) rfl
  obtain ⟨fd_ulaw_is_menu, F_ulaw_is_menu⟩ := c.def_ 16 (d := dD "_law_is_menu" s_ulaw_is_menu) rfl
  obtain ⟨fd_ulaw_priced, F_ulaw_priced⟩ := c.def_ 17 (d := dD "_law_priced" s_ulaw_priced) rfl
  obtain ⟨fd_ulaw_ruled, F_ulaw_ruled⟩ := c.def_ 18 (d := dD "_law_ruled" s_ulaw_ruled) rfl
  obtain ⟨fd_ulaw_refuses, F_ulaw_refuses⟩ := c.def_ 19 (d := dD "_law_refuses" s_ulaw_refuses) rfl
  obtain ⟨fd_ulaw_barred, F_ulaw_barred⟩ := c.def_ 20 (d := dD "_law_barred" s_ulaw_barred) rfl
  obtain ⟨fd_law, F_law⟩ := c.def_ 21 (d := dD "law" s_law) rfl
  obtain ⟨fd_Task_init, F_Task_init⟩ := c.def_ 22 (d := dM "Task" "__init__" "Task.__init__" s_Task_init) rfl
  obtain ⟨fd_Task_check_costs, F_Task_check_costs⟩ := c.def_ 23 (d := dM "Task" "check_costs" "Task.check_costs" s_Task_check_costs) rfl
  obtain ⟨fd_Task_scale, F_Task_scale⟩ := c.def_ 24 (d := dM "Task" "scale" "Task.scale" s_Task_scale) rfl
  obtain ⟨fd_Menu_is_plan, F_Menu_is_plan⟩ := c.def_ 25 (d := dM "Menu" "is_plan" "Menu.is_plan" s_Menu_is_plan) rfl
  obtain ⟨fd_Menu_amounts, F_Menu_amounts⟩ := c.def_ 26 (d := dM "Menu" "amounts" "Menu.amounts" s_Menu_amounts) rfl
  obtain ⟨fd_Task_usage, F_Task_usage⟩ := c.def_ 27 (d := dM "Task" "usage" "Task.usage" s_Task_usage) rfl
  obtain ⟨fd_Task_cost_of, F_Task_cost_of⟩ := c.def_ 28 (d := dM "Task" "cost_of" "Task.cost_of" s_Task_cost_of) rfl
  obtain ⟨fd_Task_row_between, F_Task_row_between⟩ := c.def_ 29 (d := dM "Task" "row_between" "Task.row_between" s_Task_row_between) rfl
  obtain ⟨fd_Menu_plans, F_Menu_plans⟩ := c.def_ 30 (d := dM "Menu" "plans" "Menu.plans" s_Menu_plans) rfl
  obtain ⟨fd_Task_rules, F_Task_rules⟩ := c.def_ 31 (d := dM "Task" "rules" "Task.rules" s_Task_rules) rfl
  obtain ⟨fd_Task_is_way, F_Task_is_way⟩ := c.def_ 32 (d := dM "Task" "is_way" "Task.is_way" s_Task_is_way) rfl
  obtain ⟨fd_Task_drift, F_Task_drift⟩ := c.def_ 33 (d := dM "Task" "drift" "Task.drift" s_Task_drift) rfl
  obtain ⟨fd_Menu_solve, F_Menu_solve⟩ := c.def_ 34 (d := dM "Menu" "solve" "Menu.solve" s_Menu_solve) rfl
  obtain ⟨fd_Menu_judge, F_Menu_judge⟩ := c.def_ 35 (d := dM "Menu" "judge" "Menu.judge" s_Menu_judge) rfl
  obtain ⟨fd_Menu_init, F_Menu_init⟩ := c.sdef 0 (d := sM "Menu" "__init__" "Menu.__init__" s_Menu_init) rfl
  have e := hfa.symm.trans (He.glo_ok X G (c.fact 21 (f := (He.Fa.glo "law").ok) rfl))
  cases e
  have B : Bi mg := ⟨He.free_ok X G (c.fact 42 (f := (He.Fa.free "ValueError").ok) rfl), He.free_ok X G (c.fact 43 (f := (He.Fa.free "abs").ok) rfl), He.free_ok X G (c.fact 44 (f := (He.Fa.free "all").ok) rfl), He.free_ok X G (c.fact 45 (f := (He.Fa.free "bool").ok) rfl), He.free_ok X G (c.fact 46 (f := (He.Fa.free "enumerate").ok) rfl), PySem.W.mg_of X G (He.eqO_ok (c.fact 47 rfl)), He.free_ok X G (c.fact 48 (f := (He.Fa.free "int").ok) rfl), He.free_ok X G (c.fact 49 (f := (He.Fa.free "isinstance").ok) rfl), He.free_ok X G (c.fact 50 (f := (He.Fa.free "len").ok) rfl), He.free_ok X G (c.fact 51 (f := (He.Fa.free "list").ok) rfl), He.free_ok X G (c.fact 52 (f := (He.Fa.free "min").ok) rfl), He.free_ok X G (c.fact 53 (f := (He.Fa.free "range").ok) rfl), He.free_ok X G (c.fact 54 (f := (He.Fa.free "sum").ok) rfl), He.free_ok X G (c.fact 55 (f := (He.Fa.free "super").ok) rfl), He.free_ok X G (c.fact 56 (f := (He.Fa.free "tuple").ok) rfl), He.free_ok X G (c.fact 57 (f := (He.Fa.free "zip").ok) rfl)⟩
  have G_BadName := He.glo_ok X G (c.fact 22 (f := (He.Fa.glo "BadName").ok) rfl)
  have G_BadNumber := He.glo_ok X G (c.fact 23 (f := (He.Fa.glo "BadNumber").ok) rfl)
  have G_BadPaper := He.glo_ok X G (c.fact 24 (f := (He.Fa.glo "BadPaper").ok) rfl)
  have G_BadQuestion := He.glo_ok X G (c.fact 25 (f := (He.Fa.glo "BadQuestion").ok) rfl)
  have G_BadRange := He.glo_ok X G (c.fact 26 (f := (He.Fa.glo "BadRange").ok) rfl)
  have G_BadSeen := He.glo_ok X G (c.fact 27 (f := (He.Fa.glo "BadSeen").ok) rfl)
  have G_BadTask := He.glo_ok X G (c.fact 28 (f := (He.Fa.glo "BadTask").ok) rfl)
  have G_BadText := He.glo_ok X G (c.fact 29 (f := (He.Fa.glo "BadText").ok) rfl)
  have G_CostsError := He.glo_ok X G (c.fact 30 (f := (He.Fa.glo "CostsError").ok) rfl)
  have G_NoCosts := He.glo_ok X G (c.fact 31 (f := (He.Fa.glo "NoCosts").ok) rfl)
  have G_NotAPlan := He.glo_ok X G (c.fact 32 (f := (He.Fa.glo "NotAPlan").ok) rfl)
  have G_StaleKey := He.glo_ok X G (c.fact 33 (f := (He.Fa.glo "StaleKey").ok) rfl)
  have G_TooMany := He.glo_ok X G (c.fact 34 (f := (He.Fa.glo "TooMany").ok) rfl)
  have G_UnknownName := He.glo_ok X G (c.fact 35 (f := (He.Fa.glo "UnknownName").ok) rfl)
  have G_Unlisted := He.glo_ok X G (c.fact 36 (f := (He.Fa.glo "Unlisted").ok) rfl)
  have G_Menu := He.glo_ok X G (c.fact 37 (f := (He.Fa.glo "Menu").ok) rfl)
  have G_Task := He.glo_ok X G (c.fact 38 (f := (He.Fa.glo "Task").ok) rfl)
  have Z : Ez K mg := ⟨excT_ok X G (c.fact 23 (f := (He.Fa.glo "BadNumber").ok) rfl) (c.fact 39 (f := (He.Fa.exc "BadNumber").ok) rfl),
    excT_ok X G (c.fact 28 (f := (He.Fa.glo "BadTask").ok) rfl) (c.fact 40 (f := (He.Fa.exc "BadTask").ok) rfl),
    excT_ok X G (c.fact 32 (f := (He.Fa.glo "NotAPlan").ok) rfl) (c.fact 41 (f := (He.Fa.exc "NotAPlan").ok) rfl),
    G_BadName,
    G_BadNumber,
    G_BadPaper,
    G_BadQuestion,
    G_BadRange,
    G_BadSeen,
    G_BadTask,
    G_BadText,
    G_CostsError,
    G_NoCosts,
    G_NotAPlan,
    G_StaleKey,
    G_TooMany,
    G_UnknownName,
    G_Unlisted,
    G_Menu,
    G_Task,
    (by
    intro x C b hm ht
    rcases lk ht with ⟨rfl, rfl⟩ | ht
    · rw [G_BadNumber] at hm
      cases hm
      exact ⟨excCB_ok (c.fact 58 rfl), of_decide_eq_true (c.fact 61 rfl)⟩
    rcases lk ht with ⟨rfl, rfl⟩ | ht
    · rw [G_BadTask] at hm
      cases hm
      exact ⟨excCB_ok (c.fact 59 rfl), of_decide_eq_true (c.fact 62 rfl)⟩
    rcases lk ht with ⟨rfl, rfl⟩ | ht
    · rw [G_NotAPlan] at hm
      cases hm
      exact ⟨excCB_ok (c.fact 60 rfl), of_decide_eq_true (c.fact 63 rfl)⟩
    · cases ht),
    (by
    intro x C b hm ht
    rcases lk ht with ⟨rfl, rfl⟩ | ht
    · rw [G_BadNumber] at hm
      cases hm
      exact ⟨excCB_ok (c.fact 58 rfl), of_decide_eq_true (c.fact 64 rfl)⟩
    rcases lk ht with ⟨rfl, rfl⟩ | ht
    · rw [G_BadTask] at hm
      cases hm
      exact ⟨excCB_ok (c.fact 59 rfl), of_decide_eq_true (c.fact 65 rfl)⟩
    rcases lk ht with ⟨rfl, rfl⟩ | ht
    · rw [G_NotAPlan] at hm
      cases hm
      exact ⟨excCB_ok (c.fact 60 rfl), of_decide_eq_true (c.fact 66 rfl)⟩
    · cases ht),
    (by
    intro x C b hm ht
    rcases lk ht with ⟨rfl, rfl⟩ | ht
    · rw [G_BadNumber] at hm
      cases hm
      exact ⟨excCB_ok (c.fact 58 rfl), of_decide_eq_true (c.fact 67 rfl)⟩
    rcases lk ht with ⟨rfl, rfl⟩ | ht
    · rw [G_BadTask] at hm
      cases hm
      exact ⟨excCB_ok (c.fact 59 rfl), of_decide_eq_true (c.fact 68 rfl)⟩
    rcases lk ht with ⟨rfl, rfl⟩ | ht
    · rw [G_NotAPlan] at hm
      cases hm
      exact ⟨excCB_ok (c.fact 60 rfl), of_decide_eq_true (c.fact 69 rfl)⟩
    · cases ht),
    (by
    intro x C b hm ht
    rcases lk ht with ⟨rfl, rfl⟩ | ht
    · rw [G_BadNumber] at hm
      cases hm
      exact ⟨excCB_ok (c.fact 58 rfl), of_decide_eq_true (c.fact 70 rfl)⟩
    rcases lk ht with ⟨rfl, rfl⟩ | ht
    · rw [G_BadTask] at hm
      cases hm
      exact ⟨excCB_ok (c.fact 59 rfl), of_decide_eq_true (c.fact 71 rfl)⟩
    rcases lk ht with ⟨rfl, rfl⟩ | ht
    · rw [G_NotAPlan] at hm
      cases hm
      exact ⟨excCB_ok (c.fact 60 rfl), of_decide_eq_true (c.fact 72 rfl)⟩
    · cases ht),
    (by
    intro x C b hm ht
    rcases lk ht with ⟨rfl, rfl⟩ | ht
    · rw [G_BadNumber] at hm
      cases hm
      exact ⟨excCB_ok (c.fact 58 rfl), of_decide_eq_true (c.fact 73 rfl)⟩
    rcases lk ht with ⟨rfl, rfl⟩ | ht
    · rw [G_BadTask] at hm
      cases hm
      exact ⟨excCB_ok (c.fact 59 rfl), of_decide_eq_true (c.fact 74 rfl)⟩
    rcases lk ht with ⟨rfl, rfl⟩ | ht
    · rw [G_NotAPlan] at hm
      cases hm
      exact ⟨excCB_ok (c.fact 60 rfl), of_decide_eq_true (c.fact 75 rfl)⟩
    · cases ht),
    (by
    intro x C b hm ht
    rcases lk ht with ⟨rfl, rfl⟩ | ht
    · rw [G_BadNumber] at hm
      cases hm
      exact ⟨excCB_ok (c.fact 58 rfl), of_decide_eq_true (c.fact 76 rfl)⟩
    rcases lk ht with ⟨rfl, rfl⟩ | ht
    · rw [G_BadTask] at hm
      cases hm
      exact ⟨excCB_ok (c.fact 59 rfl), of_decide_eq_true (c.fact 77 rfl)⟩
    rcases lk ht with ⟨rfl, rfl⟩ | ht
    · rw [G_NotAPlan] at hm
      cases hm
      exact ⟨excCB_ok (c.fact 60 rfl), of_decide_eq_true (c.fact 78 rfl)⟩
    · cases ht),
    (by
    intro x C b hm ht
    rcases lk ht with ⟨rfl, rfl⟩ | ht
    · rw [G_BadNumber] at hm
      cases hm
      exact He.exm_ok (x := "BadNumber") (y := "CostsError") (c.fact 79 rfl)
    rcases lk ht with ⟨rfl, rfl⟩ | ht
    · rw [G_BadTask] at hm
      cases hm
      exact He.exm_ok (x := "BadTask") (y := "CostsError") (c.fact 80 rfl)
    rcases lk ht with ⟨rfl, rfl⟩ | ht
    · rw [G_NotAPlan] at hm
      cases hm
      exact He.exm_ok (x := "NotAPlan") (y := "CostsError") (c.fact 81 rfl)
    · cases ht),
    (by
    intro x hx C hC
    rcases List.mem_cons.mp hx with rfl | hx
    · have e := G_Menu.symm.trans hC
      cases e
      exact ⟨He.cls_ok (x := "Menu") (c.fact 82 rfl), He.noat_ok (x := "Menu") (f := "usages") (c.fact 83 rfl)⟩
    · cases hx),
    (by
    intro x hx C hC
    rcases List.mem_cons.mp hx with rfl | hx
    · have e := G_Menu.symm.trans hC
      cases e
      exact ⟨He.cls_ok (x := "Menu") (c.fact 82 rfl), He.noat_ok (x := "Menu") (f := "width") (c.fact 84 rfl)⟩
    · cases hx),
    (by
    intro x v ht C hC
    rcases lkA ht with ⟨rfl, rfl⟩ | ht
    · have e := G_Menu.symm.trans hC
      cases e
      exact ⟨He.cls_ok (x := "Menu") (c.fact 82 rfl), conB_ok (c.fact 85 rfl)⟩
    · exact (lkN ht).elim),
    (by
    intro x v ht C hC
    rcases lkA ht with ⟨rfl, rfl⟩ | ht
    · have e := G_Menu.symm.trans hC
      cases e
      exact ⟨He.cls_ok (x := "Menu") (c.fact 82 rfl), conB_ok (c.fact 86 rfl)⟩
    · exact (lkN ht).elim),
    cconB_ok G_Menu (c.fact 87 rfl),
    cconB_ok G_Task (c.fact 88 rfl),
    cconB_ok G_Task (c.fact 89 rfl),
    ⟨_, G_Menu, by
    intro x v ht C hC
    rcases lkA ht with ⟨rfl, rfl⟩ | ht
    · have e := G_Menu.symm.trans hC
      cases e
      exact isB_ok (c.fact 90 rfl)
    · exact (lkN ht).elim⟩,
    ⟨_, G_Task, by
    intro x v ht C hC
    rcases lkA ht with ⟨rfl, rfl⟩ | ht
    · have e := G_Menu.symm.trans hC
      cases e
      exact isB_ok (c.fact 91 rfl)
    · exact (lkN ht).elim⟩,
    (by
    intro x hx C hC
    rcases List.mem_cons.mp hx with rfl | hx
    · have e := G_Menu.symm.trans hC
      cases e
      exact supB_ok (c.fact 92 rfl)
    · cases hx),
    clsInB_ok (c.fact 93 rfl)⟩
  have D_make_ratio := fun base => df_mk (P := P) (w := w) (base := base) (st := s_make_ratio) X G F_make_ratio (c.fact 0 (f := (He.Fa.glo "make_ratio").ok) rfl) (F_make_ratio.bindsN (ps := ["num", "den"]) fun _ _ _ _ _ _ us hl => match us, hl with | [_, _], _ => rfl) (ok_make_ratio (fun_of F_make_ratio) B Z)
  have D_dot := fun base => df_mk (P := P) (w := w) (base := base) (st := s_dot) X G F_dot (c.fact 1 (f := (He.Fa.glo "dot").ok) rfl) (F_dot.bindsN (ps := ["left", "right"]) fun _ _ _ _ _ _ us hl => match us, hl with | [_, _], _ => rfl) (ok_dot (fun_of F_dot) B Z)
  have D_content := fun base => df_mk (P := P) (w := w) (base := base) (st := s_content) X G F_content (c.fact 2 (f := (He.Fa.glo "content").ok) rfl) (F_content.bindsN (ps := ["vector"]) fun _ _ _ _ _ _ us hl => match us, hl with | [_], _ => rfl) (ok_content (fun_of F_content) B Z)
  have D_make_point := fun base => df_mk (P := P) (w := w) (base := base) (st := s_make_point) X G F_make_point (c.fact 3 (f := (He.Fa.glo "make_point").ok) rfl) (F_make_point.bindsN (ps := ["nums", "den"]) fun _ _ _ _ _ _ us hl => match us, hl with | [_, _], _ => rfl) (ok_make_point (fun_of F_make_point) B Z (D_content base))
  have D_is_whole := fun base => df_mk (P := P) (w := w) (base := base) (st := s_is_whole) X G F_is_whole (c.fact 4 (f := (He.Fa.glo "is_whole").ok) rfl) (F_is_whole.bindsN (ps := ["value"]) fun _ _ _ _ _ _ us hl => match us, hl with | [_], _ => rfl) (ok_is_whole (fun_of F_is_whole) B Z)
  have D_has_form := fun base => df_mk (P := P) (w := w) (base := base) (st := s_has_form) X G F_has_form (c.fact 5 (f := (He.Fa.glo "has_form").ok) rfl) (F_has_form.bindsN (ps := ["value", "word", "length"]) fun _ _ _ _ _ _ us hl => match us, hl with | [_, _, _], _ => rfl) (ok_has_form (fun_of F_has_form) B Z)
  have D_tally := fun base => df_mk (P := P) (w := w) (base := base) (st := s_tally) X G F_tally (c.fact 6 (f := (He.Fa.glo "tally").ok) rfl) (F_tally.bindsN (ps := ["width", "amounts"]) fun _ _ _ _ _ _ us hl => match us, hl with | [_, _], _ => rfl) (ok_tally (fun_of F_tally) B Z)
  have N_Task_init := F_Task_init.bindsN (ps := ["self", "width"]) fun _ _ _ _ _ _ us hl => match us, hl with | [_, _], _ => rfl
  have K_Task_init := fun base => ok_Task_init (P := P) (w := w) (base := base) (fun_of F_Task_init) B Z
  have N_Task_check_costs := F_Task_check_costs.bindsN (ps := ["self", "costs"]) fun _ _ _ _ _ _ us hl => match us, hl with | [_, _], _ => rfl
  have K_Task_check_costs := fun base => ok_Task_check_costs (P := P) (w := w) (base := base) (fun_of F_Task_check_costs) B Z
  have N_Task_scale := F_Task_scale.bindsN (ps := ["self", "plan"]) fun _ _ _ _ _ _ us hl => match us, hl with | [_, _], _ => rfl
  have K_Task_scale := fun base => ok_Task_scale (P := P) (w := w) (base := base) (fun_of F_Task_scale) B Z
  have N_Menu_is_plan := F_Menu_is_plan.bindsN (ps := ["self", "plan"]) fun _ _ _ _ _ _ us hl => match us, hl with | [_, _], _ => rfl
  have K_Menu_is_plan := fun base => ok_Menu_is_plan (P := P) (w := w) (base := base) (fun_of F_Menu_is_plan) B Z (D_is_whole base)
  have M_is_plan := fun base => (show MethT P w K mg base mt_is_plan "is_plan" 1 2 from ⟨by
    intro x v ht C hC
    rcases lkA ht with ⟨rfl, rfl⟩ | ht
    · have e := G_Menu.symm.trans hC
      cases e
      exact ⟨He.cls_ok (x := "Menu") (c.fact 82 rfl), _, _, _, methB_ok (c.fact 94 rfl), (K_Menu_is_plan base).mono (by decide), N_Menu_is_plan, rfl⟩
    · exact (lkN ht).elim⟩)
  have M_scale := fun base => (show MethT P w K mg base mt_scale "scale" 1 1 from ⟨by
    intro x v ht C hC
    rcases lkA ht with ⟨rfl, rfl⟩ | ht
    · have e := G_Menu.symm.trans hC
      cases e
      exact ⟨He.cls_ok (x := "Menu") (c.fact 82 rfl), _, _, _, methB_ok (c.fact 95 rfl), (K_Task_scale base).mono (by decide), N_Task_scale, rfl⟩
    · exact (lkN ht).elim⟩)
  have N_Menu_amounts := F_Menu_amounts.bindsN (ps := ["self", "plan"]) fun _ _ _ _ _ _ us hl => match us, hl with | [_, _], _ => rfl
  have K_Menu_amounts := fun base => ok_Menu_amounts (P := P) (w := w) (base := base) (fun_of F_Menu_amounts) B Z
  have M_amounts := fun base => (show MethT P w K mg base mt_amounts "amounts" 1 1 from ⟨by
    intro x v ht C hC
    rcases lkA ht with ⟨rfl, rfl⟩ | ht
    · have e := G_Menu.symm.trans hC
      cases e
      exact ⟨He.cls_ok (x := "Menu") (c.fact 82 rfl), _, _, _, methB_ok (c.fact 96 rfl), (K_Menu_amounts base).mono (by decide), N_Menu_amounts, rfl⟩
    · exact (lkN ht).elim⟩)
  have N_Task_usage := F_Task_usage.bindsN (ps := ["self", "plan"]) fun _ _ _ _ _ _ us hl => match us, hl with | [_, _], _ => rfl
  have K_Task_usage := fun base => ok_Task_usage (P := P) (w := w) (base := base) (fun_of F_Task_usage) B Z (M_is_plan base) (M_scale base) (M_amounts base) (D_tally base) (D_make_point base)
  have M_check_costs := fun base => (show MethT P w K mg base mt_check_costs "check_costs" 1 1 from ⟨by
    intro x v ht C hC
    rcases lkA ht with ⟨rfl, rfl⟩ | ht
    · have e := G_Menu.symm.trans hC
      cases e
      exact ⟨He.cls_ok (x := "Menu") (c.fact 82 rfl), _, _, _, methB_ok (c.fact 97 rfl), (K_Task_check_costs base).mono (by decide), N_Task_check_costs, rfl⟩
    · exact (lkN ht).elim⟩)
  have M_usage := fun base => (show MethT P w K mg base mt_usage "usage" 1 3 from ⟨by
    intro x v ht C hC
    rcases lkA ht with ⟨rfl, rfl⟩ | ht
    · have e := G_Menu.symm.trans hC
      cases e
      exact ⟨He.cls_ok (x := "Menu") (c.fact 82 rfl), _, _, _, methB_ok (c.fact 98 rfl), (K_Task_usage base).mono (by decide), N_Task_usage, rfl⟩
    · exact (lkN ht).elim⟩)
  have N_Task_cost_of := F_Task_cost_of.bindsN (ps := ["self", "costs", "plan"]) fun _ _ _ _ _ _ us hl => match us, hl with | [_, _, _], _ => rfl
  have K_Task_cost_of := fun base => ok_Task_cost_of (P := P) (w := w) (base := base) (fun_of F_Task_cost_of) B Z (M_check_costs base) (M_usage base) (D_dot base) (D_make_ratio base)
  have N_Task_row_between := F_Task_row_between.bindsN (ps := ["self", "plan", "rival"]) fun _ _ _ _ _ _ us hl => match us, hl with | [_, _, _], _ => rfl
  have K_Task_row_between := fun base => ok_Task_row_between (P := P) (w := w) (base := base) (fun_of F_Task_row_between) B Z (M_usage base)
  have N_Menu_plans := F_Menu_plans.bindsN (ps := ["self"]) fun _ _ _ _ _ _ us hl => match us, hl with | [_], _ => rfl
  have K_Menu_plans := fun base => ok_Menu_plans (P := P) (w := w) (base := base) (fun_of F_Menu_plans) B Z
  have M_plans := fun base => (show MethT P w K mg base mt_plans "plans" 0 1 from ⟨by
    intro x v ht C hC
    rcases lkA ht with ⟨rfl, rfl⟩ | ht
    · have e := G_Menu.symm.trans hC
      cases e
      exact ⟨He.cls_ok (x := "Menu") (c.fact 82 rfl), _, _, _, methB_ok (c.fact 99 rfl), (K_Menu_plans base).mono (by decide), N_Menu_plans, rfl⟩
    · exact (lkN ht).elim⟩)
  have M_row_between := fun base => (show MethT P w K mg base mt_row_between "row_between" 2 4 from ⟨by
    intro x v ht C hC
    rcases lkA ht with ⟨rfl, rfl⟩ | ht
    · have e := G_Menu.symm.trans hC
      cases e
      exact ⟨He.cls_ok (x := "Menu") (c.fact 82 rfl), _, _, _, methB_ok (c.fact 100 rfl), (K_Task_row_between base).mono (by decide), N_Task_row_between, rfl⟩
    · exact (lkN ht).elim⟩)
  have N_Task_rules := F_Task_rules.bindsN (ps := ["self", "plan"]) fun _ _ _ _ _ _ us hl => match us, hl with | [_, _], _ => rfl
  have K_Task_rules := fun base => ok_Task_rules (P := P) (w := w) (base := base) (fun_of F_Task_rules) B Z (M_is_plan base) (M_plans base) (M_row_between base)
  have N_Task_is_way := F_Task_is_way.bindsN (ps := ["self", "direction"]) fun _ _ _ _ _ _ us hl => match us, hl with | [_, _], _ => rfl
  have K_Task_is_way := fun base => ok_Task_is_way (P := P) (w := w) (base := base) (fun_of F_Task_is_way) B Z
  have N_Task_drift := F_Task_drift.bindsN (ps := ["self", "direction"]) fun _ _ _ _ _ _ us hl => match us, hl with | [_, _], _ => rfl
  have K_Task_drift := fun base => ok_Task_drift (P := P) (w := w) (base := base) (fun_of F_Task_drift) B Z
  have N_Menu_init := F_Menu_init.bindsN (ps := ["self", "width", "usages"]) fun _ _ _ _ _ _ _ us hl => match us, hl with | [_, _, _], _ => rfl
  have K_Menu_init := fun base => ok_Menu_init (P := P) (w := w) (base := base) F_Menu_init hP B Z (K_Task_init base) N_Task_init
  have N_Menu_solve := F_Menu_solve.bindsN (ps := ["self", "costs"]) fun _ _ _ _ _ _ us hl => match us, hl with | [_, _], _ => rfl
  have K_Menu_solve := fun base => ok_Menu_solve (P := P) (w := w) (base := base) (fun_of F_Menu_solve) B Z (M_check_costs base) (D_dot base)
  have N_Menu_judge := F_Menu_judge.bindsN (ps := ["self", "costs", "answer"]) fun _ _ _ _ _ _ us hl => match us, hl with | [_, _, _], _ => rfl
  have K_Menu_judge := fun base => ok_Menu_judge (P := P) (w := w) (base := base) (fun_of F_Menu_judge) B Z (M_check_costs base) (M_is_plan base) (D_has_form base) (D_dot base)
  have D_ulaw_mix := fun base => df_mk (P := P) (w := w) (base := base) (st := s_ulaw_mix) X G F_ulaw_mix (c.fact 7 (f := (He.Fa.glo "_law_mix").ok) rfl) (F_ulaw_mix.bindsN (ps := ["cell", "k"]) fun _ _ _ _ _ _ us hl => match us, hl with | [_, _], _ => rfl) (ok_ulaw_mix (fun_of F_ulaw_mix) B Z)
  have D_ulaw_row := fun base => df_mk (P := P) (w := w) (base := base) (st := s_ulaw_row) X G F_ulaw_row (c.fact 8 (f := (He.Fa.glo "_law_row").ok) rfl) (F_ulaw_row.bindsN (ps := ["script", "at", "many"]) fun _ _ _ _ _ _ us hl => match us, hl with | [_, _, _], _ => rfl) (ok_ulaw_row (fun_of F_ulaw_row) B Z (D_ulaw_mix base))
  have D_ulaw_is_whole := fun base => df_mk (P := P) (w := w) (base := base) (st := s_ulaw_is_whole) X G F_ulaw_is_whole (c.fact 9 (f := (He.Fa.glo "_law_is_whole").ok) rfl) (F_ulaw_is_whole.bindsN (ps := ["value"]) fun _ _ _ _ _ _ us hl => match us, hl with | [_], _ => rfl) (ok_ulaw_is_whole (fun_of F_ulaw_is_whole) B Z)
  have D_ulaw_is_tuple := fun base => df_mk (P := P) (w := w) (base := base) (st := s_ulaw_is_tuple) X G F_ulaw_is_tuple (c.fact 10 (f := (He.Fa.glo "_law_is_tuple").ok) rfl) (F_ulaw_is_tuple.bindsN (ps := ["value", "size"]) fun _ _ _ _ _ _ us hl => match us, hl with | [_, _], _ => rfl) (ok_ulaw_is_tuple (fun_of F_ulaw_is_tuple) B Z (D_ulaw_is_whole base))
  have D_ulaw_dot := fun base => df_mk (P := P) (w := w) (base := base) (st := s_ulaw_dot) X G F_ulaw_dot (c.fact 11 (f := (He.Fa.glo "_law_dot").ok) rfl) (F_ulaw_dot.bindsN (ps := ["left", "right"]) fun _ _ _ _ _ _ us hl => match us, hl with | [_, _], _ => rfl) (ok_ulaw_dot (fun_of F_ulaw_dot) B Z)
  have D_ulaw_amount := fun base => df_mk (P := P) (w := w) (base := base) (st := s_ulaw_amount) X G F_ulaw_amount (c.fact 12 (f := (He.Fa.glo "_law_amount").ok) rfl) (F_ulaw_amount.bindsN (ps := ["first", "second", "mode"]) fun _ _ _ _ _ _ us hl => match us, hl with | [_, _, _], _ => rfl) (ok_ulaw_amount (fun_of F_ulaw_amount) B Z)
  have D_ulaw_vectors := fun base => df_mk (P := P) (w := w) (base := base) (st := s_ulaw_vectors) X G F_ulaw_vectors (c.fact 13 (f := (He.Fa.glo "_law_vectors").ok) rfl) (F_ulaw_vectors.bindsN (ps := ["cells", "many", "width", "mode"]) fun _ _ _ _ _ _ us hl => match us, hl with | [_, _, _, _], _ => rfl) (ok_ulaw_vectors (fun_of F_ulaw_vectors) B Z (D_ulaw_amount base))
  have D_ulaw_is_bool := fun base => df_mk (P := P) (w := w) (base := base) (st := s_ulaw_is_bool) X G F_ulaw_is_bool (c.fact 14 (f := (He.Fa.glo "_law_is_bool").ok) rfl) (F_ulaw_is_bool.bindsN (ps := ["value", "due"]) fun _ _ _ _ _ _ us hl => match us, hl with | [_, _], _ => rfl) (ok_ulaw_is_bool (fun_of F_ulaw_is_bool) B Z)
  have M_cost_of := fun base => (show MethT P w K mg base mt_cost_of "cost_of" 2 4 from ⟨by
    intro x v ht C hC
    rcases lkA ht with ⟨rfl, rfl⟩ | ht
    · have e := G_Menu.symm.trans hC
      cases e
      exact ⟨He.cls_ok (x := "Menu") (c.fact 82 rfl), _, _, _, methB_ok (c.fact 101 rfl), (K_Task_cost_of base).mono (by decide), N_Task_cost_of, rfl⟩
    · exact (lkN ht).elim⟩)
  have M_solve := fun base => (show MethT P w K mg base mt_solve "solve" 1 2 from ⟨by
    intro x v ht C hC
    rcases lkA ht with ⟨rfl, rfl⟩ | ht
    · have e := G_Menu.symm.trans hC
      cases e
      exact ⟨He.cls_ok (x := "Menu") (c.fact 82 rfl), _, _, _, methB_ok (c.fact 102 rfl), (K_Menu_solve base).mono (by decide), N_Menu_solve, rfl⟩
    · exact (lkN ht).elim⟩)
  have M_judge := fun base => (show MethT P w K mg base mt_judge "judge" 2 3 from ⟨by
    intro x v ht C hC
    rcases lkA ht with ⟨rfl, rfl⟩ | ht
    · have e := G_Menu.symm.trans hC
      cases e
      exact ⟨He.cls_ok (x := "Menu") (c.fact 82 rfl), _, _, _, methB_ok (c.fact 103 rfl), (K_Menu_judge base).mono (by decide), N_Menu_judge, rfl⟩
    · exact (lkN ht).elim⟩)
  have M_rules := fun base => (show MethT P w K mg base mt_rules "rules" 1 5 from ⟨by
    intro x v ht C hC
    rcases lkA ht with ⟨rfl, rfl⟩ | ht
    · have e := G_Menu.symm.trans hC
      cases e
      exact ⟨He.cls_ok (x := "Menu") (c.fact 82 rfl), _, _, _, methB_ok (c.fact 104 rfl), (K_Task_rules base).mono (by decide), N_Task_rules, rfl⟩
    · exact (lkN ht).elim⟩)
  have M_drift := fun base => (show MethT P w K mg base mt_drift "drift" 1 1 from ⟨by
    intro x v ht C hC
    rcases lkA ht with ⟨rfl, rfl⟩ | ht
    · have e := G_Menu.symm.trans hC
      cases e
      exact ⟨He.cls_ok (x := "Menu") (c.fact 82 rfl), _, _, _, methB_ok (c.fact 105 rfl), (K_Task_drift base).mono (by decide), N_Task_drift, rfl⟩
    · exact (lkN ht).elim⟩)
  have C_Menu := fun base => (show MkT P w K mg base "Menu" 2 2 f_Menu_init (He.ga K "Menu") (He.fAd K ("Menu", some "__init__")) fd_Menu_init ["self", "width", "usages"] ci_Menu from ⟨G_Menu, mkB_ok (c.fact 107 rfl), K_Menu_init base, N_Menu_init, by decide +kernel⟩)
  have D_ulaw_error := fun base => df_mk (P := P) (w := w) (base := base) (st := s_ulaw_error) X G F_ulaw_error (c.fact 15 (f := (He.Fa.glo "_law_error").ok) rfl) (F_ulaw_error.bindsN (ps := ["way", "menu", "costs", "value"]) fun _ _ _ _ _ _ us hl => match us, hl with | [_, _, _, _], _ => rfl) (ok_ulaw_error (fun_of F_ulaw_error) B Z (M_cost_of base) (M_solve base) (M_judge base) (M_usage base) (M_rules base) (M_drift base) (C_Menu base))
  have D_ulaw_is_menu := fun base => df_mk (P := P) (w := w) (base := base) (st := s_ulaw_is_menu) X G F_ulaw_is_menu (c.fact 16 (f := (He.Fa.glo "_law_is_menu").ok) rfl) (F_ulaw_is_menu.bindsN (ps := ["menu", "width", "usages"]) fun _ _ _ _ _ _ us hl => match us, hl with | [_, _, _], _ => rfl) (ok_ulaw_is_menu (fun_of F_ulaw_is_menu) B Z (D_ulaw_is_whole base) (D_ulaw_is_tuple base) (M_plans base) (M_usage base) (M_is_plan base) (D_ulaw_is_bool base))
  have D_ulaw_priced := fun base => df_mk (P := P) (w := w) (base := base) (st := s_ulaw_priced) X G F_ulaw_priced (c.fact 17 (f := (He.Fa.glo "_law_priced").ok) rfl) (F_ulaw_priced.bindsN (ps := ["menu", "usages", "costs"]) fun _ _ _ _ _ _ us hl => match us, hl with | [_, _, _], _ => rfl) (ok_ulaw_priced (fun_of F_ulaw_priced) B Z (D_ulaw_dot base) (M_solve base) (D_ulaw_is_whole base) (M_cost_of base) (D_ulaw_is_tuple base) (M_judge base) (D_ulaw_is_bool base))
  have D_ulaw_ruled := fun base => df_mk (P := P) (w := w) (base := base) (st := s_ulaw_ruled) X G F_ulaw_ruled (c.fact 18 (f := (He.Fa.glo "_law_ruled").ok) rfl) (F_ulaw_ruled.bindsN (ps := ["menu", "usages", "plan", "many_costs"]) fun _ _ _ _ _ _ us hl => match us, hl with | [_, _, _, _], _ => rfl) (ok_ulaw_ruled (fun_of F_ulaw_ruled) B Z (M_rules base) (D_ulaw_is_tuple base) (D_ulaw_dot base))
  have M_is_way := fun base => (show MethT P w K mg base mt_is_way "is_way" 1 1 from ⟨by
    intro x v ht C hC
    rcases lkA ht with ⟨rfl, rfl⟩ | ht
    · have e := G_Menu.symm.trans hC
      cases e
      exact ⟨He.cls_ok (x := "Menu") (c.fact 82 rfl), _, _, _, methB_ok (c.fact 106 rfl), (K_Task_is_way base).mono (by decide), N_Task_is_way, rfl⟩
    · exact (lkN ht).elim⟩)
  have D_ulaw_refuses := fun base => df_mk (P := P) (w := w) (base := base) (st := s_ulaw_refuses) X G F_ulaw_refuses (c.fact 19 (f := (He.Fa.glo "_law_refuses").ok) rfl) (F_ulaw_refuses.bindsN (ps := ["menu", "usages", "costs"]) fun _ _ _ _ _ _ us hl => match us, hl with | [_, _, _], _ => rfl) (ok_ulaw_refuses (fun_of F_ulaw_refuses) B Z (M_is_plan base) (D_ulaw_is_bool base) (M_judge base) (D_ulaw_error base) (M_is_way base))
  have D_ulaw_barred := fun base => df_mk (P := P) (w := w) (base := base) (st := s_ulaw_barred) X G F_ulaw_barred (c.fact 20 (f := (He.Fa.glo "_law_barred").ok) rfl) (F_ulaw_barred.bindsN (ps := ["usages", "width", "turns"]) fun _ _ _ _ _ _ us hl => match us, hl with | [_, _, _], _ => rfl) (ok_ulaw_barred (fun_of F_ulaw_barred) B Z (D_ulaw_error base))
  exact ⟨fd_law, fun s v => FunD.bindsA (ps := ["script"]) F_law (fun _ _ _ _ _ _ us hl => match us, hl with | [_], _ => rfl) s [v] rfl, fun base _ _ => law_ok (ok_law (fun_of F_law) B Z (D_ulaw_row base) (D_ulaw_vectors base) (C_Menu base) (D_ulaw_is_menu base) (D_ulaw_priced base) (D_ulaw_ruled base) (D_ulaw_barred base) (D_ulaw_refuses base)) hlaw⟩
end W_k11

open PySem PySem.W PySem.Calls PyProof.Rows
set_option maxRecDepth 100000 in
set_option maxHeartbeats 0 in
theorem PySem.Challenge.cw_costsexplained_k11_menus_solved_and_judg_holds : PySem.Challenge.rw_costsexplained_k11_menus_solved_and_judg.Holds := by
  w_on; o_law
  refine HandSHeadRun.head_imp (r := OpenLaw.row PySem.Challenge.rw_costsexplained_k11_menus_solved_and_judg) (q := W_k11.qv) (H := W_k11.hk) (ob := W_k11.ob) (M := 100000) (loose := W_k11.loose) (d := HandSHeadRun.topDef (OpenLaw.row PySem.Challenge.rw_costsexplained_k11_menus_solved_and_judg).prog 46) (kwd := []) W_k11.ob_eq
    W_k11.run (by kernel_rfl) (by kernel_rfl) (by kernel_rfl) (by rfl) (by first | assumption | decide +kernel) (by decide +kernel) ⟨rfl, rfl, rfl, rfl, rfl, by decide +kernel⟩ ?hw ?hc
  case hw => w_witness2
  case hc =>
    refine L2.walk_ofE (l := PySem.Challenge.rw_costsexplained_k11_menus_solved_and_judg) (n := 63) (k := 8) (x := "script") (CX := L2.CX0) rfl (by decide) (by kernel_rfl) ⟨rfl, by decide, by decide⟩ ?F (fun _ _ _ _ z => z)
    intro w mg fa h Y G hmg0
    obtain ⟨K, KX, c⟩ := Y
    have hmg : mg ("law" : PySem.Str) = some (.ref fa) := by
      have e : (HandSHeadRun.topDef (OpenLaw.row PySem.Challenge.rw_costsexplained_k11_menus_solved_and_judg).prog 46).name = ("law" : PySem.Str) := by kernel_rfl
      rw [← e]
      exact hmg0
    obtain ⟨fd, hb, hF⟩ := W_k11.facts M_k11.law_true (P := (PySem.Challenge.rw_costsexplained_k11_menus_solved_and_judg).prog) (w := w) ⟨by kernel_rfl, by kernel_rfl⟩ KX G hmg c
    exact ⟨K, fd, PF.spLaw K, KX, hb, fun H a ns hl _ hS => ⟨a, ns, rfl, hS, hl, fun _ => rfl⟩, hF⟩
