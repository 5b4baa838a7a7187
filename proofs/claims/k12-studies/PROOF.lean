import PyProof.Rows.All
import Wide.All
import OpenK.AllK
import Wide.FinOn
import HandS.ForMost
import HandS.ForExc
import HandS.Wide
import HandS.WideBits
import HandS.Gcd
import HandS.IsInst
import HandS.ExcIs
import HandS.FStr
import HandS.TupAny
import HandS.TupMul
import HandS.Deep
import HandS.SortInts
import HandS.Zip
import KE.GoesMore
import KE.GoesEnum
import HandS.Style
import HandS.RaiseMore
import HandS.ReplaceLit
import HandS.Text
import PyProof.StrOps2
import Lean
import HandS.Defaults
import HandS.Head0
import HandS.Head1
import HandS.Head2
import HandS.Head3
import HandS.HeadEnd
import HandS.HeadHook1
import HandS.HeadHook2
import HandS.ClsMeth
import HandS.Nested
import HandS.Star
import KE.KSuper
import KE.KDictZip
import HandS.Conv
import HandS.ExcInit
import HandS.ExcSuper
import HandS.ExcField
import HandS.Codes
import PySem.Challenge.RW_costsexplained_k12_studies_refuse_in_ord
set_option Elab.async false
set_option linter.all false
set_option maxRecDepth 100000
set_option maxHeartbeats 4000000
/-! # PF: a def's body read as a function on data. Data (D) are values without a heap; a heap is split in a shared part (never changed) and lists that one slot alone holds. -/
namespace PF
open PySem PySem.Spec L2

inductive D where
  | non | bl (b : Bool) | int (i : Int) | str (x : Str) | lst (xs : List D) | rol (xs : List D) | tup (xs : List D) | obj (c : Str) (ns : List Str) (vs : List D)
  | fr (xs : List D) | raw (a : Addr)

mutual
/-- the value v stands for the data d, in the heap H -/
inductive Rp (K : PySem.W.Frag) (mg : Str → Option Value) (H : Hp) : V → D → Prop
  | non : Rp K mg H .non .non
  | bl (b : Bool) : Rp K mg H (.bl b) (.bl b)
  | int (i : Int) : Rp K mg H (.int i) (.int i)
  | str (x : Str) : Rp K mg H (.str x) (.str x)
  | lst {a : Addr} {xs : List V} {ds : List D} : H a = some (.lst xs) → RpA K mg H xs ds → Rp K mg H (.ref a) (.lst ds)
  | rol {a : Addr} {xs : List V} {ds : List D} : SqL K H a xs → RpA K mg H xs ds → Rp K mg H (.ref a) (.rol ds)
  | tup {a : Addr} {xs : List V} {ds : List D} : SqT K H a xs → RpA K mg H xs ds → Rp K mg H (.ref a) (.tup ds)
  | obj {a C dx : Addr} {fs : List (Str × V)} {c : Str} {ns : List Str} {xs : List V} {ds : List D} : H a = some (.ins C dx fs) → mg c = some (.ref C) → fs = ns.zip xs → ns.length = xs.length → RpA K mg H xs ds → Rp K mg H (.ref a) (.obj c ns ds)
  | raw (a : Addr) : Rp K mg H (.ref a) (.raw a)
inductive RpA (K : PySem.W.Frag) (mg : Str → Option Value) (H : Hp) : List V → List D → Prop
  | nil : RpA K mg H [] []
  | cons {v : V} {vs : List V} {d : D} {ds : List D} : Rp K mg H v d → RpA K mg H vs ds → RpA K mg H (v :: vs) (d :: ds)
end

section
variable {K : PySem.W.Frag} {mg : Str → Option Value} {H H' : Hp}
theorem same_rd {a : Addr} {u : HO} (e : Same H H') (h : Rd H a u) : Rd H' a u := by
  rcases h with h | ⟨o, h⟩
  · exact .inl (e _ _ h)
  · exact .inr ⟨o, e _ _ h⟩
theorem same_l {a : Addr} {xs : List V} (e : Same H H') (h : SqL K H a xs) : SqL K H' a xs := by
  rcases h with h | h
  · exact .inl (same_rd e h)
  · exact .inr h
theorem same_t {a : Addr} {xs : List V} (e : Same H H') (h : SqT K H a xs) : SqT K H' a xs := by
  rcases h with h | h
  · exact .inl (same_rd e h)
  · exact .inr h
mutual
theorem Rp.up (e : Same H H') : ∀ (d : D) (v : V), Rp K mg H v d → Rp K mg H' v d
  | .non, _, h => by cases h; exact .non
  | .bl b, _, h => by cases h; exact .bl b
  | .int i, _, h => by cases h; exact .int i
  | .str x, _, h => by cases h; exact .str x
  | .lst ds, _, h => by
    cases h with
    | lst a b => exact .lst (e _ _ a) (RpA.up e ds _ b)
  | .rol ds, _, h => by
    cases h with
    | rol a b => exact .rol (same_l e a) (RpA.up e ds _ b)
  | .tup ds, _, h => by
    cases h with
    | tup a b => exact .tup (same_t e a) (RpA.up e ds _ b)
  | .obj c ns ds, _, h => by
    cases h with
    | obj a b c d f => exact .obj (e _ _ a) b c d (RpA.up e ds _ f)
  | .fr ds, _, h => by cases h
  | .raw a, _, h => by cases h; exact .raw a
theorem RpA.up (e : Same H H') : ∀ (ds : List D) (vs : List V), RpA K mg H vs ds → RpA K mg H' vs ds
  | [], _, h => by cases h; exact .nil
  | d :: ds, _, h => by
    cases h with
    | cons a b => exact .cons (Rp.up e d _ a) (RpA.up e ds _ b)
end
theorem RpA.len : ∀ {vs : List V} {ds : List D}, RpA K mg H vs ds → vs.length = ds.length
  | _, _, .nil => rfl
  | _, _, .cons _ t => by simp [RpA.len t]
theorem RpA.app : ∀ {vs ws : List V} {ds es : List D}, RpA K mg H vs ds → RpA K mg H ws es → RpA K mg H (vs ++ ws) (ds ++ es)
  | _, _, _, _, .nil, s => s
  | _, _, _, _, .cons r t, s => .cons r (t.app s)
theorem RpA.get : ∀ {vs : List V} {ds : List D} {i : Nat} {d : D}, RpA K mg H vs ds → ds[i]? = some d → ∃ v, vs[i]? = some v ∧ Rp K mg H v d
  | _, _, _, _, .nil, e => by simp at e
  | _, _, 0, _, .cons r _, e => by simp at e; subst e; exact ⟨_, rfl, r⟩
  | _, _, i + 1, d, .cons _ t, e => by
    obtain ⟨v, h1, h2⟩ := RpA.get (i := i) t (by simpa using e)
    exact ⟨v, by simpa using h1, h2⟩
theorem RpA.getV : ∀ {vs : List V} {ds : List D} {i : Nat} {v : V}, RpA K mg H vs ds → vs[i]? = some v → ∃ d, ds[i]? = some d ∧ Rp K mg H v d
  | _, _, _, _, .nil, e => by simp at e
  | _, _, 0, _, .cons r _, e => by simp at e; subst e; exact ⟨_, rfl, r⟩
  | _, _, i + 1, v, .cons _ t, e => by
    obtain ⟨d, h1, h2⟩ := RpA.getV (i := i) t (by simpa using e)
    exact ⟨d, by simpa using h1, h2⟩
theorem RpA.take : ∀ {vs : List V} {ds : List D} (n : Nat), RpA K mg H vs ds → RpA K mg H (vs.take n) (ds.take n)
  | _, _, 0, _ => .nil
  | _, _, n + 1, .nil => .nil
  | _, _, n + 1, .cons r t => .cons r (t.take n)
theorem RpA.drop : ∀ {vs : List V} {ds : List D} (n : Nat), RpA K mg H vs ds → RpA K mg H (vs.drop n) (ds.drop n)
  | _, _, 0, r => r
  | _, _, n + 1, .nil => .nil
  | _, _, n + 1, .cons r t => t.drop n
theorem RpA.set {v : V} {d : D} (r : Rp K mg H v d) : ∀ {vs : List V} {ds : List D} (i : Nat), RpA K mg H vs ds → RpA K mg H (vs.set i v) (ds.set i d)
  | _, _, _, .nil => .nil
  | _, _, 0, .cons _ t => .cons r t
  | _, _, i + 1, .cons q t => .cons q (t.set r i)
theorem RpA.erase : ∀ {vs : List V} {ds : List D} (i : Nat), RpA K mg H vs ds → RpA K mg H (vs.eraseIdx i) (ds.eraseIdx i)
  | _, _, _, .nil => .nil
  | _, _, 0, .cons _ t => t
  | _, _, i + 1, .cons q t => .cons q (t.erase i)
theorem RpA.rev : ∀ {vs : List V} {ds : List D}, RpA K mg H vs ds → RpA K mg H vs.reverse ds.reverse
  | _, _, .nil => .nil
  | _, _, .cons q t => by
    rw [List.reverse_cons, List.reverse_cons]
    exact t.rev.app (.cons q .nil)
theorem RpA.ints : ∀ {vs : List V} {ns : List Int}, RpA K mg H vs (ns.map D.int) → vs = ns.map V.int
  | _, [], h => by cases h; rfl
  | _, n :: ns, h => by
    cases h with
    | cons a b => cases a; rw [RpA.ints b]; rfl
theorem RpA.bls : ∀ {vs : List V} {ns : List Bool}, RpA K mg H vs (ns.map D.bl) → vs = ns.map V.bl
  | _, [], h => by cases h; rfl
  | _, n :: ns, h => by
    cases h with
    | cons a b => cases a; rw [RpA.bls b]; rfl
theorem RpA.strs : ∀ {vs : List V} {ns : List Str}, RpA K mg H vs (ns.map D.str) → vs = ns.map V.str
  | _, [], h => by cases h; rfl
  | _, n :: ns, h => by
    cases h with
    | cons a b => cases a; rw [RpA.strs b]; rfl
theorem RpA.of_ints : ∀ (ns : List Int), RpA K mg H (ns.map V.int) (ns.map D.int)
  | [] => .nil
  | n :: ns => .cons (.int n) (RpA.of_ints ns)
theorem RpA.of_strs : ∀ (ns : List Str), RpA K mg H (ns.map V.str) (ns.map D.str)
  | [] => .nil
  | n :: ns => .cons (.str n) (RpA.of_strs ns)
end

/-! ### data as the library's data, for == -/
mutual
def D.py : D → PyData
  | .non => .none
  | .bl b => .bool b
  | .int i => .int i
  | .str x => .str x
  | .lst ds => .list (D.pyA ds)
  | .rol ds => .list (D.pyA ds)
  | .tup ds => .tuple (D.pyA ds)
  | .obj _ _ _ => .dict []
  | .fr _ => .dict []
  | .raw _ => .dict []
def D.pyA : List D → List PyData
  | [] => []
  | d :: ds => d.py :: D.pyA ds
end
mutual
theorem Rp.dp {K : PySem.W.Frag} {mg : Str → Option Value} {H : Hp} : ∀ (d : D) (v : V), d.py.canLay0 = true → Rp K mg H v d → Dp K H v d.py
  | .non, _, _, h => by cases h; exact .non
  | .bl b, _, _, h => by cases h; exact .bl b
  | .int i, _, _, h => by cases h; exact .int i
  | .str x, _, _, h => by cases h; exact .str x
  | .lst ds, _, c, h => by
    cases h with
    | lst a b => exact .lst (SqL.of a) (RpA.dp ds _ (by simpa [D.py, PyData.canLay0] using c) b)
  | .rol ds, _, c, h => by
    cases h with
    | rol a b => exact .lst a (RpA.dp ds _ (by simpa [D.py, PyData.canLay0] using c) b)
  | .tup ds, _, c, h => by
    cases h with
    | tup a b => exact .tup a (RpA.dp ds _ (by simpa [D.py, PyData.canLay0] using c) b)
  | .obj c ns ds, _, c', h => by simp [D.py, PyData.canLay0] at c'
  | .fr ds, _, c', h => by cases h
  | .raw a, _, c', h => by simp [D.py, PyData.canLay0] at c'
theorem RpA.dp {K : PySem.W.Frag} {mg : Str → Option Value} {H : Hp} : ∀ (ds : List D) (vs : List V), PyData.canLayAll0 (D.pyA ds) = true → RpA K mg H vs ds → DpAll K H vs (D.pyA ds)
  | [], _, _, h => by cases h; exact .nil
  | d :: ds, _, c, h => by
    have c' : d.py.canLay0 = true ∧ PyData.canLayAll0 (D.pyA ds) = true := by simpa [D.pyA, PyData.canLayAll0] using c
    cases h with
    | cons a b => exact .cons (Rp.dp d _ c'.1 a) (RpA.dp ds _ c'.2 b)
end

/-! ### results -/
/-- a condition as a Bool that nothing unfolds -/
noncomputable def cb (p : Prop) : Bool := @decide p (Classical.propDecidable p)
theorem cb_t {p : Prop} (h : p) : cb p = true := @decide_eq_true p (Classical.propDecidable p) h
theorem cb_f {p : Prop} (h : ¬ p) : cb p = false := @decide_eq_false p (Classical.propDecidable p) h
theorem of_cb {p : Prop} (h : cb p = true) : p := @of_decide_eq_true p (Classical.propDecidable p) h
@[simp] theorem cb_iff {p : Prop} : (cb p = true) = p := propext ⟨of_cb, cb_t⟩
@[simp] theorem cb_nif {p : Prop} : (cb p = false) = ¬ p := propext ⟨fun h q => (by rw [cb_t q] at h; cases h), cb_f⟩
theorem cb_dec {p : Prop} [Decidable p] : cb p = decide p := by
  by_cases h : p
  · rw [cb_t h, decide_eq_true h]
  · rw [cb_f h, decide_eq_false h]
/-- a value; an exception of the class named x with its fields; or: nothing is said -/
inductive Res (α : Type) where
  | ok (a : α) | exc (x : Str) (fs : List (Str × D)) | bad
def Res.bind {α β : Type} (r : Res α) (k : α → Res β) : Res β := match r with
  | .ok a => k a
  | .exc x fs => .exc x fs
  | .bad => .bad
instance : Monad Res where
  pure := .ok
  bind := Res.bind
@[simp] theorem Res.bind_ok {α β : Type} (a : α) (k : α → Res β) : (Res.ok a).bind k = k a := rfl
@[simp] theorem Res.bind_exc {α β : Type} (x : Str) (fs : List (Str × D)) (k : α → Res β) : (Res.exc x fs).bind k = .exc x fs := rfl
@[simp] theorem Res.bind_bad {α β : Type} (k : α → Res β) : (Res.bad : Res α).bind k = .bad := rfl

/-- a slot: nothing is known; a shared value; a list that this slot alone holds -/
inductive Cell where
  | e | v (d : D) | o (ds : List D) | xc (c : Str) (fs : List (Str × D))
abbrev Sl := List Cell
abbrev Frg := PySem.W.Frag
abbrev Mg := Str → Option Value
/-- what an exception carries -/
def Xd (K : Frg) (mg : Mg) (S H : Hp) (dx : Option Addr) (fs : List (Str × D)) : Prop := match dx with
  | none => fs = []
  | some a => ∃ (ns : List Str) (xs : List V) (ds : List D), fs = ns.zip ds ∧ (ns ≠ [] ∧ ns.length = xs.length) ∧ H a = some (.xd (ns.zip xs)) ∧ RpA K mg S xs ds
theorem Xd.keep {K : Frg} {mg : Mg} {S H S' H' : Hp} {dx : Option Addr} {fs : List (Str × D)} (s : Same S S') (k : ∀ a gs, H a = some (.xd gs) → H' a = some (.xd gs)) (h : Xd K mg S H dx fs) : Xd K mg S' H' dx fs := by
  cases dx with
  | none => exact h
  | some a =>
    obtain ⟨ns, xs, ds, h1, h2, h3, h4⟩ := h
    exact ⟨ns, xs, ds, h1, h2, k _ _ h3, h4.up s ds xs⟩
/-- the exception that an except suite holds: its address, its class, its dict -/
abbrev Hx := Option (Addr × Addr × Option Addr)

/-! ### heaps that grow -/
structure Gr (S H S' H' : Hp) : Prop where
  s : Same S S'
  h : Same H H'
  i : Same S' H'
  n : ∀ a, H a ≠ none → S a = none → S' a = none
theorem Gr.refl {S H : Hp} (i : Same S H) : Gr S H S H := ⟨Same.refl _, Same.refl _, i, fun _ _ e => e⟩
theorem Gr.trans {S H S1 H1 S2 H2 : Hp} (a : Gr S H S1 H1) (b : Gr S1 H1 S2 H2) : Gr S H S2 H2 :=
  ⟨a.s.trans b.s, a.h.trans b.h, b.i, fun x h e => b.n x (fun q => by
    cases r : H x with
    | none => exact h r
    | some o => rw [a.h x o r] at q; cases q) (a.n x h e)⟩
theorem same_new {H : Hp} {p : Addr} {o : HO} (h : H p = none) : Same H (upd H p o) := fun b u e => by
  rw [upd_ne (ne_of_none e h)]; exact e
theorem same_none {S H : Hp} {p : Addr} (i : Same S H) (h : H p = none) : S p = none := by
  cases e : S p with
  | none => rfl
  | some o => rw [i p o e] at h; cases h
/-- a new shared object -/
theorem Gr.new {S H : Hp} {p : Addr} {o : HO} (i : Same S H) (h : H p = none) : Gr S H (upd S p o) (upd H p o) :=
  ⟨same_new (same_none i h), same_new h, fun b u e => by
    by_cases q : b = p
    · subst q; rw [upd_same] at e ⊢; exact e
    · rw [upd_ne q] at e ⊢; exact i b u e, fun a ha e => by
    have q : a ≠ p := fun z => ha (z ▸ h)
    rw [upd_ne q]; exact e⟩
/-- a new object that is not shared -/
theorem Gr.lay {S H : Hp} {p : Addr} {o : HO} (i : Same S H) (h : H p = none) : Gr S H S (upd H p o) :=
  ⟨Same.refl _, same_new h, i.trans (same_new h), fun _ _ e => e⟩
/-- the heap alone grows -/
theorem Gr.heap {S H H' : Hp} (i : Same S H) (h : Same H H') : Gr S H S H' := ⟨Same.refl _, h, i.trans h, fun _ _ e => e⟩

/-- the base of a def's call: the heap and its shared part at the entry -/
structure Bs where
  H0 : Hp
  S0 : Hp
structure Rel (K : PySem.W.Frag) (mg : Str → Option Value) (hx : Hx) (b : Bs) (S : Hp) (ρ : Sl) (σ : St) (H : Hp) : Prop where
  s0 : Same b.S0 S
  sh : Same S H
  h0 : Same b.H0 H
  nw : ∀ a, b.H0 a ≠ none → b.S0 a = none → S a = none
  len : ρ.length = σ.length
  val : ∀ (i : Nat) (d : D), ρ[i]? = some (.v d) → ∃ v, σ[i]? = some (some v) ∧ Rp K mg S v d
  own : ∀ (i : Nat) (ds : List D), ρ[i]? = some (.o ds) → ∃ p vs, σ[i]? = some (some (.ref p)) ∧ H p = some (.lst vs) ∧ S p = none ∧ b.H0 p = none ∧ RpA K mg S vs ds
  xc : ∀ (i : Nat) (c : Str) (fs : List (Str × D)), ρ[i]? = some (.xc c fs) → ∃ a C dx, hx = some (a, C, dx) ∧ σ[i]? = some (some (.ref a)) ∧ mg c = some (.ref C) ∧ Xd K mg S H dx fs
  apart : ∀ (i j : Nat) (ds es : List D) (p : Addr), i ≠ j → ρ[i]? = some (.o ds) → ρ[j]? = some (.o es) → σ[i]? = some (some (.ref p)) → σ[j]? = some (some (.ref p)) → False
section
variable {K : PySem.W.Frag} {mg : Str → Option Value} {hx : Hx} {b : Bs} {S H S' H' : Hp} {ρ : Sl} {σ : St}
theorem Rel.grow (R : Rel K mg hx b S ρ σ H) (g : Gr S H S' H') : Rel K mg hx b S' ρ σ H' where
  s0 := R.s0.trans g.s
  sh := g.i
  h0 := R.h0.trans g.h
  nw := fun a h e => g.n a (fun q => by
    cases r : b.H0 a with
    | none => exact h r
    | some o => rw [R.h0 a o r] at q; cases q) (R.nw a h e)
  len := R.len
  val := fun i d e => let ⟨v, h1, h2⟩ := R.val i d e; ⟨v, h1, h2.up g.s d v⟩
  own := fun i ds e => let ⟨p, vs, h1, h2, h3, h4, h5⟩ := R.own i ds e
    ⟨p, vs, h1, g.h _ _ h2, g.n p (by rw [h2]; simp) h3, h4, h5.up g.s ds vs⟩
  xc := fun i c fs e => let ⟨a, C, dx, h1, h2, h3, h4⟩ := R.xc i c fs e; ⟨a, C, dx, h1, h2, h3, h4.keep g.s fun _ _ q => g.h _ _ q⟩
  apart := R.apart
theorem getset {α : Type} {l : List α} {i j : Nat} {x y : α} (h : (l.set i x)[j]? = some y) : (i = j ∧ x = y ∧ j < l.length) ∨ (i ≠ j ∧ l[j]? = some y) := by
  by_cases e : i = j
  · subst e
    rw [List.getElem?_set] at h
    simp only [if_true] at h
    split at h
    · rename_i q; exact .inl ⟨rfl, Option.some.inj h, q⟩
    · cases h
  · rw [List.getElem?_set_ne e] at h
    exact .inr ⟨e, h⟩
/-- a slot gets a shared value -/
theorem Rel.put (R : Rel K mg hx b S ρ σ H) {i : Nat} {v : V} {d : D} (r : Rp K mg S v d) : Rel K mg hx b S (ρ.set i (.v d)) (σ.set i (some v)) H where
  s0 := R.s0
  sh := R.sh
  h0 := R.h0
  nw := R.nw
  len := by simp [R.len]
  val := fun j d' e => by
    rcases getset e with ⟨rfl, h2, h3⟩ | ⟨h1, h2⟩
    · cases h2
      exact ⟨v, by rw [List.getElem?_set_self (by rw [← R.len]; exact h3)], r⟩
    · obtain ⟨v', h3, h4⟩ := R.val j d' h2
      exact ⟨v', by rw [List.getElem?_set_ne h1]; exact h3, h4⟩
  own := fun j ds e => by
    rcases getset e with ⟨rfl, h2, h3⟩ | ⟨h1, h2⟩
    · cases h2
    · obtain ⟨p, vs, h3, h4⟩ := R.own j ds h2
      exact ⟨p, vs, by rw [List.getElem?_set_ne h1]; exact h3, h4⟩
  xc := fun j c fs e => by
    rcases getset e with ⟨_, h2, _⟩ | ⟨h1, h2⟩
    · cases h2
    · obtain ⟨a, C, dx, q1, q2, q3⟩ := R.xc j c fs h2
      exact ⟨a, C, dx, q1, by rw [List.getElem?_set_ne h1]; exact q2, q3⟩
  apart := fun j k ds es p ne e1 e2 e3 e4 => by
    rcases getset e1 with ⟨_, h2, _⟩ | ⟨h1, h2⟩
    · cases h2
    · rcases getset e2 with ⟨_, h4, _⟩ | ⟨h3, h4⟩
      · cases h4
      · rw [List.getElem?_set_ne h1] at e3
        rw [List.getElem?_set_ne h3] at e4
        exact R.apart j k ds es p ne h2 h4 e3 e4
/-- a slot gets a new list of its own -/
theorem Rel.putO (R : Rel K mg hx b S ρ σ H) {i : Nat} {p : Addr} {vs : List V} {ds : List D} (h : H p = some (.lst vs)) (hs : S p = none) (h0 : b.H0 p = none) (hn : ∀ (j : Nat) (es : List D), ρ[j]? = some (.o es) → σ[j]? ≠ some (some (.ref p))) (r : RpA K mg S vs ds) : Rel K mg hx b S (ρ.set i (.o ds)) (σ.set i (some (.ref p))) H where
  s0 := R.s0
  sh := R.sh
  h0 := R.h0
  nw := R.nw
  len := by simp [R.len]
  val := fun j d' e => by
    rcases getset e with ⟨rfl, h2, h3⟩ | ⟨h1, h2⟩
    · cases h2
    · obtain ⟨v', h3, h4⟩ := R.val j d' h2
      exact ⟨v', by rw [List.getElem?_set_ne h1]; exact h3, h4⟩
  own := fun j es e => by
    rcases getset e with ⟨rfl, h2, h3⟩ | ⟨h1, h2⟩
    · cases h2
      exact ⟨p, vs, by rw [List.getElem?_set_self (by rw [← R.len]; exact h3)], h, hs, h0, r⟩
    · obtain ⟨p, vs, h3, h4⟩ := R.own j es h2
      exact ⟨p, vs, by rw [List.getElem?_set_ne h1]; exact h3, h4⟩
  xc := fun j c fs e => by
    rcases getset e with ⟨_, h2, _⟩ | ⟨h1, h2⟩
    · cases h2
    · obtain ⟨a, C, dx, q1, q2, q3⟩ := R.xc j c fs h2
      exact ⟨a, C, dx, q1, by rw [List.getElem?_set_ne h1]; exact q2, q3⟩
  apart := fun j k ds es q ne e1 e2 e3 e4 => by
    rcases getset e1 with ⟨j1, _, h3⟩ | ⟨h1, h2⟩
    · rcases getset e2 with ⟨k1, _, _⟩ | ⟨h4, h5⟩
      · exact ne (j1.symm.trans k1)
      · subst j1
        rw [List.getElem?_set_self (by rw [← R.len]; exact h3)] at e3
        rw [List.getElem?_set_ne h4] at e4
        cases e3
        exact hn k es h5 e4
    · rw [List.getElem?_set_ne h1] at e3
      rcases getset e2 with ⟨k1, _, h3⟩ | ⟨h4, h5⟩
      · subst k1
        rw [List.getElem?_set_self (by rw [← R.len]; exact h3)] at e4
        cases e4
        exact hn j ds h2 e3
      · rw [List.getElem?_set_ne h4] at e4
        exact R.apart j k ds es q ne h2 h5 e3 e4
/-- nothing is known of a slot any more -/
theorem Rel.wipe1 (R : Rel K mg hx b S ρ σ H) {i : Nat} {x : Option V} : Rel K mg hx b S (ρ.set i .e) (σ.set i x) H where
  s0 := R.s0
  sh := R.sh
  h0 := R.h0
  nw := R.nw
  len := by simp [R.len]
  val := fun j d' e => by
    rcases getset e with ⟨_, h2, _⟩ | ⟨h1, h2⟩
    · cases h2
    · obtain ⟨v', h3, h4⟩ := R.val j d' h2
      exact ⟨v', by rw [List.getElem?_set_ne h1]; exact h3, h4⟩
  own := fun j ds e => by
    rcases getset e with ⟨_, h2, _⟩ | ⟨h1, h2⟩
    · cases h2
    · obtain ⟨p, vs, h3, h4⟩ := R.own j ds h2
      exact ⟨p, vs, by rw [List.getElem?_set_ne h1]; exact h3, h4⟩
  xc := fun j c fs e => by
    rcases getset e with ⟨_, h2, _⟩ | ⟨h1, h2⟩
    · cases h2
    · obtain ⟨a, C, dx, q1, q2, q3⟩ := R.xc j c fs h2
      exact ⟨a, C, dx, q1, by rw [List.getElem?_set_ne h1]; exact q2, q3⟩
  apart := fun j k ds es p ne e1 e2 e3 e4 => by
    rcases getset e1 with ⟨_, h2, _⟩ | ⟨h1, h2⟩
    · cases h2
    · rcases getset e2 with ⟨_, h4, _⟩ | ⟨h3, h4⟩
      · cases h4
      · rw [List.getElem?_set_ne h1] at e3
        rw [List.getElem?_set_ne h3] at e4
        exact R.apart j k ds es p ne h2 h4 e3 e4
/-- the list of slot i is changed in its place -/
theorem Rel.mut (R : Rel K mg hx b S ρ σ H) {i : Nat} {p : Addr} {vs : List V} {ds ds' : List D} (e : ρ[i]? = some (.o ds)) (es : σ[i]? = some (some (.ref p))) (r : RpA K mg S vs ds') : Rel K mg hx b S (ρ.set i (.o ds')) σ (upd H p (.lst vs)) := by
  obtain ⟨p', vs', q1, q2, q3, q4, q5⟩ := R.own i ds e
  rw [es] at q1
  cases q1
  have il : i < ρ.length := (List.getElem?_eq_some_iff.mp e).1
  refine ⟨R.s0, fun a o h => ?_, fun a o h => ?_, R.nw, by simp [R.len], fun j d' e' => ?_, fun j es' e' => ?_, fun j c fs e' => ?_, fun j k ds1 es1 q ne e1 e2 e3 e4 => ?_⟩
  · rw [upd_ne (fun z => by rw [z, q3] at h; cases h)]; exact R.sh a o h
  · rw [upd_ne (fun z => by rw [z, q4] at h; cases h)]; exact R.h0 a o h
  · rcases getset e' with ⟨_, h2, _⟩ | ⟨h1, h2⟩
    · cases h2
    · exact R.val j d' h2
  · rcases getset e' with ⟨rfl, h2, _⟩ | ⟨h1, h2⟩
    · cases h2
      exact ⟨p, vs, es, upd_same, q3, q4, r⟩
    · obtain ⟨p2, vs2, h3, h4, h5⟩ := R.own j es' h2
      refine ⟨p2, vs2, h3, ?_, h5⟩
      rw [upd_ne (fun z => by subst z; exact R.apart i j ds es' p2 h1 e h2 es h3)]
      exact h4
  · rcases getset e' with ⟨_, h2, _⟩ | ⟨h1, h2⟩
    · cases h2
    · obtain ⟨a, C, dx, z1, z2, z3, z4⟩ := R.xc j c fs h2
      exact ⟨a, C, dx, z1, z2, z3, z4.keep (Same.refl _) fun d gs z => by rw [upd_ne (fun w => by rw [w, q2] at z; cases z)]; exact z⟩
  · have old : ∀ (m : Nat) (ms : List D), (ρ.set i (.o ds'))[m]? = some (.o ms) → ∃ ms' : List D, ρ[m]? = some (.o ms') := fun m ms z => by
      rcases getset z with ⟨rfl, _, _⟩ | ⟨_, h2⟩
      · exact ⟨ds, e⟩
      · exact ⟨ms, h2⟩
    obtain ⟨a1, b1⟩ := old j ds1 e1
    obtain ⟨a2, b2⟩ := old k es1 e2
    exact R.apart j k a1 a2 q ne b1 b2 e3 e4
/-- the list of slot i is shared from now on -/
theorem Rel.freeze (R : Rel K mg hx b S ρ σ H) {i : Nat} {ds : List D} (e : ρ[i]? = some (.o ds)) : ∃ S', Same S S' ∧ Rel K mg hx b S' (ρ.set i (.v (.lst ds))) σ H := by
  obtain ⟨p, vs, q1, q2, q3, q4, q5⟩ := R.own i ds e
  have up : Same S (upd S p (.lst vs)) := same_new q3
  refine ⟨upd S p (.lst vs), up, R.s0.trans up, fun a o h => ?_, R.h0, fun a h e' => ?_, by simp [R.len], fun j d' e' => ?_, fun j es' e' => ?_, fun j c fs e' => ?_, fun j k ds1 es1 q ne e1 e2 e3 e4 => ?_⟩
  · by_cases z : a = p
    · subst z; rw [upd_same] at h; cases h; exact q2
    · rw [upd_ne z] at h; exact R.sh a o h
  · rw [upd_ne (fun z => by rw [z] at h; exact h q4)]
    exact R.nw a h e'
  · rcases getset e' with ⟨rfl, h2, _⟩ | ⟨h1, h2⟩
    · cases h2
      exact ⟨_, q1, .lst upd_same (q5.up up ds vs)⟩
    · obtain ⟨v', h3, h4⟩ := R.val j d' h2
      exact ⟨v', h3, h4.up up _ _⟩
  · rcases getset e' with ⟨_, h2, _⟩ | ⟨h1, h2⟩
    · cases h2
    · obtain ⟨p2, vs2, h3, h4, h5, h6, h7⟩ := R.own j es' h2
      refine ⟨p2, vs2, h3, h4, ?_, h6, h7.up up _ _⟩
      rw [upd_ne (fun z => by subst z; exact R.apart i j ds es' p2 h1 e h2 q1 h3)]
      exact h5
  · rcases getset e' with ⟨_, h2, _⟩ | ⟨h1, h2⟩
    · cases h2
    · obtain ⟨a, C, dx, z1, z2, z3, z4⟩ := R.xc j c fs h2
      exact ⟨a, C, dx, z1, z2, z3, z4.keep up fun _ _ z => z⟩
  · rcases getset e1 with ⟨_, h2, _⟩ | ⟨h1, h2⟩
    · cases h2
    · rcases getset e2 with ⟨_, h4, _⟩ | ⟨h3, h4⟩
      · cases h4
      · exact R.apart j k ds1 es1 q ne h2 h4 e3 e4
end
end PF

set_option Elab.async false
set_option linter.all false
set_option maxRecDepth 100000
set_option maxHeartbeats 4000000
namespace PF
open PySem PySem.Spec L2

abbrev RR (α β : Type) := Hp → Hp → Hp → α → β → Prop
def Po {α β : Type} (K : Frg) (mg : Mg) (R : RR α β) (W : WX) (S : Hp) (σ : L2.St) (H : Hp) (r : Res β) (Q : α → Hp → Prop) : Prop := match r with
  | .ok d => ∀ v S' H', Gr S H S' H' → R H S' H' v d → Q v H'
  | .exc x fs => ∀ S' H' C dx, Gr S H S' H' → mg x = some (.ref C) → Xd K mg S' H' dx fs → W (.ref C) dx σ H'
  | .bad => False
abbrev rrE (K : Frg) (mg : Mg) : RR V D := fun _ S _ v d => Rp K mg S v d
abbrev rrA (K : Frg) (mg : Mg) : RR (List V) (List D) := fun _ S _ v d => RpA K mg S v d
abbrev rrT : RR Bool Bool := fun _ _ _ b c => b = c
/-- an operand that is only read: a list may be a slot's own -/
def Rd1 (K : Frg) (mg : Mg) (S H : Hp) (v : V) (d : D) : Prop := match d with
  | .lst ds => ∃ (p : Addr) (vs : List V), v = .ref p ∧ H p = some (.lst vs) ∧ RpA K mg S vs ds
  | d => Rp K mg S v d
abbrev rrR (K : Frg) (mg : Mg) : RR V D := fun _ S H v d => Rd1 K mg S H v d
/-- a new list that nobody else holds -/
abbrev rrF (K : Frg) (mg : Mg) : RR V (List D) := fun H0 S H v ds => ∃ (p : Addr) (vs : List V), v = .ref p ∧ H0 p = none ∧ S p = none ∧ H p = some (.lst vs) ∧ RpA K mg S vs ds
/-- what a def hands back: a shared value, or a new list that nobody else holds -/
abbrev rrX (K : Frg) (mg : Mg) : RR V D := fun H0 S H v d => Rp K mg S v d ∨ ∃ ds, d = .fr ds ∧ rrF K mg H0 S H v ds
section
variable {K : Frg} {mg : Mg} {S H S' H' : Hp}
theorem Rd1.of {v : V} {d : D} (i : Same S H) (h : Rp K mg S v d) : Rd1 K mg S H v d := by
  cases d <;> first | exact h | skip
  cases h with
  | lst a b => exact ⟨_, _, rfl, i _ _ a, b⟩
theorem Rd1.up {v : V} {d : D} (g : Gr S H S' H') (h : Rd1 K mg S H v d) : Rd1 K mg S' H' v d := by
  cases d with
  | lst ds =>
    obtain ⟨p, vs, h1, h2, h3⟩ := h
    exact ⟨p, vs, h1, g.h _ _ h2, h3.up g.s ds vs⟩
  | _ => exact Rp.up g.s _ v h
theorem Xd.up {dx : Option Addr} {fs : List (Str × D)} (g : Gr S H S' H') (h : Xd K mg S H dx fs) : Xd K mg S' H' dx fs := by
  exact h.keep g.s fun _ _ q => g.h _ _ q
end
section
variable {α β γ δ : Type} {K : Frg} {mg : Mg} {R : RR α β} {R2 : RR γ δ} {W : WX} {S H S' H' : Hp} {σ : L2.St}
theorem Po.bind {r : Res β} {k : β → Res δ} {Q : α → Hp → Prop} {Q2 : γ → Hp → Prop} (h : Po K mg R2 W S σ H (r.bind k) Q2)
    (n : ∀ d v S' H', Gr S H S' H' → R H S' H' v d → Po K mg R2 W S σ H (k d) Q2 → Q v H') : Po K mg R W S σ H r Q := by
  cases r with
  | ok d => exact fun v S' H' g q => n d v S' H' g q h
  | exc x fs => exact h
  | bad => exact h
theorem Po.up {r : Res β} {Q : α → Hp → Prop} (g : Gr S H S' H') (hr : ∀ S2 H2 v d, Gr S' H' S2 H2 → R H' S2 H2 v d → R H S2 H2 v d) (h : Po K mg R W S σ H r Q) : Po K mg R W S' σ H' r Q := by
  cases r with
  | ok d => exact fun v S2 H2 g2 q => h v S2 H2 (g.trans g2) (hr _ _ _ _ g2 q)
  | exc x fs => exact fun S2 H2 C dx g2 q1 q2 => h S2 H2 C dx (g.trans g2) q1 q2
  | bad => exact h
theorem Po.wk {R' : RR α β} {r : Res β} {Q : α → Hp → Prop} (h : Po K mg R W S σ H r Q) (hr : ∀ S2 H2 v d, Gr S H S2 H2 → R' H S2 H2 v d → R H S2 H2 v d) : Po K mg R' W S σ H r Q := by
  cases r with
  | ok d => exact fun v S2 H2 g2 q => h v S2 H2 g2 (hr _ _ _ _ g2 q)
  | exc x fs => exact h
  | bad => exact h
theorem Po.q {r : Res β} {Q Q' : α → Hp → Prop} (h : Po K mg R W S σ H r Q) (hq : ∀ v H', Q v H' → Q' v H') : Po K mg R W S σ H r Q' := by
  cases r with
  | ok d => exact fun v S2 H2 g2 q => hq _ _ (h v S2 H2 g2 q)
  | exc x fs => exact h
  | bad => exact h
end
theorem Po.upE {K : Frg} {mg : Mg} {W : WX} {S H S' H' : Hp} {σ : L2.St} {r : Res D} {Q : VK} (g : Gr S H S' H') (h : Po K mg (rrE K mg) W S σ H r Q) : Po K mg (rrE K mg) W S' σ H' r Q := h.up g fun _ _ _ _ _ q => q
theorem Po.upX {K : Frg} {mg : Mg} {W : WX} {S H S' H' : Hp} {σ : L2.St} {r : Res D} {Q : VK} (g : Gr S H S' H') (h : Po K mg (rrX K mg) W S σ H r Q) : Po K mg (rrX K mg) W S' σ H' r Q := h.up g fun S2 H2 v d g2 q => q.imp id fun ⟨ds, e, p, vs, h1, h2, h3⟩ => ⟨ds, e, p, vs, h1, same_none g.h h2, h3⟩
theorem Po.upR {K : Frg} {mg : Mg} {W : WX} {S H S' H' : Hp} {σ : L2.St} {r : Res D} {Q : VK} (g : Gr S H S' H') (h : Po K mg (rrR K mg) W S σ H r Q) : Po K mg (rrR K mg) W S' σ H' r Q := h.up g fun _ _ _ _ _ q => q
theorem Po.upA {K : Frg} {mg : Mg} {W : WX} {S H S' H' : Hp} {σ : L2.St} {r : Res (List D)} {Q : List V → Hp → Prop} (g : Gr S H S' H') (h : Po K mg (rrA K mg) W S σ H r Q) : Po K mg (rrA K mg) W S' σ H' r Q := h.up g fun _ _ _ _ _ q => q
theorem Po.upT {K : Frg} {mg : Mg} {W : WX} {S H S' H' : Hp} {σ : L2.St} {r : Res Bool} {Q : Bool → Hp → Prop} (g : Gr S H S' H') (h : Po K mg rrT W S σ H r Q) : Po K mg rrT W S' σ H' r Q := h.up g fun _ _ _ _ _ q => q
theorem Po.upF {K : Frg} {mg : Mg} {W : WX} {S H S' H' : Hp} {σ : L2.St} {r : Res (List D)} {Q : VK} (g : Gr S H S' H') (h : Po K mg (rrF K mg) W S σ H r Q) : Po K mg (rrF K mg) W S' σ H' r Q := h.up g fun S2 H2 v d g2 ⟨p, vs, h1, h2, h3⟩ => ⟨p, vs, h1, same_none g.h h2, h3⟩

/-- the canonical reading of an expression (an argument list, a test) that yields f of the slots -/
def tG {α β : Type} (K : Frg) (mg : Mg) (hx : Hx) (R : RR α β) (W : WX) (f : Sl → Res β) : L2.St → Hp → (α → Hp → Prop) → Prop := fun σ H Q => ∃ b S ρ, Rel K mg hx b S ρ σ H ∧ Po K mg R W S σ H (f ρ) Q
abbrev ME (X : Cx) (hx : Hx) (W : WX) (e : Expr) (f : Sl → Res D) : Prop := PE X e (tG X.K X.mg hx (rrE X.K X.mg) W f)
abbrev MR (X : Cx) (hx : Hx) (W : WX) (e : Expr) (f : Sl → Res D) : Prop := PE X e (tG X.K X.mg hx (rrR X.K X.mg) W f)
abbrev MF (X : Cx) (hx : Hx) (W : WX) (e : Expr) (f : Sl → Res (List D)) : Prop := PE X e (tG X.K X.mg hx (rrF X.K X.mg) W f)
abbrev MA (X : Cx) (hx : Hx) (W : WX) (es : List Expr) (f : Sl → Res (List D)) : Prop := PA X es (tG X.K X.mg hx (rrA X.K X.mg) W f)
abbrev MT (X : Cx) (hx : Hx) (W : WX) (e : Expr) (f : Sl → Res Bool) : Prop := PT X e (tG X.K X.mg hx rrT W f)
abbrev MW (X : Cx) (hx : Hx) (W : WX) (e : Expr) (f : Sl → Res Bool) : Prop := PW X e (tG X.K X.mg hx rrT W f)

theorem pe_imp {X : Cx} {e : Expr} {t t' : TE} (h : PE X e t) (i : ∀ σ H Q, t' σ H Q → t σ H Q) : PE X e t' := ⟨fun pins s σ H Q I q => h.run pins s σ H Q I (i σ H Q q)⟩
theorem pa_imp {X : Cx} {e : List Expr} {t t' : TA} (h : PA X e t) (i : ∀ σ H Q, t' σ H Q → t σ H Q) : PA X e t' := ⟨fun ps pins s σ H Q I q => h.run ps pins s σ H Q I (i σ H Q q)⟩
theorem pt_imp {X : Cx} {e : Expr} {t t' : TT} (h : PT X e t) (i : ∀ σ H Q, t' σ H Q → t σ H Q) : PT X e t' := ⟨fun pins s σ H Q I q => h.run pins s σ H Q I (i σ H Q q)⟩
theorem pw_imp {X : Cx} {e : Expr} {t t' : TT} (h : PW X e t) (i : ∀ σ H Q, t' σ H Q → t σ H Q) : PW X e t' := ⟨fun w pins s σ H Q I q => h.run w pins s σ H Q I (i σ H Q q)⟩
theorem ps_imp {X : Cx} {st : Stmt} {t t' : TS} (h : PS X st t) (i : ∀ D σ H, t' D σ H → t D σ H) : PS X st t' := ⟨fun pins s σ H D I q => h.run pins s σ H D I (i D σ H q)⟩
theorem pss_imp {X : Cx} {st : List Stmt} {t t' : TS} (h : PSs X st t) (i : ∀ D σ H, t' D σ H → t D σ H) : PSs X st t' := ⟨fun pins s σ H D I q => h.run pins s σ H D I (i D σ H q)⟩
theorem pg_imp {X : Cx} {e : Expr} {t t' : TG} (h : PG X e t) (i : ∀ v σ H Q, t' v σ H Q → t v σ H Q) : PG X e t' := ⟨fun pins s σ H v u Q I r q => h.run pins s σ H v u Q I r (i v σ H Q q)⟩
theorem pi_imp {X : Cx} {tg e : Expr} {t t' : TI} (h : PI X tg e t) (i : ∀ σ H R, t' σ H R → t σ H R) : PI X tg e t' := ⟨fun pins s σ H R I q => h.run pins s σ H R I (i σ H R q)⟩

/-! ### expressions -/
@[simp] def sVar (i : Nat) (ρ : Sl) : Res D := match ρ[i]? with
  | some (.v d) => .ok d
  | _ => .bad
@[simp] def sRd (i : Nat) (ρ : Sl) : Res D := match ρ[i]? with
  | some (.v d) => .ok d
  | some (.o ds) => .ok (.lst ds)
  | _ => .bad
@[simp] def sC (d : D) (_ : Sl) : Res D := .ok d
@[simp] def sUn (g : D → Res D) (f : Sl → Res D) (ρ : Sl) : Res D := (f ρ).bind g
@[simp] def sOp (g : D → D → Res D) (f h : Sl → Res D) (ρ : Sl) : Res D := (f ρ).bind fun x => (h ρ).bind fun y => g x y
@[simp] def aNil (_ : Sl) : Res (List D) := .ok []
@[simp] def aCons (f : Sl → Res D) (h : Sl → Res (List D)) (ρ : Sl) : Res (List D) := (f ρ).bind fun x => (h ρ).bind fun y => .ok (x :: y)
@[simp] def sTup (h : Sl → Res (List D)) (ρ : Sl) : Res D := (h ρ).bind fun ds => if ds.length ≤ 16777216 then .ok (.tup ds) else .bad
@[simp] def fLst (h : Sl → Res (List D)) (ρ : Sl) : Res (List D) := (h ρ).bind fun ds => if ds.length ≤ 16777216 then .ok ds else .bad
@[simp] def fOp (g : D → D → Res (List D)) (f h : Sl → Res D) (ρ : Sl) : Res (List D) := (f ρ).bind fun x => (h ρ).bind fun y => g x y
@[simp] def fUn (g : D → Res (List D)) (f : Sl → Res D) (ρ : Sl) : Res (List D) := (f ρ).bind g
@[simp] def sLst (h : Sl → Res (List D)) (ρ : Sl) : Res D := (h ρ).bind fun ds => .ok (.lst ds)
/-- a new list that a def hands back is shared from now on -/
@[simp] def thaw (d : D) : Res D := match d with
  | .fr xs => .ok (.lst xs)
  | d => .ok d
@[simp] def unfr (d : D) : Res (List D) := match d with
  | .fr xs => .ok xs
  | _ => .bad
@[simp] def sCall (g : List D → Res D) (h : Sl → Res (List D)) (ρ : Sl) : Res D := (h ρ).bind fun ds => (g ds).bind thaw
@[simp] def fCall (g : List D → Res D) (h : Sl → Res (List D)) (ρ : Sl) : Res (List D) := (h ρ).bind fun ds => (g ds).bind unfr
@[simp] def tBl (d : D) : Res Bool := match d with
  | .bl b => .ok b
  | _ => .bad
@[simp] def sTest (f : Sl → Res D) (ρ : Sl) : Res Bool := (f ρ).bind tBl
@[simp] def tAnd (f h : Sl → Res Bool) (ρ : Sl) : Res Bool := (f ρ).bind fun b => if b then h ρ else .ok false
@[simp] def tOr (f h : Sl → Res Bool) (ρ : Sl) : Res Bool := (f ρ).bind fun b => if b then .ok true else h ρ
@[simp] def tNot (f : Sl → Res Bool) (ρ : Sl) : Res Bool := (f ρ).bind fun b => .ok (!b)
@[simp] def sAnd (f h : Sl → Res D) (ρ : Sl) : Res D := (f ρ).bind fun x => (tBl x).bind fun b => if b then h ρ else .ok (.bl false)
@[simp] def sOr (f h : Sl → Res D) (ρ : Sl) : Res D := (f ρ).bind fun x => (tBl x).bind fun b => if b then .ok (.bl true) else h ρ
@[simp] def sNot (f : Sl → Res D) (ρ : Sl) : Res D := (f ρ).bind fun x => (tBl x).bind fun b => .ok (.bl (!b))
@[simp] def sIte (t : Sl → Res Bool) (f h : Sl → Res D) (ρ : Sl) : Res D := (t ρ).bind fun b => if b then f ρ else h ρ

/-- an operation by values is the function g on data -/
def U1 (K : Frg) (mg : Mg) (r : V → Hp → VK → Prop) (g : D → Res D) : Prop := ∀ S σ H v d W Q, Same S H → Rd1 K mg S H v d → Po K mg (rrE K mg) W S σ H (g d) Q → r v H Q
def O2 (K : Frg) (mg : Mg) (r : R2) (g : D → D → Res D) : Prop := ∀ S σ H x y d e W Q, Same S H → Rd1 K mg S H x d → Rd1 K mg S H y e → Po K mg (rrE K mg) W S σ H (g d e) Q → r x y H Q
/-- .. that makes a new list -/
def U1F (K : Frg) (mg : Mg) (r : V → Hp → VK → Prop) (g : D → Res (List D)) : Prop := ∀ S σ H v d W Q, Same S H → Rd1 K mg S H v d → Po K mg (rrF K mg) W S σ H (g d) Q → r v H Q
def O2F (K : Frg) (mg : Mg) (r : R2) (g : D → D → Res (List D)) : Prop := ∀ S σ H x y d e W Q, Same S H → Rd1 K mg S H x d → Rd1 K mg S H y e → Po K mg (rrF K mg) W S σ H (g d e) Q → r x y H Q
section
variable {X : Cx} {hx : Hx} {W : WX} {a b c e : Expr} {pos : Pos} {fa fb fc : Sl → Res D}
theorem me_var (i : Nat) {x : Str} (h : PE X (.Name x pos) (tVar i)) : ME X hx W (.Name x pos) (sVar i) := pe_imp h fun σ H Q ⟨b, S, ρ, R, h⟩ => by
  unfold sVar at h
  split at h
  · rename_i d e
    obtain ⟨v, h1, h2⟩ := R.val i d e
    exact ⟨v, h1, h v S H (Gr.refl R.sh) h2⟩
  · exact h.elim
theorem mr_rd (i : Nat) {x : Str} (h : PE X (.Name x pos) (tVar i)) : MR X hx W (.Name x pos) (sRd i) := pe_imp h fun σ H Q ⟨b, S, ρ, R, h⟩ => by
  unfold sRd at h
  split at h
  · rename_i d e
    obtain ⟨v, h1, h2⟩ := R.val i d e
    exact ⟨v, h1, h v S H (Gr.refl R.sh) (Rd1.of R.sh h2)⟩
  · rename_i ds e
    obtain ⟨p, vs, h1, h2, h3, h4, h5⟩ := R.own i ds e
    exact ⟨_, h1, h _ S H (Gr.refl R.sh) ⟨p, vs, rfl, h2, h5⟩⟩
  · exact h.elim
theorem mr_of (h : ME X hx W e fa) : MR X hx W e fa := pe_imp h fun σ H Q ⟨b, S, ρ, R, h⟩ => ⟨b, S, ρ, R, h.wk fun _ _ _ _ g q => Rd1.of g.i q⟩
theorem me_of {ff : Sl → Res (List D)} (h : MF X hx W e ff) : ME X hx W e (sLst ff) := pe_imp h fun σ H Q ⟨b, S, ρ, R, h⟩ => ⟨b, S, ρ, R, h.bind fun d v S' H' g ⟨p, vs, h1, h2, h3, h4, h5⟩ k => by
  subst h1
  have up : Same S' (upd S' p (.lst vs)) := same_new h3
  refine k _ (upd S' p (.lst vs)) H' ⟨g.s.trans up, g.h, fun a o q => ?_, fun a ha q => ?_⟩ (.lst upd_same (h5.up up _ _))
  · by_cases z : a = p
    · subst z; rw [upd_same] at q; cases q; exact h4
    · rw [upd_ne z] at q; exact g.i a o q
  · rw [upd_ne (fun z => ha (by rw [z]; exact h2))]; exact g.n a ha q⟩
theorem mr_f {ff : Sl → Res (List D)} (h : MF X hx W e ff) : MR X hx W e (sLst ff) := mr_of (me_of h)
theorem me_con {v : V} {d : D} (h : PE X e (tC v)) (r : ∀ S, Rp X.K X.mg S v d) : ME X hx W e (sC d) := pe_imp h fun σ H Q ⟨b, S, ρ, R, h⟩ => h v S H (Gr.refl R.sh) (r S)
theorem me_int {i : Int} {j} : ME X hx W (.Constant (.int i) j pos) (sC (.int i)) := me_con pe_int fun _ => .int i
theorem me_bl {i : Bool} {j} : ME X hx W (.Constant (.bool i) j pos) (sC (.bl i)) := me_con pe_bl fun _ => .bl i
theorem me_non {j} : ME X hx W (.Constant .none j pos) (sC .non) := me_con pe_non fun _ => .non
theorem me_str {x : Str} {j} : ME X hx W (.Constant (.str x) j pos) (sC (.str x)) := me_con pe_str fun _ => .str x
theorem me_un {op : UnaryOp} {r : V → Hp → VK → Prop} {g : D → Res D} (ho : UnR X (unaryOp op) r) (hr : U1 X.K X.mg r g) (ha : MR X hx W a fa) : ME X hx W (.UnaryOp op a pos) (sUn g fa) :=
  pe_imp (pe_un ho ha) fun σ H Q ⟨b, S, ρ, R, h⟩ => ⟨b, S, ρ, R, h.bind fun d v S1 H1 g1 r1 k => hr S1 σ H1 v d W Q g1.i r1 (k.upE g1)⟩
theorem op_seq {f h : Sl → Res D} {g : D → D → Res D} {r : R2} (hr : O2 X.K X.mg r g) : ∀ σ H Q, tG X.K X.mg hx (rrE X.K X.mg) W (sOp g f h) σ H Q → tOp r (tG X.K X.mg hx (rrR X.K X.mg) W f) (tG X.K X.mg hx (rrR X.K X.mg) W h) σ H Q := fun σ H Q ⟨b, S, ρ, R, q⟩ =>
  ⟨b, S, ρ, R, q.bind fun d v S1 H1 g1 r1 k => ⟨b, S1, ρ, R.grow g1, (k.upE g1).bind fun d2 v2 S2 H2 g2 r2 k2 => hr S2 σ H2 v v2 d d2 W Q g2.i (r1.up g2) r2 (k2.upE g2)⟩⟩
theorem me_op {op : Operator} {r : R2} {g : D → D → Res D} (ho : OpR X (binaryOp op) r) (hr : O2 X.K X.mg r g) (ha : MR X hx W a fa) (hb : MR X hx W b fb) : ME X hx W (.BinOp a op b pos) (sOp g fa fb) := pe_imp (pe_op ho ha hb) (op_seq hr)
theorem me_cmp {op : CmpOp} {r : R2} {g : D → D → Res D} (ho : OpR X (compareOp op) r) (hr : O2 X.K X.mg r g) (ha : MR X hx W a fa) (hb : MR X hx W b fb) (hm : behindInMarks op b = false) : ME X hx W (.Compare a [op] [b] pos) (sOp g fa fb) := pe_imp (pe_cmpR ho ha hb hm) (op_seq hr)
theorem me_ix {r : R2} {g : D → D → Res D} (hi : IxR X r) (hr : O2 X.K X.mg r g) (ha : MR X hx W a fa) (hb : MR X hx W b fb) (hs : PlainIx b) : ME X hx W (.Subscript a b pos) (sOp g fa fb) := pe_imp (pe_ix hi ha hb hs) (op_seq hr)
theorem opF_seq {f h : Sl → Res D} {g : D → D → Res (List D)} {r : R2} (hr : O2F X.K X.mg r g) : ∀ σ H Q, tG X.K X.mg hx (rrF X.K X.mg) W (fOp g f h) σ H Q → tOp r (tG X.K X.mg hx (rrR X.K X.mg) W f) (tG X.K X.mg hx (rrR X.K X.mg) W h) σ H Q := fun σ H Q ⟨b, S, ρ, R, q⟩ =>
  ⟨b, S, ρ, R, q.bind fun d v S1 H1 g1 r1 k => ⟨b, S1, ρ, R.grow g1, (k.upF g1).bind fun d2 v2 S2 H2 g2 r2 k2 => hr S2 σ H2 v v2 d d2 W Q g2.i (r1.up g2) r2 (k2.upF g2)⟩⟩
theorem mf_op {op : Operator} {r : R2} {g : D → D → Res (List D)} (ho : OpR X (binaryOp op) r) (hr : O2F X.K X.mg r g) (ha : MR X hx W a fa) (hb : MR X hx W b fb) : MF X hx W (.BinOp a op b pos) (fOp g fa fb) := pe_imp (pe_op ho ha hb) (opF_seq hr)
theorem ma_nil : MA X hx W [] aNil := pa_imp pa_nil fun σ H Q ⟨b, S, ρ, R, q⟩ => q [] S H (Gr.refl R.sh) .nil
theorem ma_cons {es : List Expr} {fs : Sl → Res (List D)} (ha : ME X hx W e fa) (hr : MA X hx W es fs) (hs : starEach (e :: es) X.env = (false, eval e X.env) :: starEach es X.env := by rfl) : MA X hx W (e :: es) (aCons fa fs) :=
  pa_imp (pa_cons ha hr hs) fun σ H Q ⟨b, S, ρ, R, q⟩ => ⟨b, S, ρ, R, q.bind fun d v S1 H1 g1 r1 k => ⟨b, S1, ρ, R.grow g1, (k.upA g1).bind fun d2 v2 S2 H2 g2 r2 k2 => k2 _ S2 H2 g2 (.cons (r1.up g2.s d v) r2)⟩⟩
theorem sizeLine16 {n : Nat} (h : n ≤ 16777216) : n ≤ sizeLine := by rw [sizeLine_eq]; exact h
theorem me_tup {es : List Expr} {fs : Sl → Res (List D)} {x1} (h : MA X hx W es fs) : ME X hx W (.Tuple es x1 pos) (sTup fs) :=
  pe_imp (pe_tup h) fun σ H Q ⟨b, S, ρ, R, q⟩ => ⟨b, S, ρ, R, q.bind fun d v S1 H1 g1 r1 k => by
    split at k
    · rename_i hl
      refine ⟨sizeLine16 (by rw [r1.len]; exact hl), fun p hp => ?_⟩
      refine k _ _ _ (g1.trans (Gr.new g1.i hp)) (.tup (SqT.of upd_same) (r1.up (same_new (same_none g1.i hp)) _ _))
    · exact k.elim⟩
theorem mf_lst {es : List Expr} {fs : Sl → Res (List D)} {x1} (h : MA X hx W es fs) : MF X hx W (.List es x1) (fLst fs) :=
  pe_imp (pe_lst h) fun σ H Q ⟨b, S, ρ, R, q⟩ => ⟨b, S, ρ, R, q.bind fun d v S1 H1 g1 r1 k => by
    split at k
    · rename_i hl
      refine ⟨sizeLine16 (by rw [r1.len]; exact hl), fun p hp => ?_⟩
      refine k _ S1 _ (g1.trans (Gr.lay g1.i hp)) ⟨p, v, rfl, same_none g1.h hp, same_none g1.i hp, upd_same, r1⟩
    · exact k.elim⟩

/-! ### tests -/
theorem mt_val (h : ME X hx W e fa) (he : ∀ whole, isTrue e X.env whole = (do let v ← whole; standAt e.pos; holding [v] (truthy v)) := by intro _; rfl) : MT X hx W e (sTest fa) :=
  pt_imp (pt_val h he) fun σ H Q ⟨b, S, ρ, R, q⟩ => ⟨b, S, ρ, R, q.bind fun d v S1 H1 g1 r1 k => by
    cases r1 <;> first | exact k.elim | skip
    rename_i c
    exact ⟨c, rfl, k c S1 H1 g1 rfl⟩⟩
theorem mt_cmp {op : CmpOp} {r : R2} {g : D → D → Res D} (ho : OpR X (compareOp op) r) (hr : O2 X.K X.mg r g) (ha : MR X hx W a fa) (hb : MR X hx W b fb) (hm : behindInMarks op b = false) : MT X hx W (.Compare a [op] [b] pos) (sTest (sOp g fa fb)) :=
  pt_imp (pt_cmpR ho ha hb hm) fun σ H Q ⟨b, S, ρ, R, q⟩ => op_seq hr σ H _ ⟨b, S, ρ, R, q.bind fun d v S1 H1 g1 r1 k => by
    cases r1 <;> first | exact k.elim | skip
    rename_i c
    exact ⟨c, rfl, k c S1 H1 g1 rfl⟩⟩
theorem mt_not {t : Sl → Res Bool} (h : MT X hx W a t) : MT X hx W (.UnaryOp .Not a pos) (tNot t) :=
  pt_imp (pt_not h) fun σ H Q ⟨b, S, ρ, R, q⟩ => ⟨b, S, ρ, R, q.bind fun d v S1 H1 g1 r1 k => by
    cases r1
    exact k _ S1 H1 g1 rfl⟩
theorem mw_and1 {t : Sl → Res Bool} (h : MT X hx W a t) : MW X hx W (.BoolOp .And [a] pos) t := pw_and1 h
theorem mw_or1 {t : Sl → Res Bool} (h : MT X hx W a t) : MW X hx W (.BoolOp .Or [a] pos) t := pw_or1 h
theorem mw_and {t u : Sl → Res Bool} {rest : List Expr} (ha : MT X hx W a t) (hb : MW X hx W (.BoolOp .And (b :: rest) pos) u) : MW X hx W (.BoolOp .And (a :: b :: rest) pos) (tAnd t u) :=
  pw_imp (pw_and ha hb) fun σ H Q ⟨b, S, ρ, R, q⟩ => ⟨b, S, ρ, R, q.bind fun d v S1 H1 g1 r1 k => by
    cases r1
    cases d with
    | true => exact iteT ⟨b, S1, ρ, R.grow g1, Po.upT g1 k⟩
    | false => exact iteF (k _ S1 H1 g1 rfl)⟩
theorem mw_or {t u : Sl → Res Bool} {rest : List Expr} (ha : MT X hx W a t) (hb : MW X hx W (.BoolOp .Or (b :: rest) pos) u) : MW X hx W (.BoolOp .Or (a :: b :: rest) pos) (tOr t u) :=
  pw_imp (pw_or ha hb) fun σ H Q ⟨b, S, ρ, R, q⟩ => ⟨b, S, ρ, R, q.bind fun d v S1 H1 g1 r1 k => by
    cases r1
    cases d with
    | true => exact iteT (k _ S1 H1 g1 rfl)
    | false => exact iteF ⟨b, S1, ρ, R.grow g1, Po.upT g1 k⟩⟩
theorem me_and {rest : List Expr} (ha : ME X hx W a fa) (hb : ME X hx W (.BoolOp .And (b :: rest) pos) fb) : ME X hx W (.BoolOp .And (a :: b :: rest) pos) (sAnd fa fb) :=
  pe_imp (pe_and ha hb) fun σ H Q ⟨b, S, ρ, R, q⟩ => ⟨b, S, ρ, R, q.bind fun d v S1 H1 g1 r1 k => by
    cases r1 <;> first | exact k.elim | skip
    rename_i c
    refine ⟨c, rfl, ?_⟩
    cases c with
    | true => exact iteT ⟨b, S1, ρ, R.grow g1, Po.upE g1 k⟩
    | false => exact iteF (k _ S1 H1 g1 (.bl false))⟩
theorem me_or {rest : List Expr} (ha : ME X hx W a fa) (hb : ME X hx W (.BoolOp .Or (b :: rest) pos) fb) : ME X hx W (.BoolOp .Or (a :: b :: rest) pos) (sOr fa fb) :=
  pe_imp (pe_or ha hb) fun σ H Q ⟨b, S, ρ, R, q⟩ => ⟨b, S, ρ, R, q.bind fun d v S1 H1 g1 r1 k => by
    cases r1 <;> first | exact k.elim | skip
    rename_i c
    refine ⟨c, rfl, ?_⟩
    cases c with
    | true => exact iteT (k _ S1 H1 g1 (.bl true))
    | false => exact iteF ⟨b, S1, ρ, R.grow g1, Po.upE g1 k⟩⟩
theorem me_not (h : ME X hx W a fa) : ME X hx W (.UnaryOp .Not a pos) (sNot fa) :=
  pe_imp (pe_not h) fun σ H Q ⟨b, S, ρ, R, q⟩ => ⟨b, S, ρ, R, q.bind fun d v S1 H1 g1 r1 k => by
    cases r1 <;> first | exact k.elim | skip
    rename_i c
    exact ⟨c, rfl, k _ S1 H1 g1 (.bl _)⟩⟩
theorem me_ite {t : Sl → Res Bool} (hc : MT X hx W c t) (ha : ME X hx W a fa) (hb : ME X hx W b fb) : ME X hx W (.IfExp c a b pos) (sIte t fa fb) :=
  pe_imp (pe_ifExp hc ha hb) fun σ H Q ⟨b, S, ρ, R, q⟩ => ⟨b, S, ρ, R, q.bind fun d v S1 H1 g1 r1 k => by
    cases r1
    cases d with
    | true => exact iteT ⟨b, S1, ρ, R.grow g1, Po.upE g1 k⟩
    | false => exact iteF ⟨b, S1, ρ, R.grow g1, Po.upE g1 k⟩⟩
/-- the truth of a value -/
@[simp] def gTru (d : D) : Res Bool := match d with
  | .non => .ok false
  | .bl b => .ok b
  | .int i => .ok (i != 0)
  | .str x => if x.length ≤ 16777216 then .ok ((x.length : Int) != 0) else .bad
  | .lst ds => .ok (!ds.isEmpty)
  | .rol ds => .ok (!ds.isEmpty)
  | .tup ds => .ok (!ds.isEmpty)
  | .obj _ _ _ => .bad
  | .fr _ => .bad
  | .raw _ => .bad
@[simp] def tTru (f : Sl → Res D) (ρ : Sl) : Res Bool := (f ρ).bind gTru
theorem RpA.emp {K : Frg} {mg : Mg} {H : Hp} {vs : List V} {ds : List D} (h : RpA K mg H vs ds) : vs.isEmpty = ds.isEmpty := by cases h <;> rfl
theorem mt_tru (h : MR X hx W e fa) (he : ∀ whole, isTrue e X.env whole = (do let v ← whole; standAt e.pos; holding [v] (truthy v)) := by intro _; rfl) : MT X hx W e (tTru fa) :=
  pt_imp (pt_truth h he) fun σ H Q ⟨b, S, ρ, R, q⟩ => ⟨b, S, ρ, R, q.bind fun d v S1 H1 g1 r1 k => by
    cases d with
    | non => cases r1; exact ⟨_, rfl, k _ S1 H1 g1 rfl⟩
    | bl _ => cases r1; exact ⟨_, rfl, k _ S1 H1 g1 rfl⟩
    | int _ => cases r1; exact ⟨_, rfl, k _ S1 H1 g1 rfl⟩
    | str x =>
      cases r1
      simp only [gTru] at k
      split at k
      · rename_i hl
        exact ⟨_, ⟨sizeLine16 hl, rfl⟩, k _ S1 H1 g1 rfl⟩
      · exact k.elim
    | lst ds =>
      obtain ⟨p, vs, rfl, h2, h3⟩ := r1
      exact ⟨_, .inl ⟨vs, SqL.of h2, rfl⟩, k _ S1 H1 g1 (by rw [h3.emp])⟩
    | rol ds =>
      cases r1 with
      | rol h2 h3 => exact ⟨_, .inl ⟨_, same_l g1.i h2, rfl⟩, k _ S1 H1 g1 (by rw [h3.emp])⟩
    | tup ds =>
      cases r1 with
      | tup h2 h3 => exact ⟨_, .inr (.inl ⟨_, same_t g1.i h2, rfl⟩), k _ S1 H1 g1 (by rw [h3.emp])⟩
    | obj _ _ _ => exact k.elim
    | fr _ => exact k.elim
    | raw _ => exact k.elim⟩
/-- a < b < c -/
def sChain (g h : D → D → Res D) (fa fb fc : Sl → Res D) (ρ : Sl) : Res D := (fa ρ).bind fun x => (fb ρ).bind fun y => (g x y).bind fun z => (tBl z).bind fun b => if b then (fc ρ).bind fun w => h y w else .ok (.bl false)
end
end PF

set_option Elab.async false
set_option linter.all false
set_option maxRecDepth 100000
set_option maxHeartbeats 4000000
namespace PF
open PySem PySem.Spec L2

/-! ### statements -/
inductive Out where
  | nx (ρ : Sl) | ret (d : D) | bk (ρ : Sl) | ct (ρ : Sl) | exc (x : Str) (fs : List (Str × D)) (ρ : Sl) | bad
structure Bok (b : Bs) (S H : Hp) : Prop where
  s0 : Same b.S0 S
  sh : Same S H
  h0 : Same b.H0 H
  nw : ∀ a, b.H0 a ≠ none → b.S0 a = none → S a = none
theorem Rel.bok {K : Frg} {mg : Mg} {hx : Hx} {b : Bs} {S H : Hp} {ρ : Sl} {σ : L2.St} (R : Rel K mg hx b S ρ σ H) : Bok b S H := ⟨R.s0, R.sh, R.h0, R.nw⟩
def PoS (K : Frg) (mg : Mg) (hx : Hx) (W : WX) (b : Bs) (S : Hp) (o : Out) (D : Ends) : Prop := match o with
  | .nx ρ => ∀ S' σ H, Same S S' → Rel K mg hx b S' ρ σ H → D.nx σ H
  | .ret d => ∀ S' H v, Bok b S' H → rrX K mg b.H0 S' H v d → D.rt v H
  | .bk ρ => ∀ S' σ H, Same S S' → Rel K mg hx b S' ρ σ H → D.bk σ H
  | .ct ρ => ∀ S' σ H, Same S S' → Rel K mg hx b S' ρ σ H → D.ct σ H
  | .exc x fs ρ => ∀ S' σ H C dx, Same S S' → Rel K mg hx b S' ρ σ H → mg x = some (.ref C) → Xd K mg S' H dx fs → W (.ref C) dx σ H
  | .bad => False
def tS (K : Frg) (mg : Mg) (hx : Hx) (W : WX) (g : Sl → Out) : TS := fun D σ H => ∃ b S ρ, Rel K mg hx b S ρ σ H ∧ PoS K mg hx W b S (g ρ) D
abbrev MS (X : Cx) (hx : Hx) (W : WX) (st : Stmt) (g : Sl → Out) : Prop := PS X st (tS X.K X.mg hx W g)
abbrev MSs (X : Cx) (hx : Hx) (W : WX) (st : List Stmt) (g : Sl → Out) : Prop := PSs X st (tS X.K X.mg hx W g)
theorem PoS.up {K : Frg} {mg : Mg} {hx : Hx} {W : WX} {b : Bs} {S S1 : Hp} {o : Out} {D : Ends} (e : Same S S1) (h : PoS K mg hx W b S o D) : PoS K mg hx W b S1 o D := by
  cases o with
  | nx ρ => exact fun S' σ H q => h S' σ H (e.trans q)
  | ret d => exact h
  | bk ρ => exact fun S' σ H q => h S' σ H (e.trans q)
  | ct ρ => exact fun S' σ H q => h S' σ H (e.trans q)
  | exc x fs ρ => exact fun S' σ H C dx q => h S' σ H C dx (e.trans q)
  | bad => exact h
/-- an expression's result, then k -/
def rS {α : Type} (r : Res α) (ρ : Sl) (k : α → Out) : Out := match r with
  | .ok a => k a
  | .exc x fs => .exc x fs ρ
  | .bad => .bad
@[simp] theorem rS_ok {α : Type} (a : α) (ρ : Sl) (k : α → Out) : rS (.ok a) ρ k = k a := rfl
@[simp] theorem rS_exc {α : Type} (x : Str) (fs) (ρ : Sl) (k : α → Out) : rS (.exc x fs) ρ k = .exc x fs ρ := rfl
@[simp] theorem rS_bad {α : Type} (ρ : Sl) (k : α → Out) : rS .bad ρ k = .bad := rfl
theorem rS_po {α β : Type} {K : Frg} {mg : Mg} {hx : Hx} {RX : RR α β} {W : WX} {b : Bs} {S H : Hp} {ρ : Sl} {σ : L2.St} {r : Res β} {k : β → Out} {D : Ends} {Q : α → Hp → Prop} (R : Rel K mg hx b S ρ σ H) (h : PoS K mg hx W b S (rS r ρ k) D)
    (n : ∀ d v S' H', Gr S H S' H' → RX H S' H' v d → PoS K mg hx W b S (k d) D → Q v H') : Po K mg RX W S σ H r Q := by
  cases r with
  | ok d => exact fun v S' H' g q => n d v S' H' g q h
  | exc x fs => exact fun S' H' C dx g q1 q2 => h S' σ H' C dx g.s (R.grow g) q1 q2
  | bad => exact h
@[simp] def gSeq (g h : Sl → Out) (ρ : Sl) : Out := match g ρ with
  | .nx ρ' => h ρ'
  | o => o
@[simp] def gNil (ρ : Sl) : Out := .nx ρ
@[simp] def gIf (t : Sl → Res Bool) (g h : Sl → Out) (ρ : Sl) : Out := rS (t ρ) ρ fun b => if b then g ρ else h ρ
@[simp] def gRet (f : Sl → Res D) (ρ : Sl) : Out := rS (f ρ) ρ .ret
@[simp] def gRetN (_ : Sl) : Out := .ret .non
@[simp] def gBk (ρ : Sl) : Out := .bk ρ
@[simp] def gCt (ρ : Sl) : Out := .ct ρ
@[simp] def gDrop (f : Sl → Res D) (ρ : Sl) : Out := rS (f ρ) ρ fun _ => .nx ρ
/-- i = f -/
@[simp] def gSet (i : Nat) (f : Sl → Res D) (ρ : Sl) : Out := rS (f ρ) ρ fun d => .nx (ρ.set i (.v d))
/-- i = f, a new list that i alone holds -/
@[simp] def gSetO (i : Nat) (f : Sl → Res (List D)) (ρ : Sl) : Out := rS (f ρ) ρ fun d => .nx (ρ.set i (.o d))
/-- the list of slot i is shared from here on (no statement of the text) -/
@[simp] def gFrz (i : Nat) (g : Sl → Out) (ρ : Sl) : Out := match ρ[i]? with
  | some (.o ds) => g (ρ.set i (.v (.lst ds)))
  | some (.v _) => g ρ
  | _ => .bad
section
variable {X : Cx} {hx : Hx} {W : WX} {st : Stmt} {rest body : List Stmt} {g h : Sl → Out} {e c : Expr} {f : Sl → Res D} {pos : Pos}
theorem ms_nil : MSs X hx W [] gNil := pss_imp pss_nil fun D σ H ⟨b, S, ρ, R, q⟩ => q S σ H (Same.refl _) R
theorem ms_pass : MS X hx W (.Pass pos) gNil := ps_imp ps_pass fun D σ H ⟨b, S, ρ, R, q⟩ => q S σ H (Same.refl _) R
theorem ms_bk : MS X hx W (.Break pos) gBk := ps_imp ps_break fun D σ H ⟨b, S, ρ, R, q⟩ => q S σ H (Same.refl _) R
theorem ms_ct : MS X hx W (.Continue pos) gCt := ps_imp ps_continue fun D σ H ⟨b, S, ρ, R, q⟩ => q S σ H (Same.refl _) R
theorem ms_cons (h1 : MS X hx W st g) (h2 : MSs X hx W rest h) : MSs X hx W (st :: rest) (gSeq g h) := pss_imp (pss_cons h1 h2) fun D σ H ⟨b, S, ρ, R, q⟩ => by
  refine ⟨b, S, ρ, R, ?_⟩
  unfold gSeq at q
  cases e : g ρ with
  | nx ρ' => rw [e] at q; exact fun S' σ' H' s1 R' => ⟨b, S', ρ', R', PoS.up s1 q⟩
  | ret d => rw [e] at q; exact q
  | bk ρ' => rw [e] at q; exact q
  | ct ρ' => rw [e] at q; exact q
  | exc x fs ρ' => rw [e] at q; exact q
  | bad => rw [e] at q; exact q
theorem ms_one (h1 : MS X hx W st g) : MSs X hx W [st] g := pss_one h1
theorem ms_frz (i : Nat) (h1 : MSs X hx W rest g) : MSs X hx W rest (gFrz i g) := pss_imp h1 fun D σ H ⟨b, S, ρ, R, q⟩ => by
  unfold gFrz at q
  split at q
  · rename_i ds e
    obtain ⟨S', s1, R'⟩ := R.freeze e
    exact ⟨b, S', _, R', PoS.up s1 q⟩
  · exact ⟨b, S, ρ, R, q⟩
  · exact q.elim
theorem ms_if {t : Sl → Res Bool} {a1 a2 : List Stmt} (hc : MT X hx W c t) (h1 : MSs X hx W a1 g) (h2 : MSs X hx W a2 h) : MS X hx W (.If c a1 a2 pos) (gIf t g h) := ps_imp (ps_if hc h1 h2) fun D σ H ⟨b, S, ρ, R, q⟩ =>
  ⟨b, S, ρ, R, rS_po R q fun d v S1 H1 g1 r1 k => by
    cases r1
    cases d with
    | true => exact iteT ⟨b, S1, ρ, R.grow g1, PoS.up g1.s k⟩
    | false => exact iteF ⟨b, S1, ρ, R.grow g1, PoS.up g1.s k⟩⟩
theorem ms_ret (he : ME X hx W e f) : MS X hx W (.Return (some e) pos) (gRet f) := ps_imp (ps_ret he) fun D σ H ⟨b, S, ρ, R, q⟩ =>
  ⟨b, S, ρ, R, rS_po R q fun d v S1 H1 g1 r1 k => k S1 H1 v (R.grow g1).bok (.inl r1)⟩
/-- return x, x a list that this slot alone holds; return of a new list -/
@[simp] def gRetO (i : Nat) (ρ : Sl) : Out := match ρ[i]? with
  | some (.o ds) => .ret (.fr ds)
  | some (.v d) => .ret d
  | _ => .bad
theorem ms_retO (i : Nat) {x : Str} {p : Pos} (hv : PE X (.Name x p) (tVar i)) : MS X hx W (.Return (some (.Name x p)) pos) (gRetO i) := ps_imp (ps_ret hv) fun D σ H ⟨b, S, ρ, R, q⟩ => by
  unfold gRetO at q
  split at q
  · rename_i ds e1
    obtain ⟨p, vs, h1, h2, h3, h4, h5⟩ := R.own i ds e1
    exact ⟨_, h1, q S H _ R.bok (.inr ⟨ds, rfl, p, vs, rfl, h4, h3, h2, h5⟩)⟩
  · rename_i d e1
    obtain ⟨v, h1, h2⟩ := R.val i d e1
    exact ⟨v, h1, q S H v R.bok (.inl h2)⟩
  · exact q.elim
@[simp] def gRetF (ff : Sl → Res (List D)) (ρ : Sl) : Out := rS (ff ρ) ρ fun ds => .ret (.fr ds)
theorem ms_retF {ff : Sl → Res (List D)} (he : MF X hx W e ff) : MS X hx W (.Return (some e) pos) (gRetF ff) := ps_imp (ps_ret he) fun D σ H ⟨b, S, ρ, R, q⟩ =>
  ⟨b, S, ρ, R, rS_po R q fun d v S1 H1 g1 ⟨p, vs, h1, h2, h3, h4, h5⟩ k => k S1 H1 v (R.grow g1).bok (.inr ⟨d, rfl, p, vs, h1, same_none R.h0 h2, h3, h4, h5⟩)⟩
theorem ms_retN : MS X hx W (.Return none pos) gRetN := ps_imp ps_retN fun D σ H ⟨b, S, ρ, R, q⟩ => q S H .non R.bok (.inl .non)
theorem ms_drop (he : MR X hx W e f) (hs : swapsWith e none pos.line X.env = pure false := by rfl) : MS X hx W (.Expr e pos) (gDrop f) := ps_imp (ps_expr he hs) fun D σ H ⟨b, S, ρ, R, q⟩ =>
  ⟨b, S, ρ, R, rS_po R q fun d v S1 H1 g1 r1 k => k S1 σ H1 g1.s (R.grow g1)⟩
theorem ms_doc {x j pos'} : MS X hx W (.Expr (.Constant (.str x) j pos) pos') gNil := ps_imp ps_doc fun D σ H ⟨b, S, ρ, R, q⟩ => q S σ H (Same.refl _) R
theorem ms_set (i : Nat) {x : Str} {pos' : Pos} (hN : X.N.Nodup) (he : ME X hx W e f) (hi : X.N[i]? = some x := by rfl) (hl : Loc X.env.scope x := by first | exact Or.inl rfl | exact Or.inr rfl) (hs : swapsWith e (some (.Name x pos')) pos.line X.env = pure false := by rfl) (hf : X.fn x = true ∨ X.env.scope.names.lookup x = some .local := by first | exact .inl rfl | exact .inr rfl | assumption) :
    MS X hx W (.Assign [.Name x pos'] e pos) (gSet i f) := ps_imp (ps_set hN hi hl he hs hf) fun D σ H ⟨b, S, ρ, R, q⟩ =>
  ⟨b, S, ρ, R, rS_po R q fun d v S1 H1 g1 r1 k => k S1 _ H1 g1.s ((R.grow g1).put r1)⟩
theorem Rel.putN {K : Frg} {mg : Mg} {hx : Hx} {b : Bs} {S H S1 H1 : Hp} {ρ : Sl} {σ : L2.St} (R : Rel K mg hx b S ρ σ H) (g1 : Gr S H S1 H1) {i : Nat} {p : Addr} {vs : List V} {ds : List D} (h2 : H p = none) (h3 : S1 p = none) (h4 : H1 p = some (.lst vs)) (h5 : RpA K mg S1 vs ds) : Rel K mg hx b S1 (ρ.set i (.o ds)) (σ.set i (some (.ref p))) H1 :=
  (R.grow g1).putO h4 h3 (same_none R.h0 h2) (fun j es e1 e2 => by
    obtain ⟨p', vs', q1, q2, _⟩ := R.own j es e1
    rw [e2] at q1
    cases q1
    rw [h2] at q2
    cases q2) h5
theorem ms_setO (i : Nat) {ff : Sl → Res (List D)} {x : Str} {pos' : Pos} (hN : X.N.Nodup) (he : MF X hx W e ff) (hi : X.N[i]? = some x := by rfl) (hl : Loc X.env.scope x := by first | exact Or.inl rfl | exact Or.inr rfl) (hs : swapsWith e (some (.Name x pos')) pos.line X.env = pure false := by rfl) (hf : X.fn x = true ∨ X.env.scope.names.lookup x = some .local := by first | exact .inl rfl | exact .inr rfl | assumption) :
    MS X hx W (.Assign [.Name x pos'] e pos) (gSetO i ff) := ps_imp (ps_set hN hi hl he hs hf) fun D σ H ⟨b, S, ρ, R, q⟩ =>
  ⟨b, S, ρ, R, rS_po R q fun d v S1 H1 g1 ⟨p, vs, h1, h2, h3, h4, h5⟩ k => by
    subst h1
    exact k S1 _ H1 g1.s (R.putN g1 h2 h3 h4 h5)⟩
end

/-! ### targets -/
abbrev FG := D → Sl → Option Sl
def AgreeOff (is : List Nat) (σ σ' : L2.St) : Prop := σ'.length = σ.length ∧ ∀ i, i ∉ is → σ'[i]? = σ[i]?
def gG (K : Frg) (mg : Mg) (hx : Hx) (is : List Nat) (g : FG) : TG := fun v σ H Q => ∃ b S ρ d, Rel K mg hx b S ρ σ H ∧ Rp K mg S v d ∧ match g d ρ with
  | some ρ' => ∀ σ', Rel K mg hx b S ρ' σ' H → AgreeOff is σ σ' → Q σ' H
  | _ => False
abbrev MG (X : Cx) (hx : Hx) (tg : Expr) (is : List Nat) (g : FG) : Prop := PG X tg (gG X.K X.mg hx is g)
@[simp] def gName (i : Nat) : FG := fun d ρ => some (ρ.set i (.v d))
/-- a tuple's targets, from the left -/
abbrev FGs := List D → Sl → Option Sl
def gGs (K : Frg) (mg : Mg) (hx : Hx) (is : List Nat) (g : FGs) : TGs := fun vs σ H Q => ∃ b S ρ ds, Rel K mg hx b S ρ σ H ∧ RpA K mg S vs ds ∧ match g ds ρ with
  | some ρ' => ∀ σ', Rel K mg hx b S ρ' σ' H → AgreeOff is σ σ' → Q σ' H
  | _ => False
abbrev MGs (X : Cx) (hx : Hx) (tg : List Expr) (is : List Nat) (g : FGs) : Prop := PGs X tg (gGs X.K X.mg hx is g)
@[simp] def gsNil : FGs := fun ds ρ => match ds with
  | [] => some ρ
  | _ => none
@[simp] def gsCons (g : FG) (h : FGs) : FGs := fun ds ρ => match ds with
  | d :: r => (g d ρ).bind fun ρ1 => h r ρ1
  | _ => none
@[simp] def gTup (n : Nat) (h : FGs) : FG := fun d ρ => match d with
  | .tup ds => if ds.length = n then h ds ρ else none
  | _ => none
section
variable {X : Cx} {hx : Hx} {pos : Pos}
theorem agree_set {i : Nat} {σ : L2.St} {v : Option V} : AgreeOff [i] σ (σ.set i v) := ⟨by simp, fun j h => by rw [List.getElem?_set_ne (by simpa [eq_comm] using h)]⟩
theorem agree_trans {is js : List Nat} {a b c : L2.St} (h : AgreeOff is a b) (k : AgreeOff js b c) : AgreeOff (is ++ js) a c := ⟨k.1.trans h.1, fun i hi => by
  simp only [List.mem_append, not_or] at hi
  exact (k.2 i hi.2).trans (h.2 i hi.1)⟩
theorem mg_name (i : Nat) {x : Str} (hN : X.N.Nodup) (hi : X.N[i]? = some x := by rfl) (hl : Loc X.env.scope x := by first | exact Or.inl rfl | exact Or.inr rfl) (hf : X.fn x = true ∨ X.env.scope.names.lookup x = some .local := by first | exact .inl rfl | exact .inr rfl | assumption) : MG X hx (.Name x pos) [i] (gName i) :=
  pg_imp (pg_name hN hi hl hf) fun v σ H Q ⟨b, S, ρ, d, R, r, q⟩ => q _ (R.put r) agree_set
theorem pgs_imp {X : Cx} {es : List Expr} {t t' : TGs} (h : PGs X es t) (i : ∀ vs σ H Q, t' vs σ H Q → t vs σ H Q) : PGs X es t' := ⟨fun pins s σ H v u Q I r q => h.run pins s σ H v u Q I r (i v σ H Q q)⟩
theorem mgs_nil : MGs X hx [] [] gsNil := pgs_imp pgs_nil fun vs σ H Q ⟨b, S, ρ, ds, R, r, q⟩ => by
  cases r with
  | nil => exact ⟨rfl, q σ R ⟨rfl, fun _ _ => rfl⟩⟩
  | cons _ _ => exact q.elim
theorem mgs_cons {e : Expr} {es : List Expr} {is js : List Nat} {g : FG} {h : FGs} (h1 : MG X hx e is g) (h2 : MGs X hx es js h) (hs : (assignEach (e :: es) X.env).map (·.2) = assign e X.env :: (assignEach es X.env).map (·.2) := by rfl) : MGs X hx (e :: es) (is ++ js) (gsCons g h) :=
  pgs_imp (pgs_cons h1 h2 hs) fun vs σ H Q ⟨b, S, ρ, ds, R, r, q⟩ => by
    cases r with
    | nil => exact q.elim
    | @cons v vs d ds r1 r2 =>
      refine ⟨v, vs, rfl, b, S, ρ, d, R, r1, ?_⟩
      simp only [gsCons] at q
      cases e : g d ρ with
      | some ρ1 =>
        rw [e] at q
        exact fun σ1 R1 a1 => ⟨b, S, ρ1, ds, R1, r2, by
          simp only [Option.bind_some] at q
          split at q
          · exact fun σ2 R2 a2 => q σ2 R2 (agree_trans a1 a2)
          · exact q.elim⟩
      | none => rw [e] at q; exact q.elim
theorem mg_tup {es : List Expr} {k : Nat} {is : List Nat} {t : FGs} {n : Nat} (hc : X.calm = true) (h : MGs X hx es is t) (hn : (assignEach es X.env).length = n := by rfl) (hst : (assignEach es X.env).findIdx? (·.1) = none := by rfl) : MG X hx (.Tuple es k pos) is (gTup n t) :=
  pg_imp (pg_tup hc h hn hst) fun v σ H Q ⟨b, S, ρ, d, R, r, q⟩ => by
    cases r with
    | @tup a xs ds h1 h2 =>
      by_cases hl : ds.length = n
      · have e : gTup n t (.tup ds) ρ = t ds ρ := if_pos hl
        rw [e] at q
        exact ⟨a, xs, rfl, same_t R.sh h1, by rw [h2.len]; exact hl, b, S, ρ, ds, R, h2, q⟩
      · have e : gTup n t (.tup ds) ρ = none := if_neg hl
        rw [e] at q
        exact q.elim
    | _ => exact q.elim
/-- a, b = e -/
@[simp] def gAsg (g : FG) (f : Sl → Res D) (ρ : Sl) : Out := rS (f ρ) ρ fun d => match g d ρ with
  | some ρ' => .nx ρ'
  | none => .bad
theorem ms_asg {W : WX} {tg e : Expr} {is : List Nat} {g : FG} {f : Sl → Res D} (he : ME X hx W e f) (hg : MG X hx tg is g) (hs : swapsWithSole [tg] e pos.line X.env = pure false := by rfl) (hw : swappedStores [tg] e X.env = pure none := by rfl)
    (h1 : (assignEach [tg] X.env).map (·.2) = [assign tg X.env] := by rfl) : MS X hx W (.Assign [tg] e pos) (gAsg g f) := ps_imp (ps_asg he hg hs hw h1) fun D σ H ⟨b, S, ρ, R, q⟩ =>
  ⟨b, S, ρ, R, rS_po R q fun d v S1 H1 g1 r1 k => by
    refine ⟨b, S1, ρ, d, R.grow g1, r1, ?_⟩
    cases e : g d ρ with
    | some ρ' => rw [e] at k; exact fun σ' R' _ => k S1 σ' H1 g1.s R'
    | none => rw [e] at k; exact k⟩
end
end PF

set_option Elab.async false
set_option linter.all false
set_option maxRecDepth 100000
set_option maxHeartbeats 4000000
namespace PF
open PySem PySem.Spec L2

/-! ### lists that a slot alone holds -/
@[simp] def gApp (i : Nat) (f : Sl → Res D) (ρ : Sl) : Out := match ρ[i]? with
  | some (.o ds) => rS (f ρ) ρ fun d => if ds.length < 16777216 then .nx (ρ.set i (.o (ds ++ [d]))) else .bad
  | _ => .bad
@[simp] def gSto (i : Nat) (fi f : Sl → Res D) (ρ : Sl) : Out := match ρ[i]? with
  | some (.o ds) => rS (f ρ) ρ fun d => rS (fi ρ) ρ fun k => match k with
    | .int n => match ixN ds.length n with
      | some j => .nx (ρ.set i (.o (ds.set j d)))
      | none => .bad
    | _ => .bad
  | _ => .bad
@[simp] noncomputable def gPopAt (j i : Nat) (f : Sl → Res D) (ρ : Sl) : Out := match ρ[i]? with
  | some (.o ds) => rS (f ρ) ρ fun k => match k with
    | .int n => if cb (-(2 ^ 63) ≤ n ∧ n < 2 ^ 63) then (match seqIndex? n ds.length with
      | some m => match ds[m]? with
        | some d => .nx ((ρ.set i (.o (ds.eraseIdx m))).set j (.v d))
        | none => .bad
      | none => .bad) else .bad
    | _ => .bad
  | _ => .bad
@[simp] def gAug (i : Nat) (g : D → D → Res D) (f : Sl → Res D) (ρ : Sl) : Out := match ρ[i]? with
  | some (.v x) => rS (f ρ) ρ fun y => rS (g x y) ρ fun z => .nx (ρ.set i (.v z))
  | _ => .bad
theorem size16 {n : Nat} (h : n < 16777216) : n < sizeLine := by rw [sizeLine_eq]; exact h
section
variable {X : Cx} {hx : Hx} {W : WX} {e c o : Expr} {f : Sl → Res D} {pos : Pos}
theorem ms_app (i : Nat) {x : Str} {p ap ep : Pos} (hv : PE X (.Name x p) (tVar i)) (he : ME X hx W e f) (hs : swapsWith (.Call (.Attribute (.Name x p) "append" ap) [e] [] ep) none pos.line X.env = pure false := by rfl)
    (h : ∀ {t}, PE X e t → PE X (.Call (.Attribute (.Name x p) "append" ap) [e] [] ep) (tBM X.K "list" rAppend (tVar i) (tCons t tNil)) := by
      intro t ht; exact pe_bm PySem.F.plainAttrs_list PySem.F.slot_list_append PySem.F.type_list_append mt_append (pv _) (pa_cons ht pa_nil)) :
    MS X hx W (.Expr (.Call (.Attribute (.Name x p) "append" ap) [e] [] ep) pos) (gApp i f) := ps_imp (ps_expr (h he) hs) fun D σ H ⟨b, S, ρ, R, q⟩ => by
  unfold gApp at q
  split at q
  · rename_i ds e1
    obtain ⟨p, vs, h1, h2, h3, h4, h5⟩ := R.own i ds e1
    refine ⟨_, h1, .inl ⟨rfl, _, SqL.of h2⟩, b, S, ρ, R, rS_po R q fun d v S1 H1 g1 r1 k => ?_⟩
    split at k
    · rename_i hl
      refine ⟨p, vs, v, rfl, rfl, g1.h _ _ h2, size16 (by rw [h5.len]; exact hl), ?_⟩
      exact k S1 σ _ g1.s ((R.grow g1).mut e1 h1 ((h5.up g1.s _ _).app (.cons r1 .nil)))
    · exact k.elim
  · exact q.elim
theorem ms_sto (i : Nat) {x : Str} {ix : Expr} {fi : Sl → Res D} {p sp : Pos} (hv : PE X (.Name x p) (tVar i)) (hi : ME X hx W ix fi) (he : ME X hx W e f)
    (ha : ∀ v, assign (.Subscript (.Name x p) ix sp) X.env v = (do
      let ov ← holding [v] (eval (.Name x p) X.env)
      let iv ← holding [v, ov] (eval ix X.env)
      standAt sp
      holding [v, ov, iv] (setItem ov iv v)
      release [v, ov, iv] []) := by intro _; rfl)
    (hs : swapsWithSole [.Subscript (.Name x p) ix sp] e pos.line X.env = pure false := by rfl) (hw : swappedStores [.Subscript (.Name x p) ix sp] e X.env = pure none := by rfl)
    (h1 : (assignEach [.Subscript (.Name x p) ix sp] X.env).map (·.2) = [assign (.Subscript (.Name x p) ix sp) X.env] := by rfl) :
    MS X hx W (.Assign [.Subscript (.Name x p) ix sp] e pos) (gSto i fi f) := ps_imp (ps_asg he (pg_sub hv hi set_list ha) hs hw h1) fun D σ H ⟨b, S, ρ, R, q⟩ => by
  unfold gSto at q
  split at q
  · rename_i ds e1
    obtain ⟨p, vs, h1, h2, h3, h4, h5⟩ := R.own i ds e1
    refine ⟨b, S, ρ, R, rS_po R q fun d v S1 H1 g1 r1 k => ?_⟩
    refine ⟨_, h1, b, S1, ρ, R.grow g1, rS_po (R.grow g1) (PoS.up g1.s k) fun d2 v2 S2 H2 g2 r2 k2 => ?_⟩
    cases d2 with
    | int n =>
      cases r2
      simp only at k2
      split at k2
      · rename_i j hj
        have g := g1.trans g2
        refine ⟨p, vs, n, j, rfl, rfl, g.h _ _ h2, by rw [h5.len]; exact hj, ?_⟩
        exact k2 S2 σ _ g2.s ((R.grow g).mut e1 h1 ((h5.up g.s _ _).set (r1.up g2.s _ _) j))
      · exact k2.elim
    | _ => exact k2.elim
  · exact q.elim
theorem ms_popAt (j i : Nat) {y x : Str} {p py ap ep : Pos} (hN : X.N.Nodup) (hv : PE X (.Name x p) (tVar i)) (he : ME X hx W e f) (hi : X.N[j]? = some y := by rfl) (hl : Loc X.env.scope y := by first | exact Or.inl rfl | exact Or.inr rfl)
    (hs : swapsWith (.Call (.Attribute (.Name x p) "pop" ap) [e] [] ep) (some (.Name y py)) pos.line X.env = pure false := by rfl) (hf : X.fn y = true ∨ X.env.scope.names.lookup y = some .local := by first | exact .inl rfl | exact .inr rfl | assumption)
    (h : ∀ {t}, PE X e t → PE X (.Call (.Attribute (.Name x p) "pop" ap) [e] [] ep) (tBM X.K "list" rPopAt (tVar i) (tCons t tNil)) := by
      intro t ht; exact pe_bm PySem.F.plainAttrs_list PySem.F.slot_list_pop PySem.F.type_list_pop mt_popAt (pv _) (pa_cons ht pa_nil)) :
    MS X hx W (.Assign [.Name y py] (.Call (.Attribute (.Name x p) "pop" ap) [e] [] ep) pos) (gPopAt j i f) := ps_imp (ps_set hN hi hl (h he) hs hf) fun D σ H ⟨b, S, ρ, R, q⟩ => by
  unfold gPopAt at q
  split at q
  · rename_i ds e1
    obtain ⟨p, vs, h1, h2, h3, h4, h5⟩ := R.own i ds e1
    refine ⟨_, h1, .inl ⟨rfl, _, SqL.of h2⟩, b, S, ρ, R, rS_po R q fun d v S1 H1 g1 r1 k => ?_⟩
    cases d with
    | int n =>
      cases r1
      simp only at k
      split at k
      · rename_i hb0
        have hb := of_cb hb0
        split at k
        · rename_i m hm
          split at k
          · rename_i d hd
            obtain ⟨u, hu, ru⟩ := (h5.up g1.s _ _).get hd
            refine ⟨p, vs, n, m, u, rfl, rfl, g1.h _ _ h2, hb.1, hb.2, by rw [h5.len]; exact hm, hu, ?_⟩
            exact k S1 _ _ g1.s (((R.grow g1).mut e1 h1 ((h5.up g1.s _ _).erase m)).put ru)
          · exact k.elim
        · exact k.elim
      · exact k.elim
    | _ => exact k.elim
  · exact q.elim
theorem ms_aug (i : Nat) {x : Str} {op : Operator} {ti : TIp} {g : D → D → Res D} {pos' : Pos} (hN : X.N.Nodup) (ho : PIp X op ti) (hr : O2 X.K X.mg ti g) (he : ME X hx W e f) (hi : X.N[i]? = some x := by rfl) (hl : Loc X.env.scope x := by first | exact Or.inl rfl | exact Or.inr rfl) (hf : X.fn x = true ∨ X.env.scope.names.lookup x = some .local := by first | exact .inl rfl | exact .inr rfl | assumption) :
    MS X hx W (.AugAssign (.Name x pos') op e pos) (gAug i g f) := ps_imp (ps_aug hN hi hl he ho hf) fun D σ H ⟨b, S, ρ, R, q⟩ => by
  unfold gAug at q
  split at q
  · rename_i d e1
    obtain ⟨v, h1, h2⟩ := R.val i d e1
    refine ⟨v, h1, b, S, ρ, R, rS_po R q fun d2 v2 S1 H1 g1 r1 k => ?_⟩
    refine hr S1 σ H1 v v2 d d2 W _ g1.i (Rd1.of g1.i (h2.up g1.s _ _)) (Rd1.of g1.i r1) (rS_po (R.grow g1) (PoS.up g1.s k) fun d3 v3 S3 H3 g3 r3 k3 => ?_)
    exact k3 S3 _ H3 g3.s (((R.grow g1).grow g3).put r3)
  · exact q.elim
end

/-! ### what is walked -/
structure ItD (K : Frg) (mg : Mg) (S1 : Hp) (J : It) (ds : List D) : Prop where
  go : ∀ S H i d, Same S1 S → Same S H → ds[i]? = some d → J.go i H ∧ ∀ x H', J.yld i H x H' → ∃ S', Gr S H S' H' ∧ Rp K mg S' x d
  stop : ∀ S H, Same S1 S → Same S H → J.stop ds.length H
abbrev rrI (K : Frg) (mg : Mg) : RR It (List D) := fun _ S _ J ds => ItD K mg S J ds
abbrev MI (X : Cx) (hx : Hx) (W : WX) (tg e : Expr) (f : Sl → Res (List D)) : Prop := PI X tg e (tG X.K X.mg hx (rrI X.K X.mg) W f)
theorem Po.upI {K : Frg} {mg : Mg} {W : WX} {S H S' H' : Hp} {σ : L2.St} {r : Res (List D)} {Q : It → Hp → Prop} (g : Gr S H S' H') (h : Po K mg (rrI K mg) W S σ H r Q) : Po K mg (rrI K mg) W S' σ H' r Q := h.up g fun _ _ _ _ _ q => q
section
variable {K : Frg} {mg : Mg} {S : Hp} {a : Addr} {vs : List V} {ds : List D}
theorem itd_list (h : SqL K S a vs) (r : RpA K mg S vs ds) : ItD K mg S (Itl K a) ds where
  go := fun S' H i d s1 s2 e => by
    obtain ⟨v, h1, h2⟩ := (r.up s1 _ _).get e
    have q : SqL K H a vs := same_l (s1.trans s2) h
    exact ⟨⟨vs, v, q, h1⟩, fun x H' y => ⟨S', by rw [y.1]; exact Gr.refl s2, by
      have z := y.2 vs q
      rw [h1] at z
      cases z
      exact h2⟩⟩
  stop := fun S' H s1 s2 => ⟨vs, same_l (s1.trans s2) h, by rw [r.len]; exact Nat.le_refl _⟩
theorem itd_tup (h : SqT K S a vs) (r : RpA K mg S vs ds) : ItD K mg S (Itt K a) ds where
  go := fun S' H i d s1 s2 e => by
    obtain ⟨v, h1, h2⟩ := (r.up s1 _ _).get e
    have q : SqT K H a vs := same_t (s1.trans s2) h
    exact ⟨⟨vs, v, q, h1⟩, fun x H' y => ⟨S', by rw [y.1]; exact Gr.refl s2, by
      have z := y.2 vs q
      rw [h1] at z
      cases z
      exact h2⟩⟩
  stop := fun S' H s1 s2 => ⟨vs, same_t (s1.trans s2) h, by rw [r.len]; exact Nat.le_refl _⟩
/-- lo, lo + 1, .. -/
def rngD (lo : Int) (n : Nat) : List D := (List.range n).map fun (k : Nat) => .int (lo + (k : Int))
theorem rngD_len (lo : Int) (n : Nat) : (rngD lo n).length = n := by simp [rngD]
theorem rngD_get {lo : Int} {n i : Nat} {d : D} (h : (rngD lo n)[i]? = some d) : i < n ∧ d = .int (lo + (i : Int)) := by
  unfold rngD at h
  rw [List.getElem?_map] at h
  by_cases hi : i < n
  · rw [List.getElem?_range hi] at h
    exact ⟨hi, (Option.some.inj h).symm⟩
  · rw [List.getElem?_eq_none (by simpa using hi)] at h
    cases h
theorem itd_rng (lo : Int) (n : Nat) : ItD K mg S (Itr lo n) (rngD lo n) where
  go := fun S' H i d s1 s2 e => by
    obtain ⟨h1, rfl⟩ := rngD_get e
    exact ⟨h1, fun x H' y => ⟨S', by rw [y.1]; exact Gr.refl s2, by rw [y.2]; exact .int _⟩⟩
  stop := fun S' H s1 s2 => by rw [rngD_len]; exact Nat.le_refl n
/-- the signs of a text -/
def signsD (x : Str) : List D := x.cps.toList.map fun c => .str ⟨#[c]⟩
theorem itd_str (x : Str) : ItD K mg S (Its x) (signsD x) where
  go := fun S' H i d s1 s2 e => by
    unfold signsD at e
    rw [List.getElem?_map, Array.getElem?_toList] at e
    cases q : x.cps[i]? with
    | none => rw [q] at e; cases e
    | some c =>
      rw [q] at e
      cases (Option.some.inj e)
      have hi : i < x.cps.size := (Array.getElem?_eq_some_iff.mp q).1
      refine ⟨hi, fun y H' z => ⟨S', by rw [z.1]; exact Gr.refl s2, ?_⟩⟩
      obtain ⟨_, c', h1, h2⟩ := z
      rw [q] at h1
      cases h1
      rw [h2]
      exact .str _
  stop := fun S' H s1 s2 => by
    show x.cps.size ≤ (signsD x).length
    simp [signsD]
end
section
variable {X : Cx} {hx : Hx} {W : WX} {tg e a b c : Expr} {f fa fb : Sl → Res D} {pos p : Pos}
theorem pi_or {w1 w2 : TI} (h1 : PI X tg e w1) (h2 : PI X tg e w2) : PI X tg e (fun σ H R => w1 σ H R ∨ w2 σ H R) := ⟨fun pins s σ H R I h => h.elim (h1.run pins s σ H R I) (h2.run pins s σ H R I)⟩
@[simp] def dSeq (d : D) : Res (List D) := match d with
  | .lst ds => .ok ds
  | .rol ds => .ok ds
  | .tup ds => .ok ds
  | .str x => .ok (signsD x)
  | _ => .bad
@[simp] def iSeq (f : Sl → Res D) (ρ : Sl) : Res (List D) := (f ρ).bind dSeq
theorem mi_seq (h : ME X hx W e f) : MI X hx W tg e (iSeq f) := pi_imp (pi_or (pi_list h) (pi_or (pi_tup h) (pi_str h))) fun σ H Q ⟨b, S, ρ, R, q⟩ => by
  unfold iSeq at q
  cases ef : f ρ with
  | ok d =>
    rw [ef] at q
    have go : ∀ {Q' : VK}, (∀ v S' H', Gr S H S' H' → Rp X.K X.mg S' v d → Q' v H') → tG X.K X.mg hx (rrE X.K X.mg) W f σ H Q' := fun {Q'} k => ⟨b, S, ρ, R, by rw [ef]; exact k⟩
    cases d with
    | lst ds => exact .inl (go fun v S1 H1 g1 r1 => by
        cases r1 with
        | lst h1 h2 => exact ⟨_, rfl, ⟨_, SqL.of (g1.i _ _ h1)⟩, q _ S1 H1 g1 (itd_list (SqL.of h1) h2)⟩)
    | rol ds => exact .inl (go fun v S1 H1 g1 r1 => by
        cases r1 with
        | rol h1 h2 => exact ⟨_, rfl, ⟨_, same_l g1.i h1⟩, q _ S1 H1 g1 (itd_list h1 h2)⟩)
    | tup ds => exact .inr (.inl (go fun v S1 H1 g1 r1 => by
        cases r1 with
        | tup h1 h2 => exact ⟨_, rfl, ⟨_, same_t g1.i h1⟩, q _ S1 H1 g1 (itd_tup h1 h2)⟩))
    | str x => exact .inr (.inr (go fun v S1 H1 g1 r1 => by
        cases r1 with
        | str _ => exact ⟨_, rfl, q _ S1 H1 g1 (itd_str x)⟩))
    | _ => exact q.elim
  | exc x fs =>
    rw [ef] at q
    exact .inl ⟨b, S, ρ, R, by rw [ef]; exact q⟩
  | bad => rw [ef] at q; exact q.elim
@[simp] noncomputable def gRng1 (ds : List D) : Res (List D) := match ds with
  | [.int j] => if cb (-(2 ^ 62) ≤ j ∧ j < 2 ^ 62) then .ok (rngD 0 j.toNat) else .bad
  | _ => .bad
@[simp] noncomputable def gRng2 (ds : List D) : Res (List D) := match ds with
  | [.int i, .int j] => if cb ((-(2 ^ 62) ≤ i ∧ i < 2 ^ 62) ∧ -(2 ^ 62) ≤ j ∧ j < 2 ^ 62) then .ok (rngD i (j - i).toNat) else .bad
  | _ => .bad
theorem RpA.two {K : Frg} {mg : Mg} {S : Hp} {vs : List V} {d e : D} (r : RpA K mg S vs [d, e]) : ∃ v w, vs = [v, w] ∧ Rp K mg S v d ∧ Rp K mg S w e := by
  cases r with
  | cons a t =>
    cases t with
    | cons b t => cases t; exact ⟨_, _, rfl, a, b⟩
theorem RpA.one {K : Frg} {mg : Mg} {S : Hp} {vs : List V} {d : D} (r : RpA K mg S vs [d]) : ∃ v, vs = [v] ∧ Rp K mg S v d := by
  cases r with
  | cons a t => cases t; exact ⟨_, rfl, a⟩
@[simp] noncomputable def iRg1 (fs : Sl → Res (List D)) (ρ : Sl) : Res (List D) := (fs ρ).bind gRng1
@[simp] noncomputable def iRg2 (fs : Sl → Res (List D)) (ρ : Sl) : Res (List D) := (fs ρ).bind gRng2
theorem mi_rng1 {fs : Sl → Res (List D)} (hg : Gl X "range") (hm : X.mg "range" = none) (ha : MA X hx W [a] fs) (hs : starEach [a] X.env = [(false, eval a X.env)] := by rfl) : MI X hx W tg (.Call (.Name "range" p) [a] [] pos) (iRg1 fs) :=
  pi_imp (pi_range1 hg hm ha hs) fun σ H Q ⟨b, S, ρ, R, q⟩ => ⟨b, S, ρ, R, q.bind fun d v S1 H1 g1 r1 k => by
    unfold gRng1 at k
    split at k
    · rename_i j
      obtain ⟨v1, rfl, r2⟩ := r1.one
      cases r2
      split at k
      · rename_i hb0
        have hb := of_cb hb0
        exact ⟨j, rfl, hb.1, hb.2, k _ S1 H1 g1 (itd_rng 0 _)⟩
      · exact k.elim
    · exact k.elim⟩
theorem mi_rng2 {fs : Sl → Res (List D)} (hg : Gl X "range") (hm : X.mg "range" = none) (ha : MA X hx W [a, c] fs) (hs : starEach [a, c] X.env = [(false, eval a X.env), (false, eval c X.env)] := by rfl) (hs2 : starEach [c] X.env = [(false, eval c X.env)] := by rfl) : MI X hx W tg (.Call (.Name "range" p) [a, c] [] pos) (iRg2 fs) :=
  pi_imp (pi_range2 hg hm ha hs hs2) fun σ H Q ⟨b, S, ρ, R, q⟩ => ⟨b, S, ρ, R, q.bind fun d v S1 H1 g1 r1 k => by
    unfold gRng2 at k
    split at k
    · rename_i i j
      obtain ⟨v1, v2, rfl, r2, r3⟩ := r1.two
      cases r2
      cases r3
      split at k
      · rename_i hb0
        have hb := of_cb hb0
        exact ⟨i, j, rfl, ⟨hb.1.1, hb.1.2, hb.2.1, hb.2.2⟩, k _ S1 H1 g1 (itd_rng i _)⟩
      · exact k.elim
    · exact k.elim⟩
end

/-! ### for, while -/
def forRun (g : FG) (body : Sl → Out) : List D → Sl → Out
  | [], ρ => .nx ρ
  | d :: ds, ρ => match g d ρ with
    | some ρ1 => match body ρ1 with
      | .nx ρ2 => forRun g body ds ρ2
      | .ct ρ2 => forRun g body ds ρ2
      | .bk ρ2 => .nx ρ2
      | .ret d => .ret d
      | .exc x fs ρ2 => .exc x fs ρ2
      | .bad => .bad
    | none => .bad
@[simp] def gFor (items : Sl → Res (List D)) (g : FG) (body : Sl → Out) (ρ : Sl) : Out := rS (items ρ) ρ fun ds => forRun g body ds ρ
def whRun (t : Sl → Res Bool) (body : Sl → Out) : Nat → Sl → Out
  | 0, _ => .bad
  | n + 1, ρ => rS (t ρ) ρ fun b => if b then (match body ρ with
      | .nx ρ2 => whRun t body n ρ2
      | .ct ρ2 => whRun t body n ρ2
      | .bk ρ2 => .nx ρ2
      | .ret d => .ret d
      | .exc x fs ρ2 => .exc x fs ρ2
      | .bad => .bad) else .nx ρ
def gWh (fuel : Sl → Nat) (t : Sl → Res Bool) (body : Sl → Out) (ρ : Sl) : Out := whRun t body (fuel ρ) ρ
section
variable {X : Cx} {hx : Hx} {W : WX} {tg e c : Expr} {body : List Stmt} {pos : Pos}
theorem ms_for {is : List Nat} {items : Sl → Res (List D)} {g : FG} {gb : Sl → Out} (hp : PassesOwn (model X.prog X.w) X.A X.env X.xe) (hc : X.calm = true) (hi : MI X hx W tg e items) (hg : MG X hx tg is g) (hb : MSs X hx W body gb)
    (hs : ∀ x, foldedSetIterable e X.env x = pure x := by intro _; rfl) : MS X hx W (.For tg e body [] pos) (gFor items g gb) := ps_imp (ps_for hp hc hi hg hb hs) fun D σ H ⟨b, S, ρ, R, q⟩ =>
  ⟨b, S, ρ, R, rS_po R q fun ds J S1 H1 g1 r1 k => by
    refine ⟨fun i m σ' H' => m = ds.length - i ∧ i ≤ ds.length ∧ ∃ S' ρ', Same S1 S' ∧ Rel X.K X.mg hx b S' ρ' σ' H' ∧ PoS X.K X.mg hx W b S' (forRun g gb (ds.drop i) ρ') D, ⟨ds.length, rfl, Nat.zero_le _, S1, ρ, Same.refl _, R.grow g1, PoS.up g1.s k⟩, ?_⟩
    rintro i m σ' H' ⟨rfl, hi, S', ρ', s1, R', k'⟩
    by_cases hlt : i < ds.length
    · have ed : ds.drop i = ds[i] :: ds.drop (i + 1) := List.drop_eq_getElem_cons hlt
      obtain ⟨go, yl⟩ := r1.go S' H' i ds[i] s1 R'.sh (List.getElem?_eq_getElem hlt)
      refine .inr ⟨go, fun σ2 H2 => ∃ S2 ρ2, Same S1 S2 ∧ Rel X.K X.mg hx b S2 ρ2 σ2 H2 ∧ PoS X.K X.mg hx W b S2 (forRun g gb (ds.drop (i + 1)) ρ2) D, fun σ2 H2 w => ⟨ds.length - (i + 1), by omega, rfl, hlt, w⟩, fun x H2 y => ?_⟩
      obtain ⟨S2, g2, r2⟩ := yl x H2 y
      refine ⟨b, S2, ρ', ds[i], R'.grow g2, r2, ?_⟩
      rw [ed] at k'
      unfold forRun at k'
      cases eg : g ds[i] ρ' with
      | none => rw [eg] at k'; exact k'.elim
      | some ρ1 =>
        rw [eg] at k'
        intro σ3 R3 _
        refine ⟨b, S2, ρ1, R3, ?_⟩
        simp only at k'
        cases eb : gb ρ1 with
        | nx ρ2 => rw [eb] at k'; exact fun S4 σ4 H4 s4 R4 => ⟨S4, ρ2, (s1.trans g2.s).trans s4, R4, PoS.up (g2.s.trans s4) k'⟩
        | ct ρ2 => rw [eb] at k'; exact fun S4 σ4 H4 s4 R4 => ⟨S4, ρ2, (s1.trans g2.s).trans s4, R4, PoS.up (g2.s.trans s4) k'⟩
        | bk ρ2 => rw [eb] at k'; exact fun S4 σ4 H4 s4 R4 => k' S4 σ4 H4 (g2.s.trans s4) R4
        | ret d => rw [eb] at k'; exact k'
        | exc x fs ρ2 => rw [eb] at k'; exact PoS.up g2.s k'
        | bad => rw [eb] at k'; exact k'.elim
    · have ei : i = ds.length := by omega
      subst ei
      rw [List.drop_length] at k'
      exact .inl ⟨r1.stop S' H' s1 R'.sh, k' S' σ' H' (Same.refl _) R'⟩⟩
theorem ms_while {t : Sl → Res Bool} {gb : Sl → Out} (fuel : Sl → Nat) (hp : PassesOwn (model X.prog X.w) X.A X.env X.xe) (hc : MT X hx W c t) (hb : MSs X hx W body gb) : MS X hx W (.While c body [] pos) (gWh fuel t gb) := ps_imp (ps_while hp hc hb) fun D σ H ⟨b, S, ρ, R, q⟩ => by
  refine ⟨fun m σ' H' => ∃ S' ρ', Same S S' ∧ Rel X.K X.mg hx b S' ρ' σ' H' ∧ PoS X.K X.mg hx W b S' (whRun t gb m ρ') D, ⟨fuel ρ, S, ρ, Same.refl _, R, q⟩, ?_⟩
  rintro m σ' H' ⟨S', ρ', s1, R', k'⟩
  cases m with
  | zero => exact k'.elim
  | succ m =>
    refine ⟨b, S', ρ', R', rS_po R' k' fun d v S1 H1 g1 r1 k => ?_⟩
    cases r1
    cases d with
    | false => exact iteF (k S1 σ' H1 g1.s (R'.grow g1))
    | true =>
      refine iteT ⟨fun σ2 H2 => ∃ S2 ρ2, Same S S2 ∧ Rel X.K X.mg hx b S2 ρ2 σ2 H2 ∧ PoS X.K X.mg hx W b S2 (whRun t gb m ρ2) D, fun σ2 H2 w => ⟨m, Nat.lt_succ_self _, w⟩, b, S1, ρ', R'.grow g1, ?_⟩
      simp only [if_true] at k
      cases eb : gb ρ' with
      | nx ρ2 => rw [eb] at k; exact fun S4 σ4 H4 s4 R4 => ⟨S4, ρ2, (s1.trans g1.s).trans s4, R4, PoS.up (g1.s.trans s4) k⟩
      | ct ρ2 => rw [eb] at k; exact fun S4 σ4 H4 s4 R4 => ⟨S4, ρ2, (s1.trans g1.s).trans s4, R4, PoS.up (g1.s.trans s4) k⟩
      | bk ρ2 => rw [eb] at k; exact fun S4 σ4 H4 s4 R4 => k S4 σ4 H4 (g1.s.trans s4) R4
      | ret d => rw [eb] at k; exact k
      | exc x fs ρ2 => rw [eb] at k; exact PoS.up g1.s k
      | bad => rw [eb] at k; exact k.elim
end

/-! ### comprehensions -/
@[simp] def wipeS (ρ : Sl) : List Nat → Sl
  | [] => ρ
  | v :: vs => (wipeS ρ vs).set v .e
theorem Rel.wipeL {K : Frg} {mg : Mg} {hx : Hx} {b : Bs} {S H : Hp} {ρ : Sl} {σ : L2.St} (R : Rel K mg hx b S ρ σ H) : ∀ vs : List Nat, Rel K mg hx b S (wipeS ρ vs) (wipe σ vs) H
  | [] => R
  | v :: vs => (R.wipeL vs).wipe1
def Res.nx {α : Type} (r : Res α) : Res α := match r with
  | .ok a => .ok a
  | _ => .bad
def W0 : WX := fun _ _ _ _ => False
def lcRun (g : FG) (t : Sl → Res Bool) (f : Sl → Res D) (ρ : Sl) : List D → List D → Res (List D)
  | [], acc => .ok acc
  | d :: ds, acc => match g d ρ with
    | none => .bad
    | some ρ1 => (t ρ1).nx.bind fun b => if b then (f ρ1).nx.bind fun y => if acc.length < 16777216 then lcRun g t f ρ ds (acc ++ [y]) else .bad
      else lcRun g t f ρ ds acc
@[simp] def fLc (items : Sl → Res (List D)) (g : FG) (t : Sl → Res Bool) (f : Sl → Res D) (vs : List Nat) (ρ : Sl) : Res (List D) := (items ρ).bind fun ds => lcRun g t f (wipeS ρ vs) ds []
theorem wipe_get {σ : L2.St} {i : Nat} : ∀ {vs : List Nat}, i < σ.length → (wipe σ vs)[i]? = if i ∈ vs then some none else σ[i]?
  | [], _ => by simp [wipe]
  | v :: vs, h => by
    unfold wipe
    by_cases e : v = i
    · subst e
      rw [List.getElem?_set_self (by rw [wipe_length]; exact h)]
      simp
    · rw [List.getElem?_set_ne e, wipe_get (vs := vs) h]
      have : (i ∈ v :: vs) ↔ i ∈ vs := by simp [Ne.symm e]
      simp only [this]
theorem agree_wipe {is vs : List Nat} {σ σ' : L2.St} (h : AgreeOff is (wipe σ vs) σ') (hs : ∀ i ∈ is, i ∈ vs) : wipe σ' vs = wipe σ vs := by
  have hl : σ'.length = σ.length := h.1.trans (wipe_length σ vs)
  apply List.ext_getElem?
  intro i
  by_cases hi : i < σ.length
  · rw [wipe_get (by rw [hl]; exact hi), wipe_get hi]
    by_cases hm : i ∈ vs
    · simp [hm]
    · simp only [hm, if_false]
      rw [h.2 i (fun z => hm (hs i z)), wipe_get hi]
      simp [hm]
  · rw [List.getElem?_eq_none (by rw [wipe_length, hl]; omega), List.getElem?_eq_none (by rw [wipe_length]; omega)]
theorem Po.nx0 {α β : Type} {K : Frg} {mg : Mg} {R : RR α β} {W : WX} {S : Hp} {σ : L2.St} {H : Hp} {r : Res β} {Q : α → Hp → Prop} (h : Po K mg R W S σ H r.nx Q) : Po K mg R W0 S σ H r Q := by
  cases r with
  | ok d => exact h
  | exc x fs => exact h.elim
  | bad => exact h
section
variable {X : Cx} {hx : Hx} {W : WX}
abbrev MTs (X : Cx) (hx : Hx) (W : WX) (ifs : List Expr) (t : Sl → Res Bool) : Prop := PTs X ifs (tG X.K X.mg hx rrT W t)
@[simp] def tYesF (_ : Sl) : Res Bool := .ok true
theorem mts_nil : MTs X hx W [] tYesF := ⟨fun pins s σ H Q I ⟨b, S, ρ, R, q⟩ => pts_nil.run pins s σ H Q I (q true S H (Gr.refl R.sh) rfl)⟩
theorem mts_one {c : Expr} {t : Sl → Res Bool} (h : MT X hx W c t) : MTs X hx W [c] t := pts_one h
theorem lc_ok {items : Sl → Res (List D)} {g : FG} {t : Sl → Res Bool} {f : Sl → Res D} {is vs : List Nat} {K : Frg} {mg : Mg} {ts : TE} (his : ∀ i ∈ is, i ∈ vs) : ∀ σ H Q, tG K mg hx (rrF K mg) W (fLc items g t f vs) σ H Q →
    tLc (tG K mg hx (rrI K mg) W items) (gG K mg hx is g) (tG K mg hx rrT W0 t) (tG K mg hx (rrE K mg) W0 f) vs σ H Q := fun σ H Q ⟨b, S, ρ, R, q⟩ =>
  ⟨b, S, ρ, R, q.bind fun ds J S1 H1 g1 r1 k Dl hD => by
    have k1 : Po K mg (rrF K mg) W S1 σ H1 (lcRun g t f (wipeS ρ vs) ds []) Q := Po.upF g1 k
    have hS : S1 Dl = none := same_none g1.i hD
    refine ⟨fun i m H' => m = ds.length - i ∧ i ≤ ds.length ∧ ∃ S' acc vacc, Gr S1 H1 S' H' ∧ S' Dl = none ∧ H' Dl = some (.lst vacc) ∧ RpA K mg S' vacc acc ∧ Po K mg (rrF K mg) W S1 σ H1 (lcRun g t f (wipeS ρ vs) (ds.drop i) acc) Q,
      ⟨ds.length, rfl, Nat.zero_le _, S1, [], [], Gr.lay g1.i hD, hS, upd_same, .nil, k1⟩, ?_⟩
    rintro i m H' ⟨rfl, hi, S', acc, vacc, g', hS', hH', ra, k'⟩
    have R' : Rel K mg hx b S' (wipeS ρ vs) (wipe σ vs) H' := ((R.grow g1).grow g').wipeL vs
    by_cases hlt : i < ds.length
    · have ed : ds.drop i = ds[i] :: ds.drop (i + 1) := List.drop_eq_getElem_cons hlt
      obtain ⟨go, yl⟩ := r1.go S' H' i ds[i] g'.s g'.i (List.getElem?_eq_getElem hlt)
      refine .inr ⟨go, fun H2 => ∃ S2 acc2 vacc2, Gr S1 H1 S2 H2 ∧ S2 Dl = none ∧ H2 Dl = some (.lst vacc2) ∧ RpA K mg S2 vacc2 acc2 ∧ Po K mg (rrF K mg) W S1 σ H1 (lcRun g t f (wipeS ρ vs) (ds.drop (i + 1)) acc2) Q, fun H2 w => ⟨ds.length - (i + 1), by omega, rfl, hlt, w⟩, fun x H2 y => ?_⟩
      obtain ⟨S2, g2, r2⟩ := yl x H2 y
      have nD : S2 Dl = none := g2.n Dl (by rw [hH']; simp) hS'
      refine ⟨b, S2, wipeS ρ vs, ds[i], R'.grow g2, r2, ?_⟩
      rw [ed] at k'
      unfold lcRun at k'
      cases eg : g ds[i] (wipeS ρ vs) with
      | none => rw [eg] at k'; exact k'.elim
      | some ρ1 =>
        rw [eg] at k'
        intro σ3 R3 ag
        refine ⟨agree_wipe ag his, b, S2, ρ1, R3, ?_⟩
        simp only at k'
        refine Po.nx0 (W := W) ?_
        cases et : (t ρ1).nx with
        | exc x fs => cases e2 : t ρ1 <;> rw [e2] at et <;> cases et
        | bad => rw [et] at k'; exact k'.elim
        | ok bt =>
          rw [et] at k'
          intro bb S4 H4 g4 e4
          cases e4
          have gg := (g'.trans g2).trans g4
          have h4D : H4 Dl = some (.lst vacc) := g4.h _ _ (g2.h _ _ hH')
          have n4 : S4 Dl = none := g4.n Dl (by rw [g2.h _ _ hH']; simp) nD
          cases bt with
          | false => exact iteF ⟨S4, acc, vacc, gg, n4, h4D, ra.up (g2.s.trans g4.s) _ _, k'⟩
          | true =>
            refine iteT ⟨b, S4, ρ1, R3.grow g4, ?_⟩
            simp only [Res.bind_ok, if_true] at k'
            refine Po.nx0 (W := W) ?_
            cases ef : (f ρ1).nx with
            | exc x fs => cases e2 : f ρ1 <;> rw [e2] at ef <;> cases ef
            | bad => rw [ef] at k'; exact k'.elim
            | ok y =>
              rw [ef] at k'
              intro v S5 H5 g5 r5
              simp only [Res.bind_ok] at k'
              split at k'
              · rename_i hl
                have g45 := gg.trans g5
                have h5D : H5 Dl = some (.lst vacc) := g5.h _ _ h4D
                have n5 : S5 Dl = none := g5.n Dl (by rw [h4D]; simp) n4
                refine ⟨vacc, h5D, size16 (by rw [ra.len]; exact hl), S5, acc ++ [y], vacc ++ [v], ⟨g45.s, fun a o e => ?_, fun a o e => ?_, g45.n⟩, n5, upd_same, (ra.up ((g2.s.trans g4.s).trans g5.s) _ _).app (.cons r5 .nil), k'⟩
                · rw [upd_ne (fun z => by rw [z, hD] at e; cases e)]; exact g45.h a o e
                · rw [upd_ne (fun z => by rw [z, n5] at e; cases e)]; exact g45.i a o e
              · exact k'.elim
    · have ei : i = ds.length := by omega
      subst ei
      rw [List.drop_length] at k'
      exact .inl ⟨r1.stop S' H' g'.s g'.i, k' _ S' H' g' ⟨Dl, vacc, rfl, hD, hS', hH', ra⟩⟩⟩
theorem mf_lc {elt tg iter : Expr} {ifs : List Expr} {scope : Scope} {own : List (Str × Nat)} {pos : Pos} {items : Sl → Res (List D)} {is : List Nat} {g : FG} {t : Sl → Res Bool} {f : Sl → Res D} (hc : X.calm = true) (hN : X.N.Nodup) (hi : MI X hx W tg iter items) (ok : BlkOk X.N X.env.scope scope own)
    (hg : ∀ (s : Shared) (H : Hp) (C : Addr) (cl : List (Str × Addr)) (fp : List Addr), MG (X.blk s H scope (compEnvC scope cl C X.env) fp) hx tg is g) (ht : ∀ (s : Shared) (H : Hp) (C : Addr) (cl : List (Str × Addr)) (fp : List Addr), MTs (X.blk s H scope (compEnvC scope cl C X.env) fp) hx W0 ifs t)
    (he : ∀ (s : Shared) (H : Hp) (C : Addr) (cl : List (Str × Addr)) (fp : List Addr), ME (X.blk s H scope (compEnvC scope cl C X.env) fp) hx W0 elt f) (his : (is.all fun i => (own.map (·.2)).contains i) = true := by decide) (hs : ∀ x, foldedSetIterable iter X.env x = pure x := by intro _; rfl) :
    MF X hx W (.ListComp elt [⟨tg, iter, ifs, 0⟩] scope pos) (fLc items g t f (own.map (·.2))) :=
  pe_imp (pe_lc hc hN hi ok hg ht he hs) (lc_ok (ts := fun _ _ _ => True) fun i hi => by
    have h1 := List.all_eq_true.mp his i hi
    simpa using h1)
theorem ms_setLcO (i : Nat) {y : Str} {py : Pos} {elt tg iter : Expr} {ifs : List Expr} {scope : Scope} {own : List (Str × Nat)} {pos spos : Pos} {items : Sl → Res (List D)} {is : List Nat} {g : FG} {t : Sl → Res Bool} {f : Sl → Res D} (hc : X.calm = true) (hN : X.N.Nodup)
    (hsw : swapsWith (.ListComp elt [⟨tg, iter, ifs, 0⟩] scope pos) (some (.Name y py)) spos.line X.env = pure true) (hi : MI X hx W tg iter items) (ok : BlkOk X.N X.env.scope scope own)
    (hg : ∀ (s : Shared) (H : Hp) (C : Addr) (cl : List (Str × Addr)) (fp : List Addr), MG (X.blk s H scope (compEnvC scope cl C X.env) fp) hx tg is g) (ht : ∀ (s : Shared) (H : Hp) (C : Addr) (cl : List (Str × Addr)) (fp : List Addr), MTs (X.blk s H scope (compEnvC scope cl C X.env) fp) hx W0 ifs t)
    (he : ∀ (s : Shared) (H : Hp) (C : Addr) (cl : List (Str × Addr)) (fp : List Addr), ME (X.blk s H scope (compEnvC scope cl C X.env) fp) hx W0 elt f) (hy : X.N[i]? = some y := by rfl) (hyl : X.env.scope.names.lookup y = some .local := by rfl) (his : (is.all fun i => (own.map (·.2)).contains i) = true := by decide) (hs : ∀ x, foldedSetIterable iter X.env x = pure x := by intro _; rfl) :
    MS X hx W (.Assign [.Name y py] (.ListComp elt [⟨tg, iter, ifs, 0⟩] scope pos) spos) (gSetO i (fLc items g t f (own.map (·.2)))) :=
  ps_imp (ps_setLc hc hN hy hyl hsw hi ok hg ht he hs) fun D σ H ⟨b, S, ρ, R, q⟩ => lc_ok (ts := fun _ _ _ => True) (fun i hi => by
    have h1 := List.all_eq_true.mp his i hi
    simpa using h1) σ H _ ⟨b, S, ρ, R, rS_po R q fun d v S1 H1 g1 ⟨p, vs, h1, h2, h3, h4, h5⟩ k => by
      subst h1
      exact k S1 _ H1 g1.s (R.putN g1 h2 h3 h4 h5)⟩
end
end PF

set_option Elab.async false
set_option linter.all false
set_option maxRecDepth 100000
set_option maxHeartbeats 4000000
namespace PF
open PySem PySem.Spec L2

/-! ### defs and calls -/
/-- the promise of a def that hands back g of its arguments' data, and changes nothing -/
def spF (K : Frg) (mg : Mg) (n : Nat) (g : List D → Res D) : Sp := fun vs H Q E => ∃ ds S, vs.length = n ∧ Same S H ∧ RpA K mg S vs ds ∧ Po K mg (rrX K mg) (fun cls d _ H' => E cls d H') S [] H (g ds) Q
/-- what a body makes of its arguments: n slots -/
@[simp] def semF (n : Nat) (g : Sl → Out) (ds : List D) : Res D := match g (ds.map Cell.v ++ List.replicate (n - ds.length) .e) with
  | .nx _ => .ok .non
  | .ret d => .ok d
  | .exc x fs _ => .exc x fs
  | _ => .bad
theorem Rel.start {K : Frg} {mg : Mg} {N : List Str} {S H : Hp} {vs : List V} {ds : List D} (i : Same S H) (r : RpA K mg S vs ds) : Rel K mg none ⟨H, S⟩ S (ds.map Cell.v ++ List.replicate (N.length - ds.length) .e) (L2.start N vs) H where
  s0 := Same.refl _
  sh := i
  h0 := Same.refl _
  nw := fun _ _ e => e
  len := by simp [L2.start, r.len]
  val := fun j d e => by
    have hl := r.len
    rw [List.getElem?_append] at e
    split at e
    · rename_i hj
      rw [List.getElem?_map] at e
      cases q : ds[j]? with
      | none => rw [q] at e; cases e
      | some d' =>
        rw [q] at e
        cases e
        obtain ⟨v, h1, h2⟩ := r.get q
        refine ⟨v, ?_, h2⟩
        have hj' : j < vs.length := (List.getElem?_eq_some_iff.mp h1).1
        unfold L2.start
        rw [List.getElem?_append_left (by simpa using hj'), List.getElem?_map, h1]
        rfl
    · rw [List.getElem?_replicate] at e
      split at e <;> cases e
  own := fun j es e => by
    rw [List.getElem?_append] at e
    split at e
    · rw [List.getElem?_map] at e
      cases q : ds[j]? with
      | none => rw [q] at e; cases e
      | some d' => rw [q] at e; cases e
    · rw [List.getElem?_replicate] at e
      split at e <;> cases e
  xc := fun j c fs e => by
    rw [List.getElem?_append] at e
    split at e
    · rw [List.getElem?_map] at e
      cases q : ds[j]? with
      | none => rw [q] at e; cases e
      | some d' => rw [q] at e; cases e
    · rw [List.getElem?_replicate] at e
      split at e <;> cases e
  apart := fun j k es gs p ne e1 => by
    rw [List.getElem?_append] at e1
    split at e1
    · rw [List.getElem?_map] at e1
      cases q : ds[j]? with
      | none => rw [q] at e1; cases e1
      | some d' => rw [q] at e1; cases e1
    · rw [List.getElem?_replicate] at e1
      split at e1 <;> cases e1
theorem Bok.gr {b : Bs} {S H : Hp} (h : Bok b S H) : Gr b.S0 b.H0 S H := ⟨h.s0, h.h0, h.sh, h.nw⟩
abbrev WE0 (E : XK) : WX := fun cls d _ H => E cls d H
/-- what a body's statements may lean on -/
structure Cs (X : Cx) (W : WX) : Prop where
  tk : Takes X W
  po : PassesOwn (model X.prog X.w) X.A X.env X.xe
  hc : X.calm = true
section
variable {P : Program} {w : World} {K : Frg} {mg : Mg} {base : Heap}
theorem fn_ok {x qual : Str} {st : Stmt} {f : Addr} {fd : FuncData} {N ps : List Str} {k : Nat} {g : Sl → Out} (F : Fun K x qual st f fd) (Sc : FnScope N ps (defScope st))
    (hb : ∀ (cdv : Value) (A : Around) (outer : List Env) (s : Shared) (H : Hp) (E : XK), Room k (cxOf (L2.CX P w) P w K mg base N qual (defScope st) f cdv A outer s H E).A → Cs (cxOf (L2.CX P w) P w K mg base N qual (defScope st) f cdv A outer s H E) (WE0 E) →
      MSs (cxOf (L2.CX P w) P w K mg base N qual (defScope st) f cdv A outer s H E) none (WE0 E) (defBody st) g) : FnOk P w K mg base (L2.CX P w) (k + 1) f fd ps (spF K mg ps.length (semF N.length g)) :=
  F.okX Sc (fun vs H Q E h => by obtain ⟨ds, S, h1, _⟩ := h; exact h1) fun cdv A outer s H vs Q E hr h => by
    obtain ⟨ds, S, h1, h2, h3, h4⟩ := h
    refine ⟨_, hb cdv A outer s H E hr ⟨takes_of rfl rfl rfl rfl, passes_of rfl, rfl⟩, ⟨H, S⟩, S, ds.map Cell.v ++ List.replicate (N.length - ds.length) Cell.e, Rel.start (N := N) h2 h3, ?_⟩
    unfold semF at h4
    cases e : g (ds.map Cell.v ++ List.replicate (N.length - ds.length) .e) with
    | nx ρ => rw [e] at h4; exact fun S' σ' H' s1 R' => h4 .non S' H' R'.bok.gr (.inl .non)
    | ret d => rw [e] at h4; exact fun S' H' v bk r => h4 v S' H' bk.gr r
    | exc x fs ρ => rw [e] at h4; exact fun S' σ' H' C dx s1 R' m xd => h4 S' H' C dx R'.bok.gr m xd
    | bk ρ => rw [e] at h4; exact h4.elim
    | ct ρ => rw [e] at h4; exact h4.elim
    | bad => rw [e] at h4; exact h4.elim
/-- a promise of less -/
theorem FnOk.less {k f} {fd : FuncData} {ps : List Str} {n : Nat} {g g' : List D → Res D} (F : FnOk P w K mg base (L2.CX P w) k f fd ps (spF K mg n g)) (h : ∀ ds, g' ds = g ds ∨ g' ds = .bad) : FnOk P w K mg base (L2.CX P w) k f fd ps (spF K mg n g') :=
  F.imp fun vs H Q E ⟨ds, S, h1, h2, h3, h4⟩ => ⟨ds, S, h1, h2, h3, by
    rcases h ds with q | q
    · rw [← q]; exact h4
    · rw [q] at h4; exact h4.elim⟩
end
/-- what a call of a def asks of its place -/
abbrev Cw (X : Cx) (W : WX) : Prop := ∀ σ, PassesAt (L2.CX X.prog X.w) X σ (WE W σ)
theorem Cs.cw {X : Cx} {W : WX} (c : Cs X W) : Cw X W := fun σ => passAt c.tk σ
theorem cw0 {X : Cx} : Cw X W0 := fun σ pins H s e s' I h => by
  obtain ⟨_, _, _, _, _, _, _, _, _, _, _, _, z⟩ := h
  exact z.elim
/-- an argument list has its length -/
theorem len_nil {ρ : Sl} {ds : List D} (h : aNil ρ = .ok ds) : ds.length = 0 := by cases h; rfl
theorem len_cons {f : Sl → Res D} {fs : Sl → Res (List D)} {n : Nat} (ih : ∀ ρ ds, fs ρ = .ok ds → ds.length = n) : ∀ ρ ds, aCons f fs ρ = .ok ds → ds.length = n + 1 := fun ρ ds h => by
  unfold aCons at h
  cases e1 : f ρ with
  | ok d =>
    rw [e1] at h
    cases e2 : fs ρ with
    | ok r =>
      rw [Res.bind_ok, e2] at h
      cases h
      simp [ih ρ r e2]
    | exc y ys => rw [Res.bind_ok, e2] at h; cases h
    | bad => rw [Res.bind_ok, e2] at h; cases h
  | exc y ys => rw [e1] at h; cases h
  | bad => rw [e1] at h; cases h

/-! ### built-ins by their names -/
def aR1 (f : Sl → Res D) (ρ : Sl) : Res D := f ρ
section
variable {X : Cx} {hx : Hx} {W : WX} {x : Str} {p pos : Pos} {a b c : Expr} {id T : String} {r : List V → Hp → VK → Prop} {fa fb fc : Sl → Res D}
/-- a built-in of one operand that it only reads -/
theorem call1_imp {t : TE} {g : D → Res D} (hr : U1 X.K X.mg (fun v => r [v]) g) (h : PE X c (tCB r (tCons t tNil))) (hi : t = tG X.K X.mg hx (rrR X.K X.mg) W fa) : ME X hx W c (sUn g fa) := pe_imp h fun σ H Q ⟨b, S, ρ, R, q⟩ => by
  subst hi
  exact ⟨b, S, ρ, R, q.bind fun d v S1 H1 g1 r1 k => hr S1 σ H1 v d W Q g1.i r1 (k.upE g1)⟩
theorem me_b1 {g : D → Res D} (hc : CallR X (.builtin id) r) (hr : U1 X.K X.mg (fun v => r [v]) g) (hm : X.mg x = none) (hv : bootBuiltins x = some (.builtin id)) (ha : MR X hx W a fa) (hg : Gl X x := by rfl) (hn : x ≠ "__name__" := by decide) (hdb : (x == ("__debug__" : Str)) = false := by decide)
    (hs : starEach [a] X.env = (false, eval a X.env) :: starEach [] X.env := by rfl) (hpl : (backTo pos (starEach [] X.env)).any (·.1) = false := by rfl) : ME X hx W (.Call (.Name x p) [a] [] pos) (sUn g fa) :=
  call1_imp hr (pe_callB hc hg hm hv (pa_cons ha pa_nil hs) hn hdb hs hpl) rfl
theorem me_t1 {g : D → Res D} (hc : CallR X (.type T) r) (hr : U1 X.K X.mg (fun v => r [v]) g) (hm : X.mg x = none) (hv : bootBuiltins x = some (.type T)) (ha : MR X hx W a fa) (hg : Gl X x := by rfl) (hn : x ≠ "__name__" := by decide) (hdb : (x == ("__debug__" : Str)) = false := by decide)
    (hs : starEach [a] X.env = (false, eval a X.env) :: starEach [] X.env := by rfl) (hpl : (backTo pos (starEach [] X.env)).any (·.1) = false := by rfl) : ME X hx W (.Call (.Name x p) [a] [] pos) (sUn g fa) :=
  call1_imp hr (pe_callTy hc hg hm hv (pa_cons ha pa_nil hs) hn hdb hs hpl) rfl
theorem call1F_imp {t : TE} {g : D → Res (List D)} (hr : U1F X.K X.mg (fun v => r [v]) g) (h : PE X c (tCB r (tCons t tNil))) (hi : t = tG X.K X.mg hx (rrR X.K X.mg) W fa) : MF X hx W c (fUn g fa) := pe_imp h fun σ H Q ⟨b, S, ρ, R, q⟩ => by
  subst hi
  exact ⟨b, S, ρ, R, q.bind fun d v S1 H1 g1 r1 k => hr S1 σ H1 v d W Q g1.i r1 (k.upF g1)⟩
theorem mf_b1 {g : D → Res (List D)} (hc : CallR X (.builtin id) r) (hr : U1F X.K X.mg (fun v => r [v]) g) (hm : X.mg x = none) (hv : bootBuiltins x = some (.builtin id)) (ha : MR X hx W a fa) (hg : Gl X x := by rfl) (hn : x ≠ "__name__" := by decide) (hdb : (x == ("__debug__" : Str)) = false := by decide)
    (hs : starEach [a] X.env = (false, eval a X.env) :: starEach [] X.env := by rfl) (hpl : (backTo pos (starEach [] X.env)).any (·.1) = false := by rfl) : MF X hx W (.Call (.Name x p) [a] [] pos) (fUn g fa) :=
  call1F_imp hr (pe_callB hc hg hm hv (pa_cons ha pa_nil hs) hn hdb hs hpl) rfl
theorem mf_t1 {g : D → Res (List D)} (hc : CallR X (.type T) r) (hr : U1F X.K X.mg (fun v => r [v]) g) (hm : X.mg x = none) (hv : bootBuiltins x = some (.type T)) (ha : MR X hx W a fa) (hg : Gl X x := by rfl) (hn : x ≠ "__name__" := by decide) (hdb : (x == ("__debug__" : Str)) = false := by decide)
    (hs : starEach [a] X.env = (false, eval a X.env) :: starEach [] X.env := by rfl) (hpl : (backTo pos (starEach [] X.env)).any (·.1) = false := by rfl) : MF X hx W (.Call (.Name x p) [a] [] pos) (fUn g fa) :=
  call1F_imp hr (pe_callTy hc hg hm hv (pa_cons ha pa_nil hs) hn hdb hs hpl) rfl
theorem call2_imp {t u : TE} {g : D → D → Res D} (hr : O2 X.K X.mg (fun v w => r [v, w]) g) (h : PE X c (tCB r (tCons t (tCons u tNil)))) (hi : t = tG X.K X.mg hx (rrR X.K X.mg) W fa) (hj : u = tG X.K X.mg hx (rrR X.K X.mg) W fb) : ME X hx W c (sOp g fa fb) := pe_imp h fun σ H Q ⟨b, S, ρ, R, q⟩ => by
  subst hi hj
  exact ⟨b, S, ρ, R, q.bind fun d v S1 H1 g1 r1 k => ⟨b, S1, ρ, R.grow g1, (k.upE g1).bind fun d2 v2 S2 H2 g2 r2 k2 => hr S2 σ H2 v v2 d d2 W Q g2.i (r1.up g2) r2 (k2.upE g2)⟩⟩
theorem me_b2 {g : D → D → Res D} (hc : CallR X (.builtin id) r) (hr : O2 X.K X.mg (fun v w => r [v, w]) g) (hm : X.mg x = none) (hv : bootBuiltins x = some (.builtin id)) (ha : MR X hx W a fa) (hb : MR X hx W b fb) (hg : Gl X x := by rfl) (hn : x ≠ "__name__" := by decide) (hdb : (x == ("__debug__" : Str)) = false := by decide)
    (hs : starEach [a, b] X.env = (false, eval a X.env) :: starEach [b] X.env := by rfl) (hs2 : starEach [b] X.env = (false, eval b X.env) :: starEach [] X.env := by rfl) (hpl : (backTo pos (starEach [b] X.env)).any (·.1) = false := by rfl) : ME X hx W (.Call (.Name x p) [a, b] [] pos) (sOp g fa fb) :=
  call2_imp hr (pe_callB hc hg hm hv (pa_cons ha (pa_cons hb pa_nil hs2) hs) hn hdb hs hpl) rfl rfl
/-- a built-in function that a module brings (gcd) -/
theorem me_bf2 {g : D → D → Res D} (hc : CallR X (.builtin id) r) (hr : O2 X.K X.mg (fun v w => r [v, w]) g) (hm : X.mg x = some (.builtin id)) (ha : MR X hx W a fa) (hb : MR X hx W b fb) (hg : Gl X x := by rfl) (hdb : (x == ("__debug__" : Str)) = false := by decide)
    (hs : starEach [a, b] X.env = (false, eval a X.env) :: starEach [b] X.env := by rfl) (hs2 : starEach [b] X.env = (false, eval b X.env) :: starEach [] X.env := by rfl) (hpl : (backTo pos (starEach [b] X.env)).any (·.1) = false := by rfl) : ME X hx W (.Call (.Name x p) [a, b] [] pos) (sOp g fa fb) :=
  call2_imp hr (pe_callBfun hc hg hm (pa_cons ha (pa_cons hb pa_nil hs2) hs) hdb hs hpl) rfl rfl
end

/-! ### raise, try -/
/-- an exception class of the program, without an own __init__ -/
structure ExcT (K : Frg) (mg : Mg) (x : Str) (C : Addr) : Prop where
  g : mg x = some (.ref C)
  xk : PySem.W.excIn K C [.type "ValueError", .type "Exception", .type "BaseException", .type "object"] "ValueError.__new__" = true
  kp : PySem.W.keepIn K (.ref C) = true
  sb : PySem.W.subIn K (.ref C) (.type "BaseException") = some true
  ty : PySem.W.typeIn K (.ref C) = some (.type "type")
@[simp] def gRaise (x : Str) (ρ : Sl) : Out := .exc x [] ρ
theorem ms_raise {X : Cx} {hx : Hx} {W : WX} {x m : Str} {C : Addr} {j : Nat} {p p2 pos pos' : Pos} (c : Cs X W) (T : ExcT X.K X.mg x C) (hg : Gl X x := by rfl) (hdb : (x == ("__debug__" : Str)) = false := by decide) :
    MS X hx W (.Raise (some (.Call (.Name x p) [.Constant (.str m) j p2] [] pos')) none pos) (gRaise x) :=
  ps_imp (ps_raise c.hc c.tk (pmk_own PySem.F.excBase_ValueError T.xk T.g T.kp (raises_own T.sb T.ty) hg hdb)) fun D σ H ⟨b, S, ρ, R, q⟩ => q S σ H C none (Same.refl _) R T.g rfl

/-- try: body / except c as n: suite. tab: which exceptions the clause takes; slot i is n's -/
@[simp] def clrC (c : Cell) : Cell := match c with
  | .xc _ _ => .e
  | c => c
@[simp] def gTry (i : Nat) (tab : Str → Option Bool) (body : Sl → Out) (suite : Sl → Out) (ρ : Sl) : Out := match body ρ with
  | .exc x fs ρ1 => match tab x with
    | some true => if i < ρ1.length then (match suite (ρ1.set i (.xc x fs)) with
      | .nx ρ2 => .nx ((ρ2.set i .e).map clrC)
      | .bk ρ2 => .bk ((ρ2.set i .e).map clrC)
      | .ct ρ2 => .ct ((ρ2.set i .e).map clrC)
      | .ret d => .ret d
      | _ => .bad) else .bad
    | some false => .exc x fs ρ1
    | none => .bad
  | o => o
/-- the clause's class takes what the table says -/
def Tab (K : Frg) (mg : Mg) (tab : Str → Option Bool) (c : Value) : Prop := ∀ x C b, mg x = some (.ref C) → tab x = some b → PySem.W.exmOne K (.ref C) c = some b
def hxOf (a : Addr) (cls : Value) (d : Option Addr) : Hx := match cls with
  | .ref C => some (a, C, d)
  | _ => none
theorem Rel.exc {K : Frg} {mg : Mg} {b : Bs} {S H : Hp} {ρ : Sl} {σ : L2.St} {i : Nat} {a C : Addr} {dx : Option Addr} {c : Str} {fs : List (Str × D)} (R : Rel K mg none b S ρ σ H) (hi : i < ρ.length) (hm : mg c = some (.ref C)) (x : Xd K mg S H dx fs) : Rel K mg (some (a, C, dx)) b S (ρ.set i (.xc c fs)) (σ.set i (some (.ref a))) H where
  s0 := R.s0
  sh := R.sh
  h0 := R.h0
  nw := R.nw
  len := by simp [R.len]
  val := fun j d' e => by
    rcases getset e with ⟨_, h2, _⟩ | ⟨h1, h2⟩
    · cases h2
    · obtain ⟨v', h3, h4⟩ := R.val j d' h2
      exact ⟨v', by rw [List.getElem?_set_ne h1]; exact h3, h4⟩
  own := fun j ds e => by
    rcases getset e with ⟨_, h2, _⟩ | ⟨h1, h2⟩
    · cases h2
    · obtain ⟨p, vs, h3, h4⟩ := R.own j ds h2
      exact ⟨p, vs, by rw [List.getElem?_set_ne h1]; exact h3, h4⟩
  xc := fun j c' fs' e => by
    rcases getset e with ⟨h1, h2, h3⟩ | ⟨h1, h2⟩
    · cases h2
      subst h1
      exact ⟨a, C, dx, rfl, by rw [List.getElem?_set_self (by rw [← R.len]; exact hi)], hm, x⟩
    · obtain ⟨_, _, _, q1, _⟩ := R.xc j c' fs' h2
      cases q1
  apart := fun j k ds es p ne e1 e2 e3 e4 => by
    rcases getset e1 with ⟨_, h2, _⟩ | ⟨h1, h2⟩
    · cases h2
    · rcases getset e2 with ⟨_, h4, _⟩ | ⟨h3, h4⟩
      · cases h4
      · rw [List.getElem?_set_ne h1] at e3
        rw [List.getElem?_set_ne h3] at e4
        exact R.apart j k ds es p ne h2 h4 e3 e4
theorem clr_get {ρ : Sl} {i : Nat} {c : Cell} (h : (ρ.map clrC)[i]? = some c) : ∃ c0, ρ[i]? = some c0 ∧ clrC c0 = c := by
  rw [List.getElem?_map] at h
  cases e : ρ[i]? with
  | none => rw [e] at h; cases h
  | some c0 => rw [e] at h; exact ⟨c0, rfl, Option.some.inj h⟩
theorem Rel.clear {K : Frg} {mg : Mg} {hx : Hx} {b : Bs} {S H : Hp} {ρ : Sl} {σ : L2.St} (R : Rel K mg hx b S ρ σ H) : Rel K mg none b S (ρ.map clrC) σ H where
  s0 := R.s0
  sh := R.sh
  h0 := R.h0
  nw := R.nw
  len := by simp [R.len]
  val := fun i d e => by
    obtain ⟨c0, h1, h2⟩ := clr_get e
    cases c0 <;> cases h2
    exact R.val i _ h1
  own := fun i d e => by
    obtain ⟨c0, h1, h2⟩ := clr_get e
    cases c0 <;> cases h2
    exact R.own i _ h1
  xc := fun i c fs e => by
    obtain ⟨c0, h1, h2⟩ := clr_get e
    cases c0 <;> cases h2
  apart := fun i j ds es p ne e1 e2 => by
    obtain ⟨c0, h1, h2⟩ := clr_get e1
    obtain ⟨c1, h3, h4⟩ := clr_get e2
    cases c0 <;> cases h2
    cases c1 <;> cases h4
    exact R.apart i j _ _ p ne h1 h3
theorem ms_try {X : Cx} {W : WX} (i : Nat) {x n : Str} {c : Value} {body suite : List Stmt} {b₀ : Stmt} {np pos pos' : Pos} {gb gs : Sl → Out} {tab : Str → Option Bool} (cs : Cs X W) (hs : X.stack = X.env :: X.outer) (hf : X.env.frame = some X.env.locals) (hN : X.N.Nodup)
    (hc : Names X x c) (ht : Tab X.K X.mg tab c)
    (hb : ∀ (W' : WX) (pn : List (Addr × Obj)) (xe : Value → Shared → Prop), Cs (X.tr pn xe) W' → MSs (X.tr pn xe) none W' body gb)
    (hsu : ∀ (a : Addr) (oe : Obj) (C : Addr) (d : Option Addr) (pn : List (Addr × Obj)), Zc (.ref C) d oe → (∃ vs, oe.data = .fields vs) → MSs (X.suite a ((a, oe) :: pn)) (some (a, C, d)) W0 (b₀ :: suite) gs)
    (hi : X.N[i]? = some n := by rfl) (hln : X.env.kindOf n = some .local := by rfl) :
    MS X none W (.Try body [.ExceptHandler (some (.Name x np)) (some n) (b₀ :: suite) pos'] [] [] pos) (gTry i tab gb gs) :=
  ps_imp (ps_try_as (tb := fun W' => tS X.K X.mg none W' gb) (ts := fun a cls d D σ H => ∃ C, cls = .ref C ∧ tS X.K X.mg (some (a, C, d)) W0 gs D σ H) (Wout := W) hs hf hN hi hln hc cs.tk (fun W' pn xe tk po => hb W' pn xe ⟨tk, po, cs.hc⟩) (fun a oe cls d pn z hv => ⟨fun pins s σ H D I ⟨C, e, q⟩ => by
      subst e
      exact (hsu a oe C d pn z hv).run pins s σ H D I q⟩)) fun D σ H ⟨b, S, ρ, R, q⟩ => by
    refine ⟨b, S, ρ, R, ?_⟩
    unfold gTry at q
    cases e : gb ρ with
    | nx ρ' => rw [e] at q; exact q
    | ret d => rw [e] at q; exact q
    | bk ρ' => rw [e] at q; exact q
    | ct ρ' => rw [e] at q; exact q
    | bad => rw [e] at q; exact q
    | exc y fs ρ1 =>
      rw [e] at q
      intro S1 σ1 H1 C dx s1 R1 hm hxd
      simp only at q
      cases et : tab y with
      | none => rw [et] at q; exact q.elim
      | some tb =>
        rw [et] at q
        refine ⟨tb, ht y C tb hm et, fun e2 a _ => ?_, fun e2 => ?_⟩
        · subst e2
          simp only at q
          split at q
          · rename_i hil
            refine ⟨C, rfl, b, S1, _, Rel.exc R1 hil hm hxd, ?_⟩
            cases es : gs (ρ1.set i (.xc y fs)) with
            | nx ρ2 => rw [es] at q; exact fun S2 σ2 H2 s2 R2 => q S2 _ H2 (s1.trans s2) (R2.wipe1.clear)
            | bk ρ2 => rw [es] at q; exact fun S2 σ2 H2 s2 R2 => q S2 _ H2 (s1.trans s2) (R2.wipe1.clear)
            | ct ρ2 => rw [es] at q; exact fun S2 σ2 H2 s2 R2 => q S2 _ H2 (s1.trans s2) (R2.wipe1.clear)
            | ret d => rw [es] at q; exact q
            | exc y2 fs2 ρ2 => rw [es] at q; exact q.elim
            | bad => rw [es] at q; exact q.elim
          · exact q.elim
        · subst e2
          exact q S1 σ1 H1 C dx s1 R1 hm hxd

/-! ### isinstance of the exception that a suite holds -/
@[simp] def sIsE (i : Nat) (tab : Str → Option Bool) (ρ : Sl) : Res D := match ρ[i]? with
  | some (.xc x []) => match tab x with
    | some b => .ok (.bl b)
    | none => .bad
  | _ => .bad
/-- isinstance(e, c) by the table: every class that may be held is fit to be asked -/
def TabI (K : Frg) (mg : Mg) (tab : Str → Option Bool) (cv : Value) : Prop := ∀ x C b, mg x = some (.ref C) → tab x = some b → ExcC K C ∧ PySem.W.kitOne K (.ref C) cv = some b
def TabT (K : Frg) (mg : Mg) (tab : Str → Option Bool) (cvs : List Value) : Prop := ∀ x C b, mg x = some (.ref C) → tab x = some b → ExcC K C ∧ PySem.W.kitAny K (.ref C) cvs = some b
section
variable {X : Cx} {a D0 : Addr} {oe : Obj} {pn : List (Addr × Obj)} {d : Option Addr} {W : WX} {ce : Expr} {n : Str} {p p1 pos : Pos} {cv : V} {cu : Value}
theorem xd_none {K : Frg} {mg : Mg} {S H : Hp} {dx : Option Addr} (h : Xd K mg S H dx []) : dx = none := by
  cases dx with
  | none => rfl
  | some a =>
    obtain ⟨ns, xs, ds, h1, ⟨h2, h3⟩, h4, h5⟩ := h
    have hl := h5.len
    cases ns with
    | nil => exact absurd rfl h2
    | cons n ns =>
      cases ds with
      | nil => rw [List.length_nil] at hl; rw [hl] at h3; cases h3
      | cons d ds => cases h1
theorem me_isE (i : Nat) {tab : Str → Option Bool} (hz : Zc (.ref D0) d oe) (hf : ∃ vs, oe.data = .fields vs) (ht : TabI X.K X.mg tab cu) (hv : PE (X.suite a ((a, oe) :: pn)) (.Name n p1) (tVar i)) (hc : PE (X.suite a ((a, oe) :: pn)) ce (tC cv)) (k : ClsV cv cu)
    (hm : X.mg "isinstance" = none) (hg : Gl X "isinstance" := by rfl) (hs : starEach [.Name n p1, ce] X.env = (false, eval (.Name n p1) X.env) :: starEach [ce] X.env := by rfl) (hs2 : starEach [ce] X.env = (false, eval ce X.env) :: starEach [] X.env := by rfl) (hpl : (backTo pos (starEach [ce] X.env)).any (·.1) = false := by rfl) :
    ME (X.suite a ((a, oe) :: pn)) (some (a, D0, d)) W (.Call (.Name "isinstance" p) [.Name n p1, ce] [] pos) (sIsE i tab) := ⟨fun pins s σ H Q I ⟨b, S, ρ, R, q⟩ => by
  unfold sIsE at q
  split at q
  · rename_i x e
    obtain ⟨a1, C1, d1, h1, h2, h3, h4⟩ := R.xc i x [] e
    cases h1
    split at q
    · rename_i tb et
      obtain ⟨t1, t2⟩ := ht x D0 tb h3 et
      have hd := xd_none h4
      subst hd
      exact (pe_callB (x := "isinstance") (call_isE (X := X) (a := a) (pn := pn) t1 hz hf) hg hm PyProof.Rows.boot_isinstance (pa_cons hv (pa_cons hc pa_nil hs2) hs) (by decide) (by decide) hs hpl).run pins s σ H Q I ⟨_, h2, cv, cu, tb, rfl, fun u r => k.eq r, t2, q _ S H (Gr.refl R.sh) (.bl tb)⟩
    · exact q.elim
  · exact q.elim⟩
end
end PF

set_option Elab.async false
set_option linter.all false
set_option maxRecDepth 100000
set_option maxHeartbeats 4000000
namespace PF
open PySem PySem.Spec L2

section
variable {K : Frg} {mg : Mg} {S H : Hp}
theorem Rd1.dp {v : V} {d : D} (i : Same S H) (c : d.py.canLay0 = true) (h : Rd1 K mg S H v d) : Dp K H v d.py := by
  cases d with
  | lst ds =>
    obtain ⟨p, vs, rfl, h2, h3⟩ := h
    exact .lst (SqL.of h2) (RpA.dp ds _ (by simpa [D.py, PyData.canLay0] using c) (h3.up i ds vs))
  | _ => exact Rp.dp _ _ c (Rp.up i _ v h)
theorem Rd1.int {v : V} {i : Int} (h : Rd1 K mg S H v (.int i)) : v = .int i := by
  have h' : Rp K mg S v (.int i) := h
  cases h'; rfl
theorem Rd1.bl {v : V} {i : Bool} (h : Rd1 K mg S H v (.bl i)) : v = .bl i := by
  have h' : Rp K mg S v (.bl i) := h
  cases h'; rfl
theorem Rd1.str {v : V} {i : Str} (h : Rd1 K mg S H v (.str i)) : v = .str i := by
  have h' : Rp K mg S v (.str i) := h
  cases h'; rfl
theorem Rd1.lst {v : V} {ds : List D} (h : Rd1 K mg S H v (.lst ds)) : ∃ (p : Addr) (vs : List V), v = .ref p ∧ H p = some (.lst vs) ∧ RpA K mg S vs ds := h
theorem Rd1.rol {v : V} {ds : List D} (i : Same S H) (h : Rd1 K mg S H v (.rol ds)) : ∃ (p : Addr) (vs : List V), v = .ref p ∧ SqL K H p vs ∧ RpA K mg S vs ds := by
  have h' : Rp K mg S v (.rol ds) := h
  cases h' with
  | rol a b => exact ⟨_, _, rfl, same_l i a, b⟩
theorem Rd1.tup {v : V} {ds : List D} (i : Same S H) (h : Rd1 K mg S H v (.tup ds)) : ∃ (p : Addr) (vs : List V), v = .ref p ∧ SqT K H p vs ∧ SqT K S p vs ∧ RpA K mg S vs ds := by
  have h' : Rp K mg S v (.tup ds) := h
  cases h' with
  | tup a b => exact ⟨_, _, rfl, same_t i a, a, b⟩
theorem Rd1.non {v : V} (h : Rd1 K mg S H v .non) : v = .non := by
  have h' : Rp K mg S v .non := h
  cases h'; rfl
end
theorem po_new {K : Frg} {mg : Mg} {W : WX} {S H : Hp} {σ : L2.St} {ds : List D} {vs : List V} {Q : VK} (i : Same S H) (r : RpA K mg S vs ds) (q : Po K mg (rrE K mg) W S σ H (.ok (.tup ds)) Q) : ∀ p, H p = none → Q (.ref p) (upd H p (.tup vs)) := fun p hp =>
  q _ _ _ (Gr.new i hp) (.tup (SqT.of upd_same) (r.up (same_new (same_none i hp)) _ _))
theorem po_newL {K : Frg} {mg : Mg} {W : WX} {S H : Hp} {σ : L2.St} {ds : List D} {vs : List V} {Q : VK} (i : Same S H) (r : RpA K mg S vs ds) (q : Po K mg (rrF K mg) W S σ H (.ok ds) Q) : ∀ p, H p = none → Q (.ref p) (upd H p (.lst vs)) := fun p hp =>
  q _ S _ (Gr.lay i hp) ⟨p, vs, rfl, hp, same_none i hp, upd_same, r⟩

/-! ### operators -/
@[simp] def oAdd (d e : D) : Res D := match d, e with
  | .int i, .int j => .ok (.int (i + j))
  | .str x, .str y => if x.length + y.length ≤ 16777216 then .ok (.str (x ++ y)) else .bad
  | .tup a, .tup b => if a.length + b.length ≤ 16777216 then .ok (.tup (a ++ b)) else .bad
  | .lst a, .lst b => if a.length + b.length ≤ 16777216 then .ok (.lst (a ++ b)) else .bad
  | _, _ => .bad
@[simp] def oAddI (d e : D) : Res D := match d, e with
  | .int i, .int j => .ok (.int (i + j))
  | _, _ => .bad
@[simp] def oSub (d e : D) : Res D := match d, e with
  | .int i, .int j => .ok (.int (i - j))
  | _, _ => .bad
noncomputable def mulOk (i j : Int) : Bool := cb ((Builtin.Int.intBits i : Int) + Builtin.Int.intBits j ≤ 134217728 ∨ i.natAbs < 18446744073709551616 ∨ j.natAbs < 18446744073709551616)
@[simp] noncomputable def oMul (d e : D) : Res D := match d, e with
  | .int i, .int j => if mulOk i j then .ok (.int (i * j)) else .bad
  | _, _ => .bad
noncomputable def divOk (j : Int) : Bool := cb (j ≠ 0 ∧ j.natAbs.log2 < 9000)
/-- .. or the dividend is below 2 ^ 13500 -/
noncomputable def divOkD (i j : Int) : Bool := cb (j ≠ 0 ∧ i.natAbs.log2 < 13500)
@[simp] noncomputable def oFdiv (d e : D) : Res D := match d, e with
  | .int i, .int j => if divOk j || divOkD i j then .ok (.int (i.fdiv j)) else .bad
  | _, _ => .bad
@[simp] def oMod (d e : D) : Res D := match d, e with
  | .int i, .int j => if j ≠ 0 then .ok (.int (i.fmod j)) else .bad
  | _, _ => .bad
@[simp] noncomputable def oPow (d e : D) : Res D := match d, e with
  | .int i, .int j => if cb (0 ≤ j ∧ j ≤ 1000000 ∧ i.natAbs < 2 ^ 64) then .ok (.int (i ^ j.toNat)) else .bad
  | _, _ => .bad
@[simp] def oNeg (d : D) : Res D := match d with
  | .int i => .ok (.int (-i))
  | _ => .bad
def eqOk (d : D) : Bool := SeqAt.shaped d.py
def eqv (d e : D) : Bool := PyData.eqv d.py e.py
@[simp] def oEq (d e : D) : Res D := if eqOk d && eqOk e then .ok (.bl (eqv d e)) else .bad
@[simp] def oNe (d e : D) : Res D := if eqOk d && eqOk e then .ok (.bl (!eqv d e)) else .bad
@[simp] noncomputable def oLt (d e : D) : Res D := match d, e with
  | .int i, .int j => .ok (.bl (cb (i < j)))
  | _, _ => .bad
@[simp] noncomputable def oLe (d e : D) : Res D := match d, e with
  | .int i, .int j => .ok (.bl (cb (i ≤ j)))
  | _, _ => .bad
@[simp] noncomputable def oGt (d e : D) : Res D := match d, e with
  | .int i, .int j => .ok (.bl (cb (j < i)))
  | _, _ => .bad
@[simp] noncomputable def oGe (d e : D) : Res D := match d, e with
  | .int i, .int j => .ok (.bl (cb (j ≤ i)))
  | _, _ => .bad
@[simp] def isNon (d : D) : Bool := match d with
  | .non => true
  | _ => false
@[simp] def oIsN (d e : D) : Res D := match e with
  | .non => .ok (.bl (isNon d))
  | _ => .bad
@[simp] def oNotN (d e : D) : Res D := match e with
  | .non => .ok (.bl (!isNon d))
  | _ => .bad
@[simp] noncomputable def fRep (d e : D) : Res (List D) := match d, e with
  | .lst xs, .int k => if cb (-(2 ^ 63) ≤ k ∧ k < 2 ^ 63 ∧ xs.length * k.toNat ≤ 16777216) then .ok (List.replicate k.toNat xs).flatten else .bad
  | _, _ => .bad
@[simp] def fCat (d e : D) : Res (List D) := match d, e with
  | .lst xs, .lst ys => if xs.length + ys.length ≤ 16777216 then .ok (xs ++ ys) else .bad
  | _, _ => .bad
section
variable {X : Cx}
theorem CMulX_of_small {i j : Int} (h : mulOk i j = true) : IntMulOk i j := by
  rcases of_cb h with h | h | h
  · exact CMulX.ok h
  · exact CMul.ok (.inl ⟨by omega, by omega⟩)
  · exact CMul.ok (.inr ⟨by omega, by omega⟩)
theorem op_mulU : OpR X (binaryOp .Mult) (rI (fun i j => mulOk i j = true) fun i j => .int (i * j)) := opI fun _ _ _ _ _ _ _ hc q => PyProof.Rows.mul_int q (CMulX_of_small hc)
theorem noPy_dividend {x y : Int} (h : x.natAbs.log2 < 13500) : Builtin.divisionGoesByPylong x y = false := by
  have kx : (if x == 0 then 0 else x.natAbs.log2 / 30 + 1) ≤ 450 := by
    by_cases hx : (x == 0) = true
    · rw [if_pos hx]; exact Nat.zero_le _
    · rw [if_neg hx]; omega
  show (decide ((if y == 0 then 0 else y.natAbs.log2 / 30 + 1) > 300) && decide ((if x == 0 then 0 else x.natAbs.log2 / 30 + 1) > (if y == 0 then 0 else y.natAbs.log2 / 30 + 1) + 150)) = false
  by_cases hy : (if y == 0 then 0 else y.natAbs.log2 / 30 + 1) > 300
  · rw [decide_eq_false (p := (if x == 0 then 0 else x.natAbs.log2 / 30 + 1) > (if y == 0 then 0 else y.natAbs.log2 / 30 + 1) + 150) (by omega), Bool.and_false]
  · rw [decide_eq_false hy, Bool.false_and]
theorem op_fdivU : OpR X (binaryOp .FloorDiv) (rI (fun i j => (divOk j || divOkD i j) = true) fun i j => .int (i.fdiv j)) := opI fun i j _ _ _ _ _ hc q => by
  rcases Bool.or_eq_true_iff.mp hc with hc | hc
  · obtain ⟨h1, h2⟩ := of_cb hc
    exact PyProof.Rows.floordiv_int h1 q (.inl (PyProof.noPylong_of_log2 h2))
  · obtain ⟨h1, h2⟩ := of_cb hc
    exact PyProof.Rows.floordiv_int h1 q (.inl (noPy_dividend h2))
abbrev rAddU (K : Frg) : R2 := fun x y H Q => rI0 (fun i j => .int (i + j)) x y H Q ∨ ((fun x y H Q => ∃ i j, x = V.str i ∧ y = V.str j ∧ i.length + j.length ≤ sizeLine ∧ Q (V.str (i ++ j)) H : R2) x y H Q ∨ (rCatA K x y H Q ∨ rCat x y H Q))
theorem op_addU : OpR X (binaryOp .Add) (rAddU X.K) := op_add.or (op_add_str.or (op_catA.or op_cat))
end
section
variable {K : Frg} {mg : Mg}
theorem o_add : O2 K mg (rAddU K) oAdd := fun S σ H x y d e W Q i hx hy q => by
  unfold oAdd at q
  split at q
  · exact .inl ⟨_, _, hx.int, hy.int, q _ _ _ (Gr.refl i) (.int _)⟩
  · split at q
    · rename_i hl
      exact .inr (.inl ⟨_, _, hx.str, hy.str, sizeLine16 hl, q _ _ _ (Gr.refl i) (.str _)⟩)
    · exact q.elim
  · rename_i a b
    split at q
    · rename_i hl
      obtain ⟨p1, v1, rfl, h1, k1, r1⟩ := hx.tup i
      obtain ⟨p2, v2, rfl, h2, k2, r2⟩ := hy.tup i
      refine .inr (.inr (.inl ⟨p1, p2, v1, v2, rfl, rfl, h1, h2, sizeLine16 (by rw [r1.len, r2.len]; exact hl), fun e => ?_, fun _ e => ?_, fun _ _ => po_new i (r1.app r2) q⟩))
      · subst e
        cases r1
        exact q _ S H (Gr.refl i) (.tup k2 r2)
      · subst e
        cases r2
        rw [List.append_nil] at q
        exact q _ S H (Gr.refl i) (.tup k1 r1)
    · exact q.elim
  · split at q
    · rename_i hl
      obtain ⟨p1, v1, rfl, h1, r1⟩ := hx.lst
      obtain ⟨p2, v2, rfl, h2, r2⟩ := hy.lst
      exact .inr (.inr (.inr ⟨p1, p2, v1, v2, rfl, rfl, h1, h2, sizeLine16 (by rw [r1.len, r2.len]; exact hl), fun p hp => q _ _ _ (Gr.new i hp) (.lst upd_same ((r1.app r2).up (same_new (same_none i hp)) _ _))⟩))
    · exact q.elim
  · exact q.elim
theorem o_sub : O2 K mg (rI0 fun i j => .int (i - j)) oSub := fun S σ H x y d e W Q i hx hy q => by
  unfold oSub at q
  split at q
  · exact ⟨_, _, hx.int, hy.int, q _ _ _ (Gr.refl i) (.int _)⟩
  · exact q.elim
theorem o_addI : O2 K mg (rI0 fun i j => .int (i + j)) oAddI := fun S σ H x y d e W Q i hx hy q => by
  unfold oAddI at q
  split at q
  · exact ⟨_, _, hx.int, hy.int, q _ _ _ (Gr.refl i) (.int _)⟩
  · exact q.elim
theorem o_mul : O2 K mg (rI (fun i j => mulOk i j = true) fun i j => .int (i * j)) oMul := fun S σ H x y d e W Q i hx hy q => by
  unfold oMul at q
  split at q
  · split at q
    · rename_i hc
      exact ⟨_, _, hx.int, hy.int, hc, q _ _ _ (Gr.refl i) (.int _)⟩
    · exact q.elim
  · exact q.elim
theorem o_fdiv : O2 K mg (rI (fun i j => (divOk j || divOkD i j) = true) fun i j => .int (i.fdiv j)) oFdiv := fun S σ H x y d e W Q i hx hy q => by
  unfold oFdiv at q
  split at q
  · split at q
    · rename_i hc
      exact ⟨_, _, hx.int, hy.int, hc, q _ _ _ (Gr.refl i) (.int _)⟩
    · exact q.elim
  · exact q.elim
theorem o_mod : O2 K mg (rI (fun _ j => j ≠ 0) fun i j => .int (i.fmod j)) oMod := fun S σ H x y d e W Q i hx hy q => by
  unfold oMod at q
  split at q
  · split at q
    · rename_i hc
      exact ⟨_, _, hx.int, hy.int, hc, q _ _ _ (Gr.refl i) (.int _)⟩
    · exact q.elim
  · exact q.elim
theorem o_pow : O2 K mg (rI CPow fun i j => .int (i ^ j.toNat)) oPow := fun S σ H x y d e W Q i hx hy q => by
  unfold oPow at q
  split at q
  · split at q
    · rename_i hc
      exact ⟨_, _, hx.int, hy.int, of_cb hc, q _ _ _ (Gr.refl i) (.int _)⟩
    · exact q.elim
  · exact q.elim
theorem o_neg : U1 K mg (rU fun i => .int (-i)) oNeg := fun S σ H v d W Q i hx q => by
  unfold oNeg at q
  split at q
  · exact ⟨_, hx.int, q _ _ _ (Gr.refl i) (.int _)⟩
  · exact q.elim
theorem o_eq : O2 K mg (rEqD K) oEq := fun S σ H x y d e W Q i hx hy q => by
  unfold oEq at q
  split at q
  · rename_i hc
    obtain ⟨c1, c2⟩ := Bool.and_eq_true_iff.mp hc
    exact ⟨_, _, hx.dp i (SeqAt.canLay_of_shaped c1), hy.dp i (SeqAt.canLay_of_shaped c2), c1, c2, q _ _ _ (Gr.refl i) (.bl _)⟩
  · exact q.elim
theorem o_ne : O2 K mg (rNeD K) oNe := fun S σ H x y d e W Q i hx hy q => by
  unfold oNe at q
  split at q
  · rename_i hc
    obtain ⟨c1, c2⟩ := Bool.and_eq_true_iff.mp hc
    exact ⟨_, _, hx.dp i (SeqAt.canLay_of_shaped c1), hy.dp i (SeqAt.canLay_of_shaped c2), c1, c2, q _ _ _ (Gr.refl i) (.bl _)⟩
  · exact q.elim
theorem o_lt : O2 K mg (rI0 fun i j => .bl (decide (i < j))) oLt := fun S σ H x y d e W Q i hx hy q => by
  unfold oLt at q
  split at q
  · exact ⟨_, _, hx.int, hy.int, by dsimp only; rw [← cb_dec]; exact q _ _ _ (Gr.refl i) (.bl _)⟩
  · exact q.elim
theorem o_le : O2 K mg (rI0 fun i j => .bl (decide (i ≤ j))) oLe := fun S σ H x y d e W Q i hx hy q => by
  unfold oLe at q
  split at q
  · exact ⟨_, _, hx.int, hy.int, by dsimp only; rw [← cb_dec]; exact q _ _ _ (Gr.refl i) (.bl _)⟩
  · exact q.elim
theorem o_gt : O2 K mg (rI0 fun i j => .bl (decide (j < i))) oGt := fun S σ H x y d e W Q i hx hy q => by
  unfold oGt at q
  split at q
  · exact ⟨_, _, hx.int, hy.int, by dsimp only; rw [← cb_dec]; exact q _ _ _ (Gr.refl i) (.bl _)⟩
  · exact q.elim
theorem o_ge : O2 K mg (rI0 fun i j => .bl (decide (j ≤ i))) oGe := fun S σ H x y d e W Q i hx hy q => by
  unfold oGe at q
  split at q
  · exact ⟨_, _, hx.int, hy.int, by dsimp only; rw [← cb_dec]; exact q _ _ _ (Gr.refl i) (.bl _)⟩
  · exact q.elim
theorem isNon_v {S H : Hp} {v : V} {d : D} (h : Rd1 K mg S H v d) : decide (v = .non) = isNon d := by
  cases d with
  | lst ds => obtain ⟨p, vs, rfl, _⟩ := h; rfl
  | non => have h' : Rp K mg S v _ := h; cases h'; rfl
  | bl b => have h' : Rp K mg S v _ := h; cases h'; rfl
  | int i => have h' : Rp K mg S v _ := h; cases h'; rfl
  | str x => have h' : Rp K mg S v _ := h; cases h'; rfl
  | rol ds => have h' : Rp K mg S v _ := h; cases h'; rfl
  | tup ds => have h' : Rp K mg S v _ := h; cases h'; rfl
  | obj c ns ds => have h' : Rp K mg S v _ := h; cases h'; rfl
  | fr ds => have h' : Rp K mg S v _ := h; cases h'
  | raw a => have h' : Rp K mg S v _ := h; cases h'; rfl
theorem o_isN : O2 K mg (fun x y H Q => y = .non ∧ Q (.bl (decide (x = .non))) H) oIsN := fun S σ H x y d e W Q i hx hy q => by
  unfold oIsN at q
  split at q
  · exact ⟨hy.non, by rw [isNon_v hx]; exact q _ _ _ (Gr.refl i) (.bl _)⟩
  · exact q.elim
theorem o_notN : O2 K mg (fun x y H Q => y = .non ∧ Q (.bl (!decide (x = .non))) H) oNotN := fun S σ H x y d e W Q i hx hy q => by
  unfold oNotN at q
  split at q
  · exact ⟨hy.non, by rw [isNon_v hx]; exact q _ _ _ (Gr.refl i) (.bl _)⟩
  · exact q.elim
theorem RpA.rep {S : Hp} {vs : List V} {ds : List D} (r : RpA K mg S vs ds) : ∀ n, RpA K mg S (List.replicate n vs).flatten (List.replicate n ds).flatten
  | 0 => .nil
  | n + 1 => by
    rw [List.replicate_succ, List.replicate_succ, List.flatten_cons, List.flatten_cons]
    exact r.app (r.rep n)
theorem f_rep : O2F K mg rRep fRep := fun S σ H x y d e W Q i hx hy q => by
  unfold fRep at q
  split at q
  · split at q
    · rename_i hc0
      have hc := of_cb hc0
      obtain ⟨p, vs, rfl, h1, h2⟩ := hx.lst
      exact ⟨p, _, vs, rfl, hy.int, h1, hc.1, hc.2.1, sizeLine16 (by rw [h2.len]; exact hc.2.2), po_newL i (h2.rep _) q⟩
    · exact q.elim
  · exact q.elim
theorem f_cat : O2F K mg rCat fCat := fun S σ H x y d e W Q i hx hy q => by
  unfold fCat at q
  split at q
  · split at q
    · rename_i hc
      obtain ⟨p, vs, rfl, h1, h2⟩ := hx.lst
      obtain ⟨p', vs', rfl, h3, h4⟩ := hy.lst
      exact ⟨p, p', vs, vs', rfl, rfl, h1, h3, sizeLine16 (by rw [h2.len, h4.len]; exact hc), po_newL i (h2.app h4) q⟩
    · exact q.elim
  · exact q.elim
end
/-- t * k of a tuple (fewer than a thousand items of either) -/
def oRepT (d e : D) : Res D := match d, e with
  | .tup xs, .int k => if xs.isEmpty then .ok (.tup []) else .bad
  | _, _ => .bad

/-! ### places and parts -/
@[simp] def oIx (d e : D) : Res D := match d, e with
  | .lst xs, .int i => match atI xs i with
    | some v => .ok v
    | none => .bad
  | .rol xs, .int i => match atI xs i with
    | some v => .ok v
    | none => .bad
  | .tup xs, .int i => match atI xs i with
    | some v => .ok v
    | none => .bad
  | .str x, .int i => if x.length ≤ 16777216 then (match atI x.cps.toList i with
    | some c => .ok (.str ⟨#[c]⟩)
    | none => .bad) else .bad
  | _, _ => .bad
theorem atI_up {K : Frg} {mg : Mg} {S : Hp} {vs : List V} {ds : List D} {i : Int} {d : D} (r : RpA K mg S vs ds) (h : atI ds i = some d) : ∃ v, atI vs i = some v ∧ Rp K mg S v d := by
  unfold atI at h ⊢
  rw [r.len]
  cases e : ixN ds.length i with
  | none => rw [e] at h; cases h
  | some j =>
    rw [e] at h
    exact r.get h
theorem o_ix {K : Frg} {mg : Mg} : O2 K mg (rIx K) oIx := fun S σ H x y d e W Q i hx hy q => by
  unfold oIx at q
  split at q
  · split at q
    · rename_i v ha
      obtain ⟨p, vs, rfl, h1, h2⟩ := hx.lst
      obtain ⟨u, h3, h4⟩ := atI_up h2 ha
      exact .inl ⟨p, vs, _, u, rfl, hy.int, SqL.of h1, h3, q _ _ _ (Gr.refl i) h4⟩
    · exact q.elim
  · split at q
    · rename_i v ha
      obtain ⟨p, vs, rfl, h1, h2⟩ := hx.rol i
      obtain ⟨u, h3, h4⟩ := atI_up h2 ha
      exact .inl ⟨p, vs, _, u, rfl, hy.int, h1, h3, q _ _ _ (Gr.refl i) h4⟩
    · exact q.elim
  · split at q
    · rename_i v ha
      obtain ⟨p, vs, rfl, h1, _, h2⟩ := hx.tup i
      obtain ⟨u, h3, h4⟩ := atI_up h2 ha
      exact .inr (.inl ⟨p, vs, _, u, rfl, hy.int, h1, h3, q _ _ _ (Gr.refl i) h4⟩)
    · exact q.elim
  · split at q
    · rename_i hl
      split at q
      · rename_i c hc
        exact .inr (.inr ⟨_, _, c, hx.str, hy.int, sizeLine16 hl, hc, q _ _ _ (Gr.refl i) (.str _)⟩)
      · exact q.elim
    · exact q.elim
  · exact q.elim

/-! ### built-ins -/
@[simp] def bLen (d : D) : Res D := match d with
  | .lst xs => .ok (.int xs.length)
  | .rol xs => .ok (.int xs.length)
  | .tup xs => .ok (.int xs.length)
  | .str x => if x.length ≤ 16777216 then .ok (.int x.length) else .bad
  | _ => .bad
@[simp] def bAbs (d : D) : Res D := match d with
  | .int i => .ok (.int (if i < 0 then -i else i))
  | _ => .bad
@[simp] def bInt (d : D) : Res D := match d with
  | .int i => .ok (.int i)
  | .bl b => .ok (.int (if b then 1 else 0))
  | _ => .bad
@[simp] def bTup (d : D) : Res D := match d with
  | .lst xs => .ok (.tup xs)
  | .rol xs => .ok (.tup xs)
  | .tup xs => .ok (.tup xs)
  | _ => .bad
@[simp] def bLst (d : D) : Res (List D) := match d with
  | .lst xs => .ok xs
  | .rol xs => .ok xs
  | .tup xs => .ok xs
  | _ => .bad
@[simp] def bGcd (d e : D) : Res D := match d, e with
  | .int i, .int j => .ok (.int ((Nat.gcd i.natAbs j.natAbs : Nat) : Int))
  | _, _ => .bad
def dInts : List D → Option (List Int)
  | [] => some []
  | .int i :: r => (dInts r).map (i :: ·)
  | _ => none
def dBls : List D → Option (List Bool)
  | [] => some []
  | .bl i :: r => (dBls r).map (i :: ·)
  | _ => none
theorem dInts_map : ∀ {ds : List D} {ns : List Int}, dInts ds = some ns → ds = ns.map D.int
  | [], ns, h => by cases h; rfl
  | d :: r, ns, h => by
    cases d <;> first | cases h | skip
    rename_i i
    simp only [dInts, Option.map_eq_some_iff] at h
    obtain ⟨ms, h1, rfl⟩ := h
    rw [dInts_map h1]
    rfl
theorem dBls_map : ∀ {ds : List D} {ns : List Bool}, dBls ds = some ns → ds = ns.map D.bl
  | [], ns, h => by cases h; rfl
  | d :: r, ns, h => by
    cases d <;> first | cases h | skip
    rename_i i
    simp only [dBls, Option.map_eq_some_iff] at h
    obtain ⟨ms, h1, rfl⟩ := h
    rw [dBls_map h1]
    rfl
@[simp] theorem dInts_ok : ∀ ns : List Int, dInts (ns.map D.int) = some ns
  | [] => rfl
  | n :: ns => by simp [dInts, dInts_ok ns]
@[simp] theorem dBls_ok : ∀ ns : List Bool, dBls (ns.map D.bl) = some ns
  | [] => rfl
  | n :: ns => by simp [dBls, dBls_ok ns]
@[simp] def seqOf (d : D) : Option (List D) := match d with
  | .lst ds => some ds
  | .rol ds => some ds
  | _ => none
theorem Rd1.seq {K : Frg} {mg : Mg} {S H : Hp} {v : V} {d : D} {ds : List D} (i : Same S H) (h : Rd1 K mg S H v d) (e : seqOf d = some ds) : ∃ (p : Addr) (vs : List V), v = .ref p ∧ SqL K H p vs ∧ RpA K mg S vs ds := by
  cases d <;> cases e
  · obtain ⟨p, vs, h1, h2, h3⟩ := h.lst
    exact ⟨p, vs, h1, SqL.of h2, h3⟩
  · exact h.rol i
@[simp] def bSum (d : D) : Res D := match seqOf d with
  | some ds => match dInts ds with
    | some ns => .ok (.int ns.sum)
    | none => .bad
  | none => .bad
@[simp] def bAll (d : D) : Res D := match seqOf d with
  | some ds => match dBls ds with
    | some ns => .ok (.bl (ns.all id))
    | none => .bad
  | none => .bad
@[simp] def bAny (d : D) : Res D := match seqOf d with
  | some ds => match dBls ds with
    | some ns => .ok (.bl (ns.any id))
    | none => .bad
  | none => .bad
@[simp] def bBits (d : D) : Res D := match d with
  | .int i => .ok (.int (Builtin.Int.intBits i : Nat))
  | _ => .bad
/-- the built-in type of a value -/
@[simp] def dTy (d : D) : Option String := match d with
  | .non => some "NoneType"
  | .bl _ => some "bool"
  | .int _ => some "int"
  | .str _ => some "str"
  | .lst _ => some "list"
  | .tup _ => some "tuple"
  | _ => none
@[simp] def bIsi (t : String) (d : D) : Res D := match dTy d with
  | some a => match kitB a t with
    | some b => .ok (.bl b)
    | none => .bad
  | none => .bad
section
variable {K : Frg} {mg : Mg}
theorem b_len : U1 K mg (fun v => (fun xs H Q => ∃ x n, xs = [x] ∧ LenV K x H n ∧ Q (V.int n) H : List V → Hp → VK → Prop) [v]) bLen := fun S σ H v d W Q i hx q => by
  unfold bLen at q
  split at q
  · obtain ⟨p, vs, rfl, h1, h2⟩ := hx.lst
    exact ⟨_, _, rfl, .inl ⟨vs, SqL.of h1, rfl⟩, by rw [h2.len]; exact q _ _ _ (Gr.refl i) (.int _)⟩
  · obtain ⟨p, vs, rfl, h1, h2⟩ := hx.rol i
    exact ⟨_, _, rfl, .inl ⟨vs, h1, rfl⟩, by rw [h2.len]; exact q _ _ _ (Gr.refl i) (.int _)⟩
  · obtain ⟨p, vs, rfl, h1, _, h2⟩ := hx.tup i
    exact ⟨_, _, rfl, .inr ⟨vs, h1, rfl⟩, by rw [h2.len]; exact q _ _ _ (Gr.refl i) (.int _)⟩
  · split at q
    · rename_i hl
      rw [hx.str]
      exact ⟨_, _, rfl, ⟨sizeLine16 hl, rfl⟩, q _ _ _ (Gr.refl i) (.int _)⟩
    · exact q.elim
  · exact q.elim
theorem b_abs : U1 K mg (fun v => (fun xs H Q => ∃ i, xs = [V.int i] ∧ Q (V.int (if i < 0 then -i else i)) H : List V → Hp → VK → Prop) [v]) bAbs := fun S σ H v d W Q i hx q => by
  unfold bAbs at q
  split at q
  · rw [hx.int]; exact ⟨_, rfl, q _ _ _ (Gr.refl i) (.int _)⟩
  · exact q.elim
theorem b_int : U1 K mg (fun v => (fun xs H Q => (∃ i, xs = [V.int i] ∧ Q (V.int i) H) ∨ ∃ k, xs = [V.bl k] ∧ Q (V.int (if k then 1 else 0)) H : List V → Hp → VK → Prop) [v]) bInt := fun S σ H v d W Q i hx q => by
  unfold bInt at q
  split at q
  · rw [hx.int]; exact .inl ⟨_, rfl, q _ _ _ (Gr.refl i) (.int _)⟩
  · rw [hx.bl]; exact .inr ⟨_, rfl, q _ _ _ (Gr.refl i) (.int _)⟩
  · exact q.elim
theorem b_tup : U1 K mg (fun v => (fun xs H Q => ∃ p ys, xs = [V.ref p] ∧ ((SqL K H p ys ∧ ∀ l, H l = none → Q (V.ref l) (upd H l (.tup ys))) ∨ (SqT K H p ys ∧ Q (V.ref p) H)) : List V → Hp → VK → Prop) [v]) bTup := fun S σ H v d W Q i hx q => by
  unfold bTup at q
  split at q
  · obtain ⟨p, vs, rfl, h1, h2⟩ := hx.lst
    exact ⟨p, vs, rfl, .inl ⟨SqL.of h1, po_new i h2 q⟩⟩
  · obtain ⟨p, vs, rfl, h1, h2⟩ := hx.rol i
    exact ⟨p, vs, rfl, .inl ⟨h1, po_new i h2 q⟩⟩
  · obtain ⟨p, vs, rfl, h1, h2, h3⟩ := hx.tup i
    exact ⟨p, vs, rfl, .inr ⟨h1, q _ _ _ (Gr.refl i) (.tup h2 h3)⟩⟩
  · exact q.elim
theorem b_lst : U1F K mg (fun v => (fun xs H Q => ∃ p ys, xs = [V.ref p] ∧ (SqL K H p ys ∨ SqT K H p ys) ∧ ∀ l, H l = none → Q (V.ref l) (upd H l (.lst ys)) : List V → Hp → VK → Prop) [v]) bLst := fun S σ H v d W Q i hx q => by
  unfold bLst at q
  split at q
  · obtain ⟨p, vs, rfl, h1, h2⟩ := hx.lst
    exact ⟨p, vs, rfl, .inl (SqL.of h1), po_newL i h2 q⟩
  · obtain ⟨p, vs, rfl, h1, h2⟩ := hx.rol i
    exact ⟨p, vs, rfl, .inl h1, po_newL i h2 q⟩
  · obtain ⟨p, vs, rfl, h1, h2, h3⟩ := hx.tup i
    exact ⟨p, vs, rfl, .inr h1, po_newL i h3 q⟩
  · exact q.elim
theorem b_gcd : O2 K mg (fun v w => rGcd [v, w]) bGcd := fun S σ H x y d e W Q i hx hy q => by
  unfold bGcd at q
  split at q
  · rw [hx.int, hy.int]; exact ⟨_, _, rfl, q _ _ _ (Gr.refl i) (.int _)⟩
  · exact q.elim
theorem b_sum : U1 K mg (fun v => rSum K [v]) bSum := fun S σ H v d W Q i hx q => by
  unfold bSum at q
  split at q
  · rename_i ds e
    split at q
    · rename_i ns e2
      obtain ⟨p, vs, rfl, h1, h2⟩ := hx.seq i e
      rw [dInts_map e2] at h2
      rw [h2.ints] at h1
      exact ⟨p, ns, rfl, h1, q _ _ _ (Gr.refl i) (.int _)⟩
    · exact q.elim
  · exact q.elim
theorem b_all : U1 K mg (fun v => rAll K [v]) bAll := fun S σ H v d W Q i hx q => by
  unfold bAll at q
  split at q
  · rename_i ds e
    split at q
    · rename_i ns e2
      obtain ⟨p, vs, rfl, h1, h2⟩ := hx.seq i e
      rw [dBls_map e2] at h2
      rw [h2.bls] at h1
      exact ⟨p, ns, rfl, h1, q _ _ _ (Gr.refl i) (.bl _)⟩
    · exact q.elim
  · exact q.elim
theorem b_any : U1 K mg (fun v => rAny K [v]) bAny := fun S σ H v d W Q i hx q => by
  unfold bAny at q
  split at q
  · rename_i ds e
    split at q
    · rename_i ns e2
      obtain ⟨p, vs, rfl, h1, h2⟩ := hx.seq i e
      rw [dBls_map e2] at h2
      rw [h2.bls] at h1
      exact ⟨p, ns, rfl, h1, q _ _ _ (Gr.refl i) (.bl _)⟩
    · exact q.elim
  · exact q.elim
theorem Rd1.tyx {S H : Hp} {v : V} {d : D} {a : String} (i : Same S H) (h : Rd1 K mg S H v d) (e : dTy d = some a) : TyX K H v (.type a) := by
  cases d with
  | non => cases e; rw [h.non]; exact .base .non
  | bl b => cases e; rw [h.bl]; exact .base (.bl b)
  | int n => cases e; rw [h.int]; exact .base (.int n)
  | str x => cases e; rw [h.str]; exact .base (.str x)
  | lst ds => cases e; obtain ⟨p, vs, rfl, h1, h2⟩ := h.lst; exact .base (.lst h1)
  | tup ds =>
    cases e
    obtain ⟨p, vs, rfl, h1, h2, h3⟩ := h.tup i
    rcases h1 with (h1 | ⟨o, h1⟩) | ⟨o, its, n, h1, h2, _⟩
    · exact .base (.tup h1)
    · exact .fTuple h1
    · exact .kTuple h1 h2
  | _ => cases e
/-- isinstance(x, T), T a built-in class -/
theorem me_isi {X : Cx} {hx : Hx} {W : WX} {a : Expr} {fa : Sl → Res D} {t : Str} {T : String} {p p1 pos : Pos} (ha : MR X hx W a fa) (hv : bootBuiltins t = some (.type T)) (hm : X.mg "isinstance" = none) (hm2 : X.mg t = none) (hg : Gl X "isinstance" := by rfl) (hg2 : Gl X t := by rfl) (hn : t ≠ "__name__" := by decide) (hdb : (t == ("__debug__" : Str)) = false := by decide)
    (hs : starEach [a, .Name t p1] X.env = (false, eval a X.env) :: starEach [.Name t p1] X.env := by rfl) (hs2 : starEach [.Name t p1] X.env = (false, eval (.Name t p1) X.env) :: starEach [] X.env := by rfl) (hpl : (backTo pos (starEach [.Name t p1] X.env)).any (·.1) = false := by rfl) :
    ME X hx W (.Call (.Name "isinstance" p) [a, .Name t p1] [] pos) (sUn (bIsi T) fa) :=
  pe_imp (pe_callB (x := "isinstance") call_isi hg hm PyProof.Rows.boot_isinstance (pa_cons ha (pa_cons (pe_bltn (v := .ty T) hg2 hm2 hv rfl hn hdb) pa_nil hs2) hs) (by decide) (by decide) hs hpl) fun σ H Q ⟨b, S, ρ, R, q⟩ => ⟨b, S, ρ, R, q.bind fun d v S1 H1 g1 r1 k => by
    unfold bIsi at k
    split at k
    · rename_i a e1
      split at k
      · rename_i tb e2
        exact ⟨v, .ty T, .type a, .type T, tb, rfl, .ty T, Rd1.tyx g1.i r1 e1, kit_ty e2, k _ S1 H1 g1 (.bl tb)⟩
      · exact k.elim
    · exact k.elim⟩
/-- x.bit_length() -/
theorem me_bits {X : Cx} {hx : Hx} {W : WX} {o : Expr} {fo : Sl → Res D} {apos pos : Pos} (ho : MR X hx W o fo) (hbase : attributeBase o "bit_length" X.env (eval o X.env) = eval o X.env := by rfl) (hline : (apos.endLine == pos.line) = true := by rfl) :
    ME X hx W (.Call (.Attribute o "bit_length" apos) [] [] pos) (sUn bBits fo) := pe_imp (pe_bits ho hbase hline) fun σ H Q ⟨b, S, ρ, R, q⟩ => ⟨b, S, ρ, R, q.bind fun d v S1 H1 g1 r1 k => by
    unfold bBits at k
    split at k
    · exact ⟨_, r1.int, k _ S1 H1 g1 (.int _)⟩
    · exact k.elim⟩
/-- a slice's part -/
abbrev rrP : RR (Option Int) (Option Int) := fun _ _ _ b c => b = c
@[simp] def pNone (_ : Sl) : Res (Option Int) := .ok none
@[simp] def pSome (f : Sl → Res D) (ρ : Sl) : Res (Option Int) := (f ρ).bind fun d => match d with
  | .int i => .ok (some i)
  | _ => .bad
abbrev MP (X : Cx) (hx : Hx) (W : WX) (e : Option Expr) (f : Sl → Res (Option Int)) : Prop := PO X e (tG X.K X.mg hx rrP W f)
theorem po_imp {X : Cx} {e : Option Expr} {t t' : TO} (h : PO X e t) (i : ∀ σ H Q, t' σ H Q → t σ H Q) : PO X e t' := ⟨fun pins s σ H Q I q => h.run pins s σ H Q I (i σ H Q q)⟩
theorem mp_none {X : Cx} {hx : Hx} {W : WX} : MP X hx W none pNone := po_imp po_none fun σ H Q ⟨b, S, ρ, R, q⟩ => q none S H (Gr.refl R.sh) rfl
theorem mp_some {X : Cx} {hx : Hx} {W : WX} {e : Expr} {f : Sl → Res D} (h : ME X hx W e f) : MP X hx W (some e) (pSome f) := po_imp (po_some h) fun σ H Q ⟨b, S, ρ, R, q⟩ => ⟨b, S, ρ, R, q.bind fun d v S1 H1 g1 r1 k => by
  cases d <;> first | exact k.elim | skip
  cases r1
  exact ⟨_, rfl, k _ S1 H1 g1 rfl⟩⟩
theorem Po.upP {W : WX} {S H S' H' : Hp} {σ : L2.St} {r : Res (Option Int)} {Q : Option Int → Hp → Prop} (g : Gr S H S' H') (h : Po K mg rrP W S σ H r Q) : Po K mg rrP W S' σ H' r Q := h.up g fun _ _ _ _ _ q => q
def cutD (xs : List D) (lo hi : Option Int) : List D := (xs.drop (HT.sIx xs.length 0 lo)).take (HT.sIx xs.length xs.length hi - HT.sIx xs.length 0 lo)
theorem RpA.cut {S : Hp} {vs : List V} {ds : List D} (r : RpA K mg S vs ds) (lo hi : Option Int) : RpA K mg S (cutV vs lo hi) (cutD ds lo hi) := by
  unfold cutV cutD
  rw [r.len]
  exact (r.drop _).take _
@[simp] def fSl (f : Sl → Res D) (l h : Sl → Res (Option Int)) (ρ : Sl) : Res (List D) := (f ρ).bind fun d => (l ρ).bind fun lo => (h ρ).bind fun hi => match seqOf d with
  | some xs => .ok (cutD xs lo hi)
  | none => .bad
/-- a slice of a list: new -/
theorem mf_sl {X : Cx} {hx : Hx} {W : WX} {e : Expr} {lo hi : Option Expr} {f : Sl → Res D} {l h : Sl → Res (Option Int)} {pos p2 : Pos} (he : MR X hx W e f) (hl : MP X hx W lo l) (hh : MP X hx W hi h) : MF X hx W (.Subscript e (.Slice lo hi none p2) pos) (fSl f l h) :=
  pe_imp (pe_slice sl_list he hl hh) fun σ H Q ⟨b, S, ρ, R, q⟩ => ⟨b, S, ρ, R, q.bind fun d v S1 H1 g1 r1 k => ⟨b, S1, ρ, R.grow g1, (k.upF g1).bind fun d2 v2 S2 H2 g2 r2 k2 => ⟨b, S2, ρ, (R.grow g1).grow g2, (k2.upF g2).bind fun d3 v3 S3 H3 g3 r3 k3 => by
    cases r2
    cases r3
    split at k3
    · rename_i xs e1
      obtain ⟨p, vs, rfl, h1, h2⟩ := ((r1.up g2).up g3).seq g3.i e1
      exact ⟨p, vs, rfl, h1, po_newL g3.i (h2.cut _ _) (Po.upF g3 k3)⟩
    · exact k3.elim⟩⟩⟩
@[simp] def sSl (f : Sl → Res D) (l h : Sl → Res (Option Int)) (ρ : Sl) : Res D := (f ρ).bind fun d => (l ρ).bind fun lo => (h ρ).bind fun hi => match d with
  | .tup xs => .ok (.tup (cutD xs lo hi))
  | .str x => if x.length ≤ 16777216 then .ok (.str (cutS x lo hi)) else .bad
  | .lst xs => .ok (.lst (cutD xs lo hi))
  | .rol xs => .ok (.lst (cutD xs lo hi))
  | _ => .bad
end
end PF

set_option Elab.async false
set_option linter.all false
set_option maxRecDepth 100000
set_option maxHeartbeats 4000000
namespace PF
open PySem PySem.Spec L2

/-- a def of the text that keeps its promise, as its callers see it -/
structure Df (P : Program) (w : World) (K : Frg) (mg : Mg) (base : Heap) (x : Str) (k : Nat) (f : Addr) (fd : FuncData) (ps : List Str) (g : List D → Res D) : Prop where
  ok : FnOk P w K mg base (L2.CX P w) k f fd ps (spF K mg ps.length g)
  mg : mg x = some (.ref f)
  kp : PySem.W.keepIn K (.ref f) = true
  bi : Binds K fd ps []
theorem Po.freeze {K : Frg} {mg : Mg} {W : WX} {S H : Hp} {σ : L2.St} {r : Res D} {Q : VK} (h : Po K mg (rrE K mg) W S σ H (r.bind thaw) Q) : Po K mg (rrX K mg) W S σ H r Q := by
  cases r with
  | exc y ys => exact h
  | bad => exact h
  | ok d =>
    intro v S' H' g q
    rcases q with q | ⟨xs, rfl, p, vs, rfl, h2, h3, h4, h5⟩
    · cases d <;> first | exact h v S' H' g q | cases q
    · have up : Same S' (upd S' p (.lst vs)) := same_new h3
      refine h _ (upd S' p (.lst vs)) H' ⟨g.s.trans up, g.h, fun a o q => ?_, fun a ha q => ?_⟩ (.lst upd_same (h5.up up _ _))
      · by_cases z : a = p
        · subst z; rw [upd_same] at q; cases q; exact h4
        · rw [upd_ne z] at q; exact g.i a o q
      · rw [upd_ne (fun z => ha (by rw [z]; exact h2))]; exact g.n a ha q
theorem Po.unfr {K : Frg} {mg : Mg} {W : WX} {S H : Hp} {σ : L2.St} {r : Res D} {Q : VK} (h : Po K mg (rrF K mg) W S σ H (r.bind unfr) Q) : Po K mg (rrX K mg) W S σ H r Q := by
  cases r with
  | exc y ys => exact h
  | bad => exact h
  | ok d =>
    intro v S' H' g q
    rcases q with q | ⟨xs, rfl, q⟩
    · cases d <;> first | exact h.elim | cases q
    · exact h v S' H' g q
section
variable {X : Cx} {hx : Hx} {W : WX} {k : Nat} {f : Addr} {fd : FuncData} {ps : List Str} {g : List D → Res D} {x : Str} {p pos : Pos} {e : Expr} {es : List Expr} {fs : Sl → Res (List D)}
theorem call_imp (G : Df X.prog X.w X.K X.mg X.base x k f fd ps g) {σ : L2.St} {H : Hp} {Q : VK} (hfl : ∀ ρ ds, fs ρ = .ok ds → ds.length = ps.length) {b S ρ} (R : Rel X.K X.mg hx b S ρ σ H) (q : Po X.K X.mg (rrX X.K X.mg) W S σ H ((fs ρ).bind g) Q) : Po X.K X.mg (rrA X.K X.mg) W S σ H (fs ρ) fun vs H1 => spF X.K X.mg ps.length g vs H1 Q fun cls d H' => W cls d σ H' := by
  cases ef : fs ρ with
  | exc y ys => rw [ef] at q; exact q
  | bad => rw [ef] at q; exact q
  | ok ds =>
    rw [ef] at q
    intro v S1 H1 g1 r1
    refine ⟨ds, S1, by rw [r1.len]; exact hfl ρ ds ef, g1.i, r1, ?_⟩
    have q1 : Po X.K X.mg (rrX X.K X.mg) W S1 σ H1 (g ds) Q := Po.upX g1 q
    cases eg : g ds with
    | ok d => rw [eg] at q1; exact q1
    | exc y ys => rw [eg] at q1; exact q1
    | bad => rw [eg] at q1; exact q1
theorem bind_bind {α β γ : Type} (r : Res α) (f : α → Res β) (h : β → Res γ) : (r.bind fun a => (f a).bind h) = (r.bind f).bind h := by cases r <;> rfl
theorem me_calD (G : Df X.prog X.w X.K X.mg X.base x k f fd ps g) (hr : Room k X.A) (cw : Cw X W)
    (ha : MA X hx W (e :: es) fs) (hfl : ∀ ρ ds, fs ρ = .ok ds → ds.length = ps.length) (hg : Gl X x := by rfl) (hdb : (x == ("__debug__" : Str)) = false := by decide) (he : starEach (e :: es) X.env = (false, eval e X.env) :: starEach es X.env := by rfl) (hpl : (backTo pos (starEach es X.env)).any (·.1) = false := by rfl) :
    ME X hx W (.Call (.Name x p) (e :: es) [] pos) (sCall g fs) :=
  pe_imp (pe_callS G.ok hr hg G.mg G.kp G.bi cw ha hdb he hpl) fun σ H Q ⟨b, S, ρ, R, q⟩ => ⟨b, S, ρ, R, call_imp G hfl R (Po.freeze (by unfold sCall at q; rw [bind_bind] at q; exact q))⟩
theorem mf_calD (G : Df X.prog X.w X.K X.mg X.base x k f fd ps g) (hr : Room k X.A) (cw : Cw X W)
    (ha : MA X hx W (e :: es) fs) (hfl : ∀ ρ ds, fs ρ = .ok ds → ds.length = ps.length) (hg : Gl X x := by rfl) (hdb : (x == ("__debug__" : Str)) = false := by decide) (he : starEach (e :: es) X.env = (false, eval e X.env) :: starEach es X.env := by rfl) (hpl : (backTo pos (starEach es X.env)).any (·.1) = false := by rfl) :
    MF X hx W (.Call (.Name x p) (e :: es) [] pos) (fCall g fs) :=
  pe_imp (pe_callS G.ok hr hg G.mg G.kp G.bi cw ha hdb he hpl) fun σ H Q ⟨b, S, ρ, R, q⟩ => ⟨b, S, ρ, R, call_imp G hfl R (Po.unfr (by unfold fCall at q; rw [bind_bind] at q; exact q))⟩
end
/-- a, b = e1, e2 (two local names) -/
@[simp] def gPar (i j : Nat) (f h : Sl → Res D) (ρ : Sl) : Out := rS (f ρ) ρ fun d => rS (h ρ) ρ fun e => .nx ((ρ.set i (.v d)).set j (.v e))
theorem ms_par {X : Cx} {hx : Hx} {W : WX} (i j : Nat) {x y : Str} {a b : Expr} {f h : Sl → Res D} {px py pt pos : Pos} {kt k2 pt2} (hc : X.calm = true) (hN : X.N.Nodup) (ha : ME X hx W a f) (hb : ME X hx W b h) (hi : X.N[i]? = some x := by rfl) (hj : X.N[j]? = some y := by rfl) (hij : i ≠ j := by decide)
    (hx' : X.env.scope.names.lookup x = some .local := by rfl) (hy : X.env.scope.names.lookup y = some .local := by rfl)
    (s1 : starEach [a, b] X.env = (false, eval a X.env) :: starEach [b] X.env := by rfl) (s2 : starEach [b] X.env = (false, eval b X.env) :: starEach [] X.env := by rfl)
    (hw : swappedStores [.Tuple [.Name x px, .Name y py] kt pt] (.Tuple [a, b] k2 pt2) X.env = pure (some [x, y]) := by rfl)
    (hs : swapsWithSole [.Tuple [.Name x px, .Name y py] kt pt] (.Tuple [a, b] k2 pt2) pos.line X.env = pure false := by rfl) :
    MS X hx W (.Assign [.Tuple [.Name x px, .Name y py] kt pt] (.Tuple [a, b] k2 pt2) pos) (gPar i j f h) :=
  ps_imp (ps_par hc hN hi hj hij hx' hy (pa_cons ha (pa_cons hb pa_nil s2) s1) hw hs) fun D σ H ⟨b, S, ρ, R, q⟩ =>
    ⟨b, S, ρ, R, rS_po R q fun d v S1 H1 g1 r1 k => ⟨b, S1, ρ, R.grow g1, rS_po (R.grow g1) (PoS.up g1.s k) fun d2 v2 S2 H2 g2 r2 k2 =>
      ⟨v, v2, rfl, k2 S2 _ H2 g2.s ((((R.grow g1).grow g2).put (r1.up g2.s _ _)).put r2)⟩⟩⟩

/-! ### isinstance(e, (c1, c2, ..)) of the exception that a suite holds -/
def rIsET (K : Frg) (D0 a : Addr) : List V → Hp → VK → Prop := fun xs H Q => ∃ (tp : Addr) (cs : List V) (us : List Value) (b : Bool), xs = [.ref a, .ref tp] ∧ H tp = some (.tup cs) ∧ Paired ClsV cs us ∧ PySem.W.kitAny K (.ref D0) us = some b ∧ Q (.bl b) H
theorem call_isET {X : Cx} {a D0 : Addr} {oe : Obj} {pn : List (Addr × Obj)} (C : ExcC X.K D0) (hz : Zc (.ref D0) none oe) (hf : ∃ vs, oe.data = .fields vs) : CallR (X.suite a ((a, oe) :: pn)) (.builtin "isinstance") (rIsET X.K D0 a) := by
  intro pins s σ H xs us Q I r h
  obtain ⟨tp, cs, ws, b, rfl, hT, k, e, q⟩ := h
  obtain ⟨u1, u2, rfl, r1, r2⟩ := vals2 r
  cases (show u1 = Value.ref a from r1)
  cases (show u2 = Value.ref tp from r2)
  obtain ⟨hget, _⟩ := I.pin (a, oe) (List.mem_append.mpr (.inl List.mem_cons_self))
  obtain ⟨vs, hv⟩ := hf
  have J : PySem.W.InstAt s.heap a oe D0 none := by
    obtain ⟨oc, od, oda, osl⟩ := oe
    obtain ⟨h1, h2⟩ := hz
    dsimp only at h1 h2 hv
    subst h1 h2 hv
    exact ⟨hget, rfl, rfl, trivial⟩
  obtain ⟨_, its, rv, o, h1, h2, n, h3⟩ := (show ObjOk X.prog X.w H s.heap tp (.tup cs) from I.hok tp _ hT)
  have e3 := ClsV.all k rv
  subst e3
  obtain ⟨oc, od, dt, sl⟩ := o
  simp only at h2 h3
  subst h2 h3
  exact PySem.W.kia_tup (PySem.W.handS_kitx_exc C.hg C.hk C.hs C.hd C.ha C.hn C.ht C.hm) I.kIn J h1 e (fun z => nomatch z) fun tk => ⟨.bl b, H, I.kept (t' := tk) fun _ _ z => z, rfl, q⟩
def tcs : List V → TA
  | [] => tNil
  | c :: cs => tCons (tC c) (tcs cs)
theorem tcs_run {σ : L2.St} {H : Hp} : ∀ (cs : List V) (Q : List V → Hp → Prop), Q cs H → tcs cs σ H Q
  | [], _, h => h
  | c :: cs, Q, h => tcs_run cs _ h
theorem me_isET {X : Cx} {a D0 : Addr} {oe : Obj} {pn : List (Addr × Obj)} {d : Option Addr} {W : WX} {ces : List Expr} {n : Str} {p p1 pos pt : Pos} {kt} {cvs : List V} {cus : List Value} (i : Nat) {tab : Str → Option Bool} (hz : Zc (.ref D0) d oe) (hf : ∃ vs, oe.data = .fields vs) (ht : TabT X.K X.mg tab cus)
    (hv : PE (X.suite a ((a, oe) :: pn)) (.Name n p1) (tVar i)) (hc : PA (X.suite a ((a, oe) :: pn)) ces (tcs cvs)) (k : Paired ClsV cvs cus) (hm : X.mg "isinstance" = none) (hl : cvs.length ≤ 1000 := by simp) (hg : Gl X "isinstance" := by rfl)
    (hs : starEach [.Name n p1, .Tuple ces kt pt] X.env = (false, eval (.Name n p1) X.env) :: starEach [.Tuple ces kt pt] X.env := by rfl) (hs2 : starEach [.Tuple ces kt pt] X.env = (false, eval (.Tuple ces kt pt) X.env) :: starEach [] X.env := by rfl) (hpl : (backTo pos (starEach [.Tuple ces kt pt] X.env)).any (·.1) = false := by rfl) :
    ME (X.suite a ((a, oe) :: pn)) (some (a, D0, d)) W (.Call (.Name "isinstance" p) [.Name n p1, .Tuple ces kt pt] [] pos) (sIsE i tab) := ⟨fun pins s σ H Q I ⟨b, S, ρ, R, q⟩ => by
  unfold sIsE at q
  split at q
  · rename_i x e
    obtain ⟨a1, C1, d1, h1, h2, h3, h4⟩ := R.xc i x [] e
    cases h1
    split at q
    · rename_i tb et
      obtain ⟨t1, t2⟩ := ht x D0 tb h3 et
      have hd := xd_none h4
      subst hd
      exact (pe_callB (x := "isinstance") (call_isET (X := X) (a := a) (pn := pn) t1 hz hf) hg hm PyProof.Rows.boot_isinstance (pa_cons hv (pa_cons (pe_tup hc) pa_nil hs2) hs) (by decide) (by decide) hs hpl).run pins s σ H Q I ⟨_, h2, tcs_run cvs _ ⟨Nat.le_trans hl (sizeLine16 (by decide)), fun tp htp => ⟨tp, cvs, cus, tb, rfl, upd_same, k, t2, q _ _ _ (Gr.heap R.sh (same_new htp)) (.bl tb)⟩⟩⟩
    · exact q.elim
  · exact q.elim⟩
theorem iop_mulU {X : Cx} : PIp X .Mult (rI (fun i j => mulOk i j = true) fun i j => .int (i * j)) := (opI fun _ _ _ _ _ _ _ hc q => PyProof.Rows.imul_int q (CMulX_of_small hc) : OpR X (inplaceOp .Mult) _)
def whFuel : Nat := 1000000000000000000
/-- no exception leaves -/
theorem fn_calm {P : Program} {w : World} {K : Frg} {mg : Mg} {base : Heap} {k : Nat} {f : Addr} {fd : FuncData} {ps : List Str} {sp : Sp} (F : FnOk P w K mg base (L2.CX P w) k f fd ps sp) : FnOk P w K mg base CX0 k f fd ps (fun vs H Q _ => sp vs H Q fun _ _ _ => False) :=
  ⟨fun vs H Q E h => F.len _ _ _ _ h, fun A outer s H args us vs Q E hr he hb hv h => codeAny_mono (F.run A outer s H args us vs Q _ hr he hb hv h) fun r s' q => by
    cases r with
    | ok fl => cases fl <;> exact q
    | error e =>
      obtain ⟨_, _, _, _, _, _, _, _, _, _, _, _, z⟩ := q
      exact z.elim⟩
/-- law's own promise -/
def spLaw (K : Frg) : Sp := fun vs H Q _ => ∃ (a : Addr) (ns : List Int), vs = [.ref a] ∧ SqL K H a (ns.map V.int) ∧ ns.length ≤ 63 ∧ ∀ H', Q (.bl true) H'
theorem law_ok {P : Program} {w : World} {K : Frg} {mg : Mg} {base : Heap} {k : Nat} {f : Addr} {fd : FuncData} {g : List D → Res D} (F : FnOk P w K mg base (L2.CX P w) k f fd ["script"] (spF K mg 1 g))
    (h : ∀ ns : List Int, ns.length ≤ 63 → g [.rol (ns.map D.int)] = .ok (.bl true)) : FnOk P w K mg base CX0 k f fd ["script"] (spLaw K) :=
  (fn_calm F).imp fun vs H Q E ⟨a, ns, e, hS, hl, q⟩ => by
    subst e
    refine ⟨[.rol (ns.map D.int)], H, rfl, Same.refl _, .cons (.rol hS (RpA.of_ints ns)) .nil, ?_⟩
    rw [h ns hl]
    intro v S' H' g1 r1
    rcases r1 with r1 | ⟨_, e, _⟩
    · cases r1
      exact q H'
    · cases e
end PF

set_option Elab.async false
set_option linter.all false
set_option maxRecDepth 100000
set_option maxHeartbeats 4000000
/-! More rules: tuple * int, slices of any kind, zip, enumerate. -/
namespace PF
open PySem PySem.Spec L2 PyProof.Rows
/-! ### t * 1 is t itself -/
theorem tup_mul1 (l : Addr) (items : Array Value) (n : Nat) (dd : Option Addr) (sl : Array (Option Value)) (u : Tok) :
    Meets (Builtin.«tuple.__mul__» ⟨[.ref l, .int 1 u], []⟩) (fun _ R s => s.heap.get? l = some { cls := .type "tuple", dict := dd, data := .seq items n, slots := sl } ∧ R (.ok (.ret (Value.ref l))) s) :=
  .of_wp fun prog w A R s h => by
    obtain ⟨hp, g, d, tk, os⟩ := s
    obtain ⟨hl, h⟩ := h
    have c0 : (decide ((1 : Int) < -(2 ^ 63)) || decide ((1 : Int) ≥ 2 ^ 63)) = false := by decide
    have c1 : (items.isEmpty || (1 : Int) == 1) = true := by simp
    have f1 := AutoSeq1.idx_int
    wp_walk using wpAny_loadPart' hl
    repeat (first
      | (refine wpAny_ite_false (decide_eq_false (by rw [c0]; exact Bool.false_ne_true)) ?_; wp_walk using wpAny_loadPart' hl)
      | (refine wpAny_ite_true (decide_eq_true c1) ?_; wp_walk using wpAny_loadPart' hl))
    exact ⟨_, rfl, h⟩
def rMul1 (K : PySem.W.Frag) : R2 := fun x y H Q => ∃ l xs, x = .ref l ∧ y = .int 1 ∧ SqT K H l xs ∧ Q (.ref l) H
theorem op_mul1 {X : Cx} : OpR X (binaryOp .Mult) (rMul1 X.K) := by
  intro pins s σ H x y v u Q I rx ry h
  obtain ⟨l, xs, rfl, rfl, hT, q⟩ := h
  cases rx
  obtain ⟨t, rfl⟩ := ry
  obtain ⟨its, r, ⟨⟨cls, dd, data, sl⟩, ho, hc, n, hd⟩, hs⟩ := I.tuple hT
  simp only at hc hd
  subst hc hd
  refine wpAny_binaryOp_repeat_ref (T := "tuple") (U := "int") (by decide) ⟨_, ho, rfl⟩ (fun s' => typeIs_int s' 1 t) noFill_tuple_mul F.fills_int_mul F.slot_int_rmul repeat_tuple F.slot_int_index.lookup
    (call_meets F.slot_int_rmul (typeIs_int s 1 t) F.entry_int_rmul (F.args_int_rmul_2 _ _) (int_rmul_tuple 1 t l its.toArray n dd sl)
      ⟨ho, rfl, ⟨_, ho, rfl⟩, call_meets F.slot_tuple_mul ⟨_, ho, rfl⟩ F.entry_tuple_mul (F.args_tuple_mul_2 _ _) (tup_mul1 l its.toArray n dd sl t) ⟨ho, ?_⟩⟩)
  exact ⟨.ref l, H, I, rfl, q⟩
@[simp] noncomputable def oMulT (d e : D) : Res D := match d, e with
  | .int i, .int j => if mulOk i j then .ok (.int (i * j)) else .bad
  | .tup xs, .int k => if cb (xs ≠ [] ∧ 1 ≤ k ∧ k ≤ 1000 ∧ xs.length ≤ 1000) then .ok (.tup (List.replicate k.toNat xs).flatten) else .bad
  | _, _ => .bad
def rMulA (K : PySem.W.Frag) : R2 := fun x y H Q => rI (fun i j => mulOk i j = true) (fun i j => .int (i * j)) x y H Q ∨ rRepT K x y H Q ∨ rMul1 K x y H Q
theorem op_mulA {X : Cx} : OpR X (binaryOp .Mult) (rMulA X.K) := op_mulU.or (op_repT.or op_mul1)
theorem o_mulT {K : Frg} {mg : Mg} : O2 K mg (rMulA K) oMulT := fun S σ H x y d e W Q i hx hy q => by
  unfold oMulT at q
  split at q
  · split at q
    · rename_i hc
      exact .inl ⟨_, _, hx.int, hy.int, hc, q _ _ _ (Gr.refl i) (.int _)⟩
    · exact q.elim
  · rename_i xs k
    split at q
    · rename_i hc
      obtain ⟨h1, h2, h3, h4⟩ := of_cb hc
      obtain ⟨p, vs, rfl, k1, k2, r⟩ := hx.tup i
      by_cases e1 : k = 1
      · subst e1
        refine .inr (.inr ⟨p, vs, rfl, hy.int, k1, q _ S H (Gr.refl i) ?_⟩)
        have e2 : (List.replicate (1 : Int).toNat xs).flatten = xs := by simp
        rw [e2]
        exact .tup k2 r
      · refine .inr (.inl ⟨p, k, vs, rfl, hy.int, k1, fun z => h1 ?_, by omega, h3, by rw [r.len]; exact h4, po_new i (r.rep _) q⟩)
        subst z
        have := r.len
        exact List.eq_nil_of_length_eq_zero this.symm
    · exact q.elim
  · exact q.elim
/-! ### slices of any kind -/
theorem me_sl {X : Cx} {hx : Hx} {W : WX} {e : Expr} {lo hi : Option Expr} {f : Sl → Res D} {l h : Sl → Res (Option Int)} {pos p2 : Pos} (he : MR X hx W e f) (hl : MP X hx W lo l) (hh : MP X hx W hi h) : ME X hx W (.Subscript e (.Slice lo hi none p2) pos) (sSl f l h) :=
  pe_imp (pe_slice (sl_tupA.or (sl_str.or sl_list)) he hl hh) fun σ H Q ⟨b, S, ρ, R, q⟩ => ⟨b, S, ρ, R, q.bind fun d v S1 H1 g1 r1 k => ⟨b, S1, ρ, R.grow g1, (k.upE g1).bind fun d2 v2 S2 H2 g2 r2 k2 => ⟨b, S2, ρ, (R.grow g1).grow g2, (k2.upE g2).bind fun d3 v3 S3 H3 g3 r3 k3 => by
    cases r2
    cases r3
    have r := (r1.up g2).up g3
    have k4 := k3.upE g3
    have newL : ∀ xs vs, RpA X.K X.mg S3 vs xs → Po X.K X.mg (rrE X.K X.mg) W S3 σ H3 (.ok (.lst (cutD xs d2 d3))) Q → ∀ p, H3 p = none → Q (.ref p) (upd H3 p (.lst (cutV vs d2 d3))) := fun xs vs h2 z p hp =>
      z _ _ _ (Gr.new g3.i hp) (.lst upd_same ((h2.cut _ _).up (same_new (same_none g3.i hp)) _ _))
    cases d with
    | tup xs =>
      obtain ⟨p, vs, rfl, h1, h2, h3⟩ := r.tup g3.i
      refine .inl ⟨p, vs, rfl, h1, fun hw => ?_, fun _ => po_new g3.i (h3.cut _ _) k4⟩
      have e1 : cutD xs d2 d3 = xs := by
        unfold cutD
        rw [← h3.len, hw.1, hw.2, h3.len]
        simp
      refine k4 _ S3 H3 (Gr.refl g3.i) ?_
      rw [e1]
      exact .tup h2 h3
    | str x =>
      have k5 : Po X.K X.mg (rrE X.K X.mg) W S3 σ H3 (if x.length ≤ 16777216 then .ok (.str (cutS x d2 d3)) else .bad) Q := k4
      split at k5
      · rename_i hz
        exact .inr (.inl ⟨x, r.str, sizeLine16 hz, k5 _ S3 H3 (Gr.refl g3.i) (.str _)⟩)
      · exact k5.elim
    | lst xs =>
      obtain ⟨p, vs, rfl, h1, h2⟩ := r.lst
      exact .inr (.inr ⟨p, vs, rfl, SqL.of h1, newL xs vs h2 k4⟩)
    | rol xs =>
      obtain ⟨p, vs, rfl, h1, h2⟩ := r.rol g3.i
      exact .inr (.inr ⟨p, vs, rfl, h1, newL xs vs h2 k4⟩)
    | _ => exact k4.elim⟩⟩⟩
end PF

set_option Elab.async false
set_option linter.all false
set_option maxRecDepth 100000
set_option maxHeartbeats 4000000
/-! zip and enumerate over lists and tuples, in any mixture. -/
namespace PF
open PySem PySem.Spec L2 PyProof.Rows
def SqK (K : PySem.W.Frag) (t : Bool) (H : Hp) (a : Addr) (xs : List V) : Prop := match t with
  | true => SqT K H a xs
  | false => SqL K H a xs
def ItK (t : Bool) (h : Heap) (it a : Addr) (i : Nat) : Prop := match t with
  | true => h.IsTupleIter it a i
  | false => h.IsListIter it a i
def SeK (t : Bool) (h : Heap) (a : Addr) (its : Array Value) : Prop := match t with
  | true => h.IsTuple a its
  | false => h.IsList a its
def beK (t : Bool) (a : Addr) : Obj := match t with
  | true => { cls := .type "tuple_iterator", data := .fields #[.ref a, .int 0 0] }
  | false => { cls := .type "list_iterator", data := .fields #[.ref a, .int 0 0] }
theorem drawsK {prog : Program} {w : World} {A : Around} (t : Bool) (hh : A.handled = none) (it a : Addr) (hne : a ≠ it) (its : Array Value) : Draws prog w A it [it, a] its.size (fun i v => its[i]? = some v) (fun i h => ItK t h it a i ∧ SeK t h a its) := by
  cases t with
  | false => exact Draws.list hh it a hne its
  | true => exact Draws.tuple hh it a hne its
theorem beginsK (t : Bool) (a : Addr) (its : Array Value) : Begins (.ref a) (beK t a) fun h => SeK t h a its := by
  cases t with
  | false => exact begins_list a its
  | true => exact begins_tuple a its
theorem itK_new (t : Bool) {h : Heap} {it a : Addr} (e : h.get? it = some (beK t a)) : ItK t h it a 0 := by
  cases t with
  | false => exact ⟨_, e, rfl, rfl⟩
  | true => exact ⟨_, e, rfl, rfl⟩
theorem ItK.kept {t : Bool} {h h' : Heap} {it a : Addr} {i : Nat} (x : ItK t h it a i) (k : ∀ o, h.get? it = some o → h'.get? it = some o) : ItK t h' it a i := by
  cases t with
  | false => exact Heap.IsListIter.at x k
  | true => exact Heap.IsTupleIter.at x k
theorem ItK.obj {t : Bool} {h : Heap} {it a : Addr} {i : Nat} (x : ItK t h it a i) : ∃ o, h.get? it = some o ∧ ∀ v, o.data ≠ .cell v := by
  cases t with
  | false => obtain ⟨o, e, _, d⟩ := x; exact ⟨o, e, fun v q => by rw [d] at q; cases q⟩
  | true => obtain ⟨o, e, _, d⟩ := x; exact ⟨o, e, fun v q => by rw [d] at q; cases q⟩
theorem SeK.lt {t : Bool} {h : Heap} {a : Addr} {its : Array Value} (x : SeK t h a its) : a < h.objs.size := by
  cases t with
  | false => obtain ⟨o, e, _⟩ := x; exact Heap.lt_size e
  | true => obtain ⟨o, e, _⟩ := x; exact Heap.lt_size e
section
variable {X : Cx} {pins : List (Addr × Obj)} {σ : L2.St} {H : Hp} {s : Shared}
theorem Inv.seK {t : Bool} {a : Addr} {xs : List V} (I : Inv X pins σ H s) (h : SqK X.K t H a xs) : ∃ its : List Value, Vals xs its ∧ SeK t s.heap a its.toArray := by
  cases t with
  | false => obtain ⟨its, rv, p, _⟩ := I.list h; exact ⟨its, rv, p.isList⟩
  | true => obtain ⟨its, rv, p, _⟩ := I.tuple h; exact ⟨its, rv, p⟩
theorem Inv.seK_inj {t : Bool} {a : Addr} {xs ys : List V} (I : Inv X pins σ H s) (h : SqK X.K t H a xs) (h' : SqK X.K t H a ys) : xs = ys := by
  cases t with
  | false => exact I.list_inj h h'
  | true => exact I.tuple_inj h h'
end
/-! ### zip -/
def ItzG (K : PySem.W.Frag) (t1 t2 : Bool) (a b : Addr) : It :=
  ⟨fun i H => ∃ (xs ys : List V) (x y : V), SqK K t1 H a xs ∧ SqK K t2 H b ys ∧ xs[i]? = some x ∧ ys[i]? = some y,
    fun i H v H' => ∃ T x y, v = .ref T ∧ H T = none ∧ H' = upd H T (.tup [x, y]) ∧ (∀ xs, SqK K t1 H a xs → xs[i]? = some x) ∧ ∀ ys, SqK K t2 H b ys → ys[i]? = some y,
    fun i H => ∃ xs ys : List V, SqK K t1 H a xs ∧ SqK K t2 H b ys ∧ i = min xs.length ys.length⟩
theorem sep_of {a b z TI TO i1 i2 : Addr} (D : ZipApart z TI TO i1 i2 a b) : ZipSep2 z TI TO i1 i2 [i1, a] [i2, b] where
  TIz := D.TIz
  TOz := D.TOz
  TITO := D.TITO
  TIi1 := D.TIi1
  mem1 := by simp
  zf1 := by simp [Ne.symm D.i1z, Ne.symm D.l1z]
  Tf1 := by simp [D.TOi1, Ne.symm D.l1TO]
  TIi2 := D.TIi2
  mem2 := by simp
  zf2 := by simp [Ne.symm D.i2z, Ne.symm D.l2z]
  Tf2 := by simp [D.TOi2, Ne.symm D.l2TO]
  sep1_2 := by simp [D.i12, Ne.symm D.l2i1]
  sep2_1 := by simp [Ne.symm D.i12, Ne.symm D.l1i2]
theorem turn_zipG {P : Program} {w : World} {K : PySem.W.Frag} {elts : List Expr} {kk : Nat} {tpos : Pos} (t1 t2 : Bool) {a b z TI TO i1 i2 : Addr} (D : ZipApart z TI TO i1 i2 a b) :
    Turn P w K (.Tuple elts kk tpos) (ItzG K t1 t2 a b) [z, TI, TO, i1, i2] z (fun i h => IsZip h z TI TO .none ∧ IsPair h TI (.ref i1) (.ref i2) ∧ (∃ x y, IsPair h TO x y) ∧ ItK t1 h i1 a i ∧ ItK t2 h i2 b i) where
  mem := by simp
  obj := fun i h st c hc => by
    obtain ⟨hz, hTI, ⟨x, y, hTO⟩, h1, h2⟩ := st
    have e' : c = z ∨ c = TI ∨ c = TO ∨ c = i1 ∨ c = i2 := by simpa using hc
    rcases e' with q | q | q | q | q
    · rw [q]; exact ⟨_, hz, fun v q => nomatch q⟩
    · rw [q]; exact ⟨_, hTI, fun v q => nomatch q⟩
    · rw [q]; exact ⟨_, hTO, fun v q => nomatch q⟩
    · rw [q]; exact h1.obj
    · rw [q]; exact h2.obj
  keep := fun i h h' st k => by
    obtain ⟨hz, hTI, ⟨x, y, hTO⟩, h1, h2⟩ := st
    exact ⟨k z (by simp) _ hz, k TI (by simp) _ hTI, ⟨x, y, k TO (by simp) _ hTO⟩, h1.kept fun o q => k i1 (by simp) o q, h2.kept fun o q => k i2 (by simp) o q⟩
  item := by
    intro X hP hw hK hc i pins s σ H E I hf st hg
    subst hP hw hK
    obtain ⟨hz, hTI, ⟨x0, y0, hTO⟩, h1, h2⟩ := st
    obtain ⟨xs, ys, x, y, hqx, hqy, hx, hy⟩ := hg
    obtain ⟨its, rv, p⟩ := Inv.seK I hqx
    obtain ⟨its2, rv2, p2⟩ := Inv.seK I hqy
    obtain ⟨u, hu, ru⟩ := rv.get hx
    obtain ⟨u2, hu2, ru2⟩ := rv2.get hy
    have hzl : z < s.heap.objs.size := Heap.lt_size hz
    have hh : X.A.in1.handled = none := I.ok.hd hc
    have lt1 : i < its.toArray.size := by rw [List.size_toArray]; exact (List.getElem?_eq_some_iff.mp hu).1
    have lt2 : i < its2.toArray.size := by rw [List.size_toArray]; exact (List.getElem?_eq_some_iff.mp hu2).1
    refine wpAny_pyNext_zipD2_item (sep_of D) (drawsK t1 hh i1 a D.l1i1 its.toArray) (drawsK t2 hh i2 b D.l2i2 its2.toArray) hz hTI hTO ⟨h1, p⟩ ⟨h2, p2⟩ lt1 lt2 fun v1 v2 h' tk P1 P2 z' TO' h1' h2' hT hsz hk => ?_
    have e1 : v1 = u := by simpa [hu] using P1.symm
    have e2 : v2 = u2 := by simpa [hu2] using P2.symm
    subst e1 e2
    refine ⟨_, rfl, wpAny_letOwnedTupleGo_zip (s := { s with heap := h', toks := tk }) z' fun h'' z'' sb => ?_⟩
    have hT2 : h''.get? s.heap.objs.size = some { cls := .type "tuple", data := .seq #[v1, v2] } := (sb.2 _ (Nat.ne_of_gt hzl)).trans hT
    have new : ObjOk X.prog X.w (upd H s.heap.objs.size (.tup [x, y])) h'' s.heap.objs.size (.tup [x, y]) :=
      ⟨by show 2 ≤ sizeLine; decide, [v1, v2], .cons ru (.cons ru2 .nil), ⟨_, hT2, rfl, _, rfl⟩⟩
    have I1 : Inv X pins σ (upd H s.heap.objs.size (.tup [x, y])) { s with heap := h'', toks := tk } :=
      I.turnedNew (ch := [z, TI, TO, i1, i2]) (fun c o hb q => (sb.2 c (fun q' => hb (by simp [q']))).trans (hk c o (fun q' => hb (by simp [q'])) (fun q' => hb (by simp [q'])) (fun q' => hb (by simp [q'])) (fun q' => hb (by simp [q'])) q)) hf (Nat.le_refl _) new
    refine ⟨.ref s.heap.objs.size, _, I1, rfl, ⟨_, x, y, rfl, I.hok.fresh (Nat.le_refl _), rfl, fun l hl => by rw [Inv.seK_inj I hl hqx]; exact hx, fun l hl => by rw [Inv.seK_inj I hl hqy]; exact hy⟩, ⟨z'', ?_, ⟨v1, v2, ?_⟩, ?_, ?_⟩, fun c hcm => ?_⟩
    · exact (sb.2 _ D.TIz).trans (hk _ _ D.TIz D.TITO D.TIi1 D.TIi2 hTI)
    · exact (sb.2 _ D.TOz).trans TO'
    · exact h1'.1.kept fun o q => (sb.2 _ D.i1z).trans q
    · exact h2'.1.kept fun o q => (sb.2 _ D.i2z).trans q
    · have hlt : c < s.heap.objs.size := by
        have e' : c = z ∨ c = TI ∨ c = TO ∨ c = i1 ∨ c = i2 := by simpa using hcm
        rcases e' with q | q | q | q | q
        · rw [q]; exact hzl
        · rw [q]; exact Heap.lt_size hTI
        · rw [q]; exact Heap.lt_size hTO
        · rw [q]; obtain ⟨_, e1, _⟩ := h1.obj; exact Heap.lt_size e1
        · rw [q]; obtain ⟨_, e2, _⟩ := h2.obj; exact Heap.lt_size e2
      rw [upd_ne (Nat.ne_of_lt hlt)]
      exact (hf c hcm).1
  done := by
    intro X hP hw hK hc i pins s σ H E I hf st hg
    subst hP hw hK
    obtain ⟨hz, hTI, ⟨x0, y0, hTO⟩, h1, h2⟩ := st
    obtain ⟨xs, ys, hqx, hqy, hend⟩ := hg
    obtain ⟨its, rv, p⟩ := Inv.seK I hqx
    obtain ⟨its2, rv2, p2⟩ := Inv.seK I hqy
    have l1 : its.toArray.size = xs.length := by rw [List.size_toArray]; exact rv.length.symm
    have l2 : its2.toArray.size = ys.length := by rw [List.size_toArray]; exact rv2.length.symm
    have hh : X.A.in1.handled = none := I.ok.hd hc
    exact wpAny_pyNext_zipD2_end (sep_of D) (drawsK t1 hh i1 a D.l1i1 its.toArray) (drawsK t2 hh i2 b D.l2i2 its2.toArray) hz hTI hTO ⟨h1, p⟩ ⟨h2, p2⟩ (by omega) (by omega) (by omega) fun h' tk hk => ⟨rfl, I.turnedL (t' := tk) (ch := [z, TI, TO, i1, i2]) (fun c o hb q =>
      hk c o (fun q' => hb (by simp [q'])) (fun q' => hb (by simp [q'])) (fun q' => hb (by simp [q'])) (fun q' => hb (by simp [q'])) q) hf⟩
  self := fun A i s Q E st h => wpAny_pyIter_zip st.1 h
def iZipG (K : PySem.W.Frag) (ta : TA) : TI := fun σ H R => ta σ H fun vs H1 => ∃ t1 t2 a b xs ys, vs = [.ref a, .ref b] ∧ SqK K t1 H1 a xs ∧ SqK K t2 H1 b ys ∧ R (ItzG K t1 t2 a b) H1
theorem pi_zipG {X : Cx} {e e2 : Expr} {ta : TA} {p pos tpos : Pos} {elts : List Expr} {kk : Nat} (hg : Gl X "zip") (hm : X.mg "zip" = none) (ha : PA X [e, e2] ta)
    (hs : starEach [e, e2] X.env = (false, eval e X.env) :: starEach [e2] X.env := by rfl) (hpl : (backTo pos (starEach [e2] X.env)).any (·.1) = false := by rfl) :
    PI X (.Tuple elts kk tpos) (.Call (.Name "zip" p) [e, e2] [] pos) (iZipG X.K ta) := by
  refine ⟨fun pins s σ H R I h => ?_⟩
  refine Call_ (ld_blt I hg hm PyProof.Rows.boot_zip (PyProof.Rows.callWith_type1 (thn (ha.run pos pins s σ H _ I h) fun us s1 ⟨vs, H1, I1, r1, q1⟩ => ?_) hs hpl))
  obtain ⟨t1, t2, a, b, xs, ys, ex, hqx, hqy, q⟩ := q1
  subst ex
  cases r1 with
  | cons r rr =>
    cases rr with
    | cons r' rr =>
      cases rr
      cases r
      cases r'
      have fresh5 : ∀ c, c ∈ [s1.heap.objs.size + 4, s1.heap.objs.size + 2, s1.heap.objs.size + 3, s1.heap.objs.size, s1.heap.objs.size + 1] → FpOk X pins H1 c := fun c hcm => by
        have e' : c = s1.heap.objs.size + 4 ∨ c = s1.heap.objs.size + 2 ∨ c = s1.heap.objs.size + 3 ∨ c = s1.heap.objs.size ∨ c = s1.heap.objs.size + 1 := by simpa using hcm
        have hle : s1.heap.objs.size ≤ c := by
          rcases e' with z | z | z | z | z
          · rw [z]; exact Nat.le_add_right _ _
          · rw [z]; exact Nat.le_add_right _ _
          · rw [z]; exact Nat.le_add_right _ _
          · rw [z]; exact Nat.le_refl _
          · rw [z]; exact Nat.le_add_right _ _
        exact I1.fpOk hle (I1.hok.fresh hle)
      obtain ⟨its, rv, p1⟩ := Inv.seK I1 hqx
      obtain ⟨its2, rv2, p2⟩ := Inv.seK I1 hqy
      refine zip_begins2 (beginsK t1 a its.toArray) (beginsK t2 b its2.toArray) p1 p2 fun h' hz hTI hTO h1 h2 hsz hk => wpAny_pyIter_zip hz ?_
      have I2 : Inv X pins σ H1 { s1 with heap := h' } := I1.kept (t' := s1.toks) hk
      exact ⟨s1.heap.objs.size + 4, [s1.heap.objs.size + 4, s1.heap.objs.size + 2, s1.heap.objs.size + 3, s1.heap.objs.size, s1.heap.objs.size + 1], _, _, H1, rfl, I2, turn_zipG t1 t2 (PySem.W.ktu_apart s1.heap.objs.size a b p1.lt p2.lt), ⟨hz, hTI, ⟨_, _, hTO⟩, itK_new t1 h1, itK_new t2 h2⟩, fresh5, q⟩
/-! ### enumerate -/
theorem meets_enum1 {v : Value} {o : Obj} {H : Heap → Prop} (B : Begins v o H) :
    Meets (Builtin.«enumerate.__new__» ⟨[.type "enumerate", v], []⟩) (fun _ R s => H s.heap ∧
      R (.ok (.ret (.ref (s.heap.push o).objs.size))) { s with heap := (s.heap.push o).push { cls := .type "enumerate", data := .fields #[.none, .bool false, .ref s.heap.objs.size, rawInt 0, .none, .none] } }) :=
  .of_wp fun prog w A R s h => by
    obtain ⟨hp, g, d, tk, os⟩ := s; obtain ⟨h1, h⟩ := h
    have hsub := sub_enumerate
    have q1 : ∀ {A' : Around} {E : Value → Shared → Prop} {Q : Value → Shared → Prop}, Q (.ref hp.objs.size) ⟨hp.push o, g, d, tk, os⟩ → wpAny (model prog w) A' (pyIter v) Q E ⟨hp, g, d, tk, os⟩ :=
      fun q => B.iter prog w _ _ ⟨hp, g, d, tk, os⟩ _ h1 q
    wp_walk using q1
    refine wpAny_stack_any fun st => wpAny_pure ?_
    split
    · rename_i c _ _ _ _ _
      cases (c == Value.type "enumerate")
      · wp_walk using q1
        exact ⟨_, rfl, h⟩
      · wp_walk using q1
        exact ⟨_, rfl, h⟩
    · wp_walk using q1
      exact ⟨_, rfl, h⟩
theorem call_enum1 {prog : Program} {w : World} {A : Around} {E : Value → Shared → Prop} {s : Shared} {v : Value} {o : Obj} {H : Heap → Prop} {Q : Value → Shared → Prop} (B : Begins v o H) (h1 : H s.heap)
    (h : ∀ h', IsEnum h' (s.heap.objs.size + 1) s.heap.objs.size 0 .none → h'.get? s.heap.objs.size = some o → h'.objs.size = s.heap.objs.size + 2 →
      (∀ b o, s.heap.get? b = some o → h'.get? b = some o) → Q (.ref (s.heap.objs.size + 1)) { s with heap := h' }) :
    wpAny (model prog w) A (call (.type "enumerate") [v]) Q E s := by
  refine callType_new F.called_enumerate (by decide) (F.typeCall_enumerate_1 _) (F.newCall_enumerate_1 _) (fun obj => F.args_object_init_2 obj _) F.entry_enumerate_new (meets_enum1 B) ⟨h1, ?_⟩
  have hz : (s.heap.push o).objs.size = s.heap.objs.size + 1 := Heap.size_push ..
  show _ ∧ _
  rw [hz]
  have he := Heap.get?_push_size (s.heap.push o) (o := { cls := .type "enumerate", data := .fields #[.none, .bool false, .ref s.heap.objs.size, rawInt 0, .none, .none] }) rfl
  rw [hz] at he
  exact ⟨⟨_, he, rfl⟩, h _ he (Heap.get?_push_of_some _ (Heap.get?_push_size _ B.free)) (by rw [Heap.size_push, hz]) fun b o x => Heap.get?_push_of_some _ (Heap.get?_push_of_some _ x)⟩
def IteG (K : PySem.W.Frag) (t : Bool) (a : Addr) : It :=
  ⟨fun i H => ∃ (xs : List V) (x : V), SqK K t H a xs ∧ xs[i]? = some x, fun i H v H' => ∃ T x, v = .ref T ∧ H T = none ∧ H' = upd H T (.tup [.int (i : Nat), x]) ∧ ∀ xs, SqK K t H a xs → xs[i]? = some x, fun i H => ∃ xs : List V, SqK K t H a xs ∧ i = xs.length⟩
theorem turn_enumG {P : Program} {w : World} {K : PySem.W.Frag} {elts : List Expr} {kk : Nat} {tpos : Pos} (t : Bool) (a e it : Addr) :
    Turn P w K (.Tuple elts kk tpos) (IteG K t a) [e, it] e (fun i h => (∃ old, IsEnum h e it ((i : Nat) : Int) old) ∧ ItK t h it a i ∧ e ≠ it ∧ e ≠ a ∧ it ≠ a) where
  mem := by simp
  obj := fun i h st b hb => by
    obtain ⟨⟨old, he⟩, h1, _⟩ := st
    have e' : b = e ∨ b = it := by simpa using hb
    rcases e' with z | z
    · rw [z]; exact ⟨_, he, fun v q => nomatch q⟩
    · rw [z]; exact h1.obj
  keep := fun i h h' st k => let ⟨⟨old, he⟩, hi, hne⟩ := st; ⟨⟨old, k e (by simp) _ he⟩, hi.kept fun o q => k it (by simp) o q, hne⟩
  item := by
    intro X hP hw hK hc i pins s σ H E I hf st hg
    subst hP hw hK
    obtain ⟨⟨old, he⟩, hit, hne, hea, hia⟩ := st
    obtain ⟨xs, x, hq, hx⟩ := hg
    obtain ⟨its, rv, p⟩ := Inv.seK I hq
    obtain ⟨u, hu, ru⟩ := rv.get hx
    have hel : e < s.heap.objs.size := Heap.lt_size he
    have hil : it < s.heap.objs.size := by obtain ⟨_, q, _⟩ := hit.obj; exact Heap.lt_size q
    have hh : X.A.in1.handled = none := I.ok.hd hc
    have lt : i < its.toArray.size := by rw [List.size_toArray]; exact (List.getElem?_eq_some_iff.mp hu).1
    refine wpAny_pyNext_enum_itemC (drawsK t hh it a (Ne.symm hia) its.toArray) he ⟨hit, p⟩ lt hne (by simp [hne, hea]) fun v h' tk Pv ho hit' hT hsz hk => ?_
    have ev : v = u := by simpa [hu] using Pv.symm
    subst ev
    refine ⟨_, rfl, wpAny_letOwnedTupleGo_enum (s := { s with heap := h', toks := tk + 1 }) ho fun h'' he' sb => ?_⟩
    have hT2 : h''.get? s.heap.objs.size = some { cls := .type "tuple", data := .seq #[.int i tk, v] } := (sb.2 _ (Nat.ne_of_gt hel)).trans hT
    have new : ObjOk X.prog X.w (upd H s.heap.objs.size (.tup [.int (i : Nat), x])) h'' s.heap.objs.size (.tup [.int (i : Nat), x]) :=
      ⟨by show 2 ≤ sizeLine; decide, [.int i tk, v], .cons ⟨_, rfl⟩ (.cons ru .nil), ⟨_, hT2, rfl, _, rfl⟩⟩
    have I1 : Inv X pins σ (upd H s.heap.objs.size (.tup [.int (i : Nat), x])) { s with heap := h'', toks := tk + 1 } :=
      I.turnedNew (ch := [e, it]) (fun b ob hb q => (sb.2 b (fun z => hb (by simp [z]))).trans (hk b ob (fun z => hb (by simp [z])) (fun z => hb (by simp [z])) q)) hf (Nat.le_refl _) new
    refine ⟨.ref s.heap.objs.size, _, I1, rfl, ⟨_, x, rfl, I.hok.fresh (Nat.le_refl _), rfl, fun ys hy => by rw [Inv.seK_inj I hy hq]; exact hx⟩, ⟨⟨v, ?_⟩, hit'.1.kept fun o q => (sb.2 it (Ne.symm hne)).trans q, hne, hea, hia⟩, fun b hb => ?_⟩
    · have e1 : ((i + 1 : Nat) : Int) = (i : Int) + 1 := by omega
      rw [e1]; exact he'
    · have hb' : b < s.heap.objs.size := by
        have e' : b = e ∨ b = it := by simpa using hb
        rcases e' with z | z
        · rw [z]; exact hel
        · rw [z]; exact hil
      rw [upd_ne (Nat.ne_of_lt hb')]
      exact (hf b hb).1
  done := by
    intro X hP hw hK hc i pins s σ H E I hf st hg
    subst hP hw hK
    obtain ⟨⟨old, he⟩, hit, hne, hea, hia⟩ := st
    obtain ⟨xs, hq, hx⟩ := hg
    obtain ⟨its, rv, p⟩ := Inv.seK I hq
    have hl : its.toArray.size = i := by rw [List.size_toArray, hx]; exact rv.length.symm
    have hh : X.A.in1.handled = none := I.ok.hd hc
    exact wpAny_pyNext_enum_endD (drawsK t hh it a (Ne.symm hia) its.toArray) he ⟨by rw [hl]; exact hit, p⟩ fun h' eb => ⟨rfl, I.turnedL (t' := s.toks) (ch := [e, it]) (fun b o hb q => eb b o (fun z => hb (by simp [z])) q) hf⟩
  self := fun A i s Q E st h => let ⟨⟨_, he⟩, _⟩ := st; wpAny_pyIter_enum he h
def iEnumG (K : PySem.W.Frag) (ta : TA) : TI := fun σ H R => ta σ H fun vs H1 => ∃ t a xs, vs = [.ref a] ∧ SqK K t H1 a xs ∧ R (IteG K t a) H1
theorem pi_enumG {X : Cx} {e : Expr} {ta : TA} {p pos tpos : Pos} {elts : List Expr} {kk : Nat} (hg : Gl X "enumerate") (hm : X.mg "enumerate" = none) (ha : PA X [e] ta) (hs : starEach [e] X.env = [(false, eval e X.env)] := by rfl) :
    PI X (.Tuple elts kk tpos) (.Call (.Name "enumerate" p) [e] [] pos) (iEnumG X.K ta) := by
  refine ⟨fun pins s σ H R I h => ?_⟩
  refine Call_ (ld_blt I hg hm boot_enumerate (PyProof.Rows.callWith_type1 (thn (ha.run pos pins s σ H _ I h) fun us s1 ⟨vs, H1, I1, r1, q1⟩ => ?_) hs rfl))
  obtain ⟨t, a, xs, ex, hq, q⟩ := q1
  subst ex
  cases r1 with
  | cons r rr =>
    cases rr
    cases r
    obtain ⟨its, rv, p'⟩ := Inv.seK I1 hq
    have hal : a < s1.heap.objs.size := p'.lt
    refine call_enum1 (beginsK t a its.toArray) p' fun h' he hit hsz hk => wpAny_pyIter_enum he ?_
    have I2 : Inv X pins σ H1 { s1 with heap := h' } := I1.kept (t' := s1.toks) hk
    refine ⟨s1.heap.objs.size + 1, [s1.heap.objs.size + 1, s1.heap.objs.size], _, _, H1, rfl, I2, turn_enumG t a (s1.heap.objs.size + 1) s1.heap.objs.size, ⟨⟨.none, he⟩, itK_new t hit, Nat.succ_ne_self _, ?_, Nat.ne_of_gt hal⟩, fun b hb => ?_, q⟩
    · exact Nat.ne_of_gt (Nat.lt_succ_of_lt hal)
    · have e' : b = s1.heap.objs.size + 1 ∨ b = s1.heap.objs.size := by simpa using hb
      have hle : s1.heap.objs.size ≤ b := by
        rcases e' with z | z
        · rw [z]; exact Nat.le_add_right _ _
        · rw [z]; exact Nat.le_refl _
      exact I1.fpOk hle (I1.hok.fresh hle)
/-! ### the two as rules -/
@[simp] def dSq (d : D) : Res (List D) := match d with
  | .lst ds => .ok ds
  | .rol ds => .ok ds
  | .tup ds => .ok ds
  | _ => .bad
def zipD : List D → List D → List D
  | x :: xs, y :: ys => .tup [x, y] :: zipD xs ys
  | _, _ => []
def enumD (i : Nat) : List D → List D
  | [] => []
  | x :: xs => .tup [.int (i : Int), x] :: enumD (i + 1) xs
@[simp] def gZip (ds : List D) : Res (List D) := match ds with
  | [d, e] => (dSq d).bind fun xs => (dSq e).bind fun ys => .ok (zipD xs ys)
  | _ => .bad
@[simp] def gEnum (ds : List D) : Res (List D) := match ds with
  | [d] => (dSq d).bind fun xs => .ok (enumD 0 xs)
  | _ => .bad
@[simp] def iZip (fs : Sl → Res (List D)) (ρ : Sl) : Res (List D) := (fs ρ).bind gZip
@[simp] def iEnu (fs : Sl → Res (List D)) (ρ : Sl) : Res (List D) := (fs ρ).bind gEnum
theorem zipD_get : ∀ {xs ys : List D} {i : Nat} {d : D}, (zipD xs ys)[i]? = some d → ∃ x y, xs[i]? = some x ∧ ys[i]? = some y ∧ d = .tup [x, y]
  | [], _, _, _, h => by simp [zipD] at h
  | _ :: _, [], _, _, h => by simp [zipD] at h
  | x :: xs, y :: ys, 0, d, h => by
    simp [zipD] at h
    exact ⟨x, y, rfl, rfl, h.symm⟩
  | x :: xs, y :: ys, i + 1, d, h => by
    simp [zipD] at h
    simpa using zipD_get h
theorem zipD_len : ∀ (xs ys : List D), (zipD xs ys).length = min xs.length ys.length
  | [], _ => by simp [zipD]
  | _ :: _, [] => by simp [zipD]
  | x :: xs, y :: ys => by
    simp only [zipD, List.length_cons, zipD_len xs ys]
    omega
theorem enumD_get : ∀ {xs : List D} {j i : Nat} {d : D}, (enumD j xs)[i]? = some d → ∃ x, xs[i]? = some x ∧ d = .tup [.int ((j + i : Nat) : Int), x]
  | [], _, _, _, h => by simp [enumD] at h
  | x :: xs, j, 0, d, h => by
    simp [enumD] at h
    exact ⟨x, rfl, by simpa using h.symm⟩
  | x :: xs, j, i + 1, d, h => by
    simp only [enumD, List.getElem?_cons_succ] at h
    obtain ⟨y, h1, h2⟩ := enumD_get h
    exact ⟨y, by simpa using h1, by rw [h2]; congr 3; omega⟩
theorem enumD_len : ∀ (xs : List D) (j : Nat), (enumD j xs).length = xs.length
  | [], _ => rfl
  | x :: xs, j => by simp [enumD, enumD_len xs]
section
variable {K : Frg} {mg : Mg} {S : Hp} {v : V} {d : D} {ds : List D}
theorem Rp.sq (h : Rp K mg S v d) (e : dSq d = .ok ds) : ∃ t a vs, v = .ref a ∧ SqK K t S a vs ∧ RpA K mg S vs ds := by
  cases d <;> cases e
  · cases h with
    | lst a b => exact ⟨false, _, _, rfl, SqL.of a, b⟩
  · cases h with
    | rol a b => exact ⟨false, _, _, rfl, a, b⟩
  · cases h with
    | tup a b => exact ⟨true, _, _, rfl, a, b⟩
theorem same_k {t : Bool} {H H' : Hp} {a : Addr} {vs : List V} (e : Same H H') (h : SqK K t H a vs) : SqK K t H' a vs := by
  cases t with
  | false => exact same_l e h
  | true => exact same_t e h
theorem itd_zip {t1 t2 : Bool} {a b : Addr} {vs ws : List V} {xs ys : List D} (h1 : SqK K t1 S a vs) (r1 : RpA K mg S vs xs) (h2 : SqK K t2 S b ws) (r2 : RpA K mg S ws ys) : ItD K mg S (ItzG K t1 t2 a b) (zipD xs ys) where
  go := fun S' H i d s1 s2 e => by
    obtain ⟨x, y, e1, e2, rfl⟩ := zipD_get e
    obtain ⟨v, k1, k2⟩ := (r1.up s1 _ _).get e1
    obtain ⟨w, k3, k4⟩ := (r2.up s1 _ _).get e2
    have q1 : SqK K t1 H a vs := same_k (s1.trans s2) h1
    have q2 : SqK K t2 H b ws := same_k (s1.trans s2) h2
    refine ⟨⟨vs, ws, v, w, q1, q2, k1, k3⟩, fun z H' ⟨T, x', y', z1, z2, z3, z4, z5⟩ => ?_⟩
    have e3 := z4 vs q1
    rw [k1] at e3
    cases e3
    have e4 := z5 ws q2
    rw [k3] at e4
    cases e4
    subst z1 z3
    have up : Same S' (upd S' T (.tup [v, w])) := same_new (same_none s2 z2)
    exact ⟨_, Gr.new s2 z2, .tup (SqT.of upd_same) (.cons (k2.up up _ _) (.cons (k4.up up _ _) .nil))⟩
  stop := fun S' H s1 s2 => ⟨vs, ws, same_k (s1.trans s2) h1, same_k (s1.trans s2) h2, by rw [zipD_len, r1.len, r2.len]⟩
theorem itd_enum {t : Bool} {a : Addr} {vs : List V} {xs : List D} (h1 : SqK K t S a vs) (r1 : RpA K mg S vs xs) : ItD K mg S (IteG K t a) (enumD 0 xs) where
  go := fun S' H i d s1 s2 e => by
    obtain ⟨x, e1, rfl⟩ := enumD_get e
    obtain ⟨v, k1, k2⟩ := (r1.up s1 _ _).get e1
    have q1 : SqK K t H a vs := same_k (s1.trans s2) h1
    refine ⟨⟨vs, v, q1, k1⟩, fun z H' ⟨T, x', z1, z2, z3, z4⟩ => ?_⟩
    have e3 := z4 vs q1
    rw [k1] at e3
    cases e3
    subst z1 z3
    have up : Same S' (upd S' T (.tup [.int (i : Nat), v])) := same_new (same_none s2 z2)
    rw [Nat.zero_add]
    exact ⟨_, Gr.new s2 z2, .tup (SqT.of upd_same) (.cons (.int _) (.cons (k2.up up _ _) .nil))⟩
  stop := fun S' H s1 s2 => ⟨vs, same_k (s1.trans s2) h1, by rw [enumD_len, r1.len]⟩
end
section
variable {X : Cx} {hx : Hx} {W : WX} {e e2 : Expr} {elts : List Expr} {kk : Nat} {p pos tpos : Pos} {fs : Sl → Res (List D)}
theorem mi_zip (hg : Gl X "zip") (hm : X.mg "zip" = none) (ha : MA X hx W [e, e2] fs) (hs : starEach [e, e2] X.env = (false, eval e X.env) :: starEach [e2] X.env := by rfl) (hpl : (backTo pos (starEach [e2] X.env)).any (·.1) = false := by rfl) : MI X hx W (.Tuple elts kk tpos) (.Call (.Name "zip" p) [e, e2] [] pos) (iZip fs) :=
  pi_imp (pi_zipG hg hm ha hs hpl) fun σ H Q ⟨b, S, ρ, R, q⟩ => ⟨b, S, ρ, R, q.bind fun d v S1 H1 g1 r1 k => by
    unfold gZip at k
    split at k
    · rename_i d1 d2
      obtain ⟨v1, v2, rfl, q1, q2⟩ := r1.two
      cases e1 : dSq d1 with
      | exc _ _ => cases d1 <;> cases e1
      | bad => rw [e1] at k; exact k.elim
      | ok xs =>
        cases e2 : dSq d2 with
        | exc _ _ => cases d2 <;> cases e2
        | bad => rw [e1, Res.bind_ok, e2] at k; exact k.elim
        | ok ys =>
          rw [e1, Res.bind_ok, e2, Res.bind_ok] at k
          obtain ⟨t1, a1, vs, rfl, z1, z2⟩ := q1.sq e1
          obtain ⟨t2, a2, ws, rfl, z3, z4⟩ := q2.sq e2
          exact ⟨t1, t2, a1, a2, vs, ws, rfl, same_k g1.i z1, same_k g1.i z3, k _ S1 H1 g1 (itd_zip z1 z2 z3 z4)⟩
    · exact k.elim⟩
theorem mi_enum (hg : Gl X "enumerate") (hm : X.mg "enumerate" = none) (ha : MA X hx W [e] fs) (hs : starEach [e] X.env = [(false, eval e X.env)] := by rfl) : MI X hx W (.Tuple elts kk tpos) (.Call (.Name "enumerate" p) [e] [] pos) (iEnu fs) :=
  pi_imp (pi_enumG hg hm ha hs) fun σ H Q ⟨b, S, ρ, R, q⟩ => ⟨b, S, ρ, R, q.bind fun d v S1 H1 g1 r1 k => by
    unfold gEnum at k
    split at k
    · rename_i d1
      obtain ⟨v1, rfl, q1⟩ := r1.one
      cases e1 : dSq d1 with
      | exc _ _ => cases d1 <;> cases e1
      | bad => rw [e1] at k; exact k.elim
      | ok xs =>
        rw [e1, Res.bind_ok] at k
        obtain ⟨t1, a1, vs, rfl, z1, z2⟩ := q1.sq e1
        exact ⟨t1, a1, vs, rfl, same_k g1.i z1, k _ S1 H1 g1 (itd_enum z1 z2)⟩
    · exact k.elim⟩
end
end PF

set_option Elab.async false
set_option linter.all false
set_option maxRecDepth 100000
set_option maxHeartbeats 4000000
/-! A list of a slot's own, lent for the time of one expression; more of lists. -/
namespace PF
open PySem PySem.Spec L2 PyProof.Rows
mutual
/-- no list in it -/
def nol : D → Bool
  | .non => true
  | .bl _ => true
  | .int _ => true
  | .str _ => true
  | .tup ds => nolA ds
  | .obj _ _ ds => nolA ds
  | _ => false
def nolA : List D → Bool
  | [] => true
  | d :: ds => nol d && nolA ds
end
@[simp] theorem nol_non : nol .non = true := by simp [nol]
@[simp] theorem nol_bl (b : Bool) : nol (.bl b) = true := by simp [nol]
@[simp] theorem nol_int (i : Int) : nol (.int i) = true := by simp [nol]
@[simp] theorem nol_str (x : Str) : nol (.str x) = true := by simp [nol]
@[simp] theorem nol_tup (ds : List D) : nol (.tup ds) = nolA ds := by simp [nol]
@[simp] theorem nol_obj (c : Str) (ns : List Str) (ds : List D) : nol (.obj c ns ds) = nolA ds := by simp [nol]
@[simp] theorem nolA_nil : nolA [] = true := by simp [nolA]
@[simp] theorem nolA_cons (d : D) (ds : List D) : nolA (d :: ds) = (nol d && nolA ds) := by simp [nolA]
@[simp] theorem nolA_app : ∀ (ds es : List D), nolA (ds ++ es) = (nolA ds && nolA es)
  | [], es => by simp
  | d :: ds, es => by simp [nolA_app ds es, Bool.and_assoc]
@[simp] theorem nolA_ints : ∀ ns : List Int, nolA (ns.map D.int) = true
  | [] => by simp
  | n :: ns => by simp [nolA_ints ns]
/-- the shared part without the list at p -/
def less (S : Hp) (p : Addr) : Hp := fun a => if a = p then none else S a
section
variable {K : Frg} {mg : Mg} {S : Hp} {p : Addr} {ws : List V}
theorem less_ne {a : Addr} (h : a ≠ p) : less S p a = S a := if_neg h
theorem less_self : less S p p = none := if_pos rfl
theorem less_tup {a : Addr} {xs : List V} (hp : S p = some (.lst ws)) (h : SqT K S a xs) : SqT K (less S p) a xs := by
  rcases h with h | h
  · rcases h with h | ⟨o, h⟩
    · refine .inl (.inl ?_)
      rw [less_ne (fun e => by subst e; rw [hp] at h; cases h)]
      exact h
    · refine .inl (.inr ⟨o, ?_⟩)
      rw [less_ne (fun e => by subst e; rw [hp] at h; cases h)]
      exact h
  · exact .inr h
mutual
theorem Rp.less (hp : S p = some (.lst ws)) : ∀ (d : D) (v : V), nol d = true → Rp K mg S v d → Rp K mg (PF.less S p) v d
  | .non, _, _, h => by cases h; exact .non
  | .bl _, _, _, h => by cases h; exact .bl _
  | .int _, _, _, h => by cases h; exact .int _
  | .str _, _, _, h => by cases h; exact .str _
  | .tup ds, _, n, h => by
    cases h with
    | tup a b => exact .tup (less_tup hp a) (RpA.less hp ds _ (by simpa using n) b)
  | .lst _, _, n, _ => by cases n
  | .rol _, _, n, _ => by cases n
  | .obj _ _ ds, _, n, h => by
    cases h with
    | obj a b c d f => exact .obj (by rw [less_ne (fun e => by subst e; rw [hp] at a; cases a)]; exact a) b c d (RpA.less hp ds _ (by simpa using n) f)
  | .fr _, _, n, _ => by cases n
  | .raw _, _, n, _ => by cases n
theorem RpA.less (hp : S p = some (.lst ws)) : ∀ (ds : List D) (vs : List V), nolA ds = true → RpA K mg S vs ds → RpA K mg (PF.less S p) vs ds
  | [], _, _, h => by cases h; exact .nil
  | d :: ds, _, n, h => by
    have n' : nol d = true ∧ nolA ds = true := by simpa using n
    cases h with
    | cons a b => exact .cons (Rp.less hp d _ n'.1 a) (RpA.less hp ds _ n'.2 b)
end
theorem Gr.less {H S2 H2 : Hp} (h0 : S p = none) (h1 : H p ≠ none) (g : Gr (upd S p (.lst ws)) H S2 H2) : Gr S H (PF.less S2 p) H2 where
  s := fun a o e => by
    have q : a ≠ p := fun z => by rw [z, h0] at e; cases e
    rw [less_ne q]
    exact g.s a o (by rw [upd_ne q]; exact e)
  h := g.h
  i := fun a o e => by
    have q : a ≠ p := fun z => by rw [z, less_self] at e; cases e
    rw [less_ne q] at e
    exact g.i a o e
  n := fun a ha e => by
    by_cases q : a = p
    · rw [q]; exact less_self
    · rw [less_ne q]
      exact g.n a ha (by rw [upd_ne q]; exact e)
end
/-- lend the list of slot i to f -/
def lend {α : Type} (i : Nat) (ok : α → Bool) (f : Sl → Res α) (ρ : Sl) : Res α := match ρ[i]? with
  | some (.o ds) => (f (ρ.set i (.v (.lst ds)))).nx.bind fun a => if ok a then .ok a else .bad
  | _ => f ρ
@[simp] def sLend (i : Nat) (f : Sl → Res D) (ρ : Sl) : Res D := match ρ[i]? with
  | some (.o ds) => (f (ρ.set i (.v (.lst ds)))).nx.bind fun a => if nol a then .ok a else .bad
  | _ => f ρ
@[simp] def fLend (i : Nat) (f : Sl → Res (List D)) (ρ : Sl) : Res (List D) := match ρ[i]? with
  | some (.o ds) => (f (ρ.set i (.v (.lst ds)))).nx.bind fun a => if nolA a then .ok a else .bad
  | _ => f ρ
@[simp] def tLend (i : Nat) (f : Sl → Res Bool) (ρ : Sl) : Res Bool := match ρ[i]? with
  | some (.o ds) => (f (ρ.set i (.v (.lst ds)))).nx
  | _ => f ρ
@[simp] theorem nx_ok {α : Type} (a : α) : (Res.ok a).nx = .ok a := rfl
/-- the list of slot i is shared, and at which place it stands -/
theorem Rel.freezeP {K : Frg} {mg : Mg} {hx : Hx} {b : Bs} {S H : Hp} {ρ : Sl} {σ : L2.St} (R : Rel K mg hx b S ρ σ H) {i : Nat} {ds : List D} (e : ρ[i]? = some (.o ds)) : ∃ p vs, H p = some (.lst vs) ∧ S p = none ∧ Rel K mg hx b (upd S p (.lst vs)) (ρ.set i (.v (.lst ds))) σ H := by
  obtain ⟨p, vs, q1, q2, q3, q4, q5⟩ := R.own i ds e
  have up : Same S (upd S p (.lst vs)) := same_new q3
  refine ⟨p, vs, q2, q3, R.s0.trans up, fun a o h => ?_, R.h0, fun a h e' => ?_, by simp [R.len], fun j d' e' => ?_, fun j es' e' => ?_, fun j c fs e' => ?_, fun j k ds1 es1 q ne e1 e2 e3 e4 => ?_⟩
  · by_cases z : a = p
    · subst z; rw [upd_same] at h; cases h; exact q2
    · rw [upd_ne z] at h; exact R.sh a o h
  · rw [upd_ne (fun z => by rw [z] at h; exact h q4)]
    exact R.nw a h e'
  · rcases getset e' with ⟨rfl, h2, _⟩ | ⟨h1, h2⟩
    · cases h2
      exact ⟨_, q1, .lst upd_same (q5.up up ds vs)⟩
    · obtain ⟨v', h3, h4⟩ := R.val j d' h2
      exact ⟨v', h3, h4.up up _ _⟩
  · rcases getset e' with ⟨_, h2, _⟩ | ⟨h1, h2⟩
    · cases h2
    · obtain ⟨p2, vs2, h3, h4, h5, h6, h7⟩ := R.own j es' h2
      refine ⟨p2, vs2, h3, h4, ?_, h6, h7.up up _ _⟩
      rw [upd_ne (fun z => by subst z; exact R.apart i j ds es' p2 h1 e h2 q1 h3)]
      exact h5
  · rcases getset e' with ⟨_, h2, _⟩ | ⟨h1, h2⟩
    · cases h2
    · obtain ⟨a, C, dx, z1, z2, z3, z4⟩ := R.xc j c fs h2
      exact ⟨a, C, dx, z1, z2, z3, z4.keep up fun _ _ z => z⟩
  · rcases getset e1 with ⟨_, h2, _⟩ | ⟨h1, h2⟩
    · cases h2
    · rcases getset e2 with ⟨_, h4, _⟩ | ⟨h3, h4⟩
      · cases h4
      · exact R.apart j k ds1 es1 q ne h2 h4 e3 e4
theorem lend_imp {α β : Type} {K : Frg} {mg : Mg} {hx : Hx} {RX : RR α β} {W : WX} {i : Nat} {f f' : Sl → Res β} {σ : L2.St} {H : Hp} {Q : α → Hp → Prop} (ok : β → Prop)
    (e0 : ∀ ρ, (∀ ds, ρ[i]? ≠ some (.o ds)) → f' ρ = f ρ) (e1 : ∀ ρ ds, ρ[i]? = some (.o ds) → f' ρ = .bad ∨ ∃ a, f (ρ.set i (.v (.lst ds))) = .ok a ∧ ok a ∧ f' ρ = .ok a)
    (hr : ∀ S S2 H2 p vs v a, S p = none → H p = some (.lst vs) → Gr (upd S p (.lst vs)) H S2 H2 → ok a → RX H S2 H2 v a → RX H (less S2 p) H2 v a) (h : tG K mg hx RX W f' σ H Q) : tG K mg hx RX W f σ H Q := by
  obtain ⟨b, S, ρ, R, q⟩ := h
  by_cases hc : ∃ ds, ρ[i]? = some (.o ds)
  · obtain ⟨ds, e⟩ := hc
    obtain ⟨p, vs, k1, k2, R'⟩ := R.freezeP e
    refine ⟨b, _, _, R', ?_⟩
    rcases e1 ρ ds e with z | ⟨a, z1, z2, z3⟩
    · rw [z] at q; exact q.elim
    · rw [z1]
      rw [z3] at q
      intro v S2 H2 g r
      exact q v (less S2 p) H2 (g.less k2 (by rw [k1]; simp)) (hr S S2 H2 p vs v a k2 k1 g z2 r)
  · exact ⟨b, S, ρ, R, by rw [← e0 ρ fun ds e => hc ⟨ds, e⟩]; exact q⟩
section
variable {X : Cx} {hx : Hx} {W : WX} {e : Expr}
theorem nxb {α : Type} {ok : α → Bool} {r : Res α} : (r.nx.bind fun a => if ok a then .ok a else .bad) = .bad ∨ ∃ a, r = .ok a ∧ ok a = true ∧ (r.nx.bind fun a => if ok a then Res.ok a else .bad) = .ok a := by
  cases r with
  | ok a =>
    cases h : ok a with
    | true => exact .inr ⟨a, rfl, h, by simp [h]⟩
    | false => exact .inl (by simp [h])
  | exc _ _ => exact .inl rfl
  | bad => exact .inl rfl
theorem me_lend (i : Nat) {f : Sl → Res D} (h : ME X hx W e f) : ME X hx W e (sLend i f) := pe_imp h fun σ H Q q => lend_imp (i := i) (f' := sLend i f) (fun d => nol d = true)
  (fun ρ hn => by
    unfold sLend
    split
    · rename_i ds e; exact absurd e (hn ds)
    · rfl)
  (fun ρ ds e => by
    have e2 : sLend i f ρ = (f (ρ.set i (.v (.lst ds)))).nx.bind fun a => if nol a then .ok a else .bad := by unfold sLend; rw [e]
    rw [e2]
    exact nxb)
  (fun S S2 H2 p vs v a k2 k1 g n r => Rp.less (g.s _ _ upd_same) a v n r) q
theorem mf_lend (i : Nat) {f : Sl → Res (List D)} (h : MF X hx W e f) : MF X hx W e (fLend i f) := pe_imp h fun σ H Q q => lend_imp (i := i) (f' := fLend i f) (fun d => nolA d = true)
  (fun ρ hn => by
    unfold fLend
    split
    · rename_i ds e; exact absurd e (hn ds)
    · rfl)
  (fun ρ ds e => by
    have e2 : fLend i f ρ = (f (ρ.set i (.v (.lst ds)))).nx.bind fun a => if nolA a then .ok a else .bad := by unfold fLend; rw [e]
    rw [e2]
    exact nxb)
  (fun S S2 H2 p vs v a k2 k1 g n ⟨p', ws, h1, h2, h3, h4, h5⟩ => ⟨p', ws, h1, h2, by
    by_cases z : p' = p
    · rw [z]; exact less_self
    · rw [less_ne z]; exact h3, h4, RpA.less (g.s _ _ upd_same) a ws n h5⟩) q
theorem mt_lend (i : Nat) {f : Sl → Res Bool} (h : MT X hx W e f) : MT X hx W e (tLend i f) := pt_imp h fun σ H Q q => lend_imp (i := i) (f' := tLend i f) (fun _ => True)
  (fun ρ hn => by
    unfold tLend
    split
    · rename_i ds e; exact absurd e (hn ds)
    · rfl)
  (fun ρ ds e => by
    have e2 : tLend i f ρ = (f (ρ.set i (.v (.lst ds)))).nx := by unfold tLend; rw [e]
    rw [e2]
    cases f (ρ.set i (.v (.lst ds))) with
    | ok a => exact .inr ⟨a, rfl, trivial, rfl⟩
    | exc _ _ => exact .inl rfl
    | bad => exact .inl rfl)
  (fun S S2 H2 p vs v a k2 k1 g n r => r) q
/-- x = [.. for .. in ..] with a list lent -/
theorem ms_setLcL (j i : Nat) {y : Str} {py : Pos} {elt tg iter : Expr} {ifs : List Expr} {scope : Scope} {own : List (Str × Nat)} {pos spos : Pos} {items : Sl → Res (List D)} {is : List Nat} {g : FG} {t : Sl → Res Bool} {f : Sl → Res D} (hc : X.calm = true) (hN : X.N.Nodup)
    (hsw : swapsWith (.ListComp elt [⟨tg, iter, ifs, 0⟩] scope pos) (some (.Name y py)) spos.line X.env = pure true) (hi : MI X hx W tg iter items) (ok : BlkOk X.N X.env.scope scope own)
    (hg : ∀ (s : Shared) (H : Hp) (C : Addr) (cl : List (Str × Addr)) (fp : List Addr), MG (X.blk s H scope (compEnvC scope cl C X.env) fp) hx tg is g) (ht : ∀ (s : Shared) (H : Hp) (C : Addr) (cl : List (Str × Addr)) (fp : List Addr), MTs (X.blk s H scope (compEnvC scope cl C X.env) fp) hx W0 ifs t)
    (he : ∀ (s : Shared) (H : Hp) (C : Addr) (cl : List (Str × Addr)) (fp : List Addr), ME (X.blk s H scope (compEnvC scope cl C X.env) fp) hx W0 elt f) (hy : X.N[i]? = some y := by rfl) (hyl : X.env.scope.names.lookup y = some .local := by rfl) (his : (is.all fun i => (own.map (·.2)).contains i) = true := by decide) (hs : ∀ x, foldedSetIterable iter X.env x = pure x := by intro _; rfl) :
    MS X hx W (.Assign [.Name y py] (.ListComp elt [⟨tg, iter, ifs, 0⟩] scope pos) spos) (gSetO i (fLend j (fLc items g t f (own.map (·.2))))) :=
  ps_imp (ps_setLc hc hN hy hyl hsw hi ok hg ht he hs) fun D σ H ⟨b, S, ρ, R, q⟩ => lc_ok (ts := fun _ _ _ => True) (fun i hi => by
    have h1 := List.all_eq_true.mp his i hi
    simpa using h1) σ H _ (lend_imp (i := j) (f' := fLend j (fLc items g t f (own.map (·.2)))) (fun d => nolA d = true)
  (fun ρ hn => by
    unfold fLend
    split
    · rename_i ds e; exact absurd e (hn ds)
    · rfl)
  (fun ρ ds e => by
    have e2 : fLend j (fLc items g t f (own.map (·.2))) ρ = (fLc items g t f (own.map (·.2)) (ρ.set j (.v (.lst ds)))).nx.bind fun a => if nolA a then .ok a else .bad := by unfold fLend; rw [e]
    rw [e2]
    exact nxb)
  (fun S S2 H2 p vs v a k2 k1 g n ⟨p', ws, h1, h2, h3, h4, h5⟩ => ⟨p', ws, h1, h2, by
    by_cases z : p' = p
    · rw [z]; exact less_self
    · rw [less_ne z]; exact h3, h4, RpA.less (g.s _ _ upd_same) a ws n h5⟩) ⟨b, S, ρ, R, rS_po R q fun d v S1 H1 g1 ⟨p, vs, h1, h2, h3, h4, h5⟩ k => by
      subst h1
      exact k S1 _ H1 g1.s (R.putN g1 h2 h3 h4 h5)⟩)
end
/-! ### more of lists -/
@[simp] def gClr (i : Nat) (ρ : Sl) : Out := match ρ[i]? with
  | some (.o _) => .nx (ρ.set i (.o []))
  | _ => .bad
@[simp] def gExt (i : Nat) (f : Sl → Res (List D)) (ρ : Sl) : Out := match ρ[i]? with
  | some (.o ds) => rS (f ρ) ρ fun es => if ds.length + es.length ≤ 16777216 then .nx (ρ.set i (.o (ds ++ es))) else .bad
  | _ => .bad
section
variable {X : Cx} {hx : Hx} {W : WX} {e : Expr} {pos : Pos}
theorem ms_clr (i : Nat) {x : Str} {p ap ep : Pos} (hv : PE X (.Name x p) (tVar i)) (hs : swapsWith (.Call (.Attribute (.Name x p) "clear" ap) [] [] ep) none pos.line X.env = pure false := by rfl)
    (h : PE X (.Call (.Attribute (.Name x p) "clear" ap) [] [] ep) (tBM0 X.K "list" rClear (tVar i)) := by
      exact pe_bm0 PySem.F.plainAttrs_list PySem.F.slot_list_clear PySem.F.type_list_clear mt_clear (pv _)) :
    MS X hx W (.Expr (.Call (.Attribute (.Name x p) "clear" ap) [] [] ep) pos) (gClr i) := ps_imp (ps_expr h hs) fun D σ H ⟨b, S, ρ, R, q⟩ => by
  unfold gClr at q
  split at q
  · rename_i ds e1
    obtain ⟨p, vs, h1, h2, h3, h4, h5⟩ := R.own i ds e1
    refine ⟨_, h1, .inl ⟨rfl, _, SqL.of h2⟩, ?_⟩
    exact ⟨p, vs, rfl, rfl, h2, q S σ _ (Same.refl _) (R.mut e1 h1 .nil)⟩
  · exact q.elim
theorem ms_ext (i : Nat) {x : Str} {p ap ep : Pos} {f : Sl → Res (List D)} (hv : PE X (.Name x p) (tVar i)) (he : MF X hx W e f) (hs : swapsWith (.Call (.Attribute (.Name x p) "extend" ap) [e] [] ep) none pos.line X.env = pure false := by rfl)
    (h : ∀ {t}, PE X e t → PE X (.Call (.Attribute (.Name x p) "extend" ap) [e] [] ep) (tBM X.K "list" rExtend (tVar i) (tCons t tNil)) := by
      intro t ht; exact pe_bm PySem.F.plainAttrs_list PySem.F.slot_list_extend PySem.F.type_list_extend mt_extend (pv _) (pa_cons ht pa_nil)) :
    MS X hx W (.Expr (.Call (.Attribute (.Name x p) "extend" ap) [e] [] ep) pos) (gExt i f) := ps_imp (ps_expr (h he) hs) fun D σ H ⟨b, S, ρ, R, q⟩ => by
  unfold gExt at q
  split at q
  · rename_i ds e1
    obtain ⟨p, vs, h1, h2, h3, h4, h5⟩ := R.own i ds e1
    refine ⟨_, h1, .inl ⟨rfl, _, SqL.of h2⟩, b, S, ρ, R, rS_po R q fun d v S1 H1 g1 ⟨p', ws, r1, r2, r3, r4, r5⟩ k => ?_⟩
    subst r1
    split at k
    · rename_i hl
      refine ⟨p, p', vs, ws, rfl, rfl, g1.h _ _ h2, r4, sizeLine16 (by rw [h5.len, r5.len]; exact hl), ?_⟩
      exact k S1 σ _ g1.s ((R.grow g1).mut e1 h1 ((h5.up g1.s _ _).app r5))
    · exact k.elim
  · exact q.elim
/-- xs[::-1] -/
@[simp] def fRev (f : Sl → Res D) (ρ : Sl) : Res (List D) := (f ρ).bind fun d => match seqOf d with
  | some xs => .ok xs.reverse
  | none => .bad
theorem mf_rev {f : Sl → Res D} {k : Nat} {p1 p2 p3 : Pos} (he : MR X hx W e f) : MF X hx W (.Subscript e (.Slice none none (some (.UnaryOp .USub (.Constant (.int 1) k p1) p2)) p3) pos) (fRev f) :=
  pe_imp (pe_revL he) fun σ H Q ⟨b, S, ρ, R, q⟩ => ⟨b, S, ρ, R, q.bind fun d v S1 H1 g1 r1 k => by
    split at k
    · rename_i xs e1
      obtain ⟨p, vs, rfl, h1, h2⟩ := r1.seq g1.i e1
      exact ⟨p, vs, rfl, h1, po_newL g1.i h2.rev (Po.upF g1 k)⟩
    · exact k.elim⟩
/-- a, b, c = e1, e2, e3 (local names) -/
@[simp] def gPar3 (i j l : Nat) (f g h : Sl → Res D) (ρ : Sl) : Out := rS (f ρ) ρ fun c => rS (g ρ) ρ fun d => rS (h ρ) ρ fun e => .nx (((ρ.set i (.v c)).set j (.v d)).set l (.v e))
theorem ms_par3 (i j l : Nat) {x y z : Str} {a b c : Expr} {f g h : Sl → Res D} {px py pz pt : Pos} {kt k2 pt2} (hc : X.calm = true) (hN : X.N.Nodup) (ha : ME X hx W a f) (hb : ME X hx W b g) (hcc : ME X hx W c h) (hi : X.N[i]? = some x := by rfl) (hj : X.N[j]? = some y := by rfl) (hl : X.N[l]? = some z := by rfl) (hij : i ≠ j := by decide) (hil : i ≠ l := by decide) (hjl : j ≠ l := by decide)
    (hx' : X.env.scope.names.lookup x = some .local := by rfl) (hy : X.env.scope.names.lookup y = some .local := by rfl) (hz : X.env.scope.names.lookup z = some .local := by rfl)
    (s1 : starEach [a, b, c] X.env = (false, eval a X.env) :: starEach [b, c] X.env := by rfl) (s2 : starEach [b, c] X.env = (false, eval b X.env) :: starEach [c] X.env := by rfl) (s3 : starEach [c] X.env = (false, eval c X.env) :: starEach [] X.env := by rfl)
    (hw : swappedStores [.Tuple [.Name x px, .Name y py, .Name z pz] kt pt] (.Tuple [a, b, c] k2 pt2) X.env = pure (some [x, y, z]) := by rfl)
    (hs : swapsWithSole [.Tuple [.Name x px, .Name y py, .Name z pz] kt pt] (.Tuple [a, b, c] k2 pt2) pos.line X.env = pure false := by rfl) :
    MS X hx W (.Assign [.Tuple [.Name x px, .Name y py, .Name z pz] kt pt] (.Tuple [a, b, c] k2 pt2) pos) (gPar3 i j l f g h) :=
  ps_imp (ps_par3 hc hN hi hj hl hij hil hjl hx' hy hz (pa_cons ha (pa_cons hb (pa_cons hcc pa_nil s3) s2) s1) hw hs) fun D σ H ⟨b, S, ρ, R, q⟩ =>
    ⟨b, S, ρ, R, rS_po R q fun d v S1 H1 g1 r1 k => ⟨b, S1, ρ, R.grow g1, rS_po (R.grow g1) (PoS.up g1.s k) fun d2 v2 S2 H2 g2 r2 k2 => ⟨b, S2, ρ, (R.grow g1).grow g2, rS_po ((R.grow g1).grow g2) (PoS.up g2.s k2) fun d3 v3 S3 H3 g3 r3 k3 =>
      ⟨v, v2, v3, rfl, k3 S3 _ H3 g3.s ((((((R.grow g1).grow g2).grow g3).put (r1.up (g2.s.trans g3.s) _ _)).put (r2.up g3.s _ _)).put r3)⟩⟩⟩⟩
/-- x = [.. for .. in ..], a shared list -/
theorem ms_setLcV (i : Nat) {y : Str} {py : Pos} {elt tg iter : Expr} {ifs : List Expr} {scope : Scope} {own : List (Str × Nat)} {spos : Pos} {items : Sl → Res (List D)} {is : List Nat} {g : FG} {t : Sl → Res Bool} {f : Sl → Res D} (hc : X.calm = true) (hN : X.N.Nodup)
    (hsw : swapsWith (.ListComp elt [⟨tg, iter, ifs, 0⟩] scope pos) (some (.Name y py)) spos.line X.env = pure true) (hi : MI X hx W tg iter items) (ok : BlkOk X.N X.env.scope scope own)
    (hg : ∀ (s : Shared) (H : Hp) (C : Addr) (cl : List (Str × Addr)) (fp : List Addr), MG (X.blk s H scope (compEnvC scope cl C X.env) fp) hx tg is g) (ht : ∀ (s : Shared) (H : Hp) (C : Addr) (cl : List (Str × Addr)) (fp : List Addr), MTs (X.blk s H scope (compEnvC scope cl C X.env) fp) hx W0 ifs t)
    (he : ∀ (s : Shared) (H : Hp) (C : Addr) (cl : List (Str × Addr)) (fp : List Addr), ME (X.blk s H scope (compEnvC scope cl C X.env) fp) hx W0 elt f) (hy : X.N[i]? = some y := by rfl) (hyl : X.env.scope.names.lookup y = some .local := by rfl) (his : (is.all fun i => (own.map (·.2)).contains i) = true := by decide) (hs : ∀ x, foldedSetIterable iter X.env x = pure x := by intro _; rfl) :
    MS X hx W (.Assign [.Name y py] (.ListComp elt [⟨tg, iter, ifs, 0⟩] scope pos) spos) (gSet i (sLst (fLc items g t f (own.map (·.2))))) :=
  ps_imp (ps_setLc hc hN hy hyl hsw hi ok hg ht he hs) fun D σ H ⟨b, S, ρ, R, q⟩ => lc_ok (ts := fun _ _ _ => True) (fun i hi => by
    have h1 := List.all_eq_true.mp his i hi
    simpa using h1) σ H _ ⟨b, S, ρ, R, by
      unfold gSet sLst at q
      cases ef : fLc items g t f (own.map (·.2)) ρ with
      | exc y ys => rw [ef] at q; exact fun S' H' C dx g q1 q2 => q S' σ H' C dx g.s (R.grow g) q1 q2
      | bad => rw [ef] at q; exact q.elim
      | ok ds =>
        rw [ef] at q
        intro v S1 H1 g1 ⟨p, vs, h1, h2, h3, h4, h5⟩
        subst h1
        have up : Same S1 (upd S1 p (.lst vs)) := same_new h3
        have g2 : Gr S H (upd S1 p (.lst vs)) H1 := ⟨g1.s.trans up, g1.h, fun a o q => by
          by_cases z : a = p
          · subst z; rw [upd_same] at q; cases q; exact h4
          · rw [upd_ne z] at q; exact g1.i a o q, fun a ha q => by
          rw [upd_ne (fun z => ha (by rw [z]; exact h2))]; exact g1.n a ha q⟩
        exact q _ _ H1 g2.s ((R.grow g2).put (.lst upd_same (h5.up up _ _)))⟩
/-- f(), no argument -/
theorem pe_call0S {k : Nat} {f : Addr} {fd : FuncData} {ps : List Str} {sp : Sp} {x : Str} {p : Pos} {CX : CXT} {E : L2.St → XK} (F : FnOk X.prog X.w X.K X.mg X.base CX k f fd ps sp) (hr : Room k X.A) (hg : Gl X x) (hm : X.mg x = some (.ref f)) (hk : PySem.W.keepIn X.K (.ref f) = true) (hb : Binds X.K fd ps []) (hp : ∀ σ, PassesAt CX X σ (E σ))
    (hdb : (x == ("__debug__" : Str)) = false := by decide) : PE X (.Call (.Name x p) [] [] pos) (tCallS sp E tNil) := by
  refine ⟨fun pins s σ H Q I h => ?_⟩
  refine wpAny_Call_Name_kw (ld_glob I hg hm ?_ hdb)
  exact PySem.W.callWith_K0 I.kIn hk (run_fnS (us := []) F hr hb (hp σ) I .nil h)
theorem me_cal0 {k : Nat} {f : Addr} {fd : FuncData} {ps : List Str} {g : List D → Res D} {x : Str} {p : Pos} (G : Df X.prog X.w X.K X.mg X.base x k f fd ps g) (hr : Room k X.A) (cw : Cw X W) (hn : ps = []) (hg : Gl X x := by rfl) (hdb : (x == ("__debug__" : Str)) = false := by decide) : ME X hx W (.Call (.Name x p) [] [] pos) (sCall g aNil) :=
  pe_imp (pe_call0S G.ok hr hg G.mg G.kp G.bi cw hdb) fun σ H Q ⟨b, S, ρ, R, q⟩ => by
    have z := call_imp (fs := aNil) G (fun ρ ds h => by rw [hn]; exact len_nil h) R (Po.freeze (Q := Q) (by unfold sCall at q; rw [bind_bind] at q; exact q))
    exact (show tCallS (spF X.K X.mg ps.length g) (WE W) tNil σ H Q from z [] S H (Gr.refl R.sh) .nil)
theorem mf_cal0 {k : Nat} {f : Addr} {fd : FuncData} {ps : List Str} {g : List D → Res D} {x : Str} {p : Pos} (G : Df X.prog X.w X.K X.mg X.base x k f fd ps g) (hr : Room k X.A) (cw : Cw X W) (hn : ps = []) (hg : Gl X x := by rfl) (hdb : (x == ("__debug__" : Str)) = false := by decide) : MF X hx W (.Call (.Name x p) [] [] pos) (fCall g aNil) :=
  pe_imp (pe_call0S G.ok hr hg G.mg G.kp G.bi cw hdb) fun σ H Q ⟨b, S, ρ, R, q⟩ => by
    have z := call_imp (fs := aNil) G (fun ρ ds h => by rw [hn]; exact len_nil h) R (Po.unfr (Q := Q) (by unfold fCall at q; rw [bind_bind] at q; exact q))
    exact (show tCallS (spF X.K X.mg ps.length g) (WE W) tNil σ H Q from z [] S H (Gr.refl R.sh) .nil)
end
/-! ### is True, is not False -/
@[simp] def oIsB (d e : D) : Res D := match d, e with
  | .bl a, .bl b => .ok (.bl (decide (a = b)))
  | _, _ => .bad
@[simp] def oNotB (d e : D) : Res D := match d, e with
  | .bl a, .bl b => .ok (.bl (!decide (a = b)))
  | _, _ => .bad
theorem o_isB {K : Frg} {mg : Mg} : O2 K mg rIsB oIsB := fun S σ H x y d e W Q i hx hy q => by
  unfold oIsB at q
  split at q
  · exact ⟨_, _, hx.bl, hy.bl, q _ _ _ (Gr.refl i) (.bl _)⟩
  · exact q.elim
theorem o_notB {K : Frg} {mg : Mg} : O2 K mg rNotB oNotB := fun S σ H x y d e W Q i hx hy q => by
  unfold oNotB at q
  split at q
  · exact ⟨_, _, hx.bl, hy.bl, q _ _ _ (Gr.refl i) (.bl _)⟩
  · exact q.elim
end PF

set_option Elab.async false
set_option linter.all false
set_option maxRecDepth 100000
set_option maxHeartbeats 4000000
/-! Texts: chains of comparisons, one sign in a text, str and int of each other, f-strings, partition, split, replace, repeated texts; constants of the module. -/
namespace PF
open PySem PySem.Spec L2 PyProof.Rows
section
variable {X : Cx} {hx : Hx} {W : WX} {a b c e : Expr} {pos : Pos} {fa fb fc : Sl → Res D}
/-! ### chains -/
@[simp] def sChn (o o' : D → D → Res D) (f g h : Sl → Res D) (ρ : Sl) : Res D := (f ρ).bind fun x => (g ρ).bind fun y => (o x y).bind fun z => (tBl z).bind fun k => if k then (h ρ).bind fun w => o' y w else .ok (.bl false)
theorem chn_seq {r r' : R2} {o o' : D → D → Res D} (hr : O2 X.K X.mg r o) (hr' : O2 X.K X.mg r' o') : ∀ σ H Q, tG X.K X.mg hx (rrE X.K X.mg) W (sChn o o' fa fb fc) σ H Q → tChain r r' (tG X.K X.mg hx (rrR X.K X.mg) W fa) (tG X.K X.mg hx (rrR X.K X.mg) W fb) (tG X.K X.mg hx (rrR X.K X.mg) W fc) σ H Q := fun σ H Q ⟨b, S, ρ, R, q⟩ =>
  ⟨b, S, ρ, R, q.bind fun d v S1 H1 g1 r1 k => ⟨b, S1, ρ, R.grow g1, (k.upE g1).bind fun d2 v2 S2 H2 g2 r2 k2 => hr S2 σ H2 v v2 d d2 W _ g2.i (r1.up g2) r2 ((k2.upE g2).bind fun d3 v3 S3 H3 g3 r3 k3 => by
    cases r3 with
    | @bl c =>
      refine ⟨c, rfl, ?_⟩
      cases c with
      | false => exact k3 _ S3 H3 g3 (.bl _)
      | true =>
        have k4 : Po X.K X.mg (rrE X.K X.mg) W S2 σ H2 ((fc ρ).bind fun w => o' d2 w) Q := k3
        exact ⟨b, S3, ρ, ((R.grow g1).grow g2).grow g3, (k4.upE g3).bind fun d5 v5 S5 H5 g5 r5 k5 => hr' S5 σ H5 v2 v5 d2 d5 W Q g5.i (r2.up (g3.trans g5)) r5 (k5.upE g5)⟩
    | _ => exact k3.elim)⟩⟩
theorem me_chn {op op' : CmpOp} {r r' : R2} {o o' : D → D → Res D} (ho : OpR X (compareOp op) r) (hr : O2 X.K X.mg r o) (ho' : OpR X (compareOp op') r') (hr' : O2 X.K X.mg r' o') (ha : MR X hx W a fa) (hb : MR X hx W b fb) (hc : MR X hx W c fc) (hm : lastMarks [op, op'] [b, c] = false := by with_unfolding_all rfl) :
    ME X hx W (.Compare a [op, op'] [b, c] pos) (sChn o o' fa fb fc) := pe_imp (pe_chain ho ho' ha hb hc hm) (chn_seq hr hr')
theorem mt_chn {op op' : CmpOp} {r r' : R2} {o o' : D → D → Res D} (ho : OpR X (compareOp op) r) (hr : O2 X.K X.mg r o) (ho' : OpR X (compareOp op') r') (hr' : O2 X.K X.mg r' o') (ha : MR X hx W a fa) (hb : MR X hx W b fb) (hc : MR X hx W c fc) (hm : lastMarks [op, op'] [b, c] = false := by with_unfolding_all rfl) :
    MT X hx W (.Compare a [op, op'] [b, c] pos) (sTest (sChn o o' fa fb fc)) :=
  pt_imp (pt_chain ho ho' ha hb hc hm) fun σ H Q ⟨b, S, ρ, R, q⟩ => chn_seq hr hr' σ H _ ⟨b, S, ρ, R, q.bind fun d v S1 H1 g1 r1 k => by
    cases r1 <;> first | exact k.elim | skip
    rename_i c
    exact ⟨c, rfl, k c S1 H1 g1 rfl⟩⟩
/-! ### one sign in a text -/
@[simp] def oInS (d e : D) : Res D := match d, e with
  | .str x, .str y => (match x.cps.toList with
    | [c] => .ok (.bl (decide (c ∈ y.cps.toList)))
    | _ => .bad)
  | _, _ => .bad
@[simp] def oNinS (d e : D) : Res D := match d, e with
  | .str x, .str y => (match x.cps.toList with
    | [c] => .ok (.bl (!decide (c ∈ y.cps.toList)))
    | _ => .bad)
  | _, _ => .bad
theorem one_of {x : Str} {c : Nat} (h : x.cps.toList = [c]) : x = ⟨#[c]⟩ := by
  cases x with
  | mk a =>
    have : a = #[c] := Array.toList_inj.mp (by simpa using h)
    rw [this]
theorem o_inS {K : Frg} {mg : Mg} : O2 K mg (fun x y H Q => ∃ (c : Nat) (z : Str), x = .str ⟨#[c]⟩ ∧ y = .str z ∧ Q (.bl (decide (c ∈ z.cps.toList))) H) oInS := fun S σ H x y d e W Q i hx hy q => by
  unfold oInS at q
  split at q
  · split at q
    · rename_i c hc
      refine ⟨c, _, ?_, hy.str, q _ _ _ (Gr.refl i) (.bl _)⟩
      rw [hx.str, one_of hc]
    · exact q.elim
  · exact q.elim
theorem o_ninS {K : Frg} {mg : Mg} : O2 K mg (fun x y H Q => ∃ (c : Nat) (z : Str), x = .str ⟨#[c]⟩ ∧ y = .str z ∧ Q (.bl (!decide (c ∈ z.cps.toList))) H) oNinS := fun S σ H x y d e W Q i hx hy q => by
  unfold oNinS at q
  split at q
  · split at q
    · rename_i c hc
      refine ⟨c, _, ?_, hy.str, q _ _ _ (Gr.refl i) (.bl _)⟩
      rw [hx.str, one_of hc]
    · exact q.elim
  · exact q.elim
/-! ### str, int -/
def strI (i : Int) : Str := Str.ofString (toString i)
noncomputable def fitS (i : Int) : Bool := cb (i.natAbs.log2 < 1920)
@[simp] noncomputable def bStr (d : D) : Res D := match d with
  | .int i => if fitS i then .ok (.str (strI i)) else .bad
  | .str x => .ok (.str x)
  | _ => .bad
theorem call_strU : CallR X (.type "str") (fun xs H Q => (∃ i, xs = [.int i] ∧ i.natAbs.log2 < 1920 ∧ Q (.str (toString i)) H) ∨ ∃ a, xs = [.str a] ∧ Q (.str a) H) := call_str_int.or SkE.call_str_str
theorem b_str {K : Frg} {mg : Mg} : U1 K mg (fun v => (fun xs H Q => (∃ i, xs = [V.int i] ∧ i.natAbs.log2 < 1920 ∧ Q (V.str (toString i)) H) ∨ ∃ a, xs = [V.str a] ∧ Q (V.str a) H : List V → Hp → VK → Prop) [v]) bStr := fun S σ H v d W Q i hx q => by
  unfold bStr at q
  split at q
  · split at q
    · rename_i hc
      rw [hx.int]
      exact .inl ⟨_, rfl, of_cb hc, q _ _ _ (Gr.refl i) (.str _)⟩
    · exact q.elim
  · rw [hx.str]; exact .inr ⟨_, rfl, q _ _ _ (Gr.refl i) (.str _)⟩
  · exact q.elim
@[simp] def bIntT (d : D) : Res D := match d with
  | .int i => .ok (.int i)
  | .bl b => .ok (.int (if b then 1 else 0))
  | .str x => (match intText? x with
    | some n => if x.length ≤ 640 then .ok (.int n) else .bad
    | none => .bad)
  | _ => .bad
theorem call_intT : CallR X (.type "int") (fun xs H Q => ((∃ i, xs = [.int i] ∧ Q (.int i) H) ∨ ∃ k, xs = [.bl k] ∧ Q (.int (if k then 1 else 0)) H) ∨ ∃ a n, xs = [.str a] ∧ PySem.intText? a = some n ∧ a.length ≤ 640 ∧ Q (.int n) H) := call_int1.or call_int_str
theorem b_intT {K : Frg} {mg : Mg} : U1 K mg (fun v => (fun xs H Q => ((∃ i, xs = [V.int i] ∧ Q (V.int i) H) ∨ ∃ k, xs = [V.bl k] ∧ Q (V.int (if k then 1 else 0)) H) ∨ ∃ a n, xs = [V.str a] ∧ PySem.intText? a = some n ∧ a.length ≤ 640 ∧ Q (V.int n) H : List V → Hp → VK → Prop) [v]) bIntT := fun S σ H v d W Q i hx q => by
  unfold bIntT at q
  split at q
  · rw [hx.int]; exact .inl (.inl ⟨_, rfl, q _ _ _ (Gr.refl i) (.int _)⟩)
  · rw [hx.bl]; exact .inl (.inr ⟨_, rfl, q _ _ _ (Gr.refl i) (.int _)⟩)
  · split at q
    · rename_i n hn
      split at q
      · rename_i hl
        rw [hx.str]; exact .inr ⟨_, n, rfl, hn, hl, q _ _ _ (Gr.refl i) (.int _)⟩
      · exact q.elim
    · exact q.elim
  · exact q.elim
/-! ### f-strings -/
@[simp] noncomputable def fmtD (d : D) : Res D := match d with
  | .int i => if fitS i then .ok (.str (strI i)) else .bad
  | .str x => if x.length ≤ 16777216 then .ok (.str x) else .bad
  | _ => .bad
theorem me_fmt (he : MR X hx W e fa) : ME X hx W (.FormattedValue e (-1) none pos) (sUn fmtD fa) := pe_imp (pe_fmt he) fun σ H Q ⟨b, S, ρ, R, q⟩ => ⟨b, S, ρ, R, q.bind fun d v S1 H1 g1 r1 k => by
  unfold fmtD at k
  split at k
  · split at k
    · rename_i hc
      exact .inr ⟨_, r1.int, of_cb hc, k _ S1 H1 g1 (.str _)⟩
    · exact k.elim
  · split at k
    · rename_i hl
      exact .inl ⟨_, r1.str, sizeLine16 hl, k _ S1 H1 g1 (.str _)⟩
    · exact k.elim
  · exact k.elim⟩
@[simp] def sJn : List (Sl → Res D) → Str → Sl → Res D
  | [], acc, _ => .ok (.str acc)
  | f :: fs, acc, ρ => (f ρ).bind fun d => match d with
    | .str y => if (acc ++ y).length ≤ 16777216 then sJn fs (acc ++ y) ρ else .bad
    | _ => .bad
theorem jn_seq {b : Bs} {ρ : Sl} {σ : L2.St} {Q : VK} : ∀ (fs : List (Sl → Res D)) (acc : Str) (S H : Hp), Rel X.K X.mg hx b S ρ σ H → Po X.K X.mg (rrE X.K X.mg) W S σ H (sJn fs acc ρ) Q → tJs (fs.map fun f => tG X.K X.mg hx (rrE X.K X.mg) W f) acc σ H fun out H1 => Q (.str out) H1
  | [], acc, S, H, R, q => q _ S H (Gr.refl R.sh) (.str _)
  | f :: fs, acc, S, H, R, q => ⟨b, S, ρ, R, q.bind fun d v S1 H1 g1 r1 k => by
    cases r1 with
    | @str y =>
      have k2 : Po X.K X.mg (rrE X.K X.mg) W S σ H (if (acc ++ y).length ≤ 16777216 then sJn fs (acc ++ y) ρ else .bad) Q := k
      split at k2
      · rename_i hl
        exact ⟨y, rfl, sizeLine16 hl, jn_seq fs (acc ++ y) S1 H1 (R.grow g1) (k2.upE g1)⟩
      · exact k2.elim
    | _ => exact k.elim⟩
inductive MJ (X : Cx) (hx : Hx) (W : WX) : List Expr → List (Sl → Res D) → Prop where
  | nil : MJ X hx W [] []
  | cons {e : Expr} {f : Sl → Res D} {es : List Expr} {fs : List (Sl → Res D)} (h : ME X hx W e f) (r : MJ X hx W es fs) : MJ X hx W (e :: es) (f :: fs)
theorem mj_nil : MJ X hx W [] [] := .nil
theorem mj_cons {f : Sl → Res D} {es : List Expr} {fs : List (Sl → Res D)} (h : ME X hx W e f) (r : MJ X hx W es fs) : MJ X hx W (e :: es) (f :: fs) := .cons h r
theorem MJ.pj {es : List Expr} {fs : List (Sl → Res D)} (h : MJ X hx W es fs) : PJ X es (fs.map fun f => tG X.K X.mg hx (rrE X.K X.mg) W f) := by
  induction h with
  | nil => exact .nil
  | cons h _ ih => exact .cons h ih
theorem me_joined {v1 v2 : Expr} {rest : List Expr} {fs : List (Sl → Res D)} (h : MJ X hx W (v1 :: v2 :: rest) fs) : ME X hx W (.JoinedStr (v1 :: v2 :: rest) pos) (sJn fs Str.empty) :=
  pe_imp (pe_joined h.pj) fun σ H Q ⟨b, S, ρ, R, q⟩ => jn_seq fs Str.empty S H R q
/-! ### methods of texts -/
/-- x.m(y) of a text x -/
@[simp] def sM1 (g : Str → D → Res D) (f h : Sl → Res D) (ρ : Sl) : Res D := (f ρ).bind fun x => match x with
  | .str a => (h ρ).bind fun y => g a y
  | _ => .bad
@[simp] def fM1 (g : Str → D → Res (List D)) (f h : Sl → Res D) (ρ : Sl) : Res (List D) := (f ρ).bind fun x => match x with
  | .str a => (h ρ).bind fun y => g a y
  | _ => .bad
def O1S (K : Frg) (mg : Mg) (r : V → List V → Hp → VK → Prop) (g : Str → D → Res D) : Prop := ∀ S σ H (a : Str) w d W Q, Same S H → Rd1 K mg S H w d → Po K mg (rrE K mg) W S σ H (g a d) Q → r (.str a) [w] H Q
def O1F (K : Frg) (mg : Mg) (r : V → List V → Hp → VK → Prop) (g : Str → D → Res (List D)) : Prop := ∀ S σ H (a : Str) w d W Q, Same S H → Rd1 K mg S H w d → Po K mg (rrF K mg) W S σ H (g a d) Q → r (.str a) [w] H Q
theorem me_m1 {r : V → List V → Hp → VK → Prop} {g : Str → D → Res D} (hr : O1S X.K X.mg r g) (h : PE X e (tM1 r (tG X.K X.mg hx (rrR X.K X.mg) W fa) (tG X.K X.mg hx (rrR X.K X.mg) W fb))) : ME X hx W e (sM1 g fa fb) :=
  pe_imp h fun σ H Q ⟨b, S, ρ, R, q⟩ => ⟨b, S, ρ, R, q.bind fun d v S1 H1 g1 r1 k => by
    cases d with
    | str x =>
      have e1 : v = .str x := r1.str
      have k2 : Po X.K X.mg (rrE X.K X.mg) W S σ H ((fb ρ).bind fun y => g x y) Q := k
      exact ⟨⟨x, e1⟩, b, S1, ρ, R.grow g1, (k2.upE g1).bind fun d2 v2 S2 H2 g2 r2 k3 => by rw [e1]; exact hr S2 σ H2 x v2 d2 W Q g2.i r2 (k3.upE g2)⟩
    | _ => exact k.elim⟩
theorem mf_m1 {r : V → List V → Hp → VK → Prop} {g : Str → D → Res (List D)} (hr : O1F X.K X.mg r g) (h : PE X e (tM1 r (tG X.K X.mg hx (rrR X.K X.mg) W fa) (tG X.K X.mg hx (rrR X.K X.mg) W fb))) : MF X hx W e (fM1 g fa fb) :=
  pe_imp h fun σ H Q ⟨b, S, ρ, R, q⟩ => ⟨b, S, ρ, R, q.bind fun d v S1 H1 g1 r1 k => by
    cases d with
    | str x =>
      have e1 : v = .str x := r1.str
      have k2 : Po X.K X.mg (rrF X.K X.mg) W S σ H ((fb ρ).bind fun y => g x y) Q := k
      exact ⟨⟨x, e1⟩, b, S1, ρ, R.grow g1, (k2.upF g1).bind fun d2 v2 S2 H2 g2 r2 k3 => by rw [e1]; exact hr S2 σ H2 x v2 d2 W Q g2.i r2 (k3.upF g2)⟩
    | _ => exact k.elim⟩
@[simp] def mPart (x : Str) (d : D) : Res D := match d with
  | .str y => if (y.length == 0) = false ∧ x.length ≤ 16777216 then .ok (.tup [.str (Txt.partition x y).1, .str (Txt.partition x y).2.1, .str (Txt.partition x y).2.2]) else .bad
  | _ => .bad
theorem o_part {K : Frg} {mg : Mg} : O1S K mg (fun x xs H Q => ∃ a b, x = .str a ∧ xs = [.str b] ∧ (b.length == 0) = false ∧ a.length ≤ sizeLine ∧ ∀ p, H p = none → Q (.ref p) (upd H p (.tup [.str (Txt.partition a b).1, .str (Txt.partition a b).2.1, .str (Txt.partition a b).2.2]))) mPart := fun S σ H a w d W Q i hx q => by
  unfold mPart at q
  split at q
  · split at q
    · rename_i hc
      exact ⟨_, _, rfl, by rw [hx.str], hc.1, sizeLine16 hc.2, po_new i (.cons (.str _) (.cons (.str _) (.cons (.str _) .nil))) q⟩
    · exact q.elim
  · exact q.elim
@[simp] def mSplit (x : Str) (d : D) : Res (List D) := match d with
  | .str y => if (y.length == 0) = false ∧ x.length + 2 ≤ 16777216 then .ok ((Txt.split x y).map D.str) else .bad
  | _ => .bad
theorem rp_strs {K : Frg} {mg : Mg} {S : Hp} : ∀ ys : List Str, RpA K mg S (ys.map V.str) (ys.map D.str)
  | [] => .nil
  | y :: ys => .cons (.str _) (rp_strs ys)
theorem o_split {K : Frg} {mg : Mg} : O1F K mg (fun x xs H Q => ∃ a b, x = .str a ∧ xs = [.str b] ∧ (b.length == 0) = false ∧ a.length + 2 ≤ sizeLine ∧ rNewStrs (Txt.split a b) H Q) mSplit := fun S σ H a w d W Q i hx q => by
  unfold mSplit at q
  split at q
  · split at q
    · rename_i hc
      exact ⟨_, _, rfl, by rw [hx.str], hc.1, sizeLine16 hc.2, po_newL i (rp_strs _) q⟩
    · exact q.elim
  · exact q.elim
/-! ### a text times an int -/
def repS (k : Nat) (x : Str) : Str := ⟨(List.replicate k x.cps).foldl (· ++ ·) #[]⟩
@[simp] noncomputable def oMulS (d e : D) : Res D := match d, e with
  | .int i, .int j => if mulOk i j then .ok (.int (i * j)) else .bad
  | .str x, .int k => if cb (2 ≤ k ∧ k ≤ 1000 ∧ x.length ≤ 1000 ∧ 1 ≤ x.length) then .ok (.str (repS k.toNat x)) else .bad
  | _, _ => .bad
def rMulS : R2 := fun x y H Q => ∃ (a : Str) (k : Int), x = .str a ∧ y = .int k ∧ 2 ≤ k ∧ k ≤ 1000 ∧ a.length ≤ 1000 ∧ 1 ≤ a.length ∧ Q (.str (repS k.toNat a)) H
theorem op_mulStr : OpR X (binaryOp .Mult) rMulS := by
  intro pins s σ H x y v u Q I rx ry h
  obtain ⟨a, k, rfl, rfl, h1, h2, h3, h4, q⟩ := h
  obtain ⟨t, rfl⟩ := rx
  obtain ⟨t', rfl⟩ := ry
  have n1 : ¬ k < 1 := by omega
  have n2 : (k == 1 || a.length == 0) = false := by
    rw [Bool.or_eq_false_iff]
    exact ⟨beq_false_of_ne (by omega), beq_false_of_ne (by omega)⟩
  have n3 : a.length * k.toNat ≤ 1000 * 1000 := Nat.mul_le_mul h3 (by omega)
  have tl : PySem.Builtin.Str.tooLong (a.length * k.toNat) = false := by
    unfold PySem.Builtin.Str.tooLong
    rw [sizeLine_eq]
    exact decide_eq_false (by omega)
  refine PySem.P.mul_str (by rw [decide_eq_false (by omega), decide_eq_false (by omega)]; rfl) (fun _ _ => ?_) (fun _ _ => ?_) ?_
  · have : (2 ^ 63 - 1 : Int) / 1000 ≤ (2 ^ 63 - 1) / k := by
      refine Int.le_ediv_of_mul_le (by omega) ?_
      have e1 : ((2 ^ 63 - 1 : Int) / 1000) * k ≤ ((2 ^ 63 - 1 : Int) / 1000) * 1000 := Int.mul_le_mul_of_nonneg_left h2 (by decide)
      exact Int.le_trans e1 (by decide)
    have e2 : (1000 : Int) ≤ (2 ^ 63 - 1 : Int) / 1000 := by decide
    omega
  · exact tl
  · rw [if_neg n1, if_neg (by rw [n2]; exact Bool.false_ne_true)]
    exact ⟨fits_reps tl, .str (repS k.toNat a), H, I.tok _, ⟨_, rfl⟩, q⟩
/-! ### constants of the module -/
theorem op_mulUS : OpR X (binaryOp .Mult) (fun x y H Q => rI (fun i j => mulOk i j = true) (fun i j => .int (i * j)) x y H Q ∨ rMulS x y H Q) := op_mulU.or op_mulStr
theorem o_mulS {K : Frg} {mg : Mg} : O2 K mg (fun x y H Q => rI (fun i j => mulOk i j = true) (fun i j => .int (i * j)) x y H Q ∨ rMulS x y H Q) oMulS := fun S σ H x y d e W Q i hx hy q => by
  unfold oMulS at q
  split at q
  · split at q
    · rename_i hc
      exact .inl ⟨_, _, hx.int, hy.int, hc, q _ _ _ (Gr.refl i) (.int _)⟩
    · exact q.elim
  · split at q
    · rename_i hc
      obtain ⟨h1, h2, h3, h4⟩ := of_cb hc
      exact .inr ⟨_, _, hx.str, hy.int, h1, h2, h3, h4, q _ _ _ (Gr.refl i) (.str _)⟩
    · exact q.elim
  · exact q.elim
def scV : D → Option V
  | .non => some .non
  | .bl b => some (.bl b)
  | .int i => some (.int i)
  | .str x => some (.str x)
  | _ => none
def Gc (mg : Mg) (x : Str) (d : D) : Prop := ∃ u v, scV d = some v ∧ mg x = some u ∧ RelV v u
theorem scV_rp {K : Frg} {mg : Mg} {S : Hp} {d : D} {v : V} (h : scV d = some v) : Rp K mg S v d := by
  cases d <;> cases h
  · exact .non
  · exact .bl _
  · exact .int _
  · exact .str _
theorem me_gc {x : Str} {d : D} (h : Gc X.mg x d) (hg : Gl X x := by rfl) (hd : (x == ("__debug__" : Str)) = false := by decide) : ME X hx W (.Name x pos) (sC d) := by
  obtain ⟨u, v, h1, h2, h3⟩ := h
  exact pe_imp (pe_glob hg h2 h3 hd) fun σ H Q ⟨b, S, ρ, R, q⟩ => q v S H (Gr.refl R.sh) (scV_rp h1)
def gcB (K : Frg) (x : Str) (d : D) : Bool := match PySem.W.nsIn K mainGlobals x, d with
  | some (some (.int i _)), .int j => decide (i = j)
  | some (some (.str a _)), .str b => decide (a = b)
  | _, _ => false
theorem gc_ok {K : Frg} {h : Heap} {mg : Mg} {x : Str} {d : D} (X : K.In h) (G : h.Ns mainGlobals mg) (c : gcB K x d = true) : Gc mg x d := by
  unfold gcB at c
  split at c
  · rename_i i t j e
    exact ⟨_, .int j, rfl, PySem.W.mg_of X G e, t, by rw [of_decide_eq_true c]⟩
  · rename_i a t b e
    exact ⟨_, .str b, rfl, PySem.W.mg_of X G e, t, by rw [of_decide_eq_true c]⟩
  · cases c
/-! ### replace, of two written texts, as an item behind one that begins with a written text -/
@[simp] def sRep (y z : Str) (f : Sl → Res D) (ρ : Sl) : Res D := (f ρ).bind fun d => match d with
  | .str x => if x.length + (x.length + 1) * z.length ≤ 16777216 then .ok (.str (Txt.replace x y z)) else .bad
  | _ => .bad
abbrev MET (X : Cx) (hx : Hx) (W : WX) (e : Expr) (f : Sl → Res D) : Prop := PET X e (tG X.K X.mg hx (rrE X.K X.mg) W f)
abbrev MAT (X : Cx) (hx : Hx) (W : WX) (es : List Expr) (f : Sl → Res (List D)) : Prop := PAT X es (tG X.K X.mg hx (rrA X.K X.mg) W f)
theorem pet_imp {t t' : TE} (h : PET X e t) (i : ∀ σ H Q, t' σ H Q → t σ H Q) : PET X e t' := fun pins s σ H Q h0 I q => h pins s σ H Q h0 I (i σ H Q q)
theorem pat_imp {es : List Expr} {t t' : TA} (h : PAT X es t) (i : ∀ σ H Q, t' σ H Q → t σ H Q) : PAT X es t' := fun ps pins s σ H Q h0 I q => h ps pins s σ H Q h0 I (i σ H Q q)
theorem met_of (h : ME X hx W e fa) : MET X hx W e fa := CwR.PET.of h
theorem met_rep {o : Expr} {y z : Str} {j k : Nat} {c0 c1 apos : Pos} (ho : MR X hx W o fa) (hyz : (y == z) = false := by decide)
    (hst : starEach [.Constant (.str y) j c0, .Constant (.str z) k c1] X.env = [(false, eval (.Constant (.str y) j c0) X.env), (false, eval (.Constant (.str z) k c1) X.env)] := by rfl)
    (hbase : attributeBase o "replace" X.env (eval o X.env) = eval o X.env := by rfl) (hline : (apos.endLine == pos.line) = true := by rfl) :
    MET X hx W (.Call (.Attribute o "replace" apos) [.Constant (.str y) j c0, .Constant (.str z) k c1] [] pos) (sRep y z fa) :=
  pet_imp (CwR.pet_replC ho hyz hst hbase hline) fun σ H Q ⟨b, S, ρ, R, q⟩ => ⟨b, S, ρ, R, q.bind fun d v S1 H1 g1 r1 k => by
    cases d with
    | str x =>
      have k2 : Po X.K X.mg (rrE X.K X.mg) W S σ H (if x.length + (x.length + 1) * z.length ≤ 16777216 then .ok (.str (Txt.replace x y z)) else .bad) Q := k
      split at k2
      · rename_i hl
        exact ⟨x, r1.str, hl, k2 _ S1 H1 g1 (.str _)⟩
      · exact k2.elim
    | _ => exact k.elim⟩
theorem mat_nil : MAT X hx W [] aNil := pat_imp pat_nil fun σ H Q ⟨b, S, ρ, R, q⟩ => q [] S H (Gr.refl R.sh) .nil
theorem aC_seq {fs : Sl → Res (List D)} : ∀ σ H Q, tG X.K X.mg hx (rrA X.K X.mg) W (aCons fa fs) σ H Q → tCons (tG X.K X.mg hx (rrE X.K X.mg) W fa) (tG X.K X.mg hx (rrA X.K X.mg) W fs) σ H Q := fun σ H Q ⟨b, S, ρ, R, q⟩ =>
  ⟨b, S, ρ, R, q.bind fun d v S1 H1 g1 r1 k => ⟨b, S1, ρ, R.grow g1, (k.upA g1).bind fun d2 v2 S2 H2 g2 r2 k2 => k2 _ S2 H2 g2 (.cons (r1.up g2.s d v) r2)⟩⟩
theorem mat_cons {es : List Expr} {fs : Sl → Res (List D)} (ha : MET X hx W e fa) (hr : MAT X hx W es fs) (hs : starEach (e :: es) X.env = (false, eval e X.env) :: starEach es X.env := by rfl) : MAT X hx W (e :: es) (aCons fa fs) :=
  pat_imp (pat_cons ha hr hs) aC_seq
/-- the first item begins with a written text: a token is out behind it -/
theorem ma_first {es : List Expr} {fs : Sl → Res (List D)} {op : Operator} {y : Str} {j : Nat} {c0 : Pos} {r : R2} {g : D → D → Res D} (ho : OpR X (binaryOp op) r) (hrr : O2 X.K X.mg r g) (hb : MR X hx W b fb) (hr : MAT X hx W es fs)
    (hs : starEach (.BinOp (.Constant (.str y) j c0) op b pos :: es) X.env = (false, eval (.BinOp (.Constant (.str y) j c0) op b pos) X.env) :: starEach es X.env := by rfl) : MA X hx W (.BinOp (.Constant (.str y) j c0) op b pos :: es) (aCons (sOp g (sC (.str y)) fb) fs) := by
  refine pa_imp (t := tCons (tOp r (tC (.str y)) (tG X.K X.mg hx (rrR X.K X.mg) W fb)) (tG X.K X.mg hx (rrA X.K X.mg) W fs)) ⟨fun ps pins s σ H Q I h => ?_⟩ fun σ H Q q => ?_
  · rw [hs]
    show wpAny _ _ (spliced ((false, eval (.BinOp (.Constant (.str y) j c0) op b pos) X.env) :: backTo ps (starEach es X.env))) _ _ s
    refine Calls.spliced_cons (wpAny_BinOp (Calls.Constant_str ?_))
    refine wpAny_mono (PySem.wpAny_toks (hb.run pins _ σ H _ (I.tok (s.toks + 1)) h)) (fun u s1 q => ?_) fun _ _ z => z.2
    obtain ⟨hk, w, H1, I1, r1, q1⟩ := q
    refine wpAny_mono (PySem.wpAny_toks (ho pins s1 σ H1 (.str y) w _ u _ I1 ⟨_, rfl⟩ r1 q1)) (fun v s2 q => ?_) fun _ _ z => z.2
    obtain ⟨hk2, x, H2, I2, r2, q2⟩ := q
    have h1 : 1 ≤ s2.toks := Nat.le_trans (Nat.le_trans (show 1 ≤ s.toks + 1 by omega) hk) hk2
    exact thn (hr ps pins s2 σ H2 _ h1 I2 q2) fun us s3 ⟨xs, H3, I3, r3, q3⟩ => ⟨x :: xs, H3, I3, .cons r2 r3, q3⟩
  · obtain ⟨b0, S, ρ, R, q⟩ := aC_seq σ H Q q
    have q' : Po X.K X.mg (rrE X.K X.mg) W S σ H ((fb ρ).bind fun y' => g (.str y) y') _ := q
    exact ⟨b0, S, ρ, R, q'.bind fun d v S1 H1 g1 r1 k => hrr S1 σ H1 (.str y) v (.str y) d W _ g1.i (Rd1.of g1.i (.str _)) r1 (k.upE g1)⟩
end
end PF

set_option Elab.async false
set_option linter.all false
set_option maxRecDepth 100000
set_option maxHeartbeats 4000000
/-! the head: a law's facts as one Bool of the written part, its defs by their places -/
namespace PF
open PySem PySem.Spec L2

abbrev AlP : Type := Bool × List He.FnW
def obsP (fa : List (Frg → Bool)) (fn : List He.DefD) (K : Frg) : AlP := ((fa.all fun f => f K) && fn.all fun d => d.ok K, fn.map fun d => He.fnW K d.at_)
def valP (fn : List He.DefD) : AlP := (true, fn.map He.DefD.val)
def SaysP (fa : List (Frg → Bool)) (fn : List He.DefD) (K : Frg) : Prop := obsP fa fn K = valP fn
def obsPG (n : Nat) (fa : List (Frg → Bool)) (fn : List He.DefD) (g : Addr → Option Obj) : AlP := obsP fa fn (He.frG g (He.asD g n))
def hookP (n : Nat) (fa : List (Frg → Bool)) (fn : List He.DefD) : PySem.W.Hook where
  α := AlP
  obs := fun s => obsPG n fa fn s.heap.get?
  val := fun _ => valP fn
  says := fun _ h => ∃ K : Frg, K.In h ∧ SaysP fa fn K
  of := fun _ _ e => ⟨_, He.frG_in, e⟩
  keeps := fun _ _ _ ⟨K, hK, c⟩ k => ⟨K, PySem.W.Frag.In.keeps hK k, c⟩
theorem obsPG_eq {n : Nat} {fa : List (Frg → Bool)} {fn : List He.DefD} {g : Addr → Option Obj} {s : Shared} (h : ∀ a, g a = s.heap.get? a) : obsPG n fa fn g = (hookP n fa fn).obs s := by
  have e : g = s.heap.get? := funext h
  rw [e] <;> rfl
section
variable {fa : List (Frg → Bool)} {fn : List He.DefD} {K : Frg}
theorem SaysP.fact (c : SaysP fa fn K) (i : Nat) {f : Frg → Bool} (h : fa[i]? = some f := by rfl) : f K = true := by
  have c1 := (He.ba (show ((fa.all fun f => f K) && fn.all fun d => d.ok K) = true from congrArg (fun z : AlP => z.1) c)).1
  exact List.all_eq_true.mp c1 f (List.mem_of_getElem? h)
theorem SaysP.def_ (c : SaysP fa fn K) (i : Nat) {d : He.DefD} (h : fn[i]? = some d := by rfl) : ∃ fd, FunD K d.name d.qual d.params d.body d.scope (d.dvs K) (d.kws K) (He.fAd K d.at_) fd := by
  have c2 := (He.ba (show ((fa.all fun f => f K) && fn.all fun d => d.ok K) = true from congrArg (fun z : AlP => z.1) c)).2
  have e : fn.map (fun d => He.fnW K d.at_) = fn.map He.DefD.val := congrArg (fun z : AlP => z.2) c
  have e2 : (fn.map fun d => He.fnW K d.at_)[i]? = (fn.map He.DefD.val)[i]? := by rw [e]
  rw [List.getElem?_map, List.getElem?_map, h] at e2
  exact He.DefD.funD (Option.some.inj e2) (List.all_eq_true.mp c2 d (List.mem_of_getElem? h))
end
theorem fun_of {K : Frg} {x qual : Str} {st : Stmt} {f : Addr} {fd : FuncData} {kws : List (Str × V)} (F : FunD K x qual (defArgs st) (defBody st) (defScope st) [] kws f fd) : Fun K x qual st f fd := by
  obtain ⟨oc, od, dV, kV, doc, pm, an, cdv, ct, osl, rfl, h2, h3, h4, h5⟩ := F.ex
  rcases h4 with ⟨_, rfl⟩ | ⟨h, _⟩
  · exact ⟨⟨oc, od, kV, doc, pm, an, cdv, ct, osl, rfl, h2, h3⟩, F.kp⟩
  · exact absurd rfl h
/-- one def of the text: a global one without defaults -/
def dD (x : Str) (st : Stmt) : He.DefD := ⟨(x, none), x, x, defArgs st, defBody st, defScope st, [], []⟩
theorem df_mk {P : Program} {w : World} {K : Frg} {mg : Mg} {base h : Heap} {x : Str} {st : Stmt} {fd : FuncData} {k : Nat} {ps : List Str} {g : List D → Res D} (X : K.In h) (G : h.Ns mainGlobals mg) (F : FunD K x x (defArgs st) (defBody st) (defScope st) [] [] (He.fAd K (x, none)) fd)
    (c : (He.Fa.glo x).ok K = true) (hb : Binds K fd ps []) (ok : FnOk P w K mg base (L2.CX P w) k (He.fAd K (x, none)) fd ps (spF K mg ps.length g)) : Df P w K mg base x k (He.fAd K (x, none)) fd ps g :=
  ⟨ok, He.glo_ok X G c, F.kp, hb⟩
/-- facts of an exception class, of isinstance -/
def excCB (K : Frg) (x : Str) : Bool := He.eqO (PySem.W.findIn K (.ref (He.ga K x)) "__getattribute__") (some (some (.builtin "BaseException.__getattribute__"))) && (He.eqO (PySem.W.findIn K (.ref (He.ga K x)) "__getattr__") (some none) && (decide (PySem.W.subIn K (.ref (He.ga K x)) (.type "BaseException") = some true) && (PySem.W.hasDictIn K (He.ga K x) &&
  (He.eqO (PySem.W.findIn K (.ref (He.ga K x)) "__class__") (some (some (.builtin "object.__class__"))) && (He.eqO (PySem.W.specialIn K (.builtin "object.__class__") "__get__") (some (some (.builtin "getset_descriptor.__get__"))) && (decide (PySem.W.takesIn K (.builtin "object.__class__") = some true) && decide (PySem.W.mroIn K (He.ga K x) (.type "object") = some true)))))))
theorem excCB_ok {K : Frg} {x : Str} (h : excCB K x = true) : ExcC K (He.ga K x) := by
  obtain ⟨h1, h⟩ := He.ba h
  obtain ⟨h2, h⟩ := He.ba h
  obtain ⟨h3, h⟩ := He.ba h
  obtain ⟨h4, h⟩ := He.ba h
  obtain ⟨h5, h⟩ := He.ba h
  obtain ⟨h6, h⟩ := He.ba h
  obtain ⟨h7, h8⟩ := He.ba h
  exact ⟨He.eqO_ok h1, He.eqO_ok h2, of_decide_eq_true h3, h4, He.eqO_ok h5, He.eqO_ok h6, of_decide_eq_true h7, of_decide_eq_true h8⟩
theorem excT_ok {K : Frg} {mg : Mg} {h : Heap} {x : Str} (X : K.In h) (G : h.Ns mainGlobals mg) (c : (He.Fa.glo x).ok K = true) (e : (He.Fa.exc x).ok K = true) : ExcT K mg x (He.ga K x) :=
  let ⟨h1, h2, h3, h4⟩ := He.exc_ok e
  ⟨He.glo_ok X G c, h1, h2, h3, h4⟩
/-- a table of isinstance answers (tuple: any of them) -/
def rowB (K : Frg) (x : Str) (us : List Value) (b : Bool) : Bool := decide (PySem.W.kitAny K (.ref (He.ga K x)) us = some b)
def row1B (K : Frg) (x : Str) (u : Value) (b : Bool) : Bool := decide (PySem.W.kitOne K (.ref (He.ga K x)) u = some b)
end PF

set_option Elab.async false
set_option linter.all false
set_option maxRecDepth 100000
set_option maxHeartbeats 4000000
/-! super().__init__(..) in a def of the written part that closes over __class__; the def's own rule. -/
namespace PF
open PySem PySem.Spec L2 PyProof.Rows NdefX PySem.W ClX

theorem boot_super : bootBuiltins "super" = some (.type "super") := by decide +kernel
/-- what of the text a super() in the def at f asks: f itself, its code object, its cell __class__ (it holds the class D) -/
structure SupF (X : Cx) (f cda cc D : Addr) (me : Str) : Prop where
  fu : X.env.func = some f
  co : X.env.code = .ref cda
  cl : X.env.cells.lookup ("__class__" : Str) = some cc
  fd : ∃ oc od fd osl ar, X.K.lookup f = some ⟨oc, od, .func fd, osl⟩ ∧ (fd.params.posonlyargs ++ fd.params.args).head? = some ar ∧ ar.arg = me
  code : ∃ ccl cdd vs ccs file tf, X.K.lookup cda = some ⟨ccl, cdd, .fields vs, ccs⟩ ∧ vs[2]? = some (.str file tf) ∧ ((X.prog.main.file : Str) == file) = true
  cell : ∃ cl cld csl, X.K.lookup cc = some ⟨cl, cld, .cell (some (.ref D)), csl⟩
  top : (X.prog.main.scope.names.lookup ("super" : Str)).isSome = false
  glo : X.mg "super" = none
  ks : X.env.kindOf "super" = some .globalImplicit
  kc : X.env.kindOf "__class__" = some .free
  km : X.env.kindOf me = some .local
  cls : ∃ cd, clsIn X.K D = some cd
/-- what the object's class C must be: below D; the next __init__ behind D is the def at g -/
structure SupC (K : Frag) (C D g : Addr) : Prop where
  sub : mroIn K C (.ref D) = some true
  nx : ks_superIn K C D "__init__" = some (some (.ref g))
  ty : typeIn K (.ref g) = some (.type "function")
  fn : fnIn K g = true
  st : nsIn K cStatics "thirdparty.any" = some none
section
variable {X : Cx} {f cda cc D C g : Addr} {me : Str} {CX : CXT} {k : Nat} {sp : Sp} {E : L2.St → XK} {fd : FuncData} {ps : List Str} {e : Expr} {es : List Expr} {t : TA} {p0 p1 apos pos spos : Pos} {pins : List (Addr × Obj)} {s : Shared} {σ : L2.St} {H : Hp} {x dx : Addr} {fs : List (Str × V)} {body : List Stmt}
theorem cls_at {K : Frag} {h : Heap} {D : Addr} {cd : ClassData} (X : K.In h) (e : clsIn K D = some cd) : ∃ oD, h.get? D = some oD ∧ oD.data = .cls cd := by
  unfold clsIn at e
  split at e
  · rename_i c d cd' sl ho
    cases e
    exact ⟨_, X _ _ ho, rfl⟩
  · cases e
theorem fn_at {K : Frag} {h : Heap} {g : Addr} (X : K.In h) (e : typeIn K (.ref g) = some (.type "function")) : ∃ of, h.get? g = some of ∧ of.cls = .type "function" := by
  have ht' : (K.lookup g).map (·.cls) = some (.type "function") := e
  cases z : K.lookup g with
  | none => rw [z] at ht'; cases ht'
  | some of => rw [z] at ht'; exact ⟨of, X _ _ z, Option.some.inj ht'⟩
theorem code_fnS {Q : VK} {us : List Value} {vs : List V} (F : FnOk X.prog X.w X.K X.mg X.base CX k f fd ps sp) (hr : Room k X.A) (hb : Binds X.K fd ps []) (hx : PassesAt CX X σ (E σ))
    (I : Inv X pins σ H s) (r : Vals vs us) (h : sp vs H Q (E σ)) : codeAny (model X.prog X.w) X.A (.call (.ref f) ⟨us, []⟩) (fun r s' => match r with | .ok (.ret v) => EP X pins σ Q v s' | .ok _ => False | .error e => X.xe e s') s := by
  have hl : us.length = ps.length := by rw [← r.length]; exact F.len _ _ _ _ h
  have b := hb s us I.kIn (by rw [List.append_nil]; exact hl)
  rw [List.append_nil] at b
  refine codeAny_mono (F.run X.A X.stack s H ⟨us, []⟩ us vs Q (E σ) hr I.env0 b r h) fun r s' hq => ?_
  cases r with
  | error e => exact hx pins H s e s' I hq
  | ok fl =>
    cases fl with
    | ret u => exact I.after hq
    | next => exact False.elim hq
    | brk => exact False.elim hq
    | cont => exact False.elim hq
/-- super().__init__(e, ..) as a statement: the next class's def runs on the same object -/
theorem sup_stmt {Dn : Ends} (Su : SupF X f cda cc D me) (Sc : SupC X.K C D g) (F : FnOk X.prog X.w X.K X.mg X.base CX k g fd ps sp) (hbi : Binds X.K fd ps []) (hr : Room k X.A) (hx : ∀ σ, PassesAt CX X σ (E σ)) (ha : PA X (e :: es) t)
    (I : Inv X pins σ H s) (hN : X.N[0]? = some me) (hσ : σ[0]? = some (some (.ref x))) (hV : Vis X.env.scope me) (hH : H x = some (.ins C dx fs))
    (h : t σ H fun vs H1 => sp (.ref x :: vs) H1 (fun _ H2 => Dn.nx σ H2) (E σ))
    (he : starEach (e :: es) X.env = (false, eval e X.env) :: starEach es X.env := by rfl) (hpl : (backTo pos (starEach es X.env)).any (·.1) = false := by rfl)
    (hs : swapsWith (.Call (.Attribute (.Call (.Name "super" p0) [] [] p1) "__init__" apos) (e :: es) [] pos) none spos.line X.env = pure false := by rfl)
    (hev : eval (.Call (.Attribute (.Call (.Name "super" p0) [] [] p1) "__init__" apos) (e :: es) [] pos) X.env = (do
      let ov ← attributeBase (.Call (.Name "super" p0) [] [] p1) "__init__" X.env (eval (.Call (.Name "super" p0) [] [] p1) X.env)
      standAt apos.atName
      let (f, first) ← holding [ov] (getMethod ov "__init__" (pure false))
      callWith pos f first (backTo pos (starEach (e :: es) X.env)) []) := by rfl) :
    _root_.PySem.wpAt (model X.prog X.w) X.A (.func body X.env) (exec (.Expr (.Call (.Attribute (.Call (.Name "super" p0) [] [] p1) "__init__" apos) (e :: es) [] pos) spos) X.env) (SP X pins Dn) X.xe s := by
  have KX := I.kIn
  obtain ⟨oc, od, fd, osl, ar, lf, hp, har⟩ := Su.fd
  obtain ⟨ccl, cdd, vs, ccs, file, tf, lc, hvs, hfile⟩ := Su.code
  obtain ⟨cl, cld, csl, lcc⟩ := Su.cell
  obtain ⟨cdD, hcd⟩ := Su.cls
  obtain ⟨oD, hD1, hD2⟩ := cls_at KX hcd
  obtain ⟨mA, OM, _, _, _, _⟩ := ins_get I.hok hH
  obtain ⟨odx, IA, _⟩ := OM.look
  refine ks_wpAt_Expr_any (ks_wpAt_MethodCall (pl := pure false) ?_ hev) I.quiet hs
  refine ks_wpAt_super_base Su.ks Su.kc (by decide) Su.fu (KX _ _ lf) rfl hp Su.co (KX _ _ lc) rfl hvs hfile Su.top ?_
  obtain ⟨mb, hb1, hb2⟩ := I.mod.blt
  refine ks_loadName_global I.ok.kind Su.ks (Calls.loadGlobal_builtin (by rw [I.ok.glob]; exact I.mod.glob.keeps I.bk) Su.glo (by rw [I.ok.blt]; exact hb1.keeps I.bk) ((hb2 "super" (by decide)).trans boot_super) ⟨rfl, ?_⟩)
  refine wpAny_loadName_free I.ok.kind Su.kc Su.cl ⟨_, KX _ _ lcc, rfl⟩ ?_
  obtain ⟨m, hns, hl⟩ := I.loc
  obtain ⟨u, ru, lk⟩ := hl 0 me (.ref x) hN hσ hV
  obtain rfl : u = Value.ref x := ru
  have hm : m me = some (.ref x) := by
    rcases lk with ⟨_, q⟩ | ⟨q, _⟩
    · exact q
    · rw [Su.km] at q
      rcases q with q | q <;> cases q
  rw [har]
  refine wpAny_loadName_local I.ok.kind Su.km hns hm ?_
  refine ks_wpAny_isType_cls hD1 hD2 ⟨rfl, ?_⟩
  refine ks_wpAny_call_super hD1 hD2 IA.at_ IA.cls (fun c q => by cases q) (looks_mroIn KX Sc.sub) (fun h' e1 k1 => ?_)
  have I1 : Inv X pins σ H { s with heap := h', toks := s.toks } := I.kept (t' := s.toks) k1
  have KX1 := I1.kIn
  have nx := Sc.nx
  unfold ks_superIn at nx
  cases hc : clsIn X.K C with
  | none => rw [hc] at nx; cases nx
  | some cd =>
    rw [hc] at nx
    obtain ⟨of, hof, hofc⟩ := fn_at KX1 Sc.ty
    refine ks_wpAny_getMethod_super e1 (looks_opaque KX1 Sc.st) (l₀ := cd.mro) ?_ rfl KX1 nx hof hofc (ks_ne KX IA hc) (by decide) ?_
    · exact fun A Q E s k q => wpAny_bind ((looks_clsIn KX1 hc) A _ E s k (wpAny_pure q))
    · have I2 : Inv X ((h'.objs.size, methodObj (.ref g) (.ref x)) :: pins) σ H { s with heap := h'.push (methodObj (.ref g) (.ref x)), toks := s.toks + 1 } :=
        pin_new (s := { s with heap := h', toks := s.toks }) I1 (fun _ _ z => Heap.get?_push_of_some _ z) (Nat.le_refl _) (Heap.get?_push_size h' rfl) (fun v z => nomatch z)
      have hL : h'.objs.size ≠ X.env.locals := (I2.pin (h'.objs.size, methodObj (.ref g) (.ref x)) (List.mem_append_right _ List.mem_cons_self)).2.2.1
      have hb0 : X.base.get? h'.objs.size = none := base_none I1 (Nat.le_refl _)
      refine callWith_M (K := X.K) (h₀ := X.base) (first := []) I2.ok.mod.kin (news_at hL hb0 (pin_at I2)) List.mem_cons_self Sc.fn ?_ he hpl
      refine thn (ha.run pos _ _ σ H _ I2 h) fun us s3 ⟨ws, H1, I3, r, q⟩ => ⟨⟨pin_at I3, I3.kIn⟩, ?_⟩
      have z : wpAny (model X.prog X.w) X.A (call (.ref h'.objs.size) us) (EP X ((h'.objs.size, methodObj (.ref g) (.ref x)) :: pins) σ (fun _ H2 => Dn.nx σ H2)) X.xe s3 :=
        wpAny_call (method_call (pin_at I3) (code_fnS (us := .ref x :: us) (vs := .ref x :: ws) F hr hbi (hx σ) I3 (.cons rfl r) q))
      exact thn z fun _ s4 ⟨v, H4, I4, _, q4⟩ => ⟨σ, H4, unpin I4, q4⟩
end
/-! ### the rule of a def that closes over __class__ -/
section
variable {CX : CXT} {P : Program} {w : World} {K : Frag} {mg : Str → Option Value} {base : Heap} {k : Nat} {f cc cda D : Addr} {name qual : Str} {params : Arguments} {body : List Stmt} {scope : Scope} {dV kV doc pm ct oc cl : Value} {an od cld : Option Addr} {osl csl : Array (Option Value)} {N ps : List Str} {sp : Sp}
abbrev niF (name qual : Str) (params : Arguments) (body : List Stmt) (scope : Scope) (cc cda : Addr) : NF := ⟨name, qual, params, body, scope, [("__class__", cc)], cda⟩
theorem fn_ofS (lk : K.lookup f = some ⟨oc, od, .func (ksFn name qual params body scope dV kV doc pm an (.ref cda) ct cc), osl⟩) (hcd : codeIn K (.ref cda) qual = true) (lcc : K.lookup cc = some ⟨cl, cld, .cell (some (.ref D)), csl⟩) (S : NScope N ps ["__class__"] scope)
    (len : ∀ vs H Q E, sp vs H Q E → vs.length = ps.length)
    (hbody : ∀ (A : Around) (outer : List Env) (s s1 : Shared) (H : Hp) (vs : List V) (Q : VK) (E : XK), Room k (A.deeper (envF (niF name qual params body scope cc cda) f s.heap.objs.size)) → sp vs H Q E →
      Inv (ncx CX P w K mg base N (niF name qual params body scope cc cda) f A outer s H E) [] (startF N vs [some (.ref D)]) H s1 →
      _root_.PySem.wpAt (model P w) (A.deeper (envF (niF name qual params body scope cc cda) f s.heap.objs.size)) (.func body (envF (niF name qual params body scope cc cda) f s.heap.objs.size)) (execs body (envF (niF name qual params body scope cc cda) f s.heap.objs.size))
        (SP (ncx CX P w K mg base N (niF name qual params body scope cc cda) f A outer s H E) [] { nx := fun _ H' => Q .non H', rt := Q }) (ncx CX P w K mg base N (niF name qual params body scope cc cda) f A outer s H E).xe s1) :
    FnOk P w K mg base CX (k + 1) f (ksFn name qual params body scope dV kV doc pm an (.ref cda) ct cc) ps sp := by
  refine ⟨len, fun A outer s H args us vs Q E hr e0 hb r hsp => ?_⟩
  have hl := len _ _ _ _ hsp
  have KX : K.In s.heap := e0.mod.kin.keeps fun b o e => (e0.bs b o e).1
  have lim : s.heap.NoLimit := e0.mod.nolimit.keeps fun b o e => (e0.bs b o e).1
  have hloc : ∀ y ∈ ps.zip us, scope.names.lookup y.1 = some .local := fun ⟨n, v⟩ hy => S.par n (List.of_mem_zip hy).1
  have C : CellsAt [("__class__", cc)] ["__class__"] [some (.ref D)] s.heap H := by
    have ex : (([("__class__", cc)] : List (Str × Addr)).lookup ("__class__" : Str)) = some cc := rfl
    have on : ∀ y c, (([("__class__", cc)] : List (Str × Addr)).lookup y) = some c → y = ("__class__" : Str) ∧ c = cc := fun y c e => by
      by_cases q : y = ("__class__" : Str)
      · subst q
        rw [ex] at e
        cases e
        exact ⟨rfl, rfl⟩
      · have : (([("__class__", cc)] : List (Str × Addr)).lookup y) = none := by
          unfold List.lookup
          rw [beq_false_of_ne q]
          rfl
        rw [this] at e
        cases e
    refine ⟨rfl, fun y c e => ?_, fun x y c e1 e2 => ?_, fun i y e => ?_⟩
    · obtain ⟨_, rfl⟩ := on y c e
      exact ⟨(e0.bs _ _ (e0.mod.kin _ _ lcc)).2, _, _, KX _ _ lcc, rfl⟩
    · rw [(on x c e1).1, (on y c e2).1]
    · cases i with
      | zero =>
        cases e
        exact ⟨cc, ex, fun v e => by cases e; exact ⟨.ref D, rfl, _, KX _ _ lcc, rfl⟩⟩
      | succ i => cases e
  refine ks_codeAny_call_defAt hr.depth (KX _ _ lk) rfl lim (codeRec_of KX hcd) rfl hb S.nocell hloc (fun h₀ hns kp => ?_) S.co S.gen S.kind
  have I := inv_startN (CX := CX) (P := P) (w := w) (F := niF name qual params body scope cc cda) (f := f) (E := E) (tk := s.toks + (ps.zip us).length) S hr.hd e0 hl r C hns kp
  refine ks_wpAt_mono (hbody A outer s _ H vs Q E (hr.deeper _) hsp I) (fun fl s' hs => ?_) fun e s' hs => hs
  have fin : ∀ {σ' : L2.St} {H' : Hp} {v : V} {u : Value}, Inv (ncx CX P w K mg base N (niF name qual params body scope cc cda) f A outer s H E) [] σ' H' s' → L2.RelV v u → Q v H' → CE outer P w H s Q u s' :=
    fun {σ' H' v u} J rv q => ⟨v, H', J.os, J.bare, J.base, J.hok, rv, q⟩
  cases fl with
  | ret u =>
    obtain ⟨v, σ', H', J, rv, q⟩ := hs
    exact fin J rv q
  | next =>
    obtain ⟨σ', H', J, q⟩ := hs
    exact fin (v := V.non) (u := Value.none) J rfl q
  | brk =>
    obtain ⟨_, _, _, q⟩ := hs
    exact False.elim q
  | cont =>
    obtain ⟨_, _, _, q⟩ := hs
    exact False.elim q
end
end PF

set_option Elab.async false
set_option linter.all false
set_option maxRecDepth 100000
set_option maxHeartbeats 4000000
/-! Instances that are not changed any more: attributes, constants of their classes, methods. -/
namespace PF
open PySem PySem.Spec L2 PyProof.Rows

theorem zip_look {K : Frg} {mg : Mg} {S : Hp} (f : Str) : ∀ {ns : List Str} {xs : List V} {ds : List D} {d : D}, RpA K mg S xs ds → (ns.zip ds).lookup f = some d → ∃ v, (ns.zip xs).lookup f = some v ∧ Rp K mg S v d
  | [], _, _, _, _, h => by simp at h
  | n :: ns, _, [], _, r, h => by simp at h
  | n :: ns, _, d0 :: ds, d, r, h => by
    cases r with
    | @cons v vs _ _ r1 r2 =>
      rw [List.zip_cons_cons] at h ⊢
      unfold List.lookup at h ⊢
      cases e : f == n with
      | true =>
        rw [e] at h
        cases h
        exact ⟨v, rfl, r1⟩
      | false =>
        rw [e] at h
        exact zip_look f r2 h
theorem zip_none (f : Str) : ∀ {ns : List Str} {xs : List V}, f ∉ ns → (ns.zip xs).lookup f = none
  | [], _, _ => by simp
  | n :: ns, [], _ => by simp
  | n :: ns, x :: xs, h => by
    rw [List.zip_cons_cons]
    unfold List.lookup
    rw [beq_false_of_ne (fun e => h (by simp [e]))]
    exact zip_none f (fun e => h (by simp [e]))
/-- o.f, a field of an instance of one of the classes cs -/
@[simp] def bFld (cs : List Str) (f : Str) (d : D) : Res D := match d with
  | .obj c ns ds => if c ∈ cs then (match (ns.zip ds).lookup f with
    | some v => .ok v
    | none => .bad) else .bad
  | _ => .bad
def FldT (K : Frg) (mg : Mg) (cs : List Str) (f : Str) : Prop := ∀ c ∈ cs, ∀ C, mg c = some (.ref C) → Cls K C ∧ NoAttr K C f
/-- o.f, a constant of the instance's class -/
@[simp] def bCon (tab : List (Str × D)) (f : Str) (d : D) : Res D := match d with
  | .obj c ns _ => if f ∈ ns then .bad else (match tab.lookup c with
    | some v => .ok v
    | none => .bad)
  | _ => .bad
def ConT (K : Frg) (mg : Mg) (tab : List (Str × D)) (f : Str) : Prop := ∀ c d, tab.lookup c = some d → ∀ C, mg c = some (.ref C) → Cls K C ∧ ∃ v u, scV d = some v ∧ Con K C f v u
/-- C.f, a constant of the class named x -/
def CcT (K : Frg) (mg : Mg) (x f : Str) (d : D) : Prop := ∃ C mc v u, mg x = some (.ref C) ∧ scV d = some v ∧ ClX.CRead K C mc ∧ ClX.CVal K C mc f v u
section
variable {X : Cx} {hx : Hx} {W : WX} {e : Expr} {pos : Pos} {fa : Sl → Res D} {f : Str}
theorem me_fld {cs : List Str} (ht : FldT X.K X.mg cs f) (he : MR X hx W e fa) (hb : attributeBase e f X.env (eval e X.env) = eval e X.env := by rfl) : ME X hx W (.Attribute e f pos) (sUn (bFld cs f) fa) :=
  pe_imp (pe_fld he hb) fun σ H Q ⟨b, S, ρ, R, q⟩ => ⟨b, S, ρ, R, q.bind fun d v S1 H1 g1 r1 k => by
    cases d with
    | obj c ns ds =>
      have r : Rp X.K X.mg S1 v (.obj c ns ds) := r1
      cases r with
      | @obj a C dx fs _ _ xs _ h1 h2 h3 h4 h5 =>
        have k2 : Po X.K X.mg (rrE X.K X.mg) W S σ H (if c ∈ cs then (match (ns.zip ds).lookup f with | some v => .ok v | none => .bad) else .bad) Q := k
        split at k2
        · rename_i hc
          obtain ⟨c1, c2⟩ := ht c hc C h2
          split at k2
          · rename_i w hw
            obtain ⟨v, hv, rv⟩ := zip_look f h5 hw
            exact ⟨a, C, dx, fs, v, rfl, g1.i _ _ h1, c1, c2, by rw [h3]; exact hv, k2 v S1 H1 g1 rv⟩
          · exact k2.elim
        · exact k2.elim
    | _ => exact k.elim⟩
theorem me_cono {tab : List (Str × D)} (ht : ConT X.K X.mg tab f) (he : MR X hx W e fa) (hb : attributeBase e f X.env (eval e X.env) = eval e X.env := by rfl) : ME X hx W (.Attribute e f pos) (sUn (bCon tab f) fa) :=
  pe_imp (pe_con he hb) fun σ H Q ⟨b, S, ρ, R, q⟩ => ⟨b, S, ρ, R, q.bind fun d v S1 H1 g1 r1 k => by
    cases d with
    | obj c ns ds =>
      have r : Rp X.K X.mg S1 v (.obj c ns ds) := r1
      cases r with
      | @obj a C dx fs _ _ xs _ h1 h2 h3 h4 h5 =>
        have k2 : Po X.K X.mg (rrE X.K X.mg) W S σ H (if f ∈ ns then .bad else (match tab.lookup c with | some v => .ok v | none => .bad)) Q := k
        split at k2
        · exact k2.elim
        · rename_i hf
          split at k2
          · rename_i w hw
            obtain ⟨c1, v, u, c2, c3⟩ := ht c w hw C h2
            exact ⟨a, C, dx, fs, v, u, rfl, g1.i _ _ h1, c1, c3, by rw [h3]; exact zip_none f hf, k2 v S1 H1 g1 (scV_rp c2)⟩
          · exact k2.elim
    | _ => exact k.elim⟩
theorem me_ccon {x : Str} {p : Pos} {d : D} (ht : CcT X.K X.mg x f d) (hg : Gl X x := by rfl) (hd : (x == ("__debug__" : Str)) = false := by decide) (hb : attributeBase (.Name x p) f X.env (eval (.Name x p) X.env) = eval (.Name x p) X.env := by rfl) : ME X hx W (.Attribute (.Name x p) f pos) (sC d) := by
  obtain ⟨C, mc, v, u, h1, h2, h3, h4⟩ := ht
  exact pe_imp (ClX.pe_cval (pe_glob (v := .ref C) hg h1 rfl hd) hb) fun σ H Q ⟨b, S, ρ, R, q⟩ => ⟨C, mc, v, u, rfl, h3, h4, q v S H (Gr.refl R.sh) (scV_rp h2)⟩
end
/-! ### methods -/
abbrev MtT := List (Str × (List D → Res D))
structure MethT (P : Program) (w : World) (K : Frg) (mg : Mg) (base : Heap) (tab : MtT) (m : Str) (n k : Nat) : Prop where
  of : ∀ c g, tab.lookup c = some g → ∀ C, mg c = some (.ref C) → Cls K C ∧ ∃ f fd ps, Meth K C m f ∧ FnOk P w K mg base (L2.CX P w) k f fd ps (spF K mg ps.length g) ∧ Binds K fd ps [] ∧ ps.length = n + 1
@[simp] def rMeth (tab : MtT) (m : Str) (f : Sl → Res D) (fs : Sl → Res (List D)) (ρ : Sl) : Res D := (f ρ).bind fun d => match d with
  | .obj c ns ds => if m ∈ ns then .bad else (match tab.lookup c with
    | some g => (fs ρ).bind fun as => g (.obj c ns ds :: as)
    | none => .bad)
  | _ => .bad
@[simp] def sMeth (tab : MtT) (m : Str) (f : Sl → Res D) (fs : Sl → Res (List D)) (ρ : Sl) : Res D := (rMeth tab m f fs ρ).bind thaw
@[simp] def fMeth (tab : MtT) (m : Str) (f : Sl → Res D) (fs : Sl → Res (List D)) (ρ : Sl) : Res (List D) := (rMeth tab m f fs ρ).bind unfr
theorem meth_imp {K : Frg} {mg : Mg} {W : WX} {g : List D → Res D} {fs : Sl → Res (List D)} {n : Nat} {d0 : D} {v0 : V} {σ : L2.St} {H : Hp} {Q : VK} (hfl : ∀ ρ ds, fs ρ = .ok ds → ds.length = n) {S : Hp} {ρ : Sl} (r0 : Rp K mg S v0 d0) (i : Same S H) (q : Po K mg (rrX K mg) W S σ H ((fs ρ).bind fun as => g (d0 :: as)) Q) :
    Po K mg (rrA K mg) W S σ H (fs ρ) fun vs H1 => spF K mg (n + 1) g (v0 :: vs) H1 Q fun cls d H' => W cls d σ H' := by
  cases ef : fs ρ with
  | exc y ys => rw [ef] at q; exact q
  | bad => rw [ef] at q; exact q
  | ok ds =>
    rw [ef] at q
    intro v S1 H1 g1 r1
    refine ⟨d0 :: ds, S1, by rw [List.length_cons, r1.len, hfl ρ ds ef], g1.i, .cons (Rp.up g1.s _ _ r0) r1, ?_⟩
    have q1 : Po K mg (rrX K mg) W S1 σ H1 (g (d0 :: ds)) Q := Po.upX g1 q
    cases eg : g (d0 :: ds) with
    | ok d => rw [eg] at q1; exact q1
    | exc y ys => rw [eg] at q1; exact q1
    | bad => rw [eg] at q1; exact q1
section
variable {X : Cx} {hx : Hx} {W : WX} {o e : Expr} {es : List Expr} {pos apos : Pos} {fo : Sl → Res D} {fs : Sl → Res (List D)} {m : Str} {tab : MtT} {n k : Nat}
theorem pe_methD {pl : Sem Bool} (G : MethT X.prog X.w X.K X.mg X.base tab m n k) (hr : Room k X.A) (cw : Cw X W) (he : MR X hx W o fo) (ha : MA X hx W (e :: es) fs) (hfl : ∀ ρ ds, fs ρ = .ok ds → ds.length = n)
    (hst : starEach (e :: es) X.env = (false, eval e X.env) :: starEach es X.env) (hpl : (backTo pos (starEach es X.env)).any (·.1) = false)
    (ht : eval (.Call (.Attribute o m apos) (e :: es) [] pos) X.env = (do
      let ov ← eval o X.env
      standAt apos.atName
      let (f, first) ← holding [ov] (getMethod ov m pl)
      callWith pos f first (backTo pos (starEach (e :: es) X.env)) (backToKw pos (keywordEach [] X.env)))) :
    PE X (.Call (.Attribute o m apos) (e :: es) [] pos) (tG X.K X.mg hx (rrX X.K X.mg) W (rMeth tab m fo fs)) := by
  refine ⟨fun pins s σ H Q I ⟨b, S, ρ, R, q⟩ => ?_⟩
  refine methcall_of he I ⟨b, S, ρ, R, q.bind fun d v S1 H1 g1 r1 kk => ?_⟩ ht
  cases d with
  | obj c ns ds =>
    have r : Rp X.K X.mg S1 v (.obj c ns ds) := r1
    cases r with
    | @obj a C dx fv _ _ xs _ h1 h2 h3 h4 h5 =>
      have k2 : Po X.K X.mg (rrX X.K X.mg) W S σ H (if m ∈ ns then .bad else (match tab.lookup c with | some g => (fs ρ).bind fun as => g (.obj c ns ds :: as) | none => .bad)) Q := kk
      split at k2
      · exact k2.elim
      · rename_i hm
        split at k2
        · rename_i g hg
          obtain ⟨c1, f, fd, ps, c2, F, B, c3⟩ := G.of c g hg C h2
          refine ⟨a, C, dx, fv, f, rfl, g1.i _ _ h1, c1, c2, by rw [h3]; exact zip_none m hm, fun s1 I1 => ?_⟩
          refine PySem.W.callWith_K (first := [.ref a]) (h₀ := X.base) I1.ok.mod.kin c2.kp (thn (ha.run pos pins s1 σ H1 _ I1 ⟨b, S1, ρ, R.grow g1, meth_imp hfl (.obj h1 h2 h3 h4 h5) g1.i (Po.upX g1 k2)⟩) fun us s2 ⟨vs, H2, I2, r, q2⟩ => ⟨I2.kIn, ?_⟩) hst hpl
          rw [← c3] at q2
          exact run_fnS (us := .ref a :: us) (vs := .ref a :: vs) (E := WE W) F hr B (cw σ) I2 (.cons rfl r) q2
        · exact k2.elim
  | _ => exact kk.elim
theorem pe_methD0 {pl : Sem Bool} (G : MethT X.prog X.w X.K X.mg X.base tab m 0 k) (hr : Room k X.A) (cw : Cw X W) (he : MR X hx W o fo)
    (ht : eval (.Call (.Attribute o m apos) [] [] pos) X.env = (do
      let ov ← eval o X.env
      standAt apos.atName
      let (f, first) ← holding [ov] (getMethod ov m pl)
      callWith pos f first (backTo pos (starEach [] X.env)) (backToKw pos (keywordEach [] X.env)))) :
    PE X (.Call (.Attribute o m apos) [] [] pos) (tG X.K X.mg hx (rrX X.K X.mg) W (rMeth tab m fo aNil)) := by
  refine ⟨fun pins s σ H Q I ⟨b, S, ρ, R, q⟩ => ?_⟩
  refine methcall_of he I ⟨b, S, ρ, R, q.bind fun d v S1 H1 g1 r1 kk => ?_⟩ ht
  cases d with
  | obj c ns ds =>
    have r : Rp X.K X.mg S1 v (.obj c ns ds) := r1
    cases r with
    | @obj a C dx fv _ _ xs _ h1 h2 h3 h4 h5 =>
      have k2 : Po X.K X.mg (rrX X.K X.mg) W S σ H (if m ∈ ns then .bad else (match tab.lookup c with | some g => (aNil ρ).bind fun as => g (.obj c ns ds :: as) | none => .bad)) Q := kk
      split at k2
      · exact k2.elim
      · rename_i hm
        split at k2
        · rename_i g hg
          obtain ⟨c1, f, fd, ps, c2, F, B, c3⟩ := G.of c g hg C h2
          refine ⟨a, C, dx, fv, f, rfl, g1.i _ _ h1, c1, c2, by rw [h3]; exact zip_none m hm, fun s1 I1 => ?_⟩
          have z := meth_imp (n := 0) (fs := aNil) (ρ := ρ) (g := g) (fun ρ ds h => len_nil h) (.obj h1 h2 h3 h4 h5) g1.i (Po.upX g1 k2)
          have z2 := z [] S1 H1 (Gr.refl g1.i) .nil
          rw [← c3] at z2
          exact PySem.W.callWith_K0 (first := [.ref a]) I1.kIn c2.kp (run_fnS (us := [.ref a]) (vs := [.ref a]) (E := WE W) F hr B (cw σ) I1 (.cons rfl .nil) z2)
        · exact k2.elim
  | _ => exact kk.elim
theorem po_thaw {K : Frg} {mg : Mg} {hx : Hx} {W : WX} {f : Sl → Res D} : ∀ σ H Q, tG K mg hx (rrE K mg) W (fun ρ => (f ρ).bind thaw) σ H Q → tG K mg hx (rrX K mg) W f σ H Q := fun σ H Q ⟨b, S, ρ, R, q⟩ => ⟨b, S, ρ, R, Po.freeze q⟩
theorem po_unfr {K : Frg} {mg : Mg} {hx : Hx} {W : WX} {f : Sl → Res D} : ∀ σ H Q, tG K mg hx (rrF K mg) W (fun ρ => (f ρ).bind unfr) σ H Q → tG K mg hx (rrX K mg) W f σ H Q := fun σ H Q ⟨b, S, ρ, R, q⟩ => ⟨b, S, ρ, R, Po.unfr q⟩
theorem me_meth {pl : Sem Bool} (G : MethT X.prog X.w X.K X.mg X.base tab m n k) (hr : Room k X.A) (cw : Cw X W) (he : MR X hx W o fo) (ha : MA X hx W (e :: es) fs) (hfl : ∀ ρ ds, fs ρ = .ok ds → ds.length = n)
    (hst : starEach (e :: es) X.env = (false, eval e X.env) :: starEach es X.env := by rfl) (hpl : (backTo pos (starEach es X.env)).any (·.1) = false := by rfl)
    (ht : eval (.Call (.Attribute o m apos) (e :: es) [] pos) X.env = (do
      let ov ← eval o X.env
      standAt apos.atName
      let (f, first) ← holding [ov] (getMethod ov m pl)
      callWith pos f first (backTo pos (starEach (e :: es) X.env)) (backToKw pos (keywordEach [] X.env))) := by rfl) : ME X hx W (.Call (.Attribute o m apos) (e :: es) [] pos) (sMeth tab m fo fs) := pe_imp (pe_methD G hr cw he ha hfl hst hpl ht) po_thaw
theorem mf_meth {pl : Sem Bool} (G : MethT X.prog X.w X.K X.mg X.base tab m n k) (hr : Room k X.A) (cw : Cw X W) (he : MR X hx W o fo) (ha : MA X hx W (e :: es) fs) (hfl : ∀ ρ ds, fs ρ = .ok ds → ds.length = n)
    (hst : starEach (e :: es) X.env = (false, eval e X.env) :: starEach es X.env := by rfl) (hpl : (backTo pos (starEach es X.env)).any (·.1) = false := by rfl)
    (ht : eval (.Call (.Attribute o m apos) (e :: es) [] pos) X.env = (do
      let ov ← eval o X.env
      standAt apos.atName
      let (f, first) ← holding [ov] (getMethod ov m pl)
      callWith pos f first (backTo pos (starEach (e :: es) X.env)) (backToKw pos (keywordEach [] X.env))) := by rfl) : MF X hx W (.Call (.Attribute o m apos) (e :: es) [] pos) (fMeth tab m fo fs) := pe_imp (pe_methD G hr cw he ha hfl hst hpl ht) po_unfr
theorem me_meth0 {pl : Sem Bool} (G : MethT X.prog X.w X.K X.mg X.base tab m 0 k) (hr : Room k X.A) (cw : Cw X W) (he : MR X hx W o fo)
    (ht : eval (.Call (.Attribute o m apos) [] [] pos) X.env = (do
      let ov ← eval o X.env
      standAt apos.atName
      let (f, first) ← holding [ov] (getMethod ov m pl)
      callWith pos f first (backTo pos (starEach [] X.env)) (backToKw pos (keywordEach [] X.env))) := by rfl) : ME X hx W (.Call (.Attribute o m apos) [] [] pos) (sMeth tab m fo aNil) := pe_imp (pe_methD0 G hr cw he ht) po_thaw
theorem mf_meth0 {pl : Sem Bool} (G : MethT X.prog X.w X.K X.mg X.base tab m 0 k) (hr : Room k X.A) (cw : Cw X W) (he : MR X hx W o fo)
    (ht : eval (.Call (.Attribute o m apos) [] [] pos) X.env = (do
      let ov ← eval o X.env
      standAt apos.atName
      let (f, first) ← holding [ov] (getMethod ov m pl)
      callWith pos f first (backTo pos (starEach [] X.env)) (backToKw pos (keywordEach [] X.env))) := by rfl) : MF X hx W (.Call (.Attribute o m apos) [] [] pos) (fMeth tab m fo aNil) := pe_imp (pe_methD0 G hr cw he ht) po_unfr
end
end PF

set_option Elab.async false
set_option linter.all false
set_option maxRecDepth 100000
set_option maxHeartbeats 4000000
/-! An __init__ read as a function on the attributes; the making of an instance. -/
namespace PF
open PySem PySem.Spec L2 PyProof.Rows

abbrev Fl := List (Str × D)
inductive RpF (K : Frg) (mg : Mg) (S : Hp) : List (Str × V) → Fl → Prop
  | nil : RpF K mg S [] []
  | cons {f : Str} {v : V} {d : D} {fv : List (Str × V)} {fl : Fl} : Rp K mg S v d → RpF K mg S fv fl → RpF K mg S ((f, v) :: fv) ((f, d) :: fl)
@[simp] def putD (f : Str) (d : D) : Fl → Fl
  | [] => [(f, d)]
  | (g, x) :: r => if g = f then (g, d) :: r else (g, x) :: putD f d r
section
variable {K : Frg} {mg : Mg} {S S' : Hp}
theorem RpF.up (e : Same S S') : ∀ {fv : List (Str × V)} {fl : Fl}, RpF K mg S fv fl → RpF K mg S' fv fl
  | _, _, .nil => .nil
  | _, _, .cons r t => .cons (r.up e _ _) (t.up e)
theorem RpF.len : ∀ {fv : List (Str × V)} {fl : Fl}, RpF K mg S fv fl → fv.length = fl.length
  | _, _, .nil => rfl
  | _, _, .cons _ t => by simp [t.len]
theorem RpF.put {f : Str} {v : V} {d : D} (r : Rp K mg S v d) : ∀ {fv : List (Str × V)} {fl : Fl}, RpF K mg S fv fl → RpF K mg S (putF f v fv) (putD f d fl)
  | _, _, .nil => .cons r .nil
  | _, _, .cons (f := g) (v := x) (fv := fv) q t => by
    unfold putD
    rw [show putF f v ((g, x) :: fv) = (if g = f then (g, v) :: fv else (g, x) :: putF f v fv) from rfl]
    by_cases h : g = f
    · rw [if_pos h, if_pos h]; exact .cons r t
    · rw [if_neg h, if_neg h]; exact .cons q (t.put r)
theorem RpF.obj : ∀ {fv : List (Str × V)} {fl : Fl}, RpF K mg S fv fl → ∃ xs, fv = (fl.map (·.1)).zip xs ∧ (fl.map (·.1)).length = xs.length ∧ RpA K mg S xs (fl.map (·.2))
  | _, _, .nil => ⟨[], rfl, rfl, .nil⟩
  | _, _, .cons (f := f) (v := v) r t => by
    obtain ⟨xs, h1, h2, h3⟩ := t.obj
    exact ⟨v :: xs, by rw [h1]; rfl, by simpa using h2, .cons r h3⟩
end
/-- the object at x may change; nothing else -/
structure Gx (x : Addr) (S H S' H' : Hp) : Prop where
  s : Same S S'
  h : ∀ a o, a ≠ x → H a = some o → H' a = some o
  i : Same S' H'
  n : ∀ a, H a ≠ none → S a = none → S' a = none
  k : H x ≠ none → H' x ≠ none
theorem Gx.gr {x : Addr} {S H S1 H1 S2 H2 : Hp} (a : Gr S H S1 H1) (b : Gx x S1 H1 S2 H2) : Gx x S H S2 H2 where
  s := a.s.trans b.s
  h := fun y o q e => b.h y o q (a.h y o e)
  i := b.i
  n := fun y h e => b.n y (fun q => by
    cases r : H y with
    | none => exact h r
    | some o => rw [a.h y o r] at q; cases q) (a.n y h e)
  k := fun h => b.k fun q => by
    cases r : H x with
    | none => exact h r
    | some o => rw [a.h x o r] at q; cases q
def InC (mg : Mg) (cs : List Str) (C : Addr) : Prop := ∃ c ∈ cs, mg c = some (.ref C)
/-- the promise of an __init__: the attributes at the end are g of those at its start and of the arguments' data -/
def spI (K : Frg) (mg : Mg) (cs : List Str) (n : Nat) (g : Addr → Fl → List D → Res Fl) : Sp := fun vs H Q E => ∃ ds S x C dx us fv fl, vs = .ref x :: us ∧ us.length = n ∧ H x = some (.ins C dx fv) ∧ S x = none ∧ InC mg cs C ∧ Same S H ∧ RpF K mg S fv fl ∧ RpA K mg S us ds ∧
  match g x fl ds with
  | .ok fl' => ∀ S' H' fv', Gx x S H S' H' → H' x = some (.ins C dx fv') → RpF K mg S' fv' fl' → Q .non H'
  | .exc y ys => ∀ S' H' C' dx', Gx x S H S' H' → mg y = some (.ref C') → Xd K mg S' H' dx' ys → E (.ref C') dx' H'
  | .bad => False
theorem spI_len {K : Frg} {mg : Mg} {cs : List Str} {n : Nat} {g : Addr → Fl → List D → Res Fl} {vs H Q E} (h : spI K mg cs n g vs H Q E) : vs.length = n + 1 := by
  obtain ⟨ds, S, x, C, dx, us, fv, fl, rfl, h1, _⟩ := h
  simp [h1]
inductive OutI where
  | nx (fl : Fl) (ρ : Sl) | exc (x : Str) (fs : List (Str × D)) (ρ : Sl) | bad
structure Io (K : Frg) (mg : Mg) (cs : List Str) (b : Bs) (S : Hp) (x C dx : Addr) (fv : List (Str × V)) (fl : Fl) : Prop where
  at_ : b.H0 x = some (.ins C dx fv)
  s : S x = none
  cls : InC mg cs C
  rp : RpF K mg S fv fl
structure Gb (x : Addr) (b b' : Bs) : Prop where
  s : b'.S0 = b.S0
  h : ∀ a, a ≠ x → b'.H0 a = b.H0 a
  k : b'.H0 x ≠ none
theorem Gb.trans {x : Addr} {b b1 b2 : Bs} (h1 : Gb x b b1) (h2 : Gb x b1 b2) : Gb x b b2 := ⟨h2.s.trans h1.s, fun a q => (h2.h a q).trans (h1.h a q), h2.k⟩
def PoI (K : Frg) (mg : Mg) (cs : List Str) (W : WX) (b : Bs) (S : Hp) (x C dx : Addr) (o : OutI) (D : Ends) : Prop := match o with
  | .nx fl ρ => ∀ b' S' σ H fv, Same S S' → Gb x b b' → Rel K mg none b' S' ρ σ H → Io K mg cs b' S' x C dx fv fl → D.nx σ H
  | .exc y ys ρ => ∀ b' S' σ H C' dx', Same S S' → Gb x b b' → Rel K mg none b' S' ρ σ H → mg y = some (.ref C') → Xd K mg S' H dx' ys → W (.ref C') dx' σ H
  | .bad => False
abbrev GI := Addr → Fl → Sl → OutI
def tI (K : Frg) (mg : Mg) (cs : List Str) (W : WX) (x : Addr) (g : GI) : TS := fun D σ H => ∃ b S ρ C dx fv fl, Rel K mg none b S ρ σ H ∧ Io K mg cs b S x C dx fv fl ∧ PoI K mg cs W b S x C dx (g x fl ρ) D
abbrev NI (X : Cx) (cs : List Str) (W : WX) (st : Stmt) (g : GI) : Prop := ∀ x, PS X st (tI X.K X.mg cs W x g)
abbrev NIs (X : Cx) (cs : List Str) (W : WX) (st : List Stmt) (g : GI) : Prop := ∀ x, PSs X st (tI X.K X.mg cs W x g)
theorem PoI.up {K : Frg} {mg : Mg} {cs : List Str} {W : WX} {b b1 : Bs} {S S1 : Hp} {x C dx : Addr} {o : OutI} {D : Ends} (e : Same S S1) (e2 : Gb x b b1) (h : PoI K mg cs W b S x C dx o D) : PoI K mg cs W b1 S1 x C dx o D := by
  cases o with
  | nx fl ρ => exact fun b' S' σ H fv q1 q2 => h b' S' σ H fv (e.trans q1) (e2.trans q2)
  | exc y ys ρ => exact fun b' S' σ H C' dx' q1 q2 => h b' S' σ H C' dx' (e.trans q1) (e2.trans q2)
  | bad => exact h
theorem Io.gb {K : Frg} {mg : Mg} {cs : List Str} {b : Bs} {S : Hp} {x C dx : Addr} {fv : List (Str × V)} {fl : Fl} (h : Io K mg cs b S x C dx fv fl) : Gb x b b := ⟨rfl, fun _ _ => rfl, by rw [h.at_]; simp⟩
theorem Io.grow {K : Frg} {mg : Mg} {cs : List Str} {b : Bs} {S S' H : Hp} {x C dx : Addr} {fv : List (Str × V)} {fl : Fl} (h : Io K mg cs b S x C dx fv fl) (e : Same S S') (B : Bok b S' H) (s0 : Same b.S0 S) : Io K mg cs b S' x C dx fv fl :=
  ⟨h.at_, B.nw x (by rw [h.at_]; simp) (by
    cases r : b.S0 x with
    | none => rfl
    | some o => rw [← h.s, s0 x o r]), h.cls, h.rp.up e⟩
/-- an expression's result, then k -/
def rI {α : Type} (r : Res α) (ρ : Sl) (k : α → OutI) : OutI := match r with
  | .ok a => k a
  | .exc x fs => .exc x fs ρ
  | .bad => .bad
@[simp] theorem rI_ok {α : Type} (a : α) (ρ : Sl) (k : α → OutI) : rI (.ok a) ρ k = k a := rfl
@[simp] theorem rI_exc {α : Type} (x : Str) (fs) (ρ : Sl) (k : α → OutI) : rI (.exc x fs) ρ k = .exc x fs ρ := rfl
@[simp] theorem rI_bad {α : Type} (ρ : Sl) (k : α → OutI) : rI .bad ρ k = .bad := rfl
/-- a statement that leaves the object alone -/
@[simp] def jPl (f : Sl → Out) (_ : Addr) (fl : Fl) (ρ : Sl) : OutI := match f ρ with
  | .nx ρ' => .nx fl ρ'
  | .exc x fs ρ' => .exc x fs ρ'
  | _ => .bad
@[simp] def jSeq (g h : GI) (x : Addr) (fl : Fl) (ρ : Sl) : OutI := match g x fl ρ with
  | .nx fl' ρ' => h x fl' ρ'
  | o => o
@[simp] def jNil (_ : Addr) (fl : Fl) (ρ : Sl) : OutI := .nx fl ρ
/-- self.f = e -/
@[simp] def jFld (f : Str) (fe : Sl → Res D) (x : Addr) (fl : Fl) (ρ : Sl) : OutI := rI (fe ρ) ρ fun d => match (ρ[0]? : Option Cell) with
  | some (Cell.v (D.raw y)) => if y = x ∧ fl.length < 1000 then .nx (putD f d fl) ρ else .bad
  | _ => .bad
/-- what the object at x says changes -/
theorem Rel.setObj {K : Frg} {mg : Mg} {b : Bs} {S : Hp} {ρ : Sl} {σ : L2.St} {H : Hp} {x : Addr} {o : HO} (R : Rel K mg none b S ρ σ H) (hx : b.H0 x ≠ none) (hs : S x = none) : Rel K mg none ⟨upd b.H0 x o, b.S0⟩ S ρ σ (upd H x o) where
  s0 := R.s0
  sh := fun a u e => by
    rw [upd_ne (fun z => by rw [z, hs] at e; cases e)]
    exact R.sh a u e
  h0 := fun a u e => by
    by_cases z : a = x
    · subst z
      have e : upd b.H0 a o a = some u := e
      rw [upd_same] at e ⊢
      exact e
    · have e : upd b.H0 x o a = some u := e
      rw [upd_ne z] at e ⊢
      exact R.h0 a u e
  nw := fun a e q => R.nw a (by
    by_cases z : a = x
    · rw [z]; exact hx
    · have e : upd b.H0 x o a ≠ none := e
      rw [upd_ne z] at e
      exact e) q
  len := R.len
  val := R.val
  own := fun i ds e => by
    obtain ⟨p, vs, h1, h2, h3, h4, h5⟩ := R.own i ds e
    have z : p ≠ x := fun z => hx (by rw [← z]; exact h4)
    exact ⟨p, vs, h1, by rw [upd_ne z]; exact h2, h3, by show upd b.H0 x o p = none; rw [upd_ne z]; exact h4, h5⟩
  xc := fun i c fs e => by
    obtain ⟨a, C, dx, h1, _⟩ := R.xc i c fs e
    cases h1
  apart := R.apart
section
variable {X : Cx} {cs : List Str} {W : WX} {st : Stmt} {rest : List Stmt} {g h : GI} {f : Str} {e : Expr} {pos pos' : Pos}
theorem ni_pl {fo : Sl → Out} (hs : MS X none W st fo) : NI X cs W st (jPl fo) := fun x => ps_imp hs fun D σ H ⟨b, S, ρ, C, dx, fv, fl, R, io, q⟩ => by
  refine ⟨b, S, ρ, R, ?_⟩
  unfold jPl at q
  cases ef : fo ρ with
  | nx ρ' => rw [ef] at q; exact fun S' σ' H' s1 R' => q b S' σ' H' fv s1 io.gb R' (io.grow s1 R'.bok R.s0)
  | exc y ys ρ' => rw [ef] at q; exact fun S' σ' H' C' dx' s1 R' m xd => q b S' σ' H' C' dx' s1 io.gb R' m xd
  | ret d => rw [ef] at q; exact q.elim
  | bk ρ' => rw [ef] at q; exact q.elim
  | ct ρ' => rw [ef] at q; exact q.elim
  | bad => rw [ef] at q; exact q.elim
theorem ni_nil : NIs X cs W [] jNil := fun x => pss_imp pss_nil fun D σ H ⟨b, S, ρ, C, dx, fv, fl, R, io, q⟩ => q b S σ H fv (Same.refl _) io.gb R io
theorem ni_cons (h1 : NI X cs W st g) (h2 : NIs X cs W rest h) : NIs X cs W (st :: rest) (jSeq g h) := fun x => pss_imp (pss_cons (h1 x) (h2 x)) fun D σ H ⟨b, S, ρ, C, dx, fv, fl, R, io, q⟩ => by
  refine ⟨b, S, ρ, C, dx, fv, fl, R, io, ?_⟩
  unfold jSeq at q
  cases ef : g x fl ρ with
  | nx fl' ρ' => rw [ef] at q; exact fun b' S' σ' H' fv' s1 g1 R' io' => ⟨b', S', ρ', C, dx, fv', fl', R', io', PoI.up s1 g1 q⟩
  | exc y ys ρ' => rw [ef] at q; exact q
  | bad => rw [ef] at q; exact q.elim
theorem rI_po {α β : Type} {K : Frg} {mg : Mg} {RX : RR α β} {W : WX} {cs : List Str} {b : Bs} {S H : Hp} {ρ : Sl} {σ : L2.St} {x C dx : Addr} {fv : List (Str × V)} {fl : Fl} {r : Res β} {k : β → OutI} {D : Ends} {Q : α → Hp → Prop} (R : Rel K mg none b S ρ σ H) (io : Io K mg cs b S x C dx fv fl) (h : PoI K mg cs W b S x C dx (rI r ρ k) D)
    (n : ∀ d v S' H', Gr S H S' H' → RX H S' H' v d → PoI K mg cs W b S x C dx (k d) D → Q v H') : Po K mg RX W S σ H r Q := by
  cases r with
  | ok d => exact fun v S' H' g q => n d v S' H' g q h
  | exc y ys => exact fun S' H' C' dx' g q1 q2 => h b S' σ H' C' dx' g.s io.gb (R.grow g) q1 q2
  | bad => exact h
theorem ni_fld {me : Str} {p : Pos} {fe : Sl → Res D} (ht : FldT X.K X.mg cs f) (hv : PE X (.Name me p) (tVar 0)) (he : ME X none W e fe) (hs : swapsWith e (some (.Attribute (.Name me p) f pos')) pos.line X.env = pure false := by rfl) : NI X cs W (.Assign [.Attribute (.Name me p) f pos'] e pos) (jFld f fe) :=
  fun x => ps_imp (ps_fld hv he hs) fun D σ H ⟨b, S, ρ, C, dx, fv, fl, R, io, q⟩ => ⟨b, S, ρ, R, rI_po R io q fun d v S1 H1 g1 r1 k => by
    split at k
    · rename_i y ey
      split at k
      · rename_i hh
        obtain ⟨rfl, hl⟩ := hh
        obtain ⟨v0, h1, h2⟩ := R.val 0 _ ey
        cases h2
        obtain ⟨c, hc, hm⟩ := io.cls
        obtain ⟨c1, c2⟩ := ht c hc C hm
        have R1 := R.grow g1
        have io1 := io.grow g1.s R1.bok R.s0
        refine ⟨_, h1, y, C, dx, fv, rfl, R1.h0 _ _ io.at_, c1, c2, by rw [io.rp.len]; exact hl, ?_⟩
        exact k ⟨upd b.H0 y (.ins C dx (putF f v fv)), b.S0⟩ S1 σ _ (putF f v fv) g1.s ⟨rfl, fun a q => upd_ne q, by show upd b.H0 y _ y ≠ none; rw [upd_same]; simp⟩ (R1.setObj (by rw [io.at_]; simp) io1.s) ⟨upd_same, io1.s, io1.cls, io1.rp.put r1⟩
      · exact k.elim
    · exact k.elim⟩
end
/-! ### the rule of an __init__ -/
/-- what a body makes of the attributes and its arguments: n slots -/
@[simp] def semI (n : Nat) (g : GI) (x : Addr) (fl : Fl) (ds : List D) : Res Fl := match g x fl (.v (.raw x) :: ds.map Cell.v ++ List.replicate (n - (ds.length + 1)) .e) with
  | .nx fl' _ => .ok fl'
  | .exc y ys _ => .exc y ys
  | .bad => .bad
theorem gx_of {x : Addr} {b b' : Bs} {S H S' H' : Hp} {K : Frg} {mg : Mg} {ρ : Sl} {σ : L2.St} (e1 : b.S0 = S) (e2 : b.H0 = H) (g : Gb x b b') (R : Rel K mg none b' S' ρ σ H') : Gx x S H S' H' where
  s := by rw [← e1, ← g.s]; exact R.s0
  h := fun a o q e => R.h0 a o (by rw [g.h a q, e2]; exact e)
  i := R.sh
  n := fun a h e => by
    refine R.nw a ?_ (by rw [g.s, e1]; exact e)
    by_cases z : a = x
    · rw [z]; exact g.k
    · rw [g.h a z, e2]; exact h
  k := fun _ q => by
    cases r : b'.H0 x with
    | none => exact g.k r
    | some o => rw [R.h0 x o r] at q; cases q
/-- the promise, from the body's outcome -/
theorem spI_ends {K : Frg} {mg : Mg} {cs : List Str} {n : Nat} {g : GI} {x C dx : Addr} {fl : Fl} {ds : List D} {S H : Hp} {Q : VK} {E : XK} (hx : H x = some (.ins C dx fv)) (q : match semI n g x fl ds with
  | .ok fl' => ∀ S' H' fv', Gx x S H S' H' → H' x = some (.ins C dx fv') → RpF K mg S' fv' fl' → Q .non H'
  | .exc y ys => ∀ S' H' C' dx', Gx x S H S' H' → mg y = some (.ref C') → Xd K mg S' H' dx' ys → E (.ref C') dx' H'
  | .bad => False) : PoI K mg cs (WE0 E) ⟨H, S⟩ S x C dx (g x fl (.v (.raw x) :: ds.map Cell.v ++ List.replicate (n - (ds.length + 1)) .e)) { nx := fun _ H' => Q .non H', rt := Q } := by
  unfold semI at q
  cases e : g x fl (.v (.raw x) :: ds.map Cell.v ++ List.replicate (n - (ds.length + 1)) .e) with
  | nx fl' ρ => rw [e] at q; exact fun b' S' σ H' fv' s1 gb R io => q S' H' fv' (gx_of rfl rfl gb R) (R.h0 _ _ io.at_) io.rp
  | exc y ys ρ => rw [e] at q; exact fun b' S' σ H' C' dx' s1 gb R m xd => q S' H' C' dx' (gx_of rfl rfl gb R) m xd
  | bad => rw [e] at q; exact q.elim
section
variable {P : Program} {w : World} {K : Frg} {mg : Mg} {base : Heap}
theorem in_ok {x qual : Str} {st : Stmt} {f : Addr} {fd : FuncData} {N ps : List Str} {k n : Nat} {cs : List Str} {g : GI} (F : Fun K x qual st f fd) (Sc : FnScope N ps (defScope st)) (hn : ps.length = n + 1)
    (hb : ∀ (cdv : Value) (A : Around) (outer : List Env) (s : Shared) (H : Hp) (E : XK), Room k (cxOf (L2.CX P w) P w K mg base N qual (defScope st) f cdv A outer s H E).A → Cs (cxOf (L2.CX P w) P w K mg base N qual (defScope st) f cdv A outer s H E) (WE0 E) →
      NIs (cxOf (L2.CX P w) P w K mg base N qual (defScope st) f cdv A outer s H E) cs (WE0 E) (defBody st) g) : FnOk P w K mg base (L2.CX P w) (k + 1) f fd ps (spI K mg cs n (semI N.length g)) :=
  F.okX Sc (fun vs H Q E h => by rw [hn]; exact spI_len h) fun cdv A outer s H vs Q E hr h => by
    obtain ⟨ds, S, x, C, dx, us, fv, fl, rfl, h1, h2, h3, h4, h5, h6, h7, h8⟩ := h
    refine ⟨_, hb cdv A outer s H E hr ⟨takes_of rfl rfl rfl rfl, passes_of rfl, rfl⟩ x, ⟨H, S⟩, S, .v (.raw x) :: ds.map Cell.v ++ List.replicate (N.length - (ds.length + 1)) Cell.e, C, dx, fv, fl, Rel.start (N := N) (ds := .raw x :: ds) h5 (.cons (.raw x) h7), ⟨h2, h3, h4, h6⟩, spI_ends h2 h8⟩
end
end PF

set_option Elab.async false
set_option linter.all false
set_option maxRecDepth 100000
set_option maxHeartbeats 4000000
/-! super().__init__ in the reading of an __init__; the making of an instance; isinstance of own classes; the head's facts of defs that close over __class__. -/
namespace PF
open PySem PySem.Spec L2 PyProof.Rows

/-! ### super().__init__(..) -/
theorem Rel.gx {K : Frg} {mg : Mg} {b : Bs} {S H S' H' : Hp} {ρ : Sl} {σ : L2.St} {x : Addr} {o : HO} (R : Rel K mg none b S ρ σ H) (g : Gx x S H S' H') (hx : b.H0 x ≠ none) (ho : H' x = some o) : Rel K mg none ⟨upd b.H0 x o, b.S0⟩ S' ρ σ H' where
  s0 := R.s0.trans g.s
  sh := g.i
  h0 := fun a u e => by
    by_cases z : a = x
    · subst z
      have e : upd b.H0 a o a = some u := e
      rw [upd_same] at e
      rw [ho]; exact e
    · have e : upd b.H0 x o a = some u := e
      rw [upd_ne z] at e
      exact g.h a u z (R.h0 a u e)
  nw := fun a e q => by
    have e2 : b.H0 a ≠ none := by
      by_cases z : a = x
      · rw [z]; exact hx
      · have e : upd b.H0 x o a ≠ none := e
        rw [upd_ne z] at e
        exact e
    refine g.n a (fun r => ?_) (R.nw a e2 q)
    cases w : b.H0 a with
    | none => exact e2 w
    | some u => rw [R.h0 a u w] at r; cases r
  len := R.len
  val := fun i d e => let ⟨v, h1, h2⟩ := R.val i d e; ⟨v, h1, h2.up g.s d v⟩
  own := fun i ds e => by
    obtain ⟨p, vs, h1, h2, h3, h4, h5⟩ := R.own i ds e
    have z : p ≠ x := fun z => hx (by rw [← z]; exact h4)
    exact ⟨p, vs, h1, g.h _ _ z h2, g.n p (by rw [h2]; simp) h3, by show upd b.H0 x o p = none; rw [upd_ne z]; exact h4, h5.up g.s ds vs⟩
  xc := fun i c fs e => by
    obtain ⟨a, C, dx, h1, _⟩ := R.xc i c fs e
    cases h1
  apart := R.apart
@[simp] def jSup (gs : Addr → Fl → List D → Res Fl) (fs : Sl → Res (List D)) (x : Addr) (fl : Fl) (ρ : Sl) : OutI := match (ρ[0]? : Option Cell) with
  | some (Cell.v (D.raw y)) => if y = x then rI (fs ρ) ρ fun ds => rI (gs x fl ds) ρ fun fl' => .nx fl' ρ else .bad
  | _ => .bad
/-- a statement at the level of one code -/
def NIa (X : Cx) (cs : List Str) (W : WX) (body : List Stmt) (st : Stmt) (g : GI) : Prop := ∀ x (pins : List (Addr × Obj)) (s : Shared) (σ : L2.St) (H : Hp) (D : Ends), Inv X pins σ H s → tI X.K X.mg cs W x g D σ H →
  _root_.PySem.wpAt (model X.prog X.w) X.A (.func body X.env) (exec st X.env) (SP X pins D) X.xe s
/-- what every class among cs must be for the def of the class at D -/
def SupT (K : Frg) (mg : Mg) (cs : List Str) (D g : Addr) : Prop := ∀ c ∈ cs, ∀ C, mg c = some (.ref C) → SupC K C D g
theorem ni_sup {X : Cx} {cs cs' : List Str} {W : WX} {body : List Stmt} {f cda cc D g : Addr} {me : Str} {k n : Nat} {fd : FuncData} {ps : List Str} {gs : Addr → Fl → List PF.D → Res Fl} {e : Expr} {es : List Expr} {fs : Sl → Res (List PF.D)} {p0 p1 apos pos spos : Pos}
    (Su : SupF X f cda cc D me) (Sc : SupT X.K X.mg cs D g) (F : FnOk X.prog X.w X.K X.mg X.base (L2.CX X.prog X.w) k g fd ps (spI X.K X.mg cs' n gs)) (hbi : Binds X.K fd ps []) (hr : Room k X.A) (cw : Cw X W) (ha : MA X none W (e :: es) fs) (hfl : ∀ ρ ds, fs ρ = .ok ds → ds.length = n) (hcs : ∀ c ∈ cs, c ∈ cs')
    (hN : X.N[0]? = some me) (hV : Vis X.env.scope me)
    (he : starEach (e :: es) X.env = (false, eval e X.env) :: starEach es X.env := by rfl) (hpl : (backTo pos (starEach es X.env)).any (·.1) = false := by rfl)
    (hs : swapsWith (.Call (.Attribute (.Call (.Name "super" p0) [] [] p1) "__init__" apos) (e :: es) [] pos) none spos.line X.env = pure false := by rfl)
    (hev : eval (.Call (.Attribute (.Call (.Name "super" p0) [] [] p1) "__init__" apos) (e :: es) [] pos) X.env = (do
      let ov ← attributeBase (.Call (.Name "super" p0) [] [] p1) "__init__" X.env (eval (.Call (.Name "super" p0) [] [] p1) X.env)
      standAt apos.atName
      let (f, first) ← holding [ov] (getMethod ov "__init__" (pure false))
      callWith pos f first (backTo pos (starEach (e :: es) X.env)) []) := by rfl) :
    NIa X cs W body (.Expr (.Call (.Attribute (.Call (.Name "super" p0) [] [] p1) "__init__" apos) (e :: es) [] pos) spos) (jSup gs fs) := fun x pins s σ H Dn I ⟨b, S, ρ, C, dx, fv, fl, R, io, q⟩ => by
  unfold jSup at q
  split at q
  · rename_i y ey
    split at q
    · rename_i hy
      subst hy
      obtain ⟨v0, h1, h2⟩ := R.val 0 _ ey
      cases h2
      obtain ⟨c, hc, hm⟩ := io.cls
      have hx0 : b.H0 y ≠ none := by rw [io.at_]; simp
      refine sup_stmt (E := WE W) Su (Sc c hc C hm) F hbi hr cw ha I hN h1 hV (R.h0 _ _ io.at_) ⟨b, S, ρ, R, ?_⟩ he hpl hs hev
      cases ef : fs ρ with
      | exc z zs => rw [ef] at q; exact fun S' H' C' dx' g q1 q2 => q b S' σ H' C' dx' g.s io.gb (R.grow g) q1 q2
      | bad => rw [ef] at q; exact q.elim
      | ok ds =>
        rw [ef] at q
        intro vs S1 H1 g1 r1
        have R1 := R.grow g1
        have io1 := io.grow g1.s R1.bok R.s0
        refine ⟨ds, S1, y, C, dx, vs, fv, fl, rfl, r1.len.trans (hfl ρ ds ef), R1.h0 _ _ io.at_, io1.s, ⟨c, hcs c hc, hm⟩, g1.i, io1.rp, r1, ?_⟩
        have q : PoI X.K X.mg cs W b S y C dx (rI (gs y fl ds) ρ fun fl' => .nx fl' ρ) Dn := q
        cases eg : gs y fl ds with
        | ok fl' =>
          rw [eg] at q
          intro S' H' fv' gx hx' rp
          exact q ⟨upd b.H0 y (.ins C dx fv'), b.S0⟩ S' σ H' fv' (g1.s.trans gx.s) ⟨rfl, fun a z => upd_ne z, by show upd b.H0 y _ y ≠ none; rw [upd_same]; simp⟩ (R1.gx gx hx0 hx') ⟨upd_same, gx.n y (by rw [R1.h0 _ _ io.at_]; simp) io1.s, io.cls, rp⟩
        | exc z zs =>
          rw [eg] at q
          intro S' H' C' dx' gx m xd
          cases ho : H' y with
          | none => exact absurd ho (gx.k (by rw [R1.h0 _ _ io.at_]; simp))
          | some o => exact q ⟨upd b.H0 y o, b.S0⟩ S' σ H' C' dx' (g1.s.trans gx.s) ⟨rfl, fun a z => upd_ne z, by show upd b.H0 y _ y ≠ none; rw [upd_same]; simp⟩ (R1.gx gx hx0 ho) m xd
        | bad => rw [eg] at q; exact q.elim
    · exact q.elim
  · exact q.elim
/-! ### the making of an instance -/
/-- what g says at every address -/
noncomputable def aAny {α : Type} (g : Addr → Res α) : Res α := @dite _ (∃ r, ∀ x, g x = r) (Classical.propDecidable _) (fun h => h.choose) (fun _ => .bad)
theorem aAny_eq {α : Type} {g : Addr → Res α} {r : Res α} (h : ∀ x, g x = r) : aAny g = r := by
  have e : ∃ r, ∀ x, g x = r := ⟨r, h⟩
  unfold aAny
  rw [dif_pos e]
  exact (e.choose_spec 0).symm.trans (h 0)
theorem aAny_cases {α : Type} (g : Addr → Res α) : (∀ x, g x = aAny g) ∨ aAny g = .bad := by
  by_cases e : ∃ r, ∀ x, g x = r
  · left
    intro x
    rw [aAny_eq (r := e.choose) e.choose_spec]
    exact e.choose_spec x
  · right
    unfold aAny
    rw [dif_neg e]
@[simp] noncomputable def sMake (c : Str) (g : Addr → Fl → List D → Res Fl) (fs : Sl → Res (List D)) (ρ : Sl) : Res D := (fs ρ).bind fun ds => (aAny fun x => g x [] ds).bind fun fl => .ok (.obj c (fl.map (·.1)) (fl.map (·.2)))
structure MkT (P : Program) (w : World) (K : Frg) (mg : Mg) (base : Heap) (c : Str) (n k : Nat) (g : Addr → Fl → List D → Res Fl) (C f : Addr) (fd : FuncData) (ps cs : List Str) : Prop where
  gl : mg c = some (.ref C)
  mkk : Mk K C f
  ok : FnOk P w K mg base (L2.CX P w) k f fd ps (spI K mg cs n g)
  bi : Binds K fd ps []
  cs : c ∈ cs
section
variable {X : Cx} {hx : Hx} {W : WX} {e : Expr} {es : List Expr} {pos p : Pos} {fs : Sl → Res (List D)} {c : Str} {n k : Nat} {g : Addr → Fl → List D → Res Fl} {C f : Addr} {fd : FuncData} {ps cs : List Str}
theorem run_makeS {CX : CXT} {sp : Sp} {E : L2.St → XK} {pins : List (Addr × Obj)} {σ : L2.St} {H : Hp} {s : Shared} {Q : VK} {us : List Value} {vs : List V} (M : Mk X.K C f) (F : FnOk X.prog X.w X.K X.mg X.base CX k f fd ps sp) (hr : Room (k + 1) X.A) (hb : Binds X.K fd ps []) (hx : PassesAt CX X σ (E σ)) (I : Inv X pins σ H s) (r : Vals vs us)
    (h : ∀ x dx, H x = Option.none → H dx = Option.none → dx ≠ x → sp (V.ref x :: vs) (upd (upd H dx (.own x)) x (.ins C dx [])) (fun v H2 => v = .non ∧ Q (.ref x) H2) (E σ)) :
    wpAny (model X.prog X.w) X.A (call (.ref C) us) (EP X pins σ Q) X.xe s := by
  have hq := h (s.heap.objs.size + 1) s.heap.objs.size (I.hok.fresh (Nat.le_succ _)) (I.hok.fresh (Nat.le_refl _)) (Nat.ne_of_lt (Nat.lt_succ_self _))
  have I2 := Inv.made (C := C) I
  have r2 : Vals (V.ref (s.heap.objs.size + 1) :: vs) (Value.ref (s.heap.objs.size + 1) :: us) := .cons rfl r
  have hl : (Value.ref (s.heap.objs.size + 1) :: us).length = ps.length := by rw [← r2.length]; exact F.len _ _ _ _ hq
  have bb := hb { s with heap := (s.heap.push PySem.W.emptyDict).push (PySem.W.instObj C s.heap.objs.size) } (Value.ref (s.heap.objs.size + 1) :: us) I2.kIn (by rw [List.append_nil]; exact hl)
  rw [List.append_nil] at bb
  refine wpAny_call (make_map (f := f) I.kIn M.makes M.init (beq_iff_eq.mp M.fn) (codeAny_mono (F.run _ X.stack _ _ ⟨Value.ref (s.heap.objs.size + 1) :: us, []⟩ (Value.ref (s.heap.objs.size + 1) :: us) _ _ (E σ) (hr.make C us [])
    (I2.env0.make C us []) bb r2 hq) fun r s' hq' => ?_))
  cases r with
  | error e => exact hx pins _ _ e s' I2 hq'
  | ok fl =>
    cases fl with
    | ret u =>
      obtain ⟨v, H', I3, rv, ev, q3⟩ := I2.after hq'
      subst ev
      exact ⟨rv, ⟨V.ref (s.heap.objs.size + 1), H', I3, rfl, q3⟩⟩
    | next => exact False.elim hq'
    | brk => exact False.elim hq'
    | cont => exact False.elim hq'
theorem me_make (M : MkT X.prog X.w X.K X.mg X.base c n k g C f fd ps cs) (hr : Room (k + 1) X.A) (cw : Cw X W) (ha : MA X hx W (e :: es) fs) (hfl : ∀ ρ ds, fs ρ = .ok ds → ds.length = n) (hg : Gl X c := by rfl) (hdb : (c == ("__debug__" : Str)) = false := by decide)
    (he : starEach (e :: es) X.env = (false, eval e X.env) :: starEach es X.env := by rfl) (hpl : (backTo pos (starEach es X.env)).any (·.1) = false := by rfl) : ME X hx W (.Call (.Name c p) (e :: es) [] pos) (sMake c g fs) := by
  refine ⟨fun pins s σ H Q I ⟨b, S, ρ, R, q⟩ => ?_⟩
  refine wpAny_Call_Name_kw (ld_glob I hg M.gl ?_ hdb)
  refine PySem.W.callWith_K (h₀ := X.base) I.ok.mod.kin M.mkk.kp (thn (ha.run pos pins s σ H (fun vs H1 => ∀ x dx, H1 x = Option.none → H1 dx = Option.none → dx ≠ x → spI X.K X.mg cs n g (V.ref x :: vs) (upd (upd H1 dx (.own x)) x (.ins C dx [])) (fun v H2 => v = .non ∧ Q (.ref x) H2) (WE W σ)) I ⟨b, S, ρ, R, ?_⟩) fun us s1 ⟨vs, H1, I1, r, q⟩ => ⟨I1.kIn, ?_⟩) he hpl
  · unfold sMake at q
    cases ef : fs ρ with
    | exc z zs => rw [ef] at q; exact q
    | bad => rw [ef] at q; exact q.elim
    | ok ds =>
      rw [ef] at q
      intro vs S1 H1 g1 r1 x dx hx1 hd1 hne
      have hsx : S1 x = none := same_none g1.i hx1
      have hsd : S1 dx = none := same_none g1.i hd1
      have keep : ∀ a o, H1 a = some o → upd (upd H1 dx (.own x)) x (.ins C dx []) a = some o := fun a o e => by
        rw [upd_ne (fun z => by rw [z, hx1] at e; cases e), upd_ne (fun z => by rw [z, hd1] at e; cases e)]
        exact e
      have ih : Same S1 (upd (upd H1 dx (.own x)) x (.ins C dx [])) := fun a o e => keep a o (g1.i a o e)
      have gr : ∀ {S' H' : Hp}, Gx x S1 (upd (upd H1 dx (.own x)) x (.ins C dx [])) S' H' → Gr S1 H1 S' H' := fun gx => ⟨gx.s, fun a o e => gx.h a o (fun z => by rw [z, hx1] at e; cases e) (keep a o e), gx.i, fun a ha e => gx.n a (by
        cases w : H1 a with
        | none => exact absurd w ha
        | some o => rw [keep a o w]; simp) e⟩
      refine ⟨ds, S1, x, C, dx, vs, [], [], rfl, r1.len.trans (hfl ρ ds ef), upd_same, hsx, ⟨c, M.cs, M.gl⟩, ih, .nil, r1, ?_⟩
      have q : Po X.K X.mg (rrE X.K X.mg) W S σ H ((aAny fun x => g x [] ds).bind fun fl => .ok (.obj c (fl.map (·.1)) (fl.map (·.2)))) Q := q
      rcases aAny_cases (fun x => g x [] ds) with z | z
      · have z := z x
        rw [← z] at q
        cases eg : g x [] ds with
        | ok fl' =>
          rw [eg] at q
          intro S' H' fv' gx hx' rp
          have hs' : S' x = none := gx.n x (by rw [upd_same]; simp) hsx
          have up : Same S' (upd S' x (.ins C dx fv')) := same_new hs'
          have g2 := gr gx
          obtain ⟨xs, p1, p2, p3⟩ := (rp.up up).obj
          refine ⟨rfl, q _ (upd S' x (.ins C dx fv')) H' (g1.trans ⟨g2.s.trans up, g2.h, fun a o e => ?_, fun a ha e => ?_⟩) (.obj upd_same M.gl p1 p2 p3)⟩
          · by_cases w : a = x
            · subst w; rw [upd_same] at e; rw [hx']; exact e
            · rw [upd_ne w] at e; exact g2.i a o e
          · rw [upd_ne (fun w => ha (by rw [w]; exact hx1))]
            exact g2.n a ha e
        | exc y ys =>
          rw [eg] at q
          exact fun S' H' C' dx' gx m xd => q S' H' C' dx' (g1.trans (gr gx)) m xd
        | bad => rw [eg] at q; exact q.elim
      · rw [z] at q; exact q.elim
  · exact run_makeS (CX := L2.CX X.prog X.w) (sp := spI X.K X.mg cs n g) (E := WE W) M.mkk M.ok hr M.bi (cw σ) I1 r q
/-! ### isinstance(x, C), C an own class; x an object -/
@[simp] def bIsC (tab : List (Str × Bool)) (d : D) : Res D := match d with
  | .obj c _ _ => (match tab.lookup c with
    | some b => .ok (.bl b)
    | none => .bad)
  | _ => .bad
structure IsF (K : Frg) (A C : Addr) (b : Bool) : Prop where
  cl : Cls K A
  ha : PySem.W.findIn K (.ref A) "__class__" = some (some (.builtin "object.__class__"))
  hn : PySem.W.specialIn K (.builtin "object.__class__") "__get__" = some (some (.builtin "getset_descriptor.__get__"))
  ht : PySem.W.takesIn K (.builtin "object.__class__") = some true
  hm : PySem.W.mroIn K A (.type "object") = some true
  k : PySem.W.kitOne K (.ref A) (.ref C) = some b
def IsCT (K : Frg) (mg : Mg) (tab : List (Str × Bool)) (x : Str) : Prop := ∃ C, mg x = some (.ref C) ∧ ∀ c b, tab.lookup c = some b → ∀ A, mg c = some (.ref A) → IsF K A C b
theorem me_isC {a : Expr} {fa : Sl → Res D} {t : Str} {p1 : Pos} {tab : List (Str × Bool)} (ht : IsCT X.K X.mg tab t) (ha : MR X hx W a fa) (hm : X.mg "isinstance" = none) (hg : Gl X "isinstance" := by rfl) (hg2 : Gl X t := by rfl) (hdb : (t == ("__debug__" : Str)) = false := by decide)
    (hs : starEach [a, .Name t p1] X.env = (false, eval a X.env) :: starEach [.Name t p1] X.env := by rfl) (hs2 : starEach [.Name t p1] X.env = (false, eval (.Name t p1) X.env) :: starEach [] X.env := by rfl) (hpl : (backTo pos (starEach [.Name t p1] X.env)).any (·.1) = false := by rfl) :
    ME X hx W (.Call (.Name "isinstance" p) [a, .Name t p1] [] pos) (sUn (bIsC tab) fa) := by
  obtain ⟨C, h1, h2⟩ := ht
  exact pe_imp (pe_callB (x := "isinstance") call_isi hg hm PyProof.Rows.boot_isinstance (pa_cons ha (pa_cons (pe_glob (v := .ref C) hg2 h1 rfl hdb) pa_nil hs2) hs) (by decide) (by decide) hs hpl) fun σ H Q ⟨b, S, ρ, R, q⟩ => ⟨b, S, ρ, R, q.bind fun d v S1 H1 g1 r1 k => by
    cases d with
    | obj c ns ds =>
      have r : Rp X.K X.mg S1 v (.obj c ns ds) := r1
      have k : Po X.K X.mg (rrE X.K X.mg) W S σ H (match tab.lookup c with | some b => .ok (.bl b) | none => .bad) Q := k
      split at k
      · rename_i tb e2
        cases r with
        | @obj a A dx fs _ _ xs _ q1 q2 q3 q4 q5 =>
          obtain ⟨i1, i2, i3, i4, i5, i6⟩ := h2 c tb e2 A q2
          exact ⟨.ref a, .ref C, .ref A, .ref C, tb, rfl, .own C, .base (.ins (g1.i _ _ q1) i1 i2 i3 i4 i5), i6, k _ S1 H1 g1 (.bl tb)⟩
      · exact k.elim
    | _ => exact k.elim⟩
end
end PF

set_option Elab.async false
set_option linter.all false
set_option maxRecDepth 100000
set_option maxHeartbeats 4000000
/-! Defs that close over __class__: the head's facts, the rule of their __init__. -/
namespace PF
open PySem PySem.Spec L2 PyProof.Rows NdefX PySem.W
structure SDef : Type where
  at_ : Str × Option Str
  name : Str
  qual : Str
  params : Arguments
  body : List Stmt
  scope : PySem.Scope
  cl : Str
abbrev FnS : Type := Option (Str × Str × Arguments × FuncBody × PySem.Scope × Addr × List Str × Addr)
def fnS (K : Frg) (p : Str × Option Str) : FnS := match K.lookup (He.fAd K p) with
  | some ⟨_, _, .func fd, _⟩ => some (fd.name, fd.qualname, fd.params, fd.body, fd.scope, fd.globals, fd.closure.map (·.1), fd.builtins)
  | _ => none
def SDef.val (d : SDef) : FnS := some (d.name, d.qual, d.params, .stmts d.body, d.scope, mainGlobals, ["__class__"], builtinsNs)
def nonB : Value → Bool
  | .none => true
  | _ => false
theorem nonB_ok {v : Value} (h : nonB v = true) : v = .none := by cases v <;> first | rfl | cases h
def cellB (K : Frg) (l : List (Str × Addr)) (D : Addr) : Bool := match l with
  | [(_, cc)] => (match K.lookup cc with
    | some ⟨_, _, .cell (some (.ref E)), _⟩ => decide (E = D)
    | _ => false)
  | _ => false
theorem cellB_ok {K : Frg} {l : List (Str × Addr)} {D : Addr} {x : Str} (hx : l.map (·.1) = [x]) (h : cellB K l D = true) : ∃ cc, l = [(x, cc)] ∧ ∃ cl cld csl, K.lookup cc = some ⟨cl, cld, .cell (some (.ref D)), csl⟩ := by
  match l, hx with
  | [(y, cc)], hx =>
    cases hx
    refine ⟨cc, rfl, ?_⟩
    unfold cellB at h
    cases q : K.lookup cc with
    | none => simp only [q] at h; cases h
    | some o =>
      obtain ⟨oc, od, dt, osl⟩ := o
      simp only [q] at h
      cases dt with
      | cell v =>
        cases v with
        | none => cases h
        | some v =>
          cases v with
          | ref E => exact ⟨oc, od, osl, by rw [← (of_decide_eq_true h : E = D)]⟩
          | _ => cases h
      | _ => cases h
def fileB (K : Frg) (cd : Value) (file : Str) : Bool := match cd with
  | .ref c => (match K.lookup c with
    | some ⟨_, _, .fields vs, _⟩ => (match (vs[2]? : Option Value) with
      | some (Value.str fi _) => file == fi
      | _ => false)
    | _ => false)
  | _ => false
theorem fileB_ok {K : Frg} {cd : Value} {file : Str} (h : fileB K cd file = true) : ∃ cda, cd = .ref cda ∧ ∃ ccl cdd vs ccs fi tf, K.lookup cda = some ⟨ccl, cdd, .fields vs, ccs⟩ ∧ vs[2]? = some (.str fi tf) ∧ (file == fi) = true := by
  cases cd with
  | ref c =>
    refine ⟨c, rfl, ?_⟩
    unfold fileB at h
    cases q : K.lookup c with
    | none => simp only [q] at h; cases h
    | some o =>
      obtain ⟨oc, od, dt, osl⟩ := o
      simp only [q] at h
      cases dt with
      | fields vs =>
        simp only at h
        cases e : vs[2]? with
        | none => rw [e] at h; cases h
        | some v =>
          rw [e] at h
          cases v with
          | str fi t => exact ⟨oc, od, vs, osl, fi, t, rfl, e, h⟩
          | _ => cases h
      | _ => cases h
  | _ => cases h
def SDef.ok (K : Frg) (file : Str) (d : SDef) : Bool := PySem.W.keepIn K (.ref (He.fAd K d.at_)) && (match K.lookup (He.fAd K d.at_) with
  | some ⟨_, _, .func fd, _⟩ => PySem.W.codeIn K fd.code d.qual && (nonB fd.defaults && (cellB K fd.closure (He.ga K d.cl) && fileB K fd.code file))
  | _ => false)
structure FunS (K : Frg) (d : SDef) (D : Addr) (file : Str) (f : Addr) (fd : FuncData) : Prop where
  ex : ∃ (oc : Value) (od : Option Addr) (osl : Array (Option Value)) (kV doc pm : Value) (an : Option Addr) (cda : Addr) (ct : Value) (cc : Addr), fd = ksFn d.name d.qual d.params d.body d.scope .none kV doc pm an (.ref cda) ct cc ∧ K.lookup f = some ⟨oc, od, .func fd, osl⟩ ∧ codeIn K (.ref cda) d.qual = true ∧
    (∃ cl cld csl, K.lookup cc = some ⟨cl, cld, .cell (some (.ref D)), csl⟩) ∧ (∃ ccl cdd vs ccs fi tf, K.lookup cda = some ⟨ccl, cdd, .fields vs, ccs⟩ ∧ vs[2]? = some (.str fi tf) ∧ (file == fi) = true)
  kp : PySem.W.keepIn K (.ref f) = true
theorem SDef.funS {K : Frg} {file : Str} {d : SDef} (e : fnS K d.at_ = d.val) (c : d.ok K file = true) : ∃ fd, FunS K d (He.ga K d.cl) file (He.fAd K d.at_) fd := by
  obtain ⟨kp, c2⟩ := He.ba c
  unfold fnS at e
  cases q : K.lookup (He.fAd K d.at_) with
  | none => rw [q] at c2; cases c2
  | some o =>
    obtain ⟨oc, od, dt, osl⟩ := o
    rw [q] at c2 e
    cases dt with
    | func fd =>
      obtain ⟨n1, n2, n3, n4, n5, n6, n7, n8, n9, n10, n11, n12, n13, n14, n15⟩ := fd
      have e2 : (some (n1, n2, n3, n4, n5, n6, n7.map (·.1), n15) : FnS) = (some (d.name, d.qual, d.params, FuncBody.stmts d.body, d.scope, mainGlobals, [("__class__" : Str)], builtinsNs) : FnS) := e
      simp only [Option.some.injEq, Prod.mk.injEq] at e2
      obtain ⟨h1, h2, h3, h4, h5, h6, h7, h8⟩ := e2
      subst h1 h2 h3 h4 h5 h6 h8
      have c3 : (PySem.W.codeIn K n13 d.qual && (nonB n8 && (cellB K n7 (He.ga K d.cl) && fileB K n13 file))) = true := c2
      obtain ⟨k1, k2⟩ := He.ba c3
      obtain ⟨k3, k4⟩ := He.ba k2
      obtain ⟨k5, k6⟩ := He.ba k4
      obtain ⟨cc, rfl, j1⟩ := cellB_ok h7 k5
      obtain ⟨cda, rfl, j2⟩ := fileB_ok k6
      cases nonB_ok k3
      exact ⟨_, ⟨oc, od, osl, n9, n10, n11, n12, cda, n14, cc, rfl, q, k1, j1, j2⟩, kp⟩
    | _ => cases c2
theorem FunS.bindsN {K : Frg} {d : SDef} {D f : Addr} {file : Str} {fd : FuncData} {ps : List Str} (F : FunS K d D file f fd)
    (h : ∀ (kV doc pm : Value) (an : Option Addr) (cdv ct : Value) (cc : Addr) (us : List Value), us.length = ps.length → bindArgs (ksFn d.name d.qual d.params d.body d.scope .none kV doc pm an cdv ct cc) ⟨us, []⟩ = pure (ps.zip us)) : Binds K fd ps [] := by
  obtain ⟨oc, od, osl, kV, doc, pm, an, cda, ct, cc, rfl, _⟩ := F.ex
  exact .all (h kV doc pm an (.ref cda) ct cc)
/-! ### the rule -/
structure SupP (P : Program) (file : Str) : Prop where
  file : (P.main.file : Str) = file
  top : (P.main.scope.names.lookup ("super" : Str)).isSome = false
def NIas (X : Cx) (cs : List Str) (W : WX) (body : List Stmt) (sts : List Stmt) (g : GI) : Prop := ∀ x (pins : List (Addr × Obj)) (s : Shared) (σ : L2.St) (H : Hp) (D : Ends), Inv X pins σ H s → tI X.K X.mg cs W x g D σ H →
  _root_.PySem.wpAt (model X.prog X.w) X.A (.func body X.env) (execs sts X.env) (SP X pins D) X.xe s
theorem nias_cons {X : Cx} {cs : List Str} {W : WX} {body : List Stmt} {st : Stmt} {rest : List Stmt} {g h : GI} (h1 : NIa X cs W body st g) (h2 : NIs X cs W rest h) : NIas X cs W body (st :: rest) (jSeq g h) := fun x pins s σ H D I ⟨b, S, ρ, C, dx, fv, fl, R, io, q⟩ => by
  refine ks_wpAt_execs_cons (_root_.PySem.wpAt_mono (h1 x pins s σ H { nx := fun σ' H' => tI X.K X.mg cs W x h D σ' H', rt := D.rt, bk := D.bk, ct := D.ct } I ⟨b, S, ρ, C, dx, fv, fl, R, io, ?_⟩) (fun fl s' hs => ?_) fun _ _ e => e)
  · unfold jSeq at q
    cases ef : g x fl ρ with
    | nx fl' ρ' => rw [ef] at q; exact fun b' S' σ' H' fv' s1 g1 R' io' => ⟨b', S', ρ', C, dx, fv', fl', R', io', PoI.up s1 g1 q⟩
    | exc y ys ρ' => rw [ef] at q; exact q
    | bad => rw [ef] at q; exact q.elim
  · cases fl with
    | next =>
      obtain ⟨σ', H', I', t⟩ := hs
      exact wpAt_of_wpAny ((h2 x).run pins s' σ' H' D I' t)
    | ret u => exact hs
    | brk => exact hs
    | cont => exact hs
section
variable {P : Program} {w : World} {K : Frg} {mg : Mg} {base : Heap}
theorem Rel.startF {N : List Str} {S H : Hp} {vs : List V} {ds : List D} {D0 : Addr} (hN : vs.length + 1 ≤ N.length) (i : Same S H) (r : RpA K mg S vs ds) : Rel K mg none ⟨H, S⟩ S (ds.map Cell.v ++ List.replicate (N.length - ds.length) .e) (NdefX.startF N vs [some (.ref D0)]) H := by
  have R := Rel.start (N := N) (mg := mg) (K := K) i r
  have hl := r.len
  have z : ∀ j d, (ds.map Cell.v ++ List.replicate (N.length - ds.length) Cell.e)[j]? = some (Cell.v d) → ds[j]? = some d := fun j d e => by
    rw [List.getElem?_append] at e
    split at e
    · rw [List.getElem?_map] at e
      cases q : ds[j]? with
      | none => rw [q] at e; cases e
      | some d' => rw [q] at e; cases e; rfl
    · rw [List.getElem?_replicate] at e
      split at e <;> cases e
  have y : ∀ j c, (ds.map Cell.v ++ List.replicate (N.length - ds.length) Cell.e)[j]? = some c → (∃ d, c = Cell.v d) ∨ c = Cell.e := fun j c e => by
    rw [List.getElem?_append] at e
    split at e
    · rw [List.getElem?_map] at e
      cases q : ds[j]? with
      | none => rw [q] at e; cases e
      | some d' => rw [q] at e; cases e; exact .inl ⟨_, rfl⟩
    · rw [List.getElem?_replicate] at e
      split at e <;> cases e
      exact .inr rfl
  refine ⟨R.s0, R.sh, R.h0, R.nw, ?_, fun j d e => ?_, fun j es e => ?_, fun j c fs e => ?_, fun j k es gs p ne e1 => ?_⟩
  · simp [NdefX.startF, hl]; omega
  · obtain ⟨v, h1, h2⟩ := r.get (z j d e)
    refine ⟨v, ?_, h2⟩
    have hj' : j < vs.length := (List.getElem?_eq_some_iff.mp h1).1
    unfold NdefX.startF
    rw [List.getElem?_append_left (by simpa using hj'), List.getElem?_map, h1]
    rfl
  · rcases y j _ e with ⟨_, q⟩ | q <;> cases q
  · rcases y j _ e with ⟨_, q⟩ | q <;> cases q
  · rcases y j _ e1 with ⟨_, q⟩ | q <;> cases q
theorem in_okS {d : SDef} {D f : Addr} {file me : Str} {fd : FuncData} {N ps : List Str} {k n : Nat} {cs : List Str} {g : GI} {ar : Arg} (F : FunS K d D file f fd) (hP : SupP P file) (hg : mg "super" = none) (hD : ∃ cd, clsIn K D = some cd)
    (Sc : NScope N ps ["__class__"] d.scope) (hn : ps.length = n + 1) (hN : ps.length + 1 ≤ N.length) (har : (d.params.posonlyargs ++ d.params.args).head? = some ar) (hme : ar.arg = me)
    (hks : d.scope.names.lookup ("super" : Str) = some .globalImplicit) (hkm : d.scope.names.lookup me = some .local)
    (hb : ∀ (cc cda : Addr) (A : Around) (outer : List Env) (s : Shared) (H : Hp) (E : XK), Room k (ncx (L2.CX P w) P w K mg base N (niF d.name d.qual d.params d.body d.scope cc cda) f A outer s H E).A → Cs (ncx (L2.CX P w) P w K mg base N (niF d.name d.qual d.params d.body d.scope cc cda) f A outer s H E) (WE0 E) →
      SupF (ncx (L2.CX P w) P w K mg base N (niF d.name d.qual d.params d.body d.scope cc cda) f A outer s H E) f cda cc D me → NIas (ncx (L2.CX P w) P w K mg base N (niF d.name d.qual d.params d.body d.scope cc cda) f A outer s H E) cs (WE0 E) d.body d.body g) :
    FnOk P w K mg base (L2.CX P w) (k + 1) f fd ps (spI K mg cs n (semI N.length g)) := by
  obtain ⟨oc, od, osl, kV, doc, pm, an, cda, ct, cc, rfl, lk, hcd, ⟨cl, cld, csl, lcc⟩, ccl, cdd, vs0, ccs, fi, tf, lc, hvs, hfi⟩ := F.ex
  refine fn_ofS lk hcd lcc Sc (fun vs H Q E h => by rw [hn]; exact spI_len h) fun A outer s s1 H vs Q E hr h I => ?_
  obtain ⟨ds, S, x, C, dx, us, fv, fl, rfl, h1, h2, h3, h4, h5, h6, h7, h8⟩ := h
  refine hb cc cda A outer s H E hr ⟨takes_of rfl rfl rfl rfl, passes_of rfl, rfl⟩ ?_ x [] s1 _ H _ I ⟨⟨H, S⟩, S, .v (.raw x) :: ds.map Cell.v ++ List.replicate (N.length - (ds.length + 1)) Cell.e, C, dx, fv, fl, Rel.startF (N := N) (ds := .raw x :: ds) (by rw [hn] at hN; simpa [h1] using hN) h5 (.cons (.raw x) h7), ⟨h2, h3, h4, h6⟩, spI_ends h2 h8⟩
  exact ⟨rfl, rfl, rfl, ⟨oc, od, _, osl, ar, lk, har, hme⟩, ⟨ccl, cdd, vs0, ccs, fi, tf, lc, hvs, by rw [show ((ncx (L2.CX P w) P w K mg base N (niF d.name d.qual d.params d.body d.scope cc cda) f A outer s H E).prog.main.file : Str) = file from hP.file]; exact hfi⟩, ⟨cl, cld, csl, lcc⟩, hP.top, hg, hks, Sc.frk _ (by simp), hkm, hD⟩
end
/-! ### the hook -/
abbrev AlM : Type := (Bool × List He.FnW) × List FnS
def obsM (file : Str) (fa : List (Frg → Bool)) (fn : List He.DefD) (fs : List SDef) (K : Frg) : AlM := (((fa.all fun f => f K) && ((fn.all fun d => d.ok K) && fs.all fun d => d.ok K file), fn.map fun d => He.fnW K d.at_), fs.map fun d => fnS K d.at_)
def valM (fn : List He.DefD) (fs : List SDef) : AlM := ((true, fn.map He.DefD.val), fs.map SDef.val)
def SaysM (file : Str) (fa : List (Frg → Bool)) (fn : List He.DefD) (fs : List SDef) (K : Frg) : Prop := obsM file fa fn fs K = valM fn fs
def obsMG (n : Nat) (file : Str) (fa : List (Frg → Bool)) (fn : List He.DefD) (fs : List SDef) (g : Addr → Option Obj) : AlM := obsM file fa fn fs (He.frG g (cStatics :: He.asD g n))
def hookM (n : Nat) (file : Str) (fa : List (Frg → Bool)) (fn : List He.DefD) (fs : List SDef) : PySem.W.Hook where
  α := AlM
  obs := fun s => obsMG n file fa fn fs s.heap.get?
  val := fun _ => valM fn fs
  says := fun _ h => ∃ K : Frg, K.In h ∧ SaysM file fa fn fs K
  of := fun _ _ e => ⟨_, He.frG_in, e⟩
  keeps := fun _ _ _ ⟨K, hK, c⟩ k => ⟨K, PySem.W.Frag.In.keeps hK k, c⟩
theorem obsMG_eq {n : Nat} {file : Str} {fa : List (Frg → Bool)} {fn : List He.DefD} {fs : List SDef} {g : Addr → Option Obj} {s : Shared} (h : ∀ a, g a = s.heap.get? a) : obsMG n file fa fn fs g = (hookM n file fa fn fs).obs s := by
  have e : g = s.heap.get? := funext h
  rw [e] <;> rfl
section
variable {file : Str} {fa : List (Frg → Bool)} {fn : List He.DefD} {fs : List SDef} {K : Frg}
theorem SaysM.bools (c : SaysM file fa fn fs K) : ((fa.all fun f => f K) = true) ∧ ((fn.all fun d => d.ok K) = true) ∧ ((fs.all fun d => d.ok K file) = true) := by
  obtain ⟨h1, h2⟩ := He.ba (show ((fa.all fun f => f K) && ((fn.all fun d => d.ok K) && fs.all fun d => d.ok K file)) = true from congrArg (fun z : AlM => z.1.1) c)
  obtain ⟨h3, h4⟩ := He.ba h2
  exact ⟨h1, h3, h4⟩
theorem SaysM.fact (c : SaysM file fa fn fs K) (i : Nat) {f : Frg → Bool} (h : fa[i]? = some f := by rfl) : f K = true := List.all_eq_true.mp c.bools.1 f (List.mem_of_getElem? h)
theorem SaysM.def_ (c : SaysM file fa fn fs K) (i : Nat) {d : He.DefD} (h : fn[i]? = some d := by rfl) : ∃ fd, FunD K d.name d.qual d.params d.body d.scope (d.dvs K) (d.kws K) (He.fAd K d.at_) fd := by
  have e : fn.map (fun d => He.fnW K d.at_) = fn.map He.DefD.val := congrArg (fun z : AlM => z.1.2) c
  have e2 : (fn.map fun d => He.fnW K d.at_)[i]? = (fn.map He.DefD.val)[i]? := by rw [e]
  rw [List.getElem?_map, List.getElem?_map, h] at e2
  exact He.DefD.funD (Option.some.inj e2) (List.all_eq_true.mp c.bools.2.1 d (List.mem_of_getElem? h))
theorem SaysM.sdef (c : SaysM file fa fn fs K) (i : Nat) {d : SDef} (h : fs[i]? = some d := by rfl) : ∃ fd, FunS K d (He.ga K d.cl) file (He.fAd K d.at_) fd := by
  have e : fs.map (fun d => fnS K d.at_) = fs.map SDef.val := congrArg (fun z : AlM => z.2) c
  have e2 : (fs.map fun d => fnS K d.at_)[i]? = (fs.map SDef.val)[i]? := by rw [e]
  rw [List.getElem?_map, List.getElem?_map, h] at e2
  exact SDef.funS (Option.some.inj e2) (List.all_eq_true.mp c.bools.2.2 d (List.mem_of_getElem? h))
end
end PF

set_option Elab.async false
set_option linter.all false
set_option maxRecDepth 100000
set_option maxHeartbeats 4000000
/-! list(enumerate(xs)). -/
namespace PF
open PySem PySem.Spec L2 PyProof.Rows
theorem enum_no_len : typeLookup (.type "enumerate") "__len__" = pure none := am_miss_of_fast (by decide +kernel)
theorem enum_no_hint : typeLookup (.type "enumerate") "__length_hint__" = pure none := am_miss_of_fast (by decide +kernel)
section
variable {prog : Program} {w : World} {A : Around} {E : Value → Shared → Prop} {s : Shared}
/-- the next pair, while the tuple that was given out first is still there -/
theorem enum_next_held {e it T : Addr} {fp : List Addr} {n i : Nat} {P : Nat → Value → Prop} {St : Nat → Heap → Prop} {old : Value} {f : Bool} {oT : Obj} {Q : Value → Shared → Prop}
    (D : Draws prog w A it fp n P St) (he : IsEnumHeld s.heap e it i old T f) (hT : s.heap.get? T = some oT) (hTe : T ≠ e) (hTi : T ≠ it) (hst : St i s.heap) (hlt : i < n) (hne : e ≠ it) (hef : e ∉ fp)
    (hQ : ∀ x h' tk, P i x → IsEnumHeld h' e it ((i : Int) + 1) old T true → St (i + 1) h' →
      h'.get? s.heap.objs.size = some { cls := .type "tuple", data := .seq #[.int i tk, x] } → h'.objs.size = s.heap.objs.size + 1 →
      (∀ b o, b ≠ e → b ≠ it → s.heap.get? b = some o → h'.get? b = some o) → Q (.ref s.heap.objs.size) { s with heap := h', toks := tk + 1 }) :
    wpAny (model prog w) A (Builtin.«enumerate.__next__» ⟨[.ref e], []⟩) (fun fin s' => ∃ v, fin = .done (.ret v) ∧ Q v s') E s := by
  obtain ⟨hp, g, d, tk₀, os⟩ := s
  show wpAny _ _ (field (.ref e) 2 >>= _) _ _ _
  refine wpAny_bind (wpAny_field he rfl (x := .ref it) rfl ?_)
  refine wpAny_bind (D.item i _ _ _ hlt hst fun x h₁ tk hPx hit₁ hs₁ => ?_)
  replace hs₁ : Heap.SameBut it hp h₁ := hs₁
  have he₁ : IsEnumHeld h₁ e it i old T f := (hs₁.2 e hne).trans he
  show wpAny _ _ (field (.ref e) 3 >>= _) _ _ ⟨h₁, g, d, tk, os⟩
  refine wpAny_bind (wpAny_field he₁ rfl (x := rawInt i) rfl ?_)
  show wpAny _ _ (field (.ref e) 4 >>= _) _ _ ⟨h₁, g, d, tk, os⟩
  refine wpAny_bind (wpAny_field he₁ rfl (x := .none) rfl ?_)
  show wpAny _ _ (mkInt i >>= _) _ _ ⟨h₁, g, d, tk, os⟩
  refine wpAny_bind (wpAny_mkInt ?_)
  show wpAny _ _ (setField (.ref e) 3 (rawInt ((i : Int) + 1)) >>= _) _ _ ⟨h₁, g, d, tk + 1, os⟩
  refine wpAny_bind (wpAny_setField_rec he₁ (by simp) fun h₂ he₂ hs₂ => ?_)
  replace hs₂ : Heap.SameBut e h₁ h₂ := hs₂
  replace he₂ : IsEnumHeld h₂ e it ((i : Int) + 1) old T f := he₂
  show wpAny _ _ (setField (.ref e) 4 .none >>= _) _ _ ⟨h₂, g, d, tk + 1, os⟩
  refine wpAny_bind (wpAny_setField_rec he₂ (by simp) fun h₃ he₃ hs₃ => ?_)
  replace hs₃ : Heap.SameBut e h₂ h₃ := hs₃
  replace he₃ : IsEnumHeld h₃ e it ((i : Int) + 1) old T f := he₃
  show wpAny _ _ (newTuple [.int i tk, x] >>= _) _ _ ⟨h₃, g, d, tk + 1, os⟩
  refine wpAny_bind (wpAny_newTuple ?_)
  have he₄ : IsEnumHeld (h₃.push { cls := .type "tuple", data := .seq #[.int i tk, x] }) e it ((i : Int) + 1) old T f := Heap.get?_push_of_some _ he₃
  generalize hh₄ : h₃.push { cls := .type "tuple", data := .seq #[.int i tk, x] } = h₄ at he₄
  have hsz : h₃.objs.size = hp.objs.size := by rw [hs₃.1, hs₂.1, hs₁.1]
  have hel : e < hp.objs.size := Heap.lt_size he
  have ht₄ : h₄.get? hp.objs.size = some { cls := .type "tuple", data := .seq #[.int i tk, x] } := by rw [← hh₄, ← hsz]; exact Heap.get?_push_size _ rfl
  have hz₄ : h₄.objs.size = hp.objs.size + 1 := by rw [← hh₄, Heap.size_push, hsz]
  have hk₄ : ∀ b o, b ≠ e → b ≠ it → hp.get? b = some o → h₄.get? b = some o := fun b o hbe hbi hb => by
    rw [← hh₄]; exact Heap.get?_push_of_some _ (hs₃.extBut b o hbe (hs₂.extBut b o hbe (hs₁.extBut b o hbi hb)))
  have hit₄ : St (i + 1) h₄ := D.frame _ _ _ hit₁ fun b hb o y => by
    have hbe : b ≠ e := fun q => hef (q ▸ hb)
    rw [← hh₄]; exact Heap.get?_push_of_some _ (hs₃.extBut b o hbe (hs₂.extBut b o hbe y))
  show wpAny _ _ (Builtin.SmallTypes.ownedTupleIsFree (.ref e) >>= _) _ _ ⟨h₄, g, d, tk + 1, os⟩
  rw [hsz]
  clear hh₄ he₃ hs₃ he₂ hs₂ he₁ hs₁ hit₁ hsz h₃ h₂ h₁
  refine wpAny_bind (wpAny_tupleHeld_enum (s := ⟨h₄, g, d, tk + 1, os⟩) he₄ (hk₄ T oT hTe hTi hT) fun h₅ he₅ hs₅ => ?_)
  replace hs₅ : Heap.SameBut e h₄ h₅ := hs₅
  simp only [Bool.false_eq_true, if_false]
  refine wpAny_pure ⟨_, rfl, hQ x h₅ tk hPx he₅ (D.frame _ _ _ hit₄ fun b hb o y => hs₅.extBut b o (fun q => hef (q ▸ hb)) y) (hs₅.extBut _ _ (Nat.ne_of_gt hel) ht₄) ?_ fun b o hbe hbi hb => hs₅.extBut b o hbe (hk₄ b o hbe hbi hb)⟩
  show h₅.objs.size = hp.objs.size + 1
  rw [hs₅.1, hz₄]
theorem pyNext_enum_held {e it T : Addr} {fp : List Addr} {n i : Nat} {P : Nat → Value → Prop} {St : Nat → Heap → Prop} {old : Value} {f : Bool} {oT : Obj} {Q : Option Value → Shared → Prop}
    (D : Draws prog w A.in1 it fp n P St) (he : IsEnumHeld s.heap e it i old T f) (hT : s.heap.get? T = some oT) (hTe : T ≠ e) (hTi : T ≠ it) (hst : St i s.heap) (hlt : i < n) (hne : e ≠ it) (hef : e ∉ fp)
    (hQ : ∀ x h' tk, P i x → IsEnumHeld h' e it ((i : Int) + 1) old T true → St (i + 1) h' →
      h'.get? s.heap.objs.size = some { cls := .type "tuple", data := .seq #[.int i tk, x] } → h'.objs.size = s.heap.objs.size + 1 →
      (∀ b o, b ≠ e → b ≠ it → s.heap.get? b = some o → h'.get? b = some o) → Q (some (.ref s.heap.objs.size)) { s with heap := h', toks := tk + 1 }) :
    wpAny (model prog w) A (pyNext (.ref e)) Q E s := by
  have hTy : s.TypeIs (.ref e) "enumerate" := ⟨_, he, rfl⟩
  unfold pyNext
  exact wpAny_bind (wpAny_attempt (wpAny_callSpecial?_slot (name := Str.ofString "__next__") hTy F.slot_enumerate_next
    (wpAny_call_entry F.slot_enumerate_next hTy F.entry_enumerate_next
      (enum_next_held D he hT hTe hTi hst hlt hne hef fun x h' tk a1 a2 a3 a4 a5 a6 => wpAny_pure (hQ x h' tk a1 a2 a3 a4 a5 a6)) (F.args_enumerate_next_1 _))))
theorem pyNext_enum_endH {e it T : Addr} {fp : List Addr} {n : Nat} {i : Int} {P : Nat → Value → Prop} {St : Nat → Heap → Prop} {old : Value} {f : Bool} {Q : Option Value → Shared → Prop}
    (D : Draws prog w A.in1 it fp n P St) (he : IsEnumHeld s.heap e it i old T f) (hst : St n s.heap)
    (hQ : ∀ h', Heap.ExtBut it s.heap h' → Q none { s with heap := h' }) : wpAny (model prog w) A (pyNext (.ref e)) Q E s := by
  have hT : s.TypeIs (.ref e) "enumerate" := ⟨_, he, rfl⟩
  unfold pyNext
  refine wpAny_bind (wpAny_attempt (wpAny_callSpecial?_slot (name := Str.ofString "__next__") hT F.slot_enumerate_next
    (wpAny_call_entry F.slot_enumerate_next hT F.entry_enumerate_next ?_ (F.args_enumerate_next_1 _))))
  show wpAny _ _ (field (.ref e) 2 >>= _) _ _ _
  refine wpAny_bind (wpAny_field he rfl (x := .ref it) rfl ?_)
  refine wpAny_bind (D.done _ _ _ hst fun h' x he' hx' => ?_)
  obtain ⟨o, ho, hc⟩ := hx'
  refine wpAny_bind (wpAny_isInstance (T := "StopIteration") (b := true) ⟨o, ho, hc⟩ isSubtype_stop ?_)
  exact wpAny_pure (hQ _ he')
end
theorem SqK.up {K : PySem.W.Frag} {t : Bool} {H H' : Hp} {a : Addr} {xs : List V} (e : Same H H') (h : SqK K t H a xs) : SqK K t H' a xs := by
  cases t with
  | true => exact same_t e h
  | false => exact same_l e h
/-- where the enumeration stands -/
def EnAt (h : Heap) (e it S : Addr) (i : Nat) : Prop := (∃ old, IsEnum h e it ((i : Nat) : Int) old) ∨ ∃ old T f oT, IsEnumHeld h e it ((i : Nat) : Int) old T f ∧ h.get? T = some oT ∧ T ≠ e ∧ T ≠ it ∧ T ≠ S
section
variable {X : Cx} {pins : List (Addr × Obj)} {σ : L2.St} {H0 : Hp} {S e it a : Addr} {xs : List V} {t : Bool} {A : Around} {R : Result → Shared → Prop} {res : Value}
/-- the pairs that were laid so far -/
def Laid (H0 H : Hp) (S : Addr) (xs : List V) (ts : List Addr) : Prop := ∀ j T, ts[j]? = some T → ∃ x, xs[j]? = some x ∧ T ≠ S ∧ H0 T = none ∧ H T = some (.tup [.int (j : Nat), x])
theorem enum_loop (hh : A.handled = none) (hz : xs.length ≤ sizeLine) (hS0 : H0 S = none) (hSe : S ≠ e) (hSi : S ≠ it) (hSa : S ≠ a) (hei : e ≠ it) (hea : e ≠ a) (hia : it ≠ a) (hq : SqK X.K t H0 a xs)
    (hR : ∀ H' s' ts, Inv X pins σ H' s' → Same H0 H' → ts.length = xs.length → H' S = some (.lst (ts.map V.ref)) → Laid H0 H' S xs ts → R (.ok (.ret res)) s') :
    ∀ (k i : Nat) (s : Shared) (H : Hp) (ts : List Addr), xs.length - i = k → i ≤ xs.length → Inv X pins σ H s → Same H0 H → ts.length = i → H S = some (.lst (ts.map V.ref)) → Laid H0 H S xs ts → ItK t s.heap it a i → EnAt s.heap e it S i →
      (∀ b ∈ [e, it], FpOk X pins H b) → codeAny (model X.prog X.w) A (.builtin "list.extend.loop" ⟨[.ref S, .ref e, res], []⟩) R s := by
  intro k
  induction k with
  | zero =>
    intro i s H ts hk hi I i0 hts hS hL hit hen hf
    have hin : i = xs.length := by omega
    subst hin
    obtain ⟨its, rv, p⟩ := Inv.seK I (SqK.up i0 hq)
    have hl : its.toArray.size = xs.length := by rw [List.size_toArray]; exact rv.length.symm
    refine codeAny_builtin F.entry_extend_loop ?_
    rw [Around.under_plainId F.plain_extend_loop _]
    show wpAny _ A.in1 (pyNext (.ref e) >>= _) _ _ s
    have fin : ∀ h', Heap.ExtBut it s.heap h' → R (.ok (.ret res)) { s with heap := h' } := fun h' eb =>
      hR H _ ts (I.turnedL (t' := s.toks) (ch := [e, it]) (fun b o hb q => eb b o (fun z => hb (by simp [z])) q) hf) i0 hts hS hL
    rcases hen with ⟨old, he⟩ | ⟨old, T, f, oT, he, hT, r1, r2, r3⟩
    · exact wpAny_bind (wpAny_pyNext_enum_endD (drawsK t (show A.in1.in1.handled = none from hh) it a (Ne.symm hia) its.toArray) he ⟨by rw [hl]; exact hit, p⟩ fun h' eb => wpAny_pure (fin h' eb))
    · exact wpAny_bind (pyNext_enum_endH (drawsK t (show A.in1.in1.handled = none from hh) it a (Ne.symm hia) its.toArray) he ⟨by rw [hl]; exact hit, p⟩ fun h' eb => wpAny_pure (fin h' eb))
  | succ k ih =>
    intro i s H ts hk hi I i0 hts hS hL hit hen hf
    have hlt : i < xs.length := by omega
    obtain ⟨its, rv, p⟩ := Inv.seK I (SqK.up i0 hq)
    have hl : its.toArray.size = xs.length := by rw [List.size_toArray]; exact rv.length.symm
    have hx : xs[i]? = some xs[i] := List.getElem?_eq_getElem hlt
    obtain ⟨u, hu, ru⟩ := rv.get hx
    have hlt2 : i < its.toArray.size := by omega
    have hdr := drawsK (prog := X.prog) (w := X.w) t (show A.in1.in1.handled = none from hh) it a (Ne.symm hia) its.toArray
    refine codeAny_builtin F.entry_extend_loop ?_
    rw [Around.under_plainId F.plain_extend_loop _]
    show wpAny _ A.in1 (pyNext (.ref e) >>= _) _ _ s
    have hil : it < s.heap.objs.size := by obtain ⟨_, q, _⟩ := hit.obj; exact Heap.lt_size q
    have hel : e < s.heap.objs.size := by rcases hen with ⟨old, he⟩ | ⟨old, T, f, oT, he, _⟩ <;> exact Heap.lt_size he
    have hSl : S < s.heap.objs.size := by obtain ⟨_, its', n', _, _, e'⟩ := I.lstM hS; exact Heap.lt_size e'
    -- behind the pair that was drawn
    have step : ∀ (v : Value) (h' : Heap) (tk : Nat), its.toArray[i]? = some v → ItK t h' it a (i + 1) → EnAt h' e it S (i + 1) → h'.get? s.heap.objs.size = some { cls := .type "tuple", data := .seq #[.int i tk, v] } →
        (∀ b o, b ≠ e → b ≠ it → s.heap.get? b = some o → h'.get? b = some o) →
        wpAny (model X.prog X.w) A.in1 (updateSeq S (·.push (.ref s.heap.objs.size)) >>= fun _ => again (.builtin "list.extend.loop" ⟨[.ref S, .ref e, res], []⟩))
          (fun fin s' => match fin with | .done f => R (.ok f) s' | .again c' => c'.quiet = true ∧ codeAny (model X.prog X.w) A c' R s') (fun er s' => R (.error er) s') { s with heap := h', toks := tk + 1 } := by
      intro v h' tk Pv hit' hen' hT hk'
      have ev : v = u := by simpa [hu] using Pv.symm
      subst ev
      have nT : s.heap.objs.size ≠ S := Nat.ne_of_gt hSl
      have new : ObjOk X.prog X.w (upd H s.heap.objs.size (.tup [.int (i : Nat), xs[i]])) h' s.heap.objs.size (.tup [.int (i : Nat), xs[i]]) :=
        ⟨by show 2 ≤ sizeLine; decide, [.int i tk, v], .cons ⟨_, rfl⟩ (.cons ru .nil), ⟨_, hT, rfl, _, rfl⟩⟩
      have I1 : Inv X pins σ (upd H s.heap.objs.size (.tup [.int (i : Nat), xs[i]])) { s with heap := h', toks := tk + 1 } :=
        I.turnedNew (ch := [e, it]) (fun b ob hb q => hk' b ob (fun z => hb (by simp [z])) (fun z => hb (by simp [z])) q) hf (Nat.le_refl _) new
      have hS1 : upd H s.heap.objs.size (.tup [.int (i : Nat), xs[i]]) S = some (.lst (ts.map V.ref)) := by rw [upd_ne (Ne.symm nT)]; exact hS
      obtain ⟨z1, lits, n1, r1, l1, e1⟩ := I1.lstM hS1
      have hs1 : lits.toArray.size ≤ sizeLine := by rw [List.size_toArray, ← l1]; exact z1
      have hts2 : (ts.map V.ref ++ [V.ref s.heap.objs.size]).length ≤ sizeLine := by simp [hts]; omega
      have I2 := I1.lset (ys := ts.map V.ref ++ [V.ref s.heap.objs.size]) (its' := lits ++ [.ref s.heap.objs.size]) (t' := tk + 1) hS1 e1 (f := (·.push (.ref s.heap.objs.size))) (by simp) (r1.append (.cons (show RelV (V.ref s.heap.objs.size) (.ref s.heap.objs.size) from rfl) .nil)) hts2
      have hf0 : H s.heap.objs.size = none := I.hok.fresh (Nat.le_refl _)
      have new0 : H0 s.heap.objs.size = none := same_none i0 hf0
      refine wpAny_bind (wpAny_updateSeq e1 rfl (wpAny_pure ⟨plainId_quiet F.plain_extend_loop _, ih (i + 1) _ _ (ts ++ [s.heap.objs.size]) (by omega) hlt I2 ?_ (by simp [hts]) ?_ ?_ ?_ ?_ ?_⟩) hs1 (by rw [Array.size_push]; omega))
      · intro b o q
        rw [upd_ne (fun z => by rw [z, hS0] at q; cases q), upd_ne (fun z => by rw [z, new0] at q; cases q)]
        exact i0 b o q
      · rw [upd_same, List.map_append]; rfl
      · intro j T hj
        rw [List.getElem?_append] at hj
        split at hj
        · obtain ⟨x, h1, h2, h3, h4⟩ := hL j T hj
          refine ⟨x, h1, h2, h3, ?_⟩
          rw [upd_ne h2, upd_ne (fun z => by rw [z, hf0] at h4; cases h4)]
          exact h4
        · rename_i hj'
          have ej : j = i := by
            rw [List.getElem?_singleton] at hj
            split at hj
            · omega
            · cases hj
          subst ej
          have eT : s.heap.objs.size = T := by simpa [hts] using hj
          subst eT
          refine ⟨_, hx, nT, new0, ?_⟩
          rw [upd_ne nT, upd_same]
      · exact hit'.kept fun o q => (Heap.get?_update_other _ _ hSi).trans q
      · rcases hen' with ⟨old, he⟩ | ⟨old, T, f, oT, he, hT', r1, r2, r3⟩
        · exact .inl ⟨old, (Heap.get?_update_other _ _ hSe).trans he⟩
        · exact .inr ⟨old, T, f, oT, (Heap.get?_update_other _ _ hSe).trans he, (Heap.get?_update_other _ _ (Ne.symm r3)).trans hT', r1, r2, r3⟩
      · intro b hb
        obtain ⟨f1, f2⟩ := hf b hb
        refine ⟨?_, f2⟩
        have hb' : b < s.heap.objs.size := by
          have e' : b = e ∨ b = it := by simpa using hb
          rcases e' with z | z
          · rw [z]; exact hel
          · rw [z]; exact hil
        have hbS : b ≠ S := by
          have e' : b = e ∨ b = it := by simpa using hb
          rcases e' with z | z
          · rw [z]; exact Ne.symm hSe
          · rw [z]; exact Ne.symm hSi
        rw [upd_ne hbS, upd_ne (Nat.ne_of_lt hb')]
        exact f1
    have ec : ((i + 1 : Nat) : Int) = (i : Int) + 1 := by omega
    rcases hen with ⟨old, he⟩ | ⟨old, T, f, oT, he, hT, r1, r2, r3⟩
    · refine wpAny_bind (wpAny_pyNext_enum_itemC hdr he ⟨hit, p⟩ hlt2 hei (by simp [hei, hea]) fun v h' tk Pv ho hit' hT hsz hk' => ?_)
      exact step v h' tk Pv hit'.1 (.inr ⟨_, s.heap.objs.size, false, _, by rw [ec]; exact ho, hT, Nat.ne_of_gt hel, Nat.ne_of_gt hil, Nat.ne_of_gt hSl⟩) hT hk'
    · refine wpAny_bind (pyNext_enum_held hdr he hT r1 r2 ⟨hit, p⟩ hlt2 hei (by simp [hei, hea]) fun v h' tk Pv ho hit' hT' hsz hk' => ?_)
      exact step v h' tk Pv hit'.1 (.inr ⟨old, T, true, oT, by rw [ec]; exact ho, hk' _ _ r1 r2 hT, r1, r2, r3⟩) hT' hk'
/-- list(e) where e is an enumeration at its start -/
theorem call_listEn {s : Shared} {H : Hp} {E : Value → Shared → Prop} {Q : Value → Shared → Prop} (hh : A.handled = none) (hz : xs.length ≤ sizeLine) (I : Inv X pins σ H s) (hei : e ≠ it) (hea : e ≠ a) (hia : it ≠ a) (hq : SqK X.K t H a xs)
    (he : IsEnum s.heap e it 0 .none) (hit : ItK t s.heap it a 0) (hf : ∀ b ∈ [e, it], FpOk X pins H b)
    (hQ : ∀ p H' s' ts, H p = none → Inv X pins σ H' s' → Same H H' → ts.length = xs.length → H' p = some (.lst (ts.map V.ref)) → Laid H H' p xs ts → Q (.ref p) s') :
    wpAny (model X.prog X.w) A (call (.type "list") [.ref e]) Q E s := by
  have hS0 : H s.heap.objs.size = none := I.hok.fresh (Nat.le_refl _)
  have hel : e < s.heap.objs.size := Heap.lt_size he
  have hil : it < s.heap.objs.size := by obtain ⟨_, q, _⟩ := hit.obj; exact Heap.lt_size q
  obtain ⟨its, rv, p⟩ := Inv.seK I hq
  have hal : a < s.heap.objs.size := p.lt
  refine callType_codes (Q₁ := fun obj s₁ => obj = .ref s.heap.objs.size ∧ s₁ = { s with heap := s.heap.push { cls := .type "list", data := .seq #[] } }) F.called_list (F.typeCall_list_1 _) F.entry_list_init
    (code_list_new _ ⟨rfl, rfl⟩) fun obj s₁ h₁ => ?_
  obtain ⟨rfl, rfl⟩ := h₁
  have I1 : Inv X pins σ (upd H s.heap.objs.size (.lst [])) { s with heap := s.heap.push { cls := .type "list", data := .seq #[] } } := I.lnew (ys := []) (its := []) (t' := s.toks) .nil (Nat.zero_le _)
  refine ⟨⟨_, Heap.get?_push_size _ rfl, rfl⟩, F.args_list_init_2 _ _, ?_⟩
  have hS : (s.heap.push { cls := .type "list", data := .seq #[] }).get? s.heap.objs.size = some { cls := .type "list", data := .seq #[] } := Heap.get?_push_size _ rfl
  generalize hSg : s.heap.objs.size = S at *
  have hSe : S ≠ e := Ne.symm (Nat.ne_of_lt hel)
  have hSi : S ≠ it := Ne.symm (Nat.ne_of_lt hil)
  have hSa : S ≠ a := Ne.symm (Nat.ne_of_lt hal)
  have at0 : ∀ {h' : Heap}, (∀ b o, b ≠ S → s.heap.get? b = some o → h'.get? b = some o) → IsEnum h' e it 0 .none ∧ ItK t h' it a 0 := fun k => ⟨k e _ (Ne.symm hSe) he, hit.kept fun o q => k it o (Ne.symm hSi) q⟩
  have k1 : ∀ b o, b ≠ S → s.heap.get? b = some o → (s.heap.push { cls := .type "list", data := .seq #[] }).get? b = some o := fun b o _ q => Heap.get?_push_of_some _ q
  generalize s.heap.push { cls := .type "list", data := .seq #[] } = h1 at *
  have hu1 : upd H S (.lst []) S = some (.lst []) := upd_same
  show wpAny _ A.in1.in1 (do let old ← Builtin.List.listItems (.ref S); Builtin.List.listUpdate (.ref S) (fun _ => #[]); letGo old.toList.reverse; Builtin.List.listExtendWith (.ref S) (.ref e) .none) _ _ _
  refine wpAny_bind ?_
  unfold Builtin.List.listItems
  refine wpAny_bind (wpAny_seqItems hS rfl (wpAny_pure ?_))
  show wpAny _ A.in1.in1 (updateSeq S (fun _ => #[]) >>= fun _ => letGo (#[] : Array Value).toList.reverse >>= fun _ => Builtin.List.listExtendWith (.ref S) (.ref e) .none) _ _ _
  refine wpAny_bind (wpAny_updateSeq hS rfl ?_)
  have hS₂ := Heap.get?_update_self (Obj.mapSeq (fun _ => (#[] : Array Value))) hS rfl
  have I2 := I1.lset (ys := []) (its' := []) (t' := s.toks) hu1 hS (f := fun _ => #[]) rfl .nil (Nat.zero_le _)
  have k2 : ∀ b o, b ≠ S → s.heap.get? b = some o → (h1.update S (Obj.mapSeq (fun _ => (#[] : Array Value)))).get? b = some o := fun b o hb q => (Heap.get?_update_other _ _ (Ne.symm hb)).trans (k1 b o hb q)
  refine wpAny_bind (wpAny_letGo ?_)
  show wpAny _ A.in1.in1 (Builtin.List.listExtendWith (.ref S) (.ref e) .none) _ _ { s with heap := h1.update S (Obj.mapSeq (fun _ => (#[] : Array Value))) }
  have hS₂' : (h1.update S (Obj.mapSeq (fun _ => (#[] : Array Value)))).get? S = some { cls := .type "list", data := .seq #[] } := hS₂
  have I2' : Inv X pins σ (upd (upd H S (.lst [])) S (.lst [])) { s with heap := h1.update S (Obj.mapSeq (fun _ => (#[] : Array Value))) } := I2
  clear I2 hS₂ I1 hS k1
  generalize h1.update S (Obj.mapSeq (fun _ => (#[] : Array Value))) = h2 at *
  obtain ⟨e2, i2⟩ := at0 k2
  have hT : ({ s with heap := h2 } : Shared).TypeIs (.ref e) "enumerate" := ⟨_, e2, rfl⟩
  unfold Builtin.List.listExtendWith
  refine wpAny_bind (wpAny_typeOf hT ?_)
  have g1 : Builtin.List.listSameRef (.ref S) (.ref e) = false := by simp [Builtin.List.listSameRef, hSe]
  have g2 : (Value.type "enumerate" == Value.type "list") = false := by decide
  have g3 : (Value.type "enumerate" == Value.type "tuple") = false := by decide
  simp only [g1, g2, g3, Bool.or_false, Bool.false_eq_true, if_false]
  refine wpAny_bind (wpAny_pyIter_enum e2 ?_)
  refine wpAny_bind (wpAny_holding ?_)
  unfold Builtin.List.listLengthHint
  refine wpAny_bind (wpAny_specialOf hT enum_no_len ?_)
  show wpAny _ A.in1.in1 (specialOf (Value.ref e) (Str.ofString "__length_hint__") >>= _) _ _ _
  refine wpAny_bind (wpAny_specialOf hT enum_no_hint ?_)
  refine wpAny_pure ?_
  show wpAny _ A.in1.in1 (rule "list.extend.makes-room" >>= fun _ => Builtin.List.listTouch (.ref S) >>= fun _ =>
    again (.builtin "list.extend.loop" ⟨[.ref S, .ref e, .none], []⟩)) _ _ _
  refine wpAny_bind (wpAny_rule ?_)
  refine wpAny_bind ?_
  show wpAny _ A.in1.in1 (updateSeq S (·.push .none) >>= fun _ => updateSeq S (·.pop)) _ _ _
  have hu2 : upd (upd H S (.lst [])) S (.lst []) S = some (.lst []) := upd_same
  have I3 := I2'.lset (ys := [V.non]) (its' := [.none]) (t' := s.toks) hu2 hS₂' (f := (·.push .none)) rfl (.cons (show RelV V.non .none from rfl) .nil) (by show 1 ≤ sizeLine; decide)
  refine wpAny_bind (wpAny_updateSeq hS₂' rfl ?_)
  have hS₃ := Heap.get?_update_self (Obj.mapSeq (·.push Value.none)) hS₂' rfl
  have hu3 : upd (upd (upd H S (.lst [])) S (.lst [])) S (.lst [V.non]) S = some (.lst [V.non]) := upd_same
  have I4 := I3.lset (ys := []) (its' := []) (its := [.none]) (t' := s.toks) hu3 hS₃ (f := (·.pop)) rfl .nil (Nat.zero_le _)
  refine wpAny_updateSeq (hz := by show 1 ≤ sizeLine; decide) hS₃ rfl ?_
  have k3 : ∀ b o, b ≠ S → s.heap.get? b = some o → ((h2.update S (Obj.mapSeq (·.push Value.none))).update S (Obj.mapSeq (·.pop))).get? b = some o :=
    fun b o hb q => (Heap.get?_update_other _ _ (Ne.symm hb)).trans ((Heap.get?_update_other _ _ (Ne.symm hb)).trans (k2 b o hb q))
  have hu4 : ∀ b, b ≠ S → upd (upd (upd (upd H S (.lst [])) S (.lst [])) S (.lst [V.non])) S (.lst []) b = H b := fun b hb => by rw [upd_ne hb, upd_ne hb, upd_ne hb, upd_ne hb]
  have e4 := (at0 k3).1
  have i4 := (at0 k3).2
  refine wpAny_pure ⟨plainId_quiet F.plain_extend_loop _, enum_loop (H0 := H) (S := S) (e := e) (it := it) (a := a) (xs := xs) (t := t) (A := A.in1) hh hz hS0 hSe hSi hSa hei hea hia hq (fun H' s' ts J j0 jl jS jL => ⟨rfl, hQ S H' s' ts hS0 J j0 jl jS jL⟩)
    xs.length 0 _ _ [] rfl (Nat.zero_le _) I4 (fun b o q => ?_) rfl upd_same (fun j T q => by simp at q) i4 (.inl ⟨.none, e4⟩) (fun b hb => ?_)⟩
  · rw [hu4 b (fun z => by rw [z, hS0] at q; cases q)]; exact q
  · obtain ⟨f1, f2⟩ := hf b hb
    refine ⟨?_, f2⟩
    have hbS : b ≠ S := by
      have e' : b = e ∨ b = it := by simpa using hb
      rcases e' with z | z
      · rw [z]; exact Ne.symm hSe
      · rw [z]; exact Ne.symm hSi
    rw [hu4 b hbS]
    exact f1
/-- list(enumerate(x)) -/
def tLstEn (K : Frg) (ta : TA) : TE := fun σ H Q => ta σ H fun vs H1 => ∃ t a xs, vs = [.ref a] ∧ SqK K t H1 a xs ∧ xs.length ≤ sizeLine ∧ ∀ p H2 ts, H1 p = none → Same H1 H2 → ts.length = xs.length → H2 p = some (.lst (ts.map V.ref)) → Laid H1 H2 p xs ts → Q (.ref p) H2
theorem pe_listEn {ex : Expr} {ta : TA} {p pos p2 pos2 : Pos} (hc : X.calm = true) (hg : Gl X "list") (hm : X.mg "list" = none) (hg2 : Gl X "enumerate") (hm2 : X.mg "enumerate" = none) (ha : PA X [ex] ta) (hs : starEach [ex] X.env = [(false, eval ex X.env)] := by rfl)
    (na : starEach [.Call (.Name "enumerate" p2) [ex] [] pos2] X.env = (false, eval (.Call (.Name "enumerate" p2) [ex] [] pos2) X.env) :: starEach [] X.env := by rfl) : PE X (.Call (.Name "list" p) [.Call (.Name "enumerate" p2) [ex] [] pos2] [] pos) (tLstEn X.K ta) := by
  refine ⟨fun pins s σ H Q I h => ?_⟩
  refine Call_ (ld_blt I hg hm boot_list (PyProof.Rows.callWith_type1 (args_cons ?_ na) na))
  refine Call_ (ld_blt I hg2 hm2 boot_enumerate (PyProof.Rows.callWith_type1 (thn (ha.run _ pins s σ H _ I h) fun us s1 ⟨vs, H1, I1, r1, q1⟩ => ?_) hs rfl))
  obtain ⟨t, a, xs, ex, hq, hz, q⟩ := q1
  subst ex
  cases r1 with
  | cons r rr =>
    cases rr
    cases r
    obtain ⟨its, rv, p'⟩ := Inv.seK I1 hq
    have hal : a < s1.heap.objs.size := p'.lt
    refine call_enum1 (beginsK t a its.toArray) p' fun h' he hit hsz hk => args_nil ?_
    have I2 : Inv X pins σ H1 { s1 with heap := h' } := I1.kept (t' := s1.toks) hk
    refine call_listEn (A := X.A) (I1.ok.hd hc) hz I2 (Nat.succ_ne_self _) (Nat.ne_of_gt (Nat.lt_succ_of_lt hal)) (Nat.ne_of_gt hal) hq he (itK_new t hit) (fun b hb => ?_) fun p H' s' ts hp J j0 jl jS jL => ⟨.ref p, H', J, rfl, q p H' ts hp j0 jl jS jL⟩
    have e' : b = s1.heap.objs.size + 1 ∨ b = s1.heap.objs.size := by simpa using hb
    have hle : s1.heap.objs.size ≤ b := by
      rcases e' with z | z
      · rw [z]; exact Nat.le_add_right _ _
      · rw [z]; exact Nat.le_refl _
    exact I1.fpOk hle (I1.hok.fresh hle)
@[simp] def fLstEn (fs : Sl → Res (List D)) (ρ : Sl) : Res (List D) := (fs ρ).bind fun ds => match ds with
  | [d] => (dSq d).bind fun xs => if xs.length ≤ 16777216 then .ok (enumD 0 xs) else .bad
  | _ => .bad
theorem rpa_of {K : Frg} {mg : Mg} {S : Hp} : ∀ {vs : List V} {ds : List D}, vs.length = ds.length → (∀ (i : Nat) (v : V) (d : D), vs[i]? = some v → ds[i]? = some d → Rp K mg S v d) → RpA K mg S vs ds
  | [], [], _, _ => .nil
  | [], _ :: _, h, _ => by simp at h
  | _ :: _, [], h, _ => by simp at h
  | v :: vs, d :: ds, h, f => .cons (f 0 v d rfl rfl) (rpa_of (by simpa using h) fun i v d h1 h2 => f (i + 1) v d (by simpa using h1) (by simpa using h2))
theorem mf_listEn {hx : Hx} {W : WX} {ex : Expr} {fs : Sl → Res (List D)} {p pos p2 pos2 : Pos} (hc : X.calm = true) (hm : X.mg "list" = none) (hm2 : X.mg "enumerate" = none) (ha : MA X hx W [ex] fs) (hg : Gl X "list" := by rfl) (hg2 : Gl X "enumerate" := by rfl) (hs : starEach [ex] X.env = [(false, eval ex X.env)] := by rfl)
    (na : starEach [.Call (.Name "enumerate" p2) [ex] [] pos2] X.env = (false, eval (.Call (.Name "enumerate" p2) [ex] [] pos2) X.env) :: starEach [] X.env := by rfl) : MF X hx W (.Call (.Name "list" p) [.Call (.Name "enumerate" p2) [ex] [] pos2] [] pos) (fLstEn fs) :=
  pe_imp (pe_listEn hc hg hm hg2 hm2 ha hs na) fun σ H Q ⟨b, S, ρ, R, q⟩ => ⟨b, S, ρ, R, q.bind fun d v S1 H1 g1 r1 k => by
    split at k
    · rename_i d1
      obtain ⟨v1, rfl, q1⟩ := r1.one
      cases e1 : dSq d1 with
      | exc _ _ => cases d1 <;> cases e1
      | bad => rw [e1] at k; exact k.elim
      | ok xs =>
        rw [e1, Res.bind_ok] at k
        obtain ⟨t1, a1, vs, rfl, z1, z2⟩ := q1.sq e1
        split at k
        · rename_i hl
          refine ⟨t1, a1, vs, rfl, same_k g1.i z1, by rw [z2.len, sizeLine_eq]; omega, fun p H2 ts hp j0 jl jS jL => ?_⟩
          have up : Same S1 (fun a => if a = p then none else if H1 a = none then H2 a else S1 a) := fun a o e => by
            have h1 := g1.i a o e
            show (if a = p then none else if H1 a = none then H2 a else S1 a) = some o
            rw [if_neg (fun z => by rw [z, hp] at h1; cases h1), if_neg (by rw [h1]; simp)]
            exact e
          refine k (.ref p) (fun a => if a = p then none else if H1 a = none then H2 a else S1 a) H2 (g1.trans ⟨up, j0, fun a o e => ?_, fun a ha e => ?_⟩) ⟨p, ts.map V.ref, rfl, same_none g1.h hp, if_pos rfl, jS, ?_⟩
          · have e : (if a = p then none else if H1 a = none then H2 a else S1 a) = some o := e
            split at e
            · cases e
            · split at e
              · exact e
              · exact j0 _ _ (g1.i _ _ e)
          · show (if a = p then none else if H1 a = none then H2 a else S1 a) = none
            by_cases z : a = p
            · rw [if_pos z]
            · rw [if_neg z, if_neg ha]; exact e
          · refine rpa_of (by rw [List.length_map, jl, enumD_len, z2.len]) fun i v d h1 h2 => ?_
            obtain ⟨x, h3, rfl⟩ := enumD_get h2
            rw [List.getElem?_map] at h1
            cases hT : ts[i]? with
            | none => rw [hT] at h1; cases h1
            | some T =>
              rw [hT] at h1
              cases h1
              obtain ⟨y, k1, k2, k3, k4⟩ := jL i T hT
              obtain ⟨d', k5, k6⟩ := z2.getV k1
              rw [h3] at k5
              cases k5
              refine .tup (xs := [.int (i : Nat), y]) (SqT.of ?_) (.cons (by rw [Nat.zero_add]; exact .int _) (.cons (k6.up up _ _) .nil))
              show (if T = p then none else if H1 T = none then H2 T else S1 T) = _
              rw [if_neg k2, if_pos k3]
              exact k4
        · exact k.elim
    · exact k.elim⟩
end
end PF

set_option Elab.async false
set_option linter.all false
set_option maxRecDepth 100000
set_option maxHeartbeats 4000000
/-! xs[i] += v, min, max, xs.index(v), list(range(..)). -/
namespace PF
open PySem PySem.Spec L2 PyProof.Rows
section
variable {X : Cx}
def rGetL (K : PySem.W.Frag) : V → V → Hp → VK → Prop := fun x y H Q => ∃ p xs i v, x = .ref p ∧ y = .int i ∧ SqL K H p xs ∧ atI xs i = some v ∧ Q v H
theorem get_list : PGet X (rGetL X.K) := by
  intro pins s σ H x y v u Q I rx ry h
  obtain ⟨p, xs, i, z, rfl, rfl, hq, he, q⟩ := h
  cases rx
  obtain ⟨t, rfl⟩ := ry
  obtain ⟨its, r, pl, hz⟩ := I.list hq
  obtain ⟨j, h1, h2, h3, h4, h5⟩ := atI_get he
  obtain ⟨w, ew, rw'⟩ := r.get h2
  have hl := r.length
  have hn := line63
  have fin : EP X pins σ Q w s := ⟨z, H, I, rw', q⟩
  by_cases h0 : 0 ≤ i
  · have hj : i.toNat = j := by
      rw [seqIndex_of h0 h5] at h1
      exact Option.some.inj h1
    exact wpAny_getItem_list pl.isList h0 (by omega) (by rw [hj]; simpa using ew) fin
  · have hj : (i + (its.toArray.size : Int)).toNat = j := by
      rw [seqIndex_neg (by omega) h4] at h1
      rw [List.size_toArray, ← hl]
      exact Option.some.inj h1
    exact wpAny_getItem_list_neg pl.isList (by omega) (by rw [List.size_toArray] <;> omega) (by omega) (by rw [hj]; simpa using ew) fin
end
/-- xs[k] op= v, xs a list that slot i alone holds -/
@[simp] def gAugS (i : Nat) (g : D → D → Res D) (fi f : Sl → Res D) (ρ : Sl) : Out := match (ρ[i]? : Option Cell) with
  | some (Cell.o ds) => rS (fi ρ) ρ fun k => match k with
    | .int n => match ixN ds.length n with
      | some j => match (ds[j]? : Option D) with
        | some d => rS (f ρ) ρ fun e => rS (g d e) ρ fun z => .nx (ρ.set i (.o (ds.set j z)))
        | none => .bad
      | none => .bad
    | _ => .bad
  | _ => .bad
section
variable {X : Cx} {hx : Hx} {W : WX} {e : Expr} {pos : Pos} {f : Sl → Res D}
theorem ms_augS (i : Nat) {x : Str} {ix : Expr} {op : Operator} {ti : TIp} {g : D → D → Res D} {fi : Sl → Res D} {p tpos : Pos} (hv : PE X (.Name x p) (tVar i)) (hi : ME X hx W ix fi) (ho : PIp X op ti) (hr : O2 X.K X.mg ti g) (he : ME X hx W e f)
    (ha : ∀ ov iv new, augStore ix ov iv new = (do holding [new, ov, iv] (setItem ov iv new); release [new, ov, iv] []; pure .next) := by intros; rfl) :
    MS X hx W (.AugAssign (.Subscript (.Name x p) ix tpos) op e pos) (gAugS i g fi f) := ps_imp (ps_augS hv hi get_list he ho set_list ha) fun D σ H ⟨b, S, ρ, R, q⟩ => by
  unfold gAugS at q
  split at q
  · rename_i ds e1
    obtain ⟨p, vs, h1, h2, h3, h4, h5⟩ := R.own i ds e1
    refine ⟨_, h1, b, S, ρ, R, rS_po R q fun d v S1 H1 g1 r1 k => ?_⟩
    cases d with
    | int n =>
      cases r1
      simp only at k
      split at k
      · rename_i j hj
        split at k
        · rename_i d hd
          obtain ⟨v, hv, rv⟩ := h5.get hd
          have hat : atI vs n = some v := by unfold atI; rw [h5.len, hj]; exact hv
          refine ⟨p, vs, n, v, rfl, rfl, SqL.of (g1.h _ _ h2), hat, b, S1, ρ, R.grow g1, rS_po (R.grow g1) (PoS.up g1.s k) fun d2 v2 S2 H2 g2 r2 k2 => ?_⟩
          have R2 := (R.grow g1).grow g2
          have g12 := g1.trans g2
          refine hr S2 σ H2 v v2 d d2 W _ g2.i (Rd1.of g2.i (rv.up g12.s _ _)) (Rd1.of g2.i r2) (rS_po R2 (PoS.up g2.s k2) fun d3 v3 S3 H3 g3 r3 k3 => ?_)
          have g := g12.trans g3
          exact ⟨p, vs, n, j, rfl, rfl, g.h _ _ h2, by rw [h5.len]; exact hj, k3 S3 σ _ g3.s (((R2.grow g3)).mut e1 h1 ((h5.up g.s _ _).set r3 j))⟩
        · exact k.elim
      · exact k.elim
    | _ => exact k.elim
  · exact q.elim
end
/-! ### min, max of a list of numbers -/
def lmin : List Int → Int
  | [] => 0
  | [x] => x
  | x :: xs => if x ≤ lmin xs then x else lmin xs
theorem lmin_le : ∀ {ns : List Int} {y : Int}, y ∈ ns → lmin ns ≤ y
  | [x], y, h => by simp at h; simp [lmin, h]
  | x :: z :: xs, y, h => by
    have ih : ∀ y, y ∈ z :: xs → lmin (z :: xs) ≤ y := fun y h => lmin_le h
    unfold lmin
    rcases List.mem_cons.mp h with e | e
    · subst e; split <;> omega
    · have := ih y e; split <;> omega
theorem lmin_mem : ∀ {ns : List Int}, ns ≠ [] → lmin ns ∈ ns
  | [x], _ => by simp [lmin]
  | x :: z :: xs, _ => by
    have ih : lmin (z :: xs) ∈ z :: xs := lmin_mem (by simp)
    unfold lmin
    split
    · exact List.mem_cons_self
    · exact List.mem_cons_of_mem _ ih
def lmax : List Int → Int
  | [] => 0
  | [x] => x
  | x :: xs => if lmax xs ≤ x then x else lmax xs
theorem lmax_le : ∀ {ns : List Int} {y : Int}, y ∈ ns → y ≤ lmax ns
  | [x], y, h => by simp at h; simp [lmax, h]
  | x :: z :: xs, y, h => by
    have ih : ∀ y, y ∈ z :: xs → y ≤ lmax (z :: xs) := fun y h => lmax_le h
    unfold lmax
    rcases List.mem_cons.mp h with e | e
    · subst e; split <;> omega
    · have := ih y e; split <;> omega
theorem lmax_mem : ∀ {ns : List Int}, ns ≠ [] → lmax ns ∈ ns
  | [x], _ => by simp [lmax]
  | x :: z :: xs, _ => by
    have ih : lmax (z :: xs) ∈ z :: xs := lmax_mem (by simp)
    unfold lmax
    split
    · exact List.mem_cons_self
    · exact List.mem_cons_of_mem _ ih
@[simp] def bMin (d : D) : Res D := match seqOf d with
  | some ds => (match dInts ds with
    | some (n :: ns) => .ok (.int (lmin (n :: ns)))
    | _ => .bad)
  | none => .bad
@[simp] def bMax (d : D) : Res D := match seqOf d with
  | some ds => (match dInts ds with
    | some (n :: ns) => .ok (.int (lmax (n :: ns)))
    | _ => .bad)
  | none => .bad
/-- the first place of n -/
def ixOf (n : Int) : List Int → Option Nat
  | [] => none
  | m :: ms => if m = n then some 0 else (ixOf n ms).map (· + 1)
theorem ixOf_some {n : Int} : ∀ {ms : List Int} {j : Nat}, ixOf n ms = some j → ms[j]? = some n ∧ ∀ (i : Nat) (m : Int), i < j → ms[i]? = some m → m ≠ n
  | [], j, h => by cases h
  | m :: ms, j, h => by
    unfold ixOf at h
    split at h
    · rename_i e
      cases h
      exact ⟨by simp [e], fun i m hi => by omega⟩
    · rename_i e
      cases q : ixOf n ms with
      | none => rw [q] at h; cases h
      | some k =>
        rw [q] at h
        have h : some (k + 1) = some j := h
        cases h
        obtain ⟨h1, h2⟩ := ixOf_some q
        refine ⟨by simpa using h1, fun i m' hi hm => ?_⟩
        cases i with
        | zero => simp at hm; rw [← hm]; exact e
        | succ i => exact h2 i m' (by omega) (by simpa using hm)
theorem ixOf_mem {n : Int} : ∀ {ms : List Int}, n ∈ ms → ∃ j, ixOf n ms = some j ∧ j < ms.length
  | m :: ms, h => by
    unfold ixOf
    split
    · exact ⟨0, rfl, by simp⟩
    · rename_i e
      obtain ⟨j, h1, h2⟩ := ixOf_mem (n := n) (ms := ms) (by simpa [Ne.symm e] using h)
      exact ⟨j + 1, by rw [h1]; rfl, by simpa using h2⟩
@[simp] def gIdx (ds : List D) (e : D) : Res D := match dInts ds with
  | some ns => (match e with
    | .int n => (match ixOf n ns with
      | some j => .ok (.int (j : Nat))
      | none => .bad)
    | _ => .bad)
  | none => .bad
@[simp] def sIdx (fa fb : Sl → Res D) (ρ : Sl) : Res D := (fa ρ).bind fun d => match seqOf d with
  | some ds => (fb ρ).bind fun e => gIdx ds e
  | none => .bad
section
variable {K : Frg} {mg : Mg}
theorem b_min : U1 K mg (fun v => rMin K [v]) bMin := fun S σ H v d W Q i hx q => by
  unfold bMin at q
  split at q
  · rename_i ds e
    split at q
    · rename_i n ns e2
      obtain ⟨p, vs, rfl, h1, h2⟩ := hx.seq i e
      rw [dInts_map e2] at h2
      rw [h2.ints] at h1
      refine ⟨p, n :: ns, rfl, h1, by simp, fun m hm hle => ?_⟩
      have e3 : m = lmin (n :: ns) := by
        have a1 := lmin_le hm
        have a2 := hle _ (lmin_mem (ns := n :: ns) (by simp))
        omega
      rw [e3]
      exact q _ _ _ (Gr.refl i) (.int _)
    · exact q.elim
  · exact q.elim
theorem b_max : U1 K mg (fun v => rMax K [v]) bMax := fun S σ H v d W Q i hx q => by
  unfold bMax at q
  split at q
  · rename_i ds e
    split at q
    · rename_i n ns e2
      obtain ⟨p, vs, rfl, h1, h2⟩ := hx.seq i e
      rw [dInts_map e2] at h2
      rw [h2.ints] at h1
      refine ⟨p, n :: ns, rfl, h1, by simp, fun m hm hle => ?_⟩
      have e3 : m = lmax (n :: ns) := by
        have a1 := lmax_le hm
        have a2 := hle _ (lmax_mem (ns := n :: ns) (by simp))
        omega
      rw [e3]
      exact q _ _ _ (Gr.refl i) (.int _)
    · exact q.elim
  · exact q.elim
end
section
variable {X : Cx} {hx : Hx} {W : WX} {o e : Expr} {apos cpos : Pos} {fa fb : Sl → Res D}
theorem me_idx (ho : MR X hx W o fa) (he : MR X hx W e fb) (h : ∀ {to t}, PE X o to → PE X e t → PE X (.Call (.Attribute o "index" apos) [e] [] cpos) (tBM X.K "list" (rIndex X.K) to (tCons t tNil)) := by
      intro to t ho ht; exact pe_bm PySem.F.plainAttrs_list PySem.F.slot_list_index PySem.F.type_list_index mt_index ho (pa_cons ht pa_nil)) :
    ME X hx W (.Call (.Attribute o "index" apos) [e] [] cpos) (sIdx fa fb) := pe_imp (h ho he) fun σ H Q ⟨b, S, ρ, R, q⟩ => ⟨b, S, ρ, R, q.bind fun d v S1 H1 g1 r1 k => by
    split at k
    · rename_i ds e0
      obtain ⟨p, vs, rfl, h1, h2⟩ := r1.seq g1.i e0
      refine ⟨.inl ⟨rfl, _, h1⟩, b, S1, ρ, R.grow g1, (k.upE g1).bind fun d2 v2 S2 H2 g2 r2 k2 => ?_⟩
      unfold gIdx at k2
      split at k2
      · rename_i ns e2
        split at k2
        · rename_i n
          split at k2
          · rename_i j e3
            rw [dInts_map e2] at h2
            have h1 := same_l g2.h h1
            rw [h2.ints] at h1
            obtain ⟨i1, i2⟩ := ixOf_some e3
            have ei : v2 = .int n := r2.int
            subst ei
            refine ⟨p, ns.map V.int, .int n, j, .int n, rfl, rfl, h1, rfl, by simp [flatV], by rw [List.getElem?_map, i1]; rfl, by simp [eqV], fun m z hm hz => ?_, k2 _ S2 H2 g2 (.int _)⟩
            rw [List.getElem?_map] at hz
            cases e4 : ns[m]? with
            | none => rw [e4] at hz; cases hz
            | some m' =>
              rw [e4] at hz
              cases hz
              have := i2 m m' hm e4
              simp [eqV, this]
          · exact k2.elim
        · exact k2.elim
      · exact k2.elim
    · exact k.elim⟩
/-- list(range(n)), list(range(a, b)) -/
@[simp] noncomputable def fLRg (fs : Sl → Res (List D)) (ρ : Sl) : Res (List D) := (fs ρ).bind fun ds => match ds with
  | [.int j] => if cb (-(2 ^ 62) ≤ j ∧ j ≤ 16777216) then .ok (rngD 0 j.toNat) else .bad
  | _ => .bad
theorem rgV_map (a b : Int) : rgV a b = (List.range (b - a).toNat).map fun (k : Nat) => V.int (a + (k : Int)) := rfl
theorem rpa_rg {K : Frg} {mg : Mg} {S : Hp} (a : Int) : ∀ (l : List Nat), RpA K mg S (l.map fun (k : Nat) => V.int (a + (k : Int))) (l.map fun (k : Nat) => D.int (a + (k : Int)))
  | [] => .nil
  | k :: l => .cons (.int _) (rpa_rg a l)
theorem mf_lrg {a : Expr} {fs : Sl → Res D} {p pos p2 pos2 : Pos} (hc : X.calm = true) (hm : X.mg "list" = none) (hm2 : X.mg "range" = none) (ha : ME X hx W a fs) (hg : Gl X "list" := by rfl) (hg2 : Gl X "range" := by rfl) (na : starEach [a] X.env = (false, eval a X.env) :: starEach [] X.env := by rfl)
    (nb : starEach [.Call (.Name "range" p2) [a] [] pos2] X.env = (false, eval (.Call (.Name "range" p2) [a] [] pos2) X.env) :: starEach [] X.env := by rfl) : MF X hx W (.Call (.Name "list" p) [.Call (.Name "range" p2) [a] [] pos2] [] pos) (fLRg (aCons fs aNil)) :=
  pe_imp (pe_listRg hc hg hm (prg_1 hg2 hm2 ha na) nb) fun σ H Q ⟨b, S, ρ, R, q⟩ => ⟨b, S, ρ, R, by
    unfold fLRg aCons aNil at q
    cases ef : fs ρ with
    | exc y ys => rw [ef] at q; exact q
    | bad => rw [ef] at q; exact q.elim
    | ok d =>
      rw [ef] at q
      intro v S1 H1 g1 r1
      have q : Po X.K X.mg (rrF X.K X.mg) W S σ H (match [d] with | [.int j] => if cb (-(2 ^ 62) ≤ j ∧ j ≤ 16777216) then .ok (rngD 0 j.toNat) else .bad | _ => .bad) Q := q
      cases d with
      | int j =>
        cases r1
        have q : Po X.K X.mg (rrF X.K X.mg) W S σ H (if cb (-(2 ^ 62) ≤ j ∧ j ≤ 16777216) then .ok (rngD 0 j.toNat) else .bad) Q := q
        split at q
        · rename_i hb0
          have hb := of_cb hb0
          refine ⟨j, rfl, ⟨by omega, by omega, by omega, by omega, by omega⟩, fun p hp => ?_⟩
          have hs : S1 p = none := same_none g1.i hp
          refine q (.ref p) S1 _ (g1.trans (Gr.lay g1.i hp)) ⟨p, _, rfl, same_none g1.h hp, hs, upd_same, ?_⟩
          rw [rgV_map, Int.sub_zero]
          exact rpa_rg 0 _
        · exact q.elim
      | _ => exact q.elim⟩
end
end PF

set_option Elab.async false
set_option linter.all false
set_option maxRecDepth 100000
set_option maxHeartbeats 4000000
/-! The head's facts of classes, as Bools of the written part. -/
namespace PF
open PySem PySem.Spec L2 PyProof.Rows
/-- one method of the text, without defaults -/
def dM (c m : Str) (q : Str) (st : Stmt) : He.DefD := ⟨(c, some m), m, q, defArgs st, defBody st, defScope st, [], []⟩
def sM (c m : Str) (q : Str) (st : Stmt) : SDef := ⟨(c, some m), m, q, defArgs st, defBody st, defScope st, c⟩
/-- the body of a class of the text -/
def clsBody (s : Stmt) : List Stmt := match s with
  | .ClassDef _ _ _ b _ _ _ _ _ _ _ => b
  | _ => []
theorem lkA {α : Type} {x y : Str} {b b' : α} {r : List (Str × α)} (h : List.lookup x ((y, b) :: r) = some b') : (x = y ∧ b' = b) ∨ List.lookup x r = some b' := by
  unfold List.lookup at h
  split at h
  · rename_i e
    exact .inl ⟨eq_of_beq e, (Option.some.inj h).symm⟩
  · exact .inr h
theorem lkN {α : Type} {x : Str} {b' : α} (h : List.lookup x ([] : List (Str × α)) = some b') : False := by cases h
section
variable {K : Frg} {mg : Mg} {h : Heap}
/-- the class named c has the method m, the def at p -/
def methB (K : Frg) (c m : Str) (p : Str × Option Str) : Bool := He.eqO (PySem.W.findIn K (.ref (He.ga K c)) m) (some (some (.ref (He.fAd K p)))) && (PySem.W.isFn K (.ref (He.fAd K p)) && PySem.W.keepIn K (.ref (He.fAd K p)))
theorem methB_ok {c m : Str} {p : Str × Option Str} (q : methB K c m p = true) : Meth K (He.ga K c) m (He.fAd K p) := by
  obtain ⟨c1, c⟩ := He.ba q
  obtain ⟨c2, c3⟩ := He.ba c
  exact ⟨He.eqO_ok c1, c2, c3⟩
def mkB (K : Frg) (c : Str) (p : Str × Option Str) : Bool := PySem.W.makesIn K (He.ga K c) && (He.eqO (PySem.W.findIn K (.ref (He.ga K c)) "__init__") (some (some (.ref (He.fAd K p)))) && (PySem.W.isFn K (.ref (He.fAd K p)) && PySem.W.keepIn K (.ref (He.ga K c))))
theorem mkB_ok {c : Str} {p : Str × Option Str} (q : mkB K c p = true) : Mk K (He.ga K c) (He.fAd K p) := by
  obtain ⟨c1, c⟩ := He.ba q
  obtain ⟨c2, c⟩ := He.ba c
  obtain ⟨c3, c4⟩ := He.ba c
  exact ⟨c1, He.eqO_ok c2, c3, c4⟩
/-- a constant of the class named c, read through an instance -/
def conB (K : Frg) (c f : Str) (d : D) : Bool := match PySem.W.findIn K (.ref (He.ga K c)) f, scV d with
  | some (some u), some v => He.relB v u && (He.eqO (PySem.W.specialIn K u "__get__") (some none) && !(PySem.W.copiedNames.contains f))
  | _, _ => false
theorem conB_ok {c f : Str} {d : D} (q : conB K c f d = true) : ∃ v u, scV d = some v ∧ Con K (He.ga K c) f v u := by
  unfold conB at q
  split at q
  · rename_i u v e1 e2
    obtain ⟨c1, c⟩ := He.ba q
    obtain ⟨c2, c3⟩ := He.ba c
    exact ⟨v, u, e2, e1, He.relB_ok c1, He.eqO_ok c2, by simpa using c3⟩
  · cases q
/-- .. read through the class itself -/
def cconB (K : Frg) (c f : Str) (d : D) : Bool := PySem.W.readsIn K (He.ga K c) (.type "type") && (He.eqO (PySem.W.specialIn K (.ref (He.ga K c)) "__getattribute__") (some (some (.builtin "type.__getattribute__"))) && (match PySem.W.findCls K (.ref (He.ga K c)) (.type "type") f, scV d with
  | some (.val u), some v => He.relB v u
  | _, _ => false))
theorem cconB_ok {c f : Str} {d : D} (hg : mg c = some (.ref (He.ga K c))) (q : cconB K c f d = true) : CcT K mg c f d := by
  obtain ⟨c1, c⟩ := He.ba q
  obtain ⟨c2, c3⟩ := He.ba c
  split at c3
  · rename_i u v e1 e2
    exact ⟨_, .type "type", v, u, hg, e2, ⟨c1, He.eqO_ok c2⟩, ⟨e1, He.relB_ok c3⟩⟩
  · cases c3
/-- isinstance of an object of the class named a; the class named c -/
def isB (K : Frg) (a c : Str) (b : Bool) : Bool := (He.Fa.cls a).ok K && (He.eqO (PySem.W.findIn K (.ref (He.ga K a)) "__class__") (some (some (.builtin "object.__class__"))) && (He.eqO (PySem.W.specialIn K (.builtin "object.__class__") "__get__") (some (some (.builtin "getset_descriptor.__get__"))) && (decide (PySem.W.takesIn K (.builtin "object.__class__") = some true) &&
  (decide (PySem.W.mroIn K (He.ga K a) (.type "object") = some true) && decide (PySem.W.kitOne K (.ref (He.ga K a)) (.ref (He.ga K c)) = some b)))))
theorem isB_ok {a c : Str} {b : Bool} (q : isB K a c b = true) : IsF K (He.ga K a) (He.ga K c) b := by
  obtain ⟨c1, q⟩ := He.ba q
  obtain ⟨c2, q⟩ := He.ba q
  obtain ⟨c3, q⟩ := He.ba q
  obtain ⟨c4, q⟩ := He.ba q
  obtain ⟨c5, c6⟩ := He.ba q
  exact ⟨He.cls_ok c1, He.eqO_ok c2, He.eqO_ok c3, of_decide_eq_true c4, of_decide_eq_true c5, of_decide_eq_true c6⟩
/-- super() in a def of the class named d, on an instance of the class named c, leads to the def at p -/
def supB (K : Frg) (c d : Str) (p : Str × Option Str) : Bool := decide (PySem.W.mroIn K (He.ga K c) (.ref (He.ga K d)) = some true) && (decide (PySem.W.ks_superIn K (He.ga K c) (He.ga K d) "__init__" = some (some (.ref (He.fAd K p)))) && (decide (PySem.W.typeIn K (.ref (He.fAd K p)) = some (.type "function")) && (PySem.W.fnIn K (He.fAd K p) && He.eqO (PySem.W.nsIn K PySem.cStatics "thirdparty.any") (some none))))
theorem supB_ok {c d : Str} {p : Str × Option Str} (q : supB K c d p = true) : SupC K (He.ga K c) (He.ga K d) (He.fAd K p) := by
  obtain ⟨c1, q⟩ := He.ba q
  obtain ⟨c2, q⟩ := He.ba q
  obtain ⟨c3, q⟩ := He.ba q
  obtain ⟨c4, c5⟩ := He.ba q
  exact ⟨of_decide_eq_true c1, of_decide_eq_true c2, of_decide_eq_true c3, c4, He.eqO_ok c5⟩
def clsInB (K : Frg) (c : Str) : Bool := (PySem.W.clsIn K (He.ga K c)).isSome
theorem clsInB_ok {c : Str} (q : clsInB K c = true) : ∃ cd, PySem.W.clsIn K (He.ga K c) = some cd := Option.isSome_iff_exists.mp q
end
end PF

set_option Elab.async false
set_option linter.all false
set_option maxRecDepth 100000
set_option maxHeartbeats 4000000
/-! Exceptions of own classes over ValueError whose __init__ says super().__init__(..) and sets fields: the making, raise, isinstance, e.f. -/
namespace PF
open PySem PySem.Spec L2 PyProof.Rows NdefX PySem.W ClX

/-! ### ValueError.__init__ bound to an instance by super() -/
abbrev veW (x : Addr) : Obj := { cls := .type "method-wrapper", dict := none, data := .fields #[.builtin "ValueError.__init__", .ref x], slots := #[] }
theorem ve_type : typeOf (.builtin "ValueError.__init__") = pure (.type "wrapper_descriptor") := by
  show builtinType _ = _
  rw [builtinType_eq_fast]
  kernel_rfl
theorem ve_args (b c : Value) : argsOk "wrapper_descriptor.__get__" ⟨[.builtin "ValueError.__init__", b, c], []⟩ := by
  unfold argsOk
  kernel_rfl
theorem ve_name : (kfb_private% "nameAndClass") (Value.builtin "ValueError.__init__") = (pure (("__init__" : Str), Value.type "ValueError") : Sem (Str × Value)) := by kernel_rfl
section
variable {prog : Program} {w : World} {M : Model} {A : Around} {E : Value → Shared → Prop} {h : Heap} {g : Array GenState} {d : Drawn} {t : Nat} {os : OsState}
theorem ve_get {x C : Addr} {P : Fin → Shared → Prop} (hin : W.Looks M h (isInstance (.ref x) (.type "ValueError")) true) (hq : P (.done (.ret (.ref h.objs.size))) ⟨h.push (veW x), g, d, t, os⟩) :
    wpAny M A (Builtin.«wrapper_descriptor.__get__» ⟨[.builtin "ValueError.__init__", .ref x, .ref C], []⟩) P E ⟨h, g, d, t, os⟩ := by
  unfold Builtin.«wrapper_descriptor.__get__»
  have e1 := @wpAny_of_eq
  refine wpAny_bind (wpAny_of_eq (a := (.builtin "ValueError.__init__", some (.ref x), some (.ref C))) (by first | rfl | kernel_rfl) ?_)
  show wpAny M A ((kfb_private% "checkInstance") (.builtin "ValueError.__init__") (.ref x) >>= fun _ => newFields "method-wrapper" [.builtin "ValueError.__init__", .ref x] >>= fun r => ret r) P E _
  refine wpAny_bind ?_
  show wpAny M A ((kfb_private% "nameAndClass") (.builtin "ValueError.__init__") >>= _) _ E _
  refine wpAny_bind (wpAny_of_eq ve_name ?_)
  show wpAny M A (isInstance (.ref x) (.type "ValueError") >>= _) _ E _
  refine wpAny_bind (hin.at ?_)
  refine KFB.if_not rfl (wpAny_pure ?_)
  exact wpAny_bind (wpAny_newObj_type (wpAny_pure hq))
theorem ve_ga {so D x C : Addr} {l₀ l : List Value} {K : PySem.W.Frag} {tk : Tok} {Q : Fin → Shared → Prop}
    (hso : h.get? so = some (ks_superObj D x C)) (hno : W.Looks (model prog w) h (opaqueClassAbove (.ref C)) none)
    (hC : W.Looks (model prog w) h (mroOf (.ref C)) l₀) (hl : (l₀.dropWhile (· != .ref D)).drop 1 = l) (X : K.In h)
    (hf : alongIn K "__init__" l = some (some (.builtin "ValueError.__init__"))) (hxC : x ≠ C) (hin : W.Looks (model prog w) h (isInstance (.ref x) (.type "ValueError")) true)
    (hq : Q (.done (.ret (.ref h.objs.size))) ⟨h.push (veW x), g, d, t, os⟩) :
    wpAny (model prog w) A (Builtin.«super.__getattribute__» ⟨[.ref so, .str "__init__" tk], []⟩) Q E ⟨h, g, d, t, os⟩ := by
  have hlk := PySem.ESX.slot_wd.lookup
  have hne : (Value.ref x == Value.ref C) = false := by simp [hxC]
  have hn : ((("__init__" : Str) == ("__class__" : Str))) = false := by decide
  have hTf := ve_type
  have hTi : Shared.TypeIs ⟨h, g, d, t, os⟩ (.builtin "ValueError.__init__") "wrapper_descriptor" := ve_type
  have hdt : (ks_superObj D x C).data = .fields #[.ref D, .ref x, .ref C] := rfl
  have f0 : (#[.ref D, .ref x, .ref C] : Array Value)[0]? = some (.ref D) := rfl
  have f1 : (#[.ref D, .ref x, .ref C] : Array Value)[1]? = some (.ref x) := rfl
  have f2 : (#[.ref D, .ref x, .ref C] : Array Value)[2]? = some (.ref C) := rfl
  unfold Builtin.«super.__getattribute__»
  repeat (first
    | with_reducible refine wpAny_field hso hdt f0 ?_
    | with_reducible refine wpAny_field hso hdt f1 ?_
    | with_reducible refine wpAny_field hso hdt f2 ?_
    | with_reducible refine ks_wpAny_notOpaque hno ?_
    | (with_reducible refine Looks.at hC ?_; rw [hl])
    | refine ks_forIn_along X (fun _ _ => rfl) rfl ?_ hf
    | with_reducible refine wpAny_call_entry PySem.ESX.slot_wd hTi PySem.ESX.entry_wd ?_ (ve_args _ _)
    | with_reducible refine ve_get hin ?_
    | with_reducible refine ⟨_, rfl, ?_⟩
    | simp only [hn, hne, Bool.or_false, Bool.false_eq_true, if_false]
    | wp_step
    | dsimp only)
  all_goals exact hq
theorem ve_method {so D x C : Addr} {l₀ l : List Value} {K : PySem.W.Frag} {pl : Sem Bool} {Q : Value × List Value → Shared → Prop}
    (hso : h.get? so = some (ks_superObj D x C)) (hno : W.Looks (model prog w) h (opaqueClassAbove (.ref C)) none)
    (hC : W.Looks (model prog w) h (mroOf (.ref C)) l₀) (hl : (l₀.dropWhile (· != .ref D)).drop 1 = l) (X : K.In h)
    (hf : alongIn K "__init__" l = some (some (.builtin "ValueError.__init__"))) (hxC : x ≠ C) (hin : W.Looks (model prog w) h (isInstance (.ref x) (.type "ValueError")) true)
    (hq : Q (.ref h.objs.size, []) ⟨h.push (veW x), g, d, t + 1, os⟩) :
    wpAny (model prog w) A (getMethod (.ref so) "__init__" pl) Q E ⟨h, g, d, t, os⟩ := by
  have hlk := F.ks_slot_super_ga.lookup
  have hT : ∀ t', (⟨h, g, d, t', os⟩ : Shared).TypeIs (.ref so) "super" := fun _ => ⟨_, hso, rfl⟩
  unfold getMethod
  refine wpAny_bind (wpAny_specialOf (hT _) hlk ?_)
  show wpAny _ _ (if (Manifest.canonical "super.__getattribute__" != "object.__getattribute__") = true then _ else _) _ _ _
  rw [if_pos F.ks_canon_super_ga]
  unfold getAttr getAttrBy
  refine wpAny_bind (wpAny_bind (wpAny_mkText (wpAny_holding (wpAny_bind (wpAny_typeOf (hT _) (wpAny_bind (wpAny_of_eq hlk ?_)))))))
  show wpAny _ _ (getAttrByItsOwn (.ref so) (.str "__init__" t) (.type "super") (.builtin "super.__getattribute__") true false) _ _ _
  unfold getAttrByItsOwn hookBefore callGetattribute boundAndCalled
  refine wpAny_bind (wpAny_of_eq (show (if onTheHeap (.type "super") then typeLookup (.type "super") "__getattr__" else pure none) = pure none from rfl) ?_)
  refine wpAny_bind (wpAny_attempt (wpAny_holding ?_))
  show wpAny _ _ (bindSpecial (.builtin "super.__getattribute__") (.ref so) >>= _) _ _ _
  refine wpAny_bind (wpAny_of_eq (F.ks_slot_super_ga.bind _) ?_)
  refine wpAny_mono (Q := fun v s' => v = .ref h.objs.size ∧ s' = ⟨h.push (veW x), g, d, t + 1, os⟩) (E := fun _ _ => False)
    (wpAny_call_entry F.ks_slot_super_ga (hT _) F.ks_entry_super_ga (ve_ga hso hno hC hl X hf hxC hin ⟨_, rfl, rfl, rfl⟩) (F.ks_gaArgs_super _ _)) (fun v s' hv => ?_) fun _ _ z => z.elim
  obtain ⟨rfl, rfl⟩ := hv
  exact wpAny_pure (wpAny_pure hq)
end
section
variable {M : Model} {A : Around} {E : Value → Shared → Prop} {s : Shared}
theorem ve_with {pos : Pos} {u x : Addr} {first : List Value} {env : Env} {e : Expr} {rest : List Expr} {Q : Value → Shared → Prop}
    (h : wpAny M A (spliced (backTo pos (starEach (e :: rest) env))) (fun vs s₁ => s₁.heap.get? u = some (veW x) ∧ wpAny M A (call (.ref u) (first ++ vs)) Q E s₁) E s)
    (he : starEach (e :: rest) env = (false, eval e env) :: starEach rest env) (hplain : (backTo pos (starEach rest env)).any (·.1) = false) :
    wpAny M A (callWith pos (.ref u) first (backTo pos (starEach (e :: rest) env)) []) Q E s := by
  rw [he] at h ⊢
  have hp : ((backTo pos ((false, eval e env) :: starEach rest env)).any (·.1)) = false := by
    show (false || (backTo pos (starEach rest env)).any (·.1)) = false
    rw [hplain]
    rfl
  have h2 : wpAny M A (evalArgs (.ref u) true (backTo pos ((false, eval e env) :: starEach rest env)) []) (fun a s₁ => s₁.heap.get? u = some (veW x) ∧ wpAny M A (call (.ref u) (first ++ a.pos) a.kw) Q E s₁) E s := PySem.Calls.evalArgs_plain h
  unfold callWith
  refine wpAny_bind (wpAny_holding (wpAny_mono h2 (fun a s₁ h₁ => wpAny_bind (wpAny_standAt ?_)) fun _ _ x => x))
  obtain ⟨ho, hcall⟩ := h₁
  simp only [hp, List.any_nil, Bool.or_false]
  refine wpAny_bind (m := keeperOf (.ref u)) ?_
  unfold keeperOf
  refine wpAny_bind (wpAny_load ho ?_)
  simp only [veW, show (Value.type "method-wrapper" != Value.type "method") = true by decide, show (Value.type "method-wrapper" == Value.type "builtin_function_or_method" || Value.type "method-wrapper" == Value.type "method-wrapper") = true by decide, if_true]
  refine wpAny_pure ?_
  exact wpAny_bind (wpAny_mono hcall (fun r s₂ hr => wpAny_bind (wpAny_holding (wpAny_point (wpAny_pure hr)))) fun _ _ x => x)
end
section
variable {prog : Program} {w : World} {A : Around} {E : Value → Shared → Prop} {h : Heap} {g : Array GenState} {d : Drawn} {t : Nat} {os : OsState}
variable {nm q : Str} {C N : Addr} {bs bm : List Value} {hdct : Bool} {sn : List Str} {sub : List Value} {ab : Bool} {col : Option Bool} {dd : Option Addr} {k0 k1 k2 k3 k5 : Option Value}
theorem ve_call0 {u e t0 : Addr} {rest : List Value} {Q : Value → Shared → Prop} (hbm : PySem.HandSPX.refsVE bm = true)
    (hC : h.get? C = some (excClassObj nm q C N bs bm hdct sn sub ab col dd k0 k1 k2 k3 k5 "ValueError.__new__")) (he : h.get? e = some (HandSPX.excO C t0)) (hu : h.get? u = some (veW e)) (hrest : rest.length ≤ sizeLine)
    (hq : ∀ h' t1, (∀ b o, b ≠ e → h.get? b = some o → h'.get? b = some o) → h'.get? e = some (HandSPX.excO C t1) → Q .none ⟨h', g, d, t, os⟩) :
    wpAny (model prog w) A (call (.ref u) rest) Q E ⟨h, g, d, t, os⟩ := by
  refine wpAny_call (codeAny_of_tree ?_)
  show wpAny _ A.in1 (callAny (.ref u) ⟨rest, []⟩) _ _ _
  simp only [callAny]
  refine wpAny_bind (wpAny_load hu ?_)
  simp only [veW, show (Value.type "method-wrapper" == Value.type "method" || Value.type "method-wrapper" == Value.type "builtin_function_or_method" || Value.type "method-wrapper" == Value.type "method-wrapper") = true by decide, if_true]
  refine W.KFB.if_so (by decide) ?_
  refine wpAny_bind (PySem.ESX.check_bound F.excBase_ValueError hC he rfl ?_)
  refine wpAny_bind (wpAny_pure (wpAny_pure ?_))
  refine ⟨Code.quiet_builtin _ (by decide +kernel), codeAny_builtin F.excBase_ValueError.initEntry ?_⟩
  rw [Around.under_plainId F.excBase_ValueError.init.plain _]
  wp_walk
  refine hq _ h.objs.size (fun b o hb ho => ?_) ?_
  · rw [Heap.get?_update_other _ _ (Ne.symm hb)]
    exact Heap.get?_push_of_some _ ho
  · rw [Heap.get?_update_self _ (Heap.get?_push_of_some _ he) rfl]
    rfl
end
section
variable {X : Cx} {pins : List (Addr × Obj)} {σ : L2.St} {H : Hp} {s : Shared} {u a C : Addr} {A : Around} {E : Value → Shared → Prop}
theorem ve_run {us : List Value} {Q : Value → Shared → Prop} (T : OexC X.K C) (I : Inv X pins σ H s) (e : H a = some (exo a C none)) (hu : s.heap.get? u = some (veW a)) (hl : us.length ≤ sizeLine) (h : ∀ s', Inv X pins σ H s' → Q .none s') :
    wpAny (model X.prog X.w) A (call (.ref u) us) Q E s := by
  obtain ⟨nm, q, N, bs, bm, sn, sub, ab, col, dd, k0, k1, k2, k3, k5, hC, hbm⟩ := T.cls
  obtain ⟨t1, ho⟩ := exo_at I.hok e
  obtain ⟨hp, g, d, t, os⟩ := s
  refine ve_call0 hbm (I.kIn _ _ hC) ho hu hl fun h' t2 k hx => ?_
  have J := I.write (t' := t) (x := a) (e := a) (o := exo a C none) (by rw [e]; exact True.intro) (.inl rfl) k ⟨_, hx⟩ (exo_ok hx)
  have eu : upd H a (exo a C none) = H := funext fun b => by
    by_cases hb : b = a
    · rw [hb, upd_same, e]
    · rw [upd_ne hb]
  rw [eu] at J
  exact h _ J
end
/-! ### super().__init__(e) as a statement -/
structure SupX (K : Frg) (C D : Addr) : Prop where
  sub : mroIn K C (.ref D) = some true
  ve : mroIn K C (.type "ValueError") = some true
  nx : ks_superIn K C D "__init__" = some (some (.builtin "ValueError.__init__"))
  st : nsIn K cStatics "thirdparty.any" = some none
section
variable {X : Cx} {f cda cc D C : Addr} {me : Str} {e : Expr} {es : List Expr} {t : TA} {p0 p1 apos pos spos : Pos} {pins : List (Addr × Obj)} {s : Shared} {σ : L2.St} {H : Hp} {x : Addr} {body : List Stmt}
theorem xsup_stmt {Dn : Ends} (Su : SupF X f cda cc D me) (Sc : SupX X.K C D) (T : OexC X.K C) (ha : PA X (e :: es) t)
    (I : Inv X pins σ H s) (hN : X.N[0]? = some me) (hσ : σ[0]? = some (some (.ref x))) (hV : Vis X.env.scope me) (hH : H x = some (exo x C none))
    (h : t σ H fun vs H1 => vs.length ≤ 1000 ∧ H1 x = some (exo x C none) ∧ Dn.nx σ H1)
    (he : starEach (e :: es) X.env = (false, eval e X.env) :: starEach es X.env) (hpl : (backTo pos (starEach es X.env)).any (·.1) = false)
    (hs : swapsWith (.Call (.Attribute (.Call (.Name "super" p0) [] [] p1) "__init__" apos) (e :: es) [] pos) none spos.line X.env = pure false)
    (hev : eval (.Call (.Attribute (.Call (.Name "super" p0) [] [] p1) "__init__" apos) (e :: es) [] pos) X.env = (do
      let ov ← attributeBase (.Call (.Name "super" p0) [] [] p1) "__init__" X.env (eval (.Call (.Name "super" p0) [] [] p1) X.env)
      standAt apos.atName
      let (f, first) ← holding [ov] (getMethod ov "__init__" (pure false))
      callWith pos f first (backTo pos (starEach (e :: es) X.env)) [])) :
    _root_.PySem.wpAt (model X.prog X.w) X.A (.func body X.env) (exec (.Expr (.Call (.Attribute (.Call (.Name "super" p0) [] [] p1) "__init__" apos) (e :: es) [] pos) spos) X.env) (SP X pins Dn) X.xe s := by
  have KX := I.kIn
  obtain ⟨oc, od, fd, osl, ar, lf, hp, har⟩ := Su.fd
  obtain ⟨ccl, cdd, vs, ccs, file, tf, lc, hvs, hfile⟩ := Su.code
  obtain ⟨cl, cld, csl, lcc⟩ := Su.cell
  obtain ⟨cdD, hcd⟩ := Su.cls
  obtain ⟨oD, hD1, hD2⟩ := cls_at KX hcd
  obtain ⟨t1, ho⟩ := exo_at I.hok hH
  have IA : InstAt s.heap x { cls := .ref C, dict := none, data := .fields #[.ref t1, .none, .none, .none, .bool false, .none] } C none := ⟨ho, rfl, rfl, trivial⟩
  refine ks_wpAt_Expr_any (ks_wpAt_MethodCall (pl := pure false) ?_ hev) I.quiet hs
  refine ks_wpAt_super_base Su.ks Su.kc (by decide) Su.fu (KX _ _ lf) rfl hp Su.co (KX _ _ lc) rfl hvs hfile Su.top ?_
  obtain ⟨mb, hb1, hb2⟩ := I.mod.blt
  refine ks_loadName_global I.ok.kind Su.ks (Calls.loadGlobal_builtin (by rw [I.ok.glob]; exact I.mod.glob.keeps I.bk) Su.glo (by rw [I.ok.blt]; exact hb1.keeps I.bk) ((hb2 "super" (by decide)).trans boot_super) ⟨rfl, ?_⟩)
  refine wpAny_loadName_free I.ok.kind Su.kc Su.cl ⟨_, KX _ _ lcc, rfl⟩ ?_
  obtain ⟨m, hns, hl⟩ := I.loc
  obtain ⟨u, ru, lk⟩ := hl 0 me (.ref x) hN hσ hV
  obtain rfl : u = Value.ref x := ru
  have hm : m me = some (.ref x) := by
    rcases lk with ⟨_, q⟩ | ⟨q, _⟩
    · exact q
    · rw [Su.km] at q
      rcases q with q | q <;> cases q
  rw [har]
  refine wpAny_loadName_local I.ok.kind Su.km hns hm ?_
  refine ks_wpAny_isType_cls hD1 hD2 ⟨rfl, ?_⟩
  refine ks_wpAny_call_super hD1 hD2 IA.at_ IA.cls (fun c q => by cases q) (looks_mroIn KX Sc.sub) (fun h' e1 k1 => ?_)
  have I1 : Inv X pins σ H { s with heap := h', toks := s.toks } := I.kept (t' := s.toks) k1
  have KX1 := I1.kIn
  have nx := Sc.nx
  unfold ks_superIn at nx
  cases hc : clsIn X.K C with
  | none => rw [hc] at nx; cases nx
  | some cd =>
    rw [hc] at nx
    obtain ⟨t2, ho1⟩ := exo_at I1.hok hH
    have IA1 : InstAt h' x { cls := .ref C, dict := none, data := .fields #[.ref t2, .none, .none, .none, .bool false, .none] } C none := ⟨ho1, rfl, rfl, trivial⟩
    refine ve_method e1 (looks_opaque KX1 Sc.st) (l₀ := cd.mro) ?_ rfl KX1 nx (ks_ne KX IA hc) (IA1.type.andThen (looks_mroIn KX1 Sc.ve)) ?_
    · exact fun A Q E s k q => wpAny_bind ((looks_clsIn KX1 hc) A _ E s k (wpAny_pure q))
    · have I2 : Inv X ((h'.objs.size, veW x) :: pins) σ H { s with heap := h'.push (veW x), toks := s.toks + 1 } :=
        pin_new (s := { s with heap := h', toks := s.toks }) I1 (fun _ _ z => Heap.get?_push_of_some _ z) (Nat.le_refl _) (Heap.get?_push_size h' rfl) (fun v z => nomatch z)
      refine ve_with (thn (ha.run pos _ _ σ H _ I2 h) fun us s3 ⟨ws, H1, I3, r, hlen, hx3, q⟩ => ⟨pin_at I3, ?_⟩) he hpl
      exact ve_run T I3 hx3 (pin_at I3) (by show us.length ≤ sizeLine; rw [← Paired.length r, sizeLine_eq]; omega) fun s4 J => ⟨σ, H1, unpin J, q⟩
end
end PF

set_option Elab.async false
set_option linter.all false
set_option maxRecDepth 100000
set_option maxHeartbeats 4000000
/-! The data-level reading of an exception's own __init__; raise of it; isinstance and e.f of a caught one. -/
namespace PF
open PySem PySem.Spec L2 PyProof.Rows NdefX PySem.W ClX

theorem exo_lst {e C : Addr} {d : Option Addr} {vs : List V} : exo e C d ≠ .lst vs := fun z => by
  have z' : HO.ext _ = HO.lst vs := z
  cases z'
theorem exd_lst {e : Addr} {fs : List (Str × V)} {vs : List V} : exd e fs ≠ .lst vs := fun z => by
  have z' : HO.ext _ = HO.lst vs := z
  cases z'
/-- the object at x is no list and stands apart from what the frame knows: it may change -/
theorem Rel.updX {K : Frg} {mg : Mg} {b : Bs} {S H : Hp} {ρ : Sl} {σ : L2.St} {x : Addr} {o : HO} (R : Rel K mg none b S ρ σ H) (hb : b.H0 x = none) (hs : S x = none) (hn : ∀ vs, H x ≠ some (.lst vs)) : Rel K mg none b S ρ σ (upd H x o) where
  s0 := R.s0
  sh := fun a u e => by
    rw [upd_ne (fun z => by rw [z, hs] at e; cases e)]
    exact R.sh a u e
  h0 := fun a u e => by
    rw [upd_ne (fun z => by rw [z, hb] at e; cases e)]
    exact R.h0 a u e
  nw := R.nw
  len := R.len
  val := R.val
  own := fun i ds e => by
    obtain ⟨p, vs, h1, h2, h3⟩ := R.own i ds e
    refine ⟨p, vs, h1, ?_, h3⟩
    rw [upd_ne (fun z => hn vs (by rw [← z]; exact h2))]
    exact h2
  xc := fun i c fs e => by
    obtain ⟨a, C, dx, h1, _⟩ := R.xc i c fs e
    cases h1
  apart := R.apart
/-- an exception that is being made, beside what the frame knows -/
structure StX (K : Frg) (mg : Mg) (b : Bs) (S : Hp) (ρ : Sl) (σ : L2.St) (H : Hp) (x C : Addr) (fl : Fl) : Prop where
  R : Rel K mg none b S ρ σ H
  hb : b.H0 x = none
  hs : S x = none
  at_ : (fl = [] ∧ H x = some (exo x C none)) ∨ ∃ dx fv, fl ≠ [] ∧ dx ≠ x ∧ H x = some (exo x C (some dx)) ∧ H dx = some (exd dx fv) ∧ S dx = none ∧ b.H0 dx = none ∧ RpF K mg S fv fl
theorem StX.grow {K : Frg} {mg : Mg} {b : Bs} {S H S' H' : Hp} {ρ : Sl} {σ : L2.St} {x C : Addr} {fl : Fl} (st : StX K mg b S ρ σ H x C fl) (g : Gr S H S' H') : StX K mg b S' ρ σ H' x C fl where
  R := st.R.grow g
  hb := st.hb
  hs := g.n x (by rcases st.at_ with ⟨_, e⟩ | ⟨dx, fv, _, _, e, _⟩ <;> rw [e] <;> simp) st.hs
  at_ := by
    rcases st.at_ with ⟨h, e⟩ | ⟨dx, fv, h0, h1, h2, h3, h4, h5, h6⟩
    · exact .inl ⟨h, g.h _ _ e⟩
    · exact .inr ⟨dx, fv, h0, h1, g.h _ _ h2, g.h _ _ h3, g.n dx (by rw [h3]; simp) h4, h5, h6.up g.s⟩
abbrev GX := Fl → Sl → Res Fl
def PoX (K : Frg) (mg : Mg) (b : Bs) (S : Hp) (ρ : Sl) (σ : L2.St) (x C : Addr) (r : Res Fl) (D : Ends) : Prop := match r with
  | .ok fl => ∀ S' H', Same S S' → StX K mg b S' ρ σ H' x C fl → D.nx σ H'
  | _ => False
def tX (K : Frg) (mg : Mg) (cs : List Str) (x : Addr) (g : GX) : TS := fun D σ H => ∃ b S ρ C fl, StX K mg b S ρ σ H x C fl ∧ InC mg cs C ∧ σ[0]? = some (some (.ref x)) ∧ PoX K mg b S ρ σ x C (g fl ρ) D
abbrev NX (X : Cx) (cs : List Str) (st : Stmt) (g : GX) : Prop := ∀ x, PS X st (tX X.K X.mg cs x g)
abbrev NXs (X : Cx) (cs : List Str) (st : List Stmt) (g : GX) : Prop := ∀ x, PSs X st (tX X.K X.mg cs x g)
def NXa (X : Cx) (cs : List Str) (body : List Stmt) (st : Stmt) (g : GX) : Prop := ∀ x (pins : List (Addr × Obj)) (s : Shared) (σ : L2.St) (H : Hp) (D : Ends), Inv X pins σ H s → tX X.K X.mg cs x g D σ H →
  _root_.PySem.wpAt (model X.prog X.w) X.A (.func body X.env) (exec st X.env) (SP X pins D) X.xe s
def NXas (X : Cx) (cs : List Str) (body : List Stmt) (sts : List Stmt) (g : GX) : Prop := ∀ x (pins : List (Addr × Obj)) (s : Shared) (σ : L2.St) (H : Hp) (D : Ends), Inv X pins σ H s → tX X.K X.mg cs x g D σ H →
  _root_.PySem.wpAt (model X.prog X.w) X.A (.func body X.env) (execs sts X.env) (SP X pins D) X.xe s
theorem PoX.up {K : Frg} {mg : Mg} {b : Bs} {S S1 : Hp} {ρ : Sl} {σ : L2.St} {x C : Addr} {r : Res Fl} {D : Ends} (e : Same S S1) (h : PoX K mg b S ρ σ x C r D) : PoX K mg b S1 ρ σ x C r D := by
  cases r with
  | ok fl => exact fun S' H' q st => h S' H' (e.trans q) st
  | exc y ys => exact h
  | bad => exact h
@[simp] def xNil : GX := fun fl _ => .ok fl
@[simp] def xSeq (g h : GX) : GX := fun fl ρ => (g fl ρ).bind fun fl' => h fl' ρ
/-- self.f = e -/
@[simp] def xFld (f : Str) (fe : Sl → Res D) : GX := fun fl ρ => if fl.length < 100 then (fe ρ).bind fun d => .ok ((f, d) :: fl) else .bad
/-- super().__init__(..) -/
@[simp] def xSup (fs : Sl → Res (List D)) : GX := fun fl ρ => match fl with
  | [] => (fs ρ).bind fun ds => if ds.length ≤ 1000 then .ok [] else .bad
  | _ => .bad
/-- the exception classes cs let the field f be set -/
def XfT (K : Frg) (mg : Mg) (cs : List Str) (f : Str) : Prop := ∀ c ∈ cs, ∀ C, mg c = some (.ref C) → OexC K C ∧ PySem.W.findIn K (.ref C) f = some none
def XsT (K : Frg) (mg : Mg) (cs : List Str) (D : Addr) : Prop := ∀ c ∈ cs, ∀ C, mg c = some (.ref C) → OexC K C ∧ SupX K C D
section
variable {X : Cx} {cs : List Str} {st : Stmt} {rest : List Stmt} {g h : GX} {f : Str} {e : Expr} {pos pos' : Pos}
theorem nx_nil : NXs X cs [] xNil := fun x => pss_imp pss_nil fun D σ H ⟨b, S, ρ, C, fl, st, ic, h0, q⟩ => q S H (Same.refl _) st
theorem nx_cons (h1 : NX X cs st g) (h2 : NXs X cs rest h) : NXs X cs (st :: rest) (xSeq g h) := fun x => pss_imp (pss_cons (h1 x) (h2 x)) fun D σ H ⟨b, S, ρ, C, fl, st, ic, h0, q⟩ => by
  refine ⟨b, S, ρ, C, fl, st, ic, h0, ?_⟩
  unfold xSeq at q
  cases eg : g fl ρ with
  | ok fl' => rw [eg] at q; exact fun S' H' s1 st' => ⟨b, S', ρ, C, fl', st', ic, h0, PoX.up s1 q⟩
  | exc y ys => rw [eg] at q; exact q.elim
  | bad => rw [eg] at q; exact q.elim
theorem nx_fld {W : WX} {me : Str} {p : Pos} {fe : Sl → Res D} (ht : XfT X.K X.mg cs f) (hv : PE X (.Name me p) (tVar 0)) (he : ME X none W e fe) (hs : swapsWith e (some (.Attribute (.Name me p) f pos')) pos.line X.env = pure false := by rfl) : NX X cs (.Assign [.Attribute (.Name me p) f pos'] e pos) (xFld f fe) :=
  fun x => ps_imp (ps_ost hv he hs) fun D σ H ⟨b, S, ρ, C, fl, st, ⟨c, hc, hm⟩, h0, q⟩ => ⟨b, S, ρ, st.R, by
    obtain ⟨T, hno⟩ := ht c hc C hm
    unfold xFld at q
    split at q
    · rename_i hlen
      cases ef : fe ρ with
      | exc y ys => rw [ef] at q; exact q.elim
      | bad => rw [ef] at q; exact q.elim
      | ok d =>
        rw [ef] at q
        have q : ∀ S' H', Same S S' → StX X.K X.mg b S' ρ σ H' x C ((f, d) :: fl) → D.nx σ H' := q
        intro v S1 H1 g1 r1
        have st1 := st.grow g1
        refine ⟨_, h0, x, C, rfl, T, hno, ?_⟩
        rcases st1.at_ with ⟨e0, e1⟩ | ⟨dx, fv, _, n1, e1, e2, n2, n3, rp⟩
        · subst e0
          refine .inl ⟨e1, fun dx hn hne => q S1 _ g1.s ?_⟩
          have sdx : S1 dx = none := same_none st1.R.sh hn
          have bdx : b.H0 dx = none := same_none st1.R.h0 hn
          have R2 := st1.R.updX (o := exd dx [(f, v)]) bdx sdx (fun vs z => by rw [hn] at z; cases z)
          have hx2 : upd H1 dx (exd dx [(f, v)]) x = some (exo x C none) := by rw [upd_ne hne.symm]; exact e1
          refine ⟨R2.updX st1.hb st1.hs (fun vs z => by rw [hx2] at z; exact exo_lst (Option.some.inj z)), st1.hb, st1.hs, .inr ⟨dx, [(f, v)], by simp, hne, upd_same, ?_, sdx, bdx, .cons r1 .nil⟩⟩
          rw [upd_ne hne]
          exact upd_same
        · refine .inr ⟨dx, fv, e1, e2, by rw [rp.len]; omega, q S1 _ g1.s ⟨st1.R.updX n3 n2 (fun vs z => by rw [e2] at z; exact exd_lst (Option.some.inj z)), st1.hb, st1.hs, .inr ⟨dx, (f, v) :: fv, by simp, n1, ?_, upd_same, n2, n3, .cons r1 rp⟩⟩⟩
          rw [upd_ne n1.symm]
          exact e1
    · exact q.elim⟩
theorem nx_sup {body : List Stmt} {fa cda cc D : Addr} {me : Str} {W : WX} {es : List Expr} {fs : Sl → Res (List PF.D)} {p0 p1 apos spos : Pos} (Su : SupF X fa cda cc D me) (Sc : XsT X.K X.mg cs D) (ha : MA X none W (e :: es) fs)
    (hN : X.N[0]? = some me) (hV : Vis X.env.scope me)
    (he : starEach (e :: es) X.env = (false, eval e X.env) :: starEach es X.env := by rfl) (hpl : (backTo pos (starEach es X.env)).any (·.1) = false := by rfl)
    (hs : swapsWith (.Call (.Attribute (.Call (.Name "super" p0) [] [] p1) "__init__" apos) (e :: es) [] pos) none spos.line X.env = pure false := by rfl)
    (hev : eval (.Call (.Attribute (.Call (.Name "super" p0) [] [] p1) "__init__" apos) (e :: es) [] pos) X.env = (do
      let ov ← attributeBase (.Call (.Name "super" p0) [] [] p1) "__init__" X.env (eval (.Call (.Name "super" p0) [] [] p1) X.env)
      standAt apos.atName
      let (f, first) ← holding [ov] (getMethod ov "__init__" (pure false))
      callWith pos f first (backTo pos (starEach (e :: es) X.env)) []) := by rfl) :
    NXa X cs body (.Expr (.Call (.Attribute (.Call (.Name "super" p0) [] [] p1) "__init__" apos) (e :: es) [] pos) spos) (xSup fs) := fun x pins s σ H Dn I ⟨b, S, ρ, C, fl, st, ⟨c, hc, hm⟩, h0, q⟩ => by
  obtain ⟨T, SC⟩ := Sc c hc C hm
  unfold xSup at q
  split at q
  · rcases st.at_ with ⟨_, e1⟩ | ⟨dx, fv, n0, _⟩
    · refine xsup_stmt Su SC T ha I hN h0 hV e1 ⟨b, S, ρ, st.R, ?_⟩ he hpl hs hev
      cases ef : fs ρ with
      | exc y ys => rw [ef] at q; exact q.elim
      | bad => rw [ef] at q; exact q.elim
      | ok ds =>
        rw [ef] at q
        simp only [Res.bind_ok] at q
        split at q
        · rename_i hl
          intro vs S1 H1 g1 r1
          exact ⟨by rw [r1.len]; exact hl, g1.h _ _ e1, q S1 H1 g1.s (st.grow g1)⟩
        · exact q.elim
    · exact absurd rfl n0
  · exact q.elim
end
theorem nxas_cons {X : Cx} {cs : List Str} {body : List Stmt} {st : Stmt} {rest : List Stmt} {g h : GX} (h1 : NXa X cs body st g) (h2 : NXs X cs rest h) : NXas X cs body (st :: rest) (xSeq g h) := fun x pins s σ H D I ⟨b, S, ρ, C, fl, q0, ic, h0, q⟩ => by
  refine ks_wpAt_execs_cons (_root_.PySem.wpAt_mono (h1 x pins s σ H { nx := fun σ' H' => tX X.K X.mg cs x h D σ' H', rt := D.rt, bk := D.bk, ct := D.ct } I ⟨b, S, ρ, C, fl, q0, ic, h0, ?_⟩) (fun fo s' hs => ?_) fun _ _ e => e)
  · unfold xSeq at q
    cases eg : g fl ρ with
    | ok fl' => rw [eg] at q; exact fun S' H' s1 st' => ⟨b, S', ρ, C, fl', st', ic, h0, PoX.up s1 q⟩
    | exc y ys => rw [eg] at q; exact q.elim
    | bad => rw [eg] at q; exact q.elim
  · cases fo with
    | next =>
      obtain ⟨σ', H', I', t⟩ := hs
      exact wpAt_of_wpAny ((h2 x).run pins s' σ' H' D I' t)
    | ret u => exact hs
    | brk => exact hs
    | cont => exact hs
/-! ### the rule of the def -/
/-- what the body makes of its arguments: n slots; self's slot is not read -/
@[simp] def semX (n : Nat) (g : GX) (ds : List D) : Res Fl := g [] (.e :: ds.map Cell.v ++ List.replicate (n - (ds.length + 1)) .e)
def spX (K : Frg) (mg : Mg) (cs : List Str) (n : Nat) (g : List D → Res Fl) : Sp := fun vs H Q _ => ∃ ds S x C us, vs = .ref x :: us ∧ us.length = n ∧ H x = some (exo x C none) ∧ S x = none ∧ InC mg cs C ∧ Same S H ∧ RpA K mg S us ds ∧
  ∃ fl, g ds = .ok fl ∧ fl ≠ [] ∧ ∀ S' H' dx fv, Gx x S H S' H' → dx ≠ x → H dx = none → H' x = some (exo x C (some dx)) → H' dx = some (exd dx fv) → S' x = none → S' dx = none → RpF K mg S' fv fl → Q .non H'
theorem spX_len {K : Frg} {mg : Mg} {cs : List Str} {n : Nat} {g : List D → Res Fl} {vs H Q E} (h : spX K mg cs n g vs H Q E) : vs.length = n + 1 := by
  obtain ⟨ds, S, x, C, us, rfl, h1, _⟩ := h
  simp [h1]
/-- the base may be any heap below that is apart from no list of the frame -/
theorem Rel.rebase {K : Frg} {mg : Mg} {b : Bs} {S H H0 : Hp} {ρ : Sl} {σ : L2.St} (R : Rel K mg none b S ρ σ H) (ho : ∀ (i : Nat) (ds : List D), ρ[i]? ≠ some (Cell.o ds)) (h0 : Same H0 b.H0) : Rel K mg none ⟨H0, b.S0⟩ S ρ σ H where
  s0 := R.s0
  sh := R.sh
  h0 := h0.trans R.h0
  nw := fun a h e => R.nw a (fun z => by
    have h : H0 a ≠ none := h
    cases q : H0 a with
    | none => exact h q
    | some o => rw [h0 a o q] at z; cases z) e
  len := R.len
  val := R.val
  own := fun i ds e => absurd e (ho i ds)
  xc := R.xc
  apart := fun i j ds es p ne e1 => absurd e1 (ho i ds)
section
variable {P : Program} {w : World} {K : Frg} {mg : Mg} {base : Heap}
theorem xn_okS {d : SDef} {D f : Addr} {file me : Str} {fd : FuncData} {N ps : List Str} {k n : Nat} {cs : List Str} {g : GX} {ar : Arg} (F : FunS K d D file f fd) (hP : SupP P file) (hg : mg "super" = none) (hD : ∃ cd, clsIn K D = some cd)
    (Sc : NScope N ps ["__class__"] d.scope) (hn : ps.length = n + 1) (hN : ps.length + 1 ≤ N.length) (har : (d.params.posonlyargs ++ d.params.args).head? = some ar) (hme : ar.arg = me)
    (hks : d.scope.names.lookup ("super" : Str) = some .globalImplicit) (hkm : d.scope.names.lookup me = some .local)
    (hb : ∀ (cc cda : Addr) (A : Around) (outer : List Env) (s : Shared) (H : Hp) (E : XK), Room k (ncx (L2.CX P w) P w K mg base N (niF d.name d.qual d.params d.body d.scope cc cda) f A outer s H E).A → Cs (ncx (L2.CX P w) P w K mg base N (niF d.name d.qual d.params d.body d.scope cc cda) f A outer s H E) (WE0 E) →
      SupF (ncx (L2.CX P w) P w K mg base N (niF d.name d.qual d.params d.body d.scope cc cda) f A outer s H E) f cda cc D me → NXas (ncx (L2.CX P w) P w K mg base N (niF d.name d.qual d.params d.body d.scope cc cda) f A outer s H E) cs d.body d.body g) :
    FnOk P w K mg base (L2.CX P w) (k + 1) f fd ps (spX K mg cs n (semX N.length g)) := by
  obtain ⟨oc, od, osl, kV, doc, pm, an, cda, ct, cc, rfl, lk, hcd, ⟨cl, cld, csl, lcc⟩, ccl, cdd, vs0, ccs, fi, tf, lc, hvs, hfi⟩ := F.ex
  refine fn_ofS lk hcd lcc Sc (fun vs H Q E h => by rw [hn]; exact spX_len h) fun A outer s s1 H vs Q E hr h I => ?_
  obtain ⟨ds, S, x, C, us, rfl, h1, h2, h3, h4, h5, h6, fl, h7, h8, h9⟩ := h
  have R0 := Rel.startF (K := K) (mg := mg) (D0 := D) (N := N) (vs := .ref x :: us) (ds := .raw x :: ds) (by rw [hn] at hN; simpa [h1] using hN) h5 (.cons (.raw x) h6)
  have R1 := R0.wipe1 (i := 0) (x := some (.ref x))
  have hlen : (PF.D.raw x :: ds).length = ds.length + 1 := rfl
  rw [hlen] at R1
  have R2 : Rel K mg none ⟨H, S⟩ S (.e :: ds.map Cell.v ++ List.replicate (N.length - (ds.length + 1)) .e) (NdefX.startF N (.ref x :: us) [some (.ref D)]) H := R1
  have no : ∀ i (es : List PF.D), (.e :: ds.map Cell.v ++ List.replicate (N.length - (ds.length + 1)) Cell.e)[i]? ≠ some (Cell.o es) := fun i es e => by
    have hm := List.mem_of_getElem? e
    simp at hm
  have R3 := R2.rebase (H0 := del H x) no (fun a o e => by
    by_cases z : a = x
    · subst z; rw [del_same] at e; cases e
    · rw [del_ne z] at e; exact e)
  refine hb cc cda A outer s H E hr ⟨takes_of rfl rfl rfl rfl, passes_of rfl, rfl⟩ ?_ x [] s1 _ H _ I ⟨⟨del H x, S⟩, S, _, C, [], ⟨R3, del_same, h3, .inl ⟨rfl, h2⟩⟩, h4, rfl, ?_⟩
  · exact ⟨rfl, rfl, rfl, ⟨oc, od, _, osl, ar, lk, har, hme⟩, ⟨ccl, cdd, vs0, ccs, fi, tf, lc, hvs, by rw [show ((ncx (L2.CX P w) P w K mg base N (niF d.name d.qual d.params d.body d.scope cc cda) f A outer s H E).prog.main.file : Str) = file from hP.file]; exact hfi⟩, ⟨cl, cld, csl, lcc⟩, hP.top, hg, hks, Sc.frk _ (by simp), hkm, hD⟩
  · have e : g [] (.e :: ds.map Cell.v ++ List.replicate (N.length - (ds.length + 1)) .e) = .ok fl := h7
    rw [e]
    intro S' H' s1' st
    rcases st.at_ with ⟨z, _⟩ | ⟨dx, fv, _, n1, e1, e2, n2, n3, rp⟩
    · exact absurd z h8
    · refine h9 S' H' dx fv ⟨st.R.s0, fun a o q e => st.R.h0 a o (by show del H x a = some o; rw [del_ne q]; exact e), st.R.sh, fun a q e => ?_, fun _ => by rw [e1]; simp⟩ n1 (by rw [← del_ne (H := H) n1]; exact n3) e1 e2 st.hs n2 rp
      by_cases z : a = x
      · rw [z]; exact st.hs
      · exact st.R.nw a (by show del H x a ≠ none; rw [del_ne z]; exact q) e
end
/-! ### raise X(e, ..) -/
@[simp] def gRaiseX (x : Str) (g : List D → Res Fl) (fs : Sl → Res (List D)) (ρ : Sl) : Out := rS (fs ρ) ρ fun ds => match g ds with
  | .ok (p :: fl) => if ds.length ≤ 1000 then .exc x (p :: fl) ρ else .bad
  | _ => .bad
structure XmT (P : Program) (w : World) (K : Frg) (mg : Mg) (base : Heap) (x : Str) (n k : Nat) (g : List D → Res Fl) (C f : Addr) (fd : FuncData) (ps cs : List Str) : Prop where
  gl : mg x = some (.ref C)
  T : OexC K C
  ini : PySem.W.findIn K (.ref C) "__init__" = some (some (.ref f))
  ty : PySem.W.typeIn K (.ref f) = some (.type "function")
  ok : FnOk P w K mg base (L2.CX P w) k f fd ps (spX K mg cs n g)
  bi : Binds K fd ps []
  cs : x ∈ cs
theorem pass0 {X : Cx} : Passes (L2.CX X.prog X.w) X (fun _ _ _ => False) := fun pins σ H s e s' I h => by
  obtain ⟨_, _, _, _, _, _, _, _, _, _, _, _, z⟩ := h
  exact z.elim
theorem zip_fl : ∀ fl : Fl, (fl.map (·.1)).zip (fl.map (·.2)) = fl
  | [] => rfl
  | p :: fl => by simp [zip_fl fl]
theorem ms_raiseX {X : Cx} {hx : Hx} {W : WX} {x : Str} {n k : Nat} {g : List D → Res Fl} {C f : Addr} {fd : FuncData} {ps cs : List Str} {e : Expr} {es : List Expr} {fs : Sl → Res (List D)} {p pos pos' : Pos} (c : Cs X W) (M : XmT X.prog X.w X.K X.mg X.base x n k g C f fd ps cs) (hr : Room (k + 1) X.A) (ha : MA X hx W (e :: es) fs) (hfl : ∀ ρ ds, fs ρ = .ok ds → ds.length = n)
    (hg : Gl X x := by rfl) (hdb : (x == ("__debug__" : Str)) = false := by decide) (he : starEach (e :: es) X.env = (false, eval e X.env) :: starEach es X.env := by rfl) (hpl : (backTo pos' (starEach es X.env)).any (·.1) = false := by rfl) :
    MS X hx W (.Raise (some (.Call (.Name x p) (e :: es) [] pos')) none pos) (gRaiseX x g fs) :=
  ps_imp (ps_raise c.hc c.tk (pmk_oex M.T M.ini M.ty M.ok hr M.bi .nil pass0 hg M.gl ha hdb he hpl)) fun Dn σ H ⟨b, S, ρ, R, q⟩ => ⟨b, S, ρ, R, by
    unfold gRaiseX at q
    cases ef : fs ρ with
    | exc y ys => rw [ef] at q; exact fun S' H' C' dx' g' m xd => q S' σ H' C' dx' g'.s (R.grow g') m xd
    | bad => rw [ef] at q; exact q.elim
    | ok ds =>
      rw [ef] at q
      simp only [rS_ok] at q
      intro vs S1 H1 g1 r1
      split at q
      · rename_i pr fl eg
        split at q
        · rename_i hl
          refine ⟨by rw [r1.len]; exact hl, fun a ha => ?_⟩
          rw [List.append_nil]
          have sa : S1 a = none := same_none g1.i ha
          refine ⟨ds, S1, a, C, vs, rfl, r1.len.trans (hfl ρ ds ef), upd_same, sa, ⟨x, M.cs, M.gl⟩, g1.i.trans (same_new ha), r1, pr :: fl, eg, by simp, fun S' H' dx fv gx hne hd hx' hdx' hsx hsd rp => ⟨rfl, dx, fv, hx', hdx', by rw [upd_ne hne] at hd; exact hd, ?_⟩⟩
          rw [upd_ne hne] at hd
          have up : ∀ y o, H1 y = some o → upd H1 a (exo a C none) y = some o := fun y o e => by rw [upd_ne (fun z => by rw [z, ha] at e; cases e)]; exact e
          have g2 : Gr S1 H1 S' (upd (del H' a) dx (.xd fv)) := ⟨gx.s, fun y o e => by
            rw [upd_ne (fun z => by rw [z, hd] at e; cases e), del_ne (fun z => by rw [z, ha] at e; cases e)]
            exact gx.h y o (fun z => by rw [z, ha] at e; cases e) (up y o e), fun y o e => by
            rw [upd_ne (fun z => by rw [z, hsd] at e; cases e), del_ne (fun z => by rw [z, hsx] at e; cases e)]
            exact gx.i y o e, fun y e1 e2 => gx.n y (by
              cases z : H1 y with
              | none => exact absurd z e1
              | some o => rw [up y o z]; simp) e2⟩
          obtain ⟨xs, p1, p2, p3⟩ := rp.obj
          refine q S' σ _ C (some dx) (g1.s.trans g2.s) (R.grow (g1.trans g2)) M.gl ⟨(pr :: fl).map (·.1), xs, (pr :: fl).map (·.2), (zip_fl _).symm, ⟨by simp, p2⟩, ?_, p3⟩
          rw [upd_same, p1]
        · exact q.elim
      · exact q.elim⟩
end PF

set_option Elab.async false
set_option linter.all false
set_option maxRecDepth 100000
set_option maxHeartbeats 4000000
/-! isinstance and e.f of a caught exception that may have fields; pop, insert; static methods read off their class. -/
namespace PF
open PySem PySem.Spec L2 PyProof.Rows NdefX PySem.W ClX PySem.Calls

/-! ### isinstance(e, ..), e with or without a dict -/
theorem find_data {K : Frag} {C : Addr} {od : Option Obj} {name : Str} {a g : Value} (hc : (clsIn K C).isSome = true) (ha : findIn K (.ref C) name = some (some a)) (hg : specialIn K a "__get__" = some (some g)) (ht : takesIn K a = some true) : findObj K C od name = some (.bind g a) := by
  obtain ⟨cd, hc⟩ := Option.isSome_iff_exists.mp hc
  unfold findObj
  rw [hc, Option.bind_some, ha, Option.bind_some]
  simp [hg, ht]
section
variable {prog : Program} {w : World} {A : Around} {E : Value → Shared → Prop} {s : Shared} {K : Frag} {x C : Addr} {ox : Obj} {od : Option Obj}
theorem cls_of_exc {Q : Option Value → Shared → Prop} (T : ExcC K C) (X : K.In s.heap) (I : InstAt s.heap x ox C od) (h : Q (some (.ref C)) { s with toks := s.toks + 1 }) : wpAny (model prog w) A (getAttr? (.ref x) "__class__") Q E s := by
  have hf : findObj K C od "__class__" = some (.bind (.builtin "getset_descriptor.__get__") (.builtin "object.__class__")) := find_data (by obtain ⟨cd, hc, _⟩ := any_some T.hd; rw [hc]; rfl) T.ha T.hn T.ht
  obtain ⟨hp, g, d, t, os⟩ := s
  have L0 := I.type (M := model prog w)
  have L1 := looks_findIn (M := model prog w) X T.hg
  have L2 := looks_findIn (M := model prog w) X T.hk
  have L3 := looks_find (M := model prog w) X I hf
  have sub : Looks (model prog w) hp (isInstance (.ref x) (.type "BaseException")) true := L0.andThen (looks_subIn X T.hs)
  have n2 : (Value.builtin "BaseException.__getattribute__" == Value.builtin "object.__getattribute__") = false := by decide +kernel
  have n1 : (onTheHeap (Value.ref C) && Value.builtin "BaseException.__getattribute__" == Value.builtin "object.__getattribute__") = false := by rw [n2]; rfl
  have n0 : (false && onTheHeap (Value.builtin "BaseException.__getattribute__")) = false := rfl
  unfold getAttr? getAttrBy? getAttrBy
  refine wpAny_bind (wpAny_mkText (wpAny_bind (wpAny_attempt (wpAny_holding (wpAny_bind (L0.at (wpAny_bind (L1.at ?_))))))))
  show wpAny _ _ (if (onTheHeap (Value.ref C) && Value.builtin "BaseException.__getattribute__" == Value.builtin "object.__getattribute__") = true then _ else _) _ _ _
  rw [n1, if_neg Bool.false_ne_true]
  unfold getAttrByItsOwn hookBefore
  refine wpAny_bind ?_
  rw [if_pos (show onTheHeap (Value.ref C) = true from rfl)]
  refine L2.at (wpAny_bind (wpAny_attempt (wpAny_holding ?_)))
  unfold callGetattribute
  rw [n0, if_neg Bool.false_ne_true]
  unfold boundAndCalled
  rw [PySem.F.excAttr_ValueError.ga.bind (.ref x)]
  refine wpAny_bind (wpAny_pure ?_)
  show wpAny _ _ (call (.builtin "BaseException.__getattribute__") [.ref x, .str "__class__" t]) _ _ _
  refine wpAny_call (codeAny_call_builtin PySem.F.excAttr_ValueError.ga.plain PySem.F.entry_bexc_ga ?_)
  refine @check_slot (model prog w) _ _ ⟨hp, g, d, t + 1, os⟩ "BaseException.__getattribute__" "BaseException" "__getattribute__" (.ref x) [.str "__class__" t] [] _ (by decide +kernel) (by decide +kernel) sub (PySem.F.args_bexc_ga (.ref x) (.str "__class__" t)) ?_
  unfold Builtin.«object.__getattribute__»
  refine wpAny_bind (wpAny_of_eq (a := ((Value.ref x : Value), [Value.str "__class__" t])) (by first | rfl | (simp only [slotArgs]; rfl)) ?_)
  refine wpAny_bind (wpAny_pure (wpAny_bind (L0.at (wpAny_bind (L3.at ?_)))))
  show wpAny _ _ (holding [Value.builtin "object.__class__"] (call (.builtin "getset_descriptor.__get__") [.builtin "object.__class__", .ref x, .ref C]) >>= ret) _ _ _
  refine wpAny_bind (wpAny_holding (wpAny_call (class_get (s := ⟨hp, g, d, t + 1, os⟩) (ox := ox) (od := od) X I T.hm ?_)))
  refine wpAny_pure ?_
  show wpAny _ _ (handedOut (.ref C)) _ _ _
  rw [handedOut_of (v := .ref C) rfl]
  first
    | exact wpAny_pure (wpAny_pure h)
    | exact wpAny_pure h
    | exact wpAny_pure (wpAny_bind (wpAny_pure (wpAny_pure h)))
theorem kitx_exc (T : ExcC K C) : KitX K (.ref x) (.ref C) (fun h => InstAt h x ox C od) where
  ty := fun _ _ _ I => I.type
  it := fun _ _ X _ => by
    obtain ⟨cd, hcd, _⟩ := any_some T.hd
    unfold clsIn at hcd
    split at hcd
    · rename_i c' d' cd' sl' ho
      intro A' Q' E' s' k q
      unfold isType loadHead
      exact wpAny_bind (wpAny_loadPart (k _ _ (X _ _ ho)) (wpAny_pure q))
    · cases hcd
  ne := fun h tp dd its n sl X htp => by
    obtain ⟨cd, hcd, _⟩ := any_some T.hd
    refine Bool.eq_false_iff.mpr fun q => ?_
    have e : C = tp := Value.ref.inj (beq_iff_eq.mp q)
    subst e
    unfold clsIn at hcd
    split at hcd
    · rename_i c' d' cd' sl' ho
      have z := (X _ _ ho).symm.trans htp
      cases z
    · cases hcd
  ca := fun X I k => cls_of_exc T X I k
end
/-- the exception that a suite holds stands so in the heap -/
theorem suite_at {X : Cx} {a C : Addr} {oe : Obj} {pn : List (Addr × Obj)} {d : Option Addr} {pins : List (Addr × Obj)} {σ : L2.St} {H : Hp} {s : Shared} {S : Hp} {fs : List (Str × D)} (hz : Zc (.ref C) d oe) (hf : ∃ vs, oe.data = .fields vs)
    (I : Inv (X.suite a ((a, oe) :: pn)) pins σ H s) (hx : Xd X.K X.mg S H d fs) : ∃ od, InstAt s.heap a oe C od := by
  obtain ⟨hget, _⟩ := I.pin (a, oe) (List.mem_append.mpr (.inl List.mem_cons_self))
  obtain ⟨vs, hv⟩ := hf
  obtain ⟨oc, o2, oda, osl⟩ := oe
  obtain ⟨h1, h2⟩ := hz
  dsimp only at h1 h2 hv
  subst h1 h2 hv
  cases o2 with
  | none => exact ⟨none, hget, rfl, rfl, trivial⟩
  | some dd =>
    obtain ⟨ns, xs, ds, _, _, h4, _⟩ := hx
    have hd : ObjOk X.prog X.w H s.heap dd (.xd (ns.zip xs)) := I.hok dd _ h4
    obtain ⟨mA, hns, _⟩ := hd
    obtain ⟨od, ho, _⟩ := lookIn_ns hns
    exact ⟨some od, hget, rfl, rfl, ho⟩
@[simp] def sIsX (i : Nat) (tab : Str → Option Bool) (ρ : Sl) : Res D := match ρ[i]? with
  | some (.xc x _) => match tab x with
    | some b => .ok (.bl b)
    | none => .bad
  | _ => .bad
def rIsX (K : Frg) (mg : Mg) (C a : Addr) (d : Option Addr) : List V → Hp → VK → Prop := fun xs H Q => ∃ (S : Hp) (fs : List (Str × D)) (c : V) (cv : Value) (b : Bool), Xd K mg S H d fs ∧ xs = [.ref a, c] ∧ (∀ u, RelV c u → u = cv) ∧ PySem.W.kitOne K (.ref C) cv = some b ∧ Q (.bl b) H
theorem call_isX {X : Cx} {a C : Addr} {oe : Obj} {pn : List (Addr × Obj)} {d : Option Addr} (T : ExcC X.K C) (hz : Zc (.ref C) d oe) (hf : ∃ vs, oe.data = .fields vs) : CallR (X.suite a ((a, oe) :: pn)) (.builtin "isinstance") (rIsX X.K X.mg C a d) := by
  intro pins s σ H xs us Q I r h
  obtain ⟨S, fs, c, cv, b, hx, rfl, hcv, e, q⟩ := h
  obtain ⟨u1, u2, rfl, r1, r2⟩ := vals2 r
  cases (show u1 = Value.ref a from r1)
  cases hcv _ r2
  obtain ⟨od, J⟩ := suite_at hz hf I hx
  exact PySem.W.kia_one (kitx_exc T) I.kIn J e (fun z => nomatch z) fun tk => ⟨.bl b, H, I.kept (t' := tk) fun _ _ z => z, rfl, q⟩
def rIsXT (K : Frg) (mg : Mg) (C a : Addr) (d : Option Addr) : List V → Hp → VK → Prop := fun xs H Q => ∃ (S : Hp) (fs : List (Str × D)) (tp : Addr) (cs : List V) (us : List Value) (b : Bool), Xd K mg S H d fs ∧ xs = [.ref a, .ref tp] ∧ H tp = some (.tup cs) ∧ Paired ClsV cs us ∧ PySem.W.kitAny K (.ref C) us = some b ∧ Q (.bl b) H
theorem call_isXT {X : Cx} {a C : Addr} {oe : Obj} {pn : List (Addr × Obj)} {d : Option Addr} (T : ExcC X.K C) (hz : Zc (.ref C) d oe) (hf : ∃ vs, oe.data = .fields vs) : CallR (X.suite a ((a, oe) :: pn)) (.builtin "isinstance") (rIsXT X.K X.mg C a d) := by
  intro pins s σ H xs us Q I r h
  obtain ⟨S, fs, tp, cs, ws, b, hx, rfl, hT, k, e, q⟩ := h
  obtain ⟨u1, u2, rfl, r1, r2⟩ := vals2 r
  cases (show u1 = Value.ref a from r1)
  cases (show u2 = Value.ref tp from r2)
  obtain ⟨od, J⟩ := suite_at hz hf I hx
  obtain ⟨_, its, rv, o, h1, h2, n, h3⟩ := (show ObjOk X.prog X.w H s.heap tp (.tup cs) from I.hok tp _ hT)
  have e3 := ClsV.all k rv
  subst e3
  obtain ⟨oc, o2, dt, sl⟩ := o
  simp only at h2 h3
  subst h2 h3
  exact PySem.W.kia_tup (kitx_exc T) I.kIn J h1 e (fun z => nomatch z) fun tk => ⟨.bl b, H, I.kept (t' := tk) fun _ _ z => z, rfl, q⟩
section
variable {X : Cx} {a D0 : Addr} {oe : Obj} {pn : List (Addr × Obj)} {d : Option Addr} {W : WX} {ce : Expr} {n : Str} {p p1 pos pt : Pos} {cv : V} {cu : Value} {kt}
theorem me_isX (i : Nat) {tab : Str → Option Bool} (hz : Zc (.ref D0) d oe) (hf : ∃ vs, oe.data = .fields vs) (ht : TabI X.K X.mg tab cu) (hv : PE (X.suite a ((a, oe) :: pn)) (.Name n p1) (tVar i)) (hc : PE (X.suite a ((a, oe) :: pn)) ce (tC cv)) (k : ClsV cv cu)
    (hm : X.mg "isinstance" = none) (hg : Gl X "isinstance" := by rfl) (hs : starEach [.Name n p1, ce] X.env = (false, eval (.Name n p1) X.env) :: starEach [ce] X.env := by rfl) (hs2 : starEach [ce] X.env = (false, eval ce X.env) :: starEach [] X.env := by rfl) (hpl : (backTo pos (starEach [ce] X.env)).any (·.1) = false := by rfl) :
    ME (X.suite a ((a, oe) :: pn)) (some (a, D0, d)) W (.Call (.Name "isinstance" p) [.Name n p1, ce] [] pos) (sIsX i tab) := ⟨fun pins s σ H Q I ⟨b, S, ρ, R, q⟩ => by
  unfold sIsX at q
  split at q
  · rename_i x fs e
    obtain ⟨a1, C1, d1, h1, h2, h3, h4⟩ := R.xc i x fs e
    cases h1
    split at q
    · rename_i tb et
      obtain ⟨t1, t2⟩ := ht x D0 tb h3 et
      exact (pe_callB (x := "isinstance") (call_isX (X := X) (a := a) (pn := pn) t1 hz hf) hg hm PyProof.Rows.boot_isinstance (pa_cons hv (pa_cons hc pa_nil hs2) hs) (by decide) (by decide) hs hpl).run pins s σ H Q I ⟨_, h2, S, fs, cv, cu, tb, h4, rfl, fun u r => k.eq r, t2, q _ S H (Gr.refl R.sh) (.bl tb)⟩
    · exact q.elim
  · exact q.elim⟩
theorem me_isXT {ces : List Expr} {cvs : List V} {cus : List Value} (i : Nat) {tab : Str → Option Bool} (hz : Zc (.ref D0) d oe) (hf : ∃ vs, oe.data = .fields vs) (ht : TabT X.K X.mg tab cus)
    (hv : PE (X.suite a ((a, oe) :: pn)) (.Name n p1) (tVar i)) (hc : PA (X.suite a ((a, oe) :: pn)) ces (tcs cvs)) (k : Paired ClsV cvs cus) (hm : X.mg "isinstance" = none) (hl : cvs.length ≤ 1000 := by simp) (hg : Gl X "isinstance" := by rfl)
    (hs : starEach [.Name n p1, .Tuple ces kt pt] X.env = (false, eval (.Name n p1) X.env) :: starEach [.Tuple ces kt pt] X.env := by rfl) (hs2 : starEach [.Tuple ces kt pt] X.env = (false, eval (.Tuple ces kt pt) X.env) :: starEach [] X.env := by rfl) (hpl : (backTo pos (starEach [.Tuple ces kt pt] X.env)).any (·.1) = false := by rfl) :
    ME (X.suite a ((a, oe) :: pn)) (some (a, D0, d)) W (.Call (.Name "isinstance" p) [.Name n p1, .Tuple ces kt pt] [] pos) (sIsX i tab) := ⟨fun pins s σ H Q I ⟨b, S, ρ, R, q⟩ => by
  unfold sIsX at q
  split at q
  · rename_i x fs e
    obtain ⟨a1, C1, d1, h1, h2, h3, h4⟩ := R.xc i x fs e
    cases h1
    split at q
    · rename_i tb et
      obtain ⟨t1, t2⟩ := ht x D0 tb h3 et
      exact (pe_callB (x := "isinstance") (call_isXT (X := X) (a := a) (pn := pn) t1 hz hf) hg hm PyProof.Rows.boot_isinstance (pa_cons hv (pa_cons (pe_tup hc) pa_nil hs2) hs) (by decide) (by decide) hs hpl).run pins s σ H Q I ⟨_, h2, tcs_run cvs _ ⟨Nat.le_trans hl (sizeLine16 (by decide)), fun tp htp => by
        have ne : ∀ y u, H y = some u → y ≠ tp := fun y u e z => by rw [z, htp] at e; cases e
        exact ⟨S, fs, tp, cvs, cus, tb, h4.keep (Same.refl _) fun y gs e => by rw [upd_ne (ne y _ e)]; exact e, rfl, upd_same, k, t2, q _ _ _ (Gr.heap R.sh (same_new htp)) (.bl tb)⟩⟩⟩
    · exact q.elim
  · exact q.elim⟩
/-! ### e.f -/
@[simp] def sXf (i : Nat) (cs : List Str) (f : Str) (ρ : Sl) : Res D := match ρ[i]? with
  | some (.xc x fs) => if x ∈ cs then (match fs.lookup f with
    | some v => .ok v
    | none => .bad) else .bad
  | _ => .bad
def XrT (K : Frg) (mg : Mg) (cs : List Str) (f : Str) : Prop := ∀ c ∈ cs, ∀ C, mg c = some (.ref C) → XfC K C ∧ PySem.W.findIn K (.ref C) f = some none
theorem me_xf {e : Expr} {f : Str} {cs : List Str} (i : Nat) (ht : XrT X.K X.mg cs f) (hz : Zc (.ref D0) d oe) (hf : ∃ vs, oe.data = .fields vs) (hv : PE (X.suite a ((a, oe) :: pn)) e (tVar i)) (hm : X.mg = X.mg)
    (hb : attributeBase e f X.env (eval e X.env) = eval e X.env := by rfl) : ME (X.suite a ((a, oe) :: pn)) (some (a, D0, d)) W (.Attribute e f pos) (sXf i cs f) := ⟨fun pins s σ H Q I ⟨b, S, ρ, R, q⟩ => by
  unfold sXf at q
  split at q
  · rename_i x fs e1
    obtain ⟨a1, C1, d1, h1, h2, h3, h4⟩ := R.xc i x fs e1
    cases h1
    split at q
    · rename_i hc
      obtain ⟨t1, t2⟩ := ht x hc D0 h3
      split at q
      · rename_i v hl
        cases d with
        | none => have : fs = [] := h4; subst this; cases hl
        | some dd =>
          obtain ⟨ns, xs, ds, z1, z2, z3, z4⟩ := h4
          rw [z1] at hl
          obtain ⟨v', hv', rv⟩ := zip_look f z4 hl
          exact (pe_xf t1 t2 hz hf hv hb).run pins s σ H Q I ⟨_, h2, rfl, rfl, dd, _, v', rfl, z3, hv', q v' S H (Gr.refl R.sh) rv⟩
      · exact q.elim
    · exact q.elim
  · exact q.elim⟩
end
/-! ### pop, insert -/
@[simp] def gPop (i : Nat) (ρ : Sl) : Out := match ρ[i]? with
  | some (.o ds) => match ds[ds.length - 1]? with
    | some _ => .nx (ρ.set i (.o ds.dropLast))
    | none => .bad
  | _ => .bad
/-- j = i.pop() -/
@[simp] def gPopL (j i : Nat) (ρ : Sl) : Out := match ρ[i]? with
  | some (.o ds) => match ds[ds.length - 1]? with
    | some d => .nx ((ρ.set i (.o ds.dropLast)).set j (.v d))
    | none => .bad
  | _ => .bad
@[simp] def gIns (i : Nat) (fi f : Sl → Res D) (ρ : Sl) : Out := match ρ[i]? with
  | some (.o ds) => rS (fi ρ) ρ fun k => rS (f ρ) ρ fun d => match k with
    | .int n => if 0 ≤ n ∧ n.toNat ≤ ds.length ∧ ds.length < 16777216 then .nx (ρ.set i (.o (ds.take n.toNat ++ [d] ++ ds.drop n.toNat))) else .bad
    | _ => .bad
  | _ => .bad
theorem RpA.dropLast {K : Frg} {mg : Mg} {H : Hp} {vs : List V} {ds : List D} (h : RpA K mg H vs ds) : RpA K mg H vs.dropLast ds.dropLast := by
  rw [List.dropLast_eq_take, List.dropLast_eq_take, h.len]
  exact h.take _
section
variable {X : Cx} {hx : Hx} {W : WX} {x : Str} {p ap ep pos : Pos}
theorem ms_pop (i : Nat) (hv : PE X (.Name x p) (tVar i)) (hs : swapsWith (.Call (.Attribute (.Name x p) "pop" ap) [] [] ep) none pos.line X.env = pure false := by rfl)
    (h : PE X (.Call (.Attribute (.Name x p) "pop" ap) [] [] ep) (tBM0 X.K "list" rPop (tVar i)) := by
      exact pe_bm0 PySem.F.plainAttrs_list PySem.F.slot_list_pop PySem.F.type_list_pop mt_pop (pv _)) :
    MS X hx W (.Expr (.Call (.Attribute (.Name x p) "pop" ap) [] [] ep) pos) (gPop i) := ps_imp (ps_expr h hs) fun D σ H ⟨b, S, ρ, R, q⟩ => by
  unfold gPop at q
  split at q
  · rename_i ds e1
    split at q
    · rename_i d e2
      obtain ⟨p, vs, h1, h2, h3, h4, h5⟩ := R.own i ds e1
      obtain ⟨v, hv, rv⟩ := h5.get e2
      exact ⟨_, h1, .inl ⟨rfl, _, SqL.of h2⟩, p, vs, v, rfl, rfl, h2, by rw [h5.len]; exact hv, q S σ _ (Same.refl _) (R.mut e1 h1 h5.dropLast)⟩
    · exact q.elim
  · exact q.elim
theorem ms_popL (j i : Nat) {y : Str} {py : Pos} (hN : X.N.Nodup) (hv : PE X (.Name x p) (tVar i)) (hi : X.N[j]? = some y := by rfl) (hl : Loc X.env.scope y := by first | exact Or.inl rfl | exact Or.inr rfl)
    (hs : swapsWith (.Call (.Attribute (.Name x p) "pop" ap) [] [] ep) (some (.Name y py)) pos.line X.env = pure false := by rfl) (hf : X.fn y = true ∨ X.env.scope.names.lookup y = some .local := by first | exact .inl rfl | exact .inr rfl | assumption)
    (h : PE X (.Call (.Attribute (.Name x p) "pop" ap) [] [] ep) (tBM0 X.K "list" rPop (tVar i)) := by
      exact pe_bm0 PySem.F.plainAttrs_list PySem.F.slot_list_pop PySem.F.type_list_pop mt_pop (pv _)) :
    MS X hx W (.Assign [.Name y py] (.Call (.Attribute (.Name x p) "pop" ap) [] [] ep) pos) (gPopL j i) := ps_imp (ps_set hN hi hl h hs hf) fun D σ H ⟨b, S, ρ, R, q⟩ => by
  unfold gPopL at q
  split at q
  · rename_i ds e1
    split at q
    · rename_i d e2
      obtain ⟨p, vs, h1, h2, h3, h4, h5⟩ := R.own i ds e1
      obtain ⟨v, hv, rv⟩ := h5.get e2
      exact ⟨_, h1, .inl ⟨rfl, _, SqL.of h2⟩, p, vs, v, rfl, rfl, h2, by rw [h5.len]; exact hv, q S _ _ (Same.refl _) ((R.mut e1 h1 h5.dropLast).put rv)⟩
    · exact q.elim
  · exact q.elim
theorem ms_ins (i : Nat) {ei e : Expr} {fi f : Sl → Res D} (hv : PE X (.Name x p) (tVar i)) (hei : ME X hx W ei fi) (he : ME X hx W e f) (hs : swapsWith (.Call (.Attribute (.Name x p) "insert" ap) [ei, e] [] ep) none pos.line X.env = pure false := by rfl)
    (h : ∀ {t u}, PE X ei t → PE X e u → PE X (.Call (.Attribute (.Name x p) "insert" ap) [ei, e] [] ep) (tBM X.K "list" (fun x vs H Q => ∃ (l : Addr) (xs : List V) (i : Int) (y : V), x = .ref l ∧ vs = [.int i, y] ∧ H l = some (.lst xs) ∧ xs.length < sizeLine ∧ 0 ≤ i ∧ i < 2 ^ 63 ∧ Q .non (upd H l (.lst (xs.take i.toNat ++ [y] ++ xs.drop i.toNat)))) (tVar i) (tCons t (tCons u tNil))) := by
      intro t u ht hu; exact pe_bm PySem.F.plainAttrs_list PySem.F.slot_list_insert PySem.F.type_list_insert mt_insert (pv _) (pa_cons ht (pa_cons hu pa_nil))) :
    MS X hx W (.Expr (.Call (.Attribute (.Name x p) "insert" ap) [ei, e] [] ep) pos) (gIns i fi f) := ps_imp (ps_expr (h hei he) hs) fun D σ H ⟨b, S, ρ, R, q⟩ => by
  unfold gIns at q
  split at q
  · rename_i ds e1
    obtain ⟨p, vs, h1, h2, h3, h4, h5⟩ := R.own i ds e1
    refine ⟨_, h1, .inl ⟨rfl, _, SqL.of h2⟩, b, S, ρ, R, rS_po R q fun d v S1 H1 g1 r1 k => ⟨b, S1, ρ, R.grow g1, rS_po (R.grow g1) (PoS.up g1.s k) fun d2 v2 S2 H2 g2 r2 k2 => ?_⟩⟩
    have k2 := PoS.up g2.s k2
    cases d with
    | int n =>
      cases r1
      simp only at k2
      split at k2
      · rename_i hn
        have R2 := (R.grow g1).grow g2
        have r5 := (h5.up g1.s _ _).up g2.s _ _
        exact ⟨p, vs, n, v2, rfl, rfl, g2.h _ _ (g1.h _ _ h2), size16 (by rw [h5.len]; exact hn.2.2), hn.1, by omega, k2 S2 σ _ (Same.refl _) (R2.mut e1 h1 (((r5.take _).app (.cons r2 .nil)).app (r5.drop _)))⟩
      · exact k2.elim
    | _ => exact k2.elim
  · exact q.elim
end
end PF

set_option Elab.async false
set_option linter.all false
set_option maxRecDepth 100000
set_option maxHeartbeats 4000000
/-! Static methods; the head's facts of exceptions with an own __init__ and of static methods. -/
namespace PF
open PySem PySem.Spec L2 PyProof.Rows NdefX PySem.W ClX PySem.Calls

/-! ### C.m(..), m a static method of the class named c -/
structure StatT (P : Program) (w : World) (K : Frg) (mg : Mg) (base : Heap) (c m : Str) (k : Nat) (f : Addr) (fd : FuncData) (ps : List Str) (g : List D → Res D) : Prop where
  gl : ∃ C mc p, mg c = some (.ref C) ∧ CRead K C mc ∧ findCls K (.ref C) mc m = some (.get (.builtin "staticmethod.__get__") (.ref p) .none (.ref C)) ∧ ∃ rest, recIn K p "staticmethod" = some (.ref f :: rest)
  ok : FnOk P w K mg base (L2.CX P w) k f fd ps (spF K mg ps.length g)
  kp : keepIn K (.ref f) = true
  bi : Binds K fd ps []
section
variable {X : Cx} {hx : Hx} {W : WX} {c m : Str} {k : Nat} {f : Addr} {fd : FuncData} {ps : List Str} {g : List D → Res D} {e : Expr} {es : List Expr} {fs : Sl → Res (List D)} {p0 pos apos : Pos} {pl : Sem Bool}
theorem callS_imp {K : Frg} {mg : Mg} {W : WX} {n : Nat} {b : Bs} {S H : Hp} {ρ : Sl} {σ : L2.St} {Q : VK} (hfl : ∀ ρ ds, fs ρ = .ok ds → ds.length = n) (R : Rel K mg hx b S ρ σ H) (q : Po K mg (rrX K mg) W S σ H ((fs ρ).bind g) Q) :
    Po K mg (rrA K mg) W S σ H (fs ρ) fun vs H1 => spF K mg n g vs H1 Q fun cls d H' => W cls d σ H' := by
  cases ef : fs ρ with
  | exc y ys => rw [ef] at q; exact q
  | bad => rw [ef] at q; exact q
  | ok ds =>
    rw [ef] at q
    intro v S1 H1 g1 r1
    refine ⟨ds, S1, by rw [r1.len, hfl ρ ds ef], g1.i, r1, ?_⟩
    have q1 : Po K mg (rrX K mg) W S1 σ H1 (g ds) Q := Po.upX g1 q
    cases eg : g ds with
    | ok d => rw [eg] at q1; exact q1
    | exc y ys => rw [eg] at q1; exact q1
    | bad => rw [eg] at q1; exact q1
theorem pe_stat (G : StatT X.prog X.w X.K X.mg X.base c m k f fd ps g) (hr : Room k X.A) (cw : Cw X W) (ha : MA X hx W (e :: es) fs) (hfl : ∀ ρ ds, fs ρ = .ok ds → ds.length = ps.length) (hg : Gl X c) (hdb : (c == ("__debug__" : Str)) = false)
    (hst : starEach (e :: es) X.env = (false, eval e X.env) :: starEach es X.env) (hpl : (backTo pos (starEach es X.env)).any (·.1) = false)
    (ht : eval (.Call (.Attribute (.Name c p0) m apos) (e :: es) [] pos) X.env = (do
      let ov ← eval (.Name c p0) X.env
      standAt apos.atName
      let (f, first) ← holding [ov] (getMethod ov m pl)
      callWith pos f first (backTo pos (starEach (e :: es) X.env)) (backToKw pos (keywordEach [] X.env)))) :
    PE X (.Call (.Attribute (.Name c p0) m apos) (e :: es) [] pos) (tG X.K X.mg hx (rrX X.K X.mg) W fun ρ => (fs ρ).bind g) := by
  refine ⟨fun pins s σ H Q I ⟨b, S, ρ, R, q⟩ => ?_⟩
  obtain ⟨C, mc, p, hC, hrd, hat, rest, hrc⟩ := G.gl
  refine PySem.W.methodCall_KW (pl := pl) (ld_glob I hg hC ?_ hdb) ht
  refine PySem.W.method_cls I.kIn hrd.ga (cls_bind I.kIn hrd.rd hat (wpAny_call (sm_get (s := { s with toks := s.toks + 1 }) I.kIn hrc (handed_on rfl ?_))))
  refine PySem.W.callWith_K (first := []) (h₀ := X.base) I.ok.mod.kin G.kp (thn (ha.run pos pins _ σ H _ (I.tok _) ⟨b, S, ρ, R, callS_imp hfl R q⟩) fun us s2 ⟨vs, H2, I2, r, q2⟩ => ⟨I2.kIn, ?_⟩) hst hpl
  exact run_fnS (us := us) (vs := vs) (E := WE W) G.ok hr G.bi (cw σ) I2 r q2
theorem me_stat (G : StatT X.prog X.w X.K X.mg X.base c m k f fd ps g) (hr : Room k X.A) (cw : Cw X W) (ha : MA X hx W (e :: es) fs) (hfl : ∀ ρ ds, fs ρ = .ok ds → ds.length = ps.length) (hg : Gl X c := by rfl) (hdb : (c == ("__debug__" : Str)) = false := by decide)
    (hst : starEach (e :: es) X.env = (false, eval e X.env) :: starEach es X.env := by rfl) (hpl : (backTo pos (starEach es X.env)).any (·.1) = false := by rfl)
    (ht : eval (.Call (.Attribute (.Name c p0) m apos) (e :: es) [] pos) X.env = (do
      let ov ← eval (.Name c p0) X.env
      standAt apos.atName
      let (f, first) ← holding [ov] (getMethod ov m pl)
      callWith pos f first (backTo pos (starEach (e :: es) X.env)) (backToKw pos (keywordEach [] X.env))) := by rfl) : ME X hx W (.Call (.Attribute (.Name c p0) m apos) (e :: es) [] pos) (sCall g fs) :=
  pe_imp (pe_stat G hr cw ha hfl hg hdb hst hpl ht) fun σ H Q ⟨b, S, ρ, R, q⟩ => ⟨b, S, ρ, R, Po.freeze (by unfold sCall at q; rw [bind_bind] at q; exact q)⟩
theorem mf_stat (G : StatT X.prog X.w X.K X.mg X.base c m k f fd ps g) (hr : Room k X.A) (cw : Cw X W) (ha : MA X hx W (e :: es) fs) (hfl : ∀ ρ ds, fs ρ = .ok ds → ds.length = ps.length) (hg : Gl X c := by rfl) (hdb : (c == ("__debug__" : Str)) = false := by decide)
    (hst : starEach (e :: es) X.env = (false, eval e X.env) :: starEach es X.env := by rfl) (hpl : (backTo pos (starEach es X.env)).any (·.1) = false := by rfl)
    (ht : eval (.Call (.Attribute (.Name c p0) m apos) (e :: es) [] pos) X.env = (do
      let ov ← eval (.Name c p0) X.env
      standAt apos.atName
      let (f, first) ← holding [ov] (getMethod ov m pl)
      callWith pos f first (backTo pos (starEach (e :: es) X.env)) (backToKw pos (keywordEach [] X.env))) := by rfl) : MF X hx W (.Call (.Attribute (.Name c p0) m apos) (e :: es) [] pos) (fCall g fs) :=
  pe_imp (pe_stat G hr cw ha hfl hg hdb hst hpl ht) fun σ H Q ⟨b, S, ρ, R, q⟩ => ⟨b, S, ρ, R, Po.unfr (by unfold fCall at q; rw [bind_bind] at q; exact q)⟩
end
/-! ### the head's facts -/
def oexB (K : Frg) (x : Str) : Bool := (match K.lookup (He.ga K x) with
  | some ⟨.type "type", _, .cls cd, sl⟩ => (match cd.mro, sl.toList with
    | .ref C' :: bm, [_, _, _, _, some (.builtin n), _] => decide (C' = He.ga K x) && (n == "ValueError.__new__" && (cd.hasDict && (!cd.hasDel && PySem.HandSPX.refsVE bm)))
    | _, _ => false)
  | _ => false) && (He.eqO (findIn K (.ref (He.ga K x)) "__setattr__") (some (some (.builtin "object.__setattr__"))) && (decide (subIn K (.ref (He.ga K x)) (.type "BaseException") = some true) && (decide (typeIn K (.ref (He.ga K x)) = some (.type "type")) && keepIn K (.ref (He.ga K x)))))
theorem oexB_ok {K : Frg} {x : Str} (h : oexB K x = true) : OexC K (He.ga K x) := by
  obtain ⟨h0, h⟩ := He.ba h
  obtain ⟨h1, h⟩ := He.ba h
  obtain ⟨h2, h⟩ := He.ba h
  obtain ⟨h3, h4⟩ := He.ba h
  refine ⟨?_, He.eqO_ok h1, of_decide_eq_true h2, of_decide_eq_true h3, h4⟩
  split at h0
  · rename_i dd cd sl ho
    split at h0
    · rename_i C' bm k0 k1 k2 k3 n k5 e1 e2
      obtain ⟨c1, h0⟩ := He.ba h0
      obtain ⟨c2, h0⟩ := He.ba h0
      obtain ⟨c3, h0⟩ := He.ba h0
      obtain ⟨c4, c5⟩ := He.ba h0
      have c1 := of_decide_eq_true c1
      have c2 := eq_of_beq c2
      subst c1 c2
      have e3 : sl = #[k0, k1, k2, k3, some (.builtin "ValueError.__new__"), k5] := by
        apply Array.ext'
        rw [e2]
      obtain ⟨nm, bs, mro, ns, qn, hd, sn, sb, ab, col, del⟩ := cd
      dsimp only at e1 c3 c4
      have c4 : del = false := by simpa using c4
      subst e1 c3 c4 e3
      exact ⟨nm, qn, ns, bs, bm, sn, sb, ab, col, dd, k0, k1, k2, k3, k5, ho, c5⟩
    · cases h0
  · cases h0
/-- the exception class named x has no attribute f -/
def noxB (K : Frg) (x f : Str) : Bool := He.eqO (findIn K (.ref (He.ga K x)) f) (some none)
/-- the exception class named x has the def at p as its __init__ -/
def xinB (K : Frg) (x : Str) (p : Str × Option Str) : Bool := He.eqO (findIn K (.ref (He.ga K x)) "__init__") (some (some (.ref (He.fAd K p)))) && decide (typeIn K (.ref (He.fAd K p)) = some (.type "function"))
theorem xinB_ok {K : Frg} {x : Str} {p : Str × Option Str} (h : xinB K x p = true) : findIn K (.ref (He.ga K x)) "__init__" = some (some (.ref (He.fAd K p))) ∧ typeIn K (.ref (He.fAd K p)) = some (.type "function") := by
  obtain ⟨h1, h2⟩ := He.ba h
  exact ⟨He.eqO_ok h1, of_decide_eq_true h2⟩
/-- super() in a def of the exception class named d, on an instance of that named c, leads to ValueError's -/
def xsuB (K : Frg) (c d : Str) : Bool := decide (mroIn K (He.ga K c) (.ref (He.ga K d)) = some true) && (decide (mroIn K (He.ga K c) (.type "ValueError") = some true) && (decide (ks_superIn K (He.ga K c) (He.ga K d) "__init__" = some (some (.builtin "ValueError.__init__"))) && He.eqO (nsIn K cStatics "thirdparty.any") (some none)))
theorem xsuB_ok {K : Frg} {c d : Str} (h : xsuB K c d = true) : SupX K (He.ga K c) (He.ga K d) := by
  obtain ⟨h1, h⟩ := He.ba h
  obtain ⟨h2, h⟩ := He.ba h
  obtain ⟨h3, h4⟩ := He.ba h
  exact ⟨of_decide_eq_true h1, of_decide_eq_true h2, of_decide_eq_true h3, He.eqO_ok h4⟩
/-! ### static methods: where their defs stand -/
def stRec (K : Frg) (c m : Str) : Addr := match findCls K (.ref (He.ga K c)) (.type "type") m with
  | some (.get _ (.ref p) _ _) => p
  | _ => 0
def stAd (K : Frg) (c m : Str) : Addr := match recIn K (stRec K c m) "staticmethod" with
  | some (.ref f :: _) => f
  | _ => 0
structure TDef : Type where
  cl : Str
  name : Str
  qual : Str
  params : Arguments
  body : List Stmt
  scope : PySem.Scope
def TDef.val (d : TDef) : He.FnW := some (d.name, d.qual, d.params, .stmts d.body, d.scope, mainGlobals, [], builtinsNs)
def fnT (K : Frg) (a : Addr) : He.FnW := match K.lookup a with
  | some ⟨_, _, .func fd, _⟩ => some (fd.name, fd.qualname, fd.params, fd.body, fd.scope, fd.globals, fd.closure, fd.builtins)
  | _ => none
def TDef.ok (K : Frg) (d : TDef) : Bool := keepIn K (.ref (stAd K d.cl d.name)) && (match K.lookup (stAd K d.cl d.name) with
  | some ⟨_, _, .func fd, _⟩ => codeIn K fd.code d.qual && nonB fd.defaults
  | _ => false)
theorem TDef.fun {K : Frg} {d : TDef} {st : Stmt} (h1 : defArgs st = d.params) (h2 : defBody st = d.body) (h3 : defScope st = d.scope) (e : fnT K (stAd K d.cl d.name) = d.val) (c : d.ok K = true) : ∃ fd, Fun K d.name d.qual st (stAd K d.cl d.name) fd := by
  obtain ⟨kp, c2⟩ := He.ba c
  unfold fnT at e
  cases q : K.lookup (stAd K d.cl d.name) with
  | none => rw [q] at c2; cases c2
  | some o =>
    obtain ⟨oc, od, dt, osl⟩ := o
    rw [q] at c2 e
    cases dt with
    | func fd =>
      obtain ⟨n1, n2, n3, n4, n5, n6, n7, n8, n9, n10, n11, n12, n13, n14, n15⟩ := fd
      have e2 : (some (n1, n2, n3, n4, n5, n6, n7, n15) : He.FnW) = some (d.name, d.qual, d.params, .stmts d.body, d.scope, mainGlobals, [], builtinsNs) := e
      simp only [Option.some.injEq, Prod.mk.injEq] at e2
      obtain ⟨j1, j2, j3, j4, j5, j6, j7, j8⟩ := e2
      have c3 : (codeIn K n13 d.qual && nonB n8) = true := c2
      obtain ⟨k1, k2⟩ := He.ba c3
      have k2 := nonB_ok k2
      subst j1 j2 j3 j4 j5 j6 j7 j8 k2
      rw [← h1, ← h2, ← h3] at q
      exact ⟨_, ⟨oc, od, n9, n10, n11, n12, n13, n14, osl, rfl, q, k1⟩, kp⟩
    | _ => cases c2
/-- C.m is a static method -/
def statB (K : Frg) (c m : Str) : Bool := readsIn K (He.ga K c) (.type "type") && (He.eqO (specialIn K (.ref (He.ga K c)) "__getattribute__") (some (some (.builtin "type.__getattribute__"))) && ((match findCls K (.ref (He.ga K c)) (.type "type") m with
  | some (.get (.builtin g) (.ref p) .none (.ref D)) => g == "staticmethod.__get__" && (decide (p = stRec K c m) && decide (D = He.ga K c))
  | _ => false) && (match recIn K (stRec K c m) "staticmethod" with
  | some (.ref f :: _) => decide (f = stAd K c m)
  | _ => false)))
theorem statB_ok {K : Frg} {mg : Mg} {c m : Str} (hg : mg c = some (.ref (He.ga K c))) (h : statB K c m = true) : ∃ C mc p, mg c = some (.ref C) ∧ CRead K C mc ∧ findCls K (.ref C) mc m = some (.get (.builtin "staticmethod.__get__") (.ref p) .none (.ref C)) ∧ ∃ rest, recIn K p "staticmethod" = some (.ref (stAd K c m) :: rest) := by
  obtain ⟨h1, h⟩ := He.ba h
  obtain ⟨h2, h⟩ := He.ba h
  obtain ⟨h3, h4⟩ := He.ba h
  refine ⟨He.ga K c, .type "type", stRec K c m, hg, ⟨h1, He.eqO_ok h2⟩, ?_, ?_⟩
  · split at h3
    · rename_i g p D e
      obtain ⟨k1, k⟩ := He.ba h3
      obtain ⟨k2, k3⟩ := He.ba k
      rw [e, eq_of_beq k1, of_decide_eq_true k2, of_decide_eq_true k3]
    · cases h3
  · split at h4
    · rename_i f r e
      exact ⟨r, by rw [e, of_decide_eq_true h4]⟩
    · cases h4
/-! ### the hook with static methods -/
abbrev AlT : Type := AlM × (Bool × List He.FnW)
def obsT (file : Str) (fa : List (Frg → Bool)) (fn : List He.DefD) (fs : List SDef) (ft : List TDef) (K : Frg) : AlT := (obsM file fa fn fs K, (ft.all fun d => d.ok K, ft.map fun d => fnT K (stAd K d.cl d.name)))
def valT (fn : List He.DefD) (fs : List SDef) (ft : List TDef) : AlT := (valM fn fs, (true, ft.map TDef.val))
def SaysT (file : Str) (fa : List (Frg → Bool)) (fn : List He.DefD) (fs : List SDef) (ft : List TDef) (K : Frg) : Prop := obsT file fa fn fs ft K = valT fn fs ft
def obsTG (n : Nat) (file : Str) (fa : List (Frg → Bool)) (fn : List He.DefD) (fs : List SDef) (ft : List TDef) (g : Addr → Option Obj) : AlT := obsT file fa fn fs ft (He.frG g (cStatics :: He.asD g n))
def hookT (n : Nat) (file : Str) (fa : List (Frg → Bool)) (fn : List He.DefD) (fs : List SDef) (ft : List TDef) : PySem.W.Hook where
  α := AlT
  obs := fun s => obsTG n file fa fn fs ft s.heap.get?
  val := fun _ => valT fn fs ft
  says := fun _ h => ∃ K : Frg, K.In h ∧ SaysT file fa fn fs ft K
  of := fun _ _ e => ⟨_, He.frG_in, e⟩
  keeps := fun _ _ _ ⟨K, hK, c⟩ k => ⟨K, PySem.W.Frag.In.keeps hK k, c⟩
theorem obsTG_eq {n : Nat} {file : Str} {fa : List (Frg → Bool)} {fn : List He.DefD} {fs : List SDef} {ft : List TDef} {g : Addr → Option Obj} {s : Shared} (h : ∀ a, g a = s.heap.get? a) : obsTG n file fa fn fs ft g = (hookT n file fa fn fs ft).obs s := by
  have e : g = s.heap.get? := funext h
  rw [e] <;> rfl
section
variable {file : Str} {fa : List (Frg → Bool)} {fn : List He.DefD} {fs : List SDef} {ft : List TDef} {K : Frg}
theorem SaysT.m (c : SaysT file fa fn fs ft K) : SaysM file fa fn fs K := congrArg (fun z : AlT => z.1) c
theorem SaysT.fact (c : SaysT file fa fn fs ft K) (i : Nat) {f : Frg → Bool} (h : fa[i]? = some f := by rfl) : f K = true := c.m.fact i h
theorem SaysT.def_ (c : SaysT file fa fn fs ft K) (i : Nat) {d : He.DefD} (h : fn[i]? = some d := by rfl) : ∃ fd, FunD K d.name d.qual d.params d.body d.scope (d.dvs K) (d.kws K) (He.fAd K d.at_) fd := c.m.def_ i h
theorem SaysT.sdef (c : SaysT file fa fn fs ft K) (i : Nat) {d : SDef} (h : fs[i]? = some d := by rfl) : ∃ fd, FunS K d (He.ga K d.cl) file (He.fAd K d.at_) fd := c.m.sdef i h
theorem SaysT.tdef (c : SaysT file fa fn fs ft K) (i : Nat) {d : TDef} {st : Stmt} (h : ft[i]? = some d) (h1 : defArgs st = d.params) (h2 : defBody st = d.body) (h3 : defScope st = d.scope) : ∃ fd, Fun K d.name d.qual st (stAd K d.cl d.name) fd := by
  have c1 : (ft.all fun d => d.ok K) = true := congrArg (fun z : AlT => z.2.1) c
  have e : (ft.map fun d => fnT K (stAd K d.cl d.name)) = ft.map TDef.val := congrArg (fun z : AlT => z.2.2) c
  have e2 : (ft.map fun d => fnT K (stAd K d.cl d.name))[i]? = (ft.map TDef.val)[i]? := by rw [e]
  rw [List.getElem?_map, List.getElem?_map, h] at e2
  exact TDef.fun h1 h2 h3 (Option.some.inj e2) (List.all_eq_true.mp c1 d (List.mem_of_getElem? h))
end
def tM (c m : Str) (q : Str) (st : Stmt) : TDef := ⟨c, m, q, defArgs st, defBody st, defScope st⟩
end PF

set_option Elab.async false
set_option linter.all false
set_option maxRecDepth 100000
set_option maxHeartbeats 4000000
/-! a, b = e1, e2 where the names may hold lists of their own. -/
namespace PF
open PySem PySem.Spec L2
theorem fldT_sub {K : Frg} {mg : Mg} {cs cs' : List Str} {f : Str} (h : ∀ c ∈ cs, c ∈ cs') (t : FldT K mg cs' f) : FldT K mg cs f := fun c hc => t c (h c hc)
@[simp] def gParVO (i j : Nat) (f : Sl → Res D) (h : Sl → Res (List D)) (ρ : Sl) : Out := rS (f ρ) ρ fun d => rS (h ρ) ρ fun e => .nx ((ρ.set i (.v d)).set j (.o e))
@[simp] def gParOV (i j : Nat) (f : Sl → Res (List D)) (h : Sl → Res D) (ρ : Sl) : Out := rS (f ρ) ρ fun d => rS (h ρ) ρ fun e => .nx ((ρ.set i (.o d)).set j (.v e))
@[simp] def gParOO (i j : Nat) (f h : Sl → Res (List D)) (ρ : Sl) : Out := rS (f ρ) ρ fun d => rS (h ρ) ρ fun e => .nx ((ρ.set i (.o d)).set j (.o e))
section
variable {X : Cx} {hx : Hx} {W : WX} (i j : Nat) {x y : Str} {a b : Expr} {px py pt pos : Pos} {kt k2 pt2}
theorem ms_parVO {f : Sl → Res D} {h : Sl → Res (List D)} (hc : X.calm = true) (hN : X.N.Nodup) (ha : ME X hx W a f) (hb : MF X hx W b h) (hi : X.N[i]? = some x := by rfl) (hj : X.N[j]? = some y := by rfl) (hij : i ≠ j := by decide)
    (hx' : X.env.scope.names.lookup x = some .local := by rfl) (hy : X.env.scope.names.lookup y = some .local := by rfl)
    (s1 : starEach [a, b] X.env = (false, eval a X.env) :: starEach [b] X.env := by rfl) (s2 : starEach [b] X.env = (false, eval b X.env) :: starEach [] X.env := by rfl)
    (hw : swappedStores [.Tuple [.Name x px, .Name y py] kt pt] (.Tuple [a, b] k2 pt2) X.env = pure (some [x, y]) := by rfl)
    (hs : swapsWithSole [.Tuple [.Name x px, .Name y py] kt pt] (.Tuple [a, b] k2 pt2) pos.line X.env = pure false := by rfl) :
    MS X hx W (.Assign [.Tuple [.Name x px, .Name y py] kt pt] (.Tuple [a, b] k2 pt2) pos) (gParVO i j f h) :=
  ps_imp (ps_par hc hN hi hj hij hx' hy (pa_cons ha (pa_cons hb pa_nil s2) s1) hw hs) fun D σ H ⟨b, S, ρ, R, q⟩ =>
    ⟨b, S, ρ, R, rS_po R q fun d v S1 H1 g1 r1 k => ⟨b, S1, ρ, R.grow g1, rS_po (R.grow g1) (PoS.up g1.s k) fun d2 v2 S2 H2 g2 ⟨p, vs, h1, h2, h3, h4, h5⟩ k2 => by
      subst h1
      exact ⟨_, _, rfl, k2 S2 _ H2 g2.s (((R.grow g1).put r1).putN g2 h2 h3 h4 h5)⟩⟩⟩
theorem ms_parOV {f : Sl → Res (List D)} {h : Sl → Res D} (hc : X.calm = true) (hN : X.N.Nodup) (ha : MF X hx W a f) (hb : ME X hx W b h) (hi : X.N[i]? = some x := by rfl) (hj : X.N[j]? = some y := by rfl) (hij : i ≠ j := by decide)
    (hx' : X.env.scope.names.lookup x = some .local := by rfl) (hy : X.env.scope.names.lookup y = some .local := by rfl)
    (s1 : starEach [a, b] X.env = (false, eval a X.env) :: starEach [b] X.env := by rfl) (s2 : starEach [b] X.env = (false, eval b X.env) :: starEach [] X.env := by rfl)
    (hw : swappedStores [.Tuple [.Name x px, .Name y py] kt pt] (.Tuple [a, b] k2 pt2) X.env = pure (some [x, y]) := by rfl)
    (hs : swapsWithSole [.Tuple [.Name x px, .Name y py] kt pt] (.Tuple [a, b] k2 pt2) pos.line X.env = pure false := by rfl) :
    MS X hx W (.Assign [.Tuple [.Name x px, .Name y py] kt pt] (.Tuple [a, b] k2 pt2) pos) (gParOV i j f h) :=
  ps_imp (ps_par hc hN hi hj hij hx' hy (pa_cons ha (pa_cons hb pa_nil s2) s1) hw hs) fun D σ H ⟨b, S, ρ, R, q⟩ =>
    ⟨b, S, ρ, R, rS_po R q fun d v S1 H1 g1 ⟨p, vs, h1, h2, h3, h4, h5⟩ k => ⟨b, S1, ρ, R.grow g1, rS_po (R.grow g1) (PoS.up g1.s k) fun d2 v2 S2 H2 g2 r2 k2 => by
      subst h1
      exact ⟨_, _, rfl, k2 S2 _ H2 g2.s (((R.putN g1 h2 h3 h4 h5).grow g2).put r2)⟩⟩⟩
theorem ms_parOO {f h : Sl → Res (List D)} (hc : X.calm = true) (hN : X.N.Nodup) (ha : MF X hx W a f) (hb : MF X hx W b h) (hi : X.N[i]? = some x := by rfl) (hj : X.N[j]? = some y := by rfl) (hij : i ≠ j := by decide)
    (hx' : X.env.scope.names.lookup x = some .local := by rfl) (hy : X.env.scope.names.lookup y = some .local := by rfl)
    (s1 : starEach [a, b] X.env = (false, eval a X.env) :: starEach [b] X.env := by rfl) (s2 : starEach [b] X.env = (false, eval b X.env) :: starEach [] X.env := by rfl)
    (hw : swappedStores [.Tuple [.Name x px, .Name y py] kt pt] (.Tuple [a, b] k2 pt2) X.env = pure (some [x, y]) := by rfl)
    (hs : swapsWithSole [.Tuple [.Name x px, .Name y py] kt pt] (.Tuple [a, b] k2 pt2) pos.line X.env = pure false := by rfl) :
    MS X hx W (.Assign [.Tuple [.Name x px, .Name y py] kt pt] (.Tuple [a, b] k2 pt2) pos) (gParOO i j f h) :=
  ps_imp (ps_par hc hN hi hj hij hx' hy (pa_cons ha (pa_cons hb pa_nil s2) s1) hw hs) fun D σ H ⟨b, S, ρ, R, q⟩ =>
    ⟨b, S, ρ, R, rS_po R q fun d v S1 H1 g1 ⟨p, vs, h1, h2, h3, h4, h5⟩ k => ⟨b, S1, ρ, R.grow g1, rS_po (R.grow g1) (PoS.up g1.s k) fun d2 v2 S2 H2 g2 ⟨p', vs', h1', h2', h3', h4', h5'⟩ k2 => by
      subst h1 h1'
      exact ⟨_, _, rfl, k2 S2 _ H2 g2.s ((R.putN g1 h2 h3 h4 h5).putN g2 h2' h3' h4' h5')⟩⟩⟩
end
end PF

set_option Elab.async false
set_option linter.all false
set_option maxRecDepth 100000
/-! What each def of the program and of the law law_k12_studies_refuse_in_order makes of its arguments (printed by gen.py) -/
namespace S_k12
open PySem L2 PF
def t_BadRge_TooMny_BadSen (x : Str) : Option Bool := List.lookup x [("BadNumber", false), ("BadRange", true), ("BadSeen", true), ("BadTask", false), ("TooMany", true)]
def t_BadNumber (x : Str) : Option Bool := List.lookup x [("BadNumber", true), ("BadRange", false), ("BadSeen", false), ("BadTask", false), ("TooMany", false)]
def t_BadNer_TooMny_BadSen (x : Str) : Option Bool := List.lookup x [("BadNumber", true), ("BadRange", false), ("BadSeen", true), ("BadTask", false), ("TooMany", true)]
def t_BadRange (x : Str) : Option Bool := List.lookup x [("BadNumber", false), ("BadRange", true), ("BadSeen", false), ("BadTask", false), ("TooMany", false)]
def t_BadNer_BadRge_BadSen (x : Str) : Option Bool := List.lookup x [("BadNumber", true), ("BadRange", true), ("BadSeen", true), ("BadTask", false), ("TooMany", false)]
def t_TooMany (x : Str) : Option Bool := List.lookup x [("BadNumber", false), ("BadRange", false), ("BadSeen", false), ("BadTask", false), ("TooMany", true)]
def t_BadNer_BadRge_TooMny (x : Str) : Option Bool := List.lookup x [("BadNumber", true), ("BadRange", true), ("BadSeen", false), ("BadTask", false), ("TooMany", true)]
def t_BadSeen (x : Str) : Option Bool := List.lookup x [("BadNumber", false), ("BadRange", false), ("BadSeen", true), ("BadTask", false), ("TooMany", false)]
def t_BadTsk_NotAan_Unlied_BadPer_NoCots_BadQon_BadTxt_BadNme_Unknme (x : Str) : Option Bool := List.lookup x [("BadNumber", false), ("BadRange", false), ("BadSeen", false), ("BadTask", true), ("TooMany", false)]
def t_ValueError (x : Str) : Option Bool := List.lookup x [("BadNumber", true), ("BadRange", true), ("BadSeen", true), ("BadTask", true), ("TooMany", true)]
def t_StaleKey (x : Str) : Option Bool := List.lookup x [("BadNumber", false), ("BadRange", false), ("BadSeen", false), ("BadTask", false), ("TooMany", false)]
def t_CostsError (x : Str) : Option Bool := List.lookup x [("BadNumber", true), ("BadRange", true), ("BadSeen", true), ("BadTask", true), ("TooMany", true)]
def cs_ranges : List Str := ["Study"]
def cs_seen : List Str := ["Study"]
def cs_usages : List Str := ["Menu"]
def cs_width : List Str := ["Menu", "Study"]
def is_Menu : List (Str × Bool) := [("Menu", true), ("Study", false)]
def is_Study : List (Str × Bool) := [("Menu", false), ("Study", true)]
def xr_letter : List Str := ["BadRange"]
def xr_limit : List Str := ["TooMany"]
def xr_place : List Str := ["BadSeen"]
def xr_word : List Str := ["TooMany"]
/-- self 0, letter 1, __class__ 2 -/
noncomputable def g_BadRange_init : GX :=
  (xSeq (xSup (aCons (sJn [(sC (.str "invalid range of letter ")), (sUn fmtD (sRd 1))] Str.empty) aNil))
    (xSeq (xFld "letter" (sVar 1))
    xNil))
noncomputable def f_BadRange_init : List D → Res Fl := semX 3 g_BadRange_init
/-- self 0, place 1, __class__ 2 -/
noncomputable def g_BadSeen_init : GX :=
  (xSeq (xSup (aCons (sJn [(sC (.str "invalid seen plan at place ")), (sUn fmtD (sRd 1))] Str.empty) aNil))
    (xSeq (xFld "place" (sVar 1))
    xNil))
noncomputable def f_BadSeen_init : List D → Res Fl := semX 3 g_BadSeen_init
/-- self 0, word 1, limit 2, __class__ 3 -/
noncomputable def g_TooMany_init : GX :=
  (xSeq (xSup (aCons (sJn [(sC (.str "more than ")), (sUn fmtD (sRd 2)), (sC (.str " ")), (sUn fmtD (sRd 1))] Str.empty) aNil))
    (xSeq (xFld "word" (sVar 1))
    (xSeq (xFld "limit" (sVar 2))
    xNil)))
noncomputable def f_TooMany_init : List D → Res Fl := semX 4 g_TooMany_init
/-- left 0, right 1, gap 2 -/
noncomputable def g_compare : Sl → Out :=
  (gSeq (gSet 2 (sOp oSub (sOp oMul (sOp oIx (sRd 0) (sC (.int 0))) (sOp oIx (sRd 1) (sC (.int 1)))) (sOp oMul (sOp oIx (sRd 1) (sC (.int 0))) (sOp oIx (sRd 0) (sC (.int 1))))))
    (gRet (sOp oSub (sUn bIntT (sOp oGt (sRd 2) (sC (.int 0)))) (sUn bIntT (sOp oLt (sRd 2) (sC (.int 0)))))))
noncomputable def f_compare : List D → Res D := semF 3 g_compare
/-- value 0 -/
noncomputable def g_is_whole : Sl → Out :=
  (gRet (sAnd (sUn (bIsi "int") (sRd 0)) (sNot (sUn (bIsi "bool") (sRd 0)))))
noncomputable def f_is_whole : List D → Res D := semF 1 g_is_whole
/-- self 0, plan 1 -/
noncomputable def g_Menu_is_plan : Sl → Out :=
  (gRet (sAnd (sCall f_is_whole (aCons (sVar 1) aNil)) (sChn oLe oLt (sC (.int 0)) (sRd 1) (sUn bLen (sUn (bFld cs_usages "usages") (sRd 0))))))
noncomputable def f_Menu_is_plan : List D → Res D := semF 2 g_Menu_is_plan
noncomputable def mt_is_plan : MtT := [("Menu", f_Menu_is_plan)]
/-- self 0, width 1, ranges 2, seen 3, letter 4, low 5, high 6, place 7, task 8, plan 9 -/
noncomputable def b1_Study_init : Sl → Out :=
  (gIf (tAnd (sTest (sOp oNotN (sRd 5) (sC .non))) (tAnd (sTest (sOp oNotN (sRd 6) (sC .non))) (sTest (sOp oGt (sCall f_compare (aCons (sVar 5) (aCons (sVar 6) aNil))) (sC (.int 0)))))) (gRaiseX "BadRange" f_BadRange_init (aCons (sVar 4) aNil)) gNil)
noncomputable def b2_Study_init : Sl → Out :=
  (gIf (tOr (sTest (sOp oNe (sUn (bFld cs_width "width") (sRd 8)) (sRd 1))) (tNot (tTru (sMeth mt_is_plan "is_plan" (sRd 8) (aCons (sVar 9) aNil))))) (gRaiseX "BadSeen" f_BadSeen_init (aCons (sVar 7) aNil)) gNil)
noncomputable def b3_Study_init : Sl → Res D :=
  (sTup (aCons (sVar 5) (aCons (sVar 6) aNil)))
noncomputable def b4_Study_init : Sl → Res D :=
  (sTup (aCons (sVar 8) (aCons (sVar 9) aNil)))
noncomputable def g_Study_init : GI :=
  (jSeq (jPl (gIf (tOr (tNot (sTest (sChn oLe oLe (sC (.int 1)) (sRd 1) (sC (.int 8))))) (sTest (sOp oNe (sUn bLen (sRd 2)) (sRd 1)))) (gRaise "BadNumber") gNil))
    (jSeq (jPl (gFor (iEnu (aCons (sVar 2) aNil)) (gTup 2 (gsCons (gName 4) (gsCons (gTup 2 (gsCons (gName 5) (gsCons (gName 6) gsNil))) gsNil))) b1_Study_init))
    (jSeq (jPl (gIf (sTest (sOp oGt (sUn bLen (sRd 3)) (sC (.int 10)))) (gRaiseX "TooMany" f_TooMany_init (aCons (sC (.str "seen")) (aCons (sC (.int 10)) aNil))) gNil))
    (jSeq (jPl (gFor (iEnu (aCons (sVar 3) aNil)) (gTup 2 (gsCons (gName 7) (gsCons (gTup 2 (gsCons (gName 8) (gsCons (gName 9) gsNil))) gsNil))) b2_Study_init))
    (jSeq (jFld "width" (sVar 1))
    (jSeq (jFld "ranges" (sUn bTup (sLst (fLc (iSeq (sVar 2)) (gTup 2 (gsCons (gName 5) (gsCons (gName 6) gsNil))) tYesF b3_Study_init [5, 6]))))
    (jSeq (jFld "seen" (sUn bTup (sLst (fLc (iSeq (sVar 3)) (gTup 2 (gsCons (gName 8) (gsCons (gName 9) gsNil))) tYesF b4_Study_init [8, 9]))))
    jNil)))))))
noncomputable def f_Study_init : Addr → Fl → List D → Res Fl := semI 10 g_Study_init
/-- width 0 -/
noncomputable def g_Study_free : Sl → Out :=
  (gRet (sMake "Study" f_Study_init (aCons (sVar 0) (aCons (sLst (fOp fRep (sLst (fLst (aCons (sTup (aCons (sC .non) (aCons (sC .non) aNil))) aNil))) (sRd 0))) (aCons (sLst (fLst aNil)) aNil)))))
noncomputable def f_Study_free : List D → Res D := semF 1 g_Study_free
/-- self 0, task 1, plan 2 -/
noncomputable def g_Study_with_seen : Sl → Out :=
  (gRet (sMake "Study" f_Study_init (aCons (sUn (bFld cs_width "width") (sRd 0)) (aCons (sUn (bFld cs_ranges "ranges") (sRd 0)) (aCons (sOp oAdd (sUn (bFld cs_seen "seen") (sRd 0)) (sTup (aCons (sTup (aCons (sVar 1) (aCons (sVar 2) aNil))) aNil))) aNil)))))
noncomputable def f_Study_with_seen : List D → Res D := semF 3 g_Study_with_seen
/-- self 0, place 1 -/
noncomputable def g_Study_without_seen : Sl → Out :=
  (gSeq (gIf (tNot (sTest (sChn oLe oLt (sC (.int 0)) (sRd 1) (sUn bLen (sUn (bFld cs_seen "seen") (sRd 0)))))) (gRaise "BadNumber") gNil)
    (gRet (sMake "Study" f_Study_init (aCons (sUn (bFld cs_width "width") (sRd 0)) (aCons (sUn (bFld cs_ranges "ranges") (sRd 0)) (aCons (sOp oAdd (sSl (sUn (bFld cs_seen "seen") (sRd 0)) pNone (pSome (sVar 1))) (sSl (sUn (bFld cs_seen "seen") (sRd 0)) (pSome (sOp oAdd (sRd 1) (sC (.int 1)))) pNone)) aNil))))))
noncomputable def f_Study_without_seen : List D → Res D := semF 2 g_Study_without_seen
/-- self 0, letter 1, low 2, high 3 -/
noncomputable def g_Study_with_range : Sl → Out :=
  (gSeq (gIf (tNot (sTest (sChn oLe oLt (sC (.int 0)) (sRd 1) (sUn (bFld cs_width "width") (sRd 0))))) (gRaise "BadNumber") gNil)
    (gRet (sMake "Study" f_Study_init (aCons (sUn (bFld cs_width "width") (sRd 0)) (aCons (sOp oAdd (sOp oAdd (sSl (sUn (bFld cs_ranges "ranges") (sRd 0)) pNone (pSome (sVar 1))) (sTup (aCons (sTup (aCons (sVar 2) (aCons (sVar 3) aNil))) aNil))) (sSl (sUn (bFld cs_ranges "ranges") (sRd 0)) (pSome (sOp oAdd (sRd 1) (sC (.int 1)))) pNone)) (aCons (sUn (bFld cs_seen "seen") (sRd 0)) aNil))))))
noncomputable def f_Study_with_range : List D → Res D := semF 4 g_Study_with_range
/-- self 0, width 1 -/
noncomputable def g_Task_init : GI :=
  (jSeq (jPl (gIf (tNot (sTest (sChn oLe oLe (sC (.int 1)) (sRd 1) (sC (.int 8))))) (gRaise "BadTask") gNil))
    (jSeq (jFld "width" (sVar 1))
    jNil))
noncomputable def f_Task_init : Addr → Fl → List D → Res Fl := semI 2 g_Task_init
/-- self 0, width 1, usages 2, __class__ 3, row 4 -/
noncomputable def b1_Menu_init : Sl → Out :=
  (gIf (sTest (sOp oNe (sUn bLen (sRd 4)) (sRd 1))) (gRaise "BadTask") gNil)
noncomputable def g_Menu_init : GI :=
  (jSeq (jSup f_Task_init (aCons (sVar 1) aNil))
    (jSeq (jPl (gIf (tNot (sTest (sChn oLe oLe (sC (.int 1)) (sUn bLen (sRd 2)) (sC (.int 24))))) (gRaise "BadTask") gNil))
    (jSeq (jPl (gFor (iSeq (sVar 2)) (gName 4) b1_Menu_init))
    (jSeq (jFld "usages" (sUn bTup (sLst (fLc (iSeq (sVar 2)) (gName 4) tYesF (sUn bTup (sRd 4)) [4]))))
    jNil))))
noncomputable def f_Menu_init : Addr → Fl → List D → Res Fl := semI 5 g_Menu_init
/-- cell 0, k 1, first 2, second 3 -/
noncomputable def g_ulaw_mix : Sl → Out :=
  (gSeq (gSet 2 (sOp oMod (sUn bIntT (sOp oAdd (sOp oAdd (sOp oMul (sRd 0) (sC (.int 48271))) (sOp oMul (sRd 1) (sC (.int 69621)))) (sC (.int 11)))) (sC (.int 2147483647))))
    (gSeq (gSet 3 (sOp oMod (sUn bIntT (sOp oAdd (sOp oAdd (sOp oMul (sRd 2) (sRd 2)) (sOp oMul (sRd 1) (sC (.int 40692)))) (sC (.int 7)))) (sC (.int 2147483399))))
    (gRet (sOp oFdiv (sOp oMod (sUn bIntT (sOp oAdd (sOp oMul (sRd 3) (sC (.int 16807))) (sRd 2))) (sC (.int 2147483587))) (sC (.int 8))))))
noncomputable def f_ulaw_mix : List D → Res D := semF 4 g_ulaw_mix
/-- script 0, at 1, many 2, cell 3, row 4, rest 5, k 6 -/
noncomputable def b1_ulaw_row : Sl → Out :=
  (gIf (tAnd (sTest (sOp oGe (sUn bAbs (sRd 3)) (sC (.int 1000000000000000000)))) (sTest (sOp oGt (sRd 5) (sC (.int 0))))) (gSeq (gApp 4 (sOp oMod (sUn bIntT (sRd 5)) (sC (.int 1009))))
    (gSet 5 (sOp oFdiv (sRd 5) (sC (.int 1009))))) (gApp 4 (sCall f_ulaw_mix (aCons (sVar 3) (aCons (sVar 6) aNil)))))
noncomputable def g_ulaw_row : Sl → Out :=
  (gSeq (gSet 3 (sVar 1))
    (gSeq (gIf (sTest (sOp oLt (sRd 1) (sUn bLen (sRd 0)))) (gSet 3 (sOp oIx (sRd 0) (sRd 1))) (gIf (sTest (sOp oGt (sUn bLen (sRd 0)) (sC (.int 0)))) (gSet 3 (sOp oAdd (sOp oIx (sRd 0) (sOp oMod (sRd 1) (sUn bLen (sRd 0)))) (sOp oMul (sC (.int 7919)) (sRd 1)))) gNil))
    (gSeq (gSetO 4 (fLst aNil))
    (gSeq (gSet 5 (sUn bAbs (sRd 3)))
    (gSeq (gFor (iRg1 (aCons (sVar 2) aNil)) (gName 6) b1_ulaw_row)
    (gRetO 4))))))
noncomputable def f_ulaw_row : List D → Res D := semF 7 g_ulaw_row
/-- value 0 -/
noncomputable def g_ulaw_is_whole : Sl → Out :=
  (gRet (sAnd (sUn (bIsi "int") (sRd 0)) (sNot (sUn (bIsi "bool") (sRd 0)))))
noncomputable def f_ulaw_is_whole : List D → Res D := semF 1 g_ulaw_is_whole
/-- value 0, size 1, num 2 -/
noncomputable def b1_ulaw_is_tuple : Sl → Res D :=
  (sCall f_ulaw_is_whole (aCons (sVar 2) aNil))
noncomputable def g_ulaw_is_tuple : Sl → Out :=
  (gRet (sAnd (sUn (bIsi "tuple") (sRd 0)) (sAnd (sOp oEq (sUn bLen (sRd 0)) (sRd 1)) (sUn bAll (sLst (fLc (iSeq (sVar 0)) (gName 2) tYesF b1_ulaw_is_tuple [2]))))))
noncomputable def f_ulaw_is_tuple : List D → Res D := semF 3 g_ulaw_is_tuple
/-- left 0, right 1, step 2 -/
noncomputable def b1_ulaw_common : Sl → Out :=
  (gSeq (gIf (sTest (sOp oEq (sRd 1) (sC (.int 0)))) (gRet (sVar 0)) gNil)
    (gPar 0 1 (sVar 1) (sOp oMod (sUn bIntT (sRd 0)) (sRd 1))))
noncomputable def g_ulaw_common : Sl → Out :=
  (gSeq (gPar 0 1 (sUn bAbs (sRd 0)) (sUn bAbs (sRd 1)))
    (gSeq (gFor (iRg1 (aCons (sOp oAdd (sOp oMul (sC (.int 2)) (sUn bBits (sRd 1))) (sC (.int 4))) aNil)) (gName 2) b1_ulaw_common)
    (gRet (sVar 0))))
noncomputable def f_ulaw_common : List D → Res D := semF 3 g_ulaw_common
/-- num 0, den 1, part 2 -/
noncomputable def g_ulaw_lowest : Sl → Out :=
  (gSeq (gSet 2 (sCall f_ulaw_common (aCons (sVar 0) (aCons (sVar 1) aNil))))
    (gSeq (gIf (sTest (sOp oLt (sRd 1) (sC (.int 0)))) (gSet 2 (sUn oNeg (sRd 2))) gNil)
    (gRet (sTup (aCons (sOp oFdiv (sRd 0) (sRd 2)) (aCons (sOp oFdiv (sRd 1) (sRd 2)) aNil))))))
noncomputable def f_ulaw_lowest : List D → Res D := semF 3 g_ulaw_lowest
/-- first 0, second 1 -/
noncomputable def g_ulaw_bound : Sl → Out :=
  (gSeq (gIf (sTest (sOp oEq (sOp oMod (sUn bIntT (sRd 1)) (sC (.int 4))) (sC (.int 1)))) (gRet (sCall f_ulaw_lowest (aCons (sOp oSub (sOp oMod (sUn bIntT (sOp oAdd (sOp oAdd (sOp oMul (sRd 0) (sOp oPow (sC (.int 10)) (sC (.int 22)))) (sOp oMul (sRd 1) (sOp oPow (sC (.int 10)) (sC (.int 11))))) (sOp oMul (sRd 0) (sRd 1)))) (sOp oPow (sC (.int 10)) (sC (.int 30)))) (sOp oMul (sC (.int 5)) (sOp oPow (sC (.int 10)) (sC (.int 29))))) (aCons (sOp oAdd (sC (.int 1)) (sOp oMod (sUn bIntT (sRd 1)) (sC (.int 97)))) aNil)))) gNil)
    (gRet (sCall f_ulaw_lowest (aCons (sOp oSub (sOp oMod (sUn bIntT (sRd 0)) (sC (.int 41))) (sC (.int 20))) (aCons (sOp oAdd (sC (.int 1)) (sOp oMod (sOp oFdiv (sUn bIntT (sRd 1)) (sC (.int 4))) (sC (.int 6)))) aNil)))))
noncomputable def f_ulaw_bound : List D → Res D := semF 2 g_ulaw_bound
/-- cells 0, first 1, second 2 -/
noncomputable def g_ulaw_range : Sl → Out :=
  (gSeq (gPar 1 2 (sCall f_ulaw_bound (aCons (sUn bIntT (sOp oIx (sRd 0) (sC (.int 1)))) (aCons (sUn bIntT (sOp oIx (sRd 0) (sC (.int 2)))) aNil))) (sCall f_ulaw_bound (aCons (sUn bIntT (sOp oIx (sRd 0) (sC (.int 3)))) (aCons (sUn bIntT (sOp oIx (sRd 0) (sC (.int 4)))) aNil))))
    (gSeq (gIf (sTest (sOp oGt (sOp oMul (sOp oIx (sRd 1) (sC (.int 0))) (sOp oIx (sRd 2) (sC (.int 1)))) (sOp oMul (sOp oIx (sRd 2) (sC (.int 0))) (sOp oIx (sRd 1) (sC (.int 1)))))) (gPar 1 2 (sVar 2) (sVar 1)) gNil)
    (gRet (sOp oIx (sLst (fLst (aCons (sTup (aCons (sC .non) (aCons (sC .non) aNil))) (aCons (sTup (aCons (sVar 1) (aCons (sC .non) aNil))) (aCons (sTup (aCons (sC .non) (aCons (sVar 2) aNil))) (aCons (sTup (aCons (sVar 1) (aCons (sVar 1) aNil))) (aCons (sTup (aCons (sVar 1) (aCons (sVar 2) aNil))) aNil))))))) (sOp oMod (sUn bIntT (sOp oIx (sRd 0) (sC (.int 0)))) (sC (.int 5)))))))
noncomputable def f_ulaw_range : List D → Res D := semF 3 g_ulaw_range
/-- cells 0, high 1 -/
noncomputable def g_ulaw_crossed : Sl → Out :=
  (gSeq (gSet 1 (sCall f_ulaw_bound (aCons (sUn bIntT (sOp oIx (sRd 0) (sC (.int 1)))) (aCons (sUn bIntT (sOp oIx (sRd 0) (sC (.int 2)))) aNil))))
    (gRet (sTup (aCons (sCall f_ulaw_lowest (aCons (sOp oAdd (sOp oMul (sC (.int 7)) (sOp oIx (sRd 1) (sC (.int 0)))) (sC (.int 1))) (aCons (sOp oMul (sC (.int 7)) (sOp oIx (sRd 1) (sC (.int 1)))) aNil))) (aCons (sVar 1) aNil)))))
noncomputable def f_ulaw_crossed : List D → Res D := semF 2 g_ulaw_crossed
/-- cells 0, width 1, usages 2, j 3, k 4 -/
noncomputable def b1_ulaw_usages : Sl → Res D :=
  (sOp oSub (sOp oMod (sUn bIntT (sOp oIx (sRd 0) (sOp oAdd (sOp oAdd (sC (.int 2)) (sOp oMul (sRd 1) (sRd 3))) (sRd 4)))) (sC (.int 10))) (sC (.int 2)))
noncomputable def b2_ulaw_usages : Sl → Out :=
  (gApp 2 (sUn bTup (sLst (fLc (iRg1 (aCons (sVar 1) aNil)) (gName 4) tYesF b1_ulaw_usages [4]))))
noncomputable def g_ulaw_usages : Sl → Out :=
  (gSeq (gSetO 2 (fLst aNil))
    (gSeq (gFor (iRg1 (aCons (sOp oAdd (sC (.int 1)) (sOp oMod (sUn bIntT (sOp oIx (sRd 0) (sC (.int 0)))) (sC (.int 4)))) aNil)) (gName 3) b2_ulaw_usages)
    (gFrz 2 (gRet (sTup (aCons (sVar 2) (aCons (sOp oMod (sUn bIntT (sOp oIx (sRd 0) (sC (.int 1)))) (sUn bLen (sRd 2))) aNil)))))))
noncomputable def f_ulaw_usages : List D → Res D := semF 5 g_ulaw_usages
/-- told 0, due 1 -/
noncomputable def g_ulaw_is_bound : Sl → Out :=
  (gSeq (gIf (sTest (sOp oIsN (sRd 1) (sC .non))) (gRet (sOp oIsN (sRd 0) (sC .non))) gNil)
    (gRet (sAnd (sCall f_ulaw_is_tuple (aCons (sVar 0) (aCons (sC (.int 2)) aNil))) (sOp oEq (sRd 0) (sRd 1)))))
noncomputable def f_ulaw_is_bound : List D → Res D := semF 2 g_ulaw_is_bound
/-- study 0, ranges 1, seen 2, width 3, k 4, pair 5 -/
noncomputable def b1_ulaw_is_study : Sl → Out :=
  (gSeq (gSet 5 (sOp oIx (sUn (bFld cs_ranges "ranges") (sRd 0)) (sRd 4)))
    (gSeq (gIf (tOr (tNot (tTru (sUn (bIsi "tuple") (sRd 5)))) (sTest (sOp oNe (sUn bLen (sRd 5)) (sC (.int 2))))) (gRet (sC (.bl false))) gNil)
    (gIf (tOr (tNot (tTru (sCall f_ulaw_is_bound (aCons (sOp oIx (sRd 5) (sC (.int 0))) (aCons (sOp oIx (sOp oIx (sRd 1) (sRd 4)) (sC (.int 0))) aNil))))) (tNot (tTru (sCall f_ulaw_is_bound (aCons (sOp oIx (sRd 5) (sC (.int 1))) (aCons (sOp oIx (sOp oIx (sRd 1) (sRd 4)) (sC (.int 1))) aNil)))))) (gRet (sC (.bl false))) gNil)))
noncomputable def b2_ulaw_is_study : Sl → Out :=
  (gSeq (gSet 5 (sOp oIx (sUn (bFld cs_seen "seen") (sRd 0)) (sRd 4)))
    (gSeq (gIf (tOr (tNot (tTru (sUn (bIsi "tuple") (sRd 5)))) (tOr (sTest (sOp oNe (sUn bLen (sRd 5)) (sC (.int 2)))) (tNot (tTru (sUn (bIsC is_Menu) (sOp oIx (sRd 5) (sC (.int 0)))))))) (gRet (sC (.bl false))) gNil)
    (gIf (tOr (sTest (sOp oNe (sUn (bFld cs_usages "usages") (sOp oIx (sRd 5) (sC (.int 0)))) (sUn bTup (sOp oIx (sOp oIx (sRd 2) (sRd 4)) (sC (.int 0)))))) (tOr (tNot (tTru (sCall f_ulaw_is_whole (aCons (sOp oIx (sRd 5) (sC (.int 1))) aNil)))) (sTest (sOp oNe (sOp oIx (sRd 5) (sC (.int 1))) (sOp oIx (sOp oIx (sRd 2) (sRd 4)) (sC (.int 1))))))) (gRet (sC (.bl false))) gNil)))
noncomputable def g_ulaw_is_study : Sl → Out :=
  (gSeq (gSet 3 (sUn bLen (sRd 1)))
    (gSeq (gIf (tOr (tNot (tTru (sUn (bIsC is_Study) (sRd 0)))) (tOr (tNot (tTru (sCall f_ulaw_is_whole (aCons (sUn (bFld cs_width "width") (sRd 0)) aNil)))) (sTest (sOp oNe (sUn (bFld cs_width "width") (sRd 0)) (sRd 3))))) (gRet (sC (.bl false))) gNil)
    (gSeq (gIf (tOr (tNot (tTru (sUn (bIsi "tuple") (sUn (bFld cs_ranges "ranges") (sRd 0))))) (sTest (sOp oNe (sUn bLen (sUn (bFld cs_ranges "ranges") (sRd 0))) (sRd 3)))) (gRet (sC (.bl false))) gNil)
    (gSeq (gFor (iRg1 (aCons (sVar 3) aNil)) (gName 4) b1_ulaw_is_study)
    (gSeq (gIf (tOr (tNot (tTru (sUn (bIsi "tuple") (sUn (bFld cs_seen "seen") (sRd 0))))) (sTest (sOp oNe (sUn bLen (sUn (bFld cs_seen "seen") (sRd 0))) (sUn bLen (sRd 2))))) (gRet (sC (.bl false))) gNil)
    (gSeq (gFor (iRg1 (aCons (sUn bLen (sRd 2)) aNil)) (gName 4) b2_ulaw_is_study)
    (gRet (sC (.bl true)))))))))
noncomputable def f_ulaw_is_study : List D → Res D := semF 6 g_ulaw_is_study
/-- seen 0, width 1, usages 2, plan 3 -/
noncomputable def b1_ulaw_pairs : Sl → Res D :=
  (sTup (aCons (sMake "Menu" f_Menu_init (aCons (sVar 1) (aCons (sLst (fUn bLst (sRd 2))) aNil))) (aCons (sVar 3) aNil)))
noncomputable def g_ulaw_pairs : Sl → Out :=
  (gRetF (fLc (iSeq (sVar 0)) (gTup 2 (gsCons (gName 2) (gsCons (gName 3) gsNil))) tYesF b1_ulaw_pairs [2, 3]))
noncomputable def f_ulaw_pairs : List D → Res D := semF 4 g_ulaw_pairs
noncomputable def mt_with_seen : MtT := [("Study", f_Study_with_seen)]
noncomputable def mt_without_seen : MtT := [("Study", f_Study_without_seen)]
noncomputable def mt_with_range : MtT := [("Study", f_Study_with_range)]
/-- way 0, study 1, first 2, second 3, third 4, told 5, e 6 -/
noncomputable def g_ulaw_fault : Sl → Out :=
  (gSeq (gSet 5 (sTup (aCons (sC (.str "no")) (aCons (sC (.int 0)) aNil))))
    (gSeq (gTry 6 t_CostsError (gIf (sTest (sOp oEq (sRd 0) (sC (.int 0)))) (gDrop (sMake "Study" f_Study_init (aCons (sVar 2) (aCons (sVar 3) (aCons (sVar 4) aNil))))) (gIf (sTest (sOp oEq (sRd 0) (sC (.int 1)))) (gDrop (sMeth mt_with_seen "with_seen" (sRd 1) (aCons (sVar 2) (aCons (sVar 3) aNil)))) (gIf (sTest (sOp oEq (sRd 0) (sC (.int 2)))) (gDrop (sMeth mt_without_seen "without_seen" (sRd 1) (aCons (sVar 2) aNil))) (gDrop (sMeth mt_with_range "with_range" (sRd 1) (aCons (sVar 2) (aCons (sVar 3) (aCons (sVar 4) aNil)))))))) (gSeq (gSet 5 (sTup (aCons (sC (.str "other")) (aCons (sC (.int 0)) aNil))))
    (gSeq (gIf (tAnd (tTru (sIsX 6 t_BadNumber)) (tNot (tTru (sIsX 6 t_BadRge_TooMny_BadSen)))) (gSet 5 (sTup (aCons (sC (.str "number")) (aCons (sC (.int 0)) aNil)))) gNil)
    (gSeq (gIf (tAnd (tTru (sIsX 6 t_BadRange)) (tNot (tTru (sIsX 6 t_BadNer_TooMny_BadSen)))) (gSet 5 (sTup (aCons (sC (.str "range")) (aCons (sXf 6 xr_letter "letter") aNil)))) gNil)
    (gSeq (gIf (tAnd (tTru (sIsX 6 t_TooMany)) (tNot (tTru (sIsX 6 t_BadNer_BadRge_BadSen)))) (gSet 5 (sTup (aCons (sC (.str "many")) (aCons (sXf 6 xr_word "word") (aCons (sXf 6 xr_limit "limit") aNil))))) gNil)
    (gSeq (gIf (tAnd (tTru (sIsX 6 t_BadSeen)) (tNot (tTru (sIsX 6 t_BadNer_BadRge_TooMny)))) (gSet 5 (sTup (aCons (sC (.str "place")) (aCons (sXf 6 xr_place "place") aNil)))) gNil)
    (gSeq (gIf (tTru (sIsX 6 t_BadTsk_NotAan_Unlied_BadPer_NoCots_BadQon_BadTxt_BadNme_Unknme)) (gSet 5 (sTup (aCons (sC (.str "other")) (aCons (sC (.int 0)) aNil)))) gNil)
    (gIf (tOr (tTru (sIsX 6 t_StaleKey)) (tNot (tTru (sIsX 6 t_ValueError)))) (gSet 5 (sTup (aCons (sC (.str "other")) (aCons (sC (.int 0)) aNil)))) gNil))))))))
    (gRet (sVar 5))))
noncomputable def f_ulaw_fault : List D → Res D := semF 7 g_ulaw_fault
/-- told 0, due 1, item 2 -/
noncomputable def b1_ulaw_is_fault : Sl → Res D :=
  (sOr (sCall f_ulaw_is_whole (aCons (sVar 2) aNil)) (sUn (bIsi "str") (sRd 2)))
noncomputable def g_ulaw_is_fault : Sl → Out :=
  (gRet (sAnd (sUn bAll (sLst (fLc (iSeq (sVar 0)) (gName 2) tYesF b1_ulaw_is_fault [2]))) (sOp oEq (sRd 0) (sRd 1))))
noncomputable def f_ulaw_is_fault : List D → Res D := semF 3 g_ulaw_is_fault
/-- pair 0, width 1, cell 2, plans 3, kind 4, row 5 -/
noncomputable def b1_ulaw_spoilt : Sl → Res D :=
  (sSl (sRd 5) (pSome (sC (.int 1))) pNone)
noncomputable def b2_ulaw_spoilt : Sl → Res D :=
  (sOp oAdd (sRd 5) (sTup (aCons (sC (.int 0)) aNil)))
noncomputable def b3_ulaw_spoilt : Sl → Res D :=
  (sSl (sRd 5) pNone (pSome (sC (.int 1))))
noncomputable def g_ulaw_spoilt : Sl → Out :=
  (gSeq (gSet 3 (sLst (fLst (aCons (sUn oNeg (sC (.int 1))) (aCons (sUn bLen (sOp oIx (sRd 0) (sC (.int 0)))) (aCons (sC .non) (aCons (sC (.str "0")) (aCons (sTup aNil) (aCons (sTup (aCons (sOp oIx (sRd 0) (sC (.int 1))) aNil)) aNil)))))))))
    (gSeq (gSet 4 (sOp oMod (sUn bIntT (sRd 2)) (sC (.int 8))))
    (gSeq (gIf (sTest (sOp oLt (sRd 4) (sC (.int 6)))) (gRet (sTup (aCons (sMake "Menu" f_Menu_init (aCons (sVar 1) (aCons (sLst (fUn bLst (sOp oIx (sRd 0) (sC (.int 0))))) aNil))) (aCons (sOp oIx (sRd 3) (sRd 4)) aNil)))) gNil)
    (gSeq (gIf (tAnd (sTest (sOp oEq (sRd 4) (sC (.int 6)))) (sTest (sOp oGt (sRd 1) (sC (.int 1))))) (gRet (sTup (aCons (sMake "Menu" f_Menu_init (aCons (sOp oSub (sRd 1) (sC (.int 1))) (aCons (sLst (fLc (iSeq (sOp oIx (sRd 0) (sC (.int 0)))) (gName 5) tYesF b1_ulaw_spoilt [5])) aNil))) (aCons (sOp oIx (sRd 0) (sC (.int 1))) aNil)))) gNil)
    (gSeq (gIf (sTest (sOp oLt (sRd 1) (sC (.int 8)))) (gRet (sTup (aCons (sMake "Menu" f_Menu_init (aCons (sOp oAdd (sRd 1) (sC (.int 1))) (aCons (sLst (fLc (iSeq (sOp oIx (sRd 0) (sC (.int 0)))) (gName 5) tYesF b2_ulaw_spoilt [5])) aNil))) (aCons (sOp oIx (sRd 0) (sC (.int 1))) aNil)))) gNil)
    (gRet (sTup (aCons (sMake "Menu" f_Menu_init (aCons (sC (.int 1)) (aCons (sLst (fLc (iSeq (sOp oIx (sRd 0) (sC (.int 0)))) (gName 5) tYesF b3_ulaw_spoilt [5])) aNil))) (aCons (sOp oIx (sRd 0) (sC (.int 1))) aNil)))))))))
noncomputable def f_ulaw_spoilt : List D → Res D := semF 6 g_ulaw_spoilt
/-- mask 0, ranges 1, seen 2, spare 3, cells 4, width 5, given 6, told_width 7, due 8, pairs 9, place 10, letter 11, k 12, kind 13 -/
noncomputable def b1_ulaw_refuses : Sl → Out :=
  (gIf (tOr (sTest (sOp oEq (sRd 12) (sRd 11))) (sTest (sOp oEq (sOp oMod (sUn bIntT (sOp oIx (sRd 4) (sC (.int 5)))) (sC (.int 2))) (sC (.int 1))))) (gSto 6 (sVar 12) (sCall f_ulaw_crossed (aCons (sSl (sRd 4) (pSome (sC (.int 6))) pNone) aNil))) gNil)
noncomputable def g_ulaw_refuses : Sl → Out :=
  (gSeq (gParVO 5 6 (sUn bLen (sRd 1)) (fUn bLst (sRd 1)))
    (gSeq (gSet 7 (sVar 5))
    (gSeq (gSet 8 (sTup (aCons (sC (.str "no")) (aCons (sC (.int 0)) aNil))))
    (gSeq (gSetO 9 (fSl (sCall f_ulaw_pairs (aCons (sLst (fOp fCat (sRd 2) (sLst (fLst (aCons (sVar 3) aNil))))) (aCons (sVar 5) aNil))) pNone (pSome (sC (.int 10)))))
    (gSeq (gIf (sTest (sOp oGt (sOp oMod (sRd 0) (sC (.int 16))) (sC (.int 7)))) (gSeq (gSetO 9 (fOp fRep (sRd 9) (sC (.int 11))))
    (gSeq (gSetO 9 (fSl (sRd 9) pNone (pSome (sC (.int 11)))))
    (gSet 8 (sTup (aCons (sC (.str "many")) (aCons (sC (.str "seen")) (aCons (sC (.int 10)) aNil))))))) gNil)
    (gSeq (gIf (sTest (sOp oEq (sOp oMod (sOp oFdiv (sRd 0) (sC (.int 4))) (sC (.int 2))) (sC (.int 1)))) (gSeq (gSet 10 (sOp oMod (sUn bIntT (sOp oIx (sRd 4) (sC (.int 0)))) (sUn bLen (sRd 9))))
    (gSeq (gSto 9 (sVar 10) (sCall f_ulaw_spoilt (aCons (sVar 3) (aCons (sVar 5) (aCons (sOp oIx (sRd 4) (sC (.int 1))) aNil)))))
    (gSeq (gIf (tAnd (sTest (sOp oEq (sOp oMod (sUn bIntT (sOp oIx (sRd 4) (sC (.int 2)))) (sC (.int 2))) (sC (.int 1)))) (sTest (sOp oLt (sRd 10) (sOp oSub (sUn bLen (sRd 9)) (sC (.int 1)))))) (gSto 9 (sUn oNeg (sC (.int 1))) (sCall f_ulaw_spoilt (aCons (sVar 3) (aCons (sVar 5) (aCons (sOp oIx (sRd 4) (sC (.int 3))) aNil))))) gNil)
    (gIf (sTest (sOp oEq (sOp oIx (sRd 8) (sC (.int 0))) (sC (.str "no")))) (gSet 8 (sTup (aCons (sC (.str "place")) (aCons (sVar 10) aNil)))) gNil)))) gNil)
    (gSeq (gIf (sTest (sOp oEq (sOp oMod (sOp oFdiv (sRd 0) (sC (.int 2))) (sC (.int 2))) (sC (.int 1)))) (gSeq (gSet 11 (sOp oMod (sUn bIntT (sOp oIx (sRd 4) (sC (.int 4)))) (sRd 5)))
    (gSeq (gFor (iRg2 (aCons (sVar 11) (aCons (sVar 5) aNil))) (gName 12) b1_ulaw_refuses)
    (gSet 8 (sTup (aCons (sC (.str "range")) (aCons (sVar 11) aNil)))))) gNil)
    (gSeq (gIf (sTest (sOp oEq (sOp oMod (sRd 0) (sC (.int 2))) (sC (.int 1)))) (gSeq (gSet 13 (sOp oMod (sUn bIntT (sOp oIx (sRd 4) (sC (.int 9)))) (sC (.int 4))))
    (gSeq (gIf (sTest (sOp oLt (sRd 13) (sC (.int 2)))) (gSet 7 (sOp oIx (sLst (fLst (aCons (sC (.int 0)) (aCons (sC (.int 9)) aNil)))) (sRd 13))) (gIf (sTest (sOp oEq (sRd 13) (sC (.int 2)))) (gPop 6) (gApp 6 (sTup (aCons (sC .non) (aCons (sC .non) aNil))))))
    (gSet 8 (sTup (aCons (sC (.str "number")) (aCons (sC (.int 0)) aNil)))))) gNil)
    (gFrz 9 (gFrz 6 (gRet (sCall f_ulaw_is_fault (aCons (sCall f_ulaw_fault (aCons (sC (.int 0)) (aCons (sC .non) (aCons (sVar 7) (aCons (sVar 6) (aCons (sVar 9) aNil)))))) (aCons (sVar 8) aNil))))))))))))))
noncomputable def f_ulaw_refuses : List D → Res D := semF 14 g_ulaw_refuses
/-- study 0, ranges 1, seen 2, spare 3, cells 4, width 5, many 6, letter 7, fresh 8, crossed 9, changed 10, menu 11, due 12, wrong 13, place 14, less 15, shorter 16, longer 17 -/
noncomputable def b1_ulaw_further : Sl → Out :=
  (gIf (tNot (tTru (sCall f_ulaw_is_fault (aCons (sCall f_ulaw_fault (aCons (sC (.int 2)) (aCons (sVar 0) (aCons (sVar 14) (aCons (sC .non) (aCons (sC .non) aNil)))))) (aCons (sTup (aCons (sC (.str "number")) (aCons (sC (.int 0)) aNil))) aNil))))) (gRet (sC (.bl false))) gNil)
noncomputable def b2_ulaw_further : Sl → Out :=
  (gSeq (gIf (tNot (tTru (sCall f_ulaw_is_fault (aCons (sCall f_ulaw_fault (aCons (sC (.int 3)) (aCons (sVar 0) (aCons (sVar 14) (aCons (sC .non) (aCons (sOp oIx (sRd 8) (sC (.int 1))) aNil)))))) (aCons (sTup (aCons (sC (.str "number")) (aCons (sC (.int 0)) aNil))) aNil))))) (gRet (sC (.bl false))) gNil)
    (gIf (tNot (tTru (sCall f_ulaw_is_fault (aCons (sCall f_ulaw_fault (aCons (sC (.int 3)) (aCons (sVar 0) (aCons (sVar 14) (aCons (sOp oIx (sRd 9) (sC (.int 0))) (aCons (sOp oIx (sRd 9) (sC (.int 1))) aNil)))))) (aCons (sTup (aCons (sC (.str "number")) (aCons (sC (.int 0)) aNil))) aNil))))) (gRet (sC (.bl false))) gNil))
noncomputable def g_ulaw_further : Sl → Out :=
  (gSeq (gPar 5 6 (sUn bLen (sRd 1)) (sUn bLen (sRd 2)))
    (gSeq (gSet 7 (sOp oMod (sUn bIntT (sOp oIx (sRd 4) (sC (.int 0)))) (sRd 5)))
    (gSeq (gPar 8 9 (sCall f_ulaw_range (aCons (sSl (sRd 4) (pSome (sC (.int 1))) pNone) aNil)) (sCall f_ulaw_crossed (aCons (sSl (sRd 4) (pSome (sC (.int 6))) pNone) aNil)))
    (gSeq (gSet 10 (sLst (fOp fCat (sLst (fOp fCat (sSl (sRd 1) pNone (pSome (sVar 7))) (sLst (fLst (aCons (sVar 8) aNil))))) (sSl (sRd 1) (pSome (sOp oAdd (sRd 7) (sC (.int 1)))) pNone))))
    (gSeq (gIf (tNot (tTru (sCall f_ulaw_is_study (aCons (sMeth mt_with_range "with_range" (sRd 0) (aCons (sVar 7) (aCons (sOp oIx (sRd 8) (sC (.int 0))) (aCons (sOp oIx (sRd 8) (sC (.int 1))) aNil)))) (aCons (sVar 10) (aCons (sVar 2) aNil)))))) (gRet (sC (.bl false))) gNil)
    (gSeq (gSet 11 (sMake "Menu" f_Menu_init (aCons (sVar 5) (aCons (sLst (fUn bLst (sOp oIx (sRd 3) (sC (.int 0))))) aNil))))
    (gSeq (gSet 12 (sTup (aCons (sC (.str "many")) (aCons (sC (.str "seen")) (aCons (sC (.int 10)) aNil)))))
    (gSeq (gIf (sTest (sOp oLt (sRd 6) (sC (.int 10)))) (gSeq (gSet 12 (sTup (aCons (sC (.str "place")) (aCons (sVar 6) aNil))))
    (gIf (tNot (tTru (sCall f_ulaw_is_study (aCons (sMeth mt_with_seen "with_seen" (sRd 0) (aCons (sVar 11) (aCons (sOp oIx (sRd 3) (sC (.int 1))) aNil))) (aCons (sVar 1) (aCons (sLst (fOp fCat (sRd 2) (sLst (fLst (aCons (sVar 3) aNil))))) aNil)))))) (gRet (sC (.bl false))) gNil)) gNil)
    (gSeq (gSet 13 (sCall f_ulaw_spoilt (aCons (sVar 3) (aCons (sVar 5) (aCons (sOp oIx (sRd 4) (sC (.int 9))) aNil)))))
    (gSeq (gIf (tNot (tTru (sCall f_ulaw_is_fault (aCons (sCall f_ulaw_fault (aCons (sC (.int 1)) (aCons (sVar 0) (aCons (sOp oIx (sRd 13) (sC (.int 0))) (aCons (sOp oIx (sRd 13) (sC (.int 1))) (aCons (sC .non) aNil)))))) (aCons (sVar 12) aNil))))) (gRet (sC (.bl false))) gNil)
    (gSeq (gIf (tAnd (sTest (sOp oEq (sRd 6) (sC (.int 10)))) (tNot (tTru (sCall f_ulaw_is_fault (aCons (sCall f_ulaw_fault (aCons (sC (.int 1)) (aCons (sVar 0) (aCons (sVar 11) (aCons (sOp oIx (sRd 3) (sC (.int 1))) (aCons (sC .non) aNil)))))) (aCons (sVar 12) aNil)))))) (gRet (sC (.bl false))) gNil)
    (gSeq (gFor (iSeq (sLst (fLst (aCons (sUn oNeg (sC (.int 1))) (aCons (sVar 6) (aCons (sOp oAdd (sRd 6) (sC (.int 3))) aNil)))))) (gName 14) b1_ulaw_further)
    (gSeq (gFor (iSeq (sLst (fLst (aCons (sUn oNeg (sC (.int 1))) (aCons (sVar 5) (aCons (sOp oAdd (sRd 5) (sC (.int 2))) aNil)))))) (gName 14) b2_ulaw_further)
    (gSeq (gIf (tNot (tTru (sCall f_ulaw_is_fault (aCons (sCall f_ulaw_fault (aCons (sC (.int 3)) (aCons (sVar 0) (aCons (sVar 7) (aCons (sOp oIx (sRd 9) (sC (.int 0))) (aCons (sOp oIx (sRd 9) (sC (.int 1))) aNil)))))) (aCons (sTup (aCons (sC (.str "range")) (aCons (sVar 7) aNil))) aNil))))) (gRet (sC (.bl false))) gNil)
    (gSeq (gIf (sTest (sOp oGt (sRd 6) (sC (.int 0)))) (gSeq (gSet 14 (sOp oMod (sUn bIntT (sOp oIx (sRd 4) (sC (.int 10)))) (sRd 6)))
    (gSeq (gSet 15 (sOp oAdd (sSl (sRd 2) pNone (pSome (sVar 14))) (sSl (sRd 2) (pSome (sOp oAdd (sRd 14) (sC (.int 1)))) pNone)))
    (gSeq (gSet 16 (sMeth mt_without_seen "without_seen" (sRd 0) (aCons (sVar 14) aNil)))
    (gSeq (gIf (tNot (tTru (sCall f_ulaw_is_study (aCons (sVar 16) (aCons (sVar 1) (aCons (sVar 15) aNil)))))) (gRet (sC (.bl false))) gNil)
    (gSeq (gSet 17 (sMeth mt_with_range "with_range" (sMeth mt_with_seen "with_seen" (sRd 16) (aCons (sVar 11) (aCons (sOp oIx (sRd 3) (sC (.int 1))) aNil))) (aCons (sVar 7) (aCons (sOp oIx (sRd 8) (sC (.int 0))) (aCons (sOp oIx (sRd 8) (sC (.int 1))) aNil)))))
    (gIf (tOr (tNot (tTru (sCall f_ulaw_is_study (aCons (sVar 17) (aCons (sVar 10) (aCons (sLst (fOp fCat (sRd 15) (sLst (fLst (aCons (sVar 3) aNil))))) aNil)))))) (tNot (tTru (sCall f_ulaw_is_study (aCons (sVar 16) (aCons (sVar 1) (aCons (sVar 15) aNil))))))) (gRet (sC (.bl false))) gNil)))))) gNil)
    (gRet (sC (.bl true))))))))))))))))))
noncomputable def f_ulaw_further : List D → Res D := semF 18 g_ulaw_further
/-- script 0, turns 1, width 2, many 3, cells 4, ranges 5, seen 6, spare 7, given 8, pairs 9, study 10, mask 11, full 12, k 13 -/
noncomputable def b1_law : Sl → Res D :=
  (sCall f_ulaw_range (aCons (sSl (sRd 4) (pSome (sOp oMul (sC (.int 5)) (sRd 13))) (pSome (sOp oAdd (sOp oMul (sC (.int 5)) (sRd 13)) (sC (.int 5))))) aNil))
noncomputable def b2_law : Sl → Res D :=
  (sCall f_ulaw_usages (aCons (sSl (sRd 4) (pSome (sOp oMul (sC (.int 34)) (sRd 13))) (pSome (sOp oAdd (sOp oMul (sC (.int 34)) (sRd 13)) (sC (.int 34))))) (aCons (sVar 2) aNil)))
noncomputable def b3_law : Sl → Out :=
  (gIf (tNot (tTru (sCall f_ulaw_refuses (aCons (sVar 11) (aCons (sVar 5) (aCons (sVar 6) (aCons (sVar 7) (aCons (sVar 4) aNil)))))))) (gRet (sC (.bl false))) gNil)
noncomputable def g_law : Sl → Out :=
  (gSeq (gSet 1 (sCall f_ulaw_row (aCons (sVar 0) (aCons (sC (.int 0)) (aCons (sC (.int 5)) aNil)))))
    (gSeq (gSet 2 (sOp oIx (sLst (fLst (aCons (sC (.int 1)) (aCons (sC (.int 8)) (aCons (sC (.int 2)) (aCons (sC (.int 3)) (aCons (sOp oAdd (sC (.int 1)) (sOp oMod (sOp oFdiv (sUn bIntT (sOp oIx (sRd 1) (sC (.int 0)))) (sC (.int 5))) (sC (.int 8)))) aNil))))))) (sOp oMod (sUn bIntT (sOp oIx (sRd 1) (sC (.int 0)))) (sC (.int 5)))))
    (gSeq (gSet 3 (sOp oIx (sLst (fLst (aCons (sC (.int 10)) (aCons (sC (.int 0)) (aCons (sC (.int 1)) (aCons (sOp oAdd (sC (.int 2)) (sOp oMod (sOp oFdiv (sUn bIntT (sOp oIx (sRd 1) (sC (.int 1)))) (sC (.int 5))) (sC (.int 3)))) (aCons (sOp oMod (sOp oFdiv (sUn bIntT (sOp oIx (sRd 1) (sC (.int 1)))) (sC (.int 5))) (sC (.int 11))) aNil))))))) (sOp oMod (sUn bIntT (sOp oIx (sRd 1) (sC (.int 1)))) (sC (.int 5)))))
    (gSeq (gSet 4 (sCall f_ulaw_row (aCons (sVar 0) (aCons (sC (.int 1)) (aCons (sC (.int 40)) aNil)))))
    (gSeq (gSet 5 (sLst (fLc (iRg1 (aCons (sVar 2) aNil)) (gName 13) tYesF b1_law [13])))
    (gSeq (gSet 4 (sCall f_ulaw_row (aCons (sVar 0) (aCons (sC (.int 2)) (aCons (sOp oMul (sC (.int 34)) (sC (.int 11))) aNil)))))
    (gSeq (gSet 6 (sLst (fLc (iRg1 (aCons (sVar 3) aNil)) (gName 13) tYesF b2_law [13])))
    (gSeq (gSet 7 (sCall f_ulaw_usages (aCons (sSl (sRd 4) (pSome (sC (.int 340))) pNone) (aCons (sVar 2) aNil))))
    (gSeq (gParOO 8 9 (fUn bLst (sRd 5)) (fCall f_ulaw_pairs (aCons (sVar 6) (aCons (sVar 2) aNil))))
    (gSeq (gSet 10 (sLend 9 (sLend 8 (sMake "Study" f_Study_init (aCons (sVar 2) (aCons (sVar 8) (aCons (sVar 9) aNil)))))))
    (gSeq (gSto 8 (sC (.int 0)) (sTup (aCons (sTup (aCons (sC (.int 9)) (aCons (sC (.int 1)) aNil))) (aCons (sTup (aCons (sC (.int 9)) (aCons (sC (.int 1)) aNil))) aNil))))
    (gSeq (gApp 8 (sTup (aCons (sC .non) (aCons (sC .non) aNil))))
    (gSeq (gApp 9 (sTup (aCons (sMake "Menu" f_Menu_init (aCons (sVar 2) (aCons (sLst (fLst (aCons (sOp oMulT (sTup (aCons (sC (.int 1)) aNil)) (sRd 2)) aNil))) aNil))) (aCons (sC (.int 0)) aNil))))
    (gSeq (gSto 9 (sC (.int 0)) (sTup (aCons (sMake "Menu" f_Menu_init (aCons (sVar 2) (aCons (sLst (fLst (aCons (sOp oMulT (sTup (aCons (sC (.int 2)) aNil)) (sRd 2)) aNil))) aNil))) (aCons (sC (.int 0)) aNil))))
    (gSeq (gIf (tOr (tNot (tTru (sCall f_ulaw_is_study (aCons (sVar 10) (aCons (sVar 5) (aCons (sVar 6) aNil)))))) (tNot (tTru (sCall f_ulaw_is_study (aCons (sCall f_Study_free (aCons (sVar 2) aNil)) (aCons (sLst (fOp fRep (sLst (fLst (aCons (sTup (aCons (sC .non) (aCons (sC .non) aNil))) aNil))) (sRd 2))) (aCons (sLst (fLst aNil)) aNil))))))) (gRet (sC (.bl false))) gNil)
    (gSeq (gIf (tNot (tTru (sCall f_ulaw_further (aCons (sVar 10) (aCons (sVar 5) (aCons (sVar 6) (aCons (sVar 7) (aCons (sCall f_ulaw_row (aCons (sVar 0) (aCons (sC (.int 3)) (aCons (sC (.int 12)) aNil)))) aNil)))))))) (gRet (sC (.bl false))) gNil)
    (gSeq (gSet 4 (sCall f_ulaw_row (aCons (sVar 0) (aCons (sC (.int 4)) (aCons (sC (.int 12)) aNil)))))
    (gSeq (gFor (iRg1 (aCons (sC (.int 16)) aNil)) (gName 11) b3_law)
    (gSeq (gIf (tNot (tTru (sCall f_ulaw_is_fault (aCons (sCall f_ulaw_fault (aCons (sC (.int 0)) (aCons (sC .non) (aCons (sC (.int 9)) (aCons (sLst (fOp fRep (sLst (fLst (aCons (sTup (aCons (sC .non) (aCons (sC .non) aNil))) aNil))) (sC (.int 9)))) (aCons (sLst (fLst aNil)) aNil)))))) (aCons (sTup (aCons (sC (.str "number")) (aCons (sC (.int 0)) aNil))) aNil))))) (gRet (sC (.bl false))) gNil)
    (gSeq (gIf (tNot (tTru (sCall f_ulaw_is_fault (aCons (sCall f_ulaw_fault (aCons (sC (.int 0)) (aCons (sC .non) (aCons (sC (.int 0)) (aCons (sLst (fLst aNil)) (aCons (sLst (fLst aNil)) aNil)))))) (aCons (sTup (aCons (sC (.str "number")) (aCons (sC (.int 0)) aNil))) aNil))))) (gRet (sC (.bl false))) gNil)
    (gSeq (gSet 12 (sSl (sLst (fOp fCat (sRd 6) (sLst (fOp fRep (sLst (fLst (aCons (sVar 7) aNil))) (sC (.int 10)))))) pNone (pSome (sC (.int 10)))))
    (gSeq (gIf (tNot (tTru (sCall f_ulaw_further (aCons (sMake "Study" f_Study_init (aCons (sVar 2) (aCons (sLst (fUn bLst (sRd 5))) (aCons (sCall f_ulaw_pairs (aCons (sVar 12) (aCons (sVar 2) aNil))) aNil)))) (aCons (sVar 5) (aCons (sVar 12) (aCons (sVar 7) (aCons (sCall f_ulaw_row (aCons (sVar 0) (aCons (sC (.int 3)) (aCons (sC (.int 12)) aNil)))) aNil)))))))) (gRet (sC (.bl false))) gNil)
    (gRet (sCall f_ulaw_is_study (aCons (sVar 10) (aCons (sVar 5) (aCons (sVar 6) aNil)))))))))))))))))))))))))))
noncomputable def f_law : List D → Res D := semF 14 g_law
end S_k12

set_option Elab.async false
set_option linter.all false
set_option maxRecDepth 100000
set_option maxHeartbeats 4000000
/-! Lemmas for the plain laws: sizes, equality of data, Euclid. -/
namespace ML
open PySem L2 PF

theorem mulOk_r {i j : Int} (h : j.natAbs < 18446744073709551616) : mulOk i j = true := cb_t (.inr (.inr h))
theorem mulOk_l {i j : Int} (h : i.natAbs < 18446744073709551616) : mulOk i j = true := cb_t (.inr (.inl h))
theorem mulOk_b {i j : Int} {a b : Nat} (ha : i.natAbs < 2 ^ a) (hb : j.natAbs < 2 ^ b) (h : a + b ≤ 134217728) : mulOk i j = true := by
  have h1 := PyProof.Rows.intBits_le ha
  have h2 := PyProof.Rows.intBits_le hb
  exact cb_t (.inl (by omega))
theorem divOk_b {j : Int} {b : Nat} (h0 : j ≠ 0) (hb : j.natAbs < 2 ^ b) (h : b ≤ 9000) : divOk j = true := by
  refine cb_t ⟨h0, ?_⟩
  have h1 : j.natAbs ≠ 0 := by omega
  have h2 := Nat.log2_self_le h1
  have h3 : 2 ^ j.natAbs.log2 < 2 ^ b := Nat.lt_of_le_of_lt h2 hb
  have h4 := (Nat.pow_lt_pow_iff_right (by decide : 1 < 2)).mp h3
  omega
theorem divOk_s {j : Int} (h0 : j ≠ 0) (hb : j.natAbs < 18446744073709551616) : divOk j = true := divOk_b (b := 64) h0 hb (by decide)
theorem bits_lt (n : Int) : n.natAbs < 2 ^ (Builtin.Int.intBits n) := by
  unfold Builtin.Int.intBits
  split
  · rename_i h
    simp at h
    subst h
    decide
  · exact Nat.lt_log2_self
@[simp] theorem cb_True : cb True = true := cb_t trivial
@[simp] theorem cb_False : cb False = false := cb_f id
/-! ### sums and products stay below powers of two -/
theorem b_mul {i j : Int} {a b : Nat} (ha : i.natAbs < 2 ^ a) (hb : j.natAbs < 2 ^ b) : (i * j).natAbs < 2 ^ (a + b) := by
  rw [Int.natAbs_mul, Nat.pow_add]
  exact Nat.mul_lt_mul'' ha hb
theorem b_add {i j : Int} {a : Nat} (ha : i.natAbs < 2 ^ a) (hb : j.natAbs < 2 ^ a) : (i + j).natAbs < 2 ^ (a + 1) := by
  rw [Nat.pow_succ]
  omega
theorem b_sub {i j : Int} {a : Nat} (ha : i.natAbs < 2 ^ a) (hb : j.natAbs < 2 ^ a) : (i - j).natAbs < 2 ^ (a + 1) := by
  rw [Nat.pow_succ]
  omega
theorem b_up {i : Int} {a b : Nat} (ha : i.natAbs < 2 ^ a) (h : a ≤ b) : i.natAbs < 2 ^ b := Nat.lt_of_lt_of_le ha (Nat.pow_le_pow_right (by decide) h)
theorem b_neg {i : Int} {a : Nat} (ha : i.natAbs < 2 ^ a) : (-i).natAbs < 2 ^ a := by rw [Int.natAbs_neg]; exact ha

/-! ### equality of data -/
@[simp] theorem eqv_int (i j : Int) : eqv (.int i) (.int j) = (i == j) := by simp [eqv, D.py, PyData.eqv]
theorem sh_of {d : D} (h1 : d.py.canLay0 = true) (h2 : d.py.depth ≤ 64) : eqOk d = true := by
  unfold eqOk SeqAt.shaped
  rw [h1]
  simp [h2]
@[simp] theorem eqOk_int (i : Int) : eqOk (.int i) = true := sh_of (by simp [D.py, PyData.canLay0]) (by simp [D.py, PyData.depth])
@[simp] theorem eqOk_bl (i : Bool) : eqOk (.bl i) = true := sh_of (by simp [D.py, PyData.canLay0]) (by simp [D.py, PyData.depth])
@[simp] theorem eqOk_non : eqOk .non = true := sh_of (by simp [D.py, PyData.canLay0]) (by simp [D.py, PyData.depth])
theorem pyA_ints : ∀ ns : List Int, D.pyA (ns.map D.int) = ns.map PyData.int
  | [] => rfl
  | n :: ns => by simp [D.pyA, D.py, pyA_ints ns]
theorem lay_ints : ∀ ns : List Int, PyData.canLayAll0 (ns.map PyData.int) = true
  | [] => by simp [PyData.canLayAll0]
  | n :: ns => by simp [PyData.canLayAll0, PyData.canLay0, lay_ints ns]
theorem dep_ints : ∀ ns : List Int, PyData.depthAll (ns.map PyData.int) = 0
  | [] => by simp [PyData.depthAll]
  | n :: ns => by simp [PyData.depthAll, PyData.depth, dep_ints ns]
@[simp] theorem eqOk_ints (ns : List Int) : eqOk (.tup (ns.map D.int)) = true := sh_of (by simp [D.py, PyData.canLay0, pyA_ints, lay_ints]) (by simp [D.py, PyData.depth, pyA_ints, dep_ints])
@[simp] theorem eqOk_two (i j : Int) : eqOk (.tup [.int i, .int j]) = true := eqOk_ints [i, j]
@[simp] theorem eqv_two (i j k l : Int) : eqv (.tup [.int i, .int j]) (.tup [.int k, .int l]) = (i == k && j == l) := by simp [eqv, D.py, D.pyA, PyData.eqv, PyData.eqvAll]

/-! ### Euclid's division as the laws do it -/
theorem half_rest {b r : Nat} (h0 : 0 < r) (h : r < b) : 2 * (b % r) < b := by
  have h1 := Nat.mod_lt b h0
  by_cases c : 2 * r ≤ b
  · omega
  · have e : b % r = b - r := by
      rw [Nat.mod_eq_sub_mod (Nat.le_of_lt h), Nat.mod_eq_of_lt (by omega)]
    omega
theorem fmod_nat (a b : Nat) : Int.fmod (a : Int) (b : Int) = ((a % b : Nat) : Int) := by
  rw [Int.fmod_eq_emod_of_nonneg _ (Int.natCast_nonneg b)]
  exact (Int.natCast_emod a b).symm
theorem abs_nat (i : Int) : (if i < 0 then -i else i) = (i.natAbs : Int) := by
  split <;> omega
/-! ### loops -/
theorem for_inv {g : FG} {body : Sl → Out} (P : List D → Sl → Prop) (step : ∀ d ds ρ, P (d :: ds) ρ → ∃ ρ1, g d ρ = some ρ1 ∧ ∃ ρ2, (body ρ1 = .nx ρ2 ∨ body ρ1 = .ct ρ2) ∧ P ds ρ2) : ∀ ds ρ, P ds ρ → ∃ ρ', forRun g body ds ρ = .nx ρ' ∧ P [] ρ'
  | [], ρ, h => ⟨ρ, rfl, h⟩
  | d :: ds, ρ, h => by
    obtain ⟨ρ1, h1, ρ2, h2, h3⟩ := step d ds ρ h
    obtain ⟨ρ3, h4, h5⟩ := for_inv P step ds ρ2 h3
    refine ⟨ρ3, ?_, h5⟩
    rcases h2 with h2 | h2 <;> simp only [forRun, h1, h2] <;> exact h4
theorem rngD_ints (lo : Int) (n : Nat) : rngD lo n = ((List.range n).map fun (k : Nat) => lo + (k : Int)).map D.int := by simp [rngD]
theorem atI_nat {xs : List D} {i : Int} {k : Nat} (h : i = (k : Int)) (hk : k < xs.length) : atI xs i = some xs[k] := by
  have e : ixN xs.length i = some k := by
    unfold ixN
    subst h
    simp [hk]
  unfold atI
  rw [e]
  exact List.getElem?_eq_getElem hk
theorem nth_ints (ns : List Int) (k : Nat) (h : k < (ns.map D.int).length) : (ns.map D.int)[k] = .int (ns[k]'(by simpa using h)) := by simp
theorem atI_ints {ns : List Int} {i : Int} (h0 : 0 ≤ i) (h1 : i < ns.length) : ∃ z, atI (ns.map D.int) i = some (.int z) := by
  obtain ⟨k, rfl⟩ := Int.eq_ofNat_of_zero_le h0
  have hk : k < (ns.map D.int).length := by simp; omega
  exact ⟨_, by rw [atI_nat rfl hk, nth_ints]⟩
theorem rng1_ok {n : Nat} (h : n ≤ 1000000) : gRng1 [.int (n : Int)] = .ok (rngD 0 n) := by
  have hg : cb (-(2 ^ 62) ≤ (n : Int) ∧ (n : Int) < 2 ^ 62) = true := cb_t (by constructor <;> omega)
  unfold gRng1
  simp only [hg, if_true, Int.toNat_natCast]
theorem seq_nx {g h : Sl → Out} {ρ ρ' : Sl} (e : g ρ = .nx ρ') : gSeq g h ρ = h ρ' := by simp only [gSeq, e]
theorem seq_nx2 {g1 g2 h : Sl → Out} {ρ ρ' : Sl} (e : gSeq g1 g2 ρ = .nx ρ') : gSeq g1 (gSeq g2 h) ρ = h ρ' := by
  unfold gSeq at e ⊢
  cases e1 : g1 ρ with
  | nx a => rw [e1] at e; simp only [gSeq] at e ⊢; rw [e]
  | _ => rw [e1] at e; cases e
theorem semF_ret {n : Nat} {g : Sl → Out} {ds : List D} {d : D} (h : g (ds.map Cell.v ++ List.replicate (n - ds.length) .e) = .ret d) : semF n g ds = .ok d := by
  unfold semF
  rw [h]
@[simp] theorem atI_zero (x : D) (xs : List D) : atI (x :: xs) 0 = some x := atI_nat (xs := x :: xs) (k := 0) rfl (by simp)
@[simp] theorem atI_one (x y : D) (xs : List D) : atI (x :: y :: xs) 1 = some y := atI_nat (xs := x :: y :: xs) (k := 1) rfl (by simp)
@[simp] theorem atI_two (x y z : D) (xs : List D) : atI (x :: y :: z :: xs) 2 = some z := atI_nat (xs := x :: y :: z :: xs) (k := 2) rfl (by simp)
@[simp] theorem atI_three (x y z u : D) (xs : List D) : atI (x :: y :: z :: u :: xs) 3 = some u := atI_nat (xs := x :: y :: z :: u :: xs) (k := 3) rfl (by simp)
theorem cut_ints (ns : List Int) (lo hi : Option Int) : ∃ ms : List Int, cutD (ns.map D.int) lo hi = ms.map D.int := ⟨_, by
  unfold cutD
  rw [← List.map_drop, ← List.map_take]⟩
theorem pow_ok {i : Int} {k : Nat} (h : i.natAbs < 2 ^ 64) (hk : k ≤ 1000000) : cb (0 ≤ (k : Int) ∧ (k : Int) ≤ 1000000 ∧ i.natAbs < 2 ^ 64) = true := cb_t ⟨by omega, by omega, h⟩
theorem eq_zero_b (i : Int) : (i == 0) = decide (i = 0) := by by_cases h : i = 0 <;> simp [h]
@[simp] theorem kb_int_int : kitB "int" "int" = some true := by decide +kernel
@[simp] theorem kb_int_bool : kitB "int" "bool" = some false := by decide +kernel
@[simp] theorem kb_int_tuple : kitB "int" "tuple" = some false := by decide +kernel
@[simp] theorem kb_int_list : kitB "int" "list" = some false := by decide +kernel
@[simp] theorem kb_int_str : kitB "int" "str" = some false := by decide +kernel
@[simp] theorem kb_bool_int : kitB "bool" "int" = some true := by decide +kernel
@[simp] theorem kb_bool_bool : kitB "bool" "bool" = some true := by decide +kernel
@[simp] theorem kb_bool_tuple : kitB "bool" "tuple" = some false := by decide +kernel
@[simp] theorem kb_bool_list : kitB "bool" "list" = some false := by decide +kernel
@[simp] theorem kb_bool_str : kitB "bool" "str" = some false := by decide +kernel
@[simp] theorem kb_tuple_int : kitB "tuple" "int" = some false := by decide +kernel
@[simp] theorem kb_tuple_bool : kitB "tuple" "bool" = some false := by decide +kernel
@[simp] theorem kb_tuple_tuple : kitB "tuple" "tuple" = some true := by decide +kernel
@[simp] theorem kb_tuple_list : kitB "tuple" "list" = some false := by decide +kernel
@[simp] theorem kb_tuple_str : kitB "tuple" "str" = some false := by decide +kernel
@[simp] theorem kb_list_int : kitB "list" "int" = some false := by decide +kernel
@[simp] theorem kb_list_bool : kitB "list" "bool" = some false := by decide +kernel
@[simp] theorem kb_list_tuple : kitB "list" "tuple" = some false := by decide +kernel
@[simp] theorem kb_list_list : kitB "list" "list" = some true := by decide +kernel
@[simp] theorem kb_list_str : kitB "list" "str" = some false := by decide +kernel
@[simp] theorem kb_str_int : kitB "str" "int" = some false := by decide +kernel
@[simp] theorem kb_str_bool : kitB "str" "bool" = some false := by decide +kernel
@[simp] theorem kb_str_tuple : kitB "str" "tuple" = some false := by decide +kernel
@[simp] theorem kb_str_list : kitB "str" "list" = some false := by decide +kernel
@[simp] theorem kb_str_str : kitB "str" "str" = some true := by decide +kernel
@[simp] theorem kb_NoneType_int : kitB "NoneType" "int" = some false := by decide +kernel
@[simp] theorem kb_NoneType_bool : kitB "NoneType" "bool" = some false := by decide +kernel
@[simp] theorem kb_NoneType_tuple : kitB "NoneType" "tuple" = some false := by decide +kernel
@[simp] theorem kb_NoneType_list : kitB "NoneType" "list" = some false := by decide +kernel
@[simp] theorem kb_NoneType_str : kitB "NoneType" "str" = some false := by decide +kernel
/-! ### comprehensions over ints -/
theorem lc_ints' (i : Nat) (f : Sl → Res D) (h : Int → Int) (ρ : Sl) : ∀ (ns acc : List Int), (∀ n ∈ ns, f (ρ.set i (.v (.int n))) = .ok (.int (h n))) → acc.length + ns.length ≤ 100000 → lcRun (PF.gName i) tYesF f ρ (ns.map D.int) (acc.map D.int) = .ok ((acc ++ ns.map h).map D.int)
  | [], acc, _, _ => by simp [lcRun]
  | n :: ns, acc, hf, hl => by
    have e1 := hf n (by simp)
    have hlt : (acc.map D.int).length < 16777216 := by simp at hl ⊢; omega
    have ih := lc_ints' i f h ρ ns (acc ++ [h n]) (fun m hm => hf m (by simp [hm])) (by simp at hl ⊢; omega)
    rw [List.map_cons]
    unfold lcRun
    simp only [PF.gName, tYesF, Res.nx, Res.bind_ok, if_true, e1, hlt]
    simpa using ih
theorem lc_ints (i : Nat) (f : Sl → Res D) (h : Int → Int) (ρ : Sl) (ns : List Int) (hf : ∀ n ∈ ns, f (ρ.set i (.v (.int n))) = .ok (.int (h n))) (hl : ns.length ≤ 100000) : lcRun (PF.gName i) tYesF f ρ (ns.map D.int) [] = .ok ((ns.map h).map D.int) := by
  have := lc_ints' i f h ρ ns [] hf (by simpa using hl)
  simpa using this
/-! ### the greatest common part of a list -/
def G (p : Nat) : List Int → Nat
  | [] => p
  | n :: ns => G (Nat.gcd p n.natAbs) ns
def Bd (k : Nat) (ns : List Int) : Prop := ∀ n ∈ ns, n.natAbs < 2 ^ k
theorem b_gcd {p q k : Nat} (hp : p < 2 ^ k) (hq : q < 2 ^ k) : Nat.gcd p q < 2 ^ k := by
  by_cases h : p = 0
  · subst h; simpa using hq
  · exact Nat.lt_of_le_of_lt (Nat.gcd_le_left _ (by omega)) hp
theorem G_lt {k : Nat} : ∀ (ns : List Int) (p : Nat), p < 2 ^ k → Bd k ns → G p ns < 2 ^ k
  | [], p, hp, _ => hp
  | n :: ns, p, hp, h => G_lt ns _ (b_gcd hp (h n (by simp))) fun m hm => h m (by simp [hm])
theorem Bd.up {k l : Nat} {ns : List Int} (h : Bd k ns) (hl : k ≤ l) : Bd l ns := fun n hn => b_up (h n hn) hl
theorem Bd.mul {k l : Nat} {ns : List Int} {f : Int} (h : Bd k ns) (hf : f.natAbs < 2 ^ l) : Bd (l + k) (ns.map (f * ·)) := fun n hn => by
  obtain ⟨m, hm, rfl⟩ := List.mem_map.mp hn
  exact b_mul hf (h m hm)
/-! ### comprehensions in general -/
theorem lc_map' {α : Type} {g : FG} {f : Sl → Res D} {ρ : Sl} (e h : α → D) : ∀ (xs : List α) (acc : List D), (∀ x ∈ xs, ∃ ρ1, g (e x) ρ = some ρ1 ∧ f ρ1 = .ok (h x)) → acc.length + xs.length ≤ 100000 → lcRun g tYesF f ρ (xs.map e) acc = .ok (acc ++ xs.map h)
  | [], acc, _, _ => by simp [lcRun]
  | x :: xs, acc, hf, hl => by
    obtain ⟨ρ1, h1, h2⟩ := hf x (by simp)
    have hlt : acc.length < 16777216 := by simp at hl; omega
    have ih := lc_map' e h xs (acc ++ [h x]) (fun m hm => hf m (by simp [hm])) (by simp at hl ⊢; omega)
    rw [List.map_cons]
    unfold lcRun
    simp only [h1, tYesF, Res.nx, Res.bind_ok, if_true, h2, hlt]
    simpa using ih
theorem lc_map {α : Type} {g : FG} {f : Sl → Res D} {ρ : Sl} (e h : α → D) (xs : List α) (hf : ∀ x ∈ xs, ∃ ρ1, g (e x) ρ = some ρ1 ∧ f ρ1 = .ok (h x)) (hl : xs.length ≤ 100000) : lcRun g tYesF f ρ (xs.map e) [] = .ok (xs.map h) := by
  have := lc_map' e h xs [] hf (by simpa using hl)
  simpa using this
theorem dBls_of {α : Type} (p : α → Bool) : ∀ xs : List α, dBls (xs.map fun x => D.bl (p x)) = some (xs.map p)
  | [] => rfl
  | x :: xs => by simp [dBls, dBls_of p xs]
theorem dInts_of {α : Type} (p : α → Int) : ∀ xs : List α, dInts (xs.map fun x => D.int (p x)) = some (xs.map p)
  | [] => rfl
  | x :: xs => by simp [dInts, dInts_of p xs]
/-! ### vectors -/
def vec (ns : List Int) : D := .tup (ns.map D.int)
theorem eqvA_ints : ∀ a b : List Int, PyData.eqvAll (a.map PyData.int) (b.map PyData.int) = decide (a = b)
  | [], [] => by simp [PyData.eqvAll]
  | [], _ :: _ => by simp [PyData.eqvAll]
  | _ :: _, [] => by simp [PyData.eqvAll]
  | x :: a, y :: b => by
    simp only [List.map_cons, PyData.eqvAll, eqvA_ints a b, PyData.eqv]
    by_cases h : x = y <;> simp [h]
theorem eqv_vec (a b : List Int) : eqv (vec a) (vec b) = decide (a = b) := by simp [vec, eqv, D.py, pyA_ints, PyData.eqv, eqvA_ints]
@[simp] theorem eqOk_vec (a : List Int) : eqOk (vec a) = true := eqOk_ints a
theorem eqOk_pt (ns : List Int) (d : Int) : eqOk (.tup [vec ns, .int d]) = true := sh_of (by simp [vec, D.py, D.pyA, PyData.canLay0, PyData.canLayAll0, pyA_ints, lay_ints]) (by simp [vec, D.py, D.pyA, PyData.depth, PyData.depthAll, pyA_ints, dep_ints])
theorem eqv_pt (ns ms : List Int) (d e : Int) : eqv (.tup [vec ns, .int d]) (.tup [vec ms, .int e]) = (decide (ns = ms) && decide (d = e)) := by
  by_cases h : d = e <;> simp [vec, eqv, D.py, D.pyA, pyA_ints, PyData.eqv, PyData.eqvAll, eqvA_ints, h]
theorem eqOk_str {x : Str} (h : PyData.strOk x = true) : eqOk (.str x) = true := sh_of (by simp [D.py, PyData.canLay0, h]) (by simp [D.py, PyData.depth])
@[simp] theorem eqv_str (x y : Str) : eqv (.str x) (.str y) = (x == y) := by simp [eqv, D.py, PyData.eqv]
def Sm (ns : List Int) : Prop := ∀ n ∈ ns, n.natAbs < 18446744073709551616
def dotZ : List Int → List Int → Int
  | x :: xs, y :: ys => x * y + dotZ xs ys
  | _, _ => 0
theorem zip_ints : ∀ a b : List Int, zipD (a.map D.int) (b.map D.int) = (a.zip b).map fun z => D.tup [.int z.1, .int z.2]
  | [], _ => by simp [zipD]
  | _ :: _, [] => by simp [zipD]
  | x :: a, y :: b => by simp [zipD, zip_ints a b]
theorem dot_sum : ∀ a b : List Int, ((a.zip b).map fun z => z.1 * z.2).sum = dotZ a b
  | [], _ => by simp [dotZ]
  | _ :: _, [] => by simp [dotZ]
  | x :: a, y :: b => by simp [dotZ, dot_sum a b]
@[simp] theorem thaw_vec (ns : List Int) : thaw (vec ns) = .ok (vec ns) := rfl
@[simp] theorem thaw_bl (b : Bool) : thaw (.bl b) = .ok (.bl b) := rfl
@[simp] theorem thaw_int (i : Int) : thaw (.int i) = .ok (.int i) := rfl
@[simp] theorem thaw_tup (ds : List D) : thaw (.tup ds) = .ok (.tup ds) := rfl
@[simp] theorem thaw_lst (ds : List D) : thaw (.lst ds) = .ok (.lst ds) := rfl
@[simp] theorem thaw_fr (ds : List D) : thaw (.fr ds) = .ok (.lst ds) := rfl
@[simp] theorem thaw_non : thaw .non = .ok .non := rfl
/-- a list or tuple of ints -/
def allI : List D → Option (List Int)
  | [] => some []
  | .int i :: ds => (allI ds).map (i :: ·)
  | _ => none
theorem allI_map : ∀ ns : List Int, allI (ns.map D.int) = some ns
  | [] => rfl
  | n :: ns => by simp [allI, allI_map ns]
inductive SeqI : D → List Int → Prop
  | t (ns : List Int) : SeqI (.tup (ns.map D.int)) ns
  | l (ns : List Int) : SeqI (.lst (ns.map D.int)) ns
def seqI (d : D) : Option (List Int) := match d with
  | .tup ds => allI ds
  | .lst ds => allI ds
  | _ => none
theorem allI_eq : ∀ {ds : List D} {ns : List Int}, allI ds = some ns → ds = ns.map D.int
  | [], ns, h => by cases h; rfl
  | d :: r, ns, h => by
    cases d <;> first | cases h | skip
    rename_i i
    simp only [allI, Option.map_eq_some_iff] at h
    obtain ⟨ms, h1, rfl⟩ := h
    rw [allI_eq h1]
    rfl
@[simp] theorem seqI_t (ns : List Int) : seqI (.tup (ns.map D.int)) = some ns := allI_map ns
@[simp] theorem seqI_l (ns : List Int) : seqI (.lst (ns.map D.int)) = some ns := allI_map ns
@[simp] theorem seqI_v (ns : List Int) : seqI (vec ns) = some ns := allI_map ns
theorem ix_seqI {d : D} {ns : List Int} {i : Int} {k : Nat} (h : seqI d = some ns) (hi : i = (k : Int)) (hk : k < ns.length) : oIx d (.int i) = .ok (.int ns[k]) := by
  have key : ∀ ds : List D, allI ds = some ns → atI ds i = some (.int ns[k]) := fun ds e => by
    have e' := allI_eq e
    subst e'
    rw [atI_nat hi (by simpa using hk), nth_ints]
  cases d <;> first | cases h | skip
  · rename_i ds; simp only [oIx, key ds h]
  · rename_i ds; simp only [oIx, key ds h]
theorem len_seqI {d : D} {ns : List Int} (h : seqI d = some ns) : bLen d = .ok (.int (ns.length : Int)) := by
  cases d <;> first | cases h | skip
  · rename_i ds; simp [bLen, allI_eq h]
  · rename_i ds; simp [bLen, allI_eq h]
@[simp] theorem oIxT0 (x : D) (xs : List D) : oIx (.tup (x :: xs)) (.int 0) = .ok x := by simp only [oIx, atI_zero]
@[simp] theorem oIxT1 (x y : D) (xs : List D) : oIx (.tup (x :: y :: xs)) (.int 1) = .ok y := by simp only [oIx, atI_one]
@[simp] theorem oIxT2 (x y z : D) (xs : List D) : oIx (.tup (x :: y :: z :: xs)) (.int 2) = .ok z := by simp only [oIx, atI_two]
theorem leC {α : Type} {x c : Nat} {a b : α} (h : x ≤ c) : (if x ≤ c then a else b) = a := if_pos h
theorem ltC {α : Type} {x c : Nat} {a b : α} (h : x < c) : (if x < c then a else b) = a := if_pos h
@[simp] theorem oIxL0 (x : D) (xs : List D) : oIx (.lst (x :: xs)) (.int 0) = .ok x := by simp only [oIx, atI_zero]
@[simp] theorem oIxL1 (x y : D) (xs : List D) : oIx (.lst (x :: y :: xs)) (.int 1) = .ok y := by simp only [oIx, atI_one]
@[simp] theorem oIxL2 (x y z : D) (xs : List D) : oIx (.lst (x :: y :: z :: xs)) (.int 2) = .ok z := by simp only [oIx, atI_two]
end ML

set_option Elab.async false
set_option linter.all false
set_option maxRecDepth 100000
set_option maxHeartbeats 4000000
/-! What the defs that every law has (mix, row, common, is_whole, is_tuple) answer. Printed from LC.tpl, @ for the law's short name. -/
namespace LC_k12
open PySem L2 PF ML S_k12

theorem fmod_b (i m : Int) (h : 0 < m) : 0 ≤ i.fmod m ∧ i.fmod m < m := by
  rw [Int.fmod_eq_emod_of_nonneg _ (by omega)]
  exact ⟨Int.emod_nonneg _ (by omega), Int.emod_lt_of_pos _ (by omega)⟩
theorem mix_okB (c k : Int) : ∃ z : Int, (0 ≤ z ∧ z < 2147483648) ∧ f_ulaw_mix [.int c, .int k] = .ok (.int z) := by
  have h1 : ∀ i, mulOk i 48271 = true := fun i => mulOk_r (by decide)
  have h2 : ∀ i, mulOk i 69621 = true := fun i => mulOk_r (by decide)
  have h3 : ∀ i, mulOk i 40692 = true := fun i => mulOk_r (by decide)
  have h4 : ∀ i, mulOk i 16807 = true := fun i => mulOk_r (by decide)
  have h5 : ∀ i : Int, mulOk (i.fmod 2147483647) (i.fmod 2147483647) = true := fun i => by
    have := fmod_b i 2147483647 (by decide)
    exact mulOk_l (by omega)
  have h6 : divOk 8 = true := divOk_s (by decide) (by decide)
  have key : ∀ (a b : Int), a = (c * 48271 + k * 69621 + 11).fmod 2147483647 → b = (a * a + k * 40692 + 7).fmod 2147483399 → f_ulaw_mix [.int c, .int k] = .ok (.int (((b * 16807 + a).fmod 2147483587).fdiv 8)) := by
    intro a b ea eb
    subst ea eb
    simp [f_ulaw_mix, g_ulaw_mix, h1, h2, h3, h4, h5, h6]
  refine ⟨_, ?_, key _ _ rfl rfl⟩
  generalize (((c * 48271 + k * 69621 + 11).fmod 2147483647 * (c * 48271 + k * 69621 + 11).fmod 2147483647 + k * 40692 + 7).fmod 2147483399 * 16807 + (c * 48271 + k * 69621 + 11).fmod 2147483647) = q
  have hb := fmod_b q 2147483587 (by decide)
  rw [Int.fdiv_eq_ediv_of_nonneg _ (by decide)]
  omega
theorem mix_ok (c k : Int) : ∃ z, f_ulaw_mix [.int c, .int k] = .ok (.int z) := let ⟨z, _, h⟩ := mix_okB c k; ⟨z, h⟩
def rowI (ns : List Int) (a m : Int) (n : Nat) (ds : List D) (ρ : Sl) : Prop := ∃ (c r : Int) (cs ks : List Int) (kc : Cell), ds = ks.map D.int ∧ (cs.length + ds.length = n ∧ ∀ x ∈ cs, 0 ≤ x ∧ x < 2147483648) ∧ ρ = [.v (.rol (ns.map D.int)), .v (.int a), .v (.int m), .v (.int c), .o (cs.map D.int), .v (.int r), kc]
theorem row_step {ns : List Int} {a m : Int} {n : Nat} (hn : n ≤ 1000) (d : D) (ds : List D) (ρ : Sl) (h : rowI ns a m n (d :: ds) ρ) : ∃ ρ1, gName 6 d ρ = some ρ1 ∧ ∃ ρ2, (b1_ulaw_row ρ1 = .nx ρ2 ∨ b1_ulaw_row ρ1 = .ct ρ2) ∧ rowI ns a m n ds ρ2 := by
  obtain ⟨c, r, cs, ks, kc, h1, ⟨h2, hB0⟩, rfl⟩ := h
  cases ks with
  | nil => cases h1
  | cons k ks =>
    cases h1
    refine ⟨_, rfl, ?_⟩
    have hl : cs.length < 16777216 := by simp at h2; omega
    have h6 : divOk 1009 = true := divOk_s (by decide) (by decide)
    obtain ⟨z, hzb, hz⟩ := mix_okB c k
    have hA : ∀ ρ2, ρ2 = [.v (.rol (ns.map D.int)), .v (.int a), .v (.int m), .v (.int c), .o ((cs ++ [z]).map D.int), .v (.int r), .v (.int k)] → rowI ns a m n (ks.map D.int) ρ2 := fun ρ2 e => ⟨c, r, cs ++ [z], ks, _, rfl, ⟨by simp at h2 ⊢; omega, fun x hx => (List.mem_append.mp hx).elim (hB0 x) fun q => by rw [List.mem_singleton.mp q]; exact hzb⟩, e⟩
    have hB : ∀ ρ2, ρ2 = [.v (.rol (ns.map D.int)), .v (.int a), .v (.int m), .v (.int c), .o ((cs ++ [r.fmod 1009]).map D.int), .v (.int (r.fdiv 1009)), .v (.int k)] → rowI ns a m n (ks.map D.int) ρ2 := fun ρ2 e => ⟨c, r.fdiv 1009, cs ++ [r.fmod 1009], ks, _, rfl, ⟨by simp at h2 ⊢; omega, fun x hx => (List.mem_append.mp hx).elim (hB0 x) fun q => by rw [List.mem_singleton.mp q]; have := fmod_b r 1009 (by decide); omega⟩, e⟩
    cases e1 : cb (1000000000000000000 ≤ (if c < 0 then -c else c)) <;> cases e2 : cb (0 < r)
    · exact ⟨_, .inl (by simp [-cb_iff, -cb_nif, b1_ulaw_row, e1, e2, hl, hz]; rfl), hA _ (by simp)⟩
    · exact ⟨_, .inl (by simp [-cb_iff, -cb_nif, b1_ulaw_row, e1, e2, hl, hz]; rfl), hA _ (by simp)⟩
    · exact ⟨_, .inl (by simp [-cb_iff, -cb_nif, b1_ulaw_row, e1, e2, hl, hz]; rfl), hA _ (by simp)⟩
    · exact ⟨_, .inl (by simp [-cb_iff, -cb_nif, b1_ulaw_row, e1, e2, hl, h6]; rfl), hB _ (by simp)⟩
theorem row_okB (ns : List Int) (hns : ns.length ≤ 63) (a : Int) (ha : 0 ≤ a) (n : Nat) (hn : n ≤ 1000) : ∃ cs : List Int, cs.length = n ∧ (∀ x ∈ cs, 0 ≤ x ∧ x < 2147483648) ∧ f_ulaw_row [.rol (ns.map D.int), .int a, .int n] = .ok (.fr (cs.map D.int)) := by
  have fin : ∀ c r : Int, ∃ ρ', forRun (gName 6) b1_ulaw_row (rngD 0 n) [.v (.rol (ns.map D.int)), .v (.int a), .v (.int n), .v (.int c), .o [], .v (.int r), .e] = .nx ρ' ∧ rowI ns a n n [] ρ' := fun c r =>
    for_inv (rowI ns a n n) (row_step hn) _ _ ⟨c, r, [], _, .e, rngD_ints 0 n, ⟨by simp [rngD], by simp⟩, rfl⟩
  have hg := rng1_ok (n := n) (by omega)
  have key : ∀ c : Int, ∃ cs : List Int, cs.length = n ∧ (∀ x ∈ cs, 0 ≤ x ∧ x < 2147483648) ∧ (gSeq (gSetO 4 (fLst aNil))
    (gSeq (gSet 5 (sUn bAbs (sRd 3)))
    (gSeq (gFor (iRg1 (aCons (sVar 2) aNil)) (gName 6) b1_ulaw_row)
    (gRetO 4)))) [.v (.rol (ns.map D.int)), .v (.int a), .v (.int n), .v (.int c), .e, .e, .e] = .ret (.fr (cs.map D.int)) := fun c => by
    obtain ⟨ρ', h1, c', r', cs, ks, kc, h2, ⟨h3, hB1⟩, rfl⟩ := fin c (if c < 0 then -c else c)
    refine ⟨cs, by simpa using h3, hB1, ?_⟩
    simp [-cb_iff, -cb_nif, -gRng1, hg, h1]
  have h7 : ∀ i, mulOk 7919 i = true := fun i => mulOk_l (by decide)
  have start : ∃ c : Int, (gSeq (gSet 3 (sVar 1)) (gIf (sTest (sOp oLt (sRd 1) (sUn bLen (sRd 0)))) (gSet 3 (sOp oIx (sRd 0) (sRd 1))) (gIf (sTest (sOp oGt (sUn bLen (sRd 0)) (sC (.int 0)))) (gSet 3 (sOp oAdd (sOp oIx (sRd 0) (sOp oMod (sRd 1) (sUn bLen (sRd 0)))) (sOp oMul (sC (.int 7919)) (sRd 1)))) gNil))) [.v (.rol (ns.map D.int)), .v (.int a), .v (.int n), .e, .e, .e, .e] = .nx [.v (.rol (ns.map D.int)), .v (.int a), .v (.int n), .v (.int c), .e, .e, .e] := by
    by_cases e1 : a < (ns.length : Int)
    · obtain ⟨z, hz⟩ := atI_ints ha e1
      exact ⟨z, by simp [-cb_iff, -cb_nif, cb_t e1, hz]⟩
    · by_cases e2 : (0 : Int) < (ns.length : Int)
      · obtain ⟨z, hz⟩ := atI_ints (ns := ns) (fmod_b a _ e2).1 (fmod_b a _ e2).2
        have e3 : ns ≠ [] := by intro h; subst h; simp at e2
        exact ⟨z + 7919 * a, by simp [-cb_iff, -cb_nif, cb_f e1, cb_t e2, cb_t (show 0 < ns.length by omega), hz, h7, e3]⟩
      · exact ⟨a, by simp [-cb_iff, -cb_nif, cb_f e1, cb_f e2, cb_f (show ¬ 0 < ns.length by omega)]⟩
  obtain ⟨c, hc⟩ := start
  obtain ⟨cs, h8, hB2, h9⟩ := key c
  refine ⟨cs, h8, hB2, ?_⟩
  have e : g_ulaw_row [.v (.rol (ns.map D.int)), .v (.int a), .v (.int n), .e, .e, .e, .e] = .ret (.fr (cs.map D.int)) := by
    rw [← h9]
    unfold g_ulaw_row
    exact seq_nx2 hc
  unfold f_ulaw_row
  exact semF_ret e
theorem row_ok (ns : List Int) (hns : ns.length ≤ 63) (a : Int) (ha : 0 ≤ a) (n : Nat) (hn : n ≤ 1000) : ∃ cs : List Int, cs.length = n ∧ f_ulaw_row [.rol (ns.map D.int), .int a, .int n] = .ok (.fr (cs.map D.int)) := let ⟨cs, h1, _, h2⟩ := row_okB ns hns a ha n hn; ⟨cs, h1, h2⟩
theorem euc : ∀ (k l r : Nat) (ds : List D) (kc : Cell), r < 2 ^ k → 2 * k + 2 ≤ ds.length → forRun (gName 2) b1_ulaw_common ds [.v (.int (l : Int)), .v (.int (r : Int)), kc] = .ret (.int ((Nat.gcd l r : Nat) : Int))
  | _, _, _, [], _, _, h => by simp at h
  | k, l, r, d :: ds, kc, hr, h => by
    by_cases h0 : r = 0
    · subst h0
      simp [forRun, b1_ulaw_common]
    · have hz : ¬ ((r : Int) = 0) := by omega
      have e1 : forRun (gName 2) b1_ulaw_common (d :: ds) [.v (.int (l : Int)), .v (.int (r : Int)), kc] = forRun (gName 2) b1_ulaw_common ds [.v (.int (r : Int)), .v (.int ((l % r : Nat) : Int)), .v d] := by
        simp [forRun, b1_ulaw_common, hz, h0, fmod_nat]
      rw [e1, Nat.gcd_comm, Nat.gcd_rec, Nat.gcd_comm]
      cases k with
      | zero => simp at hr; omega
      | succ k =>
        cases ds with
        | nil => simp at h
        | cons d' ds =>
          by_cases h1 : l % r = 0
          · simp [forRun, b1_ulaw_common, h1]
          · have hz : ¬ (((l % r : Nat) : Int) = 0) := by omega
            have e2 : forRun (gName 2) b1_ulaw_common (d' :: ds) [.v (.int (r : Int)), .v (.int ((l % r : Nat) : Int)), .v d] = forRun (gName 2) b1_ulaw_common ds [.v (.int ((l % r : Nat) : Int)), .v (.int ((r % (l % r) : Nat) : Int)), .v d'] := by
              simp only [forRun, PF.gName]
              simp [b1_ulaw_common, hz, h1, fmod_nat, -Int.natCast_emod]
            have hlt := half_rest (b := r) (r := l % r) (by omega) (Nat.mod_lt _ (by omega))
            rw [e2, euc k (l % r) (r % (l % r)) ds _ (by rw [Nat.pow_succ] at hr; omega) (by simp at h; omega)]
            rw [Nat.gcd_comm (l % r) (r % (l % r)), ← Nat.gcd_rec, Nat.gcd_comm]
theorem common_ok (a b : Int) {k : Nat} (hb : b.natAbs < 2 ^ k) (hk : k ≤ 400000) : f_ulaw_common [.int a, .int b] = .ok (.int ((Nat.gcd a.natAbs b.natAbs : Nat) : Int)) := by
  have h1 := bits_lt (b.natAbs : Int)
  have h2 : Builtin.Int.intBits (b.natAbs : Int) ≤ k := PyProof.Rows.intBits_le (by simpa using hb)
  rw [Int.natAbs_natCast] at h1
  have h3 := rng1_ok (n := 2 * Builtin.Int.intBits (b.natAbs : Int) + 4) (by omega)
  have h4 := euc _ a.natAbs b.natAbs (rngD 0 (2 * Builtin.Int.intBits (b.natAbs : Int) + 4)) .e h1 (by rw [rngD_len]; omega)
  have hm : ∀ i, mulOk 2 i = true := fun i => mulOk_l (by decide)
  rw [Int.natCast_add, Int.natCast_mul] at h3
  refine semF_ret ?_
  simp [-gRng1, g_ulaw_common, abs_nat, hm] at h3 h4 ⊢
  simp [-gRng1, h3, h4]
theorem whole_ok (i : Int) : f_ulaw_is_whole [.int i] = .ok (.bl true) := by simp [f_ulaw_is_whole, g_ulaw_is_whole]
theorem tuple_run (ρ : Sl) (h : ρ.length = 3) : ∀ (ns : List Int) (acc : List Bool), acc.length + ns.length ≤ 100000 → lcRun (gName 2) tYesF b1_ulaw_is_tuple ρ (ns.map D.int) (acc.map D.bl) = .ok ((acc ++ ns.map fun _ => true).map D.bl)
  | [], acc, _ => by simp [lcRun]
  | n :: ns, acc, hl => by
    have e1 : b1_ulaw_is_tuple (ρ.set 2 (.v (.int n))) = .ok (.bl true) := by
      simp [b1_ulaw_is_tuple, h, whole_ok]
    have hlt : (acc.map D.bl).length < 16777216 := by simp at hl ⊢; omega
    have ih := tuple_run ρ h ns (acc ++ [true]) (by simp at hl ⊢; omega)
    rw [List.map_cons]
    unfold lcRun
    simp only [PF.gName, tYesF, Res.nx, Res.bind_ok, if_true, e1, hlt]
    simpa using ih
theorem tuple_ok (ns : List Int) (h : ns.length ≤ 100000) : f_ulaw_is_tuple [.tup (ns.map D.int), .int (ns.length : Int)] = .ok (.bl true) := by
  have e := tuple_run [.v (.tup (ns.map D.int)), .v (.int (ns.length : Int)), .e] rfl ns [] (by simpa using h)
  simp only [List.map_nil, List.nil_append] at e
  have e2 : dBls ((ns.map fun _ => true).map D.bl) = some (ns.map fun _ => true) := dBls_ok _
  simp only [List.map_map] at e e2
  simp [f_ulaw_is_tuple, g_ulaw_is_tuple, e, e2]
end LC_k12

set_option Elab.async false
set_option linter.all false
set_option maxRecDepth 100000
set_option maxHeartbeats 4000000
/-! Texts of numbers (no program in sight). -/
namespace TX
open PySem L2 PF ML SX TL
abbrev dg (l : List Nat) : Prop := NumText.AllDigits l
abbrev val (l : List Nat) : Nat := NumText.digitsVal l
def can (l : List Nat) : Prop := l.length = 1 ∨ l.head? ≠ some 48
theorem val_snoc (r : List Nat) (d : Nat) : val (r ++ [d]) = val r * 10 + (d - 48) := by
  unfold val NumText.digitsVal
  rw [List.foldl_append]
  rfl
theorem dg_app {a b : List Nat} : dg (a ++ b) ↔ dg a ∧ dg b := by
  constructor
  · intro h
    exact ⟨fun c hc => h c (by simp [hc]), fun c hc => h c (by simp [hc])⟩
  · intro ⟨h, k⟩ c hc
    rcases List.mem_append.mp hc with q | q
    · exact h c q
    · exact k c q
theorem snoc_cases (l : List Nat) : l = [] ∨ ∃ r d, l = r ++ [d] := by
  rcases List.eq_nil_or_concat l with h | ⟨r, d, h⟩
  · exact .inl h
  · exact .inr ⟨r, d, by rw [h]; simp⟩
theorem val_pos : ∀ (n : Nat) (l : List Nat), l.length = n → dg l → l ≠ [] → l.head? ≠ some 48 → 1 ≤ val l ∧ numL (val l) = l := by
  intro n
  induction n with
  | zero => intro l h _ h2; exact absurd (List.length_eq_zero_iff.mp h) h2
  | succ n ih =>
    intro l hl hd hne hh
    rcases snoc_cases l with rfl | ⟨r, d, rfl⟩
    · exact absurd rfl hne
    · obtain ⟨dr, dd⟩ := dg_app.mp hd
      have hd1 := dd d (by simp)
      by_cases hr : r = []
      · subst hr
        have h48 : d ≠ 48 := fun e => hh (by simp [e])
        have e : val ([] ++ [d]) = d - 48 := by
          rw [val_snoc]
          show 0 * 10 + (d - 48) = _
          omega
        rw [e]
        refine ⟨by omega, ?_⟩
        rw [numL_lt (by omega)]
        simp
        omega
      · have hr2 : r.head? ≠ some 48 := fun e => hh (by
          cases r with
          | nil => exact absurd rfl hr
          | cons x r => simpa using e)
        obtain ⟨i1, i2⟩ := ih r (by simp at hl; omega) dr hr hr2
        rw [val_snoc]
        refine ⟨by omega, ?_⟩
        rw [numL_step (by omega)]
        have e1 : (val r * 10 + (d - 48)) / 10 = val r := by omega
        have e2 : 48 + (val r * 10 + (d - 48)) % 10 = d := by omega
        rw [e1, e2, i2]
theorem num_val {l : List Nat} (hd : dg l) (hne : l ≠ []) (h : can l) : numL (val l) = l := by
  by_cases c : l.head? = some 48
  · rcases h with h | h
    · match l, h with
      | [x], _ =>
        have : x = 48 := by simpa using c
        subst this
        rfl
    · exact absurd c h
  · exact (val_pos _ l rfl hd hne c).2
theorem num_head : ∀ n : Nat, 1 ≤ n → (numL n).head? ≠ some 48 := by
  intro n
  induction n using Nat.strongRecOn with
  | _ n ih =>
    intro hn
    by_cases h : n < 10
    · rw [numL_lt h]
      simp
      omega
    · rw [numL_step (by omega)]
      have := ih (n / 10) (by omega) (by omega)
      have ne := numL_ne (n / 10)
      cases e : numL (n / 10) with
      | nil => exact absurd e ne
      | cons x r =>
        rw [e] at this
        simpa using this
theorem num_can (n : Nat) : can (numL n) := by
  by_cases h : n = 0
  · subst h
    exact .inl (by rw [numL_lt (by decide)]; rfl)
  · exact .inr (num_head n (by omega))
theorem num_eq {l : List Nat} (hd : dg l) (hne : l ≠ []) : numL (val l) = l ↔ can l := ⟨fun h => by rw [← h]; exact num_can _, num_val hd hne⟩
/-! ### the text of a whole number -/
theorem tl_pos (n : Nat) : tl (strI (n : Int)) = numL n := tl_num n
theorem tl_neg (n : Nat) (h : 1 ≤ n) : tl (strI (-(n : Int))) = 45 :: numL n := by
  obtain ⟨m, rfl⟩ : ∃ m, n = m + 1 := ⟨n - 1, by omega⟩
  have e1 : toString (-((m + 1 : Nat) : Int)) = "-" ++ toString ((m + 1 : Nat) : Int) := by
    show Int.repr (Int.negSucc m) = "-" ++ Int.repr (Int.ofNat (m + 1))
    rfl
  unfold strI
  rw [e1]
  have e2 := tl_num (m + 1)
  rw [tl_ofString] at e2
  rw [tl_ofString, String.toList_append, List.map_append, e2]
  rfl
def sg (neg : Bool) (n : Nat) : Int := if neg then -(n : Int) else n
def sgL (neg : Bool) : List Nat := if neg then [45] else []
theorem tl_sg (neg : Bool) (n : Nat) : tl (strI (sg neg n)) = (if neg = true ∧ n ≠ 0 then [45] else []) ++ numL n := by
  cases neg with
  | false => exact tl_pos n
  | true =>
    by_cases h : n = 0
    · subst h
      exact tl_pos 0
    · have : (if true = true ∧ n ≠ 0 then [45] else []) ++ numL n = 45 :: numL n := by simp [h]
      rw [this]
      exact tl_neg n (by omega)
theorem num_no (n : Nat) (s : Nat) (h : s < 48 ∨ 57 < s) : s ∉ numL n := numL_free h
theorem split_one {c : Nat} : ∀ {a a' b b' : List Nat}, c ∉ a → c ∉ a' → a ++ c :: b = a' ++ c :: b' → a = a' ∧ b = b'
  | [], [], b, b', _, _, h => ⟨rfl, by simpa using h⟩
  | [], x :: a', b, b', _, h2, h => by
    simp at h
    exact absurd (by simp [h.1]) h2
  | x :: a, [], b, b', h1, _, h => by
    simp at h
    exact absurd (by simp [h.1]) h1
  | x :: a, y :: a', b, b', h1, h2, h => by
    simp at h
    obtain ⟨e1, e2⟩ := split_one (c := c) (a := a) (a' := a') (b := b) (b' := b') (fun z => h1 (by simp [z])) (fun z => h2 (by simp [z])) h.2
    exact ⟨by rw [h.1, e1], e2⟩
theorem no47 {l : List Nat} (h : dg l) : 47 ∉ l := fun z => by have := h 47 z; omega
theorem sgL_no (neg : Bool) {l : List Nat} (h : 47 ∉ l) : 47 ∉ sgL neg ++ l := by
  unfold sgL
  split <;> simp [h]
/-- a text without a stroke -/
theorem one_iff {neg : Bool} {h : List Nat} (hd : dg h) (hne : h ≠ []) : tl (strI (sg neg (val h))) = sgL neg ++ h ↔ can h ∧ ¬ (neg = true ∧ val h = 0) := by
  rw [tl_sg]
  cases neg with
  | false =>
    have e : (if false = true ∧ val h ≠ 0 then [45] else []) ++ numL (val h) = numL (val h) := by simp
    rw [e]
    show numL (val h) = h ↔ _
    rw [num_eq hd hne]
    simp
  | true =>
    by_cases z : val h = 0
    · have e : (if true = true ∧ val h ≠ 0 then [45] else []) ++ numL (val h) = [48] := by rw [z]; rfl
      rw [e]
      constructor
      · intro q
        have : (48 : Nat) = 45 ∧ [] = h := by simpa [sgL] using q
        exact absurd this.1 (by decide)
      · intro q
        exact absurd ⟨rfl, z⟩ q.2
    · have e : (if true = true ∧ val h ≠ 0 then [45] else []) ++ numL (val h) = 45 :: numL (val h) := by simp [z]
      rw [e]
      show 45 :: numL (val h) = 45 :: h ↔ _
      rw [List.cons.injEq, num_eq hd hne]
      simp [z]
/-- the text of a ratio -/
noncomputable def rt (p q : Int) : Str := if q = 1 then strI p else strI p ++ S [47] ++ strI q
theorem two_iff {neg : Bool} {h r : List Nat} (hd : dg h) (hne : h ≠ []) (rd : dg r) (rne : r ≠ []) (d0 : 1 ≤ val r) {a b g : Nat} (ea : val h = g * a) (eb : val r = g * b) (eg : g = Nat.gcd (val h) (val r)) :
    tl (rt (sg neg a) b) = sgL neg ++ (h ++ 47 :: r) ↔ (can h ∧ can r ∧ ¬ (neg = true ∧ val h = 0) ∧ 2 ≤ val r ∧ g = 1) := by
  have hn := no47 hd
  have rn := no47 rd
  have sn : ∀ m, 47 ∉ tl (strI (sg neg m)) := fun m => by
    rw [tl_sg]
    intro q
    rcases List.mem_append.mp q with q | q
    · split at q <;> simp at q
    · exact num_no m 47 (.inl (by decide)) q
  have b0 : b ≠ 0 := fun z => by rw [z, Nat.mul_zero] at eb; omega
  constructor
  · intro e
    unfold rt at e
    split at e
    · exfalso
      refine sn a ?_
      rw [e]
      simp
    · rename_i b1
      rw [tl_append, tl_append] at e
      have e' : tl (strI (sg neg a)) ++ 47 :: tl (strI (b : Int)) = (sgL neg ++ h) ++ 47 :: r := by
        have t47 : tl (S [47]) = [47] := rfl
        rw [t47] at e
        simpa using e
      obtain ⟨q1, q2⟩ := split_one (sn a) (sgL_no neg hn) e'
      rw [tl_pos] at q2
      have v : b = val r := by
        rw [← q2]
        exact (numL_val b).symm
      have g1 : g = 1 := by
        rw [← v] at eb
        have : 1 * b = g * b := by omega
        exact (Nat.eq_of_mul_eq_mul_right (by omega) this).symm
      subst g1
      have av : a = val h := by omega
      rw [av] at q1
      have o := (one_iff (neg := neg) hd hne).mp q1
      refine ⟨o.1, ?_, o.2, ?_, rfl⟩
      · rw [← q2]; exact num_can b
      · have : b ≠ 1 := fun z => b1 (by rw [z]; rfl)
        omega
  · intro ⟨c1, c2, c3, c4, c5⟩
    subst c5
    have av : a = val h := by omega
    have bv : b = val r := by omega
    unfold rt
    rw [if_neg (by omega), tl_append, tl_append, tl_pos, av, bv, (one_iff (neg := neg) hd hne).mpr ⟨c1, c3⟩, num_val rd rne c2]
    have t47 : tl (S [47]) = [47] := rfl
    rw [t47]
    simp
end TX

set_option Elab.async false
set_option linter.all false
set_option maxRecDepth 100000
set_option maxHeartbeats 4000000
set_option exponentiation.threshold 1000
/-! f-strings of numbers: they fit (no program in sight). First failure of a loop; splices. -/
namespace XL
open PySem L2 PF ML TX SX TL
theorem fit_of {i : Int} (h : i.natAbs < 10 ^ 100) : fitS i = true := by
  refine cb_t ?_
  by_cases c : i.natAbs = 0
  · rw [c]; decide
  · have h2 := Nat.log2_self_le c
    have h3 : 2 ^ i.natAbs.log2 < 2 ^ 400 := Nat.lt_of_le_of_lt h2 (Nat.lt_trans h (by decide))
    have h4 := (Nat.pow_lt_pow_iff_right (by decide : 1 < 2)).mp h3
    omega
theorem str_len {i : Int} (h : i.natAbs < 10 ^ 100) : (strI i).length ≤ 101 := by
  have e : i = sg (decide (i < 0)) i.natAbs := by
    unfold sg
    by_cases c : i < 0
    · rw [decide_eq_true c]
      simp only [if_true]
      omega
    · rw [decide_eq_false c]
      simp only [Bool.false_eq_true, if_false]
      omega
  rw [e, len_tl, tl_sg, List.length_append]
  have := numL_len (n := i.natAbs) (k := 100) (by decide) h
  split <;> simp <;> omega
theorem cat_len (x y : Str) : (x ++ y).length = x.length + y.length := by
  rw [len_tl, tl_append, List.length_append, ← len_tl, ← len_tl]
theorem emp (x : Str) : Str.empty ++ x = x := ext_tl (by rw [tl_append]; rfl)
/-- f"a{i}" -/
theorem jn1 {a : Str} {f : Sl → Res D} {ρ : Sl} {i : Int} (hf : f ρ = .ok (.int i)) (ha : a.length ≤ 1000) (hi : i.natAbs < 10 ^ 100) : ∃ z, sJn [sC (.str a), sUn fmtD f] Str.empty ρ = .ok (.str z) := by
  have h1 := str_len hi
  have h2 := fit_of hi
  have l1 : (Str.empty ++ a).length ≤ 16777216 := by rw [emp]; omega
  have l2 : (Str.empty ++ a ++ strI i).length ≤ 16777216 := by rw [emp, cat_len]; omega
  exact ⟨Str.empty ++ a ++ strI i, by simp only [sJn, sC, sUn, Res.bind_ok, hf, fmtD, h2, if_pos l1, if_pos l2, if_true]⟩
/-- f"a{i}b{x}" -/
theorem jn2 {a b x : Str} {f g : Sl → Res D} {ρ : Sl} {i : Int} (hf : f ρ = .ok (.int i)) (hg : g ρ = .ok (.str x)) (ha : a.length ≤ 1000) (hb : b.length ≤ 1000) (hx : x.length ≤ 1000) (hi : i.natAbs < 10 ^ 100) : ∃ z, sJn [sC (.str a), sUn fmtD f, sC (.str b), sUn fmtD g] Str.empty ρ = .ok (.str z) := by
  have h1 := str_len hi
  have h2 := fit_of hi
  have l1 : (Str.empty ++ a).length ≤ 16777216 := by rw [emp]; omega
  have l2 : (Str.empty ++ a ++ strI i).length ≤ 16777216 := by rw [emp, cat_len]; omega
  have l3 : (Str.empty ++ a ++ strI i ++ b).length ≤ 16777216 := by rw [emp, cat_len, cat_len]; omega
  have l4 : (Str.empty ++ a ++ strI i ++ b ++ x).length ≤ 16777216 := by rw [emp, cat_len, cat_len, cat_len]; omega
  have l5 : x.length ≤ 16777216 := by omega
  exact ⟨Str.empty ++ a ++ strI i ++ b ++ x, by simp only [sJn, sC, sUn, Res.bind_ok, hf, hg, fmtD, h2, if_pos l1, if_pos l2, if_pos l3, if_pos l4, if_pos l5, if_true]⟩
/-! ### parts of lists -/
theorem cut_take (ds : List D) (k : Nat) (h : k ≤ ds.length) : cutD ds none (some (k : Int)) = ds.take k := by
  unfold cutD
  rw [HT.sIx_none, HT.sIx_nat]
  simp [Nat.min_eq_left h]
theorem cut_drop (ds : List D) (k : Nat) (h : k ≤ ds.length) : cutD ds (some (k : Int)) none = ds.drop k := by
  unfold cutD
  rw [HT.sIx_none, HT.sIx_nat, Nat.min_eq_left h]
  exact List.take_of_length_le (by rw [List.length_drop]; omega)
theorem cut_mid (ds : List D) (i j : Nat) (hi : i ≤ j) (hj : j ≤ ds.length) : cutD ds (some (i : Int)) (some (j : Int)) = (ds.drop i).take (j - i) := by
  unfold cutD
  rw [HT.sIx_nat, HT.sIx_nat, Nat.min_eq_left hj, Nat.min_eq_left (Nat.le_trans hi hj)]
theorem cat_ok {xs ys : List D} (h : xs.length + ys.length ≤ 16777216) : fCat (.lst xs) (.lst ys) = .ok (xs ++ ys) := by
  unfold fCat
  exact if_pos h
theorem add_tup {xs ys : List D} (h : xs.length + ys.length ≤ 16777216) : oAdd (.tup xs) (.tup ys) = .ok (.tup (xs ++ ys)) := by
  unfold oAdd
  exact if_pos h
theorem add_lst {xs ys : List D} (h : xs.length + ys.length ≤ 16777216) : oAdd (.lst xs) (.lst ys) = .ok (.lst (xs ++ ys)) := by
  unfold oAdd
  exact if_pos h
theorem rep_ok {x : D} {k : Nat} (hk : k ≤ 1000) : fRep (.lst [x]) (.int (k : Int)) = .ok (List.replicate k x) := by
  have c : cb (-(2 ^ 63) ≤ (k : Int) ∧ (k : Int) < 2 ^ 63 ∧ ([x] : List D).length * (k : Int).toNat ≤ 16777216) = true := cb_t ⟨by omega, by omega, by simp; omega⟩
  show (if cb (-(2 ^ 63) ≤ (k : Int) ∧ (k : Int) < 2 ^ 63 ∧ ([x] : List D).length * (k : Int).toNat ≤ 16777216) = true then Res.ok (List.replicate (k : Int).toNat [x]).flatten else .bad) = _
  rw [if_pos c, Int.toNat_natCast]
  congr 1
  clear c hk
  induction k with
  | zero => rfl
  | succ n ih => simp [List.replicate_succ, ih]
theorem rep_gen {xs : List D} {k : Nat} (hk : k ≤ 1000) (hx : xs.length ≤ 1000) : fRep (.lst xs) (.int (k : Int)) = .ok (List.replicate k xs).flatten := by
  have c : cb (-(2 ^ 63) ≤ (k : Int) ∧ (k : Int) < 2 ^ 63 ∧ xs.length * (k : Int).toNat ≤ 16777216) = true := cb_t ⟨by omega, by omega, by
    rw [Int.toNat_natCast]
    exact Nat.le_trans (Nat.mul_le_mul hx hk) (by decide)⟩
  show (if cb (-(2 ^ 63) ≤ (k : Int) ∧ (k : Int) < 2 ^ 63 ∧ xs.length * (k : Int).toNat ≤ 16777216) = true then Res.ok (List.replicate (k : Int).toNat xs).flatten else .bad) = _
  rw [if_pos c, Int.toNat_natCast]
theorem mulT1 (x : D) {n : Nat} (h1 : 1 ≤ n) (h : n ≤ 1000) : oMulT (.tup [x]) (.int (n : Int)) = .ok (.tup (List.replicate n x)) := by
  have c : cb (([x] : List D) ≠ [] ∧ 1 ≤ (n : Int) ∧ (n : Int) ≤ 1000 ∧ ([x] : List D).length ≤ 1000) = true := cb_t ⟨by simp, by omega, by omega, by simp⟩
  show (if cb (([x] : List D) ≠ [] ∧ 1 ≤ (n : Int) ∧ (n : Int) ≤ 1000 ∧ ([x] : List D).length ≤ 1000) = true then Res.ok (D.tup (List.replicate (n : Int).toNat [x]).flatten) else .bad) = _
  rw [if_pos c, Int.toNat_natCast]
  congr 2
  clear c h1 h
  induction n with
  | zero => rfl
  | succ n ih => simp [List.replicate_succ, ih]
theorem ixN_nat {n k : Nat} (h : k < n) : ixN n (k : Int) = some k := by
  unfold ixN
  rw [if_pos (by omega), if_pos (by omega)]
  simp
theorem ixLst {xs : List D} {k : Nat} (h : k < xs.length) : oIx (.lst xs) (.int (k : Int)) = .ok xs[k] := by
  simp only [oIx]
  rw [atI_nat (k := k) rfl h]
theorem ixTup {xs : List D} {k : Nat} (h : k < xs.length) : oIx (.tup xs) (.int (k : Int)) = .ok xs[k] := by
  simp only [oIx]
  rw [atI_nat (k := k) rfl h]
/-- picks out of a list of values -/
theorem pick_ok (xs : List Int) (q lo hi : Int) (h0 : 0 ≤ q) (h1 : q < xs.length) (hx : ∀ x ∈ xs, lo ≤ x ∧ x ≤ hi) : ∃ z : Int, (lo ≤ z ∧ z ≤ hi) ∧ oIx (.lst (xs.map D.int)) (.int q) = .ok (.int z) := by
  obtain ⟨k, rfl⟩ := Int.eq_ofNat_of_zero_le h0
  have hk : k < xs.length := by omega
  exact ⟨xs[k], hx _ (List.getElem_mem hk), ix_seqI (seqI_l xs) rfl hk⟩
theorem pickD {P : D → Prop} (xs : List D) (q : Int) (h0 : 0 ≤ q) (h1 : q < xs.length) (hx : ∀ x ∈ xs, P x) : ∃ z, P z ∧ oIx (.lst xs) (.int q) = .ok z := by
  obtain ⟨k, rfl⟩ := Int.eq_ofNat_of_zero_le h0
  have hk : k < xs.length := by omega
  exact ⟨xs[k], hx _ (List.getElem_mem hk), ixLst hk⟩
/-! ### a loop that may raise or return -/
/-- the loop over es ends without a stop: each turn keeps I -/
theorem for_all {α : Type} {g : FG} {body : Sl → Out} (e : α → D) (I : Sl → Prop) : ∀ (xs : List α) (ρ : Sl), I ρ → (∀ x ∈ xs, ∀ ρ, I ρ → ∃ ρ1 ρ2, g (e x) ρ = some ρ1 ∧ body ρ1 = .nx ρ2 ∧ I ρ2) → ∃ ρ', forRun g body (xs.map e) ρ = .nx ρ' ∧ I ρ'
  | [], ρ, h, _ => ⟨ρ, rfl, h⟩
  | x :: xs, ρ, h, hs => by
    obtain ⟨ρ1, ρ2, h1, h2, h3⟩ := hs x (by simp) ρ h
    obtain ⟨ρ', h4, h5⟩ := for_all e I xs ρ2 h3 fun y hy => hs y (by simp [hy])
    refine ⟨ρ', ?_, h5⟩
    rw [List.map_cons]
    simp only [forRun, h1, h2]
    exact h4
/-- .. over places and items; the first item that p marks raises -/
theorem enum_exc {α : Type} {g : FG} {body : Sl → Out} (e : α → D) (p : α → Bool) (c : Str) (fx : Nat → List (Str × D)) (I : Sl → Prop) : ∀ (xs : List α) (k : Nat) (ρ : Sl), I ρ →
    (∀ j x, x ∈ xs → j < k + xs.length → ∀ ρ, I ρ → ∃ ρ1 ρ2, g (.tup [.int (j : Int), e x]) ρ = some ρ1 ∧ (if p x = true then body ρ1 = .exc c (fx j) ρ2 else body ρ1 = .nx ρ2 ∧ I ρ2)) →
    (xs.all (fun x => !p x) = true → ∃ ρ', forRun g body (enumD k (xs.map e)) ρ = .nx ρ' ∧ I ρ') ∧
    (∀ i, i < xs.length → (∀ j, j < i → ∀ x, xs[j]? = some x → p x = false) → (∀ x, xs[i]? = some x → p x = true) → ∃ ρ', forRun g body (enumD k (xs.map e)) ρ = .exc c (fx (k + i)) ρ')
  | [], k, ρ, h, _ => ⟨fun _ => ⟨ρ, rfl, h⟩, fun i hi => absurd hi (by simp)⟩
  | x :: xs, k, ρ, h, hs => by
    obtain ⟨ρ1, ρ2, h1, h2⟩ := hs k x (by simp) (by simp) ρ h
    cases hp : p x with
    | true =>
      rw [hp, if_pos rfl] at h2
      refine ⟨fun z => by simp [hp] at z, fun i hi h3 h4 => ?_⟩
      cases i with
      | zero =>
        refine ⟨ρ2, ?_⟩
        rw [List.map_cons, enumD]
        simp only [forRun, h1, h2, Nat.add_zero]
      | succ i =>
        have := h3 0 (by omega) x rfl
        rw [hp] at this
        cases this
    | false =>
      rw [hp, if_neg Bool.false_ne_true] at h2
      obtain ⟨h2, h2i⟩ := h2
      obtain ⟨ih1, ih2⟩ := enum_exc e p c fx I xs (k + 1) ρ2 h2i fun j y hy hj => hs j y (by simp [hy]) (by simp; omega)
      refine ⟨fun z => ?_, fun i hi h3 h4 => ?_⟩
      · obtain ⟨ρ', q1, q2⟩ := ih1 (by simpa [hp] using z)
        refine ⟨ρ', ?_, q2⟩
        rw [List.map_cons, enumD]
        simp only [forRun, h1, h2]
        exact q1
      · cases i with
        | zero => have := h4 x rfl; rw [hp] at this; cases this
        | succ i =>
          obtain ⟨ρ', q1⟩ := ih2 i (by simpa using hi) (fun j hj y hy => h3 (j + 1) (by omega) y (by simpa using hy)) (fun y hy => h4 y (by simpa using hy))
          refine ⟨ρ', ?_⟩
          rw [List.map_cons, enumD]
          simp only [forRun, h1, h2]
          rw [q1, show k + 1 + i = k + (i + 1) by omega]
end XL

set_option Elab.async false
set_option linter.all false
set_option maxRecDepth 100000
set_option maxHeartbeats 4000000
/-! What the menus' defs answer. Printed from LM.tpl, @ for the law's short name. -/
namespace LM_k12
open PySem L2 PF ML S_k12 LC_k12 XL

abbrev Rw := List (List Int)
def rowsT (rows : Rw) : D := .tup (rows.map vec)
def rowsL (rows : Rw) : D := .lst (rows.map vec)
abbrev menuO (w : Nat) (rows : Rw) : D := .obj "Menu" ["width", "usages"] [.int (w : Int), rowsT rows]
section
variable {w : Nat} {rows : Rw}
@[simp high] theorem fld_w : bFld cs_width "width" (menuO w rows) = .ok (.int (w : Int)) := rfl
@[simp high] theorem fld_u : bFld cs_usages "usages" (menuO w rows) = .ok (rowsT rows) := rfl
end
@[simp high] theorem lk1 : List.lookup ("Menu" : Str) mt_is_plan = some f_Menu_is_plan := rfl
@[simp high] theorem nm1 : (("is_plan" : Str) ∈ (["width", "usages"] : List Str)) = False := eq_false (by decide)
@[simp high] theorem wu : (("width" : Str) = ("usages" : Str)) = False := eq_false (by decide)
/-- a menu: w wide, its rows -/
structure Mn (w : Nat) (rows : Rw) : Prop where
  w1 : 1 ≤ w
  w8 : w ≤ 8
  n1 : 1 ≤ rows.length
  n24 : rows.length ≤ 24
  len : ∀ r ∈ rows, r.length = w
theorem whole_int (i : Int) : f_is_whole [.int i] = .ok (.bl true) := by simp [f_is_whole, g_is_whole]
theorem len_rows (rows : Rw) : bLen (rowsT rows) = .ok (.int (rows.length : Int)) := by simp [rowsT]
theorem lenL (rows : Rw) : bLen (rowsL rows) = .ok (.int (rows.length : Int)) := by simp [rowsL]
theorem len_vec (r : List Int) : bLen (vec r) = .ok (.int (r.length : Int)) := by simp [vec]
theorem seqL (rows : Rw) : dSeq (rowsL rows) = .ok (rows.map vec) := rfl
theorem lstL (rows : Rw) : bLst (rowsL rows) = .ok (rows.map vec) := rfl
theorem tupL (rows : Rw) : bTup (rowsL rows) = .ok (rowsT rows) := rfl
theorem tyT (rows : Rw) : dTy (rowsT rows) = some "tuple" := rfl
/-! ### is_plan -/
theorem plan_in {w : Nat} {rows : Rw} {p : Nat} (h : p < rows.length) : f_Menu_is_plan [menuO w rows, .int (p : Int)] = .ok (.bl true) := by
  have c1 : cb ((0 : Int) ≤ (p : Int)) = true := cb_t (by omega)
  have c2 : cb ((p : Int) < (rows.length : Int)) = true := cb_t (by omega)
  simp [-cb_iff, -cb_nif, -bLen, -bFld, f_Menu_is_plan, g_Menu_is_plan, whole_int, c1, c2, len_rows, cb_t h]
theorem plan_out {w : Nat} {rows : Rw} {i : Int} (h : i < 0 ∨ (rows.length : Int) ≤ i) : f_Menu_is_plan [menuO w rows, .int i] = .ok (.bl false) := by
  by_cases c0 : (0 : Int) ≤ i
  · have c2 : cb (i < (rows.length : Int)) = false := cb_f (by omega)
    simp [-cb_iff, -cb_nif, -bLen, -bFld, f_Menu_is_plan, g_Menu_is_plan, whole_int, cb_t c0, c2, len_rows]
  · simp [-cb_iff, -cb_nif, -bLen, -bFld, f_Menu_is_plan, g_Menu_is_plan, whole_int, cb_f c0, len_rows]
/-- values that are no whole numbers -/
def NotW (d : D) : Prop := d = .non ∨ (∃ x, d = .str x) ∨ ∃ ds, d = .tup ds
theorem whole_not {d : D} (h : NotW d) : f_is_whole [d] = .ok (.bl false) := by
  rcases h with rfl | ⟨x, rfl⟩ | ⟨ds, rfl⟩ <;> simp [f_is_whole, g_is_whole]
theorem plan_not {w : Nat} {rows : Rw} {d : D} (h : NotW d) : f_Menu_is_plan [menuO w rows, d] = .ok (.bl false) := by
  have e := whole_not h
  simp [-cb_iff, -cb_nif, -bFld, f_Menu_is_plan, g_Menu_is_plan, e]
/-! ### the making -/
section
variable {w : Nat} {rows : Rw}
theorem task_ok (x : Addr) (h1 : 1 ≤ w) (h8 : w ≤ 8) : f_Task_init x [] [.int (w : Int)] = .ok [("width", .int (w : Int))] := by
  simp [-cb_iff, -cb_nif, f_Task_init, g_Task_init, cb_t (show (1 : Int) ≤ (w : Int) by omega), cb_t (show (w : Int) ≤ 8 by omega), cb_t h1, cb_t h8]
theorem init_run (x : Addr) (us : D) (wi : Int) : ∀ (rs : Rw) (kr : Cell), (∀ r ∈ rs, (r.length : Int) = wi) → ∃ kr', forRun (PF.gName 4) b1_Menu_init (rs.map vec) [.v (.raw x), .v (.int wi), .v us, .e, kr] = .nx [.v (.raw x), .v (.int wi), .v us, .e, kr']
  | [], kr, _ => ⟨kr, rfl⟩
  | r :: rs, kr, h => by
    have h0 := len_vec r
    have h1 := h r (by simp)
    have hb : b1_Menu_init [.v (.raw x), .v (.int wi), .v us, .e, .v (vec r)] = .nx [.v (.raw x), .v (.int wi), .v us, .e, .v (vec r)] := by simp [-bLen, b1_Menu_init, h0, h1]
    obtain ⟨kr', h2⟩ := init_run x us wi rs (.v (vec r)) fun y hy => h y (by simp [hy])
    refine ⟨kr', ?_⟩
    rw [List.map_cons]
    simp only [forRun, PF.gName, List.set_cons_succ, List.set_cons_zero, hb]
    simpa using h2
theorem init_ok (M : Mn w rows) (x : Addr) : f_Menu_init x [] [.int (w : Int), rowsL rows] = .ok [("width", .int (w : Int)), ("usages", rowsT rows)] := by
  have h1 := task_ok x M.w1 M.w8
  have n1 := M.n1
  have n24 := M.n24
  obtain ⟨kr', h2⟩ := init_run x (rowsL rows) (w : Int) rows .e fun r hr => by rw [M.len r hr]
  have e := lc_map (g := PF.gName 4) (f := sUn bTup (sRd 4)) (ρ := [.v (.raw x), .v (.int (w : Int)), .v (rowsL rows), .e, .e]) vec vec rows (fun r hr => ⟨_, rfl, by simp [vec]⟩) (by omega)
  have e4 : bTup (.lst (rows.map vec)) = .ok (rowsT rows) := by simp [rowsT]
  simp [-cb_iff, -cb_nif, -dSeq, -bLen, -bTup, f_Menu_init, g_Menu_init, h1, seqL, lenL, cb_t (show (1 : Int) ≤ (rows.length : Int) by omega), cb_t (show (rows.length : Int) ≤ 24 by omega), cb_t n1, cb_t n24, h2, e, e4]
theorem make_ok {fs : Sl → Res (List D)} {ρ : Sl} (M : Mn w rows) (h : fs ρ = .ok [.int (w : Int), rowsL rows]) : sMake "Menu" f_Menu_init fs ρ = .ok (menuO w rows) := by
  have h2 : aAny (fun x => f_Menu_init x [] [.int (w : Int), rowsL rows]) = .ok _ := aAny_eq (init_ok M)
  simp [h, h2]
end
/-! ### data -/
theorem eqvA_rows : ∀ a b : Rw, PyData.eqvAll (D.pyA (a.map vec)) (D.pyA (b.map vec)) = decide (a = b)
  | [], [] => by simp [D.pyA, PyData.eqvAll]
  | [], _ :: _ => by simp [D.pyA, PyData.eqvAll]
  | _ :: _, [] => by simp [D.pyA, PyData.eqvAll]
  | x :: a, y :: b => by
    have ih := eqvA_rows a b
    have h := eqv_vec x y
    unfold eqv at h
    simp only [List.map_cons, D.pyA, PyData.eqvAll, ih, h]
    by_cases h1 : x = y <;> by_cases h2 : a = b <;> simp [h1, h2]
theorem eqv_rows (a b : Rw) : eqv (rowsT a) (rowsT b) = decide (a = b) := by
  have := eqvA_rows a b
  simp [rowsT, eqv, D.py, PyData.eqv, this]
theorem lay_rows : ∀ a : Rw, PyData.canLayAll0 (D.pyA (a.map vec)) = true
  | [] => by simp [D.pyA, PyData.canLayAll0]
  | x :: a => by
    have ih := lay_rows a
    simp [D.pyA, PyData.canLayAll0, ih, vec, D.py, PyData.canLay0, pyA_ints, lay_ints]
theorem dep_rows : ∀ a : Rw, PyData.depthAll (D.pyA (a.map vec)) ≤ 1
  | [] => by simp [D.pyA, PyData.depthAll]
  | x :: a => by
    have ih := dep_rows a
    have h : PyData.depth (D.py (vec x)) = 1 := by simp [vec, D.py, PyData.depth, pyA_ints, dep_ints]
    simp only [List.map_cons, D.pyA, PyData.depthAll, h]
    omega
theorem eqOk_rows (a : Rw) : eqOk (rowsT a) = true := sh_of (by simp [rowsT, D.py, PyData.canLay0, lay_rows]) (by
  have := dep_rows a
  simp [rowsT, D.py, PyData.depth]
  omega)
theorem nol_ints : ∀ ns : List Int, nolA (ns.map D.int) = true
  | [] => by simp [nolA]
  | n :: ns => by simp [nolA, nol_ints ns]
theorem nol_rows : ∀ rs : Rw, nolA (rs.map vec) = true
  | [] => by simp [nolA]
  | r :: rs => by simp [nolA, nol_rows rs, vec, nol, nol_ints]
theorem nol_menu (w : Nat) (rows : Rw) : nol (menuO w rows) = true := by simp [nol, nolA, rowsT, nol_rows]
end LM_k12

set_option Elab.async false
set_option linter.all false
set_option maxRecDepth 100000
set_option maxHeartbeats 4000000
/-! k12: the making of a study. -/
namespace M_k12
open PySem L2 PF ML S_k12 LC_k12 LM_k12 XL

abbrev Rt := Int × Int
def rt (q : Rt) : D := .tup [.int q.1, .int q.2]
def bo : Option Rt → D
  | none => .non
  | some q => rt q
abbrev Rg := Option Rt × Option Rt
def rg (r : Rg) : D := .tup [bo r.1, bo r.2]
/-- a seen pair: a menu, any value for its plan, and whether that is a plan -/
structure Sp where
  w : Nat
  rows : Rw
  plan : D
  good : Bool
def sp (s : Sp) : D := .tup [menuO s.w s.rows, s.plan]
def SpV (s : Sp) : Prop := f_Menu_is_plan [menuO s.w s.rows, s.plan] = .ok (.bl s.good)
abbrev studyO (w : Nat) (rgs : List Rg) (sps : List Sp) : D := .obj "Study" ["width", "ranges", "seen"] [.int (w : Int), .tup (rgs.map rg), .tup (sps.map sp)]
section
variable {w : Nat} {rgs : List Rg} {sps : List Sp}
@[simp high] theorem fld_sw : bFld cs_width "width" (studyO w rgs sps) = .ok (.int (w : Int)) := rfl
@[simp high] theorem fld_sr : bFld cs_ranges "ranges" (studyO w rgs sps) = .ok (.tup (rgs.map rg)) := rfl
@[simp high] theorem fld_ss : bFld cs_seen "seen" (studyO w rgs sps) = .ok (.tup (sps.map sp)) := rfl
@[simp high] theorem is_st : bIsC is_Study (studyO w rgs sps) = .ok (.bl true) := rfl
end
@[simp high] theorem is_mn (w : Nat) (rows : Rw) : bIsC is_Menu (menuO w rows) = .ok (.bl true) := rfl
@[simp high] theorem ls1 : List.lookup ("Study" : Str) mt_with_seen = some f_Study_with_seen := rfl
@[simp high] theorem ls2 : List.lookup ("Study" : Str) mt_without_seen = some f_Study_without_seen := rfl
@[simp high] theorem ls3 : List.lookup ("Study" : Str) mt_with_range = some f_Study_with_range := rfl
@[simp high] theorem ns1 : (("with_seen" : Str) ∈ (["width", "ranges", "seen"] : List Str)) = False := eq_false (by decide)
@[simp high] theorem ns2 : (("without_seen" : Str) ∈ (["width", "ranges", "seen"] : List Str)) = False := eq_false (by decide)
@[simp high] theorem ns3 : (("with_range" : Str) ∈ (["width", "ranges", "seen"] : List Str)) = False := eq_false (by decide)
@[simp high] theorem wr : (("width" : Str) = ("ranges" : Str)) = False := eq_false (by decide)
@[simp high] theorem ws : (("width" : Str) = ("seen" : Str)) = False := eq_false (by decide)
@[simp high] theorem rs : (("ranges" : Str) = ("seen" : Str)) = False := eq_false (by decide)
/-! ### the errors -/
theorem num_ok (k : Nat) (h : k < 1000) : ((k : Int)).natAbs < 10 ^ 100 := Nat.lt_of_lt_of_le (show ((k : Int)).natAbs < 1000 by omega) (by decide)
theorem range_init (k : Nat) (h : k < 1000) : f_BadRange_init [.int (k : Int)] = .ok [("letter", .int (k : Int))] := by
  obtain ⟨z, hz⟩ := jn1 (a := "invalid range of letter ") (f := sRd 1) (ρ := [.e, .v (.int (k : Int)), .e]) (i := (k : Int)) (by simp) (by decide +kernel) (num_ok k h)
  simp [-sJn, f_BadRange_init, g_BadRange_init, hz]
theorem seen_init (k : Nat) (h : k < 1000) : f_BadSeen_init [.int (k : Int)] = .ok [("place", .int (k : Int))] := by
  obtain ⟨z, hz⟩ := jn1 (a := "invalid seen plan at place ") (f := sRd 1) (ρ := [.e, .v (.int (k : Int)), .e]) (i := (k : Int)) (by simp) (by decide +kernel) (num_ok k h)
  simp [-sJn, f_BadSeen_init, g_BadSeen_init, hz]
theorem many_init : f_TooMany_init [.str "seen", .int 10] = .ok [("limit", .int 10), ("word", .str "seen")] := by
  obtain ⟨z, hz⟩ := jn2 (a := "more than ") (b := " ") (x := "seen") (f := sRd 2) (g := sRd 1) (ρ := [.e, .v (.str "seen"), .v (.int 10), .e]) (i := 10) (by simp) (by simp) (by decide +kernel) (by decide +kernel) (by decide +kernel) (by decide)
  simp [-sJn, f_TooMany_init, g_TooMany_init, hz]
/-! ### the first loop -/
def Sz (q : Rt) : Prop := q.1.natAbs < 2 ^ 150 ∧ q.2.natAbs < 2 ^ 150
def RgB (r : Rg) : Prop := (∀ q, r.1 = some q → Sz q) ∧ ∀ q, r.2 = some q → Sz q
def gapR (a b : Rt) : Int := a.1 * b.2 - b.1 * a.2
theorem compare_ok {a b : Rt} (ha : Sz a) (hb : Sz b) : f_compare [rt a, rt b] = .ok (.int ((if cb (0 < gapR a b) = true then 1 else 0) - (if cb (gapR a b < 0) = true then 1 else 0))) := by
  have h1 : mulOk a.1 b.2 = true := mulOk_b ha.1 hb.2 (by decide)
  have h2 : mulOk b.1 a.2 = true := mulOk_b hb.1 ha.2 (by decide)
  simp [-cb_iff, -cb_nif, f_compare, g_compare, rt, h1, h2, gapR]
  first | done | rfl | (generalize cb (a.fst * b.snd - b.fst * a.snd < 0) = q; cases q <;> rfl)
/-- a range whose low bound is above the high one -/
noncomputable def xs (r : Rg) : Bool := match r.1, r.2 with
  | some a, some b => cb (0 < gapR a b)
  | _, _ => false
theorem b1_ok (r : Rg) (hr : RgB r) (c0 c1 c2 c3 c7 c8 c9 : Cell) (k : Nat) (hk : k < 1000) : if xs r = true then b1_Study_init [c0, c1, c2, c3, .v (.int (k : Int)), .v (bo r.1), .v (bo r.2), c7, c8, c9] = .exc "BadRange" [("letter", .int (k : Int))] [c0, c1, c2, c3, .v (.int (k : Int)), .v (bo r.1), .v (bo r.2), c7, c8, c9]
    else b1_Study_init [c0, c1, c2, c3, .v (.int (k : Int)), .v (bo r.1), .v (bo r.2), c7, c8, c9] = .nx [c0, c1, c2, c3, .v (.int (k : Int)), .v (bo r.1), .v (bo r.2), c7, c8, c9] := by
  have hi := range_init k hk
  obtain ⟨lo, hi'⟩ := r
  cases lo with
  | none => simp [xs, bo, b1_Study_init]
  | some a =>
    cases hi' with
    | none => simp [xs, bo, rt, b1_Study_init]
    | some b =>
      have hc := compare_ok (hr.1 a rfl) (hr.2 b rfl)
      by_cases g : 0 < gapR a b
      · have c1 : cb (0 < gapR a b) = true := cb_t g
        have c2 : cb (gapR a b < 0) = false := cb_f (by omega)
        rw [c1, c2] at hc
        simp [-cb_iff, -cb_nif] at hc
        have z : cb ((0 : Int) < 1) = true := cb_t (by decide)
        unfold rt at hc
        simp [-cb_iff, -cb_nif, xs, bo, rt, b1_Study_init, hc, c1, hi, z]
      · have c1 : cb (0 < gapR a b) = false := cb_f g
        unfold rt at hc
        rw [c1] at hc
        cases c2 : cb (gapR a b < 0) with
        | true =>
          rw [c2] at hc
          simp [-cb_iff, -cb_nif] at hc
          have z : cb ((0 : Int) < -1) = false := cb_f (by decide)
          simp [-cb_iff, -cb_nif, xs, bo, rt, b1_Study_init, hc, c1, z]
        | false =>
          rw [c2] at hc
          simp [-cb_iff, -cb_nif] at hc
          have z : cb ((0 : Int) < 0) = false := cb_f (by decide)
          simp [-cb_iff, -cb_nif, xs, bo, rt, b1_Study_init, hc, c1, z]
/-! ### the second loop -/
noncomputable def badS (w : Nat) (s : Sp) : Bool := !(decide (s.w = w) && s.good)
theorem b2_ok (w : Nat) (s : Sp) (hs : SpV s) (c0 c2 c3 c4 c5 c6 : Cell) (k : Nat) (hk : k < 1000) : if badS w s = true then b2_Study_init [c0, .v (.int (w : Int)), c2, c3, c4, c5, c6, .v (.int (k : Int)), .v (menuO s.w s.rows), .v s.plan] = .exc "BadSeen" [("place", .int (k : Int))] [c0, .v (.int (w : Int)), c2, c3, c4, c5, c6, .v (.int (k : Int)), .v (menuO s.w s.rows), .v s.plan]
    else b2_Study_init [c0, .v (.int (w : Int)), c2, c3, c4, c5, c6, .v (.int (k : Int)), .v (menuO s.w s.rows), .v s.plan] = .nx [c0, .v (.int (w : Int)), c2, c3, c4, c5, c6, .v (.int (k : Int)), .v (menuO s.w s.rows), .v s.plan] := by
  have hi := seen_init k hk
  unfold SpV at hs
  by_cases e : s.w = w
  · cases g : s.good with
    | true =>
      rw [g] at hs
      simp [-bFld, -thaw, badS, e, g, b2_Study_init, hs]
      rw [e] at hs
      simp [-bFld, hs]
    | false =>
      rw [g] at hs
      rw [e] at hs
      simp [-bFld, badS, e, g, b2_Study_init, hs, hi]
  · have e2 : ¬ ((s.w : Int) = (w : Int)) := by omega
    simp [-bFld, badS, e, e2, b2_Study_init, hi]
/-! ### the whole -/
theorem jnx {g h : GI} {x : Addr} {fl fl' : Fl} {ρ ρ' : Sl} (e : g x fl ρ = .nx fl' ρ') : jSeq g h x fl ρ = h x fl' ρ' := by simp only [jSeq, e]
theorem jex {g h : GI} {x : Addr} {fl : Fl} {ρ ρ' : Sl} {c : Str} {fs : List (Str × D)} (e : g x fl ρ = .exc c fs ρ') : jSeq g h x fl ρ = .exc c fs ρ' := by simp only [jSeq, e]
theorem jpn {f : Sl → Out} {x : Addr} {fl : Fl} {ρ ρ' : Sl} (e : f ρ = .nx ρ') : jPl f x fl ρ = .nx fl ρ' := by simp only [jPl, e]
theorem jpe {f : Sl → Out} {x : Addr} {fl : Fl} {ρ ρ' : Sl} {c : Str} {fs : List (Str × D)} (e : f ρ = .exc c fs ρ') : jPl f x fl ρ = .exc c fs ρ' := by simp only [jPl, e]
theorem semI_ex {n : Nat} {g : GI} {x : Addr} {ds : List D} {c : Str} {fs : List (Str × D)} {ρ' : Sl} (e : g x [] (.v (.raw x) :: ds.map Cell.v ++ List.replicate (n - (ds.length + 1)) .e) = .exc c fs ρ') : semI n g x [] ds = .exc c fs := by
  unfold semI
  rw [e]
theorem semI_nx {n : Nat} {g : GI} {x : Addr} {ds : List D} {fl : Fl} {ρ' : Sl} (e : g x [] (.v (.raw x) :: ds.map Cell.v ++ List.replicate (n - (ds.length + 1)) .e) = .nx fl ρ') : semI n g x [] ds = .ok fl := by
  unfold semI
  rw [e]
def IsS (d : D) (xs : List D) : Prop := d = .lst xs ∨ d = .tup xs
theorem IsS.len {d : D} {xs : List D} (h : IsS d xs) : bLen d = .ok (.int (xs.length : Int)) := by rcases h with rfl | rfl <;> rfl
theorem IsS.seq {d : D} {xs : List D} (h : IsS d xs) : dSeq d = .ok xs := by rcases h with rfl | rfl <;> rfl
theorem IsS.sq {d : D} {xs : List D} (h : IsS d xs) : dSq d = .ok xs := by rcases h with rfl | rfl <;> rfl
section
variable {x : Addr} {w : Nat} {RD SD : D} {rs : List Rg} {ss : List Sp}
theorem st_num (x : Addr) {wi : Int} {xs : List D} (hR : IsS RD xs) (h : wi < 1 ∨ 8 < wi ∨ (xs.length : Int) ≠ wi) : f_Study_init x [] [.int wi, RD, SD] = .exc "BadNumber" [] := by
  have hl := hR.len
  refine semI_ex (ρ' := [.v (.raw x), .v (.int wi), .v RD, .v SD, .e, .e, .e, .e, .e, .e]) (jex (jpe ?_))
  by_cases c1 : (1 : Int) ≤ wi
  · by_cases c2 : wi ≤ 8
    · have c3 : ¬ ((xs.length : Int) = wi) := by omega
      simp [-cb_iff, -cb_nif, -bLen, hl, cb_t c1, cb_t c2, c3]
    · simp [-cb_iff, -cb_nif, -bLen, hl, cb_t c1, cb_f c2]
  · simp [-cb_iff, -cb_nif, -bLen, hl, cb_f c1]
theorem st_head (x : Addr) (h1 : 1 ≤ w) (h8 : w ≤ 8) (hR : IsS RD (rs.map rg)) (hl : rs.length = w) : jPl (gIf (tOr (tNot (sTest (sChn oLe oLe (sC (.int 1)) (sRd 1) (sC (.int 8))))) (sTest (sOp oNe (sUn bLen (sRd 2)) (sRd 1)))) (gRaise "BadNumber") gNil) x [] [.v (.raw x), .v (.int (w : Int)), .v RD, .v SD, .e, .e, .e, .e, .e, .e] = .nx [] [.v (.raw x), .v (.int (w : Int)), .v RD, .v SD, .e, .e, .e, .e, .e, .e] := by
  have hl' := hR.len
  rw [List.length_map, hl] at hl'
  refine jpn ?_
  simp [-cb_iff, -cb_nif, -bLen, hl', cb_t (show (1 : Int) ≤ (w : Int) by omega), cb_t (show (w : Int) ≤ 8 by omega), cb_t h1, cb_t h8]
def I1 (x : Addr) (w : Nat) (RD SD : D) (ρ : Sl) : Prop := ∃ a b c, ρ = [.v (.raw x), .v (.int (w : Int)), .v RD, .v SD, a, b, c, .e, .e, .e]
theorem loop1 (x : Addr) (SD : D) (h8 : w ≤ 8) (hR : IsS RD (rs.map rg)) (hl : rs.length = w) (hb : ∀ r ∈ rs, RgB r) :
    (rs.all (fun r => !xs r) = true → ∃ ρ', gFor (iEnu (aCons (sVar 2) aNil)) (gTup 2 (gsCons (PF.gName 4) (gsCons (gTup 2 (gsCons (PF.gName 5) (gsCons (PF.gName 6) gsNil))) gsNil))) b1_Study_init [.v (.raw x), .v (.int (w : Int)), .v RD, .v SD, .e, .e, .e, .e, .e, .e] = .nx ρ' ∧ I1 x w RD SD ρ') ∧
    (∀ i, i < rs.length → (∀ j, j < i → ∀ r, rs[j]? = some r → xs r = false) → (∀ r, rs[i]? = some r → xs r = true) → ∃ ρ', gFor (iEnu (aCons (sVar 2) aNil)) (gTup 2 (gsCons (PF.gName 4) (gsCons (gTup 2 (gsCons (PF.gName 5) (gsCons (PF.gName 6) gsNil))) gsNil))) b1_Study_init [.v (.raw x), .v (.int (w : Int)), .v RD, .v SD, .e, .e, .e, .e, .e, .e] = .exc "BadRange" [("letter", .int (i : Int))] ρ') := by
  have hs := hR.sq
  have e0 : iEnu (aCons (sVar 2) aNil) [.v (.raw x), .v (.int (w : Int)), .v RD, .v SD, .e, .e, .e, .e, .e, .e] = .ok (enumD 0 (rs.map rg)) := by
    simp [-dSq, hs]
  have key := enum_exc (g := gTup 2 (gsCons (PF.gName 4) (gsCons (gTup 2 (gsCons (PF.gName 5) (gsCons (PF.gName 6) gsNil))) gsNil))) (body := b1_Study_init) rg xs "BadRange" (fun j => [("letter", .int (j : Int))]) (I1 x w RD SD) rs 0 [.v (.raw x), .v (.int (w : Int)), .v RD, .v SD, .e, .e, .e, .e, .e, .e] ⟨_, _, _, rfl⟩ (fun j r hr hj ρ ⟨a, b, c, e⟩ => by
    subst e
    have h := b1_ok r (hb r hr) (.v (.raw x)) (.v (.int (w : Int))) (.v RD) (.v SD) .e .e .e j (by omega)
    refine ⟨[.v (.raw x), .v (.int (w : Int)), .v RD, .v SD, .v (.int (j : Int)), .v (bo r.1), .v (bo r.2), .e, .e, .e], [.v (.raw x), .v (.int (w : Int)), .v RD, .v SD, .v (.int (j : Int)), .v (bo r.1), .v (bo r.2), .e, .e, .e], rfl, ?_⟩
    split at h
    · rename_i q; rw [if_pos q]; exact h
    · rename_i q; rw [if_neg q]; exact ⟨h, _, _, _, rfl⟩)
  simp only [gFor, e0, rS_ok]
  simpa using key
theorem st_range (x : Addr) (h1 : 1 ≤ w) (h8 : w ≤ 8) (hR : IsS RD (rs.map rg)) (hl : rs.length = w) (hb : ∀ r ∈ rs, RgB r) (i : Nat) (hi : i < rs.length) (ha : ∀ j, j < i → ∀ r, rs[j]? = some r → xs r = false) (hx : ∀ r, rs[i]? = some r → xs r = true) : f_Study_init x [] [.int (w : Int), RD, SD] = .exc "BadRange" [("letter", .int (i : Int))] := by
  obtain ⟨ρ', h⟩ := (loop1 x SD h8 hR hl hb).2 i hi ha hx
  exact semI_ex ((jnx (st_head x h1 h8 hR hl)).trans (jex (jpe h)))
end
end M_k12

set_option Elab.async false
set_option linter.all false
set_option maxRecDepth 100000
set_option maxHeartbeats 4000000
namespace M_k12
open PySem L2 PF ML S_k12 LC_k12 LM_k12 XL
section
variable {x : Addr} {w : Nat} {RD SD : D} {rs : List Rg} {ss : List Sp}
abbrev NoX (rs : List Rg) : Prop := rs.all (fun r => !xs r) = true
theorem st_many1 (a b c : Cell) (hS : IsS SD (ss.map sp)) (hl : 10 < ss.length) : jPl (gIf (sTest (sOp oGt (sUn bLen (sRd 3)) (sC (.int 10)))) (gRaiseX "TooMany" f_TooMany_init (aCons (sC (.str "seen")) (aCons (sC (.int 10)) aNil))) gNil) x [] [.v (.raw x), .v (.int (w : Int)), .v RD, .v SD, a, b, c, .e, .e, .e] = .exc "TooMany" [("limit", .int 10), ("word", .str "seen")] [.v (.raw x), .v (.int (w : Int)), .v RD, .v SD, a, b, c, .e, .e, .e] := by
  have h := hS.len
  rw [List.length_map] at h
  refine jpe ?_
  simp [-cb_iff, -cb_nif, -bLen, h, cb_t (show (10 : Int) < (ss.length : Int) by omega), cb_t hl, many_init]
theorem st_many0 (a b c : Cell) (hS : IsS SD (ss.map sp)) (hl : ss.length ≤ 10) : jPl (gIf (sTest (sOp oGt (sUn bLen (sRd 3)) (sC (.int 10)))) (gRaiseX "TooMany" f_TooMany_init (aCons (sC (.str "seen")) (aCons (sC (.int 10)) aNil))) gNil) x [] [.v (.raw x), .v (.int (w : Int)), .v RD, .v SD, a, b, c, .e, .e, .e] = .nx [] [.v (.raw x), .v (.int (w : Int)), .v RD, .v SD, a, b, c, .e, .e, .e] := by
  have h := hS.len
  rw [List.length_map] at h
  refine jpn ?_
  simp [-cb_iff, -cb_nif, -bLen, h, cb_f (show ¬ (10 : Int) < (ss.length : Int) by omega), cb_f (show ¬ 10 < ss.length by omega)]
def I2 (x : Addr) (w : Nat) (RD SD : D) (ρ : Sl) : Prop := ∃ a b c d e f, ρ = [.v (.raw x), .v (.int (w : Int)), .v RD, .v SD, a, b, c, d, e, f]
theorem loop2 (x : Addr) (RD : D) (a b c : Cell) (hS : IsS SD (ss.map sp)) (hl : ss.length ≤ 10) (hb : ∀ s ∈ ss, SpV s) :
    (ss.all (fun s => !badS w s) = true → ∃ ρ', gFor (iEnu (aCons (sVar 3) aNil)) (gTup 2 (gsCons (PF.gName 7) (gsCons (gTup 2 (gsCons (PF.gName 8) (gsCons (PF.gName 9) gsNil))) gsNil))) b2_Study_init [.v (.raw x), .v (.int (w : Int)), .v RD, .v SD, a, b, c, .e, .e, .e] = .nx ρ' ∧ I2 x w RD SD ρ') ∧
    (∀ i, i < ss.length → (∀ j, j < i → ∀ s, ss[j]? = some s → badS w s = false) → (∀ s, ss[i]? = some s → badS w s = true) → ∃ ρ', gFor (iEnu (aCons (sVar 3) aNil)) (gTup 2 (gsCons (PF.gName 7) (gsCons (gTup 2 (gsCons (PF.gName 8) (gsCons (PF.gName 9) gsNil))) gsNil))) b2_Study_init [.v (.raw x), .v (.int (w : Int)), .v RD, .v SD, a, b, c, .e, .e, .e] = .exc "BadSeen" [("place", .int (i : Int))] ρ') := by
  have hs := hS.sq
  have e0 : iEnu (aCons (sVar 3) aNil) [.v (.raw x), .v (.int (w : Int)), .v RD, .v SD, a, b, c, .e, .e, .e] = .ok (enumD 0 (ss.map sp)) := by
    simp [-dSq, hs]
  have key := enum_exc (g := gTup 2 (gsCons (PF.gName 7) (gsCons (gTup 2 (gsCons (PF.gName 8) (gsCons (PF.gName 9) gsNil))) gsNil))) (body := b2_Study_init) sp (badS w) "BadSeen" (fun j => [("place", .int (j : Int))]) (I2 x w RD SD) ss 0 [.v (.raw x), .v (.int (w : Int)), .v RD, .v SD, a, b, c, .e, .e, .e] ⟨_, _, _, _, _, _, rfl⟩ (fun j s hs hj ρ ⟨a, b, c, d, e, f, ee⟩ => by
    subst ee
    have h := b2_ok w s (hb s hs) (.v (.raw x)) (.v RD) (.v SD) a b c j (by omega)
    refine ⟨[.v (.raw x), .v (.int (w : Int)), .v RD, .v SD, a, b, c, .v (.int (j : Int)), .v (menuO s.w s.rows), .v s.plan], [.v (.raw x), .v (.int (w : Int)), .v RD, .v SD, a, b, c, .v (.int (j : Int)), .v (menuO s.w s.rows), .v s.plan], rfl, ?_⟩
    split at h
    · rename_i q; rw [if_pos q]; exact h
    · rename_i q; rw [if_neg q]; exact ⟨h, _, _, _, _, _, _, rfl⟩)
  simp only [gFor, e0, rS_ok]
  simpa using key
theorem st_many (x : Addr) (h1 : 1 ≤ w) (h8 : w ≤ 8) (hR : IsS RD (rs.map rg)) (hl : rs.length = w) (hb : ∀ r ∈ rs, RgB r) (hn : NoX rs) (hS : IsS SD (ss.map sp)) (hm : 10 < ss.length) : f_Study_init x [] [.int (w : Int), RD, SD] = .exc "TooMany" [("limit", .int 10), ("word", .str "seen")] := by
  obtain ⟨ρ', h, a, b, c, rfl⟩ := (loop1 x SD h8 hR hl hb).1 hn
  exact semI_ex ((jnx (st_head x h1 h8 hR hl)).trans ((jnx (jpn h)).trans (jex (st_many1 a b c hS hm))))
theorem st_seen (x : Addr) (h1 : 1 ≤ w) (h8 : w ≤ 8) (hR : IsS RD (rs.map rg)) (hl : rs.length = w) (hb : ∀ r ∈ rs, RgB r) (hn : NoX rs) (hS : IsS SD (ss.map sp)) (hm : ss.length ≤ 10) (hv : ∀ s ∈ ss, SpV s)
    (i : Nat) (hi : i < ss.length) (ha : ∀ j, j < i → ∀ s, ss[j]? = some s → badS w s = false) (hx : ∀ s, ss[i]? = some s → badS w s = true) : f_Study_init x [] [.int (w : Int), RD, SD] = .exc "BadSeen" [("place", .int (i : Int))] := by
  obtain ⟨ρ', h, a, b, c, rfl⟩ := (loop1 x SD h8 hR hl hb).1 hn
  obtain ⟨ρ2, h2⟩ := (loop2 (w := w) x RD a b c hS hm hv).2 i hi ha hx
  exact semI_ex ((jnx (st_head x h1 h8 hR hl)).trans ((jnx (jpn h)).trans ((jnx (st_many0 a b c hS hm)).trans (jex (jpe h2)))))
theorem st_ok (x : Addr) (h1 : 1 ≤ w) (h8 : w ≤ 8) (hR : IsS RD (rs.map rg)) (hl : rs.length = w) (hb : ∀ r ∈ rs, RgB r) (hn : NoX rs) (hS : IsS SD (ss.map sp)) (hm : ss.length ≤ 10) (hv : ∀ s ∈ ss, SpV s)
    (hg : ss.all (fun s => !badS w s) = true) : f_Study_init x [] [.int (w : Int), RD, SD] = .ok [("width", .int (w : Int)), ("ranges", .tup (rs.map rg)), ("seen", .tup (ss.map sp))] := by
  obtain ⟨ρ', h, a, b, c, rfl⟩ := (loop1 x SD h8 hR hl hb).1 hn
  obtain ⟨ρ2, h2, a2, b2, c2, d2, e2, f2, rfl⟩ := (loop2 (w := w) x RD a b c hS hm hv).1 hg
  have e3 := lc_map (g := gTup 2 (gsCons (PF.gName 5) (gsCons (PF.gName 6) gsNil))) (f := b3_Study_init) (ρ := [.v (.raw x), .v (.int (w : Int)), .v RD, .v SD, a2, .e, .e, d2, e2, f2]) rg rg rs (fun r _ => ⟨[.v (.raw x), .v (.int (w : Int)), .v RD, .v SD, a2, .v (bo r.1), .v (bo r.2), d2, e2, f2], rfl, by simp [b3_Study_init, rg]⟩) (by omega)
  have e4 := lc_map (g := gTup 2 (gsCons (PF.gName 8) (gsCons (PF.gName 9) gsNil))) (f := b4_Study_init) (ρ := [.v (.raw x), .v (.int (w : Int)), .v RD, .v SD, a2, b2, c2, d2, .e, .e]) sp sp ss (fun s _ => ⟨[.v (.raw x), .v (.int (w : Int)), .v RD, .v SD, a2, b2, c2, d2, .v (menuO s.w s.rows), .v s.plan], rfl, by simp [b4_Study_init, sp]⟩) (by omega)
  have s1 := hR.seq
  have s2 := hS.seq
  refine semI_nx (ρ' := [.v (.raw x), .v (.int (w : Int)), .v RD, .v SD, a2, b2, c2, d2, e2, f2]) ((jnx (st_head x h1 h8 hR hl)).trans ((jnx (jpn h)).trans ((jnx (st_many0 a b c hS hm)).trans ((jnx (jpn h2)).trans ?_))))
  generalize rs.map rg = R at *
  generalize ss.map sp = S at *
  simp [-dSeq, s1, s2, e3, e4]
theorem mk_ok {fs : Sl → Res (List D)} {ρ : Sl} (h : fs ρ = .ok [.int (w : Int), RD, SD]) (h1 : 1 ≤ w) (h8 : w ≤ 8) (hR : IsS RD (rs.map rg)) (hl : rs.length = w) (hb : ∀ r ∈ rs, RgB r) (hn : NoX rs) (hS : IsS SD (ss.map sp)) (hm : ss.length ≤ 10) (hv : ∀ s ∈ ss, SpV s)
    (hg : ss.all (fun s => !badS w s) = true) : sMake "Study" f_Study_init fs ρ = .ok (studyO w rs ss) := by
  have h2 : aAny (fun x => f_Study_init x [] [.int (w : Int), RD, SD]) = .ok _ := aAny_eq fun x => st_ok x h1 h8 hR hl hb hn hS hm hv hg
  simp [h, h2]
theorem mk_ex {fs : Sl → Res (List D)} {ρ : Sl} {ds : List D} {c : Str} {fl : List (Str × D)} (h : fs ρ = .ok ds) (hx : ∀ x, f_Study_init x [] ds = .exc c fl) : sMake "Study" f_Study_init fs ρ = .exc c fl := by
  have h2 : aAny (fun x => f_Study_init x [] ds) = .exc c fl := aAny_eq hx
  simp [h, h2]
end
/-- a study that stands: its ranges are apart, its seen plans are plans -/
structure Sd (w : Nat) (rs : List Rg) (ss : List Sp) : Prop where
  h1 : 1 ≤ w
  h8 : w ≤ 8
  hl : rs.length = w
  hb : ∀ r ∈ rs, RgB r
  hn : NoX rs
  hm : ss.length ≤ 10
  hv : ∀ s ∈ ss, SpV s
  hg : ss.all (fun s => !badS w s) = true
theorem Sd.mk_ok {w : Nat} {rs : List Rg} {ss : List Sp} (d : Sd w rs ss) {RD SD : D} {fs : Sl → Res (List D)} {ρ : Sl} (hR : IsS RD (rs.map rg)) (hS : IsS SD (ss.map sp)) (h : fs ρ = .ok [.int (w : Int), RD, SD]) : sMake "Study" f_Study_init fs ρ = .ok (studyO w rs ss) :=
  M_k12.mk_ok h d.h1 d.h8 hR d.hl d.hb d.hn hS d.hm d.hv d.hg
/-! ### the methods: the same as the making of a study of the changed data -/
section
variable {w : Nat} {rs : List Rg} {ss : List Sp} {r : Res D}
/-- what the making of these data answers -/
noncomputable def mkR (w : D) (RD SD : D) : Res D := (aAny fun x => f_Study_init x [] [w, RD, SD]).bind fun fl => .ok (.obj "Study" (fl.map (·.1)) (fl.map (·.2)))
theorem mkR_ok {w : Nat} {rs : List Rg} {ss : List Sp} (d : Sd w rs ss) {RD SD : D} (hR : IsS RD (rs.map rg)) (hS : IsS SD (ss.map sp)) : mkR (.int (w : Int)) RD SD = .ok (studyO w rs ss) := by
  have h2 : aAny (fun x => f_Study_init x [] [.int (w : Int), RD, SD]) = .ok _ := aAny_eq fun x => st_ok x d.h1 d.h8 hR d.hl d.hb d.hn hS d.hm d.hv d.hg
  unfold mkR
  rw [h2]
  simp
theorem mkR_ex {w RD SD : D} {c : Str} {fl : List (Str × D)} (hx : ∀ x, f_Study_init x [] [w, RD, SD] = .exc c fl) : mkR w RD SD = .exc c fl := by
  have h2 : aAny (fun x => f_Study_init x [] [w, RD, SD]) = .exc c fl := aAny_eq hx
  unfold mkR
  rw [h2]
  rfl
theorem make_R {fs : Sl → Res (List D)} {ρ : Sl} {w RD SD : D} (h : fs ρ = .ok [w, RD, SD]) : sMake "Study" f_Study_init fs ρ = mkR w RD SD := by
  unfold sMake mkR
  rw [h]
  rfl
end
end M_k12

set_option Elab.async false
set_option linter.all false
set_option maxRecDepth 100000
set_option maxHeartbeats 400000
namespace M_k12
open PySem L2 PF ML S_k12 LC_k12 LM_k12 XL
section
variable {w : Nat} {rs : List Rg} {ss : List Sp} {r : Res D}
theorem semF_retR {n : Nat} {f : Sl → Res D} {ds : List D} {ρ : Sl} {r : Res D} (hρ : ds.map Cell.v ++ List.replicate (n - ds.length) .e = ρ) (h : f ρ = r) (hb : r ≠ .bad) : semF n (gRet f) ds = r := by
  unfold semF gRet
  rw [hρ, h]
  cases r with
  | ok d => rfl
  | exc c fs => rfl
  | bad => exact absurd rfl hb
theorem semF_seqR {n : Nat} {a : Sl → Out} {f : Sl → Res D} {ds : List D} {ρ : Sl} {r : Res D} (hρ : ds.map Cell.v ++ List.replicate (n - ds.length) .e = ρ) (ha : a ρ = .nx ρ) (h : f ρ = r) (hb : r ≠ .bad) : semF n (gSeq a (gRet f)) ds = r := by
  unfold semF gSeq
  rw [hρ, ha]
  simp only [gRet, h]
  cases r with
  | ok d => rfl
  | exc c fs => rfl
  | bad => exact absurd rfl hb
theorem semF_seqE {n : Nat} {a b : Sl → Out} {ds : List D} {ρ ρ' : Sl} {c : Str} {fl : List (Str × D)} (hρ : ds.map Cell.v ++ List.replicate (n - ds.length) .e = ρ) (ha : a ρ = .exc c fl ρ') : semF n (gSeq a b) ds = .exc c fl := by
  unfold semF gSeq
  rw [hρ, ha]
theorem if_exc {t : Sl → Res Bool} {a b : Sl → Out} {ρ ρ' : Sl} {c : Str} {fl : List (Str × D)} (ht : t ρ = .ok true) (ha : a ρ = .exc c fl ρ') : gIf t a b ρ = .exc c fl ρ' := by
  simp only [gIf, ht, rS_ok, if_true, ha]
theorem if_nx {t : Sl → Res Bool} {a : Sl → Out} {ρ : Sl} (ht : t ρ = .ok false) : gIf t a PF.gNil ρ = .nx ρ := by
  simp only [gIf, ht, rS_ok, PF.gNil]
  rfl
theorem rng_t {i n : Int} {f g : Sl → Res D} {ρ : Sl} (hf : f ρ = .ok (.int i)) (hg : g ρ = .ok (.int n)) (h : 0 ≤ i) (h2 : i < n) : (tNot (sTest (sChn oLe oLt (sC (.int 0)) f g))) ρ = .ok false := by
  simp [-cb_iff, -cb_nif, hf, hg, cb_t h, cb_t h2]
theorem rng_f {i n : Int} {f g : Sl → Res D} {ρ : Sl} (hf : f ρ = .ok (.int i)) (hg : g ρ = .ok (.int n)) (h : i < 0 ∨ n ≤ i) : (tNot (sTest (sChn oLe oLt (sC (.int 0)) f g))) ρ = .ok true := by
  by_cases c0 : (0 : Int) ≤ i
  · simp [-cb_iff, -cb_nif, hf, hg, cb_t c0, cb_f (show ¬ i < n by omega)]
  · simp [-cb_iff, -cb_nif, hf, hg, cb_f c0]
theorem len_seen (ρ : Sl) (h : ρ[0]? = some (.v (studyO w rs ss))) : (sUn bLen (sUn (bFld cs_seen "seen") (sRd 0))) ρ = .ok (.int (ss.length : Int)) := by
  simp only [sUn, sRd, h, Res.bind_ok, fld_ss, bLen, List.length_map]
theorem fw (ρ : Sl) (h : ρ[0]? = some (.v (studyO w rs ss))) : (sUn (bFld cs_width "width") (sRd 0)) ρ = .ok (.int (w : Int)) := by
  simp only [sUn, sRd, h, Res.bind_ok, fld_sw]
theorem fr_ (ρ : Sl) (h : ρ[0]? = some (.v (studyO w rs ss))) : (sUn (bFld cs_ranges "ranges") (sRd 0)) ρ = .ok (.tup (rs.map rg)) := by
  simp only [sUn, sRd, h, Res.bind_ok, fld_sr]
theorem fs_ (ρ : Sl) (h : ρ[0]? = some (.v (studyO w rs ss))) : (sUn (bFld cs_seen "seen") (sRd 0)) ρ = .ok (.tup (ss.map sp)) := by
  simp only [sUn, sRd, h, Res.bind_ok, fld_ss]
theorem a3 {f g h : Sl → Res D} {ρ : Sl} {a b c : D} (h1 : f ρ = .ok a) (h2 : g ρ = .ok b) (h3 : h ρ = .ok c) : aCons f (aCons g (aCons h aNil)) ρ = .ok [a, b, c] := by
  simp only [aCons, aNil, h1, h2, h3, Res.bind_ok]
theorem sl_l {f : Sl → Res D} {ρ : Sl} {xs : List D} {k : Nat} {e : Sl → Res D} (h : f ρ = .ok (.tup xs)) (he : e ρ = .ok (.int (k : Int))) (hk : k ≤ xs.length) : sSl f pNone (pSome e) ρ = .ok (.tup (xs.take k)) := by
  simp only [sSl, h, pNone, pSome, he, Res.bind_ok, cut_take xs k hk]
theorem sl_r {f : Sl → Res D} {ρ : Sl} {xs : List D} {k : Nat} {e : Sl → Res D} (h : f ρ = .ok (.tup xs)) (he : e ρ = .ok (.int (k : Int))) (hk : k ≤ xs.length) : sSl f (pSome e) pNone ρ = .ok (.tup (xs.drop k)) := by
  simp only [sSl, h, pNone, pSome, he, Res.bind_ok, cut_drop xs k hk]
theorem op_ok {o : D → D → Res D} {f g : Sl → Res D} {ρ : Sl} {a b c : D} (h1 : f ρ = .ok a) (h2 : g ρ = .ok b) (h3 : o a b = .ok c) : sOp o f g ρ = .ok c := by
  simp only [sOp, h1, h2, Res.bind_ok, h3]
theorem with_seen_R (t p : D) (hm : ss.length ≤ 100) (hr : mkR (.int (w : Int)) (.tup (rs.map rg)) (.tup (ss.map sp ++ [.tup [t, p]])) = r) (hb : r ≠ .bad) : f_Study_with_seen [studyO w rs ss, t, p] = r := by
  unfold f_Study_with_seen g_Study_with_seen
  refine semF_retR (ρ := [.v (studyO w rs ss), .v t, .v p]) rfl ((make_R (a3 (fw _ rfl) (fr_ _ rfl) ?_)).trans hr) hb
  have e4 : (sTup (aCons (sTup (aCons (sVar 1) (aCons (sVar 2) aNil))) aNil)) [.v (studyO w rs ss), .v t, .v p] = .ok (.tup [.tup [t, p]]) := by simp
  exact op_ok (fs_ _ rfl) e4 (add_tup (by simp; omega))
theorem without_bad (i : Int) (h : i < 0 ∨ (ss.length : Int) ≤ i) : f_Study_without_seen [studyO w rs ss, .int i] = .exc "BadNumber" [] :=
  semF_seqE (ρ := [.v (studyO w rs ss), .v (.int i)]) rfl (if_exc (rng_f (f := sRd 1) rfl (len_seen _ rfl) h) rfl)
theorem without_R {k : Nat} (hk : k < ss.length) (hm : ss.length ≤ 100) (hr : mkR (.int (w : Int)) (.tup (rs.map rg)) (.tup ((ss.take k ++ ss.drop (k + 1)).map sp)) = r) (hb : r ≠ .bad) : f_Study_without_seen [studyO w rs ss, .int (k : Int)] = r := by
  unfold f_Study_without_seen g_Study_without_seen
  refine semF_seqR (ρ := [.v (studyO w rs ss), .v (.int (k : Int))]) rfl (if_nx (rng_t (f := sRd 1) rfl (len_seen _ rfl) (by omega) (by omega))) ((make_R (a3 (fw _ rfl) (fr_ _ rfl) ?_)).trans hr) hb
  have e3 : (sOp oAdd (sRd 1) (sC (.int 1))) [.v (studyO w rs ss), .v (.int (k : Int))] = .ok (.int ((k + 1 : Nat) : Int)) := rfl
  rw [List.map_append, List.map_take, List.map_drop]
  exact op_ok (sl_l (fs_ _ rfl) rfl (by simp; omega)) (sl_r (fs_ _ rfl) e3 (by simp; omega)) (add_tup (by simp; omega))
theorem with_range_bad (i : Int) (a b : D) (h : i < 0 ∨ (w : Int) ≤ i) : f_Study_with_range [studyO w rs ss, .int i, a, b] = .exc "BadNumber" [] :=
  semF_seqE (ρ := [.v (studyO w rs ss), .v (.int i), .v a, .v b]) rfl (if_exc (rng_f (f := sRd 1) rfl (fw _ rfl) h) rfl)
theorem with_range_R {k : Nat} (a b : Option Rt) (hl : rs.length = w) (hk : k < w) (hm : w ≤ 100) (hr : mkR (.int (w : Int)) (.tup ((rs.take k ++ [(a, b)] ++ rs.drop (k + 1)).map rg)) (.tup (ss.map sp)) = r) (hb : r ≠ .bad) : f_Study_with_range [studyO w rs ss, .int (k : Int), bo a, bo b] = r := by
  unfold f_Study_with_range g_Study_with_range
  refine semF_seqR (ρ := [.v (studyO w rs ss), .v (.int (k : Int)), .v (bo a), .v (bo b)]) rfl (if_nx (rng_t (f := sRd 1) rfl (fw _ rfl) (by omega) (by omega))) ((make_R (a3 (fw _ rfl) ?_ (fs_ _ rfl))).trans hr) hb
  have e3 : (sOp oAdd (sRd 1) (sC (.int 1))) [.v (studyO w rs ss), .v (.int (k : Int)), .v (bo a), .v (bo b)] = .ok (.int ((k + 1 : Nat) : Int)) := rfl
  rw [List.map_append, List.map_append, List.map_take, List.map_drop]
  have e4 : (sTup (aCons (sTup (aCons (sVar 2) (aCons (sVar 3) aNil))) aNil)) [.v (studyO w rs ss), .v (.int (k : Int)), .v (bo a), .v (bo b)] = .ok (.tup ([(a, b)].map rg)) := by simp [rg]
  exact op_ok (op_ok (sl_l (fr_ _ rfl) rfl (by simp; omega)) e4 (add_tup (by simp; omega))) (sl_r (fr_ _ rfl) e3 (by simp; omega)) (add_tup (by simp; omega))
end
end M_k12

set_option Elab.async false
set_option linter.all false
set_option maxRecDepth 100000
set_option maxHeartbeats 2000000
namespace M_k12
open PySem L2 PF ML S_k12 LC_k12 LM_k12 XL
/-! ### the law's bounds -/
theorem lowest_ok {n d : Int} (hd : 0 < d) (hn : n.natAbs < 2 ^ 150) (hd2 : d.natAbs < 2 ^ 150) : ∃ q : Rt, f_ulaw_lowest [.int n, .int d] = .ok (rt q) ∧ Sz q ∧ 0 < q.2 ∧ ∃ g : Int, 0 < g ∧ n = q.1 * g ∧ d = q.2 * g := by
  have cm := common_ok n (b := d) hd2 (by decide)
  obtain ⟨g, hg⟩ : ∃ g : Nat, g = Nat.gcd n.natAbs d.natAbs := ⟨_, rfl⟩
  rw [← hg] at cm
  have g0 : 0 < g := by rw [hg]; exact Nat.gcd_pos_of_pos_right _ (by omega)
  have gn : (g : Int) ∣ n := Int.ofNat_dvd_left.mpr (by rw [hg]; exact Nat.gcd_dvd_left _ _)
  have gd : (g : Int) ∣ d := Int.ofNat_dvd_left.mpr (by rw [hg]; exact Nat.gcd_dvd_right _ _)
  have gl : g < 2 ^ 150 := by rw [hg]; exact b_gcd hn hd2
  have k : divOk (g : Int) = true := divOk_b (b := 150) (by omega) (by simpa using gl) (by decide)
  have c : cb (d < 0) = false := cb_f (by omega)
  obtain ⟨a, ha⟩ := gn
  obtain ⟨b, hb⟩ := gd
  have e1 : n.fdiv (g : Int) = a := by rw [Int.fdiv_eq_ediv_of_nonneg _ (by omega), ha, Int.mul_ediv_cancel_left _ (by omega)]
  have e2 : d.fdiv (g : Int) = b := by rw [Int.fdiv_eq_ediv_of_nonneg _ (by omega), hb, Int.mul_ediv_cancel_left _ (by omega)]
  have sz : ∀ (a n : Int), n = (g : Int) * a → n.natAbs < 2 ^ 150 → a.natAbs < 2 ^ 150 := fun a n h h2 => by
    rw [h, Int.natAbs_mul, Int.natAbs_natCast] at h2
    exact Nat.lt_of_le_of_lt (Nat.le_mul_of_pos_left _ g0) h2
  have bp : 0 < b := by
    rcases Int.lt_trichotomy b 0 with h | h | h
    · have := Int.mul_neg_of_pos_of_neg (show (0 : Int) < g by omega) h
      omega
    · subst h; simp at hb; omega
    · exact h
  refine ⟨(a, b), ?_, ⟨sz a n ha hn, sz b d hb hd2⟩, bp, g, by omega, by rw [Int.mul_comm]; exact ha, by rw [Int.mul_comm]; exact hb⟩
  simp [-cb_iff, -cb_nif, f_ulaw_lowest, g_ulaw_lowest, cm, c, k, e1, e2, rt]
def Cl (cs : List Int) : Prop := ∀ x ∈ cs, 0 ≤ x ∧ x < 2147483648
/-- a bound of the law's: small enough -/
def Sq (q : Rt) : Prop := q.1.natAbs < 2 ^ 110 ∧ q.2.natAbs < 2 ^ 10 ∧ 0 < q.2
theorem Sq.sz {q : Rt} (h : Sq q) : Sz q := ⟨b_up h.1 (by decide), b_up h.2.1 (by decide)⟩
theorem sq_of {n d : Int} {q : Rt} {g : Int} (h0 : 0 < q.2) (hg : 0 < g) (h1 : n = q.1 * g) (h2 : d = q.2 * g) (hn : n.natAbs < 2 ^ 110) (hd : d.natAbs < 2 ^ 10) : Sq q := by
  have sz : ∀ (a n : Int), n = a * g → a.natAbs ≤ n.natAbs := fun a n h => by
    rw [h, Int.natAbs_mul]
    exact Nat.le_mul_of_pos_right _ (by omega)
  exact ⟨Nat.lt_of_le_of_lt (sz _ _ h1) hn, Nat.lt_of_le_of_lt (sz _ _ h2) hd, h0⟩
theorem bound_ok {a b : Int} (ha : 0 ≤ a ∧ a < 2147483648) (hb : 0 ≤ b ∧ b < 2147483648) : ∃ q : Rt, f_ulaw_bound [.int a, .int b] = .ok (rt q) ∧ Sq q := by
  have m5 : ∀ i, mulOk 5 i = true := fun i => mulOk_l (by decide)
  have d4 : divOk 4 = true := divOk_s (by decide) (by decide)
  have p1 : cb ((0 : Int) ≤ 22 ∧ (22 : Int) ≤ 1000000 ∧ (10 : Int).natAbs < 2 ^ 64) = true := cb_t (by decide)
  have p2 : cb ((0 : Int) ≤ 11 ∧ (11 : Int) ≤ 1000000 ∧ (10 : Int).natAbs < 2 ^ 64) = true := cb_t (by decide)
  have p3 : cb ((0 : Int) ≤ 30 ∧ (30 : Int) ≤ 1000000 ∧ (10 : Int).natAbs < 2 ^ 64) = true := cb_t (by decide)
  have p4 : cb ((0 : Int) ≤ 29 ∧ (29 : Int) ≤ 1000000 ∧ (10 : Int).natAbs < 2 ^ 64) = true := cb_t (by decide)
  have q1 : oPow (.int 10) (.int 22) = .ok (.int (10 ^ 22)) := by unfold oPow; simp only [p1, if_true]; rfl
  have q2 : oPow (.int 10) (.int 11) = .ok (.int (10 ^ 11)) := by unfold oPow; simp only [p2, if_true]; rfl
  have q3 : oPow (.int 10) (.int 30) = .ok (.int (10 ^ 30)) := by unfold oPow; simp only [p3, if_true]; rfl
  have q4 : oPow (.int 10) (.int 29) = .ok (.int (10 ^ 29)) := by unfold oPow; simp only [p4, if_true]; rfl
  have ma : ∀ i, mulOk a i = true := fun i => mulOk_l (by omega)
  have mb : ∀ i, mulOk b i = true := fun i => mulOk_l (by omega)
  by_cases c : b.fmod 4 = 1
  · have h97 := fmod_b b 97 (by decide)
    have h30 := fmod_b (a * 10 ^ 22 + b * 10 ^ 11 + a * b) (10 ^ 30) (by decide)
    generalize hz : (a * 10 ^ 22 + b * 10 ^ 11 + a * b).fmod (10 ^ 30) = z at *
    generalize hy : b.fmod 97 = y at *
    have zl : (z - 5 * 10 ^ 29).natAbs < 2 ^ 110 := Nat.lt_of_lt_of_le (show (z - 5 * 10 ^ 29).natAbs < 10 ^ 31 by omega) (by decide)
    obtain ⟨q, e1, e2, e3, g, e4, e5, e6⟩ := lowest_ok (n := z - 5 * 10 ^ 29) (d := 1 + y) (by omega) (b_up zl (by decide)) (Nat.lt_of_lt_of_le (show (1 + y).natAbs < 98 by omega) (by decide))
    refine ⟨q, ?_, sq_of e3 e4 e5 e6 zl (Nat.lt_of_lt_of_le (show (1 + y).natAbs < 98 by omega) (by decide))⟩
    have o1 : oMod (.int (a * 10 ^ 22 + b * 10 ^ 11 + a * b)) (.int (10 ^ 30)) = .ok (.int z) := by
      rw [← hz]
      simp only [oMod]
      rfl
    have o2 : (5 : Int) * 10 ^ 29 = 5 * 10 ^ 29 := rfl
    have t1 : (sOp oMod (sUn bIntT (sOp oAdd (sOp oAdd (sOp oMul (sRd 0) (sOp oPow (sC (.int 10)) (sC (.int 22)))) (sOp oMul (sRd 1) (sOp oPow (sC (.int 10)) (sC (.int 11))))) (sOp oMul (sRd 0) (sRd 1)))) (sOp oPow (sC (.int 10)) (sC (.int 30)))) [.v (.int a), .v (.int b)] = .ok (.int z) := by
      simp only [sOp, sUn, sRd, sC, List.getElem?_cons_zero, List.getElem?_cons_succ, Res.bind_ok, q1, q2, q3, oMul, ma, mb, if_true, oAdd, bIntT, o1]
    have t2 : (sOp oMul (sC (.int 5)) (sOp oPow (sC (.int 10)) (sC (.int 29)))) [.v (.int a), .v (.int b)] = .ok (.int (5 * 10 ^ 29)) := by
      simp only [sOp, sC, Res.bind_ok, q4, oMul, m5, if_true]
    have t3 : (sTest (sOp oEq (sOp oMod (sUn bIntT (sRd 1)) (sC (.int 4))) (sC (.int 1)))) [.v (.int a), .v (.int b)] = .ok true := by simp [c]
    have t4 : (sOp oAdd (sC (.int 1)) (sOp oMod (sUn bIntT (sRd 1)) (sC (.int 97)))) [.v (.int a), .v (.int b)] = .ok (.int (1 + y)) := by simp [hy]
    have t5 : (sOp oSub (sOp oMod (sUn bIntT (sOp oAdd (sOp oAdd (sOp oMul (sRd 0) (sOp oPow (sC (.int 10)) (sC (.int 22)))) (sOp oMul (sRd 1) (sOp oPow (sC (.int 10)) (sC (.int 11))))) (sOp oMul (sRd 0) (sRd 1)))) (sOp oPow (sC (.int 10)) (sC (.int 30)))) (sOp oMul (sC (.int 5)) (sOp oPow (sC (.int 10)) (sC (.int 29))))) [.v (.int a), .v (.int b)] = .ok (.int (z - 5 * 10 ^ 29)) := op_ok t1 t2 rfl
    refine semF_ret ?_
    show (gSeq (gIf _ _ PF.gNil) _) [.v (.int a), .v (.int b)] = _
    simp only [gSeq, gIf, t3, rS_ok, if_true, gRet, sCall, aCons, aNil, t5, t4, Res.bind_ok, e1]
    rfl
  · have h41 := fmod_b a 41 (by decide)
    have h6 := fmod_b (b.fdiv 4) 6 (by decide)
    generalize hz : a.fmod 41 = z at *
    generalize hy : (b.fdiv 4).fmod 6 = y at *
    have zl : (z - 20).natAbs < 2 ^ 110 := Nat.lt_of_lt_of_le (show (z - 20).natAbs < 2 ^ 6 by omega) (by decide)
    obtain ⟨q, e1, e2, e3, g, e4, e5, e6⟩ := lowest_ok (n := z - 20) (d := 1 + y) (by omega) (b_up zl (by decide)) (Nat.lt_of_lt_of_le (show (1 + y).natAbs < 98 by omega) (by decide))
    refine ⟨q, ?_, sq_of e3 e4 e5 e6 zl (Nat.lt_of_lt_of_le (show (1 + y).natAbs < 98 by omega) (by decide))⟩
    have t3 : (sTest (sOp oEq (sOp oMod (sUn bIntT (sRd 1)) (sC (.int 4))) (sC (.int 1)))) [.v (.int a), .v (.int b)] = .ok false := by simp [c]
    have t4 : (sOp oAdd (sC (.int 1)) (sOp oMod (sOp oFdiv (sUn bIntT (sRd 1)) (sC (.int 4))) (sC (.int 6)))) [.v (.int a), .v (.int b)] = .ok (.int (1 + y)) := by simp [d4, hy]
    have t5 : (sOp oSub (sOp oMod (sUn bIntT (sRd 0)) (sC (.int 41))) (sC (.int 20))) [.v (.int a), .v (.int b)] = .ok (.int (z - 20)) := by simp [hz]
    refine semF_ret ((seq_nx (if_nx t3)).trans ?_)
    simp only [gRet, sCall, aCons, aNil, t5, t4, Res.bind_ok, e1]
    rfl
/-! ### ranges -/
def RgL (r : Rg) : Prop := (∀ q, r.1 = some q → Sq q) ∧ ∀ q, r.2 = some q → Sq q
theorem RgL.b {r : Rg} (h : RgL r) : RgB r := ⟨fun q e => (h.1 q e).sz, fun q e => (h.2 q e).sz⟩
theorem ixc (cs : List Int) (k : Nat) (h : k < cs.length) : oIx (.lst (cs.map D.int)) (.int (k : Int)) = .ok (.int cs[k]) := ix_seqI (seqI_l cs) rfl h
theorem range_ok (cs : List Int) (hc : Cl cs) (hl : 5 ≤ cs.length) : ∃ r : Rg, f_ulaw_range [.lst (cs.map D.int)] = .ok (rg r) ∧ RgL r ∧ xs r = false := by
  have i0 := ixc cs 0 (by omega)
  have i1 := ixc cs 1 (by omega)
  have i2 := ixc cs 2 (by omega)
  have i3 := ixc cs 3 (by omega)
  have i4 := ixc cs 4 (by omega)
  obtain ⟨a, ea, ha⟩ := bound_ok (hc _ (List.getElem_mem (show 1 < cs.length by omega))) (hc _ (List.getElem_mem (show 2 < cs.length by omega)))
  obtain ⟨b, eb, hb⟩ := bound_ok (hc _ (List.getElem_mem (show 3 < cs.length by omega))) (hc _ (List.getElem_mem (show 4 < cs.length by omega)))
  have h5 := fmod_b cs[0] 5 (by decide)
  generalize cs[0] = z0 at *
  generalize cs[1] = z1 at *
  generalize cs[2] = z2 at *
  generalize cs[3] = z3 at *
  generalize cs[4] = z4 at *
  generalize hC : D.lst (cs.map D.int) = C at *
  have i0 : oIx C (.int 0) = .ok (.int z0) := i0
  have i1 : oIx C (.int 1) = .ok (.int z1) := i1
  have i2 : oIx C (.int 2) = .ok (.int z2) := i2
  have i3 : oIx C (.int 3) = .ok (.int z3) := i3
  have i4 : oIx C (.int 4) = .ok (.int z4) := i4
  have rest : ∀ a b : Rt, Sq a → Sq b → ¬ 0 < gapR a b → ∃ r : Rg, (gRet (sOp oIx (sLst (fLst (aCons (sTup (aCons (sC .non) (aCons (sC .non) aNil))) (aCons (sTup (aCons (sVar 1) (aCons (sC .non) aNil))) (aCons (sTup (aCons (sC .non) (aCons (sVar 2) aNil))) (aCons (sTup (aCons (sVar 1) (aCons (sVar 1) aNil))) (aCons (sTup (aCons (sVar 1) (aCons (sVar 2) aNil))) aNil))))))) (sOp oMod (sUn bIntT (sOp oIx (sRd 0) (sC (.int 0)))) (sC (.int 5))))) [.v C, .v (rt a), .v (rt b)] = .ret (rg r) ∧ RgL r ∧ xs r = false := fun a b ha hb hg => by
    obtain ⟨z, ⟨r, rfl, h1, h2⟩, h3⟩ := pickD (P := fun z => ∃ r : Rg, z = rg r ∧ RgL r ∧ xs r = false) [rg (none, none), rg (some a, none), rg (none, some b), rg (some a, some a), rg (some a, some b)] (z0.fmod 5) h5.1 h5.2 (fun x hx => by
      simp only [List.mem_cons, List.not_mem_nil, or_false] at hx
      rcases hx with h | h | h | h | h <;> subst h
      · exact ⟨_, rfl, ⟨fun q e => (by cases e), fun q e => (by cases e)⟩, rfl⟩
      · exact ⟨_, rfl, ⟨fun q e => (by cases e; exact ha), fun q e => (by cases e)⟩, rfl⟩
      · exact ⟨_, rfl, ⟨fun q e => (by cases e), fun q e => (by cases e; exact hb)⟩, rfl⟩
      · exact ⟨_, rfl, ⟨fun q e => (by cases e; exact ha), fun q e => (by cases e; exact ha)⟩, cb_f (by unfold gapR; omega)⟩
      · exact ⟨_, rfl, ⟨fun q e => (by cases e; exact ha), fun q e => (by cases e; exact hb)⟩, cb_f hg⟩)
    refine ⟨r, ?_, h1, h2⟩
    have t1 : (sLst (fLst (aCons (sTup (aCons (sC .non) (aCons (sC .non) aNil))) (aCons (sTup (aCons (sVar 1) (aCons (sC .non) aNil))) (aCons (sTup (aCons (sC .non) (aCons (sVar 2) aNil))) (aCons (sTup (aCons (sVar 1) (aCons (sVar 1) aNil))) (aCons (sTup (aCons (sVar 1) (aCons (sVar 2) aNil))) aNil))))))) [.v C, .v (rt a), .v (rt b)] = .ok (.lst [rg (none, none), rg (some a, none), rg (none, some b), rg (some a, some a), rg (some a, some b)]) := by simp [rg, bo]
    have t2 : (sOp oMod (sUn bIntT (sOp oIx (sRd 0) (sC (.int 0)))) (sC (.int 5))) [.v C, .v (rt a), .v (rt b)] = .ok (.int (z0.fmod 5)) := by simp [-oIx, i0]
    simp only [gRet, op_ok t1 t2 h3, rS_ok]
  have s1 : mulOk a.1 b.2 = true := mulOk_b ha.1 hb.2.1 (by decide)
  have s2 : mulOk b.1 a.2 = true := mulOk_b hb.1 ha.2.1 (by decide)
  have g1 : (gPar 1 2 (sCall f_ulaw_bound (aCons (sUn bIntT (sOp oIx (sRd 0) (sC (.int 1)))) (aCons (sUn bIntT (sOp oIx (sRd 0) (sC (.int 2)))) aNil))) (sCall f_ulaw_bound (aCons (sUn bIntT (sOp oIx (sRd 0) (sC (.int 3)))) (aCons (sUn bIntT (sOp oIx (sRd 0) (sC (.int 4)))) aNil)))) [.v C, .e, .e] = .nx [.v C, .v (rt a), .v (rt b)] := by
    simp [-oIx, i1, i2, i3, i4, ea, eb, rt]
  have t0 : (sTest (sOp oGt (sOp oMul (sOp oIx (sRd 1) (sC (.int 0))) (sOp oIx (sRd 2) (sC (.int 1)))) (sOp oMul (sOp oIx (sRd 2) (sC (.int 0))) (sOp oIx (sRd 1) (sC (.int 1)))))) [.v C, .v (rt a), .v (rt b)] = .ok (cb (b.1 * a.2 < a.1 * b.2)) := by
    simp [-cb_iff, -cb_nif, rt, s1, s2]
  by_cases hg : b.1 * a.2 < a.1 * b.2
  · obtain ⟨r, h1, h2⟩ := rest b a hb ha (by unfold gapR; omega)
    refine ⟨r, semF_ret ?_, h2⟩
    refine (seq_nx g1).trans ((seq_nx (ρ' := [.v C, .v (rt b), .v (rt a)]) ?_).trans h1)
    simp only [gIf, t0, rS_ok, cb_t hg, if_true]
    rfl
  · obtain ⟨r, h1, h2⟩ := rest a b ha hb (by unfold gapR; omega)
    refine ⟨r, semF_ret ?_, h2⟩
    refine (seq_nx g1).trans ((seq_nx (ρ' := [.v C, .v (rt a), .v (rt b)]) ?_).trans h1)
    simp only [gIf, t0, rS_ok, cb_f hg]
    rfl
theorem crossed_ok (cs : List Int) (hc : Cl cs) (hl : 3 ≤ cs.length) : ∃ r : Rg, f_ulaw_crossed [.lst (cs.map D.int)] = .ok (rg r) ∧ RgB r ∧ xs r = true := by
  have i1 := ixc cs 1 (by omega)
  have i2 := ixc cs 2 (by omega)
  obtain ⟨a, ea, ha⟩ := bound_ok (hc _ (List.getElem_mem (show 1 < cs.length by omega))) (hc _ (List.getElem_mem (show 2 < cs.length by omega)))
  generalize cs[1] = z1 at *
  generalize cs[2] = z2 at *
  generalize hC : D.lst (cs.map D.int) = C at *
  have i1 : oIx C (.int 1) = .ok (.int z1) := i1
  have i2 : oIx C (.int 2) = .ok (.int z2) := i2
  have n1 : (7 * a.1 + 1).natAbs < 2 ^ 150 := Nat.lt_of_lt_of_le (show (7 * a.1 + 1).natAbs < 2 ^ 114 by have := ha.1; omega) (by decide)
  have n2 : (7 * a.2).natAbs < 2 ^ 150 := Nat.lt_of_lt_of_le (show (7 * a.2).natAbs < 2 ^ 14 by have := ha.2.1; omega) (by decide)
  have a2 := ha.2.2
  obtain ⟨q, e1, e2, e3, g, e4, e5, e6⟩ := lowest_ok (n := 7 * a.1 + 1) (d := 7 * a.2) (by omega) n1 n2
  have m7 : ∀ i, mulOk 7 i = true := fun i => mulOk_l (by decide)
  refine ⟨(some q, some a), semF_ret ?_, ⟨fun y e => (by cases e; exact e2), fun y e => (by cases e; exact ha.sz)⟩, ?_⟩
  · refine (seq_nx (ρ' := [.v C, .v (rt a)]) ?_).trans ?_
    · simp [-oIx, i1, i2, ea, rt]
    · have t1 : (sCall f_ulaw_lowest (aCons (sOp oAdd (sOp oMul (sC (.int 7)) (sOp oIx (sRd 1) (sC (.int 0)))) (sC (.int 1))) (aCons (sOp oMul (sC (.int 7)) (sOp oIx (sRd 1) (sC (.int 1)))) aNil))) [.v C, .v (rt a)] = .ok (rt q) := by
        simp [rt, m7, e1]
      simp only [gRet, sTup, aCons, aNil, t1, Res.bind_ok, sVar, List.getElem?_cons_zero, List.getElem?_cons_succ]
      simp [rg, bo]
  · refine cb_t ?_
    show 0 < q.1 * a.2 - a.1 * q.2
    have k : g * (q.1 * a.2 - a.1 * q.2) = a.2 := by
      have h1 : g * (q.1 * a.2 - a.1 * q.2) = (q.1 * g) * a.2 - a.1 * (q.2 * g) := by
        rw [Int.mul_sub, ← Int.mul_assoc, Int.mul_comm g q.1, Int.mul_comm g (a.1 * q.2), Int.mul_assoc a.1]
      rw [h1, ← e5, ← e6, Int.add_mul, Int.one_mul, Int.mul_assoc 7, Int.mul_left_comm a.1 7]
      omega
    rcases Int.lt_trichotomy (q.1 * a.2 - a.1 * q.2) 0 with h | h | h
    · have := Int.mul_neg_of_pos_of_neg e4 h
      omega
    · rw [h] at k; simp at k; omega
    · exact h
end M_k12

set_option Elab.async false
set_option linter.all false
set_option maxRecDepth 100000
set_option maxHeartbeats 2000000
namespace M_k12
open PySem L2 PF ML S_k12 LC_k12 LM_k12 XL
/-! ### seen plans as the law has them -/
abbrev Sn := Rw × Nat
def sn (s : Sn) : D := .tup [rowsL s.1, .int (s.2 : Int)]
structure SnV (w : Nat) (s : Sn) : Prop where
  m : Mn w s.1
  p : s.2 < s.1.length
def toSp (w : Nat) (s : Sn) : Sp := ⟨w, s.1, .int (s.2 : Int), true⟩
theorem SnV.v {w : Nat} {s : Sn} (h : SnV w s) : SpV (toSp w s) := plan_in h.p
theorem SnV.ok {w : Nat} {s : Sn} : badS w (toSp w s) = false := by simp [badS, toSp]
theorem rng_r (n : Nat) : rngD 0 n = (List.range' 0 n).map (fun (j : Nat) => D.int (j : Int)) := by simp [rngD, List.range_eq_range']
def nth (r : List Int) (k : Nat) : Int := r.getD k 0
theorem nth_eq {r : List Int} {k : Nat} (h : k < r.length) : nth r k = r[k] := by
  unfold nth
  rw [List.getD_eq_getElem?_getD, List.getElem?_eq_getElem h]
  rfl
section
variable {w : Nat}
theorem us_run (cs : List Int) (hl : 34 ≤ cs.length) (hw : w ≤ 8) : ∀ (m j : Nat) (rs : Rw) (kj : Cell), j + m ≤ 4 → rs.length = j → (∀ r ∈ rs, r.length = w) →
    ∃ (rs' : Rw) (kj' : Cell), rs'.length = j + m ∧ (∀ r ∈ rs', r.length = w) ∧ forRun (PF.gName 3) b2_ulaw_usages ((List.range' j m).map fun (i : Nat) => D.int (i : Int)) [.v (.lst (cs.map D.int)), .v (.int (w : Int)), .o (rs.map vec), kj, .e] = .nx [.v (.lst (cs.map D.int)), .v (.int (w : Int)), .o (rs'.map vec), kj', .e]
  | 0, j, rs, kj, h, hr, hB => ⟨rs, kj, by omega, hB, by simp [forRun]⟩
  | m + 1, j, rs, kj, h, hr, hB => by
    have hwj : w * j ≤ 24 := Nat.mul_le_mul hw (show j ≤ 3 by omega)
    obtain ⟨v, hv⟩ : ∃ v : List Int, v = (List.range w).map (fun k => (nth cs (2 + w * j + k)).fmod 10 - 2) := ⟨_, rfl⟩
    have e := lc_map (g := PF.gName 4) (f := b1_ulaw_usages) (ρ := [.v (.lst (cs.map D.int)), .v (.int (w : Int)), .o (rs.map vec), .v (.int (j : Int)), .e]) (fun k : Nat => D.int (0 + (k : Int))) (fun k => D.int ((nth cs (2 + w * j + k)).fmod 10 - 2)) (List.range w) (fun k hk => by
      have hk : k < w := by simpa using hk
      have i1 := ixc cs (2 + w * j + k) (by omega)
      rw [← nth_eq (by omega)] at i1
      have i2 : (((2 + w * j + k : Nat) : Int)) = 2 + (w : Int) * (j : Int) + (0 + (k : Int)) := by simp
      rw [i2] at i1
      have m1 : mulOk (w : Int) (j : Int) = true := mulOk_l (by omega)
      refine ⟨_, rfl, ?_⟩
      generalize cs.map D.int = C at *
      simp [-oIx] at i1
      simp [-oIx, b1_ulaw_usages, m1, i1]) (by simp; omega)
    have er : rngD 0 w = (List.range w).map fun k : Nat => D.int (0 + (k : Int)) := rfl
    have e2 : ((List.range w).map fun k => D.int ((nth cs (2 + w * j + k)).fmod 10 - 2)) = v.map D.int := by rw [hv, List.map_map]; rfl
    rw [← er, e2] at e
    have hg := rng1_ok (n := w) (by omega)
    obtain ⟨rs', kj', h1, h2, h3⟩ := us_run cs hl hw m (j + 1) (rs ++ [v]) (.v (.int (j : Int))) (by omega) (by simp [hr]) (fun r hx => (List.mem_append.mp hx).elim (hB r) fun q => by rw [List.mem_singleton.mp q, hv]; simp)
    refine ⟨rs', kj', by omega, h2, ?_⟩
    have step : b2_ulaw_usages [.v (.lst (cs.map D.int)), .v (.int (w : Int)), .o (rs.map vec), .v (.int (j : Int)), .e] = .nx [.v (.lst (cs.map D.int)), .v (.int (w : Int)), .o ((rs ++ [v]).map vec), .v (.int (j : Int)), .e] := by
      have hl : rs.length < 16777216 := by omega
      generalize cs.map D.int = C at *
      simp [-gRng1, b2_ulaw_usages, hg, e, hl, vec]
    rw [List.range'_succ, List.map_cons]
    simp only [forRun, PF.gName, List.set_cons_succ, List.set_cons_zero, step]
    exact h3
theorem usages_ok (cs : List Int) (hl : 34 ≤ cs.length) (h1 : 1 ≤ w) (hw : w ≤ 8) : ∃ s : Sn, f_ulaw_usages [.lst (cs.map D.int), .int (w : Int)] = .ok (sn s) ∧ SnV w s := by
  have i0 := ixc cs 0 (by omega)
  have i1 := ixc cs 1 (by omega)
  have h4 := fmod_b cs[0] 4 (by decide)
  obtain ⟨n, hn⟩ : ∃ n : Nat, (cs[0]).fmod 4 = (n : Int) := ⟨_, (Int.toNat_of_nonneg h4.1).symm⟩
  obtain ⟨rs, kj, r1, r2, r3⟩ := us_run (w := w) cs hl hw (1 + n) 0 [] .e (by omega) rfl (fun _ h => by simp at h)
  rw [← rng_r] at r3
  have hb := fmod_b cs[1] rs.length (by omega)
  obtain ⟨p, hp⟩ : ∃ p : Nat, (cs[1]).fmod rs.length = (p : Int) := ⟨_, (Int.toNat_of_nonneg hb.1).symm⟩
  refine ⟨(rs, p), ?_, ⟨⟨h1, hw, (by show 1 ≤ rs.length; omega), (by show rs.length ≤ 24; omega), r2⟩, (by show p < rs.length; omega)⟩⟩
  have hg := rng1_ok (n := 1 + n) (by omega)
  have hg2 : gRng1 [.int (1 + (n : Int))] = .ok (rngD 0 (1 + n)) := by rw [← hg]; simp
  have hz : ¬ ((rs.length : Int) = 0) := by omega
  have hz2 : rs ≠ [] := fun z => by subst z; simp at r1; omega
  generalize cs[0] = z0 at *
  generalize cs[1] = z1 at *
  have i0 : oIx (.lst (cs.map D.int)) (.int 0) = .ok (.int z0) := i0
  have i1 : oIx (.lst (cs.map D.int)) (.int 1) = .ok (.int z1) := i1
  generalize cs.map D.int = C at *
  simp only [List.map_nil] at r3
  refine semF_ret ?_
  refine (seq_nx (ρ' := [.v (.lst C), .v (.int (w : Int)), .o [], .e, .e]) rfl).trans ((seq_nx (ρ' := [.v (.lst C), .v (.int (w : Int)), .o (rs.map vec), kj, .e]) ?_).trans ?_)
  · simp [-gRng1, -oIx, i0, hn, hg2, r3]
  · simp [-oIx, i1, hp, hz2, sn, rowsL]
theorem pairs_ok (h8 : w ≤ 8) (ss : List Sn) (hs : ∀ s ∈ ss, SnV w s) (hl : ss.length ≤ 1000) : f_ulaw_pairs [.lst (ss.map sn), .int (w : Int)] = .ok (.fr ((ss.map (toSp w)).map sp)) := by
  have e := lc_map (g := gTup 2 (gsCons (PF.gName 2) (gsCons (PF.gName 3) gsNil))) (f := b1_ulaw_pairs) (ρ := [.v (.lst (ss.map sn)), .v (.int (w : Int)), .e, .e]) sn (fun s => sp (toSp w s)) ss (fun s hx => by
    refine ⟨[.v (.lst (ss.map sn)), .v (.int (w : Int)), .v (rowsL s.1), .v (.int (s.2 : Int))], rfl, ?_⟩
    have mk := make_ok (fs := aCons (sVar 1) (aCons (sLst (fUn bLst (sRd 2))) aNil)) (ρ := [.v (.lst (ss.map sn)), .v (.int (w : Int)), .v (rowsL s.1), .v (.int (s.2 : Int))]) (hs s hx).m (by
      simp only [aCons, aNil, sVar, sLst, fUn, sRd, List.getElem?_cons_zero, List.getElem?_cons_succ, Res.bind_ok, lstL]
      rfl)
    unfold b1_ulaw_pairs
    simp only [sTup, aCons, aNil, mk, Res.bind_ok, sVar, List.getElem?_cons_zero, List.getElem?_cons_succ] at mk ⊢
    simp [mk, sp, toSp]) (by omega)
  have e2 : (ss.map fun s => sp (toSp w s)) = (ss.map (toSp w)).map sp := by simp
  rw [e2] at e
  generalize ss.map sn = A at *
  generalize (ss.map (toSp w)).map sp = B at *
  refine semF_ret ?_
  simp [g_ulaw_pairs, e]
/-! ### _law_is_study -/
theorem eqv_self2 (a b : Int) : eqv (.tup [.int a, .int b]) (.tup [.int a, .int b]) = true := by simp [eqv, D.py, D.pyA, PyData.eqv, PyData.eqvAll]
theorem bound_is (b : Option Rt) : f_ulaw_is_bound [bo b, bo b] = .ok (.bl true) := by
  cases b with
  | none => simp [f_ulaw_is_bound, g_ulaw_is_bound, bo]
  | some q =>
    have h1 : f_ulaw_is_tuple [.tup [.int q.1, .int q.2], .int 2] = .ok (.bl true) := tuple_ok [q.1, q.2] (by simp)
    have h2 : eqOk (.tup [.int q.1, .int q.2]) = true := eqOk_ints [q.1, q.2]
    have h3 := eqv_self2 q.1 q.2
    simp [f_ulaw_is_bound, g_ulaw_is_bound, bo, rt, h1, h2, h3]
theorem isst_1 {rs : List Rg} {ss : List Sp} {SD : D} (hl : rs.length = w) (w8 : w ≤ 8) (k4 k5 : Cell) : ∃ k4' k5', (gFor (iRg1 (aCons (sVar 3) aNil)) (PF.gName 4) b1_ulaw_is_study) [.v (studyO w rs ss), .v (.lst (rs.map rg)), .v SD, .v (.int (w : Int)), k4, k5] = .nx [.v (studyO w rs ss), .v (.lst (rs.map rg)), .v SD, .v (.int (w : Int)), k4', k5'] := by
  have hg := rng1_ok (n := w) (by omega)
  obtain ⟨ρ', h1, k4', k5', rfl⟩ := for_all (g := PF.gName 4) (body := b1_ulaw_is_study) (fun k : Nat => D.int (0 + (k : Int))) (fun ρ => ∃ k4 k5, ρ = [.v (studyO w rs ss), .v (.lst (rs.map rg)), .v SD, .v (.int (w : Int)), k4, k5]) (List.range w) [.v (studyO w rs ss), .v (.lst (rs.map rg)), .v SD, .v (.int (w : Int)), k4, k5] ⟨_, _, rfl⟩ (fun k hk ρ ⟨a, b, e⟩ => by
    subst e
    have hk : k < rs.length := by rw [hl]; simpa using hk
    refine ⟨[.v (studyO w rs ss), .v (.lst (rs.map rg)), .v SD, .v (.int (w : Int)), .v (.int (0 + (k : Int))), b], [.v (studyO w rs ss), .v (.lst (rs.map rg)), .v SD, .v (.int (w : Int)), .v (.int (0 + (k : Int))), .v (rg rs[k])], rfl, ?_, _, _, rfl⟩
    have i1 : oIx (.tup (rs.map rg)) (.int (k : Int)) = .ok (rg rs[k]) := by rw [ixTup (by simpa using hk)]; simp
    have i2 : oIx (.lst (rs.map rg)) (.int (k : Int)) = .ok (rg rs[k]) := by rw [ixLst (by simpa using hk)]; simp
    have b1 := bound_is rs[k].1
    have b2 := bound_is rs[k].2
    have j0 : oIx (rg rs[k]) (.int 0) = .ok (bo rs[k].1) := rfl
    have j1 : oIx (rg rs[k]) (.int 1) = .ok (bo rs[k].2) := rfl
    have l2 : bLen (rg rs[k]) = .ok (.int 2) := rfl
    have ty : dTy (rg rs[k]) = some "tuple" := rfl
    generalize rg rs[k] = G at *
    generalize rs[k].1 = B1 at *
    generalize rs[k].2 = B2 at *
    unfold b1_ulaw_is_study
    refine (seq_nx (ρ' := [.v (studyO w rs ss), .v (.lst (rs.map rg)), .v SD, .v (.int (w : Int)), .v (.int (0 + (k : Int))), .v G]) ?_).trans ?_
    · simp only [gSet, op_ok (f := sUn (bFld cs_ranges "ranges") (sRd 0)) (g := sRd 4) (fr_ _ rfl) (show (sRd 4) [.v (studyO w rs ss), .v (.lst (rs.map rg)), .v SD, .v (.int (w : Int)), .v (.int (0 + (k : Int))), b] = .ok (.int (k : Int)) from by simp) i1, rS_ok]
      rfl
    · generalize rs.map rg = R at *
      simp [-oIx, -bLen, -bFld, -dTy, -thaw, ty, l2, j0, j1, i2, b1, b2])
  refine ⟨k4', k5', ?_⟩
  have er : rngD 0 w = (List.range w).map fun k : Nat => D.int (0 + (k : Int)) := rfl
  rw [← er] at h1
  simp only [gFor, iRg1, aCons, aNil, sVar, List.getElem?_cons_zero, List.getElem?_cons_succ, Res.bind_ok, hg, rS_ok]
  exact h1
theorem isst_2 {rs : List Rg} {ss : List Sn} {RD : D} (hv : ∀ s ∈ ss, SnV w s) (hl : ss.length ≤ 1000) (k3 k4 k5 : Cell) : ∃ k4' k5', (gFor (iRg1 (aCons (sUn bLen (sRd 2)) aNil)) (PF.gName 4) b2_ulaw_is_study) [.v (studyO w rs (ss.map (toSp w))), .v RD, .v (.lst (ss.map sn)), k3, k4, k5] = .nx [.v (studyO w rs (ss.map (toSp w))), .v RD, .v (.lst (ss.map sn)), k3, k4', k5'] := by
  have hg := rng1_ok (n := ss.length) (by omega)
  obtain ⟨ρ', h1, k4', k5', rfl⟩ := for_all (g := PF.gName 4) (body := b2_ulaw_is_study) (fun k : Nat => D.int (0 + (k : Int))) (fun ρ => ∃ k4 k5, ρ = [.v (studyO w rs (ss.map (toSp w))), .v RD, .v (.lst (ss.map sn)), k3, k4, k5]) (List.range ss.length) [.v (studyO w rs (ss.map (toSp w))), .v RD, .v (.lst (ss.map sn)), k3, k4, k5] ⟨_, _, rfl⟩ (fun k hk ρ ⟨a, b, e⟩ => by
    subst e
    have hk : k < ss.length := by simpa using hk
    have sv := hv _ (List.getElem_mem hk)
    refine ⟨[.v (studyO w rs (ss.map (toSp w))), .v RD, .v (.lst (ss.map sn)), k3, .v (.int (0 + (k : Int))), b], [.v (studyO w rs (ss.map (toSp w))), .v RD, .v (.lst (ss.map sn)), k3, .v (.int (0 + (k : Int))), .v (sp (toSp w ss[k]))], rfl, ?_, _, _, rfl⟩
    have i1 : oIx (.tup ((ss.map (toSp w)).map sp)) (.int (k : Int)) = .ok (sp (toSp w ss[k])) := by rw [ixTup (by simpa using hk)]; simp
    have i2 : oIx (.lst (ss.map sn)) (.int (k : Int)) = .ok (sn ss[k]) := by rw [ixLst (by simpa using hk)]; simp
    have j0 : oIx (sp (toSp w ss[k])) (.int 0) = .ok (menuO w ss[k].1) := rfl
    have j1 : oIx (sp (toSp w ss[k])) (.int 1) = .ok (.int (ss[k].2 : Int)) := rfl
    have n0 : oIx (sn ss[k]) (.int 0) = .ok (rowsL ss[k].1) := rfl
    have n1 : oIx (sn ss[k]) (.int 1) = .ok (.int (ss[k].2 : Int)) := rfl
    have l2 : bLen (sp (toSp w ss[k])) = .ok (.int 2) := rfl
    have ty : dTy (sp (toSp w ss[k])) = some "tuple" := rfl
    have q1 := eqOk_rows ss[k].1
    have q2 := eqv_rows ss[k].1 ss[k].1
    have q3 := whole_ok (ss[k].2 : Int)
    unfold b2_ulaw_is_study
    refine (seq_nx (ρ' := [.v (studyO w rs (ss.map (toSp w))), .v RD, .v (.lst (ss.map sn)), k3, .v (.int (0 + (k : Int))), .v (sp (toSp w ss[k]))]) ?_).trans ?_
    · simp only [gSet, op_ok (f := sUn (bFld cs_seen "seen") (sRd 0)) (g := sRd 4) (fs_ _ rfl) (show (sRd 4) [.v (studyO w rs (ss.map (toSp w))), .v RD, .v (.lst (ss.map sn)), k3, .v (.int (0 + (k : Int))), b] = .ok (.int (k : Int)) from by simp) i1, rS_ok]
      rfl
    · generalize sp (toSp w ss[k]) = G at *
      generalize sn ss[k] = N at *
      generalize ss.map sn = R at *
      generalize ss[k].1 = rows at *
      generalize ss[k].2 = p at *
      simp [-oIx, -bLen, -bFld, -bIsC, -dTy, -thaw, -bTup, tupL, ty, l2, j0, j1, n0, n1, i2, q1, q2, q3])
  refine ⟨k4', k5', ?_⟩
  have er : rngD 0 ss.length = (List.range ss.length).map fun k : Nat => D.int (0 + (k : Int)) := rfl
  rw [← er] at h1
  have e0 : (sUn bLen (sRd 2)) [.v (studyO w rs (ss.map (toSp w))), .v RD, .v (.lst (ss.map sn)), k3, k4, k5] = .ok (.int (ss.length : Int)) := by simp
  simp only [gFor, iRg1, aCons, aNil, e0, Res.bind_ok, hg, rS_ok]
  exact h1
theorem is_study_ok {rs : List Rg} {ss : List Sn} (hl : rs.length = w) (w8 : w ≤ 8) (hv : ∀ s ∈ ss, SnV w s) (hm : ss.length ≤ 1000) : f_ulaw_is_study [studyO w rs (ss.map (toSp w)), .lst (rs.map rg), .lst (ss.map sn)] = .ok (.bl true) := by
  obtain ⟨k4, k5, l1⟩ := isst_1 (ss := ss.map (toSp w)) (SD := .lst (ss.map sn)) hl w8 .e .e
  obtain ⟨k4', k5', l2⟩ := isst_2 (rs := rs) (RD := .lst (rs.map rg)) hv hm (.v (.int (w : Int))) k4 k5
  have hw := whole_ok (w : Int)
  refine semF_ret ((seq_nx (ρ' := [.v (studyO w rs (ss.map (toSp w))), .v (.lst (rs.map rg)), .v (.lst (ss.map sn)), .v (.int (w : Int)), .e, .e]) ?_).trans ((seq_nx (ρ' := [.v (studyO w rs (ss.map (toSp w))), .v (.lst (rs.map rg)), .v (.lst (ss.map sn)), .v (.int (w : Int)), .e, .e]) ?_).trans ((seq_nx (ρ' := [.v (studyO w rs (ss.map (toSp w))), .v (.lst (rs.map rg)), .v (.lst (ss.map sn)), .v (.int (w : Int)), .e, .e]) ?_).trans ((seq_nx l1).trans ((seq_nx (ρ' := [.v (studyO w rs (ss.map (toSp w))), .v (.lst (rs.map rg)), .v (.lst (ss.map sn)), .v (.int (w : Int)), k4, k5]) ?_).trans ((seq_nx l2).trans rfl))))))
  · simp [hl]
  · simp [-bFld, -bIsC, -thaw, hw]
  · simp [-bFld, hl]
  · simp [-bFld]
end
end M_k12

set_option Elab.async false
set_option linter.all false
set_option maxRecDepth 100000
set_option maxHeartbeats 2000000
namespace M_k12
open PySem L2 PF ML S_k12 LC_k12 LM_k12 XL
@[simp high] theorem tq1 : t_BadRge_TooMny_BadSen "BadNumber" = some false := rfl
@[simp high] theorem tq2 : t_BadRge_TooMny_BadSen "BadRange" = some true := rfl
@[simp high] theorem tq3 : t_BadRge_TooMny_BadSen "BadSeen" = some true := rfl
@[simp high] theorem tq4 : t_BadRge_TooMny_BadSen "TooMany" = some true := rfl
@[simp high] theorem tq5 : t_BadNumber "BadNumber" = some true := rfl
@[simp high] theorem tq6 : t_BadNumber "BadRange" = some false := rfl
@[simp high] theorem tq7 : t_BadNumber "BadSeen" = some false := rfl
@[simp high] theorem tq8 : t_BadNumber "TooMany" = some false := rfl
@[simp high] theorem tq9 : t_BadNer_TooMny_BadSen "BadNumber" = some true := rfl
@[simp high] theorem tq10 : t_BadNer_TooMny_BadSen "BadRange" = some false := rfl
@[simp high] theorem tq11 : t_BadNer_TooMny_BadSen "BadSeen" = some true := rfl
@[simp high] theorem tq12 : t_BadNer_TooMny_BadSen "TooMany" = some true := rfl
@[simp high] theorem tq13 : t_BadRange "BadNumber" = some false := rfl
@[simp high] theorem tq14 : t_BadRange "BadRange" = some true := rfl
@[simp high] theorem tq15 : t_BadRange "BadSeen" = some false := rfl
@[simp high] theorem tq16 : t_BadRange "TooMany" = some false := rfl
@[simp high] theorem tq17 : t_BadNer_BadRge_BadSen "BadNumber" = some true := rfl
@[simp high] theorem tq18 : t_BadNer_BadRge_BadSen "BadRange" = some true := rfl
@[simp high] theorem tq19 : t_BadNer_BadRge_BadSen "BadSeen" = some true := rfl
@[simp high] theorem tq20 : t_BadNer_BadRge_BadSen "TooMany" = some false := rfl
@[simp high] theorem tq21 : t_TooMany "BadNumber" = some false := rfl
@[simp high] theorem tq22 : t_TooMany "BadRange" = some false := rfl
@[simp high] theorem tq23 : t_TooMany "BadSeen" = some false := rfl
@[simp high] theorem tq24 : t_TooMany "TooMany" = some true := rfl
@[simp high] theorem tq25 : t_BadNer_BadRge_TooMny "BadNumber" = some true := rfl
@[simp high] theorem tq26 : t_BadNer_BadRge_TooMny "BadRange" = some true := rfl
@[simp high] theorem tq27 : t_BadNer_BadRge_TooMny "BadSeen" = some false := rfl
@[simp high] theorem tq28 : t_BadNer_BadRge_TooMny "TooMany" = some true := rfl
@[simp high] theorem tq29 : t_BadSeen "BadNumber" = some false := rfl
@[simp high] theorem tq30 : t_BadSeen "BadRange" = some false := rfl
@[simp high] theorem tq31 : t_BadSeen "BadSeen" = some true := rfl
@[simp high] theorem tq32 : t_BadSeen "TooMany" = some false := rfl
@[simp high] theorem tq33 : t_BadTsk_NotAan_Unlied_BadPer_NoCots_BadQon_BadTxt_BadNme_Unknme "BadNumber" = some false := rfl
@[simp high] theorem tq34 : t_BadTsk_NotAan_Unlied_BadPer_NoCots_BadQon_BadTxt_BadNme_Unknme "BadRange" = some false := rfl
@[simp high] theorem tq35 : t_BadTsk_NotAan_Unlied_BadPer_NoCots_BadQon_BadTxt_BadNme_Unknme "BadSeen" = some false := rfl
@[simp high] theorem tq36 : t_BadTsk_NotAan_Unlied_BadPer_NoCots_BadQon_BadTxt_BadNme_Unknme "TooMany" = some false := rfl
@[simp high] theorem tq37 : t_ValueError "BadNumber" = some true := rfl
@[simp high] theorem tq38 : t_ValueError "BadRange" = some true := rfl
@[simp high] theorem tq39 : t_ValueError "BadSeen" = some true := rfl
@[simp high] theorem tq40 : t_ValueError "TooMany" = some true := rfl
@[simp high] theorem tq41 : t_StaleKey "BadNumber" = some false := rfl
@[simp high] theorem tq42 : t_StaleKey "BadRange" = some false := rfl
@[simp high] theorem tq43 : t_StaleKey "BadSeen" = some false := rfl
@[simp high] theorem tq44 : t_StaleKey "TooMany" = some false := rfl
@[simp high] theorem tq45 : t_CostsError "BadNumber" = some true := rfl
@[simp high] theorem tq46 : t_CostsError "BadRange" = some true := rfl
@[simp high] theorem tq47 : t_CostsError "BadSeen" = some true := rfl
@[simp high] theorem tq48 : t_CostsError "TooMany" = some true := rfl
/-! ### a spoilt pair -/
section
variable {w : Nat}
theorem lc_rows (f : Sl → Res D) (i : Nat) (h : List Int → List Int) {ρ : Sl} (rows : Rw) (hf : ∀ r ∈ rows, f (ρ.set i (.v (vec r))) = .ok (vec (h r))) (hl : rows.length ≤ 1000) : lcRun (PF.gName i) tYesF f ρ (rows.map vec) [] = .ok ((rows.map h).map vec) := by
  have := lc_map (g := PF.gName i) (f := f) (ρ := ρ) vec (fun r => vec (h r)) rows (fun r hr => ⟨_, rfl, hf r hr⟩) (by omega)
  rw [this]
  simp
theorem spoilt_ok (s : Sn) (hs : SnV w s) (z : Int) : ∃ b : Sp, f_ulaw_spoilt [sn s, .int (w : Int), .int z] = .ok (sp b) ∧ SpV b ∧ badS w b = true := by
  have M := hs.m
  have w1 := M.w1
  have w8 := M.w8
  have n24 := M.n24
  have n1 := M.n1
  have hp := hs.p
  have h8 := fmod_b z 8 (by decide)
  have n0 : oIx (sn s) (.int 0) = .ok (rowsL s.1) := rfl
  have n1' : oIx (sn s) (.int 1) = .ok (.int (s.2 : Int)) := rfl
  have lL := lenL s.1
  generalize hP : ([.int (-1), .int (s.1.length : Int), .non, .str "0", .tup [], .tup [.int (s.2 : Int)]] : List D) = P
  have pP : ∀ x ∈ P, f_Menu_is_plan [menuO w s.1, x] = .ok (.bl false) := fun x hx => by
    rw [← hP] at hx
    simp only [List.mem_cons, List.not_mem_nil, or_false] at hx
    rcases hx with h | h | h | h | h | h <;> subst h
    · exact plan_out (.inl (by omega))
    · exact plan_out (.inr (by omega))
    · exact plan_not (.inl rfl)
    · exact plan_not (.inr (.inl ⟨_, rfl⟩))
    · exact plan_not (.inr (.inr ⟨_, rfl⟩))
    · exact plan_not (.inr (.inr ⟨_, rfl⟩))
  have s1 : (gSet 3 (sLst (fLst (aCons (sUn oNeg (sC (.int 1))) (aCons (sUn bLen (sOp oIx (sRd 0) (sC (.int 0)))) (aCons (sC .non) (aCons (sC (.str "0")) (aCons (sTup aNil) (aCons (sTup (aCons (sOp oIx (sRd 0) (sC (.int 1))) aNil)) aNil))))))))) [.v (sn s), .v (.int (w : Int)), .v (.int z), .e, .e, .e] = .nx [.v (sn s), .v (.int (w : Int)), .v (.int z), .v (.lst P), .e, .e] := by
    rw [← hP]
    simp [-oIx, -bLen, n0, n1', lL]
  have s2 : (gSet 4 (sOp oMod (sUn bIntT (sRd 2)) (sC (.int 8)))) [.v (sn s), .v (.int (w : Int)), .v (.int z), .v (.lst P), .e, .e] = .nx [.v (sn s), .v (.int (w : Int)), .v (.int z), .v (.lst P), .v (.int (z.fmod 8)), .e] := by simp
  generalize z.fmod 8 = k at *
  have sd : ∀ ρ : Sl, ρ[0]? = some (.v (sn s)) → (sOp oIx (sRd 0) (sC (.int 0))) ρ = .ok (rowsL s.1) := fun ρ h => by simp only [sOp, sRd, h, sC, Res.bind_ok, n0]
  have sdk := sd [.v (sn s), .v (.int (w : Int)), .v (.int z), .v (.lst P), .v (.int k), .e] rfl
  have sd1 : ∀ ρ : Sl, ρ[0]? = some (.v (sn s)) → (sOp oIx (sRd 0) (sC (.int 1))) ρ = .ok (.int (s.2 : Int)) := fun ρ h => by simp only [sOp, sRd, h, sC, Res.bind_ok, n1']
  have a2 : ∀ {f g : Sl → Res D} {ρ : Sl} {a b : D}, f ρ = .ok a → g ρ = .ok b → aCons f (aCons g aNil) ρ = .ok [a, b] := fun h1 h2 => by simp only [aCons, aNil, h1, h2, Res.bind_ok]
  have tp : ∀ {f g : Sl → Res D} {ρ : Sl} {a b : D}, f ρ = .ok a → g ρ = .ok b → (gRet (sTup (aCons f (aCons g aNil)))) ρ = .ret (.tup [a, b]) := fun h1 h2 => by simp [h1, h2]
  by_cases c1 : k < 6
  · obtain ⟨q, q1, q2⟩ := pickD P k h8.1 (by rw [← hP]; simpa using c1) pP
    refine ⟨⟨w, s.1, q, false⟩, semF_ret ?_, q1, by simp [badS]⟩
    refine (seq_nx s1).trans ((seq_nx s2).trans ?_)
    have t : (sTest (sOp oLt (sRd 4) (sC (.int 6)))) [.v (sn s), .v (.int (w : Int)), .v (.int z), .v (.lst P), .v (.int k), .e] = .ok true := by simp [-cb_iff, -cb_nif, cb_t c1]
    have mk := make_ok (fs := aCons (sVar 1) (aCons (sLst (fUn bLst (sOp oIx (sRd 0) (sC (.int 0))))) aNil)) (ρ := [.v (sn s), .v (.int (w : Int)), .v (.int z), .v (.lst P), .v (.int k), .e]) M (a2 rfl (by
      simp only [sLst, fUn, sdk, Res.bind_ok, lstL]
      rfl))
    have r := tp mk (op_ok (f := sRd 3) (g := sRd 4) rfl rfl q2)
    simp only [gSeq, gIf, t, rS_ok, if_true, r]
    rfl
  · have t : (sTest (sOp oLt (sRd 4) (sC (.int 6)))) [.v (sn s), .v (.int (w : Int)), .v (.int z), .v (.lst P), .v (.int k), .e] = .ok false := by simp [-cb_iff, -cb_nif, cb_f c1]
    by_cases c2 : k = 6 ∧ 1 < w
    · have M2 : Mn (w - 1) (s.1.map (List.drop 1)) := ⟨by omega, by omega, by simpa using n1, by simpa using n24, fun r hr => by
        obtain ⟨y, hy, rfl⟩ := List.mem_map.mp hr
        rw [List.length_drop, M.len y hy]⟩
      refine ⟨⟨w - 1, s.1.map (List.drop 1), .int (s.2 : Int), true⟩, semF_ret ?_, plan_in (by simpa using hp), by simp [badS]; omega⟩
      refine (seq_nx s1).trans ((seq_nx s2).trans ((seq_nx (if_nx t)).trans ?_))
      have t2 : (tAnd (sTest (sOp oEq (sRd 4) (sC (.int 6)))) (sTest (sOp oGt (sRd 1) (sC (.int 1))))) [.v (sn s), .v (.int (w : Int)), .v (.int z), .v (.lst P), .v (.int k), .e] = .ok true := by
        simp [-cb_iff, -cb_nif, c2.1, cb_t (show (1 : Int) < (w : Int) by omega), cb_t c2.2]
      have e := lc_rows b1_ulaw_spoilt 5 (List.drop 1) (ρ := [.v (sn s), .v (.int (w : Int)), .v (.int z), .v (.lst P), .v (.int k), .e]) s.1 (fun r hr => by
        have := sl_r (f := sRd 5) (e := sC (.int 1)) (k := 1) (ρ := [.v (sn s), .v (.int (w : Int)), .v (.int z), .v (.lst P), .v (.int k), .v (vec r)]) (xs := r.map D.int) rfl rfl (by rw [List.length_map, M.len r hr]; omega)
        rw [← List.map_drop] at this
        exact this) (by omega)
      have mk := make_ok (fs := aCons (sOp oSub (sRd 1) (sC (.int 1))) (aCons (sLst (fLc (iSeq (sOp oIx (sRd 0) (sC (.int 0)))) (PF.gName 5) tYesF b1_ulaw_spoilt [5])) aNil)) (ρ := [.v (sn s), .v (.int (w : Int)), .v (.int z), .v (.lst P), .v (.int k), .e]) M2 (a2 (by
        simp; omega) (by
        simp only [sLst, fLc, iSeq, sdk, Res.bind_ok, seqL]
        exact congrArg (fun r : Res (List D) => r.bind fun ds => Res.ok (D.lst ds)) e))
      have r := tp mk (sd1 [.v (sn s), .v (.int (w : Int)), .v (.int z), .v (.lst P), .v (.int k), .e] rfl)
      simp only [gSeq, gIf, t2, rS_ok, if_true, r]
      rfl
    · have t2 : (tAnd (sTest (sOp oEq (sRd 4) (sC (.int 6)))) (sTest (sOp oGt (sRd 1) (sC (.int 1))))) [.v (sn s), .v (.int (w : Int)), .v (.int z), .v (.lst P), .v (.int k), .e] = .ok false := by
        by_cases d1 : k = 6
        · have d2 : ¬ 1 < w := fun h => c2 ⟨d1, h⟩
          simp [-cb_iff, -cb_nif, d1, cb_f (show ¬ (1 : Int) < (w : Int) by omega), cb_f d2]
        · simp [-cb_iff, -cb_nif, d1]
      by_cases c3 : w < 8
      · have M2 : Mn (w + 1) (s.1.map (fun r => r ++ [0])) := ⟨by omega, by omega, by simpa using n1, by simpa using n24, fun r hr => by
          obtain ⟨y, hy, rfl⟩ := List.mem_map.mp hr
          rw [List.length_append, M.len y hy]; rfl⟩
        refine ⟨⟨w + 1, s.1.map (fun r => r ++ [0]), .int (s.2 : Int), true⟩, semF_ret ?_, plan_in (by simpa using hp), by simp [badS]⟩
        refine (seq_nx s1).trans ((seq_nx s2).trans ((seq_nx (if_nx t)).trans ((seq_nx (if_nx t2)).trans ?_)))
        have t3 : (sTest (sOp oLt (sRd 1) (sC (.int 8)))) [.v (sn s), .v (.int (w : Int)), .v (.int z), .v (.lst P), .v (.int k), .e] = .ok true := by simp [-cb_iff, -cb_nif, cb_t (show (w : Int) < 8 by omega), cb_t c3]
        have e := lc_rows b2_ulaw_spoilt 5 (fun r => r ++ [0]) (ρ := [.v (sn s), .v (.int (w : Int)), .v (.int z), .v (.lst P), .v (.int k), .e]) s.1 (fun r hr => by
          have := add_tup (xs := r.map D.int) (ys := [.int 0]) (by rw [List.length_map, M.len r hr]; simp; omega)
          have e2 : vec (r ++ [0]) = .tup (r.map D.int ++ [.int 0]) := by simp [vec]
          rw [e2]
          exact op_ok (f := sRd 5) (g := sTup (aCons (sC (.int 0)) aNil)) rfl rfl this) (by omega)
        have mk := make_ok (fs := aCons (sOp oAdd (sRd 1) (sC (.int 1))) (aCons (sLst (fLc (iSeq (sOp oIx (sRd 0) (sC (.int 0)))) (PF.gName 5) tYesF b2_ulaw_spoilt [5])) aNil)) (ρ := [.v (sn s), .v (.int (w : Int)), .v (.int z), .v (.lst P), .v (.int k), .e]) M2 (a2 (by
          simp) (by
          simp only [sLst, fLc, iSeq, sdk, Res.bind_ok, seqL]
          exact congrArg (fun r : Res (List D) => r.bind fun ds => Res.ok (D.lst ds)) e))
        have r := tp mk (sd1 [.v (sn s), .v (.int (w : Int)), .v (.int z), .v (.lst P), .v (.int k), .e] rfl)
        simp only [gSeq, gIf, t3, rS_ok, if_true, r]
        rfl
      · have M2 : Mn 1 (s.1.map (List.take 1)) := ⟨by omega, by omega, by simpa using n1, by simpa using n24, fun r hr => by
          obtain ⟨y, hy, rfl⟩ := List.mem_map.mp hr
          rw [List.length_take, M.len y hy]; omega⟩
        refine ⟨⟨1, s.1.map (List.take 1), .int (s.2 : Int), true⟩, semF_ret ?_, plan_in (by simpa using hp), by simp [badS]; omega⟩
        have t3 : (sTest (sOp oLt (sRd 1) (sC (.int 8)))) [.v (sn s), .v (.int (w : Int)), .v (.int z), .v (.lst P), .v (.int k), .e] = .ok false := by simp [-cb_iff, -cb_nif, cb_f (show ¬ (w : Int) < 8 by omega), cb_f c3]
        refine (seq_nx s1).trans ((seq_nx s2).trans ((seq_nx (if_nx t)).trans ((seq_nx (if_nx t2)).trans ((seq_nx (if_nx t3)).trans ?_))))
        have e := lc_rows b3_ulaw_spoilt 5 (List.take 1) (ρ := [.v (sn s), .v (.int (w : Int)), .v (.int z), .v (.lst P), .v (.int k), .e]) s.1 (fun r hr => by
          have := sl_l (f := sRd 5) (e := sC (.int 1)) (k := 1) (ρ := [.v (sn s), .v (.int (w : Int)), .v (.int z), .v (.lst P), .v (.int k), .v (vec r)]) (xs := r.map D.int) rfl rfl (by rw [List.length_map, M.len r hr]; omega)
          rw [← List.map_take] at this
          exact this) (by omega)
        have mk := make_ok (w := 1) (fs := aCons (sC (.int 1)) (aCons (sLst (fLc (iSeq (sOp oIx (sRd 0) (sC (.int 0)))) (PF.gName 5) tYesF b3_ulaw_spoilt [5])) aNil)) (ρ := [.v (sn s), .v (.int (w : Int)), .v (.int z), .v (.lst P), .v (.int k), .e]) M2 (a2 rfl (by
          simp only [sLst, fLc, iSeq, sdk, Res.bind_ok, seqL]
          exact congrArg (fun r : Res (List D) => r.bind fun ds => Res.ok (D.lst ds)) e))
        exact tp mk (sd1 [.v (sn s), .v (.int (w : Int)), .v (.int z), .v (.lst P), .v (.int k), .e] rfl)
end
/-! ### the faults -/
abbrev Fnum : D := .tup [.str "number", .int 0]
abbrev Frng (k : Nat) : D := .tup [.str "range", .int (k : Int)]
abbrev Fmany : D := .tup [.str "many", .str "seen", .int 10]
abbrev Fplc (k : Nat) : D := .tup [.str "place", .int (k : Int)]
/-- what the suite makes of an error -/
inductive Er : Str → List (Str × D) → D → Prop
  | num : Er "BadNumber" [] Fnum
  | rng (k : Nat) : Er "BadRange" [("letter", .int (k : Int))] (Frng k)
  | many : Er "TooMany" [("limit", .int 10), ("word", .str "seen")] Fmany
  | plc (k : Nat) : Er "BadSeen" [("place", .int (k : Int))] (Fplc k)
theorem xr1 : (("BadRange" : Str) ∈ xr_letter) = True := eq_true (by decide)
theorem xr2 : (("TooMany" : Str) ∈ xr_word) = True := eq_true (by decide)
theorem xr3 : (("TooMany" : Str) ∈ xr_limit) = True := eq_true (by decide)
theorem xr4 : (("BadSeen" : Str) ∈ xr_place) = True := eq_true (by decide)
theorem lp1 : List.lookup ("letter" : Str) [(("letter" : Str), D.int i)] = some (.int i) := rfl
theorem lp2 : List.lookup ("place" : Str) [(("place" : Str), D.int i)] = some (.int i) := rfl
theorem lp3 : List.lookup ("limit" : Str) [(("limit" : Str), D.int 10), ("word", .str "seen")] = some (.int 10) := rfl
theorem lp4 : List.lookup ("word" : Str) [(("limit" : Str), D.int 10), ("word", .str "seen")] = some (.str "seen") := rfl
theorem fault0 {o a b c t : D} {x : Str} {fl : List (Str × D)} (e : Er x fl t) (h : mkR a b c = .exc x fl) : f_ulaw_fault [.int 0, o, a, b, c] = .ok t := by
  have h2 : (aAny fun x => f_Study_init x [] [a, b, c]).bind (fun fl => Res.ok (D.obj "Study" (fl.map (·.1)) (fl.map (·.2)))) = .exc x fl := h
  cases e <;> simp [-cb_iff, -cb_nif, f_ulaw_fault, g_ulaw_fault, h2, xr1, xr2, xr3, xr4, lp1, lp2, lp3, lp4]
section
variable {w : Nat} {rs : List Rg} {ss : List Sp}
theorem fault1 {a b c t : D} {x : Str} {fl : List (Str × D)} (e : Er x fl t) (h : f_Study_with_seen [studyO w rs ss, a, b] = .exc x fl) : f_ulaw_fault [.int 1, studyO w rs ss, a, b, c] = .ok t := by
  cases e <;> simp [-cb_iff, -cb_nif, f_ulaw_fault, g_ulaw_fault, h, xr1, xr2, xr3, xr4, lp1, lp2, lp3, lp4]
theorem fault2 {a b c t : D} {x : Str} {fl : List (Str × D)} (e : Er x fl t) (h : f_Study_without_seen [studyO w rs ss, a] = .exc x fl) : f_ulaw_fault [.int 2, studyO w rs ss, a, b, c] = .ok t := by
  cases e <;> simp [-cb_iff, -cb_nif, f_ulaw_fault, g_ulaw_fault, h, xr1, xr2, xr3, xr4, lp1, lp2, lp3, lp4]
theorem fault3 {a b c t : D} {x : Str} {fl : List (Str × D)} (e : Er x fl t) (h : f_Study_with_range [studyO w rs ss, a, b, c] = .exc x fl) : f_ulaw_fault [.int 3, studyO w rs ss, a, b, c] = .ok t := by
  cases e <;> simp [-cb_iff, -cb_nif, f_ulaw_fault, g_ulaw_fault, h, xr1, xr2, xr3, xr4, lp1, lp2, lp3, lp4]
end
theorem so1 : PyData.strOk "number" = true := by decide +kernel
theorem so2 : PyData.strOk "range" = true := by decide +kernel
theorem so3 : PyData.strOk "many" = true := by decide +kernel
theorem so4 : PyData.strOk "seen" = true := by decide +kernel
theorem so5 : PyData.strOk "place" = true := by decide +kernel
theorem is_fault_ok {x : Str} {fl : List (Str × D)} {t : D} (e : Er x fl t) : f_ulaw_is_fault [t, t] = .ok (.bl true) := by
  have w1 := fun i => whole_ok i
  have w2 : ∀ y : Str, f_ulaw_is_whole [.str y] = .ok (.bl false) := fun y => by simp [f_ulaw_is_whole, g_ulaw_is_whole]
  have ok : eqOk t = true := by
    cases e <;> exact sh_of (by simp [D.py, D.pyA, PyData.canLay0, PyData.canLayAll0, so1, so2, so3, so4, so5]) (by simp [D.py, D.pyA, PyData.depth, PyData.depthAll])
  have ev : eqv t t = true := by
    cases e <;> simp [eqv, D.py, D.pyA, PyData.eqv, PyData.eqvAll]
  cases e <;> simp [f_ulaw_is_fault, g_ulaw_is_fault, b1_ulaw_is_fault, lcRun, w1, w2, ok, ev, dBls]
end M_k12

set_option Elab.async false
set_option linter.all false
set_option maxRecDepth 100000
set_option maxHeartbeats 2000000
namespace M_k12
open PySem L2 PF ML S_k12 LC_k12 LM_k12 XL
abbrev Fno : D := .tup [.str "no", .int 0]
theorem so6 : PyData.strOk "no" = true := by decide +kernel
theorem no_fault_ok : f_ulaw_is_fault [Fno, Fno] = .ok (.bl true) := by
  have w1 := fun i => whole_ok i
  have w2 : ∀ y : Str, f_ulaw_is_whole [.str y] = .ok (.bl false) := fun y => by simp [f_ulaw_is_whole, g_ulaw_is_whole]
  have ok : eqOk Fno = true := sh_of (by simp [D.py, D.pyA, PyData.canLay0, PyData.canLayAll0, so6]) (by simp [D.py, D.pyA, PyData.depth, PyData.depthAll])
  have ev : eqv Fno Fno = true := by simp [eqv, D.py, D.pyA, PyData.eqv, PyData.eqvAll]
  simp [f_ulaw_is_fault, g_ulaw_is_fault, b1_ulaw_is_fault, lcRun, w1, w2, ok, ev, dBls]
theorem fault_no {o a b c d : D} (h : mkR a b c = .ok d) : f_ulaw_fault [.int 0, o, a, b, c] = .ok Fno := by
  have h2 : (aAny fun x => f_Study_init x [] [a, b, c]).bind (fun fl => Res.ok (D.obj "Study" (fl.map (·.1)) (fl.map (·.2)))) = .ok d := h
  simp [-cb_iff, -cb_nif, f_ulaw_fault, g_ulaw_fault, h2]
section
variable {w : Nat}
/-- the seen pairs and what is due of them -/
def StC (w : Nat) (P : List Sp) (due : D) : Prop := (∀ s ∈ P, SpV s) ∧ 1 ≤ P.length ∧ ((10 < P.length ∧ P.length ≤ 11 ∧ due = Fmany) ∨ (P.length ≤ 10 ∧ P.all (fun s => !badS w s) = true ∧ due = Fno) ∨
  (P.length ≤ 10 ∧ ∃ i, i < P.length ∧ (∀ j, j < i → ∀ s, P[j]? = some s → badS w s = false) ∧ (∀ s, P[i]? = some s → badS w s = true) ∧ due = Fplc i))
def StD (w : Nat) (G : List Rg) (d0 due : D) : Prop := G.length = w ∧ (∀ r ∈ G, RgB r) ∧ ((NoX G ∧ due = d0) ∨ ∃ i, i < w ∧ (∀ j, j < i → ∀ r, G[j]? = some r → xs r = false) ∧ (∀ r, G[i]? = some r → xs r = true) ∧ due = Frng i)
/-- told and due agree -/
theorem due_ok (h1 : 1 ≤ w) (h8 : w ≤ 8) {G : List Rg} {P : List Sp} {d0 due : D} (hC : StC w P d0) (hD : StD w G d0 due) : f_ulaw_fault [.int 0, .non, .int (w : Int), .lst (G.map rg), .lst (P.map sp)] = .ok due ∧ f_ulaw_is_fault [due, due] = .ok (.bl true) := by
  obtain ⟨c1, c2, c3⟩ := hC
  obtain ⟨d1, d2, d3⟩ := hD
  have R : IsS (.lst (G.map rg)) (G.map rg) := .inl rfl
  have S : IsS (.lst (P.map sp)) (P.map sp) := .inl rfl
  rcases d3 with ⟨e1, rfl⟩ | ⟨i, e1, e2, e3, rfl⟩
  · rcases c3 with ⟨f1, f2, rfl⟩ | ⟨f1, f2, rfl⟩ | ⟨f1, i, f2, f3, f4, rfl⟩
    · exact ⟨fault0 .many (mkR_ex fun x => st_many x h1 h8 R d1 d2 e1 S f1), is_fault_ok .many⟩
    · exact ⟨fault_no (mkR_ok ⟨h1, h8, d1, d2, e1, f1, c1, f2⟩ R S), no_fault_ok⟩
    · exact ⟨fault0 (.plc i) (mkR_ex fun x => st_seen x h1 h8 R d1 d2 e1 S f1 c1 i f2 f3 f4), is_fault_ok (.plc i)⟩
  · exact ⟨fault0 (.rng i) (mkR_ex fun x => st_range x h1 h8 R d1 d2 i (by omega) e2 e3), is_fault_ok (.rng i)⟩
theorem due_num {tw : Int} {xs : List D} {SD : D} (h : tw < 1 ∨ 8 < tw ∨ (xs.length : Int) ≠ tw) : f_ulaw_fault [.int 0, .non, .int tw, .lst xs, SD] = .ok Fnum ∧ f_ulaw_is_fault [Fnum, Fnum] = .ok (.bl true) :=
  ⟨fault0 .num (mkR_ex fun x => st_num x (.inl rfl) h), is_fault_ok .num⟩
/-! ### the stages of _law_refuses -/
section
variable (mk : Int) (RD SD SP : D) (cs : List Int)
abbrev rf (w : Nat) (mk : Int) (RD SD SP C : D) (G : List D) (tw due : D) (P : List D) (k10 k11 k12 k13 : Cell) : Sl := [.v (.int mk), .v RD, .v SD, .v SP, .v C, .v (.int (w : Int)), .o G, .v tw, .v due, .o P, k10, k11, k12, k13]
theorem flat_len {α : Type} (n : Nat) (l : List α) : (List.replicate n l).flatten.length = n * l.length := by simp
theorem stageB (tw : D) (G : List D) (P : List Sp) (hv : ∀ s ∈ P, SpV s) (hg : P.all (fun s => !badS w s) = true) (h1 : 1 ≤ P.length) (h10 : P.length ≤ 10) (k10 k11 k12 k13 : Cell) : ∃ (P' : List Sp) (due : D), StC w P' due ∧ (due = Fno ∨ due = Fmany) ∧ P'.all (fun s => !badS w s) = true ∧
    (gIf (sTest (sOp oGt (sOp oMod (sRd 0) (sC (.int 16))) (sC (.int 7)))) (gSeq (gSetO 9 (fOp fRep (sRd 9) (sC (.int 11))))
    (gSeq (gSetO 9 (fSl (sRd 9) pNone (pSome (sC (.int 11)))))
    (gSet 8 (sTup (aCons (sC (.str "many")) (aCons (sC (.str "seen")) (aCons (sC (.int 10)) aNil))))))) PF.gNil) (rf w mk RD SD SP (.lst (cs.map D.int)) G tw Fno (P.map sp) k10 k11 k12 k13) = .nx (rf w mk RD SD SP (.lst (cs.map D.int)) G tw due (P'.map sp) k10 k11 k12 k13) := by
  by_cases c : 7 < mk.fmod 16
  · have e1 := rep_gen (xs := P.map sp) (k := 11) (by decide) (by simp; omega)
    have fl : (List.replicate 11 (P.map sp)).flatten = ((List.replicate 11 P).flatten).map sp := by simp [List.map_flatten]
    rw [fl] at e1
    have hl : 11 ≤ ((List.replicate 11 P).flatten).length := by rw [flat_len]; omega
    have e2 := cut_take (((List.replicate 11 P).flatten).map sp) 11 (by simpa using hl)
    have mem : ∀ s, s ∈ ((List.replicate 11 P).flatten).take 11 → s ∈ P := fun s hs => by
      have := List.mem_of_mem_take hs
      simp at this
      exact this
    have len : (((List.replicate 11 P).flatten).take 11).length = 11 := by rw [List.length_take]; omega
    refine ⟨((List.replicate 11 P).flatten).take 11, Fmany, ⟨fun s hs => hv s (mem s hs), by omega, .inl ⟨by omega, by omega, rfl⟩⟩, .inr rfl, List.all_eq_true.mpr fun s hs => List.all_eq_true.mp hg s (mem s hs), ?_⟩
    have e1 : fRep (.lst (P.map sp)) (.int 11) = .ok (((List.replicate 11 P).flatten).map sp) := e1
    have e2 : cutD (((List.replicate 11 P).flatten).map sp) none (some 11) = (((List.replicate 11 P).flatten).map sp).take 11 := e2
    rw [← List.map_take] at e2
    generalize ((List.replicate 11 P).flatten).map sp = A at *
    generalize ((((List.replicate 11 P).flatten).take 11).map sp) = B at *
    generalize P.map sp = P0 at *
    simp [-cb_iff, -cb_nif, -fRep, cb_t c, e1, e2]
  · refine ⟨P, Fno, ⟨hv, h1, .inr (.inl ⟨h10, hg, rfl⟩)⟩, .inl rfl, hg, ?_⟩
    simp [-cb_iff, -cb_nif, cb_f c]
theorem set_get {α : Type} {l : List α} {i j : Nat} {a b : α} (h : (l.set i a)[j]? = some b) : (j = i ∧ b = a) ∨ (j ≠ i ∧ l[j]? = some b) := by
  by_cases e : i = j
  · subst e
    rw [List.getElem?_set] at h
    simp only [if_true] at h
    split at h
    · exact .inl ⟨rfl, (Option.some.inj h).symm⟩
    · cases h
  · rw [List.getElem?_set_ne e] at h
    exact .inr ⟨fun z => e z.symm, h⟩
theorem ixN_last {n : Nat} (h : 1 ≤ n) : ixN n (-1) = some (n - 1) := by
  unfold ixN
  rw [if_neg (by omega), if_pos (by omega)]
  congr 1
  omega
theorem stageC (h8 : w ≤ 8) (hcs : 12 ≤ cs.length) (sp0 : Sn) (hsp : SnV w sp0) (tw due : D) (G : List D) (P : List Sp) (hC : StC w P due) (hd : due = Fno ∨ due = Fmany) (hg : P.all (fun s => !badS w s) = true) (k10 k11 k12 k13 : Cell) : ∃ (P' : List Sp) (due' : D) (k10' : Cell), StC w P' due' ∧
    (gIf (sTest (sOp oEq (sOp oMod (sOp oFdiv (sRd 0) (sC (.int 4))) (sC (.int 2))) (sC (.int 1)))) (gSeq (gSet 10 (sOp oMod (sUn bIntT (sOp oIx (sRd 4) (sC (.int 0)))) (sUn bLen (sRd 9))))
    (gSeq (gSto 9 (sVar 10) (sCall f_ulaw_spoilt (aCons (sVar 3) (aCons (sVar 5) (aCons (sOp oIx (sRd 4) (sC (.int 1))) aNil)))))
    (gSeq (gIf (tAnd (sTest (sOp oEq (sOp oMod (sUn bIntT (sOp oIx (sRd 4) (sC (.int 2)))) (sC (.int 2))) (sC (.int 1)))) (sTest (sOp oLt (sRd 10) (sOp oSub (sUn bLen (sRd 9)) (sC (.int 1)))))) (gSto 9 (sUn oNeg (sC (.int 1))) (sCall f_ulaw_spoilt (aCons (sVar 3) (aCons (sVar 5) (aCons (sOp oIx (sRd 4) (sC (.int 3))) aNil))))) PF.gNil)
    (gIf (sTest (sOp oEq (sOp oIx (sRd 8) (sC (.int 0))) (sC (.str "no")))) (gSet 8 (sTup (aCons (sC (.str "place")) (aCons (sVar 10) aNil)))) PF.gNil)))) PF.gNil) (rf w mk RD SD (sn sp0) (.lst (cs.map D.int)) G tw due (P.map sp) k10 k11 k12 k13) = .nx (rf w mk RD SD (sn sp0) (.lst (cs.map D.int)) G tw due' (P'.map sp) k10' k11 k12 k13) := by
  have d4 : divOk 4 = true := divOk_s (by decide) (by decide)
  by_cases c : (mk.fdiv 4).fmod 2 = 1
  · have t0 : (sTest (sOp oEq (sOp oMod (sOp oFdiv (sRd 0) (sC (.int 4))) (sC (.int 2))) (sC (.int 1)))) (rf w mk RD SD (sn sp0) (.lst (cs.map D.int)) G tw due (P.map sp) k10 k11 k12 k13) = .ok true := by simp [d4, c]
    obtain ⟨v1, l1, v2⟩ := hC
    have hb := fmod_b cs[0] P.length (by omega)
    obtain ⟨p, hp⟩ : ∃ p : Nat, (cs[0]).fmod P.length = (p : Int) := ⟨_, (Int.toNat_of_nonneg hb.1).symm⟩
    have hpl : p < P.length := by omega
    obtain ⟨b, eb, vb, bb⟩ := spoilt_ok sp0 hsp cs[1]
    obtain ⟨b2, eb2, vb2, bb2⟩ := spoilt_ok sp0 hsp cs[3]
    have i0 := ixc cs 0 (by omega)
    have i1 := ixc cs 1 (by omega)
    have i2 := ixc cs 2 (by omega)
    have i3 := ixc cs 3 (by omega)
    have hne : P ≠ [] := fun z => by subst z; simp at l1
    generalize hC' : D.lst (cs.map D.int) = C at *
    have i0 : oIx C (.int 0) = .ok (.int cs[0]) := i0
    have i1 : oIx C (.int 1) = .ok (.int cs[1]) := i1
    have i2 : oIx C (.int 2) = .ok (.int cs[2]) := i2
    have i3 : oIx C (.int 3) = .ok (.int cs[3]) := i3
    generalize cs[0] = z0 at *
    generalize cs[1] = z1 at *
    generalize cs[2] = z2 at *
    generalize cs[3] = z3 at *
    generalize hSP : sn sp0 = SP at *
    have LP : ∀ Q : List Sp, bLen (.lst (Q.map sp)) = .ok (.int (Q.length : Int)) := fun Q => by simp
    -- after the first store
    have st : ∀ (Q : List Sp) (i : Nat) (x : Sp), (Q.map sp).set i (sp x) = (Q.set i x).map sp := fun Q i x => by simp
    have e1 : (gSet 10 (sOp oMod (sUn bIntT (sOp oIx (sRd 4) (sC (.int 0)))) (sUn bLen (sRd 9)))) [.v (.int mk), .v RD, .v SD, .v SP, .v C, .v (.int (w : Int)), .o G, .v tw, .v due, .o (P.map sp), k10, k11, k12, k13] = .nx [.v (.int mk), .v RD, .v SD, .v SP, .v C, .v (.int (w : Int)), .o G, .v tw, .v due, .o (P.map sp), .v (.int (p : Int)), k11, k12, k13] := by
      simp [-oIx, i0, hp, hne]
    have e2 : (gSto 9 (sVar 10) (sCall f_ulaw_spoilt (aCons (sVar 3) (aCons (sVar 5) (aCons (sOp oIx (sRd 4) (sC (.int 1))) aNil))))) [.v (.int mk), .v RD, .v SD, .v SP, .v C, .v (.int (w : Int)), .o G, .v tw, .v due, .o (P.map sp), .v (.int (p : Int)), k11, k12, k13] = .nx [.v (.int mk), .v RD, .v SD, .v SP, .v C, .v (.int (w : Int)), .o G, .v tw, .v due, .o ((P.set p b).map sp), .v (.int (p : Int)), k11, k12, k13] := by
      rw [← st]
      have hix : ixN (P.map sp).length (p : Int) = some p := ixN_nat (by simpa using hpl)
      have ht : thaw (sp b) = .ok (sp b) := rfl
      generalize P.map sp = P0 at *
      simp [-oIx, -thaw, i1, eb, hix, ht]
    have last : ∃ P2 : List Sp, P2.length = P.length ∧ (∀ s ∈ P2, SpV s) ∧ (∀ j, j < p → P2[j]? = P[j]?) ∧ (∀ s, P2[p]? = some s → badS w s = true) ∧ (gIf (tAnd (sTest (sOp oEq (sOp oMod (sUn bIntT (sOp oIx (sRd 4) (sC (.int 2)))) (sC (.int 2))) (sC (.int 1)))) (sTest (sOp oLt (sRd 10) (sOp oSub (sUn bLen (sRd 9)) (sC (.int 1)))))) (gSto 9 (sUn oNeg (sC (.int 1))) (sCall f_ulaw_spoilt (aCons (sVar 3) (aCons (sVar 5) (aCons (sOp oIx (sRd 4) (sC (.int 3))) aNil))))) PF.gNil) [.v (.int mk), .v RD, .v SD, .v SP, .v C, .v (.int (w : Int)), .o G, .v tw, .v due, .o ((P.set p b).map sp), .v (.int (p : Int)), k11, k12, k13] = .nx [.v (.int mk), .v RD, .v SD, .v SP, .v C, .v (.int (w : Int)), .o G, .v tw, .v due, .o (P2.map sp), .v (.int (p : Int)), k11, k12, k13] := by
      have f1 : (P.set p b).length = P.length := by simp
      have f2 : ∀ s ∈ P.set p b, SpV s := fun s hs => (List.mem_or_eq_of_mem_set hs).elim (v1 s) fun q => by rw [q]; exact vb
      have f3 : ∀ j, j < p → (P.set p b)[j]? = P[j]? := fun j hj => List.getElem?_set_ne (by omega)
      have f4 : ∀ s, (P.set p b)[p]? = some s → badS w s = true := fun s hs => by
        rcases set_get hs with ⟨_, rfl⟩ | ⟨q, _⟩
        · exact bb
        · exact absurd rfl q
      have lq := LP (P.set p b)
      rw [f1] at lq
      by_cases c1 : z2.fmod 2 = 1
      · by_cases c2 : (p : Int) < (P.length : Int) - 1
        · refine ⟨(P.set p b).set (P.length - 1) b2, by simp, fun s hs => (List.mem_or_eq_of_mem_set hs).elim (f2 s) fun q => by rw [q]; exact vb2, fun j hj => by rw [List.getElem?_set_ne (by omega), f3 j hj], fun s hs => ?_, ?_⟩
          · rcases set_get hs with ⟨q, _⟩ | ⟨_, q⟩
            · omega
            · exact f4 s q
          · rw [← st (P.set p b) (P.length - 1) b2]
            have hix : ixN ((P.set p b).map sp).length (-1) = some (P.length - 1) := by rw [List.length_map, f1]; exact ixN_last l1
            have ht : thaw (sp b2) = .ok (sp b2) := rfl
            generalize (P.set p b).map sp = P0 at *
            simp [-cb_iff, -cb_nif, -oIx, -bLen, -thaw, i2, i3, c1, lq, cb_t c2, eb2, hix, ht]
        · refine ⟨P.set p b, f1, f2, f3, f4, if_nx ?_⟩
          generalize (P.set p b).map sp = P0 at *
          simp [-cb_iff, -cb_nif, -oIx, -bLen, i2, c1, lq, cb_f c2]
      · refine ⟨P.set p b, f1, f2, f3, f4, if_nx ?_⟩
        generalize (P.set p b).map sp = P0 at *
        simp [-cb_iff, -cb_nif, -oIx, -bLen, i2, c1]
    obtain ⟨P2, g1, g2, g3, g4, g5⟩ := last
    have pre : ∀ j, j < p → ∀ s, P2[j]? = some s → badS w s = false := fun j hj s hs => by
      rw [g3 j hj] at hs
      have := List.all_eq_true.mp hg s (List.mem_of_getElem? hs)
      simpa using this
    rcases hd with rfl | rfl
    · refine ⟨P2, Fplc p, .v (.int (p : Int)), ⟨g2, by omega, ?_⟩, ?_⟩
      · rcases v2 with ⟨_, _, q⟩ | ⟨q, _⟩ | ⟨_, _, _, _, _, q⟩
        · cases q
        · exact .inr (.inr ⟨by omega, p, by omega, pre, g4, rfl⟩)
        · cases q
      · simp only [gIf, t0, rS_ok, if_true]
        refine (seq_nx e1).trans ((seq_nx e2).trans ((seq_nx g5).trans ?_))
        have so : eqOk (.str "no") = true := eqOk_str so6
        generalize P2.map sp = P0 at *
        simp [so]
    · refine ⟨P2, Fmany, .v (.int (p : Int)), ⟨g2, by omega, ?_⟩, ?_⟩
      · rcases v2 with ⟨q1, q2, _⟩ | ⟨_, _, q⟩ | ⟨_, _, _, _, _, q⟩
        · exact .inl ⟨by omega, by omega, rfl⟩
        · cases q
        · cases q
      · simp only [gIf, t0, rS_ok, if_true]
        refine (seq_nx e1).trans ((seq_nx e2).trans ((seq_nx g5).trans ?_))
        have so : eqOk (.str "no") = true := eqOk_str so6
        have sm : eqOk (.str "many") = true := eqOk_str so3
        have ne : (("many" : Str) == ("no" : Str)) = false := by decide
        generalize P2.map sp = P0 at *
        simp [so, sm, ne]
  · refine ⟨P, due, k10, hC, ?_⟩
    have t0 : (sTest (sOp oEq (sOp oMod (sOp oFdiv (sRd 0) (sC (.int 4))) (sC (.int 2))) (sC (.int 1)))) (rf w mk RD SD (sn sp0) (.lst (cs.map D.int)) G tw due (P.map sp) k10 k11 k12 k13) = .ok false := by simp [d4, c]
    exact if_nx t0
end
end
end M_k12

set_option Elab.async false
set_option linter.all false
set_option maxRecDepth 100000
set_option maxHeartbeats 2000000
namespace M_k12
open PySem L2 PF ML S_k12 LC_k12 LM_k12 XL
theorem if_t {t : Sl → Res Bool} {a b : Sl → Out} {ρ : Sl} (h : t ρ = .ok true) : gIf t a b ρ = a ρ := by simp only [gIf, h, rS_ok, if_true]
theorem if_f {t : Sl → Res Bool} {a b : Sl → Out} {ρ : Sl} (h : t ρ = .ok false) : gIf t a b ρ = b ρ := by simp only [gIf, h, rS_ok]; rfl
section
variable {w : Nat} (mk : Int) (RD SD SP : D) (cs : List Int)
theorem rngD_nat (a n : Nat) : rngD (a : Int) n = (List.range' a n).map fun (j : Nat) => D.int (j : Int) := by
  simp [rngD, List.range'_eq_map_range]
theorem cut6 (hcs : 12 ≤ cs.length) : cutD (cs.map D.int) (some 6) none = (cs.drop 6).map D.int := by
  have := cut_drop (cs.map D.int) 6 (by simp; omega)
  rw [← List.map_drop] at this
  exact this
theorem cr_run (hcs : 12 ≤ cs.length) (c : Rg) (hc : f_ulaw_crossed [.lst ((cs.drop 6).map D.int)] = .ok (rg c)) (hb : RgB c) (lt : Nat) (tw due : D) (P : List D) (k10 k13 : Cell) : ∀ (m k : Nat) (G : List Rg) (k12 : Cell), k + m = w → lt ≤ k → G.length = w → (∀ r ∈ G, RgB r) →
    ∃ (G' : List Rg) (k12' : Cell), G'.length = w ∧ (∀ r ∈ G', RgB r) ∧ (∀ j, j < k → G'[j]? = G[j]?) ∧ (k = lt → 0 < m → G'[lt]? = some c) ∧
      forRun (PF.gName 12) b1_ulaw_refuses ((List.range' k m).map fun (j : Nat) => D.int (j : Int)) (rf w mk RD SD SP (.lst (cs.map D.int)) (G.map rg) tw due P k10 (.v (.int (lt : Int))) k12 k13) = .nx (rf w mk RD SD SP (.lst (cs.map D.int)) (G'.map rg) tw due P k10 (.v (.int (lt : Int))) k12' k13)
  | 0, k, G, k12, h, _, hl, hr => ⟨G, k12, hl, hr, fun _ _ => rfl, fun _ h => absurd h (by omega), by simp [forRun]⟩
  | m + 1, k, G, k12, h, hk, hl, hr => by
    have i5 := ixc cs 5 (by omega)
    have c6 := cut6 cs hcs
    have hix : ixN (G.map rg).length (k : Int) = some k := ixN_nat (by simp; omega)
    have st : (G.map rg).set k (rg c) = (G.set k c).map rg := by simp
    have ht : thaw (rg c) = .ok (rg c) := rfl
    generalize cs[5] = z5 at *
    have i5 : oIx (.lst (cs.map D.int)) (.int 5) = .ok (.int z5) := i5
    have hc' := hc
    obtain ⟨C6, hC6⟩ : ∃ C6, C6 = (cs.drop 6).map D.int := ⟨_, rfl⟩
    rw [← hC6] at c6 hc'
    have step : ∃ G1 : List Rg, G1.length = w ∧ (∀ r ∈ G1, RgB r) ∧ (∀ j, j < k → G1[j]? = G[j]?) ∧ (k = lt → G1[lt]? = some c) ∧ b1_ulaw_refuses (rf w mk RD SD SP (.lst (cs.map D.int)) (G.map rg) tw due P k10 (.v (.int (lt : Int))) (.v (.int (k : Int))) k13) = .nx (rf w mk RD SD SP (.lst (cs.map D.int)) (G1.map rg) tw due P k10 (.v (.int (lt : Int))) (.v (.int (k : Int))) k13) := by
      have put : ∃ G1 : List Rg, G1 = G.set k c ∧ G1.length = w ∧ (∀ r ∈ G1, RgB r) ∧ (∀ j, j < k → G1[j]? = G[j]?) ∧ (k = lt → G1[lt]? = some c) := ⟨_, rfl, by simpa using hl, fun r hx => (List.mem_or_eq_of_mem_set hx).elim (hr r) fun q => by rw [q]; exact hb, fun j hj => List.getElem?_set_ne (by omega), fun e => by subst e; rw [List.getElem?_set_self (by omega)]⟩
      obtain ⟨G1, p0, p1, p2, p3, p4⟩ := put
      rw [← p0] at st
      by_cases e1 : k = lt
      · refine ⟨G1, p1, p2, p3, p4, ?_⟩
        rw [← st]
        subst e1
        generalize G.map rg = G0 at *
        generalize cs.map D.int = C at *
        simp [-thaw, b1_ulaw_refuses, c6, hc', hix, ht]
      · have e2 : ¬ ((k : Int) = (lt : Int)) := by omega
        by_cases e3 : z5.fmod 2 = 1
        · refine ⟨G1, p1, p2, p3, p4, ?_⟩
          rw [← st]
          generalize G.map rg = G0 at *
          generalize cs.map D.int = C at *
          simp [-thaw, -oIx, b1_ulaw_refuses, e1, e2, e3, i5, c6, hc', hix, ht]
        · refine ⟨G, hl, hr, fun _ _ => rfl, fun z => absurd z e1, ?_⟩
          generalize G.map rg = G0 at *
          generalize cs.map D.int = C at *
          simp [-oIx, b1_ulaw_refuses, e1, e2, e3, i5]
    obtain ⟨G1, p1, p2, p3, p4, p5⟩ := step
    obtain ⟨G2, k12', q1, q2, q3, _, q5⟩ := cr_run hcs c hc hb lt tw due P k10 k13 m (k + 1) G1 (.v (.int (k : Int))) (by omega) (by omega) p1 p2
    refine ⟨G2, k12', q1, q2, fun j hj => (q3 j (by omega)).trans (p3 j hj), fun e _ => by rw [q3 lt (by omega)]; exact p4 e, ?_⟩
    rw [List.range'_succ, List.map_cons]
    simp only [forRun, PF.gName, List.set_cons_succ, List.set_cons_zero, p5]
    exact q5
theorem stageD (h1 : 1 ≤ w) (h8 : w ≤ 8) (hcs : 12 ≤ cs.length) (hcl : Cl cs) (tw d0 : D) (G : List Rg) (P : List D) (hl : G.length = w) (hr : ∀ r ∈ G, RgB r) (hn : NoX G) (k10 k11 k12 k13 : Cell) : ∃ (G' : List Rg) (due : D) (k11' k12' : Cell), StD w G' d0 due ∧
    (gIf (sTest (sOp oEq (sOp oMod (sOp oFdiv (sRd 0) (sC (.int 2))) (sC (.int 2))) (sC (.int 1)))) (gSeq (gSet 11 (sOp oMod (sUn bIntT (sOp oIx (sRd 4) (sC (.int 4)))) (sRd 5)))
    (gSeq (gFor (iRg2 (aCons (sVar 11) (aCons (sVar 5) aNil))) (PF.gName 12) b1_ulaw_refuses)
    (gSet 8 (sTup (aCons (sC (.str "range")) (aCons (sVar 11) aNil)))))) PF.gNil) (rf w mk RD SD SP (.lst (cs.map D.int)) (G.map rg) tw d0 P k10 k11 k12 k13) = .nx (rf w mk RD SD SP (.lst (cs.map D.int)) (G'.map rg) tw due P k10 k11' k12' k13) := by
  have d2 : divOk 2 = true := divOk_s (by decide) (by decide)
  by_cases c : (mk.fdiv 2).fmod 2 = 1
  · have t0 : (sTest (sOp oEq (sOp oMod (sOp oFdiv (sRd 0) (sC (.int 2))) (sC (.int 2))) (sC (.int 1)))) (rf w mk RD SD SP (.lst (cs.map D.int)) (G.map rg) tw d0 P k10 k11 k12 k13) = .ok true := by simp [d2, c]
    have hb := fmod_b cs[4] w (by omega)
    obtain ⟨lt, hlt⟩ : ∃ lt : Nat, (cs[4]).fmod w = (lt : Int) := ⟨_, (Int.toNat_of_nonneg hb.1).symm⟩
    have hlw : lt < w := by omega
    obtain ⟨cx, e1, e2, e3⟩ := crossed_ok (cs.drop 6) (fun x hx => hcl x (List.mem_of_mem_drop hx)) (by simp; omega)
    obtain ⟨G', k12', q1, q2, q3, q4, q5⟩ := cr_run (w := w) mk RD SD SP cs hcs cx e1 e2 lt tw d0 P k10 k13 (w - lt) lt G k12 (by omega) (Nat.le_refl _) hl hr
    refine ⟨G', Frng lt, .v (.int (lt : Int)), k12', ⟨q1, q2, .inr ⟨lt, hlw, fun j hj r hx => ?_, fun r hx => ?_, rfl⟩⟩, ?_⟩
    · rw [q3 j hj] at hx
      have := List.all_eq_true.mp hn r (List.mem_of_getElem? hx)
      simpa using this
    · rw [q4 rfl (by omega)] at hx
      cases hx
      exact e3
    · have i4 := ixc cs 4 (by omega)
      have hw0 : ¬ w = 0 := by omega
      have hg : gRng2 [.int (lt : Int), .int (w : Int)] = .ok (rngD lt (w - lt)) := by
        have hc : cb ((-(2 ^ 62) ≤ (lt : Int) ∧ (lt : Int) < 2 ^ 62) ∧ -(2 ^ 62) ≤ (w : Int) ∧ (w : Int) < 2 ^ 62) = true := cb_t ⟨⟨by omega, by omega⟩, by omega, by omega⟩
        unfold gRng2
        simp only [hc, if_true]
        congr 2
        omega
      rw [rngD_nat] at hg
      generalize cs[4] = z4 at *
      have i4 : oIx (.lst (cs.map D.int)) (.int 4) = .ok (.int z4) := i4
      simp only [gIf, t0, rS_ok, if_true]
      have f1 : (gSet 11 (sOp oMod (sUn bIntT (sOp oIx (sRd 4) (sC (.int 4)))) (sRd 5))) (rf w mk RD SD SP (.lst (cs.map D.int)) (G.map rg) tw d0 P k10 k11 k12 k13) = .nx (rf w mk RD SD SP (.lst (cs.map D.int)) (G.map rg) tw d0 P k10 (.v (.int (lt : Int))) k12 k13) := by
        generalize G.map rg = G0 at *
        generalize cs.map D.int = C at *
        simp [-oIx, i4, hlt, hw0]
      have f2 : (gFor (iRg2 (aCons (sVar 11) (aCons (sVar 5) aNil))) (PF.gName 12) b1_ulaw_refuses) (rf w mk RD SD SP (.lst (cs.map D.int)) (G.map rg) tw d0 P k10 (.v (.int (lt : Int))) k12 k13) = .nx (rf w mk RD SD SP (.lst (cs.map D.int)) (G'.map rg) tw d0 P k10 (.v (.int (lt : Int))) k12' k13) := by
        simp only [gFor, iRg2, aCons, aNil, sVar, List.getElem?_cons_zero, List.getElem?_cons_succ, Res.bind_ok, hg, rS_ok]
        exact q5
      refine (seq_nx f1).trans ((seq_nx f2).trans ?_)
      simp
  · have t0 : (sTest (sOp oEq (sOp oMod (sOp oFdiv (sRd 0) (sC (.int 2))) (sC (.int 2))) (sC (.int 1)))) (rf w mk RD SD SP (.lst (cs.map D.int)) (G.map rg) tw d0 P k10 k11 k12 k13) = .ok false := by simp [d2, c]
    exact ⟨G, d0, k11, k12, ⟨hl, hr, .inl ⟨hn, rfl⟩⟩, if_nx t0⟩
theorem stageE (h1 : 1 ≤ w) (hcs : 12 ≤ cs.length) (d0 : D) (G P : List D) (hl : G.length = w) (hw : w ≤ 8) (k10 k11 k12 k13 : Cell) : ∃ (G' : List D) (tw' : Int) (due : D) (k13' : Cell), ((G' = G ∧ tw' = (w : Int) ∧ due = d0) ∨ (due = Fnum ∧ (tw' < 1 ∨ 8 < tw' ∨ (G'.length : Int) ≠ tw'))) ∧
    (gIf (sTest (sOp oEq (sOp oMod (sRd 0) (sC (.int 2))) (sC (.int 1)))) (gSeq (gSet 13 (sOp oMod (sUn bIntT (sOp oIx (sRd 4) (sC (.int 9)))) (sC (.int 4))))
    (gSeq (gIf (sTest (sOp oLt (sRd 13) (sC (.int 2)))) (gSet 7 (sOp oIx (sLst (fLst (aCons (sC (.int 0)) (aCons (sC (.int 9)) aNil)))) (sRd 13))) (gIf (sTest (sOp oEq (sRd 13) (sC (.int 2)))) (gPop 6) (gApp 6 (sTup (aCons (sC .non) (aCons (sC .non) aNil))))))
    (gSet 8 (sTup (aCons (sC (.str "number")) (aCons (sC (.int 0)) aNil)))))) PF.gNil) (rf w mk RD SD SP (.lst (cs.map D.int)) G (.int (w : Int)) d0 P k10 k11 k12 k13) = .nx (rf w mk RD SD SP (.lst (cs.map D.int)) G' (.int tw') due P k10 k11 k12 k13') := by
  by_cases c : mk.fmod 2 = 1
  · have t0 : (sTest (sOp oEq (sOp oMod (sRd 0) (sC (.int 2))) (sC (.int 1)))) (rf w mk RD SD SP (.lst (cs.map D.int)) G (.int (w : Int)) d0 P k10 k11 k12 k13) = .ok true := by simp [c]
    have i9 := ixc cs 9 (by omega)
    have h4 := fmod_b cs[9] 4 (by decide)
    generalize cs[9] = z9 at *
    have i9 : oIx (.lst (cs.map D.int)) (.int 9) = .ok (.int z9) := i9
    generalize cs.map D.int = C at *
    have f1 : (gSet 13 (sOp oMod (sUn bIntT (sOp oIx (sRd 4) (sC (.int 9)))) (sC (.int 4)))) (rf w mk RD SD SP (.lst C) G (.int (w : Int)) d0 P k10 k11 k12 k13) = .nx (rf w mk RD SD SP (.lst C) G (.int (w : Int)) d0 P k10 k11 k12 (.v (.int (z9.fmod 4)))) := by simp [-oIx, i9]
    generalize z9.fmod 4 = q at *
    have mid : ∃ (G' : List D) (tw' : Int), (tw' < 1 ∨ 8 < tw' ∨ (G'.length : Int) ≠ tw') ∧ (gIf (sTest (sOp oLt (sRd 13) (sC (.int 2)))) (gSet 7 (sOp oIx (sLst (fLst (aCons (sC (.int 0)) (aCons (sC (.int 9)) aNil)))) (sRd 13))) (gIf (sTest (sOp oEq (sRd 13) (sC (.int 2)))) (gPop 6) (gApp 6 (sTup (aCons (sC .non) (aCons (sC .non) aNil)))))) (rf w mk RD SD SP (.lst C) G (.int (w : Int)) d0 P k10 k11 k12 (.v (.int q))) = .nx (rf w mk RD SD SP (.lst C) G' (.int tw') d0 P k10 k11 k12 (.v (.int q))) := by
      by_cases c1 : q < 2
      · obtain ⟨t, e1, e2⟩ := pickD (P := fun z => ∃ i : Int, z = .int i ∧ (i < 1 ∨ 8 < i)) [.int 0, .int 9] q h4.1 (by simpa using c1) (fun x hx => by
          simp only [List.mem_cons, List.not_mem_nil, or_false] at hx
          rcases hx with h | h <;> subst h
          · exact ⟨0, rfl, .inl (by omega)⟩
          · exact ⟨9, rfl, .inr (by omega)⟩)
        obtain ⟨i, rfl, hi⟩ := e1
        refine ⟨G, i, by omega, ?_⟩
        simp [-cb_iff, -cb_nif, -oIx, cb_t c1, e2]
      · by_cases c2 : q = 2
        · have hgl : G[G.length - 1]? = some (G[G.length - 1]'(by omega)) := List.getElem?_eq_getElem _
          refine ⟨G.dropLast, (w : Int), .inr (.inr (by rw [List.length_dropLast]; omega)), ?_⟩
          have pop : ∀ ρ : Sl, ρ[6]? = some (.o G) → gPop 6 ρ = .nx (ρ.set 6 (.o G.dropLast)) := fun ρ h => by
            unfold gPop
            rw [h]
            simp only [hgl]
          have t1 : (sTest (sOp oLt (sRd 13) (sC (.int 2)))) (rf w mk RD SD SP (.lst C) G (.int (w : Int)) d0 P k10 k11 k12 (.v (.int q))) = .ok false := by simp [-cb_iff, -cb_nif, cb_f c1]
          have t2 : (sTest (sOp oEq (sRd 13) (sC (.int 2)))) (rf w mk RD SD SP (.lst C) G (.int (w : Int)) d0 P k10 k11 k12 (.v (.int q))) = .ok true := by simp [c2]
          exact (if_f t1).trans ((if_t t2).trans (pop _ rfl))
        · have hl2 : G.length < 16777216 := by omega
          refine ⟨G ++ [.tup [.non, .non]], (w : Int), .inr (.inr (by simp; omega)), ?_⟩
          simp [-cb_iff, -cb_nif, cb_f c1, c2, hl2]
    obtain ⟨G', tw', m1, m2⟩ := mid
    refine ⟨G', tw', Fnum, .v (.int q), .inr ⟨rfl, m1⟩, ?_⟩
    simp only [gIf, t0, rS_ok, if_true]
    exact (seq_nx f1).trans ((seq_nx m2).trans (by simp))
  · have t0 : (sTest (sOp oEq (sOp oMod (sRd 0) (sC (.int 2))) (sC (.int 1)))) (rf w mk RD SD SP (.lst (cs.map D.int)) G (.int (w : Int)) d0 P k10 k11 k12 k13) = .ok false := by simp [c]
    exact ⟨G, (w : Int), d0, k13, .inl ⟨rfl, rfl, rfl⟩, if_nx t0⟩
end
section
variable {w : Nat}
theorem refuses_ok (mk : Int) {rs : List Rg} {ss : List Sn} {sp0 : Sn} {cs : List Int} (h1 : 1 ≤ w) (h8 : w ≤ 8) (hl : rs.length = w) (hr : ∀ r ∈ rs, RgB r) (hn : NoX rs) (hs : ∀ s ∈ ss, SnV w s) (hsp : SnV w sp0) (hm : ss.length ≤ 10) (hcs : 12 ≤ cs.length) (hcl : Cl cs) :
    f_ulaw_refuses [.int mk, .lst (rs.map rg), .lst (ss.map sn), sn sp0, .lst (cs.map D.int)] = .ok (.bl true) := by
  have hs2 : ∀ s ∈ ss ++ [sp0], SnV w s := fun s h => (List.mem_append.mp h).elim (hs s) fun q => by rw [List.mem_singleton.mp q]; exact hsp
  have pk := pairs_ok h8 (ss ++ [sp0]) hs2 (by simp; omega)
  obtain ⟨P0, hP0⟩ : ∃ P0 : List Sp, P0 = ((ss ++ [sp0]).map (toSp w)).take 10 := ⟨_, rfl⟩
  have l0 : P0.length = min 10 (ss.length + 1) := by rw [hP0]; simp
  have mem : ∀ s ∈ P0, ∃ y ∈ ss ++ [sp0], s = toSp w y := fun s h => by
    rw [hP0] at h
    obtain ⟨y, hy, e⟩ := List.mem_map.mp (List.mem_of_mem_take h)
    exact ⟨y, hy, e.symm⟩
  have v0 : ∀ s ∈ P0, SpV s := fun s h => by
    obtain ⟨y, hy, rfl⟩ := mem s h
    exact (hs2 y hy).v
  have g0 : P0.all (fun s => !badS w s) = true := List.all_eq_true.mpr fun s h => by
    obtain ⟨y, hy, rfl⟩ := mem s h
    rw [SnV.ok]
    rfl
  have cut : cutD (((ss ++ [sp0]).map (toSp w)).map sp) none (some 10) = P0.map sp := by
    rw [hP0]
    by_cases c : 10 ≤ ss.length + 1
    · have := cut_take (((ss ++ [sp0]).map (toSp w)).map sp) 10 (by simp; omega)
      rw [← List.map_take] at this
      exact this
    · unfold cutD
      have e1 : (((ss ++ [sp0]).map (toSp w)).map sp).length = ss.length + 1 := by simp
      have e2 : HT.sIx (((ss ++ [sp0]).map (toSp w)).map sp).length (((ss ++ [sp0]).map (toSp w)).map sp).length (some 10) = min 10 (ss.length + 1) := by
        rw [e1]
        exact HT.sIx_nat _ _ 10
      rw [HT.sIx_none, e2, List.drop_zero, Nat.sub_zero, ← List.map_take]
      congr 1
      rw [List.take_of_length_le (by simp; omega), List.take_of_length_le (by simp; omega)]
  obtain ⟨P1, d1, b1, b2, b3, b4⟩ := stageB (w := w) mk (.lst (rs.map rg)) (.lst (ss.map sn)) (sn sp0) cs (.int (w : Int)) (rs.map rg) P0 v0 g0 (by omega) (by omega) .e .e .e .e
  obtain ⟨P2, d2, k10, c1, c2⟩ := stageC (w := w) mk (.lst (rs.map rg)) (.lst (ss.map sn)) cs h8 hcs sp0 hsp (.int (w : Int)) d1 (rs.map rg) P1 b1 b2 b3 .e .e .e .e
  obtain ⟨G, d3, k11, k12, e1, e2⟩ := stageD (w := w) mk (.lst (rs.map rg)) (.lst (ss.map sn)) (sn sp0) cs h1 h8 hcs hcl (.int (w : Int)) d2 rs (P2.map sp) hl hr hn k10 .e .e .e
  obtain ⟨G', tw, d4, k13, f1, f2⟩ := stageE (w := w) mk (.lst (rs.map rg)) (.lst (ss.map sn)) (sn sp0) cs h1 hcs d3 (G.map rg) (P2.map sp) (by rw [List.length_map, e1.1]) h8 k10 k11 k12 .e
  have fin : f_ulaw_fault [.int 0, .non, .int tw, .lst G', .lst (P2.map sp)] = .ok d4 ∧ f_ulaw_is_fault [d4, d4] = .ok (.bl true) := by
    rcases f1 with ⟨rfl, rfl, rfl⟩ | ⟨rfl, q⟩
    · exact due_ok h1 h8 c1 e1
    · exact due_num q
  have rl : bLen (.lst (rs.map rg)) = .ok (.int (w : Int)) := by simp [hl]
  have cat : fCat (.lst (ss.map sn)) (.lst [sn sp0]) = .ok ((ss ++ [sp0]).map sn) := by
    rw [cat_ok (by simp; omega)]
    simp
  refine semF_ret ?_
  refine (seq_nx (ρ' := [.v (.int mk), .v (.lst (rs.map rg)), .v (.lst (ss.map sn)), .v (sn sp0), .v (.lst (cs.map D.int)), .v (.int (w : Int)), .o (rs.map rg), .e, .e, .e, .e, .e, .e, .e]) ?_).trans ?_
  · generalize rs.map rg = R at *
    simp [-bLen, rl]
  refine (seq_nx (ρ' := [.v (.int mk), .v (.lst (rs.map rg)), .v (.lst (ss.map sn)), .v (sn sp0), .v (.lst (cs.map D.int)), .v (.int (w : Int)), .o (rs.map rg), .v (.int (w : Int)), .e, .e, .e, .e, .e, .e]) rfl).trans ?_
  refine (seq_nx (ρ' := [.v (.int mk), .v (.lst (rs.map rg)), .v (.lst (ss.map sn)), .v (sn sp0), .v (.lst (cs.map D.int)), .v (.int (w : Int)), .o (rs.map rg), .v (.int (w : Int)), .v Fno, .e, .e, .e, .e, .e]) ?_).trans ?_
  · simp
  refine (seq_nx (ρ' := rf w mk (.lst (rs.map rg)) (.lst (ss.map sn)) (sn sp0) (.lst (cs.map D.int)) (rs.map rg) (.int (w : Int)) Fno (P0.map sp) .e .e .e .e) ?_).trans ?_
  · generalize (ss ++ [sp0]).map sn = A at *
    generalize ((ss ++ [sp0]).map (toSp w)).map sp = B at *
    generalize P0.map sp = C at *
    generalize ss.map sn = E at *
    generalize sn sp0 = F at *
    simp [-fCat, cat, pk, cut]
  refine (seq_nx b4).trans ((seq_nx c2).trans ((seq_nx e2).trans ((seq_nx f2).trans ?_)))
  generalize P2.map sp = P at *
  generalize rs.map rg = R at *
  generalize ss.map sn = E at *
  have ht : thaw d4 = .ok d4 := by
    rcases f1 with ⟨_, _, rfl⟩ | ⟨rfl, _⟩
    · rcases e1.2.2 with ⟨_, rfl⟩ | ⟨i, _, _, _, rfl⟩
      · rcases c1.2.2 with ⟨_, _, rfl⟩ | ⟨_, _, rfl⟩ | ⟨_, _, _, _, _, rfl⟩ <;> rfl
      · rfl
    · rfl
  simp [-thaw, fin.1, ht, fin.2]
end
end M_k12

set_option Elab.async false
set_option linter.all false
set_option maxRecDepth 100000
set_option maxHeartbeats 2000000
namespace M_k12
open PySem L2 PF ML S_k12 LC_k12 LM_k12 XL
section
variable {w : Nat}
theorem sd_of {rs : List Rg} {ss : List Sn} (h1 : 1 ≤ w) (h8 : w ≤ 8) (hl : rs.length = w) (hr : ∀ r ∈ rs, RgB r) (hn : NoX rs) (hs : ∀ s ∈ ss, SnV w s) (hm : ss.length ≤ 10) : Sd w rs (ss.map (toSp w)) :=
  ⟨h1, h8, hl, hr, hn, by simpa using hm, fun s h => by
    obtain ⟨y, hy, rfl⟩ := List.mem_map.mp h
    exact (hs y hy).v, List.all_eq_true.mpr fun s h => by
    obtain ⟨y, hy, rfl⟩ := List.mem_map.mp h
    rw [SnV.ok]
    rfl⟩
theorem sm_range {rs : List Rg} {ss : List Sp} {f : Sl → Res D} {fs : Sl → Res (List D)} {ρ : Sl} {ds : List D} {w2 : Nat} {rs2 : List Rg} {ss2 : List Sp} (hf : f ρ = .ok (studyO w rs ss)) (hfs : fs ρ = .ok ds) (h : f_Study_with_range (studyO w rs ss :: ds) = .ok (studyO w2 rs2 ss2)) : sMeth mt_with_range "with_range" f fs ρ = .ok (studyO w2 rs2 ss2) := by
  simp only [sMeth, rMeth, hf, Res.bind_ok, ns3, if_false, ls3, hfs, h]
  rfl
theorem sm_seen {rs : List Rg} {ss : List Sp} {f : Sl → Res D} {fs : Sl → Res (List D)} {ρ : Sl} {ds : List D} {w2 : Nat} {rs2 : List Rg} {ss2 : List Sp} (hf : f ρ = .ok (studyO w rs ss)) (hfs : fs ρ = .ok ds) (h : f_Study_with_seen (studyO w rs ss :: ds) = .ok (studyO w2 rs2 ss2)) : sMeth mt_with_seen "with_seen" f fs ρ = .ok (studyO w2 rs2 ss2) := by
  simp only [sMeth, rMeth, hf, Res.bind_ok, ns1, if_false, ls1, hfs, h]
  rfl
theorem sm_less {rs : List Rg} {ss : List Sp} {f : Sl → Res D} {fs : Sl → Res (List D)} {ρ : Sl} {ds : List D} {w2 : Nat} {rs2 : List Rg} {ss2 : List Sp} (hf : f ρ = .ok (studyO w rs ss)) (hfs : fs ρ = .ok ds) (h : f_Study_without_seen (studyO w rs ss :: ds) = .ok (studyO w2 rs2 ss2)) : sMeth mt_without_seen "without_seen" f fs ρ = .ok (studyO w2 rs2 ss2) := by
  simp only [sMeth, rMeth, hf, Res.bind_ok, ns2, if_false, ls2, hfs, h]
  rfl
theorem nb {d : D} : (Res.ok d : Res D) ≠ .bad := fun z => by cases z
theorem neb {c : Str} {fl : List (Str × D)} : (Res.exc c fl : Res D) ≠ .bad := fun z => by cases z
/-- the study with one more -/
theorem seen_more {rs : List Rg} {ss : List Sn} {s : Sn} (d : Sd w rs ((ss ++ [s]).map (toSp w))) : f_Study_with_seen [studyO w rs (ss.map (toSp w)), menuO w s.1, .int (s.2 : Int)] = .ok (studyO w rs ((ss ++ [s]).map (toSp w))) := by
  have e : ((ss ++ [s]).map (toSp w)).map sp = (ss.map (toSp w)).map sp ++ [.tup [menuO w s.1, .int (s.2 : Int)]] := by simp [sp, toSp]
  have hm := d.hm
  exact with_seen_R _ _ (by simp at hm ⊢; omega) (by rw [← e]; exact mkR_ok d (.inr rfl) (.inr rfl)) nb
theorem seen_less {rs : List Rg} {ss : List Sn} {k : Nat} (hk : k < ss.length) (hm : ss.length ≤ 100) (d : Sd w rs ((ss.take k ++ ss.drop (k + 1)).map (toSp w))) : f_Study_without_seen [studyO w rs (ss.map (toSp w)), .int (k : Int)] = .ok (studyO w rs ((ss.take k ++ ss.drop (k + 1)).map (toSp w))) := by
  have e : (ss.map (toSp w)).take k ++ (ss.map (toSp w)).drop (k + 1) = (ss.take k ++ ss.drop (k + 1)).map (toSp w) := by simp [List.map_take, List.map_drop]
  exact without_R (by simpa using hk) (by simpa using hm) (by rw [e]; exact mkR_ok d (.inr rfl) (.inr rfl)) nb
abbrev chg (rs : List Rg) (k : Nat) (f : Rg) : List Rg := rs.take k ++ [f] ++ rs.drop (k + 1)
theorem range_new {rs : List Rg} {ss : List Sp} {k : Nat} {f : Rg} (hl : rs.length = w) (hk : k < w) (h8 : w ≤ 8) (d : Sd w (chg rs k f) ss) : f_Study_with_range [studyO w rs ss, .int (k : Int), bo f.1, bo f.2] = .ok (studyO w (chg rs k f) ss) :=
  with_range_R f.1 f.2 hl hk (by omega) (mkR_ok d (.inr rfl) (.inr rfl)) nb
theorem chg_ok {rs : List Rg} {k : Nat} {f : Rg} (hl : rs.length = w) (hk : k < w) (hr : ∀ r ∈ rs, RgB r) (hf : RgB f) : (chg rs k f).length = w ∧ (∀ r ∈ chg rs k f, RgB r) := by
  refine ⟨by simp; omega, fun r h => ?_⟩
  rcases List.mem_append.mp h with h | h
  · rcases List.mem_append.mp h with h | h
    · exact hr r (List.mem_of_mem_take h)
    · rw [List.mem_singleton.mp h]; exact hf
  · exact hr r (List.mem_of_mem_drop h)
theorem chg_no {rs : List Rg} {k : Nat} {f : Rg} (hn : NoX rs) (hf : xs f = false) : NoX (chg rs k f) := List.all_eq_true.mpr fun r h => by
  have a := List.all_eq_true.mp hn
  rcases List.mem_append.mp h with h | h
  · rcases List.mem_append.mp h with h | h
    · exact a r (List.mem_of_mem_take h)
    · rw [List.mem_singleton.mp h, hf]; rfl
  · exact a r (List.mem_of_mem_drop h)
theorem chg_get {rs : List Rg} {k : Nat} {f : Rg} (hk : k < rs.length) : (∀ j, j < k → (chg rs k f)[j]? = rs[j]?) ∧ (chg rs k f)[k]? = some f := by
  have hl : (rs.take k).length = k := by rw [List.length_take]; omega
  refine ⟨fun j hj => ?_, ?_⟩
  · show (rs.take k ++ [f] ++ rs.drop (k + 1))[j]? = _
    rw [List.append_assoc, List.getElem?_append_left (by omega), List.getElem?_take_of_lt hj]
  · show (rs.take k ++ [f] ++ rs.drop (k + 1))[k]? = _
    rw [List.append_assoc, List.getElem?_append_right (by omega), hl, Nat.sub_self]
    rfl
/-- a range that is crossed -/
theorem range_bad {rs : List Rg} {ss : List Sp} {k : Nat} {f : Rg} (h1 : 1 ≤ w) (hl : rs.length = w) (hk : k < w) (h8 : w ≤ 8) (hr : ∀ r ∈ rs, RgB r) (hn : NoX rs) (hf : RgB f) (hx : xs f = true) : f_Study_with_range [studyO w rs ss, .int (k : Int), bo f.1, bo f.2] = .exc "BadRange" [("letter", .int (k : Int))] := by
  obtain ⟨c1, c2⟩ := chg_ok hl hk hr hf
  obtain ⟨g1, g2⟩ := chg_get (rs := rs) (k := k) (f := f) (by omega)
  refine with_range_R f.1 f.2 hl hk (by omega) (mkR_ex fun x => st_range x h1 h8 (.inr rfl) c1 c2 k (by omega) (fun j hj r hx => ?_) fun r hx' => ?_) neb
  · have hx : (chg rs k f)[j]? = some r := hx
    rw [g1 j hj] at hx
    have := List.all_eq_true.mp hn r (List.mem_of_getElem? hx)
    simpa using this
  · have hx' : (chg rs k f)[k]? = some r := hx'
    rw [g2] at hx'
    cases hx'
    exact hx
theorem seen_many {rs : List Rg} {ss : List Sn} (d : Sd w rs (ss.map (toSp w))) (hm : ss.length = 10) (b : Sp) : f_Study_with_seen [studyO w rs (ss.map (toSp w)), menuO b.w b.rows, b.plan] = .exc "TooMany" [("limit", .int 10), ("word", .str "seen")] := by
  have e : ((ss.map (toSp w)) ++ [b]).map sp = (ss.map (toSp w)).map sp ++ [.tup [menuO b.w b.rows, b.plan]] := by simp [sp]
  refine with_seen_R _ _ (by simp; omega) ?_ neb
  rw [← e]
  exact mkR_ex fun x => st_many x d.h1 d.h8 (.inr rfl) d.hl d.hb d.hn (.inr rfl) (by simp; omega)
theorem seen_wrong {rs : List Rg} {ss : List Sn} (d : Sd w rs (ss.map (toSp w))) (hm : ss.length < 10) (b : Sp) (hb : SpV b) (hx : badS w b = true) : f_Study_with_seen [studyO w rs (ss.map (toSp w)), menuO b.w b.rows, b.plan] = .exc "BadSeen" [("place", .int (ss.length : Int))] := by
  have e : ((ss.map (toSp w)) ++ [b]).map sp = (ss.map (toSp w)).map sp ++ [.tup [menuO b.w b.rows, b.plan]] := by simp [sp]
  refine with_seen_R _ _ (by simp; omega) ?_ neb
  rw [← e]
  have hl : (ss.map (toSp w)).length = ss.length := by simp
  exact mkR_ex fun x => st_seen x d.h1 d.h8 (.inr rfl) d.hl d.hb d.hn (.inr rfl) (by simp; omega) (fun s h => (List.mem_append.mp h).elim (d.hv s) fun q => by rw [List.mem_singleton.mp q]; exact hb) ss.length (by simp) (fun j hj s hs => by
    rw [List.getElem?_append_left (by omega)] at hs
    have := List.all_eq_true.mp d.hg s (List.mem_of_getElem? hs)
    simpa using this) fun s hs => by
    rw [List.getElem?_append_right (by omega), hl, Nat.sub_self] at hs
    cases hs
    exact hx
end
end M_k12

set_option Elab.async false
set_option linter.all false
set_option maxRecDepth 100000
set_option maxHeartbeats 1000000
/- combinator lemmas: one step of a def, without simp -/
namespace XC
open PySem L2 PF ML XL
section
variable {ρ : Sl}
theorem a1 {f : Sl → Res D} {a : D} (h1 : f ρ = .ok a) : aCons f aNil ρ = .ok [a] := by simp only [aCons, aNil, h1, Res.bind_ok]
theorem a2 {f g : Sl → Res D} {a b : D} (h1 : f ρ = .ok a) (h2 : g ρ = .ok b) : aCons f (aCons g aNil) ρ = .ok [a, b] := by simp only [aCons, aNil, h1, h2, Res.bind_ok]
theorem a3 {f g h : Sl → Res D} {a b c : D} (h1 : f ρ = .ok a) (h2 : g ρ = .ok b) (h3 : h ρ = .ok c) : aCons f (aCons g (aCons h aNil)) ρ = .ok [a, b, c] := by simp only [aCons, aNil, h1, h2, h3, Res.bind_ok]
theorem a4 {f g h i : Sl → Res D} {a b c d : D} (h1 : f ρ = .ok a) (h2 : g ρ = .ok b) (h3 : h ρ = .ok c) (h4 : i ρ = .ok d) : aCons f (aCons g (aCons h (aCons i aNil))) ρ = .ok [a, b, c, d] := by simp only [aCons, aNil, h1, h2, h3, h4, Res.bind_ok]
theorem a5 {f g h i j : Sl → Res D} {a b c d e : D} (h1 : f ρ = .ok a) (h2 : g ρ = .ok b) (h3 : h ρ = .ok c) (h4 : i ρ = .ok d) (h5 : j ρ = .ok e) : aCons f (aCons g (aCons h (aCons i (aCons j aNil)))) ρ = .ok [a, b, c, d, e] := by simp only [aCons, aNil, h1, h2, h3, h4, h5, Res.bind_ok]
theorem a_cons {f : Sl → Res D} {g : Sl → Res (List D)} {a : D} {ds : List D} (h1 : f ρ = .ok a) (h2 : g ρ = .ok ds) : aCons f g ρ = .ok (a :: ds) := by simp only [aCons, h1, h2, Res.bind_ok]
theorem un_ok {o : D → Res D} {f : Sl → Res D} {a c : D} (h1 : f ρ = .ok a) (h3 : o a = .ok c) : sUn o f ρ = .ok c := by simp only [sUn, h1, Res.bind_ok, h3]
theorem op_ok {o : D → D → Res D} {f g : Sl → Res D} {a b c : D} (h1 : f ρ = .ok a) (h2 : g ρ = .ok b) (h3 : o a b = .ok c) : sOp o f g ρ = .ok c := by simp only [sOp, h1, h2, Res.bind_ok, h3]
theorem call_ok {g : List D → Res D} {fs : Sl → Res (List D)} {ds : List D} {d : D} (h : fs ρ = .ok ds) (h2 : g ds = .ok d) (h3 : thaw d = .ok d) : sCall g fs ρ = .ok d := by simp only [sCall, h, Res.bind_ok, h2, h3]
theorem call_fr {g : List D → Res D} {fs : Sl → Res (List D)} {ds xs : List D} (h : fs ρ = .ok ds) (h2 : g ds = .ok (.fr xs)) : sCall g fs ρ = .ok (.lst xs) := by simp only [sCall, h, Res.bind_ok, h2]; rfl
theorem lst_ok {f : Sl → Res (List D)} {xs : List D} (h : f ρ = .ok xs) : sLst f ρ = .ok (.lst xs) := by simp only [sLst, h, Res.bind_ok]
theorem fop_ok {o : D → D → Res (List D)} {f g : Sl → Res D} {a b : D} {c : List D} (h1 : f ρ = .ok a) (h2 : g ρ = .ok b) (h3 : o a b = .ok c) : fOp o f g ρ = .ok c := by simp only [fOp, h1, h2, Res.bind_ok, h3]
theorem fun_ok {o : D → Res (List D)} {f : Sl → Res D} {a : D} {c : List D} (h1 : f ρ = .ok a) (h3 : o a = .ok c) : fUn o f ρ = .ok c := by simp only [fUn, h1, Res.bind_ok, h3]
theorem lit_ok {f : Sl → Res (List D)} {xs : List D} (h : f ρ = .ok xs) (hl : xs.length ≤ 16777216 := by simp) : fLst f ρ = .ok xs := by simp only [fLst, h, Res.bind_ok, hl, if_true]
theorem tup_ok {f : Sl → Res (List D)} {xs : List D} (h : f ρ = .ok xs) (hl : xs.length ≤ 16777216 := by simp) : sTup f ρ = .ok (.tup xs) := by simp only [sTup, h, Res.bind_ok, hl, if_true]
theorem sl_l {f : Sl → Res D} {xs : List D} {k : Nat} {e : Sl → Res D} (h : f ρ = .ok (.lst xs)) (he : e ρ = .ok (.int (k : Int))) (hk : k ≤ xs.length) : sSl f pNone (pSome e) ρ = .ok (.lst (xs.take k)) := by simp only [sSl, h, pNone, pSome, he, Res.bind_ok, cut_take xs k hk]
theorem sl_r {f : Sl → Res D} {xs : List D} {k : Nat} {e : Sl → Res D} (h : f ρ = .ok (.lst xs)) (he : e ρ = .ok (.int (k : Int))) (hk : k ≤ xs.length) : sSl f (pSome e) pNone ρ = .ok (.lst (xs.drop k)) := by simp only [sSl, h, pNone, pSome, he, Res.bind_ok, cut_drop xs k hk]
theorem sl_m {f : Sl → Res D} {xs : List D} {i j : Nat} {e g : Sl → Res D} (h : f ρ = .ok (.lst xs)) (he : e ρ = .ok (.int (i : Int))) (hg : g ρ = .ok (.int (j : Int))) (hi : i ≤ j) (hj : j ≤ xs.length) : sSl f (pSome e) (pSome g) ρ = .ok (.lst ((xs.drop i).take (j - i))) := by simp only [sSl, h, pSome, he, hg, Res.bind_ok, cut_mid xs i j hi hj]
theorem tsl_l {f : Sl → Res D} {xs : List D} {k : Nat} {e : Sl → Res D} (h : f ρ = .ok (.tup xs)) (he : e ρ = .ok (.int (k : Int))) (hk : k ≤ xs.length) : sSl f pNone (pSome e) ρ = .ok (.tup (xs.take k)) := by simp only [sSl, h, pNone, pSome, he, Res.bind_ok, cut_take xs k hk]
theorem tsl_r {f : Sl → Res D} {xs : List D} {k : Nat} {e : Sl → Res D} (h : f ρ = .ok (.tup xs)) (he : e ρ = .ok (.int (k : Int))) (hk : k ≤ xs.length) : sSl f (pSome e) pNone ρ = .ok (.tup (xs.drop k)) := by simp only [sSl, h, pNone, pSome, he, Res.bind_ok, cut_drop xs k hk]
theorem set_ok {i : Nat} {f : Sl → Res D} {d : D} (h : f ρ = .ok d) : gSet i f ρ = .nx (ρ.set i (.v d)) := by simp only [gSet, h, rS_ok]
theorem if_t {t : Sl → Res Bool} {a b : Sl → Out} (h : t ρ = .ok true) : gIf t a b ρ = a ρ := by simp only [gIf, h, rS_ok, if_true]
theorem if_f {t : Sl → Res Bool} {a b : Sl → Out} (h : t ρ = .ok false) : gIf t a b ρ = b ρ := by simp only [gIf, h, rS_ok]; rfl
theorem tru {t : Sl → Res D} (h : t ρ = .ok (.bl true)) : (PF.tNot (tTru t)) ρ = .ok false := by simp [h]
theorem add_int (a b : Int) : oAdd (.int a) (.int b) = .ok (.int (a + b)) := rfl
/-- i + 1 of a number -/
theorem succ_ok {f : Sl → Res D} {k : Nat} (h : f ρ = .ok (.int (k : Int))) : sOp oAdd f (sC (.int 1)) ρ = .ok (.int ((k + 1 : Nat) : Int)) := op_ok h rfl rfl
/-- xs[:k] + [d] + xs[k+1:] -/
theorem chg_ok {f g h : Sl → Res D} {xs : List D} {k : Nat} {d : D} (hf : f ρ = .ok (.lst xs)) (hg : g ρ = .ok (.int (k : Int))) (hh : h ρ = .ok d) (hk : k < xs.length) (hx : xs.length ≤ 10000) : sLst (fOp fCat (sLst (fOp fCat (sSl f pNone (pSome g)) (sLst (fLst (aCons h aNil))))) (sSl f (pSome (sOp oAdd g (sC (.int 1)))) pNone)) ρ = .ok (.lst (xs.take k ++ [d] ++ xs.drop (k + 1))) :=
  lst_ok (fop_ok (lst_ok (fop_ok (sl_l hf hg (by omega)) (lst_ok (lit_ok (a1 hh))) (cat_ok (by simp; omega)))) (sl_r hf (succ_ok hg) (by omega)) (cat_ok (by simp; omega)))
/-- xs[:k] + xs[k+1:] -/
theorem less_ok {f g : Sl → Res D} {xs : List D} {k : Nat} (hf : f ρ = .ok (.lst xs)) (hg : g ρ = .ok (.int (k : Int))) (hk : k < xs.length) (hx : xs.length ≤ 10000) : sOp oAdd (sSl f pNone (pSome g)) (sSl f (pSome (sOp oAdd g (sC (.int 1)))) pNone) ρ = .ok (.lst (xs.take k ++ xs.drop (k + 1))) :=
  op_ok (sl_l hf hg (by omega)) (sl_r hf (succ_ok hg) (by omega)) (add_lst (by simp; omega))
theorem par_oo {i j : Nat} {f h : Sl → Res (List D)} {xs ys : List D} (h1 : f ρ = .ok xs) (h2 : h ρ = .ok ys) : gParOO i j f h ρ = .nx ((ρ.set i (.o xs)).set j (.o ys)) := by simp only [gParOO, h1, h2, rS_ok]
theorem fcall_fr {g : List D → Res D} {fs : Sl → Res (List D)} {ds xs : List D} (h : fs ρ = .ok ds) (h2 : g ds = .ok (.fr xs)) : fCall g fs ρ = .ok xs := by simp only [fCall, h, Res.bind_ok, h2, unfr]
theorem lend_ok {i : Nat} {f : Sl → Res D} {ds : List D} {a : D} (h : ρ[i]? = some (.o ds)) (hf : f (ρ.set i (.v (.lst ds))) = .ok a) (hn : nol a = true) : sLend i f ρ = .ok a := by simp only [sLend, h, hf, Res.nx, Res.bind_ok, hn, if_true]
theorem app_ok {i : Nat} {R : List D} {f : Sl → Res D} {d : D} (h : ρ[i]? = some (.o R)) (hf : f ρ = .ok d) (hl : R.length < 16777216) : gApp i f ρ = .nx (ρ.set i (.o (R ++ [d]))) := by simp only [gApp, h, hf, rS_ok, hl, if_true]
theorem sto_ok {i k : Nat} {R : List D} {f fi : Sl → Res D} {d : D} (h : ρ[i]? = some (.o R)) (hf : f ρ = .ok d) (hi : fi ρ = .ok (.int (k : Int))) (hl : k < R.length) : gSto i fi f ρ = .nx (ρ.set i (.o (R.set k d))) := by simp only [gSto, h, hf, hi, rS_ok, ixN_nat hl]
theorem if_nx {t : Sl → Res Bool} {a : Sl → Out} (ht : t ρ = .ok false) : gIf t a PF.gNil ρ = .nx ρ := by
  simp only [gIf, ht, rS_ok, PF.gNil]
  rfl
theorem or_ff {f g : Sl → Res Bool} (h1 : f ρ = .ok false) (h2 : g ρ = .ok false) : (PF.tOr f g) ρ = .ok false := by
  simp only [PF.tOr, h1, h2, Res.bind_ok]
  rfl
theorem and_f {f g : Sl → Res Bool} (h1 : f ρ = .ok false) : (PF.tAnd f g) ρ = .ok false := by
  simp only [PF.tAnd, h1, Res.bind_ok]
  rfl
theorem ret_ok {f : Sl → Res D} {d : D} (h : f ρ = .ok d) : gRet f ρ = .ret d := by simp only [gRet, h, rS_ok]
theorem mul_nat {a k : Nat} (h : a < 2 ^ 60) : oMul (.int (a : Int)) (.int (k : Int)) = .ok (.int ((a * k : Nat) : Int)) := by
  have h : mulOk (a : Int) (k : Int) = true := mulOk_l (by omega)
  simp only [oMul, h, if_true]
  rfl
/-- a comprehension over range(n) -/
theorem lc_rng {f : Sl → Res D} {b : Sl → Res D} {i n : Nat} {h : Nat → D} (hf : f ρ = .ok (.int (n : Int))) (hn : n ≤ 100000) (hb : ∀ k < n, b ((ρ.set i .e).set i (.v (.int (k : Int)))) = .ok (h k)) : fLc (iRg1 (aCons f aNil)) (PF.gName i) tYesF b [i] ρ = .ok ((List.range n).map h) := by
  have e : lcRun (PF.gName i) tYesF b (ρ.set i .e) (rngD 0 n) [] = .ok ((List.range n).map h) := lc_map (fun k : Nat => D.int (0 + (k : Int))) h (List.range n) (fun k hk => ⟨_, rfl, by rw [Int.zero_add]; exact hb k (by simpa using hk)⟩) (by simpa using hn)
  simp only [fLc, iRg1, a1 hf, Res.bind_ok, rng1_ok (show n ≤ 1000000 by omega), wipeS, e]
/-- a loop whose turns change nothing but its own name -/
theorem for_same {i : Nat} {body : Sl → Out} : ∀ (ds : List D) (c : Cell), (∀ d ∈ ds, body (ρ.set i (.v d)) = .nx (ρ.set i (.v d))) → ∃ c', forRun (PF.gName i) body ds (ρ.set i c) = .nx (ρ.set i c')
  | [], c, _ => ⟨c, rfl⟩
  | d :: ds, c, h => by
    obtain ⟨c', ih⟩ := for_same ds (.v d) fun x hx => h x (by simp [hx])
    refine ⟨c', ?_⟩
    have e := h d (by simp)
    simp only [forRun, PF.gName, List.set_set, e]
    exact ih
end
/-- a value for each number below n -/
theorem each {α : Type} {P : Nat → α → Prop} {n : Nat} (a : α) (h : ∀ k < n, ∃ x, P k x) : ∃ f : Nat → α, ∀ k < n, P k (f k) := by
  have : ∀ k, ∃ x, k < n → P k x := fun k => by
    by_cases c : k < n
    · obtain ⟨x, hx⟩ := h k c
      exact ⟨x, fun _ => hx⟩
    · exact ⟨a, fun z => absurd z c⟩
  exact Classical.axiomOfChoice this
end XC

set_option Elab.async false
set_option linter.all false
set_option maxRecDepth 100000
set_option maxHeartbeats 2000000
namespace M_k12
open PySem L2 PF ML S_k12 LC_k12 LM_k12 XL
section
variable {w : Nat}
theorem tru {t : Sl → Res D} {ρ : Sl} (h : t ρ = .ok (.bl true)) : (tNot (tTru t)) ρ = .ok false := by simp [h]
theorem isf {g h : Sl → Res (List D)} {ρ : Sl} {a t : D} (h1 : g ρ = .ok [a, t]) (h2 : f_ulaw_is_fault [a, t] = .ok (.bl true)) : (tNot (tTru (sCall f_ulaw_is_fault g))) ρ = .ok false := tru (by simp only [sCall, h1, Res.bind_ok, h2]; rfl)
theorem call1 {g : List D → Res D} {fs : Sl → Res (List D)} {ρ : Sl} {ds : List D} {d : D} (h : fs ρ = .ok ds) (h2 : g ds = .ok d) (h3 : thaw d = .ok d) : sCall g fs ρ = .ok d := by simp only [sCall, h, Res.bind_ok, h2, h3]
theorem a2 {f g : Sl → Res D} {ρ : Sl} {a b : D} (h1 : f ρ = .ok a) (h2 : g ρ = .ok b) : aCons f (aCons g aNil) ρ = .ok [a, b] := by simp only [aCons, aNil, h1, h2, Res.bind_ok]
theorem a5 {f g h i j : Sl → Res D} {ρ : Sl} {a b c d e : D} (h1 : f ρ = .ok a) (h2 : g ρ = .ok b) (h3 : h ρ = .ok c) (h4 : i ρ = .ok d) (h5 : j ρ = .ok e) : aCons f (aCons g (aCons h (aCons i (aCons j aNil)))) ρ = .ok [a, b, c, d, e] := by simp only [aCons, aNil, h1, h2, h3, h4, h5, Res.bind_ok]
/-- not is_fault(fault(..), due) does not hold -/
theorem flt {f1 f2 f3 f4 f5 fd : Sl → Res D} {ρ : Sl} {a b c d e t : D} {x : Str} {fl : List (Str × D)} (er : Er x fl t) (h1 : f1 ρ = .ok a) (h2 : f2 ρ = .ok b) (h3 : f3 ρ = .ok c) (h4 : f4 ρ = .ok d) (h5 : f5 ρ = .ok e) (hd : fd ρ = .ok t) (h : f_ulaw_fault [a, b, c, d, e] = .ok t) : (tNot (tTru (sCall f_ulaw_is_fault (aCons (sCall f_ulaw_fault (aCons f1 (aCons f2 (aCons f3 (aCons f4 (aCons f5 aNil)))))) (aCons fd aNil))))) ρ = .ok false := by
  have ht : thaw t = .ok t := by cases er <;> rfl
  exact tru (call1 (a2 (call1 (a5 h1 h2 h3 h4 h5) h ht) hd) (is_fault_ok er) rfl)
theorem ist {f1 f2 f3 : Sl → Res D} {ρ : Sl} {a b c : D} (h1 : f1 ρ = .ok a) (h2 : f2 ρ = .ok b) (h3 : f3 ρ = .ok c) (h : f_ulaw_is_study [a, b, c] = .ok (.bl true)) : (tNot (tTru (sCall f_ulaw_is_study (aCons f1 (aCons f2 (aCons f3 aNil)))))) ρ = .ok false := tru (call1 (a3 h1 h2 h3) h rfl)
theorem cut1 (cs : List Int) (k : Nat) (h : k ≤ cs.length) : cutD (cs.map D.int) (some (k : Int)) none = (cs.drop k).map D.int := by
  have := cut_drop (cs.map D.int) k (by simpa using h)
  rw [← List.map_drop] at this
  exact this
theorem ix0 (r : Rg) : oIx (rg r) (.int 0) = .ok (bo r.1) := rfl
theorem ix1 (r : Rg) : oIx (rg r) (.int 1) = .ok (bo r.2) := rfl
theorem sx0 (s : Sn) : oIx (sn s) (.int 0) = .ok (rowsL s.1) := rfl
theorem sx1 (s : Sn) : oIx (sn s) (.int 1) = .ok (.int (s.2 : Int)) := rfl
theorem px0 (s : Sp) : oIx (sp s) (.int 0) = .ok (menuO s.w s.rows) := rfl
theorem px1 (s : Sp) : oIx (sp s) (.int 1) = .ok s.plan := rfl
theorem bthaw (b : Option Rt) : thaw (bo b) = .ok (bo b) := by cases b <;> rfl
/-- places that are none -/
theorem loop14 {rs : List Rg} {ss : List Sp} {body : Sl → Out} (pre : List Cell) (post : List Cell) (hpre : pre.length = 14) : ∀ (is : List Int) (k : Cell), (∀ i ∈ is, body (pre ++ .v (.int i) :: post) = .nx (pre ++ .v (.int i) :: post)) → ∃ k', forRun (PF.gName 14) body (is.map D.int) (pre ++ k :: post) = .nx (pre ++ k' :: post)
  | [], k, _ => ⟨k, rfl⟩
  | i :: is, k, h => by
    obtain ⟨k', ih⟩ := loop14 (rs := rs) (ss := ss) (body := body) pre post hpre is (.v (.int i)) fun j hj => h j (by simp [hj])
    refine ⟨k', ?_⟩
    have e : (pre ++ k :: post).set 14 (.v (.int i)) = pre ++ .v (.int i) :: post := by
      rw [List.set_append_right _ _ (by omega), hpre]
      rfl
    simp only [List.map_cons, forRun, PF.gName, e, h i (by simp)]
    exact ih
theorem further_ok {rs : List Rg} {ss : List Sn} {sp0 : Sn} {cs : List Int} (h1 : 1 ≤ w) (h8 : w ≤ 8) (hl : rs.length = w) (hr : ∀ r ∈ rs, RgB r) (hn : NoX rs) (hs : ∀ s ∈ ss, SnV w s) (hsp : SnV w sp0) (hm : ss.length ≤ 10) (hcs : 12 ≤ cs.length) (hcl : Cl cs) :
    f_ulaw_further [studyO w rs (ss.map (toSp w)), .lst (rs.map rg), .lst (ss.map sn), sn sp0, .lst (cs.map D.int)] = .ok (.bl true) := by
  have D0 := sd_of h1 h8 hl hr hn hs hm
  have hb := fmod_b cs[0] w (by omega)
  obtain ⟨lt, hlt⟩ : ∃ lt : Nat, (cs[0]).fmod w = (lt : Int) := ⟨_, (Int.toNat_of_nonneg hb.1).symm⟩
  have hlw : lt < w := by omega
  obtain ⟨fr, fr1, fr2, fr3⟩ := range_ok (cs.drop 1) (fun x hx => hcl x (List.mem_of_mem_drop hx)) (by simp; omega)
  obtain ⟨cx, cx1, cx2, cx3⟩ := crossed_ok (cs.drop 6) (fun x hx => hcl x (List.mem_of_mem_drop hx)) (by simp; omega)
  obtain ⟨b, b1, b2, b3⟩ := spoilt_ok sp0 hsp cs[9]
  have CH := chg_ok hl hlw hr fr2.b
  have CN := chg_no (k := lt) hn fr3
  have D1 := sd_of h1 h8 CH.1 CH.2 CN hs hm
  have rn := range_new (ss := ss.map (toSp w)) hl hlw h8 D1
  have q1 := is_study_ok (rs := chg rs lt fr) CH.1 h8 hs (by omega)
  have mkm : ∀ ρ : Sl, ρ[5]? = some (.v (.int (w : Int))) → ρ[3]? = some (.v (sn sp0)) → sMake "Menu" f_Menu_init (aCons (sVar 5) (aCons (sLst (fUn bLst (sOp oIx (sRd 3) (sC (.int 0))))) aNil)) ρ = .ok (menuO w sp0.1) := fun ρ h5 h3 => make_ok hsp.m (a2 (by simp only [sVar, h5]) (by
    simp only [sLst, fUn, sOp, sRd, h3, sC, Res.bind_ok, sx0, lstL]
    rfl))
  have hs2 : ∀ s ∈ ss ++ [sp0], SnV w s := fun s h => (List.mem_append.mp h).elim (hs s) fun q => by rw [List.mem_singleton.mp q]; exact hsp
  have i0 : oIx (.lst (cs.map D.int)) (.int 0) = .ok (.int cs[0]) := ixc cs 0 (by omega)
  have i9 : oIx (.lst (cs.map D.int)) (.int 9) = .ok (.int cs[9]) := ixc cs 9 (by omega)
  have i10 : oIx (.lst (cs.map D.int)) (.int 10) = .ok (.int cs[10]) := ixc cs 10 (by omega)
  have u1 : cutD (cs.map D.int) (some 1) none = (cs.drop 1).map D.int := cut1 cs 1 (by omega)
  have u6 : cutD (cs.map D.int) (some 6) none = (cs.drop 6).map D.int := cut1 cs 6 (by omega)
  have lr : bLen (.lst (rs.map rg)) = .ok (.int (w : Int)) := by simp [hl]
  have ls : bLen (.lst (ss.map sn)) = .ok (.int (ss.length : Int)) := by simp
  have c1 := cut_take (rs.map rg) lt (by simp; omega)
  have c2 := cut_drop (rs.map rg) (lt + 1) (by simp; omega)
  have c3 : fCat (.lst ((rs.map rg).take lt)) (.lst [rg fr]) = .ok ((rs.map rg).take lt ++ [rg fr]) := cat_ok (by simp; omega)
  have c4 : fCat (.lst ((rs.map rg).take lt ++ [rg fr])) (.lst ((rs.map rg).drop (lt + 1))) = .ok ((chg rs lt fr).map rg) := by
    rw [cat_ok (by simp; omega)]
    simp [List.map_take, List.map_drop]
  have sec := fun k => seen_less (w := w) (rs := rs) (ss := ss) (k := k)
  have zcut : ∀ k, k ≤ ss.length → cutD (ss.map sn) none (some (k : Int)) = (ss.take k).map sn := fun k h => by rw [cut_take _ k (by simpa using h), List.map_take]
  have zdrop : ∀ k, k ≤ ss.length → cutD (ss.map sn) (some (k : Int)) none = (ss.drop k).map sn := fun k h => by rw [cut_drop _ k (by simpa using h), List.map_drop]
  have hC6 : f_ulaw_crossed [.lst ((cs.drop 6).map D.int)] = .ok (rg cx) := cx1
  have hC1 : f_ulaw_range [.lst ((cs.drop 1).map D.int)] = .ok (rg fr) := fr1
  generalize (cs.drop 6).map D.int = C6 at *
  generalize (cs.drop 1).map D.int = C1 at *
  have hb10 : 0 < ss.length → 0 ≤ (cs[10]).fmod ss.length ∧ (cs[10]).fmod ss.length < ss.length := fun h => fmod_b _ _ (by omega)
  generalize cs[0] = z0 at *
  generalize cs[9] = z9 at *
  generalize cs[10] = z10 at *
  have trg : ∀ r : Rg, thaw (rg r) = .ok (rg r) := fun r => rfl
  have tsp : ∀ s : Sp, thaw (sp s) = .ok (sp s) := fun r => rfl
  have e3 : (lt : Int) + 1 = ((lt + 1 : Nat) : Int) := by omega
  have hw0 : ¬ w = 0 := by omega
  generalize hCC : cs.map D.int = CC at *
  refine semF_ret ?_
  refine (seq_nx (ρ' := [.v (studyO w rs (ss.map (toSp w))), .v (.lst (rs.map rg)), .v (.lst (ss.map sn)), .v (sn sp0), .v (.lst CC), .v (.int (w : Int)), .v (.int (ss.length : Int)), .e, .e, .e, .e, .e, .e, .e, .e, .e, .e, .e]) ?_).trans ?_
  · generalize rs.map rg = A at *
    generalize ss.map sn = B at *
    simp [-bLen, lr, ls]
  refine (seq_nx (ρ' := [.v (studyO w rs (ss.map (toSp w))), .v (.lst (rs.map rg)), .v (.lst (ss.map sn)), .v (sn sp0), .v (.lst CC), .v (.int (w : Int)), .v (.int (ss.length : Int)), .v (.int (lt : Int)), .e, .e, .e, .e, .e, .e, .e, .e, .e, .e]) ?_).trans ?_
  · simp [-oIx, i0, hlt, hw0]
  refine (seq_nx (ρ' := [.v (studyO w rs (ss.map (toSp w))), .v (.lst (rs.map rg)), .v (.lst (ss.map sn)), .v (sn sp0), .v (.lst CC), .v (.int (w : Int)), .v (.int (ss.length : Int)), .v (.int (lt : Int)), .v (rg fr), .v (rg cx), .e, .e, .e, .e, .e, .e, .e, .e]) ?_).trans ?_
  · simp [-thaw, u1, u6, hC1, hC6, trg]
  refine (seq_nx (ρ' := [.v (studyO w rs (ss.map (toSp w))), .v (.lst (rs.map rg)), .v (.lst (ss.map sn)), .v (sn sp0), .v (.lst CC), .v (.int (w : Int)), .v (.int (ss.length : Int)), .v (.int (lt : Int)), .v (rg fr), .v (rg cx), .v (.lst ((chg rs lt fr).map rg)), .e, .e, .e, .e, .e, .e, .e]) ?_).trans ?_
  · have ec : (chg rs lt fr).map rg = (rs.map rg).take lt ++ [rg fr] ++ (rs.map rg).drop (lt + 1) := by simp [List.map_take, List.map_drop]
    rw [ec]
    exact XC.set_ok (XC.chg_ok (f := sRd 1) (g := sVar 7) (h := sVar 8) rfl rfl rfl (by simp; omega) (by simp; omega))
  refine (seq_nx (ρ' := [.v (studyO w rs (ss.map (toSp w))), .v (.lst (rs.map rg)), .v (.lst (ss.map sn)), .v (sn sp0), .v (.lst CC), .v (.int (w : Int)), .v (.int (ss.length : Int)), .v (.int (lt : Int)), .v (rg fr), .v (rg cx), .v (.lst ((chg rs lt fr).map rg)), .e, .e, .e, .e, .e, .e, .e]) ?_).trans ?_
  · have m := sm_range (f := sRd 0) (fs := aCons (sVar 7) (aCons (sOp oIx (sRd 8) (sC (.int 0))) (aCons (sOp oIx (sRd 8) (sC (.int 1))) aNil))) (ρ := [.v (studyO w rs (ss.map (toSp w))), .v (.lst (rs.map rg)), .v (.lst (ss.map sn)), .v (sn sp0), .v (.lst CC), .v (.int (w : Int)), .v (.int (ss.length : Int)), .v (.int (lt : Int)), .v (rg fr), .v (rg cx), .v (.lst ((chg rs lt fr).map rg)), .e, .e, .e, .e, .e, .e, .e]) rfl (a3 rfl (op_ok (f := sRd 8) (g := sC (.int 0)) rfl rfl (ix0 fr)) (op_ok (f := sRd 8) (g := sC (.int 1)) rfl rfl (ix1 fr))) rn
    exact if_nx (ist m rfl rfl q1)
  refine (seq_nx (ρ' := [.v (studyO w rs (ss.map (toSp w))), .v (.lst (rs.map rg)), .v (.lst (ss.map sn)), .v (sn sp0), .v (.lst CC), .v (.int (w : Int)), .v (.int (ss.length : Int)), .v (.int (lt : Int)), .v (rg fr), .v (rg cx), .v (.lst ((chg rs lt fr).map rg)), .v (menuO w sp0.1), .e, .e, .e, .e, .e, .e]) ?_).trans ?_
  · have m := mkm [.v (studyO w rs (ss.map (toSp w))), .v (.lst (rs.map rg)), .v (.lst (ss.map sn)), .v (sn sp0), .v (.lst CC), .v (.int (w : Int)), .v (.int (ss.length : Int)), .v (.int (lt : Int)), .v (rg fr), .v (rg cx), .v (.lst ((chg rs lt fr).map rg)), .e, .e, .e, .e, .e, .e, .e] rfl rfl
    simp only [gSet, m, rS_ok, List.set_cons_succ, List.set_cons_zero]
  refine (seq_nx (ρ' := [.v (studyO w rs (ss.map (toSp w))), .v (.lst (rs.map rg)), .v (.lst (ss.map sn)), .v (sn sp0), .v (.lst CC), .v (.int (w : Int)), .v (.int (ss.length : Int)), .v (.int (lt : Int)), .v (rg fr), .v (rg cx), .v (.lst ((chg rs lt fr).map rg)), .v (menuO w sp0.1), .v Fmany, .e, .e, .e, .e, .e]) ?_).trans ?_
  · simp
  obtain ⟨due, x, fl, er, hdue, step8⟩ : ∃ (due : D) (x : Str) (fl : List (Str × D)), Er x fl due ∧ (f_Study_with_seen [studyO w rs (ss.map (toSp w)), menuO b.w b.rows, b.plan] = .exc x fl ∧ (ss.length = 10 → due = Fmany)) ∧ (gIf (sTest (sOp oLt (sRd 6) (sC (.int 10)))) (gSeq (gSet 12 (sTup (aCons (sC (.str "place")) (aCons (sVar 6) aNil))))
    (gIf (tNot (tTru (sCall f_ulaw_is_study (aCons (sMeth mt_with_seen "with_seen" (sRd 0) (aCons (sVar 11) (aCons (sOp oIx (sRd 3) (sC (.int 1))) aNil))) (aCons (sVar 1) (aCons (sLst (fOp fCat (sRd 2) (sLst (fLst (aCons (sVar 3) aNil))))) aNil)))))) (gRet (sC (.bl false))) PF.gNil)) PF.gNil) [.v (studyO w rs (ss.map (toSp w))), .v (.lst (rs.map rg)), .v (.lst (ss.map sn)), .v (sn sp0), .v (.lst CC), .v (.int (w : Int)), .v (.int (ss.length : Int)), .v (.int (lt : Int)), .v (rg fr), .v (rg cx), .v (.lst ((chg rs lt fr).map rg)), .v (menuO w sp0.1), .v Fmany, .e, .e, .e, .e, .e] = .nx [.v (studyO w rs (ss.map (toSp w))), .v (.lst (rs.map rg)), .v (.lst (ss.map sn)), .v (sn sp0), .v (.lst CC), .v (.int (w : Int)), .v (.int (ss.length : Int)), .v (.int (lt : Int)), .v (rg fr), .v (rg cx), .v (.lst ((chg rs lt fr).map rg)), .v (menuO w sp0.1), .v due, .e, .e, .e, .e, .e] := by
    by_cases c : ss.length < 10
    · have D2 := sd_of h1 h8 hl hr hn hs2 (by simp; omega)
      have sm := seen_more (rs := rs) (ss := ss) (s := sp0) D2
      have q2 := is_study_ok (rs := rs) hl h8 hs2 (by simp; omega)
      refine ⟨Fplc ss.length, _, _, .plc ss.length, ⟨seen_wrong D0 c b b2 b3, fun h => by omega⟩, ?_⟩
      have t : (sTest (sOp oLt (sRd 6) (sC (.int 10)))) [.v (studyO w rs (ss.map (toSp w))), .v (.lst (rs.map rg)), .v (.lst (ss.map sn)), .v (sn sp0), .v (.lst CC), .v (.int (w : Int)), .v (.int (ss.length : Int)), .v (.int (lt : Int)), .v (rg fr), .v (rg cx), .v (.lst ((chg rs lt fr).map rg)), .v (menuO w sp0.1), .v Fmany, .e, .e, .e, .e, .e] = .ok true := by simp [-cb_iff, -cb_nif, cb_t (show (ss.length : Int) < 10 by omega), cb_t c]
      refine (if_t t).trans ((seq_nx (ρ' := [.v (studyO w rs (ss.map (toSp w))), .v (.lst (rs.map rg)), .v (.lst (ss.map sn)), .v (sn sp0), .v (.lst CC), .v (.int (w : Int)), .v (.int (ss.length : Int)), .v (.int (lt : Int)), .v (rg fr), .v (rg cx), .v (.lst ((chg rs lt fr).map rg)), .v (menuO w sp0.1), .v (Fplc ss.length), .e, .e, .e, .e, .e]) (by simp)).trans ?_)
      have m := sm_seen (f := sRd 0) (fs := aCons (sVar 11) (aCons (sOp oIx (sRd 3) (sC (.int 1))) aNil)) (ρ := [.v (studyO w rs (ss.map (toSp w))), .v (.lst (rs.map rg)), .v (.lst (ss.map sn)), .v (sn sp0), .v (.lst CC), .v (.int (w : Int)), .v (.int (ss.length : Int)), .v (.int (lt : Int)), .v (rg fr), .v (rg cx), .v (.lst ((chg rs lt fr).map rg)), .v (menuO w sp0.1), .v (Fplc ss.length), .e, .e, .e, .e, .e]) rfl (a2 rfl (op_ok (f := sRd 3) (g := sC (.int 1)) rfl rfl (sx1 sp0))) sm
      have l : (sLst (fOp fCat (sRd 2) (sLst (fLst (aCons (sVar 3) aNil))))) [.v (studyO w rs (ss.map (toSp w))), .v (.lst (rs.map rg)), .v (.lst (ss.map sn)), .v (sn sp0), .v (.lst CC), .v (.int (w : Int)), .v (.int (ss.length : Int)), .v (.int (lt : Int)), .v (rg fr), .v (rg cx), .v (.lst ((chg rs lt fr).map rg)), .v (menuO w sp0.1), .v (Fplc ss.length), .e, .e, .e, .e, .e] = .ok (.lst ((ss ++ [sp0]).map sn)) := by
        have e : (ss ++ [sp0]).map sn = ss.map sn ++ [sn sp0] := by simp
        rw [e]
        have := cat_ok (xs := ss.map sn) (ys := [sn sp0]) (by simp; omega)
        generalize ss.map sn = B at *
        simp [-fCat, this]
      exact if_nx (ist m rfl l q2)
    · refine ⟨Fmany, _, _, .many, ⟨seen_many D0 (by omega) b, fun _ => rfl⟩, ?_⟩
      exact if_nx (by simp [-cb_iff, -cb_nif, cb_f (show ¬ (ss.length : Int) < 10 by omega), cb_f c])
  refine (seq_nx (ρ' := [.v (studyO w rs (ss.map (toSp w))), .v (.lst (rs.map rg)), .v (.lst (ss.map sn)), .v (sn sp0), .v (.lst CC), .v (.int (w : Int)), .v (.int (ss.length : Int)), .v (.int (lt : Int)), .v (rg fr), .v (rg cx), .v (.lst ((chg rs lt fr).map rg)), .v (menuO w sp0.1), .v due, .e, .e, .e, .e, .e]) ?_).trans ?_
  · exact step8
  refine (seq_nx (ρ' := [.v (studyO w rs (ss.map (toSp w))), .v (.lst (rs.map rg)), .v (.lst (ss.map sn)), .v (sn sp0), .v (.lst CC), .v (.int (w : Int)), .v (.int (ss.length : Int)), .v (.int (lt : Int)), .v (rg fr), .v (rg cx), .v (.lst ((chg rs lt fr).map rg)), .v (menuO w sp0.1), .v due, .v (sp b), .e, .e, .e, .e]) ?_).trans ?_
  · simp [-oIx, -thaw, i9, b1, tsp]
  refine (seq_nx (ρ' := [.v (studyO w rs (ss.map (toSp w))), .v (.lst (rs.map rg)), .v (.lst (ss.map sn)), .v (sn sp0), .v (.lst CC), .v (.int (w : Int)), .v (.int (ss.length : Int)), .v (.int (lt : Int)), .v (rg fr), .v (rg cx), .v (.lst ((chg rs lt fr).map rg)), .v (menuO w sp0.1), .v due, .v (sp b), .e, .e, .e, .e]) ?_).trans ?_
  · exact if_nx (flt er (f1 := sC (.int 1)) (f2 := sVar 0) (f3 := sOp oIx (sRd 13) (sC (.int 0))) (f4 := sOp oIx (sRd 13) (sC (.int 1))) (f5 := sC .non) (fd := sVar 12) rfl rfl (op_ok (f := sRd 13) (g := sC (.int 0)) rfl rfl (px0 b)) (op_ok (f := sRd 13) (g := sC (.int 1)) rfl rfl (px1 b)) rfl rfl (fault1 er hdue.1))
  refine (seq_nx (ρ' := [.v (studyO w rs (ss.map (toSp w))), .v (.lst (rs.map rg)), .v (.lst (ss.map sn)), .v (sn sp0), .v (.lst CC), .v (.int (w : Int)), .v (.int (ss.length : Int)), .v (.int (lt : Int)), .v (rg fr), .v (rg cx), .v (.lst ((chg rs lt fr).map rg)), .v (menuO w sp0.1), .v due, .v (sp b), .e, .e, .e, .e]) ?_).trans ?_
  · by_cases c : ss.length = 10
    · have sm := seen_many D0 c (toSp w sp0)
      have dm := hdue.2 c
      have q := flt .many (ρ := [.v (studyO w rs (ss.map (toSp w))), .v (.lst (rs.map rg)), .v (.lst (ss.map sn)), .v (sn sp0), .v (.lst CC), .v (.int (w : Int)), .v (.int (ss.length : Int)), .v (.int (lt : Int)), .v (rg fr), .v (rg cx), .v (.lst ((chg rs lt fr).map rg)), .v (menuO w sp0.1), .v due, .v (sp b), .e, .e, .e, .e]) (f1 := sC (.int 1)) (f2 := sVar 0) (f3 := sVar 11) (f4 := sOp oIx (sRd 3) (sC (.int 1))) (f5 := sC .non) (fd := sVar 12) rfl rfl rfl (op_ok (f := sRd 3) (g := sC (.int 1)) rfl rfl (sx1 sp0)) rfl (by rw [dm]; rfl) (fault1 .many sm)
      refine if_nx ?_
      have t : (sTest (sOp oEq (sRd 6) (sC (.int 10)))) [.v (studyO w rs (ss.map (toSp w))), .v (.lst (rs.map rg)), .v (.lst (ss.map sn)), .v (sn sp0), .v (.lst CC), .v (.int (w : Int)), .v (.int (ss.length : Int)), .v (.int (lt : Int)), .v (rg fr), .v (rg cx), .v (.lst ((chg rs lt fr).map rg)), .v (menuO w sp0.1), .v due, .v (sp b), .e, .e, .e, .e] = .ok true := by simp [c]
      simp only [PF.tAnd, t, Res.bind_ok, if_true, q]
    · have c2 : ¬ ((ss.length : Int) = 10) := by omega
      have t : (sTest (sOp oEq (sRd 6) (sC (.int 10)))) [.v (studyO w rs (ss.map (toSp w))), .v (.lst (rs.map rg)), .v (.lst (ss.map sn)), .v (sn sp0), .v (.lst CC), .v (.int (w : Int)), .v (.int (ss.length : Int)), .v (.int (lt : Int)), .v (rg fr), .v (rg cx), .v (.lst ((chg rs lt fr).map rg)), .v (menuO w sp0.1), .v due, .v (sp b), .e, .e, .e, .e] = .ok false := by simp [c2]
      refine if_nx ?_
      simp only [PF.tAnd, t, Res.bind_ok]
      rfl
  obtain ⟨k14, l14⟩ := loop14 (rs := rs) (ss := ss.map (toSp w)) (body := b1_ulaw_further) [.v (studyO w rs (ss.map (toSp w))), .v (.lst (rs.map rg)), .v (.lst (ss.map sn)), .v (sn sp0), .v (.lst CC), .v (.int (w : Int)), .v (.int (ss.length : Int)), .v (.int (lt : Int)), .v (rg fr), .v (rg cx), .v (.lst ((chg rs lt fr).map rg)), .v (menuO w sp0.1), .v due, .v (sp b)] [.e, .e, .e] rfl [-1, (ss.length : Int), (ss.length : Int) + 3] .e (fun i hi => by
    have hi : i < 0 ∨ (ss.length : Int) ≤ i := by
      simp only [List.mem_cons, List.not_mem_nil, or_false] at hi
      rcases hi with h | h | h <;> omega
    exact if_nx (flt .num (f1 := sC (.int 2)) (f2 := sVar 0) (f3 := sVar 14) (f4 := sC .non) (f5 := sC .non) (fd := sTup (aCons (sC (.str "number")) (aCons (sC (.int 0)) aNil))) rfl rfl rfl rfl rfl rfl (fault2 .num (without_bad i (by simpa using hi)))))
  refine (seq_nx (ρ' := [.v (studyO w rs (ss.map (toSp w))), .v (.lst (rs.map rg)), .v (.lst (ss.map sn)), .v (sn sp0), .v (.lst CC), .v (.int (w : Int)), .v (.int (ss.length : Int)), .v (.int (lt : Int)), .v (rg fr), .v (rg cx), .v (.lst ((chg rs lt fr).map rg)), .v (menuO w sp0.1), .v due, .v (sp b), k14, .e, .e, .e]) ?_).trans ?_
  · have e0 : (iSeq (sLst (fLst (aCons (sUn oNeg (sC (.int 1))) (aCons (sVar 6) (aCons (sOp oAdd (sRd 6) (sC (.int 3))) aNil)))))) [.v (studyO w rs (ss.map (toSp w))), .v (.lst (rs.map rg)), .v (.lst (ss.map sn)), .v (sn sp0), .v (.lst CC), .v (.int (w : Int)), .v (.int (ss.length : Int)), .v (.int (lt : Int)), .v (rg fr), .v (rg cx), .v (.lst ((chg rs lt fr).map rg)), .v (menuO w sp0.1), .v due, .v (sp b), .e, .e, .e, .e] = .ok ([-1, (ss.length : Int), (ss.length : Int) + 3].map D.int) := by simp
    simp only [gFor, e0, rS_ok]
    exact l14
  obtain ⟨k15, l15⟩ := loop14 (rs := rs) (ss := ss.map (toSp w)) (body := b2_ulaw_further) [.v (studyO w rs (ss.map (toSp w))), .v (.lst (rs.map rg)), .v (.lst (ss.map sn)), .v (sn sp0), .v (.lst CC), .v (.int (w : Int)), .v (.int (ss.length : Int)), .v (.int (lt : Int)), .v (rg fr), .v (rg cx), .v (.lst ((chg rs lt fr).map rg)), .v (menuO w sp0.1), .v due, .v (sp b)] [.e, .e, .e] rfl [-1, (w : Int), (w : Int) + 2] k14 (fun i hi => by
    have hi : i < 0 ∨ (w : Int) ≤ i := by
      simp only [List.mem_cons, List.not_mem_nil, or_false] at hi
      rcases hi with h | h | h <;> omega
    refine (seq_nx (if_nx (flt .num (f1 := sC (.int 3)) (f2 := sVar 0) (f3 := sVar 14) (f4 := sC .non) (f5 := sOp oIx (sRd 8) (sC (.int 1))) (fd := sTup (aCons (sC (.str "number")) (aCons (sC (.int 0)) aNil))) rfl rfl rfl rfl (op_ok (f := sRd 8) (g := sC (.int 1)) rfl rfl (ix1 fr)) rfl (fault3 .num (with_range_bad i _ _ hi))))).trans ?_
    exact if_nx (flt .num (f1 := sC (.int 3)) (f2 := sVar 0) (f3 := sVar 14) (f4 := sOp oIx (sRd 9) (sC (.int 0))) (f5 := sOp oIx (sRd 9) (sC (.int 1))) (fd := sTup (aCons (sC (.str "number")) (aCons (sC (.int 0)) aNil))) rfl rfl rfl (op_ok (f := sRd 9) (g := sC (.int 0)) rfl rfl (ix0 cx)) (op_ok (f := sRd 9) (g := sC (.int 1)) rfl rfl (ix1 cx)) rfl (fault3 .num (with_range_bad i _ _ hi))))
  refine (seq_nx (ρ' := [.v (studyO w rs (ss.map (toSp w))), .v (.lst (rs.map rg)), .v (.lst (ss.map sn)), .v (sn sp0), .v (.lst CC), .v (.int (w : Int)), .v (.int (ss.length : Int)), .v (.int (lt : Int)), .v (rg fr), .v (rg cx), .v (.lst ((chg rs lt fr).map rg)), .v (menuO w sp0.1), .v due, .v (sp b), k15, .e, .e, .e]) ?_).trans ?_
  · have e0 : (iSeq (sLst (fLst (aCons (sUn oNeg (sC (.int 1))) (aCons (sVar 5) (aCons (sOp oAdd (sRd 5) (sC (.int 2))) aNil)))))) [.v (studyO w rs (ss.map (toSp w))), .v (.lst (rs.map rg)), .v (.lst (ss.map sn)), .v (sn sp0), .v (.lst CC), .v (.int (w : Int)), .v (.int (ss.length : Int)), .v (.int (lt : Int)), .v (rg fr), .v (rg cx), .v (.lst ((chg rs lt fr).map rg)), .v (menuO w sp0.1), .v due, .v (sp b), k14, .e, .e, .e] = .ok ([-1, (w : Int), (w : Int) + 2].map D.int) := by simp
    simp only [gFor, e0, rS_ok]
    exact l15
  refine (seq_nx (ρ' := [.v (studyO w rs (ss.map (toSp w))), .v (.lst (rs.map rg)), .v (.lst (ss.map sn)), .v (sn sp0), .v (.lst CC), .v (.int (w : Int)), .v (.int (ss.length : Int)), .v (.int (lt : Int)), .v (rg fr), .v (rg cx), .v (.lst ((chg rs lt fr).map rg)), .v (menuO w sp0.1), .v due, .v (sp b), k15, .e, .e, .e]) ?_).trans ?_
  · exact if_nx (flt (.rng lt) (f1 := sC (.int 3)) (f2 := sVar 0) (f3 := sVar 7) (f4 := sOp oIx (sRd 9) (sC (.int 0))) (f5 := sOp oIx (sRd 9) (sC (.int 1))) (fd := sTup (aCons (sC (.str "range")) (aCons (sVar 7) aNil))) rfl rfl rfl (op_ok (f := sRd 9) (g := sC (.int 0)) rfl rfl (ix0 cx)) (op_ok (f := sRd 9) (g := sC (.int 1)) rfl rfl (ix1 cx)) (by simp) (fault3 (.rng lt) (range_bad h1 hl hlw h8 hr hn cx2 cx3)))
  by_cases c : 0 < ss.length
  · have hz := hb10 c
    obtain ⟨p, hp⟩ : ∃ p : Nat, z10.fmod ss.length = (p : Int) := ⟨_, (Int.toNat_of_nonneg hz.1).symm⟩
    have hpl : p < ss.length := by omega
    obtain ⟨ls, hls⟩ : ∃ ls : List Sn, ls = ss.take p ++ ss.drop (p + 1) := ⟨_, rfl⟩
    have ll : ls.length = ss.length - 1 := by rw [hls]; simp; omega
    have lv : ∀ s ∈ ls, SnV w s := fun s h => by
      rw [hls] at h
      exact (List.mem_append.mp h).elim (fun q => hs s (List.mem_of_mem_take q)) fun q => hs s (List.mem_of_mem_drop q)
    have lv2 : ∀ s ∈ ls ++ [sp0], SnV w s := fun s h => (List.mem_append.mp h).elim (lv s) fun q => by rw [List.mem_singleton.mp q]; exact hsp
    have D3 := sd_of h1 h8 hl hr hn lv (by omega)
    have D4 := sd_of h1 h8 hl hr hn lv2 (by simp; omega)
    have D5 := sd_of h1 h8 CH.1 CH.2 CN lv2 (by simp; omega)
    have w1 := sec p hpl (by omega) (by rw [← hls]; exact D3)
    rw [← hls] at w1
    have w2 := seen_more (rs := rs) (ss := ls) (s := sp0) D4
    have w3 := range_new (ss := (ls ++ [sp0]).map (toSp w)) hl hlw h8 D5
    have q3 := is_study_ok (rs := rs) hl h8 lv (by omega)
    have q4 := is_study_ok (rs := chg rs lt fr) CH.1 h8 lv2 (by simp; omega)
    have zl : oAdd (.lst ((ss.take p).map sn)) (.lst ((ss.drop (p + 1)).map sn)) = .ok (.lst (ls.map sn)) := by
      rw [add_lst (by simp; omega), hls]
      simp
    have z1 := zcut p (by omega)
    have z2 := zdrop (p + 1) (by omega)
    have e4 : (p : Int) + 1 = ((p + 1 : Nat) : Int) := by omega
    have hne : ss ≠ [] := fun z => by subst z; simp at c
    have t : (sTest (sOp oGt (sRd 6) (sC (.int 0)))) [.v (studyO w rs (ss.map (toSp w))), .v (.lst (rs.map rg)), .v (.lst (ss.map sn)), .v (sn sp0), .v (.lst CC), .v (.int (w : Int)), .v (.int (ss.length : Int)), .v (.int (lt : Int)), .v (rg fr), .v (rg cx), .v (.lst ((chg rs lt fr).map rg)), .v (menuO w sp0.1), .v due, .v (sp b), k15, .e, .e, .e] = .ok true := by simp [-cb_iff, -cb_nif, cb_t (show (0 : Int) < (ss.length : Int) by omega), cb_t c]
    refine (seq_nx (ρ' := [.v (studyO w rs (ss.map (toSp w))), .v (.lst (rs.map rg)), .v (.lst (ss.map sn)), .v (sn sp0), .v (.lst CC), .v (.int (w : Int)), .v (.int (ss.length : Int)), .v (.int (lt : Int)), .v (rg fr), .v (rg cx), .v (.lst ((chg rs lt fr).map rg)), .v (menuO w sp0.1), .v due, .v (sp b), .v (.int (p : Int)), .v (.lst (ls.map sn)), .v (studyO w rs (ls.map (toSp w))), .v (studyO w (chg rs lt fr) ((ls ++ [sp0]).map (toSp w)))]) ((if_t t).trans ?_)).trans rfl
    refine (seq_nx (ρ' := [.v (studyO w rs (ss.map (toSp w))), .v (.lst (rs.map rg)), .v (.lst (ss.map sn)), .v (sn sp0), .v (.lst CC), .v (.int (w : Int)), .v (.int (ss.length : Int)), .v (.int (lt : Int)), .v (rg fr), .v (rg cx), .v (.lst ((chg rs lt fr).map rg)), .v (menuO w sp0.1), .v due, .v (sp b), .v (.int (p : Int)), .e, .e, .e]) ?_).trans ?_
    · simp [-oIx, i10, hp, hne]
    refine (seq_nx (ρ' := [.v (studyO w rs (ss.map (toSp w))), .v (.lst (rs.map rg)), .v (.lst (ss.map sn)), .v (sn sp0), .v (.lst CC), .v (.int (w : Int)), .v (.int (ss.length : Int)), .v (.int (lt : Int)), .v (rg fr), .v (rg cx), .v (.lst ((chg rs lt fr).map rg)), .v (menuO w sp0.1), .v due, .v (sp b), .v (.int (p : Int)), .v (.lst (ls.map sn)), .e, .e]) ?_).trans ?_
    · have el : ls.map sn = (ss.map sn).take p ++ (ss.map sn).drop (p + 1) := by rw [hls]; simp [List.map_take, List.map_drop]
      rw [el]
      exact XC.set_ok (XC.less_ok (f := sRd 2) (g := sRd 14) rfl rfl (by simp; omega) (by simp; omega))
    refine (seq_nx (ρ' := [.v (studyO w rs (ss.map (toSp w))), .v (.lst (rs.map rg)), .v (.lst (ss.map sn)), .v (sn sp0), .v (.lst CC), .v (.int (w : Int)), .v (.int (ss.length : Int)), .v (.int (lt : Int)), .v (rg fr), .v (rg cx), .v (.lst ((chg rs lt fr).map rg)), .v (menuO w sp0.1), .v due, .v (sp b), .v (.int (p : Int)), .v (.lst (ls.map sn)), .v (studyO w rs (ls.map (toSp w))), .e]) ?_).trans ?_
    · have m := sm_less (f := sRd 0) (fs := aCons (sVar 14) aNil) (ρ := [.v (studyO w rs (ss.map (toSp w))), .v (.lst (rs.map rg)), .v (.lst (ss.map sn)), .v (sn sp0), .v (.lst CC), .v (.int (w : Int)), .v (.int (ss.length : Int)), .v (.int (lt : Int)), .v (rg fr), .v (rg cx), .v (.lst ((chg rs lt fr).map rg)), .v (menuO w sp0.1), .v due, .v (sp b), .v (.int (p : Int)), .v (.lst (ls.map sn)), .e, .e]) rfl rfl w1
      simp only [gSet, m, rS_ok, List.set_cons_succ, List.set_cons_zero]
    refine (seq_nx (if_nx (ist (f1 := sVar 16) (f2 := sVar 1) (f3 := sVar 15) rfl rfl rfl q3))).trans ?_
    refine (seq_nx (ρ' := [.v (studyO w rs (ss.map (toSp w))), .v (.lst (rs.map rg)), .v (.lst (ss.map sn)), .v (sn sp0), .v (.lst CC), .v (.int (w : Int)), .v (.int (ss.length : Int)), .v (.int (lt : Int)), .v (rg fr), .v (rg cx), .v (.lst ((chg rs lt fr).map rg)), .v (menuO w sp0.1), .v due, .v (sp b), .v (.int (p : Int)), .v (.lst (ls.map sn)), .v (studyO w rs (ls.map (toSp w))), .v (studyO w (chg rs lt fr) ((ls ++ [sp0]).map (toSp w)))]) ?_).trans ?_
    · have m1 := sm_seen (f := sRd 16) (fs := aCons (sVar 11) (aCons (sOp oIx (sRd 3) (sC (.int 1))) aNil)) (ρ := [.v (studyO w rs (ss.map (toSp w))), .v (.lst (rs.map rg)), .v (.lst (ss.map sn)), .v (sn sp0), .v (.lst CC), .v (.int (w : Int)), .v (.int (ss.length : Int)), .v (.int (lt : Int)), .v (rg fr), .v (rg cx), .v (.lst ((chg rs lt fr).map rg)), .v (menuO w sp0.1), .v due, .v (sp b), .v (.int (p : Int)), .v (.lst (ls.map sn)), .v (studyO w rs (ls.map (toSp w))), .e]) rfl (a2 rfl (op_ok (f := sRd 3) (g := sC (.int 1)) rfl rfl (sx1 sp0))) w2
      have m2 := sm_range (f := sMeth mt_with_seen "with_seen" (sRd 16) (aCons (sVar 11) (aCons (sOp oIx (sRd 3) (sC (.int 1))) aNil))) (fs := aCons (sVar 7) (aCons (sOp oIx (sRd 8) (sC (.int 0))) (aCons (sOp oIx (sRd 8) (sC (.int 1))) aNil))) m1 (a3 rfl (op_ok (f := sRd 8) (g := sC (.int 0)) rfl rfl (ix0 fr)) (op_ok (f := sRd 8) (g := sC (.int 1)) rfl rfl (ix1 fr))) w3
      simp only [gSet, m2, rS_ok, List.set_cons_succ, List.set_cons_zero]
    · have l : (sLst (fOp fCat (sRd 15) (sLst (fLst (aCons (sVar 3) aNil))))) [.v (studyO w rs (ss.map (toSp w))), .v (.lst (rs.map rg)), .v (.lst (ss.map sn)), .v (sn sp0), .v (.lst CC), .v (.int (w : Int)), .v (.int (ss.length : Int)), .v (.int (lt : Int)), .v (rg fr), .v (rg cx), .v (.lst ((chg rs lt fr).map rg)), .v (menuO w sp0.1), .v due, .v (sp b), .v (.int (p : Int)), .v (.lst (ls.map sn)), .v (studyO w rs (ls.map (toSp w))), .v (studyO w (chg rs lt fr) ((ls ++ [sp0]).map (toSp w)))] = .ok (.lst ((ls ++ [sp0]).map sn)) := by
        have e : (ls ++ [sp0]).map sn = ls.map sn ++ [sn sp0] := by simp
        rw [e]
        have := cat_ok (xs := ls.map sn) (ys := [sn sp0]) (by simp; omega)
        generalize ls.map sn = B at *
        simp [-fCat, this]
      have j1 := ist (f1 := sVar 17) (f2 := sVar 10) (f3 := sLst (fOp fCat (sRd 15) (sLst (fLst (aCons (sVar 3) aNil))))) (ρ := [.v (studyO w rs (ss.map (toSp w))), .v (.lst (rs.map rg)), .v (.lst (ss.map sn)), .v (sn sp0), .v (.lst CC), .v (.int (w : Int)), .v (.int (ss.length : Int)), .v (.int (lt : Int)), .v (rg fr), .v (rg cx), .v (.lst ((chg rs lt fr).map rg)), .v (menuO w sp0.1), .v due, .v (sp b), .v (.int (p : Int)), .v (.lst (ls.map sn)), .v (studyO w rs (ls.map (toSp w))), .v (studyO w (chg rs lt fr) ((ls ++ [sp0]).map (toSp w)))]) rfl rfl l q4
      have j2 := ist (f1 := sVar 16) (f2 := sVar 1) (f3 := sVar 15) (ρ := [.v (studyO w rs (ss.map (toSp w))), .v (.lst (rs.map rg)), .v (.lst (ss.map sn)), .v (sn sp0), .v (.lst CC), .v (.int (w : Int)), .v (.int (ss.length : Int)), .v (.int (lt : Int)), .v (rg fr), .v (rg cx), .v (.lst ((chg rs lt fr).map rg)), .v (menuO w sp0.1), .v due, .v (sp b), .v (.int (p : Int)), .v (.lst (ls.map sn)), .v (studyO w rs (ls.map (toSp w))), .v (studyO w (chg rs lt fr) ((ls ++ [sp0]).map (toSp w)))]) rfl rfl rfl q3
      exact if_nx (by simp only [PF.tOr, j1, j2, Res.bind_ok]; rfl)
  · exact (seq_nx (if_nx (by simp [-cb_iff, -cb_nif, cb_f (show ¬ (0 : Int) < (ss.length : Int) by omega), cb_f c]))).trans rfl
end
end M_k12

set_option Elab.async false
set_option linter.all false
set_option maxRecDepth 100000
set_option maxHeartbeats 2000000
namespace M_k12
open PySem L2 PF ML S_k12 LC_k12 LM_k12 XL
theorem nol_rt (q : Option Rt) : nol (bo q) = true := by cases q <;> simp [bo, rt, nol, nolA]
theorem nol_rgs : ∀ rs : List Rg, nolA (rs.map rg) = true
  | [] => by simp [nolA]
  | r :: rs => by simp [nolA, nol_rgs rs, rg, nol, nol_rt]
theorem nol_sps (w : Nat) : ∀ ss : List Sn, nolA ((ss.map (toSp w)).map sp) = true
  | [] => by simp [nolA]
  | s :: ss => by
    have := nol_menu w s.1
    have ih := nol_sps w ss
    simp only [List.map_cons, nolA_cons, ih, Bool.and_true, sp, nol_tup, toSp, nol_int, nolA_nil, this]
theorem nol_study (w : Nat) (rs : List Rg) (ss : List Sn) : nol (studyO w rs (ss.map (toSp w))) = true := by simp [-List.map_map, nol_rgs, nol_sps]
theorem free_rgs (n : Nat) : (List.replicate n ((none, none) : Rg)).map rg = List.replicate n (.tup [.non, .non]) := by rw [List.map_replicate]; rfl
theorem free_sd {w : Nat} (h1 : 1 ≤ w) (h8 : w ≤ 8) : Sd w (List.replicate w ((none, none) : Rg)) (([] : List Sn).map (toSp w)) :=
  sd_of h1 h8 (by simp) (fun r h => by rw [(List.mem_replicate.mp h).2]; exact ⟨fun q e => (by cases e), fun q e => (by cases e)⟩) (by
    refine List.all_eq_true.mpr fun r h => ?_
    rw [(List.mem_replicate.mp h).2]
    rfl) (fun s h => by cases h) (by simp)
theorem free_ok {w : Nat} (h1 : 1 ≤ w) (h8 : w ≤ 8) : f_Study_free [.int (w : Int)] = .ok (studyO w (List.replicate w ((none, none) : Rg)) (([] : List Sn).map (toSp w))) :=
  semF_retR rfl (Sd.mk_ok (free_sd h1 h8) (RD := .lst (List.replicate w (.tup [.non, .non]))) (SD := .lst []) (.inl (by rw [free_rgs])) (.inl rfl) (XC.a3 rfl (XC.lst_ok (XC.fop_ok (XC.lst_ok (XC.lit_ok (XC.a1 (XC.tup_ok (XC.a2 rfl rfl))))) rfl (rep_ok (by omega)))) (XC.lst_ok (XC.lit_ok rfl)))) nb
theorem one_menu {w : Nat} (x : Int) (hx : x.natAbs < 2 ^ 10) (h1 : 1 ≤ w) (h8 : w ≤ 8) : Mn w [List.replicate w x] :=
  ⟨h1, h8, by simp, by simp, fun r h => by rw [List.mem_singleton.mp h]; simp⟩
theorem law_true (ns : List Int) (hns : ns.length ≤ 63) : f_law [.rol (ns.map D.int)] = .ok (.bl true) := by
  obtain ⟨ts, tl, tb, hr0⟩ := row_okB ns hns 0 (by decide) 5 (by decide)
  obtain ⟨cs1, cl1, cb1, hr1⟩ := row_okB ns hns 1 (by decide) 40 (by decide)
  obtain ⟨cs2, cl2, cb2, hr2⟩ := row_okB ns hns 2 (by decide) 374 (by decide)
  obtain ⟨cs3, cl3, cb3, hr3⟩ := row_okB ns hns 3 (by decide) 12 (by decide)
  obtain ⟨cs4, cl4, cb4, hr4⟩ := row_okB ns hns 4 (by decide) 12 (by decide)
  have hr0 : f_ulaw_row [.rol (ns.map D.int), .int 0, .int 5] = .ok (.fr (ts.map D.int)) := hr0
  have hr1 : f_ulaw_row [.rol (ns.map D.int), .int 1, .int 40] = .ok (.fr (cs1.map D.int)) := hr1
  have hr2 : f_ulaw_row [.rol (ns.map D.int), .int 2, .int 374] = .ok (.fr (cs2.map D.int)) := hr2
  have hr3 : f_ulaw_row [.rol (ns.map D.int), .int 3, .int 12] = .ok (.fr (cs3.map D.int)) := hr3
  have hr4 : f_ulaw_row [.rol (ns.map D.int), .int 4, .int 12] = .ok (.fr (cs4.map D.int)) := hr4
  generalize hS : D.rol (ns.map D.int) = S at *
  have t0 := ix_seqI (seqI_l ts) (i := 0) (k := 0) rfl (by omega)
  have t1 := ix_seqI (seqI_l ts) (i := 1) (k := 1) rfl (by omega)
  generalize ts[0] = z0 at *
  generalize ts[1] = z1 at *
  generalize hT : D.lst (ts.map D.int) = T at *
  have hr0 : ∀ ρ : Sl, ρ[0]? = some (.v S) → (sCall f_ulaw_row (aCons (sVar 0) (aCons (sC (.int 0)) (aCons (sC (.int 5)) aNil)))) ρ = .ok T := fun ρ h => by rw [← hT]; exact XC.call_fr (XC.a3 (by simp only [sVar, h]) rfl rfl) hr0
  have d5 : divOk 5 = true := divOk_s (by decide) (by decide)
  have m34 : oMul (.int 34) (.int 11) = .ok (.int 374) := XC.mul_nat (a := 34) (k := 11) (by decide)
  obtain ⟨zw, hzw, hw5⟩ := XL.pick_ok [1, 8, 2, 3, 1 + (z0.fdiv 5).fmod 8] (z0.fmod 5) 1 8 (fmod_b z0 5 (by decide)).1 (fmod_b z0 5 (by decide)).2 (fun x hx => by
    have := fmod_b (z0.fdiv 5) 8 (by decide)
    simp only [List.mem_cons, List.not_mem_nil, or_false] at hx
    rcases hx with h | h | h | h | h <;> omega)
  obtain ⟨zn, hzn, hn5⟩ := XL.pick_ok [10, 0, 1, 2 + (z1.fdiv 5).fmod 3, (z1.fdiv 5).fmod 11] (z1.fmod 5) 0 10 (fmod_b z1 5 (by decide)).1 (fmod_b z1 5 (by decide)).2 (fun x hx => by
    have h3 := fmod_b (z1.fdiv 5) 3 (by decide)
    have h11 := fmod_b (z1.fdiv 5) 11 (by decide)
    simp only [List.mem_cons, List.not_mem_nil, or_false] at hx
    rcases hx with h | h | h | h | h <;> omega)
  obtain ⟨w, rfl⟩ := Int.eq_ofNat_of_zero_le (show 0 ≤ zw by omega)
  obtain ⟨n, rfl⟩ := Int.eq_ofNat_of_zero_le (show 0 ≤ zn by omega)
  have hw5 : oIx (.lst [.int 1, .int 8, .int 2, .int 3, .int (1 + (z0.fdiv 5).fmod 8)]) (.int (z0.fmod 5)) = .ok (.int (w : Int)) := hw5
  have hn5 : oIx (.lst [.int 10, .int 0, .int 1, .int (2 + (z1.fdiv 5).fmod 3), .int ((z1.fdiv 5).fmod 11)]) (.int (z1.fmod 5)) = .ok (.int (n : Int)) := hn5
  have h1 : 1 ≤ w := by omega
  have h8 : w ≤ 8 := by omega
  have hn : n ≤ 10 := by omega
  obtain ⟨R, hR⟩ := XC.each (P := fun k (r : Rg) => f_ulaw_range [.lst (((cs1.drop (5 * k)).take 5).map D.int)] = .ok (rg r) ∧ RgL r ∧ xs r = false) (n := w) (none, none) (fun k hk => range_ok _ (fun x hx => cb1 x (List.mem_of_mem_drop (List.mem_of_mem_take hx))) (by simp; omega))
  obtain ⟨N, hN⟩ := XC.each (P := fun k (s : Sn) => f_ulaw_usages [.lst (((cs2.drop (34 * k)).take 34).map D.int), .int (w : Int)] = .ok (sn s) ∧ SnV w s) (n := n) ([], 0) (fun k hk => usages_ok _ (by simp; omega) h1 h8)
  obtain ⟨sp0, hF, hsp⟩ := usages_ok (cs2.drop 340) (by simp; omega) h1 h8
  obtain ⟨rs, hrs⟩ : ∃ rs, rs = (List.range w).map R := ⟨_, rfl⟩
  obtain ⟨ss, hss⟩ : ∃ ss, ss = (List.range n).map N := ⟨_, rfl⟩
  have hl : rs.length = w := by simp [hrs]
  have hm : ss.length = n := by simp [hss]
  have hr : ∀ r ∈ rs, RgB r := fun r h => by
    rw [hrs] at h
    obtain ⟨k, hk, rfl⟩ := List.mem_map.mp h
    exact (hR k (by simpa using hk)).2.1.b
  have hx : NoX rs := List.all_eq_true.mpr fun r h => by
    rw [hrs] at h
    obtain ⟨k, hk, rfl⟩ := List.mem_map.mp h
    simp [(hR k (by simpa using hk)).2.2]
  have hs : ∀ s ∈ ss, SnV w s := fun s h => by
    rw [hss] at h
    obtain ⟨k, hk, rfl⟩ := List.mem_map.mp h
    exact (hN k (by simpa using hk)).2
  have D0 := sd_of h1 h8 hl hr hx hs (by omega)
  have pk := pairs_ok h8 ss hs (by omega)
  obtain ⟨ss2, hss2⟩ : ∃ ss2, ss2 = (ss ++ List.replicate 10 sp0).take 10 := ⟨_, rfl⟩
  have hm2 : ss2.length = 10 := by simp [hss2]
  have hs2 : ∀ s ∈ ss2, SnV w s := fun s h => by
    rw [hss2] at h
    exact (List.mem_append.mp (List.mem_of_mem_take h)).elim (hs s) fun q => by rw [(List.mem_replicate.mp q).2]; exact hsp
  have D2 := sd_of h1 h8 hl hr hx hs2 (by omega)
  have pk2 := pairs_ok h8 ss2 hs2 (by omega)
  have ist1 := is_study_ok (rs := rs) hl h8 hs (by omega)
  have ist2 := is_study_ok (rs := List.replicate w ((none, none) : Rg)) (ss := []) (by simp) h8 (fun s h => by cases h) (by simp)
  have fur1 := further_ok h1 h8 hl hr hx hs hsp (by omega) (by omega) cb3
  have fur2 := further_ok h1 h8 hl hr hx hs2 hsp (by omega) (by omega) cb3
  have ref := fun mk => refuses_ok mk h1 h8 hl hr hx hs hsp (by omega) (by omega) cb4
  have nst := nol_study w rs ss
  have row3 : ∀ ρ : Sl, ρ[0]? = some (.v S) → (sCall f_ulaw_row (aCons (sVar 0) (aCons (sC (.int 3)) (aCons (sC (.int 12)) aNil)))) ρ = .ok (.lst (cs3.map D.int)) := fun ρ h => XC.call_fr (XC.a3 (by simp only [sVar, h]) rfl rfl) hr3
  have hne : ¬ w = 0 := by omega
  refine semF_ret ?_
  refine (seq_nx (ρ' := [.v S, .v T, .e, .e, .e, .e, .e, .e, .e, .e, .e, .e, .e, .e]) ?_).trans ?_
  · exact XC.set_ok (hr0 _ rfl)
  refine (seq_nx (ρ' := [.v S, .v T, .v (.int (w : Int)), .e, .e, .e, .e, .e, .e, .e, .e, .e, .e, .e]) ?_).trans ?_
  · simp [-oIx, -atI_zero, -atI_one, -atI_two, -atI_three, t0, d5, hw5]
  refine (seq_nx (ρ' := [.v S, .v T, .v (.int (w : Int)), .v (.int (n : Int)), .e, .e, .e, .e, .e, .e, .e, .e, .e, .e]) ?_).trans ?_
  · simp [-oIx, -atI_zero, -atI_one, -atI_two, -atI_three, t1, d5, hn5]
  refine (seq_nx (ρ' := [.v S, .v T, .v (.int (w : Int)), .v (.int (n : Int)), .v (.lst (cs1.map D.int)), .e, .e, .e, .e, .e, .e, .e, .e, .e]) ?_).trans ?_
  · exact XC.set_ok (XC.call_fr (XC.a3 rfl rfl rfl) hr1)
  refine (seq_nx (ρ' := [.v S, .v T, .v (.int (w : Int)), .v (.int (n : Int)), .v (.lst (cs1.map D.int)), .v (.lst (rs.map rg)), .e, .e, .e, .e, .e, .e, .e, .e]) ?_).trans ?_
  · have e : (List.range w).map (fun k => rg (R k)) = rs.map rg := by rw [hrs, List.map_map]; rfl
    rw [← e]
    exact XC.set_ok (XC.lst_ok (XC.lc_rng (f := sVar 2) rfl (by omega) fun k hk => XC.call_ok (XC.a1 (XC.sl_m (f := sRd 4) (xs := cs1.map D.int) (i := 5 * k) (j := 5 * k + 5) rfl (XC.op_ok (f := sC (.int 5)) (g := sRd 13) rfl rfl (XC.mul_nat (a := 5) (by decide))) (XC.op_ok (g := sC (.int 5)) (XC.op_ok (f := sC (.int 5)) (g := sRd 13) rfl rfl (XC.mul_nat (a := 5) (by decide))) rfl rfl) (by omega) (by simp; omega))) (by
      have := (hR k hk).1
      rw [List.map_take, List.map_drop] at this
      rw [show 5 * k + 5 - 5 * k = 5 by omega]
      exact this) rfl))
  refine (seq_nx (ρ' := [.v S, .v T, .v (.int (w : Int)), .v (.int (n : Int)), .v (.lst (cs2.map D.int)), .v (.lst (rs.map rg)), .e, .e, .e, .e, .e, .e, .e, .e]) ?_).trans ?_
  · exact XC.set_ok (XC.call_fr (XC.a3 rfl rfl (XC.op_ok (f := sC (.int 34)) (g := sC (.int 11)) rfl rfl m34)) hr2)
  refine (seq_nx (ρ' := [.v S, .v T, .v (.int (w : Int)), .v (.int (n : Int)), .v (.lst (cs2.map D.int)), .v (.lst (rs.map rg)), .v (.lst (ss.map sn)), .e, .e, .e, .e, .e, .e, .e]) ?_).trans ?_
  · have e : (List.range n).map (fun k => sn (N k)) = ss.map sn := by rw [hss, List.map_map]; rfl
    rw [← e]
    exact XC.set_ok (XC.lst_ok (XC.lc_rng (f := sVar 3) rfl (by omega) fun k hk => XC.call_ok (XC.a2 (XC.sl_m (f := sRd 4) (xs := cs2.map D.int) (i := 34 * k) (j := 34 * k + 34) rfl (XC.op_ok (f := sC (.int 34)) (g := sRd 13) rfl rfl (XC.mul_nat (a := 34) (by decide))) (XC.op_ok (g := sC (.int 34)) (XC.op_ok (f := sC (.int 34)) (g := sRd 13) rfl rfl (XC.mul_nat (a := 34) (by decide))) rfl rfl) (by omega) (by simp; omega)) rfl) (by
      have := (hN k hk).1
      rw [List.map_take, List.map_drop] at this
      rw [show 34 * k + 34 - 34 * k = 34 by omega]
      exact this) rfl))
  refine (seq_nx (ρ' := [.v S, .v T, .v (.int (w : Int)), .v (.int (n : Int)), .v (.lst (cs2.map D.int)), .v (.lst (rs.map rg)), .v (.lst (ss.map sn)), .v (sn sp0), .e, .e, .e, .e, .e, .e]) ?_).trans ?_
  · rw [List.map_drop] at hF
    exact XC.set_ok (XC.call_ok (XC.a2 (XC.sl_r (f := sRd 4) (xs := cs2.map D.int) (k := 340) rfl rfl (by simp; omega)) rfl) hF rfl)
  refine (seq_nx (ρ' := [.v S, .v T, .v (.int (w : Int)), .v (.int (n : Int)), .v (.lst (cs2.map D.int)), .v (.lst (rs.map rg)), .v (.lst (ss.map sn)), .v (sn sp0), .o (rs.map rg), .o ((ss.map (toSp w)).map sp), .e, .e, .e, .e]) ?_).trans ?_
  · exact XC.par_oo (XC.fun_ok (f := sRd 5) rfl rfl) (XC.fcall_fr (XC.a2 rfl rfl) pk)
  refine (seq_nx (ρ' := [.v S, .v T, .v (.int (w : Int)), .v (.int (n : Int)), .v (.lst (cs2.map D.int)), .v (.lst (rs.map rg)), .v (.lst (ss.map sn)), .v (sn sp0), .o (rs.map rg), .o ((ss.map (toSp w)).map sp), .v (studyO w rs (ss.map (toSp w))), .e, .e, .e]) ?_).trans ?_
  · exact XC.set_ok (XC.lend_ok rfl (XC.lend_ok rfl (Sd.mk_ok D0 (RD := .lst (rs.map rg)) (SD := .lst ((ss.map (toSp w)).map sp)) (.inl rfl) (.inl rfl) (XC.a3 rfl rfl rfl)) nst) nst)
  obtain ⟨G1, step_a⟩ : ∃ G1, gSto 8 (sC (.int 0)) (sTup (aCons (sTup (aCons (sC (.int 9)) (aCons (sC (.int 1)) aNil))) (aCons (sTup (aCons (sC (.int 9)) (aCons (sC (.int 1)) aNil))) aNil))) [.v S, .v T, .v (.int (w : Int)), .v (.int (n : Int)), .v (.lst (cs2.map D.int)), .v (.lst (rs.map rg)), .v (.lst (ss.map sn)), .v (sn sp0), .o (rs.map rg), .o ((ss.map (toSp w)).map sp), .v (studyO w rs (ss.map (toSp w))), .e, .e, .e] = .nx [.v S, .v T, .v (.int (w : Int)), .v (.int (n : Int)), .v (.lst (cs2.map D.int)), .v (.lst (rs.map rg)), .v (.lst (ss.map sn)), .v (sn sp0), .o G1, .o ((ss.map (toSp w)).map sp), .v (studyO w rs (ss.map (toSp w))), .e, .e, .e] ∧ G1.length = w :=
    ⟨_, XC.sto_ok (k := 0) rfl (XC.tup_ok (XC.a2 (XC.tup_ok (XC.a2 rfl rfl)) (XC.tup_ok (XC.a2 rfl rfl)))) rfl (by simp; omega), by simp [hl]⟩
  refine (seq_nx step_a.1).trans ?_
  refine (seq_nx (ρ' := [.v S, .v T, .v (.int (w : Int)), .v (.int (n : Int)), .v (.lst (cs2.map D.int)), .v (.lst (rs.map rg)), .v (.lst (ss.map sn)), .v (sn sp0), .o (G1 ++ [.tup [.non, .non]]), .o ((ss.map (toSp w)).map sp), .v (studyO w rs (ss.map (toSp w))), .e, .e, .e]) ?_).trans ?_
  · exact XC.app_ok rfl (XC.tup_ok (XC.a2 rfl rfl)) (by omega)
  generalize G1 ++ [.tup [.non, .non]] = G2
  refine (seq_nx (ρ' := [.v S, .v T, .v (.int (w : Int)), .v (.int (n : Int)), .v (.lst (cs2.map D.int)), .v (.lst (rs.map rg)), .v (.lst (ss.map sn)), .v (sn sp0), .o G2, .o ((ss.map (toSp w)).map sp ++ [.tup [menuO w [List.replicate w 1], .int 0]]), .v (studyO w rs (ss.map (toSp w))), .e, .e, .e]) ?_).trans ?_
  · have mk : sMake "Menu" f_Menu_init (aCons (sVar 2) (aCons (sLst (fLst (aCons (sOp oMulT (sTup (aCons (sC (.int 1)) aNil)) (sRd 2)) aNil))) aNil)) [.v S, .v T, .v (.int (w : Int)), .v (.int (n : Int)), .v (.lst (cs2.map D.int)), .v (.lst (rs.map rg)), .v (.lst (ss.map sn)), .v (sn sp0), .o G2, .o ((ss.map (toSp w)).map sp), .v (studyO w rs (ss.map (toSp w))), .e, .e, .e] = .ok (menuO w [List.replicate w 1]) := LM_k12.make_ok (one_menu 1 (by decide) h1 h8) (XC.a2 rfl (XC.lst_ok (XC.lit_ok (XC.a1 (XC.op_ok (f := sTup (aCons (sC (.int 1)) aNil)) (g := sRd 2) (XC.tup_ok (XC.a1 rfl)) rfl (by
      have := mulT1 (.int 1) h1 (by omega : w ≤ 1000)
      rw [this]
      simp [vec, List.map_replicate]))))))
    exact XC.app_ok rfl (XC.tup_ok (XC.a2 mk rfl)) (by simp; omega)
  obtain ⟨G3, step_b⟩ : ∃ G3, gSto 9 (sC (.int 0)) (sTup (aCons (sMake "Menu" f_Menu_init (aCons (sVar 2) (aCons (sLst (fLst (aCons (sOp oMulT (sTup (aCons (sC (.int 2)) aNil)) (sRd 2)) aNil))) aNil))) (aCons (sC (.int 0)) aNil))) [.v S, .v T, .v (.int (w : Int)), .v (.int (n : Int)), .v (.lst (cs2.map D.int)), .v (.lst (rs.map rg)), .v (.lst (ss.map sn)), .v (sn sp0), .o G2, .o ((ss.map (toSp w)).map sp ++ [.tup [menuO w [List.replicate w 1], .int 0]]), .v (studyO w rs (ss.map (toSp w))), .e, .e, .e] = .nx [.v S, .v T, .v (.int (w : Int)), .v (.int (n : Int)), .v (.lst (cs2.map D.int)), .v (.lst (rs.map rg)), .v (.lst (ss.map sn)), .v (sn sp0), .o G2, .o G3, .v (studyO w rs (ss.map (toSp w))), .e, .e, .e] := by
    have mk : sMake "Menu" f_Menu_init (aCons (sVar 2) (aCons (sLst (fLst (aCons (sOp oMulT (sTup (aCons (sC (.int 2)) aNil)) (sRd 2)) aNil))) aNil)) [.v S, .v T, .v (.int (w : Int)), .v (.int (n : Int)), .v (.lst (cs2.map D.int)), .v (.lst (rs.map rg)), .v (.lst (ss.map sn)), .v (sn sp0), .o G2, .o ((ss.map (toSp w)).map sp ++ [.tup [menuO w [List.replicate w 1], .int 0]]), .v (studyO w rs (ss.map (toSp w))), .e, .e, .e] = .ok (menuO w [List.replicate w 2]) := LM_k12.make_ok (one_menu 2 (by decide) h1 h8) (XC.a2 rfl (XC.lst_ok (XC.lit_ok (XC.a1 (XC.op_ok (f := sTup (aCons (sC (.int 2)) aNil)) (g := sRd 2) (XC.tup_ok (XC.a1 rfl)) rfl (by
      have := mulT1 (.int 2) h1 (by omega : w ≤ 1000)
      rw [this]
      simp [vec, List.map_replicate]))))))
    exact ⟨_, XC.sto_ok (k := 0) rfl (XC.tup_ok (XC.a2 mk rfl)) rfl (by simp)⟩
  refine (seq_nx step_b).trans ?_
  refine (seq_nx (ρ' := [.v S, .v T, .v (.int (w : Int)), .v (.int (n : Int)), .v (.lst (cs2.map D.int)), .v (.lst (rs.map rg)), .v (.lst (ss.map sn)), .v (sn sp0), .o G2, .o G3, .v (studyO w rs (ss.map (toSp w))), .e, .e, .e]) ?_).trans ?_
  · have e : sCall f_Study_free (aCons (sVar 2) aNil) [.v S, .v T, .v (.int (w : Int)), .v (.int (n : Int)), .v (.lst (cs2.map D.int)), .v (.lst (rs.map rg)), .v (.lst (ss.map sn)), .v (sn sp0), .o G2, .o G3, .v (studyO w rs (ss.map (toSp w))), .e, .e, .e] = .ok _ := XC.call_ok (XC.a1 rfl) (free_ok h1 h8) rfl
    exact XC.if_nx (XC.or_ff (ist rfl rfl rfl ist1) (ist e (XC.lst_ok (XC.fop_ok (f := sLst (fLst (aCons (sTup (aCons (sC .non) (aCons (sC .non) aNil))) aNil))) (XC.lst_ok (XC.lit_ok (XC.a1 (XC.tup_ok (XC.a2 rfl rfl))))) rfl (by rw [rep_ok (by omega)]; exact congrArg Res.ok (free_rgs w).symm))) (XC.lst_ok (XC.lit_ok rfl)) ist2))
  refine (seq_nx (ρ' := [.v S, .v T, .v (.int (w : Int)), .v (.int (n : Int)), .v (.lst (cs2.map D.int)), .v (.lst (rs.map rg)), .v (.lst (ss.map sn)), .v (sn sp0), .o G2, .o G3, .v (studyO w rs (ss.map (toSp w))), .e, .e, .e]) ?_).trans ?_
  · exact XC.if_nx (XC.tru (XC.call_ok (XC.a5 rfl rfl rfl rfl (row3 _ rfl)) fur1 rfl))
  refine (seq_nx (ρ' := [.v S, .v T, .v (.int (w : Int)), .v (.int (n : Int)), .v (.lst (cs4.map D.int)), .v (.lst (rs.map rg)), .v (.lst (ss.map sn)), .v (sn sp0), .o G2, .o G3, .v (studyO w rs (ss.map (toSp w))), .e, .e, .e]) ?_).trans ?_
  · exact XC.set_ok (XC.call_fr (XC.a3 rfl rfl rfl) hr4)
  obtain ⟨km, lm⟩ := XC.for_same (ρ := [.v S, .v T, .v (.int (w : Int)), .v (.int (n : Int)), .v (.lst (cs4.map D.int)), .v (.lst (rs.map rg)), .v (.lst (ss.map sn)), .v (sn sp0), .o G2, .o G3, .v (studyO w rs (ss.map (toSp w))), .e, .e, .e]) (i := 11) (body := b3_law) (rngD 0 16) .e (fun d hd => by
    obtain ⟨k, hk, rfl⟩ := List.mem_map.mp hd
    exact XC.if_nx (XC.tru (XC.call_ok (XC.a5 rfl rfl rfl rfl rfl) (ref _) rfl)))
  refine (seq_nx (ρ' := [.v S, .v T, .v (.int (w : Int)), .v (.int (n : Int)), .v (.lst (cs4.map D.int)), .v (.lst (rs.map rg)), .v (.lst (ss.map sn)), .v (sn sp0), .o G2, .o G3, .v (studyO w rs (ss.map (toSp w))), km, .e, .e]) ?_).trans ?_
  · have e : (iRg1 (aCons (sC (.int 16)) aNil)) [.v S, .v T, .v (.int (w : Int)), .v (.int (n : Int)), .v (.lst (cs4.map D.int)), .v (.lst (rs.map rg)), .v (.lst (ss.map sn)), .v (sn sp0), .o G2, .o G3, .v (studyO w rs (ss.map (toSp w))), .e, .e, .e] = .ok (rngD 0 16) := by
      have := rng1_ok (n := 16) (by decide)
      simp only [iRg1, XC.a1 (show (sC (.int 16)) [.v S, .v T, .v (.int (w : Int)), .v (.int (n : Int)), .v (.lst (cs4.map D.int)), .v (.lst (rs.map rg)), .v (.lst (ss.map sn)), .v (sn sp0), .o G2, .o G3, .v (studyO w rs (ss.map (toSp w))), .e, .e, .e] = .ok (.int 16) from rfl), Res.bind_ok]
      exact this
    simp only [gFor, e, rS_ok]
    exact lm
  refine (seq_nx (ρ' := [.v S, .v T, .v (.int (w : Int)), .v (.int (n : Int)), .v (.lst (cs4.map D.int)), .v (.lst (rs.map rg)), .v (.lst (ss.map sn)), .v (sn sp0), .o G2, .o G3, .v (studyO w rs (ss.map (toSp w))), km, .e, .e]) ?_).trans ?_
  · exact XC.if_nx (flt .num (f1 := sC (.int 0)) (f2 := sC .non) (f3 := sC (.int 9)) (fd := sTup (aCons (sC (.str "number")) (aCons (sC (.int 0)) aNil))) rfl rfl rfl (XC.lst_ok (XC.fop_ok (g := sC (.int 9)) (XC.lst_ok (XC.lit_ok (XC.a1 (XC.tup_ok (XC.a2 rfl rfl))))) rfl (rep_ok (k := 9) (by decide)))) (XC.lst_ok (XC.lit_ok rfl)) rfl (due_num (.inr (.inl (by decide)))).1)
  refine (seq_nx (ρ' := [.v S, .v T, .v (.int (w : Int)), .v (.int (n : Int)), .v (.lst (cs4.map D.int)), .v (.lst (rs.map rg)), .v (.lst (ss.map sn)), .v (sn sp0), .o G2, .o G3, .v (studyO w rs (ss.map (toSp w))), km, .e, .e]) ?_).trans ?_
  · exact XC.if_nx (flt .num (f1 := sC (.int 0)) (f2 := sC .non) (f3 := sC (.int 0)) (fd := sTup (aCons (sC (.str "number")) (aCons (sC (.int 0)) aNil))) rfl rfl rfl (XC.lst_ok (XC.lit_ok rfl)) (XC.lst_ok (XC.lit_ok rfl)) rfl (due_num (.inl (by decide))).1)
  refine (seq_nx (ρ' := [.v S, .v T, .v (.int (w : Int)), .v (.int (n : Int)), .v (.lst (cs4.map D.int)), .v (.lst (rs.map rg)), .v (.lst (ss.map sn)), .v (sn sp0), .o G2, .o G3, .v (studyO w rs (ss.map (toSp w))), km, .v (.lst (ss2.map sn)), .e]) ?_).trans ?_
  · have e : ss2.map sn = (ss.map sn ++ List.replicate 10 (sn sp0)).take 10 := by rw [hss2]; simp [List.map_take]
    rw [e]
    exact XC.set_ok (XC.sl_l (k := 10) (XC.lst_ok (XC.fop_ok (f := sRd 6) rfl (XC.lst_ok (XC.fop_ok (g := sC (.int 10)) (XC.lst_ok (XC.lit_ok (XC.a1 rfl))) rfl (rep_ok (k := 10) (by decide)))) (cat_ok (by simp; omega)))) rfl (by simp))
  refine (seq_nx (ρ' := [.v S, .v T, .v (.int (w : Int)), .v (.int (n : Int)), .v (.lst (cs4.map D.int)), .v (.lst (rs.map rg)), .v (.lst (ss.map sn)), .v (sn sp0), .o G2, .o G3, .v (studyO w rs (ss.map (toSp w))), km, .v (.lst (ss2.map sn)), .e]) ?_).trans ?_
  · have mk := Sd.mk_ok D2 (RD := .lst (rs.map rg)) (SD := .lst ((ss2.map (toSp w)).map sp)) (.inl rfl) (.inl rfl) (fs := aCons (sVar 2) (aCons (sLst (fUn bLst (sRd 5))) (aCons (sCall f_ulaw_pairs (aCons (sVar 12) (aCons (sVar 2) aNil))) aNil))) (ρ := [.v S, .v T, .v (.int (w : Int)), .v (.int (n : Int)), .v (.lst (cs4.map D.int)), .v (.lst (rs.map rg)), .v (.lst (ss.map sn)), .v (sn sp0), .o G2, .o G3, .v (studyO w rs (ss.map (toSp w))), km, .v (.lst (ss2.map sn)), .e]) (XC.a3 rfl (XC.lst_ok (XC.fun_ok (f := sRd 5) rfl rfl)) (XC.call_fr (XC.a2 rfl rfl) pk2))
    exact XC.if_nx (XC.tru (XC.call_ok (XC.a5 mk rfl rfl rfl (row3 _ rfl)) fur2 rfl))
  exact XC.ret_ok (XC.call_ok (XC.a3 rfl rfl rfl) ist1 rfl)
end M_k12

set_option Elab.async false
set_option linter.all false
set_option maxRecDepth 100000
set_option maxHeartbeats 4000000
/-! The walk: each def keeps its promise; the end (printed by gen.py) -/
namespace W_k12
open PySem PySem.Spec L2 PF S_k12
def top (i : Nat) : Stmt := PySem.Challenge.pw_costsexplained_k12_studies_refuse_in_ord.main.body.getD i (.Pass ⟨0, 0, 0, 0⟩)
def mth (i j : Nat) : Stmt := (clsBody (top i)).getD j (.Pass ⟨0, 0, 0, 0⟩)
abbrev file : Str := "/claim/cut.py"
def ci_Study : List Str := ["Study"]
def ci_Task : List Str := ["Menu"]
def ci_Menu : List Str := ["Menu"]
structure Bi (mg : Mg) : Prop where
  ValueError : mg "ValueError" = none
  abs : mg "abs" = none
  all : mg "all" = none
  bool : mg "bool" = none
  enumerate : mg "enumerate" = none
  int : mg "int" = none
  isinstance : mg "isinstance" = none
  len : mg "len" = none
  list : mg "list" = none
  range : mg "range" = none
  str : mg "str" = none
  super : mg "super" = none
  tuple : mg "tuple" = none
structure Ez (K : Frg) (mg : Mg) : Prop where
  BadNumber : ExcT K mg "BadNumber" (He.ga K "BadNumber")
  BadTask : ExcT K mg "BadTask" (He.ga K "BadTask")
  g_BadName : mg "BadName" = some (.ref (He.ga K "BadName"))
  g_BadNumber : mg "BadNumber" = some (.ref (He.ga K "BadNumber"))
  g_BadPaper : mg "BadPaper" = some (.ref (He.ga K "BadPaper"))
  g_BadQuestion : mg "BadQuestion" = some (.ref (He.ga K "BadQuestion"))
  g_BadRange : mg "BadRange" = some (.ref (He.ga K "BadRange"))
  g_BadSeen : mg "BadSeen" = some (.ref (He.ga K "BadSeen"))
  g_BadTask : mg "BadTask" = some (.ref (He.ga K "BadTask"))
  g_BadText : mg "BadText" = some (.ref (He.ga K "BadText"))
  g_CostsError : mg "CostsError" = some (.ref (He.ga K "CostsError"))
  g_NoCosts : mg "NoCosts" = some (.ref (He.ga K "NoCosts"))
  g_NotAPlan : mg "NotAPlan" = some (.ref (He.ga K "NotAPlan"))
  g_StaleKey : mg "StaleKey" = some (.ref (He.ga K "StaleKey"))
  g_TooMany : mg "TooMany" = some (.ref (He.ga K "TooMany"))
  g_UnknownName : mg "UnknownName" = some (.ref (He.ga K "UnknownName"))
  g_Unlisted : mg "Unlisted" = some (.ref (He.ga K "Unlisted"))
  g_Menu : mg "Menu" = some (.ref (He.ga K "Menu"))
  g_Study : mg "Study" = some (.ref (He.ga K "Study"))
  g_Task : mg "Task" = some (.ref (He.ga K "Task"))
  X_t_BadRge_TooMny_BadSen : TabT K mg t_BadRge_TooMny_BadSen [(.ref (He.ga K "BadRange")), (.ref (He.ga K "TooMany")), (.ref (He.ga K "BadSeen"))]
  X_t_BadNumber : TabI K mg t_BadNumber (.ref (He.ga K "BadNumber"))
  X_t_BadNer_TooMny_BadSen : TabT K mg t_BadNer_TooMny_BadSen [(.ref (He.ga K "BadNumber")), (.ref (He.ga K "TooMany")), (.ref (He.ga K "BadSeen"))]
  X_t_BadRange : TabI K mg t_BadRange (.ref (He.ga K "BadRange"))
  X_t_BadNer_BadRge_BadSen : TabT K mg t_BadNer_BadRge_BadSen [(.ref (He.ga K "BadNumber")), (.ref (He.ga K "BadRange")), (.ref (He.ga K "BadSeen"))]
  X_t_TooMany : TabI K mg t_TooMany (.ref (He.ga K "TooMany"))
  X_t_BadNer_BadRge_TooMny : TabT K mg t_BadNer_BadRge_TooMny [(.ref (He.ga K "BadNumber")), (.ref (He.ga K "BadRange")), (.ref (He.ga K "TooMany"))]
  X_t_BadSeen : TabI K mg t_BadSeen (.ref (He.ga K "BadSeen"))
  X_t_BadTsk_NotAan_Unlied_BadPer_NoCots_BadQon_BadTxt_BadNme_Unknme : TabT K mg t_BadTsk_NotAan_Unlied_BadPer_NoCots_BadQon_BadTxt_BadNme_Unknme [(.ref (He.ga K "BadTask")), (.ref (He.ga K "NotAPlan")), (.ref (He.ga K "Unlisted")), (.ref (He.ga K "BadPaper")), (.ref (He.ga K "NoCosts")), (.ref (He.ga K "BadQuestion")), (.ref (He.ga K "BadText")), (.ref (He.ga K "BadName")), (.ref (He.ga K "UnknownName"))]
  X_t_ValueError : TabI K mg t_ValueError (.type "ValueError")
  X_t_StaleKey : TabI K mg t_StaleKey (.ref (He.ga K "StaleKey"))
  Y_t_CostsError : Tab K mg t_CostsError (.ref (He.ga K "CostsError"))
  f_ranges : FldT K mg cs_ranges "ranges"
  f_seen : FldT K mg cs_seen "seen"
  f_usages : FldT K mg cs_usages "usages"
  f_width : FldT K mg cs_width "width"
  k_Menu_MOST : CcT K mg "Menu" "MOST" (.int 24)
  k_Study_SEEN : CcT K mg "Study" "SEEN" (.int 10)
  k_Task_WIDTH : CcT K mg "Task" "WIDTH" (.int 8)
  I_Menu : IsCT K mg is_Menu "Menu"
  I_Study : IsCT K mg is_Study "Study"
  u_Menu : SupT K mg ci_Menu (He.ga K "Menu") (He.fAd K ("Task", some "__init__"))
  v_Menu : ∃ cd, PySem.W.clsIn K (He.ga K "Menu") = some cd
  xs_BadRange : XsT K mg ["BadRange"] (He.ga K "BadRange")
  v_BadRange : ∃ cd, PySem.W.clsIn K (He.ga K "BadRange") = some cd
  xf_BadRange_letter : XfT K mg ["BadRange"] "letter"
  xs_BadSeen : XsT K mg ["BadSeen"] (He.ga K "BadSeen")
  v_BadSeen : ∃ cd, PySem.W.clsIn K (He.ga K "BadSeen") = some cd
  xf_BadSeen_place : XfT K mg ["BadSeen"] "place"
  xs_TooMany : XsT K mg ["TooMany"] (He.ga K "TooMany")
  v_TooMany : ∃ cd, PySem.W.clsIn K (He.ga K "TooMany") = some cd
  xf_TooMany_word : XfT K mg ["TooMany"] "word"
  xf_TooMany_limit : XfT K mg ["TooMany"] "limit"
  xr_letter : XrT K mg xr_letter "letter"
  xr_limit : XrT K mg xr_limit "limit"
  xr_place : XrT K mg xr_place "place"
  xr_word : XrT K mg xr_word "word"
abbrev s_BadRange_init : Stmt := mth 10 0
theorem sc_BadRange_init : NdefX.NScope ["self", "letter", "__class__"] ["self", "letter"] ["__class__"] (defScope s_BadRange_init) := NdefX.nscope_by (by decide +kernel)
theorem ok_BadRange_init {P : Program} {w : World} {K : Frg} {mg : Mg} {base : Heap} {f : Addr} {fd : FuncData} (F : FunS K (sM "BadRange" "__init__" "BadRange.__init__" s_BadRange_init) (He.ga K "BadRange") file f fd) (hP : SupP P file) (B : Bi mg) (Z : Ez K mg) : FnOk P w K mg base (L2.CX P w) 1 f fd ["self", "letter"] (spX K mg ["BadRange"] 1 f_BadRange_init) :=
  xn_okS F hP B.super Z.v_BadRange sc_BadRange_init rfl (by decide) rfl rfl rfl rfl fun cc cda A outer s H E hr cs su => (nxas_cons (nx_sup (W := W0) su Z.xs_BadRange (ma_cons (me_joined (mj_cons me_str (mj_cons (me_fmt (mr_rd 1 (pv 1))) mj_nil))) ma_nil) rfl (.inl rfl))
    (nx_cons (nx_fld (W := W0) Z.xf_BadRange_letter (pv 0) (me_var 1 (pv 1)))
    nx_nil))
abbrev s_BadSeen_init : Stmt := mth 11 0
theorem sc_BadSeen_init : NdefX.NScope ["self", "place", "__class__"] ["self", "place"] ["__class__"] (defScope s_BadSeen_init) := NdefX.nscope_by (by decide +kernel)
theorem ok_BadSeen_init {P : Program} {w : World} {K : Frg} {mg : Mg} {base : Heap} {f : Addr} {fd : FuncData} (F : FunS K (sM "BadSeen" "__init__" "BadSeen.__init__" s_BadSeen_init) (He.ga K "BadSeen") file f fd) (hP : SupP P file) (B : Bi mg) (Z : Ez K mg) : FnOk P w K mg base (L2.CX P w) 1 f fd ["self", "place"] (spX K mg ["BadSeen"] 1 f_BadSeen_init) :=
  xn_okS F hP B.super Z.v_BadSeen sc_BadSeen_init rfl (by decide) rfl rfl rfl rfl fun cc cda A outer s H E hr cs su => (nxas_cons (nx_sup (W := W0) su Z.xs_BadSeen (ma_cons (me_joined (mj_cons me_str (mj_cons (me_fmt (mr_rd 1 (pv 1))) mj_nil))) ma_nil) rfl (.inl rfl))
    (nx_cons (nx_fld (W := W0) Z.xf_BadSeen_place (pv 0) (me_var 1 (pv 1)))
    nx_nil))
abbrev s_TooMany_init : Stmt := mth 12 0
theorem sc_TooMany_init : NdefX.NScope ["self", "word", "limit", "__class__"] ["self", "word", "limit"] ["__class__"] (defScope s_TooMany_init) := NdefX.nscope_by (by decide +kernel)
theorem ok_TooMany_init {P : Program} {w : World} {K : Frg} {mg : Mg} {base : Heap} {f : Addr} {fd : FuncData} (F : FunS K (sM "TooMany" "__init__" "TooMany.__init__" s_TooMany_init) (He.ga K "TooMany") file f fd) (hP : SupP P file) (B : Bi mg) (Z : Ez K mg) : FnOk P w K mg base (L2.CX P w) 1 f fd ["self", "word", "limit"] (spX K mg ["TooMany"] 2 f_TooMany_init) :=
  xn_okS F hP B.super Z.v_TooMany sc_TooMany_init rfl (by decide) rfl rfl rfl rfl fun cc cda A outer s H E hr cs su => (nxas_cons (nx_sup (W := W0) su Z.xs_TooMany (ma_cons (me_joined (mj_cons me_str (mj_cons (me_fmt (mr_rd 2 (pv 2))) (mj_cons me_str (mj_cons (me_fmt (mr_rd 1 (pv 1))) mj_nil))))) ma_nil) rfl (.inl rfl))
    (nx_cons (nx_fld (W := W0) Z.xf_TooMany_word (pv 0) (me_var 1 (pv 1)))
    (nx_cons (nx_fld (W := W0) Z.xf_TooMany_limit (pv 0) (me_var 2 (pv 2)))
    nx_nil)))
abbrev s_compare : Stmt := top 18
theorem sc_compare : FnScope ["left", "right", "gap"] ["left", "right"] (defScope s_compare) := ⟨rfl, rfl, rfl, by decide +kernel, rfl, by decide +kernel, by decide +kernel⟩
theorem ok_compare {P : Program} {w : World} {K : Frg} {mg : Mg} {base : Heap} {f : Addr} {fd : FuncData} (F : Fun K "compare" "compare" s_compare f fd) (B : Bi mg) (Z : Ez K mg) : FnOk P w K mg base (L2.CX P w) 1 f fd ["left", "right"] (spF K mg 2 f_compare) :=
  fn_ok F sc_compare fun cdv A outer s H E hr cs => (ms_cons (ms_set 2 sc_compare.nd (me_op op_sub o_sub (mr_of (me_op op_mulU o_mul (mr_of (me_ix ix_seq o_ix (mr_rd 0 (pv 0)) (mr_of me_int) (fun _ _ => rfl))) (mr_of (me_ix ix_seq o_ix (mr_rd 1 (pv 1)) (mr_of me_int) (fun _ _ => rfl))))) (mr_of (me_op op_mulU o_mul (mr_of (me_ix ix_seq o_ix (mr_rd 1 (pv 1)) (mr_of me_int) (fun _ _ => rfl))) (mr_of (me_ix ix_seq o_ix (mr_rd 0 (pv 0)) (mr_of me_int) (fun _ _ => rfl)))))))
    (ms_one (ms_ret (me_op op_sub o_sub (mr_of (me_t1 call_intT b_intT B.int (by decide +kernel) (mr_of (me_cmp op_gt o_gt (mr_rd 2 (pv 2)) (mr_of me_int) (nomark _))))) (mr_of (me_t1 call_intT b_intT B.int (by decide +kernel) (mr_of (me_cmp op_lt o_lt (mr_rd 2 (pv 2)) (mr_of me_int) (nomark _)))))))))
abbrev s_is_whole : Stmt := top 20
theorem sc_is_whole : FnScope ["value"] ["value"] (defScope s_is_whole) := ⟨rfl, rfl, rfl, by decide +kernel, rfl, by decide +kernel, by decide +kernel⟩
theorem ok_is_whole {P : Program} {w : World} {K : Frg} {mg : Mg} {base : Heap} {f : Addr} {fd : FuncData} (F : Fun K "is_whole" "is_whole" s_is_whole f fd) (B : Bi mg) (Z : Ez K mg) : FnOk P w K mg base (L2.CX P w) 1 f fd ["value"] (spF K mg 1 f_is_whole) :=
  fn_ok F sc_is_whole fun cdv A outer s H E hr cs => (ms_one (ms_ret (me_and (me_isi (mr_rd 0 (pv 0)) (by decide +kernel) B.isinstance B.int) (pe_one (me_not (me_isi (mr_rd 0 (pv 0)) (by decide +kernel) B.isinstance B.bool))))))
abbrev s_Menu_is_plan : Stmt := mth 25 3
theorem sc_Menu_is_plan : FnScope ["self", "plan"] ["self", "plan"] (defScope s_Menu_is_plan) := ⟨rfl, rfl, rfl, by decide +kernel, rfl, by decide +kernel, by decide +kernel⟩
theorem ok_Menu_is_plan {P : Program} {w : World} {K : Frg} {mg : Mg} {base : Heap} {f : Addr} {fd : FuncData} (F : Fun K "is_plan" "Menu.is_plan" s_Menu_is_plan f fd) (B : Bi mg) (Z : Ez K mg) {a_is_whole : Addr} {d_is_whole : FuncData} (D_is_whole : Df P w K mg base "is_whole" 1 a_is_whole d_is_whole ["value"] f_is_whole) : FnOk P w K mg base (L2.CX P w) 2 f fd ["self", "plan"] (spF K mg 2 f_Menu_is_plan) :=
  fn_ok F sc_Menu_is_plan fun cdv A outer s H E hr cs => (ms_one (ms_ret (me_and (me_calD D_is_whole (hr.mono (by decide)) cs.cw (ma_cons (me_var 1 (pv 1)) ma_nil) (len_cons (fun ρ ds h => len_nil h))) (pe_one (me_chn op_le o_le op_lt o_lt (mr_of me_int) (mr_rd 1 (pv 1)) (mr_of (me_b1 call_len b_len B.len (by decide +kernel) (mr_of (me_fld Z.f_usages (mr_rd 0 (pv 0)))))))))))
abbrev s_Study_init : Stmt := mth 22 1
theorem sc_Study_init : FnScope ["self", "width", "ranges", "seen", "letter", "low", "high", "place", "task", "plan"] ["self", "width", "ranges", "seen"] (defScope s_Study_init) := ⟨rfl, rfl, rfl, by decide +kernel, rfl, by decide +kernel, by decide +kernel⟩
theorem ok_Study_init {P : Program} {w : World} {K : Frg} {mg : Mg} {base : Heap} {f : Addr} {fd : FuncData} (F : Fun K "__init__" "Study.__init__" s_Study_init f fd) (B : Bi mg) (Z : Ez K mg) {a_compare : Addr} {d_compare : FuncData} (D_compare : Df P w K mg base "compare" 1 a_compare d_compare ["left", "right"] f_compare) {aX_BadRange iX_BadRange : Addr} {dX_BadRange : FuncData} {pX_BadRange cX_BadRange : List Str} (X_BadRange : XmT P w K mg base "BadRange" 1 1 f_BadRange_init aX_BadRange iX_BadRange dX_BadRange pX_BadRange cX_BadRange) {aX_TooMany iX_TooMany : Addr} {dX_TooMany : FuncData} {pX_TooMany cX_TooMany : List Str} (X_TooMany : XmT P w K mg base "TooMany" 2 1 f_TooMany_init aX_TooMany iX_TooMany dX_TooMany pX_TooMany cX_TooMany) (M_is_plan : MethT P w K mg base mt_is_plan "is_plan" 1 2) {aX_BadSeen iX_BadSeen : Addr} {dX_BadSeen : FuncData} {pX_BadSeen cX_BadSeen : List Str} (X_BadSeen : XmT P w K mg base "BadSeen" 1 1 f_BadSeen_init aX_BadSeen iX_BadSeen dX_BadSeen pX_BadSeen cX_BadSeen) : FnOk P w K mg base (L2.CX P w) 3 f fd ["self", "width", "ranges", "seen"] (spI K mg ci_Study 3 f_Study_init) :=
  in_ok F sc_Study_init rfl fun cdv A outer s H E hr cs => (ni_cons (ni_pl (ms_if (PW.pt (mw_or (mt_not (mt_chn op_le o_le op_le o_le (mr_of me_int) (mr_rd 1 (pv 1)) (mr_of me_int))) (mw_or1 (mt_cmp (op_neD hr.units) o_ne (mr_of (me_b1 call_len b_len B.len (by decide +kernel) (mr_rd 2 (pv 2)))) (mr_rd 1 (pv 1)) (nomark _))))) (ms_one (ms_raise cs Z.BadNumber)) ms_nil))
    (ni_cons (ni_pl (ms_for cs.po cs.hc (mi_enum rfl B.enumerate (ma_cons (me_var 2 (pv 2)) ma_nil)) (mg_tup cs.hc (mgs_cons (mg_name 4 sc_Study_init.nd) (mgs_cons (mg_tup cs.hc (mgs_cons (mg_name 5 sc_Study_init.nd) (mgs_cons (mg_name 6 sc_Study_init.nd) mgs_nil))) mgs_nil))) (ms_one (ms_if (PW.pt (mw_and (mt_cmp op_notN o_notN (mr_rd 5 (pv 5)) (mr_of me_non) (nomark _)) (mw_and (mt_cmp op_notN o_notN (mr_rd 6 (pv 6)) (mr_of me_non) (nomark _)) (mw_and1 (mt_cmp op_gt o_gt (mr_of (me_calD D_compare (hr.mono (by decide)) cs.cw (ma_cons (me_var 5 (pv 5)) (ma_cons (me_var 6 (pv 6)) ma_nil)) (len_cons (len_cons (fun ρ ds h => len_nil h))))) (mr_of me_int) (nomark _)))))) (ms_one (ms_raiseX cs X_BadRange (hr.mono (by decide)) (ma_cons (me_var 4 (pv 4)) ma_nil) (len_cons (fun ρ ds h => len_nil h)))) ms_nil))))
    (ni_cons (ni_pl (ms_if (mt_cmp op_gt o_gt (mr_of (me_b1 call_len b_len B.len (by decide +kernel) (mr_rd 3 (pv 3)))) (mr_of (me_ccon Z.k_Study_SEEN)) (nomark _)) (ms_one (ms_raiseX cs X_TooMany (hr.mono (by decide)) (ma_cons me_str (ma_cons (me_ccon Z.k_Study_SEEN) ma_nil)) (len_cons (len_cons (fun ρ ds h => len_nil h))))) ms_nil))
    (ni_cons (ni_pl (ms_for cs.po cs.hc (mi_enum rfl B.enumerate (ma_cons (me_var 3 (pv 3)) ma_nil)) (mg_tup cs.hc (mgs_cons (mg_name 7 sc_Study_init.nd) (mgs_cons (mg_tup cs.hc (mgs_cons (mg_name 8 sc_Study_init.nd) (mgs_cons (mg_name 9 sc_Study_init.nd) mgs_nil))) mgs_nil))) (ms_one (ms_if (PW.pt (mw_or (mt_cmp (op_neD hr.units) o_ne (mr_of (me_fld Z.f_width (mr_rd 8 (pv 8)))) (mr_rd 1 (pv 1)) (nomark _)) (mw_or1 (mt_not (mt_tru (mr_of (me_meth M_is_plan (hr.mono (by decide)) cs.cw (mr_rd 8 (pv 8)) (ma_cons (me_var 9 (pv 9)) ma_nil) (len_cons (fun ρ ds h => len_nil h))))))))) (ms_one (ms_raiseX cs X_BadSeen (hr.mono (by decide)) (ma_cons (me_var 7 (pv 7)) ma_nil) (len_cons (fun ρ ds h => len_nil h)))) ms_nil))))
    (ni_cons (ni_fld (fldT_sub (by decide +kernel) Z.f_width) (pv 0) (me_var 1 (pv 1)))
    (ni_cons (ni_fld (fldT_sub (by decide +kernel) Z.f_ranges) (pv 0) (me_t1 call_tuple_of b_tup B.tuple (by decide +kernel) (mr_f (mf_lc (own := [("low", 5), ("high", 6)]) cs.hc sc_Study_init.nd (mi_seq (me_var 2 (pv 2))) (blkOk_by (N := ["self", "width", "ranges", "seen", "letter", "low", "high", "place", "task", "plan"]) (sc := defScope s_Study_init) (by decide +kernel)) (fun _ _ _ _ _ => (mg_tup cs.hc (mgs_cons (mg_name 5 sc_Study_init.nd) (mgs_cons (mg_name 6 sc_Study_init.nd) mgs_nil)))) (fun _ _ _ _ _ => mts_nil) (fun _ _ _ _ _ => (me_tup (ma_cons (me_var 5 (pv 5)) (ma_cons (me_var 6 (pv 6)) ma_nil))))))))
    (ni_cons (ni_fld (fldT_sub (by decide +kernel) Z.f_seen) (pv 0) (me_t1 call_tuple_of b_tup B.tuple (by decide +kernel) (mr_f (mf_lc (own := [("task", 8), ("plan", 9)]) cs.hc sc_Study_init.nd (mi_seq (me_var 3 (pv 3))) (blkOk_by (N := ["self", "width", "ranges", "seen", "letter", "low", "high", "place", "task", "plan"]) (sc := defScope s_Study_init) (by decide +kernel)) (fun _ _ _ _ _ => (mg_tup cs.hc (mgs_cons (mg_name 8 sc_Study_init.nd) (mgs_cons (mg_name 9 sc_Study_init.nd) mgs_nil)))) (fun _ _ _ _ _ => mts_nil) (fun _ _ _ _ _ => (me_tup (ma_cons (me_var 8 (pv 8)) (ma_cons (me_var 9 (pv 9)) ma_nil))))))))
    ni_nil)))))))
abbrev s_Study_free : Stmt := mth 22 2
theorem sc_Study_free : FnScope ["width"] ["width"] (defScope s_Study_free) := ⟨rfl, rfl, rfl, by decide +kernel, rfl, by decide +kernel, by decide +kernel⟩
theorem ok_Study_free {P : Program} {w : World} {K : Frg} {mg : Mg} {base : Heap} {f : Addr} {fd : FuncData} (F : Fun K "free" "Study.free" s_Study_free f fd) (B : Bi mg) (Z : Ez K mg) {aC_Study aI_Study : Addr} {dI_Study : FuncData} {pI_Study cI_Study : List Str} (C_Study : MkT P w K mg base "Study" 3 3 f_Study_init aC_Study aI_Study dI_Study pI_Study cI_Study) : FnOk P w K mg base (L2.CX P w) 5 f fd ["width"] (spF K mg 1 f_Study_free) :=
  fn_ok F sc_Study_free fun cdv A outer s H E hr cs => (ms_one (ms_ret (me_make C_Study (hr.mono (by decide)) cs.cw (ma_cons (me_var 0 (pv 0)) (ma_cons (me_of (mf_op op_rep f_rep (mr_f (mf_lst (ma_cons (me_tup (ma_cons me_non (ma_cons me_non ma_nil))) ma_nil))) (mr_rd 0 (pv 0)))) (ma_cons (me_of (mf_lst ma_nil)) ma_nil))) (len_cons (len_cons (len_cons (fun ρ ds h => len_nil h)))))))
abbrev s_Study_with_seen : Stmt := mth 22 3
theorem sc_Study_with_seen : FnScope ["self", "task", "plan"] ["self", "task", "plan"] (defScope s_Study_with_seen) := ⟨rfl, rfl, rfl, by decide +kernel, rfl, by decide +kernel, by decide +kernel⟩
theorem ok_Study_with_seen {P : Program} {w : World} {K : Frg} {mg : Mg} {base : Heap} {f : Addr} {fd : FuncData} (F : Fun K "with_seen" "Study.with_seen" s_Study_with_seen f fd) (B : Bi mg) (Z : Ez K mg) {aC_Study aI_Study : Addr} {dI_Study : FuncData} {pI_Study cI_Study : List Str} (C_Study : MkT P w K mg base "Study" 3 3 f_Study_init aC_Study aI_Study dI_Study pI_Study cI_Study) : FnOk P w K mg base (L2.CX P w) 5 f fd ["self", "task", "plan"] (spF K mg 3 f_Study_with_seen) :=
  fn_ok F sc_Study_with_seen fun cdv A outer s H E hr cs => (ms_one (ms_ret (me_make C_Study (hr.mono (by decide)) cs.cw (ma_cons (me_fld Z.f_width (mr_rd 0 (pv 0))) (ma_cons (me_fld Z.f_ranges (mr_rd 0 (pv 0))) (ma_cons (me_op op_addU o_add (mr_of (me_fld Z.f_seen (mr_rd 0 (pv 0)))) (mr_of (me_tup (ma_cons (me_tup (ma_cons (me_var 1 (pv 1)) (ma_cons (me_var 2 (pv 2)) ma_nil))) ma_nil)))) ma_nil))) (len_cons (len_cons (len_cons (fun ρ ds h => len_nil h)))))))
abbrev s_Study_without_seen : Stmt := mth 22 4
theorem sc_Study_without_seen : FnScope ["self", "place"] ["self", "place"] (defScope s_Study_without_seen) := ⟨rfl, rfl, rfl, by decide +kernel, rfl, by decide +kernel, by decide +kernel⟩
theorem ok_Study_without_seen {P : Program} {w : World} {K : Frg} {mg : Mg} {base : Heap} {f : Addr} {fd : FuncData} (F : Fun K "without_seen" "Study.without_seen" s_Study_without_seen f fd) (B : Bi mg) (Z : Ez K mg) {aC_Study aI_Study : Addr} {dI_Study : FuncData} {pI_Study cI_Study : List Str} (C_Study : MkT P w K mg base "Study" 3 3 f_Study_init aC_Study aI_Study dI_Study pI_Study cI_Study) : FnOk P w K mg base (L2.CX P w) 5 f fd ["self", "place"] (spF K mg 2 f_Study_without_seen) :=
  fn_ok F sc_Study_without_seen fun cdv A outer s H E hr cs => (ms_cons (ms_if (mt_not (mt_chn op_le o_le op_lt o_lt (mr_of me_int) (mr_rd 1 (pv 1)) (mr_of (me_b1 call_len b_len B.len (by decide +kernel) (mr_of (me_fld Z.f_seen (mr_rd 0 (pv 0)))))))) (ms_one (ms_raise cs Z.BadNumber)) ms_nil)
    (ms_one (ms_ret (me_make C_Study (hr.mono (by decide)) cs.cw (ma_cons (me_fld Z.f_width (mr_rd 0 (pv 0))) (ma_cons (me_fld Z.f_ranges (mr_rd 0 (pv 0))) (ma_cons (me_op op_addU o_add (mr_of (me_sl (mr_of (me_fld Z.f_seen (mr_rd 0 (pv 0)))) mp_none (mp_some (me_var 1 (pv 1))))) (mr_of (me_sl (mr_of (me_fld Z.f_seen (mr_rd 0 (pv 0)))) (mp_some (me_op op_addU o_add (mr_rd 1 (pv 1)) (mr_of me_int))) mp_none))) ma_nil))) (len_cons (len_cons (len_cons (fun ρ ds h => len_nil h))))))))
abbrev s_Study_with_range : Stmt := mth 22 5
theorem sc_Study_with_range : FnScope ["self", "letter", "low", "high"] ["self", "letter", "low", "high"] (defScope s_Study_with_range) := ⟨rfl, rfl, rfl, by decide +kernel, rfl, by decide +kernel, by decide +kernel⟩
theorem ok_Study_with_range {P : Program} {w : World} {K : Frg} {mg : Mg} {base : Heap} {f : Addr} {fd : FuncData} (F : Fun K "with_range" "Study.with_range" s_Study_with_range f fd) (B : Bi mg) (Z : Ez K mg) {aC_Study aI_Study : Addr} {dI_Study : FuncData} {pI_Study cI_Study : List Str} (C_Study : MkT P w K mg base "Study" 3 3 f_Study_init aC_Study aI_Study dI_Study pI_Study cI_Study) : FnOk P w K mg base (L2.CX P w) 5 f fd ["self", "letter", "low", "high"] (spF K mg 4 f_Study_with_range) :=
  fn_ok F sc_Study_with_range fun cdv A outer s H E hr cs => (ms_cons (ms_if (mt_not (mt_chn op_le o_le op_lt o_lt (mr_of me_int) (mr_rd 1 (pv 1)) (mr_of (me_fld Z.f_width (mr_rd 0 (pv 0)))))) (ms_one (ms_raise cs Z.BadNumber)) ms_nil)
    (ms_one (ms_ret (me_make C_Study (hr.mono (by decide)) cs.cw (ma_cons (me_fld Z.f_width (mr_rd 0 (pv 0))) (ma_cons (me_op op_addU o_add (mr_of (me_op op_addU o_add (mr_of (me_sl (mr_of (me_fld Z.f_ranges (mr_rd 0 (pv 0)))) mp_none (mp_some (me_var 1 (pv 1))))) (mr_of (me_tup (ma_cons (me_tup (ma_cons (me_var 2 (pv 2)) (ma_cons (me_var 3 (pv 3)) ma_nil))) ma_nil))))) (mr_of (me_sl (mr_of (me_fld Z.f_ranges (mr_rd 0 (pv 0)))) (mp_some (me_op op_addU o_add (mr_rd 1 (pv 1)) (mr_of me_int))) mp_none))) (ma_cons (me_fld Z.f_seen (mr_rd 0 (pv 0))) ma_nil))) (len_cons (len_cons (len_cons (fun ρ ds h => len_nil h))))))))
abbrev s_Task_init : Stmt := mth 24 3
theorem sc_Task_init : FnScope ["self", "width"] ["self", "width"] (defScope s_Task_init) := ⟨rfl, rfl, rfl, by decide +kernel, rfl, by decide +kernel, by decide +kernel⟩
theorem ok_Task_init {P : Program} {w : World} {K : Frg} {mg : Mg} {base : Heap} {f : Addr} {fd : FuncData} (F : Fun K "__init__" "Task.__init__" s_Task_init f fd) (B : Bi mg) (Z : Ez K mg) : FnOk P w K mg base (L2.CX P w) 1 f fd ["self", "width"] (spI K mg ci_Task 1 f_Task_init) :=
  in_ok F sc_Task_init rfl fun cdv A outer s H E hr cs => (ni_cons (ni_pl (ms_if (mt_not (mt_chn op_le o_le op_le o_le (mr_of me_int) (mr_rd 1 (pv 1)) (mr_of (me_ccon Z.k_Task_WIDTH)))) (ms_one (ms_raise cs Z.BadTask)) ms_nil))
    (ni_cons (ni_fld (fldT_sub (by decide +kernel) Z.f_width) (pv 0) (me_var 1 (pv 1)))
    ni_nil))
abbrev s_Menu_init : Stmt := mth 25 2
theorem sc_Menu_init : NdefX.NScope ["self", "width", "usages", "__class__", "row"] ["self", "width", "usages"] ["__class__"] (defScope s_Menu_init) := NdefX.nscope_by (by decide +kernel)
theorem ok_Menu_init {P : Program} {w : World} {K : Frg} {mg : Mg} {base : Heap} {f : Addr} {fd : FuncData} (F : FunS K (sM "Menu" "__init__" "Menu.__init__" s_Menu_init) (He.ga K "Menu") file f fd) (hP : SupP P file) (B : Bi mg) (Z : Ez K mg) {d_Task_init : FuncData} (I_Task_init : FnOk P w K mg base (L2.CX P w) 1 (He.fAd K ("Task", some "__init__")) d_Task_init ["self", "width"] (spI K mg ci_Task 1 f_Task_init)) (J_Task_init : Binds K d_Task_init ["self", "width"] []) : FnOk P w K mg base (L2.CX P w) 2 f fd ["self", "width", "usages"] (spI K mg ci_Menu 2 f_Menu_init) :=
  in_okS F hP B.super Z.v_Menu sc_Menu_init rfl (by decide) rfl rfl rfl rfl fun cc cda A outer s H E hr cs su => (nias_cons (ni_sup su Z.u_Menu I_Task_init J_Task_init (hr.mono (by decide)) cs.cw (ma_cons (me_var 1 (pv 1)) ma_nil) (len_cons (fun ρ ds h => len_nil h)) (by decide +kernel) rfl (.inl rfl))
    (ni_cons (ni_pl (ms_if (mt_not (mt_chn op_le o_le op_le o_le (mr_of me_int) (mr_of (me_b1 call_len b_len B.len (by decide +kernel) (mr_rd 2 (pv 2)))) (mr_of (me_ccon Z.k_Menu_MOST)))) (ms_one (ms_raise cs Z.BadTask)) ms_nil))
    (ni_cons (ni_pl (ms_for cs.po cs.hc (mi_seq (me_var 2 (pv 2))) (mg_name 4 sc_Menu_init.nd) (ms_one (ms_if (mt_cmp (op_neD hr.units) o_ne (mr_of (me_b1 call_len b_len B.len (by decide +kernel) (mr_rd 4 (pv 4)))) (mr_rd 1 (pv 1)) (nomark _)) (ms_one (ms_raise cs Z.BadTask)) ms_nil))))
    (ni_cons (ni_fld (fldT_sub (by decide +kernel) Z.f_usages) (pv 0) (me_t1 call_tuple_of b_tup B.tuple (by decide +kernel) (mr_f (mf_lc (own := [("row", 4)]) cs.hc sc_Menu_init.nd (mi_seq (me_var 2 (pv 2))) (blkOk_by (N := ["self", "width", "usages", "__class__", "row"]) (sc := defScope s_Menu_init) (by decide +kernel)) (fun _ _ _ _ _ => (mg_name 4 sc_Menu_init.nd)) (fun _ _ _ _ _ => mts_nil) (fun _ _ _ _ _ => (me_t1 call_tuple_of b_tup B.tuple (by decide +kernel) (mr_rd 4 (pv 4))))))))
    ni_nil))))
abbrev s_ulaw_mix : Stmt := top 27
theorem sc_ulaw_mix : FnScope ["cell", "k", "first", "second"] ["cell", "k"] (defScope s_ulaw_mix) := ⟨rfl, rfl, rfl, by decide +kernel, rfl, by decide +kernel, by decide +kernel⟩
theorem ok_ulaw_mix {P : Program} {w : World} {K : Frg} {mg : Mg} {base : Heap} {f : Addr} {fd : FuncData} (F : Fun K "_law_mix" "_law_mix" s_ulaw_mix f fd) (B : Bi mg) (Z : Ez K mg) : FnOk P w K mg base (L2.CX P w) 1 f fd ["cell", "k"] (spF K mg 2 f_ulaw_mix) :=
  fn_ok F sc_ulaw_mix fun cdv A outer s H E hr cs => (ms_cons (ms_set 2 sc_ulaw_mix.nd (me_op op_modN o_mod (mr_of (me_t1 call_intT b_intT B.int (by decide +kernel) (mr_of (me_op op_addU o_add (mr_of (me_op op_addU o_add (mr_of (me_op op_mulU o_mul (mr_rd 0 (pv 0)) (mr_of me_int))) (mr_of (me_op op_mulU o_mul (mr_rd 1 (pv 1)) (mr_of me_int))))) (mr_of me_int))))) (mr_of me_int)))
    (ms_cons (ms_set 3 sc_ulaw_mix.nd (me_op op_modN o_mod (mr_of (me_t1 call_intT b_intT B.int (by decide +kernel) (mr_of (me_op op_addU o_add (mr_of (me_op op_addU o_add (mr_of (me_op op_mulU o_mul (mr_rd 2 (pv 2)) (mr_rd 2 (pv 2)))) (mr_of (me_op op_mulU o_mul (mr_rd 1 (pv 1)) (mr_of me_int))))) (mr_of me_int))))) (mr_of me_int)))
    (ms_one (ms_ret (me_op op_fdivU o_fdiv (mr_of (me_op op_modN o_mod (mr_of (me_t1 call_intT b_intT B.int (by decide +kernel) (mr_of (me_op op_addU o_add (mr_of (me_op op_mulU o_mul (mr_rd 3 (pv 3)) (mr_of me_int))) (mr_rd 2 (pv 2)))))) (mr_of me_int))) (mr_of me_int))))))
abbrev s_ulaw_row : Stmt := top 28
theorem sc_ulaw_row : FnScope ["script", "at", "many", "cell", "row", "rest", "k"] ["script", "at", "many"] (defScope s_ulaw_row) := ⟨rfl, rfl, rfl, by decide +kernel, rfl, by decide +kernel, by decide +kernel⟩
theorem ok_ulaw_row {P : Program} {w : World} {K : Frg} {mg : Mg} {base : Heap} {f : Addr} {fd : FuncData} (F : Fun K "_law_row" "_law_row" s_ulaw_row f fd) (B : Bi mg) (Z : Ez K mg) {a_ulaw_mix : Addr} {d_ulaw_mix : FuncData} (D_ulaw_mix : Df P w K mg base "_law_mix" 1 a_ulaw_mix d_ulaw_mix ["cell", "k"] f_ulaw_mix) : FnOk P w K mg base (L2.CX P w) 2 f fd ["script", "at", "many"] (spF K mg 3 f_ulaw_row) :=
  fn_ok F sc_ulaw_row fun cdv A outer s H E hr cs => (ms_cons (ms_set 3 sc_ulaw_row.nd (me_var 1 (pv 1)))
    (ms_cons (ms_if (mt_cmp op_lt o_lt (mr_rd 1 (pv 1)) (mr_of (me_b1 call_len b_len B.len (by decide +kernel) (mr_rd 0 (pv 0)))) (nomark _)) (ms_one (ms_set 3 sc_ulaw_row.nd (me_ix ix_seq o_ix (mr_rd 0 (pv 0)) (mr_rd 1 (pv 1)) (fun _ _ => rfl)))) (ms_one (ms_if (mt_cmp op_gt o_gt (mr_of (me_b1 call_len b_len B.len (by decide +kernel) (mr_rd 0 (pv 0)))) (mr_of me_int) (nomark _)) (ms_one (ms_set 3 sc_ulaw_row.nd (me_op op_addU o_add (mr_of (me_ix ix_seq o_ix (mr_rd 0 (pv 0)) (mr_of (me_op op_modN o_mod (mr_rd 1 (pv 1)) (mr_of (me_b1 call_len b_len B.len (by decide +kernel) (mr_rd 0 (pv 0)))))) (fun _ _ => rfl))) (mr_of (me_op op_mulU o_mul (mr_of me_int) (mr_rd 1 (pv 1))))))) ms_nil)))
    (ms_cons (ms_setO 4 sc_ulaw_row.nd (mf_lst ma_nil))
    (ms_cons (ms_set 5 sc_ulaw_row.nd (me_b1 call_abs b_abs B.abs (by decide +kernel) (mr_rd 3 (pv 3))))
    (ms_cons (ms_for cs.po cs.hc (mi_rng1 rfl B.range (ma_cons (me_var 2 (pv 2)) ma_nil)) (mg_name 6 sc_ulaw_row.nd) (ms_one (ms_if (PW.pt (mw_and (mt_cmp op_ge o_ge (mr_of (me_b1 call_abs b_abs B.abs (by decide +kernel) (mr_rd 3 (pv 3)))) (mr_of me_int) (nomark _)) (mw_and1 (mt_cmp op_gt o_gt (mr_rd 5 (pv 5)) (mr_of me_int) (nomark _))))) (ms_cons (ms_app 4 (pv 4) (me_op op_modN o_mod (mr_of (me_t1 call_intT b_intT B.int (by decide +kernel) (mr_rd 5 (pv 5)))) (mr_of me_int)))
    (ms_one (ms_set 5 sc_ulaw_row.nd (me_op op_fdivU o_fdiv (mr_rd 5 (pv 5)) (mr_of me_int))))) (ms_one (ms_app 4 (pv 4) (me_calD D_ulaw_mix (hr.mono (by decide)) cs.cw (ma_cons (me_var 3 (pv 3)) (ma_cons (me_var 6 (pv 6)) ma_nil)) (len_cons (len_cons (fun ρ ds h => len_nil h)))))))))
    (ms_one (ms_retO 4 (pv 4))))))))
abbrev s_ulaw_is_whole : Stmt := top 29
theorem sc_ulaw_is_whole : FnScope ["value"] ["value"] (defScope s_ulaw_is_whole) := ⟨rfl, rfl, rfl, by decide +kernel, rfl, by decide +kernel, by decide +kernel⟩
theorem ok_ulaw_is_whole {P : Program} {w : World} {K : Frg} {mg : Mg} {base : Heap} {f : Addr} {fd : FuncData} (F : Fun K "_law_is_whole" "_law_is_whole" s_ulaw_is_whole f fd) (B : Bi mg) (Z : Ez K mg) : FnOk P w K mg base (L2.CX P w) 1 f fd ["value"] (spF K mg 1 f_ulaw_is_whole) :=
  fn_ok F sc_ulaw_is_whole fun cdv A outer s H E hr cs => (ms_one (ms_ret (me_and (me_isi (mr_rd 0 (pv 0)) (by decide +kernel) B.isinstance B.int) (pe_one (me_not (me_isi (mr_rd 0 (pv 0)) (by decide +kernel) B.isinstance B.bool))))))
abbrev s_ulaw_is_tuple : Stmt := top 30
theorem sc_ulaw_is_tuple : FnScope ["value", "size", "num"] ["value", "size"] (defScope s_ulaw_is_tuple) := ⟨rfl, rfl, rfl, by decide +kernel, rfl, by decide +kernel, by decide +kernel⟩
theorem ok_ulaw_is_tuple {P : Program} {w : World} {K : Frg} {mg : Mg} {base : Heap} {f : Addr} {fd : FuncData} (F : Fun K "_law_is_tuple" "_law_is_tuple" s_ulaw_is_tuple f fd) (B : Bi mg) (Z : Ez K mg) {a_ulaw_is_whole : Addr} {d_ulaw_is_whole : FuncData} (D_ulaw_is_whole : Df P w K mg base "_law_is_whole" 1 a_ulaw_is_whole d_ulaw_is_whole ["value"] f_ulaw_is_whole) : FnOk P w K mg base (L2.CX P w) 2 f fd ["value", "size"] (spF K mg 2 f_ulaw_is_tuple) :=
  fn_ok F sc_ulaw_is_tuple fun cdv A outer s H E hr cs => (ms_one (ms_ret (me_and (me_isi (mr_rd 0 (pv 0)) (by decide +kernel) B.isinstance B.tuple) (me_and (me_cmp (op_eqD hr.units) o_eq (mr_of (me_b1 call_len b_len B.len (by decide +kernel) (mr_rd 0 (pv 0)))) (mr_rd 1 (pv 1)) (nomark _)) (pe_one (me_b1 (cr_all cs.hc) b_all B.all (by decide +kernel) (mr_f (mf_lc (own := [("num", 2)]) cs.hc sc_ulaw_is_tuple.nd (mi_seq (me_var 0 (pv 0))) (blkOk_by (N := ["value", "size", "num"]) (sc := defScope s_ulaw_is_tuple) (by decide +kernel)) (fun _ _ _ _ _ => (mg_name 2 sc_ulaw_is_tuple.nd)) (fun _ _ _ _ _ => mts_nil) (fun _ _ _ _ _ => (me_calD D_ulaw_is_whole (hr.mono (by decide)) cw0 (ma_cons (me_var 2 (pv 2)) ma_nil) (len_cons (fun ρ ds h => len_nil h))))))))))))
abbrev s_ulaw_common : Stmt := top 31
theorem sc_ulaw_common : FnScope ["left", "right", "step"] ["left", "right"] (defScope s_ulaw_common) := ⟨rfl, rfl, rfl, by decide +kernel, rfl, by decide +kernel, by decide +kernel⟩
theorem ok_ulaw_common {P : Program} {w : World} {K : Frg} {mg : Mg} {base : Heap} {f : Addr} {fd : FuncData} (F : Fun K "_law_common" "_law_common" s_ulaw_common f fd) (B : Bi mg) (Z : Ez K mg) : FnOk P w K mg base (L2.CX P w) 1 f fd ["left", "right"] (spF K mg 2 f_ulaw_common) :=
  fn_ok F sc_ulaw_common fun cdv A outer s H E hr cs => (ms_cons (ms_par 0 1 cs.hc sc_ulaw_common.nd (me_b1 call_abs b_abs B.abs (by decide +kernel) (mr_rd 0 (pv 0))) (me_b1 call_abs b_abs B.abs (by decide +kernel) (mr_rd 1 (pv 1))))
    (ms_cons (ms_for cs.po cs.hc (mi_rng1 rfl B.range (ma_cons (me_op op_addU o_add (mr_of (me_op op_mulU o_mul (mr_of me_int) (mr_of (me_bits (mr_rd 1 (pv 1)))))) (mr_of me_int)) ma_nil)) (mg_name 2 sc_ulaw_common.nd) (ms_cons (ms_if (mt_cmp (op_eqD hr.units) o_eq (mr_rd 1 (pv 1)) (mr_of me_int) (nomark _)) (ms_one (ms_ret (me_var 0 (pv 0)))) ms_nil)
    (ms_one (ms_par 0 1 cs.hc sc_ulaw_common.nd (me_var 1 (pv 1)) (me_op op_modN o_mod (mr_of (me_t1 call_intT b_intT B.int (by decide +kernel) (mr_rd 0 (pv 0)))) (mr_rd 1 (pv 1)))))))
    (ms_one (ms_ret (me_var 0 (pv 0))))))
abbrev s_ulaw_lowest : Stmt := top 32
theorem sc_ulaw_lowest : FnScope ["num", "den", "part"] ["num", "den"] (defScope s_ulaw_lowest) := ⟨rfl, rfl, rfl, by decide +kernel, rfl, by decide +kernel, by decide +kernel⟩
theorem ok_ulaw_lowest {P : Program} {w : World} {K : Frg} {mg : Mg} {base : Heap} {f : Addr} {fd : FuncData} (F : Fun K "_law_lowest" "_law_lowest" s_ulaw_lowest f fd) (B : Bi mg) (Z : Ez K mg) {a_ulaw_common : Addr} {d_ulaw_common : FuncData} (D_ulaw_common : Df P w K mg base "_law_common" 1 a_ulaw_common d_ulaw_common ["left", "right"] f_ulaw_common) : FnOk P w K mg base (L2.CX P w) 2 f fd ["num", "den"] (spF K mg 2 f_ulaw_lowest) :=
  fn_ok F sc_ulaw_lowest fun cdv A outer s H E hr cs => (ms_cons (ms_set 2 sc_ulaw_lowest.nd (me_calD D_ulaw_common (hr.mono (by decide)) cs.cw (ma_cons (me_var 0 (pv 0)) (ma_cons (me_var 1 (pv 1)) ma_nil)) (len_cons (len_cons (fun ρ ds h => len_nil h)))))
    (ms_cons (ms_if (mt_cmp op_lt o_lt (mr_rd 1 (pv 1)) (mr_of me_int) (nomark _)) (ms_one (ms_set 2 sc_ulaw_lowest.nd (me_un un_neg o_neg (mr_rd 2 (pv 2))))) ms_nil)
    (ms_one (ms_ret (me_tup (ma_cons (me_op op_fdivU o_fdiv (mr_rd 0 (pv 0)) (mr_rd 2 (pv 2))) (ma_cons (me_op op_fdivU o_fdiv (mr_rd 1 (pv 1)) (mr_rd 2 (pv 2))) ma_nil)))))))
abbrev s_ulaw_bound : Stmt := top 33
theorem sc_ulaw_bound : FnScope ["first", "second"] ["first", "second"] (defScope s_ulaw_bound) := ⟨rfl, rfl, rfl, by decide +kernel, rfl, by decide +kernel, by decide +kernel⟩
theorem ok_ulaw_bound {P : Program} {w : World} {K : Frg} {mg : Mg} {base : Heap} {f : Addr} {fd : FuncData} (F : Fun K "_law_bound" "_law_bound" s_ulaw_bound f fd) (B : Bi mg) (Z : Ez K mg) {a_ulaw_lowest : Addr} {d_ulaw_lowest : FuncData} (D_ulaw_lowest : Df P w K mg base "_law_lowest" 2 a_ulaw_lowest d_ulaw_lowest ["num", "den"] f_ulaw_lowest) : FnOk P w K mg base (L2.CX P w) 3 f fd ["first", "second"] (spF K mg 2 f_ulaw_bound) :=
  fn_ok F sc_ulaw_bound fun cdv A outer s H E hr cs => (ms_cons (ms_if (mt_cmp (op_eqD hr.units) o_eq (mr_of (me_op op_modN o_mod (mr_of (me_t1 call_intT b_intT B.int (by decide +kernel) (mr_rd 1 (pv 1)))) (mr_of me_int))) (mr_of me_int) (nomark _)) (ms_one (ms_ret (me_calD D_ulaw_lowest (hr.mono (by decide)) cs.cw (ma_cons (me_op op_sub o_sub (mr_of (me_op op_modN o_mod (mr_of (me_t1 call_intT b_intT B.int (by decide +kernel) (mr_of (me_op op_addU o_add (mr_of (me_op op_addU o_add (mr_of (me_op op_mulU o_mul (mr_rd 0 (pv 0)) (mr_of (me_op op_pow o_pow (mr_of me_int) (mr_of me_int))))) (mr_of (me_op op_mulU o_mul (mr_rd 1 (pv 1)) (mr_of (me_op op_pow o_pow (mr_of me_int) (mr_of me_int))))))) (mr_of (me_op op_mulU o_mul (mr_rd 0 (pv 0)) (mr_rd 1 (pv 1)))))))) (mr_of (me_op op_pow o_pow (mr_of me_int) (mr_of me_int))))) (mr_of (me_op op_mulU o_mul (mr_of me_int) (mr_of (me_op op_pow o_pow (mr_of me_int) (mr_of me_int)))))) (ma_cons (me_op op_addU o_add (mr_of me_int) (mr_of (me_op op_modN o_mod (mr_of (me_t1 call_intT b_intT B.int (by decide +kernel) (mr_rd 1 (pv 1)))) (mr_of me_int)))) ma_nil)) (len_cons (len_cons (fun ρ ds h => len_nil h)))))) ms_nil)
    (ms_one (ms_ret (me_calD D_ulaw_lowest (hr.mono (by decide)) cs.cw (ma_cons (me_op op_sub o_sub (mr_of (me_op op_modN o_mod (mr_of (me_t1 call_intT b_intT B.int (by decide +kernel) (mr_rd 0 (pv 0)))) (mr_of me_int))) (mr_of me_int)) (ma_cons (me_op op_addU o_add (mr_of me_int) (mr_of (me_op op_modN o_mod (mr_of (me_op op_fdivU o_fdiv (mr_of (me_t1 call_intT b_intT B.int (by decide +kernel) (mr_rd 1 (pv 1)))) (mr_of me_int))) (mr_of me_int)))) ma_nil)) (len_cons (len_cons (fun ρ ds h => len_nil h)))))))
abbrev s_ulaw_range : Stmt := top 34
theorem sc_ulaw_range : FnScope ["cells", "first", "second"] ["cells"] (defScope s_ulaw_range) := ⟨rfl, rfl, rfl, by decide +kernel, rfl, by decide +kernel, by decide +kernel⟩
theorem ok_ulaw_range {P : Program} {w : World} {K : Frg} {mg : Mg} {base : Heap} {f : Addr} {fd : FuncData} (F : Fun K "_law_range" "_law_range" s_ulaw_range f fd) (B : Bi mg) (Z : Ez K mg) {a_ulaw_bound : Addr} {d_ulaw_bound : FuncData} (D_ulaw_bound : Df P w K mg base "_law_bound" 3 a_ulaw_bound d_ulaw_bound ["first", "second"] f_ulaw_bound) : FnOk P w K mg base (L2.CX P w) 4 f fd ["cells"] (spF K mg 1 f_ulaw_range) :=
  fn_ok F sc_ulaw_range fun cdv A outer s H E hr cs => (ms_cons (ms_par 1 2 cs.hc sc_ulaw_range.nd (me_calD D_ulaw_bound (hr.mono (by decide)) cs.cw (ma_cons (me_t1 call_intT b_intT B.int (by decide +kernel) (mr_of (me_ix ix_seq o_ix (mr_rd 0 (pv 0)) (mr_of me_int) (fun _ _ => rfl)))) (ma_cons (me_t1 call_intT b_intT B.int (by decide +kernel) (mr_of (me_ix ix_seq o_ix (mr_rd 0 (pv 0)) (mr_of me_int) (fun _ _ => rfl)))) ma_nil)) (len_cons (len_cons (fun ρ ds h => len_nil h)))) (me_calD D_ulaw_bound (hr.mono (by decide)) cs.cw (ma_cons (me_t1 call_intT b_intT B.int (by decide +kernel) (mr_of (me_ix ix_seq o_ix (mr_rd 0 (pv 0)) (mr_of me_int) (fun _ _ => rfl)))) (ma_cons (me_t1 call_intT b_intT B.int (by decide +kernel) (mr_of (me_ix ix_seq o_ix (mr_rd 0 (pv 0)) (mr_of me_int) (fun _ _ => rfl)))) ma_nil)) (len_cons (len_cons (fun ρ ds h => len_nil h)))))
    (ms_cons (ms_if (mt_cmp op_gt o_gt (mr_of (me_op op_mulU o_mul (mr_of (me_ix ix_seq o_ix (mr_rd 1 (pv 1)) (mr_of me_int) (fun _ _ => rfl))) (mr_of (me_ix ix_seq o_ix (mr_rd 2 (pv 2)) (mr_of me_int) (fun _ _ => rfl))))) (mr_of (me_op op_mulU o_mul (mr_of (me_ix ix_seq o_ix (mr_rd 2 (pv 2)) (mr_of me_int) (fun _ _ => rfl))) (mr_of (me_ix ix_seq o_ix (mr_rd 1 (pv 1)) (mr_of me_int) (fun _ _ => rfl))))) (nomark _)) (ms_one (ms_par 1 2 cs.hc sc_ulaw_range.nd (me_var 2 (pv 2)) (me_var 1 (pv 1)))) ms_nil)
    (ms_one (ms_ret (me_ix ix_seq o_ix (mr_f (mf_lst (ma_cons (me_tup (ma_cons me_non (ma_cons me_non ma_nil))) (ma_cons (me_tup (ma_cons (me_var 1 (pv 1)) (ma_cons me_non ma_nil))) (ma_cons (me_tup (ma_cons me_non (ma_cons (me_var 2 (pv 2)) ma_nil))) (ma_cons (me_tup (ma_cons (me_var 1 (pv 1)) (ma_cons (me_var 1 (pv 1)) ma_nil))) (ma_cons (me_tup (ma_cons (me_var 1 (pv 1)) (ma_cons (me_var 2 (pv 2)) ma_nil))) ma_nil))))))) (mr_of (me_op op_modN o_mod (mr_of (me_t1 call_intT b_intT B.int (by decide +kernel) (mr_of (me_ix ix_seq o_ix (mr_rd 0 (pv 0)) (mr_of me_int) (fun _ _ => rfl))))) (mr_of me_int))) (fun _ _ => rfl))))))
abbrev s_ulaw_crossed : Stmt := top 35
theorem sc_ulaw_crossed : FnScope ["cells", "high"] ["cells"] (defScope s_ulaw_crossed) := ⟨rfl, rfl, rfl, by decide +kernel, rfl, by decide +kernel, by decide +kernel⟩
theorem ok_ulaw_crossed {P : Program} {w : World} {K : Frg} {mg : Mg} {base : Heap} {f : Addr} {fd : FuncData} (F : Fun K "_law_crossed" "_law_crossed" s_ulaw_crossed f fd) (B : Bi mg) (Z : Ez K mg) {a_ulaw_bound : Addr} {d_ulaw_bound : FuncData} (D_ulaw_bound : Df P w K mg base "_law_bound" 3 a_ulaw_bound d_ulaw_bound ["first", "second"] f_ulaw_bound) {a_ulaw_lowest : Addr} {d_ulaw_lowest : FuncData} (D_ulaw_lowest : Df P w K mg base "_law_lowest" 2 a_ulaw_lowest d_ulaw_lowest ["num", "den"] f_ulaw_lowest) : FnOk P w K mg base (L2.CX P w) 4 f fd ["cells"] (spF K mg 1 f_ulaw_crossed) :=
  fn_ok F sc_ulaw_crossed fun cdv A outer s H E hr cs => (ms_cons (ms_set 1 sc_ulaw_crossed.nd (me_calD D_ulaw_bound (hr.mono (by decide)) cs.cw (ma_cons (me_t1 call_intT b_intT B.int (by decide +kernel) (mr_of (me_ix ix_seq o_ix (mr_rd 0 (pv 0)) (mr_of me_int) (fun _ _ => rfl)))) (ma_cons (me_t1 call_intT b_intT B.int (by decide +kernel) (mr_of (me_ix ix_seq o_ix (mr_rd 0 (pv 0)) (mr_of me_int) (fun _ _ => rfl)))) ma_nil)) (len_cons (len_cons (fun ρ ds h => len_nil h)))))
    (ms_one (ms_ret (me_tup (ma_cons (me_calD D_ulaw_lowest (hr.mono (by decide)) cs.cw (ma_cons (me_op op_addU o_add (mr_of (me_op op_mulU o_mul (mr_of me_int) (mr_of (me_ix ix_seq o_ix (mr_rd 1 (pv 1)) (mr_of me_int) (fun _ _ => rfl))))) (mr_of me_int)) (ma_cons (me_op op_mulU o_mul (mr_of me_int) (mr_of (me_ix ix_seq o_ix (mr_rd 1 (pv 1)) (mr_of me_int) (fun _ _ => rfl)))) ma_nil)) (len_cons (len_cons (fun ρ ds h => len_nil h)))) (ma_cons (me_var 1 (pv 1)) ma_nil))))))
abbrev s_ulaw_usages : Stmt := top 36
theorem sc_ulaw_usages : FnScope ["cells", "width", "usages", "j", "k"] ["cells", "width"] (defScope s_ulaw_usages) := ⟨rfl, rfl, rfl, by decide +kernel, rfl, by decide +kernel, by decide +kernel⟩
theorem ok_ulaw_usages {P : Program} {w : World} {K : Frg} {mg : Mg} {base : Heap} {f : Addr} {fd : FuncData} (F : Fun K "_law_usages" "_law_usages" s_ulaw_usages f fd) (B : Bi mg) (Z : Ez K mg) : FnOk P w K mg base (L2.CX P w) 1 f fd ["cells", "width"] (spF K mg 2 f_ulaw_usages) :=
  fn_ok F sc_ulaw_usages fun cdv A outer s H E hr cs => (ms_cons (ms_setO 2 sc_ulaw_usages.nd (mf_lst ma_nil))
    (ms_cons (ms_for cs.po cs.hc (mi_rng1 rfl B.range (ma_cons (me_op op_addU o_add (mr_of me_int) (mr_of (me_op op_modN o_mod (mr_of (me_t1 call_intT b_intT B.int (by decide +kernel) (mr_of (me_ix ix_seq o_ix (mr_rd 0 (pv 0)) (mr_of me_int) (fun _ _ => rfl))))) (mr_of me_int)))) ma_nil)) (mg_name 3 sc_ulaw_usages.nd) (ms_one (ms_app 2 (pv 2) (me_t1 call_tuple_of b_tup B.tuple (by decide +kernel) (mr_f (mf_lc (own := [("k", 4)]) cs.hc sc_ulaw_usages.nd (mi_rng1 rfl B.range (ma_cons (me_var 1 (pv 1)) ma_nil)) (blkOk_by (N := ["cells", "width", "usages", "j", "k"]) (sc := defScope s_ulaw_usages) (by decide +kernel)) (fun _ _ _ _ _ => (mg_name 4 sc_ulaw_usages.nd)) (fun _ _ _ _ _ => mts_nil) (fun _ _ _ _ _ => (me_op op_sub o_sub (mr_of (me_op op_modN o_mod (mr_of (me_t1 call_intT b_intT B.int (by decide +kernel) (mr_of (me_ix ix_seq o_ix (mr_rd 0 (pv 0)) (mr_of (me_op op_addU o_add (mr_of (me_op op_addU o_add (mr_of me_int) (mr_of (me_op op_mulU o_mul (mr_rd 1 (pv 1)) (mr_rd 3 (pv 3)))))) (mr_rd 4 (pv 4)))) (fun _ _ => rfl))))) (mr_of me_int))) (mr_of me_int)))))))))
    (ms_frz 2 (ms_one (ms_ret (me_tup (ma_cons (me_var 2 (pv 2)) (ma_cons (me_op op_modN o_mod (mr_of (me_t1 call_intT b_intT B.int (by decide +kernel) (mr_of (me_ix ix_seq o_ix (mr_rd 0 (pv 0)) (mr_of me_int) (fun _ _ => rfl))))) (mr_of (me_b1 call_len b_len B.len (by decide +kernel) (mr_rd 2 (pv 2))))) ma_nil))))))))
abbrev s_ulaw_is_bound : Stmt := top 37
theorem sc_ulaw_is_bound : FnScope ["told", "due"] ["told", "due"] (defScope s_ulaw_is_bound) := ⟨rfl, rfl, rfl, by decide +kernel, rfl, by decide +kernel, by decide +kernel⟩
theorem ok_ulaw_is_bound {P : Program} {w : World} {K : Frg} {mg : Mg} {base : Heap} {f : Addr} {fd : FuncData} (F : Fun K "_law_is_bound" "_law_is_bound" s_ulaw_is_bound f fd) (B : Bi mg) (Z : Ez K mg) {a_ulaw_is_tuple : Addr} {d_ulaw_is_tuple : FuncData} (D_ulaw_is_tuple : Df P w K mg base "_law_is_tuple" 2 a_ulaw_is_tuple d_ulaw_is_tuple ["value", "size"] f_ulaw_is_tuple) : FnOk P w K mg base (L2.CX P w) 3 f fd ["told", "due"] (spF K mg 2 f_ulaw_is_bound) :=
  fn_ok F sc_ulaw_is_bound fun cdv A outer s H E hr cs => (ms_cons (ms_if (mt_cmp op_isN o_isN (mr_rd 1 (pv 1)) (mr_of me_non) (nomark _)) (ms_one (ms_ret (me_cmp op_isN o_isN (mr_rd 0 (pv 0)) (mr_of me_non) (nomark _)))) ms_nil)
    (ms_one (ms_ret (me_and (me_calD D_ulaw_is_tuple (hr.mono (by decide)) cs.cw (ma_cons (me_var 0 (pv 0)) (ma_cons me_int ma_nil)) (len_cons (len_cons (fun ρ ds h => len_nil h)))) (pe_one (me_cmp (op_eqD hr.units) o_eq (mr_rd 0 (pv 0)) (mr_rd 1 (pv 1)) (nomark _)))))))
abbrev s_ulaw_is_study : Stmt := top 38
theorem sc_ulaw_is_study : FnScope ["study", "ranges", "seen", "width", "k", "pair"] ["study", "ranges", "seen"] (defScope s_ulaw_is_study) := ⟨rfl, rfl, rfl, by decide +kernel, rfl, by decide +kernel, by decide +kernel⟩
theorem ok_ulaw_is_study {P : Program} {w : World} {K : Frg} {mg : Mg} {base : Heap} {f : Addr} {fd : FuncData} (F : Fun K "_law_is_study" "_law_is_study" s_ulaw_is_study f fd) (B : Bi mg) (Z : Ez K mg) {a_ulaw_is_whole : Addr} {d_ulaw_is_whole : FuncData} (D_ulaw_is_whole : Df P w K mg base "_law_is_whole" 1 a_ulaw_is_whole d_ulaw_is_whole ["value"] f_ulaw_is_whole) {a_ulaw_is_bound : Addr} {d_ulaw_is_bound : FuncData} (D_ulaw_is_bound : Df P w K mg base "_law_is_bound" 3 a_ulaw_is_bound d_ulaw_is_bound ["told", "due"] f_ulaw_is_bound) : FnOk P w K mg base (L2.CX P w) 4 f fd ["study", "ranges", "seen"] (spF K mg 3 f_ulaw_is_study) :=
  fn_ok F sc_ulaw_is_study fun cdv A outer s H E hr cs => (ms_cons (ms_set 3 sc_ulaw_is_study.nd (me_b1 call_len b_len B.len (by decide +kernel) (mr_rd 1 (pv 1))))
    (ms_cons (ms_if (PW.pt (mw_or (mt_not (mt_tru (mr_of (me_isC Z.I_Study (mr_rd 0 (pv 0)) B.isinstance)))) (mw_or (mt_not (mt_tru (mr_of (me_calD D_ulaw_is_whole (hr.mono (by decide)) cs.cw (ma_cons (me_fld Z.f_width (mr_rd 0 (pv 0))) ma_nil) (len_cons (fun ρ ds h => len_nil h)))))) (mw_or1 (mt_cmp (op_neD hr.units) o_ne (mr_of (me_fld Z.f_width (mr_rd 0 (pv 0)))) (mr_rd 3 (pv 3)) (nomark _)))))) (ms_one (ms_ret me_bl)) ms_nil)
    (ms_cons (ms_if (PW.pt (mw_or (mt_not (mt_tru (mr_of (me_isi (mr_of (me_fld Z.f_ranges (mr_rd 0 (pv 0)))) (by decide +kernel) B.isinstance B.tuple)))) (mw_or1 (mt_cmp (op_neD hr.units) o_ne (mr_of (me_b1 call_len b_len B.len (by decide +kernel) (mr_of (me_fld Z.f_ranges (mr_rd 0 (pv 0)))))) (mr_rd 3 (pv 3)) (nomark _))))) (ms_one (ms_ret me_bl)) ms_nil)
    (ms_cons (ms_for cs.po cs.hc (mi_rng1 rfl B.range (ma_cons (me_var 3 (pv 3)) ma_nil)) (mg_name 4 sc_ulaw_is_study.nd) (ms_cons (ms_set 5 sc_ulaw_is_study.nd (me_ix ix_seq o_ix (mr_of (me_fld Z.f_ranges (mr_rd 0 (pv 0)))) (mr_rd 4 (pv 4)) (fun _ _ => rfl)))
    (ms_cons (ms_if (PW.pt (mw_or (mt_not (mt_tru (mr_of (me_isi (mr_rd 5 (pv 5)) (by decide +kernel) B.isinstance B.tuple)))) (mw_or1 (mt_cmp (op_neD hr.units) o_ne (mr_of (me_b1 call_len b_len B.len (by decide +kernel) (mr_rd 5 (pv 5)))) (mr_of me_int) (nomark _))))) (ms_one (ms_ret me_bl)) ms_nil)
    (ms_one (ms_if (PW.pt (mw_or (mt_not (mt_tru (mr_of (me_calD D_ulaw_is_bound (hr.mono (by decide)) cs.cw (ma_cons (me_ix ix_seq o_ix (mr_rd 5 (pv 5)) (mr_of me_int) (fun _ _ => rfl)) (ma_cons (me_ix ix_seq o_ix (mr_of (me_ix ix_seq o_ix (mr_rd 1 (pv 1)) (mr_rd 4 (pv 4)) (fun _ _ => rfl))) (mr_of me_int) (fun _ _ => rfl)) ma_nil)) (len_cons (len_cons (fun ρ ds h => len_nil h))))))) (mw_or1 (mt_not (mt_tru (mr_of (me_calD D_ulaw_is_bound (hr.mono (by decide)) cs.cw (ma_cons (me_ix ix_seq o_ix (mr_rd 5 (pv 5)) (mr_of me_int) (fun _ _ => rfl)) (ma_cons (me_ix ix_seq o_ix (mr_of (me_ix ix_seq o_ix (mr_rd 1 (pv 1)) (mr_rd 4 (pv 4)) (fun _ _ => rfl))) (mr_of me_int) (fun _ _ => rfl)) ma_nil)) (len_cons (len_cons (fun ρ ds h => len_nil h)))))))))) (ms_one (ms_ret me_bl)) ms_nil)))))
    (ms_cons (ms_if (PW.pt (mw_or (mt_not (mt_tru (mr_of (me_isi (mr_of (me_fld Z.f_seen (mr_rd 0 (pv 0)))) (by decide +kernel) B.isinstance B.tuple)))) (mw_or1 (mt_cmp (op_neD hr.units) o_ne (mr_of (me_b1 call_len b_len B.len (by decide +kernel) (mr_of (me_fld Z.f_seen (mr_rd 0 (pv 0)))))) (mr_of (me_b1 call_len b_len B.len (by decide +kernel) (mr_rd 2 (pv 2)))) (nomark _))))) (ms_one (ms_ret me_bl)) ms_nil)
    (ms_cons (ms_for cs.po cs.hc (mi_rng1 rfl B.range (ma_cons (me_b1 call_len b_len B.len (by decide +kernel) (mr_rd 2 (pv 2))) ma_nil)) (mg_name 4 sc_ulaw_is_study.nd) (ms_cons (ms_set 5 sc_ulaw_is_study.nd (me_ix ix_seq o_ix (mr_of (me_fld Z.f_seen (mr_rd 0 (pv 0)))) (mr_rd 4 (pv 4)) (fun _ _ => rfl)))
    (ms_cons (ms_if (PW.pt (mw_or (mt_not (mt_tru (mr_of (me_isi (mr_rd 5 (pv 5)) (by decide +kernel) B.isinstance B.tuple)))) (mw_or (mt_cmp (op_neD hr.units) o_ne (mr_of (me_b1 call_len b_len B.len (by decide +kernel) (mr_rd 5 (pv 5)))) (mr_of me_int) (nomark _)) (mw_or1 (mt_not (mt_tru (mr_of (me_isC Z.I_Menu (mr_of (me_ix ix_seq o_ix (mr_rd 5 (pv 5)) (mr_of me_int) (fun _ _ => rfl))) B.isinstance)))))))) (ms_one (ms_ret me_bl)) ms_nil)
    (ms_one (ms_if (PW.pt (mw_or (mt_cmp (op_neD hr.units) o_ne (mr_of (me_fld Z.f_usages (mr_of (me_ix ix_seq o_ix (mr_rd 5 (pv 5)) (mr_of me_int) (fun _ _ => rfl))))) (mr_of (me_t1 call_tuple_of b_tup B.tuple (by decide +kernel) (mr_of (me_ix ix_seq o_ix (mr_of (me_ix ix_seq o_ix (mr_rd 2 (pv 2)) (mr_rd 4 (pv 4)) (fun _ _ => rfl))) (mr_of me_int) (fun _ _ => rfl))))) (nomark _)) (mw_or (mt_not (mt_tru (mr_of (me_calD D_ulaw_is_whole (hr.mono (by decide)) cs.cw (ma_cons (me_ix ix_seq o_ix (mr_rd 5 (pv 5)) (mr_of me_int) (fun _ _ => rfl)) ma_nil) (len_cons (fun ρ ds h => len_nil h)))))) (mw_or1 (mt_cmp (op_neD hr.units) o_ne (mr_of (me_ix ix_seq o_ix (mr_rd 5 (pv 5)) (mr_of me_int) (fun _ _ => rfl))) (mr_of (me_ix ix_seq o_ix (mr_of (me_ix ix_seq o_ix (mr_rd 2 (pv 2)) (mr_rd 4 (pv 4)) (fun _ _ => rfl))) (mr_of me_int) (fun _ _ => rfl))) (nomark _)))))) (ms_one (ms_ret me_bl)) ms_nil)))))
    (ms_one (ms_ret me_bl))))))))
abbrev s_ulaw_pairs : Stmt := top 39
theorem sc_ulaw_pairs : FnScope ["seen", "width", "usages", "plan"] ["seen", "width"] (defScope s_ulaw_pairs) := ⟨rfl, rfl, rfl, by decide +kernel, rfl, by decide +kernel, by decide +kernel⟩
theorem ok_ulaw_pairs {P : Program} {w : World} {K : Frg} {mg : Mg} {base : Heap} {f : Addr} {fd : FuncData} (F : Fun K "_law_pairs" "_law_pairs" s_ulaw_pairs f fd) (B : Bi mg) (Z : Ez K mg) {aC_Menu aI_Menu : Addr} {dI_Menu : FuncData} {pI_Menu cI_Menu : List Str} (C_Menu : MkT P w K mg base "Menu" 2 2 f_Menu_init aC_Menu aI_Menu dI_Menu pI_Menu cI_Menu) : FnOk P w K mg base (L2.CX P w) 4 f fd ["seen", "width"] (spF K mg 2 f_ulaw_pairs) :=
  fn_ok F sc_ulaw_pairs fun cdv A outer s H E hr cs => (ms_one (ms_retF (mf_lc (own := [("usages", 2), ("plan", 3)]) cs.hc sc_ulaw_pairs.nd (mi_seq (me_var 0 (pv 0))) (blkOk_by (N := ["seen", "width", "usages", "plan"]) (sc := defScope s_ulaw_pairs) (by decide +kernel)) (fun _ _ _ _ _ => (mg_tup cs.hc (mgs_cons (mg_name 2 sc_ulaw_pairs.nd) (mgs_cons (mg_name 3 sc_ulaw_pairs.nd) mgs_nil)))) (fun _ _ _ _ _ => mts_nil) (fun _ _ _ _ _ => (me_tup (ma_cons (me_make C_Menu (hr.mono (by decide)) cw0 (ma_cons (me_var 1 (pv 1)) (ma_cons (me_of (mf_t1 call_list_of b_lst B.list (by decide +kernel) (mr_rd 2 (pv 2)))) ma_nil)) (len_cons (len_cons (fun ρ ds h => len_nil h)))) (ma_cons (me_var 3 (pv 3)) ma_nil)))))))
abbrev s_ulaw_fault : Stmt := top 40
theorem sc_ulaw_fault : FnScope ["way", "study", "first", "second", "third", "told", "e"] ["way", "study", "first", "second", "third"] (defScope s_ulaw_fault) := ⟨rfl, rfl, rfl, by decide +kernel, rfl, by decide +kernel, by decide +kernel⟩
theorem ok_ulaw_fault {P : Program} {w : World} {K : Frg} {mg : Mg} {base : Heap} {f : Addr} {fd : FuncData} (F : Fun K "_law_fault" "_law_fault" s_ulaw_fault f fd) (B : Bi mg) (Z : Ez K mg) {aC_Study aI_Study : Addr} {dI_Study : FuncData} {pI_Study cI_Study : List Str} (C_Study : MkT P w K mg base "Study" 3 3 f_Study_init aC_Study aI_Study dI_Study pI_Study cI_Study) (M_with_seen : MethT P w K mg base mt_with_seen "with_seen" 2 5) (M_without_seen : MethT P w K mg base mt_without_seen "without_seen" 1 5) (M_with_range : MethT P w K mg base mt_with_range "with_range" 3 5) : FnOk P w K mg base (L2.CX P w) 6 f fd ["way", "study", "first", "second", "third"] (spF K mg 5 f_ulaw_fault) :=
  fn_ok F sc_ulaw_fault fun cdv A outer s H E hr cs => (ms_cons (ms_set 5 sc_ulaw_fault.nd (me_tup (ma_cons me_str (ma_cons me_int ma_nil))))
    (ms_cons (ms_try 6 cs rfl rfl sc_ulaw_fault.nd ⟨rfl, by decide, Or.inl Z.g_CostsError⟩ Z.Y_t_CostsError (fun W pn xe cs => (ms_one (ms_if (mt_cmp (op_eqD hr.units) o_eq (mr_rd 0 (pv 0)) (mr_of me_int) (nomark _)) (ms_one (ms_drop (mr_of (me_make C_Study (hr.mono (by decide)) cs.cw (ma_cons (me_var 2 (pv 2)) (ma_cons (me_var 3 (pv 3)) (ma_cons (me_var 4 (pv 4)) ma_nil))) (len_cons (len_cons (len_cons (fun ρ ds h => len_nil h)))))))) (ms_one (ms_if (mt_cmp (op_eqD hr.units) o_eq (mr_rd 0 (pv 0)) (mr_of me_int) (nomark _)) (ms_one (ms_drop (mr_of (me_meth M_with_seen (hr.mono (by decide)) cs.cw (mr_rd 1 (pv 1)) (ma_cons (me_var 2 (pv 2)) (ma_cons (me_var 3 (pv 3)) ma_nil)) (len_cons (len_cons (fun ρ ds h => len_nil h))))))) (ms_one (ms_if (mt_cmp (op_eqD hr.units) o_eq (mr_rd 0 (pv 0)) (mr_of me_int) (nomark _)) (ms_one (ms_drop (mr_of (me_meth M_without_seen (hr.mono (by decide)) cs.cw (mr_rd 1 (pv 1)) (ma_cons (me_var 2 (pv 2)) ma_nil) (len_cons (fun ρ ds h => len_nil h)))))) (ms_one (ms_drop (mr_of (me_meth M_with_range (hr.mono (by decide)) cs.cw (mr_rd 1 (pv 1)) (ma_cons (me_var 2 (pv 2)) (ma_cons (me_var 3 (pv 3)) (ma_cons (me_var 4 (pv 4)) ma_nil))) (len_cons (len_cons (len_cons (fun ρ ds h => len_nil h))))))))))))))) (fun a oe C dd pn hz hf => (ms_cons (ms_set 5 sc_ulaw_fault.nd (me_tup (ma_cons me_str (ma_cons me_int ma_nil))))
    (ms_cons (ms_if (PW.pt (mw_and (mt_tru (mr_of (me_isX 6 hz hf Z.X_t_BadNumber (pv 6) (pe_glob (v := .ref (He.ga K "BadNumber")) rfl Z.g_BadNumber rfl) (.own _) B.isinstance))) (mw_and1 (mt_not (mt_tru (mr_of (me_isXT (cvs := [.ref (He.ga K "BadRange"), .ref (He.ga K "TooMany"), .ref (He.ga K "BadSeen")]) 6 hz hf Z.X_t_BadRge_TooMny_BadSen (pv 6) (pa_cons (pe_glob (v := .ref (He.ga K "BadRange")) rfl Z.g_BadRange rfl) (pa_cons (pe_glob (v := .ref (He.ga K "TooMany")) rfl Z.g_TooMany rfl) (pa_cons (pe_glob (v := .ref (He.ga K "BadSeen")) rfl Z.g_BadSeen rfl) pa_nil))) (.cons (.own _) (.cons (.own _) (.cons (.own _) .nil))) B.isinstance))))))) (ms_one (ms_set 5 sc_ulaw_fault.nd (me_tup (ma_cons me_str (ma_cons me_int ma_nil))))) ms_nil)
    (ms_cons (ms_if (PW.pt (mw_and (mt_tru (mr_of (me_isX 6 hz hf Z.X_t_BadRange (pv 6) (pe_glob (v := .ref (He.ga K "BadRange")) rfl Z.g_BadRange rfl) (.own _) B.isinstance))) (mw_and1 (mt_not (mt_tru (mr_of (me_isXT (cvs := [.ref (He.ga K "BadNumber"), .ref (He.ga K "TooMany"), .ref (He.ga K "BadSeen")]) 6 hz hf Z.X_t_BadNer_TooMny_BadSen (pv 6) (pa_cons (pe_glob (v := .ref (He.ga K "BadNumber")) rfl Z.g_BadNumber rfl) (pa_cons (pe_glob (v := .ref (He.ga K "TooMany")) rfl Z.g_TooMany rfl) (pa_cons (pe_glob (v := .ref (He.ga K "BadSeen")) rfl Z.g_BadSeen rfl) pa_nil))) (.cons (.own _) (.cons (.own _) (.cons (.own _) .nil))) B.isinstance))))))) (ms_one (ms_set 5 sc_ulaw_fault.nd (me_tup (ma_cons me_str (ma_cons (me_xf 6 Z.xr_letter hz hf (pv 6) rfl) ma_nil))))) ms_nil)
    (ms_cons (ms_if (PW.pt (mw_and (mt_tru (mr_of (me_isX 6 hz hf Z.X_t_TooMany (pv 6) (pe_glob (v := .ref (He.ga K "TooMany")) rfl Z.g_TooMany rfl) (.own _) B.isinstance))) (mw_and1 (mt_not (mt_tru (mr_of (me_isXT (cvs := [.ref (He.ga K "BadNumber"), .ref (He.ga K "BadRange"), .ref (He.ga K "BadSeen")]) 6 hz hf Z.X_t_BadNer_BadRge_BadSen (pv 6) (pa_cons (pe_glob (v := .ref (He.ga K "BadNumber")) rfl Z.g_BadNumber rfl) (pa_cons (pe_glob (v := .ref (He.ga K "BadRange")) rfl Z.g_BadRange rfl) (pa_cons (pe_glob (v := .ref (He.ga K "BadSeen")) rfl Z.g_BadSeen rfl) pa_nil))) (.cons (.own _) (.cons (.own _) (.cons (.own _) .nil))) B.isinstance))))))) (ms_one (ms_set 5 sc_ulaw_fault.nd (me_tup (ma_cons me_str (ma_cons (me_xf 6 Z.xr_word hz hf (pv 6) rfl) (ma_cons (me_xf 6 Z.xr_limit hz hf (pv 6) rfl) ma_nil)))))) ms_nil)
    (ms_cons (ms_if (PW.pt (mw_and (mt_tru (mr_of (me_isX 6 hz hf Z.X_t_BadSeen (pv 6) (pe_glob (v := .ref (He.ga K "BadSeen")) rfl Z.g_BadSeen rfl) (.own _) B.isinstance))) (mw_and1 (mt_not (mt_tru (mr_of (me_isXT (cvs := [.ref (He.ga K "BadNumber"), .ref (He.ga K "BadRange"), .ref (He.ga K "TooMany")]) 6 hz hf Z.X_t_BadNer_BadRge_TooMny (pv 6) (pa_cons (pe_glob (v := .ref (He.ga K "BadNumber")) rfl Z.g_BadNumber rfl) (pa_cons (pe_glob (v := .ref (He.ga K "BadRange")) rfl Z.g_BadRange rfl) (pa_cons (pe_glob (v := .ref (He.ga K "TooMany")) rfl Z.g_TooMany rfl) pa_nil))) (.cons (.own _) (.cons (.own _) (.cons (.own _) .nil))) B.isinstance))))))) (ms_one (ms_set 5 sc_ulaw_fault.nd (me_tup (ma_cons me_str (ma_cons (me_xf 6 Z.xr_place hz hf (pv 6) rfl) ma_nil))))) ms_nil)
    (ms_cons (ms_if (mt_tru (mr_of (me_isXT (cvs := [.ref (He.ga K "BadTask"), .ref (He.ga K "NotAPlan"), .ref (He.ga K "Unlisted"), .ref (He.ga K "BadPaper"), .ref (He.ga K "NoCosts"), .ref (He.ga K "BadQuestion"), .ref (He.ga K "BadText"), .ref (He.ga K "BadName"), .ref (He.ga K "UnknownName")]) 6 hz hf Z.X_t_BadTsk_NotAan_Unlied_BadPer_NoCots_BadQon_BadTxt_BadNme_Unknme (pv 6) (pa_cons (pe_glob (v := .ref (He.ga K "BadTask")) rfl Z.g_BadTask rfl) (pa_cons (pe_glob (v := .ref (He.ga K "NotAPlan")) rfl Z.g_NotAPlan rfl) (pa_cons (pe_glob (v := .ref (He.ga K "Unlisted")) rfl Z.g_Unlisted rfl) (pa_cons (pe_glob (v := .ref (He.ga K "BadPaper")) rfl Z.g_BadPaper rfl) (pa_cons (pe_glob (v := .ref (He.ga K "NoCosts")) rfl Z.g_NoCosts rfl) (pa_cons (pe_glob (v := .ref (He.ga K "BadQuestion")) rfl Z.g_BadQuestion rfl) (pa_cons (pe_glob (v := .ref (He.ga K "BadText")) rfl Z.g_BadText rfl) (pa_cons (pe_glob (v := .ref (He.ga K "BadName")) rfl Z.g_BadName rfl) (pa_cons (pe_glob (v := .ref (He.ga K "UnknownName")) rfl Z.g_UnknownName rfl) pa_nil))))))))) (.cons (.own _) (.cons (.own _) (.cons (.own _) (.cons (.own _) (.cons (.own _) (.cons (.own _) (.cons (.own _) (.cons (.own _) (.cons (.own _) .nil))))))))) B.isinstance))) (ms_one (ms_set 5 sc_ulaw_fault.nd (me_tup (ma_cons me_str (ma_cons me_int ma_nil))))) ms_nil)
    (ms_one (ms_if (PW.pt (mw_or (mt_tru (mr_of (me_isX 6 hz hf Z.X_t_StaleKey (pv 6) (pe_glob (v := .ref (He.ga K "StaleKey")) rfl Z.g_StaleKey rfl) (.own _) B.isinstance))) (mw_or1 (mt_not (mt_tru (mr_of (me_isX 6 hz hf Z.X_t_ValueError (pv 6) (pe_bltn (v := .ty "ValueError") rfl B.ValueError (by decide +kernel) rfl) (.ty _) B.isinstance))))))) (ms_one (ms_set 5 sc_ulaw_fault.nd (me_tup (ma_cons me_str (ma_cons me_int ma_nil))))) ms_nil))))))))))
    (ms_one (ms_ret (me_var 5 (pv 5))))))
abbrev s_ulaw_is_fault : Stmt := top 41
theorem sc_ulaw_is_fault : FnScope ["told", "due", "item"] ["told", "due"] (defScope s_ulaw_is_fault) := ⟨rfl, rfl, rfl, by decide +kernel, rfl, by decide +kernel, by decide +kernel⟩
theorem ok_ulaw_is_fault {P : Program} {w : World} {K : Frg} {mg : Mg} {base : Heap} {f : Addr} {fd : FuncData} (F : Fun K "_law_is_fault" "_law_is_fault" s_ulaw_is_fault f fd) (B : Bi mg) (Z : Ez K mg) {a_ulaw_is_whole : Addr} {d_ulaw_is_whole : FuncData} (D_ulaw_is_whole : Df P w K mg base "_law_is_whole" 1 a_ulaw_is_whole d_ulaw_is_whole ["value"] f_ulaw_is_whole) : FnOk P w K mg base (L2.CX P w) 2 f fd ["told", "due"] (spF K mg 2 f_ulaw_is_fault) :=
  fn_ok F sc_ulaw_is_fault fun cdv A outer s H E hr cs => (ms_one (ms_ret (me_and (me_b1 (cr_all cs.hc) b_all B.all (by decide +kernel) (mr_f (mf_lc (own := [("item", 2)]) cs.hc sc_ulaw_is_fault.nd (mi_seq (me_var 0 (pv 0))) (blkOk_by (N := ["told", "due", "item"]) (sc := defScope s_ulaw_is_fault) (by decide +kernel)) (fun _ _ _ _ _ => (mg_name 2 sc_ulaw_is_fault.nd)) (fun _ _ _ _ _ => mts_nil) (fun _ _ _ _ _ => (me_or (me_calD D_ulaw_is_whole (hr.mono (by decide)) cw0 (ma_cons (me_var 2 (pv 2)) ma_nil) (len_cons (fun ρ ds h => len_nil h))) (pe_one (me_isi (mr_rd 2 (pv 2)) (by decide +kernel) B.isinstance B.str))))))) (pe_one (me_cmp (op_eqD hr.units) o_eq (mr_rd 0 (pv 0)) (mr_rd 1 (pv 1)) (nomark _))))))
abbrev s_ulaw_spoilt : Stmt := top 42
theorem sc_ulaw_spoilt : FnScope ["pair", "width", "cell", "plans", "kind", "row"] ["pair", "width", "cell"] (defScope s_ulaw_spoilt) := ⟨rfl, rfl, rfl, by decide +kernel, rfl, by decide +kernel, by decide +kernel⟩
theorem ok_ulaw_spoilt {P : Program} {w : World} {K : Frg} {mg : Mg} {base : Heap} {f : Addr} {fd : FuncData} (F : Fun K "_law_spoilt" "_law_spoilt" s_ulaw_spoilt f fd) (B : Bi mg) (Z : Ez K mg) {aC_Menu aI_Menu : Addr} {dI_Menu : FuncData} {pI_Menu cI_Menu : List Str} (C_Menu : MkT P w K mg base "Menu" 2 2 f_Menu_init aC_Menu aI_Menu dI_Menu pI_Menu cI_Menu) : FnOk P w K mg base (L2.CX P w) 4 f fd ["pair", "width", "cell"] (spF K mg 3 f_ulaw_spoilt) :=
  fn_ok F sc_ulaw_spoilt fun cdv A outer s H E hr cs => (ms_cons (ms_set 3 sc_ulaw_spoilt.nd (me_of (mf_lst (ma_cons (me_un un_neg o_neg (mr_of me_int)) (ma_cons (me_b1 call_len b_len B.len (by decide +kernel) (mr_of (me_ix ix_seq o_ix (mr_rd 0 (pv 0)) (mr_of me_int) (fun _ _ => rfl)))) (ma_cons me_non (ma_cons me_str (ma_cons (me_tup ma_nil) (ma_cons (me_tup (ma_cons (me_ix ix_seq o_ix (mr_rd 0 (pv 0)) (mr_of me_int) (fun _ _ => rfl)) ma_nil)) ma_nil)))))))))
    (ms_cons (ms_set 4 sc_ulaw_spoilt.nd (me_op op_modN o_mod (mr_of (me_t1 call_intT b_intT B.int (by decide +kernel) (mr_rd 2 (pv 2)))) (mr_of me_int)))
    (ms_cons (ms_if (mt_cmp op_lt o_lt (mr_rd 4 (pv 4)) (mr_of me_int) (nomark _)) (ms_one (ms_ret (me_tup (ma_cons (me_make C_Menu (hr.mono (by decide)) cs.cw (ma_cons (me_var 1 (pv 1)) (ma_cons (me_of (mf_t1 call_list_of b_lst B.list (by decide +kernel) (mr_of (me_ix ix_seq o_ix (mr_rd 0 (pv 0)) (mr_of me_int) (fun _ _ => rfl))))) ma_nil)) (len_cons (len_cons (fun ρ ds h => len_nil h)))) (ma_cons (me_ix ix_seq o_ix (mr_rd 3 (pv 3)) (mr_rd 4 (pv 4)) (fun _ _ => rfl)) ma_nil))))) ms_nil)
    (ms_cons (ms_if (PW.pt (mw_and (mt_cmp (op_eqD hr.units) o_eq (mr_rd 4 (pv 4)) (mr_of me_int) (nomark _)) (mw_and1 (mt_cmp op_gt o_gt (mr_rd 1 (pv 1)) (mr_of me_int) (nomark _))))) (ms_one (ms_ret (me_tup (ma_cons (me_make C_Menu (hr.mono (by decide)) cs.cw (ma_cons (me_op op_sub o_sub (mr_rd 1 (pv 1)) (mr_of me_int)) (ma_cons (me_of (mf_lc (own := [("row", 5)]) cs.hc sc_ulaw_spoilt.nd (mi_seq (me_ix ix_seq o_ix (mr_rd 0 (pv 0)) (mr_of me_int) (fun _ _ => rfl))) (blkOk_by (N := ["pair", "width", "cell", "plans", "kind", "row"]) (sc := defScope s_ulaw_spoilt) (by decide +kernel)) (fun _ _ _ _ _ => (mg_name 5 sc_ulaw_spoilt.nd)) (fun _ _ _ _ _ => mts_nil) (fun _ _ _ _ _ => (me_sl (mr_rd 5 (pv 5)) (mp_some me_int) mp_none)))) ma_nil)) (len_cons (len_cons (fun ρ ds h => len_nil h)))) (ma_cons (me_ix ix_seq o_ix (mr_rd 0 (pv 0)) (mr_of me_int) (fun _ _ => rfl)) ma_nil))))) ms_nil)
    (ms_cons (ms_if (mt_cmp op_lt o_lt (mr_rd 1 (pv 1)) (mr_of me_int) (nomark _)) (ms_one (ms_ret (me_tup (ma_cons (me_make C_Menu (hr.mono (by decide)) cs.cw (ma_cons (me_op op_addU o_add (mr_rd 1 (pv 1)) (mr_of me_int)) (ma_cons (me_of (mf_lc (own := [("row", 5)]) cs.hc sc_ulaw_spoilt.nd (mi_seq (me_ix ix_seq o_ix (mr_rd 0 (pv 0)) (mr_of me_int) (fun _ _ => rfl))) (blkOk_by (N := ["pair", "width", "cell", "plans", "kind", "row"]) (sc := defScope s_ulaw_spoilt) (by decide +kernel)) (fun _ _ _ _ _ => (mg_name 5 sc_ulaw_spoilt.nd)) (fun _ _ _ _ _ => mts_nil) (fun _ _ _ _ _ => (me_op op_addU o_add (mr_rd 5 (pv 5)) (mr_of (me_tup (ma_cons me_int ma_nil))))))) ma_nil)) (len_cons (len_cons (fun ρ ds h => len_nil h)))) (ma_cons (me_ix ix_seq o_ix (mr_rd 0 (pv 0)) (mr_of me_int) (fun _ _ => rfl)) ma_nil))))) ms_nil)
    (ms_one (ms_ret (me_tup (ma_cons (me_make C_Menu (hr.mono (by decide)) cs.cw (ma_cons me_int (ma_cons (me_of (mf_lc (own := [("row", 5)]) cs.hc sc_ulaw_spoilt.nd (mi_seq (me_ix ix_seq o_ix (mr_rd 0 (pv 0)) (mr_of me_int) (fun _ _ => rfl))) (blkOk_by (N := ["pair", "width", "cell", "plans", "kind", "row"]) (sc := defScope s_ulaw_spoilt) (by decide +kernel)) (fun _ _ _ _ _ => (mg_name 5 sc_ulaw_spoilt.nd)) (fun _ _ _ _ _ => mts_nil) (fun _ _ _ _ _ => (me_sl (mr_rd 5 (pv 5)) mp_none (mp_some me_int))))) ma_nil)) (len_cons (len_cons (fun ρ ds h => len_nil h)))) (ma_cons (me_ix ix_seq o_ix (mr_rd 0 (pv 0)) (mr_of me_int) (fun _ _ => rfl)) ma_nil))))))))))
abbrev s_ulaw_refuses : Stmt := top 43
theorem sc_ulaw_refuses : FnScope ["mask", "ranges", "seen", "spare", "cells", "width", "given", "told_width", "due", "pairs", "place", "letter", "k", "kind"] ["mask", "ranges", "seen", "spare", "cells"] (defScope s_ulaw_refuses) := ⟨rfl, rfl, rfl, by decide +kernel, rfl, by decide +kernel, by decide +kernel⟩
theorem ok_ulaw_refuses {P : Program} {w : World} {K : Frg} {mg : Mg} {base : Heap} {f : Addr} {fd : FuncData} (F : Fun K "_law_refuses" "_law_refuses" s_ulaw_refuses f fd) (B : Bi mg) (Z : Ez K mg) {a_ulaw_pairs : Addr} {d_ulaw_pairs : FuncData} (D_ulaw_pairs : Df P w K mg base "_law_pairs" 4 a_ulaw_pairs d_ulaw_pairs ["seen", "width"] f_ulaw_pairs) {a_ulaw_spoilt : Addr} {d_ulaw_spoilt : FuncData} (D_ulaw_spoilt : Df P w K mg base "_law_spoilt" 4 a_ulaw_spoilt d_ulaw_spoilt ["pair", "width", "cell"] f_ulaw_spoilt) {a_ulaw_crossed : Addr} {d_ulaw_crossed : FuncData} (D_ulaw_crossed : Df P w K mg base "_law_crossed" 4 a_ulaw_crossed d_ulaw_crossed ["cells"] f_ulaw_crossed) {a_ulaw_fault : Addr} {d_ulaw_fault : FuncData} (D_ulaw_fault : Df P w K mg base "_law_fault" 6 a_ulaw_fault d_ulaw_fault ["way", "study", "first", "second", "third"] f_ulaw_fault) {a_ulaw_is_fault : Addr} {d_ulaw_is_fault : FuncData} (D_ulaw_is_fault : Df P w K mg base "_law_is_fault" 2 a_ulaw_is_fault d_ulaw_is_fault ["told", "due"] f_ulaw_is_fault) : FnOk P w K mg base (L2.CX P w) 7 f fd ["mask", "ranges", "seen", "spare", "cells"] (spF K mg 5 f_ulaw_refuses) :=
  fn_ok F sc_ulaw_refuses fun cdv A outer s H E hr cs => (ms_cons (ms_parVO 5 6 cs.hc sc_ulaw_refuses.nd (me_b1 call_len b_len B.len (by decide +kernel) (mr_rd 1 (pv 1))) (mf_t1 call_list_of b_lst B.list (by decide +kernel) (mr_rd 1 (pv 1))))
    (ms_cons (ms_set 7 sc_ulaw_refuses.nd (me_var 5 (pv 5)))
    (ms_cons (ms_set 8 sc_ulaw_refuses.nd (me_tup (ma_cons me_str (ma_cons me_int ma_nil))))
    (ms_cons (ms_setO 9 sc_ulaw_refuses.nd (mf_sl (mr_of (me_calD D_ulaw_pairs (hr.mono (by decide)) cs.cw (ma_cons (me_of (mf_op op_cat f_cat (mr_rd 2 (pv 2)) (mr_f (mf_lst (ma_cons (me_var 3 (pv 3)) ma_nil))))) (ma_cons (me_var 5 (pv 5)) ma_nil)) (len_cons (len_cons (fun ρ ds h => len_nil h))))) mp_none (mp_some me_int)))
    (ms_cons (ms_if (mt_cmp op_gt o_gt (mr_of (me_op op_modN o_mod (mr_rd 0 (pv 0)) (mr_of me_int))) (mr_of me_int) (nomark _)) (ms_cons (ms_setO 9 sc_ulaw_refuses.nd (mf_op op_rep f_rep (mr_rd 9 (pv 9)) (mr_of me_int)))
    (ms_cons (ms_setO 9 sc_ulaw_refuses.nd (mf_sl (mr_rd 9 (pv 9)) mp_none (mp_some me_int)))
    (ms_one (ms_set 8 sc_ulaw_refuses.nd (me_tup (ma_cons me_str (ma_cons me_str (ma_cons me_int ma_nil)))))))) ms_nil)
    (ms_cons (ms_if (mt_cmp (op_eqD hr.units) o_eq (mr_of (me_op op_modN o_mod (mr_of (me_op op_fdivU o_fdiv (mr_rd 0 (pv 0)) (mr_of me_int))) (mr_of me_int))) (mr_of me_int) (nomark _)) (ms_cons (ms_set 10 sc_ulaw_refuses.nd (me_op op_modN o_mod (mr_of (me_t1 call_intT b_intT B.int (by decide +kernel) (mr_of (me_ix ix_seq o_ix (mr_rd 4 (pv 4)) (mr_of me_int) (fun _ _ => rfl))))) (mr_of (me_b1 call_len b_len B.len (by decide +kernel) (mr_rd 9 (pv 9))))))
    (ms_cons (ms_sto 9 (pv 9) (me_var 10 (pv 10)) (me_calD D_ulaw_spoilt (hr.mono (by decide)) cs.cw (ma_cons (me_var 3 (pv 3)) (ma_cons (me_var 5 (pv 5)) (ma_cons (me_ix ix_seq o_ix (mr_rd 4 (pv 4)) (mr_of me_int) (fun _ _ => rfl)) ma_nil))) (len_cons (len_cons (len_cons (fun ρ ds h => len_nil h))))))
    (ms_cons (ms_if (PW.pt (mw_and (mt_cmp (op_eqD hr.units) o_eq (mr_of (me_op op_modN o_mod (mr_of (me_t1 call_intT b_intT B.int (by decide +kernel) (mr_of (me_ix ix_seq o_ix (mr_rd 4 (pv 4)) (mr_of me_int) (fun _ _ => rfl))))) (mr_of me_int))) (mr_of me_int) (nomark _)) (mw_and1 (mt_cmp op_lt o_lt (mr_rd 10 (pv 10)) (mr_of (me_op op_sub o_sub (mr_of (me_b1 call_len b_len B.len (by decide +kernel) (mr_rd 9 (pv 9)))) (mr_of me_int))) (nomark _))))) (ms_one (ms_sto 9 (pv 9) (me_un un_neg o_neg (mr_of me_int)) (me_calD D_ulaw_spoilt (hr.mono (by decide)) cs.cw (ma_cons (me_var 3 (pv 3)) (ma_cons (me_var 5 (pv 5)) (ma_cons (me_ix ix_seq o_ix (mr_rd 4 (pv 4)) (mr_of me_int) (fun _ _ => rfl)) ma_nil))) (len_cons (len_cons (len_cons (fun ρ ds h => len_nil h))))))) ms_nil)
    (ms_one (ms_if (mt_cmp (op_eqD hr.units) o_eq (mr_of (me_ix ix_seq o_ix (mr_rd 8 (pv 8)) (mr_of me_int) (fun _ _ => rfl))) (mr_of me_str) (nomark _)) (ms_one (ms_set 8 sc_ulaw_refuses.nd (me_tup (ma_cons me_str (ma_cons (me_var 10 (pv 10)) ma_nil))))) ms_nil))))) ms_nil)
    (ms_cons (ms_if (mt_cmp (op_eqD hr.units) o_eq (mr_of (me_op op_modN o_mod (mr_of (me_op op_fdivU o_fdiv (mr_rd 0 (pv 0)) (mr_of me_int))) (mr_of me_int))) (mr_of me_int) (nomark _)) (ms_cons (ms_set 11 sc_ulaw_refuses.nd (me_op op_modN o_mod (mr_of (me_t1 call_intT b_intT B.int (by decide +kernel) (mr_of (me_ix ix_seq o_ix (mr_rd 4 (pv 4)) (mr_of me_int) (fun _ _ => rfl))))) (mr_rd 5 (pv 5))))
    (ms_cons (ms_for cs.po cs.hc (mi_rng2 rfl B.range (ma_cons (me_var 11 (pv 11)) (ma_cons (me_var 5 (pv 5)) ma_nil))) (mg_name 12 sc_ulaw_refuses.nd) (ms_one (ms_if (PW.pt (mw_or (mt_cmp (op_eqD hr.units) o_eq (mr_rd 12 (pv 12)) (mr_rd 11 (pv 11)) (nomark _)) (mw_or1 (mt_cmp (op_eqD hr.units) o_eq (mr_of (me_op op_modN o_mod (mr_of (me_t1 call_intT b_intT B.int (by decide +kernel) (mr_of (me_ix ix_seq o_ix (mr_rd 4 (pv 4)) (mr_of me_int) (fun _ _ => rfl))))) (mr_of me_int))) (mr_of me_int) (nomark _))))) (ms_one (ms_sto 6 (pv 6) (me_var 12 (pv 12)) (me_calD D_ulaw_crossed (hr.mono (by decide)) cs.cw (ma_cons (me_sl (mr_rd 4 (pv 4)) (mp_some me_int) mp_none) ma_nil) (len_cons (fun ρ ds h => len_nil h))))) ms_nil)))
    (ms_one (ms_set 8 sc_ulaw_refuses.nd (me_tup (ma_cons me_str (ma_cons (me_var 11 (pv 11)) ma_nil))))))) ms_nil)
    (ms_cons (ms_if (mt_cmp (op_eqD hr.units) o_eq (mr_of (me_op op_modN o_mod (mr_rd 0 (pv 0)) (mr_of me_int))) (mr_of me_int) (nomark _)) (ms_cons (ms_set 13 sc_ulaw_refuses.nd (me_op op_modN o_mod (mr_of (me_t1 call_intT b_intT B.int (by decide +kernel) (mr_of (me_ix ix_seq o_ix (mr_rd 4 (pv 4)) (mr_of me_int) (fun _ _ => rfl))))) (mr_of me_int)))
    (ms_cons (ms_if (mt_cmp op_lt o_lt (mr_rd 13 (pv 13)) (mr_of me_int) (nomark _)) (ms_one (ms_set 7 sc_ulaw_refuses.nd (me_ix ix_seq o_ix (mr_f (mf_lst (ma_cons me_int (ma_cons me_int ma_nil)))) (mr_rd 13 (pv 13)) (fun _ _ => rfl)))) (ms_one (ms_if (mt_cmp (op_eqD hr.units) o_eq (mr_rd 13 (pv 13)) (mr_of me_int) (nomark _)) (ms_one (ms_pop 6 (pv 6))) (ms_one (ms_app 6 (pv 6) (me_tup (ma_cons me_non (ma_cons me_non ma_nil))))))))
    (ms_one (ms_set 8 sc_ulaw_refuses.nd (me_tup (ma_cons me_str (ma_cons me_int ma_nil))))))) ms_nil)
    (ms_frz 9 (ms_frz 6 (ms_one (ms_ret (me_calD D_ulaw_is_fault (hr.mono (by decide)) cs.cw (ma_cons (me_calD D_ulaw_fault (hr.mono (by decide)) cs.cw (ma_cons me_int (ma_cons me_non (ma_cons (me_var 7 (pv 7)) (ma_cons (me_var 6 (pv 6)) (ma_cons (me_var 9 (pv 9)) ma_nil))))) (len_cons (len_cons (len_cons (len_cons (len_cons (fun ρ ds h => len_nil h))))))) (ma_cons (me_var 8 (pv 8)) ma_nil)) (len_cons (len_cons (fun ρ ds h => len_nil h))))))))))))))))
abbrev s_ulaw_further : Stmt := top 44
theorem sc_ulaw_further : FnScope ["study", "ranges", "seen", "spare", "cells", "width", "many", "letter", "fresh", "crossed", "changed", "menu", "due", "wrong", "place", "less", "shorter", "longer"] ["study", "ranges", "seen", "spare", "cells"] (defScope s_ulaw_further) := ⟨rfl, rfl, rfl, by decide +kernel, rfl, by decide +kernel, by decide +kernel⟩
theorem ok_ulaw_further {P : Program} {w : World} {K : Frg} {mg : Mg} {base : Heap} {f : Addr} {fd : FuncData} (F : Fun K "_law_further" "_law_further" s_ulaw_further f fd) (B : Bi mg) (Z : Ez K mg) {a_ulaw_range : Addr} {d_ulaw_range : FuncData} (D_ulaw_range : Df P w K mg base "_law_range" 4 a_ulaw_range d_ulaw_range ["cells"] f_ulaw_range) {a_ulaw_crossed : Addr} {d_ulaw_crossed : FuncData} (D_ulaw_crossed : Df P w K mg base "_law_crossed" 4 a_ulaw_crossed d_ulaw_crossed ["cells"] f_ulaw_crossed) (M_with_range : MethT P w K mg base mt_with_range "with_range" 3 5) {a_ulaw_is_study : Addr} {d_ulaw_is_study : FuncData} (D_ulaw_is_study : Df P w K mg base "_law_is_study" 4 a_ulaw_is_study d_ulaw_is_study ["study", "ranges", "seen"] f_ulaw_is_study) {aC_Menu aI_Menu : Addr} {dI_Menu : FuncData} {pI_Menu cI_Menu : List Str} (C_Menu : MkT P w K mg base "Menu" 2 2 f_Menu_init aC_Menu aI_Menu dI_Menu pI_Menu cI_Menu) (M_with_seen : MethT P w K mg base mt_with_seen "with_seen" 2 5) {a_ulaw_spoilt : Addr} {d_ulaw_spoilt : FuncData} (D_ulaw_spoilt : Df P w K mg base "_law_spoilt" 4 a_ulaw_spoilt d_ulaw_spoilt ["pair", "width", "cell"] f_ulaw_spoilt) {a_ulaw_fault : Addr} {d_ulaw_fault : FuncData} (D_ulaw_fault : Df P w K mg base "_law_fault" 6 a_ulaw_fault d_ulaw_fault ["way", "study", "first", "second", "third"] f_ulaw_fault) {a_ulaw_is_fault : Addr} {d_ulaw_is_fault : FuncData} (D_ulaw_is_fault : Df P w K mg base "_law_is_fault" 2 a_ulaw_is_fault d_ulaw_is_fault ["told", "due"] f_ulaw_is_fault) (M_without_seen : MethT P w K mg base mt_without_seen "without_seen" 1 5) : FnOk P w K mg base (L2.CX P w) 7 f fd ["study", "ranges", "seen", "spare", "cells"] (spF K mg 5 f_ulaw_further) :=
  fn_ok F sc_ulaw_further fun cdv A outer s H E hr cs => (ms_cons (ms_par 5 6 cs.hc sc_ulaw_further.nd (me_b1 call_len b_len B.len (by decide +kernel) (mr_rd 1 (pv 1))) (me_b1 call_len b_len B.len (by decide +kernel) (mr_rd 2 (pv 2))))
    (ms_cons (ms_set 7 sc_ulaw_further.nd (me_op op_modN o_mod (mr_of (me_t1 call_intT b_intT B.int (by decide +kernel) (mr_of (me_ix ix_seq o_ix (mr_rd 4 (pv 4)) (mr_of me_int) (fun _ _ => rfl))))) (mr_rd 5 (pv 5))))
    (ms_cons (ms_par 8 9 cs.hc sc_ulaw_further.nd (me_calD D_ulaw_range (hr.mono (by decide)) cs.cw (ma_cons (me_sl (mr_rd 4 (pv 4)) (mp_some me_int) mp_none) ma_nil) (len_cons (fun ρ ds h => len_nil h))) (me_calD D_ulaw_crossed (hr.mono (by decide)) cs.cw (ma_cons (me_sl (mr_rd 4 (pv 4)) (mp_some me_int) mp_none) ma_nil) (len_cons (fun ρ ds h => len_nil h))))
    (ms_cons (ms_set 10 sc_ulaw_further.nd (me_of (mf_op op_cat f_cat (mr_f (mf_op op_cat f_cat (mr_of (me_sl (mr_rd 1 (pv 1)) mp_none (mp_some (me_var 7 (pv 7))))) (mr_f (mf_lst (ma_cons (me_var 8 (pv 8)) ma_nil))))) (mr_of (me_sl (mr_rd 1 (pv 1)) (mp_some (me_op op_addU o_add (mr_rd 7 (pv 7)) (mr_of me_int))) mp_none)))))
    (ms_cons (ms_if (mt_not (mt_tru (mr_of (me_calD D_ulaw_is_study (hr.mono (by decide)) cs.cw (ma_cons (me_meth M_with_range (hr.mono (by decide)) cs.cw (mr_rd 0 (pv 0)) (ma_cons (me_var 7 (pv 7)) (ma_cons (me_ix ix_seq o_ix (mr_rd 8 (pv 8)) (mr_of me_int) (fun _ _ => rfl)) (ma_cons (me_ix ix_seq o_ix (mr_rd 8 (pv 8)) (mr_of me_int) (fun _ _ => rfl)) ma_nil))) (len_cons (len_cons (len_cons (fun ρ ds h => len_nil h))))) (ma_cons (me_var 10 (pv 10)) (ma_cons (me_var 2 (pv 2)) ma_nil))) (len_cons (len_cons (len_cons (fun ρ ds h => len_nil h)))))))) (ms_one (ms_ret me_bl)) ms_nil)
    (ms_cons (ms_set 11 sc_ulaw_further.nd (me_make C_Menu (hr.mono (by decide)) cs.cw (ma_cons (me_var 5 (pv 5)) (ma_cons (me_of (mf_t1 call_list_of b_lst B.list (by decide +kernel) (mr_of (me_ix ix_seq o_ix (mr_rd 3 (pv 3)) (mr_of me_int) (fun _ _ => rfl))))) ma_nil)) (len_cons (len_cons (fun ρ ds h => len_nil h)))))
    (ms_cons (ms_set 12 sc_ulaw_further.nd (me_tup (ma_cons me_str (ma_cons me_str (ma_cons me_int ma_nil)))))
    (ms_cons (ms_if (mt_cmp op_lt o_lt (mr_rd 6 (pv 6)) (mr_of me_int) (nomark _)) (ms_cons (ms_set 12 sc_ulaw_further.nd (me_tup (ma_cons me_str (ma_cons (me_var 6 (pv 6)) ma_nil))))
    (ms_one (ms_if (mt_not (mt_tru (mr_of (me_calD D_ulaw_is_study (hr.mono (by decide)) cs.cw (ma_cons (me_meth M_with_seen (hr.mono (by decide)) cs.cw (mr_rd 0 (pv 0)) (ma_cons (me_var 11 (pv 11)) (ma_cons (me_ix ix_seq o_ix (mr_rd 3 (pv 3)) (mr_of me_int) (fun _ _ => rfl)) ma_nil)) (len_cons (len_cons (fun ρ ds h => len_nil h)))) (ma_cons (me_var 1 (pv 1)) (ma_cons (me_of (mf_op op_cat f_cat (mr_rd 2 (pv 2)) (mr_f (mf_lst (ma_cons (me_var 3 (pv 3)) ma_nil))))) ma_nil))) (len_cons (len_cons (len_cons (fun ρ ds h => len_nil h)))))))) (ms_one (ms_ret me_bl)) ms_nil))) ms_nil)
    (ms_cons (ms_set 13 sc_ulaw_further.nd (me_calD D_ulaw_spoilt (hr.mono (by decide)) cs.cw (ma_cons (me_var 3 (pv 3)) (ma_cons (me_var 5 (pv 5)) (ma_cons (me_ix ix_seq o_ix (mr_rd 4 (pv 4)) (mr_of me_int) (fun _ _ => rfl)) ma_nil))) (len_cons (len_cons (len_cons (fun ρ ds h => len_nil h))))))
    (ms_cons (ms_if (mt_not (mt_tru (mr_of (me_calD D_ulaw_is_fault (hr.mono (by decide)) cs.cw (ma_cons (me_calD D_ulaw_fault (hr.mono (by decide)) cs.cw (ma_cons me_int (ma_cons (me_var 0 (pv 0)) (ma_cons (me_ix ix_seq o_ix (mr_rd 13 (pv 13)) (mr_of me_int) (fun _ _ => rfl)) (ma_cons (me_ix ix_seq o_ix (mr_rd 13 (pv 13)) (mr_of me_int) (fun _ _ => rfl)) (ma_cons me_non ma_nil))))) (len_cons (len_cons (len_cons (len_cons (len_cons (fun ρ ds h => len_nil h))))))) (ma_cons (me_var 12 (pv 12)) ma_nil)) (len_cons (len_cons (fun ρ ds h => len_nil h))))))) (ms_one (ms_ret me_bl)) ms_nil)
    (ms_cons (ms_if (PW.pt (mw_and (mt_cmp (op_eqD hr.units) o_eq (mr_rd 6 (pv 6)) (mr_of me_int) (nomark _)) (mw_and1 (mt_not (mt_tru (mr_of (me_calD D_ulaw_is_fault (hr.mono (by decide)) cs.cw (ma_cons (me_calD D_ulaw_fault (hr.mono (by decide)) cs.cw (ma_cons me_int (ma_cons (me_var 0 (pv 0)) (ma_cons (me_var 11 (pv 11)) (ma_cons (me_ix ix_seq o_ix (mr_rd 3 (pv 3)) (mr_of me_int) (fun _ _ => rfl)) (ma_cons me_non ma_nil))))) (len_cons (len_cons (len_cons (len_cons (len_cons (fun ρ ds h => len_nil h))))))) (ma_cons (me_var 12 (pv 12)) ma_nil)) (len_cons (len_cons (fun ρ ds h => len_nil h)))))))))) (ms_one (ms_ret me_bl)) ms_nil)
    (ms_cons (ms_for cs.po cs.hc (mi_seq (me_of (mf_lst (ma_cons (me_un un_neg o_neg (mr_of me_int)) (ma_cons (me_var 6 (pv 6)) (ma_cons (me_op op_addU o_add (mr_rd 6 (pv 6)) (mr_of me_int)) ma_nil)))))) (mg_name 14 sc_ulaw_further.nd) (ms_one (ms_if (mt_not (mt_tru (mr_of (me_calD D_ulaw_is_fault (hr.mono (by decide)) cs.cw (ma_cons (me_calD D_ulaw_fault (hr.mono (by decide)) cs.cw (ma_cons me_int (ma_cons (me_var 0 (pv 0)) (ma_cons (me_var 14 (pv 14)) (ma_cons me_non (ma_cons me_non ma_nil))))) (len_cons (len_cons (len_cons (len_cons (len_cons (fun ρ ds h => len_nil h))))))) (ma_cons (me_tup (ma_cons me_str (ma_cons me_int ma_nil))) ma_nil)) (len_cons (len_cons (fun ρ ds h => len_nil h))))))) (ms_one (ms_ret me_bl)) ms_nil)))
    (ms_cons (ms_for cs.po cs.hc (mi_seq (me_of (mf_lst (ma_cons (me_un un_neg o_neg (mr_of me_int)) (ma_cons (me_var 5 (pv 5)) (ma_cons (me_op op_addU o_add (mr_rd 5 (pv 5)) (mr_of me_int)) ma_nil)))))) (mg_name 14 sc_ulaw_further.nd) (ms_cons (ms_if (mt_not (mt_tru (mr_of (me_calD D_ulaw_is_fault (hr.mono (by decide)) cs.cw (ma_cons (me_calD D_ulaw_fault (hr.mono (by decide)) cs.cw (ma_cons me_int (ma_cons (me_var 0 (pv 0)) (ma_cons (me_var 14 (pv 14)) (ma_cons me_non (ma_cons (me_ix ix_seq o_ix (mr_rd 8 (pv 8)) (mr_of me_int) (fun _ _ => rfl)) ma_nil))))) (len_cons (len_cons (len_cons (len_cons (len_cons (fun ρ ds h => len_nil h))))))) (ma_cons (me_tup (ma_cons me_str (ma_cons me_int ma_nil))) ma_nil)) (len_cons (len_cons (fun ρ ds h => len_nil h))))))) (ms_one (ms_ret me_bl)) ms_nil)
    (ms_one (ms_if (mt_not (mt_tru (mr_of (me_calD D_ulaw_is_fault (hr.mono (by decide)) cs.cw (ma_cons (me_calD D_ulaw_fault (hr.mono (by decide)) cs.cw (ma_cons me_int (ma_cons (me_var 0 (pv 0)) (ma_cons (me_var 14 (pv 14)) (ma_cons (me_ix ix_seq o_ix (mr_rd 9 (pv 9)) (mr_of me_int) (fun _ _ => rfl)) (ma_cons (me_ix ix_seq o_ix (mr_rd 9 (pv 9)) (mr_of me_int) (fun _ _ => rfl)) ma_nil))))) (len_cons (len_cons (len_cons (len_cons (len_cons (fun ρ ds h => len_nil h))))))) (ma_cons (me_tup (ma_cons me_str (ma_cons me_int ma_nil))) ma_nil)) (len_cons (len_cons (fun ρ ds h => len_nil h))))))) (ms_one (ms_ret me_bl)) ms_nil))))
    (ms_cons (ms_if (mt_not (mt_tru (mr_of (me_calD D_ulaw_is_fault (hr.mono (by decide)) cs.cw (ma_cons (me_calD D_ulaw_fault (hr.mono (by decide)) cs.cw (ma_cons me_int (ma_cons (me_var 0 (pv 0)) (ma_cons (me_var 7 (pv 7)) (ma_cons (me_ix ix_seq o_ix (mr_rd 9 (pv 9)) (mr_of me_int) (fun _ _ => rfl)) (ma_cons (me_ix ix_seq o_ix (mr_rd 9 (pv 9)) (mr_of me_int) (fun _ _ => rfl)) ma_nil))))) (len_cons (len_cons (len_cons (len_cons (len_cons (fun ρ ds h => len_nil h))))))) (ma_cons (me_tup (ma_cons me_str (ma_cons (me_var 7 (pv 7)) ma_nil))) ma_nil)) (len_cons (len_cons (fun ρ ds h => len_nil h))))))) (ms_one (ms_ret me_bl)) ms_nil)
    (ms_cons (ms_if (mt_cmp op_gt o_gt (mr_rd 6 (pv 6)) (mr_of me_int) (nomark _)) (ms_cons (ms_set 14 sc_ulaw_further.nd (me_op op_modN o_mod (mr_of (me_t1 call_intT b_intT B.int (by decide +kernel) (mr_of (me_ix ix_seq o_ix (mr_rd 4 (pv 4)) (mr_of me_int) (fun _ _ => rfl))))) (mr_rd 6 (pv 6))))
    (ms_cons (ms_set 15 sc_ulaw_further.nd (me_op op_addU o_add (mr_of (me_sl (mr_rd 2 (pv 2)) mp_none (mp_some (me_var 14 (pv 14))))) (mr_of (me_sl (mr_rd 2 (pv 2)) (mp_some (me_op op_addU o_add (mr_rd 14 (pv 14)) (mr_of me_int))) mp_none))))
    (ms_cons (ms_set 16 sc_ulaw_further.nd (me_meth M_without_seen (hr.mono (by decide)) cs.cw (mr_rd 0 (pv 0)) (ma_cons (me_var 14 (pv 14)) ma_nil) (len_cons (fun ρ ds h => len_nil h))))
    (ms_cons (ms_if (mt_not (mt_tru (mr_of (me_calD D_ulaw_is_study (hr.mono (by decide)) cs.cw (ma_cons (me_var 16 (pv 16)) (ma_cons (me_var 1 (pv 1)) (ma_cons (me_var 15 (pv 15)) ma_nil))) (len_cons (len_cons (len_cons (fun ρ ds h => len_nil h)))))))) (ms_one (ms_ret me_bl)) ms_nil)
    (ms_cons (ms_set 17 sc_ulaw_further.nd (me_meth M_with_range (hr.mono (by decide)) cs.cw (mr_of (me_meth M_with_seen (hr.mono (by decide)) cs.cw (mr_rd 16 (pv 16)) (ma_cons (me_var 11 (pv 11)) (ma_cons (me_ix ix_seq o_ix (mr_rd 3 (pv 3)) (mr_of me_int) (fun _ _ => rfl)) ma_nil)) (len_cons (len_cons (fun ρ ds h => len_nil h))))) (ma_cons (me_var 7 (pv 7)) (ma_cons (me_ix ix_seq o_ix (mr_rd 8 (pv 8)) (mr_of me_int) (fun _ _ => rfl)) (ma_cons (me_ix ix_seq o_ix (mr_rd 8 (pv 8)) (mr_of me_int) (fun _ _ => rfl)) ma_nil))) (len_cons (len_cons (len_cons (fun ρ ds h => len_nil h))))))
    (ms_one (ms_if (PW.pt (mw_or (mt_not (mt_tru (mr_of (me_calD D_ulaw_is_study (hr.mono (by decide)) cs.cw (ma_cons (me_var 17 (pv 17)) (ma_cons (me_var 10 (pv 10)) (ma_cons (me_of (mf_op op_cat f_cat (mr_rd 15 (pv 15)) (mr_f (mf_lst (ma_cons (me_var 3 (pv 3)) ma_nil))))) ma_nil))) (len_cons (len_cons (len_cons (fun ρ ds h => len_nil h)))))))) (mw_or1 (mt_not (mt_tru (mr_of (me_calD D_ulaw_is_study (hr.mono (by decide)) cs.cw (ma_cons (me_var 16 (pv 16)) (ma_cons (me_var 1 (pv 1)) (ma_cons (me_var 15 (pv 15)) ma_nil))) (len_cons (len_cons (len_cons (fun ρ ds h => len_nil h))))))))))) (ms_one (ms_ret me_bl)) ms_nil))))))) ms_nil)
    (ms_one (ms_ret me_bl)))))))))))))))))
abbrev s_law : Stmt := top 45
theorem sc_law : FnScope ["script", "turns", "width", "many", "cells", "ranges", "seen", "spare", "given", "pairs", "study", "mask", "full", "k"] ["script"] (defScope s_law) := ⟨rfl, rfl, rfl, by decide +kernel, rfl, by decide +kernel, by decide +kernel⟩
theorem ok_law {P : Program} {w : World} {K : Frg} {mg : Mg} {base : Heap} {f : Addr} {fd : FuncData} (F : Fun K "law" "law" s_law f fd) (B : Bi mg) (Z : Ez K mg) {a_ulaw_row : Addr} {d_ulaw_row : FuncData} (D_ulaw_row : Df P w K mg base "_law_row" 2 a_ulaw_row d_ulaw_row ["script", "at", "many"] f_ulaw_row) {a_ulaw_range : Addr} {d_ulaw_range : FuncData} (D_ulaw_range : Df P w K mg base "_law_range" 4 a_ulaw_range d_ulaw_range ["cells"] f_ulaw_range) {a_ulaw_usages : Addr} {d_ulaw_usages : FuncData} (D_ulaw_usages : Df P w K mg base "_law_usages" 1 a_ulaw_usages d_ulaw_usages ["cells", "width"] f_ulaw_usages) {a_ulaw_pairs : Addr} {d_ulaw_pairs : FuncData} (D_ulaw_pairs : Df P w K mg base "_law_pairs" 4 a_ulaw_pairs d_ulaw_pairs ["seen", "width"] f_ulaw_pairs) {aC_Study aI_Study : Addr} {dI_Study : FuncData} {pI_Study cI_Study : List Str} (C_Study : MkT P w K mg base "Study" 3 3 f_Study_init aC_Study aI_Study dI_Study pI_Study cI_Study) {aC_Menu aI_Menu : Addr} {dI_Menu : FuncData} {pI_Menu cI_Menu : List Str} (C_Menu : MkT P w K mg base "Menu" 2 2 f_Menu_init aC_Menu aI_Menu dI_Menu pI_Menu cI_Menu) {a_Study_free : Addr} {d_Study_free : FuncData} (T_Study_free : StatT P w K mg base "Study" "free" 5 a_Study_free d_Study_free ["width"] f_Study_free) {a_ulaw_is_study : Addr} {d_ulaw_is_study : FuncData} (D_ulaw_is_study : Df P w K mg base "_law_is_study" 4 a_ulaw_is_study d_ulaw_is_study ["study", "ranges", "seen"] f_ulaw_is_study) {a_ulaw_further : Addr} {d_ulaw_further : FuncData} (D_ulaw_further : Df P w K mg base "_law_further" 7 a_ulaw_further d_ulaw_further ["study", "ranges", "seen", "spare", "cells"] f_ulaw_further) {a_ulaw_refuses : Addr} {d_ulaw_refuses : FuncData} (D_ulaw_refuses : Df P w K mg base "_law_refuses" 7 a_ulaw_refuses d_ulaw_refuses ["mask", "ranges", "seen", "spare", "cells"] f_ulaw_refuses) {a_ulaw_fault : Addr} {d_ulaw_fault : FuncData} (D_ulaw_fault : Df P w K mg base "_law_fault" 6 a_ulaw_fault d_ulaw_fault ["way", "study", "first", "second", "third"] f_ulaw_fault) {a_ulaw_is_fault : Addr} {d_ulaw_is_fault : FuncData} (D_ulaw_is_fault : Df P w K mg base "_law_is_fault" 2 a_ulaw_is_fault d_ulaw_is_fault ["told", "due"] f_ulaw_is_fault) : FnOk P w K mg base (L2.CX P w) 8 f fd ["script"] (spF K mg 1 f_law) :=
  fn_ok F sc_law fun cdv A outer s H E hr cs => (ms_cons (ms_set 1 sc_law.nd (me_calD D_ulaw_row (hr.mono (by decide)) cs.cw (ma_cons (me_var 0 (pv 0)) (ma_cons me_int (ma_cons me_int ma_nil))) (len_cons (len_cons (len_cons (fun ρ ds h => len_nil h))))))
    (ms_cons (ms_set 2 sc_law.nd (me_ix ix_seq o_ix (mr_f (mf_lst (ma_cons me_int (ma_cons me_int (ma_cons me_int (ma_cons me_int (ma_cons (me_op op_addU o_add (mr_of me_int) (mr_of (me_op op_modN o_mod (mr_of (me_op op_fdivU o_fdiv (mr_of (me_t1 call_intT b_intT B.int (by decide +kernel) (mr_of (me_ix ix_seq o_ix (mr_rd 1 (pv 1)) (mr_of me_int) (fun _ _ => rfl))))) (mr_of me_int))) (mr_of me_int)))) ma_nil))))))) (mr_of (me_op op_modN o_mod (mr_of (me_t1 call_intT b_intT B.int (by decide +kernel) (mr_of (me_ix ix_seq o_ix (mr_rd 1 (pv 1)) (mr_of me_int) (fun _ _ => rfl))))) (mr_of me_int))) (fun _ _ => rfl)))
    (ms_cons (ms_set 3 sc_law.nd (me_ix ix_seq o_ix (mr_f (mf_lst (ma_cons me_int (ma_cons me_int (ma_cons me_int (ma_cons (me_op op_addU o_add (mr_of me_int) (mr_of (me_op op_modN o_mod (mr_of (me_op op_fdivU o_fdiv (mr_of (me_t1 call_intT b_intT B.int (by decide +kernel) (mr_of (me_ix ix_seq o_ix (mr_rd 1 (pv 1)) (mr_of me_int) (fun _ _ => rfl))))) (mr_of me_int))) (mr_of me_int)))) (ma_cons (me_op op_modN o_mod (mr_of (me_op op_fdivU o_fdiv (mr_of (me_t1 call_intT b_intT B.int (by decide +kernel) (mr_of (me_ix ix_seq o_ix (mr_rd 1 (pv 1)) (mr_of me_int) (fun _ _ => rfl))))) (mr_of me_int))) (mr_of me_int)) ma_nil))))))) (mr_of (me_op op_modN o_mod (mr_of (me_t1 call_intT b_intT B.int (by decide +kernel) (mr_of (me_ix ix_seq o_ix (mr_rd 1 (pv 1)) (mr_of me_int) (fun _ _ => rfl))))) (mr_of me_int))) (fun _ _ => rfl)))
    (ms_cons (ms_set 4 sc_law.nd (me_calD D_ulaw_row (hr.mono (by decide)) cs.cw (ma_cons (me_var 0 (pv 0)) (ma_cons me_int (ma_cons me_int ma_nil))) (len_cons (len_cons (len_cons (fun ρ ds h => len_nil h))))))
    (ms_cons (ms_setLcV 5 (own := [("k", 13)]) cs.hc sc_law.nd (sw_true rfl rfl rfl (by decide +kernel)) (mi_rng1 rfl B.range (ma_cons (me_var 2 (pv 2)) ma_nil)) (blkOk_by (N := ["script", "turns", "width", "many", "cells", "ranges", "seen", "spare", "given", "pairs", "study", "mask", "full", "k"]) (sc := defScope s_law) (by decide +kernel)) (fun _ _ _ _ _ => (mg_name 13 sc_law.nd)) (fun _ _ _ _ _ => mts_nil) (fun _ _ _ _ _ => (me_calD D_ulaw_range (hr.mono (by decide)) cw0 (ma_cons (me_sl (mr_rd 4 (pv 4)) (mp_some (me_op op_mulU o_mul (mr_of me_int) (mr_rd 13 (pv 13)))) (mp_some (me_op op_addU o_add (mr_of (me_op op_mulU o_mul (mr_of me_int) (mr_rd 13 (pv 13)))) (mr_of me_int)))) ma_nil) (len_cons (fun ρ ds h => len_nil h)))))
    (ms_cons (ms_set 4 sc_law.nd (me_calD D_ulaw_row (hr.mono (by decide)) cs.cw (ma_cons (me_var 0 (pv 0)) (ma_cons me_int (ma_cons (me_op op_mulU o_mul (mr_of me_int) (mr_of me_int)) ma_nil))) (len_cons (len_cons (len_cons (fun ρ ds h => len_nil h))))))
    (ms_cons (ms_setLcV 6 (own := [("k", 13)]) cs.hc sc_law.nd (sw_true rfl rfl rfl (by decide +kernel)) (mi_rng1 rfl B.range (ma_cons (me_var 3 (pv 3)) ma_nil)) (blkOk_by (N := ["script", "turns", "width", "many", "cells", "ranges", "seen", "spare", "given", "pairs", "study", "mask", "full", "k"]) (sc := defScope s_law) (by decide +kernel)) (fun _ _ _ _ _ => (mg_name 13 sc_law.nd)) (fun _ _ _ _ _ => mts_nil) (fun _ _ _ _ _ => (me_calD D_ulaw_usages (hr.mono (by decide)) cw0 (ma_cons (me_sl (mr_rd 4 (pv 4)) (mp_some (me_op op_mulU o_mul (mr_of me_int) (mr_rd 13 (pv 13)))) (mp_some (me_op op_addU o_add (mr_of (me_op op_mulU o_mul (mr_of me_int) (mr_rd 13 (pv 13)))) (mr_of me_int)))) (ma_cons (me_var 2 (pv 2)) ma_nil)) (len_cons (len_cons (fun ρ ds h => len_nil h))))))
    (ms_cons (ms_set 7 sc_law.nd (me_calD D_ulaw_usages (hr.mono (by decide)) cs.cw (ma_cons (me_sl (mr_rd 4 (pv 4)) (mp_some me_int) mp_none) (ma_cons (me_var 2 (pv 2)) ma_nil)) (len_cons (len_cons (fun ρ ds h => len_nil h)))))
    (ms_cons (ms_parOO 8 9 cs.hc sc_law.nd (mf_t1 call_list_of b_lst B.list (by decide +kernel) (mr_rd 5 (pv 5))) (mf_calD D_ulaw_pairs (hr.mono (by decide)) cs.cw (ma_cons (me_var 6 (pv 6)) (ma_cons (me_var 2 (pv 2)) ma_nil)) (len_cons (len_cons (fun ρ ds h => len_nil h)))))
    (ms_cons (ms_set 10 sc_law.nd (me_lend 9 (me_lend 8 (me_make C_Study (hr.mono (by decide)) cs.cw (ma_cons (me_var 2 (pv 2)) (ma_cons (me_var 8 (pv 8)) (ma_cons (me_var 9 (pv 9)) ma_nil))) (len_cons (len_cons (len_cons (fun ρ ds h => len_nil h))))))))
    (ms_cons (ms_sto 8 (pv 8) me_int (me_tup (ma_cons (me_tup (ma_cons me_int (ma_cons me_int ma_nil))) (ma_cons (me_tup (ma_cons me_int (ma_cons me_int ma_nil))) ma_nil))))
    (ms_cons (ms_app 8 (pv 8) (me_tup (ma_cons me_non (ma_cons me_non ma_nil))))
    (ms_cons (ms_app 9 (pv 9) (me_tup (ma_cons (me_make C_Menu (hr.mono (by decide)) cs.cw (ma_cons (me_var 2 (pv 2)) (ma_cons (me_of (mf_lst (ma_cons (me_op op_mulA o_mulT (mr_of (me_tup (ma_cons me_int ma_nil))) (mr_rd 2 (pv 2))) ma_nil))) ma_nil)) (len_cons (len_cons (fun ρ ds h => len_nil h)))) (ma_cons me_int ma_nil))))
    (ms_cons (ms_sto 9 (pv 9) me_int (me_tup (ma_cons (me_make C_Menu (hr.mono (by decide)) cs.cw (ma_cons (me_var 2 (pv 2)) (ma_cons (me_of (mf_lst (ma_cons (me_op op_mulA o_mulT (mr_of (me_tup (ma_cons me_int ma_nil))) (mr_rd 2 (pv 2))) ma_nil))) ma_nil)) (len_cons (len_cons (fun ρ ds h => len_nil h)))) (ma_cons me_int ma_nil))))
    (ms_cons (ms_if (PW.pt (mw_or (mt_not (mt_tru (mr_of (me_calD D_ulaw_is_study (hr.mono (by decide)) cs.cw (ma_cons (me_var 10 (pv 10)) (ma_cons (me_var 5 (pv 5)) (ma_cons (me_var 6 (pv 6)) ma_nil))) (len_cons (len_cons (len_cons (fun ρ ds h => len_nil h)))))))) (mw_or1 (mt_not (mt_tru (mr_of (me_calD D_ulaw_is_study (hr.mono (by decide)) cs.cw (ma_cons (me_stat T_Study_free (hr.mono (by decide)) cs.cw (ma_cons (me_var 2 (pv 2)) ma_nil) (len_cons (fun ρ ds h => len_nil h))) (ma_cons (me_of (mf_op op_rep f_rep (mr_f (mf_lst (ma_cons (me_tup (ma_cons me_non (ma_cons me_non ma_nil))) ma_nil))) (mr_rd 2 (pv 2)))) (ma_cons (me_of (mf_lst ma_nil)) ma_nil))) (len_cons (len_cons (len_cons (fun ρ ds h => len_nil h))))))))))) (ms_one (ms_ret me_bl)) ms_nil)
    (ms_cons (ms_if (mt_not (mt_tru (mr_of (me_calD D_ulaw_further (hr.mono (by decide)) cs.cw (ma_cons (me_var 10 (pv 10)) (ma_cons (me_var 5 (pv 5)) (ma_cons (me_var 6 (pv 6)) (ma_cons (me_var 7 (pv 7)) (ma_cons (me_calD D_ulaw_row (hr.mono (by decide)) cs.cw (ma_cons (me_var 0 (pv 0)) (ma_cons me_int (ma_cons me_int ma_nil))) (len_cons (len_cons (len_cons (fun ρ ds h => len_nil h))))) ma_nil))))) (len_cons (len_cons (len_cons (len_cons (len_cons (fun ρ ds h => len_nil h)))))))))) (ms_one (ms_ret me_bl)) ms_nil)
    (ms_cons (ms_set 4 sc_law.nd (me_calD D_ulaw_row (hr.mono (by decide)) cs.cw (ma_cons (me_var 0 (pv 0)) (ma_cons me_int (ma_cons me_int ma_nil))) (len_cons (len_cons (len_cons (fun ρ ds h => len_nil h))))))
    (ms_cons (ms_for cs.po cs.hc (mi_rng1 rfl B.range (ma_cons me_int ma_nil)) (mg_name 11 sc_law.nd) (ms_one (ms_if (mt_not (mt_tru (mr_of (me_calD D_ulaw_refuses (hr.mono (by decide)) cs.cw (ma_cons (me_var 11 (pv 11)) (ma_cons (me_var 5 (pv 5)) (ma_cons (me_var 6 (pv 6)) (ma_cons (me_var 7 (pv 7)) (ma_cons (me_var 4 (pv 4)) ma_nil))))) (len_cons (len_cons (len_cons (len_cons (len_cons (fun ρ ds h => len_nil h)))))))))) (ms_one (ms_ret me_bl)) ms_nil)))
    (ms_cons (ms_if (mt_not (mt_tru (mr_of (me_calD D_ulaw_is_fault (hr.mono (by decide)) cs.cw (ma_cons (me_calD D_ulaw_fault (hr.mono (by decide)) cs.cw (ma_cons me_int (ma_cons me_non (ma_cons me_int (ma_cons (me_of (mf_op op_rep f_rep (mr_f (mf_lst (ma_cons (me_tup (ma_cons me_non (ma_cons me_non ma_nil))) ma_nil))) (mr_of me_int))) (ma_cons (me_of (mf_lst ma_nil)) ma_nil))))) (len_cons (len_cons (len_cons (len_cons (len_cons (fun ρ ds h => len_nil h))))))) (ma_cons (me_tup (ma_cons me_str (ma_cons me_int ma_nil))) ma_nil)) (len_cons (len_cons (fun ρ ds h => len_nil h))))))) (ms_one (ms_ret me_bl)) ms_nil)
    (ms_cons (ms_if (mt_not (mt_tru (mr_of (me_calD D_ulaw_is_fault (hr.mono (by decide)) cs.cw (ma_cons (me_calD D_ulaw_fault (hr.mono (by decide)) cs.cw (ma_cons me_int (ma_cons me_non (ma_cons me_int (ma_cons (me_of (mf_lst ma_nil)) (ma_cons (me_of (mf_lst ma_nil)) ma_nil))))) (len_cons (len_cons (len_cons (len_cons (len_cons (fun ρ ds h => len_nil h))))))) (ma_cons (me_tup (ma_cons me_str (ma_cons me_int ma_nil))) ma_nil)) (len_cons (len_cons (fun ρ ds h => len_nil h))))))) (ms_one (ms_ret me_bl)) ms_nil)
    (ms_cons (ms_set 12 sc_law.nd (me_sl (mr_f (mf_op op_cat f_cat (mr_rd 6 (pv 6)) (mr_f (mf_op op_rep f_rep (mr_f (mf_lst (ma_cons (me_var 7 (pv 7)) ma_nil))) (mr_of me_int))))) mp_none (mp_some me_int)))
    (ms_cons (ms_if (mt_not (mt_tru (mr_of (me_calD D_ulaw_further (hr.mono (by decide)) cs.cw (ma_cons (me_make C_Study (hr.mono (by decide)) cs.cw (ma_cons (me_var 2 (pv 2)) (ma_cons (me_of (mf_t1 call_list_of b_lst B.list (by decide +kernel) (mr_rd 5 (pv 5)))) (ma_cons (me_calD D_ulaw_pairs (hr.mono (by decide)) cs.cw (ma_cons (me_var 12 (pv 12)) (ma_cons (me_var 2 (pv 2)) ma_nil)) (len_cons (len_cons (fun ρ ds h => len_nil h)))) ma_nil))) (len_cons (len_cons (len_cons (fun ρ ds h => len_nil h))))) (ma_cons (me_var 5 (pv 5)) (ma_cons (me_var 12 (pv 12)) (ma_cons (me_var 7 (pv 7)) (ma_cons (me_calD D_ulaw_row (hr.mono (by decide)) cs.cw (ma_cons (me_var 0 (pv 0)) (ma_cons me_int (ma_cons me_int ma_nil))) (len_cons (len_cons (len_cons (fun ρ ds h => len_nil h))))) ma_nil))))) (len_cons (len_cons (len_cons (len_cons (len_cons (fun ρ ds h => len_nil h)))))))))) (ms_one (ms_ret me_bl)) ms_nil)
    (ms_one (ms_ret (me_calD D_ulaw_is_study (hr.mono (by decide)) cs.cw (ma_cons (me_var 10 (pv 10)) (ma_cons (me_var 5 (pv 5)) (ma_cons (me_var 6 (pv 6)) ma_nil))) (len_cons (len_cons (len_cons (fun ρ ds h => len_nil h)))))))))))))))))))))))))))))
def fa : List (Frg → Bool) := [(He.Fa.glo "compare").ok,
  (He.Fa.glo "is_whole").ok,
  (He.Fa.glo "_law_mix").ok,
  (He.Fa.glo "_law_row").ok,
  (He.Fa.glo "_law_is_whole").ok,
  (He.Fa.glo "_law_is_tuple").ok,
  (He.Fa.glo "_law_common").ok,
  (He.Fa.glo "_law_lowest").ok,
  (He.Fa.glo "_law_bound").ok,
  (He.Fa.glo "_law_range").ok,
  (He.Fa.glo "_law_crossed").ok,
  (He.Fa.glo "_law_usages").ok,
  (He.Fa.glo "_law_is_bound").ok,
  (He.Fa.glo "_law_is_study").ok,
  (He.Fa.glo "_law_pairs").ok,
  (He.Fa.glo "_law_fault").ok,
  (He.Fa.glo "_law_is_fault").ok,
  (He.Fa.glo "_law_spoilt").ok,
  (He.Fa.glo "_law_refuses").ok,
  (He.Fa.glo "_law_further").ok,
  (He.Fa.glo "law").ok,
  (He.Fa.glo "BadName").ok,
  (He.Fa.glo "BadNumber").ok,
  (He.Fa.glo "BadPaper").ok,
  (He.Fa.glo "BadQuestion").ok,
  (He.Fa.glo "BadRange").ok,
  (He.Fa.glo "BadSeen").ok,
  (He.Fa.glo "BadTask").ok,
  (He.Fa.glo "BadText").ok,
  (He.Fa.glo "CostsError").ok,
  (He.Fa.glo "NoCosts").ok,
  (He.Fa.glo "NotAPlan").ok,
  (He.Fa.glo "StaleKey").ok,
  (He.Fa.glo "TooMany").ok,
  (He.Fa.glo "UnknownName").ok,
  (He.Fa.glo "Unlisted").ok,
  (He.Fa.glo "Menu").ok,
  (He.Fa.glo "Study").ok,
  (He.Fa.glo "Task").ok,
  (He.Fa.exc "BadNumber").ok,
  (He.Fa.exc "BadTask").ok,
  (He.Fa.free "ValueError").ok,
  (He.Fa.free "abs").ok,
  (He.Fa.free "all").ok,
  (He.Fa.free "bool").ok,
  (He.Fa.free "enumerate").ok,
  (He.Fa.free "int").ok,
  (He.Fa.free "isinstance").ok,
  (He.Fa.free "len").ok,
  (He.Fa.free "list").ok,
  (He.Fa.free "range").ok,
  (He.Fa.free "str").ok,
  (He.Fa.free "super").ok,
  (He.Fa.free "tuple").ok,
  (excCB · "BadNumber"),
  (excCB · "BadRange"),
  (excCB · "BadSeen"),
  (excCB · "BadTask"),
  (excCB · "TooMany"),
  (fun K => rowB K "BadNumber" [(.ref (He.ga K "BadRange")), (.ref (He.ga K "TooMany")), (.ref (He.ga K "BadSeen"))] false),
  (fun K => rowB K "BadRange" [(.ref (He.ga K "BadRange")), (.ref (He.ga K "TooMany")), (.ref (He.ga K "BadSeen"))] true),
  (fun K => rowB K "BadSeen" [(.ref (He.ga K "BadRange")), (.ref (He.ga K "TooMany")), (.ref (He.ga K "BadSeen"))] true),
  (fun K => rowB K "BadTask" [(.ref (He.ga K "BadRange")), (.ref (He.ga K "TooMany")), (.ref (He.ga K "BadSeen"))] false),
  (fun K => rowB K "TooMany" [(.ref (He.ga K "BadRange")), (.ref (He.ga K "TooMany")), (.ref (He.ga K "BadSeen"))] true),
  (fun K => row1B K "BadNumber" (.ref (He.ga K "BadNumber")) true),
  (fun K => row1B K "BadRange" (.ref (He.ga K "BadNumber")) false),
  (fun K => row1B K "BadSeen" (.ref (He.ga K "BadNumber")) false),
  (fun K => row1B K "BadTask" (.ref (He.ga K "BadNumber")) false),
  (fun K => row1B K "TooMany" (.ref (He.ga K "BadNumber")) false),
  (fun K => rowB K "BadNumber" [(.ref (He.ga K "BadNumber")), (.ref (He.ga K "TooMany")), (.ref (He.ga K "BadSeen"))] true),
  (fun K => rowB K "BadRange" [(.ref (He.ga K "BadNumber")), (.ref (He.ga K "TooMany")), (.ref (He.ga K "BadSeen"))] false),
  (fun K => rowB K "BadSeen" [(.ref (He.ga K "BadNumber")), (.ref (He.ga K "TooMany")), (.ref (He.ga K "BadSeen"))] true),
  (fun K => rowB K "BadTask" [(.ref (He.ga K "BadNumber")), (.ref (He.ga K "TooMany")), (.ref (He.ga K "BadSeen"))] false),
  (fun K => rowB K "TooMany" [(.ref (He.ga K "BadNumber")), (.ref (He.ga K "TooMany")), (.ref (He.ga K "BadSeen"))] true),
  (fun K => row1B K "BadNumber" (.ref (He.ga K "BadRange")) false),
  (fun K => row1B K "BadRange" (.ref (He.ga K "BadRange")) true),
  (fun K => row1B K "BadSeen" (.ref (He.ga K "BadRange")) false),
  (fun K => row1B K "BadTask" (.ref (He.ga K "BadRange")) false),
  (fun K => row1B K "TooMany" (.ref (He.ga K "BadRange")) false),
  (fun K => rowB K "BadNumber" [(.ref (He.ga K "BadNumber")), (.ref (He.ga K "BadRange")), (.ref (He.ga K "BadSeen"))] true),
  (fun K => rowB K "BadRange" [(.ref (He.ga K "BadNumber")), (.ref (He.ga K "BadRange")), (.ref (He.ga K "BadSeen"))] true),
  (fun K => rowB K "BadSeen" [(.ref (He.ga K "BadNumber")), (.ref (He.ga K "BadRange")), (.ref (He.ga K "BadSeen"))] true),
  (fun K => rowB K "BadTask" [(.ref (He.ga K "BadNumber")), (.ref (He.ga K "BadRange")), (.ref (He.ga K "BadSeen"))] false),
  (fun K => rowB K "TooMany" [(.ref (He.ga K "BadNumber")), (.ref (He.ga K "BadRange")), (.ref (He.ga K "BadSeen"))] false),
  (fun K => row1B K "BadNumber" (.ref (He.ga K "TooMany")) false),
  (fun K => row1B K "BadRange" (.ref (He.ga K "TooMany")) false),
  (fun K => row1B K "BadSeen" (.ref (He.ga K "TooMany")) false),
  (fun K => row1B K "BadTask" (.ref (He.ga K "TooMany")) false),
  (fun K => row1B K "TooMany" (.ref (He.ga K "TooMany")) true),
  (fun K => rowB K "BadNumber" [(.ref (He.ga K "BadNumber")), (.ref (He.ga K "BadRange")), (.ref (He.ga K "TooMany"))] true),
  (fun K => rowB K "BadRange" [(.ref (He.ga K "BadNumber")), (.ref (He.ga K "BadRange")), (.ref (He.ga K "TooMany"))] true),
  (fun K => rowB K "BadSeen" [(.ref (He.ga K "BadNumber")), (.ref (He.ga K "BadRange")), (.ref (He.ga K "TooMany"))] false),
  (fun K => rowB K "BadTask" [(.ref (He.ga K "BadNumber")), (.ref (He.ga K "BadRange")), (.ref (He.ga K "TooMany"))] false),
  (fun K => rowB K "TooMany" [(.ref (He.ga K "BadNumber")), (.ref (He.ga K "BadRange")), (.ref (He.ga K "TooMany"))] true),
  (fun K => row1B K "BadNumber" (.ref (He.ga K "BadSeen")) false),
  (fun K => row1B K "BadRange" (.ref (He.ga K "BadSeen")) false),
  (fun K => row1B K "BadSeen" (.ref (He.ga K "BadSeen")) true),
  (fun K => row1B K "BadTask" (.ref (He.ga K "BadSeen")) false),
  (fun K => row1B K "TooMany" (.ref (He.ga K "BadSeen")) false),
  (fun K => rowB K "BadNumber" [(.ref (He.ga K "BadTask")), (.ref (He.ga K "NotAPlan")), (.ref (He.ga K "Unlisted")), (.ref (He.ga K "BadPaper")), (.ref (He.ga K "NoCosts")), (.ref (He.ga K "BadQuestion")), (.ref (He.ga K "BadText")), (.ref (He.ga K "BadName")), (.ref (He.ga K "UnknownName"))] false),
  (fun K => rowB K "BadRange" [(.ref (He.ga K "BadTask")), (.ref (He.ga K "NotAPlan")), (.ref (He.ga K "Unlisted")), (.ref (He.ga K "BadPaper")), (.ref (He.ga K "NoCosts")), (.ref (He.ga K "BadQuestion")), (.ref (He.ga K "BadText")), (.ref (He.ga K "BadName")), (.ref (He.ga K "UnknownName"))] false),
  (fun K => rowB K "BadSeen" [(.ref (He.ga K "BadTask")), (.ref (He.ga K "NotAPlan")), (.ref (He.ga K "Unlisted")), (.ref (He.ga K "BadPaper")), (.ref (He.ga K "NoCosts")), (.ref (He.ga K "BadQuestion")), (.ref (He.ga K "BadText")), (.ref (He.ga K "BadName")), (.ref (He.ga K "UnknownName"))] false),
  (fun K => rowB K "BadTask" [(.ref (He.ga K "BadTask")), (.ref (He.ga K "NotAPlan")), (.ref (He.ga K "Unlisted")), (.ref (He.ga K "BadPaper")), (.ref (He.ga K "NoCosts")), (.ref (He.ga K "BadQuestion")), (.ref (He.ga K "BadText")), (.ref (He.ga K "BadName")), (.ref (He.ga K "UnknownName"))] true),
  (fun K => rowB K "TooMany" [(.ref (He.ga K "BadTask")), (.ref (He.ga K "NotAPlan")), (.ref (He.ga K "Unlisted")), (.ref (He.ga K "BadPaper")), (.ref (He.ga K "NoCosts")), (.ref (He.ga K "BadQuestion")), (.ref (He.ga K "BadText")), (.ref (He.ga K "BadName")), (.ref (He.ga K "UnknownName"))] false),
  (fun K => row1B K "BadNumber" (.type "ValueError") true),
  (fun K => row1B K "BadRange" (.type "ValueError") true),
  (fun K => row1B K "BadSeen" (.type "ValueError") true),
  (fun K => row1B K "BadTask" (.type "ValueError") true),
  (fun K => row1B K "TooMany" (.type "ValueError") true),
  (fun K => row1B K "BadNumber" (.ref (He.ga K "StaleKey")) false),
  (fun K => row1B K "BadRange" (.ref (He.ga K "StaleKey")) false),
  (fun K => row1B K "BadSeen" (.ref (He.ga K "StaleKey")) false),
  (fun K => row1B K "BadTask" (.ref (He.ga K "StaleKey")) false),
  (fun K => row1B K "TooMany" (.ref (He.ga K "StaleKey")) false),
  (He.Fa.exm "BadNumber" "CostsError" true).ok,
  (He.Fa.exm "BadRange" "CostsError" true).ok,
  (He.Fa.exm "BadSeen" "CostsError" true).ok,
  (He.Fa.exm "BadTask" "CostsError" true).ok,
  (He.Fa.exm "TooMany" "CostsError" true).ok,
  (He.Fa.cls "Menu").ok,
  (He.Fa.cls "Study").ok,
  (He.Fa.noat "Study" "ranges").ok,
  (He.Fa.noat "Study" "seen").ok,
  (He.Fa.noat "Menu" "usages").ok,
  (He.Fa.noat "Menu" "width").ok,
  (He.Fa.noat "Study" "width").ok,
  (cconB · "Menu" "MOST" (.int 24)),
  (cconB · "Study" "SEEN" (.int 10)),
  (cconB · "Task" "WIDTH" (.int 8)),
  (isB · "Menu" "Menu" true),
  (isB · "Study" "Menu" false),
  (isB · "Menu" "Study" false),
  (isB · "Study" "Study" true),
  (supB · "Menu" "Menu" ("Task", some "__init__")),
  (clsInB · "Menu"),
  (oexB · "BadRange"),
  (xinB · "BadRange" ("BadRange", some "__init__")),
  (xsuB · "BadRange" "BadRange"),
  (clsInB · "BadRange"),
  (noxB · "BadRange" "letter"),
  (fun K => xfB K (He.ga K "BadRange")),
  (oexB · "BadSeen"),
  (xinB · "BadSeen" ("BadSeen", some "__init__")),
  (xsuB · "BadSeen" "BadSeen"),
  (clsInB · "BadSeen"),
  (noxB · "BadSeen" "place"),
  (fun K => xfB K (He.ga K "BadSeen")),
  (oexB · "TooMany"),
  (xinB · "TooMany" ("TooMany", some "__init__")),
  (xsuB · "TooMany" "TooMany"),
  (clsInB · "TooMany"),
  (noxB · "TooMany" "word"),
  (noxB · "TooMany" "limit"),
  (fun K => xfB K (He.ga K "TooMany")),
  (statB · "Study" "free"),
  (methB · "Menu" "is_plan" ("Menu", some "is_plan")),
  (methB · "Study" "with_seen" ("Study", some "with_seen")),
  (methB · "Study" "without_seen" ("Study", some "without_seen")),
  (methB · "Study" "with_range" ("Study", some "with_range")),
  (mkB · "Study" ("Study", some "__init__")),
  (mkB · "Menu" ("Menu", some "__init__"))]
def fn : List He.DefD := [dD "compare" s_compare, dD "is_whole" s_is_whole, dD "_law_mix" s_ulaw_mix, dD "_law_row" s_ulaw_row, dD "_law_is_whole" s_ulaw_is_whole, dD "_law_is_tuple" s_ulaw_is_tuple, dD "_law_common" s_ulaw_common, dD "_law_lowest" s_ulaw_lowest, dD "_law_bound" s_ulaw_bound, dD "_law_range" s_ulaw_range, dD "_law_crossed" s_ulaw_crossed, dD "_law_usages" s_ulaw_usages, dD "_law_is_bound" s_ulaw_is_bound, dD "_law_is_study" s_ulaw_is_study, dD "_law_pairs" s_ulaw_pairs, dD "_law_fault" s_ulaw_fault, dD "_law_is_fault" s_ulaw_is_fault, dD "_law_spoilt" s_ulaw_spoilt, dD "_law_refuses" s_ulaw_refuses, dD "_law_further" s_ulaw_further, dD "law" s_law, dM "Menu" "is_plan" "Menu.is_plan" s_Menu_is_plan, dM "Study" "__init__" "Study.__init__" s_Study_init, dM "Study" "with_seen" "Study.with_seen" s_Study_with_seen, dM "Study" "without_seen" "Study.without_seen" s_Study_without_seen, dM "Study" "with_range" "Study.with_range" s_Study_with_range, dM "Task" "__init__" "Task.__init__" s_Task_init]
def ft : List TDef := [tM "Study" "free" "Study.free" s_Study_free]
def fs : List SDef := [sM "Menu" "__init__" "Menu.__init__" s_Menu_init, sM "BadRange" "__init__" "BadRange.__init__" s_BadRange_init, sM "BadSeen" "__init__" "BadSeen.__init__" s_BadSeen_init, sM "TooMany" "__init__" "TooMany.__init__" s_TooMany_init]
abbrev R : PySem.W.OpenRow := PySem.W.OpenLaw.row PySem.Challenge.rw_costsexplained_k12_studies_refuse_in_ord
abbrev hk : PySem.W.Hook := hookT 5 file fa fn fs ft
def ob (s : PySem.W.SharedT) : AlT := obsTG 5 file fa fn fs ft (HandSHeadRun.getT s)
theorem ob_eq (s : PySem.W.SharedT) : ob s = hk.obs s.abs := obsTG_eq (HandSHeadRun.getT_eq s)
def nm0 : List Str := ["_wall", "__name__", "CostsError", "BadNumber", "BadTask", "NotAPlan", "Unlisted", "BadPaper", "NoCosts", "BadQuestion", "BadRange", "BadSeen", "TooMany", "BadText", "BadName", "UnknownName", "StaleKey", "compare", "is_whole", "Study", "Task", "Menu", "_law_mix", "_law_row", "_law_is_whole", "_law_is_tuple", "_law_common", "_law_lowest", "_law_bound", "_law_range"]
def nm1 : List Str := ["_law_crossed", "_law_usages", "_law_is_bound", "_law_is_study", "_law_pairs", "_law_fault", "_law_is_fault", "_law_spoilt", "_law_refuses", "_law_further"]
def loose : List Str := nm0 ++ nm1
def qv : Program := PySem.W.view R.prog [45]
theorem run (w : World) : HandSHeadRun.RunEq R qv hk ob 100000 loose w := by
  intro os
  kernel_rfl
theorem lk {x y : Str} {b b' : Bool} {r : List (Str × Bool)} (h : List.lookup x ((y, b) :: r) = some b') : (x = y ∧ b' = b) ∨ List.lookup x r = some b' := by
  unfold List.lookup at h
  split at h
  · rename_i e
    exact .inl ⟨eq_of_beq e, (Option.some.inj h).symm⟩
  · exact .inr h
theorem facts (hlaw : ∀ ns : List Int, ns.length ≤ 63 → f_law [.rol (ns.map D.int)] = .ok (.bl true)) {P : Program} {w : World} {K : Frg} {h : Heap} {mg : Mg} {f : Addr} (hP : SupP P file) (X : K.In h) (G : h.Ns mainGlobals mg) (hfa : mg ("law" : Str) = some (.ref f)) (c : SaysT file fa fn fs ft K) :
    ∃ fd : FuncData, (∀ (s : Shared) (v : Value), BindsTo s fd ⟨[v], []⟩ [("script", v)]) ∧ ∀ base : Heap, K.In base → base.Ns mainGlobals mg → FnOk P w K mg base CX0 8 f fd ["script"] (spLaw K) := by
  obtain ⟨fd_compare, F_compare⟩ := c.def_ 0 (d := dD "compare" s_compare) rfl
  obtain ⟨fd_is_whole, F_is_whole⟩ := c.def_ 1 (d := dD "is_whole" s_is_whole) rfl
  obtain ⟨fd_ulaw_mix, F_ulaw_mix⟩ := c.def_ 2 (d := dD "_law_mix" s_ulaw_mix) rfl
  obtain ⟨fd_ulaw_row, F_ulaw_row⟩ := c.def_ 3 (d := dD "_law_row" s_ulaw_row) rfl
  obtain ⟨fd_ulaw_is_whole, F_ulaw_is_whole⟩ := c.def_ 4 (d := dD "_law_is_whole" s_ulaw_is_whole) rfl
  obtain ⟨fd_ulaw_is_tuple, F_ulaw_is_tuple⟩ := c.def_ 5 (d := dD "_law_is_tuple" s_ulaw_is_tuple) rfl
  obtain ⟨fd_ulaw_common, F_ulaw_common⟩ := c.def_ 6 (d := dD "_law_common" s_ulaw_common) rfl
  obtain ⟨fd_ulaw_lowest, F_ulaw_lowest⟩ := c.def_ 7 (d := dD "_law_lowest" s_ulaw_lowest) rfl
  obtain ⟨fd_ulaw_bound, F_ulaw_bound⟩ := c.def_ 8 (d := dD "_law_bound" s_ulaw_bound) rfl
  obtain ⟨fd_ulaw_range, F_ulaw_range⟩ := c.def_ 9 (d := dD "_law_range" s_ulaw_range) rfl
  obtain ⟨fd_ulaw_crossed, F_ulaw_crossed⟩ := c.def_ 10 (d := dD "_law_crossed" s_ulaw_crossed) rfl
  obtain ⟨fd_ulaw_usages, F_ulaw_usages⟩ := c.def_ 11 (d := dD "_law_usages" s_ulaw_usages) rfl
  obtain ⟨fd_ulaw_is_bound, F_ulaw_is_bound⟩ := c.def_ 12 (d := dD "_law_is_bound" s_ulaw_is_bound) rfl
  obtain ⟨fd_ulaw_is_study, F_ulaw_is_study⟩ := c.def_ 13 (d := dD "_law_is_study" s_ulaw_is_study) rfl
  obtain ⟨fd_ulaw_pairs, F_ulaw_pairs⟩ := c.def_ 14 (d := dD "_law_pairs" s_ulaw_pairs) rfl
  obtain ⟨fd_ulaw_fault, F_ulaw_fault⟩ := c.def_ 15 (d := dD "_law_fault" s_ulaw_fault) rfl
  obtain ⟨fd_ulaw_is_fault, F_ulaw_is_fault⟩ := c.def_ 16 (d := dD "_law_is_fault" s_ulaw_is_fault) rfl
  obtain ⟨fd_ulaw_spoilt, F_ulaw_spoilt⟩ := c.def_ 17 (d := dD "_law_spoilt" s_ulaw_spoilt) rfl
  obtain ⟨fd_ulaw_refuses, F_ulaw_refuses⟩ := c.def_ 18 (d := dD "_law_refuses" s_ulaw_refuses) rfl
  obtain ⟨fd_ulaw_further, F_ulaw_further⟩ := c.def_ 19 (d := dD "_law_further" s_ulaw_further) rfl
  obtain ⟨fd_law, F_law⟩ := c.def_ 20 (d := dD "law" s_law) rfl
  obtain ⟨fd_Menu_is_plan, F_Menu_is_plan⟩ := c.def_ 21 (d := dM "Menu" "is_plan" "Menu.is_plan" s_Menu_is_plan) rfl
  obtain ⟨fd_Study_init, F_Study_init⟩ := c.def_ 22 (d := dM "Study" "__init__" "Study.__init__" s_Study_init) rfl
  obtain ⟨fd_Study_with_seen, F_Study_with_seen⟩ := c.def_ 23 (d := dM "Study" "with_seen" "Study.with_seen" s_Study_with_seen) rfl
  obtain ⟨fd_Study_without_seen, F_Study_without_seen⟩ := c.def_ 24 (d := dM "Study" "without_seen" "Study.without_seen" s_Study_without_seen) rfl
  obtain ⟨fd_Study_with_range, F_Study_with_range⟩ := c.def_ 25 (d := dM "Study" "with_range" "Study.with_range" s_Study_with_range) rfl
  obtain ⟨fd_Task_init, F_Task_init⟩ := c.def_ 26 (d := dM "Task" "__init__" "Task.__init__" s_Task_init) rfl
  obtain ⟨fd_Study_free, F_Study_free⟩ := c.tdef 0 (d := tM "Study" "free" "Study.free" s_Study_free) (st := s_Study_free) rfl rfl rfl rfl
  obtain ⟨fd_Menu_init, F_Menu_init⟩ := c.sdef 0 (d := sM "Menu" "__init__" "Menu.__init__" s_Menu_init) rfl
  obtain ⟨fd_BadRange_init, F_BadRange_init⟩ := c.sdef 1 (d := sM "BadRange" "__init__" "BadRange.__init__" s_BadRange_init) rfl
  obtain ⟨fd_BadSeen_init, F_BadSeen_init⟩ := c.sdef 2 (d := sM "BadSeen" "__init__" "BadSeen.__init__" s_BadSeen_init) rfl
  obtain ⟨fd_TooMany_init, F_TooMany_init⟩ := c.sdef 3 (d := sM "TooMany" "__init__" "TooMany.__init__" s_TooMany_init) rfl
  have e := hfa.symm.trans (He.glo_ok X G (c.fact 20 (f := (He.Fa.glo "law").ok) rfl))
  cases e
  have B : Bi mg := ⟨He.free_ok X G (c.fact 41 (f := (He.Fa.free "ValueError").ok) rfl), He.free_ok X G (c.fact 42 (f := (He.Fa.free "abs").ok) rfl), He.free_ok X G (c.fact 43 (f := (He.Fa.free "all").ok) rfl), He.free_ok X G (c.fact 44 (f := (He.Fa.free "bool").ok) rfl), He.free_ok X G (c.fact 45 (f := (He.Fa.free "enumerate").ok) rfl), He.free_ok X G (c.fact 46 (f := (He.Fa.free "int").ok) rfl), He.free_ok X G (c.fact 47 (f := (He.Fa.free "isinstance").ok) rfl), He.free_ok X G (c.fact 48 (f := (He.Fa.free "len").ok) rfl), He.free_ok X G (c.fact 49 (f := (He.Fa.free "list").ok) rfl), He.free_ok X G (c.fact 50 (f := (He.Fa.free "range").ok) rfl), He.free_ok X G (c.fact 51 (f := (He.Fa.free "str").ok) rfl), He.free_ok X G (c.fact 52 (f := (He.Fa.free "super").ok) rfl), He.free_ok X G (c.fact 53 (f := (He.Fa.free "tuple").ok) rfl)⟩
  have G_BadName := He.glo_ok X G (c.fact 21 (f := (He.Fa.glo "BadName").ok) rfl)
  have G_BadNumber := He.glo_ok X G (c.fact 22 (f := (He.Fa.glo "BadNumber").ok) rfl)
  have G_BadPaper := He.glo_ok X G (c.fact 23 (f := (He.Fa.glo "BadPaper").ok) rfl)
  have G_BadQuestion := He.glo_ok X G (c.fact 24 (f := (He.Fa.glo "BadQuestion").ok) rfl)
  have G_BadRange := He.glo_ok X G (c.fact 25 (f := (He.Fa.glo "BadRange").ok) rfl)
  have G_BadSeen := He.glo_ok X G (c.fact 26 (f := (He.Fa.glo "BadSeen").ok) rfl)
  have G_BadTask := He.glo_ok X G (c.fact 27 (f := (He.Fa.glo "BadTask").ok) rfl)
  have G_BadText := He.glo_ok X G (c.fact 28 (f := (He.Fa.glo "BadText").ok) rfl)
  have G_CostsError := He.glo_ok X G (c.fact 29 (f := (He.Fa.glo "CostsError").ok) rfl)
  have G_NoCosts := He.glo_ok X G (c.fact 30 (f := (He.Fa.glo "NoCosts").ok) rfl)
  have G_NotAPlan := He.glo_ok X G (c.fact 31 (f := (He.Fa.glo "NotAPlan").ok) rfl)
  have G_StaleKey := He.glo_ok X G (c.fact 32 (f := (He.Fa.glo "StaleKey").ok) rfl)
  have G_TooMany := He.glo_ok X G (c.fact 33 (f := (He.Fa.glo "TooMany").ok) rfl)
  have G_UnknownName := He.glo_ok X G (c.fact 34 (f := (He.Fa.glo "UnknownName").ok) rfl)
  have G_Unlisted := He.glo_ok X G (c.fact 35 (f := (He.Fa.glo "Unlisted").ok) rfl)
  have G_Menu := He.glo_ok X G (c.fact 36 (f := (He.Fa.glo "Menu").ok) rfl)
  have G_Study := He.glo_ok X G (c.fact 37 (f := (He.Fa.glo "Study").ok) rfl)
  have G_Task := He.glo_ok X G (c.fact 38 (f := (He.Fa.glo "Task").ok) rfl)
  have Z : Ez K mg := ⟨excT_ok X G (c.fact 22 (f := (He.Fa.glo "BadNumber").ok) rfl) (c.fact 39 (f := (He.Fa.exc "BadNumber").ok) rfl),
    excT_ok X G (c.fact 27 (f := (He.Fa.glo "BadTask").ok) rfl) (c.fact 40 (f := (He.Fa.exc "BadTask").ok) rfl),
    G_BadName,
    G_BadNumber,
    G_BadPaper,
    G_BadQuestion,
    G_BadRange,
    G_BadSeen,
    G_BadTask,
    G_BadText,
    G_CostsError,
    G_NoCosts,
    G_NotAPlan,
    G_StaleKey,
    G_TooMany,
    G_UnknownName,
    G_Unlisted,
    G_Menu,
    G_Study,
    G_Task,
    (by
    intro x C b hm ht
    rcases lk ht with ⟨rfl, rfl⟩ | ht
    · rw [G_BadNumber] at hm
      cases hm
      exact ⟨excCB_ok (c.fact 54 rfl), of_decide_eq_true (c.fact 59 rfl)⟩
    rcases lk ht with ⟨rfl, rfl⟩ | ht
    · rw [G_BadRange] at hm
      cases hm
      exact ⟨excCB_ok (c.fact 55 rfl), of_decide_eq_true (c.fact 60 rfl)⟩
    rcases lk ht with ⟨rfl, rfl⟩ | ht
    · rw [G_BadSeen] at hm
      cases hm
      exact ⟨excCB_ok (c.fact 56 rfl), of_decide_eq_true (c.fact 61 rfl)⟩
    rcases lk ht with ⟨rfl, rfl⟩ | ht
    · rw [G_BadTask] at hm
      cases hm
      exact ⟨excCB_ok (c.fact 57 rfl), of_decide_eq_true (c.fact 62 rfl)⟩
    rcases lk ht with ⟨rfl, rfl⟩ | ht
    · rw [G_TooMany] at hm
      cases hm
      exact ⟨excCB_ok (c.fact 58 rfl), of_decide_eq_true (c.fact 63 rfl)⟩
    · cases ht),
    (by
    intro x C b hm ht
    rcases lk ht with ⟨rfl, rfl⟩ | ht
    · rw [G_BadNumber] at hm
      cases hm
      exact ⟨excCB_ok (c.fact 54 rfl), of_decide_eq_true (c.fact 64 rfl)⟩
    rcases lk ht with ⟨rfl, rfl⟩ | ht
    · rw [G_BadRange] at hm
      cases hm
      exact ⟨excCB_ok (c.fact 55 rfl), of_decide_eq_true (c.fact 65 rfl)⟩
    rcases lk ht with ⟨rfl, rfl⟩ | ht
    · rw [G_BadSeen] at hm
      cases hm
      exact ⟨excCB_ok (c.fact 56 rfl), of_decide_eq_true (c.fact 66 rfl)⟩
    rcases lk ht with ⟨rfl, rfl⟩ | ht
    · rw [G_BadTask] at hm
      cases hm
      exact ⟨excCB_ok (c.fact 57 rfl), of_decide_eq_true (c.fact 67 rfl)⟩
    rcases lk ht with ⟨rfl, rfl⟩ | ht
    · rw [G_TooMany] at hm
      cases hm
      exact ⟨excCB_ok (c.fact 58 rfl), of_decide_eq_true (c.fact 68 rfl)⟩
    · cases ht),
    (by
    intro x C b hm ht
    rcases lk ht with ⟨rfl, rfl⟩ | ht
    · rw [G_BadNumber] at hm
      cases hm
      exact ⟨excCB_ok (c.fact 54 rfl), of_decide_eq_true (c.fact 69 rfl)⟩
    rcases lk ht with ⟨rfl, rfl⟩ | ht
    · rw [G_BadRange] at hm
      cases hm
      exact ⟨excCB_ok (c.fact 55 rfl), of_decide_eq_true (c.fact 70 rfl)⟩
    rcases lk ht with ⟨rfl, rfl⟩ | ht
    · rw [G_BadSeen] at hm
      cases hm
      exact ⟨excCB_ok (c.fact 56 rfl), of_decide_eq_true (c.fact 71 rfl)⟩
    rcases lk ht with ⟨rfl, rfl⟩ | ht
    · rw [G_BadTask] at hm
      cases hm
      exact ⟨excCB_ok (c.fact 57 rfl), of_decide_eq_true (c.fact 72 rfl)⟩
    rcases lk ht with ⟨rfl, rfl⟩ | ht
    · rw [G_TooMany] at hm
      cases hm
      exact ⟨excCB_ok (c.fact 58 rfl), of_decide_eq_true (c.fact 73 rfl)⟩
    · cases ht),
    (by
    intro x C b hm ht
    rcases lk ht with ⟨rfl, rfl⟩ | ht
    · rw [G_BadNumber] at hm
      cases hm
      exact ⟨excCB_ok (c.fact 54 rfl), of_decide_eq_true (c.fact 74 rfl)⟩
    rcases lk ht with ⟨rfl, rfl⟩ | ht
    · rw [G_BadRange] at hm
      cases hm
      exact ⟨excCB_ok (c.fact 55 rfl), of_decide_eq_true (c.fact 75 rfl)⟩
    rcases lk ht with ⟨rfl, rfl⟩ | ht
    · rw [G_BadSeen] at hm
      cases hm
      exact ⟨excCB_ok (c.fact 56 rfl), of_decide_eq_true (c.fact 76 rfl)⟩
    rcases lk ht with ⟨rfl, rfl⟩ | ht
    · rw [G_BadTask] at hm
      cases hm
      exact ⟨excCB_ok (c.fact 57 rfl), of_decide_eq_true (c.fact 77 rfl)⟩
    rcases lk ht with ⟨rfl, rfl⟩ | ht
    · rw [G_TooMany] at hm
      cases hm
      exact ⟨excCB_ok (c.fact 58 rfl), of_decide_eq_true (c.fact 78 rfl)⟩
    · cases ht),
    (by
    intro x C b hm ht
    rcases lk ht with ⟨rfl, rfl⟩ | ht
    · rw [G_BadNumber] at hm
      cases hm
      exact ⟨excCB_ok (c.fact 54 rfl), of_decide_eq_true (c.fact 79 rfl)⟩
    rcases lk ht with ⟨rfl, rfl⟩ | ht
    · rw [G_BadRange] at hm
      cases hm
      exact ⟨excCB_ok (c.fact 55 rfl), of_decide_eq_true (c.fact 80 rfl)⟩
    rcases lk ht with ⟨rfl, rfl⟩ | ht
    · rw [G_BadSeen] at hm
      cases hm
      exact ⟨excCB_ok (c.fact 56 rfl), of_decide_eq_true (c.fact 81 rfl)⟩
    rcases lk ht with ⟨rfl, rfl⟩ | ht
    · rw [G_BadTask] at hm
      cases hm
      exact ⟨excCB_ok (c.fact 57 rfl), of_decide_eq_true (c.fact 82 rfl)⟩
    rcases lk ht with ⟨rfl, rfl⟩ | ht
    · rw [G_TooMany] at hm
      cases hm
      exact ⟨excCB_ok (c.fact 58 rfl), of_decide_eq_true (c.fact 83 rfl)⟩
    · cases ht),
    (by
    intro x C b hm ht
    rcases lk ht with ⟨rfl, rfl⟩ | ht
    · rw [G_BadNumber] at hm
      cases hm
      exact ⟨excCB_ok (c.fact 54 rfl), of_decide_eq_true (c.fact 84 rfl)⟩
    rcases lk ht with ⟨rfl, rfl⟩ | ht
    · rw [G_BadRange] at hm
      cases hm
      exact ⟨excCB_ok (c.fact 55 rfl), of_decide_eq_true (c.fact 85 rfl)⟩
    rcases lk ht with ⟨rfl, rfl⟩ | ht
    · rw [G_BadSeen] at hm
      cases hm
      exact ⟨excCB_ok (c.fact 56 rfl), of_decide_eq_true (c.fact 86 rfl)⟩
    rcases lk ht with ⟨rfl, rfl⟩ | ht
    · rw [G_BadTask] at hm
      cases hm
      exact ⟨excCB_ok (c.fact 57 rfl), of_decide_eq_true (c.fact 87 rfl)⟩
    rcases lk ht with ⟨rfl, rfl⟩ | ht
    · rw [G_TooMany] at hm
      cases hm
      exact ⟨excCB_ok (c.fact 58 rfl), of_decide_eq_true (c.fact 88 rfl)⟩
    · cases ht),
    (by
    intro x C b hm ht
    rcases lk ht with ⟨rfl, rfl⟩ | ht
    · rw [G_BadNumber] at hm
      cases hm
      exact ⟨excCB_ok (c.fact 54 rfl), of_decide_eq_true (c.fact 89 rfl)⟩
    rcases lk ht with ⟨rfl, rfl⟩ | ht
    · rw [G_BadRange] at hm
      cases hm
      exact ⟨excCB_ok (c.fact 55 rfl), of_decide_eq_true (c.fact 90 rfl)⟩
    rcases lk ht with ⟨rfl, rfl⟩ | ht
    · rw [G_BadSeen] at hm
      cases hm
      exact ⟨excCB_ok (c.fact 56 rfl), of_decide_eq_true (c.fact 91 rfl)⟩
    rcases lk ht with ⟨rfl, rfl⟩ | ht
    · rw [G_BadTask] at hm
      cases hm
      exact ⟨excCB_ok (c.fact 57 rfl), of_decide_eq_true (c.fact 92 rfl)⟩
    rcases lk ht with ⟨rfl, rfl⟩ | ht
    · rw [G_TooMany] at hm
      cases hm
      exact ⟨excCB_ok (c.fact 58 rfl), of_decide_eq_true (c.fact 93 rfl)⟩
    · cases ht),
    (by
    intro x C b hm ht
    rcases lk ht with ⟨rfl, rfl⟩ | ht
    · rw [G_BadNumber] at hm
      cases hm
      exact ⟨excCB_ok (c.fact 54 rfl), of_decide_eq_true (c.fact 94 rfl)⟩
    rcases lk ht with ⟨rfl, rfl⟩ | ht
    · rw [G_BadRange] at hm
      cases hm
      exact ⟨excCB_ok (c.fact 55 rfl), of_decide_eq_true (c.fact 95 rfl)⟩
    rcases lk ht with ⟨rfl, rfl⟩ | ht
    · rw [G_BadSeen] at hm
      cases hm
      exact ⟨excCB_ok (c.fact 56 rfl), of_decide_eq_true (c.fact 96 rfl)⟩
    rcases lk ht with ⟨rfl, rfl⟩ | ht
    · rw [G_BadTask] at hm
      cases hm
      exact ⟨excCB_ok (c.fact 57 rfl), of_decide_eq_true (c.fact 97 rfl)⟩
    rcases lk ht with ⟨rfl, rfl⟩ | ht
    · rw [G_TooMany] at hm
      cases hm
      exact ⟨excCB_ok (c.fact 58 rfl), of_decide_eq_true (c.fact 98 rfl)⟩
    · cases ht),
    (by
    intro x C b hm ht
    rcases lk ht with ⟨rfl, rfl⟩ | ht
    · rw [G_BadNumber] at hm
      cases hm
      exact ⟨excCB_ok (c.fact 54 rfl), of_decide_eq_true (c.fact 99 rfl)⟩
    rcases lk ht with ⟨rfl, rfl⟩ | ht
    · rw [G_BadRange] at hm
      cases hm
      exact ⟨excCB_ok (c.fact 55 rfl), of_decide_eq_true (c.fact 100 rfl)⟩
    rcases lk ht with ⟨rfl, rfl⟩ | ht
    · rw [G_BadSeen] at hm
      cases hm
      exact ⟨excCB_ok (c.fact 56 rfl), of_decide_eq_true (c.fact 101 rfl)⟩
    rcases lk ht with ⟨rfl, rfl⟩ | ht
    · rw [G_BadTask] at hm
      cases hm
      exact ⟨excCB_ok (c.fact 57 rfl), of_decide_eq_true (c.fact 102 rfl)⟩
    rcases lk ht with ⟨rfl, rfl⟩ | ht
    · rw [G_TooMany] at hm
      cases hm
      exact ⟨excCB_ok (c.fact 58 rfl), of_decide_eq_true (c.fact 103 rfl)⟩
    · cases ht),
    (by
    intro x C b hm ht
    rcases lk ht with ⟨rfl, rfl⟩ | ht
    · rw [G_BadNumber] at hm
      cases hm
      exact ⟨excCB_ok (c.fact 54 rfl), of_decide_eq_true (c.fact 104 rfl)⟩
    rcases lk ht with ⟨rfl, rfl⟩ | ht
    · rw [G_BadRange] at hm
      cases hm
      exact ⟨excCB_ok (c.fact 55 rfl), of_decide_eq_true (c.fact 105 rfl)⟩
    rcases lk ht with ⟨rfl, rfl⟩ | ht
    · rw [G_BadSeen] at hm
      cases hm
      exact ⟨excCB_ok (c.fact 56 rfl), of_decide_eq_true (c.fact 106 rfl)⟩
    rcases lk ht with ⟨rfl, rfl⟩ | ht
    · rw [G_BadTask] at hm
      cases hm
      exact ⟨excCB_ok (c.fact 57 rfl), of_decide_eq_true (c.fact 107 rfl)⟩
    rcases lk ht with ⟨rfl, rfl⟩ | ht
    · rw [G_TooMany] at hm
      cases hm
      exact ⟨excCB_ok (c.fact 58 rfl), of_decide_eq_true (c.fact 108 rfl)⟩
    · cases ht),
    (by
    intro x C b hm ht
    rcases lk ht with ⟨rfl, rfl⟩ | ht
    · rw [G_BadNumber] at hm
      cases hm
      exact ⟨excCB_ok (c.fact 54 rfl), of_decide_eq_true (c.fact 109 rfl)⟩
    rcases lk ht with ⟨rfl, rfl⟩ | ht
    · rw [G_BadRange] at hm
      cases hm
      exact ⟨excCB_ok (c.fact 55 rfl), of_decide_eq_true (c.fact 110 rfl)⟩
    rcases lk ht with ⟨rfl, rfl⟩ | ht
    · rw [G_BadSeen] at hm
      cases hm
      exact ⟨excCB_ok (c.fact 56 rfl), of_decide_eq_true (c.fact 111 rfl)⟩
    rcases lk ht with ⟨rfl, rfl⟩ | ht
    · rw [G_BadTask] at hm
      cases hm
      exact ⟨excCB_ok (c.fact 57 rfl), of_decide_eq_true (c.fact 112 rfl)⟩
    rcases lk ht with ⟨rfl, rfl⟩ | ht
    · rw [G_TooMany] at hm
      cases hm
      exact ⟨excCB_ok (c.fact 58 rfl), of_decide_eq_true (c.fact 113 rfl)⟩
    · cases ht),
    (by
    intro x C b hm ht
    rcases lk ht with ⟨rfl, rfl⟩ | ht
    · rw [G_BadNumber] at hm
      cases hm
      exact He.exm_ok (x := "BadNumber") (y := "CostsError") (c.fact 114 rfl)
    rcases lk ht with ⟨rfl, rfl⟩ | ht
    · rw [G_BadRange] at hm
      cases hm
      exact He.exm_ok (x := "BadRange") (y := "CostsError") (c.fact 115 rfl)
    rcases lk ht with ⟨rfl, rfl⟩ | ht
    · rw [G_BadSeen] at hm
      cases hm
      exact He.exm_ok (x := "BadSeen") (y := "CostsError") (c.fact 116 rfl)
    rcases lk ht with ⟨rfl, rfl⟩ | ht
    · rw [G_BadTask] at hm
      cases hm
      exact He.exm_ok (x := "BadTask") (y := "CostsError") (c.fact 117 rfl)
    rcases lk ht with ⟨rfl, rfl⟩ | ht
    · rw [G_TooMany] at hm
      cases hm
      exact He.exm_ok (x := "TooMany") (y := "CostsError") (c.fact 118 rfl)
    · cases ht),
    (by
    intro x hx C hC
    rcases List.mem_cons.mp hx with rfl | hx
    · have e := G_Study.symm.trans hC
      cases e
      exact ⟨He.cls_ok (x := "Study") (c.fact 120 rfl), He.noat_ok (x := "Study") (f := "ranges") (c.fact 121 rfl)⟩
    · cases hx),
    (by
    intro x hx C hC
    rcases List.mem_cons.mp hx with rfl | hx
    · have e := G_Study.symm.trans hC
      cases e
      exact ⟨He.cls_ok (x := "Study") (c.fact 120 rfl), He.noat_ok (x := "Study") (f := "seen") (c.fact 122 rfl)⟩
    · cases hx),
    (by
    intro x hx C hC
    rcases List.mem_cons.mp hx with rfl | hx
    · have e := G_Menu.symm.trans hC
      cases e
      exact ⟨He.cls_ok (x := "Menu") (c.fact 119 rfl), He.noat_ok (x := "Menu") (f := "usages") (c.fact 123 rfl)⟩
    · cases hx),
    (by
    intro x hx C hC
    rcases List.mem_cons.mp hx with rfl | hx
    · have e := G_Menu.symm.trans hC
      cases e
      exact ⟨He.cls_ok (x := "Menu") (c.fact 119 rfl), He.noat_ok (x := "Menu") (f := "width") (c.fact 124 rfl)⟩
    rcases List.mem_cons.mp hx with rfl | hx
    · have e := G_Study.symm.trans hC
      cases e
      exact ⟨He.cls_ok (x := "Study") (c.fact 120 rfl), He.noat_ok (x := "Study") (f := "width") (c.fact 125 rfl)⟩
    · cases hx),
    cconB_ok G_Menu (c.fact 126 rfl),
    cconB_ok G_Study (c.fact 127 rfl),
    cconB_ok G_Task (c.fact 128 rfl),
    ⟨_, G_Menu, by
    intro x v ht C hC
    rcases lkA ht with ⟨rfl, rfl⟩ | ht
    · have e := G_Menu.symm.trans hC
      cases e
      exact isB_ok (c.fact 129 rfl)
    rcases lkA ht with ⟨rfl, rfl⟩ | ht
    · have e := G_Study.symm.trans hC
      cases e
      exact isB_ok (c.fact 130 rfl)
    · exact (lkN ht).elim⟩,
    ⟨_, G_Study, by
    intro x v ht C hC
    rcases lkA ht with ⟨rfl, rfl⟩ | ht
    · have e := G_Menu.symm.trans hC
      cases e
      exact isB_ok (c.fact 131 rfl)
    rcases lkA ht with ⟨rfl, rfl⟩ | ht
    · have e := G_Study.symm.trans hC
      cases e
      exact isB_ok (c.fact 132 rfl)
    · exact (lkN ht).elim⟩,
    (by
    intro x hx C hC
    rcases List.mem_cons.mp hx with rfl | hx
    · have e := G_Menu.symm.trans hC
      cases e
      exact supB_ok (c.fact 133 rfl)
    · cases hx),
    clsInB_ok (c.fact 134 rfl),
    (by
    intro x hx C hC
    rcases List.mem_cons.mp hx with rfl | hx
    · have e := G_BadRange.symm.trans hC
      cases e
      exact ⟨oexB_ok (c.fact 135 rfl), xsuB_ok (c.fact 137 rfl)⟩
    · cases hx),
    clsInB_ok (c.fact 138 rfl),
    (by
    intro x hx C hC
    rcases List.mem_cons.mp hx with rfl | hx
    · have e := G_BadRange.symm.trans hC
      cases e
      exact ⟨oexB_ok (c.fact 135 rfl), He.eqO_ok (c.fact 139 (f := (noxB · "BadRange" "letter")) rfl)⟩
    · cases hx),
    (by
    intro x hx C hC
    rcases List.mem_cons.mp hx with rfl | hx
    · have e := G_BadSeen.symm.trans hC
      cases e
      exact ⟨oexB_ok (c.fact 141 rfl), xsuB_ok (c.fact 143 rfl)⟩
    · cases hx),
    clsInB_ok (c.fact 144 rfl),
    (by
    intro x hx C hC
    rcases List.mem_cons.mp hx with rfl | hx
    · have e := G_BadSeen.symm.trans hC
      cases e
      exact ⟨oexB_ok (c.fact 141 rfl), He.eqO_ok (c.fact 145 (f := (noxB · "BadSeen" "place")) rfl)⟩
    · cases hx),
    (by
    intro x hx C hC
    rcases List.mem_cons.mp hx with rfl | hx
    · have e := G_TooMany.symm.trans hC
      cases e
      exact ⟨oexB_ok (c.fact 147 rfl), xsuB_ok (c.fact 149 rfl)⟩
    · cases hx),
    clsInB_ok (c.fact 150 rfl),
    (by
    intro x hx C hC
    rcases List.mem_cons.mp hx with rfl | hx
    · have e := G_TooMany.symm.trans hC
      cases e
      exact ⟨oexB_ok (c.fact 147 rfl), He.eqO_ok (c.fact 151 (f := (noxB · "TooMany" "word")) rfl)⟩
    · cases hx),
    (by
    intro x hx C hC
    rcases List.mem_cons.mp hx with rfl | hx
    · have e := G_TooMany.symm.trans hC
      cases e
      exact ⟨oexB_ok (c.fact 147 rfl), He.eqO_ok (c.fact 152 (f := (noxB · "TooMany" "limit")) rfl)⟩
    · cases hx),
    (by
    intro x hx C hC
    rcases List.mem_cons.mp hx with rfl | hx
    · have e := G_BadRange.symm.trans hC
      cases e
      exact ⟨xfB_ok (c.fact 140 rfl), He.eqO_ok (c.fact 139 (f := (noxB · "BadRange" "letter")) rfl)⟩
    · cases hx),
    (by
    intro x hx C hC
    rcases List.mem_cons.mp hx with rfl | hx
    · have e := G_TooMany.symm.trans hC
      cases e
      exact ⟨xfB_ok (c.fact 153 rfl), He.eqO_ok (c.fact 152 (f := (noxB · "TooMany" "limit")) rfl)⟩
    · cases hx),
    (by
    intro x hx C hC
    rcases List.mem_cons.mp hx with rfl | hx
    · have e := G_BadSeen.symm.trans hC
      cases e
      exact ⟨xfB_ok (c.fact 146 rfl), He.eqO_ok (c.fact 145 (f := (noxB · "BadSeen" "place")) rfl)⟩
    · cases hx),
    (by
    intro x hx C hC
    rcases List.mem_cons.mp hx with rfl | hx
    · have e := G_TooMany.symm.trans hC
      cases e
      exact ⟨xfB_ok (c.fact 153 rfl), He.eqO_ok (c.fact 151 (f := (noxB · "TooMany" "word")) rfl)⟩
    · cases hx)⟩
  have N_BadRange_init := F_BadRange_init.bindsN (ps := ["self", "letter"]) fun _ _ _ _ _ _ _ us hl => match us, hl with | [_, _], _ => rfl
  have K_BadRange_init := fun base => ok_BadRange_init (P := P) (w := w) (base := base) F_BadRange_init hP B Z
  have N_BadSeen_init := F_BadSeen_init.bindsN (ps := ["self", "place"]) fun _ _ _ _ _ _ _ us hl => match us, hl with | [_, _], _ => rfl
  have K_BadSeen_init := fun base => ok_BadSeen_init (P := P) (w := w) (base := base) F_BadSeen_init hP B Z
  have N_TooMany_init := F_TooMany_init.bindsN (ps := ["self", "word", "limit"]) fun _ _ _ _ _ _ _ us hl => match us, hl with | [_, _, _], _ => rfl
  have K_TooMany_init := fun base => ok_TooMany_init (P := P) (w := w) (base := base) F_TooMany_init hP B Z
  have D_compare := fun base => df_mk (P := P) (w := w) (base := base) (st := s_compare) X G F_compare (c.fact 0 (f := (He.Fa.glo "compare").ok) rfl) (F_compare.bindsN (ps := ["left", "right"]) fun _ _ _ _ _ _ us hl => match us, hl with | [_, _], _ => rfl) (ok_compare (fun_of F_compare) B Z)
  have D_is_whole := fun base => df_mk (P := P) (w := w) (base := base) (st := s_is_whole) X G F_is_whole (c.fact 1 (f := (He.Fa.glo "is_whole").ok) rfl) (F_is_whole.bindsN (ps := ["value"]) fun _ _ _ _ _ _ us hl => match us, hl with | [_], _ => rfl) (ok_is_whole (fun_of F_is_whole) B Z)
  have X_BadRange := fun base => (show XmT P w K mg base "BadRange" 1 1 f_BadRange_init (He.ga K "BadRange") (He.fAd K ("BadRange", some "__init__")) fd_BadRange_init ["self", "letter"] ["BadRange"] from ⟨G_BadRange, oexB_ok (c.fact 135 rfl), (xinB_ok (c.fact 136 rfl)).1, (xinB_ok (c.fact 136 rfl)).2, K_BadRange_init base, N_BadRange_init, by simp⟩)
  have X_TooMany := fun base => (show XmT P w K mg base "TooMany" 2 1 f_TooMany_init (He.ga K "TooMany") (He.fAd K ("TooMany", some "__init__")) fd_TooMany_init ["self", "word", "limit"] ["TooMany"] from ⟨G_TooMany, oexB_ok (c.fact 147 rfl), (xinB_ok (c.fact 148 rfl)).1, (xinB_ok (c.fact 148 rfl)).2, K_TooMany_init base, N_TooMany_init, by simp⟩)
  have N_Menu_is_plan := F_Menu_is_plan.bindsN (ps := ["self", "plan"]) fun _ _ _ _ _ _ us hl => match us, hl with | [_, _], _ => rfl
  have K_Menu_is_plan := fun base => ok_Menu_is_plan (P := P) (w := w) (base := base) (fun_of F_Menu_is_plan) B Z (D_is_whole base)
  have M_is_plan := fun base => (show MethT P w K mg base mt_is_plan "is_plan" 1 2 from ⟨by
    intro x v ht C hC
    rcases lkA ht with ⟨rfl, rfl⟩ | ht
    · have e := G_Menu.symm.trans hC
      cases e
      exact ⟨He.cls_ok (x := "Menu") (c.fact 119 rfl), _, _, _, methB_ok (c.fact 155 rfl), (K_Menu_is_plan base).mono (by decide), N_Menu_is_plan, rfl⟩
    · exact (lkN ht).elim⟩)
  have X_BadSeen := fun base => (show XmT P w K mg base "BadSeen" 1 1 f_BadSeen_init (He.ga K "BadSeen") (He.fAd K ("BadSeen", some "__init__")) fd_BadSeen_init ["self", "place"] ["BadSeen"] from ⟨G_BadSeen, oexB_ok (c.fact 141 rfl), (xinB_ok (c.fact 142 rfl)).1, (xinB_ok (c.fact 142 rfl)).2, K_BadSeen_init base, N_BadSeen_init, by simp⟩)
  have N_Study_init := F_Study_init.bindsN (ps := ["self", "width", "ranges", "seen"]) fun _ _ _ _ _ _ us hl => match us, hl with | [_, _, _, _], _ => rfl
  have K_Study_init := fun base => ok_Study_init (P := P) (w := w) (base := base) (fun_of F_Study_init) B Z (D_compare base) (X_BadRange base) (X_TooMany base) (M_is_plan base) (X_BadSeen base)
  have C_Study := fun base => (show MkT P w K mg base "Study" 3 3 f_Study_init (He.ga K "Study") (He.fAd K ("Study", some "__init__")) fd_Study_init ["self", "width", "ranges", "seen"] ci_Study from ⟨G_Study, mkB_ok (c.fact 159 rfl), K_Study_init base, N_Study_init, by decide +kernel⟩)
  have N_Study_free := F_Study_free.binds (ps := ["width"]) fun _ _ _ _ _ _ us hl => match us, hl with | [_], _ => rfl
  have K_Study_free := fun base => ok_Study_free (P := P) (w := w) (base := base) F_Study_free B Z (C_Study base)
  have N_Study_with_seen := F_Study_with_seen.bindsN (ps := ["self", "task", "plan"]) fun _ _ _ _ _ _ us hl => match us, hl with | [_, _, _], _ => rfl
  have K_Study_with_seen := fun base => ok_Study_with_seen (P := P) (w := w) (base := base) (fun_of F_Study_with_seen) B Z (C_Study base)
  have N_Study_without_seen := F_Study_without_seen.bindsN (ps := ["self", "place"]) fun _ _ _ _ _ _ us hl => match us, hl with | [_, _], _ => rfl
  have K_Study_without_seen := fun base => ok_Study_without_seen (P := P) (w := w) (base := base) (fun_of F_Study_without_seen) B Z (C_Study base)
  have N_Study_with_range := F_Study_with_range.bindsN (ps := ["self", "letter", "low", "high"]) fun _ _ _ _ _ _ us hl => match us, hl with | [_, _, _, _], _ => rfl
  have K_Study_with_range := fun base => ok_Study_with_range (P := P) (w := w) (base := base) (fun_of F_Study_with_range) B Z (C_Study base)
  have N_Task_init := F_Task_init.bindsN (ps := ["self", "width"]) fun _ _ _ _ _ _ us hl => match us, hl with | [_, _], _ => rfl
  have K_Task_init := fun base => ok_Task_init (P := P) (w := w) (base := base) (fun_of F_Task_init) B Z
  have N_Menu_init := F_Menu_init.bindsN (ps := ["self", "width", "usages"]) fun _ _ _ _ _ _ _ us hl => match us, hl with | [_, _, _], _ => rfl
  have K_Menu_init := fun base => ok_Menu_init (P := P) (w := w) (base := base) F_Menu_init hP B Z (K_Task_init base) N_Task_init
  have D_ulaw_mix := fun base => df_mk (P := P) (w := w) (base := base) (st := s_ulaw_mix) X G F_ulaw_mix (c.fact 2 (f := (He.Fa.glo "_law_mix").ok) rfl) (F_ulaw_mix.bindsN (ps := ["cell", "k"]) fun _ _ _ _ _ _ us hl => match us, hl with | [_, _], _ => rfl) (ok_ulaw_mix (fun_of F_ulaw_mix) B Z)
  have D_ulaw_row := fun base => df_mk (P := P) (w := w) (base := base) (st := s_ulaw_row) X G F_ulaw_row (c.fact 3 (f := (He.Fa.glo "_law_row").ok) rfl) (F_ulaw_row.bindsN (ps := ["script", "at", "many"]) fun _ _ _ _ _ _ us hl => match us, hl with | [_, _, _], _ => rfl) (ok_ulaw_row (fun_of F_ulaw_row) B Z (D_ulaw_mix base))
  have D_ulaw_is_whole := fun base => df_mk (P := P) (w := w) (base := base) (st := s_ulaw_is_whole) X G F_ulaw_is_whole (c.fact 4 (f := (He.Fa.glo "_law_is_whole").ok) rfl) (F_ulaw_is_whole.bindsN (ps := ["value"]) fun _ _ _ _ _ _ us hl => match us, hl with | [_], _ => rfl) (ok_ulaw_is_whole (fun_of F_ulaw_is_whole) B Z)
  have D_ulaw_is_tuple := fun base => df_mk (P := P) (w := w) (base := base) (st := s_ulaw_is_tuple) X G F_ulaw_is_tuple (c.fact 5 (f := (He.Fa.glo "_law_is_tuple").ok) rfl) (F_ulaw_is_tuple.bindsN (ps := ["value", "size"]) fun _ _ _ _ _ _ us hl => match us, hl with | [_, _], _ => rfl) (ok_ulaw_is_tuple (fun_of F_ulaw_is_tuple) B Z (D_ulaw_is_whole base))
  have D_ulaw_common := fun base => df_mk (P := P) (w := w) (base := base) (st := s_ulaw_common) X G F_ulaw_common (c.fact 6 (f := (He.Fa.glo "_law_common").ok) rfl) (F_ulaw_common.bindsN (ps := ["left", "right"]) fun _ _ _ _ _ _ us hl => match us, hl with | [_, _], _ => rfl) (ok_ulaw_common (fun_of F_ulaw_common) B Z)
  have D_ulaw_lowest := fun base => df_mk (P := P) (w := w) (base := base) (st := s_ulaw_lowest) X G F_ulaw_lowest (c.fact 7 (f := (He.Fa.glo "_law_lowest").ok) rfl) (F_ulaw_lowest.bindsN (ps := ["num", "den"]) fun _ _ _ _ _ _ us hl => match us, hl with | [_, _], _ => rfl) (ok_ulaw_lowest (fun_of F_ulaw_lowest) B Z (D_ulaw_common base))
  have D_ulaw_bound := fun base => df_mk (P := P) (w := w) (base := base) (st := s_ulaw_bound) X G F_ulaw_bound (c.fact 8 (f := (He.Fa.glo "_law_bound").ok) rfl) (F_ulaw_bound.bindsN (ps := ["first", "second"]) fun _ _ _ _ _ _ us hl => match us, hl with | [_, _], _ => rfl) (ok_ulaw_bound (fun_of F_ulaw_bound) B Z (D_ulaw_lowest base))
  have D_ulaw_range := fun base => df_mk (P := P) (w := w) (base := base) (st := s_ulaw_range) X G F_ulaw_range (c.fact 9 (f := (He.Fa.glo "_law_range").ok) rfl) (F_ulaw_range.bindsN (ps := ["cells"]) fun _ _ _ _ _ _ us hl => match us, hl with | [_], _ => rfl) (ok_ulaw_range (fun_of F_ulaw_range) B Z (D_ulaw_bound base))
  have D_ulaw_crossed := fun base => df_mk (P := P) (w := w) (base := base) (st := s_ulaw_crossed) X G F_ulaw_crossed (c.fact 10 (f := (He.Fa.glo "_law_crossed").ok) rfl) (F_ulaw_crossed.bindsN (ps := ["cells"]) fun _ _ _ _ _ _ us hl => match us, hl with | [_], _ => rfl) (ok_ulaw_crossed (fun_of F_ulaw_crossed) B Z (D_ulaw_bound base) (D_ulaw_lowest base))
  have D_ulaw_usages := fun base => df_mk (P := P) (w := w) (base := base) (st := s_ulaw_usages) X G F_ulaw_usages (c.fact 11 (f := (He.Fa.glo "_law_usages").ok) rfl) (F_ulaw_usages.bindsN (ps := ["cells", "width"]) fun _ _ _ _ _ _ us hl => match us, hl with | [_, _], _ => rfl) (ok_ulaw_usages (fun_of F_ulaw_usages) B Z)
  have D_ulaw_is_bound := fun base => df_mk (P := P) (w := w) (base := base) (st := s_ulaw_is_bound) X G F_ulaw_is_bound (c.fact 12 (f := (He.Fa.glo "_law_is_bound").ok) rfl) (F_ulaw_is_bound.bindsN (ps := ["told", "due"]) fun _ _ _ _ _ _ us hl => match us, hl with | [_, _], _ => rfl) (ok_ulaw_is_bound (fun_of F_ulaw_is_bound) B Z (D_ulaw_is_tuple base))
  have D_ulaw_is_study := fun base => df_mk (P := P) (w := w) (base := base) (st := s_ulaw_is_study) X G F_ulaw_is_study (c.fact 13 (f := (He.Fa.glo "_law_is_study").ok) rfl) (F_ulaw_is_study.bindsN (ps := ["study", "ranges", "seen"]) fun _ _ _ _ _ _ us hl => match us, hl with | [_, _, _], _ => rfl) (ok_ulaw_is_study (fun_of F_ulaw_is_study) B Z (D_ulaw_is_whole base) (D_ulaw_is_bound base))
  have C_Menu := fun base => (show MkT P w K mg base "Menu" 2 2 f_Menu_init (He.ga K "Menu") (He.fAd K ("Menu", some "__init__")) fd_Menu_init ["self", "width", "usages"] ci_Menu from ⟨G_Menu, mkB_ok (c.fact 160 rfl), K_Menu_init base, N_Menu_init, by decide +kernel⟩)
  have D_ulaw_pairs := fun base => df_mk (P := P) (w := w) (base := base) (st := s_ulaw_pairs) X G F_ulaw_pairs (c.fact 14 (f := (He.Fa.glo "_law_pairs").ok) rfl) (F_ulaw_pairs.bindsN (ps := ["seen", "width"]) fun _ _ _ _ _ _ us hl => match us, hl with | [_, _], _ => rfl) (ok_ulaw_pairs (fun_of F_ulaw_pairs) B Z (C_Menu base))
  have M_with_seen := fun base => (show MethT P w K mg base mt_with_seen "with_seen" 2 5 from ⟨by
    intro x v ht C hC
    rcases lkA ht with ⟨rfl, rfl⟩ | ht
    · have e := G_Study.symm.trans hC
      cases e
      exact ⟨He.cls_ok (x := "Study") (c.fact 120 rfl), _, _, _, methB_ok (c.fact 156 rfl), (K_Study_with_seen base).mono (by decide), N_Study_with_seen, rfl⟩
    · exact (lkN ht).elim⟩)
  have M_without_seen := fun base => (show MethT P w K mg base mt_without_seen "without_seen" 1 5 from ⟨by
    intro x v ht C hC
    rcases lkA ht with ⟨rfl, rfl⟩ | ht
    · have e := G_Study.symm.trans hC
      cases e
      exact ⟨He.cls_ok (x := "Study") (c.fact 120 rfl), _, _, _, methB_ok (c.fact 157 rfl), (K_Study_without_seen base).mono (by decide), N_Study_without_seen, rfl⟩
    · exact (lkN ht).elim⟩)
  have M_with_range := fun base => (show MethT P w K mg base mt_with_range "with_range" 3 5 from ⟨by
    intro x v ht C hC
    rcases lkA ht with ⟨rfl, rfl⟩ | ht
    · have e := G_Study.symm.trans hC
      cases e
      exact ⟨He.cls_ok (x := "Study") (c.fact 120 rfl), _, _, _, methB_ok (c.fact 158 rfl), (K_Study_with_range base).mono (by decide), N_Study_with_range, rfl⟩
    · exact (lkN ht).elim⟩)
  have D_ulaw_fault := fun base => df_mk (P := P) (w := w) (base := base) (st := s_ulaw_fault) X G F_ulaw_fault (c.fact 15 (f := (He.Fa.glo "_law_fault").ok) rfl) (F_ulaw_fault.bindsN (ps := ["way", "study", "first", "second", "third"]) fun _ _ _ _ _ _ us hl => match us, hl with | [_, _, _, _, _], _ => rfl) (ok_ulaw_fault (fun_of F_ulaw_fault) B Z (C_Study base) (M_with_seen base) (M_without_seen base) (M_with_range base))
  have D_ulaw_is_fault := fun base => df_mk (P := P) (w := w) (base := base) (st := s_ulaw_is_fault) X G F_ulaw_is_fault (c.fact 16 (f := (He.Fa.glo "_law_is_fault").ok) rfl) (F_ulaw_is_fault.bindsN (ps := ["told", "due"]) fun _ _ _ _ _ _ us hl => match us, hl with | [_, _], _ => rfl) (ok_ulaw_is_fault (fun_of F_ulaw_is_fault) B Z (D_ulaw_is_whole base))
  have D_ulaw_spoilt := fun base => df_mk (P := P) (w := w) (base := base) (st := s_ulaw_spoilt) X G F_ulaw_spoilt (c.fact 17 (f := (He.Fa.glo "_law_spoilt").ok) rfl) (F_ulaw_spoilt.bindsN (ps := ["pair", "width", "cell"]) fun _ _ _ _ _ _ us hl => match us, hl with | [_, _, _], _ => rfl) (ok_ulaw_spoilt (fun_of F_ulaw_spoilt) B Z (C_Menu base))
  have D_ulaw_refuses := fun base => df_mk (P := P) (w := w) (base := base) (st := s_ulaw_refuses) X G F_ulaw_refuses (c.fact 18 (f := (He.Fa.glo "_law_refuses").ok) rfl) (F_ulaw_refuses.bindsN (ps := ["mask", "ranges", "seen", "spare", "cells"]) fun _ _ _ _ _ _ us hl => match us, hl with | [_, _, _, _, _], _ => rfl) (ok_ulaw_refuses (fun_of F_ulaw_refuses) B Z (D_ulaw_pairs base) (D_ulaw_spoilt base) (D_ulaw_crossed base) (D_ulaw_fault base) (D_ulaw_is_fault base))
  have D_ulaw_further := fun base => df_mk (P := P) (w := w) (base := base) (st := s_ulaw_further) X G F_ulaw_further (c.fact 19 (f := (He.Fa.glo "_law_further").ok) rfl) (F_ulaw_further.bindsN (ps := ["study", "ranges", "seen", "spare", "cells"]) fun _ _ _ _ _ _ us hl => match us, hl with | [_, _, _, _, _], _ => rfl) (ok_ulaw_further (fun_of F_ulaw_further) B Z (D_ulaw_range base) (D_ulaw_crossed base) (M_with_range base) (D_ulaw_is_study base) (C_Menu base) (M_with_seen base) (D_ulaw_spoilt base) (D_ulaw_fault base) (D_ulaw_is_fault base) (M_without_seen base))
  have T_Study_free := fun base => (show StatT P w K mg base "Study" "free" 5 (stAd K "Study" "free") fd_Study_free ["width"] f_Study_free from ⟨statB_ok G_Study (c.fact 154 rfl), K_Study_free base, F_Study_free.kp, N_Study_free⟩)
  exact ⟨fd_law, fun s v => FunD.bindsA (ps := ["script"]) F_law (fun _ _ _ _ _ _ us hl => match us, hl with | [_], _ => rfl) s [v] rfl, fun base _ _ => law_ok (ok_law (fun_of F_law) B Z (D_ulaw_row base) (D_ulaw_range base) (D_ulaw_usages base) (D_ulaw_pairs base) (C_Study base) (C_Menu base) (T_Study_free base) (D_ulaw_is_study base) (D_ulaw_further base) (D_ulaw_refuses base) (D_ulaw_fault base) (D_ulaw_is_fault base)) hlaw⟩
end W_k12

open PySem PySem.W PySem.Calls PyProof.Rows
set_option maxRecDepth 100000 in
set_option maxHeartbeats 0 in
theorem PySem.Challenge.cw_costsexplained_k12_studies_refuse_in_ord_holds : PySem.Challenge.rw_costsexplained_k12_studies_refuse_in_ord.Holds := by
  w_on; o_law
  refine HandSHeadRun.head_any (r := OpenLaw.row PySem.Challenge.rw_costsexplained_k12_studies_refuse_in_ord) (q := W_k12.qv) (H := W_k12.hk) (ob := W_k12.ob) (M := 100000) (loose := W_k12.loose) (d := HandSHeadRun.topDef (OpenLaw.row PySem.Challenge.rw_costsexplained_k12_studies_refuse_in_ord).prog 45) (kwd := []) W_k12.ob_eq
    (by kernel_rfl) (fun s => by kernel_rfl) W_k12.run (by kernel_rfl) (by kernel_rfl) (by kernel_rfl) (by rfl) (by first | assumption | decide +kernel) (by decide +kernel) ⟨rfl, rfl, rfl, rfl, rfl, by decide +kernel⟩ ?hw ?hc
  case hw => w_witness2
  case hc =>
    refine L2.walk_ofE (l := PySem.Challenge.rw_costsexplained_k12_studies_refuse_in_ord) (n := 63) (k := 8) (x := "script") (CX := L2.CX0) rfl (by decide) (by kernel_rfl) ⟨rfl, by decide, by decide⟩ ?F (fun _ _ _ _ z => z)
    intro w mg fa h Y G hmg0
    obtain ⟨K, KX, c⟩ := Y
    have hmg : mg ("law" : PySem.Str) = some (.ref fa) := by
      have e : (HandSHeadRun.topDef (OpenLaw.row PySem.Challenge.rw_costsexplained_k12_studies_refuse_in_ord).prog 45).name = ("law" : PySem.Str) := by kernel_rfl
      rw [← e]
      exact hmg0
    obtain ⟨fd, hb, hF⟩ := W_k12.facts M_k12.law_true (P := (PySem.Challenge.rw_costsexplained_k12_studies_refuse_in_ord).prog) (w := w) ⟨by kernel_rfl, by kernel_rfl⟩ KX G hmg c
    exact ⟨K, fd, PF.spLaw K, KX, hb, fun H a ns hl _ hS => ⟨a, ns, rfl, hS, hl, fun _ => rfl⟩, hF⟩
