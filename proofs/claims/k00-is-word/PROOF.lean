import PyProof.Rows.All
import Wide.All
import OpenK.AllK
import Wide.FinOn
import HandS.ForMost
import HandS.Exc
import HandS.TryOnly
import HandS.WordsExc
import HandS.HeadHook1
import HandS.HeadHook2
import HandS.HeadEnd
import HandS.Head2
import HandS.IsInst
import HandS.ToBytes
import HandS.Deep
import PySem.Challenge.RW_pinnedasks_k00_is_word
set_option Elab.async false
set_option linter.all false
set_option maxRecDepth 100000
set_option maxHeartbeats 4000000
/-! Pd1: plain data, what stands for it on the heap, environments, readings -/
namespace Pd
open PySem PySem.Spec L2

/-! ### data -/
inductive D where
  | non | bl (b : Bool) | int (i : Int) | str (s : Str)
  | lst (xs : List D) | tup (xs : List D)
  | dk (kvs : List (Key × D)) | dt (kvs : List (List Key × D))
  | ins (c : Str) (fs : List (Str × D))
  | scr (ns : List Int)

/-- a mutable object with one owner -/
inductive Cell where
  | lst (xs : List D) | dk (kvs : List (Key × D)) | dt (kvs : List (List Key × D)) | ins (c : Str) (fs : List (Str × D))
def Cell.d : Cell → D
  | .lst xs => .lst xs
  | .dk kvs => .dk kvs
  | .dt kvs => .dt kvs
  | .ins c fs => .ins c fs

theorem Rd.mono {H H' : Hp} (s : Same H H') {a : Addr} {u : HO} (r : Rd H a u) : Rd H' a u := by
  rcases r with r | ⟨o, r⟩
  · exact .inl (s _ _ r)
  · exact .inr ⟨o, s _ _ r⟩

section
variable (ca : PySem.W.Frag)
inductive Rep (H : Hp) : V → D → Prop
  | non : Rep H .non .non
  | bl (b : Bool) : Rep H (.bl b) (.bl b)
  | int (i : Int) : Rep H (.int i) (.int i)
  | str (s : Str) : Rep H (.str s) (.str s)
  | lst {a : Addr} {vs : List V} {ds : List D} (r : H a = some (.lst vs)) (l : vs.length = ds.length) (e : ∀ (i : Nat) v d, vs[i]? = some v → ds[i]? = some d → Rep H v d) : Rep H (.ref a) (.lst ds)
  | tup {a : Addr} {vs : List V} {ds : List D} (r : H a = some (.tup vs)) (l : vs.length = ds.length) (e : ∀ (i : Nat) v d, vs[i]? = some v → ds[i]? = some d → Rep H v d) : Rep H (.ref a) (.tup ds)
  | dk {a : Addr} {vs : List (Key × V)} {ds : List (Key × D)} (r : Rd H a (.dK vs)) (l : vs.map (·.1) = ds.map (·.1)) (e : ∀ (i : Nat) (v : Key × V) (d : Key × D), vs[i]? = some v → ds[i]? = some d → Rep H v.2 d.2) : Rep H (.ref a) (.dk ds)
  | dt {a : Addr} {vs : List (List Key × V)} {ds : List (List Key × D)} (r : Rd H a (.dT vs)) (l : vs.map (·.1) = ds.map (·.1)) (e : ∀ (i : Nat) (v : List Key × V) (d : List Key × D), vs[i]? = some v → ds[i]? = some d → Rep H v.2 d.2) : Rep H (.ref a) (.dt ds)
  | ins {a : Addr} {c : Str} {dx : Addr} {vs : List (Str × V)} {ds : List (Str × D)} (r : H a = some (.ins (He.ga ca c) dx vs)) (l : vs.map (·.1) = ds.map (·.1)) (e : ∀ (i : Nat) (v : Str × V) (d : Str × D), vs[i]? = some v → ds[i]? = some d → Rep H v.2 d.2) : Rep H (.ref a) (.ins c ds)
  | scr {a : Addr} {ns : List Int} (r : SqL ca H a (ns.map V.int)) : Rep H (.ref a) (.scr ns)

/-- items, entries one by one -/
structure Reps (H : Hp) (vs : List V) (ds : List D) : Prop where
  len : vs.length = ds.length
  at_ : ∀ (i : Nat) v d, vs[i]? = some v → ds[i]? = some d → Rep ca H v d
structure RepK {κ : Type} (H : Hp) (vs : List (κ × V)) (ds : List (κ × D)) : Prop where
  keys : vs.map (·.1) = ds.map (·.1)
  at_ : ∀ (i : Nat) (v : κ × V) (d : κ × D), vs[i]? = some v → ds[i]? = some d → Rep ca H v.2 d.2
end

section
variable {ca : PySem.W.Frag} {H H' : Hp} {v : V} {d : D}
theorem Rep.mono (s : Same H H') (r : Rep ca H v d) : Rep ca H' v d := by
  induction r with
  | non => exact .non
  | bl b => exact .bl b
  | int b => exact .int b
  | str b => exact .str b
  | lst r l e ih => exact .lst (s _ _ r) l ih
  | tup r l e ih => exact .tup (s _ _ r) l ih
  | dk r l e ih => exact .dk (Rd.mono s r) l ih
  | dt r l e ih => exact .dt (Rd.mono s r) l ih
  | ins r l e ih => exact .ins (s _ _ r) l ih
  | scr r => exact .scr (s.seq r)
theorem Reps.mono {vs : List V} {ds : List D} (s : Same H H') (r : Reps ca H vs ds) : Reps ca H' vs ds := ⟨r.len, fun i v d h1 h2 => (r.at_ i v d h1 h2).mono s⟩
theorem RepK.mono {κ : Type} {vs : List (κ × V)} {ds : List (κ × D)} (s : Same H H') (r : RepK ca H vs ds) : RepK ca H' vs ds := ⟨r.keys, fun i v d h1 h2 => (r.at_ i v d h1 h2).mono s⟩
theorem Reps.nil : Reps ca H [] [] := ⟨rfl, fun _ _ _ h => by simp at h⟩
theorem Reps.cons {vs : List V} {ds : List D} (r : Rep ca H v d) (t : Reps ca H vs ds) : Reps ca H (v :: vs) (d :: ds) := by
  refine ⟨by simp [t.len], fun i u e h1 h2 => ?_⟩
  cases i with
  | zero => simp at h1 h2; subst h1; subst h2; exact r
  | succ n => exact t.at_ n u e (by simpa using h1) (by simpa using h2)
theorem Reps.append {vs ws : List V} {ds es : List D} (r : Reps ca H vs ds) (t : Reps ca H ws es) : Reps ca H (vs ++ ws) (ds ++ es) := by
  have hl := r.len
  refine ⟨by simp [hl, t.len], fun i u e h1 h2 => ?_⟩
  by_cases hi : i < vs.length
  · rw [List.getElem?_append_left hi] at h1
    rw [List.getElem?_append_left (by omega)] at h2
    exact r.at_ i u e h1 h2
  · rw [List.getElem?_append_right (by omega)] at h1
    rw [List.getElem?_append_right (by omega), ← hl] at h2
    exact t.at_ _ u e h1 h2
theorem Reps.one (r : Rep ca H v d) : Reps ca H [v] [d] := .cons r .nil
theorem Reps.drop {vs : List V} {ds : List D} (n : Nat) (r : Reps ca H vs ds) : Reps ca H (vs.drop n) (ds.drop n) :=
  ⟨by simp [r.len], fun i u e h1 h2 => r.at_ (n + i) u e (by simpa using h1) (by simpa using h2)⟩
theorem Reps.take {vs : List V} {ds : List D} (n : Nat) (r : Reps ca H vs ds) : Reps ca H (vs.take n) (ds.take n) := by
  refine ⟨by simp [r.len], fun i u e h1 h2 => ?_⟩
  rw [List.getElem?_take] at h1 h2
  split at h1
  · rename_i hi; rw [if_pos hi] at h2; exact r.at_ i u e h1 h2
  · cases h1
theorem Reps.get {vs : List V} {ds : List D} (r : Reps ca H vs ds) {i : Nat} (h : ds[i]? = some d) : ∃ v, vs[i]? = some v ∧ Rep ca H v d := by
  have hi : i < ds.length := (List.getElem?_eq_some_iff.mp h).1
  have hi' : i < vs.length := by rw [r.len]; exact hi
  exact ⟨vs[i], by simp [hi'], r.at_ i _ d (by simp [hi']) h⟩
theorem Reps.set {vs : List V} {ds : List D} (r : Reps ca H vs ds) (i : Nat) (q : Rep ca H v d) : Reps ca H (vs.set i v) (ds.set i d) := by
  refine ⟨by simp [r.len], fun j u e h1 h2 => ?_⟩
  by_cases hj : i = j
  · subst hj
    have hi : i < vs.length := by
      have := (List.getElem?_eq_some_iff.mp h1).1
      simpa using this
    rw [List.getElem?_set_self hi] at h1
    rw [List.getElem?_set_self (by rw [← r.len]; exact hi)] at h2
    cases h1; cases h2; exact q
  · rw [List.getElem?_set_ne hj] at h1 h2
    exact r.at_ j u e h1 h2
theorem Reps.reverse {vs : List V} {ds : List D} (r : Reps ca H vs ds) : Reps ca H vs.reverse ds.reverse := by
  refine ⟨by simp [r.len], fun i u e h1 h2 => ?_⟩
  have hi : i < vs.reverse.length := (List.getElem?_eq_some_iff.mp h1).1
  simp at hi
  rw [List.getElem?_reverse hi] at h1
  rw [List.getElem?_reverse (by rw [← r.len]; exact hi), ← r.len] at h2
  exact r.at_ _ u e h1 h2
theorem Reps.dropLast {vs : List V} {ds : List D} (r : Reps ca H vs ds) : Reps ca H vs.dropLast ds.dropLast := by
  rw [List.dropLast_eq_take, List.dropLast_eq_take, ← r.len]
  exact r.take _
theorem Reps.ints : ∀ {vs : List V} {ns : List Int}, Reps ca H vs (ns.map D.int) → vs = ns.map V.int
  | [], [], _ => rfl
  | [], _ :: _, r => by have := r.len; simp at this
  | _ :: _, [], r => by have := r.len; simp at this
  | v :: vs, n :: ns, r => by
    have h0 := r.at_ 0 v (D.int n) (by simp) (by simp)
    cases h0
    rw [Reps.ints (vs := vs) (ns := ns) ⟨by have := r.len; simpa using this, fun i u e h1 h2 => r.at_ (i + 1) u e (by simpa using h1) (by simpa using h2)⟩]
    rfl
theorem Reps.strs : ∀ {vs : List V} {ns : List Str}, Reps ca H vs (ns.map D.str) → vs = ns.map V.str
  | [], [], _ => rfl
  | [], _ :: _, r => by have := r.len; simp at this
  | _ :: _, [], r => by have := r.len; simp at this
  | v :: vs, n :: ns, r => by
    have h0 := r.at_ 0 v (D.str n) (by simp) (by simp)
    cases h0
    rw [Reps.strs (vs := vs) (ns := ns) ⟨by have := r.len; simpa using this, fun i u e h1 h2 => r.at_ (i + 1) u e (by simpa using h1) (by simpa using h2)⟩]
    rfl
end

/-! ### environments -/
inductive Slot where
  | sh (d : D) | own (c : Cell) | brw (c : Cell)
def Slot.mut : Slot → Bool
  | .sh _ => false
  | _ => true
def Slot.d : Slot → D
  | .sh d => d
  | .own c => c.d
  | .brw c => c.d
abbrev Env := List (Option Slot)
/-- a value met on the way: frozen data, what stands in a slot, a new object without an owner -/
inductive Val where
  | sh (d : D) | var (i : Nat) | fr (c : Cell)

/-- the entry: its heap, its frozen part, the borrowed objects (by slot), the objects that were one's own -/
structure Bs where
  H0 : Hp
  G0 : Hp
  B : Nat → Option Addr
  O : Addr → Prop

section
variable (ca : PySem.W.Frag)
def CellRel (G H : Hp) (a : Addr) : Cell → Prop
  | .lst ds => ∃ vs, H a = some (.lst vs) ∧ Reps ca G vs ds
  | .dk ds => ∃ vs, H a = some (.dK vs) ∧ RepK ca G vs ds
  | .dt ds => ∃ vs, H a = some (.dT vs) ∧ RepK ca G vs ds
  | .ins c ds => ∃ dx vs, H a = some (.ins (He.ga ca c) dx vs) ∧ RepK ca G vs ds
def SlotRel (b : Bs) (i : Nat) (G H : Hp) (v : V) : Slot → Prop
  | .sh d => Rep ca G v d
  | .own c => ∃ a, v = .ref a ∧ CellRel ca G H a c ∧ G a = none ∧ (b.O a ∨ b.H0 a = none)
  | .brw c => ∃ a, v = .ref a ∧ CellRel ca G H a c ∧ G a = none ∧ b.B i = some a
structure Rel (b : Bs) (env : Env) (σ : St) (G H : Hp) : Prop where
  sub : Same G H
  g0 : Same b.G0 G
  fr : ∀ a o, b.H0 a = some o → (∀ i, b.B i ≠ some a) → ¬ b.O a → H a = some o
  dom : ∀ a, H a = none → b.H0 a = none
  new : ∀ a o, G a = some o → b.G0 a = some o ∨ b.H0 a = none ∨ b.O a
  len : env.length = σ.length
  slots : ∀ (i : Nat) (s : Slot), env[i]? = some (some s) → ∃ v, σ[i]? = some (some v) ∧ SlotRel ca b i G H v s
  apart : ∀ (i j : Nat) (s t : Slot) (a : Addr), i ≠ j → env[i]? = some (some s) → env[j]? = some (some t) → s.mut = true → t.mut = true → σ[i]? = some (some (.ref a)) → σ[j]? = some (some (.ref a)) → False
def VRel (b : Bs) (env : Env) (σ : St) (G H : Hp) (u : V) : Val → Prop
  | .sh d => Rep ca G u d
  | .var i => σ[i]? = some (some u) ∧ ∃ s, env[i]? = some (some s)
  | .fr c => ∃ a, u = .ref a ∧ CellRel ca G H a c ∧ G a = none ∧ (b.O a ∨ b.H0 a = none) ∧ ∀ (j : Nat) (s : Slot), env[j]? = some (some s) → s.mut = true → σ[j]? ≠ some (some (.ref a))
/-- what a value is when it is only looked at: its outermost object may still have an owner -/
def Peek (G H : Hp) (u : V) : D → Prop
  | .lst ds => ∃ a vs, u = .ref a ∧ H a = some (.lst vs) ∧ Reps ca G vs ds
  | .dk ds => ∃ a vs, u = .ref a ∧ Rd H a (.dK vs) ∧ RepK ca G vs ds
  | .dt ds => ∃ a vs, u = .ref a ∧ Rd H a (.dT vs) ∧ RepK ca G vs ds
  | .ins c ds => ∃ a dx vs, u = .ref a ∧ H a = some (.ins (He.ga ca c) dx vs) ∧ RepK ca G vs ds
  | .tup ds => ∃ a vs, u = .ref a ∧ G a = some (.tup vs) ∧ Reps ca G vs ds
  | d => Rep ca G u d
end

section
variable {ca : PySem.W.Frag} {b : Bs} {env : Env} {σ : St} {G G' H H' : Hp} {u v : V} {d : D} {c : Cell} {a : Addr}
theorem CellRel.mono (s : Same G G') (h : CellRel ca G H a c) : CellRel ca G' H a c := by
  cases c with
  | lst ds => obtain ⟨vs, e, r⟩ := h; exact ⟨vs, e, r.mono s⟩
  | dk ds => obtain ⟨vs, e, r⟩ := h; exact ⟨vs, e, r.mono s⟩
  | dt ds => obtain ⟨vs, e, r⟩ := h; exact ⟨vs, e, r.mono s⟩
  | ins c ds => obtain ⟨dx, vs, e, r⟩ := h; exact ⟨dx, vs, e, r.mono s⟩
theorem CellRel.heap (s : ∀ o, H a = some o → H' a = some o) (h : CellRel ca G H a c) : CellRel ca G H' a c := by
  cases c with
  | lst ds => obtain ⟨vs, e, r⟩ := h; exact ⟨vs, s _ e, r⟩
  | dk ds => obtain ⟨vs, e, r⟩ := h; exact ⟨vs, s _ e, r⟩
  | dt ds => obtain ⟨vs, e, r⟩ := h; exact ⟨vs, s _ e, r⟩
  | ins c ds => obtain ⟨dx, vs, e, r⟩ := h; exact ⟨dx, vs, s _ e, r⟩
theorem CellRel.there (h : CellRel ca G H a c) : ∃ o, H a = some o := by
  cases c with
  | lst ds => obtain ⟨vs, e, r⟩ := h; exact ⟨_, e⟩
  | dk ds => obtain ⟨vs, e, r⟩ := h; exact ⟨_, e⟩
  | dt ds => obtain ⟨vs, e, r⟩ := h; exact ⟨_, e⟩
  | ins c ds => obtain ⟨dx, vs, e, r⟩ := h; exact ⟨_, e⟩
/-- a cell that is frozen -/
theorem CellRel.rep (s : Same G G') (e : ∀ o, H a = some o → G' a = some o) (h : CellRel ca G H a c) : Rep ca G' (.ref a) c.d := by
  cases c with
  | lst ds => obtain ⟨vs, q, r⟩ := h; exact .lst (e _ q) r.len (r.mono s).at_
  | dk ds => obtain ⟨vs, q, r⟩ := h; exact .dk (.inl (e _ q)) r.keys (r.mono s).at_
  | dt ds => obtain ⟨vs, q, r⟩ := h; exact .dt (.inl (e _ q)) r.keys (r.mono s).at_
  | ins c ds => obtain ⟨dx, vs, q, r⟩ := h; exact .ins (e _ q) r.keys (r.mono s).at_
theorem CellRel.peek (h : CellRel ca G H a c) : Peek ca G H (.ref a) c.d := by
  cases c with
  | lst ds => obtain ⟨vs, q, r⟩ := h; exact ⟨a, vs, rfl, q, r⟩
  | dk ds => obtain ⟨vs, q, r⟩ := h; exact ⟨a, vs, rfl, .inl q, r⟩
  | dt ds => obtain ⟨vs, q, r⟩ := h; exact ⟨a, vs, rfl, .inl q, r⟩
  | ins c ds => obtain ⟨dx, vs, q, r⟩ := h; exact ⟨a, dx, vs, rfl, q, r⟩
theorem Rep.peek (s : Same G H) (h : Rep ca G u d) : Peek ca G H u d := by
  cases h with
  | non => exact .non
  | bl x => exact .bl x
  | int x => exact .int x
  | str x => exact .str x
  | lst r l e => exact ⟨_, _, rfl, s _ _ r, l, e⟩
  | tup r l e => exact ⟨_, _, rfl, r, l, e⟩
  | dk r l e => exact ⟨_, _, rfl, Rd.mono s r, l, e⟩
  | dt r l e => exact ⟨_, _, rfl, Rd.mono s r, l, e⟩
  | ins r l e => exact ⟨_, _, _, rfl, s _ _ r, l, e⟩
  | scr r => exact .scr r
theorem Peek.mono (s : Same G G') (t : Same H H') (h : Peek ca G H u d) : Peek ca G' H' u d := by
  cases d with
  | lst ds => obtain ⟨a, vs, e, r, q⟩ := h; exact ⟨a, vs, e, t _ _ r, q.mono s⟩
  | tup ds => obtain ⟨a, vs, e, r, q⟩ := h; exact ⟨a, vs, e, s _ _ r, q.mono s⟩
  | dk ds => obtain ⟨a, vs, e, r, q⟩ := h; exact ⟨a, vs, e, Rd.mono t r, q.mono s⟩
  | dt ds => obtain ⟨a, vs, e, r, q⟩ := h; exact ⟨a, vs, e, Rd.mono t r, q.mono s⟩
  | ins c ds => obtain ⟨a, dx, vs, e, r, q⟩ := h; exact ⟨a, dx, vs, e, t _ _ r, q.mono s⟩
  | non => exact Rep.mono s h
  | bl x => exact Rep.mono s h
  | int x => exact Rep.mono s h
  | str x => exact Rep.mono s h
  | scr x => exact Rep.mono s h
/-- data that is looked at, over the whole heap -/
theorem Peek.rep (s : Same G H) (h : Peek ca G H u d) : Rep ca H u d := by
  cases d with
  | lst ds => obtain ⟨a, vs, rfl, r, q⟩ := h; exact .lst r q.len (q.mono s).at_
  | tup ds => obtain ⟨a, vs, rfl, r, q⟩ := h; exact .tup (s _ _ r) q.len (q.mono s).at_
  | dk ds => obtain ⟨a, vs, rfl, r, q⟩ := h; exact .dk r q.keys (q.mono s).at_
  | dt ds => obtain ⟨a, vs, rfl, r, q⟩ := h; exact .dt r q.keys (q.mono s).at_
  | ins c ds => obtain ⟨a, dx, vs, rfl, r, q⟩ := h; exact .ins r q.keys (q.mono s).at_
  | non => exact Rep.mono s h
  | bl x => exact Rep.mono s h
  | int x => exact Rep.mono s h
  | str x => exact Rep.mono s h
  | scr x => exact Rep.mono s h

theorem SlotRel.there {i : Nat} {s : Slot} (h : SlotRel ca b i G H v s) (m : s.mut = true) : ∃ a, v = .ref a ∧ G a = none ∧ ∃ o, H a = some o := by
  cases s with
  | sh d => cases m
  | own c => obtain ⟨a, e, r, n, _⟩ := h; exact ⟨a, e, n, r.there⟩
  | brw c => obtain ⟨a, e, r, n, _⟩ := h; exact ⟨a, e, n, r.there⟩
/-- the heap grows by one new object: it may be frozen or not -/
theorem Rel.grow (R : Rel ca b env σ G H) {p : Addr} {o : HO} (n : H p = none) : Rel ca b env σ G (upd H p o) where
  sub := fun a q e => by rw [upd_ne (ne_of_none (R.sub _ _ e) n)]; exact R.sub _ _ e
  g0 := R.g0
  fr := fun a q e h1 h2 => by
    have z := R.fr a q e h1 h2
    rw [upd_ne (ne_of_none z n)]; exact z
  dom := fun a e => by
    by_cases h : a = p
    · subst h; rw [upd_same] at e; cases e
    · rw [upd_ne h] at e; exact R.dom a e
  new := R.new
  len := R.len
  slots := fun i s e => by
    obtain ⟨v, e1, r⟩ := R.slots i s e
    refine ⟨v, e1, ?_⟩
    have up : ∀ a, (∃ o, H a = some o) → ∀ q, H a = some q → upd H p o a = some q := fun a _ q e => by rw [upd_ne (ne_of_none e n)]; exact e
    cases s with
    | sh d => exact r
    | own c => obtain ⟨a, e, r, m, z⟩ := r; exact ⟨a, e, r.heap (up a r.there), m, z⟩
    | brw c => obtain ⟨a, e, r, m, z⟩ := r; exact ⟨a, e, r.heap (up a r.there), m, z⟩
  apart := R.apart
/-- a new object becomes frozen -/
theorem Rel.freeze (R : Rel ca b env σ G H) {p : Addr} {o : HO} (e : H p = some o) (n : G p = none) (nw : b.O p ∨ b.H0 p = none) (ap : ∀ (j : Nat) (s : Slot), env[j]? = some (some s) → s.mut = true → σ[j]? ≠ some (some (.ref p))) :
    Rel ca b env σ (upd G p o) H ∧ Same G (upd G p o) := by
  have sg : Same G (upd G p o) := fun a q z => by rw [upd_ne (ne_of_none z n)]; exact z
  refine ⟨⟨fun a q z => ?_, R.g0.trans sg, R.fr, R.dom, fun a q z => ?_, R.len, fun i s es => ?_, R.apart⟩, sg⟩
  · by_cases h : a = p
    · subst h; rw [upd_same] at z; cases z; exact e
    · rw [upd_ne h] at z; exact R.sub _ _ z
  · by_cases h : a = p
    · subst h
      rcases nw with q | q
      · exact .inr (.inr q)
      · exact .inr (.inl q)
    · rw [upd_ne h] at z; exact R.new _ _ z
  · obtain ⟨v, e1, r⟩ := R.slots i s es
    refine ⟨v, e1, ?_⟩
    cases s with
    | sh d => exact Rep.mono sg r
    | own c =>
      obtain ⟨a, ev, r, m, z⟩ := r
      subst ev
      have hp : a ≠ p := fun q => ap i _ es rfl (by rw [e1, q])
      exact ⟨a, rfl, r.mono sg, by rw [upd_ne hp]; exact m, z⟩
    | brw c =>
      obtain ⟨a, ev, r, m, z⟩ := r
      subst ev
      have hp : a ≠ p := fun q => ap i _ es rfl (by rw [e1, q])
      exact ⟨a, rfl, r.mono sg, by rw [upd_ne hp]; exact m, z⟩
/-- a brand new object and frozen -/
theorem Rel.growFz (R : Rel ca b env σ G H) {p : Addr} {o : HO} (n : H p = none) : Rel ca b env σ (upd G p o) (upd H p o) ∧ Same G (upd G p o) := by
  have gn : G p = none := R.sub.free n
  refine (R.grow (o := o) n).freeze upd_same gn (.inr (R.dom p n)) fun j s e m q => ?_
  obtain ⟨v, e1, r⟩ := R.slots j s e
  rw [q] at e1; cases e1
  obtain ⟨a, ea, _, o', h'⟩ := r.there m
  cases ea
  rw [n] at h'; cases h'
theorem Rel.newAddr (R : Rel ca b env σ G H) {p : Addr} (n : H p = none) : G p = none ∧ b.H0 p = none ∧ ∀ (j : Nat) (s : Slot), env[j]? = some (some s) → s.mut = true → σ[j]? ≠ some (some (.ref p)) := by
  refine ⟨R.sub.free n, R.dom p n, fun j s e m q => ?_⟩
  obtain ⟨v, e1, r⟩ := R.slots j s e
  rw [q] at e1; cases e1
  obtain ⟨a, ea, _, o', h'⟩ := r.there m
  cases ea
  rw [n] at h'; cases h'
/-- an unowned new object is frozen where it stands -/
theorem VRel.soft (R : Rel ca b env σ G H) (r : VRel ca b env σ G H u (.fr c)) : ∃ G', Same G G' ∧ Rel ca b env σ G' H ∧ Rep ca G' u c.d := by
  obtain ⟨a, rfl, cr, n, nw, ap⟩ := r
  obtain ⟨o, e⟩ := cr.there
  obtain ⟨R', sg⟩ := R.freeze e n nw ap
  exact ⟨_, sg, R', cr.rep sg fun q e' => by rw [e] at e'; cases e'; exact upd_same⟩
end
end Pd
/-! Pd2: what a piece of code computes (as a function of an environment), its reading -/
namespace Pd
open PySem PySem.Spec L2

structure Exc where
  cls : Str
  fs : List (Str × D)
inductive EO where
  | val (v : Val) (env : Env) | exc (x : Exc) (env : Env)
inductive AO where
  | vals (vs : List Val) (env : Env) | exc (x : Exc) (env : Env)
inductive Arg where
  | sh (d : D) | brw (c : Cell)
inductive RV where
  | sh (d : D) | fr (c : Cell)
def RV.val : RV → Val
  | .sh d => .sh d
  | .fr c => .fr c
inductive CRes where
  | ret (r : RV) (outs : List (Option Cell)) | exc (x : Exc) (outs : List (Option Cell))
/-- what the defs compute, by their names (a class's method: the class, the method) -/
abbrev CT := Str × Option Str → Option (List Arg → Option CRes)
abbrev SE := CT → Env → Option EO
abbrev SA := CT → Env → Option AO
inductive SO where
  | nx (env : Env) | ret (r : RV) (env : Env) | brk (env : Env) | ct (env : Env) | exc (x : Exc) (env : Env)
abbrev SS := CT → Env → Option SO

section
variable (ca : PySem.W.Frag)
def ExcRel (G H : Hp) (cls : Value) (d : Option Addr) (x : Exc) : Prop :=
  cls = .ref (He.ga ca x.cls) ∧ match d with
    | some dd => ∃ vs, H dd = some (.xd vs) ∧ RepK ca G vs x.fs
    | none => x.fs = []
def EPost (b : Bs) (W : WX) (σ : St) (Q : VK) : EO → Prop
  | .val v env' => ∀ u G' H', Rel ca b env' σ G' H' → VRel ca b env' σ G' H' u v → Q u H'
  | .exc x env' => ∀ cls d G' H', Rel ca b env' σ G' H' → ExcRel ca G' H' cls d x → W cls d σ H'
def rdE (c : CT) (W : WX) (f : SE) : TE := fun σ H Q => ∃ b env G o, Rel ca b env σ G H ∧ f c env = some o ∧ EPost ca b W σ Q o
def Held (G : Hp) (σ : St) (u : V) : Val → Prop
  | .sh d => Rep ca G u d
  | .fr cl => Rep ca G u cl.d
  | .var i => σ[i]? = some (some u)
inductive Helds (G : Hp) (σ : St) : List V → List Val → Prop
  | nil : Helds G σ [] []
  | cons {u v us vs} : Held ca G σ u v → Helds G σ us vs → Helds G σ (u :: us) (v :: vs)
def APost (b : Bs) (W : WX) (σ : St) (Q : List V → Hp → Prop) : AO → Prop
  | .vals vs env' => ∀ us G' H', Rel ca b env' σ G' H' → Helds ca G' σ us vs → Q us H'
  | .exc x env' => ∀ cls d G' H', Rel ca b env' σ G' H' → ExcRel ca G' H' cls d x → W cls d σ H'
def rdA (c : CT) (W : WX) (f : SA) : TA := fun σ H Q => ∃ b env G o, Rel ca b env σ G H ∧ f c env = some o ∧ APost ca b W σ Q o
def TPost (b : Bs) (W : WX) (σ : St) (Q : Bool → Hp → Prop) : EO → Prop
  | .val (.sh (.bl k)) env' => ∀ G' H', Rel ca b env' σ G' H' → Q k H'
  | .exc x env' => ∀ cls d G' H', Rel ca b env' σ G' H' → ExcRel ca G' H' cls d x → W cls d σ H'
  | _ => False
/-- the same as a test -/
def rdT (c : CT) (W : WX) (f : SE) : TT := fun σ H Q => ∃ b env G o, Rel ca b env σ G H ∧ f c env = some o ∧ TPost ca b W σ Q o
def RRel (b : Bs) (G H : Hp) (u : V) : RV → Prop
  | .sh d => Rep ca G u d
  | .fr c => ∃ a, u = .ref a ∧ CellRel ca G H a c ∧ G a = none ∧ (b.O a ∨ b.H0 a = none)
def SPost (b : Bs) (W : WX) (Dn : Ends) : SO → Prop
  | .nx env' => ∀ σ' G' H', Rel ca b env' σ' G' H' → Dn.nx σ' H'
  | .ct env' => ∀ σ' G' H', Rel ca b env' σ' G' H' → Dn.ct σ' H'
  | .brk env' => ∀ σ' G' H', Rel ca b env' σ' G' H' → Dn.bk σ' H'
  | .ret r env' => ∀ u σ' G' H', Rel ca b env' σ' G' H' → RRel ca b G' H' u r → Dn.rt u H'
  | .exc x env' => ∀ cls d σ' G' H', Rel ca b env' σ' G' H' → ExcRel ca G' H' cls d x → W cls d σ' H'
def rdS (c : CT) (W : WX) (f : SS) : TS := fun Dn σ H => ∃ b env G o, Rel ca b env σ G H ∧ f c env = some o ∧ SPost ca b W Dn o
end

/-! ### another entry -/
def rb (env : Env) (σ : St) (G H : Hp) : Bs where
  H0 := H
  G0 := G
  B := fun i => match env[i]?, σ[i]? with
    | some (some (.brw _)), some (some (.ref a)) => some a
    | _, _ => none
  O := fun a => ∃ (i : Nat) (c : Cell), env[i]? = some (some (.own c)) ∧ σ[i]? = some (some (.ref a))
section
variable {ca : PySem.W.Frag} {b : Bs} {env env' : Env} {σ σ' : St} {G G' H H' : Hp} {u : V} {v : Val} {d : D} {cl : Cell} {a : Addr}
theorem rb_B {i : Nat} (h : (rb env σ G H).B i = some a) : (∃ c, env[i]? = some (some (.brw c))) ∧ σ[i]? = some (some (.ref a)) := by
  unfold rb at h
  simp only at h
  split at h
  · rename_i h1 h2
    cases h
    exact ⟨⟨_, h1⟩, h2⟩
  · cases h
theorem Rel.rb (R : Rel ca b env σ G H) : Rel ca (rb env σ G H) env σ G H where
  sub := R.sub
  g0 := Same.refl _
  fr := fun a o e _ _ => e
  dom := fun a e => e
  new := fun a o e => .inl e
  len := R.len
  slots := fun i s e => by
    obtain ⟨v, e1, r⟩ := R.slots i s e
    refine ⟨v, e1, ?_⟩
    cases s with
    | sh d => exact r
    | own c =>
      obtain ⟨a, ev, cr, n, z⟩ := r
      subst ev
      exact ⟨a, rfl, cr, n, .inl ⟨i, c, e, e1⟩⟩
    | brw c =>
      obtain ⟨a, ev, cr, n, z⟩ := r
      subst ev
      refine ⟨a, rfl, cr, n, ?_⟩
      unfold Pd.rb
      simp only [e, e1]
  apart := R.apart
theorem Rel.own_at (R : Rel ca b env σ G H) {i : Nat} {c : Cell} (e : env[i]? = some (some (.own c))) (e1 : σ[i]? = some (some (.ref a))) : b.O a ∨ b.H0 a = none := by
  obtain ⟨v, e2, r⟩ := R.slots i _ e
  rw [e1] at e2; cases e2
  obtain ⟨a', ev, cr, n, z⟩ := r
  cases ev
  exact z
theorem Rel.brw_at (R : Rel ca b env σ G H) {i : Nat} {c : Cell} (e : env[i]? = some (some (.brw c))) (e1 : σ[i]? = some (some (.ref a))) : b.B i = some a := by
  obtain ⟨v, e2, r⟩ := R.slots i _ e
  rw [e1] at e2; cases e2
  obtain ⟨a', ev, cr, n, z⟩ := r
  cases ev
  exact z
theorem Rel.own_of (R : Rel ca b env σ G H) (h : (Pd.rb env σ G H).O a ∨ H a = none) : b.O a ∨ b.H0 a = none := by
  rcases h with ⟨i, c, e, e1⟩ | h
  · exact R.own_at e e1
  · exact .inr (R.dom a h)
theorem Rel.unrb (R : Rel ca b env σ G H) (R' : Rel ca (Pd.rb env σ G H) env' σ' G' H') : Rel ca b env' σ' G' H' where
  sub := R'.sub
  g0 := R.g0.trans R'.g0
  fr := fun a o e h1 h2 => by
    have z := R.fr a o e h1 h2
    refine R'.fr a o z (fun i q => ?_) fun ⟨i, c, q1, q2⟩ => ?_
    · obtain ⟨⟨c, q1⟩, q2⟩ := rb_B q
      exact h1 i (R.brw_at q1 q2)
    · rcases R.own_at q1 q2 with w | w
      · exact h2 w
      · rw [w] at e; cases e
  dom := fun a e => R.dom a (R'.dom a e)
  new := fun a o e => by
    rcases R'.new a o e with z | z | z
    · exact R.new a o z
    · exact .inr (.inl (R.dom a z))
    · rcases R.own_of (.inl z) with w | w
      · exact .inr (.inr w)
      · exact .inr (.inl w)
  len := R'.len
  slots := fun i s e => by
    obtain ⟨v, e1, r⟩ := R'.slots i s e
    refine ⟨v, e1, ?_⟩
    cases s with
    | sh d => exact r
    | own c =>
      obtain ⟨a, ev, cr, n, z⟩ := r
      exact ⟨a, ev, cr, n, R.own_of z⟩
    | brw c =>
      obtain ⟨a, ev, cr, n, z⟩ := r
      obtain ⟨⟨c', q1⟩, q2⟩ := rb_B z
      exact ⟨a, ev, cr, n, R.brw_at q1 q2⟩
  apart := R'.apart
theorem VRel.unrb (R : Rel ca b env σ G H) (r : VRel ca (Pd.rb env σ G H) env' σ' G' H' u v) : VRel ca b env' σ' G' H' u v := by
  cases v with
  | sh d => exact r
  | var i => exact r
  | fr c => obtain ⟨a, e, cr, n, z, q⟩ := r; exact ⟨a, e, cr, n, R.own_of z, q⟩
theorem RRel.unrb {r : RV} (R : Rel ca b env σ G H) (h : RRel ca (Pd.rb env σ G H) G' H' u r) : RRel ca b G' H' u r := by
  cases r with
  | sh d => exact h
  | fr c => obtain ⟨a, e, cr, n, z⟩ := h; exact ⟨a, e, cr, n, R.own_of z⟩
/-- what is nobody's stays -/
def Stays (env : Env) (σ : St) (G H G' H' : Hp) : Prop := ∀ a o, H a = some o → (∀ (i : Nat) (s : Slot), env[i]? = some (some s) → s.mut = true → σ[i]? ≠ some (some (.ref a))) → H' a = some o ∧ (G a = none → G' a = none)
theorem Rel.stays (R' : Rel ca (Pd.rb env σ G H) env' σ' G' H') : Stays env σ G H G' H' := fun a o e h => by
  refine ⟨R'.fr a o e (fun i q => ?_) fun ⟨i, c, q1, q2⟩ => h i _ q1 rfl q2, fun n => ?_⟩
  · obtain ⟨⟨c, q1⟩, q2⟩ := rb_B q
    exact h i _ q1 rfl q2
  · cases q : G' a with
    | none => rfl
    | some o' =>
      rcases R'.new a o' q with z | z | ⟨i, c, q1, q2⟩
      · have z : G a = some o' := z
        rw [n] at z; cases z
      · have z : H a = none := z
        rw [e] at z; cases z
      · exact (h i _ q1 rfl q2).elim

theorem Held.mono (s : Same G G') (h : Held ca G σ u v) : Held ca G' σ u v := by
  cases v with
  | sh d => exact Rep.mono s h
  | fr d => exact Rep.mono s h
  | var i => exact h
theorem Helds.mono {us : List V} {vs : List Val} (s : Same G G') (h : Helds ca G σ us vs) : Helds ca G' σ us vs := by
  induction h with
  | nil => exact .nil
  | cons h _ ih => exact .cons (h.mono s) ih
theorem VRel.held (R : Rel ca b env σ G H) (r : VRel ca b env σ G H u v) : ∃ G', Same G G' ∧ Rel ca b env σ G' H ∧ Held ca G' σ u v := by
  cases v with
  | sh d => exact ⟨G, Same.refl _, R, r⟩
  | var i => exact ⟨G, Same.refl _, R, r.1⟩
  | fr c => exact VRel.soft R r
def peek (env : Env) : Val → Option D
  | .sh d => some d
  | .fr c => some c.d
  | .var i => match env[i]? with
    | some (some s) => some s.d
    | _ => none
theorem Held.peek (R : Rel ca b env σ G H) (h : Held ca G σ u v) (e : peek env v = some d) : Peek ca G H u d := by
  cases v with
  | sh d' => cases e; exact Rep.peek R.sub h
  | fr c => cases e; exact Rep.peek R.sub h
  | var i =>
    unfold Pd.peek at e
    simp only at e
    split at e
    · rename_i s hs
      cases e
      obtain ⟨w, e1, r⟩ := R.slots i s hs
      have h : σ[i]? = some (some u) := h
      rw [h] at e1; cases e1
      cases s with
      | sh d => exact Rep.peek R.sub r
      | own c => obtain ⟨a, rfl, cr, _⟩ := r; exact cr.peek
      | brw c => obtain ⟨a, rfl, cr, _⟩ := r; exact cr.peek
    · cases e
/-- the value is given away: from now on it is frozen -/
def take (env : Env) : Val → Option (D × Env)
  | .sh d => some (d, env)
  | .fr c => some (c.d, env)
  | .var i => match env[i]? with
    | some (some (.sh d)) => some (d, env)
    | some (some (.own c)) => some (c.d, env.set i (some (.sh c.d)))
    | _ => none
theorem Rel.setFz (R : Rel ca b env σ G H) {i : Nat} (e : env[i]? = some (some (.own cl))) (h : σ[i]? = some (some u)) : ∃ G', Same G G' ∧ Rel ca b (env.set i (some (.sh cl.d))) σ G' H ∧ Rep ca G' u cl.d := by
  obtain ⟨w, e1, a, ev, cr, n, z⟩ := R.slots i _ e
  rw [h] at e1; cases e1; subst ev
  have hi : i < env.length := (List.getElem?_eq_some_iff.mp e).1
  obtain ⟨o, ho⟩ := cr.there
  have R1 : Rel ca b (env.set i none) σ G H := by
    refine ⟨R.sub, R.g0, R.fr, R.dom, R.new, by simpa using R.len, fun j s es => ?_, fun j k s t x hjk e1 e2 => ?_⟩
    · by_cases hj : i = j
      · subst hj; rw [List.getElem?_set_self hi] at es; cases es
      · rw [List.getElem?_set_ne hj] at es; exact R.slots j s es
    · have f : ∀ {j s}, (env.set i none)[j]? = some (some s) → env[j]? = some (some s) := fun {j s} es => by
        by_cases hj : i = j
        · subst hj; rw [List.getElem?_set_self hi] at es; cases es
        · rw [List.getElem?_set_ne hj] at es; exact es
      exact R.apart j k s t x hjk (f e1) (f e2)
  obtain ⟨R2, sg⟩ := R1.freeze ho n z fun j s es m q => by
    by_cases hj : i = j
    · subst hj; rw [List.getElem?_set_self hi] at es; cases es
    · rw [List.getElem?_set_ne hj] at es
      exact R.apart i j _ s a hj e es rfl m h q
  have rp : Rep ca (upd G a o) (.ref a) cl.d := cr.rep sg fun q e' => by rw [ho] at e'; cases e'; exact upd_same
  refine ⟨upd G a o, sg, ⟨R2.sub, R2.g0, R2.fr, R2.dom, R2.new, by simpa using R.len, fun j s es => ?_, fun j k s t x hjk e1 e2 m1 m2 => ?_⟩, rp⟩
  · by_cases hj : i = j
    · subst hj
      rw [List.getElem?_set_self hi] at es; cases es
      exact ⟨_, h, rp⟩
    · rw [List.getElem?_set_ne hj] at es
      exact R2.slots j s (by rw [List.getElem?_set_ne hj]; exact es)
  · have f : ∀ {j : Nat} {s : Slot}, (env.set i (some (Slot.sh cl.d)))[j]? = some (some s) → s.mut = true → env[j]? = some (some s) := fun {j s} es m => by
      by_cases hj : i = j
      · subst hj; rw [List.getElem?_set_self hi] at es; cases es; cases m
      · rw [List.getElem?_set_ne hj] at es; exact es
    exact R.apart j k s t x hjk (f e1 m1) (f e2 m2) m1 m2
theorem Held.take (R : Rel ca b env σ G H) (h : Held ca G σ u v) (e : take env v = some (d, env')) : ∃ G', Same G G' ∧ Rel ca b env' σ G' H ∧ Rep ca G' u d := by
  cases v with
  | sh d' => cases e; exact ⟨G, Same.refl _, R, h⟩
  | fr c => cases e; exact ⟨G, Same.refl _, R, h⟩
  | var i =>
    have h : σ[i]? = some (some u) := h
    unfold Pd.take at e
    simp only at e
    split at e
    · rename_i d' hs
      cases e
      obtain ⟨w, e1, r⟩ := R.slots i _ hs
      rw [h] at e1; cases e1
      exact ⟨G, Same.refl _, R, r⟩
    · rename_i c' hs
      cases e
      exact R.setFz hs h
    · cases e

/-! ### the use of a reading -/
variable {c : CT} {W : WX} {f : SE} {Q : VK} {o : EO}
theorem rdE.use (R : Rel ca b env σ G H) (e : f c env = some o)
    (h : match o with
      | .val v env' => ∀ u G' H', Rel ca b env' σ G' H' → VRel ca b env' σ G' H' u v → Same G G' → Stays env σ G H G' H' → Q u H'
      | .exc x env' => ∀ cls d G' H', Rel ca b env' σ G' H' → ExcRel ca G' H' cls d x → W cls d σ H') : rdE ca c W f σ H Q := by
  refine ⟨Pd.rb env σ G H, env, G, o, R.rb, e, ?_⟩
  cases o with
  | val v env' => exact fun u G' H' R' r => h u G' H' (R.unrb R') (VRel.unrb R r) R'.g0 (Rel.stays R')
  | exc x env' => exact fun cls d G' H' R' r => h cls d G' H' (R.unrb R') r
def bindV (o : Option EO) (k : Val → Env → Option EO) : Option EO := match o with
  | some (.val v e) => k v e
  | some (.exc x e) => some (.exc x e)
  | none => none
/-- a part's value is at hand -/
theorem rd_bind {k : Val → Env → Option EO} {Q' : VK} (R : Rel ca b env σ G H) (e : bindV (f c env) k = some o) (post : EPost ca b W σ Q o)
    (h : ∀ v e1 u G1 H1, f c env = some (.val v e1) → Rel ca b e1 σ G1 H1 → Held ca G1 σ u v → Same G G1 → k v e1 = some o → Q' u H1) : rdE ca c W f σ H Q' := by
  unfold bindV at e
  split at e
  · rename_i v e1 hf
    refine rdE.use R hf fun u G1 H1 R1 r sg _ => ?_
    obtain ⟨G2, sg2, R2, hd⟩ := VRel.held R1 r
    exact h v e1 u G2 H1 hf R2 hd (sg.trans sg2) e
  · rename_i x e1 hf
    cases e
    exact rdE.use R hf post
  · cases e
/-- .. as a test's part -/
theorem rdT_bind {k : Val → Env → Option EO} {Q' : VK} {Qt : Bool → Hp → Prop} (R : Rel ca b env σ G H) (e : bindV (f c env) k = some o) (post : TPost ca b W σ Qt o)
    (h : ∀ v e1 u G1 H1, f c env = some (.val v e1) → Rel ca b e1 σ G1 H1 → Held ca G1 σ u v → Same G G1 → k v e1 = some o → Q' u H1) : rdE ca c W f σ H Q' := by
  unfold bindV at e
  split at e
  · rename_i v e1 hf
    refine rdE.use R hf fun u G1 H1 R1 r sg _ => ?_
    obtain ⟨G2, sg2, R2, hd⟩ := VRel.held R1 r
    exact h v e1 u G2 H1 hf R2 hd (sg.trans sg2) e
  · rename_i x e1 hf
    cases e
    exact rdE.use R hf post
  · cases e
end
theorem PE_weak {X : Cx} {e : Expr} {t t' : TE} (h : PE X e t) (w : ∀ σ H Q, t' σ H Q → t σ H Q) : PE X e t' := ⟨fun pins s σ H Q I q => h.run pins s σ H Q I (w σ H Q q)⟩
theorem PT_weak {X : Cx} {e : Expr} {t t' : TT} (h : PT X e t) (w : ∀ σ H Q, t' σ H Q → t σ H Q) : PT X e t' := ⟨fun pins s σ H Q I q => h.run pins s σ H Q I (w σ H Q q)⟩
theorem PA_weak {X : Cx} {e : List Expr} {t t' : TA} (h : PA X e t) (w : ∀ σ H Q, t' σ H Q → t σ H Q) : PA X e t' := ⟨fun pos pins s σ H Q I q => h.run pos pins s σ H Q I (w σ H Q q)⟩
theorem PS_weak {X : Cx} {e : Stmt} {t t' : TS} (h : PS X e t) (w : ∀ D σ H, t' D σ H → t D σ H) : PS X e t' := ⟨fun pins s σ H D I q => h.run pins s σ H D I (w D σ H q)⟩
theorem PSs_weak {X : Cx} {e : List Stmt} {t t' : TS} (h : PSs X e t) (w : ∀ D σ H, t' D σ H → t D σ H) : PSs X e t' := ⟨fun pins s σ H D I q => h.run pins s σ H D I (w D σ H q)⟩
end Pd
/-! Pd3: expressions -/
namespace Pd
open PySem PySem.Spec L2

/-! ### what an operation gives -/
section
variable (ca : PySem.W.Frag)
def OpOut (G H : Hp) (u : V) (H' : Hp) (v : Val) : Prop :=
  (H' = H ∧ ∃ d, v = .sh d ∧ Rep ca G u d) ∨
    ∃ p o, H p = none ∧ u = .ref p ∧ H' = upd H p o ∧ ((∃ d, v = .sh d ∧ Rep ca (upd G p o) (.ref p) d) ∨ ∃ cl, v = .fr cl ∧ CellRel ca G (upd H p o) p cl)
inductive Peeks (G H : Hp) : List V → List D → Prop
  | nil : Peeks G H [] []
  | cons {u d us ds} : Peek ca G H u d → Peeks G H us ds → Peeks G H (u :: us) (d :: ds)
def BinR (r : R2) (g : D → D → Option Val) : Prop :=
  ∀ (G H : Hp) (x y : V) (dx dy : D) (v : Val) (Q : VK), Same G H → Peek ca G H x dx → Peek ca G H y dy → g dx dy = some v → (∀ u H', OpOut ca G H u H' v → Q u H') → r x y H Q
def UnaR (r : V → Hp → VK → Prop) (g : D → Option Val) : Prop :=
  ∀ (G H : Hp) (x : V) (dx : D) (v : Val) (Q : VK), Same G H → Peek ca G H x dx → g dx = some v → (∀ u H', OpOut ca G H u H' v → Q u H') → r x H Q
def ArgR (r : List V → Hp → VK → Prop) (g : List D → Option Val) : Prop :=
  ∀ (G H : Hp) (xs : List V) (ds : List D) (v : Val) (Q : VK), Same G H → Peeks ca G H xs ds → g ds = some v → (∀ u H', OpOut ca G H u H' v → Q u H') → r xs H Q
end
section
variable {ca : PySem.W.Frag} {b : Bs} {env : Env} {σ : St} {G G' H H' : Hp} {u : V} {v : Val} {d : D} {cl : Cell} {a : Addr}
theorem OpOut.at (R : Rel ca b env σ G H) (h : OpOut ca G H u H' v) : ∃ G', Same G G' ∧ Rel ca b env σ G' H' ∧ VRel ca b env σ G' H' u v := by
  rcases h with ⟨rfl, d, rfl, r⟩ | ⟨p, o, n, rfl, rfl, ⟨d, rfl, r⟩ | ⟨cl, rfl, r⟩⟩
  · exact ⟨G, Same.refl _, R, r⟩
  · obtain ⟨R', sg⟩ := R.growFz (o := o) n
    exact ⟨_, sg, R', r⟩
  · obtain ⟨n1, n2, n3⟩ := R.newAddr n
    exact ⟨G, Same.refl _, R.grow n, p, rfl, r, n1, .inr n2, n3⟩
theorem out_sh (r : Rep ca G u d) : OpOut ca G H u H (.sh d) := .inl ⟨rfl, d, rfl, r⟩
theorem out_lst {vs : List V} {ds : List D} {p : Addr} (n : H p = none) (r : Reps ca G vs ds) : OpOut ca G H (.ref p) (upd H p (.lst vs)) (.fr (.lst ds)) := .inr ⟨p, _, n, rfl, rfl, .inr ⟨_, rfl, vs, upd_same, r⟩⟩
theorem out_tup {vs : List V} {ds : List D} {p : Addr} (s : Same G H) (n : H p = none) (r : Reps ca G vs ds) : OpOut ca G H (.ref p) (upd H p (.tup vs)) (.sh (.tup ds)) := by
  have sg : Same G (upd G p (.tup vs)) := fun a q z => by rw [upd_ne (ne_of_none z (s.free n))]; exact z
  exact .inr ⟨p, _, n, rfl, rfl, .inl ⟨_, rfl, .tup upd_same r.len (r.mono sg).at_⟩⟩

def cls_peek (d : D) : Bool := match d with
  | .non => true | .bl _ => true | .int _ => true | .str _ => true | _ => false
theorem peek_int {i : Int} (h : Peek ca G H u (.int i)) : u = .int i := by cases h; rfl
theorem peek_str {i : Str} (h : Peek ca G H u (.str i)) : u = .str i := by cases h; rfl
theorem peek_bl {i : Bool} (h : Peek ca G H u (.bl i)) : u = .bl i := by cases h; rfl
theorem peek_non (h : Peek ca G H u .non) : u = .non := by cases h; rfl
end

/-! ### names, constants -/
section
variable {X : Cx} {ca : PySem.W.Frag} {c : CT} {W : WX}
def eVar (i : Nat) : SE := fun _ env => match env[i]? with
  | some (some (.sh d)) => some (.val (.sh d) env)
  | some (some _) => some (.val (.var i) env)
  | _ => none
def eC (d : D) : SE := fun _ env => some (.val (.sh d) env)
theorem p_var (i : Nat) {x : Str} {pos : Pos} (hN : X.N[i]? = some x := by rfl) (hv : Vis X.env.scope x := by first | exact Or.inl rfl | exact Or.inr (Or.inl rfl) | exact Or.inr (Or.inr rfl)) (hd : (x == ("__debug__" : Str)) = false := by decide)
    (hcd : (x == ("__classdict__" : Str)) = false := by decide) : PE X (.Name x pos) (rdE ca c W (eVar i)) := PE_weak (pv i hN hv hd hcd) (by
  rintro σ H Q ⟨b, env, G, o, R, e, post⟩
  unfold eVar at e
  split at e
  · rename_i d hs
    cases e
    obtain ⟨v, e1, r⟩ := R.slots i _ hs
    exact ⟨v, e1, post v G H R r⟩
  · rename_i s _ hs
    cases e
    obtain ⟨v, e1, r⟩ := R.slots i s hs
    exact ⟨v, e1, post v G H R ⟨e1, s, hs⟩⟩
  · cases e)
theorem p_c {e : Expr} {v : V} {d : D} (h : PE X e (tC v)) (r : ∀ G, Rep ca G v d) : PE X e (rdE ca c W (eC d)) := PE_weak h (by
  rintro σ H Q ⟨b, env, G, o, R, e, post⟩
  cases e
  exact post v G H R (r G))
theorem p_int {i j pos} : PE X (.Constant (.int i) j pos) (rdE ca c W (eC (.int i))) := p_c pe_int fun _ => .int i
theorem p_bl {i j pos} : PE X (.Constant (.bool i) j pos) (rdE ca c W (eC (.bl i))) := p_c pe_bl fun _ => .bl i
theorem p_non {j pos} : PE X (.Constant .none j pos) (rdE ca c W (eC .non)) := p_c pe_non fun _ => .non
theorem p_str {i j pos} : PE X (.Constant (.str i) j pos) (rdE ca c W (eC (.str i))) := p_c pe_str fun _ => .str i
theorem p_gstr {x : Str} {z : Str} {pos : Pos} (hg : Gl X x) (hm : ∃ t, X.mg x = some (.str z t)) (hd : (x == ("__debug__" : Str)) = false := by decide) : PE X (.Name x pos) (rdE ca c W (eC (.str z))) := by
  obtain ⟨t, hm⟩ := hm
  exact p_c (pe_glob (v := .str z) hg hm ⟨t, rfl⟩ hd) fun _ => .str z
theorem p_gint {x : Str} {z : Int} {pos : Pos} (hg : Gl X x) (hm : ∃ t, X.mg x = some (.int z t)) (hd : (x == ("__debug__" : Str)) = false := by decide) : PE X (.Name x pos) (rdE ca c W (eC (.int z))) := by
  obtain ⟨t, hm⟩ := hm
  exact p_c (pe_glob (v := .int z) hg hm ⟨t, rfl⟩ hd) fun _ => .int z

/-! ### operations -/
def eUn (g : D → Option Val) (fa : SE) : SE := fun c env => bindV (fa c env) fun va e1 => (peek e1 va).bind fun da => (g da).map fun r => .val r e1
def eBin (g : D → D → Option Val) (fa fb : SE) : SE := fun c env => bindV (fa c env) fun va e1 => bindV (fb c e1) fun vb e2 => (peek e2 va).bind fun da => (peek e2 vb).bind fun db => (g da db).map fun r => .val r e2
theorem bin_in {r : R2} {g : D → D → Option Val} {fa fb : SE} (br : BinR ca r g) : ∀ σ H Q, rdE ca c W (eBin g fa fb) σ H Q → tOp r (rdE ca c W fa) (rdE ca c W fb) σ H Q := by
  rintro σ H Q ⟨b, env, G, o, R, e, post⟩
  refine rd_bind R e post fun va e1 u G1 H1 _ R1 hd sg e => ?_
  refine rd_bind R1 e post fun vb e2 w G2 H2 _ R2 hd2 sg2 e => ?_
  cases ea : peek e2 va with
  | none => rw [ea] at e; cases e
  | some da =>
    cases eb : peek e2 vb with
    | none => rw [ea, eb] at e; cases e
    | some db =>
      cases eg : g da db with
      | none => rw [ea, eb] at e; simp [eg] at e
      | some r' =>
        rw [ea, eb] at e
        simp [eg] at e
        subst e
        refine br G2 H2 u w da db r' Q R2.sub ((hd.mono sg2).peek R2 ea) (hd2.peek R2 eb) eg fun z H3 out => ?_
        obtain ⟨G3, sg3, R3, vr⟩ := out.at R2
        exact post z G3 H3 R3 vr
theorem una_in {r : V → Hp → VK → Prop} {g : D → Option Val} {fa : SE} (br : UnaR ca r g) : ∀ σ H Q, rdE ca c W (eUn g fa) σ H Q → rdE ca c W fa σ H (fun x H1 => r x H1 Q) := by
  rintro σ H Q ⟨b, env, G, o, R, e, post⟩
  refine rd_bind R e post fun va e1 u G1 H1 _ R1 hd sg e => ?_
  cases ea : peek e1 va with
  | none => rw [ea] at e; cases e
  | some da =>
    cases eg : g da with
    | none => rw [ea] at e; simp [eg] at e
    | some r' =>
      rw [ea] at e
      simp [eg] at e
      subst e
      refine br G1 H1 u da r' Q R1.sub (hd.peek R1 ea) eg fun z H3 out => ?_
      obtain ⟨G3, sg3, R3, vr⟩ := out.at R1
      exact post z G3 H3 R3 vr
variable {a b' : Expr} {fa fb fc : SE} {pos : Pos}
theorem p_bin {op : Operator} {r : R2} {g : D → D → Option Val} (ho : OpR X (binaryOp op) r) (br : BinR ca r g) (ha : PE X a (rdE ca c W fa)) (hb : PE X b' (rdE ca c W fb)) : PE X (.BinOp a op b' pos) (rdE ca c W (eBin g fa fb)) :=
  PE_weak (pe_op ho ha hb) (bin_in br)
theorem p_un {op : UnaryOp} {r : V → Hp → VK → Prop} {g : D → Option Val} (ho : UnR X (unaryOp op) r) (br : UnaR ca r g) (ha : PE X a (rdE ca c W fa)) : PE X (.UnaryOp op a pos) (rdE ca c W (eUn g fa)) :=
  PE_weak (pe_un ho ha) (una_in br)
theorem p_cmp {op : CmpOp} {r : R2} {g : D → D → Option Val} (ho : OpR X (compareOp op) r) (br : BinR ca r g) (ha : PE X a (rdE ca c W fa)) (hb : PE X b' (rdE ca c W fb)) (hm : behindInMarks op b' = false) : PE X (.Compare a [op] [b'] pos) (rdE ca c W (eBin g fa fb)) :=
  PE_weak (pe_cmpR ho ha hb hm) (bin_in br)
/-- a test's reading, as a value's -/
theorem test_in {f : SE} : ∀ σ H Q, rdT ca c W f σ H Q → rdE ca c W f σ H (fun x H1 => ∃ k, x = .bl k ∧ Q k H1) := by
  rintro σ H Q ⟨b, env, G, o, R, e, post⟩
  refine ⟨b, env, G, o, R, e, ?_⟩
  cases o with
  | exc x e' => exact post
  | val v e' =>
    cases v with
    | sh d =>
      cases d with
      | bl k =>
        intro u G' H' R' vr
        cases vr
        exact ⟨k, rfl, post G' H' R'⟩
      | _ => exact post.elim
    | _ => exact post.elim
theorem t_cmp {op : CmpOp} {r : R2} {g : D → D → Option Val} (ho : OpR X (compareOp op) r) (br : BinR ca r g) (ha : PE X a (rdE ca c W fa)) (hb : PE X b' (rdE ca c W fb)) (hm : behindInMarks op b' = false) : PT X (.Compare a [op] [b'] pos) (rdT ca c W (eBin g fa fb)) :=
  PT_weak (pt_cmpR ho ha hb hm) fun σ H Q h => bin_in br σ H _ (test_in σ H Q h)
theorem t_val {e : Expr} {f : SE} (h : PE X e (rdE ca c W f)) (he : ∀ whole, isTrue e X.env whole = (do let v ← whole; standAt e.pos; holding [v] (truthy v)) := by intro _; rfl) : PT X e (rdT ca c W f) :=
  PT_weak (pt_val h he) test_in
/-- a op1 b op2 c -/
def eChain (g g' : D → D → Option Val) (fa fb fc : SE) : SE := fun c env => bindV (fa c env) fun va e1 => bindV (fb c e1) fun vb e2 => (peek e2 va).bind fun da => (peek e2 vb).bind fun db => match g da db with
  | some (.sh (.bl true)) => bindV (fc c e2) fun vc e3 => (peek e3 vb).bind fun db' => (peek e3 vc).bind fun dc => (g' db' dc).map fun r => .val r e3
  | some (.sh (.bl false)) => some (.val (.sh (.bl false)) e2)
  | _ => none
theorem chain_in {r r' : R2} {g g' : D → D → Option Val} (br : BinR ca r g) (br' : BinR ca r' g') : ∀ σ H Q, rdE ca c W (eChain g g' fa fb fc) σ H Q → tChain r r' (rdE ca c W fa) (rdE ca c W fb) (rdE ca c W fc) σ H Q := by
  rintro σ H Q ⟨b, env, G, o, R, e, post⟩
  refine rd_bind R e post fun va e1 u G1 H1 _ R1 hd sg e => ?_
  refine rd_bind R1 e post fun vb e2 w G2 H2 _ R2 hd2 sg2 e => ?_
  cases ea : peek e2 va with
  | none => rw [ea] at e; cases e
  | some da =>
    cases eb : peek e2 vb with
    | none => rw [ea, eb] at e; cases e
    | some db =>
      rw [ea, eb] at e
      simp only [Option.bind_some] at e
      split at e
      · rename_i eg
        refine br G2 H2 u w da db _ _ R2.sub ((hd.mono sg2).peek R2 ea) (hd2.peek R2 eb) eg fun z H3 out => ?_
        obtain ⟨G3, sg3, R3, vr⟩ := out.at R2
        cases vr
        refine ⟨true, rfl, ?_⟩
        rw [if_pos rfl]
        refine rd_bind R3 e post fun vc e4 y G4 H4 _ R4 hd4 sg4 e => ?_
        cases ec : peek e4 vb with
        | none => rw [ec] at e; cases e
        | some db' =>
          cases ed : peek e4 vc with
          | none => rw [ec, ed] at e; cases e
          | some dc =>
            cases eg' : g' db' dc with
            | none => rw [ec, ed] at e; simp [eg'] at e
            | some r2 =>
              rw [ec, ed] at e
              simp [eg'] at e
              subst e
              refine br' G4 H4 w y db' dc r2 Q R4.sub (((hd2.mono sg3).mono sg4).peek R4 ec) (hd4.peek R4 ed) eg' fun z H5 out => ?_
              obtain ⟨G5, sg5, R5, vr5⟩ := out.at R4
              exact post z G5 H5 R5 vr5
      · rename_i eg
        cases e
        refine br G2 H2 u w da db _ _ R2.sub ((hd.mono sg2).peek R2 ea) (hd2.peek R2 eb) eg fun z H3 out => ?_
        obtain ⟨G3, sg3, R3, vr⟩ := out.at R2
        cases vr
        refine ⟨false, rfl, ?_⟩
        rw [if_neg Bool.false_ne_true]
        exact post _ G3 H3 R3 (.bl false)
      · cases e
theorem p_chain {b c' : Expr} {op op' : CmpOp} {r r' : R2} {g g' : D → D → Option Val} (ho : OpR X (compareOp op) r) (br : BinR ca r g) (ho' : OpR X (compareOp op') r') (br' : BinR ca r' g') (ha : PE X a (rdE ca c W fa)) (hb : PE X b (rdE ca c W fb)) (hc : PE X c' (rdE ca c W fc))
    (hm : lastMarks [op, op'] [b, c'] = false := by with_unfolding_all rfl) : PE X (.Compare a [op, op'] [b, c'] pos) (rdE ca c W (eChain g g' fa fb fc)) := PE_weak (pe_chain ho ho' ha hb hc hm) (chain_in br br')
theorem t_chain {b c' : Expr} {op op' : CmpOp} {r r' : R2} {g g' : D → D → Option Val} (ho : OpR X (compareOp op) r) (br : BinR ca r g) (ho' : OpR X (compareOp op') r') (br' : BinR ca r' g') (ha : PE X a (rdE ca c W fa)) (hb : PE X b (rdE ca c W fb)) (hc : PE X c' (rdE ca c W fc))
    (hm : lastMarks [op, op'] [b, c'] = false := by with_unfolding_all rfl) : PT X (.Compare a [op, op'] [b, c'] pos) (rdT ca c W (eChain g g' fa fb fc)) := PT_weak (pt_chain ho ho' ha hb hc hm) fun σ H Q h => chain_in br br' σ H _ (test_in σ H Q h)

/-! ### and, or, not, if -/
def eAnd (fa fb : SE) : SE := fun c env => match fa c env with
  | some (.val (.sh (.bl true)) e) => fb c e
  | some (.val (.sh (.bl false)) e) => some (.val (.sh (.bl false)) e)
  | some (.exc x e) => some (.exc x e)
  | _ => none
def eOr (fa fb : SE) : SE := fun c env => match fa c env with
  | some (.val (.sh (.bl true)) e) => some (.val (.sh (.bl true)) e)
  | some (.val (.sh (.bl false)) e) => fb c e
  | some (.exc x e) => some (.exc x e)
  | _ => none
def eNot (fa : SE) : SE := fun c env => match fa c env with
  | some (.val (.sh (.bl k)) e) => some (.val (.sh (.bl (!k))) e)
  | some (.exc x e) => some (.exc x e)
  | _ => none
def eIf (ft fa fb : SE) : SE := fun c env => match ft c env with
  | some (.val (.sh (.bl true)) e) => fa c e
  | some (.val (.sh (.bl false)) e) => fb c e
  | some (.exc x e) => some (.exc x e)
  | _ => none
/-- a test first -/
theorem rdT_use {b : Bs} {env : Env} {σ : St} {G H : Hp} {f : SE} {o : EO} {Q : Bool → Hp → Prop} (R : Rel ca b env σ G H) (e : f c env = some o)
    (h : match o with
      | .val (.sh (.bl k)) env' => ∀ G' H', Rel ca b env' σ G' H' → Same G G' → Stays env σ G H G' H' → Q k H'
      | .exc x env' => ∀ cls d G' H', Rel ca b env' σ G' H' → ExcRel ca G' H' cls d x → W cls d σ H'
      | _ => False) : rdT ca c W f σ H Q := by
  refine ⟨Pd.rb env σ G H, env, G, o, R.rb, e, ?_⟩
  cases o with
  | exc x e' => exact fun cls d G' H' R' r => h cls d G' H' (R.unrb R') r
  | val v e' =>
    cases v with
    | sh d =>
      cases d with
      | bl k => exact fun G' H' R' => h G' H' (R.unrb R') R'.g0 (Rel.stays R')
      | _ => exact h.elim
    | _ => exact h.elim
theorem t_and1 (ha : PT X a (rdT ca c W fa)) : PW X (.BoolOp .And [a] pos) (rdT ca c W fa) := pw_and1 ha
theorem t_or1 (ha : PT X a (rdT ca c W fa)) : PW X (.BoolOp .Or [a] pos) (rdT ca c W fa) := pw_or1 ha
theorem PW_weak {e : Expr} {t t' : TT} (h : PW X e t) (w : ∀ σ H Q, t' σ H Q → t σ H Q) : PW X e t' := ⟨fun wh pins s σ H Q I q => h.run wh pins s σ H Q I (w σ H Q q)⟩
theorem and_in : ∀ σ H Q, rdT ca c W (eAnd fa fb) σ H Q → tAnd (rdT ca c W fa) (rdT ca c W fb) σ H Q := by
  rintro σ H Q ⟨b, env, G, o, R, e, post⟩
  unfold eAnd at e
  split at e
  · rename_i e1 ea
    refine rdT_use R ea fun G' H' R' _ _ => ?_
    rw [if_pos rfl]
    exact ⟨b, e1, G', o, R', e, post⟩
  · rename_i e1 ea
    cases e
    refine rdT_use R ea fun G' H' R' _ _ => ?_
    rw [if_neg Bool.false_ne_true]
    exact post G' H' R'
  · rename_i x e1 ea
    cases e
    exact rdT_use R ea post
  · cases e
theorem or_in : ∀ σ H Q, rdT ca c W (eOr fa fb) σ H Q → tOr (rdT ca c W fa) (rdT ca c W fb) σ H Q := by
  rintro σ H Q ⟨b, env, G, o, R, e, post⟩
  unfold eOr at e
  split at e
  · rename_i e1 ea
    cases e
    refine rdT_use R ea fun G' H' R' _ _ => ?_
    rw [if_pos rfl]
    exact post G' H' R'
  · rename_i e1 ea
    refine rdT_use R ea fun G' H' R' _ _ => ?_
    rw [if_neg Bool.false_ne_true]
    exact ⟨b, e1, G', o, R', e, post⟩
  · rename_i x e1 ea
    cases e
    exact rdT_use R ea post
  · cases e
variable {rest : List Expr}
theorem t_and (ha : PT X a (rdT ca c W fa)) (hb : PW X (.BoolOp .And (b' :: rest) pos) (rdT ca c W fb)) : PW X (.BoolOp .And (a :: b' :: rest) pos) (rdT ca c W (eAnd fa fb)) := PW_weak (pw_and ha hb) and_in
theorem t_or (ha : PT X a (rdT ca c W fa)) (hb : PW X (.BoolOp .Or (b' :: rest) pos) (rdT ca c W fb)) : PW X (.BoolOp .Or (a :: b' :: rest) pos) (rdT ca c W (eOr fa fb)) := PW_weak (pw_or ha hb) or_in
theorem t_not (ha : PT X a (rdT ca c W fa)) : PT X (.UnaryOp .Not a pos) (rdT ca c W (eNot fa)) := PT_weak (pt_not ha) (by
  rintro σ H Q ⟨b, env, G, o, R, e, post⟩
  unfold eNot at e
  split at e
  · rename_i k e1 ea
    cases e
    exact rdT_use R ea fun G' H' R' _ _ => post G' H' R'
  · rename_i x e1 ea
    cases e
    exact rdT_use R ea post
  · cases e)
/-- .. as values -/
theorem andV_in : ∀ σ H Q, rdE ca c W (eAnd fa fb) σ H Q → tAndV (rdE ca c W fa) (rdE ca c W fb) σ H Q := by
  rintro σ H Q ⟨b, env, G, o, R, e, post⟩
  unfold eAnd at e
  split at e
  · rename_i e1 ea
    refine rdE.use R ea fun u G' H' R' vr _ _ => ?_
    cases vr
    refine ⟨true, rfl, ?_⟩
    rw [if_pos rfl]
    exact ⟨b, e1, G', o, R', e, post⟩
  · rename_i e1 ea
    cases e
    refine rdE.use R ea fun u G' H' R' vr _ _ => ?_
    cases vr
    refine ⟨false, rfl, ?_⟩
    rw [if_neg Bool.false_ne_true]
    exact post _ G' H' R' (.bl false)
  · rename_i x e1 ea
    cases e
    exact rdE.use R ea post
  · cases e
theorem orV_in : ∀ σ H Q, rdE ca c W (eOr fa fb) σ H Q → tOrV (rdE ca c W fa) (rdE ca c W fb) σ H Q := by
  rintro σ H Q ⟨b, env, G, o, R, e, post⟩
  unfold eOr at e
  split at e
  · rename_i e1 ea
    cases e
    refine rdE.use R ea fun u G' H' R' vr _ _ => ?_
    cases vr
    refine ⟨true, rfl, ?_⟩
    rw [if_pos rfl]
    exact post _ G' H' R' (.bl true)
  · rename_i e1 ea
    refine rdE.use R ea fun u G' H' R' vr _ _ => ?_
    cases vr
    refine ⟨false, rfl, ?_⟩
    rw [if_neg Bool.false_ne_true]
    exact ⟨b, e1, G', o, R', e, post⟩
  · rename_i x e1 ea
    cases e
    exact rdE.use R ea post
  · cases e
theorem p_one {op} {f : SE} (h : PE X a (rdE ca c W f)) : PE X (.BoolOp op [a] pos) (rdE ca c W f) := pe_one h
theorem p_and (ha : PE X a (rdE ca c W fa)) (hb : PE X (.BoolOp .And (b' :: rest) pos) (rdE ca c W fb)) : PE X (.BoolOp .And (a :: b' :: rest) pos) (rdE ca c W (eAnd fa fb)) := PE_weak (pe_and ha hb) andV_in
theorem p_or (ha : PE X a (rdE ca c W fa)) (hb : PE X (.BoolOp .Or (b' :: rest) pos) (rdE ca c W fb)) : PE X (.BoolOp .Or (a :: b' :: rest) pos) (rdE ca c W (eOr fa fb)) := PE_weak (pe_or ha hb) orV_in
theorem p_not (ha : PE X a (rdE ca c W fa)) : PE X (.UnaryOp .Not a pos) (rdE ca c W (eNot fa)) := PE_weak (pe_not ha) (by
  rintro σ H Q ⟨b, env, G, o, R, e, post⟩
  unfold eNot at e
  split at e
  · rename_i k e1 ea
    cases e
    refine rdE.use R ea fun u G' H' R' vr _ _ => ?_
    cases vr
    exact ⟨k, rfl, post _ G' H' R' (.bl _)⟩
  · rename_i x e1 ea
    cases e
    exact rdE.use R ea post
  · cases e)
theorem p_if {t : Expr} {ft : SE} (ht : PT X t (rdT ca c W ft)) (ha : PE X a (rdE ca c W fa)) (hb : PE X b' (rdE ca c W fb)) : PE X (.IfExp t a b' pos) (rdE ca c W (eIf ft fa fb)) := PE_weak (pe_ifExp ht ha hb) (by
  rintro σ H Q ⟨b, env, G, o, R, e, post⟩
  unfold eIf at e
  split at e
  · rename_i e1 ea
    refine rdT_use R ea fun G' H' R' _ _ => ?_
    rw [if_pos rfl]
    exact ⟨b, e1, G', o, R', e, post⟩
  · rename_i e1 ea
    refine rdT_use R ea fun G' H' R' _ _ => ?_
    rw [if_neg Bool.false_ne_true]
    exact ⟨b, e1, G', o, R', e, post⟩
  · rename_i x e1 ea
    cases e
    exact rdT_use R ea post
  · cases e)

/-! ### arguments -/
def aNil : SA := fun _ env => some (.vals [] env)
def aCons (f : SE) (r : SA) : SA := fun c env => match f c env with
  | some (.val v e1) => (match r c e1 with
    | some (.vals vs e2) => some (.vals (v :: vs) e2)
    | some (.exc x e2) => some (.exc x e2)
    | none => none)
  | some (.exc x e1) => some (.exc x e1)
  | none => none
theorem rdA_use {b : Bs} {env : Env} {σ : St} {G H : Hp} {f : SA} {o : AO} {Q : List V → Hp → Prop} (R : Rel ca b env σ G H) (e : f c env = some o)
    (h : match o with
      | .vals vs env' => ∀ us G' H', Rel ca b env' σ G' H' → Helds ca G' σ us vs → Same G G' → Q us H'
      | .exc x env' => ∀ cls d G' H', Rel ca b env' σ G' H' → ExcRel ca G' H' cls d x → W cls d σ H') : rdA ca c W f σ H Q := by
  refine ⟨Pd.rb env σ G H, env, G, o, R.rb, e, ?_⟩
  cases o with
  | exc x e' => exact fun cls d G' H' R' r => h cls d G' H' (R.unrb R') r
  | vals v e' => exact fun us G' H' R' r => h us G' H' (R.unrb R') r R'.g0
variable {es : List Expr} {fs : SA}
theorem a_nil : PA X [] (rdA ca c W aNil) := PA_weak pa_nil (by
  rintro σ H Q ⟨b, env, G, o, R, e, post⟩
  cases e
  exact post [] G H R .nil)
theorem a_cons (ha : PE X a (rdE ca c W fa)) (hr : PA X es (rdA ca c W fs)) (hs : starEach (a :: es) X.env = (false, eval a X.env) :: starEach es X.env := by rfl) : PA X (a :: es) (rdA ca c W (aCons fa fs)) := PA_weak (pa_cons ha hr hs) (by
  rintro σ H Q ⟨b, env, G, o, R, e, post⟩
  unfold aCons at e
  split at e
  · rename_i v e1 ea
    refine rdE.use R ea fun u G1 H1 R1 vr sg _ => ?_
    obtain ⟨G2, sg2, R2, hd⟩ := VRel.held R1 vr
    split at e
    · rename_i vs e2 er
      cases e
      exact rdA_use R2 er fun us G3 H3 R3 hds sg3 => post _ G3 H3 R3 (.cons (hd.mono sg3) hds)
    · rename_i x e2 er
      cases e
      exact rdA_use R2 er post
    · cases e
  · rename_i x e1 ea
    cases e
    exact rdE.use R ea post
  · cases e)
def peeks (env : Env) : List Val → Option (List D)
  | [] => some []
  | v :: vs => (peek env v).bind fun d => (peeks env vs).map fun ds => d :: ds
def takes (env : Env) : List Val → Option (List D × Env)
  | [] => some ([], env)
  | v :: vs => (take env v).bind fun p => (takes p.2 vs).map fun q => (p.1 :: q.1, q.2)
theorem Helds.peeks {b : Bs} {env : Env} {σ : St} {G H : Hp} (R : Rel ca b env σ G H) : ∀ {us : List V} {vs : List Val} {ds : List D}, Helds ca G σ us vs → peeks env vs = some ds → Peeks ca G H us ds
  | _, _, _, .nil, e => by cases e; exact .nil
  | _, _, _, .cons (v := v) (vs := vs) h t, e => by
    unfold Pd.peeks at e
    cases ep : peek env v with
    | none => rw [ep] at e; cases e
    | some d =>
      rw [ep] at e
      cases er : Pd.peeks env vs with
      | none => simp [er] at e
      | some ds =>
        simp [er] at e
        subst e
        exact .cons (h.peek R ep) (Helds.peeks R t er)
theorem Helds.takes {b : Bs} {σ : St} {H : Hp} : ∀ {us : List V} {vs : List Val} {ds : List D} {env env' : Env} {G : Hp}, Rel ca b env σ G H → Helds ca G σ us vs → takes env vs = some (ds, env') → ∃ G', Same G G' ∧ Rel ca b env' σ G' H ∧ Reps ca G' us ds
  | _, _, _, _, _, G, R, .nil, e => by cases e; exact ⟨G, Same.refl _, R, .nil⟩
  | _, _, _, env, env', G, R, .cons (v := v) (vs := vs) h t, e => by
    unfold Pd.takes at e
    cases ep : take env v with
    | none => rw [ep] at e; cases e
    | some p =>
      rw [ep] at e
      cases er : Pd.takes p.2 vs with
      | none => simp [er] at e
      | some q =>
        simp [er] at e
        obtain ⟨e1, e2⟩ := e
        subst e1 e2
        obtain ⟨G1, s1, R1, r1⟩ := h.take (d := p.1) (env' := p.2) R ep
        obtain ⟨G2, s2, R2, r2⟩ := Helds.takes (ds := q.1) (env' := q.2) R1 (t.mono s1) er
        exact ⟨G2, s1.trans s2, R2, .cons (r1.mono s2) r2⟩
def bindA (o : Option AO) (k : List Val → Env → Option EO) : Option EO := match o with
  | some (.vals v e) => k v e
  | some (.exc x e) => some (.exc x e)
  | none => none
theorem rdA_bind {b : Bs} {env : Env} {σ : St} {G H : Hp} {k : List Val → Env → Option EO} {Q : VK} {Q' : List V → Hp → Prop} {o : EO} (R : Rel ca b env σ G H) (e : bindA (fs c env) k = some o) (post : EPost ca b W σ Q o)
    (h : ∀ vs e1 us G1 H1, fs c env = some (.vals vs e1) → Rel ca b e1 σ G1 H1 → Helds ca G1 σ us vs → Same G G1 → k vs e1 = some o → Q' us H1) : rdA ca c W fs σ H Q' := by
  unfold bindA at e
  split at e
  · rename_i v e1 hf
    exact rdA_use R hf fun us G1 H1 R1 hd sg => h v e1 us G1 H1 hf R1 hd sg e
  · rename_i x e1 hf
    cases e
    exact rdA_use R hf post
  · cases e

/-! ### displays -/
def eList (fs : SA) : SE := fun c env => bindA (fs c env) fun vs e1 => (takes e1 vs).bind fun p => if p.1.length ≤ sizeLine then some (.val (.fr (.lst p.1)) p.2) else none
def eTup (fs : SA) : SE := fun c env => bindA (fs c env) fun vs e1 => (takes e1 vs).bind fun p => if p.1.length ≤ sizeLine then some (.val (.sh (.tup p.1)) p.2) else none
theorem p_list (h : PA X es (rdA ca c W fs)) : PE X (.List es pos) (rdE ca c W (eList fs)) := PE_weak (pe_lst h) (by
  rintro σ H Q ⟨b, env, G, o, R, e, post⟩
  refine rdA_bind R e post fun vs e1 us G1 H1 _ R1 hd sg e => ?_
  cases et : takes e1 vs with
  | none => rw [et] at e; cases e
  | some p =>
    rw [et] at e
    simp only [Option.bind_some] at e
    split at e
    · rename_i hl
      cases e
      obtain ⟨G2, s2, R2, r2⟩ := Helds.takes (ds := p.1) (env' := p.2) R1 hd et
      refine ⟨by rw [r2.len]; exact hl, fun l hn => ?_⟩
      obtain ⟨G3, s3, R3, vr⟩ := (out_lst hn r2).at R2
      exact post _ G3 _ R3 vr
    · cases e)
theorem p_tup {x1} (h : PA X es (rdA ca c W fs)) : PE X (.Tuple es x1 pos) (rdE ca c W (eTup fs)) := PE_weak (pe_tup h) (by
  rintro σ H Q ⟨b, env, G, o, R, e, post⟩
  refine rdA_bind R e post fun vs e1 us G1 H1 _ R1 hd sg e => ?_
  cases et : takes e1 vs with
  | none => rw [et] at e; cases e
  | some p =>
    rw [et] at e
    simp only [Option.bind_some] at e
    split at e
    · rename_i hl
      cases e
      obtain ⟨G2, s2, R2, r2⟩ := Helds.takes (ds := p.1) (env' := p.2) R1 hd et
      refine ⟨by rw [r2.len]; exact hl, fun l hn => ?_⟩
      obtain ⟨G3, s3, R3, vr⟩ := (out_tup R2.sub hn r2).at R2
      exact post _ G3 _ R3 vr
    · cases e)

/-! ### built-in functions, types, methods by values -/
def eArg (g : List D → Option Val) (fs : SA) : SE := fun c env => bindA (fs c env) fun vs e1 => (peeks e1 vs).bind fun ds => (g ds).map fun r => .val r e1
theorem arg_in {r : List V → Hp → VK → Prop} {g : List D → Option Val} (br : ArgR ca r g) : ∀ σ H Q, rdE ca c W (eArg g fs) σ H Q → tCB r (rdA ca c W fs) σ H Q := by
  rintro σ H Q ⟨b, env, G, o, R, e, post⟩
  refine rdA_bind R e post fun vs e1 us G1 H1 _ R1 hd sg e => ?_
  cases ep : peeks e1 vs with
  | none => rw [ep] at e; cases e
  | some ds =>
    rw [ep] at e
    cases eg : g ds with
    | none => simp [eg] at e
    | some v =>
      simp [eg] at e
      subst e
      refine br G1 H1 us ds v Q R1.sub (hd.peeks R1 ep) eg fun z H3 out => ?_
      obtain ⟨G3, sg3, R3, vr⟩ := out.at R1
      exact post z G3 H3 R3 vr
variable {x : Str} {p : Pos} {id T : String} {r : List V → Hp → VK → Prop} {g : List D → Option Val}
theorem p_callB (hc : CallR X (.builtin id) r) (br : ArgR ca r g) (hg : Gl X x) (hm : X.mg x = none) (hv : bootBuiltins x = some (.builtin id)) (ha : PA X (a :: es) (rdA ca c W fs)) (hn : x ≠ "__name__" := by decide) (hdb : (x == ("__debug__" : Str)) = false := by decide)
    (he : starEach (a :: es) X.env = (false, eval a X.env) :: starEach es X.env := by rfl) (hpl : (backTo pos (starEach es X.env)).any (·.1) = false := by rfl) : PE X (.Call (.Name x p) (a :: es) [] pos) (rdE ca c W (eArg g fs)) :=
  PE_weak (pe_callB hc hg hm hv ha hn hdb he hpl) (arg_in br)
theorem p_callTy (hc : CallR X (.type T) r) (br : ArgR ca r g) (hg : Gl X x) (hm : X.mg x = none) (hv : bootBuiltins x = some (.type T)) (ha : PA X (a :: es) (rdA ca c W fs)) (hn : x ≠ "__name__" := by decide) (hdb : (x == ("__debug__" : Str)) = false := by decide)
    (he : starEach (a :: es) X.env = (false, eval a X.env) :: starEach es X.env := by rfl) (hpl : (backTo pos (starEach es X.env)).any (·.1) = false := by rfl) : PE X (.Call (.Name x p) (a :: es) [] pos) (rdE ca c W (eArg g fs)) :=
  PE_weak (pe_callTy hc hg hm hv ha hn hdb he hpl) (arg_in br)
theorem p_ix {b : Expr} {r : R2} {g : D → D → Option Val} (hr : IxR X r) (br : BinR ca r g) (ha : PE X a (rdE ca c W fa)) (hb : PE X b (rdE ca c W fb)) (hs : PlainIx b) : PE X (.Subscript a b pos) (rdE ca c W (eBin g fa fb)) :=
  PE_weak (pe_ix hr ha hb hs) (bin_in br)

/-! ### slices -/
def bindP (lo : Option SE) (c : CT) (env : Env) (k : Option Int → Env → Option EO) : Option EO := match lo with
  | none => k none env
  | some f => bindV (f c env) fun v e1 => match v with
    | .sh (.int i) => k (some i) e1
    | _ => none
def eSl (g : D → Option Int → Option Int → Option Val) (fa : SE) (lo hi : Option SE) : SE := fun c env => bindV (fa c env) fun va e1 => bindP lo c e1 fun l e2 => bindP hi c e2 fun h e3 =>
  (peek e3 va).bind fun d => (g d l h).map fun r => .val r e3
def SlcR (ca : PySem.W.Frag) (r : V → Option Int → Option Int → Hp → VK → Prop) (g : D → Option Int → Option Int → Option Val) : Prop :=
  ∀ (G H : Hp) (x : V) (dx : D) (l h : Option Int) (v : Val) (Q : VK), Same G H → Peek ca G H x dx → g dx l h = some v → (∀ u H', OpOut ca G H u H' v → Q u H') → r x l h H Q
inductive POk (X : Cx) (ca : PySem.W.Frag) (c : CT) (W : WX) : Option Expr → Option SE → TO → Prop
  | nil : POk X ca c W none none tNoPart
  | one {e : Expr} {f : SE} (h : PE X e (rdE ca c W f)) : POk X ca c W (some e) (some f) (tPart (rdE ca c W f))
theorem POk.po {e : Option Expr} {f : Option SE} {t : TO} (h : POk X ca c W e f t) : PO X e t := by
  cases h with
  | nil => exact po_none
  | one h => exact po_some h
theorem POk.uses {e : Option Expr} {f : Option SE} {t : TO} (h : POk X ca c W e f t) {b : Bs} {env : Env} {σ : St} {G H : Hp} {k : Option Int → Env → Option EO} {Q : VK} {Q' : Option Int → Hp → Prop} {o : EO} (R : Rel ca b env σ G H)
    (e : bindP f c env k = some o) (post : EPost ca b W σ Q o) (hh : ∀ l e1 G1 H1, Rel ca b e1 σ G1 H1 → Same G G1 → k l e1 = some o → Q' l H1) : t σ H Q' := by
  cases h with
  | nil => exact hh none env G H R (Same.refl _) e
  | one h =>
    refine rd_bind R e post fun v e1 u G1 H1 _ R1 hd sg e => ?_
    cases v with
    | sh d =>
      cases d with
      | int i =>
        cases hd
        exact ⟨i, rfl, hh (some i) e1 G1 H1 R1 sg e⟩
      | _ => cases e
    | _ => cases e
theorem p_slice {el eh : Option Expr} {lo hi : Option SE} {tl th : TO} {p2 : Pos} {r : V → Option Int → Option Int → Hp → VK → Prop} {g : D → Option Int → Option Int → Option Val} (hr : SlR X r) (br : SlcR ca r g) (ha : PE X a (rdE ca c W fa)) (hl : POk X ca c W el lo tl) (hh : POk X ca c W eh hi th) :
    PE X (.Subscript a (.Slice el eh none p2) pos) (rdE ca c W (eSl g fa lo hi)) := PE_weak (pe_slice hr ha hl.po hh.po) (by
  rintro σ H Q ⟨b, env, G, o, R, e, post⟩
  refine rd_bind R e post fun va e1 u G1 H1 _ R1 hd sg e => ?_
  refine hl.uses R1 e post fun l e2 G2 H2 R2 sg2 e => ?_
  refine hh.uses R2 e post fun h e3 G3 H3 R3 sg3 e => ?_
  cases ea : peek e3 va with
  | none => rw [ea] at e; cases e
  | some da =>
    cases eg : g da l h with
    | none => rw [ea] at e; simp [eg] at e
    | some r' =>
      rw [ea] at e
      simp [eg] at e
      subst e
      refine br G3 H3 u da l h r' Q R3.sub (((hd.mono sg2).mono sg3).peek R3 ea) eg fun z H4 out => ?_
      obtain ⟨G4, sg4, R4, vr⟩ := out.at R3
      exact post z G4 H4 R4 vr)
end
end Pd
/-! Pd4: statements -/
namespace Pd
open PySem PySem.Spec L2
section
variable {X : Cx} {ca : PySem.W.Frag} {c : CT} {W : WX} {pos : Pos}
/-- a statement's use -/
theorem rdS_use {b : Bs} {env : Env} {σ : St} {G H : Hp} {f : SS} {o : SO} {Dn : Ends} (R : Rel ca b env σ G H) (e : f c env = some o)
    (h : match o with
      | .nx env' => ∀ σ' G' H', Rel ca b env' σ' G' H' → Same G G' → Stays env σ G H G' H' → Dn.nx σ' H'
      | .ct env' => ∀ σ' G' H', Rel ca b env' σ' G' H' → Same G G' → Dn.ct σ' H'
      | .brk env' => ∀ σ' G' H', Rel ca b env' σ' G' H' → Same G G' → Dn.bk σ' H'
      | .ret r env' => ∀ u σ' G' H', Rel ca b env' σ' G' H' → RRel ca b G' H' u r → Dn.rt u H'
      | .exc x env' => ∀ cls d σ' G' H', Rel ca b env' σ' G' H' → ExcRel ca G' H' cls d x → W cls d σ' H') : rdS ca c W f Dn σ H := by
  refine ⟨Pd.rb env σ G H, env, G, o, R.rb, e, ?_⟩
  cases o with
  | nx env' => exact fun σ' G' H' R' => h σ' G' H' (R.unrb R') R'.g0 (Rel.stays R')
  | ct env' => exact fun σ' G' H' R' => h σ' G' H' (R.unrb R') R'.g0
  | brk env' => exact fun σ' G' H' R' => h σ' G' H' (R.unrb R') R'.g0
  | ret r env' => exact fun u σ' G' H' R' q => h u σ' G' H' (R.unrb R') (RRel.unrb R q)
  | exc x env' => exact fun cls d σ' G' H' R' q => h cls d σ' G' H' (R.unrb R') q

/-! ### blocks -/
def sNil : SS := fun _ env => some (.nx env)
def sSeq (f g : SS) : SS := fun c env => match f c env with
  | some (.nx e) => g c e
  | o => o
theorem s_nil : PSs X [] (rdS ca c W sNil) := PSs_weak pss_nil (by
  rintro D σ H ⟨b, env, G, o, R, e, post⟩
  cases e
  exact post σ G H R)
theorem s_cons {st : Stmt} {rest : List Stmt} {f g : SS} (h1 : PS X st (rdS ca c W f)) (h2 : PSs X rest (rdS ca c W g)) : PSs X (st :: rest) (rdS ca c W (sSeq f g)) := PSs_weak (pss_cons h1 h2) (by
  rintro D σ H ⟨b, env, G, o, R, e, post⟩
  unfold sSeq at e
  cases ef : f c env with
  | none => rw [ef] at e; cases e
  | some o1 =>
    rw [ef] at e
    refine rdS_use R ef ?_
    cases o1 with
    | nx e1 => exact fun σ' G' H' R' _ _ => ⟨b, e1, G', o, R', e, post⟩
    | ret r e1 => cases e; exact post
    | brk e1 => cases e; exact fun σ' G' H' R' _ => post σ' G' H' R'
    | ct e1 => cases e; exact fun σ' G' H' R' _ => post σ' G' H' R'
    | exc x e1 => cases e; exact post)
theorem s_one {st : Stmt} {f : SS} (h1 : PS X st (rdS ca c W f)) : PSs X [st] (rdS ca c W f) := pss_one h1
def sPass : SS := sNil
def sBrk : SS := fun _ env => some (.brk env)
def sCt : SS := fun _ env => some (.ct env)
theorem s_pass : PS X (.Pass pos) (rdS ca c W sNil) := PS_weak ps_pass (by
  rintro D σ H ⟨b, env, G, o, R, e, post⟩
  cases e
  exact post σ G H R)
theorem s_brk : PS X (.Break pos) (rdS ca c W sBrk) := PS_weak ps_break (by
  rintro D σ H ⟨b, env, G, o, R, e, post⟩
  cases e
  exact post σ G H R)
theorem s_ct : PS X (.Continue pos) (rdS ca c W sCt) := PS_weak ps_continue (by
  rintro D σ H ⟨b, env, G, o, R, e, post⟩
  cases e
  exact post σ G H R)
/-- never reached -/
def sNever : SS := fun _ _ => none
theorem s_never {st : Stmt} : PS X st (rdS ca c W sNever) := PS_weak ps_never (by
  rintro D σ H ⟨b, env, G, o, R, e, post⟩
  cases e)
theorem ss_never {st : List Stmt} : PSs X st (rdS ca c W sNever) := PSs_weak pss_never (by
  rintro D σ H ⟨b, env, G, o, R, e, post⟩
  cases e)
/-- an expression's value in a statement -/
def bindS (o : Option EO) (k : Val → Env → Option SO) : Option SO := match o with
  | some (.val v e) => k v e
  | some (.exc x e) => some (.exc x e)
  | none => none
theorem rdS_bind {f : SE} {b : Bs} {env : Env} {σ : St} {G H : Hp} {k : Val → Env → Option SO} {Q' : VK} {o : SO} {Dn : Ends} (R : Rel ca b env σ G H) (e : bindS (f c env) k = some o) (post : SPost ca b W Dn o)
    (h : ∀ v e1 u G1 H1, f c env = some (.val v e1) → Rel ca b e1 σ G1 H1 → VRel ca b e1 σ G1 H1 u v → Same G G1 → k v e1 = some o → Q' u H1) : rdE ca c W f σ H Q' := by
  unfold bindS at e
  split at e
  · rename_i v e1 hf
    exact rdE.use R hf fun u G1 H1 R1 r sg _ => h v e1 u G1 H1 hf R1 r sg e
  · rename_i x e1 hf
    cases e
    exact rdE.use R hf fun cls d G' H' R' q => post cls d σ G' H' R' q
  · cases e
def sIf (ft : SE) (f g : SS) : SS := fun c env => bindS (ft c env) fun v e => match v with
  | .sh (.bl true) => f c e
  | .sh (.bl false) => g c e
  | _ => none
theorem s_if {t : Expr} {a b : List Stmt} {ft : SE} {f g : SS} (ht : PT X t (rdT ca c W ft)) (ha : PSs X a (rdS ca c W f)) (hb : PSs X b (rdS ca c W g)) : PS X (.If t a b pos) (rdS ca c W (sIf ft f g)) := PS_weak (ps_if ht ha hb) (by
  rintro D σ H ⟨b, env, G, o, R, e, post⟩
  unfold sIf bindS at e
  split at e
  · rename_i v e1 hf
    dsimp only at e
    split at e
    · refine rdT_use R hf fun G' H' R' _ _ => ?_
      rw [if_pos rfl]
      exact ⟨b, e1, G', o, R', e, post⟩
    · refine rdT_use R hf fun G' H' R' _ _ => ?_
      rw [if_neg Bool.false_ne_true]
      exact ⟨b, e1, G', o, R', e, post⟩
    · cases e
  · rename_i x e1 hf
    cases e
    exact rdT_use R hf fun cls d G' H' R' q => post cls d σ G' H' R' q
  · cases e)
def sExpr (f : SE) : SS := fun c env => bindS (f c env) fun _ e => some (.nx e)
theorem s_expr {e : Expr} {f : SE} (he : PE X e (rdE ca c W f)) (hs : swapsWith e none pos.line X.env = pure false := by rfl) : PS X (.Expr e pos) (rdS ca c W (sExpr f)) := PS_weak (ps_expr he hs) (by
  rintro D σ H ⟨b, env, G, o, R, e, post⟩
  refine rdS_bind R e post fun v e1 u G1 H1 _ R1 vr sg e => ?_
  cases e
  exact post σ G1 H1 R1)
theorem s_doc {x : Str} {j pos'} : PS X (.Expr (.Constant (.str x) j pos) pos') (rdS ca c W sNil) := PS_weak ps_doc (by
  rintro D σ H ⟨b, env, G, o, R, e, post⟩
  cases e
  exact post σ G H R)
/-- what is handed back -/
def retV (env : Env) : Val → Option (RV × Env)
  | .sh d => some (.sh d, env)
  | .fr cl => some (.fr cl, env)
  | .var i => match env[i]? with
    | some (some (.sh d)) => some (.sh d, env)
    | some (some (.own cl)) => some (.fr cl, env.set i none)
    | _ => none
theorem Rel.drop {b : Bs} {env : Env} {σ : St} {G H : Hp} (R : Rel ca b env σ G H) (i : Nat) : Rel ca b (env.set i none) σ G H := by
  have f : ∀ {j : Nat} {s : Slot}, (env.set i none)[j]? = some (some s) → env[j]? = some (some s) := fun {j s} es => by
    by_cases hj : i = j
    · subst hj
      by_cases hi : i < env.length
      · rw [List.getElem?_set_self hi] at es; cases es
      · rw [List.getElem?_eq_none (by simpa using hi)] at es; cases es
    · rw [List.getElem?_set_ne hj] at es; exact es
  exact ⟨R.sub, R.g0, R.fr, R.dom, R.new, by simpa using R.len, fun j s es => R.slots j s (f es), fun j k s t x hjk e1 e2 => R.apart j k s t x hjk (f e1) (f e2)⟩
theorem VRel.ret {b : Bs} {env env' : Env} {σ : St} {G H : Hp} {u : V} {v : Val} {r : RV} (R : Rel ca b env σ G H) (h : VRel ca b env σ G H u v) (e : retV env v = some (r, env')) : Rel ca b env' σ G H ∧ RRel ca b G H u r := by
  cases v with
  | sh d => cases e; exact ⟨R, h⟩
  | fr cl =>
    cases e
    obtain ⟨a, e1, cr, n, z, _⟩ := h
    exact ⟨R, a, e1, cr, n, z⟩
  | var i =>
    obtain ⟨h1, _⟩ := h
    unfold retV at e
    simp only at e
    split at e
    · rename_i d hs
      cases e
      obtain ⟨w, e1, r⟩ := R.slots i _ hs
      rw [h1] at e1; cases e1
      exact ⟨R, r⟩
    · rename_i cl hs
      cases e
      obtain ⟨w, e1, a, ev, cr, n, z⟩ := R.slots i _ hs
      rw [h1] at e1; cases e1
      exact ⟨R.drop i, a, ev, cr, n, z⟩
    · cases e
def sRet (f : SE) : SS := fun c env => bindS (f c env) fun v e => (retV e v).map fun p => .ret p.1 p.2
theorem s_ret {e : Expr} {f : SE} (he : PE X e (rdE ca c W f)) : PS X (.Return (some e) pos) (rdS ca c W (sRet f)) := PS_weak (ps_ret he) (by
  rintro D σ H ⟨b, env, G, o, R, e, post⟩
  refine rdS_bind R e post fun v e1 u G1 H1 _ R1 vr sg e => ?_
  cases er : retV e1 v with
  | none => rw [er] at e; cases e
  | some p =>
    rw [er] at e
    cases e
    obtain ⟨R2, rr⟩ := VRel.ret (r := p.1) (env' := p.2) R1 vr er
    exact post u σ G1 H1 R2 rr)
def sRetN : SS := fun _ env => some (.ret (.sh .non) env)
theorem s_retN : PS X (.Return none pos) (rdS ca c W sRetN) := PS_weak ps_retN (by
  rintro D σ H ⟨b, env, G, o, R, e, post⟩
  cases e
  exact post .non σ G H R .non)

/-! ### names are stored -/
def setV (env : Env) (i : Nat) : Val → Option Env
  | .sh d => match env[i]? with
    | some (some (.brw _)) => none
    | _ => some (env.set i (some (.sh d)))
  | .fr cl => match env[i]? with
    | some (some (.brw _)) => none
    | _ => some (env.set i (some (.own cl)))
  | .var j => match take env (.var j) with
    | some (d, env') => (match env'[i]? with
      | some (some (.brw _)) => none
      | _ => some (env'.set i (some (.sh d))))
    | none => none
theorem Rel.setSh {b : Bs} {env : Env} {σ : St} {G H : Hp} {u : V} {d : D} (R : Rel ca b env σ G H) (r : Rep ca G u d) (i : Nat) : Rel ca b (env.set i (some (.sh d))) (σ.set i (some u)) G H := by
  have hl := R.len
  refine ⟨R.sub, R.g0, R.fr, R.dom, R.new, by simpa using R.len, fun j s es => ?_, fun j k s t x hjk e1 e2 m1 m2 => ?_⟩
  · by_cases hj : i = j
    · subst hj
      have hi : i < env.length := by
        have := (List.getElem?_eq_some_iff.mp es).1
        simpa using this
      rw [List.getElem?_set_self hi] at es; cases es
      exact ⟨u, by rw [List.getElem?_set_self (by omega)], r⟩
    · rw [List.getElem?_set_ne hj] at es
      obtain ⟨v, e1, q⟩ := R.slots j s es
      exact ⟨v, by rw [List.getElem?_set_ne hj]; exact e1, q⟩
  · have f : ∀ {j : Nat} {s : Slot}, (env.set i (some (Slot.sh d)))[j]? = some (some s) → s.mut = true → env[j]? = some (some s) ∧ (σ.set i (some u))[j]? = σ[j]? := fun {j s} es m => by
      by_cases hj : i = j
      · subst hj
        have hi : i < env.length := by
          have := (List.getElem?_eq_some_iff.mp es).1
          simpa using this
        rw [List.getElem?_set_self hi] at es; cases es; cases m
      · rw [List.getElem?_set_ne hj] at es; exact ⟨es, by rw [List.getElem?_set_ne hj]⟩
    obtain ⟨f1, g1⟩ := f e1 m1
    obtain ⟨f2, g2⟩ := f e2 m2
    rw [g1, g2]
    exact R.apart j k s t x hjk f1 f2 m1 m2
theorem Rel.setOwn {b : Bs} {env : Env} {σ : St} {G H : Hp} {u : V} {cl : Cell} (R : Rel ca b env σ G H) (r : VRel ca b env σ G H u (.fr cl)) (i : Nat) : Rel ca b (env.set i (some (.own cl))) (σ.set i (some u)) G H := by
  have hl := R.len
  obtain ⟨a, rfl, cr, n, z, ap⟩ := r
  refine ⟨R.sub, R.g0, R.fr, R.dom, R.new, by simpa using R.len, fun j s es => ?_, fun j k s t x hjk e1 e2 m1 m2 s1 s2 => ?_⟩
  · by_cases hj : i = j
    · subst hj
      have hi : i < env.length := by
        have := (List.getElem?_eq_some_iff.mp es).1
        simpa using this
      rw [List.getElem?_set_self hi] at es; cases es
      exact ⟨_, by rw [List.getElem?_set_self (by omega)], a, rfl, cr, n, z⟩
    · rw [List.getElem?_set_ne hj] at es
      obtain ⟨v, e1, q⟩ := R.slots j s es
      exact ⟨v, by rw [List.getElem?_set_ne hj]; exact e1, q⟩
  · have at_i : ∀ {s : Slot}, (env.set i (some (Slot.own cl)))[i]? = some (some s) → (σ.set i (some (V.ref a)))[i]? = some (some (V.ref x)) → x = a := fun {s} es e2 => by
      have hi : i < env.length := by
        have := (List.getElem?_eq_some_iff.mp es).1
        simpa using this
      rw [List.getElem?_set_self (by omega)] at e2
      cases e2; rfl
    by_cases hj : i = j
    · subst hj
      have hx := at_i e1 s1
      subst hx
      rw [List.getElem?_set_ne hjk] at e2 s2
      exact ap k t e2 m2 s2
    · by_cases hk : i = k
      · subst hk
        have hx := at_i e2 s2
        subst hx
        rw [List.getElem?_set_ne hj] at e1 s1
        exact ap j s e1 m1 s1
      · rw [List.getElem?_set_ne hj] at e1 s1
        rw [List.getElem?_set_ne hk] at e2 s2
        exact R.apart j k s t x hjk e1 e2 m1 m2 s1 s2
theorem VRel.set {b : Bs} {env env' : Env} {σ : St} {G H : Hp} {u : V} {v : Val} {i : Nat} (R : Rel ca b env σ G H) (h : VRel ca b env σ G H u v) (e : setV env i v = some env') : ∃ G', Same G G' ∧ Rel ca b env' (σ.set i (some u)) G' H := by
  cases v with
  | sh d =>
    unfold setV at e
    simp only at e
    split at e
    · cases e
    · cases e; exact ⟨G, Same.refl _, R.setSh h i⟩
  | fr cl =>
    unfold setV at e
    simp only at e
    split at e
    · cases e
    · cases e; exact ⟨G, Same.refl _, R.setOwn h i⟩
  | var j =>
    unfold setV at e
    simp only at e
    split at e
    · rename_i d env2 et
      split at e
      · cases e
      · cases e
        obtain ⟨G1, s1, R1, r1⟩ := Held.take (v := .var j) R h.1 et
        exact ⟨G1, s1, R1.setSh r1 i⟩
    · cases e
def sSet (i : Nat) (f : SE) : SS := fun c env => bindS (f c env) fun v e => (setV e i v).map .nx
theorem s_set {i : Nat} {x : Str} {e : Expr} {f : SE} {pos' : Pos} (hN : X.N.Nodup) (he : PE X e (rdE ca c W f)) (hi : X.N[i]? = some x := by rfl) (hx : Loc X.env.scope x := by first | exact Or.inl rfl | exact Or.inr rfl) (hs : swapsWith e (some (.Name x pos')) pos.line X.env = pure false := by rfl)
    (hf : X.fn x = true ∨ X.env.scope.names.lookup x = some .local := by first | exact .inl rfl | exact .inr rfl | assumption) : PS X (.Assign [.Name x pos'] e pos) (rdS ca c W (sSet i f)) := PS_weak (ps_set hN hi hx he hs hf) (by
  rintro D σ H ⟨b, env, G, o, R, e, post⟩
  refine rdS_bind R e post fun v e1 u G1 H1 _ R1 vr sg e => ?_
  cases er : setV e1 i v with
  | none => rw [er] at e; cases e
  | some e2 =>
    rw [er] at e
    cases e
    obtain ⟨G2, s2, R2⟩ := VRel.set R1 vr er
    exact post _ G2 H1 R2)

/-! ### targets -/
abbrev SG := D → Env → Option Env
/-- nothing but these slots -/
def But (js : List Nat) (σ σ' : St) : Prop := σ'.length = σ.length ∧ ∀ j, j ∉ js → σ'[j]? = σ[j]?
def rdG (ca : PySem.W.Frag) (g : SG) (js : List Nat) : TG := fun v σ H Q => ∃ b env G d env', Rel ca b env σ G H ∧ Rep ca G v d ∧ g d env = some env' ∧ ∀ σ', Rel ca b env' σ' G H → But js σ σ' → Q σ' H
def rdGs (ca : PySem.W.Frag) (g : List D → Env → Option Env) (js : List Nat) : TGs := fun vs σ H Q => ∃ b env G ds env', Rel ca b env σ G H ∧ Reps ca G vs ds ∧ g ds env = some env' ∧ ∀ σ', Rel ca b env' σ' G H → But js σ σ' → Q σ' H
theorem PG_weak {e : Expr} {t t' : TG} (h : PG X e t) (w : ∀ v σ H Q, t' v σ H Q → t v σ H Q) : PG X e t' := ⟨fun pins s σ H v u Q I r q => h.run pins s σ H v u Q I r (w v σ H Q q)⟩
theorem PGs_weak {e : List Expr} {t t' : TGs} (h : PGs X e t) (w : ∀ v σ H Q, t' v σ H Q → t v σ H Q) : PGs X e t' := ⟨fun pins s σ H v u Q I r q => h.run pins s σ H v u Q I r (w v σ H Q q)⟩
def gNm (i : Nat) : SG := fun d env => setV env i (.sh d)
theorem g_nm {i : Nat} {x : Str} (hN : X.N.Nodup) (hi : X.N[i]? = some x := by rfl) (hx : Loc X.env.scope x := by first | exact Or.inl rfl | exact Or.inr rfl) (hf : X.fn x = true ∨ X.env.scope.names.lookup x = some .local := by first | exact .inl rfl | exact .inr rfl | assumption) : PG X (.Name x pos) (rdG ca (gNm i) [i]) := PG_weak (pg_name hN hi hx hf) (by
  rintro v σ H Q ⟨b, env, G, d, env', R, r, e, q⟩
  have e2 : setV env i (.sh d) = some env' := e
  unfold setV at e2
  simp only at e2
  split at e2
  · cases e2
  · cases e2
    exact q _ (R.setSh r i) ⟨by simp, fun j hj => by rw [List.getElem?_set_ne]; simp at hj; exact fun z => hj z.symm⟩)
def gsNil : List D → Env → Option Env
  | [], env => some env
  | _, _ => none
def gsCons (g : SG) (gs : List D → Env → Option Env) : List D → Env → Option Env
  | d :: ds, env => (g d env).bind fun e => gs ds e
  | [], _ => none
theorem gs_nil : PGs X [] (rdGs ca gsNil []) := PGs_weak pgs_nil (by
  rintro v σ H Q ⟨b, env, G, d, env', R, r, e, q⟩
  cases d with
  | nil =>
    cases e
    have := r.len
    refine ⟨List.eq_nil_of_length_eq_zero (by simpa using this), q σ R ⟨rfl, fun _ _ => rfl⟩⟩
  | cons => cases e)
theorem gs_cons {e : Expr} {es : List Expr} {g : SG} {gs : List D → Env → Option Env} {js ks : List Nat} (h1 : PG X e (rdG ca g js)) (h2 : PGs X es (rdGs ca gs ks)) (hs : (assignEach (e :: es) X.env).map (·.2) = assign e X.env :: (assignEach es X.env).map (·.2) := by rfl) : PGs X (e :: es) (rdGs ca (gsCons g gs) (js ++ ks)) := PGs_weak (pgs_cons h1 h2 hs) (by
  rintro vs σ H Q ⟨b, env, G, ds, env', R, r, e, q⟩
  cases ds with
  | nil => cases e
  | cons d ds =>
    cases vs with
    | nil => have := r.len; simp at this
    | cons v vs =>
      unfold gsCons at e
      simp only at e
      cases eg : g d env with
      | none => rw [eg] at e; cases e
      | some e1 =>
        rw [eg] at e
        refine ⟨v, vs, rfl, b, env, G, d, e1, R, r.at_ 0 v d rfl rfl, eg, fun σ' R' bt => ?_⟩
        refine ⟨b, e1, G, ds, env', R', ⟨by have := r.len; simpa using this, fun i u e' h1 h2 => r.at_ (i + 1) u e' (by simpa using h1) (by simpa using h2)⟩, e, fun σ2 R2 bt2 => q σ2 R2 ⟨bt2.1.trans bt.1, fun j hj => ?_⟩⟩
        simp at hj
        rw [bt2.2 j hj.2, bt.2 j hj.1])
def gTp (n : Nat) (gs : List D → Env → Option Env) : SG := fun d env => match d with
  | .tup ds => if ds.length = n then gs ds env else none
  | _ => none
theorem g_tp {es : List Expr} {k : Nat} {gs : List D → Env → Option Env} {n : Nat} {js : List Nat} (hc : X.calm = true) (h : PGs X es (rdGs ca gs js)) (hn : (assignEach es X.env).length = n := by rfl) (hst : (assignEach es X.env).findIdx? (·.1) = none := by rfl) : PG X (.Tuple es k pos) (rdG ca (gTp n gs) js) := PG_weak (pg_tup hc h hn hst) (by
  rintro v σ H Q ⟨b, env, G, d, env', R, r, e, q⟩
  cases d with
  | tup ds =>
    unfold gTp at e
    simp only at e
    split at e
    · rename_i hl
      cases r with
      | tup r l q' =>
        exact ⟨_, _, rfl, SqT.of (R.sub _ _ r), by rw [l, hl], b, env, G, ds, env', R, ⟨l, q'⟩, e, q⟩
    · cases e
  | _ => cases e)
/-- target = value (a tuple of targets) -/
def sAsg (g : SG) (f : SE) : SS := fun c env => bindS (f c env) fun v e => (take e v).bind fun p => (g p.1 p.2).map .nx
theorem s_asg {tg e : Expr} {f : SE} {g : SG} {js : List Nat} (he : PE X e (rdE ca c W f)) (hg : PG X tg (rdG ca g js)) (hs : swapsWithSole [tg] e pos.line X.env = pure false := by rfl) (hw : swappedStores [tg] e X.env = pure none := by rfl)
    (h1 : (assignEach [tg] X.env).map (·.2) = [assign tg X.env] := by rfl) : PS X (.Assign [tg] e pos) (rdS ca c W (sAsg g f)) := PS_weak (ps_asg he hg hs hw h1) (by
  rintro D σ H ⟨b, env, G, o, R, e, post⟩
  refine rdS_bind R e post fun v e1 u G1 H1 _ R1 vr sg e => ?_
  obtain ⟨G2, s2, R2, hd⟩ := VRel.held R1 vr
  cases et : take e1 v with
  | none => rw [et] at e; cases e
  | some p =>
    rw [et] at e
    simp only [Option.bind_some] at e
    cases eg : g p.1 p.2 with
    | none => rw [eg] at e; cases e
    | some e3 =>
      rw [eg] at e
      cases e
      obtain ⟨G3, s3, R3, r3⟩ := hd.take (d := p.1) (env' := p.2) R2 et
      exact ⟨b, p.2, G3, p.1, e3, R3, r3, eg, fun σ' R' _ => post σ' G3 H1 R'⟩)
end
end Pd
/-! Pd5: loops, comprehensions, what they walk -/
namespace Pd
open PySem PySem.Spec L2
inductive IO where
  | its (ds : List D) (env : Env) | exc (x : Exc) (env : Env)
abbrev SI := CT → Env → Option IO
section
variable {X : Cx} {ca : PySem.W.Frag} {c : CT} {W : WX} {pos : Pos}
/-- an iterator that gives these data, one by one, whatever the heap has grown to -/
def ItOk (ca : PySem.W.Frag) (G0 : Hp) (J : It) (ds : List D) : Prop :=
  ∀ (i : Nat) (H G : Hp), Same G0 G → Same G H → (∀ d, ds[i]? = some d → J.go i H ∧ ∀ x H', J.yld i H x H' → OpOut ca G H x H' (.sh d)) ∧ (ds.length ≤ i → J.stop i H)
def IPost (ca : PySem.W.Frag) (b : Bs) (W : WX) (σ : St) (R : It → Hp → Prop) : IO → Prop
  | .its ds env' => ∀ J G' H', Rel ca b env' σ G' H' → ItOk ca G' J ds → R J H'
  | .exc x env' => ∀ cls d G' H', Rel ca b env' σ G' H' → ExcRel ca G' H' cls d x → W cls d σ H'
def rdI (ca : PySem.W.Frag) (c : CT) (W : WX) (f : SI) : TI := fun σ H R => ∃ b env G o, Rel ca b env σ G H ∧ f c env = some o ∧ IPost ca b W σ R o
theorem PI_weak {tg e : Expr} {t t' : TI} (h : PI X tg e t) (w : ∀ σ H Q, t' σ H Q → t σ H Q) : PI X tg e t' := ⟨fun pins s σ H R I q => h.run pins s σ H R I (w σ H R q)⟩
theorem rdI_use {b : Bs} {env : Env} {σ : St} {G H : Hp} {f : SI} {o : IO} {R' : It → Hp → Prop} (R : Rel ca b env σ G H) (e : f c env = some o)
    (h : match o with
      | .its ds env' => ∀ J G' H', Rel ca b env' σ G' H' → ItOk ca G' J ds → Same G G' → R' J H'
      | .exc x env' => ∀ cls d G' H', Rel ca b env' σ G' H' → ExcRel ca G' H' cls d x → W cls d σ H') : rdI ca c W f σ H R' := by
  refine ⟨Pd.rb env σ G H, env, G, o, R.rb, e, ?_⟩
  cases o with
  | its ds e' => exact fun J G' H' R' q => h J G' H' (R.unrb R') q R'.g0
  | exc x e' => exact fun cls d G' H' R' r => h cls d G' H' (R.unrb R') r

/-! ### sources -/
def bindI (o : Option EO) (k : Val → Env → Option IO) : Option IO := match o with
  | some (.val v e) => k v e
  | some (.exc x e) => some (.exc x e)
  | none => none
/-- what a list, a tuple, a text gives -/
def itemsOf : D → Option (List D)
  | .lst ds => some ds
  | .tup ds => some ds
  | .scr ns => some (ns.map D.int)
  | .str z => some (z.cps.toList.map fun n => D.str ⟨#[n]⟩)
  | _ => none
def itSeq (f : SE) : SI := fun c env => bindI (f c env) fun v e => (take e v).bind fun p => (itemsOf p.1).map fun ds => .its ds p.2
theorem itl_ok {G0 : Hp} {a : Addr} {vs : List V} {ds : List D} (h : SqL ca G0 a vs) (u : ∀ H ys zs, SqL ca H a ys → SqL ca H a zs → Same G0 H → ys = zs) (r : Reps ca G0 vs ds) : ItOk ca G0 (Itl ca a) ds := by
  intro i H G s t
  have q := (s.trans t).seq h
  refine ⟨fun d hd => ?_, fun hi => ⟨vs, q, by rw [r.len]; exact hi⟩⟩
  obtain ⟨v, hv, rv⟩ := r.get hd
  refine ⟨⟨vs, v, q, hv⟩, fun x H' y => ?_⟩
  obtain ⟨e, y⟩ := y
  subst e
  have := y vs q
  rw [hv] at this; cases this
  exact out_sh (rv.mono s)
theorem itl_of {G0 : Hp} {a : Addr} {vs : List V} {ds : List D} (h : SqL ca G0 a vs) (r : Reps ca G0 vs ds) : ItOk ca G0 (Itl ca a) ds := by
  intro i H G s t
  have q := (s.trans t).seq h
  refine ⟨fun d hd => ?_, fun hi => ⟨vs, q, by rw [r.len]; exact hi⟩⟩
  obtain ⟨v, hv, rv⟩ := r.get hd
  refine ⟨⟨vs, v, q, hv⟩, fun x H' y => ?_⟩
  obtain ⟨e, y⟩ := y
  subst e
  have := y vs q
  rw [hv] at this; cases this
  exact out_sh (rv.mono s)
theorem itt_of {G0 : Hp} {a : Addr} {vs : List V} {ds : List D} (h : G0 a = some (.tup vs)) (r : Reps ca G0 vs ds) : ItOk ca G0 (Itt ca a) ds := by
  intro i H G s t
  have q : SqT ca H a vs := SqT.of ((s.trans t) _ _ h)
  refine ⟨fun d hd => ?_, fun hi => ⟨vs, q, by rw [r.len]; exact hi⟩⟩
  obtain ⟨v, hv, rv⟩ := r.get hd
  refine ⟨⟨vs, v, q, hv⟩, fun x H' y => ?_⟩
  obtain ⟨e, y⟩ := y
  subst e
  have := y vs q
  rw [hv] at this; cases this
  exact out_sh (rv.mono s)
theorem its_of {G0 : Hp} {z : Str} : ItOk ca G0 (Its z) (z.cps.toList.map fun n => D.str ⟨#[n]⟩) := by
  intro i H G s t
  refine ⟨fun d hd => ?_, fun hi => show z.cps.size ≤ i from by simpa using hi⟩
  rw [List.getElem?_map] at hd
  cases hz : z.cps.toList[i]? with
  | none => rw [hz] at hd; cases hd
  | some n =>
    rw [hz] at hd
    cases hd
    have hi : i < z.cps.size := by
      have := (List.getElem?_eq_some_iff.mp hz).1
      simpa using this
    refine ⟨hi, fun x H' y => ?_⟩
    obtain ⟨e, n', h1, h2⟩ := y
    subst e h2
    have h3 : z.cps.toList[i]? = some n' := by simpa using h1
    rw [hz] at h3; cases h3
    exact out_sh (.str _)
theorem itr_of {G0 : Hp} {lo : Int} {n : Nat} : ItOk ca G0 (Itr lo n) ((List.range n).map fun k => D.int (lo + (k : Nat))) := by
  intro i H G s t
  refine ⟨fun d hd => ?_, fun hi => show n ≤ i from by simpa using hi⟩
  rw [List.getElem?_map] at hd
  by_cases hi : i < n
  · rw [List.getElem?_range hi] at hd
    cases hd
    refine ⟨hi, fun x H' y => ?_⟩
    obtain ⟨e, y⟩ := y
    subst e y
    exact out_sh (.int _)
  · rw [List.getElem?_eq_none (by simpa using hi)] at hd; cases hd
theorem i_seq {tg l : Expr} {f : SE} (he : PE X l (rdE ca c W f)) (hK : X.K = ca := by rfl) : PI X tg l (rdI ca c W (itSeq f)) := by
  refine ⟨fun pins s σ H R I h => ?_⟩
  obtain ⟨b, env, G, o, R0, e, post⟩ := h
  unfold itSeq bindI at e
  split at e
  · rename_i v e1 hf
    dsimp only at e
    cases et : take e1 v with
    | none => rw [et] at e; cases e
    | some p =>
      rw [et] at e
      simp only [Option.bind_some] at e
      -- the frozen source
      have go : ∀ u G1 H1, Rel ca b e1 σ G1 H1 → VRel ca b e1 σ G1 H1 u v → ∃ G2, Rel ca b p.2 σ G2 H1 ∧ Rep ca G2 u p.1 := fun u G1 H1 R1 vr => by
        obtain ⟨G2, s2, R2, hd⟩ := VRel.held R1 vr
        obtain ⟨G3, s3, R3, r3⟩ := hd.take (d := p.1) (env' := p.2) R2 et
        exact ⟨G3, R3, r3⟩
      generalize hp : p.1 = d at e go
      cases d with
      | lst ds =>
        cases e
        refine (pi_list he).run pins s σ H R I (rdE.use R0 hf fun u G1 H1 R1 vr _ _ => ?_)
        obtain ⟨G2, R2, rp⟩ := go u G1 H1 R1 vr
        cases rp with
        | lst r l q =>
          rw [hK]
          exact ⟨_, rfl, ⟨_, SqL.of (R2.sub _ _ r)⟩, post _ G2 H1 R2 (itl_of (SqL.of r) ⟨l, q⟩)⟩
      | scr ns =>
        cases e
        refine (pi_list he).run pins s σ H R I (rdE.use R0 hf fun u G1 H1 R1 vr _ _ => ?_)
        obtain ⟨G2, R2, rp⟩ := go u G1 H1 R1 vr
        cases rp with
        | scr r =>
          rw [hK]
          refine ⟨_, rfl, ⟨_, R2.sub.seq r⟩, post _ G2 H1 R2 (itl_of r ⟨by simp, fun i v d h1 h2 => ?_⟩)⟩
          rw [List.getElem?_map] at h1 h2
          cases hn : ns[i]? with
          | none => rw [hn] at h1; cases h1
          | some m => rw [hn] at h1 h2; cases h1; cases h2; exact .int m
      | tup ds =>
        cases e
        refine (pi_tup he).run pins s σ H R I (rdE.use R0 hf fun u G1 H1 R1 vr _ _ => ?_)
        obtain ⟨G2, R2, rp⟩ := go u G1 H1 R1 vr
        cases rp with
        | tup r l q =>
          rw [hK]
          exact ⟨_, rfl, ⟨_, SqT.of (R2.sub _ _ r)⟩, post _ G2 H1 R2 (itt_of r ⟨l, q⟩)⟩
      | str z =>
        cases e
        refine (pi_str he).run pins s σ H R I (rdE.use R0 hf fun u G1 H1 R1 vr _ _ => ?_)
        obtain ⟨G2, R2, rp⟩ := go u G1 H1 R1 vr
        cases rp
        exact ⟨_, rfl, post _ G2 H1 R2 its_of⟩
      | _ => cases e
  · rename_i x e1 hf
    cases e
    exact (pi_list he).run pins s σ H R I (rdE.use R0 hf fun cls d G' H' R' q => post cls d G' H' R' q)
  · cases e
/-- range(n) -/
def itRange1 (fs : SA) : SI := fun c env => match fs c env with
  | some (.vals vs e) => (match peeks e vs with
    | some [.int j] => if -(2 ^ 62) ≤ j ∧ j < 2 ^ 62 then some (.its ((List.range j.toNat).map fun k => D.int (0 + (k : Nat))) e) else none
    | _ => none)
  | some (.exc x e) => some (.exc x e)
  | none => none
def itRange2 (fs : SA) : SI := fun c env => match fs c env with
  | some (.vals vs e) => (match peeks e vs with
    | some [.int i, .int j] => if (-(2 ^ 62) ≤ i ∧ i < 2 ^ 62) ∧ (-(2 ^ 62) ≤ j ∧ j < 2 ^ 62) then some (.its ((List.range (j - i).toNat).map fun k => D.int (i + (k : Nat))) e) else none
    | _ => none)
  | some (.exc x e) => some (.exc x e)
  | none => none
theorem i_range1 {tg a : Expr} {fs : SA} {p : Pos} (hg : Gl X "range") (hm : X.mg "range" = none) (ha : PA X [a] (rdA ca c W fs)) (hs : starEach [a] X.env = [(false, eval a X.env)] := by rfl) : PI X tg (.Call (.Name "range" p) [a] [] pos) (rdI ca c W (itRange1 fs)) := PI_weak (pi_range1 hg hm ha hs) (by
  rintro σ H R ⟨b, env, G, o, R0, e, post⟩
  unfold itRange1 at e
  split at e
  · rename_i vs e1 hf
    split at e
    · rename_i j hp
      split at e
      · rename_i hb
        cases e
        refine rdA_use R0 hf fun us G' H' R' hd _ => ?_
        have hq := hd.peeks R' hp
        cases hq with
        | cons q t =>
          cases t
          cases peek_int q
          exact ⟨j, rfl, hb.1, hb.2, post _ G' H' R' itr_of⟩
      · cases e
    · cases e
  · rename_i x e1 hf
    cases e
    exact rdA_use R0 hf fun cls d G' H' R' q => post cls d G' H' R' q
  · cases e)
theorem i_range2 {tg a a2 : Expr} {fs : SA} {p : Pos} (hg : Gl X "range") (hm : X.mg "range" = none) (ha : PA X [a, a2] (rdA ca c W fs)) (hs : starEach [a, a2] X.env = [(false, eval a X.env), (false, eval a2 X.env)] := by rfl) (hs2 : starEach [a2] X.env = [(false, eval a2 X.env)] := by rfl) :
    PI X tg (.Call (.Name "range" p) [a, a2] [] pos) (rdI ca c W (itRange2 fs)) := PI_weak (pi_range2 hg hm ha hs hs2) (by
  rintro σ H R ⟨b, env, G, o, R0, e, post⟩
  unfold itRange2 at e
  split at e
  · rename_i vs e1 hf
    split at e
    · rename_i i j hp
      split at e
      · rename_i hb
        cases e
        refine rdA_use R0 hf fun us G' H' R' hd _ => ?_
        have hq := hd.peeks R' hp
        cases hq with
        | cons q t =>
          cases t with
          | cons q2 t2 =>
            cases t2
            cases peek_int q
            cases peek_int q2
            exact ⟨i, j, rfl, ⟨hb.1.1, hb.1.2, hb.2.1, hb.2.2⟩, post _ G' H' R' itr_of⟩
      · cases e
    · cases e
  · rename_i x e1 hf
    cases e
    exact rdA_use R0 hf fun cls d G' H' R' q => post cls d G' H' R' q
  · cases e)

/-! ### for -/
def forL (g : SG) (f : Env → Option SO) : List D → Env → Option SO
  | [], env => some (.nx env)
  | d :: ds, env => (g d env).bind fun e1 => match f e1 with
    | some (.nx e2) => forL g f ds e2
    | some (.ct e2) => forL g f ds e2
    | some (.brk e2) => some (.nx e2)
    | o => o
def sFor (it : SI) (g : SG) (f : SS) : SS := fun c env => match it c env with
  | some (.its ds e) => forL g (f c) ds e
  | some (.exc x e) => some (.exc x e)
  | none => none
theorem SPost.rb {b : Bs} {env : Env} {σ : St} {G H : Hp} {Dn : Ends} {o : SO} (R : Rel ca b env σ G H) (p : SPost ca b W Dn o) : SPost ca (Pd.rb env σ G H) W Dn o := by
  cases o with
  | nx env' => exact fun σ' G' H' R' => p σ' G' H' (R.unrb R')
  | ct env' => exact fun σ' G' H' R' => p σ' G' H' (R.unrb R')
  | brk env' => exact fun σ' G' H' R' => p σ' G' H' (R.unrb R')
  | ret r env' => exact fun u σ' G' H' R' q => p u σ' G' H' (R.unrb R') (RRel.unrb R q)
  | exc x env' => exact fun cls d σ' G' H' R' q => p cls d σ' G' H' (R.unrb R') q
theorem s_for {tg iter : Expr} {body : List Stmt} {it : SI} {g : SG} {f : SS} {js : List Nat} (hp : PassesOwn (model X.prog X.w) X.A X.env X.xe) (hc : X.calm = true) (hi : PI X tg iter (rdI ca c W it)) (hg : PG X tg (rdG ca g js)) (hb : PSs X body (rdS ca c W f))
    (hs : ∀ x, foldedSetIterable iter X.env x = pure x := by intro _; rfl) : PS X (.For tg iter body [] pos) (rdS ca c W (sFor it g f)) := PS_weak (ps_for hp hc hi hg hb hs) (by
  rintro D σ H ⟨b, env, G, o, R, e, post⟩
  unfold sFor at e
  split at e
  · rename_i ds e0 hf
    refine rdI_use R hf fun J G1 H1 R1 ok _ => ?_
    have post1 := post.rb R1
    have R1b := R1.rb
    generalize Pd.rb e0 σ G1 H1 = b1 at post1 R1b
    refine ⟨fun i m σ' H' => m = ds.length - i ∧ i ≤ ds.length ∧ ∃ en G', Rel ca b1 en σ' G' H' ∧ Same G1 G' ∧ forL g (f c) (ds.drop i) en = some o, ⟨_, rfl, Nat.zero_le _, e0, G1, R1b, Same.refl _, by simpa using e⟩, ?_⟩
    rintro i m σ' H' ⟨rfl, hi, en, G', R', sg, ef⟩
    by_cases hlt : i < ds.length
    · have hd : ds[i]? = some ds[i] := by simp [hlt]
      obtain ⟨go, yl⟩ := (ok i H' G' sg R'.sub).1 _ hd
      rw [List.drop_eq_getElem_cons hlt] at ef
      unfold forL at ef
      cases eg : g ds[i] en with
      | none => rw [eg] at ef; cases ef
      | some e1 =>
        rw [eg] at ef
        simp only [Option.bind_some] at ef
        refine .inr ⟨go, fun σ2 H2 => ∃ en2 G2, Rel ca b1 en2 σ2 G2 H2 ∧ Same G1 G2 ∧ forL g (f c) (ds.drop (i + 1)) en2 = some o, fun σ2 H2 ⟨en2, G2, R2, s2, q2⟩ => ⟨ds.length - (i + 1), by omega, rfl, hlt, en2, G2, R2, s2, q2⟩, fun x H2 y => ?_⟩
        obtain ⟨G2, s2, R2, vr⟩ := (yl x H2 y).at R'
        refine ⟨b1, en, G2, ds[i], e1, R2, vr, eg, fun σ3 R3 _ => ?_⟩
        cases eo : f c e1 with
        | none => rw [eo] at ef; cases ef
        | some o2 =>
          rw [eo] at ef
          refine rdS_use R3 eo ?_
          cases o2 with
          | nx e2 => exact fun σ4 G4 H4 R4 s4 _ => ⟨e2, G4, R4, (sg.trans s2).trans s4, ef⟩
          | ct e2 => exact fun σ4 G4 H4 R4 s4 => ⟨e2, G4, R4, (sg.trans s2).trans s4, ef⟩
          | brk e2 => cases ef; exact fun σ4 G4 H4 R4 _ => post1 σ4 G4 H4 R4
          | ret r e2 => cases ef; exact post1
          | exc x e2 => cases ef; exact post1
    · have hh : i = ds.length := by omega
      subst hh
      rw [List.drop_length] at ef
      cases ef
      exact .inl ⟨(ok _ H' G' sg R'.sub).2 (Nat.le_refl _), post1 σ' G' H' R'⟩
  · rename_i x e0 hf
    cases e
    exact rdI_use R hf fun cls d G' H' R' q => post cls d σ G' H' R' q
  · cases e)

/-! ### while -/
def whileF (t : Env → Option EO) (f : Env → Option SO) : Nat → Env → Option SO
  | 0, _ => none
  | n + 1, env => bindS (t env) fun v e => match v with
    | .sh (.bl true) => (match f e with
      | some (.nx e2) => whileF t f n e2
      | some (.ct e2) => whileF t f n e2
      | some (.brk e2) => some (.nx e2)
      | o => o)
    | .sh (.bl false) => some (.nx e)
    | _ => none
theorem whileF_mono {t : Env → Option EO} {f : Env → Option SO} : ∀ (n : Nat) {env : Env} {o : SO}, whileF t f n env = some o → whileF t f (n + 1) env = some o
  | 0, _, _, h => by cases h
  | n + 1, env, o, h => by
    unfold whileF at h ⊢
    cases ht : t env with
    | none => rw [ht] at h; cases h
    | some eo =>
      rw [ht] at h
      cases eo with
      | exc x e => exact h
      | val v e =>
        cases v with
        | sh d =>
          cases d with
          | bl k =>
            cases k with
            | false => exact h
            | true =>
              have h : (match f e with
                | some (.nx e2) => whileF t f n e2
                | some (.ct e2) => whileF t f n e2
                | some (.brk e2) => some (.nx e2)
                | o => o) = some o := h
              show (match f e with
                | some (.nx e2) => whileF t f (n + 1) e2
                | some (.ct e2) => whileF t f (n + 1) e2
                | some (.brk e2) => some (.nx e2)
                | o => o) = some o
              cases hf : f e with
              | none => rw [hf] at h; cases h
              | some so =>
                rw [hf] at h
                cases so with
                | nx e2 => exact whileF_mono n h
                | ct e2 => exact whileF_mono n h
                | brk e2 => exact h
                | ret r e2 => exact h
                | exc x e2 => exact h
          | _ => cases h
        | _ => cases h
theorem whileF_le {t : Env → Option EO} {f : Env → Option SO} {n m : Nat} {env : Env} {o : SO} (h : whileF t f n env = some o) (hm : n ≤ m) : whileF t f m env = some o := by
  induction hm with
  | refl => exact h
  | step _ ih => exact whileF_mono _ ih
open Classical in
noncomputable def sWhile (t : SE) (f : SS) : SS := fun c env => if h : ∃ o n, whileF (t c) (f c) n env = some o then some h.choose else none
theorem sWhile_eq {t : SE} {f : SS} {env : Env} {n : Nat} {o : SO} (h : whileF (t c) (f c) n env = some o) : sWhile t f c env = some o := by
  have hx : ∃ o n, whileF (t c) (f c) n env = some o := ⟨o, n, h⟩
  unfold sWhile
  rw [dif_pos hx]
  obtain ⟨m, hm⟩ := hx.choose_spec
  have h1 := whileF_le h (Nat.le_max_left n m)
  have h2 := whileF_le hm (Nat.le_max_right n m)
  rw [h1] at h2
  exact h2.symm
theorem sWhile_of {t : SE} {f : SS} {env : Env} {o : SO} (h : sWhile t f c env = some o) : ∃ n, whileF (t c) (f c) n env = some o := by
  unfold sWhile at h
  split at h
  · rename_i hx
    obtain ⟨n, hn⟩ := hx.choose_spec
    cases h
    exact ⟨n, hn⟩
  · cases h
theorem s_while {t : Expr} {body : List Stmt} {ft : SE} {f : SS} (hp : PassesOwn (model X.prog X.w) X.A X.env X.xe) (ht : PT X t (rdT ca c W ft)) (hb : PSs X body (rdS ca c W f)) : PS X (.While t body [] pos) (rdS ca c W (sWhile ft f)) := PS_weak (ps_while hp ht hb) (by
  rintro D σ H ⟨b, env, G, o, R, e, post⟩
  obtain ⟨n, hn⟩ := sWhile_of e
  refine ⟨fun m σ' H' => ∃ en G', Rel ca b en σ' G' H' ∧ whileF (ft c) (f c) m en = some o, ⟨n, env, G, R, hn⟩, ?_⟩
  rintro m σ' H' ⟨en, G', R', hw⟩
  cases m with
  | zero => cases hw
  | succ m =>
    unfold whileF bindS at hw
    split at hw
    · rename_i v e1 hf
      dsimp only at hw
      split at hw
      · refine rdT_use R' hf fun G2 H2 R2 _ _ => ?_
        rw [if_pos rfl]
        refine ⟨fun σ3 H3 => ∃ en3 G3, Rel ca b en3 σ3 G3 H3 ∧ whileF (ft c) (f c) m en3 = some o, fun σ3 H3 h3 => ⟨m, Nat.lt_succ_self _, h3⟩, ?_⟩
        cases eo : f c e1 with
        | none => rw [eo] at hw; cases hw
        | some o2 =>
          rw [eo] at hw
          refine rdS_use R2 eo ?_
          cases o2 with
          | nx e2 => exact fun σ4 G4 H4 R4 _ _ => ⟨e2, G4, R4, hw⟩
          | ct e2 => exact fun σ4 G4 H4 R4 _ => ⟨e2, G4, R4, hw⟩
          | brk e2 => cases hw; exact fun σ4 G4 H4 R4 _ => post σ4 G4 H4 R4
          | ret r e2 => cases hw; exact post
          | exc x e2 => cases hw; exact post
      · cases hw
        refine rdT_use R' hf fun G2 H2 R2 _ _ => ?_
        rw [if_neg Bool.false_ne_true]
        exact post σ' G2 H2 R2
      · cases hw
    · rename_i x e1 hf
      cases hw
      exact rdT_use R' hf fun cls d G2 H2 R2 q => post cls d σ' G2 H2 R2 q
    · cases hw)
end
end Pd
/-! Pd6: list comprehensions -/
namespace Pd
open PySem PySem.Spec L2
def wipeE (env : Env) : List Nat → Env
  | [] => env
  | v :: vs => (wipeE env vs).set v none
def restE (e0 env : Env) : List Nat → Env
  | [] => env
  | v :: vs => (restE e0 env vs).set v (e0[v]?.join)
def calmE (env : Env) (vs : List Nat) : Bool := vs.all fun v => match env[v]? with
  | some (some s) => !s.mut
  | _ => true
theorem wipeE_len (env : Env) : ∀ vs, (wipeE env vs).length = env.length
  | [] => rfl
  | v :: vs => by unfold wipeE; rw [List.length_set, wipeE_len env vs]
theorem restE_len (e0 env : Env) : ∀ vs, (restE e0 env vs).length = env.length
  | [] => rfl
  | v :: vs => by unfold restE; rw [List.length_set, restE_len e0 env vs]
theorem restE_out (e0 env : Env) {j : Nat} : ∀ {vs : List Nat}, j ∉ vs → (restE e0 env vs)[j]? = env[j]?
  | [], _ => rfl
  | v :: vs, h => by
    simp at h
    unfold restE
    rw [List.getElem?_set_ne (fun z => h.1 z.symm), restE_out e0 env h.2]
theorem restE_in (e0 env : Env) {j : Nat} : ∀ {vs : List Nat}, j ∈ vs → ∀ s, (restE e0 env vs)[j]? = some (some s) → e0[j]? = some (some s)
  | [], h => by simp at h
  | v :: vs, h => fun s hs => by
    unfold restE at hs
    by_cases hv : v = j
    · subst hv
      by_cases hl : v < (restE e0 env vs).length
      · rw [List.getElem?_set_self hl] at hs
        have hs : e0[v]?.join = some s := by simpa using hs
        cases q : e0[v]? with
        | none => rw [q] at hs; cases hs
        | some o => rw [q] at hs; cases o with
          | none => cases hs
          | some s' => cases hs; rfl
      · rw [List.getElem?_eq_none (by simpa using hl)] at hs; cases hs
    · rw [List.getElem?_set_ne hv] at hs
      exact restE_in e0 env ((List.mem_cons.mp h).resolve_left fun z => hv z.symm) s hs
section
variable {ca : PySem.W.Frag} {b : Bs} {env : Env} {σ : St} {G H : Hp}
theorem Rel.wipe1 (R : Rel ca b env σ G H) (v : Nat) : Rel ca b (env.set v none) (σ.set v none) G H := by
  have f : ∀ {j : Nat} {s : Slot}, (env.set v none)[j]? = some (some s) → env[j]? = some (some s) ∧ (σ.set v none)[j]? = σ[j]? := fun {j s} es => by
    by_cases hj : v = j
    · subst hj
      by_cases hi : v < env.length
      · rw [List.getElem?_set_self hi] at es; cases es
      · rw [List.getElem?_eq_none (by simpa using hi)] at es; cases es
    · rw [List.getElem?_set_ne hj] at es; exact ⟨es, by rw [List.getElem?_set_ne hj]⟩
  refine ⟨R.sub, R.g0, R.fr, R.dom, R.new, by simpa using R.len, fun j s es => ?_, fun j k s t x hjk e1 e2 m1 m2 => ?_⟩
  · obtain ⟨f1, f2⟩ := f es
    rw [f2]
    exact R.slots j s f1
  · obtain ⟨f1, g1⟩ := f e1
    obtain ⟨f2, g2⟩ := f e2
    rw [g1, g2]
    exact R.apart j k s t x hjk f1 f2 m1 m2
theorem Rel.wipe (R : Rel ca b env σ G H) : ∀ vs : List Nat, Rel ca b (wipeE env vs) (L2.wipe σ vs) G H
  | [] => R
  | v :: vs => (Rel.wipe R vs).wipe1 v
theorem wipe_in {σ : St} {j : Nat} : ∀ {vs : List Nat}, j ∈ vs → (wipe σ vs)[j]? = none ∨ (wipe σ vs)[j]? = some none
  | [], h => by simp at h
  | v :: vs, h => by
    unfold L2.wipe
    by_cases hv : v = j
    · subst hv
      by_cases hl : v < (L2.wipe σ vs).length
      · rw [List.getElem?_set_self hl]; exact .inr rfl
      · exact .inl (List.getElem?_eq_none (by simpa using hl))
    · rw [List.getElem?_set_ne hv]
      exact wipe_in ((List.mem_cons.mp h).resolve_left fun z => hv z.symm)
theorem wipe_eq {σ σ2 : St} {vs js : List Nat} (hj : ∀ j ∈ js, j ∈ vs) (bt : But js (wipe σ vs) σ2) : wipe σ2 vs = wipe σ vs := by
  have hl : σ2.length = σ.length := by rw [bt.1, wipe_length]
  apply List.ext_getElem?
  intro j
  by_cases h : j ∈ vs
  · by_cases hi : j < σ.length
    · have a1 : (wipe σ2 vs)[j]? = some none := by
        rcases wipe_in (σ := σ2) h with q | q
        · have := List.getElem?_eq_none_iff.mp q
          rw [wipe_length] at this; omega
        · exact q
      have a2 : (wipe σ vs)[j]? = some none := by
        rcases wipe_in (σ := σ) h with q | q
        · have := List.getElem?_eq_none_iff.mp q
          rw [wipe_length] at this; omega
        · exact q
      rw [a1, a2]
    · rw [List.getElem?_eq_none (by rw [wipe_length]; omega), List.getElem?_eq_none (by rw [wipe_length]; omega)]
  · rw [wipe_out h, bt.2 j (fun z => h (hj j z))]
/-- the block's names are as they were -/
theorem Rel.rest {b2 : Bs} {e0 env : Env} {vs : List Nat} {G1 H1 : Hp} (R1 : Rel ca b e0 σ G1 H1) (hc : calmE e0 vs = true) (R2 : Rel ca b2 env (L2.wipe σ vs) G H) (sg : Same G1 G) : Rel ca b2 (restE e0 env vs) σ G H := by
  have sh : ∀ {j : Nat} {s : Slot}, j ∈ vs → (restE e0 env vs)[j]? = some (some s) → ∃ d, s = .sh d ∧ e0[j]? = some (some (.sh d)) := fun {j s} hj es => by
    have q := restE_in e0 env hj s es
    have h1 := List.all_eq_true.mp hc j hj
    rw [q] at h1
    cases s with
    | sh d => exact ⟨d, rfl, q⟩
    | own c => cases h1
    | brw c => cases h1
  refine ⟨R2.sub, R2.g0, R2.fr, R2.dom, R2.new, by rw [restE_len, R2.len, wipe_length], fun j s es => ?_, fun j k s t x hjk e1 e2 m1 m2 s1 s2 => ?_⟩
  · by_cases hj : j ∈ vs
    · obtain ⟨d, rfl, q⟩ := sh hj es
      obtain ⟨v, e1, r⟩ := R1.slots j _ q
      exact ⟨v, e1, Rep.mono sg r⟩
    · rw [restE_out _ _ hj] at es
      obtain ⟨v, e1, r⟩ := R2.slots j s es
      rw [wipe_out hj] at e1
      exact ⟨v, e1, r⟩
  · by_cases hj : j ∈ vs
    · obtain ⟨d, rfl, q⟩ := sh hj e1
      cases m1
    · by_cases hk : k ∈ vs
      · obtain ⟨d, rfl, q⟩ := sh hk e2
        cases m2
      · rw [restE_out _ _ hj] at e1
        rw [restE_out _ _ hk] at e2
        exact R2.apart j k s t x hjk e1 e2 m1 m2 (by rw [wipe_out hj]; exact s1) (by rw [wipe_out hk]; exact s2)
/-- an object that is nobody's is changed -/
theorem Rel.other {o' : HO} {a : Addr} (R : Rel ca b env σ G H) (h0 : b.H0 a = none) (g : G a = none) (ap : ∀ (j : Nat) (s : Slot), env[j]? = some (some s) → s.mut = true → σ[j]? ≠ some (some (.ref a))) : Rel ca b env σ G (upd H a o') where
  sub := fun x q e => by
    rw [upd_ne (fun z => by rw [z, g] at e; cases e)]; exact R.sub _ _ e
  g0 := R.g0
  fr := fun x q e h1 h2 => by
    rw [upd_ne (fun z => by rw [z, h0] at e; cases e)]; exact R.fr x q e h1 h2
  dom := fun x e => by
    by_cases h : x = a
    · subst h; exact h0
    · rw [upd_ne h] at e; exact R.dom x e
  new := R.new
  len := R.len
  slots := fun i s e => by
    obtain ⟨v, e1, r⟩ := R.slots i s e
    refine ⟨v, e1, ?_⟩
    cases s with
    | sh d => exact r
    | own c =>
      obtain ⟨x, ev, r, m, z⟩ := r
      subst ev
      exact ⟨x, rfl, r.heap (fun o q => by rw [upd_ne (fun z => ap i _ e rfl (by rw [e1, z]))]; exact q), m, z⟩
    | brw c =>
      obtain ⟨x, ev, r, m, z⟩ := r
      subst ev
      exact ⟨x, rfl, r.heap (fun o q => by rw [upd_ne (fun z => ap i _ e rfl (by rw [e1, z]))]; exact q), m, z⟩
  apart := R.apart
end
/-! ### the list that grows -/
def lcL (g : SG) (t f : Env → Option EO) (vs : List Nat) : List D → Env → List D → Option (List D × Env)
  | [], env, acc => some (acc, env)
  | d :: ds, env, acc => (g d env).bind fun e1 => match t e1 with
    | some (.val (.sh (.bl true)) e2) => (match f e2 with
      | some (.val v e3) => (take e3 v).bind fun p => if acc.length < sizeLine then lcL g t f vs ds (wipeE p.2 vs) (acc ++ [p.1]) else none
      | _ => none)
    | some (.val (.sh (.bl false)) e2) => lcL g t f vs ds (wipeE e2 vs) acc
    | _ => none
def eLC (vs : List Nat) (it : SI) (g : SG) (t f : SE) : SE := fun c env => match it c env with
  | some (.its ds e) => if calmE e vs = true then (lcL g (t c) (f c) vs ds (wipeE e vs) []).map fun p => .val (.fr (.lst p.1)) (restE e p.2 vs) else none
  | some (.exc x e) => some (.exc x e)
  | none => none
def eYes : SE := eC (.bl true)
abbrev WF : WX := fun _ _ _ _ => False
section
variable {X : Cx} {ca : PySem.W.Frag} {c : CT} {W : WX} {pos : Pos}
theorem PTs_weak {e : List Expr} {t t' : TT} (h : PTs X e t) (w : ∀ σ H Q, t' σ H Q → t σ H Q) : PTs X e t' := ⟨fun pins s σ H Q I q => h.run pins s σ H Q I (w σ H Q q)⟩
theorem ts_nil : PTs X [] (rdT ca c W eYes) := PTs_weak pts_nil (by
  rintro σ H Q ⟨b, env, G, o, R, e, post⟩
  cases e
  exact post G H R)
theorem ts_one {t : Expr} {f : SE} (h : PT X t (rdT ca c W f)) : PTs X [t] (rdT ca c W f) := pts_one h
theorem lc_in {it : SI} {g : SG} {t f : SE} {vs js : List Nat} (hj : ∀ j ∈ js, j ∈ vs) : ∀ σ H Q, rdE ca c W (eLC vs it g t f) σ H Q → tLc (rdI ca c W it) (rdG ca g js) (rdT ca c WF t) (rdE ca c WF f) vs σ H Q := by
  rintro σ H Q ⟨b, env, G, o, R, e, post⟩
  unfold eLC at e
  split at e
  · rename_i ds e0 hf
    split at e
    · rename_i hcalm
      cases el : lcL g (t c) (f c) vs ds (wipeE e0 vs) [] with
      | none => rw [el] at e; cases e
      | some res =>
        rw [el] at e
        cases e
        refine rdI_use R hf fun J G1 H1 R1 ok _ => fun Da hD => ?_
        have Rw := (R1.wipe vs)
        have Rb := Rw.rb
        have ub : ∀ {env' σ' G' H'}, Rel ca (Pd.rb (wipeE e0 vs) (wipe σ vs) G1 H1) env' σ' G' H' → Rel ca b env' σ' G' H' := fun q => Rw.unrb q
        have hH0 : (Pd.rb (wipeE e0 vs) (wipe σ vs) G1 H1).H0 Da = none := hD
        have hO : ¬ (Pd.rb (wipeE e0 vs) (wipe σ vs) G1 H1).O Da := fun ⟨i, c', q1, q2⟩ => by
          obtain ⟨v, e1, r⟩ := Rw.slots i _ q1
          rw [q2] at e1; cases e1
          obtain ⟨a', ev, _, o', h'⟩ := r.there rfl
          cases ev
          rw [hD] at h'; cases h'
        have hB : ∀ i, (Pd.rb (wipeE e0 vs) (wipe σ vs) G1 H1).B i ≠ some Da := fun i q => by
          obtain ⟨⟨c', q1⟩, q2⟩ := rb_B q
          obtain ⟨v, e1, r⟩ := Rw.slots i _ q1
          rw [q2] at e1; cases e1
          obtain ⟨a', ev, _, o', h'⟩ := r.there rfl
          cases ev
          rw [hD] at h'; cases h'
        have hbD : b.O Da ∨ b.H0 Da = none := .inr (R1.dom _ hD)
        have gg : (Pd.rb (wipeE e0 vs) (wipe σ vs) G1 H1).G0 = G1 := rfl
        generalize Pd.rb (wipeE e0 vs) (wipe σ vs) G1 H1 = b2 at Rb ub hH0 hO hB gg
        refine ⟨fun i m H' => m = ds.length - i ∧ i ≤ ds.length ∧ ∃ en G' acc us, Rel ca b2 en (wipe σ vs) G' H' ∧ Same G1 G' ∧ H' Da = some (.lst us) ∧ G' Da = none ∧ (∀ (j : Nat) (s : Slot), en[j]? = some (some s) → s.mut = true → (wipe σ vs)[j]? ≠ some (some (.ref Da))) ∧ Reps ca G' us acc ∧
            lcL g (t c) (f c) vs (ds.drop i) en acc = some res, ⟨_, rfl, Nat.zero_le _, _, G1, [], [], Rb.grow hD, Same.refl _, upd_same, R1.sub.free hD, ?_, .nil, by simpa using el⟩, ?_⟩
        · exact (Rw.newAddr hD).2.2
        rintro i m H' ⟨rfl, hi, en, G', acc, us, R', sg, hDa, hGa, hap, hr, ef⟩
        by_cases hlt : i < ds.length
        · have hd : ds[i]? = some ds[i] := by simp [hlt]
          obtain ⟨go, yl⟩ := (ok i H' G' sg R'.sub).1 _ hd
          rw [List.drop_eq_getElem_cons hlt] at ef
          unfold lcL at ef
          cases eg : g ds[i] en with
          | none => rw [eg] at ef; cases ef
          | some e1 =>
            rw [eg] at ef
            simp only [Option.bind_some] at ef
            refine .inr ⟨go, fun H2 => ∃ en2 G2 acc2 us2, Rel ca b2 en2 (wipe σ vs) G2 H2 ∧ Same G1 G2 ∧ H2 Da = some (.lst us2) ∧ G2 Da = none ∧ (∀ (j : Nat) (s : Slot), en2[j]? = some (some s) → s.mut = true → (wipe σ vs)[j]? ≠ some (some (.ref Da))) ∧ Reps ca G2 us2 acc2 ∧
              lcL g (t c) (f c) vs (ds.drop (i + 1)) en2 acc2 = some res, fun H2 ⟨en2, G2, acc2, us2, q⟩ => ⟨ds.length - (i + 1), by omega, rfl, hlt, en2, G2, acc2, us2, q⟩, fun x H2 y => ?_⟩
            -- this turn's own entry: the new list stands in it
            have Rt := R'.rb
            have ut : ∀ {env' σ' G' H'}, Rel ca (Pd.rb en (wipe σ vs) G' H') env' σ' G' H' → True := fun _ => trivial
            have ub3 : ∀ {env' σ' G2 H2}, Rel ca (Pd.rb en (wipe σ vs) G' H') env' σ' G2 H2 → Rel ca b2 env' σ' G2 H2 := fun q => R'.unrb q
            have tH0 : (Pd.rb en (wipe σ vs) G' H').H0 Da = some (.lst us) := hDa
            have tG0 : (Pd.rb en (wipe σ vs) G' H').G0 = G' := rfl
            have tO : ¬ (Pd.rb en (wipe σ vs) G' H').O Da := fun ⟨j, c', q1, q2⟩ => hap j _ q1 rfl q2
            have tB : ∀ j, (Pd.rb en (wipe σ vs) G' H').B j ≠ some Da := fun j q => by
              obtain ⟨⟨c', q1⟩, q2⟩ := rb_B q
              exact hap j _ q1 rfl q2
            generalize Pd.rb en (wipe σ vs) G' H' = b3 at Rt ub3 tH0 tG0 tO tB
            have stand : ∀ {en σ' G H}, Rel ca b3 en σ' G H → Same G' G ∧ H Da = some (.lst us) ∧ G Da = none ∧ ∀ (j : Nat) (s : Slot), en[j]? = some (some s) → s.mut = true → σ'[j]? ≠ some (some (.ref Da)) := fun {en σ' G H} RR => by
              refine ⟨by rw [← tG0]; exact RR.g0, RR.fr _ _ tH0 tB tO, ?_, fun j s q1 q2 q3 => ?_⟩
              · cases q : G Da with
                | none => rfl
                | some o' =>
                  rcases RR.new _ _ q with z | z | z
                  · rw [tG0, hGa] at z; cases z
                  · rw [tH0] at z; cases z
                  · exact (tO z).elim
              · obtain ⟨v, e1, r⟩ := RR.slots j s q1
                rw [q3] at e1; cases e1
                cases s with
                | sh d => cases q2
                | own c' =>
                  obtain ⟨a', ev, _, n, z⟩ := r
                  cases ev
                  rcases z with z | z
                  · exact tO z
                  · rw [tH0] at z; cases z
                | brw c' => obtain ⟨a', ev, _, n, z⟩ := r; cases ev; exact tB j z
            obtain ⟨G2, s2, R2, vr⟩ := (yl x H2 y).at Rt
            refine ⟨b3, en, G2, ds[i], e1, R2, vr, eg, fun σ3 R3 bt => ⟨wipe_eq hj bt, ?_⟩⟩
            have wq := wipe_eq hj bt
            split at ef
            · rename_i e2 et
              split at ef
              · rename_i v e3 ee
                cases ek : take e3 v with
                | none => rw [ek] at ef; cases ef
                | some pv =>
                  rw [ek] at ef
                  simp only [Option.bind_some] at ef
                  split at ef
                  · rename_i hz
                    refine ⟨b3, e1, G2, _, R3, et, fun G4 H4 R4 => ?_⟩
                    refine iteT ?_
                    refine ⟨b3, e2, G4, _, R4, ee, fun u G5 H5 R5 vr5 => ?_⟩
                    obtain ⟨G6, s6, R6, hd6⟩ := VRel.held R5 vr5
                    obtain ⟨G7, s7, R7, r7⟩ := hd6.take (d := pv.1) (env' := pv.2) R6 ek
                    obtain ⟨t1, t2, t3, t4⟩ := stand R7
                    refine ⟨us, t2, by rw [hr.len]; exact hz, wipeE pv.2 vs, G7, acc ++ [pv.1], us ++ [u], ?_, sg.trans t1, upd_same, t3, ?_, (hr.mono t1).append (.one r7), ef⟩
                    · have R8 := (ub3 R7).wipe vs
                      rw [wq] at R8
                      refine R8.other hH0 t3 fun j s q1 q2 q3 => ?_
                      have R9 := R7.wipe vs
                      rw [wq] at R9
                      exact (stand R9).2.2.2 j s q1 q2 q3
                    · have R9 := R7.wipe vs
                      rw [wq] at R9
                      exact (stand R9).2.2.2
                  · cases ef
              · cases ef
            · rename_i e2 et
              refine ⟨b3, e1, G2, _, R3, et, fun G4 H4 R4 => ?_⟩
              refine iteF ?_
              obtain ⟨t1, t2, t3, t4⟩ := stand R4
              have R9 := R4.wipe vs
              rw [wq] at R9
              exact ⟨wipeE e2 vs, G4, acc, us, ub3 R9, sg.trans t1, t2, t3, (stand R9).2.2.2, hr.mono t1, ef⟩
            · cases ef
        · have hh : i = ds.length := by omega
          subst hh
          rw [List.drop_length] at ef
          cases ef
          refine .inl ⟨(ok _ H' G' sg R'.sub).2 (Nat.le_refl _), ?_⟩
          have R3 : Rel ca b2 (restE e0 en vs) σ G' H' := Rel.rest R1 hcalm R' sg
          have R4 : Rel ca b (restE e0 en vs) σ G' H' := Rel.rest R1 hcalm (ub R') sg
          refine post _ G' H' R4 ⟨Da, rfl, ⟨us, hDa, hr⟩, hGa, hbD, fun j s q1 q2 q3 => ?_⟩
          by_cases hjv : j ∈ vs
          · have q := restE_in e0 en hjv s q1
            have h1 := List.all_eq_true.mp hcalm j hjv
            rw [q] at h1
            have h1 : (!s.mut) = true := h1
            rw [q2] at h1
            cases h1
          · rw [restE_out _ _ hjv] at q1
            exact hap j s q1 q2 (by rw [wipe_out hjv]; exact q3)
    · cases e
  · rename_i x e0 hf
    cases e
    exact rdI_use R hf fun cls d G' H' R' q => post cls d G' H' R' q
  · cases e
theorem p_lc {elt tg iter : Expr} {ifs : List Expr} {scope : Scope} {own : List (Str × Nat)} {it : SI} {g : SG} {t f : SE} {js : List Nat} (hc : X.calm = true) (hN : X.N.Nodup) (hi : PI X tg iter (rdI ca c W it)) (ok : blkC X.N X.env.scope scope own = true)
    (hg : ∀ (s : Shared) (H : Hp) (C : Addr) (cl : List (Str × Addr)) (fp : List Addr), PG (X.blk s H scope (compEnvC scope cl C X.env) fp) tg (rdG ca g js)) (ht : ∀ (s : Shared) (H : Hp) (C : Addr) (cl : List (Str × Addr)) (fp : List Addr), PTs (X.blk s H scope (compEnvC scope cl C X.env) fp) ifs (rdT ca c WF t))
    (he : ∀ (s : Shared) (H : Hp) (C : Addr) (cl : List (Str × Addr)) (fp : List Addr), PE (X.blk s H scope (compEnvC scope cl C X.env) fp) elt (rdE ca c WF f)) (hj : ∀ j ∈ js, j ∈ own.map (·.2) := by decide) (hs : ∀ x, foldedSetIterable iter X.env x = pure x := by intro _; rfl) :
    PE X (.ListComp elt [⟨tg, iter, ifs, 0⟩] scope pos) (rdE ca c W (eLC (own.map (·.2)) it g t f)) := PE_weak (pe_lc hc hN hi (blkOk_by ok) hg ht he hs) (lc_in hj)
/-- y = [..] on one line -/
theorem s_setLc {i : Nat} {y : Str} {py spos : Pos} {elt tg iter : Expr} {ifs : List Expr} {scope : Scope} {own : List (Str × Nat)} {it : SI} {g : SG} {t f : SE} {js : List Nat} (hc : X.calm = true) (hN : X.N.Nodup)
    (hi : PI X tg iter (rdI ca c W it)) (ok : blkC X.N X.env.scope scope own = true)
    (hg : ∀ (s : Shared) (H : Hp) (C : Addr) (cl : List (Str × Addr)) (fp : List Addr), PG (X.blk s H scope (compEnvC scope cl C X.env) fp) tg (rdG ca g js)) (ht : ∀ (s : Shared) (H : Hp) (C : Addr) (cl : List (Str × Addr)) (fp : List Addr), PTs (X.blk s H scope (compEnvC scope cl C X.env) fp) ifs (rdT ca c WF t))
    (he : ∀ (s : Shared) (H : Hp) (C : Addr) (cl : List (Str × Addr)) (fp : List Addr), PE (X.blk s H scope (compEnvC scope cl C X.env) fp) elt (rdE ca c WF f)) (hj : ∀ j ∈ js, j ∈ own.map (·.2) := by decide)
    (hy : X.N[i]? = some y := by rfl) (hyl : X.env.scope.names.lookup y = some .local := by rfl) (hsw : swapsWith (.ListComp elt [⟨tg, iter, ifs, 0⟩] scope pos) (some (.Name y py)) spos.line X.env = pure true := by exact sw_true rfl rfl rfl (by decide +kernel)) (hs : ∀ x, foldedSetIterable iter X.env x = pure x := by intro _; rfl) :
    PS X (.Assign [.Name y py] (.ListComp elt [⟨tg, iter, ifs, 0⟩] scope pos) spos) (rdS ca c W (sSet i (eLC (own.map (·.2)) it g t f))) := PS_weak (ps_setLc hc hN hy hyl hsw hi (blkOk_by ok) hg ht he hs) (by
  rintro D σ H ⟨b, env, G, o, R, e, post⟩
  refine lc_in hj σ H _ (rdS_bind R e post fun v e1 u G1 H1 _ R1 vr sg e => ?_)
  cases er : setV e1 i v with
  | none => rw [er] at e; cases e
  | some e2 =>
    rw [er] at e
    cases e
    obtain ⟨G2, s2, R2⟩ := VRel.set R1 vr er
    exact post _ G2 H1 R2)
end
end Pd
/-! Pd7: defs and their calls -/
namespace Pd
open PySem PySem.Spec L2
section
variable (ca : PySem.W.Frag)
def ArgRel (G H : Hp) (v : V) : Arg → Prop
  | .sh d => Rep ca G v d
  | .brw c => ∃ a, v = .ref a ∧ CellRel ca G H a c ∧ G a = none
def brwAt (vs : List V) (args : List Arg) (i : Nat) : Option Addr := match args[i]?, vs[i]? with
  | some (.brw _), some (.ref a) => some a
  | _, _ => none
structure ArgsRel (G H : Hp) (vs : List V) (args : List Arg) : Prop where
  len : vs.length = args.length
  at_ : ∀ (i : Nat) v g, vs[i]? = some v → args[i]? = some g → ArgRel ca G H v g
  apart : ∀ (i j : Nat) a, i ≠ j → brwAt vs args i = some a → brwAt vs args j = some a → False
structure CPost (G H : Hp) (vs : List V) (args : List Arg) (outs : List (Option Cell)) (G' H' : Hp) : Prop where
  sub : Same G' H'
  mono : Same G G'
  new : ∀ a o, G' a = some o → G a = some o ∨ H a = none
  fr : ∀ a o, H a = some o → (∀ i, brwAt vs args i ≠ some a) → H' a = some o
  dom : ∀ a, H' a = none → H a = none
  outs : ∀ (i : Nat) a, brwAt vs args i = some a → ∃ cl, outs[i]? = some (some cl) ∧ CellRel ca G' H' a cl ∧ G' a = none
def RRelC (H G' H' : Hp) (u : V) : RV → Prop
  | .sh d => Rep ca G' u d
  | .fr cl => ∃ a, u = .ref a ∧ CellRel ca G' H' a cl ∧ G' a = none ∧ H a = none
def CRPost (G H : Hp) (vs : List V) (args : List Arg) (Q : VK) (E : XK) : CRes → Prop
  | .ret rv outs => ∀ u G' H', CPost ca G H vs args outs G' H' → RRelC ca H G' H' u rv → Q u H'
  | .exc x outs => ∀ cls d G' H', CPost ca G H vs args outs G' H' → ExcRel ca G' H' cls d x → E cls d H'
def spOf (g : List Arg → Option CRes) : Sp := fun vs H Q E => ∃ G args r, Same G H ∧ ArgsRel ca G H vs args ∧ g args = some r ∧ CRPost ca G H vs args Q E r
end
theorem brwAt_some {vs : List V} {args : List Arg} {i : Nat} {a : Addr} (h : brwAt vs args i = some a) : (∃ c, args[i]? = some (.brw c)) ∧ vs[i]? = some (.ref a) := by
  unfold brwAt at h
  split at h
  · rename_i h1 h2
    cases h
    exact ⟨⟨_, h1⟩, h2⟩
  · cases h
theorem brwAt_of {vs : List V} {args : List Arg} {i : Nat} {a : Addr} {c : Cell} (h1 : args[i]? = some (.brw c)) (h2 : vs[i]? = some (.ref a)) : brwAt vs args i = some a := by
  unfold brwAt; rw [h1, h2]
def slotOf : Arg → Option Slot
  | .sh d => some (.sh d)
  | .brw c => some (.brw c)
def initEnv (n : Nat) (args : List Arg) : Env := args.map slotOf ++ List.replicate (n - args.length) none
def outsOf : List Arg → Env → Option (List (Option Cell))
  | [], _ => some []
  | .sh _ :: as, _ :: env => (outsOf as env).map (none :: ·)
  | .brw _ :: as, some (.brw cl) :: env => (outsOf as env).map (some cl :: ·)
  | _, _ => none
theorem outsOf_at : ∀ {args : List Arg} {env : Env} {outs : List (Option Cell)}, outsOf args env = some outs → ∀ (i : Nat) (c : Cell), args[i]? = some (.brw c) → ∃ cl, env[i]? = some (some (.brw cl)) ∧ outs[i]? = some (some cl)
  | [], _, _, _, i, c, h => by simp at h
  | .sh d :: as, [], _, e, _, _, _ => by cases e
  | .sh d :: as, o :: env, outs, e, i, c, h => by
    have e : (outsOf as env).map (none :: ·) = some outs := e
    cases er : outsOf as env with
    | none => rw [er] at e; cases e
    | some os =>
      rw [er] at e
      cases e
      cases i with
      | zero => cases h
      | succ n =>
        obtain ⟨cl, h1, h2⟩ := outsOf_at er n c (by simpa using h)
        exact ⟨cl, by simpa using h1, by simpa using h2⟩
  | .brw d :: as, [], _, e, _, _, _ => by cases e
  | .brw d :: as, none :: env, outs, e, i, c, h => by cases e
  | .brw d :: as, some (.sh _) :: env, outs, e, i, c, h => by cases e
  | .brw d :: as, some (.own _) :: env, outs, e, i, c, h => by cases e
  | .brw d :: as, some (.brw cl) :: env, outs, e, i, c, h => by
    have e : (outsOf as env).map (some cl :: ·) = some outs := e
    cases er : outsOf as env with
    | none => rw [er] at e; cases e
    | some os =>
      rw [er] at e
      cases e
      cases i with
      | zero => exact ⟨cl, rfl, rfl⟩
      | succ n =>
        obtain ⟨cl, h1, h2⟩ := outsOf_at er n c (by simpa using h)
        exact ⟨cl, by simpa using h1, by simpa using h2⟩
/-- what a def computes: n names, m parameters -/
def runDef (n m : Nat) (f : SS) (c : CT) : List Arg → Option CRes := fun args => if args.length = m then (match f c (initEnv n args) with
  | some (.nx e) => (outsOf args e).map (.ret (.sh .non) ·)
  | some (.ret r e) => (outsOf args e).map (.ret r ·)
  | some (.exc x e) => (outsOf args e).map (.exc x ·)
  | _ => none) else none
section
variable {P : Program} {w : World} {K : PySem.W.Frag} {mg : Str → Option Value} {base : Heap} {x qual : Str} {params : Arguments} {body : List Stmt} {scope : Scope} {dvs : List V} {kws : List (Str × V)} {f : Addr} {fd : FuncData}
def entry (vs : List V) (args : List Arg) (G H : Hp) : Bs := ⟨H, G, brwAt vs args, fun _ => False⟩
theorem Rel.init {G H : Hp} {vs : List V} {args : List Arg} {N : List Str} (s : Same G H) (r : ArgsRel K G H vs args) (hl : vs.length ≤ N.length) : Rel K (entry vs args G H) (initEnv N.length args) (L2.start N vs) G H := by
  have hs : ∀ {i : Nat} {s : Slot}, (initEnv N.length args)[i]? = some (some s) → ∃ g, args[i]? = some g ∧ slotOf g = some s ∧ ∃ v, vs[i]? = some v ∧ (L2.start N vs)[i]? = some (some v) := fun {i s} es => by
    unfold initEnv at es
    by_cases hi : i < args.length
    · rw [List.getElem?_append_left (by simpa using hi), List.getElem?_map] at es
      have ha : args[i]? = some args[i] := by simp [hi]
      rw [ha] at es
      have hv : vs[i]? = some (vs[i]'(by rw [r.len]; exact hi)) := by simp [r.len, hi]
      refine ⟨_, ha, by simpa using es, _, hv, ?_⟩
      unfold L2.start
      rw [List.getElem?_append_left (by rw [List.length_map, r.len]; exact hi), List.getElem?_map, hv]
      rfl
    · rw [List.getElem?_append_right (by simpa using hi), List.getElem?_replicate] at es
      split at es <;> cases es
  have hbr : ∀ {i : Nat} {s : Slot}, (initEnv N.length args)[i]? = some (some s) → s.mut = true → ∃ a, brwAt vs args i = some a ∧ (L2.start N vs)[i]? = some (some (.ref a)) := fun {i s} es m => by
    obtain ⟨g, h1, h2, v, h3, h4⟩ := hs es
    cases g with
    | sh d => cases h2; cases m
    | brw c =>
      obtain ⟨a, ev, _⟩ := r.at_ i v _ h3 h1
      subst ev
      exact ⟨a, brwAt_of h1 h3, h4⟩
  refine ⟨s, Same.refl _, fun a o e _ _ => e, fun a e => e, fun a o e => .inl e, ?_, fun i s' es => ?_, fun i j s' t a hij e1 e2 m1 m2 s1 s2 => ?_⟩
  · unfold initEnv L2.start
    rw [List.length_append, List.length_map, List.length_replicate, List.length_append, List.length_map, List.length_replicate, r.len]
  · obtain ⟨g, h1, h2, v, h3, h4⟩ := hs es
    refine ⟨v, h4, ?_⟩
    cases g with
    | sh d => cases h2; exact r.at_ i v _ h3 h1
    | brw c =>
      cases h2
      obtain ⟨a, ev, cr, n⟩ := r.at_ i v _ h3 h1
      subst ev
      exact ⟨a, rfl, cr, n, brwAt_of h1 h3⟩
  · obtain ⟨a1, b1, c1⟩ := hbr e1 m1
    obtain ⟨a2, b2, c2⟩ := hbr e2 m2
    rw [s1] at c1; cases c1
    rw [s2] at c2; cases c2
    exact r.apart i j a hij b1 b2
theorem Rel.cpost {G H G' H' : Hp} {vs : List V} {args : List Arg} {env' : Env} {σ' : St} {outs : List (Option Cell)} (r : ArgsRel K G H vs args) (R : Rel K (entry vs args G H) env' σ' G' H') (e : outsOf args env' = some outs) : CPost K G H vs args outs G' H' where
  sub := R.sub
  mono := R.g0
  new := fun a o q => by
    rcases R.new a o q with z | z | z
    · exact .inl z
    · exact .inr z
    · exact z.elim
  fr := fun a o q h => R.fr a o q h fun z => z
  dom := R.dom
  outs := fun i a h => by
    obtain ⟨⟨c, h1⟩, h2⟩ := brwAt_some h
    obtain ⟨cl, q1, q2⟩ := outsOf_at e i c h1
    obtain ⟨v, e1, a', ev, cr, n, z⟩ := R.slots i _ q1
    have z : brwAt vs args i = some a' := z
    rw [h] at z; cases z
    exact ⟨cl, q2, cr, n⟩
/-- THE RULE for a def -/
theorem fn_ok {N ps : List Str} {k : Nat} {c : CT} {sm : SS} (F : FunD K x qual params body scope dvs kws f fd) (S : FnScope N ps scope)
    (hbody : ∀ (cdv : Value) (A : Around) (outer : List PySem.Env) (s : Shared) (H : Hp) (E : XK), Room k (A.deeper (PyProof.Rows.envOfC qual scope s.heap.objs.size f cdv)) →
      PSs (cxOf (CX P w) P w K mg base N qual scope f cdv A outer s H E) body (rdS K c (fun cls d _ H' => E cls d H') sm)) :
    FnOk P w K mg base (CX P w) (k + 1) f fd ps (spOf K (runDef N.length ps.length sm c)) := by
  have hpl : ps.length ≤ N.length := by have := congrArg List.length S.pre; rw [List.length_take] at this; omega
  have len : ∀ vs H Q E, spOf K (runDef N.length ps.length sm c) vs H Q E → vs.length = ps.length := fun vs H Q E ⟨G, args, r, _, ra, e, _⟩ => by
    unfold runDef at e
    split at e
    · rename_i hl; rw [ra.len, hl]
    · cases e
  refine F.ok S len fun cdv A outer s H vs Q E hr hsp => ⟨_, hbody cdv A outer s H E hr, ?_⟩
  have hv := len vs H Q E hsp
  obtain ⟨G, args, r, sg, ra, e, post⟩ := hsp
  have R0 := Rel.init (N := N) sg ra (by omega)
  unfold runDef at e
  split at e
  · cases ef : sm c (initEnv N.length args) with
    | none => rw [ef] at e; cases e
    | some o =>
      rw [ef] at e
      refine ⟨_, _, G, o, R0, ef, ?_⟩
      have go : ∀ {g : List (Option Cell) → CRes} {en : Env}, (outsOf args en).map g = some r → ∃ outs, outsOf args en = some outs ∧ r = g outs := fun {g en} q => by
        cases eo : outsOf args en with
        | none => rw [eo] at q; cases q
        | some os => rw [eo] at q; cases q; exact ⟨os, rfl, rfl⟩
      cases o with
      | nx en =>
        obtain ⟨outs, h1, rfl⟩ := go e
        exact fun σ' G' H' R' => post .non G' H' (R'.cpost ra h1) .non
      | ret rv en =>
        obtain ⟨outs, h1, rfl⟩ := go e
        intro u σ' G' H' R' rr
        refine post u G' H' (R'.cpost ra h1) ?_
        cases rv with
        | sh d => exact rr
        | fr cl =>
          obtain ⟨a, ev, cr, n, z⟩ := rr
          rcases z with z | z
          · exact z.elim
          · exact ⟨a, ev, cr, n, z⟩
      | exc xx en =>
        obtain ⟨outs, h1, rfl⟩ := go e
        exact fun cls d σ' G' H' R' q => post cls d G' H' (R'.cpost ra h1) q
      | brk en => cases e
      | ct en => cases e
  · cases e
end

end Pd
/-! Pd8: calls of defs -/
namespace Pd
open PySem PySem.Spec L2
def Slot.put : Slot → Cell → Slot
  | .sh d, _ => .sh d
  | .own _, c => .own c
  | .brw _, c => .brw c
def cellAt (env : Env) (i : Nat) : Option Cell := match env[i]? with
  | some (some (.own c)) => some c
  | some (some (.brw c)) => some c
  | _ => none
def putCell (env : Env) (i : Nat) (c : Cell) : Env := match env[i]? with
  | some (some s) => env.set i (some (s.put c))
  | _ => env
section
variable {ca : PySem.W.Frag} {b : Bs} {env : Env} {σ : St} {G H G' H' : Hp}
theorem cellAt_some {i : Nat} {cl : Cell} (h : cellAt env i = some cl) : ∃ s : Slot, env[i]? = some (some s) ∧ s.mut = true ∧ (s = .own cl ∨ s = .brw cl) := by
  unfold cellAt at h
  split at h
  · rename_i c hc; cases h; exact ⟨_, hc, rfl, .inl rfl⟩
  · rename_i c hc; cases h; exact ⟨_, hc, rfl, .inr rfl⟩
  · cases h
theorem Rel.cell (R : Rel ca b env σ G H) {i : Nat} {cl : Cell} (h : cellAt env i = some cl) : ∃ a, σ[i]? = some (some (.ref a)) ∧ CellRel ca G H a cl ∧ G a = none := by
  obtain ⟨s, h1, h2, h3⟩ := cellAt_some h
  obtain ⟨v, e1, r⟩ := R.slots i s h1
  rcases h3 with rfl | rfl
  · obtain ⟨a, ev, cr, n, _⟩ := r; subst ev; exact ⟨a, e1, cr, n⟩
  · obtain ⟨a, ev, cr, n, _⟩ := r; subst ev; exact ⟨a, e1, cr, n⟩
/-- something has been called: new objects, nothing else -/
theorem Rel.call0 (R : Rel ca b env σ G H) (sub : Same G' H') (mono : Same G G') (new : ∀ a o, G' a = some o → G a = some o ∨ H a = none) (fr : Same H H') : Rel ca b env σ G' H' where
  sub := sub
  g0 := R.g0.trans mono
  fr := fun a o e h1 h2 => fr _ _ (R.fr a o e h1 h2)
  dom := fun a e => R.dom a (fr.free e)
  new := fun a o e => by
    rcases new a o e with z | z
    · exact R.new a o z
    · exact .inr (.inl (R.dom a z))
  len := R.len
  slots := fun i s e => by
    obtain ⟨v, e1, r⟩ := R.slots i s e
    refine ⟨v, e1, ?_⟩
    have nn : ∀ {a}, G a = none → (∃ o, H a = some o) → G' a = none := fun {a} n ⟨o, ho⟩ => by
      cases q : G' a with
      | none => rfl
      | some o' =>
        rcases new a o' q with z | z
        · rw [n] at z; cases z
        · rw [ho] at z; cases z
    cases s with
    | sh d => exact Rep.mono mono r
    | own c => obtain ⟨a, ev, cr, n, z⟩ := r; exact ⟨a, ev, (cr.mono mono).heap (fun o q => fr _ _ q), nn n cr.there, z⟩
    | brw c => obtain ⟨a, ev, cr, n, z⟩ := r; exact ⟨a, ev, (cr.mono mono).heap (fun o q => fr _ _ q), nn n cr.there, z⟩
  apart := R.apart
/-- .. and what stands in slot i has been written -/
theorem Rel.callI (R : Rel ca b env σ G H) {i : Nat} {a0 : Addr} {cl cl' : Cell} (hc : cellAt env i = some cl) (h0 : σ[i]? = some (some (.ref a0))) (sub : Same G' H') (mono : Same G G') (new : ∀ a o, G' a = some o → G a = some o ∨ H a = none)
    (fr : ∀ a o, H a = some o → a ≠ a0 → H' a = some o) (dom : ∀ a, H' a = none → H a = none) (cr : CellRel ca G' H' a0 cl') (gn : G' a0 = none) : Rel ca b (putCell env i cl') σ G' H' := by
  obtain ⟨s0, h1, h2, h3⟩ := cellAt_some hc
  have hi : i < env.length := (List.getElem?_eq_some_iff.mp h1).1
  have ep : putCell env i cl' = env.set i (some (s0.put cl')) := by unfold putCell; rw [h1]
  rw [ep]
  have mput : ∀ s : Slot, (s.put cl').mut = s.mut := fun s => by cases s <;> rfl
  have nn : ∀ {a}, G a = none → (∃ o, H a = some o) → G' a = none := fun {a} n ⟨o, ho⟩ => by
    cases q : G' a with
    | none => rfl
    | some o' =>
      rcases new a o' q with z | z
      · rw [n] at z; cases z
      · rw [ho] at z; cases z
  have own0 : b.O a0 ∨ b.H0 a0 = none ∨ ∃ i, b.B i = some a0 := by
    obtain ⟨v, e1, r⟩ := R.slots i s0 h1
    rw [h0] at e1; cases e1
    rcases h3 with rfl | rfl
    · obtain ⟨a, ev, _, _, z⟩ := r
      cases ev
      rcases z with z | z
      · exact .inl z
      · exact .inr (.inl z)
    · obtain ⟨a, ev, _, _, z⟩ := r
      cases ev
      exact .inr (.inr ⟨i, z⟩)
  refine ⟨sub, R.g0.trans mono, fun a o e q1 q2 => ?_, fun a e => R.dom a (dom a e), fun a o e => ?_, by simpa using R.len, fun j s es => ?_, fun j k s t x hjk e1 e2 m1 m2 => ?_⟩
  · refine fr a o (R.fr a o e q1 q2) fun z => ?_
    subst z
    rcases own0 with z | z | ⟨j, z⟩
    · exact q2 z
    · rw [z] at e; cases e
    · exact q1 j z
  · rcases new a o e with z | z
    · exact R.new a o z
    · exact .inr (.inl (R.dom a z))
  · by_cases hj : i = j
    · subst hj
      rw [List.getElem?_set_self hi] at es; cases es
      refine ⟨_, h0, ?_⟩
      obtain ⟨v, e1, r⟩ := R.slots i s0 h1
      rw [h0] at e1; cases e1
      cases s0 with
      | sh d => cases h2
      | own c => obtain ⟨a, ev, _, _, z⟩ := r; cases ev; exact ⟨_, rfl, cr, gn, z⟩
      | brw c => obtain ⟨a, ev, _, _, z⟩ := r; cases ev; exact ⟨_, rfl, cr, gn, z⟩
    · rw [List.getElem?_set_ne hj] at es
      obtain ⟨v, e1, r⟩ := R.slots j s es
      refine ⟨v, e1, ?_⟩
      have ne : ∀ {a}, s.mut = true → v = .ref a → a ≠ a0 := fun {a} m ev z => by
        subst ev z
        exact R.apart i j s0 s a hj h1 es h2 m h0 e1
      cases s with
      | sh d => exact Rep.mono mono r
      | own c => obtain ⟨a, ev, cr', n, z⟩ := r; exact ⟨a, ev, (cr'.mono mono).heap (fun o q => fr _ _ q (ne rfl ev)), nn n cr'.there, z⟩
      | brw c => obtain ⟨a, ev, cr', n, z⟩ := r; exact ⟨a, ev, (cr'.mono mono).heap (fun o q => fr _ _ q (ne rfl ev)), nn n cr'.there, z⟩
  · have f : ∀ {j : Nat} {s : Slot}, (env.set i (some (s0.put cl')))[j]? = some (some s) → s.mut = true → ∃ s', env[j]? = some (some s') ∧ s'.mut = true := fun {j s} es m => by
      by_cases hj : i = j
      · subst hj; exact ⟨s0, h1, h2⟩
      · rw [List.getElem?_set_ne hj] at es; exact ⟨s, es, m⟩
    obtain ⟨s', f1, g1⟩ := f e1 m1
    obtain ⟨t', f2, g2⟩ := f e2 m2
    exact R.apart j k s' t' x hjk f1 f2 g1 g2
theorem RRelC.vrel {u : V} {rv : RV} {env' : Env} (R : Rel ca b env σ G H) (h : RRelC ca H G' H' u rv) (he : ∀ (j : Nat) (s : Slot), env'[j]? = some (some s) → s.mut = true → ∃ s', env[j]? = some (some s') ∧ s'.mut = true) : VRel ca b env' σ G' H' u rv.val := by
  cases rv with
  | sh d => exact h
  | fr cl =>
    obtain ⟨a, ev, cr, n, hn⟩ := h
    refine ⟨a, ev, cr, n, .inr (R.dom a hn), fun j s e m q => ?_⟩
    obtain ⟨s', e1, m1⟩ := he j s e m
    exact (R.newAddr hn).2.2 j s' e1 m1 q
end
structure Fns (X : Cx) (ca : PySem.W.Frag) (c : CT) : Prop where
  fn : ∀ p g, c p = some g → ∃ fd ps k, FnOk X.prog X.w X.K X.mg X.base (CX X.prog X.w) k (He.fAd X.K p) fd ps (spOf ca g) ∧ Binds X.K fd ps [] ∧ Room k X.A
/-- all arguments are given away -/
def resOf (o : Option CRes) (k : List (Option Cell) → Option Env) : Option EO := match o with
  | some (.ret r outs) => (k outs).map fun e => .val r.val e
  | some (.exc x outs) => (k outs).map fun e => .exc x e
  | none => none
def eCall (p : Str × Option Str) (fs : SA) : SE := fun c env => bindA (fs c env) fun vs e1 => (takes e1 vs).bind fun q => (c p).bind fun g => resOf (g (q.1.map .sh)) fun _ => some q.2
/-- the first argument (a name's list, an object) is lent -/
def eCallB (p : Str × Option Str) (fs : SA) : SE := fun c env => bindA (fs c env) fun vs e1 => match vs with
  | .var i :: vs => (takes e1 vs).bind fun q => (cellAt q.2 i).bind fun cl => (c p).bind fun g => resOf (g (.brw cl :: q.1.map .sh)) fun outs => match outs with
    | some cl' :: _ => some (putCell q.2 i cl')
    | _ => none
  | _ => none
section
variable {X : Cx} {ca : PySem.W.Frag} {c : CT} {W : WX} {pos : Pos}
theorem argsSh {G H : Hp} {us : List V} {ds : List D} (r : Reps ca G us ds) : ArgsRel ca G H us (ds.map .sh) ∧ ∀ i, brwAt us (ds.map .sh) i = none := by
  have nb : ∀ i, brwAt us (ds.map Arg.sh) i = none := fun i => by
    unfold brwAt
    rw [List.getElem?_map]
    cases ds[i]? <;> rfl
  refine ⟨⟨by simp [r.len], fun i v g h1 h2 => ?_, fun i j a _ h => by rw [nb] at h; cases h⟩, nb⟩
  rw [List.getElem?_map] at h2
  cases hd : ds[i]? with
  | none => rw [hd] at h2; cases h2
  | some d => rw [hd] at h2; cases h2; exact r.at_ i v d h1 hd
theorem call_in {fs : SA} {p : Str × Option Str} {g : List Arg → Option CRes} (hg : c p = some g) : ∀ σ H Q, rdE ca c W (eCall p fs) σ H Q → tCallS (spOf ca g) (WE W) (rdA ca c W fs) σ H Q := by
  rintro σ H Q ⟨b, env, G, o, R, e, post⟩
  refine rdA_bind R e post fun vs e1 us G1 H1 _ R1 hd sg e => ?_
  cases et : takes e1 vs with
  | none => rw [et] at e; cases e
  | some q =>
    rw [et, hg] at e
    simp only [Option.bind_some] at e
    obtain ⟨G2, s2, R2, r2⟩ := Helds.takes (ds := q.1) (env' := q.2) R1 hd et
    obtain ⟨ar, nb⟩ := argsSh (H := H1) r2
    cases er : g (q.1.map .sh) with
    | none => rw [er] at e; cases e
    | some r =>
      rw [er] at e
      refine ⟨G2, _, r, R2.sub, ar, er, ?_⟩
      have go : ∀ {outs G' H'}, CPost ca G2 H1 us (q.1.map .sh) outs G' H' → Rel ca b q.2 σ G' H' := fun {outs G' H'} cp => R2.call0 cp.sub cp.mono cp.new fun a o ha => cp.fr a o ha fun i => by rw [nb]; exact fun z => nomatch z
      cases r with
      | ret rv outs =>
        cases e
        exact fun u G' H' cp rr => post u G' H' (go cp) (RRelC.vrel R2 rr fun j s e1 m => ⟨s, e1, m⟩)
      | exc x outs =>
        cases e
        exact fun cls d G' H' cp q => post cls d G' H' (go cp) q
theorem putCell_mut {env : Env} {i : Nat} {cl : Cell} : ∀ (j : Nat) (s : Slot), (putCell env i cl)[j]? = some (some s) → s.mut = true → ∃ s', env[j]? = some (some s') ∧ s'.mut = true := fun j s e m => by
  unfold putCell at e
  split at e
  · rename_i s0 h0
    by_cases hj : i = j
    · subst hj
      have hi : i < env.length := (List.getElem?_eq_some_iff.mp h0).1
      rw [List.getElem?_set_self hi] at e; cases e
      exact ⟨s0, h0, by cases s0 <;> exact m⟩
    · rw [List.getElem?_set_ne hj] at e; exact ⟨s, e, m⟩
  · exact ⟨s, e, m⟩
theorem callB_in {fs : SA} {p : Str × Option Str} {g : List Arg → Option CRes} (hg : c p = some g) : ∀ σ H Q, rdE ca c W (eCallB p fs) σ H Q → tCallS (spOf ca g) (WE W) (rdA ca c W fs) σ H Q := by
  rintro σ H Q ⟨b, env, G, o, R, e, post⟩
  refine rdA_bind R e post fun vs e1 us G1 H1 _ R1 hd sg e => ?_
  cases hd with
  | nil => cases e
  | @cons u v us vs h0 hd =>
    cases v with
    | sh d => cases e
    | fr d => cases e
    | var i =>
      have e : (takes e1 vs).bind (fun q => (cellAt q.2 i).bind fun cl => (c p).bind fun g => resOf (g (.brw cl :: q.1.map .sh)) fun outs => match outs with
        | some cl' :: _ => some (putCell q.2 i cl')
        | _ => none) = some o := e
      cases et : takes e1 vs with
      | none => rw [et] at e; cases e
      | some q =>
        rw [et] at e
        simp only [Option.bind_some] at e
        cases ec : cellAt q.2 i with
        | none => rw [ec] at e; cases e
        | some cl =>
          rw [ec, hg] at e
          simp only [Option.bind_some] at e
          obtain ⟨G2, s2, R2, r2⟩ := Helds.takes (ds := q.1) (env' := q.2) R1 hd et
          obtain ⟨ar, nb⟩ := argsSh (H := H1) r2
          obtain ⟨a0, ha0, cr0, gn0⟩ := R2.cell ec
          have h0 : σ[i]? = some (some u) := h0
          rw [h0] at ha0; cases ha0
          have nb' : ∀ j a, brwAt (V.ref a0 :: us) (.brw cl :: q.1.map .sh) j = some a → j = 0 ∧ a = a0 := fun j a hb => by
            obtain ⟨⟨c', h1⟩, h2⟩ := brwAt_some hb
            cases j with
            | zero => exact ⟨rfl, by simpa using h2.symm⟩
            | succ n =>
              have z := nb n
              unfold brwAt at z
              rw [show (q.1.map Arg.sh)[n]? = some (.brw c') from by simpa using h1, show us[n]? = some (.ref a) from by simpa using h2] at z
              cases z
          have ar' : ArgsRel ca G2 H1 (V.ref a0 :: us) (.brw cl :: q.1.map .sh) := by
            refine ⟨by simpa using ar.len, fun j v g h1 h2 => ?_, fun j k a hjk h1 h2 => hjk ((nb' j a h1).1.trans (nb' k a h2).1.symm)⟩
            cases j with
            | zero => cases h1; cases h2; exact ⟨a0, rfl, cr0, gn0⟩
            | succ n => exact ar.at_ n v g (by simpa using h1) (by simpa using h2)
          cases er : g (.brw cl :: q.1.map .sh) with
          | none => rw [er] at e; cases e
          | some r =>
            rw [er] at e
            refine ⟨G2, _, r, R2.sub, ar', er, ?_⟩
            have b0 : brwAt (V.ref a0 :: us) (.brw cl :: q.1.map .sh) 0 = some a0 := rfl
            have go : ∀ {outs cl' rest G' H'}, outs = some cl' :: rest → CPost ca G2 H1 (V.ref a0 :: us) (.brw cl :: q.1.map .sh) outs G' H' → Rel ca b (putCell q.2 i cl') σ G' H' := fun {outs cl' rest G' H'} ho cp => by
              obtain ⟨cl2, h1, h2, h3⟩ := cp.outs 0 a0 b0
              subst ho
              cases h1
              exact R2.callI ec h0 cp.sub cp.mono cp.new (fun a o ha hne => cp.fr a o ha fun j z => hne (nb' j a z).2) cp.dom h2 h3
            have fin : ∀ {outs : List (Option Cell)} {k : Env → EO}, Option.map k (match outs with
                | some cl' :: _ => some (putCell q.2 i cl')
                | _ => none) = some o → ∃ cl' rest, outs = some cl' :: rest ∧ o = k (putCell q.2 i cl') := fun {outs k} z => by
              cases outs with
              | nil => cases z
              | cons x rest =>
                cases x with
                | none => cases z
                | some cl' => cases z; exact ⟨cl', rest, rfl, rfl⟩
            cases r with
            | ret rv outs =>
              obtain ⟨cl', rest, ho, rfl⟩ := fin (k := fun e => .val rv.val e) e
              exact fun u G' H' cp rr => post u G' H' (go ho cp) (RRelC.vrel R2 rr putCell_mut)
            | exc x outs =>
              obtain ⟨cl', rest, ho, rfl⟩ := fin (k := fun e => .exc x e) e
              exact fun cls d G' H' cp z => post cls d G' H' (go ho cp) z
variable {x : Str} {p : Pos} {a : Expr} {es : List Expr} {fs : SA}
theorem p_call (F : Fns X ca c) (hc : (c (x, none)).isSome = true) (hm : X.mg x = some (.ref (He.fAd X.K (x, none)))) (hk : PySem.W.keepIn X.K (.ref (He.fAd X.K (x, none))) = true) (tk : Takes X W) (ha : PA X (a :: es) (rdA ca c W fs)) (hg : Gl X x := by rfl)
    (hdb : (x == ("__debug__" : Str)) = false := by decide) (he : starEach (a :: es) X.env = (false, eval a X.env) :: starEach es X.env := by rfl) (hpl : (backTo pos (starEach es X.env)).any (·.1) = false := by rfl) : PE X (.Call (.Name x p) (a :: es) [] pos) (rdE ca c W (eCall (x, none) fs)) := by
  obtain ⟨g, hg'⟩ := Option.isSome_iff_exists.mp hc
  obtain ⟨fd, ps, k, F1, hb, hr⟩ := F.fn _ _ hg'
  exact PE_weak (pe_callS F1 hr hg hm hk hb (passAt tk) ha hdb he hpl) (call_in hg')
theorem p_callBo (F : Fns X ca c) (hc : (c (x, none)).isSome = true) (hm : X.mg x = some (.ref (He.fAd X.K (x, none)))) (hk : PySem.W.keepIn X.K (.ref (He.fAd X.K (x, none))) = true) (tk : Takes X W) (ha : PA X (a :: es) (rdA ca c W fs)) (hg : Gl X x := by rfl)
    (hdb : (x == ("__debug__" : Str)) = false := by decide) (he : starEach (a :: es) X.env = (false, eval a X.env) :: starEach es X.env := by rfl) (hpl : (backTo pos (starEach es X.env)).any (·.1) = false := by rfl) : PE X (.Call (.Name x p) (a :: es) [] pos) (rdE ca c W (eCallB (x, none) fs)) := by
  obtain ⟨g, hg'⟩ := Option.isSome_iff_exists.mp hc
  obtain ⟨fd, ps, k, F1, hb, hr⟩ := F.fn _ _ hg'
  exact PE_weak (pe_callS F1 hr hg hm hk hb (passAt tk) ha hdb he hpl) (callB_in hg')
theorem p_call0 (F : Fns X ca c) (hc : (c (x, none)).isSome = true) (hm : X.mg x = some (.ref (He.fAd X.K (x, none)))) (hk : PySem.W.keepIn X.K (.ref (He.fAd X.K (x, none))) = true) (tk : Takes X W) (hg : Gl X x := by rfl)
    (hdb : (x == ("__debug__" : Str)) = false := by decide) : PE X (.Call (.Name x p) [] [] pos) (rdE ca c W (eCall (x, none) aNil)) := by
  obtain ⟨g, hg'⟩ := Option.isSome_iff_exists.mp hc
  obtain ⟨fd, ps, k, F1, hb, hr⟩ := F.fn _ _ hg'
  refine ⟨fun pins s σ H Q I h => ?_⟩
  obtain ⟨b, env, G, o, R, e, post⟩ := call_in hg' σ H Q h
  cases e
  have h2 := post [] G H R .nil
  refine wpAny_Call_Name_kw (ld_glob I hg hm ?_ hdb)
  exact PySem.W.callWith_K0 I.kIn hk (run_fnS (us := []) F1 hr hb (passAt tk σ) I .nil h2)
end
end Pd
/-! Pd9: the operations' tables -/
namespace Pd
open PySem PySem.Spec L2
/-! ### ints, texts, lists, tuples: + - * // % ** -/
def addD : D → D → Option Val
  | .int i, .int j => some (.sh (.int (i + j)))
  | .str s, .str t => if s.length + t.length ≤ sizeLine then some (.sh (.str (s ++ t))) else none
  | .lst xs, .lst ys => if xs.length + ys.length ≤ sizeLine then some (.fr (.lst (xs ++ ys))) else none
  | .tup (x :: xs), .tup ys => if (x :: xs).length + ys.length ≤ sizeLine then some (.sh (.tup (x :: xs ++ ys))) else none
  | _, _ => none
def subD : D → D → Option Val
  | .int i, .int j => some (.sh (.int (i - j)))
  | _, _ => none
def mulD : D → D → Option Val
  | .int i, .int j => if (-(2 ^ 64) < i ∧ i < 2 ^ 64) ∨ (-(2 ^ 64) < j ∧ j < 2 ^ 64) then some (.sh (.int (i * j))) else none
  | _, _ => none
def modD : D → D → Option Val
  | .int i, .int j => if 0 < j then some (.sh (.int (i % j))) else none
  | _, _ => none
def fdivD : D → D → Option Val
  | .int i, .int j => if 0 < j ∧ j < 1073741824 then some (.sh (.int (i / j))) else none
  | _, _ => none
def powD : D → D → Option Val
  | .int i, .int j => if 0 ≤ j ∧ j ≤ 1000000 ∧ i.natAbs < 2 ^ 64 then some (.sh (.int (i ^ j.toNat))) else none
  | _, _ => none
section
variable {ca : PySem.W.Frag} {X : Cx}
def rAddD (K : PySem.W.Frag) : R2 := fun x y H Q => (∃ i j, x = .int i ∧ y = .int j ∧ Q (.int (i + j)) H) ∨ ((∃ i j, x = .str i ∧ y = .str j ∧ i.length + j.length ≤ sizeLine ∧ Q (.str (i ++ j)) H) ∨ (rCat x y H Q ∨ rCatT K x y H Q))
theorem o_add : OpR X (binaryOp .Add) (rAddD X.K) := op_add.or (op_add_str.or (op_cat.or op_catT))
theorem b_add : BinR ca (rAddD ca) addD := by
  intro G H x y dx dy v Q s px py e out
  unfold addD at e
  split at e
  · rename_i i j
    cases e; cases peek_int px; cases peek_int py
    exact .inl ⟨i, j, rfl, rfl, out _ _ (out_sh (.int _))⟩
  · rename_i i j
    split at e
    · rename_i hl
      cases e; cases peek_str px; cases peek_str py
      exact .inr (.inl ⟨i, j, rfl, rfl, hl, out _ _ (out_sh (.str _))⟩)
    · cases e
  · rename_i xs ys
    split at e
    · rename_i hl
      cases e
      obtain ⟨a, vs, rfl, ha, ra⟩ := px
      obtain ⟨a', vs', rfl, ha', ra'⟩ := py
      exact .inr (.inr (.inl ⟨a, a', vs, vs', rfl, rfl, ha, ha', by rw [ra.len, ra'.len]; exact hl, fun p hp => out _ _ (out_lst hp (ra.append ra'))⟩))
    · cases e
  · rename_i x0 xs ys
    split at e
    · rename_i hl
      cases e
      obtain ⟨a, vs, rfl, ha, ra⟩ := px
      obtain ⟨a', vs', rfl, ha', ra'⟩ := py
      have hlen := ra.len
      have hlen' := ra'.len
      refine .inr (.inr (.inr ⟨a, a', vs, vs', rfl, rfl, SqT.of (s _ _ ha), SqT.of (s _ _ ha'), fun z => by subst z; simp at hlen, by rw [ra.len, ra'.len]; exact hl, fun z => ?_, fun _ p hp => out _ _ (out_tup s hp (ra.append ra'))⟩))
      have hy : ys = [] := by
        rw [z] at hlen'
        exact List.eq_nil_of_length_eq_zero hlen'.symm
      subst hy
      refine out _ _ (out_sh ?_)
      rw [List.append_nil]
      exact .tup ha ra.len ra.at_
    · cases e
  · cases e
theorem b_sub : BinR ca (rI0 fun i j => .int (i - j)) subD := by
  intro G H x y dx dy v Q s px py e out
  unfold subD at e
  split at e
  · rename_i i j
    cases e; cases peek_int px; cases peek_int py
    exact ⟨i, j, rfl, rfl, out _ _ (out_sh (.int _))⟩
  · cases e
theorem b_mul : BinR ca (rI CMul fun i j => .int (i * j)) mulD := by
  intro G H x y dx dy v Q s px py e out
  unfold mulD at e
  split at e
  · rename_i i j
    split at e
    · rename_i h
      cases e; cases peek_int px; cases peek_int py
      exact ⟨i, j, rfl, rfl, h, out _ _ (out_sh (.int _))⟩
    · cases e
  · cases e
theorem b_mod : BinR ca (rI (fun _ j => 0 < j) fun i j => .int (i % j)) modD := by
  intro G H x y dx dy v Q s px py e out
  unfold modD at e
  split at e
  · rename_i i j
    split at e
    · rename_i h
      cases e; cases peek_int px; cases peek_int py
      exact ⟨i, j, rfl, rfl, h, out _ _ (out_sh (.int _))⟩
    · cases e
  · cases e
theorem b_fdiv : BinR ca (rI CDiv fun i j => .int (i / j)) fdivD := by
  intro G H x y dx dy v Q s px py e out
  unfold fdivD at e
  split at e
  · rename_i i j
    split at e
    · rename_i h
      cases e; cases peek_int px; cases peek_int py
      exact ⟨i, j, rfl, rfl, h, out _ _ (out_sh (.int _))⟩
    · cases e
  · cases e
theorem b_pow : BinR ca (rI CPow fun i j => .int (i ^ j.toNat)) powD := by
  intro G H x y dx dy v Q s px py e out
  unfold powD at e
  split at e
  · rename_i i j
    split at e
    · rename_i h
      cases e; cases peek_int px; cases peek_int py
      exact ⟨i, j, rfl, rfl, h, out _ _ (out_sh (.int _))⟩
    · cases e
  · cases e
end
/-! ### comparisons -/
def cmpI (p : Int → Int → Bool) : D → D → Option Val
  | .int i, .int j => some (.sh (.bl (p i j)))
  | _, _ => none
/-- numbers, texts by their order -/
def cmpO (p : Int → Int → Bool) (q : List Nat → List Nat → Bool) : D → D → Option Val
  | .int i, .int j => some (.sh (.bl (p i j)))
  | .str s, .str t => some (.sh (.bl (q s.cps.toList t.cps.toList)))
  | _, _ => none
abbrev ltD := cmpO (fun i j => decide (i < j)) (fun s t => decide (s < t))
abbrev leD := cmpO (fun i j => decide (i ≤ j)) (fun s t => !decide (t < s))
abbrev gtD := cmpO (fun i j => decide (j < i)) (fun s t => decide (t < s))
abbrev geD := cmpO (fun i j => decide (j ≤ i)) (fun s t => !decide (s < t))
section
variable {ca : PySem.W.Frag} {X : Cx}
theorem b_cmpO {p : Int → Int → Bool} {q : List Nat → List Nat → Bool} : BinR ca (fun x y H Q => (∃ i j, x = .int i ∧ y = .int j ∧ Q (.bl (p i j)) H) ∨ ∃ i j, x = .str i ∧ y = .str j ∧ Q (.bl (q i.cps.toList j.cps.toList)) H) (cmpO p q) := by
  intro G H x y dx dy v Q s px py e out
  unfold cmpO at e
  split at e
  · rename_i i j
    cases e; cases peek_int px; cases peek_int py
    exact .inl ⟨i, j, rfl, rfl, out _ _ (out_sh (.bl _))⟩
  · rename_i i j
    cases e; cases peek_str px; cases peek_str py
    exact .inr ⟨i, j, rfl, rfl, out _ _ (out_sh (.bl _))⟩
  · cases e
end
/-! ### as data -/
mutual
def toPy : D → Option PyData
  | .non => some .none
  | .bl b => some (.bool b)
  | .int i => some (.int i)
  | .str s => some (.str s)
  | .lst xs => (toPys xs).map .list
  | .tup xs => (toPys xs).map .tuple
  | _ => none
def toPys : List D → Option (List PyData)
  | [] => some []
  | d :: ds => (toPy d).bind fun p => (toPys ds).map (p :: ·)
end
section
variable {K : PySem.W.Frag} {H : Hp}
theorem dpAll_of : ∀ {vs : List V} {ds : List D} {ps : List PyData}, vs.length = ds.length → (∀ (i : Nat) v d, vs[i]? = some v → ds[i]? = some d → ∀ p, toPy d = some p → Dp K H v p) → toPys ds = some ps → DpAll K H vs ps
  | [], [], _, _, _, e => by
    unfold toPys at e; cases e; exact .nil
  | [], _ :: _, _, h, _, _ => by simp at h
  | _ :: _, [], _, h, _, _ => by simp at h
  | v :: vs, d :: ds, ps, h, q, e => by
    unfold toPys at e
    cases e1 : toPy d with
    | none => rw [e1] at e; cases e
    | some p =>
      rw [e1] at e
      cases e2 : toPys ds with
      | none => rw [e2] at e; cases e
      | some qs =>
        rw [e2] at e
        cases e
        exact .cons (q 0 v d rfl rfl p e1) (dpAll_of (by simpa using h) (fun i u e' h1 h2 => q (i + 1) u e' (by simpa using h1) (by simpa using h2)) e2)
theorem Rep.dp {v : V} {d : D} (r : Rep K H v d) : ∀ p, toPy d = some p → Dp K H v p := by
  induction r with
  | non => intro p e; unfold toPy at e; cases e; exact .non
  | bl b => intro p e; unfold toPy at e; cases e; exact .bl b
  | int b => intro p e; unfold toPy at e; cases e; exact .int b
  | str b => intro p e; unfold toPy at e; cases e; exact .str b
  | @lst a vs ds r l q ih =>
    intro p e
    unfold toPy at e
    cases e2 : toPys ds with
    | none => rw [e2] at e; cases e
    | some qs => rw [e2] at e; cases e; exact .lst (SqL.of r) (dpAll_of l ih e2)
  | @tup a vs ds r l q ih =>
    intro p e
    unfold toPy at e
    cases e2 : toPys ds with
    | none => rw [e2] at e; cases e
    | some qs => rw [e2] at e; cases e; exact .tup (SqT.of r) (dpAll_of l ih e2)
  | dk r l q ih => intro p e; unfold toPy at e; cases e
  | dt r l q ih => intro p e; unfold toPy at e; cases e
  | ins r l q ih => intro p e; unfold toPy at e; cases e
  | scr r => intro p e; unfold toPy at e; cases e
end
/-- == of data -/
def eqB : D → D → Option Bool
  | .int i, .int j => some (decide (i = j))
  | .bl i, .bl j => some (decide (i = j))
  | .str i, .str j => some (decide (i = j))
  | .non, .non => some true
  | a, b => match toPy a, toPy b with
    | some p, some q => if SeqAt.shaped p = true ∧ SeqAt.shaped q = true then some (PyData.eqv p q) else none
    | _, _ => none
def eqD (a b : D) : Option Val := (eqB a b).map fun k => .sh (.bl k)
def neD (a b : D) : Option Val := (eqB a b).map fun k => .sh (.bl (!k))
def rEqA (K : PySem.W.Frag) : R2 := fun x y H Q => rEq x y H Q ∨ rEqD K x y H Q
def rNeA (K : PySem.W.Frag) : R2 := fun x y H Q => rNe x y H Q ∨ rNeD K x y H Q
section
variable {ca : PySem.W.Frag} {X : Cx}
theorem o_eq (hu : X.A.units + 64 < cLine) : OpR X (compareOp .Eq) (rEqA X.K) := op_eq.or (op_eqD hu)
theorem o_ne (hu : X.A.units + 64 < cLine) : OpR X (compareOp .NotEq) (rNeA X.K) := op_ne.or (op_neD hu)
theorem eq_cases {G H : Hp} {x y : V} {dx dy : D} {k : Bool} (s : Same G H) (px : Peek ca G H x dx) (py : Peek ca G H y dy) (e : eqB dx dy = some k) :
    (scal x y = true ∧ k = decide (x = y)) ∨ ∃ d e, Dp ca H x d ∧ Dp ca H y e ∧ SeqAt.shaped d = true ∧ SeqAt.shaped e = true ∧ k = PyData.eqv d e := by
  unfold eqB at e
  split at e
  · cases e; cases peek_int px; cases peek_int py
    exact .inl ⟨rfl, by simp⟩
  · cases e; cases peek_bl px; cases peek_bl py
    exact .inl ⟨rfl, by simp⟩
  · cases e; cases peek_str px; cases peek_str py
    exact .inl ⟨rfl, by simp⟩
  · cases e; cases peek_non px; cases peek_non py
    exact .inl ⟨rfl, by simp⟩
  · split at e
    · rename_i p q h1 h2
      split at e
      · rename_i hs
        cases e
        exact .inr ⟨p, q, (px.rep s).dp p h1, (py.rep s).dp q h2, hs.1, hs.2, rfl⟩
      · cases e
    · cases e
theorem b_eq : BinR ca (rEqA ca) eqD := by
  intro G H x y dx dy v Q s px py e out
  unfold eqD at e
  cases ek : eqB dx dy with
  | none => rw [ek] at e; cases e
  | some k =>
    rw [ek] at e
    cases e
    have fin : Q (.bl k) H := out _ _ (out_sh (.bl _))
    rcases eq_cases s px py ek with ⟨h1, h2⟩ | ⟨d, e, h1, h2, h3, h4, h5⟩
    · exact .inl ⟨h1, by rw [← h2]; exact fin⟩
    · exact .inr ⟨d, e, h1, h2, h3, h4, by rw [← h5]; exact fin⟩
theorem b_ne : BinR ca (rNeA ca) neD := by
  intro G H x y dx dy v Q s px py e out
  unfold neD at e
  cases ek : eqB dx dy with
  | none => rw [ek] at e; cases e
  | some k =>
    rw [ek] at e
    cases e
    have fin : Q (.bl (!k)) H := out _ _ (out_sh (.bl _))
    rcases eq_cases s px py ek with ⟨h1, h2⟩ | ⟨d, e, h1, h2, h3, h4, h5⟩
    · exact .inl ⟨h1, by rw [← h2]; exact fin⟩
    · exact .inr ⟨d, e, h1, h2, h3, h4, by rw [← h5]; exact fin⟩
/-! ### in -/
def keyK : D → Option Key
  | .int i => some (.inl i)
  | .str s => some (.inr s)
  | _ => none
def keysK : List D → Option (List Key)
  | [] => some []
  | d :: ds => (keyK d).bind fun k => (keysK ds).map (k :: ·)
def valD {κ : Type} [DecidableEq κ] (kvs : List (κ × D)) (k : κ) : Option D := (kvs.find? fun kv => decide (kv.1 = k)).map (·.2)
/-- what a dict holds at a key -/
def dgetD : D → D → Option (Option D)
  | .dk kvs, k => (keyK k).map fun k => valD kvs k
  | .dt kvs, .tup ks => (keysK ks).map fun k => valD kvs k
  | _, _ => none
def inB : D → D → Option Bool
  | .str c, .str z => match c.cps with
    | ⟨[n]⟩ => some (decide (n ∈ z.cps.toList))
    | _ => none
  | d, .lst xs => match toPy d, toPys xs with
    | some p, some ps => if SeqAt.shaped p = true ∧ SeqAt.shaped (.list ps) = true then some (ps.any fun z => PyData.eqv z p) else none
    | _, _ => none
  | k, e => (dgetD e k).map Option.isSome
def inD (a b : D) : Option Val := (inB a b).map fun k => .sh (.bl k)
def ninD (a b : D) : Option Val := (inB a b).map fun k => .sh (.bl (!k))
def rDIn (neg : Bool) : R2 := fun y x H Q => ∃ a o, x = .ref a ∧ DGet H a y o ∧ Q (.bl (if neg then !o.isSome else o.isSome)) H
theorem o_din (hu : X.A.units + 1 < cLine) : OpR X (compareOp .In) (rDIn false) := by
  intro pins s σ H x y v u Q I rx ry h
  obtain ⟨a, o, rfl, g, q⟩ := h
  cases ry
  exact d_in hu I g rx fun s3 I3 => ⟨.bl _, H, I3, rfl, q⟩
theorem o_dnin (hu : X.A.units + 1 < cLine) : OpR X (compareOp .NotIn) (rDIn true) := by
  intro pins s σ H x y v u Q I rx ry h
  obtain ⟨a, o, rfl, g, q⟩ := h
  cases ry
  exact d_notIn hu I g rx fun s3 I3 => ⟨.bl _, H, I3, rfl, q⟩
def rSgn (neg : Bool) : R2 := fun x y H Q => ∃ (c : Nat) (z : Str), x = .str ⟨#[c]⟩ ∧ y = .str z ∧ Q (.bl (if neg then !decide (c ∈ z.cps.toList) else decide (c ∈ z.cps.toList))) H
def rInA (K : PySem.W.Frag) : R2 := fun x y H Q => rSgn false x y H Q ∨ (rInD K x y H Q ∨ rDIn false x y H Q)
def rNInA (K : PySem.W.Frag) : R2 := fun x y H Q => rSgn true x y H Q ∨ (rNotInD K x y H Q ∨ rDIn true x y H Q)
end
end Pd
/-! Pd10: in, subscripts, slices, built-in calls, methods -/
namespace Pd
open PySem PySem.Spec L2
section
variable {ca : PySem.W.Frag} {X : Cx} {G H : Hp}
theorem RepK.tail {κ : Type} {p : κ × V} {q : κ × D} {vs : List (κ × V)} {ds : List (κ × D)} (r : RepK ca G (p :: vs) (q :: ds)) : p.1 = q.1 ∧ Rep ca G p.2 q.2 ∧ RepK ca G vs ds := by
  have h := r.keys
  simp only [List.map_cons, List.cons.injEq] at h
  exact ⟨h.1, r.at_ 0 p q rfl rfl, ⟨h.2, fun i v d h1 h2 => r.at_ (i + 1) v d (by simpa using h1) (by simpa using h2)⟩⟩
theorem RepK.cons {κ : Type} {p : κ × V} {q : κ × D} {vs : List (κ × V)} {ds : List (κ × D)} (h : p.1 = q.1) (r : Rep ca G p.2 q.2) (t : RepK ca G vs ds) : RepK ca G (p :: vs) (q :: ds) := by
  refine ⟨by simp [h, t.keys], fun i v d h1 h2 => ?_⟩
  cases i with
  | zero => cases h1; cases h2; exact r
  | succ n => exact t.at_ n v d (by simpa using h1) (by simpa using h2)
theorem RepK.nil {κ : Type} : RepK ca G ([] : List (κ × V)) [] := ⟨rfl, fun i v d h => by simp at h⟩
/-- what a dict holds -/
theorem RepK.val {κ : Type} [DecidableEq κ] (k : κ) : ∀ {vs : List (κ × V)} {ds : List (κ × D)}, RepK ca G vs ds → (valD ds k = none ∧ valV vs k = none) ∨ ∃ d v, valD ds k = some d ∧ valV vs k = some v ∧ Rep ca G v d
  | [], [], _ => .inl ⟨rfl, rfl⟩
  | [], _ :: _, r => by have := r.keys; simp at this
  | _ :: _, [], r => by have := r.keys; simp at this
  | p :: vs, q :: ds, r => by
    obtain ⟨h1, h2, h3⟩ := r.tail
    by_cases hk : p.1 = k
    · refine .inr ⟨q.2, p.2, ?_, valV_pos hk, h2⟩
      unfold valD
      rw [List.find?_cons_of_pos (by rw [← h1]; simpa using hk)]
      rfl
    · have e1 : valD (q :: ds) k = valD ds k := by
        unfold valD
        rw [List.find?_cons_of_neg (by rw [← h1]; simpa using hk)]
      rw [e1, valV_neg hk]
      exact RepK.val k h3
theorem keysK_of : ∀ {vs : List V} {ds : List D} {ks : List Key}, Reps ca G vs ds → keysK ds = some ks → vs = ks.map kV
  | [], [], _, _, e => by cases e; rfl
  | [], _ :: _, _, r, _ => by have := r.len; simp at this
  | _ :: _, [], _, r, _ => by have := r.len; simp at this
  | v :: vs, d :: ds, ks, r, e => by
    unfold keysK at e
    cases e1 : keyK d with
    | none => rw [e1] at e; cases e
    | some k =>
      rw [e1] at e
      cases e2 : keysK ds with
      | none => rw [e2] at e; cases e
      | some ks' =>
        rw [e2] at e
        cases e
        have h0 := r.at_ 0 v d rfl rfl
        have t := keysK_of (vs := vs) (ds := ds) (ks := ks') ⟨by have := r.len; simpa using this, fun i u e h1 h2 => r.at_ (i + 1) u e (by simpa using h1) (by simpa using h2)⟩ e2
        rw [t, List.map_cons]
        congr 1
        cases d with
        | int i => cases e1; cases h0; rfl
        | str i => cases e1; cases h0; rfl
        | _ => cases e1
theorem keyK_of {v : V} {d : D} {k : Key} (p : Peek ca G H v d) (e : keyK d = some k) : v = kV k := by
  cases d with
  | int i => cases e; cases peek_int p; rfl
  | str i => cases e; cases peek_str p; rfl
  | _ => cases e
/-- a dict asked -/
theorem dget_of {x y : V} {dx dy : D} {o : Option D} (s : Same G H) (px : Peek ca G H x dx) (py : Peek ca G H y dy) (e : dgetD dx dy = some o) : ∃ a r, x = .ref a ∧ DGet H a y r ∧ ((o = none ∧ r = none) ∨ ∃ d v, o = some d ∧ r = some v ∧ Rep ca G v d) := by
  unfold dgetD at e
  split at e
  · rename_i kvs
    cases ek : keyK dy with
    | none => rw [ek] at e; cases e
    | some k' =>
      rw [ek] at e
      cases e
      obtain ⟨a, vs, rfl, ha, r⟩ := px
      refine ⟨a, valV vs k', rfl, .inl ⟨vs, k', ha, keyK_of py ek, rfl⟩, ?_⟩
      rcases r.val k' with ⟨h1, h2⟩ | ⟨d, v, h1, h2, h3⟩
      · exact .inl ⟨h1, h2⟩
      · exact .inr ⟨d, v, h1, h2, h3⟩
  · rename_i kvs ks
    cases ek : keysK ks with
    | none => rw [ek] at e; cases e
    | some k' =>
      rw [ek] at e
      cases e
      obtain ⟨a, vs, rfl, ha, r⟩ := px
      obtain ⟨a', us, rfl, ha', r'⟩ := py
      have hu := keysK_of r' ek
      subst hu
      refine ⟨a, valV vs k', rfl, .inr ⟨vs, k', a', ha, rfl, s _ _ ha', rfl⟩, ?_⟩
      rcases r.val k' with ⟨h1, h2⟩ | ⟨d, v, h1, h2, h3⟩
      · exact .inl ⟨h1, h2⟩
      · exact .inr ⟨d, v, h1, h2, h3⟩
  · cases e
theorem o_in (hu : X.A.units + 65 < cLine) : OpR X (compareOp .In) (rInA X.K) := by
  have h1 : OpR X (compareOp .In) (rSgn false) := fun pins s σ H x y v u Q I rx ry ⟨c, z, e1, e2, q⟩ => op_in_sign pins s σ H x y v u Q I rx ry ⟨c, z, e1, e2, q⟩
  exact h1.or ((op_inD hu).or (o_din (by omega)))
theorem o_nin (hu : X.A.units + 65 < cLine) : OpR X (compareOp .NotIn) (rNInA X.K) := by
  have h1 : OpR X (compareOp .NotIn) (rSgn true) := fun pins s σ H x y v u Q I rx ry ⟨c, z, e1, e2, q⟩ => op_notIn_sign pins s σ H x y v u Q I rx ry ⟨c, z, e1, e2, q⟩
  exact h1.or ((op_notInD hu).or (o_dnin (by omega)))
theorem in_cases {x y : V} {dx dy : D} {k : Bool} (s : Same G H) (px : Peek ca G H x dx) (py : Peek ca G H y dy) (e : inB dx dy = some k) :
    (∃ (c : Nat) (z : Str), x = .str ⟨#[c]⟩ ∧ y = .str z ∧ k = decide (c ∈ z.cps.toList)) ∨
    (∃ d ds, Dp ca H x d ∧ Dp ca H y (.list ds) ∧ SeqAt.shaped d = true ∧ SeqAt.shaped (.list ds) = true ∧ k = ds.any fun z => PyData.eqv z d) ∨
    ∃ a o, y = .ref a ∧ DGet H a x o ∧ k = o.isSome := by
  unfold inB at e
  split at e
  · rename_i c z
    split at e
    · rename_i n hn
      cases e
      cases peek_str px; cases peek_str py
      refine .inl ⟨n, z, ?_, rfl, rfl⟩
      cases c with
      | mk cps => cases hn; rfl
    · cases e
  · rename_i d xs _
    split at e
    · rename_i p ps h1 h2
      split at e
      · rename_i hs
        cases e
        refine .inr (.inl ⟨p, ps, (px.rep s).dp p h1, (py.rep s).dp (.list ps) ?_, hs.1, hs.2, rfl⟩)
        unfold toPy; rw [h2]; rfl
      · cases e
    · cases e
  · rename_i k' e' _ _
    cases eg : dgetD dy dx with
    | none => rw [eg] at e; cases e
    | some o =>
      rw [eg] at e
      cases e
      obtain ⟨a, r, h1, h2, h3⟩ := dget_of s py px eg
      refine .inr (.inr ⟨a, r, h1, h2, ?_⟩)
      rcases h3 with ⟨q1, q2⟩ | ⟨d, v, q1, q2, _⟩
      · rw [q1, q2]; rfl
      · rw [q1, q2]; rfl
theorem b_in : BinR ca (rInA ca) inD := by
  intro G H x y dx dy v Q s px py e out
  unfold inD at e
  cases ek : inB dx dy with
  | none => rw [ek] at e; cases e
  | some k =>
    rw [ek] at e
    cases e
    have fin : Q (.bl k) H := out _ _ (out_sh (.bl _))
    rcases in_cases s px py ek with ⟨c, z, h1, h2, h3⟩ | ⟨d, ds, h1, h2, h3, h4, h5⟩ | ⟨a, o, h1, h2, h3⟩
    · exact .inl ⟨c, z, h1, h2, by rw [h3] at fin; exact fin⟩
    · exact .inr (.inl ⟨d, ds, h1, h2, h3, h4, by rw [h5] at fin; exact fin⟩)
    · exact .inr (.inr ⟨a, o, h1, h2, by rw [h3] at fin; exact fin⟩)
theorem b_nin : BinR ca (rNInA ca) ninD := by
  intro G H x y dx dy v Q s px py e out
  unfold ninD at e
  cases ek : inB dx dy with
  | none => rw [ek] at e; cases e
  | some k =>
    rw [ek] at e
    cases e
    have fin : Q (.bl (!k)) H := out _ _ (out_sh (.bl _))
    rcases in_cases s px py ek with ⟨c, z, h1, h2, h3⟩ | ⟨d, ds, h1, h2, h3, h4, h5⟩ | ⟨a, o, h1, h2, h3⟩
    · exact .inl ⟨c, z, h1, h2, by rw [h3] at fin; exact fin⟩
    · exact .inr (.inl ⟨d, ds, h1, h2, h3, h4, by rw [h5] at fin; exact fin⟩)
    · exact .inr (.inr ⟨a, o, h1, h2, by rw [h3] at fin; exact fin⟩)

/-! ### subscripts -/
def ixD : D → D → Option Val
  | .lst ds, .int i => (atI ds i).map .sh
  | .tup ds, .int i => (atI ds i).map .sh
  | .str z, .int i => if z.length ≤ sizeLine then (atI z.cps.toList i).map fun c => .sh (.str ⟨#[c]⟩) else none
  | d, k => (dgetD d k).bind fun o => o.map .sh
def rDGet : R2 := fun x y H Q => ∃ a v, x = .ref a ∧ DGet H a y (some v) ∧ Q v H
open PyProof.Rows in
theorem ix_dict (hu : X.A.units + 1 < cLine) : IxR X rDGet := by
  intro value slice pins s σ H x y v u Q I rx ry h hs
  obtain ⟨a, w', rfl, g, q⟩ := h
  obtain rfl : v = Value.ref a := rx
  have hT := dict_typeIs I g
  unfold subscriptTail
  refine wpAny_bind ?_
  rw [getitemInPython_of_ne hT.not_modules]
  refine wpAny_bind (wpAny_specialOf hT PySem.F.slot_dict_getitem.lookup ?_)
  have fin : wpAny (model X.prog X.w) X.A (subscripted slice false (.ref a) u) (fun r s₃ => wpAny (model X.prog X.w) X.A (letTemporaryGo value (.ref a) r >>= fun _ => pure r) (EP X pins σ Q) X.xe s₃) X.xe s := by
    rw [hs]
    refine wpAny_operating (wpAny_mono (d_getItem hu I g ry fun w2 s3 I3 rw' => (⟨w', H, I3, rw', q⟩ : EP X pins σ Q w2 s3)) (fun r s₃ h₃ => wpAny_bind (wpAny_letTemporaryGo (wpAny_pure h₃))) fun _ _ x => x)
  first
    | exact wpAny_pure (wpAny_bind fin)
    | exact wpAny_bind (wpAny_pure (wpAny_bind fin))
    | exact wpAny_bind fin
def rIxA (K : PySem.W.Frag) : R2 := fun x y H Q => rIx K x y H Q ∨ rDGet x y H Q
theorem ix_all (hu : X.A.units + 1 < cLine) : IxR X (rIxA X.K) := ix_seq.or (ix_dict hu)
theorem Reps.atI {vs : List V} {ds : List D} {d : D} {i : Int} (r : Reps ca G vs ds) (h : atI ds i = some d) : ∃ v, L2.atI vs i = some v ∧ Rep ca G v d := by
  unfold L2.atI at h ⊢
  rw [r.len]
  cases e : ixN ds.length i with
  | none => rw [e] at h; cases h
  | some j =>
    rw [e] at h
    exact r.get h
theorem b_ix : BinR ca (rIxA ca) ixD := by
  intro G H x y dx dy v Q s px py e out
  unfold ixD at e
  split at e
  · rename_i ds i
    cases ea : atI ds i with
    | none => rw [ea] at e; cases e
    | some d =>
      rw [ea] at e
      cases e; cases peek_int py
      obtain ⟨a, vs, rfl, ha, r⟩ := px
      obtain ⟨w, h1, h2⟩ := r.atI ea
      exact .inl (.inl ⟨a, vs, i, w, rfl, rfl, SqL.of ha, h1, out _ _ (out_sh h2)⟩)
  · rename_i ds i
    cases ea : atI ds i with
    | none => rw [ea] at e; cases e
    | some d =>
      rw [ea] at e
      cases e; cases peek_int py
      obtain ⟨a, vs, rfl, ha, r⟩ := px
      obtain ⟨w, h1, h2⟩ := r.atI ea
      exact .inl (.inr (.inl ⟨a, vs, i, w, rfl, rfl, SqT.of (s _ _ ha), h1, out _ _ (out_sh h2)⟩))
  · rename_i z i
    split at e
    · rename_i hz
      cases ea : atI z.cps.toList i with
      | none => rw [ea] at e; cases e
      | some d =>
        rw [ea] at e
        cases e; cases peek_int py; cases peek_str px
        exact .inl (.inr (.inr ⟨z, i, d, rfl, rfl, hz, ea, out _ _ (out_sh (.str _))⟩))
    · cases e
  · cases eg : dgetD dx dy with
    | none => rw [eg] at e; cases e
    | some o =>
      rw [eg] at e
      cases o with
      | none => cases e
      | some d =>
        cases e
        obtain ⟨a, r, h1, h2, h3⟩ := dget_of s px py eg
        rcases h3 with ⟨q1, _⟩ | ⟨d', v', q1, q2, q3⟩
        · cases q1
        · cases q1; subst q2
          exact .inr ⟨a, v', h1, h2, out _ _ (out_sh q3)⟩

/-! ### slices -/
def cutD {α : Type} (xs : List α) (lo hi : Option Int) : List α := (xs.drop (HT.sIx xs.length 0 lo)).take (HT.sIx xs.length xs.length hi - HT.sIx xs.length 0 lo)
def sliceD (d : D) (lo hi : Option Int) : Option Val := match d with
  | .lst ds => some (.fr (.lst (cutD ds lo hi)))
  | .tup ds => if ¬ (HT.sIx ds.length 0 lo = 0 ∧ HT.sIx ds.length ds.length hi = ds.length) then some (.sh (.tup (cutD ds lo hi))) else none
  | .str z => if z.length ≤ sizeLine then some (.sh (.str (cutS z lo hi))) else none
  | _ => none
theorem Reps.cut {vs : List V} {ds : List D} (r : Reps ca G vs ds) (lo hi : Option Int) : Reps ca G (cutV vs lo hi) (cutD ds lo hi) := by
  unfold cutV cutD
  rw [r.len]
  exact (r.drop _).take _
def rSlA (K : PySem.W.Frag) : V → Option Int → Option Int → Hp → VK → Prop := fun x lo hi H Q => rSlL K x lo hi H Q ∨ (rSlT K x lo hi H Q ∨ rSlS x lo hi H Q)
theorem sl_all : SlR X (rSlA X.K) := sl_list.or (sl_tup.or sl_str)
theorem b_sl : SlcR ca (rSlA ca) sliceD := by
  intro G H x dx l h v Q s px e out
  unfold sliceD at e
  split at e
  · rename_i ds
    cases e
    obtain ⟨a, vs, rfl, ha, r⟩ := px
    exact .inl ⟨a, vs, rfl, SqL.of ha, fun p hp => out _ _ (out_lst hp (r.cut l h))⟩
  · rename_i ds
    split at e
    · rename_i hc
      cases e
      obtain ⟨a, vs, rfl, ha, r⟩ := px
      exact .inr (.inl ⟨a, vs, rfl, SqT.of (s _ _ ha), by rw [r.len]; exact hc, fun p hp => out _ _ (out_tup s hp (r.cut l h))⟩)
    · cases e
  · rename_i z
    split at e
    · rename_i hz
      cases e; cases peek_str px
      exact .inr (.inr ⟨z, rfl, hz, out _ _ (out_sh (.str _))⟩)
    · cases e
  · cases e

/-! ### built-in calls -/
theorem Peeks.one {xs : List V} {d : D} (h : Peeks ca G H xs [d]) : ∃ x, xs = [x] ∧ Peek ca G H x d := by
  cases h with
  | cons p t => cases t; exact ⟨_, rfl, p⟩
def lenD : List D → Option Val
  | [.lst ds] => some (.sh (.int ds.length))
  | [.tup ds] => some (.sh (.int ds.length))
  | [.str z] => if z.length ≤ sizeLine then some (.sh (.int z.length)) else none
  | [.dk kvs] => some (.sh (.int kvs.length))
  | _ => none
def rLenA (K : PySem.W.Frag) : List V → Hp → VK → Prop := fun xs H Q => (∃ p ys, xs = [.ref p] ∧ (SqL K H p ys ∨ SqT K H p ys) ∧ Q (.int ys.length) H) ∨ ((∃ z, xs = [.str z] ∧ z.length ≤ sizeLine ∧ Q (.int z.length) H) ∨ ∃ a kvs, xs = [.ref a] ∧ Rd H a (.dK kvs) ∧ Q (.int kvs.length) H)
theorem call_lenDk : CallR X (.builtin "len") (fun xs H Q => ∃ a kvs, xs = [.ref a] ∧ Rd H a (.dK kvs) ∧ Q (.int kvs.length) H) := by
  intro pins s σ H xs us Q I r h
  obtain ⟨a, kvs, rfl, ha, q⟩ := h
  rw [Vals.ref1 r]
  exact d_len I ha fun t s' I' => ⟨.int _, H, I', ⟨t, rfl⟩, q⟩
theorem c_len : CallR X (.builtin "len") (rLenA X.K) := call_len_seq.or (call_len_str.or call_lenDk)
theorem RepK.length {κ : Type} {vs : List (κ × V)} {ds : List (κ × D)} (r : RepK ca G vs ds) : vs.length = ds.length := by
  have := congrArg List.length r.keys
  simpa using this
theorem b_len : ArgR ca (rLenA ca) lenD := by
  intro G H xs ds v Q s ps e out
  unfold lenD at e
  split at e
  · cases e
    obtain ⟨x, rfl, p⟩ := ps.one
    obtain ⟨a, vs, rfl, ha, r⟩ := p
    exact .inl ⟨a, vs, rfl, .inl (SqL.of ha), by rw [r.len]; exact out _ _ (out_sh (.int _))⟩
  · cases e
    obtain ⟨x, rfl, p⟩ := ps.one
    obtain ⟨a, vs, rfl, ha, r⟩ := p
    exact .inl ⟨a, vs, rfl, .inr (SqT.of (s _ _ ha)), by rw [r.len]; exact out _ _ (out_sh (.int _))⟩
  · split at e
    · rename_i hz
      cases e
      obtain ⟨x, rfl, p⟩ := ps.one
      cases peek_str p
      exact .inr (.inl ⟨_, rfl, hz, out _ _ (out_sh (.int _))⟩)
    · cases e
  · cases e
    obtain ⟨x, rfl, p⟩ := ps.one
    obtain ⟨a, vs, rfl, ha, r⟩ := p
    exact .inr (.inr ⟨a, vs, rfl, ha, by rw [r.length]; exact out _ _ (out_sh (.int _))⟩)
  · cases e
def intD : List D → Option Val
  | [.int i] => some (.sh (.int i))
  | [.bl k] => some (.sh (.int (if k then 1 else 0)))
  | _ => none
theorem b_int : ArgR ca (fun xs H Q => (∃ i, xs = [.int i] ∧ Q (.int i) H) ∨ ∃ k, xs = [.bl k] ∧ Q (.int (if k then 1 else 0)) H) intD := by
  intro G H xs ds v Q s ps e out
  unfold intD at e
  split at e
  · cases e
    obtain ⟨x, rfl, p⟩ := ps.one
    cases peek_int p
    exact .inl ⟨_, rfl, out _ _ (out_sh (.int _))⟩
  · cases e
    obtain ⟨x, rfl, p⟩ := ps.one
    cases peek_bl p
    exact .inr ⟨_, rfl, out _ _ (out_sh (.int _))⟩
  · cases e
def listD : List D → Option Val
  | [.lst ds] => some (.fr (.lst ds))
  | [.tup ds] => some (.fr (.lst ds))
  | _ => none
theorem b_list : ArgR ca (fun xs H Q => ∃ p ys, xs = [.ref p] ∧ (SqL ca H p ys ∨ SqT ca H p ys) ∧ ∀ l, H l = none → Q (.ref l) (upd H l (.lst ys))) listD := by
  intro G H xs ds v Q s ps e out
  unfold listD at e
  split at e
  · cases e
    obtain ⟨x, rfl, p⟩ := ps.one
    obtain ⟨a, vs, rfl, ha, r⟩ := p
    exact ⟨a, vs, rfl, .inl (SqL.of ha), fun l hl => out _ _ (out_lst hl r)⟩
  · cases e
    obtain ⟨x, rfl, p⟩ := ps.one
    obtain ⟨a, vs, rfl, ha, r⟩ := p
    exact ⟨a, vs, rfl, .inr (SqT.of (s _ _ ha)), fun l hl => out _ _ (out_lst hl r)⟩
  · cases e
def tupleD : List D → Option Val
  | [.lst ds] => some (.sh (.tup ds))
  | [.tup ds] => some (.sh (.tup ds))
  | _ => none
theorem b_tuple : ArgR ca (fun xs H Q => ∃ p ys, xs = [.ref p] ∧ ((SqL ca H p ys ∧ ∀ l, H l = none → Q (.ref l) (upd H l (.tup ys))) ∨ (SqT ca H p ys ∧ Q (.ref p) H))) tupleD := by
  intro G H xs ds v Q s ps e out
  unfold tupleD at e
  split at e
  · cases e
    obtain ⟨x, rfl, p⟩ := ps.one
    obtain ⟨a, vs, rfl, ha, r⟩ := p
    exact ⟨a, vs, rfl, .inl ⟨SqL.of ha, fun l hl => out _ _ (out_tup s hl r)⟩⟩
  · cases e
    obtain ⟨x, rfl, p⟩ := ps.one
    obtain ⟨a, vs, rfl, ha, r⟩ := p
    exact ⟨a, vs, rfl, .inr ⟨SqT.of (s _ _ ha), out _ _ (out_sh (.tup ha r.len r.at_))⟩⟩
  · cases e
/-- the built-in class of a value -/
def tyN : D → Option String
  | .non => some "NoneType" | .bl _ => some "bool" | .int _ => some "int" | .str _ => some "str" | .lst _ => some "list" | .tup _ => some "tuple" | .dk _ => some "dict"
  | _ => none
theorem tyN_of {x : V} {d : D} {n : String} (s : Same G H) (p : Peek ca G H x d) (e : tyN d = some n) : TyX ca H x (.type n) := by
  cases d with
  | non => cases e; cases peek_non p; exact .base .non
  | bl b => cases e; cases peek_bl p; exact .base (.bl b)
  | int b => cases e; cases peek_int p; exact .base (.int b)
  | str b => cases e; cases peek_str p; exact .base (.str b)
  | lst ds => cases e; obtain ⟨a, vs, rfl, ha, r⟩ := p; exact .base (.lst ha)
  | tup ds => cases e; obtain ⟨a, vs, rfl, ha, r⟩ := p; exact .base (.tup (s _ _ ha))
  | dk ds =>
    cases e
    obtain ⟨a, vs, rfl, ha, r⟩ := p
    rcases ha with ha | ⟨o, ha⟩
    · exact .base (.dK ha)
    · exact .fDict ha
  | _ => cases e
/-- isinstance(x, T), T a built-in class -/
def isB (n : String) (d : D) : Option Val := (tyN d).bind fun t => (kitB t n).map fun k => .sh (.bl k)
variable {c : CT} {W : WX} {pos : Pos}
theorem p_isB {n : String} {a : Expr} {nm : Str} {p pb : Pos} {fa : SE} (hm : X.mg "isinstance" = none) (ha : PE X a (rdE ca c W fa)) (hn : X.mg nm = none) (hv : bootBuiltins nm = some (.type n) := by decide +kernel)
    (hg : Gl X "isinstance" := by rfl) (hgn : Gl X nm := by rfl) (hnn : nm ≠ "__name__" := by decide) (hnd : (nm == ("__debug__" : Str)) = false := by decide)
    (hs1 : starEach [a, .Name nm pb] X.env = (false, eval a X.env) :: starEach [.Name nm pb] X.env := by rfl) (hs2 : starEach [.Name nm pb] X.env = (false, eval (.Name nm pb) X.env) :: starEach [] X.env := by rfl) (hpl : (backTo pos (starEach [.Name nm pb] X.env)).any (·.1) = false := by rfl) (hK : X.K = ca := by rfl)
    (hbi : bootBuiltins "isinstance" = some (.builtin "isinstance") := by decide +kernel) :
    PE X (.Call (.Name "isinstance" p) [a, .Name nm pb] [] pos) (rdE ca c W (eUn (isB n) fa)) := by
  have hcl : PE X (.Name nm pb) (tC (.ty n)) := pe_bltn hgn hn hv rfl hnn hnd
  refine PE_weak (pe_callB call_isi hg hm hbi (pa_cons ha (pa_cons hcl pa_nil hs2) hs1) (by decide) (by decide) hs1 hpl) ?_
  intro σ H Q h
  refine una_in (r := fun x H1 Q => rIsi X.K [x, .ty n] H1 Q) (g := isB n) ?_ σ H Q h
  intro G H x dx v Q s px e out
  unfold isB at e
  cases et : tyN dx with
  | none => rw [et] at e; cases e
  | some t =>
    rw [et] at e
    cases ek : kitB t n with
    | none => simp [ek] at e
    | some k =>
      simp [ek] at e
      subst e
      refine ⟨x, .ty n, .type t, .type n, k, rfl, .ty n, ?_, kit_ty ek, out _ _ (out_sh (.bl k))⟩
      rw [hK]
      exact tyN_of s px et
/-- isinstance(x, (T1, T2)) -/
def isB2 (n m : String) (d : D) : Option Val := (tyN d).bind fun t => (kitB t n).bind fun k => (kitB t m).map fun j => .sh (.bl (k || j))
/-- sep.join(xs) -/
def strsOf : List D → Option (List Str)
  | [] => some []
  | .str s :: ds => (strsOf ds).map (s :: ·)
  | _ => none
theorem strsOf_eq : ∀ {ds : List D} {ss : List Str}, strsOf ds = some ss → ds = ss.map D.str
  | [], _, e => by cases e; rfl
  | d :: ds, ss, e => by
    cases d with
    | str s =>
      have e : (strsOf ds).map (s :: ·) = some ss := e
      cases er : strsOf ds with
      | none => rw [er] at e; cases e
      | some r => rw [er] at e; cases e; rw [strsOf_eq er]; rfl
    | _ => cases e
def joinD (z : Str) : D → Option Val
  | .lst ds => (strsOf ds).bind fun ss => if (ss.map (·.length)).sum + ss.length * z.length ≤ 16777216 then some (.sh (.str (Txt.join z ss))) else none
  | .tup ds => (strsOf ds).bind fun ss => if (ss.map (·.length)).sum + ss.length * z.length ≤ 16777216 then some (.sh (.str (Txt.join z ss))) else none
  | _ => none
/-- a text's method with one argument -/
def eStrM (g : Str → D → Option Val) (fo fe : SE) : SE := fun c env => bindV (fo c env) fun va e1 => match va with
  | .sh (.str z) => bindV (fe c e1) fun vb e2 => (peek e2 vb).bind fun db => (g z db).map fun r => .val r e2
  | _ => none
theorem strM_in {g : Str → D → Option Val} {fo fe : SE} {r : V → List V → Hp → VK → Prop}
    (br : ∀ (z : Str) (G H : Hp) (y : V) (dy : D) (v : Val) (Q : VK), Same G H → Peek ca G H y dy → g z dy = some v → (∀ u H', OpOut ca G H u H' v → Q u H') → r (.str z) [y] H Q) : ∀ σ H Q, rdE ca c W (eStrM g fo fe) σ H Q → tM1 r (rdE ca c W fo) (rdE ca c W fe) σ H Q := by
  rintro σ H Q ⟨b, env, G, o, R, e, post⟩
  refine rd_bind R e post fun va e1 u G1 H1 _ R1 hd sg e => ?_
  cases va with
  | sh d =>
    cases d with
    | str z =>
      cases hd
      refine ⟨⟨z, rfl⟩, ?_⟩
      refine rd_bind R1 e post fun vb e2 w G2 H2 _ R2 hd2 sg2 e => ?_
      cases eb : peek e2 vb with
      | none => rw [eb] at e; cases e
      | some db =>
        rw [eb] at e
        simp only [Option.bind_some] at e
        cases ej : g z db with
        | none => rw [ej] at e; cases e
        | some rv =>
          rw [ej] at e
          cases e
          refine br z G2 H2 w db rv Q R2.sub (hd2.peek R2 eb) ej fun y H3 out => ?_
          obtain ⟨G3, sg3, R3, vr⟩ := out.at R2
          exact post y G3 H3 R3 vr
    | _ => cases e
  | _ => cases e
theorem p_join {o e : Expr} {fo fe : SE} {apos : Pos} (ho : PE X o (rdE ca c W fo)) (he : PE X e (rdE ca c W fe)) (hs : starEach [e] X.env = [(false, eval e X.env)] := by rfl) (hbase : attributeBase o "join" X.env (eval o X.env) = eval o X.env := by rfl) (hline : (apos.endLine == pos.line) = true := by rfl) (hK : X.K = ca := by rfl) :
    PE X (.Call (.Attribute o "join" apos) [e] [] pos) (rdE ca c W (eStrM joinD fo fe)) := PE_weak (pe_join ho he hs hbase hline) (by
  refine strM_in fun z G H y dy v Q s py e out => ?_
  unfold joinD at e
  rw [hK]
  split at e
  · rename_i ds
    cases es : strsOf ds with
    | none => rw [es] at e; cases e
    | some ss =>
      rw [es] at e
      simp only [Option.bind_some] at e
      split at e
      · rename_i hl
        cases e
        obtain ⟨a, vs, rfl, ha, r⟩ := py
        rw [strsOf_eq es] at r
        have hv := r.strs
        subst hv
        exact ⟨z, a, ss, rfl, rfl, .inl (SqL.of ha), hl, out _ _ (out_sh (.str _))⟩
      · cases e
  · rename_i ds
    cases es : strsOf ds with
    | none => rw [es] at e; cases e
    | some ss =>
      rw [es] at e
      simp only [Option.bind_some] at e
      split at e
      · rename_i hl
        cases e
        obtain ⟨a, vs, rfl, ha, r⟩ := py
        rw [strsOf_eq es] at r
        have hv := r.strs
        subst hv
        exact ⟨z, a, ss, rfl, rfl, .inr (SqT.of (s _ _ ha)), hl, out _ _ (out_sh (.str _))⟩
      · cases e
  · cases e)

/-! ### what an owner changes: xs[i] = e, d[k] = e, xs.append(e), xs.pop() -/
end
end Pd
/-! Pd11: what an owner changes -/
namespace Pd
open PySem PySem.Spec L2
section
variable {ca : PySem.W.Frag} {X : Cx} {G H : Hp} {c : CT} {W : WX} {pos : Pos}
/-- slot i's object is written -/
theorem Rel.write {b : Bs} {env : Env} {σ : St} {i : Nat} {a0 : Addr} {cl cl' : Cell} {o : HO} (R : Rel ca b env σ G H) (hc : cellAt env i = some cl) (h0 : σ[i]? = some (some (.ref a0))) (gn : G a0 = none) (cr : CellRel ca G (upd H a0 o) a0 cl') : Rel ca b (putCell env i cl') σ G (upd H a0 o) := by
  refine R.callI hc h0 (fun a q e => ?_) (Same.refl _) (fun a o e => .inl e) (fun a o e hne => ?_) (fun a e => ?_) cr gn
  · rw [upd_ne (fun z => by rw [z, gn] at e; cases e)]; exact R.sub _ _ e
  · rw [upd_ne hne]; exact e
  · by_cases h : a = a0
    · subst h; rw [upd_same] at e; cases e
    · rw [upd_ne h] at e; exact e
def putD {κ : Type} [DecidableEq κ] (kvs : List (κ × D)) (k : κ) (d : D) : List (κ × D) :=
  if (kvs.any fun kv => decide (kv.1 = k)) = true then kvs.map (fun kv => if kv.1 = k then (kv.1, d) else kv) else kvs ++ [(k, d)]
theorem RepK.any {κ : Type} [DecidableEq κ] (k : κ) : ∀ {vs : List (κ × V)} {ds : List (κ × D)}, RepK ca G vs ds → (vs.any fun kv => decide (kv.1 = k)) = (ds.any fun kv => decide (kv.1 = k))
  | [], [], _ => rfl
  | [], _ :: _, r => by have := r.keys; simp at this
  | _ :: _, [], r => by have := r.keys; simp at this
  | p :: vs, q :: ds, r => by
    obtain ⟨h1, _, h3⟩ := r.tail
    rw [List.any_cons, List.any_cons, h1, RepK.any k h3]
theorem RepK.mapPut {κ : Type} [DecidableEq κ] (k : κ) {v : V} {d : D} (q0 : Rep ca G v d) : ∀ {vs : List (κ × V)} {ds : List (κ × D)}, RepK ca G vs ds → RepK ca G (vs.map fun kv => if kv.1 = k then (kv.1, v) else kv) (ds.map fun kv => if kv.1 = k then (kv.1, d) else kv)
  | [], [], _ => .nil
  | [], _ :: _, r => by have := r.keys; simp at this
  | _ :: _, [], r => by have := r.keys; simp at this
  | p :: vs, q :: ds, r => by
    obtain ⟨h1, h2, h3⟩ := r.tail
    rw [List.map_cons, List.map_cons]
    by_cases hk : p.1 = k
    · have hk' : q.1 = k := h1 ▸ hk
      rw [if_pos hk, if_pos hk']
      exact .cons h1 q0 (RepK.mapPut k q0 h3)
    · have hk' : ¬ q.1 = k := h1 ▸ hk
      rw [if_neg hk, if_neg hk']
      exact .cons h1 h2 (RepK.mapPut k q0 h3)
theorem RepK.app {κ : Type} {vs ws : List (κ × V)} {ds es : List (κ × D)} (r : RepK ca G vs ds) (t : RepK ca G ws es) : RepK ca G (vs ++ ws) (ds ++ es) := by
  induction vs generalizing ds with
  | nil =>
    cases ds with
    | nil => exact t
    | cons _ _ => have := r.keys; simp at this
  | cons p vs ih =>
    cases ds with
    | nil => have := r.keys; simp at this
    | cons q ds =>
      obtain ⟨h1, h2, h3⟩ := r.tail
      exact .cons h1 h2 (ih h3)
theorem RepK.put {κ : Type} [DecidableEq κ] {vs : List (κ × V)} {ds : List (κ × D)} (r : RepK ca G vs ds) (k : κ) {v : V} {d : D} (q : Rep ca G v d) : RepK ca G (putK vs k v) (putD ds k d) := by
  unfold putK putD
  rw [r.any k]
  split
  · exact r.mapPut k q
  · exact r.app (.cons rfl q .nil)
/-- x[k] = e, x a list or a dict of one's own -/
def putC : Cell → D → D → Option Cell
  | .lst ds, .int k, d => (ixN ds.length k).map fun j => .lst (ds.set j d)
  | .dk kvs, k, d => (keyK k).bind fun k => if kvs.length < sizeLine then some (.dk (putD kvs k d)) else none
  | .dt kvs, .tup ks, d => (keysK ks).bind fun k => if kvs.length < sizeLine then some (.dt (putD kvs k d)) else none
  | _, _, _ => none
def sPut (i : Nat) (fk fv : SE) : SS := fun c env => bindS (fv c env) fun v e0 => (take e0 v).bind fun q => match cellAt q.2 i with
  | none => none
  | some _ => bindS (fk c q.2) fun vk e2 => (peek e2 vk).bind fun k => (cellAt e2 i).bind fun cl => (putC cl k q.1).map fun cl' => .nx (putCell e2 i cl')
/-- is it a list at last? -/
def isLst : Cell → Bool
  | .lst _ => true
  | _ => false
theorem s_put {i : Nat} {x : Str} {k value : Expr} {p p' : Pos} {fk fv : SE} (hu : X.A.units + 1 < cLine) (hv : PE X value (rdE ca c W fv)) (hk : PE X k (rdE ca c W fk)) (hN : X.N[i]? = some x := by rfl) (hvis : Vis X.env.scope x := by first | exact Or.inl rfl | exact Or.inr (Or.inl rfl) | exact Or.inr (Or.inr rfl))
    (hs : swapsWith value (some (.Subscript (.Name x p) k p')) pos.line X.env = pure false := by rfl)
    (hd : (x == ("__debug__" : Str)) = false := by decide) (hcd : (x == ("__classdict__" : Str)) = false := by decide)
    (ha : ∀ v, assign (.Subscript (.Name x p) k p') X.env v = (do
      let ov ← holding [v] (eval (.Name x p) X.env)
      let iv ← holding [v, ov] (eval k X.env)
      standAt p'
      holding [v, ov, iv] (setItem ov iv v)
      release [v, ov, iv] []) := by intro _; rfl)
    (hs2 : swapsWithSole [.Subscript (.Name x p) k p'] value pos.line X.env = pure false := by rfl) (hw : swappedStores [.Subscript (.Name x p) k p'] value X.env = pure none := by rfl)
    (h1 : (assignEach [.Subscript (.Name x p) k p'] X.env).map (·.2) = [assign (.Subscript (.Name x p) k p') X.env] := by rfl) :
    PS X (.Assign [.Subscript (.Name x p) k p'] value pos) (rdS ca c W (sPut i fk fv)) := by
  have po : PE X (.Name x p) (tVar i) := pv i hN hvis hd hcd
  refine ⟨fun pins s σ H D I h => ?_⟩
  obtain ⟨b, env, G, o, R, e, post⟩ := h
  unfold sPut at e
  -- the value
  cases ev : fv c env with
  | none => rw [ev] at e; cases e
  | some eo =>
    rw [ev] at e
    cases eo with
    | exc xx e0 =>
      cases e
      exact (ps_dput (td := tVar i) (ty := rdE ca c W fk) (tv := rdE ca c W fv) hu po hk hv hs).run pins s σ H D I (rdE.use R ev fun cls d G' H' R' q => post cls d σ G' H' R' q)
    | val v e0 =>
      have e : (take e0 v).bind (fun q => match cellAt q.2 i with
        | none => none
        | some _ => bindS (fk c q.2) fun vk e2 => (peek e2 vk).bind fun k => (cellAt e2 i).bind fun cl => (putC cl k q.1).map fun cl' => .nx (putCell e2 i cl')) = some o := e
      cases et : take e0 v with
      | none => rw [et] at e; cases e
      | some q =>
        rw [et] at e
        simp only [Option.bind_some] at e
        cases ec : cellAt q.2 i with
        | none => rw [ec] at e; cases e
        | some cl0 =>
          rw [ec] at e
          dsimp only at e
          -- the value frozen
          have go : ∀ u G1 H1, Rel ca b e0 σ G1 H1 → VRel ca b e0 σ G1 H1 u v → ∃ G2, Rel ca b q.2 σ G2 H1 ∧ Rep ca G2 u q.1 := fun u G1 H1 R1 vr => by
            obtain ⟨G2, s2, R2, hd⟩ := VRel.held R1 vr
            obtain ⟨G3, s3, R3, r3⟩ := hd.take (d := q.1) (env' := q.2) R2 et
            exact ⟨G3, R3, r3⟩
          cases ek : fk c q.2 with
          | none => rw [ek] at e; cases e
          | some ko =>
            rw [ek] at e
            cases ko with
            | exc xx e2 =>
              cases e
              refine (ps_dput (td := tVar i) (ty := rdE ca c W fk) (tv := rdE ca c W fv) hu po hk hv hs).run pins s σ H D I (rdE.use R ev fun u G1 H1 R1 vr _ _ => ?_)
              obtain ⟨G2, R2, r2⟩ := go u G1 H1 R1 vr
              obtain ⟨a0, ha0, _, _⟩ := R2.cell ec
              exact ⟨_, ha0, rdE.use R2 ek fun cls d G' H' R' q => post cls d σ G' H' R' q⟩
            | val vk e2 =>
              have e : (peek e2 vk).bind (fun k => (cellAt e2 i).bind fun cl => (putC cl k q.1).map fun cl' => .nx (putCell e2 i cl')) = some o := e
              cases ep : peek e2 vk with
              | none => rw [ep] at e; cases e
              | some dkk =>
                rw [ep] at e
                simp only [Option.bind_some] at e
                cases ec2 : cellAt e2 i with
                | none => rw [ec2] at e; cases e
                | some cl =>
                  rw [ec2] at e
                  simp only [Option.bind_some] at e
                  cases epc : putC cl dkk q.1 with
                  | none => rw [epc] at e; cases e
                  | some cl' =>
                    rw [epc] at e
                    cases e
                    cases cl with
                    | lst ds =>
                      cases dkk with
                      | int k' =>
                        have epc : (ixN ds.length k').map (fun j => Cell.lst (ds.set j q.1)) = some cl' := epc
                        cases ej : ixN ds.length k' with
                        | none => rw [ej] at epc; cases epc
                        | some j =>
                          rw [ej] at epc
                          cases epc
                          refine (ps_asg (g := gSub (tVar i) (rdE ca c W fk) rSetL) hv (pg_sub po hk set_list ha) hs2 hw h1).run pins s σ H D I (rdE.use R ev fun u G1 H1 R1 vr _ _ => ?_)
                          obtain ⟨G2, R2, r2⟩ := go u G1 H1 R1 vr
                          obtain ⟨a0, ha0, _, _⟩ := R2.cell ec
                          refine ⟨_, ha0, rdE.use R2 ek fun uk G3 H3 R3 vr3 sg3 _ => ?_⟩
                          obtain ⟨G4, s4, R4, hd4⟩ := VRel.held R3 vr3
                          obtain ⟨a1, ha1, ⟨vs, hvs, rs⟩, gn⟩ := R4.cell ec2
                          rw [ha0] at ha1; cases ha1
                          cases peek_int (hd4.peek R4 ep)
                          refine ⟨a0, vs, k', j, rfl, rfl, hvs, by rw [rs.len]; exact ej, ?_⟩
                          exact post σ G4 _ (R4.write ec2 ha0 gn ⟨_, upd_same, rs.set j (r2.mono (sg3.trans s4))⟩)
                      | _ => cases epc
                    | dk kvs =>
                      have epc : (keyK dkk).bind (fun k => if kvs.length < sizeLine then some (Cell.dk (putD kvs k q.1)) else none) = some cl' := by
                        unfold putC at epc; exact epc
                      cases ekk : keyK dkk with
                      | none => rw [ekk] at epc; cases epc
                      | some kk =>
                        rw [ekk] at epc
                        simp only [Option.bind_some] at epc
                        split at epc
                        · rename_i hl
                          cases epc
                          refine (ps_dput (td := tVar i) (ty := rdE ca c W fk) (tv := rdE ca c W fv) hu po hk hv hs).run pins s σ H D I (rdE.use R ev fun u G1 H1 R1 vr _ _ => ?_)
                          obtain ⟨G2, R2, r2⟩ := go u G1 H1 R1 vr
                          obtain ⟨a0, ha0, _, _⟩ := R2.cell ec
                          refine ⟨_, ha0, rdE.use R2 ek fun uk G3 H3 R3 vr3 sg3 _ => ?_⟩
                          obtain ⟨G4, s4, R4, hd4⟩ := VRel.held R3 vr3
                          obtain ⟨a1, ha1, ⟨vs, hvs, rs⟩, gn⟩ := R4.cell ec2
                          rw [ha0] at ha1; cases ha1
                          have := keyK_of (hd4.peek R4 ep) ekk
                          subst this
                          refine ⟨a0, _, rfl, DPut.k hvs (by rw [rs.length]; exact hl), ?_⟩
                          exact post σ G4 _ (R4.write ec2 ha0 gn ⟨_, upd_same, rs.put kk (r2.mono (sg3.trans s4))⟩)
                        · cases epc
                    | dt kvs =>
                      cases dkk with
                      | tup ks =>
                        have epc : (keysK ks).bind (fun k => if kvs.length < sizeLine then some (Cell.dt (putD kvs k q.1)) else none) = some cl' := epc
                        cases ekk : keysK ks with
                        | none => rw [ekk] at epc; cases epc
                        | some kk =>
                          rw [ekk] at epc
                          simp only [Option.bind_some] at epc
                          split at epc
                          · rename_i hl
                            cases epc
                            refine (ps_dput (td := tVar i) (ty := rdE ca c W fk) (tv := rdE ca c W fv) hu po hk hv hs).run pins s σ H D I (rdE.use R ev fun u G1 H1 R1 vr _ _ => ?_)
                            obtain ⟨G2, R2, r2⟩ := go u G1 H1 R1 vr
                            obtain ⟨a0, ha0, _, _⟩ := R2.cell ec
                            refine ⟨_, ha0, rdE.use R2 ek fun uk G3 H3 R3 vr3 sg3 _ => ?_⟩
                            obtain ⟨G4, s4, R4, hd4⟩ := VRel.held R3 vr3
                            obtain ⟨a1, ha1, ⟨vs, hvs, rs⟩, gn⟩ := R4.cell ec2
                            rw [ha0] at ha1; cases ha1
                            obtain ⟨ak, us, euk, hak, rk⟩ := hd4.peek R4 ep
                            subst euk
                            have hus := keysK_of rk ekk
                            subst hus
                            refine ⟨a0, _, rfl, DPut.t hvs (R4.sub _ _ hak) (by rw [rs.length]; exact hl), ?_⟩
                            exact post σ G4 _ (R4.write ec2 ha0 gn ⟨_, upd_same, rs.put kk (r2.mono (sg3.trans s4))⟩)
                          · cases epc
                      | _ => cases epc
                    | ins cn fs => cases epc

/-! ### methods of one's own list -/
def LmR (ca : PySem.W.Frag) (r : V → List V → Hp → VK → Prop) (g : List D → List D → Option (D × List D)) : Prop :=
  ∀ (G H : Hp) (l : Addr) (xs us : List V) (ds es : List D) (d : D) (ds' : List D) (Q : VK), H l = some (.lst xs) → Reps ca G xs ds → Reps ca G us es → g ds es = some (d, ds') →
    (∀ u xs', Rep ca G u d → Reps ca G xs' ds' → Q u (upd H l (.lst xs'))) → r (.ref l) us H Q
def lstAt (env : Env) (i : Nat) : Option (List D) := match cellAt env i with
  | some (.lst ds) => some ds
  | _ => none
theorem lstAt_some {env : Env} {i : Nat} {ds : List D} (h : lstAt env i = some ds) : cellAt env i = some (.lst ds) := by
  unfold lstAt at h
  split at h
  · rename_i ds' hc; cases h; exact hc
  · cases h
def eLm (g : List D → List D → Option (D × List D)) (i : Nat) (fs : SA) : SE := fun c env => (lstAt env i).bind fun _ => bindA (fs c env) fun vs e1 => (takes e1 vs).bind fun q => (lstAt q.2 i).bind fun ds => (g ds q.1).map fun r => .val (.sh r.1) (putCell q.2 i (.lst r.2))
theorem lm_in {g : List D → List D → Option (D × List D)} {i : Nat} {fs : SA} {r : V → List V → Hp → VK → Prop} (br : LmR ca r g) : ∀ σ H Q, rdE ca c W (eLm g i fs) σ H Q → tBM ca "list" r (tVar i) (rdA ca c W fs) σ H Q := by
  rintro σ H Q ⟨b, env, G, o, R, e, post⟩
  unfold eLm at e
  cases e0 : lstAt env i with
  | none => rw [e0] at e; cases e
  | some ds0 =>
    rw [e0] at e
    simp only [Option.bind_some] at e
    obtain ⟨a0, ha0, ⟨vs0, hvs0, rs0⟩, gn0⟩ := R.cell (lstAt_some e0)
    refine ⟨_, ha0, .inl ⟨rfl, _, SqL.of hvs0⟩, ?_⟩
    refine rdA_bind R e post fun vs e1 us G1 H1 _ R1 hd sg e => ?_
    cases et : takes e1 vs with
    | none => rw [et] at e; cases e
    | some q =>
      rw [et] at e
      simp only [Option.bind_some] at e
      obtain ⟨G2, s2, R2, r2⟩ := Helds.takes (ds := q.1) (env' := q.2) R1 hd et
      cases el : lstAt q.2 i with
      | none => rw [el] at e; cases e
      | some ds =>
        rw [el] at e
        simp only [Option.bind_some] at e
        cases eg : g ds q.1 with
        | none => rw [eg] at e; cases e
        | some res =>
          rw [eg] at e
          cases e
          obtain ⟨a1, ha1, ⟨xs, hxs, rs⟩, gn⟩ := R2.cell (lstAt_some el)
          rw [ha0] at ha1; cases ha1
          exact br G2 H1 a0 xs us ds q.1 res.1 res.2 Q hxs rs r2 eg fun u xs' ru rx => post u G2 _ (R2.write (lstAt_some el) ha0 gn ⟨_, upd_same, rx⟩) ru
def appendG (ds es : List D) : Option (D × List D) := match es with
  | [d] => if ds.length < sizeLine then some (.non, ds ++ [d]) else none
  | _ => none
theorem l_append : LmR ca rAppend appendG := by
  intro G H l xs us ds es d ds' Q hl rx ru e out
  unfold appendG at e
  split at e
  · rename_i d0
    split at e
    · rename_i hz
      cases e
      have hul := ru.len
      cases us with
      | nil => simp at hul
      | cons u us =>
        cases us with
        | nil =>
          have r0 := ru.at_ 0 u d0 rfl rfl
          exact ⟨l, xs, u, rfl, rfl, hl, by rw [rx.len]; exact hz, out _ _ .non (rx.append (.one r0))⟩
        | cons _ _ => simp at hul
    · cases e
  · cases e
def popG (ds es : List D) : Option (D × List D) := match es with
  | [] => (ds[ds.length - 1]?).map fun d => (d, ds.dropLast)
  | _ => none
theorem l_pop : LmR ca rPop popG := by
  intro G H l xs us ds es d ds' Q hl rx ru e out
  unfold popG at e
  split at e
  · cases ed : ds[ds.length - 1]? with
    | none => rw [ed] at e; cases e
    | some d0 =>
      rw [ed] at e
      cases e
      have hul := ru.len
      cases us with
      | cons _ _ => simp at hul
      | nil =>
        obtain ⟨y, hy, ry⟩ := rx.get ed
        exact ⟨l, xs, y, rfl, rfl, hl, by rw [rx.len]; exact hy, out _ _ ry rx.dropLast⟩
  · cases e
def reverseG (ds es : List D) : Option (D × List D) := match es with
  | [] => some (.non, ds.reverse)
  | _ => none
theorem l_reverse : LmR ca rReverse reverseG := by
  intro G H l xs us ds es d ds' Q hl rx ru e out
  unfold reverseG at e
  split at e
  · cases e
    have hul := ru.len
    cases us with
    | cons _ _ => simp at hul
    | nil => exact ⟨l, xs, rfl, rfl, hl, out _ _ .non rx.reverse⟩
  · cases e
theorem p_append {i : Nat} {x : Str} {p apos : Pos} {e : Expr} {fs : SA} (ha : PA X [e] (rdA ca c W fs)) (hN : X.N[i]? = some x := by rfl) (hvis : Vis X.env.scope x := by first | exact Or.inl rfl | exact Or.inr (Or.inl rfl) | exact Or.inr (Or.inr rfl))
    (hd : (x == ("__debug__" : Str)) = false := by decide) (hcd : (x == ("__classdict__" : Str)) = false := by decide) (hK : X.K = ca := by rfl)
    (hbase : attributeBase (.Name x p) "append" X.env (eval (.Name x p) X.env) = eval (.Name x p) X.env := by rfl)
    (hfew : ((backTo pos (starEach [e] X.env)).all (fun x => !x.1) && (backToKw pos (keywordEach [] X.env)).all (fun x => x.1.isSome)
      && decide ([e].length + ([] : List Keyword).length + (if ([] : List Keyword).isEmpty then 0 else 1) < 30)) = true := by rfl)
    (hline : (apos.endLine == pos.line) = true := by rfl) (hs : starEach [e] X.env = (false, eval e X.env) :: starEach [] X.env := by rfl) (hplain : (backTo pos (starEach [] X.env)).any (·.1) = false := by rfl) :
    PE X (.Call (.Attribute (.Name x p) "append" apos) [e] [] pos) (rdE ca c W (eLm appendG i fs)) :=
  PE_weak (pe_bm PySem.F.plainAttrs_list PySem.F.slot_list_append PySem.F.type_list_append mt_append (pv i hN hvis hd hcd) ha hbase hfew hline hs hplain) (by rw [hK]; exact lm_in l_append)
theorem lm0_in {g : List D → List D → Option (D × List D)} {i : Nat} {r : V → List V → Hp → VK → Prop} (br : LmR ca r g) : ∀ σ H Q, rdE ca c W (eLm g i aNil) σ H Q → tBM0 ca "list" r (tVar i) σ H Q := by
  intro σ H Q h
  obtain ⟨x, hx, ty, b, env, G, o, R, e, post⟩ := lm_in br σ H Q h
  cases e
  exact ⟨x, hx, ty, post [] G H R .nil⟩
theorem p_pop {i : Nat} {x : Str} {p apos : Pos} (hN : X.N[i]? = some x := by rfl) (hvis : Vis X.env.scope x := by first | exact Or.inl rfl | exact Or.inr (Or.inl rfl) | exact Or.inr (Or.inr rfl))
    (hd : (x == ("__debug__" : Str)) = false := by decide) (hcd : (x == ("__classdict__" : Str)) = false := by decide) (hK : X.K = ca := by rfl)
    (hbase : attributeBase (.Name x p) "pop" X.env (eval (.Name x p) X.env) = eval (.Name x p) X.env := by rfl) (hline : (apos.endLine == pos.line) = true := by rfl) :
    PE X (.Call (.Attribute (.Name x p) "pop" apos) [] [] pos) (rdE ca c W (eLm popG i aNil)) :=
  PE_weak (pe_bm0 PySem.F.plainAttrs_list PySem.F.slot_list_pop PySem.F.type_list_pop mt_pop (pv i hN hvis hd hcd) hbase hline) (by rw [hK]; exact lm0_in l_pop)
theorem p_reverse {i : Nat} {x : Str} {p apos : Pos} (hN : X.N[i]? = some x := by rfl) (hvis : Vis X.env.scope x := by first | exact Or.inl rfl | exact Or.inr (Or.inl rfl) | exact Or.inr (Or.inr rfl))
    (hd : (x == ("__debug__" : Str)) = false := by decide) (hcd : (x == ("__classdict__" : Str)) = false := by decide) (hK : X.K = ca := by rfl)
    (hbase : attributeBase (.Name x p) "reverse" X.env (eval (.Name x p) X.env) = eval (.Name x p) X.env := by rfl) (hline : (apos.endLine == pos.line) = true := by rfl) :
    PE X (.Call (.Attribute (.Name x p) "reverse" apos) [] [] pos) (rdE ca c W (eLm reverseG i aNil)) :=
  PE_weak (pe_bm0 PySem.F.plainAttrs_list PySem.F.slot_list_reverse PySem.F.type_list_reverse mt_reverse (pv i hN hvis hd hcd) hbase hline) (by rw [hK]; exact lm0_in l_reverse)
end
end Pd
/-! Pd12: further comparisons; the tower of defs; a law's end -/
namespace Pd
open PySem PySem.Spec L2
section
variable {ca : PySem.W.Frag} {X : Cx}
theorem o_lt : OpR X (compareOp .Lt) (fun x y H Q => (∃ i j, x = .int i ∧ y = .int j ∧ Q (.bl (decide (i < j))) H) ∨ ∃ i j, x = .str i ∧ y = .str j ∧ Q (.bl (decide (i.cps.toList < j.cps.toList))) H) := op_lt.or op_lt_str
theorem o_le : OpR X (compareOp .LtE) (fun x y H Q => (∃ i j, x = .int i ∧ y = .int j ∧ Q (.bl (decide (i ≤ j))) H) ∨ ∃ i j, x = .str i ∧ y = .str j ∧ Q (.bl (!decide (j.cps.toList < i.cps.toList))) H) := op_le.or op_le_str
theorem o_gt : OpR X (compareOp .Gt) (fun x y H Q => (∃ i j, x = .int i ∧ y = .int j ∧ Q (.bl (decide (j < i))) H) ∨ ∃ i j, x = .str i ∧ y = .str j ∧ Q (.bl (decide (j.cps.toList < i.cps.toList))) H) := op_gt.or op_gt_str
theorem o_ge : OpR X (compareOp .GtE) (fun x y H Q => (∃ i j, x = .int i ∧ y = .int j ∧ Q (.bl (decide (j ≤ i))) H) ∨ ∃ i j, x = .str i ∧ y = .str j ∧ Q (.bl (!decide (i.cps.toList < j.cps.toList))) H) := op_ge.or op_ge_str
theorem b_lt : BinR ca (fun x y H Q => (∃ i j, x = .int i ∧ y = .int j ∧ Q (.bl (decide (i < j))) H) ∨ ∃ i j, x = .str i ∧ y = .str j ∧ Q (.bl (decide (i.cps.toList < j.cps.toList))) H) ltD := b_cmpO
theorem b_le : BinR ca (fun x y H Q => (∃ i j, x = .int i ∧ y = .int j ∧ Q (.bl (decide (i ≤ j))) H) ∨ ∃ i j, x = .str i ∧ y = .str j ∧ Q (.bl (!decide (j.cps.toList < i.cps.toList))) H) leD := b_cmpO
theorem b_gt : BinR ca (fun x y H Q => (∃ i j, x = .int i ∧ y = .int j ∧ Q (.bl (decide (j < i))) H) ∨ ∃ i j, x = .str i ∧ y = .str j ∧ Q (.bl (decide (j.cps.toList < i.cps.toList))) H) gtD := b_cmpO
theorem b_ge : BinR ca (fun x y H Q => (∃ i j, x = .int i ∧ y = .int j ∧ Q (.bl (decide (j ≤ i))) H) ∨ ∃ i j, x = .str i ∧ y = .str j ∧ Q (.bl (!decide (i.cps.toList < j.cps.toList))) H) geD := b_cmpO
def D.isNon : D → Bool
  | .non => true
  | _ => false
theorem isNon_of {G H : Hp} {x : V} {d : D} (p : Peek ca G H x d) : decide (x = .non) = d.isNon := by
  cases d with
  | non => cases peek_non p; rfl
  | bl b => cases peek_bl p; rfl
  | int b => cases peek_int p; rfl
  | str b => cases peek_str p; rfl
  | lst ds => obtain ⟨a, vs, rfl, _⟩ := p; rfl
  | tup ds => obtain ⟨a, vs, rfl, _⟩ := p; rfl
  | dk ds => obtain ⟨a, vs, rfl, _⟩ := p; rfl
  | dt ds => obtain ⟨a, vs, rfl, _⟩ := p; rfl
  | ins c ds => obtain ⟨a, dx, vs, rfl, _⟩ := p; rfl
  | scr ns => cases p; rfl
def isND : D → D → Option Val
  | d, .non => some (.sh (.bl d.isNon))
  | _, _ => none
def isNND : D → D → Option Val
  | d, .non => some (.sh (.bl (!d.isNon)))
  | _, _ => none
theorem b_isN : BinR ca (fun x y H Q => y = .non ∧ Q (.bl (decide (x = .non))) H) isND := by
  intro G H x y dx dy v Q s px py e out
  unfold isND at e
  split at e
  · cases e
    refine ⟨peek_non py, ?_⟩
    rw [isNon_of px]
    exact out _ _ (out_sh (.bl _))
  · cases e
theorem b_isNN : BinR ca (fun x y H Q => y = .non ∧ Q (.bl (!decide (x = .non))) H) isNND := by
  intro G H x y dx dy v Q s px py e out
  unfold isNND at e
  split at e
  · cases e
    refine ⟨peek_non py, ?_⟩
    rw [isNon_of px]
    exact out _ _ (out_sh (.bl _))
  · cases e
def negD : D → Option Val
  | .int i => some (.sh (.int (-i)))
  | _ => none
theorem b_neg : UnaR ca (rU fun i => .int (-i)) negD := by
  intro G H x dx v Q s px e out
  unfold negD at e
  split at e
  · cases e; cases peek_int px
    exact ⟨_, rfl, out _ _ (out_sh (.int _))⟩
  · cases e
end
/-! ### the tower -/
def CT.nil : CT := fun _ => none
def CT.add (c : CT) (p : Str × Option Str) (g : List Arg → Option CRes) : CT := fun q => if q = p then some g else c q
section
variable {P : Program} {w : World} {K : PySem.W.Frag} {mg : Str → Option Value} {base : Heap}
structure Tower (P : Program) (w : World) (K : PySem.W.Frag) (mg : Str → Option Value) (base : Heap) (k : Nat) (c : CT) : Prop where
  fn : ∀ p g, c p = some g → ∃ fd ps, FnOk P w K mg base (CX P w) k (He.fAd K p) fd ps (spOf K g) ∧ Binds K fd ps []
theorem Tower.nil : Tower P w K mg base 0 CT.nil := ⟨fun p g h => nomatch h⟩
theorem Tower.add {k : Nat} {c : CT} {p : Str × Option Str} {g : List Arg → Option CRes} {fd : FuncData} {ps : List Str} (t : Tower P w K mg base k c) (h : FnOk P w K mg base (CX P w) (k + 1) (He.fAd K p) fd ps (spOf K g)) (b : Binds K fd ps []) : Tower P w K mg base (k + 1) (c.add p g) := by
  refine ⟨fun q g' h' => ?_⟩
  unfold CT.add at h'
  split at h'
  · rename_i e
    cases h'; subst e
    exact ⟨fd, ps, h, b⟩
  · obtain ⟨fd', ps', h1, h2⟩ := t.fn q g' h'
    exact ⟨fd', ps', h1.mono (Nat.le_succ k), h2⟩
theorem Tower.fns {k : Nat} {c : CT} (t : Tower P w K mg base k c) {X : Cx} (hP : X.prog = P := by rfl) (hw : X.w = w := by rfl) (hK : X.K = K := by rfl) (hm : X.mg = mg := by rfl) (hb : X.base = base := by rfl) (hr : Room k X.A) : Fns X K c := by
  subst hP hw hK hm hb
  refine ⟨fun p g h => ?_⟩
  obtain ⟨fd, ps, h1, h2⟩ := t.fn p g h
  exact ⟨fd, ps, k, h1, h2, hr⟩
end
theorem Fns.blk {X : Cx} {ca : PySem.W.Frag} {c : CT} (F : Fns X ca c) (s : Shared) (H : Hp) (scope : Scope) (cenv : PySem.Env) (fp : List Addr) : Fns (X.blk s H scope cenv fp) ca c := ⟨F.fn⟩
theorem cx0 {P : Program} {w : World} {K : PySem.W.Frag} {mg : Str → Option Value} {base : Heap} {k : Nat} {f : Addr} {fd : FuncData} {ps : List Str} {sp : Sp} (F : FnOk P w K mg base (CX P w) k f fd ps sp) :
    FnOk P w K mg base CX0 k f fd ps (fun vs H Q _ => sp vs H Q fun _ _ _ => False) := by
  refine ⟨fun vs H Q E h => F.len vs H Q _ h, fun A outer s H args us vs Q E hr he hb hv hs => codeAny_mono (F.run A outer s H args us vs Q _ hr he hb hv hs) fun r s' hq => ?_⟩
  cases r with
  | error e =>
    obtain ⟨_, _, _, _, _, _, _, _, _, _, _, _, z⟩ := hq
    exact z.elim
  | ok fl => cases fl <;> exact hq
/-- a law's def: its table's function gives True at every script -/
theorem law_sp {K : PySem.W.Frag} {g : List Arg → Option CRes} {ns : List Int} (h : g [.sh (.scr ns)] = some (.ret (.sh (.bl true)) [none])) (H : Hp) (a : Addr) (hS : SqL K H a (ns.map V.int)) :
    spOf K g [.ref a] H (fun v _ => v = .bl true) fun _ _ _ => False := by
  refine ⟨H, [.sh (.scr ns)], _, Same.refl _, ⟨rfl, fun i v g' h1 h2 => ?_, fun i j a' _ h1 _ => ?_⟩, h, fun u G' H' _ rr => ?_⟩
  · cases i with
    | zero => cases h1; cases h2; exact .scr hS
    | succ n => simp at h1
  · obtain ⟨⟨c, q⟩, _⟩ := brwAt_some h1
    cases i with
    | zero => cases q
    | succ n => simp at q
  · cases rr; rfl
end Pd
/-! P1: loops as folds; the draws -/
namespace Pd
open PySem PySem.Spec L2
/-- a loop that goes through -/
theorem forL_pass {g : SG} {f : Env → Option SO} (J : Env → Prop) : ∀ (ds : List D) (env : Env), J env → (∀ d ∈ ds, ∀ e, J e → ∃ e1 e2, g d e = some e1 ∧ f e1 = some (.nx e2) ∧ J e2) → ∃ e', forL g f ds env = some (.nx e') ∧ J e'
  | [], env, h, _ => ⟨env, rfl, h⟩
  | d :: ds, env, h, q => by
    obtain ⟨e1, e2, h1, h2, h3⟩ := q d List.mem_cons_self env h
    obtain ⟨e', h4, h5⟩ := forL_pass J ds e2 h3 fun d' hd => q d' (List.mem_cons_of_mem _ hd)
    refine ⟨e', ?_, h5⟩
    unfold forL
    rw [h1]
    simp only [Option.bind_some, h2]
    exact h4
/-- a loop that searches: it goes on where ok, else hands back r -/
theorem forL_search {g : SG} {f : Env → Option SO} (J : Env → Prop) (ok : D → Bool) (r : RV) : ∀ (ds : List D) (env : Env), J env →
    (∀ d ∈ ds, ∀ e, J e → ∃ e1 e2, g d e = some e1 ∧ J e2 ∧ f e1 = some (if ok d = true then .nx e2 else .ret r e2)) → ∃ e', J e' ∧ forL g f ds env = some (if ds.all ok = true then .nx e' else .ret r e')
  | [], env, h, _ => ⟨env, h, rfl⟩
  | d :: ds, env, h, q => by
    obtain ⟨e1, e2, h1, h2, h3⟩ := q d List.mem_cons_self env h
    by_cases ho : ok d = true
    · rw [if_pos ho] at h3
      obtain ⟨e', h4, h5⟩ := forL_search J ok r ds e2 h2 fun d' hd => q d' (List.mem_cons_of_mem _ hd)
      refine ⟨e', h4, ?_⟩
      unfold forL
      rw [h1]
      simp only [Option.bind_some, h3, List.all_cons, ho, Bool.true_and]
      exact h5
    · rw [if_neg ho] at h3
      refine ⟨e2, h2, ?_⟩
      unfold forL
      rw [h1]
      simp only [Option.bind_some, h3, List.all_cons, ho, Bool.false_and]
      rfl
/-- a comprehension with a test: what stays -/
theorem lcL_filter {g : SG} {t f : Env → Option EO} {vs : List Nat} (J : Env → Prop) (ok : D → Bool) (h : D → D) : ∀ (ds : List D) (env : Env) (acc : List D), J env → acc.length + ds.length ≤ sizeLine →
    (∀ d ∈ ds, ∀ e, J e → ∃ e1 e2 e3 v e4, g d e = some e1 ∧ t e1 = some (.val (.sh (.bl (ok d))) e2) ∧ J (wipeE e2 vs) ∧ (ok d = true → f e2 = some (.val v e3) ∧ take e3 v = some (h d, e4) ∧ J (wipeE e4 vs))) →
    ∃ e', J e' ∧ lcL g t f vs ds env acc = some (acc ++ (ds.filter ok).map h, e')
  | [], env, acc, hj, _, _ => ⟨env, hj, by simp [lcL]⟩
  | d :: ds, env, acc, hj, hl, q => by
    obtain ⟨e1, e2, e3, v, e4, h1, h2, h3, h4⟩ := q d List.mem_cons_self env hj
    simp only [List.length_cons] at hl
    cases ho : ok d with
    | true =>
      obtain ⟨k1, k2, k3⟩ := h4 ho
      obtain ⟨e', m1, m2⟩ := lcL_filter J ok h ds (wipeE e4 vs) (acc ++ [h d]) k3 (by simp; omega) fun d' hd => q d' (List.mem_cons_of_mem _ hd)
      refine ⟨e', m1, ?_⟩
      unfold lcL
      rw [h1]
      simp only [Option.bind_some, h2, ho, k1, k2]
      rw [if_pos (by omega), m2, List.filter_cons_of_pos ho]
      simp
    | false =>
      obtain ⟨e', m1, m2⟩ := lcL_filter J ok h ds (wipeE e2 vs) acc h3 (by omega) fun d' hd => q d' (List.mem_cons_of_mem _ hd)
      refine ⟨e', m1, ?_⟩
      unfold lcL
      rw [h1]
      simp only [Option.bind_some, h2, ho]
      rw [m2, List.filter_cons_of_neg (by simp [ho])]
/-- a comprehension whose items are of a kind -/
theorem lcL_some {g : SG} {t f : Env → Option EO} {vs : List Nat} (J : Env → Prop) (Pd : D → Prop) : ∀ (ds : List D) (env : Env) (acc : List D), J env → acc.length + ds.length ≤ sizeLine → (∀ y ∈ acc, Pd y) →
    (∀ d ∈ ds, ∀ e, J e → ∃ e1 e2 e3 v y e4, g d e = some e1 ∧ t e1 = some (.val (.sh (.bl true)) e2) ∧ f e2 = some (.val v e3) ∧ take e3 v = some (y, e4) ∧ J (wipeE e4 vs) ∧ Pd y) →
    ∃ ys e', J e' ∧ lcL g t f vs ds env acc = some (ys, e') ∧ ys.length = acc.length + ds.length ∧ ∀ y ∈ ys, Pd y
  | [], env, acc, hj, _, ha, _ => ⟨acc, env, hj, rfl, rfl, ha⟩
  | d :: ds, env, acc, hj, hl, ha, q => by
    obtain ⟨e1, e2, e3, v, y, e4, h1, h2, h3, h4, h5, h6⟩ := q d List.mem_cons_self env hj
    simp only [List.length_cons] at hl
    obtain ⟨ys, e', m1, m2, m3, m4⟩ := lcL_some J Pd ds (wipeE e4 vs) (acc ++ [y]) h5 (by simp; omega) (fun z hz => by
      rcases List.mem_append.mp hz with hz | hz
      · exact ha z hz
      · rw [List.mem_singleton.mp hz]; exact h6) fun d' hd => q d' (List.mem_cons_of_mem _ hd)
    refine ⟨ys, e', m1, ?_, by rw [m3]; simp; omega, m4⟩
    unfold lcL
    rw [h1]
    simp only [Option.bind_some, h2, h3, h4]
    rw [if_pos (by omega), m2]
/-- the table's entry for p keeps a promise -/
def Has (c : CT) (p : Str × Option Str) (S : (List Arg → Option CRes) → Prop) : Prop := ∃ g, c p = some g ∧ S g

/-! ### the draws -/
structure LS where
  ns : List Int
  pos : Int
  c2 : Int
  c3 : Int
  c4 : Int
def LS.cell (s : LS) : Cell := .lst [.lst (s.ns.map .int), .int s.pos, .int s.c2, .int s.c3, .int s.c4]
/-- the cells that a law draws from -/
def Good (cl : Cell) : Prop := ∃ s : LS, cl = s.cell ∧ 0 ≤ s.pos ∧ s.ns.length ≤ 63
def DrawOk (g : List Arg → Option CRes) : Prop := ∀ cl (n : Int), Good cl → n < 1073741824 → ∃ (r : Int) (cl' : Cell), g [.brw cl, .sh (.int n)] = some (.ret (.sh (.int r)) [some cl', none]) ∧ Good cl' ∧ 0 ≤ r ∧ (r < n ∨ r = 0)
def StartOk (g : List Arg → Option CRes) : Prop := ∀ ns : List Int, ns.length ≤ 63 → ∃ cl, g [.sh (.scr ns)] = some (.ret (.fr cl) [none]) ∧ Good cl
end Pd
/-! P2: running what the defs compute, by what is wanted of the end -/
namespace Pd
open PySem PySem.Spec L2
def EvE (x : Option EO) (Q : Val → Env → Prop) : Prop := ∃ v e, x = some (.val v e) ∧ Q v e
def EvA (x : Option AO) (Q : List Val → Env → Prop) : Prop := ∃ v e, x = some (.vals v e) ∧ Q v e
def EvI (x : Option IO) (Q : List D → Env → Prop) : Prop := ∃ v e, x = some (.its v e) ∧ Q v e
def EvS (x : Option SO) (N : Env → Prop) (R : RV → Env → Prop) (B C : Env → Prop) (X : Exc → Env → Prop) : Prop := ∃ o, x = some o ∧ match o with
  | .nx e => N e
  | .ret r e => R r e
  | .brk e => B e
  | .ct e => C e
  | .exc x e => X x e
section
variable {c : CT} {env : Env} {Q : Val → Env → Prop} {N B C : Env → Prop} {R : RV → Env → Prop} {X : Exc → Env → Prop}
theorem ev_var {i : Nat} {v : Val} (h : eVar i c env = some (.val v env)) (q : Q v env) : EvE (eVar i c env) Q := ⟨v, env, h, q⟩
theorem ev_c {d : D} (q : Q (.sh d) env) : EvE (eC d c env) Q := ⟨_, _, rfl, q⟩
theorem ev_yes (q : Q (.sh (.bl true)) env) : EvE (eYes c env) Q := ⟨_, _, rfl, q⟩
theorem ev_bin {g : D → D → Option Val} {fa fb : SE} (h : EvE (fa c env) fun va e1 => EvE (fb c e1) fun vb e2 => ∃ da db r, peek e2 va = some da ∧ peek e2 vb = some db ∧ g da db = some r ∧ Q r e2) : EvE (eBin g fa fb c env) Q := by
  obtain ⟨va, e1, h1, vb, e2, h2, da, db, r, h3, h4, h5, q⟩ := h
  refine ⟨r, e2, ?_, q⟩
  simp only [eBin, bindV, h1, h2, h3, h4, h5, Option.bind_some, Option.map_some]
theorem ev_un {g : D → Option Val} {fa : SE} (h : EvE (fa c env) fun va e1 => ∃ da r, peek e1 va = some da ∧ g da = some r ∧ Q r e1) : EvE (eUn g fa c env) Q := by
  obtain ⟨va, e1, h1, da, r, h3, h5, q⟩ := h
  refine ⟨r, e1, ?_, q⟩
  simp only [eUn, bindV, h1, h3, h5, Option.bind_some, Option.map_some]
theorem ev_chain {g g' : D → D → Option Val} {fa fb fc : SE} (h : EvE (fa c env) fun va e1 => EvE (fb c e1) fun vb e2 => ∃ da db k, peek e2 va = some da ∧ peek e2 vb = some db ∧ g da db = some (.sh (.bl k)) ∧
    (k = true → EvE (fc c e2) fun vc e3 => ∃ db' dc r, peek e3 vb = some db' ∧ peek e3 vc = some dc ∧ g' db' dc = some r ∧ Q r e3) ∧ (k = false → Q (.sh (.bl false)) e2)) : EvE (eChain g g' fa fb fc c env) Q := by
  obtain ⟨va, e1, h1, vb, e2, h2, da, db, k, h3, h4, h5, q1, q2⟩ := h
  cases k with
  | true =>
    obtain ⟨vc, e3, h6, db', dc, r, h7, h8, h9, q⟩ := q1 rfl
    refine ⟨r, e3, ?_, q⟩
    simp only [eChain, bindV, h1, h2, h3, h4, h5, h6, h7, h8, h9, Option.bind_some, Option.map_some]
  | false =>
    refine ⟨_, e2, ?_, q2 rfl⟩
    simp only [eChain, bindV, h1, h2, h3, h4, h5, Option.bind_some]
theorem ev_and {fa fb : SE} (h : EvE (fa c env) fun v e => ∃ k, v = .sh (.bl k) ∧ (k = true → EvE (fb c e) Q) ∧ (k = false → Q (.sh (.bl false)) e)) : EvE (eAnd fa fb c env) Q := by
  obtain ⟨v, e, h1, k, rfl, q1, q2⟩ := h
  cases k with
  | true =>
    obtain ⟨v2, e2, h2, q⟩ := q1 rfl
    exact ⟨v2, e2, by simp only [eAnd, h1]; exact h2, q⟩
  | false => exact ⟨_, e, by simp only [eAnd, h1], q2 rfl⟩
theorem ev_or {fa fb : SE} (h : EvE (fa c env) fun v e => ∃ k, v = .sh (.bl k) ∧ (k = false → EvE (fb c e) Q) ∧ (k = true → Q (.sh (.bl true)) e)) : EvE (eOr fa fb c env) Q := by
  obtain ⟨v, e, h1, k, rfl, q1, q2⟩ := h
  cases k with
  | false =>
    obtain ⟨v2, e2, h2, q⟩ := q1 rfl
    exact ⟨v2, e2, by simp only [eOr, h1]; exact h2, q⟩
  | true => exact ⟨_, e, by simp only [eOr, h1], q2 rfl⟩
theorem ev_not {fa : SE} (h : EvE (fa c env) fun v e => ∃ k, v = .sh (.bl k) ∧ Q (.sh (.bl (!k))) e) : EvE (eNot fa c env) Q := by
  obtain ⟨v, e, h1, k, rfl, q1⟩ := h
  exact ⟨_, e, by simp only [eNot, h1], q1⟩
theorem ev_ifE {ft fa fb : SE} (h : EvE (ft c env) fun v e => ∃ k, v = .sh (.bl k) ∧ (k = true → EvE (fa c e) Q) ∧ (k = false → EvE (fb c e) Q)) : EvE (eIf ft fa fb c env) Q := by
  obtain ⟨v, e, h1, k, rfl, q1, q2⟩ := h
  cases k with
  | true =>
    obtain ⟨v2, e2, h2, q⟩ := q1 rfl
    exact ⟨v2, e2, by simp only [eIf, h1]; exact h2, q⟩
  | false =>
    obtain ⟨v2, e2, h2, q⟩ := q2 rfl
    exact ⟨v2, e2, by simp only [eIf, h1]; exact h2, q⟩
theorem ev_anil {Q : List Val → Env → Prop} (q : Q [] env) : EvA (aNil c env) Q := ⟨_, _, rfl, q⟩
theorem ev_acons {f : SE} {r : SA} {Q : List Val → Env → Prop} (h : EvE (f c env) fun v e1 => EvA (r c e1) fun vs e2 => Q (v :: vs) e2) : EvA (aCons f r c env) Q := by
  obtain ⟨v, e1, h1, vs, e2, h2, q⟩ := h
  exact ⟨_, e2, by simp only [aCons, h1, h2], q⟩
theorem ev_arg {g : List D → Option Val} {fs : SA} (h : EvA (fs c env) fun vs e1 => ∃ ds r, peeks e1 vs = some ds ∧ g ds = some r ∧ Q r e1) : EvE (eArg g fs c env) Q := by
  obtain ⟨vs, e1, h1, ds, r, h2, h3, q⟩ := h
  exact ⟨r, e1, by simp only [eArg, bindA, h1, h2, h3, Option.bind_some, Option.map_some], q⟩
theorem ev_list {fs : SA} (h : EvA (fs c env) fun vs e1 => ∃ ds e2, takes e1 vs = some (ds, e2) ∧ ds.length ≤ sizeLine ∧ Q (.fr (.lst ds)) e2) : EvE (eList fs c env) Q := by
  obtain ⟨vs, e1, h1, ds, e2, h2, h3, q⟩ := h
  exact ⟨_, e2, by simp only [eList, bindA, h1, h2, Option.bind_some, if_pos h3], q⟩
theorem ev_tup {fs : SA} (h : EvA (fs c env) fun vs e1 => ∃ ds e2, takes e1 vs = some (ds, e2) ∧ ds.length ≤ sizeLine ∧ Q (.sh (.tup ds)) e2) : EvE (eTup fs c env) Q := by
  obtain ⟨vs, e1, h1, ds, e2, h2, h3, q⟩ := h
  exact ⟨_, e2, by simp only [eTup, bindA, h1, h2, Option.bind_some, if_pos h3], q⟩
theorem ev_sl00 {g : D → Option Int → Option Int → Option Val} {fa : SE} (h : EvE (fa c env) fun va e1 => ∃ d r, peek e1 va = some d ∧ g d none none = some r ∧ Q r e1) : EvE (eSl g fa none none c env) Q := by
  obtain ⟨va, e1, h1, d, r, h2, h3, q⟩ := h
  exact ⟨r, e1, by simp only [eSl, bindV, bindP, h1, h2, h3, Option.bind_some, Option.map_some], q⟩
theorem ev_sl10 {g : D → Option Int → Option Int → Option Val} {fa fl : SE} (h : EvE (fa c env) fun va e1 => EvE (fl c e1) fun vl e2 => ∃ d i r, vl = .sh (.int i) ∧ peek e2 va = some d ∧ g d (some i) none = some r ∧ Q r e2) : EvE (eSl g fa (some fl) none c env) Q := by
  obtain ⟨va, e1, h1, vl, e2, h2, d, i, r, rfl, h3, h4, q⟩ := h
  exact ⟨r, e2, by simp only [eSl, bindV, bindP, h1, h2, h3, h4, Option.bind_some, Option.map_some], q⟩
theorem ev_sl01 {g : D → Option Int → Option Int → Option Val} {fa fh : SE} (h : EvE (fa c env) fun va e1 => EvE (fh c e1) fun vl e2 => ∃ d i r, vl = .sh (.int i) ∧ peek e2 va = some d ∧ g d none (some i) = some r ∧ Q r e2) : EvE (eSl g fa none (some fh) c env) Q := by
  obtain ⟨va, e1, h1, vl, e2, h2, d, i, r, rfl, h3, h4, q⟩ := h
  exact ⟨r, e2, by simp only [eSl, bindV, bindP, h1, h2, h3, h4, Option.bind_some, Option.map_some], q⟩
theorem ev_sl11 {g : D → Option Int → Option Int → Option Val} {fa fl fh : SE} (h : EvE (fa c env) fun va e1 => EvE (fl c e1) fun vl e2 => EvE (fh c e2) fun vh e3 => ∃ d i j r, vl = .sh (.int i) ∧ vh = .sh (.int j) ∧ peek e3 va = some d ∧ g d (some i) (some j) = some r ∧ Q r e3) : EvE (eSl g fa (some fl) (some fh) c env) Q := by
  obtain ⟨va, e1, h1, vl, e2, h2, vh, e3, h3, d, i, j, r, rfl, rfl, h4, h5, q⟩ := h
  exact ⟨r, e3, by simp only [eSl, bindV, bindP, h1, h2, h3, h4, h5, Option.bind_some, Option.map_some], q⟩
theorem ev_strM {g : Str → D → Option Val} {fo fe : SE} (h : EvE (fo c env) fun va e1 => EvE (fe c e1) fun vb e2 => ∃ z d r, va = .sh (.str z) ∧ peek e2 vb = some d ∧ g z d = some r ∧ Q r e2) : EvE (eStrM g fo fe c env) Q := by
  obtain ⟨va, e1, h1, vb, e2, h2, z, d, r, rfl, h3, h4, q⟩ := h
  exact ⟨r, e2, by simp only [eStrM, bindV, h1, h2, h3, h4, Option.bind_some, Option.map_some], q⟩
theorem ev_lm {g : List D → List D → Option (D × List D)} {i : Nat} {fs : SA} (h : (∃ ds0, lstAt env i = some ds0) ∧ EvA (fs c env) fun vs e1 => ∃ es e2 ds d ds', takes e1 vs = some (es, e2) ∧ lstAt e2 i = some ds ∧ g ds es = some (d, ds') ∧ ∃ e3, putCell e2 i (.lst ds') = e3 ∧ Q (.sh d) e3) : EvE (eLm g i fs c env) Q := by
  obtain ⟨⟨ds0, h0⟩, vs, e1, h1, es, e2, ds, d, ds', h2, h3, h4, _, rfl, q⟩ := h
  exact ⟨_, _, by simp only [eLm, h0, bindA, h1, h2, h3, h4, Option.bind_some, Option.map_some], q⟩
theorem ev_call {p : Str × Option Str} {fs : SA} {g : List Arg → Option CRes} (hg : c p = some g) (h : EvA (fs c env) fun vs e1 => ∃ ds e2 r outs, takes e1 vs = some (ds, e2) ∧ g (ds.map .sh) = some (.ret r outs) ∧ Q r.val e2) : EvE (eCall p fs c env) Q := by
  obtain ⟨vs, e1, h1, ds, e2, r, outs, h2, h3, q⟩ := h
  exact ⟨_, _, by simp only [eCall, bindA, h1, h2, hg, h3, resOf, Option.bind_some, Option.map_some], q⟩
theorem ev_callB {p : Str × Option Str} {fs : SA} {g : List Arg → Option CRes} (hg : c p = some g) (h : EvA (fs c env) fun vs e1 => ∃ i vs' ds e2 cl r cl' outs, vs = .var i :: vs' ∧ takes e1 vs' = some (ds, e2) ∧ cellAt e2 i = some cl ∧ g (.brw cl :: ds.map .sh) = some (.ret r (some cl' :: outs)) ∧ Q r.val (putCell e2 i cl')) : EvE (eCallB p fs c env) Q := by
  obtain ⟨vs, e1, h1, i, vs', ds, e2, cl, r, cl', outs, rfl, h2, h3, h4, q⟩ := h
  exact ⟨_, _, by simp only [eCallB, bindA, h1, h2, h3, hg, h4, resOf, Option.bind_some, Option.map_some], q⟩
/-! ### what is walked -/
theorem ev_seqI {f : SE} {Q : List D → Env → Prop} (h : EvE (f c env) fun v e => ∃ d e' ds, take e v = some (d, e') ∧ itemsOf d = some ds ∧ Q ds e') : EvI (itSeq f c env) Q := by
  obtain ⟨v, e, h1, d, e', ds, h2, h3, q⟩ := h
  exact ⟨ds, e', by simp only [itSeq, bindI, h1, h2, h3, Option.bind_some, Option.map_some], q⟩
theorem ev_range1 {fs : SA} {Q : List D → Env → Prop} (h : EvA (fs c env) fun vs e => ∃ j, peeks e vs = some [.int j] ∧ (-(2 ^ 62) ≤ j ∧ j < 2 ^ 62) ∧ Q ((List.range j.toNat).map fun k => D.int (0 + (k : Nat))) e) : EvI (itRange1 fs c env) Q := by
  obtain ⟨vs, e, h1, j, h2, h3, q⟩ := h
  exact ⟨_, e, by simp only [itRange1, h1, h2, if_pos h3], q⟩
theorem ev_range2 {fs : SA} {Q : List D → Env → Prop} (h : EvA (fs c env) fun vs e => ∃ i j, peeks e vs = some [.int i, .int j] ∧ ((-(2 ^ 62) ≤ i ∧ i < 2 ^ 62) ∧ (-(2 ^ 62) ≤ j ∧ j < 2 ^ 62)) ∧ Q ((List.range (j - i).toNat).map fun k => D.int (i + (k : Nat))) e) : EvI (itRange2 fs c env) Q := by
  obtain ⟨vs, e, h1, i, j, h2, h3, q⟩ := h
  exact ⟨_, e, by simp only [itRange2, h1, h2, if_pos h3], q⟩
theorem ev_lc {vs : List Nat} {it : SI} {g : SG} {t f : SE} (h : EvI (it c env) fun ds e => calmE e vs = true ∧ ∃ ew, wipeE e vs = ew ∧ ∃ ys e', lcL g (t c) (f c) vs ds ew [] = some (ys, e') ∧ ∃ e3, restE e e' vs = e3 ∧ Q (.fr (.lst ys)) e3) : EvE (eLC vs it g t f c env) Q := by
  obtain ⟨ds, e, h1, h2, _, rfl, ys, e', h3, _, rfl, q⟩ := h
  exact ⟨_, _, by simp only [eLC, h1, if_pos h2, h3, Option.map_some], q⟩
/-! ### statements -/
theorem ev_nil (q : N env) : EvS (sNil c env) N R B C X := ⟨_, rfl, q⟩
theorem ev_brk (q : B env) : EvS (sBrk c env) N R B C X := ⟨_, rfl, q⟩
theorem ev_ct (q : C env) : EvS (sCt c env) N R B C X := ⟨_, rfl, q⟩
theorem ev_seq {f g : SS} (h : EvS (f c env) (fun e => EvS (g c e) N R B C X) R B C X) : EvS (sSeq f g c env) N R B C X := by
  obtain ⟨o, h1, q⟩ := h
  unfold sSeq
  rw [h1]
  cases o with
  | nx e => exact q
  | ret r e => exact ⟨_, rfl, q⟩
  | brk e => exact ⟨_, rfl, q⟩
  | ct e => exact ⟨_, rfl, q⟩
  | exc x e => exact ⟨_, rfl, q⟩
/-- .. with a word in between -/
theorem ev_cut {f g : SS} (N1 : Env → Prop) (h : EvS (f c env) N1 R B C X) (h2 : ∀ e, N1 e → EvS (g c e) N R B C X) : EvS (sSeq f g c env) N R B C X := by
  refine ev_seq ?_
  obtain ⟨o, h1, q⟩ := h
  refine ⟨o, h1, ?_⟩
  cases o with
  | nx e => exact h2 e q
  | _ => exact q
theorem ev_if {ft : SE} {f g : SS} (h : EvE (ft c env) fun v e => ∃ k, v = .sh (.bl k) ∧ (k = true → EvS (f c e) N R B C X) ∧ (k = false → EvS (g c e) N R B C X)) : EvS (sIf ft f g c env) N R B C X := by
  obtain ⟨v, e, h1, k, rfl, q1, q2⟩ := h
  unfold sIf bindS
  rw [h1]
  cases k with
  | true => exact q1 rfl
  | false => exact q2 rfl
theorem ev_expr {f : SE} (h : EvE (f c env) fun _ e => N e) : EvS (sExpr f c env) N R B C X := by
  obtain ⟨v, e, h1, q⟩ := h
  exact ⟨.nx e, by simp only [sExpr, bindS, h1], q⟩
theorem ev_ret {f : SE} (h : EvE (f c env) fun v e => ∃ r e', retV e v = some (r, e') ∧ R r e') : EvS (sRet f c env) N R B C X := by
  obtain ⟨v, e, h1, r, e', h2, q⟩ := h
  exact ⟨.ret r e', by simp only [sRet, bindS, h1, h2, Option.map_some], q⟩
theorem ev_retN (q : R (.sh .non) env) : EvS (sRetN c env) N R B C X := ⟨_, rfl, q⟩
theorem ev_set {i : Nat} {f : SE} (h : EvE (f c env) fun v e => ∃ e', setV e i v = some e' ∧ N e') : EvS (sSet i f c env) N R B C X := by
  obtain ⟨v, e, h1, e', h2, q⟩ := h
  exact ⟨.nx e', by simp only [sSet, bindS, h1, h2, Option.map_some], q⟩
theorem ev_asg {g : SG} {f : SE} (h : EvE (f c env) fun v e => ∃ d e1 e2, take e v = some (d, e1) ∧ g d e1 = some e2 ∧ N e2) : EvS (sAsg g f c env) N R B C X := by
  obtain ⟨v, e, h1, d, e1, e2, h2, h3, q⟩ := h
  exact ⟨.nx e2, by simp only [sAsg, bindS, h1, h2, h3, Option.bind_some, Option.map_some], q⟩
theorem ev_put {i : Nat} {fk fv : SE} (h : EvE (fv c env) fun v e0 => ∃ d e1 cl0, take e0 v = some (d, e1) ∧ cellAt e1 i = some cl0 ∧ EvE (fk c e1) fun vk e2 => ∃ k cl cl', peek e2 vk = some k ∧ cellAt e2 i = some cl ∧ putC cl k d = some cl' ∧ ∃ e3, putCell e2 i cl' = e3 ∧ N e3) : EvS (sPut i fk fv c env) N R B C X := by
  obtain ⟨v, e0, h1, d, e1, cl0, h2, h3, vk, e2, h4, k, cl, cl', h5, h6, h7, _, rfl, q⟩ := h
  exact ⟨.nx _, by simp only [sPut, bindS, h1, h2, h3, h4, h5, h6, h7, Option.bind_some, Option.map_some], q⟩
theorem ev_for {it : SI} {g : SG} {f : SS} (h : EvI (it c env) fun ds e => EvS (forL g (f c) ds e) N R B C X) : EvS (sFor it g f c env) N R B C X := by
  obtain ⟨ds, e, h1, o, h2, q⟩ := h
  exact ⟨o, by simp only [sFor, h1]; exact h2, q⟩
theorem ev_pass {g : SG} {f : Env → Option SO} {ds : List D} (J : Env → Prop) (hj : J env) (ht : ∀ d ∈ ds, ∀ e, J e → ∃ e1, g d e = some e1 ∧ EvS (f e1) J (fun _ _ => False) (fun _ => False) J (fun _ _ => False)) (q : ∀ e, J e → N e) : EvS (forL g f ds env) N R B C X := by
  have : ∃ e', forL g f ds env = some (.nx e') ∧ J e' := by
    clear q
    induction ds generalizing env with
    | nil => exact ⟨env, rfl, hj⟩
    | cons d ds ih =>
      obtain ⟨e1, h1, o, h2, h3⟩ := ht d List.mem_cons_self env hj
      unfold forL
      rw [h1]
      simp only [Option.bind_some, h2]
      cases o with
      | nx e => exact ih h3 fun d' hd => ht d' (List.mem_cons_of_mem _ hd)
      | ct e => exact ih h3 fun d' hd => ht d' (List.mem_cons_of_mem _ hd)
      | ret r e => exact h3.elim
      | brk e => exact h3.elim
      | exc x e => exact h3.elim
  obtain ⟨e', h1, h2⟩ := this
  exact ⟨_, h1, q e' h2⟩
/-- a loop by its invariant over the part that is done -/
theorem ev_loop {g : SG} {f : Env → Option SO} {ds : List D} (J : List D → Env → Prop) (hj : J [] env)
    (ht : ∀ done d rest e, ds = done ++ d :: rest → J done e → ∃ e1, g d e = some e1 ∧ EvS (f e1) (J (done ++ [d])) R N (J (done ++ [d])) X) (q : ∀ e, J ds e → N e) : EvS (forL g f ds env) N R B C X := by
  have key : ∀ (rest done : List D) (env : Env), ds = done ++ rest → J done env → EvS (forL g f rest env) N R B C X := by
    intro rest
    induction rest with
    | nil =>
      intro done env e hj
      rw [List.append_nil] at e
      subst e
      exact ⟨_, rfl, q env hj⟩
    | cons d rest ih =>
      intro done env e hj
      obtain ⟨e1, h1, o, h2, h3⟩ := ht done d rest env e hj
      unfold forL
      rw [h1]
      simp only [Option.bind_some, h2]
      cases o with
      | nx e' => exact ih (done ++ [d]) e' (by rw [e]; simp) h3
      | ct e' => exact ih (done ++ [d]) e' (by rw [e]; simp) h3
      | ret r e' => exact ⟨_, rfl, h3⟩
      | brk e' => exact ⟨_, rfl, h3⟩
      | exc x e' => exact ⟨_, rfl, h3⟩
  exact key ds [] env rfl hj
/-- a while by its invariant and a measure -/
theorem ev_while {ft : SE} {f : SS} (J : Env → Prop) (μ : Env → Nat) (hj : J env)
    (ht : ∀ e, J e → EvE (ft c e) fun v e1 => ∃ k, v = .sh (.bl k) ∧ (k = false → N e1) ∧ (k = true → EvS (f c e1) (fun e2 => J e2 ∧ μ e2 < μ e) R N (fun e2 => J e2 ∧ μ e2 < μ e) X)) : EvS (sWhile ft f c env) N R B C X := by
  have key : ∀ (n : Nat) (env : Env), μ env < n → J env → EvS (whileF (ft c) (f c) n env) N R B C X := by
    intro n
    induction n with
    | zero => intro env h; exact absurd h (Nat.not_lt_zero _)
    | succ n ih =>
      intro env hm hj
      obtain ⟨v, e1, h1, k, rfl, q1, q2⟩ := ht env hj
      unfold whileF bindS
      rw [h1]
      cases k with
      | false => exact ⟨_, rfl, q1 rfl⟩
      | true =>
        obtain ⟨o, h2, h3⟩ := q2 rfl
        dsimp only
        rw [h2]
        cases o with
        | nx e' => exact ih e' (by have := h3.2; omega) h3.1
        | ct e' => exact ih e' (by have := h3.2; omega) h3.1
        | ret r e' => exact ⟨_, rfl, h3⟩
        | brk e' => exact ⟨_, rfl, h3⟩
        | exc x e' => exact ⟨_, rfl, h3⟩
  obtain ⟨o, h1, h2⟩ := key (μ env + 1) env (Nat.lt_succ_self _) hj
  exact ⟨o, sWhile_eq h1, h2⟩
/-- a def's call -/
theorem ev_run {n m : Nat} {f : SS} {args : List Arg} {P : CRes → Prop} (hl : args.length = m) {e0 : Env} (he : initEnv n args = e0) (h : EvS (f c e0) (fun e => ∃ outs, outsOf args e = some outs ∧ P (.ret (.sh .non) outs)) (fun r e => ∃ outs, outsOf args e = some outs ∧ P (.ret r outs)) (fun _ => False) (fun _ => False) (fun x e => ∃ outs, outsOf args e = some outs ∧ P (.exc x outs))) :
    ∃ r, runDef n m f c args = some r ∧ P r := by
  subst he
  obtain ⟨o, h1, h2⟩ := h
  unfold runDef
  rw [if_pos hl, h1]
  cases o with
  | nx e => obtain ⟨outs, h3, h4⟩ := h2; exact ⟨_, by simp only [h3, Option.map_some], h4⟩
  | ret r e => obtain ⟨outs, h3, h4⟩ := h2; exact ⟨_, by simp only [h3, Option.map_some], h4⟩
  | exc x e => obtain ⟨outs, h3, h4⟩ := h2; exact ⟨_, by simp only [h3, Option.map_some], h4⟩
  | brk e => exact h2.elim
  | ct e => exact h2.elim
theorem ev_draw {fs : SA} (hd : Has c ("_law_draw", none) DrawOk) (h : EvA (fs c env) fun vs e1 => ∃ i v n cl, vs = [.var i, v] ∧ peek e1 v = some (.int n) ∧ take e1 v = some (.int n, e1) ∧ cellAt e1 i = some cl ∧ Good cl ∧ n < 1073741824 ∧ ∃ F : Cell → Env, (∀ cl', putCell e1 i cl' = F cl') ∧ ∀ (r : Int) cl', Good cl' → 0 ≤ r → (r < n ∨ r = 0) → Q (.sh (.int r)) (F cl')) : EvE (eCallB ("_law_draw", none) fs c env) Q := by
  obtain ⟨g, hg, hs⟩ := hd
  obtain ⟨vs, e1, h1, i, v, n, cl, rfl, h2, h3, h4, h5, h6, F, hF, q⟩ := h
  obtain ⟨r, cl', q1, q2, q3, q4⟩ := hs cl n h5 h6
  refine ev_callB hg ⟨_, e1, h1, i, [v], [.int n], e1, cl, .sh (.int r), cl', [none], rfl, ?_, h4, q1, by rw [hF]; exact q r cl' q2 q3 q4⟩
  simp only [takes, h3, Option.bind_some, Option.map_some]
end
/-! ### what the operations give -/
theorem mulD_r {i j : Int} (h : -(2 ^ 64) < j ∧ j < 2 ^ 64) : mulD (.int i) (.int j) = some (.sh (.int (i * j))) := if_pos (.inr h)
theorem modD_i {i j : Int} (h : 0 < j) : modD (.int i) (.int j) = some (.sh (.int (i % j))) := if_pos h
theorem fdivD_i {i j : Int} (h : 0 < j ∧ j < 1073741824) : fdivD (.int i) (.int j) = some (.sh (.int (i / j))) := if_pos h
theorem powD_i {i j : Int} (h : 0 ≤ j ∧ j ≤ 1000000 ∧ i.natAbs < 2 ^ 64) : powD (.int i) (.int j) = some (.sh (.int (i ^ j.toNat))) := if_pos h
theorem atI_of {α : Type} {xs : List α} {i : Int} (h0 : 0 ≤ i) (h : i < xs.length) : atI xs i = some (xs[i.toNat]'(by omega)) := by
  have e : i = ((i.toNat : Nat) : Int) := by omega
  have q : xs[i.toNat]? = some (xs[i.toNat]'(by omega)) := List.getElem?_eq_getElem (by omega)
  have r := atI_nat q
  rw [← e] at r
  exact r
theorem ixD_ints {ns : List Int} {i : Int} (h0 : 0 ≤ i) (h : i < (ns.map D.int).length) : ixD (.lst (ns.map .int)) (.int i) = some (.sh (.int (ns.getD i.toNat 0))) := by
  show (atI (ns.map D.int) i).map Val.sh = _
  rw [atI_of h0 h]
  simp only [List.getElem_map, Option.map_some, Option.some.injEq, Val.sh.injEq, D.int.injEq]
  rw [List.getD_eq_getElem?_getD, List.getElem?_eq_getElem (by simpa using (by omega : i.toNat < (ns.map D.int).length))]
  rfl
theorem ixD_lst {ds : List D} {i : Int} (h0 : 0 ≤ i) (h : i < ds.length) : ixD (.lst ds) (.int i) = some (.sh (ds[i.toNat]'(by omega))) := by
  show (atI ds i).map Val.sh = _
  rw [atI_of h0 h]; rfl
theorem ixD_str {z : Str} {i : Int} (h0 : 0 ≤ i) (h : i < z.length) (hz : z.length ≤ sizeLine) : ∃ n : Nat, n ∈ z.cps.toList ∧ ixD (.str z) (.int i) = some (.sh (.str ⟨#[n]⟩)) := by
  have hl : z.length = z.cps.toList.length := by simp [Str.length]
  refine ⟨z.cps.toList[i.toNat]'(by omega), List.getElem_mem _, ?_⟩
  show (if z.length ≤ sizeLine then (atI z.cps.toList i).map fun c => Val.sh (D.str ⟨#[c]⟩) else none) = _
  rw [if_pos hz, atI_of h0 (by omega)]; rfl
theorem good_mk {ns : List Int} {a b c d : Int} (h : 0 ≤ a) (hl : ns.length ≤ 63) : Good (.lst [.lst (ns.map .int), .int a, .int b, .int c, .int d]) := ⟨⟨ns, a, b, c, d⟩, rfl, h, hl⟩
theorem sizeL : sizeLine = 16777216 := sizeLine_eq
end Pd
namespace Pd.L
open PySem PySem.Spec L2
/-- is_word -/
def b_is_word : SS := (sSeq (sIf (eNot (eChain leD leD (eC (.int 1)) (eArg lenD (aCons (eVar 0) aNil)) (eC (.int 20)))) (sRet (eC (.bl false))) sNil) (sSeq (sFor (itSeq (eVar 0)) (gNm 1) (sIf (eBin ninD (eVar 1) (eC (.str "ABCDEFGHIJKLMNOPQRSTUVWXYZabcdefghijklmnopqrstuvwxyz0123456789_"))) (sRet (eC (.bl false))) sNil)) (sRet (eC (.bl true)))))
/-- _law_start -/
def b_law_start : SS := (sRet (eList (aCons (eLC [1] (itSeq (eVar 0)) (gNm 1) eYes (eArg intD (aCons (eVar 1) aNil))) (aCons (eC (.int 0)) (aCons (eC (.int 0)) (aCons (eC (.int 0)) (aCons (eC (.int 0)) aNil)))))))
/-- _law_draw -/
def b_law_draw : SS := (sSeq (sIf (eBin ltD (eVar 1) (eC (.int 2))) (sRet (eC (.int 0))) sNil) (sSeq (sIf (eBin eqD (eBin ixD (eVar 0) (eC (.int 3))) (eC (.int 0))) (sSeq (sIf (eBin geD (eBin ixD (eVar 0) (eC (.int 1))) (eArg lenD (aCons (eBin ixD (eVar 0) (eC (.int 0))) aNil))) (sRet (eC (.int 0))) sNil) (sSeq (sSet 2 (eArg intD (aCons (eBin ixD (eBin ixD (eVar 0) (eC (.int 0))) (eBin ixD (eVar 0) (eC (.int 1)))) aNil))) (sSeq (sIf (eBin ltD (eVar 2) (eC (.int 0))) (sSet 2 (eBin subD (eC (.int 0)) (eVar 2))) sNil) (sSeq (sPut 0 (eC (.int 1)) (eBin addD (eBin ixD (eVar 0) (eC (.int 1))) (eC (.int 1)))) (sSeq (sPut 0 (eC (.int 2)) (eVar 2)) (sSeq (sPut 0 (eC (.int 3)) (eC (.int 3))) (sSeq (sPut 0 (eC (.int 4)) (eC (.int 0))) (sIf (eBin geD (eVar 2) (eBin powD (eC (.int 10)) (eC (.int 18)))) (sSeq (sPut 0 (eC (.int 3)) (eC (.int 60))) (sPut 0 (eC (.int 4)) (eC (.int 1)))) sNil)))))))) sNil) (sSeq (sPut 0 (eC (.int 3)) (eBin subD (eBin ixD (eVar 0) (eC (.int 3))) (eC (.int 1)))) (sSeq (sIf (eBin eqD (eBin ixD (eVar 0) (eC (.int 4))) (eC (.int 1))) (sSeq (sSet 3 (eBin modD (eArg intD (aCons (eBin ixD (eVar 0) (eC (.int 2))) aNil)) (eVar 1))) (sSeq (sPut 0 (eC (.int 2)) (eBin fdivD (eArg intD (aCons (eBin ixD (eVar 0) (eC (.int 2))) aNil)) (eVar 1))) (sSeq (sIf (eBin eqD (eBin ixD (eVar 0) (eC (.int 2))) (eC (.int 0))) (sPut 0 (eC (.int 3)) (eC (.int 0))) sNil) (sRet (eVar 3))))) sNil) (sSeq (sSet 4 (eBin modD (eArg intD (aCons (eBin addD (eBin addD (eBin mulD (eBin ixD (eVar 0) (eC (.int 2))) (eC (.int 48271))) (eBin mulD (eBin ixD (eVar 0) (eC (.int 3))) (eC (.int 69621)))) (eC (.int 7919))) aNil)) (eC (.int 2147483647)))) (sRet (eBin modD (eArg intD (aCons (eBin modD (eArg intD (aCons (eBin addD (eBin addD (eBin mulD (eVar 4) (eC (.int 16807))) (eBin mulD (eBin ixD (eVar 0) (eC (.int 3))) (eC (.int 10133)))) (eC (.int 104729))) aNil)) (eC (.int 2147483629))) aNil)) (eVar 1))))))))
/-- _law_due -/
def b_law_due : SS := (sSeq (sSet 1 (eC (.str "abcdefghijklmnopqrstuvwxyzABCDEFGHIJKLMNOPQRSTUVWXYZ0123456789_"))) (sSeq (sIf (eOr (eBin ltD (eArg lenD (aCons (eVar 0) aNil)) (eC (.int 1))) (eBin gtD (eArg lenD (aCons (eVar 0) aNil)) (eC (.int 20)))) (sRet (eC (.bl false))) sNil) (sRet (eBin eqD (eArg lenD (aCons (eLC [2] (itSeq (eVar 0)) (gNm 2) (eBin ninD (eVar 2) (eVar 1)) (eVar 2)) aNil)) (eC (.int 0))))))
/-- _law_right -/
def b_law_right : SS := (sSeq (sSet 1 (eCall ("is_word", none) (aCons (eVar 0) aNil))) (sRet (eAnd (eUn (isB "bool") (eVar 1)) (eBin eqD (eVar 1) (eCall ("_law_due", none) (aCons (eVar 0) aNil))))))
/-- law -/
def b_law : SS := (sSeq (sSet 1 (eCall ("_law_start", none) (aCons (eVar 0) aNil))) (sSeq (sSet 2 (eC (.str "abcdefghijklmnopqrstuvwxyzABCDEFGHIJKLMNOPQRSTUVWXYZ0123456789_"))) (sSeq (sSet 3 (eC (.str " !\"#$&'()*+,-./:;<=>?\x40[\\]^`{|}~\n"))) (sSeq (sSet 4 (eBin addD (eC (.int 1)) (eCallB ("_law_draw", none) (aCons (eVar 1) (aCons (eC (.int 20)) aNil))))) (sSeq (sSet 5 (eCallB ("_law_draw", none) (aCons (eVar 1) (aCons (eVar 4) aNil)))) (sSeq (sSet 6 (eBin ixD (eVar 3) (eCallB ("_law_draw", none) (aCons (eVar 1) (aCons (eC (.int 32)) aNil))))) (sSeq (sSet 7 (eCallB ("_law_draw", none) (aCons (eVar 1) (aCons (eC (.int 25)) aNil)))) (sSeq (sSet 8 (eStrM joinD (eC (.str "")) (eLC [10] (itRange1 (aCons (eC (.int 24)) aNil)) (gNm 10) eYes (eBin ixD (eVar 2) (eCallB ("_law_draw", none) (aCons (eVar 1) (aCons (eC (.int 63)) aNil))))))) (sSeq (sSet 9 (eStrM joinD (eC (.str "")) (eLC [10] (itRange1 (aCons (eVar 7) aNil)) (gNm 10) eYes (eBin ixD (eBin addD (eVar 2) (eVar 3)) (eCallB ("_law_draw", none) (aCons (eVar 1) (aCons (eC (.int 95)) aNil))))))) (sSeq (sFor (itRange1 (aCons (eC (.int 25)) aNil)) (gNm 10) (sIf (eNot (eCall ("_law_right", none) (aCons (eSl sliceD (eVar 8) none (some (eVar 10))) aNil))) (sRet (eC (.bl false))) sNil)) (sSeq (sFor (itSeq (eVar 3)) (gNm 11) (sIf (eNot (eCall ("_law_right", none) (aCons (eBin addD (eBin addD (eSl sliceD (eVar 8) none (some (eVar 5))) (eVar 11)) (eSl sliceD (eVar 8) (some (eBin addD (eVar 5) (eC (.int 1)))) (some (eVar 4)))) aNil))) (sRet (eC (.bl false))) sNil)) (sSeq (sFor (itRange1 (aCons (eC (.int 20)) aNil)) (gNm 10) (sIf (eNot (eCall ("_law_right", none) (aCons (eBin addD (eBin addD (eSl sliceD (eVar 8) none (some (eVar 10))) (eVar 6)) (eSl sliceD (eVar 8) (some (eBin addD (eVar 10) (eC (.int 1)))) (some (eC (.int 20))))) aNil))) (sRet (eC (.bl false))) sNil)) (sRet (eAnd (eCall ("_law_right", none) (aCons (eVar 9) aNil)) (eCall ("_law_right", none) (aCons (eSl sliceD (eVar 8) none (some (eVar 4))) aNil))))))))))))))))
end Pd.L
namespace Pd.L
open PySem PySem.Spec L2
local macro_rules | `(tactic| walk_at "nE") => `(tactic| first
  | (simp only [setV, putC, putCell, takes, take, Cell.d, Option.bind_some, Option.map_some, wipeE, restE, initEnv, slotOf, Slot.put, cellAt, List.map_cons, List.map_nil, List.length_cons, List.length_nil, List.reduceReplicate, Nat.reduceAdd, Nat.reduceSub, List.cons_append, List.nil_append, List.append_nil, List.getElem?_cons_zero, List.getElem?_cons_succ, List.set_cons_zero, List.set_cons_succ, Int.reduceToNat, Option.join_some, Option.join_none] <;> rfl)
  | rfl)
local macro_rules | `(tactic| walk_at "pC") => `(tactic| first
  | (refine Eq.trans (b := some (Cell.lst (List.set _ (Int.toNat _) _))) rfl ?_; simp only [Int.reduceToNat, List.set_cons_zero, List.set_cons_succ] <;> rfl)
  | rfl)
local macro_rules | `(tactic| walk_at "rl") => `(tactic| first
  | with_reducible refine ev_seq ?_ | with_reducible refine ev_if ?_ | with_reducible refine ev_set ?_ | with_reducible refine ev_ret ?_ | with_reducible refine ev_put ?_ | with_reducible refine ev_expr ?_ | with_reducible refine ev_asg ?_ | with_reducible refine ev_for ?_ | with_reducible refine ev_nil ?_ | with_reducible refine ev_retN ?_ | with_reducible refine ev_brk ?_ | with_reducible refine ev_ct ?_
  | with_reducible refine ev_bin ?_ | with_reducible refine ev_var rfl ?_ | with_reducible refine ev_c ?_ | with_reducible refine ev_arg ?_ | with_reducible refine ev_acons ?_ | with_reducible refine ev_anil ?_ | with_reducible refine ev_un ?_ | with_reducible refine ev_chain ?_ | with_reducible refine ev_and ?_ | with_reducible refine ev_or ?_ | with_reducible refine ev_not ?_ | with_reducible refine ev_ifE ?_
  | with_reducible refine ev_list ?_ | with_reducible refine ev_tup ?_ | with_reducible refine ev_sl00 ?_ | with_reducible refine ev_sl10 ?_ | with_reducible refine ev_sl01 ?_ | with_reducible refine ev_sl11 ?_ | with_reducible refine ev_strM ?_ | with_reducible refine ev_lm ?_ | with_reducible refine ev_seqI ?_ | with_reducible refine ev_range1 ?_ | with_reducible refine ev_range2 ?_ | with_reducible refine ev_lc ?_ | with_reducible refine ev_yes ?_)
local macro_rules | `(tactic| walk_at "lf") => `(tactic| first
  | refine ⟨_, _, _, rfl, rfl, (by first | rfl | exact mulD_r (by omega) | exact modD_i (by omega) | exact fdivD_i (by omega) | exact powD_i (by omega)), ?_⟩
  | refine ⟨_, _, _, rfl, rfl, (by walk_at "pC"), _, (by walk_at "nE"), ?_⟩
  | refine ⟨_, (by walk_at "nE"), ?_⟩
  | refine ⟨_, _, (by walk_at "nE"), (by show _ ≤ sizeLine; rw [sizeL]; simp), ?_⟩
  | refine ⟨_, _, (by walk_at "nE"), ?_⟩
  | refine ⟨_, _, rfl, (by first | rfl | walk_at "cs"), ?_⟩
  | refine ⟨_, rfl, ?_⟩
  | refine ⟨_, _, rfl, ?_⟩
  | refine ⟨_, _, _, rfl, rfl, ?_⟩)
local macro_rules | `(tactic| walk_at "st") => `(tactic| repeat' (first | walk_at "rl" | walk_at "lf" | fail))
local macro_rules | `(tactic| walk_at "sp") => `(tactic| (refine ⟨fun hk => ?_, fun hk => ?_⟩ <;> (try simp only [decide_eq_true_eq, decide_eq_false_iff_not, Int.not_lt, Int.not_le, Bool.not_eq_true', Bool.not_eq_false', Bool.not_false, Bool.not_true, reduceCtorEq] at hk)))
local macro_rules | `(tactic| walk_at "go") => `(tactic| repeat' (first | walk_at "rl" | walk_at "lf" | walk_at "sp" | fail))
local macro_rules | `(tactic| walk_at "cs") => `(tactic| fail)
theorem draw_ok (c : CT) : DrawOk (runDef 5 2 b_law_draw c) := by
  rintro cl n ⟨s, rfl, hp, hns⟩ hn
  refine (?_ : ∃ r, runDef 5 2 b_law_draw c [.brw s.cell, .sh (.int n)] = some r ∧ ∃ (k : Int) (cl' : Cell), r = .ret (.sh (.int k)) [some cl', none] ∧ Good cl' ∧ 0 ≤ k ∧ (k < n ∨ k = 0)).elim fun r ⟨h1, k, cl', h2, h3⟩ => ⟨k, cl', by rw [h1, h2], h3⟩
  unfold LS.cell
  refine ev_run rfl (by walk_at "nE") ?_
  unfold b_law_draw
  refine ev_cut (fun e => 2 ≤ n ∧ e = [some (.brw (.lst [.lst (s.ns.map .int), .int s.pos, .int s.c2, .int s.c3, .int s.c4])), some (.sh (.int n)), none, none, none]) ?_ ?_
  · walk_at "go"
    · exact ⟨good_mk hp hns, by omega, by omega⟩
    · exact ⟨by assumption, rfl⟩
  rintro e ⟨hn2, rfl⟩
  refine ev_cut (fun e => ∃ a x y z o, 0 ≤ a ∧ e = [some (.brw (.lst [.lst (s.ns.map .int), .int a, .int x, .int y, .int z])), some (.sh (.int n)), o, none, none]) ?_ ?_
  · walk_at "go"
    · exact ⟨good_mk hp hns, by omega, by omega⟩
    · refine ⟨_, _, _, rfl, rfl, ixD_ints hp (by assumption), ?_⟩
      walk_at "go"
      all_goals exact ⟨_, _, _, _, _, by omega, rfl⟩
    · exact ⟨_, _, _, _, _, hp, rfl⟩
  · rintro e ⟨a, x, y, z, o, ha, rfl⟩
    walk_at "go"
    all_goals exact ⟨good_mk ha hns, Int.emod_nonneg _ (by omega), .inl (Int.emod_lt_of_pos _ (by omega))⟩
theorem start_ok (c : CT) : StartOk (runDef 2 1 b_law_start c) := by
  intro ns hns
  refine (?_ : ∃ r, runDef 2 1 b_law_start c [.sh (.scr ns)] = some r ∧ ∃ cl, r = .ret (.fr cl) [none] ∧ Good cl).elim fun r ⟨h1, cl, h2, h3⟩ => ⟨cl, by rw [h1, h2], h3⟩
  refine ev_run rfl (by walk_at "nE") ?_
  unfold b_law_start
  walk_at "go"
  obtain ⟨e', hj, h1⟩ := lcL_filter (g := gNm 1) (t := eYes c) (f := eArg intD (aCons (eVar 1) aNil) c) (vs := [1]) (fun e => e = [some (Slot.sh (D.scr ns)), none]) (fun _ => true) id (ns.map .int) [some (Slot.sh (D.scr ns)), none] [] rfl
    (by simp; rw [sizeL]; omega) (by
      rintro d hd e rfl
      obtain ⟨i, _, rfl⟩ := List.mem_map.mp hd
      exact ⟨_, _, _, _, _, rfl, rfl, rfl, fun _ => ⟨rfl, rfl, rfl⟩⟩)
  subst hj
  rw [List.nil_append, List.filter_eq_self.mpr (fun _ _ => rfl), List.map_id] at h1
  refine ⟨_, _, h1, _, rfl, ?_⟩
  walk_at "go"
  exact good_mk (by omega) hns
theorem ev_search {N B C : Env → Prop} {R : RV → Env → Prop} {X : Exc → Env → Prop} {g : SG} {f : Env → Option SO} {ds : List D} {env : Env} (J : Env → Prop) (ok : D → Bool) (r : RV) (hj : J env)
    (ht : ∀ d ∈ ds, ∀ e, J e → ∃ e1, g d e = some e1 ∧ EvS (f e1) (fun e2 => ok d = true ∧ J e2) (fun r' e2 => ok d = false ∧ r' = r ∧ J e2) (fun _ => False) (fun _ => False) (fun _ _ => False))
    (q1 : ds.all ok = true → ∀ e, J e → N e) (q2 : ds.all ok = false → ∀ e, J e → R r e) : EvS (forL g f ds env) N R B C X := by
  obtain ⟨e', h1, h2⟩ := forL_search (g := g) (f := f) J ok r ds env hj fun d hd e je => by
    obtain ⟨e1, h1, o, h2, h3⟩ := ht d hd e je
    cases o with
    | nx e2 => exact ⟨e1, e2, h1, h3.2, by rw [h2, if_pos h3.1]⟩
    | ret r' e2 => exact ⟨e1, e2, h1, h3.2.2, by rw [h2, h3.2.1, if_neg (by rw [h3.1]; decide)]⟩
    | brk e2 => exact h3.elim
    | ct e2 => exact h3.elim
    | exc x e2 => exact h3.elim
  refine ⟨_, h2, ?_⟩
  cases ha : ds.all ok with
  | true => rw [if_pos rfl]; exact q1 ha e' h1
  | false => rw [if_neg (by decide)]; exact q2 ha e' h1
def W1 : Str := "ABCDEFGHIJKLMNOPQRSTUVWXYZabcdefghijklmnopqrstuvwxyz0123456789_"
def W2 : Str := "abcdefghijklmnopqrstuvwxyzABCDEFGHIJKLMNOPQRSTUVWXYZ0123456789_"
def isW (s : Str) : Bool := decide (1 ≤ s.length ∧ s.length ≤ 20) && s.cps.toList.all fun n => decide (n ∈ W1.cps.toList)
def WordOk (g : List Arg → Option CRes) : Prop := ∀ s : Str, s.length ≤ sizeLine → g [.sh (.str s)] = some (.ret (.sh (.bl (isW s))) [none])
theorem lenD_str {z : Str} (h : z.length ≤ sizeLine) : lenD [.str z] = some (.sh (.int z.length)) := if_pos h
def inW (W : Str) (d : D) : Bool := match d with
  | .str z => z.cps.toList.all fun n => decide (n ∈ W.cps.toList)
  | _ => false
theorem all_chars (W : Str) (p : List Nat) : (p.map fun n => D.str ⟨#[n]⟩).all (inW W) = p.all fun n => decide (n ∈ W.cps.toList) := by
  induction p with
  | nil => rfl
  | cons n p ih => rw [List.map_cons, List.all_cons, List.all_cons, ih]; congr 1; simp [inW]
theorem ninD_chr (n : Nat) (W : Str) : ninD (.str ⟨#[n]⟩) (.str W) = some (.sh (.bl (!decide (n ∈ W.cps.toList)))) := rfl
theorem word_ok (c : CT) : WordOk (runDef 2 1 b_is_word c) := by
  intro s hs
  refine (?_ : ∃ r, runDef 2 1 b_is_word c [.sh (.str s)] = some r ∧ r = .ret (.sh (.bl (isW s))) [none]).elim fun r ⟨h1, h2⟩ => by rw [h1, h2]
  refine ev_run rfl (by walk_at "nE") ?_
  unfold b_is_word
  refine ev_cut (fun e => (1 ≤ s.length ∧ s.length ≤ 20) ∧ e = [some (.sh (.str s)), none]) ?_ ?_
  · walk_at "go"
    refine ⟨_, _, rfl, lenD_str hs, ?_⟩
    walk_at "go"
    · have e : isW s = false := by unfold isW; rw [decide_eq_false (by omega)]; rfl
      rw [e]
    · exact ⟨by omega, rfl⟩
    · have e : isW s = false := by unfold isW; rw [decide_eq_false (by omega)]; rfl
      rw [e]
  · rintro e ⟨hl, rfl⟩
    have hw : isW s = (s.cps.toList.all fun n => decide (n ∈ W1.cps.toList)) := by unfold isW; rw [decide_eq_true hl, Bool.true_and]
    walk_at "go"
    refine ev_search (fun e => ∃ o : Option D, e = [some (.sh (.str s)), o.map Slot.sh]) (inW W1) (.sh (.bl false)) ⟨none, rfl⟩ ?_ ?_ ?_
    · rintro d hd e ⟨o, rfl⟩
      obtain ⟨n, _, rfl⟩ := List.mem_map.mp hd
      refine ⟨[some (.sh (.str s)), some (.sh (.str ⟨#[n]⟩))], by cases o <;> rfl, ?_⟩
      have hi : inW W1 (.str ⟨#[n]⟩) = decide (n ∈ W1.cps.toList) := by simp [inW]
      rw [hi]
      walk_at "go"
      · exact ⟨decide_eq_false (by assumption), rfl, some _, rfl⟩
      · exact ⟨decide_eq_true (by assumption), some _, rfl⟩
    · rintro ha e ⟨o, rfl⟩
      rw [all_chars] at ha
      walk_at "go"
      rw [hw, ha]
    · rintro ha e ⟨o, rfl⟩
      rw [all_chars] at ha
      refine ⟨[none], by cases o <;> rfl, ?_⟩
      rw [hw, ha]
/-- the law's own reckoning -/
def DueOk (g : List Arg → Option CRes) : Prop := ∀ s : Str, s.length ≤ sizeLine → g [.sh (.str s)] = some (.ret (.sh (.bl (isW s))) [none])
theorem w12 : ∀ n : Nat, n ∈ W1.cps.toList ↔ n ∈ W2.cps.toList := fun n =>
  ⟨fun h => (List.all_eq_true.mp (by decide +kernel : (W1.cps.toList.all fun n => decide (n ∈ W2.cps.toList)) = true) n h) |> of_decide_eq_true, fun h => (List.all_eq_true.mp (by decide +kernel : (W2.cps.toList.all fun n => decide (n ∈ W1.cps.toList)) = true) n h) |> of_decide_eq_true⟩
def notW (d : D) : Bool := match d with
  | .str ⟨⟨[n]⟩⟩ => !decide (n ∈ W2.cps.toList)
  | _ => false
theorem filter_chars (p : List Nat) : (((p.map fun n => D.str ⟨#[n]⟩).filter notW).map id).length = 0 ↔ (p.all fun n => decide (n ∈ W1.cps.toList)) = true := by
  induction p with
  | nil => simp
  | cons n p ih =>
    rw [List.map_cons, List.all_cons]
    by_cases h : n ∈ W1.cps.toList
    · have e : notW (.str ⟨#[n]⟩) = false := by show (!decide (n ∈ W2.cps.toList)) = false; rw [decide_eq_true ((w12 n).mp h)]; rfl
      rw [List.filter_cons_of_neg (by rw [e]; decide), decide_eq_true h, Bool.true_and]
      exact ih
    · have e : notW (.str ⟨#[n]⟩) = true := by show (!decide (n ∈ W2.cps.toList)) = true; rw [decide_eq_false (fun z => h ((w12 n).mpr z))]; rfl
      rw [List.filter_cons_of_pos e, decide_eq_false h]
      simp
theorem due_ok (c : CT) : DueOk (runDef 3 1 b_law_due c) := by
  intro s hs
  refine (?_ : ∃ r, runDef 3 1 b_law_due c [.sh (.str s)] = some r ∧ r = .ret (.sh (.bl (isW s))) [none]).elim fun r ⟨h1, h2⟩ => by rw [h1, h2]
  refine ev_run rfl (by walk_at "nE") ?_
  unfold b_law_due
  refine ev_cut (fun e => e = [some (.sh (.str s)), some (.sh (.str W2)), none]) (by walk_at "go"; rfl) ?_
  rintro e rfl
  refine ev_cut (fun e => (1 ≤ s.length ∧ s.length ≤ 20) ∧ e = [some (.sh (.str s)), some (.sh (.str W2)), none]) ?_ ?_
  · walk_at "go"
    refine ⟨_, _, rfl, lenD_str hs, ?_⟩
    walk_at "go"
    · refine ⟨_, _, rfl, lenD_str hs, ?_⟩
      walk_at "go"
      · have e : isW s = false := by unfold isW; rw [decide_eq_false (by omega)]; rfl
        rw [e]
      · exact ⟨by omega, rfl⟩
    · have e : isW s = false := by unfold isW; rw [decide_eq_false (by omega)]; rfl
      rw [e]
  · rintro e ⟨hl, rfl⟩
    have hw : isW s = (s.cps.toList.all fun n => decide (n ∈ W1.cps.toList)) := by unfold isW; rw [decide_eq_true hl, Bool.true_and]
    walk_at "go"
    obtain ⟨e', hj, h1⟩ := lcL_filter (g := gNm 2) (t := eBin ninD (eVar 2) (eVar 1) c) (f := eVar 2 c) (vs := [2]) (fun e => e = [some (.sh (.str s)), some (.sh (.str W2)), none]) notW id
      (s.cps.toList.map fun n => D.str ⟨#[n]⟩) [some (.sh (.str s)), some (.sh (.str W2)), none] [] rfl (by
        have : (s.cps.toList.map fun n => D.str ⟨#[n]⟩).length = s.length := by simp [Str.length]
        rw [this, sizeL]
        simp only [List.length_nil]
        omega) (by
        rintro d hd e rfl
        obtain ⟨n, _, rfl⟩ := List.mem_map.mp hd
        exact ⟨_, _, _, _, _, rfl, rfl, rfl, fun _ => ⟨rfl, rfl, rfl⟩⟩)
    subst hj
    rw [List.nil_append] at h1
    refine ⟨_, _, h1, _, rfl, ?_⟩
    walk_at "go"
    rw [hw]
    congr 4
    rw [Bool.eq_iff_iff]
    refine Iff.trans ?_ (filter_chars s.cps.toList)
    rw [decide_eq_true_eq]
    omega
def RightOk (g : List Arg → Option CRes) : Prop := ∀ s : Str, s.length ≤ sizeLine → g [.sh (.str s)] = some (.ret (.sh (.bl true)) [none])
theorem right_ok (c : CT) (h1 : Has c ("is_word", none) WordOk) (h2 : Has c ("_law_due", none) DueOk) : RightOk (runDef 2 1 b_law_right c) := by
  intro s hs
  obtain ⟨g1, e1, k1⟩ := h1
  obtain ⟨g2, e2, k2⟩ := h2
  refine (?_ : ∃ r, runDef 2 1 b_law_right c [.sh (.str s)] = some r ∧ r = .ret (.sh (.bl true)) [none]).elim fun r ⟨h1, h2⟩ => by rw [h1, h2]
  refine ev_run rfl (by walk_at "nE") ?_
  unfold b_law_right
  refine ev_cut (fun e => e = [some (.sh (.str s)), some (.sh (.bl (isW s)))]) ?_ ?_
  · refine ev_set ?_
    refine ev_call e1 ?_
    walk_at "go"
    refine ⟨_, _, _, _, rfl, k1 s hs, ?_⟩
    walk_at "go"
    rfl
  · rintro e rfl
    walk_at "go"
    · refine ev_call e2 ?_
      walk_at "go"
      refine ⟨_, _, _, _, rfl, k2 s hs, ?_⟩
      walk_at "go"
      rw [decide_eq_true trivial]
/-- a text of one character -/
def Chr (d : D) : Prop := ∃ n : Nat, d = .str ⟨#[n]⟩
theorem strs_chr : ∀ ys : List D, (∀ y ∈ ys, Chr y) → ∃ ss : List Str, strsOf ys = some ss ∧ ss.length = ys.length ∧ (ss.map (·.length)).sum = ys.length
  | [], _ => ⟨[], rfl, rfl, rfl⟩
  | y :: ys, h => by
    obtain ⟨n, rfl⟩ := h _ List.mem_cons_self
    obtain ⟨ss, h1, h2, h3⟩ := strs_chr ys fun z hz => h z (List.mem_cons_of_mem _ hz)
    refine ⟨⟨#[n]⟩ :: ss, ?_, by simp [h2], ?_⟩
    · show (strsOf ys).map (_ :: ·) = _
      rw [h1]; rfl
    · rw [List.map_cons, List.sum_cons, h3]
      show 1 + ys.length = ys.length + 1
      omega
theorem join_chrs (ys : List D) (h : ∀ y ∈ ys, Chr y) (hl : ys.length ≤ 16777216) : ∃ z : Str, joinD "" (.lst ys) = some (.sh (.str z)) ∧ z.length ≤ ys.length := by
  obtain ⟨ss, h1, h2, h3⟩ := strs_chr ys h
  have e0 : (("" : Str)).length = 0 := by decide
  refine ⟨Txt.join "" ss, ?_, ?_⟩
  · show (strsOf ys).bind _ = _
    rw [h1]
    show (if _ then _ else _) = _
    rw [h3, e0, if_pos (by omega)]
  · show (Builtin.Str.glued "" ss).length ≤ _
    rw [StrLaws.glued_eq_join]
    have := StrLaws.join_length_le "" ss
    rw [h3, e0] at this
    omega
theorem sliceD_str {z : Str} (lo hi : Option Int) (h : z.length ≤ sizeLine) : ∃ z' : Str, sliceD (.str z) lo hi = some (.sh (.str z')) ∧ z'.length ≤ z.length := ⟨_, if_pos h, cutS_length z lo hi⟩
theorem addD_str {a b : Str} (h : a.length + b.length ≤ sizeLine) : addD (.str a) (.str b) = some (.sh (.str (a ++ b))) := if_pos h
/-- a comprehension without a test whose items are of a kind -/
theorem ev_lcS {c : CT} {g : SG} {f : SE} {vs : List Nat} {ds : List D} {env : Env} {P : List D → Env → Prop} (J : Env → Prop) (K : D → Prop) (hj : J env) (hl : ds.length ≤ 16777216)
    (ht : ∀ d ∈ ds, ∀ e, J e → ∃ e1, g d e = some e1 ∧ EvE (f c e1) fun v e3 => ∃ y e4, take e3 v = some (y, e4) ∧ J (wipeE e4 vs) ∧ K y)
    (q : ∀ ys e', ys.length = ds.length → (∀ y ∈ ys, K y) → J e' → P ys e') : ∃ ys e', lcL g (eYes c) (f c) vs ds env [] = some (ys, e') ∧ P ys e' := by
  obtain ⟨ys, e', h1, h2, h3, h4⟩ := lcL_some (g := g) (t := eYes c) (f := f c) (vs := vs) J K ds env [] hj (by rw [sizeL]; simpa using hl) (fun _ h => nomatch h) fun d hd e je => by
    obtain ⟨e1, h1, v, e3, h2, y, e4, h3, h4, h5⟩ := ht d hd e je
    exact ⟨e1, e1, e3, v, y, e4, h1, rfl, h2, h3, h4, h5⟩
  exact ⟨ys, e', h2, q ys e' (by simpa using h3) h4 h1⟩
def Others : Str := " !\"#$&'()*+,-./:;<=>?\x40[\\]^`{|}~\n"
abbrev Ft (ns : List Int) (cl : Cell) (xs : List (Option Slot)) : Env := some (.sh (.scr ns)) :: some (.own cl) :: some (.sh (.str W2)) :: some (.sh (.str Others)) :: xs
theorem ev_drawK {c : CT} {env : Env} {Q : Val → Env → Prop} {N : Int} (hd : Has c ("_law_draw", none) DrawOk) {ns : List Int} {xs : List (Option Slot)} {cl : Cell} (he : env = Ft ns cl xs) (g : Good cl) (hN : N < 1073741824)
    (q : ∀ (r : Int) cl', Good cl' → 0 ≤ r → (r < N ∨ r = 0) → Q (.sh (.int r)) (Ft ns cl' xs)) : EvE (eCallB ("_law_draw", none) (aCons (eVar 1) (aCons (eC (.int N)) aNil)) c env) Q := by
  subst he
  refine ev_draw hd ?_
  walk_at "go"
  exact ⟨1, .sh (.int N), N, cl, rfl, rfl, rfl, rfl, g, hN, _, fun _ => rfl, q⟩
theorem law_ok (c : CT) (hs : Has c ("_law_start", none) StartOk) (hd : Has c ("_law_draw", none) DrawOk) (hr : Has c ("_law_right", none) RightOk) (ns : List Int) (hns : ns.length ≤ 63) : runDef 12 1 b_law c [.sh (.scr ns)] = some (.ret (.sh (.bl true)) [none]) := by
  obtain ⟨gs, es, ks⟩ := hs
  obtain ⟨gr, er, kr⟩ := hr
  refine (?_ : ∃ r, runDef 12 1 b_law c [.sh (.scr ns)] = some r ∧ r = .ret (.sh (.bl true)) [none]).elim fun r ⟨h1, h2⟩ => by rw [h1, h2]
  refine ev_run rfl (by walk_at "nE") ?_
  unfold b_law
  refine ev_cut (fun e => ∃ cl, Good cl ∧ e = [some (.sh (.scr ns)), some (.own cl), none, none, none, none, none, none, none, none, none, none]) ?_ ?_
  · refine ev_set ?_
    refine ev_call es ?_
    walk_at "go"
    obtain ⟨cl, h1, h2⟩ := ks ns hns
    refine ⟨_, _, _, _, rfl, h1, _, rfl, cl, h2, rfl⟩
  rintro e ⟨cl, hg, rfl⟩
  refine ev_cut (fun e => e = [some (.sh (.scr ns)), some (.own cl), some (.sh (.str W2)), none, none, none, none, none, none, none, none, none]) (by walk_at "go"; rfl) ?_
  rintro e rfl
  refine ev_cut (fun e => e = Ft ns cl [none, none, none, none, none, none, none, none]) (by walk_at "go"; rfl) ?_
  rintro e rfl
  refine ev_cut (fun e => ∃ cl, Good cl ∧ ∃ i4 : Int, 0 ≤ i4 ∧ i4 ≤ 20 ∧ e = Ft ns cl [some (.sh (.int i4)), none, none, none, none, none, none, none]) ?_ ?_
  · walk_at "go"
    refine ev_drawK hd rfl hg (by decide) fun r cl' h1 h2 h3 => ?_
    walk_at "go"
    refine ⟨_, h1, _, ?_, ?_, rfl⟩ <;> omega
  rintro e ⟨cl, hg, i4, h4, h4', rfl⟩
  refine ev_cut (fun e => ∃ cl, Good cl ∧ ∃ i5 : Int, e = Ft ns cl [some (.sh (.int i4)), some (.sh (.int i5)), none, none, none, none, none, none]) ?_ ?_
  · refine ev_set (ev_draw hd ?_)
    walk_at "go"
    refine ⟨1, .sh (.int i4), i4, cl, rfl, rfl, rfl, rfl, hg, by omega, _, fun _ => rfl, fun r cl' g1 _ _ => ?_⟩
    exact ⟨_, rfl, _, g1, _, rfl⟩
  rintro e ⟨cl, hg, i5, rfl⟩
  refine ev_cut (fun e => ∃ cl, Good cl ∧ ∃ s6 : Str, s6.length = 1 ∧ e = Ft ns cl [some (.sh (.int i4)), some (.sh (.int i5)), some (.sh (.str s6)), none, none, none, none, none]) ?_ ?_
  · walk_at "go"
    refine ev_drawK hd rfl hg (by decide) fun r cl' h1 h2 h3 => ?_
    obtain ⟨n, _, hn⟩ := ixD_str (z := Others) (i := r) h2 (by rw [show Others.length = 32 from by decide]; omega) (by rw [sizeL]; decide)
    refine ⟨_, _, _, rfl, rfl, hn, ?_⟩
    walk_at "go"
    exact ⟨_, h1, _, rfl, rfl⟩
  rintro e ⟨cl, hg, s6, h6, rfl⟩
  refine ev_cut (fun e => ∃ cl, Good cl ∧ ∃ i7 : Int, 0 ≤ i7 ∧ i7 ≤ 24 ∧ e = Ft ns cl [some (.sh (.int i4)), some (.sh (.int i5)), some (.sh (.str s6)), some (.sh (.int i7)), none, none, none, none]) ?_ ?_
  · walk_at "go"
    refine ev_drawK hd rfl hg (by decide) fun r cl' h1 h2 h3 => ?_
    exact ⟨_, rfl, _, h1, _, h2, by omega, rfl⟩
  rintro e ⟨cl, hg, i7, h7, h7', rfl⟩
  refine ev_cut (fun e => ∃ cl, Good cl ∧ ∃ s8 : Str, s8.length ≤ 24 ∧ e = Ft ns cl [some (.sh (.int i4)), some (.sh (.int i5)), some (.sh (.str s6)), some (.sh (.int i7)), some (.sh (.str s8)), none, none, none]) ?_ ?_
  · walk_at "go"
    refine ⟨by decide, rfl, _, rfl, ?_⟩
    refine ev_lcS (fun e => ∃ cl, Good cl ∧ e = Ft ns cl [some (.sh (.int i4)), some (.sh (.int i5)), some (.sh (.str s6)), some (.sh (.int i7)), none, none, none, none]) Chr ⟨cl, hg, rfl⟩ (by simp) ?_ ?_
    · rintro d hd' e ⟨cl, hg, rfl⟩
      refine ⟨Ft ns cl [some (.sh (.int i4)), some (.sh (.int i5)), some (.sh (.str s6)), some (.sh (.int i7)), none, none, some (.sh d), none], rfl, ?_⟩
      walk_at "go"
      refine ev_drawK hd rfl hg (by decide) fun r cl' h1 h2 h3 => ?_
      obtain ⟨n, _, hn⟩ := ixD_str (z := W2) (i := r) h2 (by rw [show W2.length = 63 from by decide]; omega) (by rw [sizeL]; decide)
      refine ⟨_, _, _, rfl, rfl, hn, _, _, rfl, ⟨_, h1, rfl⟩, _, rfl⟩
    · rintro ys e' hl hy ⟨cl, hg, rfl⟩
      obtain ⟨z, h1, h2⟩ := join_chrs ys hy (by rw [hl]; simp)
      refine ⟨_, rfl, _, _, _, rfl, rfl, h1, _, rfl, _, hg, z, ?_, rfl⟩
      rw [hl] at h2
      simpa using h2
  rintro e ⟨cl, hg, s8, h8, rfl⟩
  refine ev_cut (fun e => ∃ cl, Good cl ∧ ∃ s9 : Str, s9.length ≤ 24 ∧ e = Ft ns cl [some (.sh (.int i4)), some (.sh (.int i5)), some (.sh (.str s6)), some (.sh (.int i7)), some (.sh (.str s8)), some (.sh (.str s9)), none, none]) ?_ ?_
  · walk_at "go"
    refine ⟨by omega, rfl, _, rfl, ?_⟩
    refine ev_lcS (fun e => ∃ cl, Good cl ∧ e = Ft ns cl [some (.sh (.int i4)), some (.sh (.int i5)), some (.sh (.str s6)), some (.sh (.int i7)), some (.sh (.str s8)), none, none, none]) Chr ⟨cl, hg, rfl⟩ (by simp; omega) ?_ ?_
    · rintro d hd' e ⟨cl, hg, rfl⟩
      refine ⟨Ft ns cl [some (.sh (.int i4)), some (.sh (.int i5)), some (.sh (.str s6)), some (.sh (.int i7)), some (.sh (.str s8)), none, some (.sh d), none], rfl, ?_⟩
      walk_at "go"
      refine ev_drawK hd rfl hg (by decide) fun r cl' h1 h2 h3 => ?_
      obtain ⟨n, _, hn⟩ := ixD_str (z := W2 ++ Others) (i := r) h2 (by rw [show (W2 ++ Others).length = 95 from by decide]; omega) (by rw [sizeL]; decide)
      refine ⟨_, _, _, rfl, rfl, hn, _, _, rfl, ⟨_, h1, rfl⟩, _, rfl⟩
    · rintro ys e' hl hy ⟨cl, hg, rfl⟩
      obtain ⟨z, h1, h2⟩ := join_chrs ys hy (by rw [hl]; simp; omega)
      refine ⟨_, rfl, _, _, _, rfl, rfl, h1, _, rfl, _, hg, z, ?_, rfl⟩
      rw [hl] at h2
      simp only [List.length_map, List.length_range] at h2
      omega
  rintro e ⟨cl, hg, s9, h9, rfl⟩
  have right : ∀ {Q : Val → Env → Prop} {fs : SA} {env : Env}, EvA (fs c env) (fun vs e1 => ∃ z : Str, vs = [.sh (.str z)] ∧ z.length ≤ sizeLine ∧ Q (.sh (.bl true)) e1) → EvE (eCall ("_law_right", none) fs c env) Q := by
    intro Q fs env h
    refine ev_call er ?_
    obtain ⟨vs, e1, h1, z, rfl, h2, q⟩ := h
    exact ⟨_, _, h1, _, _, _, _, rfl, kr z h2, q⟩
  refine ev_cut (fun e => ∃ o : Option D, e = Ft ns cl [some (.sh (.int i4)), some (.sh (.int i5)), some (.sh (.str s6)), some (.sh (.int i7)), some (.sh (.str s8)), some (.sh (.str s9)), o.map Slot.sh, none]) ?_ ?_
  · walk_at "go"
    refine ⟨by decide, ?_⟩
    refine ev_pass (fun e => ∃ o : Option D, e = Ft ns cl [some (.sh (.int i4)), some (.sh (.int i5)), some (.sh (.str s6)), some (.sh (.int i7)), some (.sh (.str s8)), some (.sh (.str s9)), o.map Slot.sh, none]) ⟨none, rfl⟩ ?_ (fun _ h => h)
    rintro d hd' e ⟨o, rfl⟩
    obtain ⟨k, _, rfl⟩ := List.mem_map.mp hd'
    refine ⟨Ft ns cl [some (.sh (.int i4)), some (.sh (.int i5)), some (.sh (.str s6)), some (.sh (.int i7)), some (.sh (.str s8)), some (.sh (.str s9)), some (.sh (.int (0 + (k : Nat)))), none], by cases o <;> rfl, ?_⟩
    refine ev_if (ev_not (right ?_))
    walk_at "go"
    obtain ⟨z, h1, h2⟩ := sliceD_str (z := s8) none (some (0 + (k : Int))) (by rw [sizeL]; omega)
    refine ⟨_, _, _, rfl, rfl, h1, ?_⟩
    walk_at "go"
    refine ⟨by rw [sizeL]; omega, ?_⟩
    walk_at "go"
    exact ⟨some _, rfl⟩
  rintro e ⟨o, rfl⟩
  have sl : ∀ {Q : Val → Prop} {env : Env} {lo hi : Int}, (∀ z : Str, z.length ≤ 24 → Q (.sh (.str z))) → ∃ d i j r, (Val.sh (.int lo)) = .sh (.int i) ∧ (Val.sh (.int hi)) = .sh (.int j) ∧ peek env (.sh (.str s8)) = some d ∧ sliceD d (some i) (some j) = some r ∧ Q r := by
    intro Q env lo hi q
    obtain ⟨z, h1, h2⟩ := sliceD_str (z := s8) (some lo) (some hi) (by rw [sizeL]; omega)
    exact ⟨_, _, _, _, rfl, rfl, rfl, h1, q z (by omega)⟩
  refine ev_cut (fun e => ∃ o p : Option D, e = Ft ns cl [some (.sh (.int i4)), some (.sh (.int i5)), some (.sh (.str s6)), some (.sh (.int i7)), some (.sh (.str s8)), some (.sh (.str s9)), o.map Slot.sh, p.map Slot.sh]) ?_ ?_
  · refine ev_for (ev_seqI ?_)
    walk_at "go"
    refine ev_pass (fun e => ∃ p : Option D, e = Ft ns cl [some (.sh (.int i4)), some (.sh (.int i5)), some (.sh (.str s6)), some (.sh (.int i7)), some (.sh (.str s8)), some (.sh (.str s9)), o.map Slot.sh, p.map Slot.sh]) ⟨none, rfl⟩ ?_ (fun _ ⟨p, h⟩ => ⟨o, p, h⟩)
    rintro d hd' e ⟨p, rfl⟩
    obtain ⟨k, _, rfl⟩ := List.mem_map.mp hd'
    refine ⟨Ft ns cl [some (.sh (.int i4)), some (.sh (.int i5)), some (.sh (.str s6)), some (.sh (.int i7)), some (.sh (.str s8)), some (.sh (.str s9)), o.map Slot.sh, some (.sh (.str ⟨#[k]⟩))], by cases p <;> rfl, ?_⟩
    refine ev_if (ev_not (right ?_))
    walk_at "go"
    obtain ⟨z, h1, h2⟩ := sliceD_str (z := s8) none (some i5) (by rw [sizeL]; omega)
    refine ⟨_, _, _, rfl, rfl, h1, ?_⟩
    walk_at "go"
    refine ⟨_, _, _, rfl, rfl, addD_str (by rw [sizeL]; show _ + 1 ≤ _; omega), ?_⟩
    walk_at "go"
    refine sl fun z' hz' => ?_
    refine ⟨_, _, _, rfl, rfl, addD_str (by rw [sizeL, Str.length_append]; show _ + 1 + _ ≤ _; omega), ?_⟩
    walk_at "go"
    refine ⟨by rw [sizeL, Str.length_append, Str.length_append]; show _ + 1 + _ ≤ _; omega, ?_⟩
    walk_at "go"
    exact ⟨some _, rfl⟩
  rintro e ⟨o, p, rfl⟩
  refine ev_cut (fun e => ∃ o : Option D, e = Ft ns cl [some (.sh (.int i4)), some (.sh (.int i5)), some (.sh (.str s6)), some (.sh (.int i7)), some (.sh (.str s8)), some (.sh (.str s9)), o.map Slot.sh, p.map Slot.sh]) ?_ ?_
  · walk_at "go"
    refine ⟨by decide, ?_⟩
    refine ev_pass (fun e => ∃ o : Option D, e = Ft ns cl [some (.sh (.int i4)), some (.sh (.int i5)), some (.sh (.str s6)), some (.sh (.int i7)), some (.sh (.str s8)), some (.sh (.str s9)), o.map Slot.sh, p.map Slot.sh]) ⟨o, rfl⟩ ?_ (fun _ h => h)
    rintro d hd' e ⟨o, rfl⟩
    obtain ⟨k, _, rfl⟩ := List.mem_map.mp hd'
    refine ⟨Ft ns cl [some (.sh (.int i4)), some (.sh (.int i5)), some (.sh (.str s6)), some (.sh (.int i7)), some (.sh (.str s8)), some (.sh (.str s9)), some (.sh (.int (0 + (k : Nat)))), p.map Slot.sh], by cases o <;> rfl, ?_⟩
    refine ev_if (ev_not (right ?_))
    walk_at "go"
    obtain ⟨z, h1, h2⟩ := sliceD_str (z := s8) none (some (0 + (k : Int))) (by rw [sizeL]; omega)
    refine ⟨_, _, _, rfl, rfl, h1, ?_⟩
    walk_at "go"
    refine ⟨_, _, _, rfl, rfl, addD_str (by rw [sizeL, h6]; omega), ?_⟩
    walk_at "go"
    refine sl fun z' hz' => ?_
    refine ⟨_, _, _, rfl, rfl, addD_str (by rw [sizeL, Str.length_append, h6]; omega), ?_⟩
    walk_at "go"
    refine ⟨by rw [sizeL, Str.length_append, Str.length_append, h6]; omega, ?_⟩
    walk_at "go"
    exact ⟨some _, rfl⟩
  rintro e ⟨o, rfl⟩
  refine ev_ret (ev_and (right ?_))
  walk_at "go"
  refine ⟨by rw [sizeL]; omega, true, rfl, fun _ => right ?_, fun h => nomatch h⟩
  walk_at "go"
  obtain ⟨z, h1, h2⟩ := sliceD_str (z := s8) none (some i4) (by rw [sizeL]; omega)
  refine ⟨_, _, _, rfl, rfl, h1, ?_⟩
  walk_at "go"
  exact ⟨by rw [sizeL]; omega, _, _, rfl, _, rfl, rfl⟩
end Pd.L
namespace Pd.L
open PySem PySem.Spec L2
def top (i : Nat) : Stmt := PySem.Challenge.pw_pinnedasks_k00_is_word.main.body.getD i (.Pass ⟨0, 0, 0, 0⟩)
structure Tx (K : PySem.W.Frag) (mg : Str → Option Value) : Prop where
  n_bool : mg "bool" = none
  n_int : mg "int" = none
  n_isinstance : mg "isinstance" = none
  n_len : mg "len" = none
  n_range : mg "range" = none
  g__law_draw : mg "_law_draw" = some (.ref (He.fAd K ("_law_draw", none)))
  k__law_draw : PySem.W.keepIn K (.ref (He.fAd K ("_law_draw", none))) = true
  g__law_due : mg "_law_due" = some (.ref (He.fAd K ("_law_due", none)))
  k__law_due : PySem.W.keepIn K (.ref (He.fAd K ("_law_due", none))) = true
  g__law_right : mg "_law_right" = some (.ref (He.fAd K ("_law_right", none)))
  k__law_right : PySem.W.keepIn K (.ref (He.fAd K ("_law_right", none))) = true
  g__law_start : mg "_law_start" = some (.ref (He.fAd K ("_law_start", none)))
  k__law_start : PySem.W.keepIn K (.ref (He.fAd K ("_law_start", none))) = true
  g_is_word : mg "is_word" = some (.ref (He.fAd K ("is_word", none)))
  k_is_word : PySem.W.keepIn K (.ref (He.fAd K ("is_word", none))) = true
  c_MAX_WORD : ∃ t, mg "MAX_WORD" = some (.int (20) t)
  c_WORD_CHARACTERS : ∃ t, mg "WORD_CHARACTERS" = some (.str "ABCDEFGHIJKLMNOPQRSTUVWXYZabcdefghijklmnopqrstuvwxyz0123456789_" t)
theorem hu1 {k : Nat} {A : Around} (hr : Room k A) : A.units + 1 < cLine := by have := hr.un; omega
theorem hu65 {k : Nat} {A : Around} (hr : Room k A) : A.units + 65 < cLine := by have := hr.un; omega
section
variable {P : Program} {w : World} {K : PySem.W.Frag} {mg : Str → Option Value} {base : Heap} {f : Addr} {cdv : Value} {A : Around} {outer : List PySem.Env} {s : Shared} {H : Hp} {E : XK} {c : CT} {k : Nat}
abbrev s_is_word : Stmt := top 3
abbrev N_is_word : List Str := ["text", "char"]
theorem sc_is_word : FnScope N_is_word ["text"] (defScope s_is_word) := ⟨rfl, rfl, rfl, by decide +kernel, rfl, by decide +kernel, by decide +kernel⟩
theorem d_is_word (T : Tx K mg) (Fn : Fns (cxOf (CX P w) P w K mg base N_is_word "is_word" (defScope s_is_word) f cdv A outer s H E) K c) (hr : Room k (A.deeper (PyProof.Rows.envOfC "is_word" (defScope s_is_word) s.heap.objs.size f cdv)))  :
    PSs (cxOf (CX P w) P w K mg base N_is_word "is_word" (defScope s_is_word) f cdv A outer s H E) (defBody s_is_word) (rdS K c (fun cls d _ H' => E cls d H') b_is_word) :=
  have nd := sc_is_word.nd
  have tk : Takes (cxOf (CX P w) P w K mg base N_is_word "is_word" (defScope s_is_word) f cdv A outer s H E) (fun cls d _ H' => E cls d H') := takes_of rfl rfl rfl rfl
  (s_cons (s_if (t_not (t_chain o_le b_le o_le b_le p_int (p_callB c_len b_len rfl T.n_len boot_len (a_cons (p_var 0) a_nil)) (p_gint rfl T.c_MAX_WORD))) (s_one (s_ret p_bl)) s_nil) (s_cons (s_for (passes_of rfl) rfl (i_seq (p_var 0)) (g_nm (i := 1) nd) (s_one (s_if (t_cmp (o_nin (hu65 hr)) b_nin (p_var 1) (p_gstr rfl T.c_WORD_CHARACTERS) (by rfl)) (s_one (s_ret p_bl)) s_nil))) (s_one (s_ret p_bl))))
abbrev s_law_start : Stmt := top 5
abbrev N_law_start : List Str := ["_law_script", "_law_cell"]
theorem sc_law_start : FnScope N_law_start ["_law_script"] (defScope s_law_start) := ⟨rfl, rfl, rfl, by decide +kernel, rfl, by decide +kernel, by decide +kernel⟩
theorem d_law_start (T : Tx K mg) (Fn : Fns (cxOf (CX P w) P w K mg base N_law_start "_law_start" (defScope s_law_start) f cdv A outer s H E) K c) (hr : Room k (A.deeper (PyProof.Rows.envOfC "_law_start" (defScope s_law_start) s.heap.objs.size f cdv)))  :
    PSs (cxOf (CX P w) P w K mg base N_law_start "_law_start" (defScope s_law_start) f cdv A outer s H E) (defBody s_law_start) (rdS K c (fun cls d _ H' => E cls d H') b_law_start) :=
  have nd := sc_law_start.nd
  have tk : Takes (cxOf (CX P w) P w K mg base N_law_start "_law_start" (defScope s_law_start) f cdv A outer s H E) (fun cls d _ H' => E cls d H') := takes_of rfl rfl rfl rfl
  (s_one (s_ret (p_list (a_cons (p_lc (own := [("_law_cell", 1)]) rfl nd (i_seq (p_var 0)) (by show blkC N_law_start (defScope s_law_start) _ _ = true; decide +kernel) (fun _ _ _ _ _ => (g_nm (i := 1) nd)) (fun _ _ _ _ _ => ts_nil) (fun _ _ _ _ _ => (p_callTy call_int1 b_int rfl T.n_int (by decide +kernel) (a_cons (p_var 1) a_nil)))) (a_cons p_int (a_cons p_int (a_cons p_int (a_cons p_int a_nil))))))))
abbrev s_law_draw : Stmt := top 6
abbrev N_law_draw : List Str := ["_law_state", "_law_limit", "_law_cell", "_law_number", "_law_mixed"]
theorem sc_law_draw : FnScope N_law_draw ["_law_state", "_law_limit"] (defScope s_law_draw) := ⟨rfl, rfl, rfl, by decide +kernel, rfl, by decide +kernel, by decide +kernel⟩
theorem d_law_draw (T : Tx K mg) (Fn : Fns (cxOf (CX P w) P w K mg base N_law_draw "_law_draw" (defScope s_law_draw) f cdv A outer s H E) K c) (hr : Room k (A.deeper (PyProof.Rows.envOfC "_law_draw" (defScope s_law_draw) s.heap.objs.size f cdv)))  :
    PSs (cxOf (CX P w) P w K mg base N_law_draw "_law_draw" (defScope s_law_draw) f cdv A outer s H E) (defBody s_law_draw) (rdS K c (fun cls d _ H' => E cls d H') b_law_draw) :=
  have nd := sc_law_draw.nd
  have tk : Takes (cxOf (CX P w) P w K mg base N_law_draw "_law_draw" (defScope s_law_draw) f cdv A outer s H E) (fun cls d _ H' => E cls d H') := takes_of rfl rfl rfl rfl
  (s_cons (s_if (t_cmp o_lt b_lt (p_var 1) p_int (nomark _)) (s_one (s_ret p_int)) s_nil) (s_cons (s_if (t_cmp (o_eq hr.units) b_eq (p_ix (ix_all (hu1 hr)) b_ix (p_var 0) p_int (fun _ _ => rfl)) p_int (nomark _)) (s_cons (s_if (t_cmp o_ge b_ge (p_ix (ix_all (hu1 hr)) b_ix (p_var 0) p_int (fun _ _ => rfl)) (p_callB c_len b_len rfl T.n_len boot_len (a_cons (p_ix (ix_all (hu1 hr)) b_ix (p_var 0) p_int (fun _ _ => rfl)) a_nil)) (nomark _)) (s_one (s_ret p_int)) s_nil) (s_cons (s_set (i := 2) nd (p_callTy call_int1 b_int rfl T.n_int (by decide +kernel) (a_cons (p_ix (ix_all (hu1 hr)) b_ix (p_ix (ix_all (hu1 hr)) b_ix (p_var 0) p_int (fun _ _ => rfl)) (p_ix (ix_all (hu1 hr)) b_ix (p_var 0) p_int (fun _ _ => rfl)) (fun _ _ => rfl)) a_nil))) (s_cons (s_if (t_cmp o_lt b_lt (p_var 2) p_int (nomark _)) (s_one (s_set (i := 2) nd (p_bin op_sub b_sub p_int (p_var 2)))) s_nil) (s_cons (s_put (i := 0) (hu1 hr) (p_bin o_add b_add (p_ix (ix_all (hu1 hr)) b_ix (p_var 0) p_int (fun _ _ => rfl)) p_int) p_int) (s_cons (s_put (i := 0) (hu1 hr) (p_var 2) p_int) (s_cons (s_put (i := 0) (hu1 hr) p_int p_int) (s_cons (s_put (i := 0) (hu1 hr) p_int p_int) (s_one (s_if (t_cmp o_ge b_ge (p_var 2) (p_bin op_pow b_pow p_int p_int) (nomark _)) (s_cons (s_put (i := 0) (hu1 hr) p_int p_int) (s_one (s_put (i := 0) (hu1 hr) p_int p_int))) s_nil))))))))) s_nil) (s_cons (s_put (i := 0) (hu1 hr) (p_bin op_sub b_sub (p_ix (ix_all (hu1 hr)) b_ix (p_var 0) p_int (fun _ _ => rfl)) p_int) p_int) (s_cons (s_if (t_cmp (o_eq hr.units) b_eq (p_ix (ix_all (hu1 hr)) b_ix (p_var 0) p_int (fun _ _ => rfl)) p_int (nomark _)) (s_cons (s_set (i := 3) nd (p_bin op_mod b_mod (p_callTy call_int1 b_int rfl T.n_int (by decide +kernel) (a_cons (p_ix (ix_all (hu1 hr)) b_ix (p_var 0) p_int (fun _ _ => rfl)) a_nil)) (p_var 1))) (s_cons (s_put (i := 0) (hu1 hr) (p_bin op_fdiv b_fdiv (p_callTy call_int1 b_int rfl T.n_int (by decide +kernel) (a_cons (p_ix (ix_all (hu1 hr)) b_ix (p_var 0) p_int (fun _ _ => rfl)) a_nil)) (p_var 1)) p_int) (s_cons (s_if (t_cmp (o_eq hr.units) b_eq (p_ix (ix_all (hu1 hr)) b_ix (p_var 0) p_int (fun _ _ => rfl)) p_int (nomark _)) (s_one (s_put (i := 0) (hu1 hr) p_int p_int)) s_nil) (s_one (s_ret (p_var 3)))))) s_nil) (s_cons (s_set (i := 4) nd (p_bin op_mod b_mod (p_callTy call_int1 b_int rfl T.n_int (by decide +kernel) (a_cons (p_bin o_add b_add (p_bin o_add b_add (p_bin op_mul b_mul (p_ix (ix_all (hu1 hr)) b_ix (p_var 0) p_int (fun _ _ => rfl)) p_int) (p_bin op_mul b_mul (p_ix (ix_all (hu1 hr)) b_ix (p_var 0) p_int (fun _ _ => rfl)) p_int)) p_int) a_nil)) p_int)) (s_one (s_ret (p_bin op_mod b_mod (p_callTy call_int1 b_int rfl T.n_int (by decide +kernel) (a_cons (p_bin op_mod b_mod (p_callTy call_int1 b_int rfl T.n_int (by decide +kernel) (a_cons (p_bin o_add b_add (p_bin o_add b_add (p_bin op_mul b_mul (p_var 4) p_int) (p_bin op_mul b_mul (p_ix (ix_all (hu1 hr)) b_ix (p_var 0) p_int (fun _ _ => rfl)) p_int)) p_int) a_nil)) p_int) a_nil)) (p_var 1)))))))))
abbrev s_law_due : Stmt := top 7
abbrev N_law_due : List Str := ["_law_text", "_law_signs", "_law_sign"]
theorem sc_law_due : FnScope N_law_due ["_law_text"] (defScope s_law_due) := ⟨rfl, rfl, rfl, by decide +kernel, rfl, by decide +kernel, by decide +kernel⟩
theorem d_law_due (T : Tx K mg) (Fn : Fns (cxOf (CX P w) P w K mg base N_law_due "_law_due" (defScope s_law_due) f cdv A outer s H E) K c) (hr : Room k (A.deeper (PyProof.Rows.envOfC "_law_due" (defScope s_law_due) s.heap.objs.size f cdv)))  :
    PSs (cxOf (CX P w) P w K mg base N_law_due "_law_due" (defScope s_law_due) f cdv A outer s H E) (defBody s_law_due) (rdS K c (fun cls d _ H' => E cls d H') b_law_due) :=
  have nd := sc_law_due.nd
  have tk : Takes (cxOf (CX P w) P w K mg base N_law_due "_law_due" (defScope s_law_due) f cdv A outer s H E) (fun cls d _ H' => E cls d H') := takes_of rfl rfl rfl rfl
  (s_cons (s_set (i := 1) nd p_str) (s_cons (s_if (PW.pt (t_or (t_cmp o_lt b_lt (p_callB c_len b_len rfl T.n_len boot_len (a_cons (p_var 0) a_nil)) p_int (nomark _)) (t_or1 (t_cmp o_gt b_gt (p_callB c_len b_len rfl T.n_len boot_len (a_cons (p_var 0) a_nil)) p_int (nomark _))))) (s_one (s_ret p_bl)) s_nil) (s_one (s_ret (p_cmp (o_eq hr.units) b_eq (p_callB c_len b_len rfl T.n_len boot_len (a_cons (p_lc (own := [("_law_sign", 2)]) rfl nd (i_seq (p_var 0)) (by show blkC N_law_due (defScope s_law_due) _ _ = true; decide +kernel) (fun _ _ _ _ _ => (g_nm (i := 2) nd)) (fun _ _ _ _ _ => (ts_one (t_cmp (o_nin (hu65 hr)) b_nin (p_var 2) (p_var 1) (by rfl)))) (fun _ _ _ _ _ => (p_var 2))) a_nil)) p_int (nomark _))))))
abbrev s_law_right : Stmt := top 8
abbrev N_law_right : List Str := ["_law_text", "_law_told"]
theorem sc_law_right : FnScope N_law_right ["_law_text"] (defScope s_law_right) := ⟨rfl, rfl, rfl, by decide +kernel, rfl, by decide +kernel, by decide +kernel⟩
theorem d_law_right (T : Tx K mg) (Fn : Fns (cxOf (CX P w) P w K mg base N_law_right "_law_right" (defScope s_law_right) f cdv A outer s H E) K c) (hr : Room k (A.deeper (PyProof.Rows.envOfC "_law_right" (defScope s_law_right) s.heap.objs.size f cdv))) (h_is_word : (c ("is_word", none)).isSome = true) (h_law_due : (c ("_law_due", none)).isSome = true) :
    PSs (cxOf (CX P w) P w K mg base N_law_right "_law_right" (defScope s_law_right) f cdv A outer s H E) (defBody s_law_right) (rdS K c (fun cls d _ H' => E cls d H') b_law_right) :=
  have nd := sc_law_right.nd
  have tk : Takes (cxOf (CX P w) P w K mg base N_law_right "_law_right" (defScope s_law_right) f cdv A outer s H E) (fun cls d _ H' => E cls d H') := takes_of rfl rfl rfl rfl
  (s_cons (s_set (i := 1) nd (p_call Fn h_is_word T.g_is_word T.k_is_word tk (a_cons (p_var 0) a_nil))) (s_one (s_ret (p_and (p_isB (n := "bool") T.n_isinstance (p_var 1) T.n_bool) (p_one (p_cmp (o_eq hr.units) b_eq (p_var 1) (p_call Fn h_law_due T.g__law_due T.k__law_due tk (a_cons (p_var 0) a_nil)) (nomark _)))))))
abbrev s_law : Stmt := top 9
abbrev N_law : List Str := ["_law_script", "_law_state", "_law_signs", "_law_others", "_law_size", "_law_place", "_law_other", "_law_count", "_law_text", "_law_free", "_law_k", "_law_sign"]
theorem sc_law : FnScope N_law ["_law_script"] (defScope s_law) := ⟨rfl, rfl, rfl, by decide +kernel, rfl, by decide +kernel, by decide +kernel⟩
theorem d_law (T : Tx K mg) (Fn : Fns (cxOf (CX P w) P w K mg base N_law "law" (defScope s_law) f cdv A outer s H E) K c) (hr : Room k (A.deeper (PyProof.Rows.envOfC "law" (defScope s_law) s.heap.objs.size f cdv))) (h_law_start : (c ("_law_start", none)).isSome = true) (h_law_draw : (c ("_law_draw", none)).isSome = true) (h_law_right : (c ("_law_right", none)).isSome = true) :
    PSs (cxOf (CX P w) P w K mg base N_law "law" (defScope s_law) f cdv A outer s H E) (defBody s_law) (rdS K c (fun cls d _ H' => E cls d H') b_law) :=
  have nd := sc_law.nd
  have tk : Takes (cxOf (CX P w) P w K mg base N_law "law" (defScope s_law) f cdv A outer s H E) (fun cls d _ H' => E cls d H') := takes_of rfl rfl rfl rfl
  (s_cons (s_set (i := 1) nd (p_call Fn h_law_start T.g__law_start T.k__law_start tk (a_cons (p_var 0) a_nil))) (s_cons (s_set (i := 2) nd p_str) (s_cons (s_set (i := 3) nd p_str) (s_cons (s_set (i := 4) nd (p_bin o_add b_add p_int (p_callBo Fn h_law_draw T.g__law_draw T.k__law_draw tk (a_cons (p_var 1) (a_cons p_int a_nil))))) (s_cons (s_set (i := 5) nd (p_callBo Fn h_law_draw T.g__law_draw T.k__law_draw tk (a_cons (p_var 1) (a_cons (p_var 4) a_nil)))) (s_cons (s_set (i := 6) nd (p_ix (ix_all (hu1 hr)) b_ix (p_var 3) (p_callBo Fn h_law_draw T.g__law_draw T.k__law_draw tk (a_cons (p_var 1) (a_cons p_int a_nil))) (fun _ _ => rfl))) (s_cons (s_set (i := 7) nd (p_callBo Fn h_law_draw T.g__law_draw T.k__law_draw tk (a_cons (p_var 1) (a_cons p_int a_nil)))) (s_cons (s_set (i := 8) nd (p_join p_str (p_lc (own := [("_law_k", 10)]) rfl nd (i_range1 rfl T.n_range (a_cons p_int a_nil)) (by show blkC N_law (defScope s_law) _ _ = true; decide +kernel) (fun _ _ _ _ _ => (g_nm (i := 10) nd)) (fun _ _ _ _ _ => ts_nil) (fun _ _ _ _ _ => (p_ix (ix_all (hu1 hr)) b_ix (p_var 2) (p_callBo (Fn.blk _ _ _ _ _) h_law_draw T.g__law_draw T.k__law_draw takes0 (a_cons (p_var 1) (a_cons p_int a_nil))) (fun _ _ => rfl)))))) (s_cons (s_set (i := 9) nd (p_join p_str (p_lc (own := [("_law_k", 10)]) rfl nd (i_range1 rfl T.n_range (a_cons (p_var 7) a_nil)) (by show blkC N_law (defScope s_law) _ _ = true; decide +kernel) (fun _ _ _ _ _ => (g_nm (i := 10) nd)) (fun _ _ _ _ _ => ts_nil) (fun _ _ _ _ _ => (p_ix (ix_all (hu1 hr)) b_ix (p_bin o_add b_add (p_var 2) (p_var 3)) (p_callBo (Fn.blk _ _ _ _ _) h_law_draw T.g__law_draw T.k__law_draw takes0 (a_cons (p_var 1) (a_cons p_int a_nil))) (fun _ _ => rfl)))))) (s_cons (s_for (passes_of rfl) rfl (i_range1 rfl T.n_range (a_cons p_int a_nil)) (g_nm (i := 10) nd) (s_one (s_if (t_not (t_val (p_call Fn h_law_right T.g__law_right T.k__law_right tk (a_cons (p_slice sl_all b_sl (p_var 8) .nil (.one (p_var 10))) a_nil)))) (s_one (s_ret p_bl)) s_nil))) (s_cons (s_for (passes_of rfl) rfl (i_seq (p_var 3)) (g_nm (i := 11) nd) (s_one (s_if (t_not (t_val (p_call Fn h_law_right T.g__law_right T.k__law_right tk (a_cons (p_bin o_add b_add (p_bin o_add b_add (p_slice sl_all b_sl (p_var 8) .nil (.one (p_var 5))) (p_var 11)) (p_slice sl_all b_sl (p_var 8) (.one (p_bin o_add b_add (p_var 5) p_int)) (.one (p_var 4)))) a_nil)))) (s_one (s_ret p_bl)) s_nil))) (s_cons (s_for (passes_of rfl) rfl (i_range1 rfl T.n_range (a_cons p_int a_nil)) (g_nm (i := 10) nd) (s_one (s_if (t_not (t_val (p_call Fn h_law_right T.g__law_right T.k__law_right tk (a_cons (p_bin o_add b_add (p_bin o_add b_add (p_slice sl_all b_sl (p_var 8) .nil (.one (p_var 10))) (p_var 6)) (p_slice sl_all b_sl (p_var 8) (.one (p_bin o_add b_add (p_var 10) p_int)) (.one p_int))) a_nil)))) (s_one (s_ret p_bl)) s_nil))) (s_one (s_ret (p_and (p_call Fn h_law_right T.g__law_right T.k__law_right tk (a_cons (p_var 9) a_nil)) (p_one (p_call Fn h_law_right T.g__law_right T.k__law_right tk (a_cons (p_slice sl_all b_sl (p_var 8) .nil (.one (p_var 4))) a_nil))))))))))))))))))
end
noncomputable def c_0 : CT := CT.nil
noncomputable def c_1 : CT := c_0.add ("is_word", none) (runDef 2 1 b_is_word c_0)
noncomputable def c_2 : CT := c_1.add ("_law_start", none) (runDef 2 1 b_law_start c_1)
noncomputable def c_3 : CT := c_2.add ("_law_draw", none) (runDef 5 2 b_law_draw c_2)
noncomputable def c_4 : CT := c_3.add ("_law_due", none) (runDef 3 1 b_law_due c_3)
noncomputable def c_5 : CT := c_4.add ("_law_right", none) (runDef 2 1 b_law_right c_4)
noncomputable def c_6 : CT := c_5.add ("law", none) (runDef 12 1 b_law c_5)
def fa : List He.Fa := [.free "bool", .free "int", .free "isinstance", .free "len", .free "range", .glo "_law_draw", .glo "_law_due", .glo "_law_right", .glo "_law_start", .glo "is_word", .keep "_law_draw", .keep "_law_due", .keep "_law_right", .keep "_law_start", .keep "is_word", .int "MAX_WORD" (20), .str "WORD_CHARACTERS" "ABCDEFGHIJKLMNOPQRSTUVWXYZabcdefghijklmnopqrstuvwxyz0123456789_", .glo "law"]
def dd_is_word : He.DefD := ⟨("is_word", none), "is_word", "is_word", defArgs s_is_word, defBody s_is_word, defScope s_is_word, [], []⟩
def dd_law_start : He.DefD := ⟨("_law_start", none), "_law_start", "_law_start", defArgs s_law_start, defBody s_law_start, defScope s_law_start, [], []⟩
def dd_law_draw : He.DefD := ⟨("_law_draw", none), "_law_draw", "_law_draw", defArgs s_law_draw, defBody s_law_draw, defScope s_law_draw, [], []⟩
def dd_law_due : He.DefD := ⟨("_law_due", none), "_law_due", "_law_due", defArgs s_law_due, defBody s_law_due, defScope s_law_due, [], []⟩
def dd_law_right : He.DefD := ⟨("_law_right", none), "_law_right", "_law_right", defArgs s_law_right, defBody s_law_right, defScope s_law_right, [], []⟩
def dd_law : He.DefD := ⟨("law", none), "law", "law", defArgs s_law, defBody s_law, defScope s_law, [], []⟩
def fn : List He.DefD := [dd_is_word, dd_law_start, dd_law_draw, dd_law_due, dd_law_right, dd_law]
theorem facts {P : Program} {w : World} {K : PySem.W.Frag} {h : Heap} {mg : Str → Option Value} (X : K.In h) (G : h.Ns mainGlobals mg) (cc : He.SaysD fa fn K) : Tx K mg := ⟨He.free_ok X G (cc.fact 0 (f := .free "bool") rfl), He.free_ok X G (cc.fact 1 (f := .free "int") rfl), He.free_ok X G (cc.fact 2 (f := .free "isinstance") rfl), He.free_ok X G (cc.fact 3 (f := .free "len") rfl), He.free_ok X G (cc.fact 4 (f := .free "range") rfl), He.glo_ok X G (cc.fact 5 (f := .glo "_law_draw") rfl), cc.fact 10 (f := .keep "_law_draw") rfl, He.glo_ok X G (cc.fact 6 (f := .glo "_law_due") rfl), cc.fact 11 (f := .keep "_law_due") rfl, He.glo_ok X G (cc.fact 7 (f := .glo "_law_right") rfl), cc.fact 12 (f := .keep "_law_right") rfl, He.glo_ok X G (cc.fact 8 (f := .glo "_law_start") rfl), cc.fact 13 (f := .keep "_law_start") rfl, He.glo_ok X G (cc.fact 9 (f := .glo "is_word") rfl), cc.fact 14 (f := .keep "is_word") rfl, He.int_ok X G (cc.fact 15 (f := .int "MAX_WORD" (20)) rfl), He.str_ok X G (cc.fact 16 (f := .str "WORD_CHARACTERS" "ABCDEFGHIJKLMNOPQRSTUVWXYZabcdefghijklmnopqrstuvwxyz0123456789_") rfl)⟩
theorem tower {P : Program} {w : World} {K : PySem.W.Frag} {h : Heap} {mg : Str → Option Value} {base : Heap} (X : K.In h) (G : h.Ns mainGlobals mg) (cc : He.SaysD fa fn K) : Tower P w K mg base 5 c_5 := by
  have T := facts (P := P) (w := w) X G cc
  have t0 : Tower P w K mg base 0 c_0 := Tower.nil
  obtain ⟨fd0, F0⟩ := cc.def_ 0 (d := dd_is_word) rfl
  have t1 : Tower P w K mg base 1 c_1 := t0.add (fn_ok F0 sc_is_word fun cdv A outer s H E hr => d_is_word T (t0.fns (hr := hr)) hr ) (F0.bindsN fun _ _ _ _ _ _ us hl => match us, hl with | [_], _ => rfl)
  obtain ⟨fd1, F1⟩ := cc.def_ 1 (d := dd_law_start) rfl
  have t2 : Tower P w K mg base 2 c_2 := t1.add (fn_ok F1 sc_law_start fun cdv A outer s H E hr => d_law_start T (t1.fns (hr := hr)) hr ) (F1.bindsN fun _ _ _ _ _ _ us hl => match us, hl with | [_], _ => rfl)
  obtain ⟨fd2, F2⟩ := cc.def_ 2 (d := dd_law_draw) rfl
  have t3 : Tower P w K mg base 3 c_3 := t2.add (fn_ok F2 sc_law_draw fun cdv A outer s H E hr => d_law_draw T (t2.fns (hr := hr)) hr ) (F2.bindsN fun _ _ _ _ _ _ us hl => match us, hl with | [_, _], _ => rfl)
  obtain ⟨fd3, F3⟩ := cc.def_ 3 (d := dd_law_due) rfl
  have t4 : Tower P w K mg base 4 c_4 := t3.add (fn_ok F3 sc_law_due fun cdv A outer s H E hr => d_law_due T (t3.fns (hr := hr)) hr ) (F3.bindsN fun _ _ _ _ _ _ us hl => match us, hl with | [_], _ => rfl)
  obtain ⟨fd4, F4⟩ := cc.def_ 4 (d := dd_law_right) rfl
  have t5 : Tower P w K mg base 5 c_5 := t4.add (fn_ok F4 sc_law_right fun cdv A outer s H E hr => d_law_right T (t4.fns (hr := hr)) hr rfl rfl) (F4.bindsN fun _ _ _ _ _ _ us hl => match us, hl with | [_], _ => rfl)
  exact t5
abbrev RR : PySem.W.OpenRow := PySem.W.OpenLaw.row PySem.Challenge.rw_pinnedasks_k00_is_word
abbrev hk : PySem.W.Hook := He.hookD 6 fa fn
def ob (s : PySem.W.SharedT) : He.AlD := He.obsDG 6 fa fn (HandSHeadRun.getT s)
theorem ob_eq (s : PySem.W.SharedT) : ob s = hk.obs s.abs := He.obsDG_eq (HandSHeadRun.getT_eq s)
theorem run (w : World) : HandSHeadRun.RunEq RR (PySem.W.view RR.prog [9]) hk ob 4000 ["__name__", "WORD_CHARACTERS", "MAX_WORD", "is_word", "_law_start", "_law_draw", "_law_due", "_law_right"] w := by
  intro os
  kernel_rfl
end Pd.L
open PySem PySem.W PySem.Calls PyProof.Rows
theorem Pd.L.holds_of (hl : ∀ ns : List Int, ns.length ≤ 63 → Pd.runDef 12 1 Pd.L.b_law Pd.L.c_5 [.sh (.scr ns)] = some (.ret (.sh (.bl true)) [none])) : PySem.Challenge.rw_pinnedasks_k00_is_word.Holds := by
  w_on; o_law
  refine HandSHeadRun.head_any (r := OpenLaw.row PySem.Challenge.rw_pinnedasks_k00_is_word) (q := view (OpenLaw.row PySem.Challenge.rw_pinnedasks_k00_is_word).prog [9]) (H := Pd.L.hk) (ob := Pd.L.ob) (M := 4000) (loose := ["__name__", "WORD_CHARACTERS", "MAX_WORD", "is_word", "_law_start", "_law_draw", "_law_due", "_law_right"]) (d := HandSHeadRun.topDef (OpenLaw.row PySem.Challenge.rw_pinnedasks_k00_is_word).prog 9) (kwd := []) Pd.L.ob_eq
    (by kernel_rfl) (fun s => by kernel_rfl) Pd.L.run (by kernel_rfl) (by kernel_rfl) (by kernel_rfl) (by rfl) (by first | assumption | decide +kernel) (by decide +kernel) ⟨rfl, rfl, rfl, rfl, rfl, by decide +kernel⟩ ?hw ?hc
  case hw => w_witness2
  case hc =>
    refine L2.walk_ofE (l := PySem.Challenge.rw_pinnedasks_k00_is_word) (n := 63) (k := 6) (x := "_law_script") (CX := L2.CX0) rfl (by decide) (by kernel_rfl) ⟨rfl, by decide, by decide⟩ ?F (fun _ _ _ _ z => z)
    intro w mg fa h Y G hmg0
    obtain ⟨K, KX, cc⟩ := Y
    have hmg : mg ("law" : PySem.Str) = some (.ref fa) := by
      have e : (HandSHeadRun.topDef (OpenLaw.row PySem.Challenge.rw_pinnedasks_k00_is_word).prog 9).name = ("law" : PySem.Str) := by kernel_rfl
      rw [← e]
      exact hmg0
    obtain ⟨fd, F⟩ := cc.def_ 5 (d := Pd.L.dd_law) rfl
    have e := hmg.symm.trans (He.glo_ok KX G (cc.fact 17 (f := .glo "law") rfl))
    cases e
    have b := L2.FunD.bindsA (ps := ["_law_script"]) F fun _ _ _ _ _ _ us hl => match us, hl with | [_], _ => rfl
    refine ⟨K, fd, fun vs H Q _ => Pd.spOf K (Pd.runDef 12 1 Pd.L.b_law Pd.L.c_5) vs H Q fun _ _ _ => False, KX, fun s u => b s [u] rfl, fun H a ns hlen _ hS => Pd.law_sp (hl ns hlen) H a hS, fun base KB GB => ?_⟩
    have T := Pd.L.facts (P := (PySem.Challenge.rw_pinnedasks_k00_is_word).prog) (w := w) KX G cc
    have t := Pd.L.tower (P := (PySem.Challenge.rw_pinnedasks_k00_is_word).prog) (w := w) (base := base) KX G cc
    exact Pd.cx0 (Pd.fn_ok F Pd.L.sc_law fun cdv A outer s H E hr => Pd.L.d_law T (t.fns (hr := hr)) hr rfl rfl rfl)
theorem Pd.L.law_run (ns : List Int) (hns : ns.length ≤ 63) : Pd.runDef 12 1 Pd.L.b_law Pd.L.c_5 [.sh (.scr ns)] = some (.ret (.sh (.bl true)) [none]) :=
  Pd.L.law_ok Pd.L.c_5 ⟨_, rfl, Pd.L.start_ok Pd.L.c_1⟩ ⟨_, rfl, Pd.L.draw_ok Pd.L.c_2⟩ ⟨_, rfl, Pd.L.right_ok Pd.L.c_4 ⟨_, rfl, Pd.L.word_ok Pd.L.c_0⟩ ⟨_, rfl, Pd.L.due_ok Pd.L.c_3⟩⟩ ns hns
theorem PySem.Challenge.cw_pinnedasks_k00_is_word_holds : PySem.Challenge.rw_pinnedasks_k00_is_word.Holds := by
  exact Pd.L.holds_of Pd.L.law_run
