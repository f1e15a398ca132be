import PyProof.Rows.All
import Wide.All
import OpenK.AllK
import Wide.FinOn
import HandS.ForMost
import HandS.Exc
import HandS.TryOnly
import HandS.WordsExc
import HandS.HeadHook1
import HandS.HeadHook2
import HandS.HeadEnd
import HandS.Head2
import HandS.IsInst
import HandS.ToBytes
import HandS.Deep
import PySem.Challenge.RW_pinnedasks_k02_schema_refusals
import HandS.ExcOwn
import HandS.ExcCtx
import HandS.TupAny
import HandS.HeadHook4
import HandS.Property
import HandS.ClsMeth
import HandS.TupLe
import KE.LtSeq
import HandS.IterVal
import HandS.Style
import HandS.Iter
import HandS.More
import KE.GoesEnum
import HandS.DictComp
import HandS.RevRange
import HandS.Conv
import HandS.TupLen
import HandS.ExcInit
import HandS.ExcField
import HandS.ExcIs
import KE.KExcIs
import HandS.TryMany
import HandS.HotCalls
import HandS.TupMul
import KE.KDictDisplayH
import HandS.FStr
import OpenK.KMeth
import HandS.Star
import KE.KOpsOwn
import HandS.Flow
import HandS.Keys
import KE.KCallOwn
import PyProof.Rows.StrMul
import KE.KIntText
set_option Elab.async false
set_option linter.all false
set_option maxRecDepth 100000
set_option maxHeartbeats 4000000
/-! Pd1: plain data, what stands for it on the heap, environments, readings -/
namespace Pd
open PySem PySem.Spec L2

/-! ### exceptions fly with no context -/
abbrev CX := @L2N.CX
abbrev Takes := @L2N.Takes
theorem passAt {X : Cx} {W : WX} (tk : Takes X W) (σ : L2.St) : PassesAt (CX X.prog X.w) X σ (WE W σ) := L2N.passAt tk σ
/-! ### data -/
inductive D where
  | non | bl (b : Bool) | int (i : Int) | str (s : Str)
  | lst (xs : List D) | tup (xs : List D)
  | dk (kvs : List (Key × D)) | dt (kvs : List (List Key × D))
  | ins (c : Str) (fs : List (Str × D))
  | scr (ns : List Int)
  /-- the empty tuple of a def's defaults -/
  | nil0
  /-- a dict that is never written (of f(**d)) -/
  | kd (kvs : List (Key × D))

/-- a mutable object with one owner -/
inductive Cell where
  | lst (xs : List D) | dk (kvs : List (Key × D)) | dt (kvs : List (List Key × D)) | ins (c : Str) (fs : List (Str × D))
  /-- an object that has, behind its other fields, a list of its own -/
  | deep (c : Str) (fs : List (Str × D)) (f : Str) (xs : List D)
def Cell.flat : Cell → Bool
  | .deep _ _ _ _ => false
  | _ => true
def Cell.d : Cell → D
  | .deep c fs f xs => .ins c (fs ++ [(f, .lst xs)])
  | .lst xs => .lst xs
  | .dk kvs => .dk kvs
  | .dt kvs => .dt kvs
  | .ins c fs => .ins c fs

/-- how it looks (an object with a list of its own cannot be looked at) -/
def Cell.pk : Cell → Option D
  | .lst xs => some (.lst xs)
  | .dk kvs => some (.dk kvs)
  | .dt kvs => some (.dt kvs)
  | .ins c fs => some (.ins c fs)
  | .deep _ _ _ _ => none
theorem Rd.mono {H H' : Hp} (s : Same H H') {a : Addr} {u : HO} (r : Rd H a u) : Rd H' a u := by
  rcases r with r | ⟨o, r⟩
  · exact .inl (s _ _ r)
  · exact .inr ⟨o, s _ _ r⟩

section
variable (ca : PySem.W.Frag)
inductive Rep (H : Hp) : V → D → Prop
  | non : Rep H .non .non
  | bl (b : Bool) : Rep H (.bl b) (.bl b)
  | int (i : Int) : Rep H (.int i) (.int i)
  | str (s : Str) : Rep H (.str s) (.str s)
  | lst {a : Addr} {vs : List V} {ds : List D} (r : H a = some (.lst vs)) (l : vs.length = ds.length) (e : ∀ (i : Nat) v d, vs[i]? = some v → ds[i]? = some d → Rep H v d) : Rep H (.ref a) (.lst ds)
  | tup {a : Addr} {vs : List V} {ds : List D} (r : H a = some (.tup vs)) (l : vs.length = ds.length) (e : ∀ (i : Nat) v d, vs[i]? = some v → ds[i]? = some d → Rep H v d) : Rep H (.ref a) (.tup ds)
  | dk {a : Addr} {vs : List (Key × V)} {ds : List (Key × D)} (r : Rd H a (.dK vs)) (l : vs.map (·.1) = ds.map (·.1)) (e : ∀ (i : Nat) (v : Key × V) (d : Key × D), vs[i]? = some v → ds[i]? = some d → Rep H v.2 d.2) : Rep H (.ref a) (.dk ds)
  | dt {a : Addr} {vs : List (List Key × V)} {ds : List (List Key × D)} (r : Rd H a (.dT vs)) (l : vs.map (·.1) = ds.map (·.1)) (e : ∀ (i : Nat) (v : List Key × V) (d : List Key × D), vs[i]? = some v → ds[i]? = some d → Rep H v.2 d.2) : Rep H (.ref a) (.dt ds)
  | ins {a : Addr} {c : Str} {dx : Addr} {vs : List (Str × V)} {ds : List (Str × D)} (r : H a = some (.ins (He.ga ca c) dx vs)) (l : vs.map (·.1) = ds.map (·.1)) (e : ∀ (i : Nat) (v : Str × V) (d : Str × D), vs[i]? = some v → ds[i]? = some d → Rep H v.2 d.2) : Rep H (.ref a) (.ins c ds)
  | scr {a : Addr} {ns : List Int} (r : SqL ca H a (ns.map V.int)) : Rep H (.ref a) (.scr ns)
  | nil0 {a : Addr} (r : SqT ca H a []) : Rep H (.ref a) .nil0
  | kd {a : Addr} {o : Obj} {vs : List (Key × V)} {ds : List (Key × D)} (r : H a = some (.frz o (.dK vs))) (l : vs.map (·.1) = ds.map (·.1)) (e : ∀ (i : Nat) (v : Key × V) (d : Key × D), vs[i]? = some v → ds[i]? = some d → Rep H v.2 d.2) : Rep H (.ref a) (.kd ds)

/-- items, entries one by one -/
structure Reps (H : Hp) (vs : List V) (ds : List D) : Prop where
  len : vs.length = ds.length
  at_ : ∀ (i : Nat) v d, vs[i]? = some v → ds[i]? = some d → Rep ca H v d
structure RepK {κ : Type} (H : Hp) (vs : List (κ × V)) (ds : List (κ × D)) : Prop where
  keys : vs.map (·.1) = ds.map (·.1)
  at_ : ∀ (i : Nat) (v : κ × V) (d : κ × D), vs[i]? = some v → ds[i]? = some d → Rep ca H v.2 d.2
end

section
variable {ca : PySem.W.Frag} {H H' : Hp} {v : V} {d : D}
theorem seqT_mono {K : PySem.W.Frag} {H H' : Hp} {a : Addr} {xs : List V} (e : Same H H') (h : SqT K H a xs) : SqT K H' a xs := h.imp (Rd.mono e) id
theorem Rep.mono (s : Same H H') (r : Rep ca H v d) : Rep ca H' v d := by
  induction r with
  | non => exact .non
  | bl b => exact .bl b
  | int b => exact .int b
  | str b => exact .str b
  | lst r l e ih => exact .lst (s _ _ r) l ih
  | tup r l e ih => exact .tup (s _ _ r) l ih
  | dk r l e ih => exact .dk (Rd.mono s r) l ih
  | dt r l e ih => exact .dt (Rd.mono s r) l ih
  | ins r l e ih => exact .ins (s _ _ r) l ih
  | scr r => exact .scr (s.seq r)
  | nil0 r => exact .nil0 (seqT_mono s r)
  | kd r l e ih => exact .kd (s _ _ r) l ih
theorem Reps.mono {vs : List V} {ds : List D} (s : Same H H') (r : Reps ca H vs ds) : Reps ca H' vs ds := ⟨r.len, fun i v d h1 h2 => (r.at_ i v d h1 h2).mono s⟩
theorem RepK.mono {κ : Type} {vs : List (κ × V)} {ds : List (κ × D)} (s : Same H H') (r : RepK ca H vs ds) : RepK ca H' vs ds := ⟨r.keys, fun i v d h1 h2 => (r.at_ i v d h1 h2).mono s⟩
theorem Reps.nil : Reps ca H [] [] := ⟨rfl, fun _ _ _ h => by simp at h⟩
theorem Reps.cons {vs : List V} {ds : List D} (r : Rep ca H v d) (t : Reps ca H vs ds) : Reps ca H (v :: vs) (d :: ds) := by
  refine ⟨by simp [t.len], fun i u e h1 h2 => ?_⟩
  cases i with
  | zero => simp at h1 h2; subst h1; subst h2; exact r
  | succ n => exact t.at_ n u e (by simpa using h1) (by simpa using h2)
theorem Reps.append {vs ws : List V} {ds es : List D} (r : Reps ca H vs ds) (t : Reps ca H ws es) : Reps ca H (vs ++ ws) (ds ++ es) := by
  have hl := r.len
  refine ⟨by simp [hl, t.len], fun i u e h1 h2 => ?_⟩
  by_cases hi : i < vs.length
  · rw [List.getElem?_append_left hi] at h1
    rw [List.getElem?_append_left (by omega)] at h2
    exact r.at_ i u e h1 h2
  · rw [List.getElem?_append_right (by omega)] at h1
    rw [List.getElem?_append_right (by omega), ← hl] at h2
    exact t.at_ _ u e h1 h2
theorem Reps.one (r : Rep ca H v d) : Reps ca H [v] [d] := .cons r .nil
theorem Reps.drop {vs : List V} {ds : List D} (n : Nat) (r : Reps ca H vs ds) : Reps ca H (vs.drop n) (ds.drop n) :=
  ⟨by simp [r.len], fun i u e h1 h2 => r.at_ (n + i) u e (by simpa using h1) (by simpa using h2)⟩
theorem Reps.take {vs : List V} {ds : List D} (n : Nat) (r : Reps ca H vs ds) : Reps ca H (vs.take n) (ds.take n) := by
  refine ⟨by simp [r.len], fun i u e h1 h2 => ?_⟩
  rw [List.getElem?_take] at h1 h2
  split at h1
  · rename_i hi; rw [if_pos hi] at h2; exact r.at_ i u e h1 h2
  · cases h1
theorem Reps.get {vs : List V} {ds : List D} (r : Reps ca H vs ds) {i : Nat} (h : ds[i]? = some d) : ∃ v, vs[i]? = some v ∧ Rep ca H v d := by
  have hi : i < ds.length := (List.getElem?_eq_some_iff.mp h).1
  have hi' : i < vs.length := by rw [r.len]; exact hi
  exact ⟨vs[i], by simp [hi'], r.at_ i _ d (by simp [hi']) h⟩
theorem Reps.set {vs : List V} {ds : List D} (r : Reps ca H vs ds) (i : Nat) (q : Rep ca H v d) : Reps ca H (vs.set i v) (ds.set i d) := by
  refine ⟨by simp [r.len], fun j u e h1 h2 => ?_⟩
  by_cases hj : i = j
  · subst hj
    have hi : i < vs.length := by
      have := (List.getElem?_eq_some_iff.mp h1).1
      simpa using this
    rw [List.getElem?_set_self hi] at h1
    rw [List.getElem?_set_self (by rw [← r.len]; exact hi)] at h2
    cases h1; cases h2; exact q
  · rw [List.getElem?_set_ne hj] at h1 h2
    exact r.at_ j u e h1 h2
theorem Reps.dropLast {vs : List V} {ds : List D} (r : Reps ca H vs ds) : Reps ca H vs.dropLast ds.dropLast := by
  rw [List.dropLast_eq_take, List.dropLast_eq_take, ← r.len]
  exact r.take _
theorem Reps.ints : ∀ {vs : List V} {ns : List Int}, Reps ca H vs (ns.map D.int) → vs = ns.map V.int
  | [], [], _ => rfl
  | [], _ :: _, r => by have := r.len; simp at this
  | _ :: _, [], r => by have := r.len; simp at this
  | v :: vs, n :: ns, r => by
    have h0 := r.at_ 0 v (D.int n) (by simp) (by simp)
    cases h0
    rw [Reps.ints (vs := vs) (ns := ns) ⟨by have := r.len; simpa using this, fun i u e h1 h2 => r.at_ (i + 1) u e (by simpa using h1) (by simpa using h2)⟩]
    rfl
theorem Reps.strs : ∀ {vs : List V} {ns : List Str}, Reps ca H vs (ns.map D.str) → vs = ns.map V.str
  | [], [], _ => rfl
  | [], _ :: _, r => by have := r.len; simp at this
  | _ :: _, [], r => by have := r.len; simp at this
  | v :: vs, n :: ns, r => by
    have h0 := r.at_ 0 v (D.str n) (by simp) (by simp)
    cases h0
    rw [Reps.strs (vs := vs) (ns := ns) ⟨by have := r.len; simpa using this, fun i u e h1 h2 => r.at_ (i + 1) u e (by simpa using h1) (by simpa using h2)⟩]
    rfl
end

/-! ### environments -/
/-- an exception: its class, what it holds -/
structure Exc where
  cls : Str
  fs : List (Str × D)
inductive Slot where
  | sh (d : D) | own (c : Cell) | brw (c : Cell) | why (x : Exc)
def Slot.mut : Slot → Bool
  | .sh _ => false
  | .why _ => false
  | _ => true
def Slot.d : Slot → D
  | .sh d => d
  | .own c => c.d
  | .brw c => c.d
  | .why _ => .non
def Slot.pk : Slot → Option D
  | .sh d => some d
  | .own c => c.pk
  | .brw c => c.pk
  | .why _ => none
/-- the exception that an except suite holds: where it lies, its dict, its class -/
class Ext where
  xa : Addr
  xd : Option Addr
  xc : Value
/-- outside of such a suite -/
instance (priority := low) extNone : Ext := ⟨0, none, .none⟩
variable [Ext]
abbrev Env := List (Option Slot)
/-- a value met on the way: frozen data, what stands in a slot, a new object without an owner -/
inductive Val where
  | sh (d : D) | var (i : Nat) | fr (c : Cell)

/-- the entry: its heap, its frozen part, the borrowed objects (by slot), the objects that were one's own -/
structure Bs where
  H0 : Hp
  G0 : Hp
  B : Nat → Option Addr
  O : Addr → Prop
  S : Nat → Addr → Prop := fun _ _ => False

section
variable (ca : PySem.W.Frag)
def CellRel (G H : Hp) (a : Addr) : Cell → Prop
  | .lst ds => ∃ vs, H a = some (.lst vs) ∧ Reps ca G vs ds
  | .dk ds => ∃ vs, H a = some (.dK vs) ∧ RepK ca G vs ds
  | .dt ds => ∃ vs, H a = some (.dT vs) ∧ RepK ca G vs ds
  | .ins c ds => ∃ dx vs, H a = some (.ins (He.ga ca c) dx vs) ∧ RepK ca G vs ds
  | .deep c fs f xs => ∃ dx vs l ws, H a = some (.ins (He.ga ca c) dx (vs ++ [(f, .ref l)])) ∧ RepK ca G vs fs ∧ H l = some (.lst ws) ∧ Reps ca G ws xs
/-- the list that such an object has -/
def Sub (H : Hp) (a : Addr) : Cell → Addr → Prop
  | .deep c _ f _, x => ∃ dx vs, H a = some (.ins (He.ga ca c) dx (vs ++ [(f, .ref x)]))
  | _, _ => False
def SSub (H : Hp) (a : Addr) : Slot → Addr → Prop
  | .own c, x => Sub ca H a c x
  | .brw c, x => Sub ca H a c x
  | _, _ => False
/-- the object at a is nobody's -/
def Free (env : Env) (σ : St) (H : Hp) (a : Addr) : Prop := ∀ (j : Nat) (s : Slot), env[j]? = some (some s) → s.mut = true → σ[j]? ≠ some (some (.ref a)) ∧ ∀ p, σ[j]? = some (some (.ref p)) → ¬ SSub ca H p s a
structure Deep (b : Bs) (env : Env) (σ : St) (G H : Hp) : Prop where
  nf : ∀ (i : Nat) (s : Slot) (a x : Addr), env[i]? = some (some s) → s.mut = true → σ[i]? = some (some (.ref a)) → SSub ca H a s x → G x = none
  own : ∀ (i : Nat) (c : Cell) (a x : Addr), env[i]? = some (some (.own c)) → σ[i]? = some (some (.ref a)) → Sub ca H a c x → b.O x ∨ b.H0 x = none
  brw : ∀ (i : Nat) (c : Cell) (a x : Addr), env[i]? = some (some (.brw c)) → σ[i]? = some (some (.ref a)) → Sub ca H a c x → b.S i x ∨ b.O x ∨ b.H0 x = none
  ap : ∀ (i j : Nat) (s t : Slot) (a p x : Addr), i ≠ j → env[i]? = some (some s) → env[j]? = some (some t) → s.mut = true → t.mut = true → σ[i]? = some (some (.ref a)) → σ[j]? = some (some (.ref p)) → SSub ca H a s x → x ≠ p ∧ ¬ SSub ca H p t x
/-- v is the exception that the suite holds, and it is x -/
def WhyRel (G : Hp) (v : V) (x : Exc) : Prop := v = .ref Ext.xa ∧ Ext.xc = .ref (He.ga ca x.cls) ∧ match Ext.xd with
  | some dd => ∃ vs, G dd = some (.xd vs) ∧ RepK ca G vs x.fs
  | none => x.fs = []
def SlotRel (b : Bs) (i : Nat) (G H : Hp) (v : V) : Slot → Prop
  | .sh d => Rep ca G v d
  | .own c => ∃ a, v = .ref a ∧ CellRel ca G H a c ∧ G a = none ∧ (b.O a ∨ b.H0 a = none)
  | .brw c => ∃ a, v = .ref a ∧ CellRel ca G H a c ∧ G a = none ∧ b.B i = some a
  | .why x => WhyRel ca G v x
structure Rel (b : Bs) (env : Env) (σ : St) (G H : Hp) : Prop where
  sub : Same G H
  g0 : Same b.G0 G
  fr : ∀ a o, b.H0 a = some o → (∀ i, b.B i ≠ some a) → ¬ b.O a → (∀ i, ¬ b.S i a) → H a = some o
  dom : ∀ a, H a = none → b.H0 a = none
  new : ∀ a o, G a = some o → b.G0 a = some o ∨ b.H0 a = none ∨ b.O a
  len : env.length = σ.length
  slots : ∀ (i : Nat) (s : Slot), env[i]? = some (some s) → ∃ v, σ[i]? = some (some v) ∧ SlotRel ca b i G H v s
  apart : ∀ (i j : Nat) (s t : Slot) (a : Addr), i ≠ j → env[i]? = some (some s) → env[j]? = some (some t) → s.mut = true → t.mut = true → σ[i]? = some (some (.ref a)) → σ[j]? = some (some (.ref a)) → False
  deep : Deep ca b env σ G H
def VRel (b : Bs) (env : Env) (σ : St) (G H : Hp) (u : V) : Val → Prop
  | .sh d => Rep ca G u d
  | .var i => σ[i]? = some (some u) ∧ ∃ s, env[i]? = some (some s)
  | .fr c => ∃ a, u = .ref a ∧ CellRel ca G H a c ∧ G a = none ∧ (b.O a ∨ b.H0 a = none) ∧ Free ca env σ H a ∧ ∀ x, Sub ca H a c x → G x = none ∧ (b.O x ∨ b.H0 x = none) ∧ Free ca env σ H x
/-- what a value is when it is only looked at: its outermost object may still have an owner -/
def Peek (G H : Hp) (u : V) : D → Prop
  | .lst ds => ∃ a vs, u = .ref a ∧ H a = some (.lst vs) ∧ Reps ca G vs ds
  | .dk ds => ∃ a vs, u = .ref a ∧ Rd H a (.dK vs) ∧ RepK ca G vs ds
  | .dt ds => ∃ a vs, u = .ref a ∧ Rd H a (.dT vs) ∧ RepK ca G vs ds
  | .ins c ds => ∃ a dx vs, u = .ref a ∧ H a = some (.ins (He.ga ca c) dx vs) ∧ RepK ca G vs ds
  | .tup ds => ∃ a vs, u = .ref a ∧ G a = some (.tup vs) ∧ Reps ca G vs ds
  | d => Rep ca G u d
end

section
variable {ca : PySem.W.Frag} {b : Bs} {env : Env} {σ : St} {G G' H H' : Hp} {u v : V} {d : D} {c : Cell} {a : Addr}
theorem CellRel.mono (s : Same G G') (h : CellRel ca G H a c) : CellRel ca G' H a c := by
  cases c with
  | lst ds => obtain ⟨vs, e, r⟩ := h; exact ⟨vs, e, r.mono s⟩
  | dk ds => obtain ⟨vs, e, r⟩ := h; exact ⟨vs, e, r.mono s⟩
  | dt ds => obtain ⟨vs, e, r⟩ := h; exact ⟨vs, e, r.mono s⟩
  | ins c ds => obtain ⟨dx, vs, e, r⟩ := h; exact ⟨dx, vs, e, r.mono s⟩
  | deep c fs f xs => obtain ⟨dx, vs, l, ws, e, r, e2, r2⟩ := h; exact ⟨dx, vs, l, ws, e, r.mono s, e2, r2.mono s⟩
theorem WhyRel.mono {x : Exc} (s : Same G G') (h : WhyRel ca G u x) : WhyRel ca G' u x := by
  obtain ⟨h1, h2, h3⟩ := h
  refine ⟨h1, h2, ?_⟩
  cases e : Ext.xd with
  | none => rw [e] at h3; exact h3
  | some dd => rw [e] at h3; obtain ⟨vs, g, r⟩ := h3; exact ⟨vs, s _ _ g, r.mono s⟩
theorem CellRel.heap (s : ∀ o, H a = some o → H' a = some o) (s2 : ∀ x, Sub ca H a c x → ∀ o, H x = some o → H' x = some o) (h : CellRel ca G H a c) : CellRel ca G H' a c := by
  cases c with
  | lst ds => obtain ⟨vs, e, r⟩ := h; exact ⟨vs, s _ e, r⟩
  | dk ds => obtain ⟨vs, e, r⟩ := h; exact ⟨vs, s _ e, r⟩
  | dt ds => obtain ⟨vs, e, r⟩ := h; exact ⟨vs, s _ e, r⟩
  | ins c ds => obtain ⟨dx, vs, e, r⟩ := h; exact ⟨dx, vs, s _ e, r⟩
  | deep c fs f xs => obtain ⟨dx, vs, l, ws, e, r, e2, r2⟩ := h; exact ⟨dx, vs, l, ws, s _ e, r, s2 l ⟨dx, vs, e⟩ _ e2, r2⟩
theorem CellRel.heapS (s : Same H H') (h : CellRel ca G H a c) : CellRel ca G H' a c := h.heap (fun o e => s _ _ e) fun x _ o e => s _ _ e
theorem app_inj {α : Type} {xs ys : List α} {x y : α} (h : xs ++ [x] = ys ++ [y]) : xs = ys ∧ x = y := by
  have := List.append_inj_right' h rfl
  exact ⟨List.append_inj_left' h rfl, by simpa using this⟩
theorem Sub.uniq {x y : Addr} (h1 : Sub ca H a c x) (h2 : Sub ca H a c y) : x = y := by
  cases c with
  | deep c fs f xs =>
    obtain ⟨dx, vs, e1⟩ := h1
    obtain ⟨dx', vs', e2⟩ := h2
    rw [e1] at e2
    cases (app_inj (HO.ins.inj (Option.some.inj e2)).2.2).2
    rfl
  | _ => exact h1.elim
theorem CellRel.sub {x : Addr} (h : CellRel ca G H a c) (q : Sub ca H a c x) : ∃ ws, H x = some (.lst ws) := by
  cases c with
  | deep c fs f xs =>
    obtain ⟨dx, vs, l, ws, e, r, e2, r2⟩ := h
    have := Sub.uniq (c := .deep c fs f xs) q (show Sub ca H a (.deep c fs f xs) l from ⟨dx, vs, e⟩)
    subst this
    exact ⟨ws, e2⟩
  | _ => exact q.elim
/-- the object itself is as it was -/
theorem Sub.back {x : Addr} (s : ∀ o, H' a = some o → H a = some o) (h : Sub ca H' a c x) : Sub ca H a c x := by
  cases c with
  | deep c fs f xs => obtain ⟨dx, vs, e⟩ := h; exact ⟨dx, vs, s _ e⟩
  | _ => exact h.elim
theorem SSub.back {x : Addr} {s : Slot} (e : ∀ o, H' a = some o → H a = some o) (h : SSub ca H' a s x) : SSub ca H a s x := by
  cases s with
  | own c => exact Sub.back (c := c) e h
  | brw c => exact Sub.back (c := c) e h
  | _ => exact h.elim
/-- an object that is there is as it was, where the heap has grown -/
theorem back_of (s : ∀ o, H a = some o → H' a = some o) (t : ∃ o, H a = some o) : ∀ o, H' a = some o → H a = some o := fun o e => by
  obtain ⟨o', h⟩ := t
  rw [s _ h] at e
  cases e; exact h
theorem CellRel.there (h : CellRel ca G H a c) : ∃ o, H a = some o := by
  cases c with
  | lst ds => obtain ⟨vs, e, r⟩ := h; exact ⟨_, e⟩
  | dk ds => obtain ⟨vs, e, r⟩ := h; exact ⟨_, e⟩
  | dt ds => obtain ⟨vs, e, r⟩ := h; exact ⟨_, e⟩
  | ins c ds => obtain ⟨dx, vs, e, r⟩ := h; exact ⟨_, e⟩
  | deep c fs f xs => obtain ⟨dx, vs, l, ws, e, r⟩ := h; exact ⟨_, e⟩
theorem RepK.snoc {κ : Type} {vs : List (κ × V)} {ds : List (κ × D)} {k : κ} (r : RepK ca G vs ds) (q : Rep ca G u d) : RepK ca G (vs ++ [(k, u)]) (ds ++ [(k, d)]) := by
  have hl : vs.length = ds.length := by simpa using congrArg List.length r.keys
  refine ⟨by simp [r.keys], fun i v e h1 h2 => ?_⟩
  by_cases hi : i < vs.length
  · rw [List.getElem?_append_left hi] at h1
    rw [List.getElem?_append_left (by omega)] at h2
    exact r.at_ i v e h1 h2
  · rw [List.getElem?_append_right (by omega)] at h1
    rw [List.getElem?_append_right (by omega), ← hl] at h2
    cases hk : i - vs.length with
    | zero => rw [hk] at h1 h2; cases h1; cases h2; exact q
    | succ n => rw [hk] at h1; cases h1
/-- a cell that is frozen -/
theorem CellRel.rep (s : Same G G') (e : ∀ o, H a = some o → G' a = some o) (e2 : ∀ x, Sub ca H a c x → ∀ o, H x = some o → G' x = some o) (h : CellRel ca G H a c) : Rep ca G' (.ref a) c.d := by
  cases c with
  | lst ds => obtain ⟨vs, q, r⟩ := h; exact .lst (e _ q) r.len (r.mono s).at_
  | dk ds => obtain ⟨vs, q, r⟩ := h; exact .dk (.inl (e _ q)) r.keys (r.mono s).at_
  | dt ds => obtain ⟨vs, q, r⟩ := h; exact .dt (.inl (e _ q)) r.keys (r.mono s).at_
  | ins c ds => obtain ⟨dx, vs, q, r⟩ := h; exact .ins (e _ q) r.keys (r.mono s).at_
  | deep c fs f xs =>
    obtain ⟨dx, vs, l, ws, q, r, q2, r2⟩ := h
    have z := (r.mono s).snoc (k := f) (Rep.lst (e2 l ⟨dx, vs, q⟩ _ q2) r2.len (r2.mono s).at_)
    exact .ins (e _ q) z.keys z.at_
theorem CellRel.peek (h : CellRel ca G H a c) (e : c.pk = some d) : Peek ca G H (.ref a) d := by
  cases c with
  | lst ds => cases e; obtain ⟨vs, q, r⟩ := h; exact ⟨a, vs, rfl, q, r⟩
  | dk ds => cases e; obtain ⟨vs, q, r⟩ := h; exact ⟨a, vs, rfl, .inl q, r⟩
  | dt ds => cases e; obtain ⟨vs, q, r⟩ := h; exact ⟨a, vs, rfl, .inl q, r⟩
  | ins c ds => cases e; obtain ⟨dx, vs, q, r⟩ := h; exact ⟨a, dx, vs, rfl, q, r⟩
  | deep c fs f xs => cases e
theorem Rep.peek (s : Same G H) (h : Rep ca G u d) : Peek ca G H u d := by
  cases h with
  | non => exact .non
  | bl x => exact .bl x
  | int x => exact .int x
  | str x => exact .str x
  | lst r l e => exact ⟨_, _, rfl, s _ _ r, l, e⟩
  | tup r l e => exact ⟨_, _, rfl, r, l, e⟩
  | dk r l e => exact ⟨_, _, rfl, Rd.mono s r, l, e⟩
  | dt r l e => exact ⟨_, _, rfl, Rd.mono s r, l, e⟩
  | ins r l e => exact ⟨_, _, _, rfl, s _ _ r, l, e⟩
  | scr r => exact .scr r
  | nil0 r => exact .nil0 r
  | kd r l e => exact .kd r l e
theorem Peek.mono (s : Same G G') (t : Same H H') (h : Peek ca G H u d) : Peek ca G' H' u d := by
  cases d with
  | lst ds => obtain ⟨a, vs, e, r, q⟩ := h; exact ⟨a, vs, e, t _ _ r, q.mono s⟩
  | tup ds => obtain ⟨a, vs, e, r, q⟩ := h; exact ⟨a, vs, e, s _ _ r, q.mono s⟩
  | dk ds => obtain ⟨a, vs, e, r, q⟩ := h; exact ⟨a, vs, e, Rd.mono t r, q.mono s⟩
  | dt ds => obtain ⟨a, vs, e, r, q⟩ := h; exact ⟨a, vs, e, Rd.mono t r, q.mono s⟩
  | ins c ds => obtain ⟨a, dx, vs, e, r, q⟩ := h; exact ⟨a, dx, vs, e, t _ _ r, q.mono s⟩
  | non => exact Rep.mono s h
  | bl x => exact Rep.mono s h
  | int x => exact Rep.mono s h
  | str x => exact Rep.mono s h
  | scr x => exact Rep.mono s h
  | nil0 => exact Rep.mono s h
  | kd x => exact Rep.mono s h
/-- data that is looked at, over the whole heap -/
theorem Peek.rep (s : Same G H) (h : Peek ca G H u d) : Rep ca H u d := by
  cases d with
  | lst ds => obtain ⟨a, vs, rfl, r, q⟩ := h; exact .lst r q.len (q.mono s).at_
  | tup ds => obtain ⟨a, vs, rfl, r, q⟩ := h; exact .tup (s _ _ r) q.len (q.mono s).at_
  | dk ds => obtain ⟨a, vs, rfl, r, q⟩ := h; exact .dk r q.keys (q.mono s).at_
  | dt ds => obtain ⟨a, vs, rfl, r, q⟩ := h; exact .dt r q.keys (q.mono s).at_
  | ins c ds => obtain ⟨a, dx, vs, rfl, r, q⟩ := h; exact .ins r q.keys (q.mono s).at_
  | non => exact Rep.mono s h
  | bl x => exact Rep.mono s h
  | int x => exact Rep.mono s h
  | str x => exact Rep.mono s h
  | scr x => exact Rep.mono s h
  | nil0 => exact Rep.mono s h
  | kd x => exact Rep.mono s h

theorem SlotRel.there {i : Nat} {s : Slot} (h : SlotRel ca b i G H v s) (m : s.mut = true) : ∃ a, v = .ref a ∧ G a = none ∧ ∃ o, H a = some o := by
  cases s with
  | sh d => cases m
  | why x => cases m
  | own c => obtain ⟨a, e, r, n, _⟩ := h; exact ⟨a, e, n, r.there⟩
  | brw c => obtain ⟨a, e, r, n, _⟩ := h; exact ⟨a, e, n, r.there⟩
theorem Rel.thereAt (R : Rel ca b env σ G H) {i : Nat} {s : Slot} (e : env[i]? = some (some s)) (m : s.mut = true) (ea : σ[i]? = some (some (.ref a))) : G a = none ∧ ∃ o, H a = some o := by
  obtain ⟨v, e1, r⟩ := R.slots i s e
  rw [ea] at e1; cases e1
  obtain ⟨a', ev, z⟩ := r.there m
  cases ev; exact z
theorem Rel.subAt (R : Rel ca b env σ G H) {i : Nat} {s : Slot} {x : Addr} (e : env[i]? = some (some s)) (ea : σ[i]? = some (some (.ref a))) (q : SSub ca H a s x) : G x = none ∧ ∃ ws, H x = some (.lst ws) := by
  obtain ⟨v, e1, r⟩ := R.slots i s e
  rw [ea] at e1; cases e1
  cases s with
  | sh d => exact q.elim
  | why x => exact q.elim
  | own c => obtain ⟨a', ev, cr, _⟩ := r; cases ev; exact ⟨R.deep.nf i _ a x e rfl ea q, cr.sub q⟩
  | brw c => obtain ⟨a', ev, cr, _⟩ := r; cases ev; exact ⟨R.deep.nf i _ a x e rfl ea q, cr.sub q⟩
theorem Deep.to (D : Deep ca b env σ G H) (e : ∀ (i : Nat) (s : Slot) (a : Addr), env[i]? = some (some s) → s.mut = true → σ[i]? = some (some (.ref a)) → ∀ o, H' a = some o → H a = some o)
    (g : ∀ (i : Nat) (s : Slot) (a x : Addr), env[i]? = some (some s) → s.mut = true → σ[i]? = some (some (.ref a)) → SSub ca H a s x → G' x = none) : Deep ca b env σ G' H' where
  nf := fun i s a x e1 m ea q => g i s a x e1 m ea (q.back (e i s a e1 m ea))
  own := fun i c a x e1 ea q => D.own i c a x e1 ea (q.back (e i _ a e1 rfl ea))
  brw := fun i c a x e1 ea q => D.brw i c a x e1 ea (q.back (e i _ a e1 rfl ea))
  ap := fun i j s t a p x h e1 e2 m1 m2 ea ep q => by
    obtain ⟨z1, z2⟩ := D.ap i j s t a p x h e1 e2 m1 m2 ea ep (q.back (e i s a e1 m1 ea))
    exact ⟨z1, fun w => z2 (w.back (e j t p e2 m2 ep))⟩
theorem Free.to {x : Addr} (F : Free ca env σ H x) (e : ∀ (i : Nat) (s : Slot) (a : Addr), env[i]? = some (some s) → s.mut = true → σ[i]? = some (some (.ref a)) → ∀ o, H' a = some o → H a = some o) : Free ca env σ H' x :=
  fun j s es m => ⟨(F j s es m).1, fun p ep q => (F j s es m).2 p ep (q.back (e j s p es m ep))⟩
/-- the heap has grown -/
theorem Rel.backs (R : Rel ca b env σ G H) (s : Same H H') : ∀ (i : Nat) (sl : Slot) (a : Addr), env[i]? = some (some sl) → sl.mut = true → σ[i]? = some (some (.ref a)) → ∀ o, H' a = some o → H a = some o :=
  fun i sl a e m ea => back_of (fun o h => s _ _ h) (R.thereAt e m ea).2
theorem up_same {p : Addr} {o : HO} (n : H p = none) : Same H (upd H p o) := fun a q e => by rw [upd_ne (ne_of_none e n)]; exact e
/-- the heap grows by one new object: it may be frozen or not -/
theorem Rel.grow (R : Rel ca b env σ G H) {p : Addr} {o : HO} (n : H p = none) : Rel ca b env σ G (upd H p o) where
  sub := fun a q e => by rw [upd_ne (ne_of_none (R.sub _ _ e) n)]; exact R.sub _ _ e
  g0 := R.g0
  fr := fun a q e h1 h2 h3 => by
    have z := R.fr a q e h1 h2 h3
    rw [upd_ne (ne_of_none z n)]; exact z
  dom := fun a e => by
    by_cases h : a = p
    · subst h; rw [upd_same] at e; cases e
    · rw [upd_ne h] at e; exact R.dom a e
  new := R.new
  len := R.len
  slots := fun i s e => by
    obtain ⟨v, e1, r⟩ := R.slots i s e
    refine ⟨v, e1, ?_⟩
    cases s with
    | sh d => exact r
    | why x => exact r
    | own c => obtain ⟨a, e, r, m, z⟩ := r; exact ⟨a, e, r.heapS (up_same n), m, z⟩
    | brw c => obtain ⟨a, e, r, m, z⟩ := r; exact ⟨a, e, r.heapS (up_same n), m, z⟩
  apart := R.apart
  deep := R.deep.to (R.backs (up_same n)) R.deep.nf
/-- a new object becomes frozen -/
theorem Rel.freeze (R : Rel ca b env σ G H) {p : Addr} {o : HO} (e : H p = some o) (n : G p = none) (nw : b.O p ∨ b.H0 p = none) (ap : Free ca env σ H p) :
    Rel ca b env σ (upd G p o) H ∧ Same G (upd G p o) := by
  have sg : Same G (upd G p o) := up_same n
  refine ⟨⟨fun a q z => ?_, R.g0.trans sg, R.fr, R.dom, fun a q z => ?_, R.len, fun i s es => ?_, R.apart, R.deep.to (fun _ _ _ _ _ _ _ h => h) fun i s a x es m ea q => ?_⟩, sg⟩
  · by_cases h : a = p
    · subst h; rw [upd_same] at z; cases z; exact e
    · rw [upd_ne h] at z; exact R.sub _ _ z
  · by_cases h : a = p
    · subst h
      rcases nw with q | q
      · exact .inr (.inr q)
      · exact .inr (.inl q)
    · rw [upd_ne h] at z; exact R.new _ _ z
  · obtain ⟨v, e1, r⟩ := R.slots i s es
    refine ⟨v, e1, ?_⟩
    cases s with
    | sh d => exact Rep.mono sg r
    | why x => exact r.mono sg
    | own c =>
      obtain ⟨a, ev, r, m, z⟩ := r
      subst ev
      have hp : a ≠ p := fun q => (ap i _ es rfl).1 (by rw [e1, q])
      exact ⟨a, rfl, r.mono sg, by rw [upd_ne hp]; exact m, z⟩
    | brw c =>
      obtain ⟨a, ev, r, m, z⟩ := r
      subst ev
      have hp : a ≠ p := fun q => (ap i _ es rfl).1 (by rw [e1, q])
      exact ⟨a, rfl, r.mono sg, by rw [upd_ne hp]; exact m, z⟩
  · have hx : x ≠ p := fun z => (ap i s es m).2 a ea (by rw [← z]; exact q)
    rw [upd_ne hx]
    exact R.deep.nf i s a x es m ea q
theorem Rel.newFree (R : Rel ca b env σ G H) {p : Addr} (n : H p = none) : Free ca env σ H p := fun j s e m => by
  refine ⟨fun q => ?_, fun a ea q => ?_⟩
  · obtain ⟨_, o', h'⟩ := R.thereAt e m q
    rw [n] at h'; cases h'
  · obtain ⟨_, ws, h'⟩ := R.subAt e ea q
    rw [n] at h'; cases h'
/-- a brand new object and frozen -/
theorem Rel.growFz (R : Rel ca b env σ G H) {p : Addr} {o : HO} (n : H p = none) : Rel ca b env σ (upd G p o) (upd H p o) ∧ Same G (upd G p o) :=
  (R.grow (o := o) n).freeze upd_same (R.sub.free n) (.inr (R.dom p n)) ((R.newFree n).to (R.backs (up_same n)))
theorem Rel.newAddr (R : Rel ca b env σ G H) {p : Addr} (n : H p = none) : G p = none ∧ b.H0 p = none ∧ Free ca env σ H p := ⟨R.sub.free n, R.dom p n, R.newFree n⟩
theorem Rel.newUp (R : Rel ca b env σ G H) {p : Addr} {o : HO} (n : H p = none) : Free ca env σ (upd H p o) p := (R.newFree n).to (R.backs (up_same n))
theorem Sub.flat {x : Addr} (f : c.flat = true) (h : Sub ca H a c x) : False := by
  cases c with
  | deep => cases f
  | _ => exact h.elim
/-- objects of one's own are frozen: the object and its list -/
theorem Rel.freezeC (R : Rel ca b env σ G H) (cr : CellRel ca G H a c) (n : G a = none) (nw : b.O a ∨ b.H0 a = none) (ap : Free ca env σ H a) (su : ∀ x, Sub ca H a c x → G x = none ∧ (b.O x ∨ b.H0 x = none) ∧ Free ca env σ H x) :
    ∃ G', Same G G' ∧ Rel ca b env σ G' H ∧ Rep ca G' (.ref a) c.d := by
  obtain ⟨o, e⟩ := cr.there
  obtain ⟨R', sg⟩ := R.freeze e n nw ap
  cases hc : c.flat with
  | true => exact ⟨_, sg, R', cr.rep sg (fun q e' => by rw [e] at e'; cases e'; exact upd_same) fun x h => (h.flat hc).elim⟩
  | false =>
    cases c with
    | deep k fs f xs =>
      obtain ⟨dx, vs, l, ws, e1, r1, e2, r2⟩ := cr
      rw [e] at e1; cases e1
      have hs : Sub ca H a (.deep k fs f xs) l := ⟨dx, vs, e⟩
      obtain ⟨s1, s2, s3⟩ := su l hs
      have ne : l ≠ a := fun z => by rw [z, e] at e2; cases e2
      have n2 : (upd G a (.ins (He.ga ca k) dx (vs ++ [(f, .ref l)]))) l = none := by rw [upd_ne ne]; exact s1
      obtain ⟨R2, sg2⟩ := R'.freeze e2 n2 s2 s3
      have cr' : CellRel ca G H a (.deep k fs f xs) := ⟨dx, vs, l, ws, e, r1, e2, r2⟩
      refine ⟨_, sg.trans sg2, R2, cr'.rep (sg.trans sg2) (fun q e' => by rw [e] at e'; cases e'; exact sg2 _ _ upd_same) fun x h q e' => ?_⟩
      have := Sub.uniq h hs
      subst this
      rw [e2] at e'; cases e'; exact upd_same
    | _ => cases hc
/-- an unowned new object is frozen where it stands -/
theorem VRel.soft (R : Rel ca b env σ G H) (r : VRel ca b env σ G H u (.fr c)) : ∃ G', Same G G' ∧ Rel ca b env σ G' H ∧ Rep ca G' u c.d := by
  obtain ⟨a, rfl, cr, n, nw, ap, su⟩ := r
  exact R.freezeC cr n nw ap su
end
end Pd
/-! Pd2: what a piece of code computes (as a function of an environment), its reading -/
namespace Pd
open PySem PySem.Spec L2
variable [Ext]

inductive EO where
  | val (v : Val) (env : Env) | exc (x : Exc) (env : Env)
inductive AO where
  | vals (vs : List Val) (env : Env) | exc (x : Exc) (env : Env)
inductive Arg where
  | sh (d : D) | brw (c : Cell)
inductive RV where
  | sh (d : D) | fr (c : Cell)
def RV.val : RV → Val
  | .sh d => .sh d
  | .fr c => .fr c
inductive CRes where
  | ret (r : RV) (outs : List (Option Cell)) | exc (x : Exc) (outs : List (Option Cell))
/-- what the defs compute, by their names (a class's method: the class, the method) -/
abbrev CT := Str × Option Str → Option (List Arg → Option CRes)
abbrev SE := CT → Env → Option EO
abbrev SA := CT → Env → Option AO
inductive SO where
  | nx (env : Env) | ret (r : RV) (env : Env) | brk (env : Env) | ct (env : Env) | exc (x : Exc) (env : Env)
abbrev SS := CT → Env → Option SO

section
variable (ca : PySem.W.Frag)
def ExcRel (G H : Hp) (cls : Value) (d : Option Addr) (x : Exc) : Prop :=
  cls = .ref (He.ga ca x.cls) ∧ match d with
    | some dd => ∃ vs, G dd = some (.xd vs) ∧ RepK ca G vs x.fs
    | none => x.fs = []
def EPost (b : Bs) (W : WX) (σ : St) (Q : VK) : EO → Prop
  | .val v env' => ∀ u G' H', Rel ca b env' σ G' H' → VRel ca b env' σ G' H' u v → Q u H'
  | .exc x env' => ∀ cls d G' H', Rel ca b env' σ G' H' → ExcRel ca G' H' cls d x → W cls d σ H'
def rdE (c : CT) (W : WX) (f : SE) : TE := fun σ H Q => ∃ b env G o, Rel ca b env σ G H ∧ f c env = some o ∧ EPost ca b W σ Q o
def Held (G : Hp) (σ : St) (u : V) : Val → Prop
  | .sh d => Rep ca G u d
  | .fr cl => Rep ca G u cl.d
  | .var i => σ[i]? = some (some u)
inductive Helds (G : Hp) (σ : St) : List V → List Val → Prop
  | nil : Helds G σ [] []
  | cons {u v us vs} : Held ca G σ u v → Helds G σ us vs → Helds G σ (u :: us) (v :: vs)
def APost (b : Bs) (W : WX) (σ : St) (Q : List V → Hp → Prop) : AO → Prop
  | .vals vs env' => ∀ us G' H', Rel ca b env' σ G' H' → Helds ca G' σ us vs → Q us H'
  | .exc x env' => ∀ cls d G' H', Rel ca b env' σ G' H' → ExcRel ca G' H' cls d x → W cls d σ H'
def rdA (c : CT) (W : WX) (f : SA) : TA := fun σ H Q => ∃ b env G o, Rel ca b env σ G H ∧ f c env = some o ∧ APost ca b W σ Q o
def TPost (b : Bs) (W : WX) (σ : St) (Q : Bool → Hp → Prop) : EO → Prop
  | .val (.sh (.bl k)) env' => ∀ G' H', Rel ca b env' σ G' H' → Q k H'
  | .exc x env' => ∀ cls d G' H', Rel ca b env' σ G' H' → ExcRel ca G' H' cls d x → W cls d σ H'
  | _ => False
/-- the same as a test -/
def rdT (c : CT) (W : WX) (f : SE) : TT := fun σ H Q => ∃ b env G o, Rel ca b env σ G H ∧ f c env = some o ∧ TPost ca b W σ Q o
def RRel (b : Bs) (env : Env) (σ : St) (G H : Hp) (u : V) (r : RV) : Prop := VRel ca b env σ G H u r.val
def SPost (b : Bs) (W : WX) (Dn : Ends) : SO → Prop
  | .nx env' => ∀ σ' G' H', Rel ca b env' σ' G' H' → Dn.nx σ' H'
  | .ct env' => ∀ σ' G' H', Rel ca b env' σ' G' H' → Dn.ct σ' H'
  | .brk env' => ∀ σ' G' H', Rel ca b env' σ' G' H' → Dn.bk σ' H'
  | .ret r env' => ∀ u σ' G' H', Rel ca b env' σ' G' H' → RRel ca b env' σ' G' H' u r → Dn.rt u H'
  | .exc x env' => ∀ cls d σ' G' H', Rel ca b env' σ' G' H' → ExcRel ca G' H' cls d x → W cls d σ' H'
def rdS (c : CT) (W : WX) (f : SS) : TS := fun Dn σ H => ∃ b env G o, Rel ca b env σ G H ∧ f c env = some o ∧ SPost ca b W Dn o
end

/-! ### another entry -/
def rb (ca : PySem.W.Frag) (env : Env) (σ : St) (G H : Hp) : Bs where
  H0 := H
  G0 := G
  B := fun i => match env[i]?, σ[i]? with
    | some (some (.brw _)), some (some (.ref a)) => some a
    | _, _ => none
  O := fun a => ∃ (i : Nat) (c : Cell) (p : Addr), env[i]? = some (some (.own c)) ∧ σ[i]? = some (some (.ref p)) ∧ (a = p ∨ Sub ca H p c a)
  S := fun i a => ∃ (c : Cell) (p : Addr), env[i]? = some (some (.brw c)) ∧ σ[i]? = some (some (.ref p)) ∧ Sub ca H p c a
section
variable {ca : PySem.W.Frag} {b : Bs} {env env' : Env} {σ σ' : St} {G G' H H' : Hp} {u : V} {v : Val} {d : D} {cl : Cell} {a : Addr}
theorem rb_B {i : Nat} (h : (rb ca env σ G H).B i = some a) : (∃ c, env[i]? = some (some (.brw c))) ∧ σ[i]? = some (some (.ref a)) := by
  unfold rb at h
  simp only at h
  split at h
  · rename_i h1 h2
    cases h
    exact ⟨⟨_, h1⟩, h2⟩
  · cases h
theorem Rel.rb (R : Rel ca b env σ G H) : Rel ca (rb ca env σ G H) env σ G H where
  sub := R.sub
  g0 := Same.refl _
  fr := fun a o e _ _ _ => e
  dom := fun a e => e
  new := fun a o e => .inl e
  len := R.len
  slots := fun i s e => by
    obtain ⟨v, e1, r⟩ := R.slots i s e
    refine ⟨v, e1, ?_⟩
    cases s with
    | sh d => exact r
    | why x => exact r
    | own c =>
      obtain ⟨a, ev, cr, n, z⟩ := r
      subst ev
      exact ⟨a, rfl, cr, n, .inl ⟨i, c, a, e, e1, .inl rfl⟩⟩
    | brw c =>
      obtain ⟨a, ev, cr, n, z⟩ := r
      subst ev
      refine ⟨a, rfl, cr, n, ?_⟩
      unfold Pd.rb
      simp only [e, e1]
  apart := R.apart
  deep := ⟨R.deep.nf, fun i c a x e ea q => .inl ⟨i, c, a, e, ea, .inr q⟩, fun i c a x e ea q => .inl ⟨c, a, e, ea, q⟩, R.deep.ap⟩
theorem Rel.own_at (R : Rel ca b env σ G H) {i : Nat} {c : Cell} (e : env[i]? = some (some (.own c))) (e1 : σ[i]? = some (some (.ref a))) : b.O a ∨ b.H0 a = none := by
  obtain ⟨v, e2, r⟩ := R.slots i _ e
  rw [e1] at e2; cases e2
  obtain ⟨a', ev, cr, n, z⟩ := r
  cases ev
  exact z
theorem Rel.brw_at (R : Rel ca b env σ G H) {i : Nat} {c : Cell} (e : env[i]? = some (some (.brw c))) (e1 : σ[i]? = some (some (.ref a))) : b.B i = some a := by
  obtain ⟨v, e2, r⟩ := R.slots i _ e
  rw [e1] at e2; cases e2
  obtain ⟨a', ev, cr, n, z⟩ := r
  cases ev
  exact z
theorem Rel.own_of (R : Rel ca b env σ G H) (h : (Pd.rb ca env σ G H).O a ∨ H a = none) : b.O a ∨ b.H0 a = none := by
  rcases h with ⟨i, c, p, e, e1, rfl | q⟩ | h
  · exact R.own_at e e1
  · exact R.deep.own i c p a e e1 q
  · exact .inr (R.dom a h)
theorem Rel.brw_of {i : Nat} (R : Rel ca b env σ G H) (h : (Pd.rb ca env σ G H).S i a ∨ (Pd.rb ca env σ G H).O a ∨ H a = none) : b.S i a ∨ b.O a ∨ b.H0 a = none := by
  rcases h with ⟨c, p, e, e1, q⟩ | h
  · exact R.deep.brw i c p a e e1 q
  · exact .inr (R.own_of h)
theorem Rel.unrb (R : Rel ca b env σ G H) (R' : Rel ca (Pd.rb ca env σ G H) env' σ' G' H') : Rel ca b env' σ' G' H' where
  sub := R'.sub
  g0 := R.g0.trans R'.g0
  fr := fun a o e h1 h2 h3 => by
    have z := R.fr a o e h1 h2 h3
    refine R'.fr a o z (fun i q => ?_) (fun q => ?_) fun i q => ?_
    · obtain ⟨⟨c, q1⟩, q2⟩ := rb_B q
      exact h1 i (R.brw_at q1 q2)
    · rcases R.own_of (.inl q) with w | w
      · exact h2 w
      · rw [w] at e; cases e
    · rcases R.brw_of (.inl q) with w | w | w
      · exact h3 i w
      · exact h2 w
      · rw [w] at e; cases e
  dom := fun a e => R.dom a (R'.dom a e)
  new := fun a o e => by
    rcases R'.new a o e with z | z | z
    · exact R.new a o z
    · exact .inr (.inl (R.dom a z))
    · rcases R.own_of (.inl z) with w | w
      · exact .inr (.inr w)
      · exact .inr (.inl w)
  len := R'.len
  slots := fun i s e => by
    obtain ⟨v, e1, r⟩ := R'.slots i s e
    refine ⟨v, e1, ?_⟩
    cases s with
    | sh d => exact r
    | why x => exact r
    | own c =>
      obtain ⟨a, ev, cr, n, z⟩ := r
      exact ⟨a, ev, cr, n, R.own_of z⟩
    | brw c =>
      obtain ⟨a, ev, cr, n, z⟩ := r
      obtain ⟨⟨c', q1⟩, q2⟩ := rb_B z
      exact ⟨a, ev, cr, n, R.brw_at q1 q2⟩
  apart := R'.apart
  deep := ⟨R'.deep.nf, fun i c a x e ea q => R.own_of (R'.deep.own i c a x e ea q), fun i c a x e ea q => R.brw_of (R'.deep.brw i c a x e ea q), R'.deep.ap⟩
theorem VRel.unrb (R : Rel ca b env σ G H) (r : VRel ca (Pd.rb ca env σ G H) env' σ' G' H' u v) : VRel ca b env' σ' G' H' u v := by
  cases v with
  | sh d => exact r
  | var i => exact r
  | fr c => obtain ⟨a, e, cr, n, z, q, q2⟩ := r; exact ⟨a, e, cr, n, R.own_of z, q, fun x h => ⟨(q2 x h).1, R.own_of (q2 x h).2.1, (q2 x h).2.2⟩⟩
theorem RRel.unrb {r : RV} (R : Rel ca b env σ G H) (h : RRel ca (Pd.rb ca env σ G H) env' σ' G' H' u r) : RRel ca b env' σ' G' H' u r := VRel.unrb R h
/-- nothing of the entry's borrowed or own objects -/
def Bs.out (b : Bs) (a : Addr) : Prop := (∀ i, b.B i ≠ some a) ∧ ¬ b.O a ∧ ∀ i, ¬ b.S i a
theorem Free.rb (F : Free ca env σ H a) : (Pd.rb ca env σ G H).out a := by
  refine ⟨fun i q => ?_, fun ⟨i, c, p, q1, q2, q3⟩ => ?_, fun i ⟨c, p, q1, q2, q3⟩ => (F i _ q1 rfl).2 p q2 q3⟩
  · obtain ⟨⟨c, q1⟩, q2⟩ := rb_B q
    exact (F i _ q1 rfl).1 q2
  · rcases q3 with rfl | q3
    · exact (F i _ q1 rfl).1 q2
    · exact (F i _ q1 rfl).2 p q2 q3
/-- what is nobody's stays -/
def Stays (env : Env) (σ : St) (G H G' H' : Hp) : Prop := ∀ a o, H a = some o → Free ca env σ H a → H' a = some o ∧ (G a = none → G' a = none)
/-- what was nobody's at the entry stays, and is nobody's -/
theorem Rel.stand (R : Rel ca b env σ G H) {o : HO} (e : b.H0 a = some o) (h : b.out a) : H a = some o ∧ (b.G0 a = none → G a = none) ∧ Free ca env σ H a := by
  refine ⟨R.fr a o e h.1 h.2.1 h.2.2, fun n => ?_, fun i s es m => ⟨fun q => ?_, fun p ep q => ?_⟩⟩
  · cases q : G a with
    | none => rfl
    | some o' =>
      rcases R.new a o' q with z | z | z
      · rw [n] at z; cases z
      · rw [e] at z; cases z
      · exact (h.2.1 z).elim
  · obtain ⟨v, e1, r⟩ := R.slots i s es
    rw [q] at e1; cases e1
    cases s with
    | sh d => cases m
    | why x => cases m
    | own c =>
      obtain ⟨a', ev, _, _, z⟩ := r
      cases ev
      rcases z with z | z
      · exact h.2.1 z
      · rw [z] at e; cases e
    | brw c =>
      obtain ⟨a', ev, _, _, z⟩ := r
      cases ev
      exact h.1 i z
  · cases s with
    | sh d => cases m
    | why x => cases m
    | own c =>
      rcases R.deep.own i c p a es ep q with z | z
      · exact h.2.1 z
      · rw [z] at e; cases e
    | brw c =>
      rcases R.deep.brw i c p a es ep q with z | z | z
      · exact h.2.2 i z
      · exact h.2.1 z
      · rw [z] at e; cases e
theorem Rel.stays (R' : Rel ca (Pd.rb ca env σ G H) env' σ' G' H') : Stays (ca := ca) env σ G H G' H' := fun a o e h => by
  obtain ⟨h1, h2, _⟩ := R'.stand (o := o) e h.rb
  exact ⟨h1, h2⟩

theorem Held.mono (s : Same G G') (h : Held ca G σ u v) : Held ca G' σ u v := by
  cases v with
  | sh d => exact Rep.mono s h
  | fr d => exact Rep.mono s h
  | var i => exact h
theorem Helds.mono {us : List V} {vs : List Val} (s : Same G G') (h : Helds ca G σ us vs) : Helds ca G' σ us vs := by
  induction h with
  | nil => exact .nil
  | cons h _ ih => exact .cons (h.mono s) ih
theorem VRel.held (R : Rel ca b env σ G H) (r : VRel ca b env σ G H u v) : ∃ G', Same G G' ∧ Rel ca b env σ G' H ∧ Held ca G' σ u v := by
  cases v with
  | sh d => exact ⟨G, Same.refl _, R, r⟩
  | var i => exact ⟨G, Same.refl _, R, r.1⟩
  | fr c => exact VRel.soft R r
def peek (env : Env) : Val → Option D
  | .sh d => some d
  | .fr c => some c.d
  | .var i => match env[i]? with
    | some (some s) => s.pk
    | _ => none
theorem Held.peek (R : Rel ca b env σ G H) (h : Held ca G σ u v) (e : peek env v = some d) : Peek ca G H u d := by
  cases v with
  | sh d' => cases e; exact Rep.peek R.sub h
  | fr c => cases e; exact Rep.peek R.sub h
  | var i =>
    unfold Pd.peek at e
    simp only at e
    split at e
    · rename_i s hs
      obtain ⟨w, e1, r⟩ := R.slots i s hs
      have h : σ[i]? = some (some u) := h
      rw [h] at e1; cases e1
      cases s with
      | sh d => cases e; exact Rep.peek R.sub r
      | own c => obtain ⟨a, rfl, cr, _⟩ := r; exact cr.peek e
      | brw c => obtain ⟨a, rfl, cr, _⟩ := r; exact cr.peek e
      | why x => cases e
    · cases e
/-- the value is given away: from now on it is frozen -/
def take (env : Env) : Val → Option (D × Env)
  | .sh d => some (d, env)
  | .fr c => some (c.d, env)
  | .var i => match env[i]? with
    | some (some (.sh d)) => some (d, env)
    | some (some (.own c)) => some (c.d, env.set i (some (.sh c.d)))
    | _ => none
theorem unset_some {i j : Nat} {s : Slot} (es : (env.set i none)[j]? = some (some s)) : i ≠ j ∧ env[j]? = some (some s) := by
  by_cases hj : i = j
  · subst hj
    by_cases hi : i < env.length
    · rw [List.getElem?_set_self hi] at es; cases es
    · rw [List.getElem?_eq_none (by simpa using hi)] at es; cases es
  · rw [List.getElem?_set_ne hj] at es; exact ⟨hj, es⟩
/-- a name is forgotten -/
theorem Rel.drop (R : Rel ca b env σ G H) (i : Nat) : Rel ca b (env.set i none) σ G H :=
  ⟨R.sub, R.g0, R.fr, R.dom, R.new, by simpa using R.len, fun j s es => R.slots j s (unset_some es).2, fun j k s t x hjk e1 e2 => R.apart j k s t x hjk (unset_some e1).2 (unset_some e2).2,
    ⟨fun j s a x e => R.deep.nf j s a x (unset_some e).2, fun j c a x e => R.deep.own j c a x (unset_some e).2, fun j c a x e => R.deep.brw j c a x (unset_some e).2,
      fun j k s t a p x h e1 e2 => R.deep.ap j k s t a p x h (unset_some e1).2 (unset_some e2).2⟩⟩
/-- an own object whose name is forgotten is nobody's, and so is its list -/
theorem Rel.dropFree (R : Rel ca b env σ G H) {i : Nat} (e : env[i]? = some (some (.own cl))) (h : σ[i]? = some (some (.ref a))) : VRel ca b (env.set i none) σ G H (.ref a) (.fr cl) := by
  obtain ⟨w, e1, a', ev, cr, n, z⟩ := R.slots i _ e
  rw [h] at e1; cases e1; cases ev
  refine ⟨a, rfl, cr, n, z, fun j s es m => ?_, fun x hx => ⟨R.deep.nf i _ a x e rfl h hx, R.deep.own i _ a x e h hx, fun j s es m => ?_⟩⟩
  · obtain ⟨hj, es⟩ := unset_some es
    exact ⟨fun q => R.apart i j _ s a hj e es rfl m h q, fun p ep q => (R.deep.ap j i s _ p a a (fun z => hj z.symm) es e m rfl ep h q).1 rfl⟩
  · obtain ⟨hj, es⟩ := unset_some es
    refine ⟨fun q => (R.deep.ap i j _ s a x x hj e es rfl m h q hx).1 rfl, fun p ep q => (R.deep.ap i j _ s a p x hj e es rfl m h ep hx).2 q⟩
/-- frozen data in place of an own object's name -/
theorem Rel.setShAt {i : Nat} {d : D} (R : Rel ca b (env.set i none) σ G H) (hi : i < env.length) (h : σ[i]? = some (some u)) (rp : Rep ca G u d) : Rel ca b (env.set i (some (.sh d))) σ G H := by
  have f : ∀ {j : Nat} {s : Slot}, (env.set i (some (Slot.sh d)))[j]? = some (some s) → s.mut = true → (env.set i none)[j]? = some (some s) := fun {j s} es m => by
    by_cases hj : i = j
    · subst hj; rw [List.getElem?_set_self hi] at es; cases es; cases m
    · rw [List.getElem?_set_ne hj] at es ⊢; exact es
  refine ⟨R.sub, R.g0, R.fr, R.dom, R.new, by simpa using R.len, fun j s es => ?_, fun j k s t x hjk e1 e2 m1 m2 => R.apart j k s t x hjk (f e1 m1) (f e2 m2) m1 m2,
    ⟨fun j s a x e m => R.deep.nf j s a x (f e m) m, fun j c a x e => R.deep.own j c a x (f e rfl), fun j c a x e => R.deep.brw j c a x (f e rfl),
      fun j k s t a p x h e1 e2 m1 m2 => R.deep.ap j k s t a p x h (f e1 m1) (f e2 m2) m1 m2⟩⟩
  by_cases hj : i = j
  · subst hj
    rw [List.getElem?_set_self hi] at es; cases es
    exact ⟨_, h, rp⟩
  · rw [List.getElem?_set_ne hj] at es
    exact R.slots j s (by rw [List.getElem?_set_ne hj]; exact es)
theorem Rel.setFz (R : Rel ca b env σ G H) {i : Nat} (e : env[i]? = some (some (.own cl))) (h : σ[i]? = some (some u)) : ∃ G', Same G G' ∧ Rel ca b (env.set i (some (.sh cl.d))) σ G' H ∧ Rep ca G' u cl.d := by
  have hi : i < env.length := (List.getElem?_eq_some_iff.mp e).1
  obtain ⟨w, e1, a, ev, _⟩ := R.slots i _ e
  rw [h] at e1; cases e1; subst ev
  obtain ⟨G', sg, R', rp⟩ := VRel.soft (R.drop i) (R.dropFree e h)
  exact ⟨G', sg, R'.setShAt hi h rp, rp⟩
theorem Held.take (R : Rel ca b env σ G H) (h : Held ca G σ u v) (e : take env v = some (d, env')) : ∃ G', Same G G' ∧ Rel ca b env' σ G' H ∧ Rep ca G' u d := by
  cases v with
  | sh d' => cases e; exact ⟨G, Same.refl _, R, h⟩
  | fr c => cases e; exact ⟨G, Same.refl _, R, h⟩
  | var i =>
    have h : σ[i]? = some (some u) := h
    unfold Pd.take at e
    simp only at e
    split at e
    · rename_i d' hs
      cases e
      obtain ⟨w, e1, r⟩ := R.slots i _ hs
      rw [h] at e1; cases e1
      exact ⟨G, Same.refl _, R, r⟩
    · rename_i c' hs
      cases e
      exact R.setFz hs h
    · cases e

/-! ### the use of a reading -/
variable {c : CT} {W : WX} {f : SE} {Q : VK} {o : EO}
theorem rdE.use (R : Rel ca b env σ G H) (e : f c env = some o)
    (h : match o with
      | .val v env' => ∀ u G' H', Rel ca b env' σ G' H' → VRel ca b env' σ G' H' u v → Same G G' → Stays (ca := ca) env σ G H G' H' → Q u H'
      | .exc x env' => ∀ cls d G' H', Rel ca b env' σ G' H' → ExcRel ca G' H' cls d x → W cls d σ H') : rdE ca c W f σ H Q := by
  refine ⟨Pd.rb ca env σ G H, env, G, o, R.rb, e, ?_⟩
  cases o with
  | val v env' => exact fun u G' H' R' r => h u G' H' (R.unrb R') (VRel.unrb R r) R'.g0 (Rel.stays R')
  | exc x env' => exact fun cls d G' H' R' r => h cls d G' H' (R.unrb R') r
def bindV (o : Option EO) (k : Val → Env → Option EO) : Option EO := match o with
  | some (.val v e) => k v e
  | some (.exc x e) => some (.exc x e)
  | none => none
/-- a part's value is at hand -/
theorem rd_bind {k : Val → Env → Option EO} {Q' : VK} (R : Rel ca b env σ G H) (e : bindV (f c env) k = some o) (post : EPost ca b W σ Q o)
    (h : ∀ v e1 u G1 H1, f c env = some (.val v e1) → Rel ca b e1 σ G1 H1 → Held ca G1 σ u v → Same G G1 → k v e1 = some o → Q' u H1) : rdE ca c W f σ H Q' := by
  unfold bindV at e
  split at e
  · rename_i v e1 hf
    refine rdE.use R hf fun u G1 H1 R1 r sg _ => ?_
    obtain ⟨G2, sg2, R2, hd⟩ := VRel.held R1 r
    exact h v e1 u G2 H1 hf R2 hd (sg.trans sg2) e
  · rename_i x e1 hf
    cases e
    exact rdE.use R hf post
  · cases e
end
theorem PE_weak {X : Cx} {e : Expr} {t t' : TE} (h : PE X e t) (w : ∀ σ H Q, t' σ H Q → t σ H Q) : PE X e t' := ⟨fun pins s σ H Q I q => h.run pins s σ H Q I (w σ H Q q)⟩
theorem PT_weak {X : Cx} {e : Expr} {t t' : TT} (h : PT X e t) (w : ∀ σ H Q, t' σ H Q → t σ H Q) : PT X e t' := ⟨fun pins s σ H Q I q => h.run pins s σ H Q I (w σ H Q q)⟩
theorem PA_weak {X : Cx} {e : List Expr} {t t' : TA} (h : PA X e t) (w : ∀ σ H Q, t' σ H Q → t σ H Q) : PA X e t' := ⟨fun pos pins s σ H Q I q => h.run pos pins s σ H Q I (w σ H Q q)⟩
theorem PS_weak {X : Cx} {e : Stmt} {t t' : TS} (h : PS X e t) (w : ∀ D σ H, t' D σ H → t D σ H) : PS X e t' := ⟨fun pins s σ H D I q => h.run pins s σ H D I (w D σ H q)⟩
theorem PSs_weak {X : Cx} {e : List Stmt} {t t' : TS} (h : PSs X e t) (w : ∀ D σ H, t' D σ H → t D σ H) : PSs X e t' := ⟨fun pins s σ H D I q => h.run pins s σ H D I (w D σ H q)⟩
end Pd
/-! Pd3: expressions -/
namespace Pd
open PySem PySem.Spec L2
variable [Ext]

/-! ### what an operation gives -/
section
variable (ca : PySem.W.Frag)
def OpOut (G H : Hp) (u : V) (H' : Hp) (v : Val) : Prop :=
  (H' = H ∧ ∃ d, v = .sh d ∧ Rep ca G u d) ∨
    ∃ p o, H p = none ∧ u = .ref p ∧ H' = upd H p o ∧ ((∃ d, v = .sh d ∧ Rep ca (upd G p o) (.ref p) d) ∨ ∃ cl, v = .fr cl ∧ cl.flat = true ∧ CellRel ca G (upd H p o) p cl)
inductive Peeks (G H : Hp) : List V → List D → Prop
  | nil : Peeks G H [] []
  | cons {u d us ds} : Peek ca G H u d → Peeks G H us ds → Peeks G H (u :: us) (d :: ds)
def BinR (r : R2) (g : D → D → Option Val) : Prop :=
  ∀ (G H : Hp) (x y : V) (dx dy : D) (v : Val) (Q : VK), Same G H → Peek ca G H x dx → Peek ca G H y dy → g dx dy = some v → (∀ u H', OpOut ca G H u H' v → Q u H') → r x y H Q
def UnaR (r : V → Hp → VK → Prop) (g : D → Option Val) : Prop :=
  ∀ (G H : Hp) (x : V) (dx : D) (v : Val) (Q : VK), Same G H → Peek ca G H x dx → g dx = some v → (∀ u H', OpOut ca G H u H' v → Q u H') → r x H Q
def ArgR (r : List V → Hp → VK → Prop) (g : List D → Option Val) : Prop :=
  ∀ (G H : Hp) (xs : List V) (ds : List D) (v : Val) (Q : VK), Same G H → Peeks ca G H xs ds → g ds = some v → (∀ u H', OpOut ca G H u H' v → Q u H') → r xs H Q
end
section
variable {ca : PySem.W.Frag} {b : Bs} {env : Env} {σ : St} {G G' H H' : Hp} {u : V} {v : Val} {d : D} {cl : Cell} {a : Addr}
theorem OpOut.at (R : Rel ca b env σ G H) (h : OpOut ca G H u H' v) : ∃ G', Same G G' ∧ Rel ca b env σ G' H' ∧ VRel ca b env σ G' H' u v := by
  rcases h with ⟨rfl, d, rfl, r⟩ | ⟨p, o, n, rfl, rfl, ⟨d, rfl, r⟩ | ⟨cl, rfl, fl, r⟩⟩
  · exact ⟨G, Same.refl _, R, r⟩
  · obtain ⟨R', sg⟩ := R.growFz (o := o) n
    exact ⟨_, sg, R', r⟩
  · obtain ⟨n1, n2, n3⟩ := R.newAddr n
    exact ⟨G, Same.refl _, R.grow n, p, rfl, r, n1, .inr n2, R.newUp n, fun x h => (h.flat fl).elim⟩
theorem out_sh (r : Rep ca G u d) : OpOut ca G H u H (.sh d) := .inl ⟨rfl, d, rfl, r⟩
theorem out_lst {vs : List V} {ds : List D} {p : Addr} (n : H p = none) (r : Reps ca G vs ds) : OpOut ca G H (.ref p) (upd H p (.lst vs)) (.fr (.lst ds)) := .inr ⟨p, _, n, rfl, rfl, .inr ⟨_, rfl, rfl, vs, upd_same, r⟩⟩
theorem out_tup {vs : List V} {ds : List D} {p : Addr} (s : Same G H) (n : H p = none) (r : Reps ca G vs ds) : OpOut ca G H (.ref p) (upd H p (.tup vs)) (.sh (.tup ds)) := by
  have sg : Same G (upd G p (.tup vs)) := fun a q z => by rw [upd_ne (ne_of_none z (s.free n))]; exact z
  exact .inr ⟨p, _, n, rfl, rfl, .inl ⟨_, rfl, .tup upd_same r.len (r.mono sg).at_⟩⟩

theorem peek_int {i : Int} (h : Peek ca G H u (.int i)) : u = .int i := by cases h; rfl
theorem peek_str {i : Str} (h : Peek ca G H u (.str i)) : u = .str i := by cases h; rfl
theorem peek_bl {i : Bool} (h : Peek ca G H u (.bl i)) : u = .bl i := by cases h; rfl
theorem peek_non (h : Peek ca G H u .non) : u = .non := by cases h; rfl
end

/-! ### names, constants -/
section
variable {X : Cx} {ca : PySem.W.Frag} {c : CT} {W : WX}
def eVar (i : Nat) : SE := fun _ env => match env[i]? with
  | some (some (.sh d)) => some (.val (.sh d) env)
  | some (some (.why _)) => none
  | some (some _) => some (.val (.var i) env)
  | _ => none
def eC (d : D) : SE := fun _ env => some (.val (.sh d) env)
theorem p_var (i : Nat) {x : Str} {pos : Pos} (hN : X.N[i]? = some x := by rfl) (hv : Vis X.env.scope x := by first | exact Or.inl rfl | exact Or.inr (Or.inl rfl) | exact Or.inr (Or.inr rfl)) (hd : (x == ("__debug__" : Str)) = false := by decide)
    (hcd : (x == ("__classdict__" : Str)) = false := by decide) : PE X (.Name x pos) (rdE ca c W (eVar i)) := PE_weak (pv i hN hv hd hcd) (by
  rintro σ H Q ⟨b, env, G, o, R, e, post⟩
  unfold eVar at e
  split at e
  · rename_i d hs
    cases e
    obtain ⟨v, e1, r⟩ := R.slots i _ hs
    exact ⟨v, e1, post v G H R r⟩
  · cases e
  · rename_i s _ _ hs
    cases e
    obtain ⟨v, e1, r⟩ := R.slots i s hs
    exact ⟨v, e1, post v G H R ⟨e1, s, hs⟩⟩
  · cases e)
theorem p_c {e : Expr} {v : V} {d : D} (h : PE X e (tC v)) (r : ∀ G, Rep ca G v d) : PE X e (rdE ca c W (eC d)) := PE_weak h (by
  rintro σ H Q ⟨b, env, G, o, R, e, post⟩
  cases e
  exact post v G H R (r G))
theorem p_int {i j pos} : PE X (.Constant (.int i) j pos) (rdE ca c W (eC (.int i))) := p_c pe_int fun _ => .int i
theorem p_bl {i j pos} : PE X (.Constant (.bool i) j pos) (rdE ca c W (eC (.bl i))) := p_c pe_bl fun _ => .bl i
theorem p_non {j pos} : PE X (.Constant .none j pos) (rdE ca c W (eC .non)) := p_c pe_non fun _ => .non
theorem p_str {i j pos} : PE X (.Constant (.str i) j pos) (rdE ca c W (eC (.str i))) := p_c pe_str fun _ => .str i
theorem p_gstr {x : Str} {z : Str} {pos : Pos} (hg : Gl X x) (hm : ∃ t, X.mg x = some (.str z t)) (hd : (x == ("__debug__" : Str)) = false := by decide) : PE X (.Name x pos) (rdE ca c W (eC (.str z))) := by
  obtain ⟨t, hm⟩ := hm
  exact p_c (pe_glob (v := .str z) hg hm ⟨t, rfl⟩ hd) fun _ => .str z
theorem p_gint {x : Str} {z : Int} {pos : Pos} (hg : Gl X x) (hm : ∃ t, X.mg x = some (.int z t)) (hd : (x == ("__debug__" : Str)) = false := by decide) : PE X (.Name x pos) (rdE ca c W (eC (.int z))) := by
  obtain ⟨t, hm⟩ := hm
  exact p_c (pe_glob (v := .int z) hg hm ⟨t, rfl⟩ hd) fun _ => .int z

/-! ### operations -/
def eUn (g : D → Option Val) (fa : SE) : SE := fun c env => bindV (fa c env) fun va e1 => (peek e1 va).bind fun da => (g da).map fun r => .val r e1
def eBin (g : D → D → Option Val) (fa fb : SE) : SE := fun c env => bindV (fa c env) fun va e1 => bindV (fb c e1) fun vb e2 => (peek e2 va).bind fun da => (peek e2 vb).bind fun db => (g da db).map fun r => .val r e2
theorem bin_in {r : R2} {g : D → D → Option Val} {fa fb : SE} (br : BinR ca r g) : ∀ σ H Q, rdE ca c W (eBin g fa fb) σ H Q → tOp r (rdE ca c W fa) (rdE ca c W fb) σ H Q := by
  rintro σ H Q ⟨b, env, G, o, R, e, post⟩
  refine rd_bind R e post fun va e1 u G1 H1 _ R1 hd sg e => ?_
  refine rd_bind R1 e post fun vb e2 w G2 H2 _ R2 hd2 sg2 e => ?_
  cases ea : peek e2 va with
  | none => rw [ea] at e; cases e
  | some da =>
    cases eb : peek e2 vb with
    | none => rw [ea, eb] at e; cases e
    | some db =>
      cases eg : g da db with
      | none => rw [ea, eb] at e; simp [eg] at e
      | some r' =>
        rw [ea, eb] at e
        simp [eg] at e
        subst e
        refine br G2 H2 u w da db r' Q R2.sub ((hd.mono sg2).peek R2 ea) (hd2.peek R2 eb) eg fun z H3 out => ?_
        obtain ⟨G3, sg3, R3, vr⟩ := out.at R2
        exact post z G3 H3 R3 vr
theorem una_in {r : V → Hp → VK → Prop} {g : D → Option Val} {fa : SE} (br : UnaR ca r g) : ∀ σ H Q, rdE ca c W (eUn g fa) σ H Q → rdE ca c W fa σ H (fun x H1 => r x H1 Q) := by
  rintro σ H Q ⟨b, env, G, o, R, e, post⟩
  refine rd_bind R e post fun va e1 u G1 H1 _ R1 hd sg e => ?_
  cases ea : peek e1 va with
  | none => rw [ea] at e; cases e
  | some da =>
    cases eg : g da with
    | none => rw [ea] at e; simp [eg] at e
    | some r' =>
      rw [ea] at e
      simp [eg] at e
      subst e
      refine br G1 H1 u da r' Q R1.sub (hd.peek R1 ea) eg fun z H3 out => ?_
      obtain ⟨G3, sg3, R3, vr⟩ := out.at R1
      exact post z G3 H3 R3 vr
variable {a b' : Expr} {fa fb fc : SE} {pos : Pos}
theorem p_bin {op : Operator} {r : R2} {g : D → D → Option Val} (ho : OpR X (binaryOp op) r) (br : BinR ca r g) (ha : PE X a (rdE ca c W fa)) (hb : PE X b' (rdE ca c W fb)) : PE X (.BinOp a op b' pos) (rdE ca c W (eBin g fa fb)) :=
  PE_weak (pe_op ho ha hb) (bin_in br)
theorem p_un {op : UnaryOp} {r : V → Hp → VK → Prop} {g : D → Option Val} (ho : UnR X (unaryOp op) r) (br : UnaR ca r g) (ha : PE X a (rdE ca c W fa)) : PE X (.UnaryOp op a pos) (rdE ca c W (eUn g fa)) :=
  PE_weak (pe_un ho ha) (una_in br)
theorem p_cmp {op : CmpOp} {r : R2} {g : D → D → Option Val} (ho : OpR X (compareOp op) r) (br : BinR ca r g) (ha : PE X a (rdE ca c W fa)) (hb : PE X b' (rdE ca c W fb)) (hm : behindInMarks op b' = false) : PE X (.Compare a [op] [b'] pos) (rdE ca c W (eBin g fa fb)) :=
  PE_weak (pe_cmpR ho ha hb hm) (bin_in br)
/-- a test's reading, as a value's -/
theorem test_in {f : SE} : ∀ σ H Q, rdT ca c W f σ H Q → rdE ca c W f σ H (fun x H1 => ∃ k, x = .bl k ∧ Q k H1) := by
  rintro σ H Q ⟨b, env, G, o, R, e, post⟩
  refine ⟨b, env, G, o, R, e, ?_⟩
  cases o with
  | exc x e' => exact post
  | val v e' =>
    cases v with
    | sh d =>
      cases d with
      | bl k =>
        intro u G' H' R' vr
        cases vr
        exact ⟨k, rfl, post G' H' R'⟩
      | _ => exact post.elim
    | _ => exact post.elim
theorem t_cmp {op : CmpOp} {r : R2} {g : D → D → Option Val} (ho : OpR X (compareOp op) r) (br : BinR ca r g) (ha : PE X a (rdE ca c W fa)) (hb : PE X b' (rdE ca c W fb)) (hm : behindInMarks op b' = false) : PT X (.Compare a [op] [b'] pos) (rdT ca c W (eBin g fa fb)) :=
  PT_weak (pt_cmpR ho ha hb hm) fun σ H Q h => bin_in br σ H _ (test_in σ H Q h)
theorem t_val {e : Expr} {f : SE} (h : PE X e (rdE ca c W f)) (he : ∀ whole, isTrue e X.env whole = (do let v ← whole; standAt e.pos; holding [v] (truthy v)) := by intro _; rfl) : PT X e (rdT ca c W f) :=
  PT_weak (pt_val h he) test_in
/-- a op1 b op2 c -/
def eChain (g g' : D → D → Option Val) (fa fb fc : SE) : SE := fun c env => bindV (fa c env) fun va e1 => bindV (fb c e1) fun vb e2 => (peek e2 va).bind fun da => (peek e2 vb).bind fun db => match g da db with
  | some (.sh (.bl true)) => bindV (fc c e2) fun vc e3 => (peek e3 vb).bind fun db' => (peek e3 vc).bind fun dc => (g' db' dc).map fun r => .val r e3
  | some (.sh (.bl false)) => some (.val (.sh (.bl false)) e2)
  | _ => none
theorem chain_in {r r' : R2} {g g' : D → D → Option Val} (br : BinR ca r g) (br' : BinR ca r' g') : ∀ σ H Q, rdE ca c W (eChain g g' fa fb fc) σ H Q → tChain r r' (rdE ca c W fa) (rdE ca c W fb) (rdE ca c W fc) σ H Q := by
  rintro σ H Q ⟨b, env, G, o, R, e, post⟩
  refine rd_bind R e post fun va e1 u G1 H1 _ R1 hd sg e => ?_
  refine rd_bind R1 e post fun vb e2 w G2 H2 _ R2 hd2 sg2 e => ?_
  cases ea : peek e2 va with
  | none => rw [ea] at e; cases e
  | some da =>
    cases eb : peek e2 vb with
    | none => rw [ea, eb] at e; cases e
    | some db =>
      rw [ea, eb] at e
      simp only [Option.bind_some] at e
      split at e
      · rename_i eg
        refine br G2 H2 u w da db _ _ R2.sub ((hd.mono sg2).peek R2 ea) (hd2.peek R2 eb) eg fun z H3 out => ?_
        obtain ⟨G3, sg3, R3, vr⟩ := out.at R2
        cases vr
        refine ⟨true, rfl, ?_⟩
        rw [if_pos rfl]
        refine rd_bind R3 e post fun vc e4 y G4 H4 _ R4 hd4 sg4 e => ?_
        cases ec : peek e4 vb with
        | none => rw [ec] at e; cases e
        | some db' =>
          cases ed : peek e4 vc with
          | none => rw [ec, ed] at e; cases e
          | some dc =>
            cases eg' : g' db' dc with
            | none => rw [ec, ed] at e; simp [eg'] at e
            | some r2 =>
              rw [ec, ed] at e
              simp [eg'] at e
              subst e
              refine br' G4 H4 w y db' dc r2 Q R4.sub (((hd2.mono sg3).mono sg4).peek R4 ec) (hd4.peek R4 ed) eg' fun z H5 out => ?_
              obtain ⟨G5, sg5, R5, vr5⟩ := out.at R4
              exact post z G5 H5 R5 vr5
      · rename_i eg
        cases e
        refine br G2 H2 u w da db _ _ R2.sub ((hd.mono sg2).peek R2 ea) (hd2.peek R2 eb) eg fun z H3 out => ?_
        obtain ⟨G3, sg3, R3, vr⟩ := out.at R2
        cases vr
        refine ⟨false, rfl, ?_⟩
        rw [if_neg Bool.false_ne_true]
        exact post _ G3 H3 R3 (.bl false)
      · cases e
theorem p_chain {b c' : Expr} {op op' : CmpOp} {r r' : R2} {g g' : D → D → Option Val} (ho : OpR X (compareOp op) r) (br : BinR ca r g) (ho' : OpR X (compareOp op') r') (br' : BinR ca r' g') (ha : PE X a (rdE ca c W fa)) (hb : PE X b (rdE ca c W fb)) (hc : PE X c' (rdE ca c W fc))
    (hm : lastMarks [op, op'] [b, c'] = false := by with_unfolding_all rfl) : PE X (.Compare a [op, op'] [b, c'] pos) (rdE ca c W (eChain g g' fa fb fc)) := PE_weak (pe_chain ho ho' ha hb hc hm) (chain_in br br')
theorem t_chain {b c' : Expr} {op op' : CmpOp} {r r' : R2} {g g' : D → D → Option Val} (ho : OpR X (compareOp op) r) (br : BinR ca r g) (ho' : OpR X (compareOp op') r') (br' : BinR ca r' g') (ha : PE X a (rdE ca c W fa)) (hb : PE X b (rdE ca c W fb)) (hc : PE X c' (rdE ca c W fc))
    (hm : lastMarks [op, op'] [b, c'] = false := by with_unfolding_all rfl) : PT X (.Compare a [op, op'] [b, c'] pos) (rdT ca c W (eChain g g' fa fb fc)) := PT_weak (pt_chain ho ho' ha hb hc hm) fun σ H Q h => chain_in br br' σ H _ (test_in σ H Q h)

/-! ### and, or, not, if -/
def eAnd (fa fb : SE) : SE := fun c env => match fa c env with
  | some (.val (.sh (.bl true)) e) => fb c e
  | some (.val (.sh (.bl false)) e) => some (.val (.sh (.bl false)) e)
  | some (.exc x e) => some (.exc x e)
  | _ => none
def eOr (fa fb : SE) : SE := fun c env => match fa c env with
  | some (.val (.sh (.bl true)) e) => some (.val (.sh (.bl true)) e)
  | some (.val (.sh (.bl false)) e) => fb c e
  | some (.exc x e) => some (.exc x e)
  | _ => none
def eNot (fa : SE) : SE := fun c env => match fa c env with
  | some (.val (.sh (.bl k)) e) => some (.val (.sh (.bl (!k))) e)
  | some (.exc x e) => some (.exc x e)
  | _ => none
def eIf (ft fa fb : SE) : SE := fun c env => match ft c env with
  | some (.val (.sh (.bl true)) e) => fa c e
  | some (.val (.sh (.bl false)) e) => fb c e
  | some (.exc x e) => some (.exc x e)
  | _ => none
/-- a test first -/
theorem rdT_use {b : Bs} {env : Env} {σ : St} {G H : Hp} {f : SE} {o : EO} {Q : Bool → Hp → Prop} (R : Rel ca b env σ G H) (e : f c env = some o)
    (h : match o with
      | .val (.sh (.bl k)) env' => ∀ G' H', Rel ca b env' σ G' H' → Same G G' → Stays (ca := ca) env σ G H G' H' → Q k H'
      | .exc x env' => ∀ cls d G' H', Rel ca b env' σ G' H' → ExcRel ca G' H' cls d x → W cls d σ H'
      | _ => False) : rdT ca c W f σ H Q := by
  refine ⟨Pd.rb ca env σ G H, env, G, o, R.rb, e, ?_⟩
  cases o with
  | exc x e' => exact fun cls d G' H' R' r => h cls d G' H' (R.unrb R') r
  | val v e' =>
    cases v with
    | sh d =>
      cases d with
      | bl k => exact fun G' H' R' => h G' H' (R.unrb R') R'.g0 (Rel.stays R')
      | _ => exact h.elim
    | _ => exact h.elim
theorem t_and1 (ha : PT X a (rdT ca c W fa)) : PW X (.BoolOp .And [a] pos) (rdT ca c W fa) := pw_and1 ha
theorem t_or1 (ha : PT X a (rdT ca c W fa)) : PW X (.BoolOp .Or [a] pos) (rdT ca c W fa) := pw_or1 ha
theorem PW_weak {e : Expr} {t t' : TT} (h : PW X e t) (w : ∀ σ H Q, t' σ H Q → t σ H Q) : PW X e t' := ⟨fun wh pins s σ H Q I q => h.run wh pins s σ H Q I (w σ H Q q)⟩
theorem and_in : ∀ σ H Q, rdT ca c W (eAnd fa fb) σ H Q → tAnd (rdT ca c W fa) (rdT ca c W fb) σ H Q := by
  rintro σ H Q ⟨b, env, G, o, R, e, post⟩
  unfold eAnd at e
  split at e
  · rename_i e1 ea
    refine rdT_use R ea fun G' H' R' _ _ => ?_
    rw [if_pos rfl]
    exact ⟨b, e1, G', o, R', e, post⟩
  · rename_i e1 ea
    cases e
    refine rdT_use R ea fun G' H' R' _ _ => ?_
    rw [if_neg Bool.false_ne_true]
    exact post G' H' R'
  · rename_i x e1 ea
    cases e
    exact rdT_use R ea post
  · cases e
theorem or_in : ∀ σ H Q, rdT ca c W (eOr fa fb) σ H Q → tOr (rdT ca c W fa) (rdT ca c W fb) σ H Q := by
  rintro σ H Q ⟨b, env, G, o, R, e, post⟩
  unfold eOr at e
  split at e
  · rename_i e1 ea
    cases e
    refine rdT_use R ea fun G' H' R' _ _ => ?_
    rw [if_pos rfl]
    exact post G' H' R'
  · rename_i e1 ea
    refine rdT_use R ea fun G' H' R' _ _ => ?_
    rw [if_neg Bool.false_ne_true]
    exact ⟨b, e1, G', o, R', e, post⟩
  · rename_i x e1 ea
    cases e
    exact rdT_use R ea post
  · cases e
variable {rest : List Expr}
theorem t_and (ha : PT X a (rdT ca c W fa)) (hb : PW X (.BoolOp .And (b' :: rest) pos) (rdT ca c W fb)) : PW X (.BoolOp .And (a :: b' :: rest) pos) (rdT ca c W (eAnd fa fb)) := PW_weak (pw_and ha hb) and_in
theorem t_or (ha : PT X a (rdT ca c W fa)) (hb : PW X (.BoolOp .Or (b' :: rest) pos) (rdT ca c W fb)) : PW X (.BoolOp .Or (a :: b' :: rest) pos) (rdT ca c W (eOr fa fb)) := PW_weak (pw_or ha hb) or_in
theorem t_not (ha : PT X a (rdT ca c W fa)) : PT X (.UnaryOp .Not a pos) (rdT ca c W (eNot fa)) := PT_weak (pt_not ha) (by
  rintro σ H Q ⟨b, env, G, o, R, e, post⟩
  unfold eNot at e
  split at e
  · rename_i k e1 ea
    cases e
    exact rdT_use R ea fun G' H' R' _ _ => post G' H' R'
  · rename_i x e1 ea
    cases e
    exact rdT_use R ea post
  · cases e)
/-- .. as values -/
theorem andV_in : ∀ σ H Q, rdE ca c W (eAnd fa fb) σ H Q → tAndV (rdE ca c W fa) (rdE ca c W fb) σ H Q := by
  rintro σ H Q ⟨b, env, G, o, R, e, post⟩
  unfold eAnd at e
  split at e
  · rename_i e1 ea
    refine rdE.use R ea fun u G' H' R' vr _ _ => ?_
    cases vr
    refine ⟨true, rfl, ?_⟩
    rw [if_pos rfl]
    exact ⟨b, e1, G', o, R', e, post⟩
  · rename_i e1 ea
    cases e
    refine rdE.use R ea fun u G' H' R' vr _ _ => ?_
    cases vr
    refine ⟨false, rfl, ?_⟩
    rw [if_neg Bool.false_ne_true]
    exact post _ G' H' R' (.bl false)
  · rename_i x e1 ea
    cases e
    exact rdE.use R ea post
  · cases e
theorem p_one {op} {f : SE} (h : PE X a (rdE ca c W f)) : PE X (.BoolOp op [a] pos) (rdE ca c W f) := pe_one h
theorem p_and (ha : PE X a (rdE ca c W fa)) (hb : PE X (.BoolOp .And (b' :: rest) pos) (rdE ca c W fb)) : PE X (.BoolOp .And (a :: b' :: rest) pos) (rdE ca c W (eAnd fa fb)) := PE_weak (pe_and ha hb) andV_in
theorem p_not (ha : PE X a (rdE ca c W fa)) : PE X (.UnaryOp .Not a pos) (rdE ca c W (eNot fa)) := PE_weak (pe_not ha) (by
  rintro σ H Q ⟨b, env, G, o, R, e, post⟩
  unfold eNot at e
  split at e
  · rename_i k e1 ea
    cases e
    refine rdE.use R ea fun u G' H' R' vr _ _ => ?_
    cases vr
    exact ⟨k, rfl, post _ G' H' R' (.bl _)⟩
  · rename_i x e1 ea
    cases e
    exact rdE.use R ea post
  · cases e)
/-! ### arguments -/
def aNil : SA := fun _ env => some (.vals [] env)
def aCons (f : SE) (r : SA) : SA := fun c env => match f c env with
  | some (.val v e1) => (match r c e1 with
    | some (.vals vs e2) => some (.vals (v :: vs) e2)
    | some (.exc x e2) => some (.exc x e2)
    | none => none)
  | some (.exc x e1) => some (.exc x e1)
  | none => none
theorem rdA_use {b : Bs} {env : Env} {σ : St} {G H : Hp} {f : SA} {o : AO} {Q : List V → Hp → Prop} (R : Rel ca b env σ G H) (e : f c env = some o)
    (h : match o with
      | .vals vs env' => ∀ us G' H', Rel ca b env' σ G' H' → Helds ca G' σ us vs → Same G G' → Q us H'
      | .exc x env' => ∀ cls d G' H', Rel ca b env' σ G' H' → ExcRel ca G' H' cls d x → W cls d σ H') : rdA ca c W f σ H Q := by
  refine ⟨Pd.rb ca env σ G H, env, G, o, R.rb, e, ?_⟩
  cases o with
  | exc x e' => exact fun cls d G' H' R' r => h cls d G' H' (R.unrb R') r
  | vals v e' => exact fun us G' H' R' r => h us G' H' (R.unrb R') r R'.g0
variable {es : List Expr} {fs : SA}
theorem a_nil : PA X [] (rdA ca c W aNil) := PA_weak pa_nil (by
  rintro σ H Q ⟨b, env, G, o, R, e, post⟩
  cases e
  exact post [] G H R .nil)
theorem a_cons (ha : PE X a (rdE ca c W fa)) (hr : PA X es (rdA ca c W fs)) (hs : starEach (a :: es) X.env = (false, eval a X.env) :: starEach es X.env := by rfl) : PA X (a :: es) (rdA ca c W (aCons fa fs)) := PA_weak (pa_cons ha hr hs) (by
  rintro σ H Q ⟨b, env, G, o, R, e, post⟩
  unfold aCons at e
  split at e
  · rename_i v e1 ea
    refine rdE.use R ea fun u G1 H1 R1 vr sg _ => ?_
    obtain ⟨G2, sg2, R2, hd⟩ := VRel.held R1 vr
    split at e
    · rename_i vs e2 er
      cases e
      exact rdA_use R2 er fun us G3 H3 R3 hds sg3 => post _ G3 H3 R3 (.cons (hd.mono sg3) hds)
    · rename_i x e2 er
      cases e
      exact rdA_use R2 er post
    · cases e
  · rename_i x e1 ea
    cases e
    exact rdE.use R ea post
  · cases e)
def peeks (env : Env) : List Val → Option (List D)
  | [] => some []
  | v :: vs => (peek env v).bind fun d => (peeks env vs).map fun ds => d :: ds
def takes (env : Env) : List Val → Option (List D × Env)
  | [] => some ([], env)
  | v :: vs => (take env v).bind fun p => (takes p.2 vs).map fun q => (p.1 :: q.1, q.2)
theorem Helds.peeks {b : Bs} {env : Env} {σ : St} {G H : Hp} (R : Rel ca b env σ G H) : ∀ {us : List V} {vs : List Val} {ds : List D}, Helds ca G σ us vs → peeks env vs = some ds → Peeks ca G H us ds
  | _, _, _, .nil, e => by cases e; exact .nil
  | _, _, _, .cons (v := v) (vs := vs) h t, e => by
    unfold Pd.peeks at e
    cases ep : peek env v with
    | none => rw [ep] at e; cases e
    | some d =>
      rw [ep] at e
      cases er : Pd.peeks env vs with
      | none => simp [er] at e
      | some ds =>
        simp [er] at e
        subst e
        exact .cons (h.peek R ep) (Helds.peeks R t er)
theorem Helds.takes {b : Bs} {σ : St} {H : Hp} : ∀ {us : List V} {vs : List Val} {ds : List D} {env env' : Env} {G : Hp}, Rel ca b env σ G H → Helds ca G σ us vs → takes env vs = some (ds, env') → ∃ G', Same G G' ∧ Rel ca b env' σ G' H ∧ Reps ca G' us ds
  | _, _, _, _, _, G, R, .nil, e => by cases e; exact ⟨G, Same.refl _, R, .nil⟩
  | _, _, _, env, env', G, R, .cons (v := v) (vs := vs) h t, e => by
    unfold Pd.takes at e
    cases ep : take env v with
    | none => rw [ep] at e; cases e
    | some p =>
      rw [ep] at e
      cases er : Pd.takes p.2 vs with
      | none => simp [er] at e
      | some q =>
        simp [er] at e
        obtain ⟨e1, e2⟩ := e
        subst e1 e2
        obtain ⟨G1, s1, R1, r1⟩ := h.take (d := p.1) (env' := p.2) R ep
        obtain ⟨G2, s2, R2, r2⟩ := Helds.takes (ds := q.1) (env' := q.2) R1 (t.mono s1) er
        exact ⟨G2, s1.trans s2, R2, .cons (r1.mono s2) r2⟩
def bindA (o : Option AO) (k : List Val → Env → Option EO) : Option EO := match o with
  | some (.vals v e) => k v e
  | some (.exc x e) => some (.exc x e)
  | none => none
theorem rdA_bind {b : Bs} {env : Env} {σ : St} {G H : Hp} {k : List Val → Env → Option EO} {Q : VK} {Q' : List V → Hp → Prop} {o : EO} (R : Rel ca b env σ G H) (e : bindA (fs c env) k = some o) (post : EPost ca b W σ Q o)
    (h : ∀ vs e1 us G1 H1, fs c env = some (.vals vs e1) → Rel ca b e1 σ G1 H1 → Helds ca G1 σ us vs → Same G G1 → k vs e1 = some o → Q' us H1) : rdA ca c W fs σ H Q' := by
  unfold bindA at e
  split at e
  · rename_i v e1 hf
    exact rdA_use R hf fun us G1 H1 R1 hd sg => h v e1 us G1 H1 hf R1 hd sg e
  · rename_i x e1 hf
    cases e
    exact rdA_use R hf post
  · cases e

/-! ### displays -/
def eList (fs : SA) : SE := fun c env => bindA (fs c env) fun vs e1 => (takes e1 vs).bind fun p => if p.1.length ≤ sizeLine then some (.val (.fr (.lst p.1)) p.2) else none
def eTup (fs : SA) : SE := fun c env => bindA (fs c env) fun vs e1 => (takes e1 vs).bind fun p => if p.1.length ≤ sizeLine then some (.val (.sh (.tup p.1)) p.2) else none
theorem p_list (h : PA X es (rdA ca c W fs)) : PE X (.List es pos) (rdE ca c W (eList fs)) := PE_weak (pe_lst h) (by
  rintro σ H Q ⟨b, env, G, o, R, e, post⟩
  refine rdA_bind R e post fun vs e1 us G1 H1 _ R1 hd sg e => ?_
  cases et : takes e1 vs with
  | none => rw [et] at e; cases e
  | some p =>
    rw [et] at e
    simp only [Option.bind_some] at e
    split at e
    · rename_i hl
      cases e
      obtain ⟨G2, s2, R2, r2⟩ := Helds.takes (ds := p.1) (env' := p.2) R1 hd et
      refine ⟨by rw [r2.len]; exact hl, fun l hn => ?_⟩
      obtain ⟨G3, s3, R3, vr⟩ := (out_lst hn r2).at R2
      exact post _ G3 _ R3 vr
    · cases e)
theorem p_tup {x1} (h : PA X es (rdA ca c W fs)) : PE X (.Tuple es x1 pos) (rdE ca c W (eTup fs)) := PE_weak (pe_tup h) (by
  rintro σ H Q ⟨b, env, G, o, R, e, post⟩
  refine rdA_bind R e post fun vs e1 us G1 H1 _ R1 hd sg e => ?_
  cases et : takes e1 vs with
  | none => rw [et] at e; cases e
  | some p =>
    rw [et] at e
    simp only [Option.bind_some] at e
    split at e
    · rename_i hl
      cases e
      obtain ⟨G2, s2, R2, r2⟩ := Helds.takes (ds := p.1) (env' := p.2) R1 hd et
      refine ⟨by rw [r2.len]; exact hl, fun l hn => ?_⟩
      obtain ⟨G3, s3, R3, vr⟩ := (out_tup R2.sub hn r2).at R2
      exact post _ G3 _ R3 vr
    · cases e)

/-! ### built-in functions, types, methods by values -/
def eArg (g : List D → Option Val) (fs : SA) : SE := fun c env => bindA (fs c env) fun vs e1 => (peeks e1 vs).bind fun ds => (g ds).map fun r => .val r e1
theorem arg_in {r : List V → Hp → VK → Prop} {g : List D → Option Val} (br : ArgR ca r g) : ∀ σ H Q, rdE ca c W (eArg g fs) σ H Q → tCB r (rdA ca c W fs) σ H Q := by
  rintro σ H Q ⟨b, env, G, o, R, e, post⟩
  refine rdA_bind R e post fun vs e1 us G1 H1 _ R1 hd sg e => ?_
  cases ep : peeks e1 vs with
  | none => rw [ep] at e; cases e
  | some ds =>
    rw [ep] at e
    cases eg : g ds with
    | none => simp [eg] at e
    | some v =>
      simp [eg] at e
      subst e
      refine br G1 H1 us ds v Q R1.sub (hd.peeks R1 ep) eg fun z H3 out => ?_
      obtain ⟨G3, sg3, R3, vr⟩ := out.at R1
      exact post z G3 H3 R3 vr
variable {x : Str} {p : Pos} {id T : String} {r : List V → Hp → VK → Prop} {g : List D → Option Val}
theorem p_callB (hc : CallR X (.builtin id) r) (br : ArgR ca r g) (hg : Gl X x) (hm : X.mg x = none) (hv : bootBuiltins x = some (.builtin id)) (ha : PA X (a :: es) (rdA ca c W fs)) (hn : x ≠ "__name__" := by decide) (hdb : (x == ("__debug__" : Str)) = false := by decide)
    (he : starEach (a :: es) X.env = (false, eval a X.env) :: starEach es X.env := by rfl) (hpl : (backTo pos (starEach es X.env)).any (·.1) = false := by rfl) : PE X (.Call (.Name x p) (a :: es) [] pos) (rdE ca c W (eArg g fs)) :=
  PE_weak (pe_callB hc hg hm hv ha hn hdb he hpl) (arg_in br)
theorem p_callTy (hc : CallR X (.type T) r) (br : ArgR ca r g) (hg : Gl X x) (hm : X.mg x = none) (hv : bootBuiltins x = some (.type T)) (ha : PA X (a :: es) (rdA ca c W fs)) (hn : x ≠ "__name__" := by decide) (hdb : (x == ("__debug__" : Str)) = false := by decide)
    (he : starEach (a :: es) X.env = (false, eval a X.env) :: starEach es X.env := by rfl) (hpl : (backTo pos (starEach es X.env)).any (·.1) = false := by rfl) : PE X (.Call (.Name x p) (a :: es) [] pos) (rdE ca c W (eArg g fs)) :=
  PE_weak (pe_callTy hc hg hm hv ha hn hdb he hpl) (arg_in br)
theorem p_ix {b : Expr} {r : R2} {g : D → D → Option Val} (hr : IxR X r) (br : BinR ca r g) (ha : PE X a (rdE ca c W fa)) (hb : PE X b (rdE ca c W fb)) (hs : PlainIx b) : PE X (.Subscript a b pos) (rdE ca c W (eBin g fa fb)) :=
  PE_weak (pe_ix hr ha hb hs) (bin_in br)

/-! ### slices -/
def bindP (lo : Option SE) (c : CT) (env : Env) (k : Option Int → Env → Option EO) : Option EO := match lo with
  | none => k none env
  | some f => bindV (f c env) fun v e1 => match v with
    | .sh (.int i) => k (some i) e1
    | _ => none
def eSl (g : D → Option Int → Option Int → Option Val) (fa : SE) (lo hi : Option SE) : SE := fun c env => bindV (fa c env) fun va e1 => bindP lo c e1 fun l e2 => bindP hi c e2 fun h e3 =>
  (peek e3 va).bind fun d => (g d l h).map fun r => .val r e3
def SlcR (ca : PySem.W.Frag) (r : V → Option Int → Option Int → Hp → VK → Prop) (g : D → Option Int → Option Int → Option Val) : Prop :=
  ∀ (G H : Hp) (x : V) (dx : D) (l h : Option Int) (v : Val) (Q : VK), Same G H → Peek ca G H x dx → g dx l h = some v → (∀ u H', OpOut ca G H u H' v → Q u H') → r x l h H Q
inductive POk (X : Cx) (ca : PySem.W.Frag) (c : CT) (W : WX) : Option Expr → Option SE → TO → Prop
  | nil : POk X ca c W none none tNoPart
  | one {e : Expr} {f : SE} (h : PE X e (rdE ca c W f)) : POk X ca c W (some e) (some f) (tPart (rdE ca c W f))
theorem POk.po {e : Option Expr} {f : Option SE} {t : TO} (h : POk X ca c W e f t) : PO X e t := by
  cases h with
  | nil => exact po_none
  | one h => exact po_some h
theorem POk.uses {e : Option Expr} {f : Option SE} {t : TO} (h : POk X ca c W e f t) {b : Bs} {env : Env} {σ : St} {G H : Hp} {k : Option Int → Env → Option EO} {Q : VK} {Q' : Option Int → Hp → Prop} {o : EO} (R : Rel ca b env σ G H)
    (e : bindP f c env k = some o) (post : EPost ca b W σ Q o) (hh : ∀ l e1 G1 H1, Rel ca b e1 σ G1 H1 → Same G G1 → k l e1 = some o → Q' l H1) : t σ H Q' := by
  cases h with
  | nil => exact hh none env G H R (Same.refl _) e
  | one h =>
    refine rd_bind R e post fun v e1 u G1 H1 _ R1 hd sg e => ?_
    cases v with
    | sh d =>
      cases d with
      | int i =>
        cases hd
        exact ⟨i, rfl, hh (some i) e1 G1 H1 R1 sg e⟩
      | _ => cases e
    | _ => cases e
theorem p_slice {el eh : Option Expr} {lo hi : Option SE} {tl th : TO} {p2 : Pos} {r : V → Option Int → Option Int → Hp → VK → Prop} {g : D → Option Int → Option Int → Option Val} (hr : SlR X r) (br : SlcR ca r g) (ha : PE X a (rdE ca c W fa)) (hl : POk X ca c W el lo tl) (hh : POk X ca c W eh hi th) :
    PE X (.Subscript a (.Slice el eh none p2) pos) (rdE ca c W (eSl g fa lo hi)) := PE_weak (pe_slice hr ha hl.po hh.po) (by
  rintro σ H Q ⟨b, env, G, o, R, e, post⟩
  refine rd_bind R e post fun va e1 u G1 H1 _ R1 hd sg e => ?_
  refine hl.uses R1 e post fun l e2 G2 H2 R2 sg2 e => ?_
  refine hh.uses R2 e post fun h e3 G3 H3 R3 sg3 e => ?_
  cases ea : peek e3 va with
  | none => rw [ea] at e; cases e
  | some da =>
    cases eg : g da l h with
    | none => rw [ea] at e; simp [eg] at e
    | some r' =>
      rw [ea] at e
      simp [eg] at e
      subst e
      refine br G3 H3 u da l h r' Q R3.sub (((hd.mono sg2).mono sg3).peek R3 ea) eg fun z H4 out => ?_
      obtain ⟨G4, sg4, R4, vr⟩ := out.at R3
      exact post z G4 H4 R4 vr)
end
end Pd
/-! Pd4: statements -/
namespace Pd
open PySem PySem.Spec L2
variable [Ext]
section
variable {X : Cx} {ca : PySem.W.Frag} {c : CT} {W : WX} {pos : Pos}
/-- a statement's use -/
theorem rdS_use {b : Bs} {env : Env} {σ : St} {G H : Hp} {f : SS} {o : SO} {Dn : Ends} (R : Rel ca b env σ G H) (e : f c env = some o)
    (h : match o with
      | .nx env' => ∀ σ' G' H', Rel ca b env' σ' G' H' → Same G G' → Stays (ca := ca) env σ G H G' H' → Dn.nx σ' H'
      | .ct env' => ∀ σ' G' H', Rel ca b env' σ' G' H' → Same G G' → Dn.ct σ' H'
      | .brk env' => ∀ σ' G' H', Rel ca b env' σ' G' H' → Same G G' → Dn.bk σ' H'
      | .ret r env' => ∀ u σ' G' H', Rel ca b env' σ' G' H' → RRel ca b env' σ' G' H' u r → Dn.rt u H'
      | .exc x env' => ∀ cls d σ' G' H', Rel ca b env' σ' G' H' → ExcRel ca G' H' cls d x → W cls d σ' H') : rdS ca c W f Dn σ H := by
  refine ⟨Pd.rb ca env σ G H, env, G, o, R.rb, e, ?_⟩
  cases o with
  | nx env' => exact fun σ' G' H' R' => h σ' G' H' (R.unrb R') R'.g0 (Rel.stays R')
  | ct env' => exact fun σ' G' H' R' => h σ' G' H' (R.unrb R') R'.g0
  | brk env' => exact fun σ' G' H' R' => h σ' G' H' (R.unrb R') R'.g0
  | ret r env' => exact fun u σ' G' H' R' q => h u σ' G' H' (R.unrb R') (RRel.unrb R q)
  | exc x env' => exact fun cls d σ' G' H' R' q => h cls d σ' G' H' (R.unrb R') q

/-! ### blocks -/
def sNil : SS := fun _ env => some (.nx env)
def sSeq (f g : SS) : SS := fun c env => match f c env with
  | some (.nx e) => g c e
  | o => o
theorem s_nil : PSs X [] (rdS ca c W sNil) := PSs_weak pss_nil (by
  rintro D σ H ⟨b, env, G, o, R, e, post⟩
  cases e
  exact post σ G H R)
theorem s_cons {st : Stmt} {rest : List Stmt} {f g : SS} (h1 : PS X st (rdS ca c W f)) (h2 : PSs X rest (rdS ca c W g)) : PSs X (st :: rest) (rdS ca c W (sSeq f g)) := PSs_weak (pss_cons h1 h2) (by
  rintro D σ H ⟨b, env, G, o, R, e, post⟩
  unfold sSeq at e
  cases ef : f c env with
  | none => rw [ef] at e; cases e
  | some o1 =>
    rw [ef] at e
    refine rdS_use R ef ?_
    cases o1 with
    | nx e1 => exact fun σ' G' H' R' _ _ => ⟨b, e1, G', o, R', e, post⟩
    | ret r e1 => cases e; exact post
    | brk e1 => cases e; exact fun σ' G' H' R' _ => post σ' G' H' R'
    | ct e1 => cases e; exact fun σ' G' H' R' _ => post σ' G' H' R'
    | exc x e1 => cases e; exact post)
theorem s_one {st : Stmt} {f : SS} (h1 : PS X st (rdS ca c W f)) : PSs X [st] (rdS ca c W f) := pss_one h1
def sBrk : SS := fun _ env => some (.brk env)
def sCt : SS := fun _ env => some (.ct env)
/-- never reached -/
def sNever : SS := fun _ _ => none
theorem s_never {st : Stmt} : PS X st (rdS ca c W sNever) := PS_weak ps_never (by
  rintro D σ H ⟨b, env, G, o, R, e, post⟩
  cases e)
/-- an expression's value in a statement -/
def bindS (o : Option EO) (k : Val → Env → Option SO) : Option SO := match o with
  | some (.val v e) => k v e
  | some (.exc x e) => some (.exc x e)
  | none => none
theorem rdS_bind {f : SE} {b : Bs} {env : Env} {σ : St} {G H : Hp} {k : Val → Env → Option SO} {Q' : VK} {o : SO} {Dn : Ends} (R : Rel ca b env σ G H) (e : bindS (f c env) k = some o) (post : SPost ca b W Dn o)
    (h : ∀ v e1 u G1 H1, f c env = some (.val v e1) → Rel ca b e1 σ G1 H1 → VRel ca b e1 σ G1 H1 u v → Same G G1 → k v e1 = some o → Q' u H1) : rdE ca c W f σ H Q' := by
  unfold bindS at e
  split at e
  · rename_i v e1 hf
    exact rdE.use R hf fun u G1 H1 R1 r sg _ => h v e1 u G1 H1 hf R1 r sg e
  · rename_i x e1 hf
    cases e
    exact rdE.use R hf fun cls d G' H' R' q => post cls d σ G' H' R' q
  · cases e
def sIf (ft : SE) (f g : SS) : SS := fun c env => bindS (ft c env) fun v e => match v with
  | .sh (.bl true) => f c e
  | .sh (.bl false) => g c e
  | _ => none
theorem s_if {t : Expr} {a b : List Stmt} {ft : SE} {f g : SS} (ht : PT X t (rdT ca c W ft)) (ha : PSs X a (rdS ca c W f)) (hb : PSs X b (rdS ca c W g)) : PS X (.If t a b pos) (rdS ca c W (sIf ft f g)) := PS_weak (ps_if ht ha hb) (by
  rintro D σ H ⟨b, env, G, o, R, e, post⟩
  unfold sIf bindS at e
  split at e
  · rename_i v e1 hf
    dsimp only at e
    split at e
    · refine rdT_use R hf fun G' H' R' _ _ => ?_
      rw [if_pos rfl]
      exact ⟨b, e1, G', o, R', e, post⟩
    · refine rdT_use R hf fun G' H' R' _ _ => ?_
      rw [if_neg Bool.false_ne_true]
      exact ⟨b, e1, G', o, R', e, post⟩
    · cases e
  · rename_i x e1 hf
    cases e
    exact rdT_use R hf fun cls d G' H' R' q => post cls d σ G' H' R' q
  · cases e)
def sExpr (f : SE) : SS := fun c env => bindS (f c env) fun _ e => some (.nx e)
theorem s_expr {e : Expr} {f : SE} (he : PE X e (rdE ca c W f)) (hs : swapsWith e none pos.line X.env = pure false := by rfl) : PS X (.Expr e pos) (rdS ca c W (sExpr f)) := PS_weak (ps_expr he hs) (by
  rintro D σ H ⟨b, env, G, o, R, e, post⟩
  refine rdS_bind R e post fun v e1 u G1 H1 _ R1 vr sg e => ?_
  cases e
  exact post σ G1 H1 R1)
/-- what is handed back -/
def retV (env : Env) : Val → Option (RV × Env)
  | .sh d => some (.sh d, env)
  | .fr cl => some (.fr cl, env)
  | .var i => match env[i]? with
    | some (some (.sh d)) => some (.sh d, env)
    | some (some (.own cl)) => some (.fr cl, env.set i none)
    | _ => none
theorem VRel.ret {b : Bs} {env env' : Env} {σ : St} {G H : Hp} {u : V} {v : Val} {r : RV} (R : Rel ca b env σ G H) (h : VRel ca b env σ G H u v) (e : retV env v = some (r, env')) : Rel ca b env' σ G H ∧ RRel ca b env' σ G H u r := by
  cases v with
  | sh d => cases e; exact ⟨R, h⟩
  | fr cl => cases e; exact ⟨R, h⟩
  | var i =>
    obtain ⟨h1, _⟩ := h
    unfold retV at e
    simp only at e
    split at e
    · rename_i d hs
      cases e
      obtain ⟨w, e1, r⟩ := R.slots i _ hs
      rw [h1] at e1; cases e1
      exact ⟨R, r⟩
    · rename_i cl hs
      cases e
      obtain ⟨w, e1, a, ev, cr, n, z⟩ := R.slots i _ hs
      rw [h1] at e1; cases e1
      subst ev
      exact ⟨R.drop i, R.dropFree hs h1⟩
    · cases e
def sRet (f : SE) : SS := fun c env => bindS (f c env) fun v e => (retV e v).map fun p => .ret p.1 p.2
theorem s_ret {e : Expr} {f : SE} (he : PE X e (rdE ca c W f)) : PS X (.Return (some e) pos) (rdS ca c W (sRet f)) := PS_weak (ps_ret he) (by
  rintro D σ H ⟨b, env, G, o, R, e, post⟩
  refine rdS_bind R e post fun v e1 u G1 H1 _ R1 vr sg e => ?_
  cases er : retV e1 v with
  | none => rw [er] at e; cases e
  | some p =>
    rw [er] at e
    cases e
    obtain ⟨R2, rr⟩ := VRel.ret (r := p.1) (env' := p.2) R1 vr er
    exact post u σ G1 H1 R2 rr)
def sRetN : SS := fun _ env => some (.ret (.sh .non) env)
/-! ### names are stored -/
def setV (env : Env) (i : Nat) : Val → Option Env
  | .sh d => match env[i]? with
    | some (some (.brw _)) => none
    | _ => some (env.set i (some (.sh d)))
  | .fr cl => match env[i]? with
    | some (some (.brw _)) => none
    | _ => some (env.set i (some (.own cl)))
  | .var j => match take env (.var j) with
    | some (d, env') => (match env'[i]? with
      | some (some (.brw _)) => none
      | _ => some (env'.set i (some (.sh d))))
    | none => none
theorem setSh_at {env : Env} {σ : St} {i j : Nat} {d : D} {u : V} {s : Slot} (es : (env.set i (some (Slot.sh d)))[j]? = some (some s)) (m : s.mut = true) : env[j]? = some (some s) ∧ (σ.set i (some u))[j]? = σ[j]? := by
  by_cases hj : i = j
  · subst hj
    have hi : i < env.length := by
      have := (List.getElem?_eq_some_iff.mp es).1
      simpa using this
    rw [List.getElem?_set_self hi] at es; cases es; cases m
  · rw [List.getElem?_set_ne hj] at es; exact ⟨es, by rw [List.getElem?_set_ne hj]⟩
theorem Rel.setSh {b : Bs} {env : Env} {σ : St} {G H : Hp} {u : V} {d : D} (R : Rel ca b env σ G H) (r : Rep ca G u d) (i : Nat) : Rel ca b (env.set i (some (.sh d))) (σ.set i (some u)) G H := by
  have hl := R.len
  refine ⟨R.sub, R.g0, R.fr, R.dom, R.new, by simpa using R.len, fun j s es => ?_, fun j k s t x hjk e1 e2 m1 m2 => ?_, ⟨fun j s a x e m ea => ?_, fun j c a x e ea => ?_, fun j c a x e ea => ?_, fun j k s t a p x h e1 e2 m1 m2 ea ep => ?_⟩⟩
  · by_cases hj : i = j
    · subst hj
      have hi : i < env.length := by
        have := (List.getElem?_eq_some_iff.mp es).1
        simpa using this
      rw [List.getElem?_set_self hi] at es; cases es
      exact ⟨u, by rw [List.getElem?_set_self (by omega)], r⟩
    · rw [List.getElem?_set_ne hj] at es
      obtain ⟨v, e1, q⟩ := R.slots j s es
      exact ⟨v, by rw [List.getElem?_set_ne hj]; exact e1, q⟩
  · obtain ⟨f1, g1⟩ := setSh_at (σ := σ) (u := u) e1 m1
    obtain ⟨f2, g2⟩ := setSh_at (σ := σ) (u := u) e2 m2
    rw [g1, g2]
    exact R.apart j k s t x hjk f1 f2 m1 m2
  · obtain ⟨f1, g1⟩ := setSh_at (σ := σ) (u := u) e m
    rw [g1] at ea
    exact R.deep.nf j s a x f1 m ea
  · obtain ⟨f1, g1⟩ := setSh_at (σ := σ) (u := u) e rfl
    rw [g1] at ea
    exact R.deep.own j c a x f1 ea
  · obtain ⟨f1, g1⟩ := setSh_at (σ := σ) (u := u) e rfl
    rw [g1] at ea
    exact R.deep.brw j c a x f1 ea
  · obtain ⟨f1, g1⟩ := setSh_at (σ := σ) (u := u) e1 m1
    obtain ⟨f2, g2⟩ := setSh_at (σ := σ) (u := u) e2 m2
    rw [g1] at ea
    rw [g2] at ep
    exact R.deep.ap j k s t a p x h f1 f2 m1 m2 ea ep
theorem Rel.setOwn {b : Bs} {env : Env} {σ : St} {G H : Hp} {u : V} {cl : Cell} (R : Rel ca b env σ G H) (r : VRel ca b env σ G H u (.fr cl)) (i : Nat) : Rel ca b (env.set i (some (.own cl))) (σ.set i (some u)) G H := by
  have hl := R.len
  obtain ⟨a, rfl, cr, n, z, ap, su⟩ := r
  have at_ : ∀ {j : Nat} {s : Slot} {p : Addr}, (env.set i (some (Slot.own cl)))[j]? = some (some s) → (σ.set i (some (V.ref a)))[j]? = some (some (V.ref p)) → (j = i ∧ s = .own cl ∧ p = a) ∨ (j ≠ i ∧ env[j]? = some (some s) ∧ σ[j]? = some (some (V.ref p))) := fun {j s p} es ep => by
    by_cases hj : i = j
    · subst hj
      have hi : i < env.length := by
        have := (List.getElem?_eq_some_iff.mp es).1
        simpa using this
      rw [List.getElem?_set_self hi] at es
      rw [List.getElem?_set_self (by omega)] at ep
      cases es; cases ep
      exact .inl ⟨rfl, rfl, rfl⟩
    · rw [List.getElem?_set_ne hj] at es ep
      exact .inr ⟨fun q => hj q.symm, es, ep⟩
  refine ⟨R.sub, R.g0, R.fr, R.dom, R.new, by simpa using R.len, fun j s es => ?_, fun j k s t x hjk e1 e2 m1 m2 s1 s2 => ?_, ⟨fun j s a x e m ea q => ?_, fun j c a x e ea q => ?_, fun j c a x e ea q => ?_, fun j k s t a' p x h e1 e2 m1 m2 ea ep q => ?_⟩⟩
  · by_cases hj : i = j
    · subst hj
      have hi : i < env.length := by
        have := (List.getElem?_eq_some_iff.mp es).1
        simpa using this
      rw [List.getElem?_set_self hi] at es; cases es
      exact ⟨_, by rw [List.getElem?_set_self (by omega)], a, rfl, cr, n, z⟩
    · rw [List.getElem?_set_ne hj] at es
      obtain ⟨v, e1, q⟩ := R.slots j s es
      exact ⟨v, by rw [List.getElem?_set_ne hj]; exact e1, q⟩
  · rcases at_ e1 s1 with ⟨z1, _, rfl⟩ | ⟨z1, w1, w2⟩
    · rcases at_ e2 s2 with ⟨z2, _, _⟩ | ⟨z2, w3, w4⟩
      · exact hjk (z1.trans z2.symm)
      · exact (ap k t w3 m2).1 w4
    · rcases at_ e2 s2 with ⟨z2, _, rfl⟩ | ⟨z2, w3, w4⟩
      · exact (ap j s w1 m1).1 w2
      · exact R.apart j k s t x hjk w1 w3 m1 m2 w2 w4
  · rcases at_ e ea with ⟨_, rfl, rfl⟩ | ⟨_, w1, w2⟩
    · exact (su x q).1
    · exact R.deep.nf j s a x w1 m w2 q
  · rcases at_ e ea with ⟨_, h, rfl⟩ | ⟨_, w1, w2⟩
    · cases h
      exact (su x q).2.1
    · exact R.deep.own j c a x w1 w2 q
  · rcases at_ e ea with ⟨_, h, rfl⟩ | ⟨_, w1, w2⟩
    · cases h
    · exact R.deep.brw j c a x w1 w2 q
  · rcases at_ e1 ea with ⟨z1, rfl, rfl⟩ | ⟨z1, w1, w2⟩
    · rcases at_ e2 ep with ⟨z2, _, _⟩ | ⟨z2, w3, w4⟩
      · exact (h (z1.trans z2.symm)).elim
      · have F := (su x q).2.2 k t w3 m2
        exact ⟨fun y => F.1 (by rw [y]; exact w4), F.2 p w4⟩
    · rcases at_ e2 ep with ⟨z2, rfl, rfl⟩ | ⟨z2, w3, w4⟩
      · have F := ap j s w1 m1
        exact ⟨fun y => F.2 a' w2 (by rw [← y]; exact q), fun y => ((su x y).2.2 j s w1 m1).2 a' w2 q⟩
      · exact R.deep.ap j k s t a' p x h w1 w3 m1 m2 w2 w4 q
theorem VRel.set {b : Bs} {env env' : Env} {σ : St} {G H : Hp} {u : V} {v : Val} {i : Nat} (R : Rel ca b env σ G H) (h : VRel ca b env σ G H u v) (e : setV env i v = some env') : ∃ G', Same G G' ∧ Rel ca b env' (σ.set i (some u)) G' H := by
  cases v with
  | sh d =>
    unfold setV at e
    simp only at e
    split at e
    · cases e
    · cases e; exact ⟨G, Same.refl _, R.setSh h i⟩
  | fr cl =>
    unfold setV at e
    simp only at e
    split at e
    · cases e
    · cases e; exact ⟨G, Same.refl _, R.setOwn h i⟩
  | var j =>
    unfold setV at e
    simp only at e
    split at e
    · rename_i d env2 et
      split at e
      · cases e
      · cases e
        obtain ⟨G1, s1, R1, r1⟩ := Held.take (v := .var j) R h.1 et
        exact ⟨G1, s1, R1.setSh r1 i⟩
    · cases e
def sSet (i : Nat) (f : SE) : SS := fun c env => bindS (f c env) fun v e => (setV e i v).map .nx
theorem s_set {i : Nat} {x : Str} {e : Expr} {f : SE} {pos' : Pos} (hN : X.N.Nodup) (he : PE X e (rdE ca c W f)) (hi : X.N[i]? = some x := by rfl) (hx : Loc X.env.scope x := by first | exact Or.inl rfl | exact Or.inr rfl) (hs : swapsWith e (some (.Name x pos')) pos.line X.env = pure false := by rfl)
    (hf : X.fn x = true ∨ X.env.scope.names.lookup x = some .local := by first | exact .inl rfl | exact .inr rfl | assumption) : PS X (.Assign [.Name x pos'] e pos) (rdS ca c W (sSet i f)) := PS_weak (ps_set hN hi hx he hs hf) (by
  rintro D σ H ⟨b, env, G, o, R, e, post⟩
  refine rdS_bind R e post fun v e1 u G1 H1 _ R1 vr sg e => ?_
  cases er : setV e1 i v with
  | none => rw [er] at e; cases e
  | some e2 =>
    rw [er] at e
    cases e
    obtain ⟨G2, s2, R2⟩ := VRel.set R1 vr er
    exact post _ G2 H1 R2)

/-! ### targets -/
abbrev SG := D → Env → Option Env
/-- nothing but these slots -/
def But (js : List Nat) (σ σ' : St) : Prop := σ'.length = σ.length ∧ ∀ j, j ∉ js → σ'[j]? = σ[j]?
def rdG (ca : PySem.W.Frag) (g : SG) (js : List Nat) : TG := fun v σ H Q => ∃ b env G d env', Rel ca b env σ G H ∧ Rep ca G v d ∧ g d env = some env' ∧ ∀ σ', Rel ca b env' σ' G H → But js σ σ' → Q σ' H
def rdGs (ca : PySem.W.Frag) (g : List D → Env → Option Env) (js : List Nat) : TGs := fun vs σ H Q => ∃ b env G ds env', Rel ca b env σ G H ∧ Reps ca G vs ds ∧ g ds env = some env' ∧ ∀ σ', Rel ca b env' σ' G H → But js σ σ' → Q σ' H
theorem PG_weak {e : Expr} {t t' : TG} (h : PG X e t) (w : ∀ v σ H Q, t' v σ H Q → t v σ H Q) : PG X e t' := ⟨fun pins s σ H v u Q I r q => h.run pins s σ H v u Q I r (w v σ H Q q)⟩
theorem PGs_weak {e : List Expr} {t t' : TGs} (h : PGs X e t) (w : ∀ v σ H Q, t' v σ H Q → t v σ H Q) : PGs X e t' := ⟨fun pins s σ H v u Q I r q => h.run pins s σ H v u Q I r (w v σ H Q q)⟩
def gNm (i : Nat) : SG := fun d env => setV env i (.sh d)
theorem g_nm {i : Nat} {x : Str} (hN : X.N.Nodup) (hi : X.N[i]? = some x := by rfl) (hx : Loc X.env.scope x := by first | exact Or.inl rfl | exact Or.inr rfl) (hf : X.fn x = true ∨ X.env.scope.names.lookup x = some .local := by first | exact .inl rfl | exact .inr rfl | assumption) : PG X (.Name x pos) (rdG ca (gNm i) [i]) := PG_weak (pg_name hN hi hx hf) (by
  rintro v σ H Q ⟨b, env, G, d, env', R, r, e, q⟩
  have e2 : setV env i (.sh d) = some env' := e
  unfold setV at e2
  simp only at e2
  split at e2
  · cases e2
  · cases e2
    exact q _ (R.setSh r i) ⟨by simp, fun j hj => by rw [List.getElem?_set_ne]; simp at hj; exact fun z => hj z.symm⟩)
def gsNil : List D → Env → Option Env
  | [], env => some env
  | _, _ => none
def gsCons (g : SG) (gs : List D → Env → Option Env) : List D → Env → Option Env
  | d :: ds, env => (g d env).bind fun e => gs ds e
  | [], _ => none
theorem gs_nil : PGs X [] (rdGs ca gsNil []) := PGs_weak pgs_nil (by
  rintro v σ H Q ⟨b, env, G, d, env', R, r, e, q⟩
  cases d with
  | nil =>
    cases e
    have := r.len
    refine ⟨List.eq_nil_of_length_eq_zero (by simpa using this), q σ R ⟨rfl, fun _ _ => rfl⟩⟩
  | cons => cases e)
theorem gs_cons {e : Expr} {es : List Expr} {g : SG} {gs : List D → Env → Option Env} {js ks : List Nat} (h1 : PG X e (rdG ca g js)) (h2 : PGs X es (rdGs ca gs ks)) (hs : (assignEach (e :: es) X.env).map (·.2) = assign e X.env :: (assignEach es X.env).map (·.2) := by rfl) : PGs X (e :: es) (rdGs ca (gsCons g gs) (js ++ ks)) := PGs_weak (pgs_cons h1 h2 hs) (by
  rintro vs σ H Q ⟨b, env, G, ds, env', R, r, e, q⟩
  cases ds with
  | nil => cases e
  | cons d ds =>
    cases vs with
    | nil => have := r.len; simp at this
    | cons v vs =>
      unfold gsCons at e
      simp only at e
      cases eg : g d env with
      | none => rw [eg] at e; cases e
      | some e1 =>
        rw [eg] at e
        refine ⟨v, vs, rfl, b, env, G, d, e1, R, r.at_ 0 v d rfl rfl, eg, fun σ' R' bt => ?_⟩
        refine ⟨b, e1, G, ds, env', R', ⟨by have := r.len; simpa using this, fun i u e' h1 h2 => r.at_ (i + 1) u e' (by simpa using h1) (by simpa using h2)⟩, e, fun σ2 R2 bt2 => q σ2 R2 ⟨bt2.1.trans bt.1, fun j hj => ?_⟩⟩
        simp at hj
        rw [bt2.2 j hj.2, bt.2 j hj.1])
def gTp (n : Nat) (gs : List D → Env → Option Env) : SG := fun d env => match d with
  | .tup ds => if ds.length = n then gs ds env else none
  | _ => none
theorem g_tp {es : List Expr} {k : Nat} {gs : List D → Env → Option Env} {n : Nat} {js : List Nat} (hc : X.calm = true) (h : PGs X es (rdGs ca gs js)) (hn : (assignEach es X.env).length = n := by rfl) (hst : (assignEach es X.env).findIdx? (·.1) = none := by rfl) : PG X (.Tuple es k pos) (rdG ca (gTp n gs) js) := PG_weak (pg_tup hc h hn hst) (by
  rintro v σ H Q ⟨b, env, G, d, env', R, r, e, q⟩
  cases d with
  | tup ds =>
    unfold gTp at e
    simp only at e
    split at e
    · rename_i hl
      cases r with
      | tup r l q' =>
        exact ⟨_, _, rfl, SqT.of (R.sub _ _ r), by rw [l, hl], b, env, G, ds, env', R, ⟨l, q'⟩, e, q⟩
    · cases e
  | _ => cases e)
/-- target = value (a tuple of targets) -/
def sAsg (g : SG) (f : SE) : SS := fun c env => bindS (f c env) fun v e => (take e v).bind fun p => (g p.1 p.2).map .nx
end
end Pd
/-! Pd5: loops, comprehensions, what they walk -/
namespace Pd
open PySem PySem.Spec L2
variable [Ext]
inductive IO where
  | its (ds : List D) (env : Env) | exc (x : Exc) (env : Env)
abbrev SI := CT → Env → Option IO
section
variable {X : Cx} {ca : PySem.W.Frag} {c : CT} {W : WX} {pos : Pos}
/-- an iterator that gives these data, one by one, whatever the heap has grown to -/
def ItOk (ca : PySem.W.Frag) (G0 : Hp) (J : It) (ds : List D) : Prop :=
  ∀ (i : Nat) (H G : Hp), Same G0 G → Same G H → (∀ d, ds[i]? = some d → J.go i H ∧ ∀ x H', J.yld i H x H' → OpOut ca G H x H' (.sh d)) ∧ (ds.length ≤ i → J.stop i H)
def IPost (ca : PySem.W.Frag) (b : Bs) (W : WX) (σ : St) (R : It → Hp → Prop) : IO → Prop
  | .its ds env' => ∀ J G' H', Rel ca b env' σ G' H' → ItOk ca G' J ds → R J H'
  | .exc x env' => ∀ cls d G' H', Rel ca b env' σ G' H' → ExcRel ca G' H' cls d x → W cls d σ H'
def rdI (ca : PySem.W.Frag) (c : CT) (W : WX) (f : SI) : TI := fun σ H R => ∃ b env G o, Rel ca b env σ G H ∧ f c env = some o ∧ IPost ca b W σ R o
theorem PI_weak {tg e : Expr} {t t' : TI} (h : PI X tg e t) (w : ∀ σ H Q, t' σ H Q → t σ H Q) : PI X tg e t' := ⟨fun pins s σ H R I q => h.run pins s σ H R I (w σ H R q)⟩
theorem rdI_use {b : Bs} {env : Env} {σ : St} {G H : Hp} {f : SI} {o : IO} {R' : It → Hp → Prop} (R : Rel ca b env σ G H) (e : f c env = some o)
    (h : match o with
      | .its ds env' => ∀ J G' H', Rel ca b env' σ G' H' → ItOk ca G' J ds → Same G G' → R' J H'
      | .exc x env' => ∀ cls d G' H', Rel ca b env' σ G' H' → ExcRel ca G' H' cls d x → W cls d σ H') : rdI ca c W f σ H R' := by
  refine ⟨Pd.rb ca env σ G H, env, G, o, R.rb, e, ?_⟩
  cases o with
  | its ds e' => exact fun J G' H' R' q => h J G' H' (R.unrb R') q R'.g0
  | exc x e' => exact fun cls d G' H' R' r => h cls d G' H' (R.unrb R') r

/-! ### sources -/
def bindI (o : Option EO) (k : Val → Env → Option IO) : Option IO := match o with
  | some (.val v e) => k v e
  | some (.exc x e) => some (.exc x e)
  | none => none
/-- what a list, a tuple, a text gives -/
def itemsOf : D → Option (List D)
  | .lst ds => some ds
  | .tup ds => some ds
  | .scr ns => some (ns.map D.int)
  | .str z => some (z.cps.toList.map fun n => D.str ⟨#[n]⟩)
  | _ => none
def itSeq (f : SE) : SI := fun c env => bindI (f c env) fun v e => (take e v).bind fun p => (itemsOf p.1).map fun ds => .its ds p.2
theorem itl_of {G0 : Hp} {a : Addr} {vs : List V} {ds : List D} (h : SqL ca G0 a vs) (r : Reps ca G0 vs ds) : ItOk ca G0 (Itl ca a) ds := by
  intro i H G s t
  have q := (s.trans t).seq h
  refine ⟨fun d hd => ?_, fun hi => ⟨vs, q, by rw [r.len]; exact hi⟩⟩
  obtain ⟨v, hv, rv⟩ := r.get hd
  refine ⟨⟨vs, v, q, hv⟩, fun x H' y => ?_⟩
  obtain ⟨e, y⟩ := y
  subst e
  have := y vs q
  rw [hv] at this; cases this
  exact out_sh (rv.mono s)
theorem itt_of {G0 : Hp} {a : Addr} {vs : List V} {ds : List D} (h : G0 a = some (.tup vs)) (r : Reps ca G0 vs ds) : ItOk ca G0 (Itt ca a) ds := by
  intro i H G s t
  have q : SqT ca H a vs := SqT.of ((s.trans t) _ _ h)
  refine ⟨fun d hd => ?_, fun hi => ⟨vs, q, by rw [r.len]; exact hi⟩⟩
  obtain ⟨v, hv, rv⟩ := r.get hd
  refine ⟨⟨vs, v, q, hv⟩, fun x H' y => ?_⟩
  obtain ⟨e, y⟩ := y
  subst e
  have := y vs q
  rw [hv] at this; cases this
  exact out_sh (rv.mono s)
theorem its_of {G0 : Hp} {z : Str} : ItOk ca G0 (Its z) (z.cps.toList.map fun n => D.str ⟨#[n]⟩) := by
  intro i H G s t
  refine ⟨fun d hd => ?_, fun hi => show z.cps.size ≤ i from by simpa using hi⟩
  rw [List.getElem?_map] at hd
  cases hz : z.cps.toList[i]? with
  | none => rw [hz] at hd; cases hd
  | some n =>
    rw [hz] at hd
    cases hd
    have hi : i < z.cps.size := by
      have := (List.getElem?_eq_some_iff.mp hz).1
      simpa using this
    refine ⟨hi, fun x H' y => ?_⟩
    obtain ⟨e, n', h1, h2⟩ := y
    subst e h2
    have h3 : z.cps.toList[i]? = some n' := by simpa using h1
    rw [hz] at h3; cases h3
    exact out_sh (.str _)
theorem itr_of {G0 : Hp} {lo : Int} {n : Nat} : ItOk ca G0 (Itr lo n) ((List.range n).map fun k => D.int (lo + (k : Nat))) := by
  intro i H G s t
  refine ⟨fun d hd => ?_, fun hi => show n ≤ i from by simpa using hi⟩
  rw [List.getElem?_map] at hd
  by_cases hi : i < n
  · rw [List.getElem?_range hi] at hd
    cases hd
    refine ⟨hi, fun x H' y => ?_⟩
    obtain ⟨e, y⟩ := y
    subst e y
    exact out_sh (.int _)
  · rw [List.getElem?_eq_none (by simpa using hi)] at hd; cases hd
theorem i_seq {tg l : Expr} {f : SE} (he : PE X l (rdE ca c W f)) (hK : X.K = ca := by rfl) : PI X tg l (rdI ca c W (itSeq f)) := by
  refine ⟨fun pins s σ H R I h => ?_⟩
  obtain ⟨b, env, G, o, R0, e, post⟩ := h
  unfold itSeq bindI at e
  split at e
  · rename_i v e1 hf
    dsimp only at e
    cases et : take e1 v with
    | none => rw [et] at e; cases e
    | some p =>
      rw [et] at e
      simp only [Option.bind_some] at e
      -- the frozen source
      have go : ∀ u G1 H1, Rel ca b e1 σ G1 H1 → VRel ca b e1 σ G1 H1 u v → ∃ G2, Rel ca b p.2 σ G2 H1 ∧ Rep ca G2 u p.1 := fun u G1 H1 R1 vr => by
        obtain ⟨G2, s2, R2, hd⟩ := VRel.held R1 vr
        obtain ⟨G3, s3, R3, r3⟩ := hd.take (d := p.1) (env' := p.2) R2 et
        exact ⟨G3, R3, r3⟩
      generalize hp : p.1 = d at e go
      cases d with
      | lst ds =>
        cases e
        refine (pi_list he).run pins s σ H R I (rdE.use R0 hf fun u G1 H1 R1 vr _ _ => ?_)
        obtain ⟨G2, R2, rp⟩ := go u G1 H1 R1 vr
        cases rp with
        | lst r l q =>
          rw [hK]
          exact ⟨_, rfl, ⟨_, SqL.of (R2.sub _ _ r)⟩, post _ G2 H1 R2 (itl_of (SqL.of r) ⟨l, q⟩)⟩
      | scr ns =>
        cases e
        refine (pi_list he).run pins s σ H R I (rdE.use R0 hf fun u G1 H1 R1 vr _ _ => ?_)
        obtain ⟨G2, R2, rp⟩ := go u G1 H1 R1 vr
        cases rp with
        | scr r =>
          rw [hK]
          refine ⟨_, rfl, ⟨_, R2.sub.seq r⟩, post _ G2 H1 R2 (itl_of r ⟨by simp, fun i v d h1 h2 => ?_⟩)⟩
          rw [List.getElem?_map] at h1 h2
          cases hn : ns[i]? with
          | none => rw [hn] at h1; cases h1
          | some m => rw [hn] at h1 h2; cases h1; cases h2; exact .int m
      | tup ds =>
        cases e
        refine (pi_tup he).run pins s σ H R I (rdE.use R0 hf fun u G1 H1 R1 vr _ _ => ?_)
        obtain ⟨G2, R2, rp⟩ := go u G1 H1 R1 vr
        cases rp with
        | tup r l q =>
          rw [hK]
          exact ⟨_, rfl, ⟨_, SqT.of (R2.sub _ _ r)⟩, post _ G2 H1 R2 (itt_of r ⟨l, q⟩)⟩
      | str z =>
        cases e
        refine (pi_str he).run pins s σ H R I (rdE.use R0 hf fun u G1 H1 R1 vr _ _ => ?_)
        obtain ⟨G2, R2, rp⟩ := go u G1 H1 R1 vr
        cases rp
        exact ⟨_, rfl, post _ G2 H1 R2 its_of⟩
      | _ => cases e
  · rename_i x e1 hf
    cases e
    exact (pi_list he).run pins s σ H R I (rdE.use R0 hf fun cls d G' H' R' q => post cls d G' H' R' q)
  · cases e
/-- range(n) -/
def itRange1 (fs : SA) : SI := fun c env => match fs c env with
  | some (.vals vs e) => (match peeks e vs with
    | some [.int j] => if -(2 ^ 62) ≤ j ∧ j < 2 ^ 62 then some (.its ((List.range j.toNat).map fun k => D.int (0 + (k : Nat))) e) else none
    | _ => none)
  | some (.exc x e) => some (.exc x e)
  | none => none
def itRange2 (fs : SA) : SI := fun c env => match fs c env with
  | some (.vals vs e) => (match peeks e vs with
    | some [.int i, .int j] => if (-(2 ^ 62) ≤ i ∧ i < 2 ^ 62) ∧ (-(2 ^ 62) ≤ j ∧ j < 2 ^ 62) then some (.its ((List.range (j - i).toNat).map fun k => D.int (i + (k : Nat))) e) else none
    | _ => none)
  | some (.exc x e) => some (.exc x e)
  | none => none
theorem i_range1 {tg a : Expr} {fs : SA} {p : Pos} (hg : Gl X "range") (hm : X.mg "range" = none) (ha : PA X [a] (rdA ca c W fs)) (hs : starEach [a] X.env = [(false, eval a X.env)] := by rfl) : PI X tg (.Call (.Name "range" p) [a] [] pos) (rdI ca c W (itRange1 fs)) := PI_weak (pi_range1 hg hm ha hs) (by
  rintro σ H R ⟨b, env, G, o, R0, e, post⟩
  unfold itRange1 at e
  split at e
  · rename_i vs e1 hf
    split at e
    · rename_i j hp
      split at e
      · rename_i hb
        cases e
        refine rdA_use R0 hf fun us G' H' R' hd _ => ?_
        have hq := hd.peeks R' hp
        cases hq with
        | cons q t =>
          cases t
          cases peek_int q
          exact ⟨j, rfl, hb.1, hb.2, post _ G' H' R' itr_of⟩
      · cases e
    · cases e
  · rename_i x e1 hf
    cases e
    exact rdA_use R0 hf fun cls d G' H' R' q => post cls d G' H' R' q
  · cases e)
/-! ### for -/
def forL (g : SG) (f : Env → Option SO) : List D → Env → Option SO
  | [], env => some (.nx env)
  | d :: ds, env => (g d env).bind fun e1 => match f e1 with
    | some (.nx e2) => forL g f ds e2
    | some (.ct e2) => forL g f ds e2
    | some (.brk e2) => some (.nx e2)
    | o => o
def sFor (it : SI) (g : SG) (f : SS) : SS := fun c env => match it c env with
  | some (.its ds e) => forL g (f c) ds e
  | some (.exc x e) => some (.exc x e)
  | none => none
theorem SPost.rb {b : Bs} {env : Env} {σ : St} {G H : Hp} {Dn : Ends} {o : SO} (R : Rel ca b env σ G H) (p : SPost ca b W Dn o) : SPost ca (Pd.rb ca env σ G H) W Dn o := by
  cases o with
  | nx env' => exact fun σ' G' H' R' => p σ' G' H' (R.unrb R')
  | ct env' => exact fun σ' G' H' R' => p σ' G' H' (R.unrb R')
  | brk env' => exact fun σ' G' H' R' => p σ' G' H' (R.unrb R')
  | ret r env' => exact fun u σ' G' H' R' q => p u σ' G' H' (R.unrb R') (RRel.unrb R q)
  | exc x env' => exact fun cls d σ' G' H' R' q => p cls d σ' G' H' (R.unrb R') q
theorem s_for {tg iter : Expr} {body : List Stmt} {it : SI} {g : SG} {f : SS} {js : List Nat} (hp : PassesOwn (model X.prog X.w) X.A X.env X.xe) (hc : X.calm = true) (hi : PI X tg iter (rdI ca c W it)) (hg : PG X tg (rdG ca g js)) (hb : PSs X body (rdS ca c W f))
    (hs : ∀ x, foldedSetIterable iter X.env x = pure x := by intro _; rfl) : PS X (.For tg iter body [] pos) (rdS ca c W (sFor it g f)) := PS_weak (ps_for hp hc hi hg hb hs) (by
  rintro D σ H ⟨b, env, G, o, R, e, post⟩
  unfold sFor at e
  split at e
  · rename_i ds e0 hf
    refine rdI_use R hf fun J G1 H1 R1 ok _ => ?_
    have post1 := post.rb R1
    have R1b := R1.rb
    generalize Pd.rb ca e0 σ G1 H1 = b1 at post1 R1b
    refine ⟨fun i m σ' H' => m = ds.length - i ∧ i ≤ ds.length ∧ ∃ en G', Rel ca b1 en σ' G' H' ∧ Same G1 G' ∧ forL g (f c) (ds.drop i) en = some o, ⟨_, rfl, Nat.zero_le _, e0, G1, R1b, Same.refl _, by simpa using e⟩, ?_⟩
    rintro i m σ' H' ⟨rfl, hi, en, G', R', sg, ef⟩
    by_cases hlt : i < ds.length
    · have hd : ds[i]? = some ds[i] := by simp [hlt]
      obtain ⟨go, yl⟩ := (ok i H' G' sg R'.sub).1 _ hd
      rw [List.drop_eq_getElem_cons hlt] at ef
      unfold forL at ef
      cases eg : g ds[i] en with
      | none => rw [eg] at ef; cases ef
      | some e1 =>
        rw [eg] at ef
        simp only [Option.bind_some] at ef
        refine .inr ⟨go, fun σ2 H2 => ∃ en2 G2, Rel ca b1 en2 σ2 G2 H2 ∧ Same G1 G2 ∧ forL g (f c) (ds.drop (i + 1)) en2 = some o, fun σ2 H2 ⟨en2, G2, R2, s2, q2⟩ => ⟨ds.length - (i + 1), by omega, rfl, hlt, en2, G2, R2, s2, q2⟩, fun x H2 y => ?_⟩
        obtain ⟨G2, s2, R2, vr⟩ := (yl x H2 y).at R'
        refine ⟨b1, en, G2, ds[i], e1, R2, vr, eg, fun σ3 R3 _ => ?_⟩
        cases eo : f c e1 with
        | none => rw [eo] at ef; cases ef
        | some o2 =>
          rw [eo] at ef
          refine rdS_use R3 eo ?_
          cases o2 with
          | nx e2 => exact fun σ4 G4 H4 R4 s4 _ => ⟨e2, G4, R4, (sg.trans s2).trans s4, ef⟩
          | ct e2 => exact fun σ4 G4 H4 R4 s4 => ⟨e2, G4, R4, (sg.trans s2).trans s4, ef⟩
          | brk e2 => cases ef; exact fun σ4 G4 H4 R4 _ => post1 σ4 G4 H4 R4
          | ret r e2 => cases ef; exact post1
          | exc x e2 => cases ef; exact post1
    · have hh : i = ds.length := by omega
      subst hh
      rw [List.drop_length] at ef
      cases ef
      exact .inl ⟨(ok _ H' G' sg R'.sub).2 (Nat.le_refl _), post1 σ' G' H' R'⟩
  · rename_i x e0 hf
    cases e
    exact rdI_use R hf fun cls d G' H' R' q => post cls d σ G' H' R' q
  · cases e)

/-! ### while -/
def whileF (t : Env → Option EO) (f : Env → Option SO) : Nat → Env → Option SO
  | 0, _ => none
  | n + 1, env => bindS (t env) fun v e => match v with
    | .sh (.bl true) => (match f e with
      | some (.nx e2) => whileF t f n e2
      | some (.ct e2) => whileF t f n e2
      | some (.brk e2) => some (.nx e2)
      | o => o)
    | .sh (.bl false) => some (.nx e)
    | _ => none
theorem whileF_mono {t : Env → Option EO} {f : Env → Option SO} : ∀ (n : Nat) {env : Env} {o : SO}, whileF t f n env = some o → whileF t f (n + 1) env = some o
  | 0, _, _, h => by cases h
  | n + 1, env, o, h => by
    unfold whileF at h ⊢
    cases ht : t env with
    | none => rw [ht] at h; cases h
    | some eo =>
      rw [ht] at h
      cases eo with
      | exc x e => exact h
      | val v e =>
        cases v with
        | sh d =>
          cases d with
          | bl k =>
            cases k with
            | false => exact h
            | true =>
              have h : (match f e with
                | some (.nx e2) => whileF t f n e2
                | some (.ct e2) => whileF t f n e2
                | some (.brk e2) => some (.nx e2)
                | o => o) = some o := h
              show (match f e with
                | some (.nx e2) => whileF t f (n + 1) e2
                | some (.ct e2) => whileF t f (n + 1) e2
                | some (.brk e2) => some (.nx e2)
                | o => o) = some o
              cases hf : f e with
              | none => rw [hf] at h; cases h
              | some so =>
                rw [hf] at h
                cases so with
                | nx e2 => exact whileF_mono n h
                | ct e2 => exact whileF_mono n h
                | brk e2 => exact h
                | ret r e2 => exact h
                | exc x e2 => exact h
          | _ => cases h
        | _ => cases h
theorem whileF_le {t : Env → Option EO} {f : Env → Option SO} {n m : Nat} {env : Env} {o : SO} (h : whileF t f n env = some o) (hm : n ≤ m) : whileF t f m env = some o := by
  induction hm with
  | refl => exact h
  | step _ ih => exact whileF_mono _ ih
open Classical in
noncomputable def sWhile (t : SE) (f : SS) : SS := fun c env => if h : ∃ o n, whileF (t c) (f c) n env = some o then some h.choose else none
theorem sWhile_eq {t : SE} {f : SS} {env : Env} {n : Nat} {o : SO} (h : whileF (t c) (f c) n env = some o) : sWhile t f c env = some o := by
  have hx : ∃ o n, whileF (t c) (f c) n env = some o := ⟨o, n, h⟩
  unfold sWhile
  rw [dif_pos hx]
  obtain ⟨m, hm⟩ := hx.choose_spec
  have h1 := whileF_le h (Nat.le_max_left n m)
  have h2 := whileF_le hm (Nat.le_max_right n m)
  rw [h1] at h2
  exact h2.symm
theorem sWhile_of {t : SE} {f : SS} {env : Env} {o : SO} (h : sWhile t f c env = some o) : ∃ n, whileF (t c) (f c) n env = some o := by
  unfold sWhile at h
  split at h
  · rename_i hx
    obtain ⟨n, hn⟩ := hx.choose_spec
    cases h
    exact ⟨n, hn⟩
  · cases h
theorem s_while {t : Expr} {body : List Stmt} {ft : SE} {f : SS} (hp : PassesOwn (model X.prog X.w) X.A X.env X.xe) (ht : PT X t (rdT ca c W ft)) (hb : PSs X body (rdS ca c W f)) : PS X (.While t body [] pos) (rdS ca c W (sWhile ft f)) := PS_weak (ps_while hp ht hb) (by
  rintro D σ H ⟨b, env, G, o, R, e, post⟩
  obtain ⟨n, hn⟩ := sWhile_of e
  refine ⟨fun m σ' H' => ∃ en G', Rel ca b en σ' G' H' ∧ whileF (ft c) (f c) m en = some o, ⟨n, env, G, R, hn⟩, ?_⟩
  rintro m σ' H' ⟨en, G', R', hw⟩
  cases m with
  | zero => cases hw
  | succ m =>
    unfold whileF bindS at hw
    split at hw
    · rename_i v e1 hf
      dsimp only at hw
      split at hw
      · refine rdT_use R' hf fun G2 H2 R2 _ _ => ?_
        rw [if_pos rfl]
        refine ⟨fun σ3 H3 => ∃ en3 G3, Rel ca b en3 σ3 G3 H3 ∧ whileF (ft c) (f c) m en3 = some o, fun σ3 H3 h3 => ⟨m, Nat.lt_succ_self _, h3⟩, ?_⟩
        cases eo : f c e1 with
        | none => rw [eo] at hw; cases hw
        | some o2 =>
          rw [eo] at hw
          refine rdS_use R2 eo ?_
          cases o2 with
          | nx e2 => exact fun σ4 G4 H4 R4 _ _ => ⟨e2, G4, R4, hw⟩
          | ct e2 => exact fun σ4 G4 H4 R4 _ => ⟨e2, G4, R4, hw⟩
          | brk e2 => cases hw; exact fun σ4 G4 H4 R4 _ => post σ4 G4 H4 R4
          | ret r e2 => cases hw; exact post
          | exc x e2 => cases hw; exact post
      · cases hw
        refine rdT_use R' hf fun G2 H2 R2 _ _ => ?_
        rw [if_neg Bool.false_ne_true]
        exact post σ' G2 H2 R2
      · cases hw
    · rename_i x e1 hf
      cases hw
      exact rdT_use R' hf fun cls d G2 H2 R2 q => post cls d σ' G2 H2 R2 q
    · cases hw)
end
end Pd
/-! Pd6: list comprehensions -/
namespace Pd
open PySem PySem.Spec L2
variable [Ext]
def wipeE (env : Env) : List Nat → Env
  | [] => env
  | v :: vs => (wipeE env vs).set v none
def restE (e0 env : Env) : List Nat → Env
  | [] => env
  | v :: vs => (restE e0 env vs).set v (e0[v]?.join)
def calmE (env : Env) (vs : List Nat) : Bool := vs.all fun v => match env[v]? with
  | some (some s) => !s.mut
  | _ => true
theorem restE_len (e0 env : Env) : ∀ vs, (restE e0 env vs).length = env.length
  | [] => rfl
  | v :: vs => by unfold restE; rw [List.length_set, restE_len e0 env vs]
theorem restE_out (e0 env : Env) {j : Nat} : ∀ {vs : List Nat}, j ∉ vs → (restE e0 env vs)[j]? = env[j]?
  | [], _ => rfl
  | v :: vs, h => by
    simp at h
    unfold restE
    rw [List.getElem?_set_ne (fun z => h.1 z.symm), restE_out e0 env h.2]
theorem restE_in (e0 env : Env) {j : Nat} : ∀ {vs : List Nat}, j ∈ vs → ∀ s, (restE e0 env vs)[j]? = some (some s) → e0[j]? = some (some s)
  | [], h => by simp at h
  | v :: vs, h => fun s hs => by
    unfold restE at hs
    by_cases hv : v = j
    · subst hv
      by_cases hl : v < (restE e0 env vs).length
      · rw [List.getElem?_set_self hl] at hs
        have hs : e0[v]?.join = some s := by simpa using hs
        cases q : e0[v]? with
        | none => rw [q] at hs; cases hs
        | some o => rw [q] at hs; cases o with
          | none => cases hs
          | some s' => cases hs; rfl
      · rw [List.getElem?_eq_none (by simpa using hl)] at hs; cases hs
    · rw [List.getElem?_set_ne hv] at hs
      exact restE_in e0 env ((List.mem_cons.mp h).resolve_left fun z => hv z.symm) s hs
section
variable {ca : PySem.W.Frag} {b : Bs} {env : Env} {σ : St} {G H : Hp}
/-- fewer names -/
theorem Deep.fewer {env2 : Env} {σ2 : St} (D : Deep ca b env σ G H) (f : ∀ (j : Nat) (s : Slot), env2[j]? = some (some s) → s.mut = true → env[j]? = some (some s) ∧ ∀ p, σ2[j]? = some (some (.ref p)) → σ[j]? = some (some (.ref p))) : Deep ca b env2 σ2 G H :=
  ⟨fun j s a x e m ea => D.nf j s a x (f j s e m).1 m ((f j s e m).2 a ea), fun j c a x e ea => D.own j c a x (f j _ e rfl).1 ((f j _ e rfl).2 a ea), fun j c a x e ea => D.brw j c a x (f j _ e rfl).1 ((f j _ e rfl).2 a ea),
    fun j k s t a p x h e1 e2 m1 m2 ea ep => D.ap j k s t a p x h (f j s e1 m1).1 (f k t e2 m2).1 m1 m2 ((f j s e1 m1).2 a ea) ((f k t e2 m2).2 p ep)⟩
theorem Free.fewer {a : Addr} {env2 : Env} {σ2 : St} (F : Free ca env σ H a) (f : ∀ (j : Nat) (s : Slot), env2[j]? = some (some s) → s.mut = true → env[j]? = some (some s) ∧ ∀ p, σ2[j]? = some (some (.ref p)) → σ[j]? = some (some (.ref p))) : Free ca env2 σ2 H a :=
  fun j s e m => ⟨fun q => (F j s (f j s e m).1 m).1 ((f j s e m).2 a q), fun p ep => (F j s (f j s e m).1 m).2 p ((f j s e m).2 p ep)⟩
/-- the object itself may change -/
theorem Free.upd {a : Addr} {o : HO} (F : Free ca env σ H a) : Free ca env σ (L2.upd H a o) a := F.to (fun i s p es m ep q h => by rw [upd_ne (fun z => (F i s es m).1 (by rw [ep, z]))] at h; exact h)
theorem Rel.wipe1 (R : Rel ca b env σ G H) (v : Nat) : Rel ca b (env.set v none) (σ.set v none) G H := by
  have f : ∀ {j : Nat} {s : Slot}, (env.set v none)[j]? = some (some s) → env[j]? = some (some s) ∧ (σ.set v none)[j]? = σ[j]? := fun {j s} es => by
    by_cases hj : v = j
    · subst hj
      by_cases hi : v < env.length
      · rw [List.getElem?_set_self hi] at es; cases es
      · rw [List.getElem?_eq_none (by simpa using hi)] at es; cases es
    · rw [List.getElem?_set_ne hj] at es; exact ⟨es, by rw [List.getElem?_set_ne hj]⟩
  refine ⟨R.sub, R.g0, R.fr, R.dom, R.new, by simpa using R.len, fun j s es => ?_, fun j k s t x hjk e1 e2 m1 m2 => ?_, R.deep.fewer fun j s e m => ⟨(f e).1, fun p ep => by rw [← (f e).2]; exact ep⟩⟩
  · obtain ⟨f1, f2⟩ := f es
    rw [f2]
    exact R.slots j s f1
  · obtain ⟨f1, g1⟩ := f e1
    obtain ⟨f2, g2⟩ := f e2
    rw [g1, g2]
    exact R.apart j k s t x hjk f1 f2 m1 m2
theorem Rel.wipe (R : Rel ca b env σ G H) : ∀ vs : List Nat, Rel ca b (wipeE env vs) (L2.wipe σ vs) G H
  | [] => R
  | v :: vs => (Rel.wipe R vs).wipe1 v
theorem wipe_in {σ : St} {j : Nat} : ∀ {vs : List Nat}, j ∈ vs → (wipe σ vs)[j]? = none ∨ (wipe σ vs)[j]? = some none
  | [], h => by simp at h
  | v :: vs, h => by
    unfold L2.wipe
    by_cases hv : v = j
    · subst hv
      by_cases hl : v < (L2.wipe σ vs).length
      · rw [List.getElem?_set_self hl]; exact .inr rfl
      · exact .inl (List.getElem?_eq_none (by simpa using hl))
    · rw [List.getElem?_set_ne hv]
      exact wipe_in ((List.mem_cons.mp h).resolve_left fun z => hv z.symm)
theorem wipe_eq {σ σ2 : St} {vs js : List Nat} (hj : ∀ j ∈ js, j ∈ vs) (bt : But js (wipe σ vs) σ2) : wipe σ2 vs = wipe σ vs := by
  have hl : σ2.length = σ.length := by rw [bt.1, wipe_length]
  apply List.ext_getElem?
  intro j
  by_cases h : j ∈ vs
  · by_cases hi : j < σ.length
    · have a1 : (wipe σ2 vs)[j]? = some none := by
        rcases wipe_in (σ := σ2) h with q | q
        · have := List.getElem?_eq_none_iff.mp q
          rw [wipe_length] at this; omega
        · exact q
      have a2 : (wipe σ vs)[j]? = some none := by
        rcases wipe_in (σ := σ) h with q | q
        · have := List.getElem?_eq_none_iff.mp q
          rw [wipe_length] at this; omega
        · exact q
      rw [a1, a2]
    · rw [List.getElem?_eq_none (by rw [wipe_length]; omega), List.getElem?_eq_none (by rw [wipe_length]; omega)]
  · rw [wipe_out h, bt.2 j (fun z => h (hj j z))]
/-- the block's names are as they were -/
theorem Rel.rest {b2 : Bs} {e0 env : Env} {vs : List Nat} {G1 H1 : Hp} (R1 : Rel ca b e0 σ G1 H1) (hc : calmE e0 vs = true) (R2 : Rel ca b2 env (L2.wipe σ vs) G H) (sg : Same G1 G) : Rel ca b2 (restE e0 env vs) σ G H := by
  have sh : ∀ {j : Nat} {s : Slot}, j ∈ vs → (restE e0 env vs)[j]? = some (some s) → s.mut = false ∧ e0[j]? = some (some s) := fun {j s} hj es => by
    have q := restE_in e0 env hj s es
    have h1 := List.all_eq_true.mp hc j hj
    rw [q] at h1
    have h1 : (!s.mut) = true := h1
    exact ⟨by simpa using h1, q⟩
  refine ⟨R2.sub, R2.g0, R2.fr, R2.dom, R2.new, by rw [restE_len, R2.len, wipe_length], fun j s es => ?_, fun j k s t x hjk e1 e2 m1 m2 s1 s2 => ?_, R2.deep.fewer fun j s e m => ?_⟩
  rotate_left 2
  · by_cases hj : j ∈ vs
    · rw [(sh hj e).1] at m; cases m
    · rw [restE_out _ _ hj] at e
      exact ⟨e, fun p ep => by rw [wipe_out hj]; exact ep⟩
  · by_cases hj : j ∈ vs
    · obtain ⟨hm, q⟩ := sh hj es
      obtain ⟨v, e1, r⟩ := R1.slots j _ q
      refine ⟨v, e1, ?_⟩
      cases s with
      | sh d => exact Rep.mono sg r
      | why x => exact r.mono sg
      | own c => cases hm
      | brw c => cases hm
    · rw [restE_out _ _ hj] at es
      obtain ⟨v, e1, r⟩ := R2.slots j s es
      rw [wipe_out hj] at e1
      exact ⟨v, e1, r⟩
  · by_cases hj : j ∈ vs
    · rw [(sh hj e1).1] at m1; cases m1
    · by_cases hk : k ∈ vs
      · rw [(sh hk e2).1] at m2; cases m2
      · rw [restE_out _ _ hj] at e1
        rw [restE_out _ _ hk] at e2
        exact R2.apart j k s t x hjk e1 e2 m1 m2 (by rw [wipe_out hj]; exact s1) (by rw [wipe_out hk]; exact s2)
/-- the block's names are as they were: what was nobody's is nobody's -/
theorem Free.rest {e0 env : Env} {vs : List Nat} {a : Addr} (hc : calmE e0 vs = true) (F : Free ca env (L2.wipe σ vs) H a) : Free ca (restE e0 env vs) σ H a := F.fewer fun j s e m => by
  by_cases hj : j ∈ vs
  · have q := restE_in e0 env hj s e
    have h1 := List.all_eq_true.mp hc j hj
    rw [q] at h1
    have h1 : (!s.mut) = true := h1
    rw [m] at h1
    cases h1
  · rw [restE_out _ _ hj] at e
    exact ⟨e, fun p ep => by rw [wipe_out hj]; exact ep⟩
/-- an object that is nobody's is changed -/
theorem Rel.other {o' : HO} {a : Addr} (R : Rel ca b env σ G H) (h0 : b.H0 a = none) (g : G a = none) (ap : Free ca env σ H a) : Rel ca b env σ G (L2.upd H a o') where
  sub := fun x q e => by
    rw [upd_ne (fun z => by rw [z, g] at e; cases e)]; exact R.sub _ _ e
  g0 := R.g0
  fr := fun x q e h1 h2 h3 => by
    rw [upd_ne (fun z => by rw [z, h0] at e; cases e)]; exact R.fr x q e h1 h2 h3
  dom := fun x e => by
    by_cases h : x = a
    · subst h; exact h0
    · rw [upd_ne h] at e; exact R.dom x e
  new := R.new
  len := R.len
  slots := fun i s e => by
    obtain ⟨v, e1, r⟩ := R.slots i s e
    refine ⟨v, e1, ?_⟩
    cases s with
    | sh d => exact r
    | why x => exact r
    | own c =>
      obtain ⟨x, ev, r, m, z⟩ := r
      subst ev
      exact ⟨x, rfl, r.heap (fun o q => by rw [upd_ne (fun z => (ap i _ e rfl).1 (by rw [e1, z]))]; exact q) (fun y hy o q => by rw [upd_ne (fun z => (ap i _ e rfl).2 x e1 (by rw [← z]; exact hy))]; exact q), m, z⟩
    | brw c =>
      obtain ⟨x, ev, r, m, z⟩ := r
      subst ev
      exact ⟨x, rfl, r.heap (fun o q => by rw [upd_ne (fun z => (ap i _ e rfl).1 (by rw [e1, z]))]; exact q) (fun y hy o q => by rw [upd_ne (fun z => (ap i _ e rfl).2 x e1 (by rw [← z]; exact hy))]; exact q), m, z⟩
  deep := R.deep.to (fun i s p es m ep q h => by rw [upd_ne (fun z => (ap i s es m).1 (by rw [ep, z]))] at h; exact h) R.deep.nf
  apart := R.apart
end
/-! ### the list that grows -/
def lcL (g : SG) (t f : Env → Option EO) (vs : List Nat) : List D → Env → List D → Option (List D × Env)
  | [], env, acc => some (acc, env)
  | d :: ds, env, acc => (g d env).bind fun e1 => match t e1 with
    | some (.val (.sh (.bl true)) e2) => (match f e2 with
      | some (.val v e3) => (take e3 v).bind fun p => if acc.length < sizeLine then lcL g t f vs ds (wipeE p.2 vs) (acc ++ [p.1]) else none
      | _ => none)
    | some (.val (.sh (.bl false)) e2) => lcL g t f vs ds (wipeE e2 vs) acc
    | _ => none
def eLC (vs : List Nat) (it : SI) (g : SG) (t f : SE) : SE := fun c env => match it c env with
  | some (.its ds e) => if calmE e vs = true then (lcL g (t c) (f c) vs ds (wipeE e vs) []).map fun p => .val (.fr (.lst p.1)) (restE e p.2 vs) else none
  | some (.exc x e) => some (.exc x e)
  | none => none
def eYes : SE := eC (.bl true)
abbrev WF : WX := fun _ _ _ _ => False
section
variable {X : Cx} {ca : PySem.W.Frag} {c : CT} {W : WX} {pos : Pos}
theorem PTs_weak {e : List Expr} {t t' : TT} (h : PTs X e t) (w : ∀ σ H Q, t' σ H Q → t σ H Q) : PTs X e t' := ⟨fun pins s σ H Q I q => h.run pins s σ H Q I (w σ H Q q)⟩
theorem ts_nil : PTs X [] (rdT ca c W eYes) := PTs_weak pts_nil (by
  rintro σ H Q ⟨b, env, G, o, R, e, post⟩
  cases e
  exact post G H R)
theorem ts_one {t : Expr} {f : SE} (h : PT X t (rdT ca c W f)) : PTs X [t] (rdT ca c W f) := pts_one h
theorem lc_in {it : SI} {g : SG} {t f : SE} {vs js : List Nat} (hj : ∀ j ∈ js, j ∈ vs) : ∀ σ H Q, rdE ca c W (eLC vs it g t f) σ H Q → tLc (rdI ca c W it) (rdG ca g js) (rdT ca c WF t) (rdE ca c WF f) vs σ H Q := by
  rintro σ H Q ⟨b, env, G, o, R, e, post⟩
  unfold eLC at e
  split at e
  · rename_i ds e0 hf
    split at e
    · rename_i hcalm
      cases el : lcL g (t c) (f c) vs ds (wipeE e0 vs) [] with
      | none => rw [el] at e; cases e
      | some res =>
        rw [el] at e
        cases e
        refine rdI_use R hf fun J G1 H1 R1 ok _ => fun Da hD => ?_
        have Rw := (R1.wipe vs)
        have Rb := Rw.rb
        have ub : ∀ {env' σ' G' H'}, Rel ca (Pd.rb ca (wipeE e0 vs) (wipe σ vs) G1 H1) env' σ' G' H' → Rel ca b env' σ' G' H' := fun q => Rw.unrb q
        have hH0 : (Pd.rb ca (wipeE e0 vs) (wipe σ vs) G1 H1).H0 Da = none := hD
        have hbD : b.O Da ∨ b.H0 Da = none := .inr (R1.dom _ hD)
        have gg : (Pd.rb ca (wipeE e0 vs) (wipe σ vs) G1 H1).G0 = G1 := rfl
        generalize Pd.rb ca (wipeE e0 vs) (wipe σ vs) G1 H1 = b2 at Rb ub hH0 gg
        refine ⟨fun i m H' => m = ds.length - i ∧ i ≤ ds.length ∧ ∃ en G' acc us, Rel ca b2 en (wipe σ vs) G' H' ∧ Same G1 G' ∧ H' Da = some (.lst us) ∧ G' Da = none ∧ Free ca en (wipe σ vs) H' Da ∧ Reps ca G' us acc ∧
            lcL g (t c) (f c) vs (ds.drop i) en acc = some res, ⟨_, rfl, Nat.zero_le _, _, G1, [], [], Rb.grow hD, Same.refl _, upd_same, R1.sub.free hD, ?_, .nil, by simpa using el⟩, ?_⟩
        · exact Rw.newUp hD
        rintro i m H' ⟨rfl, hi, en, G', acc, us, R', sg, hDa, hGa, hap, hr, ef⟩
        by_cases hlt : i < ds.length
        · have hd : ds[i]? = some ds[i] := by simp [hlt]
          obtain ⟨go, yl⟩ := (ok i H' G' sg R'.sub).1 _ hd
          rw [List.drop_eq_getElem_cons hlt] at ef
          unfold lcL at ef
          cases eg : g ds[i] en with
          | none => rw [eg] at ef; cases ef
          | some e1 =>
            rw [eg] at ef
            simp only [Option.bind_some] at ef
            refine .inr ⟨go, fun H2 => ∃ en2 G2 acc2 us2, Rel ca b2 en2 (wipe σ vs) G2 H2 ∧ Same G1 G2 ∧ H2 Da = some (.lst us2) ∧ G2 Da = none ∧ Free ca en2 (wipe σ vs) H2 Da ∧ Reps ca G2 us2 acc2 ∧
              lcL g (t c) (f c) vs (ds.drop (i + 1)) en2 acc2 = some res, fun H2 ⟨en2, G2, acc2, us2, q⟩ => ⟨ds.length - (i + 1), by omega, rfl, hlt, en2, G2, acc2, us2, q⟩, fun x H2 y => ?_⟩
            -- this turn's own entry: the new list stands in it
            have Rt := R'.rb
            have ut : ∀ {env' σ' G' H'}, Rel ca (Pd.rb ca en (wipe σ vs) G' H') env' σ' G' H' → True := fun _ => trivial
            have ub3 : ∀ {env' σ' G2 H2}, Rel ca (Pd.rb ca en (wipe σ vs) G' H') env' σ' G2 H2 → Rel ca b2 env' σ' G2 H2 := fun q => R'.unrb q
            have tH0 : (Pd.rb ca en (wipe σ vs) G' H').H0 Da = some (.lst us) := hDa
            have tG0 : (Pd.rb ca en (wipe σ vs) G' H').G0 = G' := rfl
            have tO : (Pd.rb ca en (wipe σ vs) G' H').out Da := hap.rb
            generalize Pd.rb ca en (wipe σ vs) G' H' = b3 at Rt ub3 tH0 tG0 tO
            have stand : ∀ {en σ' G H}, Rel ca b3 en σ' G H → Same G' G ∧ H Da = some (.lst us) ∧ G Da = none ∧ Free ca en σ' H Da := fun {en σ' G H} RR => by
              obtain ⟨y1, y2, y3⟩ := RR.stand tH0 tO
              exact ⟨by rw [← tG0]; exact RR.g0, y1, y2 (by rw [tG0]; exact hGa), y3⟩
            obtain ⟨G2, s2, R2, vr⟩ := (yl x H2 y).at Rt
            refine ⟨b3, en, G2, ds[i], e1, R2, vr, eg, fun σ3 R3 bt => ⟨wipe_eq hj bt, ?_⟩⟩
            have wq := wipe_eq hj bt
            split at ef
            · rename_i e2 et
              split at ef
              · rename_i v e3 ee
                cases ek : take e3 v with
                | none => rw [ek] at ef; cases ef
                | some pv =>
                  rw [ek] at ef
                  simp only [Option.bind_some] at ef
                  split at ef
                  · rename_i hz
                    refine ⟨b3, e1, G2, _, R3, et, fun G4 H4 R4 => ?_⟩
                    refine iteT ?_
                    refine ⟨b3, e2, G4, _, R4, ee, fun u G5 H5 R5 vr5 => ?_⟩
                    obtain ⟨G6, s6, R6, hd6⟩ := VRel.held R5 vr5
                    obtain ⟨G7, s7, R7, r7⟩ := hd6.take (d := pv.1) (env' := pv.2) R6 ek
                    obtain ⟨t1, t2, t3, t4⟩ := stand R7
                    refine ⟨us, t2, by rw [hr.len]; exact hz, wipeE pv.2 vs, G7, acc ++ [pv.1], us ++ [u], ?_, sg.trans t1, upd_same, t3, ?_, (hr.mono t1).append (.one r7), ef⟩
                    · have R8 := (ub3 R7).wipe vs
                      rw [wq] at R8
                      refine R8.other hH0 t3 ?_
                      have R9 := R7.wipe vs
                      rw [wq] at R9
                      exact (stand R9).2.2.2
                    · have R9 := R7.wipe vs
                      rw [wq] at R9
                      exact (stand R9).2.2.2.upd
                  · cases ef
              · cases ef
            · rename_i e2 et
              refine ⟨b3, e1, G2, _, R3, et, fun G4 H4 R4 => ?_⟩
              refine iteF ?_
              obtain ⟨t1, t2, t3, t4⟩ := stand R4
              have R9 := R4.wipe vs
              rw [wq] at R9
              exact ⟨wipeE e2 vs, G4, acc, us, ub3 R9, sg.trans t1, t2, t3, (stand R9).2.2.2, hr.mono t1, ef⟩
            · cases ef
        · have hh : i = ds.length := by omega
          subst hh
          rw [List.drop_length] at ef
          cases ef
          refine .inl ⟨(ok _ H' G' sg R'.sub).2 (Nat.le_refl _), ?_⟩
          have R3 : Rel ca b2 (restE e0 en vs) σ G' H' := Rel.rest R1 hcalm R' sg
          have R4 : Rel ca b (restE e0 en vs) σ G' H' := Rel.rest R1 hcalm (ub R') sg
          exact post _ G' H' R4 ⟨Da, rfl, ⟨us, hDa, hr⟩, hGa, hbD, Free.rest hcalm hap, fun x h => h.elim⟩
    · cases e
  · rename_i x e0 hf
    cases e
    exact rdI_use R hf fun cls d G' H' R' q => post cls d G' H' R' q
  · cases e
theorem p_lc {elt tg iter : Expr} {ifs : List Expr} {scope : Scope} {own : List (Str × Nat)} {it : SI} {g : SG} {t f : SE} {js : List Nat} (hc : X.calm = true) (hN : X.N.Nodup) (hi : PI X tg iter (rdI ca c W it)) (ok : blkC X.N X.env.scope scope own = true)
    (hg : ∀ (s : Shared) (H : Hp) (C : Addr) (cl : List (Str × Addr)) (fp : List Addr), PG (X.blk s H scope (compEnvC scope cl C X.env) fp) tg (rdG ca g js)) (ht : ∀ (s : Shared) (H : Hp) (C : Addr) (cl : List (Str × Addr)) (fp : List Addr), PTs (X.blk s H scope (compEnvC scope cl C X.env) fp) ifs (rdT ca c WF t))
    (he : ∀ (s : Shared) (H : Hp) (C : Addr) (cl : List (Str × Addr)) (fp : List Addr), PE (X.blk s H scope (compEnvC scope cl C X.env) fp) elt (rdE ca c WF f)) (hj : ∀ j ∈ js, j ∈ own.map (·.2) := by decide) (hs : ∀ x, foldedSetIterable iter X.env x = pure x := by intro _; rfl) :
    PE X (.ListComp elt [⟨tg, iter, ifs, 0⟩] scope pos) (rdE ca c W (eLC (own.map (·.2)) it g t f)) := PE_weak (pe_lc hc hN hi (blkOk_by ok) hg ht he hs) (lc_in hj)
/-- y = [..] on one line -/
theorem s_setLc {i : Nat} {y : Str} {py spos : Pos} {elt tg iter : Expr} {ifs : List Expr} {scope : Scope} {own : List (Str × Nat)} {it : SI} {g : SG} {t f : SE} {js : List Nat} (hc : X.calm = true) (hN : X.N.Nodup)
    (hi : PI X tg iter (rdI ca c W it)) (ok : blkC X.N X.env.scope scope own = true)
    (hg : ∀ (s : Shared) (H : Hp) (C : Addr) (cl : List (Str × Addr)) (fp : List Addr), PG (X.blk s H scope (compEnvC scope cl C X.env) fp) tg (rdG ca g js)) (ht : ∀ (s : Shared) (H : Hp) (C : Addr) (cl : List (Str × Addr)) (fp : List Addr), PTs (X.blk s H scope (compEnvC scope cl C X.env) fp) ifs (rdT ca c WF t))
    (he : ∀ (s : Shared) (H : Hp) (C : Addr) (cl : List (Str × Addr)) (fp : List Addr), PE (X.blk s H scope (compEnvC scope cl C X.env) fp) elt (rdE ca c WF f)) (hj : ∀ j ∈ js, j ∈ own.map (·.2) := by decide)
    (hy : X.N[i]? = some y := by rfl) (hyl : X.env.scope.names.lookup y = some .local := by rfl) (hsw : swapsWith (.ListComp elt [⟨tg, iter, ifs, 0⟩] scope pos) (some (.Name y py)) spos.line X.env = pure true := by exact sw_true rfl rfl rfl (by decide +kernel)) (hs : ∀ x, foldedSetIterable iter X.env x = pure x := by intro _; rfl) :
    PS X (.Assign [.Name y py] (.ListComp elt [⟨tg, iter, ifs, 0⟩] scope pos) spos) (rdS ca c W (sSet i (eLC (own.map (·.2)) it g t f))) := PS_weak (ps_setLc hc hN hy hyl hsw hi (blkOk_by ok) hg ht he hs) (by
  rintro D σ H ⟨b, env, G, o, R, e, post⟩
  refine lc_in hj σ H _ (rdS_bind R e post fun v e1 u G1 H1 _ R1 vr sg e => ?_)
  cases er : setV e1 i v with
  | none => rw [er] at e; cases e
  | some e2 =>
    rw [er] at e
    cases e
    obtain ⟨G2, s2, R2⟩ := VRel.set R1 vr er
    exact post _ G2 H1 R2)
end
end Pd
/-! Pd7: defs and their calls -/
namespace Pd
open PySem PySem.Spec L2
variable [Ext]
section
variable (ca : PySem.W.Frag)
def ArgRel (G H : Hp) (v : V) : Arg → Prop
  | .sh d => Rep ca G v d
  | .brw c => ∃ a, v = .ref a ∧ CellRel ca G H a c ∧ G a = none
def brwAt (vs : List V) (args : List Arg) (i : Nat) : Option Addr := match args[i]?, vs[i]? with
  | some (.brw _), some (.ref a) => some a
  | _, _ => none
/-- a list of a lent object's own -/
def ASub (H : Hp) (vs : List V) (args : List Arg) (i : Nat) (x : Addr) : Prop := ∃ c a, args[i]? = some (.brw c) ∧ vs[i]? = some (.ref a) ∧ Sub ca H a c x
structure ArgsRel (G H : Hp) (vs : List V) (args : List Arg) : Prop where
  len : vs.length = args.length
  at_ : ∀ (i : Nat) v g, vs[i]? = some v → args[i]? = some g → ArgRel ca G H v g
  apart : ∀ (i j : Nat) a, i ≠ j → brwAt vs args i = some a → brwAt vs args j = some a → False
  nf : ∀ (i : Nat) x, ASub ca H vs args i x → G x = none
  apS : ∀ (i j : Nat) x, i ≠ j → ASub ca H vs args i x → brwAt vs args j ≠ some x ∧ ¬ ASub ca H vs args j x
/-- a list of its own that a lent object has at the end -/
def OSub (H' : Hp) (vs : List V) (args : List Arg) (outs : List (Option Cell)) (i : Nat) (x : Addr) : Prop := ∃ p cl, brwAt vs args i = some p ∧ outs[i]? = some (some cl) ∧ Sub ca H' p cl x
structure CPost (G H : Hp) (vs : List V) (args : List Arg) (outs : List (Option Cell)) (G' H' : Hp) : Prop where
  sub : Same G' H'
  mono : Same G G'
  new : ∀ a o, G' a = some o → G a = some o ∨ H a = none
  fr : ∀ a o, H a = some o → (∀ i, brwAt vs args i ≠ some a) → (∀ i, ¬ ASub ca H vs args i a) → H' a = some o
  dom : ∀ a, H' a = none → H a = none
  nf : ∀ (i : Nat) x, OSub ca H' vs args outs i x → G' x = none ∧ (ASub ca H vs args i x ∨ H x = none)
  apO : ∀ (i j : Nat) x, i ≠ j → OSub ca H' vs args outs i x → brwAt vs args j ≠ some x ∧ ¬ OSub ca H' vs args outs j x
  outs : ∀ (i : Nat) a, brwAt vs args i = some a → ∃ cl, outs[i]? = some (some cl) ∧ CellRel ca G' H' a cl ∧ G' a = none
def RRelC (vs : List V) (args : List Arg) (outs : List (Option Cell)) (H G' H' : Hp) (u : V) : RV → Prop
  | .sh d => Rep ca G' u d
  | .fr cl => ∃ a, u = .ref a ∧ CellRel ca G' H' a cl ∧ ∀ x, (x = a ∨ Sub ca H' a cl x) → G' x = none ∧ H x = none ∧ ∀ i, ¬ OSub ca H' vs args outs i x
def CRPost (G H : Hp) (vs : List V) (args : List Arg) (Q : VK) (E : XK) : CRes → Prop
  | .ret rv outs => ∀ u G' H', CPost ca G H vs args outs G' H' → RRelC ca vs args outs H G' H' u rv → Q u H'
  | .exc x outs => ∀ cls d G' H', CPost ca G H vs args outs G' H' → ExcRel ca G' H' cls d x → E cls d H'
def spOf (g : List Arg → Option CRes) : Sp := fun vs H Q E => ∃ G args r, Same G H ∧ ArgsRel ca G H vs args ∧ g args = some r ∧ CRPost ca G H vs args Q E r
end
/-- a class method: the class itself comes first, and is no argument here -/
def spC (ca : PySem.W.Frag) (C : Str) (g : List Arg → Option CRes) : Sp := fun vs H Q E => ∃ rest, vs = .ref (He.ga ca C) :: rest ∧ spOf ca g rest H Q E
/-- the names of class methods -/
def cmDeco : List Str := ["of", "point", "replay"]
def cmB (p : Str × Option Str) : Bool := match p.2 with
  | none => false
  | some m => cmDeco.contains m
def spP (ca : PySem.W.Frag) (p : Str × Option Str) (g : List Arg → Option CRes) : Sp := if cmB p = true then spC ca p.1 g else spOf ca g
theorem spP_of {ca : PySem.W.Frag} {p : Str × Option Str} {g : List Arg → Option CRes} (h : cmB p = false) : spP ca p g = spOf ca g := if_neg (by rw [h]; exact Bool.false_ne_true)
theorem brwAt_some {vs : List V} {args : List Arg} {i : Nat} {a : Addr} (h : brwAt vs args i = some a) : (∃ c, args[i]? = some (.brw c)) ∧ vs[i]? = some (.ref a) := by
  unfold brwAt at h
  split at h
  · rename_i h1 h2
    cases h
    exact ⟨⟨_, h1⟩, h2⟩
  · cases h
theorem brwAt_of {vs : List V} {args : List Arg} {i : Nat} {a : Addr} {c : Cell} (h1 : args[i]? = some (.brw c)) (h2 : vs[i]? = some (.ref a)) : brwAt vs args i = some a := by
  unfold brwAt; rw [h1, h2]
def slotOf : Arg → Option Slot
  | .sh d => some (.sh d)
  | .brw c => some (.brw c)
def initEnv (n : Nat) (args : List Arg) : Env := args.map slotOf ++ List.replicate (n - args.length) none
def outsOf : List Arg → Env → Option (List (Option Cell))
  | [], _ => some []
  | .sh _ :: as, _ :: env => (outsOf as env).map (none :: ·)
  | .brw _ :: as, some (.brw cl) :: env => (outsOf as env).map (some cl :: ·)
  | _, _ => none
theorem outsOf_at : ∀ {args : List Arg} {env : Env} {outs : List (Option Cell)}, outsOf args env = some outs → ∀ (i : Nat) (c : Cell), args[i]? = some (.brw c) → ∃ cl, env[i]? = some (some (.brw cl)) ∧ outs[i]? = some (some cl)
  | [], _, _, _, i, c, h => by simp at h
  | .sh d :: as, [], _, e, _, _, _ => by cases e
  | .sh d :: as, o :: env, outs, e, i, c, h => by
    have e : (outsOf as env).map (none :: ·) = some outs := e
    cases er : outsOf as env with
    | none => rw [er] at e; cases e
    | some os =>
      rw [er] at e
      cases e
      cases i with
      | zero => cases h
      | succ n =>
        obtain ⟨cl, h1, h2⟩ := outsOf_at er n c (by simpa using h)
        exact ⟨cl, by simpa using h1, by simpa using h2⟩
  | .brw d :: as, [], _, e, _, _, _ => by cases e
  | .brw d :: as, none :: env, outs, e, i, c, h => by cases e
  | .brw d :: as, some (.sh _) :: env, outs, e, i, c, h => by cases e
  | .brw d :: as, some (.own _) :: env, outs, e, i, c, h => by cases e
  | .brw d :: as, some (.brw cl) :: env, outs, e, i, c, h => by
    have e : (outsOf as env).map (some cl :: ·) = some outs := e
    cases er : outsOf as env with
    | none => rw [er] at e; cases e
    | some os =>
      rw [er] at e
      cases e
      cases i with
      | zero => exact ⟨cl, rfl, rfl⟩
      | succ n =>
        obtain ⟨cl, h1, h2⟩ := outsOf_at er n c (by simpa using h)
        exact ⟨cl, by simpa using h1, by simpa using h2⟩
/-- what a def computes: n names, m parameters -/
def runDef (n m : Nat) (f : SS) (c : CT) : List Arg → Option CRes := fun args => if args.length = m then (match f c (initEnv n args) with
  | some (.nx e) => (outsOf args e).map (.ret (.sh .non) ·)
  | some (.ret r e) => (outsOf args e).map (.ret r ·)
  | some (.exc x e) => (outsOf args e).map (.exc x ·)
  | _ => none) else none
section
variable {P : Program} {w : World} {K : PySem.W.Frag} {mg : Str → Option Value} {base : Heap} {x qual : Str} {params : Arguments} {body : List Stmt} {scope : Scope} {dvs : List V} {kws : List (Str × V)} {f : Addr} {fd : FuncData}
def entry (ca : PySem.W.Frag) (vs : List V) (args : List Arg) (G H : Hp) : Bs := ⟨H, G, brwAt vs args, fun _ => False, fun i x => ASub ca H vs args i x⟩
theorem Rel.init {G H : Hp} {vs : List V} {args : List Arg} {N : List Str} (s : Same G H) (r : ArgsRel K G H vs args) (hl : vs.length ≤ N.length) : Rel K (entry K vs args G H) (initEnv N.length args) (L2.start N vs) G H := by
  have hs : ∀ {i : Nat} {s : Slot}, (initEnv N.length args)[i]? = some (some s) → ∃ g, args[i]? = some g ∧ slotOf g = some s ∧ ∃ v, vs[i]? = some v ∧ (L2.start N vs)[i]? = some (some v) := fun {i s} es => by
    unfold initEnv at es
    by_cases hi : i < args.length
    · rw [List.getElem?_append_left (by simpa using hi), List.getElem?_map] at es
      have ha : args[i]? = some args[i] := by simp [hi]
      rw [ha] at es
      have hv : vs[i]? = some (vs[i]'(by rw [r.len]; exact hi)) := by simp [r.len, hi]
      refine ⟨_, ha, by simpa using es, _, hv, ?_⟩
      unfold L2.start
      rw [List.getElem?_append_left (by rw [List.length_map, r.len]; exact hi), List.getElem?_map, hv]
      rfl
    · rw [List.getElem?_append_right (by simpa using hi), List.getElem?_replicate] at es
      split at es <;> cases es
  have hbr : ∀ {i : Nat} {s : Slot}, (initEnv N.length args)[i]? = some (some s) → s.mut = true → ∃ a, brwAt vs args i = some a ∧ (L2.start N vs)[i]? = some (some (.ref a)) := fun {i s} es m => by
    obtain ⟨g, h1, h2, v, h3, h4⟩ := hs es
    cases g with
    | sh d => cases h2; cases m
    | brw c =>
      obtain ⟨a, ev, _⟩ := r.at_ i v _ h3 h1
      subst ev
      exact ⟨a, brwAt_of h1 h3, h4⟩
  have hsu : ∀ {i : Nat} {s : Slot} {a x : Addr}, (initEnv N.length args)[i]? = some (some s) → (L2.start N vs)[i]? = some (some (.ref a)) → SSub K H a s x → ASub K H vs args i x := fun {i s a x} es ea q => by
    obtain ⟨g, h1, h2, v, h3, h4⟩ := hs es
    rw [h4] at ea; cases ea
    cases g with
    | sh d => cases h2; exact q.elim
    | brw c => cases h2; exact ⟨c, a, h1, h3, q⟩
  refine ⟨s, Same.refl _, fun a o e _ _ _ => e, fun a e => e, fun a o e => .inl e, ?_, fun i s' es => ?_, fun i j s' t a hij e1 e2 m1 m2 s1 s2 => ?_,
    ⟨fun i s' a x e1 m ea q => r.nf i x (hsu e1 ea q), fun i c a x e1 ea q => ?_, fun i c a x e1 ea q => .inl (hsu e1 ea q), fun i j s' t a p x hij e1 e2 m1 m2 ea ep q => ?_⟩⟩
  · unfold initEnv L2.start
    rw [List.length_append, List.length_map, List.length_replicate, List.length_append, List.length_map, List.length_replicate, r.len]
  · obtain ⟨g, h1, h2, v, h3, h4⟩ := hs es
    refine ⟨v, h4, ?_⟩
    cases g with
    | sh d => cases h2; exact r.at_ i v _ h3 h1
    | brw c =>
      cases h2
      obtain ⟨a, ev, cr, n⟩ := r.at_ i v _ h3 h1
      subst ev
      exact ⟨a, rfl, cr, n, brwAt_of h1 h3⟩
  · obtain ⟨a1, b1, c1⟩ := hbr e1 m1
    obtain ⟨a2, b2, c2⟩ := hbr e2 m2
    rw [s1] at c1; cases c1
    rw [s2] at c2; cases c2
    exact r.apart i j a hij b1 b2
  · obtain ⟨g, h1, h2, _⟩ := hs e1
    cases g with
    | sh d => cases h2
    | brw c => cases h2
  · obtain ⟨z1, z2⟩ := r.apS i j x hij (hsu e1 ea q)
    obtain ⟨a2, b2, c2⟩ := hbr e2 m2
    rw [ep] at c2; cases c2
    exact ⟨fun y => z1 (by rw [y]; exact b2), fun y => z2 (hsu e2 ep y)⟩
/-- what stands at the end where an object was lent -/
theorem Rel.out_at {G H G' H' : Hp} {vs : List V} {args : List Arg} {env' : Env} {σ' : St} {outs : List (Option Cell)} (R : Rel K (entry K vs args G H) env' σ' G' H') (e : outsOf args env' = some outs) {i : Nat} {a : Addr} (h : brwAt vs args i = some a) :
    ∃ cl, outs[i]? = some (some cl) ∧ env'[i]? = some (some (.brw cl)) ∧ σ'[i]? = some (some (.ref a)) ∧ CellRel K G' H' a cl ∧ G' a = none := by
  obtain ⟨⟨c, h1⟩, h2⟩ := brwAt_some h
  obtain ⟨cl, q1, q2⟩ := outsOf_at e i c h1
  obtain ⟨v, e1, a', ev, cr, n, z⟩ := R.slots i _ q1
  have z : brwAt vs args i = some a' := z
  rw [h] at z; cases z
  subst ev
  exact ⟨cl, q2, q1, e1, cr, n⟩
theorem Rel.osub_at {G H G' H' : Hp} {vs : List V} {args : List Arg} {env' : Env} {σ' : St} {outs : List (Option Cell)} (R : Rel K (entry K vs args G H) env' σ' G' H') (e : outsOf args env' = some outs) {i : Nat} {x : Addr} (h : OSub K H' vs args outs i x) :
    ∃ cl a, brwAt vs args i = some a ∧ env'[i]? = some (some (.brw cl)) ∧ σ'[i]? = some (some (.ref a)) ∧ Sub K H' a cl x := by
  obtain ⟨p, cl, h1, h2, h3⟩ := h
  obtain ⟨cl', q1, q2, q3, _⟩ := R.out_at e h1
  rw [h2] at q1; cases q1
  exact ⟨cl, p, h1, q2, q3, h3⟩
theorem Rel.cpost {G H G' H' : Hp} {vs : List V} {args : List Arg} {env' : Env} {σ' : St} {outs : List (Option Cell)} (r : ArgsRel K G H vs args) (R : Rel K (entry K vs args G H) env' σ' G' H') (e : outsOf args env' = some outs) : CPost K G H vs args outs G' H' where
  sub := R.sub
  mono := R.g0
  new := fun a o q => by
    rcases R.new a o q with z | z | z
    · exact .inl z
    · exact .inr z
    · exact z.elim
  fr := fun a o q h h2 => R.fr a o q h (fun z => z) fun i z => h2 i z
  dom := R.dom
  outs := fun i a h => by
    obtain ⟨cl, q1, _, _, q2, q3⟩ := R.out_at e h
    exact ⟨cl, q1, q2, q3⟩
  nf := fun i x h => by
    obtain ⟨cl, a, q1, q2, q3, q4⟩ := R.osub_at e h
    refine ⟨R.deep.nf i _ a x q2 rfl q3 q4, ?_⟩
    rcases R.deep.brw i cl a x q2 q3 q4 with z | z | z
    · exact .inl z
    · exact z.elim
    · exact .inr z
  apO := fun i j x hij h => by
    obtain ⟨cl, a, q1, q2, q3, q4⟩ := R.osub_at e h
    refine ⟨fun z => ?_, fun z => ?_⟩
    · obtain ⟨cl', w1, w2, w3, _⟩ := R.out_at e z
      exact (R.deep.ap i j _ _ a x x hij q2 w2 rfl rfl q3 w3 q4).1 rfl
    · obtain ⟨cl', a', w1, w2, w3, w4⟩ := R.osub_at e z
      exact (R.deep.ap i j _ _ a a' x hij q2 w2 rfl rfl q3 w3 q4).2 w4
theorem Rel.rrelc {G H G' H' : Hp} {vs : List V} {args : List Arg} {env' : Env} {σ' : St} {outs : List (Option Cell)} {u : V} {rv : RV} (R : Rel K (entry K vs args G H) env' σ' G' H') (e : outsOf args env' = some outs) (rr : RRel K (entry K vs args G H) env' σ' G' H' u rv) : RRelC K vs args outs H G' H' u rv := by
  cases rv with
  | sh d => exact rr
  | fr cl =>
    obtain ⟨a, ev, cr, n, z, F, su⟩ := rr
    have no : ∀ {y : Addr}, Free K env' σ' H' y → ∀ i, ¬ OSub K H' vs args outs i y := fun {y} F i h => by
      obtain ⟨cl', a', q1, q2, q3, q4⟩ := R.osub_at e h
      exact (F i _ q2 rfl).2 a' q3 q4
    refine ⟨a, ev, cr, fun x hx => ?_⟩
    rcases hx with rfl | hx
    · exact ⟨n, z.resolve_left (fun z => z), no F⟩
    · obtain ⟨s1, s2, s3⟩ := su x hx
      exact ⟨s1, s2.resolve_left (fun z => z), no s3⟩
/-- THE RULE for a def -/
theorem fn_ok {N ps : List Str} {k : Nat} {c : CT} {sm : SS} (F : FunD K x qual params body scope dvs kws f fd) (S : FnScope N ps scope)
    (hbody : ∀ (cdv : Value) (A : Around) (outer : List PySem.Env) (s : Shared) (H : Hp) (E : XK), Room k (A.deeper (PyProof.Rows.envOfC qual scope s.heap.objs.size f cdv)) →
      PSs (cxOf (CX P w) P w K mg base N qual scope f cdv A outer s H E) body (rdS K c (fun cls d _ H' => E cls d H') sm)) :
    FnOk P w K mg base (CX P w) (k + 1) f fd ps (spOf K (runDef N.length ps.length sm c)) := by
  have hpl : ps.length ≤ N.length := by have := congrArg List.length S.pre; rw [List.length_take] at this; omega
  have len : ∀ vs H Q E, spOf K (runDef N.length ps.length sm c) vs H Q E → vs.length = ps.length := fun vs H Q E ⟨G, args, r, _, ra, e, _⟩ => by
    unfold runDef at e
    split at e
    · rename_i hl; rw [ra.len, hl]
    · cases e
  refine F.ok S len fun cdv A outer s H vs Q E hr hsp => ⟨_, hbody cdv A outer s H E hr, ?_⟩
  have hv := len vs H Q E hsp
  obtain ⟨G, args, r, sg, ra, e, post⟩ := hsp
  have R0 := Rel.init (N := N) sg ra (by omega)
  unfold runDef at e
  split at e
  · cases ef : sm c (initEnv N.length args) with
    | none => rw [ef] at e; cases e
    | some o =>
      rw [ef] at e
      refine ⟨_, _, G, o, R0, ef, ?_⟩
      have go : ∀ {g : List (Option Cell) → CRes} {en : Env}, (outsOf args en).map g = some r → ∃ outs, outsOf args en = some outs ∧ r = g outs := fun {g en} q => by
        cases eo : outsOf args en with
        | none => rw [eo] at q; cases q
        | some os => rw [eo] at q; cases q; exact ⟨os, rfl, rfl⟩
      cases o with
      | nx en =>
        obtain ⟨outs, h1, rfl⟩ := go e
        exact fun σ' G' H' R' => post .non G' H' (R'.cpost ra h1) .non
      | ret rv en =>
        obtain ⟨outs, h1, rfl⟩ := go e
        intro u σ' G' H' R' rr
        exact post u G' H' (R'.cpost ra h1) (R'.rrelc h1 rr)
      | exc xx en =>
        obtain ⟨outs, h1, rfl⟩ := go e
        exact fun cls d σ' G' H' R' q => post cls d G' H' (R'.cpost ra h1) q
      | brk en => cases e
      | ct en => cases e
  · cases e
end

end Pd
/-! Pd8: calls of defs -/
namespace Pd
open PySem PySem.Spec L2
variable [Ext]
def Slot.put : Slot → Cell → Slot
  | .sh d, _ => .sh d
  | .own _, c => .own c
  | .brw _, c => .brw c
  | .why x, _ => .why x
def cellAt (env : Env) (i : Nat) : Option Cell := match env[i]? with
  | some (some (.own c)) => some c
  | some (some (.brw c)) => some c
  | _ => none
def putCell (env : Env) (i : Nat) (c : Cell) : Env := match env[i]? with
  | some (some s) => env.set i (some (s.put c))
  | _ => env
section
variable {ca : PySem.W.Frag} {b : Bs} {env : Env} {σ : St} {G H G' H' : Hp}
theorem cellAt_some {i : Nat} {cl : Cell} (h : cellAt env i = some cl) : ∃ s : Slot, env[i]? = some (some s) ∧ s.mut = true ∧ (s = .own cl ∨ s = .brw cl) := by
  unfold cellAt at h
  split at h
  · rename_i c hc; cases h; exact ⟨_, hc, rfl, .inl rfl⟩
  · rename_i c hc; cases h; exact ⟨_, hc, rfl, .inr rfl⟩
  · cases h
theorem Rel.cell (R : Rel ca b env σ G H) {i : Nat} {cl : Cell} (h : cellAt env i = some cl) : ∃ a, σ[i]? = some (some (.ref a)) ∧ CellRel ca G H a cl ∧ G a = none := by
  obtain ⟨s, h1, h2, h3⟩ := cellAt_some h
  obtain ⟨v, e1, r⟩ := R.slots i s h1
  rcases h3 with rfl | rfl
  · obtain ⟨a, ev, cr, n, _⟩ := r; subst ev; exact ⟨a, e1, cr, n⟩
  · obtain ⟨a, ev, cr, n, _⟩ := r; subst ev; exact ⟨a, e1, cr, n⟩
theorem nf_of (new : ∀ a o, G' a = some o → G a = some o ∨ H a = none) {a : Addr} (n : G a = none) (t : ∃ o, H a = some o) : G' a = none := by
  obtain ⟨o, ho⟩ := t
  cases q : G' a with
  | none => rfl
  | some o' =>
    rcases new a o' q with z | z
    · rw [n] at z; cases z
    · rw [ho] at z; cases z
/-- something has been called: new objects, nothing else -/
theorem Rel.call0 (R : Rel ca b env σ G H) (sub : Same G' H') (mono : Same G G') (new : ∀ a o, G' a = some o → G a = some o ∨ H a = none) (fr : Same H H') : Rel ca b env σ G' H' where
  sub := sub
  g0 := R.g0.trans mono
  fr := fun a o e h1 h2 h3 => fr _ _ (R.fr a o e h1 h2 h3)
  dom := fun a e => R.dom a (fr.free e)
  new := fun a o e => by
    rcases new a o e with z | z
    · exact R.new a o z
    · exact .inr (.inl (R.dom a z))
  len := R.len
  slots := fun i s e => by
    obtain ⟨v, e1, r⟩ := R.slots i s e
    refine ⟨v, e1, ?_⟩
    cases s with
    | sh d => exact Rep.mono mono r
    | why x => exact r.mono mono
    | own c => obtain ⟨a, ev, cr, n, z⟩ := r; exact ⟨a, ev, (cr.mono mono).heapS fr, nf_of new n cr.there, z⟩
    | brw c => obtain ⟨a, ev, cr, n, z⟩ := r; exact ⟨a, ev, (cr.mono mono).heapS fr, nf_of new n cr.there, z⟩
  apart := R.apart
  deep := R.deep.to (R.backs fr) fun i s a x e m ea q => nf_of new (R.deep.nf i s a x e m ea q) ((R.subAt e ea q).2.elim fun ws h => ⟨_, h⟩)
theorem cellAt_sub {i : Nat} {cl : Cell} {a0 x : Addr} (hc : cellAt env i = some cl) : ∃ s, env[i]? = some (some s) ∧ s.mut = true ∧ (SSub ca H a0 s x ↔ Sub ca H a0 cl x) := by
  obtain ⟨s, h1, h2, h3⟩ := cellAt_some hc
  rcases h3 with rfl | rfl
  · exact ⟨_, h1, rfl, Iff.rfl⟩
  · exact ⟨_, h1, rfl, Iff.rfl⟩
/-- .. and what stands in slot i has been written -/
theorem Rel.callI (R : Rel ca b env σ G H) {i : Nat} {a0 : Addr} {cl cl' : Cell} (hc : cellAt env i = some cl) (h0 : σ[i]? = some (some (.ref a0))) (sub : Same G' H') (mono : Same G G') (new : ∀ a o, G' a = some o → G a = some o ∨ H a = none)
    (fr : ∀ a o, H a = some o → a ≠ a0 → ¬ Sub ca H a0 cl a → H' a = some o) (dom : ∀ a, H' a = none → H a = none) (cr : CellRel ca G' H' a0 cl') (gn : G' a0 = none) (su : ∀ x, Sub ca H' a0 cl' x → G' x = none ∧ (Sub ca H a0 cl x ∨ H x = none ∨ ((b.O x ∨ b.H0 x = none) ∧ Free ca env σ H x))) : Rel ca b (putCell env i cl') σ G' H' := by
  obtain ⟨s0, h1, h2, h3⟩ := cellAt_some hc
  have hi : i < env.length := (List.getElem?_eq_some_iff.mp h1).1
  have ep : putCell env i cl' = env.set i (some (s0.put cl')) := by unfold putCell; rw [h1]
  rw [ep]
  have mput : ∀ s : Slot, (s.put cl').mut = s.mut := fun s => by cases s <;> rfl
  have ss0 : ∀ {x : Addr}, SSub ca H a0 s0 x ↔ Sub ca H a0 cl x := fun {x} => by rcases h3 with rfl | rfl <;> exact Iff.rfl
  have ss1 : ∀ {x : Addr}, SSub ca H' a0 (s0.put cl') x → Sub ca H' a0 cl' x := fun {x} q => by rcases h3 with rfl | rfl <;> exact q
  have own0 : b.O a0 ∨ b.H0 a0 = none ∨ ∃ i, b.B i = some a0 := by
    obtain ⟨v, e1, r⟩ := R.slots i s0 h1
    rw [h0] at e1; cases e1
    rcases h3 with rfl | rfl
    · obtain ⟨a, ev, _, _, z⟩ := r
      cases ev
      rcases z with z | z
      · exact .inl z
      · exact .inr (.inl z)
    · obtain ⟨a, ev, _, _, z⟩ := r
      cases ev
      exact .inr (.inr ⟨i, z⟩)
  have ownS : ∀ {x : Addr}, Sub ca H a0 cl x → b.S i x ∨ b.O x ∨ b.H0 x = none := fun {x} q => by
    rcases h3 with rfl | rfl
    · exact .inr (R.deep.own i _ a0 x h1 h0 q)
    · exact R.deep.brw i _ a0 x h1 h0 q
  -- the other slots' objects are as they were
  have oth : ∀ {j : Nat} {s : Slot} {p : Addr}, i ≠ j → env[j]? = some (some s) → s.mut = true → σ[j]? = some (some (.ref p)) → ∀ o, H p = some o → H' p = some o := fun {j s p} hj es m ep o q =>
    fr p o q (fun z => R.apart i j s0 s a0 hj h1 es h2 m h0 (by rw [ep, z])) fun z => (R.deep.ap i j s0 s a0 p p hj h1 es h2 m h0 ep (ss0.mpr z)).1 rfl
  have bk : ∀ {j : Nat} {s : Slot} {p : Addr}, i ≠ j → env[j]? = some (some s) → s.mut = true → σ[j]? = some (some (.ref p)) → ∀ o, H' p = some o → H p = some o := fun {j s p} hj es m ep => back_of (oth hj es m ep) (R.thereAt es m ep).2
  refine ⟨sub, R.g0.trans mono, fun a o e q1 q2 q3 => ?_, fun a e => R.dom a (dom a e), fun a o e => ?_, by simpa using R.len, fun j s es => ?_, fun j k s t x hjk e1 e2 m1 m2 => ?_, ?_⟩
  · refine fr a o (R.fr a o e q1 q2 q3) (fun z => ?_) fun z => ?_
    · subst z
      rcases own0 with z | z | ⟨j, z⟩
      · exact q2 z
      · rw [z] at e; cases e
      · exact q1 j z
    · rcases ownS z with z | z | z
      · exact q3 i z
      · exact q2 z
      · rw [z] at e; cases e
  · rcases new a o e with z | z
    · exact R.new a o z
    · exact .inr (.inl (R.dom a z))
  · by_cases hj : i = j
    · subst hj
      rw [List.getElem?_set_self hi] at es; cases es
      refine ⟨_, h0, ?_⟩
      obtain ⟨v, e1, r⟩ := R.slots i s0 h1
      rw [h0] at e1; cases e1
      cases s0 with
      | sh d => cases h2
      | why x => cases h2
      | own c => obtain ⟨a, ev, _, _, z⟩ := r; cases ev; exact ⟨_, rfl, cr, gn, z⟩
      | brw c => obtain ⟨a, ev, _, _, z⟩ := r; cases ev; exact ⟨_, rfl, cr, gn, z⟩
    · rw [List.getElem?_set_ne hj] at es
      obtain ⟨v, e1, r⟩ := R.slots j s es
      refine ⟨v, e1, ?_⟩
      have go : ∀ {a : Addr} {c : Cell}, s.mut = true → v = .ref a → (∀ x, Sub ca H a c x → SSub ca H a s x) → CellRel ca G H a c → CellRel ca G' H' a c := fun {a c} m ev hs cr' => by
        subst ev
        refine (cr'.mono mono).heap (oth hj es m e1) fun x hx o q => fr x o q (fun z => (R.deep.ap j i s s0 a a0 x (fun y => hj y.symm) es h1 m h2 e1 h0 (hs x hx)).1 z) fun z => (R.deep.ap j i s s0 a a0 x (fun y => hj y.symm) es h1 m h2 e1 h0 (hs x hx)).2 (ss0.mpr z)
      cases s with
      | sh d => exact Rep.mono mono r
      | why x => exact r.mono mono
      | own c => obtain ⟨a, ev, cr', n, z⟩ := r; exact ⟨a, ev, go rfl ev (fun x q => q) cr', nf_of new n cr'.there, z⟩
      | brw c => obtain ⟨a, ev, cr', n, z⟩ := r; exact ⟨a, ev, go rfl ev (fun x q => q) cr', nf_of new n cr'.there, z⟩
  · have f : ∀ {j : Nat} {s : Slot}, (env.set i (some (s0.put cl')))[j]? = some (some s) → s.mut = true → ∃ s', env[j]? = some (some s') ∧ s'.mut = true := fun {j s} es m => by
      by_cases hj : i = j
      · subst hj; exact ⟨s0, h1, h2⟩
      · rw [List.getElem?_set_ne hj] at es; exact ⟨s, es, m⟩
    obtain ⟨s', f1, g1⟩ := f e1 m1
    obtain ⟨t', f2, g2⟩ := f e2 m2
    exact R.apart j k s' t' x hjk f1 f2 g1 g2
  · -- a sub of the new state: of slot i, or as it was
    have cs : ∀ {j : Nat} {s : Slot} {a x : Addr}, (env.set i (some (s0.put cl')))[j]? = some (some s) → s.mut = true → σ[j]? = some (some (.ref a)) → SSub ca H' a s x → (i = j ∧ s = s0.put cl' ∧ a = a0 ∧ Sub ca H' a0 cl' x) ∨ (i ≠ j ∧ env[j]? = some (some s) ∧ SSub ca H a s x) := fun {j s a x} es m ea q => by
      by_cases hj : i = j
      · subst hj
        rw [List.getElem?_set_self hi] at es; cases es
        rw [h0] at ea; cases ea
        exact .inl ⟨rfl, rfl, rfl, ss1 q⟩
      · rw [List.getElem?_set_ne hj] at es
        exact .inr ⟨hj, es, q.back (bk hj es m ea)⟩
    have thr : ∀ {j : Nat} {s : Slot} {a : Addr}, (env.set i (some (s0.put cl')))[j]? = some (some s) → s.mut = true → σ[j]? = some (some (.ref a)) → ∃ o, H a = some o := fun {j s a} es m ea => by
      by_cases hj : i = j
      · subst hj
        rw [h0] at ea; cases ea
        exact (R.thereAt h1 h2 h0).2
      · rw [List.getElem?_set_ne hj] at es
        exact (R.thereAt es m ea).2
    refine ⟨fun j s a x es m ea q => ?_, fun j c a x es ea q => ?_, fun j c a x es ea q => ?_, fun j k s t a p x hjk e1 e2 m1 m2 ea ep q => ?_⟩
    · rcases cs es m ea q with ⟨_, _, _, q⟩ | ⟨hj, es, q⟩
      · exact (su x q).1
      · exact nf_of new (R.deep.nf j s a x es m ea q) ((R.subAt es ea q).2.elim fun ws h => ⟨_, h⟩)
    · rcases cs es rfl ea q with ⟨rfl, hs, rfl, q⟩ | ⟨hj, es, q⟩
      · rcases (su x q).2 with z | z | z
        · rcases h3 with rfl | rfl
          · exact R.deep.own i _ a x h1 h0 z
          · cases hs
        · exact .inr (R.dom x z)
        · exact z.1
      · exact R.deep.own j c a x es ea q
    · rcases cs es rfl ea q with ⟨rfl, hs, rfl, q⟩ | ⟨hj, es, q⟩
      · rcases (su x q).2 with z | z | z
        · exact ownS z
        · exact .inr (.inr (R.dom x z))
        · exact .inr z.1
      · exact R.deep.brw j c a x es ea q
    · rcases cs e1 m1 ea q with ⟨rfl, hs, rfl, q⟩ | ⟨hj, es, q⟩
      · have e2' := e2
        rw [List.getElem?_set_ne hjk] at e2'
        rcases (su x q).2 with w | w | w
        · obtain ⟨z1, z2⟩ := R.deep.ap i k s0 t a p x hjk h1 e2' h2 m2 h0 ep (ss0.mpr w)
          exact ⟨z1, fun z => z2 (z.back (bk hjk e2' m2 ep))⟩
        · refine ⟨fun z => ?_, fun z => ?_⟩
          · obtain ⟨o, ho⟩ := (R.thereAt e2' m2 ep).2
            rw [← z, w] at ho; cases ho
          · obtain ⟨_, ws, h⟩ := R.subAt e2' ep (z.back (bk hjk e2' m2 ep))
            rw [w] at h; cases h
        · have F := w.2 k t e2' m2
          exact ⟨fun z => F.1 (by rw [z]; exact ep), fun z => F.2 p ep (z.back (bk hjk e2' m2 ep))⟩
      · by_cases hk : i = k
        · subst hk
          rw [List.getElem?_set_self hi] at e2; cases e2
          rw [h0] at ep; cases ep
          obtain ⟨z1, z2⟩ := R.deep.ap j i s s0 a a0 x hjk es h1 m1 h2 ea h0 q
          refine ⟨z1, fun z => ?_⟩
          rcases (su x (ss1 z)).2 with w | w | w
          · exact z2 (ss0.mpr w)
          · obtain ⟨_, ws, h⟩ := R.subAt es ea q
            rw [w] at h; cases h
          · exact (w.2 j s es m1).2 a ea q
        · rw [List.getElem?_set_ne hk] at e2
          obtain ⟨z1, z2⟩ := R.deep.ap j k s t a p x hjk es e2 m1 m2 ea ep q
          exact ⟨z1, fun z => z2 (z.back (bk hk e2 m2 ep))⟩
theorem Rel.callI_sub (R : Rel ca b env σ G H) {i : Nat} {a0 : Addr} {cl cl' : Cell} (hc : cellAt env i = some cl) (h0 : σ[i]? = some (some (.ref a0)))
    (fr : ∀ a o, H a = some o → a ≠ a0 → ¬ Sub ca H a0 cl a → H' a = some o) : ∀ (j : Nat) (s : Slot) (p x : Addr), (putCell env i cl')[j]? = some (some s) → s.mut = true → σ[j]? = some (some (.ref p)) → SSub ca H' p s x →
      (∃ s', env[j]? = some (some s') ∧ SSub ca H p s' x) ∨ (j = i ∧ p = a0 ∧ Sub ca H' a0 cl' x) := fun j s p x es m ep q => by
  obtain ⟨s0, h1, h2, h3⟩ := cellAt_some hc
  have hi : i < env.length := (List.getElem?_eq_some_iff.mp h1).1
  have e : putCell env i cl' = env.set i (some (s0.put cl')) := by unfold putCell; rw [h1]
  rw [e] at es
  have ss0 : ∀ {x : Addr}, SSub ca H a0 s0 x ↔ Sub ca H a0 cl x := fun {x} => by rcases h3 with rfl | rfl <;> exact Iff.rfl
  have ss1 : ∀ {x : Addr}, SSub ca H' a0 (s0.put cl') x → Sub ca H' a0 cl' x := fun {x} q => by rcases h3 with rfl | rfl <;> exact q
  by_cases hj : i = j
  · subst hj
    rw [List.getElem?_set_self hi] at es; cases es
    rw [h0] at ep; cases ep
    exact .inr ⟨rfl, rfl, ss1 q⟩
  · rw [List.getElem?_set_ne hj] at es
    refine .inl ⟨s, es, q.back (back_of (fun o q => fr p o q (fun z => R.apart i j s0 s a0 hj h1 es h2 m h0 (by rw [ep, z])) fun z => (R.deep.ap i j s0 s a0 p p hj h1 es h2 m h0 ep (ss0.mpr z)).1 rfl) (R.thereAt es m ep).2)⟩
theorem RRelC.vrel {vs : List V} {args : List Arg} {outs : List (Option Cell)} {u : V} {rv : RV} {env' : Env} (R : Rel ca b env σ G H) (h : RRelC ca vs args outs H G' H' u rv) (he : ∀ (j : Nat) (s : Slot), env'[j]? = some (some s) → s.mut = true → ∃ s', env[j]? = some (some s') ∧ s'.mut = true)
    (hs : ∀ (j : Nat) (s : Slot) (p x : Addr), env'[j]? = some (some s) → s.mut = true → σ[j]? = some (some (.ref p)) → SSub ca H' p s x → (∃ s', env[j]? = some (some s') ∧ SSub ca H p s' x) ∨ ∃ i, OSub ca H' vs args outs i x) : VRel ca b env' σ G' H' u rv.val := by
  cases rv with
  | sh d => exact h
  | fr cl =>
    obtain ⟨a, ev, cr, z⟩ := h
    have fr : ∀ {x : Addr}, H x = none → (∀ i, ¬ OSub ca H' vs args outs i x) → Free ca env' σ H' x := fun {x} hn ho j s e m => by
      obtain ⟨s', e1, m1⟩ := he j s e m
      refine ⟨(R.newFree hn j s' e1 m1).1, fun p ep q => ?_⟩
      rcases hs j s p x e m ep q with ⟨s2, e2, q2⟩ | ⟨i, q2⟩
      · rw [e1] at e2; cases e2
        exact (R.newFree hn j s' e1 m1).2 p ep q2
      · exact ho i q2
    obtain ⟨z1, z2, z3⟩ := z a (.inl rfl)
    exact ⟨a, ev, cr, z1, .inr (R.dom a z2), fr z2 z3, fun x hx => ⟨(z x (.inr hx)).1, .inr (R.dom x (z x (.inr hx)).2.1), fr (z x (.inr hx)).2.1 (z x (.inr hx)).2.2⟩⟩
end
/-- where a def's code stands: a property's getter, a class method's def behind their records -/
def adr (K : PySem.W.Frag) (p : Str × Option Str) : Addr := match p.2 with
  | none => He.fAd K p
  | some _ => match PySem.W.recIn K (He.fAd K p) "property", PySem.W.recIn K (He.fAd K p) "classmethod" with
    | some (.ref g :: _), _ => g
    | _, some (.ref g :: _) => g
    | _, _ => He.fAd K p
theorem adr_fn {K : PySem.W.Frag} {p : Str × Option Str} (h : PySem.W.fnIn K (He.fAd K p) = true) : adr K p = He.fAd K p := by
  unfold adr
  cases p.2 with
  | none => rfl
  | some m =>
    have r : ∀ T, PySem.W.recIn K (He.fAd K p) T = none := fun T => by
      unfold PySem.W.fnIn at h
      split at h
      · rename_i e
        unfold PySem.W.recIn
        rw [e]
        split
        · rename_i heq
          cases heq
        · rfl
      · cases h
    rw [r, r]
/-- the names of properties and class methods: no plain method has one of them -/
def deco : List Str := ["inner", "limit", "no", "of", "pattern", "point", "replay", "variables", "words", "yes"]
theorem cm_of_deco {C m : Str} (h : deco.contains m = false) : cmB (C, some m) = false := by
  show cmDeco.contains m = false
  cases hb : cmDeco.contains m with
  | false => rfl
  | true =>
    have h1 : m ∈ cmDeco := by simpa using hb
    have h2 : m ∈ deco := by
      simp only [cmDeco, deco, List.mem_cons, List.not_mem_nil, or_false] at h1 ⊢
      rcases h1 with h1 | h1 | h1 <;> simp [h1]
    have h3 : deco.contains m = true := by simpa using h2
    rw [h] at h3
    cases h3
/-- the names of defs with a star parameter and nothing ahead of it -/
def starL : List Str := ["product", "glued", "meet", "join", "schema_of"]
def starB (p : Str × Option Str) : Bool := match p.2 with
  | none => starL.contains p.1
  | some _ => false
/-- such a def's promise: the arguments come as one new tuple -/
def starS (ca : PySem.W.Frag) (g : List Arg → Option CRes) : Sp := fun vs H Q E => vs.length ≤ sizeLine ∧ ∀ p, H p = none → spOf ca g [V.ref p] (upd H p (.tup vs)) Q E
/-- the names of defs of the form f(**d), called by keywords only -/
def kwL : List Str := ["schema_of"]
def kwB (p : Str × Option Str) : Bool := match p.2 with
  | none => kwL.contains p.1
  | some _ => false
/-- such a def's promise: the arguments come as one new dict -/
def kwS (ca : PySem.W.Frag) (g : List Arg → Option CRes) (ks : List Str) : Sp := fun vs H Q E => vs.length = ks.length ∧ ks.Nodup ∧ vs.length ≤ 1000 ∧ ∀ p o, H p = none → spOf ca g [V.ref p] (upd H p (.frz o (.dK ((ks.map Sum.inr).zip vs)))) Q E
def FnKw (P : Program) (w : World) (K : PySem.W.Frag) (mg : Str → Option Value) (base : Heap) (CX : CXT) (k : Nat) (f : Addr) (sp : List Str → Sp) : Prop :=
  ∀ (A : Around) (outer : List PySem.Env) (s : Shared) (H : Hp) (ks : List Str) (us : List Value) (vs : List V) (Q : VK) (E : XK), Room k A → Env0 P w K mg base A outer s H → Vals vs us → sp ks vs H Q E →
    codeAny (model P w) A (.call (.ref f) ⟨[], ks.zip us⟩) (CR CX outer P w H s Q E) s
/-- a def with a star or a double star -/
def StK (P : Program) (w : World) (K : PySem.W.Frag) (mg : Str → Option Value) (base : Heap) (k : Nat) (p : Str × Option Str) (ca : PySem.W.Frag) (g : List Arg → Option CRes) : Prop :=
  if kwB p = true then FnKw P w K mg base (CX P w) k (He.fAd K p) (kwS ca g) else FnR P w K mg base (CX P w) k (He.fAd K p) (starS ca g)
theorem StK.mono {P : Program} {w : World} {K : PySem.W.Frag} {mg : Str → Option Value} {base : Heap} {j k : Nat} {p : Str × Option Str} {ca : PySem.W.Frag} {g : List Arg → Option CRes} (h : StK P w K mg base j p ca g) (hj : j ≤ k) : StK P w K mg base k p ca g := by
  unfold StK at h ⊢
  split
  · rename_i e
    rw [if_pos e] at h
    exact fun A outer s H ks us vs Q E hr => h A outer s H ks us vs Q E (hr.mono hj)
  · rename_i e
    rw [if_neg e] at h
    exact FnR.mono h hj
/-- the def that stands at a -/
def FunAt (K : PySem.W.Frag) (a : Addr) (fd : FuncData) : Prop := ∃ oc od osl, K.lookup a = some ⟨oc, od, .func fd, osl⟩
def psA (p : Arguments) : List Str := (p.posonlyargs ++ p.args).map (·.arg)
structure BindsA (K : PySem.W.Frag) (p : Str × Option Str) (fd : FuncData) (ps : List Str) : Prop where
  b : Binds K fd ps []
  at_ : FunAt K (adr K p) fd
  ps : psA fd.params = ps
structure Fns (X : Cx) (ca : PySem.W.Frag) (c : CT) : Prop where
  fn : ∀ p g, c p = some g → starB p = false → ∃ fd ps k, FnOk X.prog X.w X.K X.mg X.base (CX X.prog X.w) k (adr X.K p) fd ps (spP ca p g) ∧ BindsA X.K p fd ps ∧ Room (k + 1) X.A
  meth : ∀ C m g, c (C, some m) = some g → m ≠ "__init__" → deco.contains m = false → Cls X.K (He.ga X.K C) ∧ Meth X.K (He.ga X.K C) m (He.fAd X.K (C, some m)) ∧ PySem.W.fnIn X.K (He.fAd X.K (C, some m)) = true
  fnR : ∀ p g, c p = some g → starB p = true → ∃ k, StK X.prog X.w X.K X.mg X.base k p ca g ∧ Room (k + 1) X.A
/-- all arguments are given away -/
def resOf (o : Option CRes) (k : List (Option Cell) → Option Env) : Option EO := match o with
  | some (.ret r outs) => (k outs).map fun e => .val r.val e
  | some (.exc x outs) => (k outs).map fun e => .exc x e
  | none => none
def eCall (p : Str × Option Str) (fs : SA) : SE := fun c env => bindA (fs c env) fun vs e1 => (takes e1 vs).bind fun q => (c p).bind fun g => resOf (g (q.1.map .sh)) fun _ => some q.2
/-- the first argument (a name's list, an object) is lent -/
def eCallB (p : Str × Option Str) (fs : SA) : SE := fun c env => bindA (fs c env) fun vs e1 => match vs with
  | .var i :: vs => (takes e1 vs).bind fun q => (cellAt q.2 i).bind fun cl => (c p).bind fun g => resOf (g (.brw cl :: q.1.map .sh)) fun outs => match outs with
    | some cl' :: _ => some (putCell q.2 i cl')
    | _ => none
  | _ => none
section
variable {X : Cx} {ca : PySem.W.Frag} {c : CT} {W : WX} {pos : Pos}
theorem argsSh {G H : Hp} {us : List V} {ds : List D} (r : Reps ca G us ds) : ArgsRel ca G H us (ds.map .sh) ∧ (∀ i, brwAt us (ds.map .sh) i = none) ∧ ∀ i x, ¬ ASub ca H us (ds.map .sh) i x := by
  have nb : ∀ i, brwAt us (ds.map Arg.sh) i = none := fun i => by
    unfold brwAt
    rw [List.getElem?_map]
    cases ds[i]? <;> rfl
  have na : ∀ {i x}, ¬ ASub ca H us (ds.map .sh) i x := fun {i x} ⟨c, a, h1, h2, _⟩ => by
    rw [List.getElem?_map] at h1
    cases hd : ds[i]? with
    | none => rw [hd] at h1; cases h1
    | some d => rw [hd] at h1; cases h1
  refine ⟨⟨by simp [r.len], fun i v g h1 h2 => ?_, fun i j a _ h => (by rw [nb] at h; cases h), fun i x h => (na h).elim, fun i j x _ h => (na h).elim⟩, nb, fun i x => na⟩
  rw [List.getElem?_map] at h2
  cases hd : ds[i]? with
  | none => rw [hd] at h2; cases h2
  | some d => rw [hd] at h2; cases h2; exact r.at_ i v d h1 hd
theorem call_in {fs : SA} {p : Str × Option Str} {g : List Arg → Option CRes} (hg : c p = some g) : ∀ σ H Q, rdE ca c W (eCall p fs) σ H Q → tCallS (spOf ca g) (WE W) (rdA ca c W fs) σ H Q := by
  rintro σ H Q ⟨b, env, G, o, R, e, post⟩
  refine rdA_bind R e post fun vs e1 us G1 H1 _ R1 hd sg e => ?_
  cases et : takes e1 vs with
  | none => rw [et] at e; cases e
  | some q =>
    rw [et, hg] at e
    simp only [Option.bind_some] at e
    obtain ⟨G2, s2, R2, r2⟩ := Helds.takes (ds := q.1) (env' := q.2) R1 hd et
    obtain ⟨ar, nb, na⟩ := argsSh (H := H1) r2
    cases er : g (q.1.map .sh) with
    | none => rw [er] at e; cases e
    | some r =>
      rw [er] at e
      refine ⟨G2, _, r, R2.sub, ar, er, ?_⟩
      have go : ∀ {outs G' H'}, CPost ca G2 H1 us (q.1.map .sh) outs G' H' → Rel ca b q.2 σ G' H' := fun {outs G' H'} cp => R2.call0 cp.sub cp.mono cp.new fun a o ha => cp.fr a o ha (fun i => by rw [nb]; exact fun z => nomatch z) fun i => na i a
      cases r with
      | ret rv outs =>
        cases e
        exact fun u G' H' cp rr => post u G' H' (go cp) (RRelC.vrel R2 rr (fun j s e1 m => ⟨s, e1, m⟩) fun j s p x e1 m ep q => .inl ⟨s, e1, q.back (R2.backs (fun a o ha => cp.fr a o ha (fun i => by rw [nb]; exact fun z => nomatch z) fun i => na i a) j s p e1 m ep)⟩)
      | exc x outs =>
        cases e
        exact fun cls d G' H' cp q => post cls d G' H' (go cp) q
theorem putCell_mut {env : Env} {i : Nat} {cl : Cell} : ∀ (j : Nat) (s : Slot), (putCell env i cl)[j]? = some (some s) → s.mut = true → ∃ s', env[j]? = some (some s') ∧ s'.mut = true := fun j s e m => by
  unfold putCell at e
  split at e
  · rename_i s0 h0
    by_cases hj : i = j
    · subst hj
      have hi : i < env.length := (List.getElem?_eq_some_iff.mp h0).1
      rw [List.getElem?_set_self hi] at e; cases e
      exact ⟨s0, h0, by cases s0 <;> exact m⟩
    · rw [List.getElem?_set_ne hj] at e; exact ⟨s, e, m⟩
  · exact ⟨s, e, m⟩
theorem callB_in {fs : SA} {p : Str × Option Str} {g : List Arg → Option CRes} (hg : c p = some g) : ∀ σ H Q, rdE ca c W (eCallB p fs) σ H Q → tCallS (spOf ca g) (WE W) (rdA ca c W fs) σ H Q := by
  rintro σ H Q ⟨b, env, G, o, R, e, post⟩
  refine rdA_bind R e post fun vs e1 us G1 H1 _ R1 hd sg e => ?_
  cases hd with
  | nil => cases e
  | @cons u v us vs h0 hd =>
    cases v with
    | sh d => cases e
    | fr d => cases e
    | var i =>
      have e : (takes e1 vs).bind (fun q => (cellAt q.2 i).bind fun cl => (c p).bind fun g => resOf (g (.brw cl :: q.1.map .sh)) fun outs => match outs with
        | some cl' :: _ => some (putCell q.2 i cl')
        | _ => none) = some o := e
      cases et : takes e1 vs with
      | none => rw [et] at e; cases e
      | some q =>
        rw [et] at e
        simp only [Option.bind_some] at e
        cases ec : cellAt q.2 i with
        | none => rw [ec] at e; cases e
        | some cl =>
          rw [ec, hg] at e
          simp only [Option.bind_some] at e
          obtain ⟨G2, s2, R2, r2⟩ := Helds.takes (ds := q.1) (env' := q.2) R1 hd et
          obtain ⟨ar, nb, na⟩ := argsSh (H := H1) r2
          obtain ⟨a0, ha0, cr0, gn0⟩ := R2.cell ec
          have h0 : σ[i]? = some (some u) := h0
          rw [h0] at ha0; cases ha0
          have nb' : ∀ j a, brwAt (V.ref a0 :: us) (.brw cl :: q.1.map .sh) j = some a → j = 0 ∧ a = a0 := fun j a hb => by
            obtain ⟨⟨c', h1⟩, h2⟩ := brwAt_some hb
            cases j with
            | zero => exact ⟨rfl, by simpa using h2.symm⟩
            | succ n =>
              have z := nb n
              unfold brwAt at z
              rw [show (q.1.map Arg.sh)[n]? = some (.brw c') from by simpa using h1, show us[n]? = some (.ref a) from by simpa using h2] at z
              cases z
          have hA : ∀ j x, ASub ca H1 (V.ref a0 :: us) (.brw cl :: q.1.map .sh) j x → j = 0 ∧ Sub ca H1 a0 cl x := fun j x ⟨c', p, h1, h2, h3⟩ => by
            cases j with
            | zero => cases h1; cases h2; exact ⟨rfl, h3⟩
            | succ n => exact (na n x ⟨c', p, by simpa using h1, by simpa using h2, h3⟩).elim
          have ar' : ArgsRel ca G2 H1 (V.ref a0 :: us) (.brw cl :: q.1.map .sh) := by
            refine ⟨by simpa using ar.len, fun j v g h1 h2 => ?_, fun j k a hjk h1 h2 => hjk ((nb' j a h1).1.trans (nb' k a h2).1.symm), fun j x h => ?_, fun j k x hjk h => ⟨fun z => hjk ((hA j x h).1.trans (nb' k x z).1.symm), fun z => hjk ((hA j x h).1.trans (hA k x z).1.symm)⟩⟩
            rotate_left
            · obtain ⟨s, w1, w2, w3⟩ := cellAt_sub (ca := ca) (H := H1) (a0 := a0) (x := x) ec
              exact R2.deep.nf i s a0 x w1 w2 h0 (w3.mpr (hA j x h).2)
            cases j with
            | zero => cases h1; cases h2; exact ⟨a0, rfl, cr0, gn0⟩
            | succ n => exact ar.at_ n v g (by simpa using h1) (by simpa using h2)
          cases er : g (.brw cl :: q.1.map .sh) with
          | none => rw [er] at e; cases e
          | some r =>
            rw [er] at e
            refine ⟨G2, _, r, R2.sub, ar', er, ?_⟩
            have b0 : brwAt (V.ref a0 :: us) (.brw cl :: q.1.map .sh) 0 = some a0 := rfl
            have frr : ∀ {outs G' H'}, CPost ca G2 H1 (V.ref a0 :: us) (.brw cl :: q.1.map .sh) outs G' H' → ∀ a o, H1 a = some o → a ≠ a0 → ¬ Sub ca H1 a0 cl a → H' a = some o := fun {outs G' H'} cp a o ha hne hs => cp.fr a o ha (fun j z => hne (nb' j a z).2) fun j z => hs (hA j a z).2
            have go : ∀ {outs cl' rest G' H'}, outs = some cl' :: rest → CPost ca G2 H1 (V.ref a0 :: us) (.brw cl :: q.1.map .sh) outs G' H' → Rel ca b (putCell q.2 i cl') σ G' H' := fun {outs cl' rest G' H'} ho cp => by
              obtain ⟨cl2, h1, h2, h3⟩ := cp.outs 0 a0 b0
              subst ho
              cases h1
              refine R2.callI ec h0 cp.sub cp.mono cp.new (frr cp) cp.dom h2 h3 fun x hx => ?_
              obtain ⟨w1, w2⟩ := cp.nf 0 x ⟨a0, cl', b0, rfl, hx⟩
              exact ⟨w1, w2.imp (fun z => (hA 0 x z).2) .inl⟩
            have fin : ∀ {outs : List (Option Cell)} {k : Env → EO}, Option.map k (match outs with
                | some cl' :: _ => some (putCell q.2 i cl')
                | _ => none) = some o → ∃ cl' rest, outs = some cl' :: rest ∧ o = k (putCell q.2 i cl') := fun {outs k} z => by
              cases outs with
              | nil => cases z
              | cons x rest =>
                cases x with
                | none => cases z
                | some cl' => cases z; exact ⟨cl', rest, rfl, rfl⟩
            cases r with
            | ret rv outs =>
              obtain ⟨cl', rest, ho, rfl⟩ := fin (k := fun e => .val rv.val e) e
              exact fun u G' H' cp rr => post u G' H' (go ho cp) (RRelC.vrel R2 rr putCell_mut fun j s p x e1 m ep q => (R2.callI_sub ec h0 (frr cp) j s p x e1 m ep q).imp id fun ⟨_, _, z⟩ => ⟨0, a0, cl', b0, by rw [ho]; rfl, z⟩)
            | exc x outs =>
              obtain ⟨cl', rest, ho, rfl⟩ := fin (k := fun e => .exc x e) e
              exact fun cls d G' H' cp z => post cls d G' H' (go ho cp) z
variable {x : Str} {p : Pos} {a : Expr} {es : List Expr} {fs : SA}
theorem p_call (F : Fns X ca c) (hc : (c (x, none)).isSome = true) (hm : X.mg x = some (.ref (He.fAd X.K (x, none)))) (hk : PySem.W.keepIn X.K (.ref (He.fAd X.K (x, none))) = true) (tk : Takes X W) (ha : PA X (a :: es) (rdA ca c W fs)) (hg : Gl X x := by rfl)
    (hdb : (x == ("__debug__" : Str)) = false := by decide) (he : starEach (a :: es) X.env = (false, eval a X.env) :: starEach es X.env := by rfl) (hpl : (backTo pos (starEach es X.env)).any (·.1) = false := by rfl) (hst : starB (x, none) = false := by decide) : PE X (.Call (.Name x p) (a :: es) [] pos) (rdE ca c W (eCall (x, none) fs)) := by
  obtain ⟨g, hg'⟩ := Option.isSome_iff_exists.mp hc
  obtain ⟨fd, ps, k, F1, hb, hr⟩ := F.fn _ _ hg' hst
  have hb := hb.b
  rw [spP_of rfl] at F1
  exact PE_weak (pe_callS F1 (hr.mono (Nat.le_succ _)) hg hm hk hb (passAt tk) ha hdb he hpl) (call_in hg')
theorem p_callBo (F : Fns X ca c) (hc : (c (x, none)).isSome = true) (hm : X.mg x = some (.ref (He.fAd X.K (x, none)))) (hk : PySem.W.keepIn X.K (.ref (He.fAd X.K (x, none))) = true) (tk : Takes X W) (ha : PA X (a :: es) (rdA ca c W fs)) (hg : Gl X x := by rfl)
    (hdb : (x == ("__debug__" : Str)) = false := by decide) (he : starEach (a :: es) X.env = (false, eval a X.env) :: starEach es X.env := by rfl) (hpl : (backTo pos (starEach es X.env)).any (·.1) = false := by rfl) (hst : starB (x, none) = false := by decide) : PE X (.Call (.Name x p) (a :: es) [] pos) (rdE ca c W (eCallB (x, none) fs)) := by
  obtain ⟨g, hg'⟩ := Option.isSome_iff_exists.mp hc
  obtain ⟨fd, ps, k, F1, hb, hr⟩ := F.fn _ _ hg' hst
  have hb := hb.b
  rw [spP_of rfl] at F1
  exact PE_weak (pe_callS F1 (hr.mono (Nat.le_succ _)) hg hm hk hb (passAt tk) ha hdb he hpl) (callB_in hg')
end
end Pd
/-! Pd9: the operations' tables -/
namespace Pd
open PySem PySem.Spec L2
variable [Ext]
/-! ### ints, texts, lists, tuples: + - * // % ** -/
def addD : D → D → Option Val
  | .int i, .int j => some (.sh (.int (i + j)))
  | .str s, .str t => if s.length + t.length ≤ sizeLine then some (.sh (.str (s ++ t))) else none
  | .lst xs, .lst ys => if xs.length + ys.length ≤ sizeLine then some (.fr (.lst (xs ++ ys))) else none
  | .tup xs, .tup ys => if xs.length + ys.length ≤ sizeLine then some (.sh (.tup (xs ++ ys))) else none
  | _, _ => none
def subD : D → D → Option Val
  | .int i, .int j => some (.sh (.int (i - j)))
  | _, _ => none
def mulD : D → D → Option Val
  | .int i, .int j => if (-(2 ^ 64) < i ∧ i < 2 ^ 64) ∨ (-(2 ^ 64) < j ∧ j < 2 ^ 64) then some (.sh (.int (i * j))) else none
  | _, _ => none
def modD : D → D → Option Val
  | .int i, .int j => if 0 < j then some (.sh (.int (i % j))) else none
  | _, _ => none
def fdivD : D → D → Option Val
  | .int i, .int j => if 0 < j ∧ j < 1073741824 then some (.sh (.int (i / j))) else none
  | _, _ => none
def powD : D → D → Option Val
  | .int i, .int j => if 0 ≤ j ∧ j ≤ 1000000 ∧ i.natAbs < 2 ^ 64 then some (.sh (.int (i ^ j.toNat))) else none
  | _, _ => none
section
variable {ca : PySem.W.Frag} {X : Cx}
def rAddD (K : PySem.W.Frag) : R2 := fun x y H Q => (∃ i j, x = .int i ∧ y = .int j ∧ Q (.int (i + j)) H) ∨ ((∃ i j, x = .str i ∧ y = .str j ∧ i.length + j.length ≤ sizeLine ∧ Q (.str (i ++ j)) H) ∨ (rCat x y H Q ∨ L2.rCatA K x y H Q))
theorem o_add : OpR X (binaryOp .Add) (rAddD X.K) := op_add.or (op_add_str.or (op_cat.or L2.op_catA))
theorem b_add : BinR ca (rAddD ca) addD := by
  intro G H x y dx dy v Q s px py e out
  unfold addD at e
  split at e
  · rename_i i j
    cases e; cases peek_int px; cases peek_int py
    exact .inl ⟨i, j, rfl, rfl, out _ _ (out_sh (.int _))⟩
  · rename_i i j
    split at e
    · rename_i hl
      cases e; cases peek_str px; cases peek_str py
      exact .inr (.inl ⟨i, j, rfl, rfl, hl, out _ _ (out_sh (.str _))⟩)
    · cases e
  · rename_i xs ys
    split at e
    · rename_i hl
      cases e
      obtain ⟨a, vs, rfl, ha, ra⟩ := px
      obtain ⟨a', vs', rfl, ha', ra'⟩ := py
      exact .inr (.inr (.inl ⟨a, a', vs, vs', rfl, rfl, ha, ha', by rw [ra.len, ra'.len]; exact hl, fun p hp => out _ _ (out_lst hp (ra.append ra'))⟩))
    · cases e
  · rename_i xs ys
    split at e
    · rename_i hl
      cases e
      obtain ⟨a, vs, rfl, ha, ra⟩ := px
      obtain ⟨a', vs', rfl, ha', ra'⟩ := py
      have hlen := ra.len
      have hlen' := ra'.len
      refine .inr (.inr (.inr ⟨a, a', vs, vs', rfl, rfl, SqT.of (s _ _ ha), SqT.of (s _ _ ha'), by rw [ra.len, ra'.len]; exact hl, fun z => ?_, fun _ z => ?_, fun _ _ p hp => out _ _ (out_tup s hp (ra.append ra'))⟩))
      · have hx : xs = [] := by
          rw [z] at hlen
          exact List.eq_nil_of_length_eq_zero hlen.symm
        subst hx
        refine out _ _ (out_sh ?_)
        rw [List.nil_append]
        exact .tup ha' ra'.len ra'.at_
      · have hy : ys = [] := by
          rw [z] at hlen'
          exact List.eq_nil_of_length_eq_zero hlen'.symm
        subst hy
        refine out _ _ (out_sh ?_)
        rw [List.append_nil]
        exact .tup ha ra.len ra.at_
    · cases e
  · cases e
theorem b_sub : BinR ca (rI0 fun i j => .int (i - j)) subD := by
  intro G H x y dx dy v Q s px py e out
  unfold subD at e
  split at e
  · rename_i i j
    cases e; cases peek_int px; cases peek_int py
    exact ⟨i, j, rfl, rfl, out _ _ (out_sh (.int _))⟩
  · cases e
theorem b_mul : BinR ca (rI CMul fun i j => .int (i * j)) mulD := by
  intro G H x y dx dy v Q s px py e out
  unfold mulD at e
  split at e
  · rename_i i j
    split at e
    · rename_i h
      cases e; cases peek_int px; cases peek_int py
      exact ⟨i, j, rfl, rfl, h, out _ _ (out_sh (.int _))⟩
    · cases e
  · cases e
theorem b_mod : BinR ca (rI (fun _ j => 0 < j) fun i j => .int (i % j)) modD := by
  intro G H x y dx dy v Q s px py e out
  unfold modD at e
  split at e
  · rename_i i j
    split at e
    · rename_i h
      cases e; cases peek_int px; cases peek_int py
      exact ⟨i, j, rfl, rfl, h, out _ _ (out_sh (.int _))⟩
    · cases e
  · cases e
theorem b_fdiv : BinR ca (rI CDiv fun i j => .int (i / j)) fdivD := by
  intro G H x y dx dy v Q s px py e out
  unfold fdivD at e
  split at e
  · rename_i i j
    split at e
    · rename_i h
      cases e; cases peek_int px; cases peek_int py
      exact ⟨i, j, rfl, rfl, h, out _ _ (out_sh (.int _))⟩
    · cases e
  · cases e
theorem b_pow : BinR ca (rI CPow fun i j => .int (i ^ j.toNat)) powD := by
  intro G H x y dx dy v Q s px py e out
  unfold powD at e
  split at e
  · rename_i i j
    split at e
    · rename_i h
      cases e; cases peek_int px; cases peek_int py
      exact ⟨i, j, rfl, rfl, h, out _ _ (out_sh (.int _))⟩
    · cases e
  · cases e
end
/-! ### comparisons -/
/-- numbers, texts by their order -/
def cmpO (p : Int → Int → Bool) (q : List Nat → List Nat → Bool) : D → D → Option Val
  | .int i, .int j => some (.sh (.bl (p i j)))
  | .str s, .str t => some (.sh (.bl (q s.cps.toList t.cps.toList)))
  | _, _ => none
abbrev ltD := cmpO (fun i j => decide (i < j)) (fun s t => decide (s < t))
abbrev leD := cmpO (fun i j => decide (i ≤ j)) (fun s t => !decide (t < s))
abbrev gtD := cmpO (fun i j => decide (j < i)) (fun s t => decide (t < s))
abbrev geD := cmpO (fun i j => decide (j ≤ i)) (fun s t => !decide (s < t))
section
variable {ca : PySem.W.Frag} {X : Cx}
theorem b_cmpO {p : Int → Int → Bool} {q : List Nat → List Nat → Bool} : BinR ca (fun x y H Q => (∃ i j, x = .int i ∧ y = .int j ∧ Q (.bl (p i j)) H) ∨ ∃ i j, x = .str i ∧ y = .str j ∧ Q (.bl (q i.cps.toList j.cps.toList)) H) (cmpO p q) := by
  intro G H x y dx dy v Q s px py e out
  unfold cmpO at e
  split at e
  · rename_i i j
    cases e; cases peek_int px; cases peek_int py
    exact .inl ⟨i, j, rfl, rfl, out _ _ (out_sh (.bl _))⟩
  · rename_i i j
    cases e; cases peek_str px; cases peek_str py
    exact .inr ⟨i, j, rfl, rfl, out _ _ (out_sh (.bl _))⟩
  · cases e
end
/-! ### as data -/
mutual
def toPy : D → Option PyData
  | .non => some .none
  | .bl b => some (.bool b)
  | .int i => some (.int i)
  | .str s => some (.str s)
  | .lst xs => (toPys xs).map .list
  | .tup xs => (toPys xs).map .tuple
  | _ => none
def toPys : List D → Option (List PyData)
  | [] => some []
  | d :: ds => (toPy d).bind fun p => (toPys ds).map (p :: ·)
end
section
variable {K : PySem.W.Frag} {H : Hp}
theorem dpAll_of : ∀ {vs : List V} {ds : List D} {ps : List PyData}, vs.length = ds.length → (∀ (i : Nat) v d, vs[i]? = some v → ds[i]? = some d → ∀ p, toPy d = some p → Dp K H v p) → toPys ds = some ps → DpAll K H vs ps
  | [], [], _, _, _, e => by
    unfold toPys at e; cases e; exact .nil
  | [], _ :: _, _, h, _, _ => by simp at h
  | _ :: _, [], _, h, _, _ => by simp at h
  | v :: vs, d :: ds, ps, h, q, e => by
    unfold toPys at e
    cases e1 : toPy d with
    | none => rw [e1] at e; cases e
    | some p =>
      rw [e1] at e
      cases e2 : toPys ds with
      | none => rw [e2] at e; cases e
      | some qs =>
        rw [e2] at e
        cases e
        exact .cons (q 0 v d rfl rfl p e1) (dpAll_of (by simpa using h) (fun i u e' h1 h2 => q (i + 1) u e' (by simpa using h1) (by simpa using h2)) e2)
theorem Rep.dp {v : V} {d : D} (r : Rep K H v d) : ∀ p, toPy d = some p → Dp K H v p := by
  induction r with
  | non => intro p e; unfold toPy at e; cases e; exact .non
  | bl b => intro p e; unfold toPy at e; cases e; exact .bl b
  | int b => intro p e; unfold toPy at e; cases e; exact .int b
  | str b => intro p e; unfold toPy at e; cases e; exact .str b
  | @lst a vs ds r l q ih =>
    intro p e
    unfold toPy at e
    cases e2 : toPys ds with
    | none => rw [e2] at e; cases e
    | some qs => rw [e2] at e; cases e; exact .lst (SqL.of r) (dpAll_of l ih e2)
  | @tup a vs ds r l q ih =>
    intro p e
    unfold toPy at e
    cases e2 : toPys ds with
    | none => rw [e2] at e; cases e
    | some qs => rw [e2] at e; cases e; exact .tup (SqT.of r) (dpAll_of l ih e2)
  | dk r l q ih => intro p e; unfold toPy at e; cases e
  | dt r l q ih => intro p e; unfold toPy at e; cases e
  | ins r l q ih => intro p e; unfold toPy at e; cases e
  | scr r => intro p e; unfold toPy at e; cases e
  | nil0 r => intro p e; unfold toPy at e; cases e
  | kd r l e => intro p e; unfold toPy at e; cases e
end
/-- == of data -/
def eqB : D → D → Option Bool
  | .int i, .int j => some (decide (i = j))
  | .bl i, .bl j => some (decide (i = j))
  | .str i, .str j => some (decide (i = j))
  | .non, .non => some true
  | a, b => match toPy a, toPy b with
    | some p, some q => if SeqAt.shaped p = true ∧ SeqAt.shaped q = true then some (PyData.eqv p q) else none
    | _, _ => none
def eqD (a b : D) : Option Val := (eqB a b).map fun k => .sh (.bl k)
def neD (a b : D) : Option Val := (eqB a b).map fun k => .sh (.bl (!k))
def rEqA (K : PySem.W.Frag) : R2 := fun x y H Q => rEq x y H Q ∨ rEqD K x y H Q
def rNeA (K : PySem.W.Frag) : R2 := fun x y H Q => rNe x y H Q ∨ rNeD K x y H Q
section
variable {ca : PySem.W.Frag} {X : Cx}
theorem o_eq (hu : X.A.units + 64 < cLine) : OpR X (compareOp .Eq) (rEqA X.K) := op_eq.or (op_eqD hu)
theorem o_ne (hu : X.A.units + 64 < cLine) : OpR X (compareOp .NotEq) (rNeA X.K) := op_ne.or (op_neD hu)
theorem eq_cases {G H : Hp} {x y : V} {dx dy : D} {k : Bool} (s : Same G H) (px : Peek ca G H x dx) (py : Peek ca G H y dy) (e : eqB dx dy = some k) :
    (scal x y = true ∧ k = decide (x = y)) ∨ ∃ d e, Dp ca H x d ∧ Dp ca H y e ∧ SeqAt.shaped d = true ∧ SeqAt.shaped e = true ∧ k = PyData.eqv d e := by
  unfold eqB at e
  split at e
  · cases e; cases peek_int px; cases peek_int py
    exact .inl ⟨rfl, by simp⟩
  · cases e; cases peek_bl px; cases peek_bl py
    exact .inl ⟨rfl, by simp⟩
  · cases e; cases peek_str px; cases peek_str py
    exact .inl ⟨rfl, by simp⟩
  · cases e; cases peek_non px; cases peek_non py
    exact .inl ⟨rfl, by simp⟩
  · split at e
    · rename_i p q h1 h2
      split at e
      · rename_i hs
        cases e
        exact .inr ⟨p, q, (px.rep s).dp p h1, (py.rep s).dp q h2, hs.1, hs.2, rfl⟩
      · cases e
    · cases e
theorem b_eq : BinR ca (rEqA ca) eqD := by
  intro G H x y dx dy v Q s px py e out
  unfold eqD at e
  cases ek : eqB dx dy with
  | none => rw [ek] at e; cases e
  | some k =>
    rw [ek] at e
    cases e
    have fin : Q (.bl k) H := out _ _ (out_sh (.bl _))
    rcases eq_cases s px py ek with ⟨h1, h2⟩ | ⟨d, e, h1, h2, h3, h4, h5⟩
    · exact .inl ⟨h1, by rw [← h2]; exact fin⟩
    · exact .inr ⟨d, e, h1, h2, h3, h4, by rw [← h5]; exact fin⟩
theorem b_ne : BinR ca (rNeA ca) neD := by
  intro G H x y dx dy v Q s px py e out
  unfold neD at e
  cases ek : eqB dx dy with
  | none => rw [ek] at e; cases e
  | some k =>
    rw [ek] at e
    cases e
    have fin : Q (.bl (!k)) H := out _ _ (out_sh (.bl _))
    rcases eq_cases s px py ek with ⟨h1, h2⟩ | ⟨d, e, h1, h2, h3, h4, h5⟩
    · exact .inl ⟨h1, by rw [← h2]; exact fin⟩
    · exact .inr ⟨d, e, h1, h2, h3, h4, by rw [← h5]; exact fin⟩
/-! ### in -/
def keyK : D → Option Key
  | .int i => some (.inl i)
  | .str s => some (.inr s)
  | _ => none
def keysK : List D → Option (List Key)
  | [] => some []
  | d :: ds => (keyK d).bind fun k => (keysK ds).map (k :: ·)
def valD {κ : Type} [DecidableEq κ] (kvs : List (κ × D)) (k : κ) : Option D := (kvs.find? fun kv => decide (kv.1 = k)).map (·.2)
/-- what a dict holds at a key -/
def dgetD : D → D → Option (Option D)
  | .dk kvs, k => (keyK k).map fun k => valD kvs k
  | .dt kvs, .tup ks => (keysK ks).map fun k => valD kvs k
  | _, _ => none
def inB : D → D → Option Bool
  | .str c, .str z => match c.cps with
    | ⟨[n]⟩ => some (decide (n ∈ z.cps.toList))
    | _ => none
  | d, .lst xs => match toPy d, toPys xs with
    | some p, some ps => if SeqAt.shaped p = true ∧ SeqAt.shaped (.list ps) = true then some (ps.any fun z => PyData.eqv z p) else none
    | _, _ => none
  | k, e => (dgetD e k).map Option.isSome
def inD (a b : D) : Option Val := (inB a b).map fun k => .sh (.bl k)
def ninD (a b : D) : Option Val := (inB a b).map fun k => .sh (.bl (!k))
def rDIn (neg : Bool) : R2 := fun y x H Q => ∃ a o, x = .ref a ∧ DGet H a y o ∧ Q (.bl (if neg then !o.isSome else o.isSome)) H
theorem o_din (hu : X.A.units + 1 < cLine) : OpR X (compareOp .In) (rDIn false) := by
  intro pins s σ H x y v u Q I rx ry h
  obtain ⟨a, o, rfl, g, q⟩ := h
  cases ry
  exact d_in hu I g rx fun s3 I3 => ⟨.bl _, H, I3, rfl, q⟩
theorem o_dnin (hu : X.A.units + 1 < cLine) : OpR X (compareOp .NotIn) (rDIn true) := by
  intro pins s σ H x y v u Q I rx ry h
  obtain ⟨a, o, rfl, g, q⟩ := h
  cases ry
  exact d_notIn hu I g rx fun s3 I3 => ⟨.bl _, H, I3, rfl, q⟩
def rSgn (neg : Bool) : R2 := fun x y H Q => ∃ (c : Nat) (z : Str), x = .str ⟨#[c]⟩ ∧ y = .str z ∧ Q (.bl (if neg then !decide (c ∈ z.cps.toList) else decide (c ∈ z.cps.toList))) H
def rInA (K : PySem.W.Frag) : R2 := fun x y H Q => rSgn false x y H Q ∨ (rInD K x y H Q ∨ rDIn false x y H Q)
def rNInA (K : PySem.W.Frag) : R2 := fun x y H Q => rSgn true x y H Q ∨ (rNotInD K x y H Q ∨ rDIn true x y H Q)
end
end Pd
/-! Pd10: in, subscripts, slices, built-in calls, methods -/
namespace Pd
open PySem PySem.Spec L2
variable [Ext]
section
variable {ca : PySem.W.Frag} {X : Cx} {G H : Hp}
theorem RepK.tail {κ : Type} {p : κ × V} {q : κ × D} {vs : List (κ × V)} {ds : List (κ × D)} (r : RepK ca G (p :: vs) (q :: ds)) : p.1 = q.1 ∧ Rep ca G p.2 q.2 ∧ RepK ca G vs ds := by
  have h := r.keys
  simp only [List.map_cons, List.cons.injEq] at h
  exact ⟨h.1, r.at_ 0 p q rfl rfl, ⟨h.2, fun i v d h1 h2 => r.at_ (i + 1) v d (by simpa using h1) (by simpa using h2)⟩⟩
theorem RepK.cons {κ : Type} {p : κ × V} {q : κ × D} {vs : List (κ × V)} {ds : List (κ × D)} (h : p.1 = q.1) (r : Rep ca G p.2 q.2) (t : RepK ca G vs ds) : RepK ca G (p :: vs) (q :: ds) := by
  refine ⟨by simp [h, t.keys], fun i v d h1 h2 => ?_⟩
  cases i with
  | zero => cases h1; cases h2; exact r
  | succ n => exact t.at_ n v d (by simpa using h1) (by simpa using h2)
theorem RepK.nil {κ : Type} : RepK ca G ([] : List (κ × V)) [] := ⟨rfl, fun i v d h => by simp at h⟩
/-- what a dict holds -/
theorem RepK.val {κ : Type} [DecidableEq κ] (k : κ) : ∀ {vs : List (κ × V)} {ds : List (κ × D)}, RepK ca G vs ds → (valD ds k = none ∧ valV vs k = none) ∨ ∃ d v, valD ds k = some d ∧ valV vs k = some v ∧ Rep ca G v d
  | [], [], _ => .inl ⟨rfl, rfl⟩
  | [], _ :: _, r => by have := r.keys; simp at this
  | _ :: _, [], r => by have := r.keys; simp at this
  | p :: vs, q :: ds, r => by
    obtain ⟨h1, h2, h3⟩ := r.tail
    by_cases hk : p.1 = k
    · refine .inr ⟨q.2, p.2, ?_, valV_pos hk, h2⟩
      unfold valD
      rw [List.find?_cons_of_pos (by rw [← h1]; simpa using hk)]
      rfl
    · have e1 : valD (q :: ds) k = valD ds k := by
        unfold valD
        rw [List.find?_cons_of_neg (by rw [← h1]; simpa using hk)]
      rw [e1, valV_neg hk]
      exact RepK.val k h3
theorem keysK_of : ∀ {vs : List V} {ds : List D} {ks : List Key}, Reps ca G vs ds → keysK ds = some ks → vs = ks.map kV
  | [], [], _, _, e => by cases e; rfl
  | [], _ :: _, _, r, _ => by have := r.len; simp at this
  | _ :: _, [], _, r, _ => by have := r.len; simp at this
  | v :: vs, d :: ds, ks, r, e => by
    unfold keysK at e
    cases e1 : keyK d with
    | none => rw [e1] at e; cases e
    | some k =>
      rw [e1] at e
      cases e2 : keysK ds with
      | none => rw [e2] at e; cases e
      | some ks' =>
        rw [e2] at e
        cases e
        have h0 := r.at_ 0 v d rfl rfl
        have t := keysK_of (vs := vs) (ds := ds) (ks := ks') ⟨by have := r.len; simpa using this, fun i u e h1 h2 => r.at_ (i + 1) u e (by simpa using h1) (by simpa using h2)⟩ e2
        rw [t, List.map_cons]
        congr 1
        cases d with
        | int i => cases e1; cases h0; rfl
        | str i => cases e1; cases h0; rfl
        | _ => cases e1
theorem keyK_of {v : V} {d : D} {k : Key} (p : Peek ca G H v d) (e : keyK d = some k) : v = kV k := by
  cases d with
  | int i => cases e; cases peek_int p; rfl
  | str i => cases e; cases peek_str p; rfl
  | _ => cases e
/-- a dict asked -/
theorem dget_of {x y : V} {dx dy : D} {o : Option D} (s : Same G H) (px : Peek ca G H x dx) (py : Peek ca G H y dy) (e : dgetD dx dy = some o) : ∃ a r, x = .ref a ∧ DGet H a y r ∧ ((o = none ∧ r = none) ∨ ∃ d v, o = some d ∧ r = some v ∧ Rep ca G v d) := by
  unfold dgetD at e
  split at e
  · rename_i kvs
    cases ek : keyK dy with
    | none => rw [ek] at e; cases e
    | some k' =>
      rw [ek] at e
      cases e
      obtain ⟨a, vs, rfl, ha, r⟩ := px
      refine ⟨a, valV vs k', rfl, .inl ⟨vs, k', ha, keyK_of py ek, rfl⟩, ?_⟩
      rcases r.val k' with ⟨h1, h2⟩ | ⟨d, v, h1, h2, h3⟩
      · exact .inl ⟨h1, h2⟩
      · exact .inr ⟨d, v, h1, h2, h3⟩
  · rename_i kvs ks
    cases ek : keysK ks with
    | none => rw [ek] at e; cases e
    | some k' =>
      rw [ek] at e
      cases e
      obtain ⟨a, vs, rfl, ha, r⟩ := px
      obtain ⟨a', us, rfl, ha', r'⟩ := py
      have hu := keysK_of r' ek
      subst hu
      refine ⟨a, valV vs k', rfl, .inr ⟨vs, k', a', ha, rfl, s _ _ ha', rfl⟩, ?_⟩
      rcases r.val k' with ⟨h1, h2⟩ | ⟨d, v, h1, h2, h3⟩
      · exact .inl ⟨h1, h2⟩
      · exact .inr ⟨d, v, h1, h2, h3⟩
  · cases e
theorem o_in (hu : X.A.units + 65 < cLine) : OpR X (compareOp .In) (rInA X.K) := by
  have h1 : OpR X (compareOp .In) (rSgn false) := fun pins s σ H x y v u Q I rx ry ⟨c, z, e1, e2, q⟩ => op_in_sign pins s σ H x y v u Q I rx ry ⟨c, z, e1, e2, q⟩
  exact h1.or ((op_inD hu).or (o_din (by omega)))
theorem o_nin (hu : X.A.units + 65 < cLine) : OpR X (compareOp .NotIn) (rNInA X.K) := by
  have h1 : OpR X (compareOp .NotIn) (rSgn true) := fun pins s σ H x y v u Q I rx ry ⟨c, z, e1, e2, q⟩ => op_notIn_sign pins s σ H x y v u Q I rx ry ⟨c, z, e1, e2, q⟩
  exact h1.or ((op_notInD hu).or (o_dnin (by omega)))
theorem in_cases {x y : V} {dx dy : D} {k : Bool} (s : Same G H) (px : Peek ca G H x dx) (py : Peek ca G H y dy) (e : inB dx dy = some k) :
    (∃ (c : Nat) (z : Str), x = .str ⟨#[c]⟩ ∧ y = .str z ∧ k = decide (c ∈ z.cps.toList)) ∨
    (∃ d ds, Dp ca H x d ∧ Dp ca H y (.list ds) ∧ SeqAt.shaped d = true ∧ SeqAt.shaped (.list ds) = true ∧ k = ds.any fun z => PyData.eqv z d) ∨
    ∃ a o, y = .ref a ∧ DGet H a x o ∧ k = o.isSome := by
  unfold inB at e
  split at e
  · rename_i c z
    split at e
    · rename_i n hn
      cases e
      cases peek_str px; cases peek_str py
      refine .inl ⟨n, z, ?_, rfl, rfl⟩
      cases c with
      | mk cps => cases hn; rfl
    · cases e
  · rename_i d xs _
    split at e
    · rename_i p ps h1 h2
      split at e
      · rename_i hs
        cases e
        refine .inr (.inl ⟨p, ps, (px.rep s).dp p h1, (py.rep s).dp (.list ps) ?_, hs.1, hs.2, rfl⟩)
        unfold toPy; rw [h2]; rfl
      · cases e
    · cases e
  · rename_i k' e' _ _
    cases eg : dgetD dy dx with
    | none => rw [eg] at e; cases e
    | some o =>
      rw [eg] at e
      cases e
      obtain ⟨a, r, h1, h2, h3⟩ := dget_of s py px eg
      refine .inr (.inr ⟨a, r, h1, h2, ?_⟩)
      rcases h3 with ⟨q1, q2⟩ | ⟨d, v, q1, q2, _⟩
      · rw [q1, q2]; rfl
      · rw [q1, q2]; rfl
theorem b_in : BinR ca (rInA ca) inD := by
  intro G H x y dx dy v Q s px py e out
  unfold inD at e
  cases ek : inB dx dy with
  | none => rw [ek] at e; cases e
  | some k =>
    rw [ek] at e
    cases e
    have fin : Q (.bl k) H := out _ _ (out_sh (.bl _))
    rcases in_cases s px py ek with ⟨c, z, h1, h2, h3⟩ | ⟨d, ds, h1, h2, h3, h4, h5⟩ | ⟨a, o, h1, h2, h3⟩
    · exact .inl ⟨c, z, h1, h2, by rw [h3] at fin; exact fin⟩
    · exact .inr (.inl ⟨d, ds, h1, h2, h3, h4, by rw [h5] at fin; exact fin⟩)
    · exact .inr (.inr ⟨a, o, h1, h2, by rw [h3] at fin; exact fin⟩)
theorem b_nin : BinR ca (rNInA ca) ninD := by
  intro G H x y dx dy v Q s px py e out
  unfold ninD at e
  cases ek : inB dx dy with
  | none => rw [ek] at e; cases e
  | some k =>
    rw [ek] at e
    cases e
    have fin : Q (.bl (!k)) H := out _ _ (out_sh (.bl _))
    rcases in_cases s px py ek with ⟨c, z, h1, h2, h3⟩ | ⟨d, ds, h1, h2, h3, h4, h5⟩ | ⟨a, o, h1, h2, h3⟩
    · exact .inl ⟨c, z, h1, h2, by rw [h3] at fin; exact fin⟩
    · exact .inr (.inl ⟨d, ds, h1, h2, h3, h4, by rw [h5] at fin; exact fin⟩)
    · exact .inr (.inr ⟨a, o, h1, h2, by rw [h3] at fin; exact fin⟩)

/-! ### subscripts -/
def ixD : D → D → Option Val
  | .lst ds, .int i => (atI ds i).map .sh
  | .tup ds, .int i => (atI ds i).map .sh
  | .str z, .int i => if z.length ≤ sizeLine then (atI z.cps.toList i).map fun c => .sh (.str ⟨#[c]⟩) else none
  | d, k => (dgetD d k).bind fun o => o.map .sh
def rDGet : R2 := fun x y H Q => ∃ a v, x = .ref a ∧ DGet H a y (some v) ∧ Q v H
open PyProof.Rows in
theorem ix_dict (hu : X.A.units + 1 < cLine) : IxR X rDGet := by
  intro value slice pins s σ H x y v u Q I rx ry h hs
  obtain ⟨a, w', rfl, g, q⟩ := h
  obtain rfl : v = Value.ref a := rx
  have hT := dict_typeIs I g
  unfold subscriptTail
  refine wpAny_bind ?_
  rw [getitemInPython_of_ne hT.not_modules]
  refine wpAny_bind (wpAny_specialOf hT PySem.F.slot_dict_getitem.lookup ?_)
  have fin : wpAny (model X.prog X.w) X.A (subscripted slice false (.ref a) u) (fun r s₃ => wpAny (model X.prog X.w) X.A (letTemporaryGo value (.ref a) r >>= fun _ => pure r) (EP X pins σ Q) X.xe s₃) X.xe s := by
    rw [hs]
    refine wpAny_operating (wpAny_mono (d_getItem hu I g ry fun w2 s3 I3 rw' => (⟨w', H, I3, rw', q⟩ : EP X pins σ Q w2 s3)) (fun r s₃ h₃ => wpAny_bind (wpAny_letTemporaryGo (wpAny_pure h₃))) fun _ _ x => x)
  first
    | exact wpAny_pure (wpAny_bind fin)
    | exact wpAny_bind (wpAny_pure (wpAny_bind fin))
    | exact wpAny_bind fin
def rIxA (K : PySem.W.Frag) : R2 := fun x y H Q => rIx K x y H Q ∨ rDGet x y H Q
theorem ix_all (hu : X.A.units + 1 < cLine) : IxR X (rIxA X.K) := ix_seq.or (ix_dict hu)
theorem Reps.atI {vs : List V} {ds : List D} {d : D} {i : Int} (r : Reps ca G vs ds) (h : atI ds i = some d) : ∃ v, L2.atI vs i = some v ∧ Rep ca G v d := by
  unfold L2.atI at h ⊢
  rw [r.len]
  cases e : ixN ds.length i with
  | none => rw [e] at h; cases h
  | some j =>
    rw [e] at h
    exact r.get h
theorem b_ix : BinR ca (rIxA ca) ixD := by
  intro G H x y dx dy v Q s px py e out
  unfold ixD at e
  split at e
  · rename_i ds i
    cases ea : atI ds i with
    | none => rw [ea] at e; cases e
    | some d =>
      rw [ea] at e
      cases e; cases peek_int py
      obtain ⟨a, vs, rfl, ha, r⟩ := px
      obtain ⟨w, h1, h2⟩ := r.atI ea
      exact .inl (.inl ⟨a, vs, i, w, rfl, rfl, SqL.of ha, h1, out _ _ (out_sh h2)⟩)
  · rename_i ds i
    cases ea : atI ds i with
    | none => rw [ea] at e; cases e
    | some d =>
      rw [ea] at e
      cases e; cases peek_int py
      obtain ⟨a, vs, rfl, ha, r⟩ := px
      obtain ⟨w, h1, h2⟩ := r.atI ea
      exact .inl (.inr (.inl ⟨a, vs, i, w, rfl, rfl, SqT.of (s _ _ ha), h1, out _ _ (out_sh h2)⟩))
  · rename_i z i
    split at e
    · rename_i hz
      cases ea : atI z.cps.toList i with
      | none => rw [ea] at e; cases e
      | some d =>
        rw [ea] at e
        cases e; cases peek_int py; cases peek_str px
        exact .inl (.inr (.inr ⟨z, i, d, rfl, rfl, hz, ea, out _ _ (out_sh (.str _))⟩))
    · cases e
  · cases eg : dgetD dx dy with
    | none => rw [eg] at e; cases e
    | some o =>
      rw [eg] at e
      cases o with
      | none => cases e
      | some d =>
        cases e
        obtain ⟨a, r, h1, h2, h3⟩ := dget_of s px py eg
        rcases h3 with ⟨q1, _⟩ | ⟨d', v', q1, q2, q3⟩
        · cases q1
        · cases q1; subst q2
          exact .inr ⟨a, v', h1, h2, out _ _ (out_sh q3)⟩

/-! ### slices -/
def cutD {α : Type} (xs : List α) (lo hi : Option Int) : List α := (xs.drop (HT.sIx xs.length 0 lo)).take (HT.sIx xs.length xs.length hi - HT.sIx xs.length 0 lo)
def sliceD (d : D) (lo hi : Option Int) : Option Val := match d with
  | .lst ds => some (.fr (.lst (cutD ds lo hi)))
  | .tup ds => some (.sh (.tup (cutD ds lo hi)))
  | .str z => if z.length ≤ sizeLine then some (.sh (.str (cutS z lo hi))) else none
  | _ => none
theorem Reps.cut {vs : List V} {ds : List D} (r : Reps ca G vs ds) (lo hi : Option Int) : Reps ca G (cutV vs lo hi) (cutD ds lo hi) := by
  unfold cutV cutD
  rw [r.len]
  exact (r.drop _).take _
def rSlA (K : PySem.W.Frag) : V → Option Int → Option Int → Hp → VK → Prop := fun x lo hi H Q => rSlL K x lo hi H Q ∨ (L2.rSlA K x lo hi H Q ∨ rSlS x lo hi H Q)
theorem sl_all : SlR X (rSlA X.K) := sl_list.or (L2.sl_tupA.or sl_str)
theorem b_sl : SlcR ca (rSlA ca) sliceD := by
  intro G H x dx l h v Q s px e out
  unfold sliceD at e
  split at e
  · rename_i ds
    cases e
    obtain ⟨a, vs, rfl, ha, r⟩ := px
    exact .inl ⟨a, vs, rfl, SqL.of ha, fun p hp => out _ _ (out_lst hp (r.cut l h))⟩
  · rename_i ds
    cases e
    obtain ⟨a, vs, rfl, ha, r⟩ := px
    refine .inr (.inl ⟨a, vs, rfl, SqT.of (s _ _ ha), fun hw => ?_, fun _ p hp => out _ _ (out_tup s hp (r.cut l h))⟩)
    rw [r.len] at hw
    have e : cutD ds l h = ds := by unfold cutD; rw [hw.1, hw.2]; simp
    refine out _ _ (out_sh ?_)
    rw [e]
    exact .tup ha r.len r.at_
  · rename_i z
    split at e
    · rename_i hz
      cases e; cases peek_str px
      exact .inr (.inr ⟨z, rfl, hz, out _ _ (out_sh (.str _))⟩)
    · cases e
  · cases e

/-! ### built-in calls -/
theorem Peeks.one {xs : List V} {d : D} (h : Peeks ca G H xs [d]) : ∃ x, xs = [x] ∧ Peek ca G H x d := by
  cases h with
  | cons p t => cases t; exact ⟨_, rfl, p⟩
def lenD : List D → Option Val
  | [.lst ds] => some (.sh (.int ds.length))
  | [.tup ds] => some (.sh (.int ds.length))
  | [.str z] => if z.length ≤ sizeLine then some (.sh (.int z.length)) else none
  | [.dk kvs] => some (.sh (.int kvs.length))
  | _ => none
def rLenA (K : PySem.W.Frag) : List V → Hp → VK → Prop := fun xs H Q => (∃ p ys, xs = [.ref p] ∧ (SqL K H p ys ∨ SqT K H p ys) ∧ Q (.int ys.length) H) ∨ ((∃ z, xs = [.str z] ∧ z.length ≤ sizeLine ∧ Q (.int z.length) H) ∨ ∃ a kvs, xs = [.ref a] ∧ Rd H a (.dK kvs) ∧ Q (.int kvs.length) H)
theorem call_lenDk : CallR X (.builtin "len") (fun xs H Q => ∃ a kvs, xs = [.ref a] ∧ Rd H a (.dK kvs) ∧ Q (.int kvs.length) H) := by
  intro pins s σ H xs us Q I r h
  obtain ⟨a, kvs, rfl, ha, q⟩ := h
  rw [Vals.ref1 r]
  exact d_len I ha fun t s' I' => ⟨.int _, H, I', ⟨t, rfl⟩, q⟩
theorem c_len : CallR X (.builtin "len") (rLenA X.K) := call_len_seq.or (call_len_str.or call_lenDk)
theorem RepK.length {κ : Type} {vs : List (κ × V)} {ds : List (κ × D)} (r : RepK ca G vs ds) : vs.length = ds.length := by
  have := congrArg List.length r.keys
  simpa using this
theorem b_len : ArgR ca (rLenA ca) lenD := by
  intro G H xs ds v Q s ps e out
  unfold lenD at e
  split at e
  · cases e
    obtain ⟨x, rfl, p⟩ := ps.one
    obtain ⟨a, vs, rfl, ha, r⟩ := p
    exact .inl ⟨a, vs, rfl, .inl (SqL.of ha), by rw [r.len]; exact out _ _ (out_sh (.int _))⟩
  · cases e
    obtain ⟨x, rfl, p⟩ := ps.one
    obtain ⟨a, vs, rfl, ha, r⟩ := p
    exact .inl ⟨a, vs, rfl, .inr (SqT.of (s _ _ ha)), by rw [r.len]; exact out _ _ (out_sh (.int _))⟩
  · split at e
    · rename_i hz
      cases e
      obtain ⟨x, rfl, p⟩ := ps.one
      cases peek_str p
      exact .inr (.inl ⟨_, rfl, hz, out _ _ (out_sh (.int _))⟩)
    · cases e
  · cases e
    obtain ⟨x, rfl, p⟩ := ps.one
    obtain ⟨a, vs, rfl, ha, r⟩ := p
    exact .inr (.inr ⟨a, vs, rfl, ha, by rw [r.length]; exact out _ _ (out_sh (.int _))⟩)
  · cases e
def intD : List D → Option Val
  | [.int i] => some (.sh (.int i))
  | [.bl k] => some (.sh (.int (if k then 1 else 0)))
  | _ => none
theorem b_int : ArgR ca (fun xs H Q => (∃ i, xs = [.int i] ∧ Q (.int i) H) ∨ ∃ k, xs = [.bl k] ∧ Q (.int (if k then 1 else 0)) H) intD := by
  intro G H xs ds v Q s ps e out
  unfold intD at e
  split at e
  · cases e
    obtain ⟨x, rfl, p⟩ := ps.one
    cases peek_int p
    exact .inl ⟨_, rfl, out _ _ (out_sh (.int _))⟩
  · cases e
    obtain ⟨x, rfl, p⟩ := ps.one
    cases peek_bl p
    exact .inr ⟨_, rfl, out _ _ (out_sh (.int _))⟩
  · cases e
def listD : List D → Option Val
  | [.lst ds] => some (.fr (.lst ds))
  | [.tup ds] => some (.fr (.lst ds))
  | _ => none
theorem b_list : ArgR ca (fun xs H Q => ∃ p ys, xs = [.ref p] ∧ (SqL ca H p ys ∨ SqT ca H p ys) ∧ ∀ l, H l = none → Q (.ref l) (upd H l (.lst ys))) listD := by
  intro G H xs ds v Q s ps e out
  unfold listD at e
  split at e
  · cases e
    obtain ⟨x, rfl, p⟩ := ps.one
    obtain ⟨a, vs, rfl, ha, r⟩ := p
    exact ⟨a, vs, rfl, .inl (SqL.of ha), fun l hl => out _ _ (out_lst hl r)⟩
  · cases e
    obtain ⟨x, rfl, p⟩ := ps.one
    obtain ⟨a, vs, rfl, ha, r⟩ := p
    exact ⟨a, vs, rfl, .inr (SqT.of (s _ _ ha)), fun l hl => out _ _ (out_lst hl r)⟩
  · cases e
def tupleD : List D → Option Val
  | [.lst ds] => some (.sh (.tup ds))
  | [.tup ds] => some (.sh (.tup ds))
  | _ => none
theorem b_tuple : ArgR ca (fun xs H Q => ∃ p ys, xs = [.ref p] ∧ ((SqL ca H p ys ∧ ∀ l, H l = none → Q (.ref l) (upd H l (.tup ys))) ∨ (SqT ca H p ys ∧ Q (.ref p) H))) tupleD := by
  intro G H xs ds v Q s ps e out
  unfold tupleD at e
  split at e
  · cases e
    obtain ⟨x, rfl, p⟩ := ps.one
    obtain ⟨a, vs, rfl, ha, r⟩ := p
    exact ⟨a, vs, rfl, .inl ⟨SqL.of ha, fun l hl => out _ _ (out_tup s hl r)⟩⟩
  · cases e
    obtain ⟨x, rfl, p⟩ := ps.one
    obtain ⟨a, vs, rfl, ha, r⟩ := p
    exact ⟨a, vs, rfl, .inr ⟨SqT.of (s _ _ ha), out _ _ (out_sh (.tup ha r.len r.at_))⟩⟩
  · cases e
/-- the built-in class of a value -/
def tyN : D → Option String
  | .non => some "NoneType" | .bl _ => some "bool" | .int _ => some "int" | .str _ => some "str" | .lst _ => some "list" | .tup _ => some "tuple" | .dk _ => some "dict"
  | _ => none
theorem tyN_of {x : V} {d : D} {n : String} (s : Same G H) (p : Peek ca G H x d) (e : tyN d = some n) : TyX ca H x (.type n) := by
  cases d with
  | non => cases e; cases peek_non p; exact .base .non
  | bl b => cases e; cases peek_bl p; exact .base (.bl b)
  | int b => cases e; cases peek_int p; exact .base (.int b)
  | str b => cases e; cases peek_str p; exact .base (.str b)
  | lst ds => cases e; obtain ⟨a, vs, rfl, ha, r⟩ := p; exact .base (.lst ha)
  | tup ds => cases e; obtain ⟨a, vs, rfl, ha, r⟩ := p; exact .base (.tup (s _ _ ha))
  | dk ds =>
    cases e
    obtain ⟨a, vs, rfl, ha, r⟩ := p
    rcases ha with ha | ⟨o, ha⟩
    · exact .base (.dK ha)
    · exact .fDict ha
  | _ => cases e
/-- isinstance(x, T), T a built-in class -/
def isB (n : String) (d : D) : Option Val := (tyN d).bind fun t => (kitB t n).map fun k => .sh (.bl k)
variable {c : CT} {W : WX} {pos : Pos}
theorem p_isB {n : String} {a : Expr} {nm : Str} {p pb : Pos} {fa : SE} (hm : X.mg "isinstance" = none) (ha : PE X a (rdE ca c W fa)) (hn : X.mg nm = none) (hv : bootBuiltins nm = some (.type n) := by decide +kernel)
    (hg : Gl X "isinstance" := by rfl) (hgn : Gl X nm := by rfl) (hnn : nm ≠ "__name__" := by decide) (hnd : (nm == ("__debug__" : Str)) = false := by decide)
    (hs1 : starEach [a, .Name nm pb] X.env = (false, eval a X.env) :: starEach [.Name nm pb] X.env := by rfl) (hs2 : starEach [.Name nm pb] X.env = (false, eval (.Name nm pb) X.env) :: starEach [] X.env := by rfl) (hpl : (backTo pos (starEach [.Name nm pb] X.env)).any (·.1) = false := by rfl) (hK : X.K = ca := by rfl)
    (hbi : bootBuiltins "isinstance" = some (.builtin "isinstance") := by decide +kernel) :
    PE X (.Call (.Name "isinstance" p) [a, .Name nm pb] [] pos) (rdE ca c W (eUn (isB n) fa)) := by
  have hcl : PE X (.Name nm pb) (tC (.ty n)) := pe_bltn hgn hn hv rfl hnn hnd
  refine PE_weak (pe_callB call_isi hg hm hbi (pa_cons ha (pa_cons hcl pa_nil hs2) hs1) (by decide) (by decide) hs1 hpl) ?_
  intro σ H Q h
  refine una_in (r := fun x H1 Q => rIsi X.K [x, .ty n] H1 Q) (g := isB n) ?_ σ H Q h
  intro G H x dx v Q s px e out
  unfold isB at e
  cases et : tyN dx with
  | none => rw [et] at e; cases e
  | some t =>
    rw [et] at e
    cases ek : kitB t n with
    | none => simp [ek] at e
    | some k =>
      simp [ek] at e
      subst e
      refine ⟨x, .ty n, .type t, .type n, k, rfl, .ty n, ?_, kit_ty ek, out _ _ (out_sh (.bl k))⟩
      rw [hK]
      exact tyN_of s px et
/-- sep.join(xs) -/
def strsOf : List D → Option (List Str)
  | [] => some []
  | .str s :: ds => (strsOf ds).map (s :: ·)
  | _ => none
theorem strsOf_eq : ∀ {ds : List D} {ss : List Str}, strsOf ds = some ss → ds = ss.map D.str
  | [], _, e => by cases e; rfl
  | d :: ds, ss, e => by
    cases d with
    | str s =>
      have e : (strsOf ds).map (s :: ·) = some ss := e
      cases er : strsOf ds with
      | none => rw [er] at e; cases e
      | some r => rw [er] at e; cases e; rw [strsOf_eq er]; rfl
    | _ => cases e
def joinD (z : Str) : D → Option Val
  | .lst ds => (strsOf ds).bind fun ss => if (ss.map (·.length)).sum + ss.length * z.length ≤ 16777216 then some (.sh (.str (Txt.join z ss))) else none
  | .tup ds => (strsOf ds).bind fun ss => if (ss.map (·.length)).sum + ss.length * z.length ≤ 16777216 then some (.sh (.str (Txt.join z ss))) else none
  | _ => none
/-- a text's method with one argument -/
def eStrM (g : Str → D → Option Val) (fo fe : SE) : SE := fun c env => bindV (fo c env) fun va e1 => match va with
  | .sh (.str z) => bindV (fe c e1) fun vb e2 => (peek e2 vb).bind fun db => (g z db).map fun r => .val r e2
  | _ => none
theorem strM_in {g : Str → D → Option Val} {fo fe : SE} {r : V → List V → Hp → VK → Prop}
    (br : ∀ (z : Str) (G H : Hp) (y : V) (dy : D) (v : Val) (Q : VK), Same G H → Peek ca G H y dy → g z dy = some v → (∀ u H', OpOut ca G H u H' v → Q u H') → r (.str z) [y] H Q) : ∀ σ H Q, rdE ca c W (eStrM g fo fe) σ H Q → tM1 r (rdE ca c W fo) (rdE ca c W fe) σ H Q := by
  rintro σ H Q ⟨b, env, G, o, R, e, post⟩
  refine rd_bind R e post fun va e1 u G1 H1 _ R1 hd sg e => ?_
  cases va with
  | sh d =>
    cases d with
    | str z =>
      cases hd
      refine ⟨⟨z, rfl⟩, ?_⟩
      refine rd_bind R1 e post fun vb e2 w G2 H2 _ R2 hd2 sg2 e => ?_
      cases eb : peek e2 vb with
      | none => rw [eb] at e; cases e
      | some db =>
        rw [eb] at e
        simp only [Option.bind_some] at e
        cases ej : g z db with
        | none => rw [ej] at e; cases e
        | some rv =>
          rw [ej] at e
          cases e
          refine br z G2 H2 w db rv Q R2.sub (hd2.peek R2 eb) ej fun y H3 out => ?_
          obtain ⟨G3, sg3, R3, vr⟩ := out.at R2
          exact post y G3 H3 R3 vr
    | _ => cases e
  | _ => cases e
theorem p_join {o e : Expr} {fo fe : SE} {apos : Pos} (ho : PE X o (rdE ca c W fo)) (he : PE X e (rdE ca c W fe)) (hs : starEach [e] X.env = [(false, eval e X.env)] := by rfl) (hbase : attributeBase o "join" X.env (eval o X.env) = eval o X.env := by rfl) (hline : (apos.endLine == pos.line) = true := by rfl) (hK : X.K = ca := by rfl) :
    PE X (.Call (.Attribute o "join" apos) [e] [] pos) (rdE ca c W (eStrM joinD fo fe)) := PE_weak (pe_join ho he hs hbase hline) (by
  refine strM_in fun z G H y dy v Q s py e out => ?_
  unfold joinD at e
  rw [hK]
  split at e
  · rename_i ds
    cases es : strsOf ds with
    | none => rw [es] at e; cases e
    | some ss =>
      rw [es] at e
      simp only [Option.bind_some] at e
      split at e
      · rename_i hl
        cases e
        obtain ⟨a, vs, rfl, ha, r⟩ := py
        rw [strsOf_eq es] at r
        have hv := r.strs
        subst hv
        exact ⟨z, a, ss, rfl, rfl, .inl (SqL.of ha), hl, out _ _ (out_sh (.str _))⟩
      · cases e
  · rename_i ds
    cases es : strsOf ds with
    | none => rw [es] at e; cases e
    | some ss =>
      rw [es] at e
      simp only [Option.bind_some] at e
      split at e
      · rename_i hl
        cases e
        obtain ⟨a, vs, rfl, ha, r⟩ := py
        rw [strsOf_eq es] at r
        have hv := r.strs
        subst hv
        exact ⟨z, a, ss, rfl, rfl, .inr (SqT.of (s _ _ ha)), hl, out _ _ (out_sh (.str _))⟩
      · cases e
  · cases e)

/-! ### what an owner changes: xs[i] = e, d[k] = e, xs.append(e), xs.pop() -/
end
end Pd
/-! Pd11: what an owner changes -/
namespace Pd
open PySem PySem.Spec L2
variable [Ext]
section
variable {ca : PySem.W.Frag} {X : Cx} {G H : Hp} {c : CT} {W : WX} {pos : Pos}
/-- slot i's object is written -/
theorem Rel.write {b : Bs} {env : Env} {σ : St} {i : Nat} {a0 : Addr} {cl cl' : Cell} {o : HO} (R : Rel ca b env σ G H) (hc : cellAt env i = some cl) (h0 : σ[i]? = some (some (.ref a0))) (gn : G a0 = none) (cr : CellRel ca G (upd H a0 o) a0 cl') (fl : cl'.flat = true := by rfl) : Rel ca b (putCell env i cl') σ G (upd H a0 o) := by
  refine R.callI hc h0 (fun a q e => ?_) (Same.refl _) (fun a o e => .inl e) (fun a o e hne _ => ?_) (fun a e => ?_) cr gn fun x h => (h.flat fl).elim
  · rw [upd_ne (fun z => by rw [z, gn] at e; cases e)]; exact R.sub _ _ e
  · rw [upd_ne hne]; exact e
  · by_cases h : a = a0
    · subst h; rw [upd_same] at e; cases e
    · rw [upd_ne h] at e; exact e
def putD {κ : Type} [DecidableEq κ] (kvs : List (κ × D)) (k : κ) (d : D) : List (κ × D) :=
  if (kvs.any fun kv => decide (kv.1 = k)) = true then kvs.map (fun kv => if kv.1 = k then (kv.1, d) else kv) else kvs ++ [(k, d)]
theorem RepK.any {κ : Type} [DecidableEq κ] (k : κ) : ∀ {vs : List (κ × V)} {ds : List (κ × D)}, RepK ca G vs ds → (vs.any fun kv => decide (kv.1 = k)) = (ds.any fun kv => decide (kv.1 = k))
  | [], [], _ => rfl
  | [], _ :: _, r => by have := r.keys; simp at this
  | _ :: _, [], r => by have := r.keys; simp at this
  | p :: vs, q :: ds, r => by
    obtain ⟨h1, _, h3⟩ := r.tail
    rw [List.any_cons, List.any_cons, h1, RepK.any k h3]
theorem RepK.mapPut {κ : Type} [DecidableEq κ] (k : κ) {v : V} {d : D} (q0 : Rep ca G v d) : ∀ {vs : List (κ × V)} {ds : List (κ × D)}, RepK ca G vs ds → RepK ca G (vs.map fun kv => if kv.1 = k then (kv.1, v) else kv) (ds.map fun kv => if kv.1 = k then (kv.1, d) else kv)
  | [], [], _ => .nil
  | [], _ :: _, r => by have := r.keys; simp at this
  | _ :: _, [], r => by have := r.keys; simp at this
  | p :: vs, q :: ds, r => by
    obtain ⟨h1, h2, h3⟩ := r.tail
    rw [List.map_cons, List.map_cons]
    by_cases hk : p.1 = k
    · have hk' : q.1 = k := h1 ▸ hk
      rw [if_pos hk, if_pos hk']
      exact .cons h1 q0 (RepK.mapPut k q0 h3)
    · have hk' : ¬ q.1 = k := h1 ▸ hk
      rw [if_neg hk, if_neg hk']
      exact .cons h1 h2 (RepK.mapPut k q0 h3)
theorem RepK.app {κ : Type} {vs ws : List (κ × V)} {ds es : List (κ × D)} (r : RepK ca G vs ds) (t : RepK ca G ws es) : RepK ca G (vs ++ ws) (ds ++ es) := by
  induction vs generalizing ds with
  | nil =>
    cases ds with
    | nil => exact t
    | cons _ _ => have := r.keys; simp at this
  | cons p vs ih =>
    cases ds with
    | nil => have := r.keys; simp at this
    | cons q ds =>
      obtain ⟨h1, h2, h3⟩ := r.tail
      exact .cons h1 h2 (ih h3)
theorem RepK.put {κ : Type} [DecidableEq κ] {vs : List (κ × V)} {ds : List (κ × D)} (r : RepK ca G vs ds) (k : κ) {v : V} {d : D} (q : Rep ca G v d) : RepK ca G (putK vs k v) (putD ds k d) := by
  unfold putK putD
  rw [r.any k]
  split
  · exact r.mapPut k q
  · exact r.app (.cons rfl q .nil)
/-- x[k] = e, x a list or a dict of one's own -/
def putC : Cell → D → D → Option Cell
  | .lst ds, .int k, d => (ixN ds.length k).map fun j => .lst (ds.set j d)
  | .dk kvs, k, d => (keyK k).bind fun k => if kvs.length < sizeLine then some (.dk (putD kvs k d)) else none
  | .dt kvs, .tup ks, d => (keysK ks).bind fun k => if kvs.length < sizeLine then some (.dt (putD kvs k d)) else none
  | _, _, _ => none
def sPut (i : Nat) (fk fv : SE) : SS := fun c env => bindS (fv c env) fun v e0 => (take e0 v).bind fun q => match cellAt q.2 i with
  | none => none
  | some _ => bindS (fk c q.2) fun vk e2 => (peek e2 vk).bind fun k => (cellAt e2 i).bind fun cl => (putC cl k q.1).map fun cl' => .nx (putCell e2 i cl')
theorem s_put {i : Nat} {x : Str} {k value : Expr} {p p' : Pos} {fk fv : SE} (hu : X.A.units + 1 < cLine) (hv : PE X value (rdE ca c W fv)) (hk : PE X k (rdE ca c W fk)) (hN : X.N[i]? = some x := by rfl) (hvis : Vis X.env.scope x := by first | exact Or.inl rfl | exact Or.inr (Or.inl rfl) | exact Or.inr (Or.inr rfl))
    (hs : swapsWith value (some (.Subscript (.Name x p) k p')) pos.line X.env = pure false := by rfl)
    (hd : (x == ("__debug__" : Str)) = false := by decide) (hcd : (x == ("__classdict__" : Str)) = false := by decide)
    (ha : ∀ v, assign (.Subscript (.Name x p) k p') X.env v = (do
      let ov ← holding [v] (eval (.Name x p) X.env)
      let iv ← holding [v, ov] (eval k X.env)
      standAt p'
      holding [v, ov, iv] (setItem ov iv v)
      release [v, ov, iv] []) := by intro _; rfl)
    (hs2 : swapsWithSole [.Subscript (.Name x p) k p'] value pos.line X.env = pure false := by rfl) (hw : swappedStores [.Subscript (.Name x p) k p'] value X.env = pure none := by rfl)
    (h1 : (assignEach [.Subscript (.Name x p) k p'] X.env).map (·.2) = [assign (.Subscript (.Name x p) k p') X.env] := by rfl) :
    PS X (.Assign [.Subscript (.Name x p) k p'] value pos) (rdS ca c W (sPut i fk fv)) := by
  have po : PE X (.Name x p) (tVar i) := pv i hN hvis hd hcd
  refine ⟨fun pins s σ H D I h => ?_⟩
  obtain ⟨b, env, G, o, R, e, post⟩ := h
  unfold sPut at e
  -- the value
  cases ev : fv c env with
  | none => rw [ev] at e; cases e
  | some eo =>
    rw [ev] at e
    cases eo with
    | exc xx e0 =>
      cases e
      exact (ps_dput (td := tVar i) (ty := rdE ca c W fk) (tv := rdE ca c W fv) hu po hk hv hs).run pins s σ H D I (rdE.use R ev fun cls d G' H' R' q => post cls d σ G' H' R' q)
    | val v e0 =>
      have e : (take e0 v).bind (fun q => match cellAt q.2 i with
        | none => none
        | some _ => bindS (fk c q.2) fun vk e2 => (peek e2 vk).bind fun k => (cellAt e2 i).bind fun cl => (putC cl k q.1).map fun cl' => .nx (putCell e2 i cl')) = some o := e
      cases et : take e0 v with
      | none => rw [et] at e; cases e
      | some q =>
        rw [et] at e
        simp only [Option.bind_some] at e
        cases ec : cellAt q.2 i with
        | none => rw [ec] at e; cases e
        | some cl0 =>
          rw [ec] at e
          dsimp only at e
          -- the value frozen
          have go : ∀ u G1 H1, Rel ca b e0 σ G1 H1 → VRel ca b e0 σ G1 H1 u v → ∃ G2, Rel ca b q.2 σ G2 H1 ∧ Rep ca G2 u q.1 := fun u G1 H1 R1 vr => by
            obtain ⟨G2, s2, R2, hd⟩ := VRel.held R1 vr
            obtain ⟨G3, s3, R3, r3⟩ := hd.take (d := q.1) (env' := q.2) R2 et
            exact ⟨G3, R3, r3⟩
          cases ek : fk c q.2 with
          | none => rw [ek] at e; cases e
          | some ko =>
            rw [ek] at e
            cases ko with
            | exc xx e2 =>
              cases e
              refine (ps_dput (td := tVar i) (ty := rdE ca c W fk) (tv := rdE ca c W fv) hu po hk hv hs).run pins s σ H D I (rdE.use R ev fun u G1 H1 R1 vr _ _ => ?_)
              obtain ⟨G2, R2, r2⟩ := go u G1 H1 R1 vr
              obtain ⟨a0, ha0, _, _⟩ := R2.cell ec
              exact ⟨_, ha0, rdE.use R2 ek fun cls d G' H' R' q => post cls d σ G' H' R' q⟩
            | val vk e2 =>
              have e : (peek e2 vk).bind (fun k => (cellAt e2 i).bind fun cl => (putC cl k q.1).map fun cl' => .nx (putCell e2 i cl')) = some o := e
              cases ep : peek e2 vk with
              | none => rw [ep] at e; cases e
              | some dkk =>
                rw [ep] at e
                simp only [Option.bind_some] at e
                cases ec2 : cellAt e2 i with
                | none => rw [ec2] at e; cases e
                | some cl =>
                  rw [ec2] at e
                  simp only [Option.bind_some] at e
                  cases epc : putC cl dkk q.1 with
                  | none => rw [epc] at e; cases e
                  | some cl' =>
                    rw [epc] at e
                    cases e
                    cases cl with
                    | lst ds =>
                      cases dkk with
                      | int k' =>
                        have epc : (ixN ds.length k').map (fun j => Cell.lst (ds.set j q.1)) = some cl' := epc
                        cases ej : ixN ds.length k' with
                        | none => rw [ej] at epc; cases epc
                        | some j =>
                          rw [ej] at epc
                          cases epc
                          refine (ps_asg (g := gSub (tVar i) (rdE ca c W fk) rSetL) hv (pg_sub po hk set_list ha) hs2 hw h1).run pins s σ H D I (rdE.use R ev fun u G1 H1 R1 vr _ _ => ?_)
                          obtain ⟨G2, R2, r2⟩ := go u G1 H1 R1 vr
                          obtain ⟨a0, ha0, _, _⟩ := R2.cell ec
                          refine ⟨_, ha0, rdE.use R2 ek fun uk G3 H3 R3 vr3 sg3 _ => ?_⟩
                          obtain ⟨G4, s4, R4, hd4⟩ := VRel.held R3 vr3
                          obtain ⟨a1, ha1, ⟨vs, hvs, rs⟩, gn⟩ := R4.cell ec2
                          rw [ha0] at ha1; cases ha1
                          cases peek_int (hd4.peek R4 ep)
                          refine ⟨a0, vs, k', j, rfl, rfl, hvs, by rw [rs.len]; exact ej, ?_⟩
                          exact post σ G4 _ (R4.write ec2 ha0 gn ⟨_, upd_same, rs.set j (r2.mono (sg3.trans s4))⟩)
                      | _ => cases epc
                    | dk kvs =>
                      have epc : (keyK dkk).bind (fun k => if kvs.length < sizeLine then some (Cell.dk (putD kvs k q.1)) else none) = some cl' := by
                        unfold putC at epc; exact epc
                      cases ekk : keyK dkk with
                      | none => rw [ekk] at epc; cases epc
                      | some kk =>
                        rw [ekk] at epc
                        simp only [Option.bind_some] at epc
                        split at epc
                        · rename_i hl
                          cases epc
                          refine (ps_dput (td := tVar i) (ty := rdE ca c W fk) (tv := rdE ca c W fv) hu po hk hv hs).run pins s σ H D I (rdE.use R ev fun u G1 H1 R1 vr _ _ => ?_)
                          obtain ⟨G2, R2, r2⟩ := go u G1 H1 R1 vr
                          obtain ⟨a0, ha0, _, _⟩ := R2.cell ec
                          refine ⟨_, ha0, rdE.use R2 ek fun uk G3 H3 R3 vr3 sg3 _ => ?_⟩
                          obtain ⟨G4, s4, R4, hd4⟩ := VRel.held R3 vr3
                          obtain ⟨a1, ha1, ⟨vs, hvs, rs⟩, gn⟩ := R4.cell ec2
                          rw [ha0] at ha1; cases ha1
                          have := keyK_of (hd4.peek R4 ep) ekk
                          subst this
                          refine ⟨a0, _, rfl, DPut.k hvs (by rw [rs.length]; exact hl), ?_⟩
                          exact post σ G4 _ (R4.write ec2 ha0 gn ⟨_, upd_same, rs.put kk (r2.mono (sg3.trans s4))⟩)
                        · cases epc
                    | dt kvs =>
                      cases dkk with
                      | tup ks =>
                        have epc : (keysK ks).bind (fun k => if kvs.length < sizeLine then some (Cell.dt (putD kvs k q.1)) else none) = some cl' := epc
                        cases ekk : keysK ks with
                        | none => rw [ekk] at epc; cases epc
                        | some kk =>
                          rw [ekk] at epc
                          simp only [Option.bind_some] at epc
                          split at epc
                          · rename_i hl
                            cases epc
                            refine (ps_dput (td := tVar i) (ty := rdE ca c W fk) (tv := rdE ca c W fv) hu po hk hv hs).run pins s σ H D I (rdE.use R ev fun u G1 H1 R1 vr _ _ => ?_)
                            obtain ⟨G2, R2, r2⟩ := go u G1 H1 R1 vr
                            obtain ⟨a0, ha0, _, _⟩ := R2.cell ec
                            refine ⟨_, ha0, rdE.use R2 ek fun uk G3 H3 R3 vr3 sg3 _ => ?_⟩
                            obtain ⟨G4, s4, R4, hd4⟩ := VRel.held R3 vr3
                            obtain ⟨a1, ha1, ⟨vs, hvs, rs⟩, gn⟩ := R4.cell ec2
                            rw [ha0] at ha1; cases ha1
                            obtain ⟨ak, us, euk, hak, rk⟩ := hd4.peek R4 ep
                            subst euk
                            have hus := keysK_of rk ekk
                            subst hus
                            refine ⟨a0, _, rfl, DPut.t hvs (R4.sub _ _ hak) (by rw [rs.length]; exact hl), ?_⟩
                            exact post σ G4 _ (R4.write ec2 ha0 gn ⟨_, upd_same, rs.put kk (r2.mono (sg3.trans s4))⟩)
                          · cases epc
                      | _ => cases epc
                    | ins cn fs => cases epc
                    | deep cn fs fd xs => cases epc

/-! ### methods of one's own list -/
def LmR (ca : PySem.W.Frag) (r : V → List V → Hp → VK → Prop) (g : List D → List D → Option (D × List D)) : Prop :=
  ∀ (G H : Hp) (l : Addr) (xs us : List V) (ds es : List D) (d : D) (ds' : List D) (Q : VK), H l = some (.lst xs) → Reps ca G xs ds → Reps ca G us es → g ds es = some (d, ds') →
    (∀ u xs', Rep ca G u d → Reps ca G xs' ds' → Q u (upd H l (.lst xs'))) → r (.ref l) us H Q
def lstAt (env : Env) (i : Nat) : Option (List D) := match cellAt env i with
  | some (.lst ds) => some ds
  | _ => none
theorem lstAt_some {env : Env} {i : Nat} {ds : List D} (h : lstAt env i = some ds) : cellAt env i = some (.lst ds) := by
  unfold lstAt at h
  split at h
  · rename_i ds' hc; cases h; exact hc
  · cases h
def eLm (g : List D → List D → Option (D × List D)) (i : Nat) (fs : SA) : SE := fun c env => (lstAt env i).bind fun _ => bindA (fs c env) fun vs e1 => (takes e1 vs).bind fun q => (lstAt q.2 i).bind fun ds => (g ds q.1).map fun r => .val (.sh r.1) (putCell q.2 i (.lst r.2))
theorem lm_in {g : List D → List D → Option (D × List D)} {i : Nat} {fs : SA} {r : V → List V → Hp → VK → Prop} (br : LmR ca r g) : ∀ σ H Q, rdE ca c W (eLm g i fs) σ H Q → tBM ca "list" r (tVar i) (rdA ca c W fs) σ H Q := by
  rintro σ H Q ⟨b, env, G, o, R, e, post⟩
  unfold eLm at e
  cases e0 : lstAt env i with
  | none => rw [e0] at e; cases e
  | some ds0 =>
    rw [e0] at e
    simp only [Option.bind_some] at e
    obtain ⟨a0, ha0, ⟨vs0, hvs0, rs0⟩, gn0⟩ := R.cell (lstAt_some e0)
    refine ⟨_, ha0, .inl ⟨rfl, _, SqL.of hvs0⟩, ?_⟩
    refine rdA_bind R e post fun vs e1 us G1 H1 _ R1 hd sg e => ?_
    cases et : takes e1 vs with
    | none => rw [et] at e; cases e
    | some q =>
      rw [et] at e
      simp only [Option.bind_some] at e
      obtain ⟨G2, s2, R2, r2⟩ := Helds.takes (ds := q.1) (env' := q.2) R1 hd et
      cases el : lstAt q.2 i with
      | none => rw [el] at e; cases e
      | some ds =>
        rw [el] at e
        simp only [Option.bind_some] at e
        cases eg : g ds q.1 with
        | none => rw [eg] at e; cases e
        | some res =>
          rw [eg] at e
          cases e
          obtain ⟨a1, ha1, ⟨xs, hxs, rs⟩, gn⟩ := R2.cell (lstAt_some el)
          rw [ha0] at ha1; cases ha1
          exact br G2 H1 a0 xs us ds q.1 res.1 res.2 Q hxs rs r2 eg fun u xs' ru rx => post u G2 _ (R2.write (lstAt_some el) ha0 gn ⟨_, upd_same, rx⟩) ru
def appendG (ds es : List D) : Option (D × List D) := match es with
  | [d] => if ds.length < sizeLine then some (.non, ds ++ [d]) else none
  | _ => none
theorem l_append : LmR ca rAppend appendG := by
  intro G H l xs us ds es d ds' Q hl rx ru e out
  unfold appendG at e
  split at e
  · rename_i d0
    split at e
    · rename_i hz
      cases e
      have hul := ru.len
      cases us with
      | nil => simp at hul
      | cons u us =>
        cases us with
        | nil =>
          have r0 := ru.at_ 0 u d0 rfl rfl
          exact ⟨l, xs, u, rfl, rfl, hl, by rw [rx.len]; exact hz, out _ _ .non (rx.append (.one r0))⟩
        | cons _ _ => simp at hul
    · cases e
  · cases e
theorem p_append {i : Nat} {x : Str} {p apos : Pos} {e : Expr} {fs : SA} (ha : PA X [e] (rdA ca c W fs)) (hN : X.N[i]? = some x := by rfl) (hvis : Vis X.env.scope x := by first | exact Or.inl rfl | exact Or.inr (Or.inl rfl) | exact Or.inr (Or.inr rfl))
    (hd : (x == ("__debug__" : Str)) = false := by decide) (hcd : (x == ("__classdict__" : Str)) = false := by decide) (hK : X.K = ca := by rfl)
    (hbase : attributeBase (.Name x p) "append" X.env (eval (.Name x p) X.env) = eval (.Name x p) X.env := by rfl)
    (hfew : ((backTo pos (starEach [e] X.env)).all (fun x => !x.1) && (backToKw pos (keywordEach [] X.env)).all (fun x => x.1.isSome)
      && decide ([e].length + ([] : List Keyword).length + (if ([] : List Keyword).isEmpty then 0 else 1) < 30)) = true := by rfl)
    (hline : (apos.endLine == pos.line) = true := by rfl) (hs : starEach [e] X.env = (false, eval e X.env) :: starEach [] X.env := by rfl) (hplain : (backTo pos (starEach [] X.env)).any (·.1) = false := by rfl) :
    PE X (.Call (.Attribute (.Name x p) "append" apos) [e] [] pos) (rdE ca c W (eLm appendG i fs)) :=
  PE_weak (pe_bm PySem.F.plainAttrs_list PySem.F.slot_list_append PySem.F.type_list_append mt_append (pv i hN hvis hd hcd) ha hbase hfew hline hs hplain) (by rw [hK]; exact lm_in l_append)
end
end Pd
/-! Pd12: further comparisons; the tower of defs; a law's end -/
namespace Pd
open PySem PySem.Spec L2
variable [Ext]
section
variable {ca : PySem.W.Frag} {X : Cx}
theorem o_lt : OpR X (compareOp .Lt) (fun x y H Q => (∃ i j, x = .int i ∧ y = .int j ∧ Q (.bl (decide (i < j))) H) ∨ ∃ i j, x = .str i ∧ y = .str j ∧ Q (.bl (decide (i.cps.toList < j.cps.toList))) H) := op_lt.or op_lt_str
theorem o_le : OpR X (compareOp .LtE) (fun x y H Q => (∃ i j, x = .int i ∧ y = .int j ∧ Q (.bl (decide (i ≤ j))) H) ∨ ∃ i j, x = .str i ∧ y = .str j ∧ Q (.bl (!decide (j.cps.toList < i.cps.toList))) H) := op_le.or op_le_str
theorem o_gt : OpR X (compareOp .Gt) (fun x y H Q => (∃ i j, x = .int i ∧ y = .int j ∧ Q (.bl (decide (j < i))) H) ∨ ∃ i j, x = .str i ∧ y = .str j ∧ Q (.bl (decide (j.cps.toList < i.cps.toList))) H) := op_gt.or op_gt_str
theorem o_ge : OpR X (compareOp .GtE) (fun x y H Q => (∃ i j, x = .int i ∧ y = .int j ∧ Q (.bl (decide (j ≤ i))) H) ∨ ∃ i j, x = .str i ∧ y = .str j ∧ Q (.bl (!decide (i.cps.toList < j.cps.toList))) H) := op_ge.or op_ge_str
theorem b_lt : BinR ca (fun x y H Q => (∃ i j, x = .int i ∧ y = .int j ∧ Q (.bl (decide (i < j))) H) ∨ ∃ i j, x = .str i ∧ y = .str j ∧ Q (.bl (decide (i.cps.toList < j.cps.toList))) H) ltD := b_cmpO
theorem b_le : BinR ca (fun x y H Q => (∃ i j, x = .int i ∧ y = .int j ∧ Q (.bl (decide (i ≤ j))) H) ∨ ∃ i j, x = .str i ∧ y = .str j ∧ Q (.bl (!decide (j.cps.toList < i.cps.toList))) H) leD := b_cmpO
theorem b_gt : BinR ca (fun x y H Q => (∃ i j, x = .int i ∧ y = .int j ∧ Q (.bl (decide (j < i))) H) ∨ ∃ i j, x = .str i ∧ y = .str j ∧ Q (.bl (decide (j.cps.toList < i.cps.toList))) H) gtD := b_cmpO
theorem b_ge : BinR ca (fun x y H Q => (∃ i j, x = .int i ∧ y = .int j ∧ Q (.bl (decide (j ≤ i))) H) ∨ ∃ i j, x = .str i ∧ y = .str j ∧ Q (.bl (!decide (i.cps.toList < j.cps.toList))) H) geD := b_cmpO
def D.isNon : D → Bool
  | .non => true
  | _ => false
theorem isNon_of {G H : Hp} {x : V} {d : D} (p : Peek ca G H x d) : decide (x = .non) = d.isNon := by
  cases d with
  | non => cases peek_non p; rfl
  | bl b => cases peek_bl p; rfl
  | int b => cases peek_int p; rfl
  | str b => cases peek_str p; rfl
  | lst ds => obtain ⟨a, vs, rfl, _⟩ := p; rfl
  | tup ds => obtain ⟨a, vs, rfl, _⟩ := p; rfl
  | dk ds => obtain ⟨a, vs, rfl, _⟩ := p; rfl
  | dt ds => obtain ⟨a, vs, rfl, _⟩ := p; rfl
  | ins c ds => obtain ⟨a, dx, vs, rfl, _⟩ := p; rfl
  | scr ns => cases p; rfl
  | nil0 => cases p; rfl
  | kd ns => cases p; rfl
def isND : D → D → Option Val
  | d, .non => some (.sh (.bl d.isNon))
  | _, _ => none
theorem b_isN : BinR ca (fun x y H Q => y = .non ∧ Q (.bl (decide (x = .non))) H) isND := by
  intro G H x y dx dy v Q s px py e out
  unfold isND at e
  split at e
  · cases e
    refine ⟨peek_non py, ?_⟩
    rw [isNon_of px]
    exact out _ _ (out_sh (.bl _))
  · cases e
def negD : D → Option Val
  | .int i => some (.sh (.int (-i)))
  | _ => none
theorem b_neg : UnaR ca (rU fun i => .int (-i)) negD := by
  intro G H x dx v Q s px e out
  unfold negD at e
  split at e
  · cases e; cases peek_int px
    exact ⟨_, rfl, out _ _ (out_sh (.int _))⟩
  · cases e
end
/-! ### the tower -/
def CT.nil : CT := fun _ => none
def CT.add (c : CT) (p : Str × Option Str) (g : List Arg → Option CRes) : CT := fun q => if q = p then some g else c q
section
variable {P : Program} {w : World} {K : PySem.W.Frag} {mg : Str → Option Value} {base : Heap}
structure Tower (P : Program) (w : World) (K : PySem.W.Frag) (mg : Str → Option Value) (base : Heap) (k : Nat) (c : CT) : Prop where
  fn : ∀ p g, c p = some g → starB p = false → ∃ fd ps, FnOk P w K mg base (CX P w) k (adr K p) fd ps (spP K p g) ∧ BindsA K p fd ps
  meth : ∀ C m g, c (C, some m) = some g → m ≠ "__init__" → deco.contains m = false → Cls K (He.ga K C) ∧ Meth K (He.ga K C) m (He.fAd K (C, some m)) ∧ PySem.W.fnIn K (He.fAd K (C, some m)) = true
  fnR : ∀ p g, c p = some g → starB p = true → StK P w K mg base k p K g
theorem Tower.nil : Tower P w K mg base 0 CT.nil := ⟨(fun p g h => nomatch h), (fun C m g h => nomatch h), (fun p g h => nomatch h)⟩
theorem Tower.add {k : Nat} {c : CT} {p : Str × Option Str} {g : List Arg → Option CRes} {fd : FuncData} {ps : List Str} (t : Tower P w K mg base k c) (h : FnOk P w K mg base (CX P w) (k + 2) (adr K p) fd ps (spP K p g)) (b : BindsA K p fd ps)
    (hm : ∀ m, p.2 = some m → m ≠ "__init__" → deco.contains m = false → Cls K (He.ga K p.1) ∧ Meth K (He.ga K p.1) m (He.fAd K p) ∧ PySem.W.fnIn K (He.fAd K p) = true) (hst : starB p = false := by decide) : Tower P w K mg base (k + 2) (c.add p g) := by
  refine ⟨fun q g' h' hs => ?_, fun C m g' h' hn hd => ?_, fun q g' h' hs => ?_⟩
  · unfold CT.add at h'
    split at h'
    · rename_i e
      cases h'; subst e
      exact ⟨fd, ps, h, b⟩
    · obtain ⟨fd', ps', h1, h2⟩ := t.fn q g' h' hs
      exact ⟨fd', ps', h1.mono (Nat.le_add_right k 2), h2⟩
  · unfold CT.add at h'
    split at h'
    · rename_i e
      subst e
      exact hm m rfl hn hd
    · exact t.meth C m g' h' hn hd
  · unfold CT.add at h'
    split at h'
    · rename_i e
      subst e
      rw [hst] at hs
      cases hs
    · exact (t.fnR q g' h' hs).mono (Nat.le_add_right k 2)
/-- a def with a star parameter -/
theorem Tower.addS {k : Nat} {c : CT} {x : Str} {g : List Arg → Option CRes} (t : Tower P w K mg base k c) (h : StK P w K mg base (k + 2) (x, Option.none) K g) (hst : starB (x, Option.none) = true := by decide) : Tower P w K mg base (k + 2) (c.add (x, Option.none) g) := by
  refine ⟨fun q g' h' hs => ?_, fun C m g' h' hn hd => ?_, fun q g' h' hs => ?_⟩
  · unfold CT.add at h'
    split at h'
    · rename_i e
      subst e
      rw [hst] at hs
      cases hs
    · obtain ⟨fd', ps', h1, h2⟩ := t.fn q g' h' hs
      exact ⟨fd', ps', h1.mono (Nat.le_add_right k 2), h2⟩
  · unfold CT.add at h'
    split at h'
    · rename_i e
      cases e
    · exact t.meth C m g' h' hn hd
  · unfold CT.add at h'
    split at h'
    · rename_i e
      cases h'; subst e
      exact h
    · exact (t.fnR q g' h' hs).mono (Nat.le_add_right k 2)
/-- a def with a double star parameter -/
theorem Tower.addK {k : Nat} {c : CT} {x : Str} {g : List Arg → Option CRes} (t : Tower P w K mg base k c) (h : FnKw P w K mg base (CX P w) (k + 2) (He.fAd K (x, Option.none)) (kwS K g)) (hst : starB (x, Option.none) = true := by decide) (hkw : kwB (x, Option.none) = true := by decide) : Tower P w K mg base (k + 2) (c.add (x, Option.none) g) :=
  t.addS (by unfold StK; rw [if_pos hkw]; exact h) hst
/-- no promise as yet (of a def that calls itself, of one that is not reached) -/
theorem Tower.none {k : Nat} {c : CT} {p : Str × Option Str} {fd : FuncData} {ps : List Str} (t : Tower P w K mg base k c) (b : BindsA K p fd ps) (hp : p.2 = Option.none) (hst : starB p = false := by decide) : Tower P w K mg base k (c.add p fun _ => Option.none) := by
  refine ⟨fun q g' h' hs => ?_, fun C m g' h' hn hd => ?_, fun q g' h' hs => ?_⟩
  · unfold CT.add at h'
    split at h'
    · cases h'
      rename_i ep
      have no : ∀ vs H Q E, ¬ spP K q (fun _ => Option.none) vs H Q E := fun vs H Q E => by
        rw [spP_of (by subst ep; unfold cmB; rw [hp])]
        exact fun ⟨_, _, _, _, _, z, _⟩ => nomatch z
      subst ep
      exact ⟨fd, ps, ⟨fun vs H Q E h => (no _ _ _ _ h).elim, fun _ _ _ _ _ _ _ _ _ _ _ _ _ h => (no _ _ _ _ h).elim⟩, b⟩
    · exact t.fn q g' h' hs
  · unfold CT.add at h'
    split at h'
    · rename_i e
      subst e
      cases hp
    · exact t.meth C m g' h' hn hd
  · unfold CT.add at h'
    split at h'
    · rename_i e
      subst e
      rw [hst] at hs
      cases hs
    · exact t.fnR q g' h' hs
theorem bindA_of {p : Str × Option Str} {x qual : Str} {params : Arguments} {body : List Stmt} {scope : Scope} {dvs : List V} {kws : List (Str × V)} {fd : FuncData} {ps : List Str} (F : FunD K x qual params body scope dvs kws (adr K p) fd) (b : Binds K fd ps []) (h : psA params = ps) : BindsA K p fd ps := by
  obtain ⟨oc, od, dV, kV, doc, pm, an, cdv, ct, osl, rfl, lk, _, _, _⟩ := F.ex
  exact ⟨b, ⟨_, _, _, lk⟩, h⟩
theorem Tower.fns {k : Nat} {c : CT} (t : Tower P w K mg base k c) {X : Cx} (hP : X.prog = P := by rfl) (hw : X.w = w := by rfl) (hK : X.K = K := by rfl) (hm : X.mg = mg := by rfl) (hb : X.base = base := by rfl) (hr : Room (k + 1) X.A) : Fns X K c := by
  subst hP hw hK hm hb
  refine ⟨fun p g h hs => ?_, t.meth, fun p g h hs => ⟨k, t.fnR p g h hs, hr⟩⟩
  obtain ⟨fd, ps, h1, h2⟩ := t.fn p g h hs
  exact ⟨fd, ps, k, h1, h2, hr⟩
end
theorem Fns.blk {X : Cx} {ca : PySem.W.Frag} {c : CT} (F : Fns X ca c) (s : Shared) (H : Hp) (scope : Scope) (cenv : PySem.Env) (fp : List Addr) : Fns (X.blk s H scope cenv fp) ca c := ⟨F.fn, F.meth, F.fnR⟩
theorem cx0 {P : Program} {w : World} {K : PySem.W.Frag} {mg : Str → Option Value} {base : Heap} {k : Nat} {f : Addr} {fd : FuncData} {ps : List Str} {sp : Sp} (F : FnOk P w K mg base (CX P w) k f fd ps sp) :
    FnOk P w K mg base CX0 k f fd ps (fun vs H Q _ => sp vs H Q fun _ _ _ => False) := by
  refine ⟨fun vs H Q E h => F.len vs H Q _ h, fun A outer s H args us vs Q E hr he hb hv hs => codeAny_mono (F.run A outer s H args us vs Q _ hr he hb hv hs) fun r s' hq => ?_⟩
  cases r with
  | error e =>
    obtain ⟨_, _, _, _, _, _, _, _, _, _, _, _, z⟩ := hq
    exact z.elim
  | ok fl => cases fl <;> exact hq
/-- a law's def: its table's function gives True at every script -/
theorem law_sp {K : PySem.W.Frag} {g : List Arg → Option CRes} {ns : List Int} (h : g [.sh (.scr ns)] = some (.ret (.sh (.bl true)) [none])) (H : Hp) (a : Addr) (hS : SqL K H a (ns.map V.int)) :
    spOf K g [.ref a] H (fun v _ => v = .bl true) fun _ _ _ => False := by
  have na : ∀ {i x}, ¬ ASub K H [V.ref a] [.sh (.scr ns)] i x := fun {i x} ⟨c, a', q, _⟩ => by
    cases i with
    | zero => cases q
    | succ n => simp at q
  refine ⟨H, [.sh (.scr ns)], _, Same.refl _, ⟨rfl, fun i v g' h1 h2 => ?_, fun i j a' _ h1 _ => ?_, fun i x h => (na h).elim, fun i j x _ h => (na h).elim⟩, h, fun u G' H' _ rr => ?_⟩
  · cases i with
    | zero => cases h1; cases h2; exact .scr hS
    | succ n => simp at h1
  · obtain ⟨⟨c, q⟩, _⟩ := brwAt_some h1
    cases i with
    | zero => cases q
    | succ n => simp at q
  · cases rr; rfl
end Pd
/-! Pd13: one's own classes: what is known of them, their methods, attributes, making -/
namespace Pd
open PySem PySem.Spec L2
variable [Ext]
/-! ### what the text says of its classes -/
structure Kn (K : PySem.W.Frag) (cl : List Str) (fl : List (Str × Str)) : Prop where
  cls : ∀ C ∈ cl, Cls K (He.ga K C)
  ty : ∀ C ∈ cl, PySem.W.findIn K (.ref (He.ga K C)) "__class__" = some (some (.builtin "object.__class__")) ∧ PySem.W.mroIn K (He.ga K C) (.type "object") = some true
  get : PySem.W.specialIn K (.builtin "object.__class__") "__get__" = some (some (.builtin "getset_descriptor.__get__"))
  tak : PySem.W.takesIn K (.builtin "object.__class__") = some true
  isc : ∀ C ∈ cl, (PySem.W.clsIn K (He.ga K C)).isSome = true ∧ PySem.W.typeIn K (.ref (He.ga K C)) = some (.type "type")
  one : ∀ C ∈ cl, ∀ D ∈ cl, PySem.W.kitOne K (.ref (He.ga K C)) (.ref (He.ga K D)) = some (decide (C = D))
  nf : ∀ C ∈ cl, ∀ D ∈ cl, PySem.W.notFirst K (He.ga K C) (.ref (He.ga K D)) = true
  fld : ∀ p ∈ fl, NoAttr K (He.ga K p.1) p.2
  bt : ∀ C ∈ cl, ∀ n ∈ ["bool", "int", "str", "list", "tuple", "dict"], PySem.W.kitOne K (.ref (He.ga K C)) (.type n) = some false
def knB (K : PySem.W.Frag) (cl : List Str) (fl : List (Str × Str)) : Bool :=
  (cl.all fun C => (He.Fa.cls C).ok K) &&
  ((cl.all fun C => decide (PySem.W.findIn K (.ref (He.ga K C)) "__class__" = some (some (.builtin "object.__class__"))) && decide (PySem.W.mroIn K (He.ga K C) (.type "object") = some true)) &&
  (decide (PySem.W.specialIn K (.builtin "object.__class__") "__get__" = some (some (.builtin "getset_descriptor.__get__"))) &&
  (decide (PySem.W.takesIn K (.builtin "object.__class__") = some true) &&
  ((cl.all fun C => (PySem.W.clsIn K (He.ga K C)).isSome && decide (PySem.W.typeIn K (.ref (He.ga K C)) = some (.type "type"))) &&
  ((cl.all fun C => cl.all fun D => decide (PySem.W.kitOne K (.ref (He.ga K C)) (.ref (He.ga K D)) = some (decide (C = D))) && PySem.W.notFirst K (He.ga K C) (.ref (He.ga K D))) &&
  ((fl.all fun p => (He.Fa.noat p.1 p.2).ok K) && cl.all fun C => ["bool", "int", "str", "list", "tuple", "dict"].all fun n => decide (PySem.W.kitOne K (.ref (He.ga K C)) (.type n) = some false)))))))
theorem knB_ok {K : PySem.W.Frag} {cl : List Str} {fl : List (Str × Str)} (h : knB K cl fl = true) : Kn K cl fl := by
  unfold knB at h
  simp only [Bool.and_eq_true, List.all_eq_true, decide_eq_true_eq] at h
  obtain ⟨h1, h2, h3, h4, h5, h6, h7, h8⟩ := h
  exact ⟨fun C hC => He.cls_ok (h1 C hC), fun C hC => h2 C hC, h3, h4, h5, fun C hC D hD => (h6 C hC D hD).1, fun C hC D hD => (h6 C hC D hD).2, fun p hp => He.noat_ok (h7 p hp), h8⟩

/-! ### an object as the one that is called -/
structure Sf where
  C : Str
  fl : List (Str × D)
  arg : Arg
  upd : Option Cell → Option Env
def selfOf (env : Env) : Val → Option Sf
  | .sh (.ins C fl) => some ⟨C, fl, .sh (.ins C fl), fun _ => some env⟩
  | .fr (.ins C fl) => some ⟨C, fl, .sh (.ins C fl), fun _ => some env⟩
  | .var i => match env[i]? with
    | some (some (.sh (.ins C fl))) => some ⟨C, fl, .sh (.ins C fl), fun _ => some env⟩
    | some (some (.own (.ins C fl))) => some ⟨C, fl, .brw (.ins C fl), fun o => o.map (putCell env i)⟩
    | some (some (.brw (.ins C fl))) => some ⟨C, fl, .brw (.ins C fl), fun o => o.map (putCell env i)⟩
    | some (some (.own (.deep C fl f xs))) => some ⟨C, fl ++ [(f, .lst xs)], .brw (.deep C fl f xs), fun o => o.map (putCell env i)⟩
    | some (some (.brw (.deep C fl f xs))) => some ⟨C, fl ++ [(f, .lst xs)], .brw (.deep C fl f xs), fun o => o.map (putCell env i)⟩
    | _ => none
  | _ => none
/-- the names of an object's attributes -/
structure KeysOf (fs : List (Str × V)) (fl : List (Str × D)) : Prop where
  keys : fs.map (·.1) = fl.map (·.1)
section
variable {ca : PySem.W.Frag} {b : Bs} {env : Env} {σ : St} {G G' H H' : Hp} {u : V} {v : Val} {d : D} {cl : Cell} {a : Addr}
theorem deep_keys {C f : Str} {fl : List (Str × D)} {xs : List D} (cr : CellRel ca G H a (.deep C fl f xs)) : ∃ dx fs, H a = some (.ins (He.ga ca C) dx fs) ∧ KeysOf fs (fl ++ [(f, .lst xs)]) := by
  obtain ⟨dx, vs, l, ws, e, r, _⟩ := cr
  exact ⟨dx, _, e, ⟨by rw [List.map_append, List.map_append, r.keys]; rfl⟩⟩
theorem selfOf_at {s : Sf} (R : Rel ca b env σ G H) (h : Held ca G σ u v) (e : selfOf env v = some s) : ∃ a dx fs, u = .ref a ∧ H a = some (.ins (He.ga ca s.C) dx fs) ∧ KeysOf fs s.fl := by
  have fz : ∀ {C : Str} {fl : List (Str × D)}, Rep ca G u (.ins C fl) → ∃ a dx fs, u = .ref a ∧ H a = some (.ins (He.ga ca C) dx fs) ∧ KeysOf fs fl := fun {C fl} r => by
    cases r with
    | ins r l q => exact ⟨_, _, _, rfl, R.sub _ _ r, ⟨l⟩⟩
  cases v with
  | sh d =>
    cases d with
    | ins C fl => cases e; exact fz h
    | _ => cases e
  | fr c =>
    cases c with
    | ins C fl => cases e; exact fz h
    | _ => cases e
  | var i =>
    have h : σ[i]? = some (some u) := h
    unfold selfOf at e
    simp only at e
    split at e
    · rename_i C fl hs
      cases e
      obtain ⟨w, e1, r⟩ := R.slots i _ hs
      rw [h] at e1; cases e1
      exact fz r
    · rename_i C fl hs
      cases e
      obtain ⟨w, e1, a, ev, cr, n, _⟩ := R.slots i _ hs
      rw [h] at e1; cases e1
      subst ev
      obtain ⟨dx, vs, r, q⟩ := cr
      exact ⟨a, dx, vs, rfl, r, ⟨q.keys⟩⟩
    · rename_i C fl hs
      cases e
      obtain ⟨w, e1, a, ev, cr, n, _⟩ := R.slots i _ hs
      rw [h] at e1; cases e1
      subst ev
      obtain ⟨dx, vs, r, q⟩ := cr
      exact ⟨a, dx, vs, rfl, r, ⟨q.keys⟩⟩
    · rename_i C fl f xs hs
      cases e
      obtain ⟨w, e1, a, ev, cr, n, _⟩ := R.slots i _ hs
      rw [h] at e1; cases e1
      subst ev
      obtain ⟨dx, fs, r, q⟩ := deep_keys cr
      exact ⟨a, dx, fs, rfl, r, q⟩
    · rename_i C fl f xs hs
      cases e
      obtain ⟨w, e1, a, ev, cr, n, _⟩ := R.slots i _ hs
      rw [h] at e1; cases e1
      subst ev
      obtain ⟨dx, fs, r, q⟩ := deep_keys cr
      exact ⟨a, dx, fs, rfl, r, q⟩
    · cases e
theorem lookup_keys {m : Str} : ∀ {fs : List (Str × V)} {fl : List (Str × D)}, fs.map (·.1) = fl.map (·.1) → (fl.lookup m).isNone = true → fs.lookup m = none
  | [], _, _, _ => rfl
  | (k, x) :: fs, [], h, _ => by simp at h
  | (k, x) :: fs, (k', y) :: fl, h, e => by
    simp only [List.map_cons, List.cons.injEq] at h
    obtain ⟨rfl, h⟩ := h
    simp only [List.lookup] at e ⊢
    cases q : (m == k) with
    | true => rw [q] at e; cases e
    | false => rw [q] at e; exact lookup_keys h e
theorem lookup_val {m : Str} {d : D} : ∀ {fs : List (Str × V)} {fl : List (Str × D)}, RepK ca G fs fl → fl.lookup m = some d → ∃ v, fs.lookup m = some v ∧ Rep ca G v d
  | [], [], _, h => by cases h
  | [], (k, y) :: fl, r, _ => by have := r.keys; simp at this
  | (k, x) :: fs, [], r, _ => by have := r.keys; simp at this
  | (k, x) :: fs, (k', y) :: fl, r, e => by
    obtain ⟨e1, q, t⟩ := r.tail
    have e1 : k = k' := e1
    subst e1
    simp only [List.lookup] at e ⊢
    cases h : (m == k) with
    | true => rw [h] at e; cases e; exact ⟨x, rfl, q⟩
    | false => rw [h] at e; exact lookup_val t e
end
/-- the def that is called -/
def ownG (m : Str) (c : CT) (env : Env) (vo : Val) : Option (List Arg → Option CRes) := (selfOf env vo).bind fun s => if (s.fl.lookup m).isNone = true then c (s.C, some m) else none
section
variable {ca : PySem.W.Frag} {b : Bs} {env : Env} {σ : St} {G G' H H' : Hp} {u : V} {us : List V} {vo : Val} {vs : List Val} {c : CT} {W : WX} {Q : VK} {o : EO} {m : Str} {g : List Arg → Option CRes}
theorem ownG_at (R : Rel ca b env σ G H) (h : Held ca G σ u vo) (e : ownG m c env vo = some g) : ∃ C a dx fs, u = .ref a ∧ H a = some (.ins (He.ga ca C) dx fs) ∧ fs.lookup m = none ∧ c (C, some m) = some g := by
  unfold ownG at e
  cases es : selfOf env vo with
  | none => rw [es] at e; cases e
  | some s =>
    rw [es] at e
    simp only [Option.bind_some] at e
    split at e
    · rename_i hn
      obtain ⟨a, dx, fs, eu, r, q⟩ := selfOf_at R h es
      exact ⟨s.C, a, dx, fs, eu, r, lookup_keys q.keys hn, e⟩
    · cases e
end
end Pd
/-! Pd14: calls with any of the arguments lent -/
namespace Pd
open PySem PySem.Spec L2
variable [Ext]
inductive Im where
  | giv (d : D) | len (i : Nat)
def Im.ix : Im → Option Nat
  | .giv _ => none
  | .len i => some i
/-- first what is given away, then what is lent (flag, a name) -/
def itemsF (env : Env) : List Val → List Bool → Option (List Im × Env)
  | [], _ => some ([], env)
  | v :: vs, fl => match fl.headD false, v with
    | true, .var i => (itemsF env vs fl.tail).map fun q => (.len i :: q.1, q.2)
    | _, v => (take env v).bind fun p => (itemsF p.2 vs fl.tail).map fun q => (.giv p.1 :: q.1, q.2)
def argF (env : Env) : Im → Option Arg
  | .giv d => some (.sh d)
  | .len i => match env[i]? with
    | some (some (.sh d)) => some (.sh d)
    | some (some (.own c)) => some (.brw c)
    | some (some (.brw c)) => some (.brw c)
    | _ => none
def argsF (env : Env) : List Im → Option (List Arg)
  | [] => some []
  | m :: ms => (argF env m).bind fun a => (argsF env ms).map (a :: ·)
/-- what is written behind the call -/
def outF : List Im → List Arg → List (Option Cell) → Option (List (Nat × Cell))
  | [], _, _ => some []
  | .len i :: ms, .brw _ :: as, some cl :: os => (outF ms as os).map ((i, cl) :: ·)
  | .len _ :: _, .brw _ :: _, _ => none
  | _ :: ms, _ :: as, os => outF ms as os.tail
  | _ :: _, [], _ => none
def putN (w : List (Nat × Cell)) : Nat → Env → Env
  | _, [] => []
  | k, o :: env => (match w.lookup k with
    | some cl => o.map (·.put cl)
    | none => o) :: putN w (k + 1) env
def nodupB : List Nat → Bool
  | [] => true
  | x :: xs => !xs.contains x && nodupB xs
def callF (g : List Arg → Option CRes) (env : Env) (vs : List Val) (fl : List Bool) : Option EO := (itemsF env vs fl).bind fun q => if nodupB (q.1.filterMap Im.ix) = true then (argsF q.2 q.1).bind fun as => resOf (g as) fun outs => (outF q.1 as outs).map fun w => putN w 0 q.2 else none
theorem putN_at (w : List (Nat × Cell)) : ∀ (env : Env) (k j : Nat), (putN w k env)[j]? = (env[j]?).map fun o => match w.lookup (k + j) with
    | some cl => o.map (·.put cl)
    | none => o
  | [], k, j => by simp [putN]
  | o :: env, k, 0 => by simp [putN]
  | o :: env, k, j + 1 => by
    show (putN w (k + 1) env)[j]? = _
    rw [putN_at w env (k + 1) j]
    have : k + 1 + j = k + (j + 1) := by omega
    rw [this]
    rfl
theorem putN_len (w : List (Nat × Cell)) : ∀ (env : Env) (k : Nat), (putN w k env).length = env.length
  | [], k => rfl
  | o :: env, k => by show (putN w (k + 1) env).length + 1 = _; rw [putN_len w env (k + 1)]; rfl
section
variable {ca : PySem.W.Frag} {b : Bs} {env : Env} {σ : St} {G G' H H' : Hp} {u : V} {us : List V} {vs : List Val} {c : CT} {W : WX} {Q : VK} {o : EO} {g : List Arg → Option CRes}
/-- .. and what stands in some slots has been written -/
theorem Rel.callN (R : Rel ca b env σ G H) (w : List (Nat × Cell)) (hw : ∀ j cl, w.lookup j = some cl → ∃ (a : Addr) (s : Slot), env[j]? = some (some s) ∧ s.mut = true ∧ σ[j]? = some (some (.ref a)) ∧ CellRel ca G' H' a cl ∧ G' a = none)
    (su : ∀ (j : Nat) (cl : Cell) (s : Slot) (a x : Addr), w.lookup j = some cl → env[j]? = some (some s) → σ[j]? = some (some (.ref a)) → Sub ca H' a cl x → G' x = none ∧ (SSub ca H a s x ∨ H x = none))
    (apw : ∀ (j k : Nat) (cl cl' : Cell) (a a' x : Addr), j ≠ k → w.lookup j = some cl → w.lookup k = some cl' → σ[j]? = some (some (.ref a)) → σ[k]? = some (some (.ref a')) → Sub ca H' a cl x → x ≠ a' ∧ ¬ Sub ca H' a' cl' x)
    (sub : Same G' H') (mono : Same G G') (new : ∀ a o, G' a = some o → G a = some o ∨ H a = none)
    (fr : ∀ a o, H a = some o → (∀ j cl, w.lookup j = some cl → σ[j]? ≠ some (some (.ref a))) → (∀ (j : Nat) (cl : Cell) (s : Slot) (p : Addr), w.lookup j = some cl → env[j]? = some (some s) → σ[j]? = some (some (.ref p)) → ¬ SSub ca H p s a) → H' a = some o)
    (dom : ∀ a, H' a = none → H a = none) : Rel ca b (putN w 0 env) σ G' H' := by
  have mput : ∀ (s : Slot) (cl : Cell), (s.put cl).mut = s.mut := fun s cl => by cases s <;> rfl
  have back : ∀ {j : Nat} {s : Slot}, (putN w 0 env)[j]? = some (some s) → (w.lookup j = none ∧ env[j]? = some (some s)) ∨ ∃ cl s0, w.lookup j = some cl ∧ env[j]? = some (some s0) ∧ s = s0.put cl := fun {j s} e => by
    rw [putN_at, Nat.zero_add] at e
    cases hj : env[j]? with
    | none => rw [hj] at e; cases e
    | some o =>
      rw [hj] at e
      simp only [Option.map_some, Option.some.injEq] at e
      split at e
      · rename_i cl hl
        cases o with
        | none => cases e
        | some s0 => cases e; exact .inr ⟨cl, s0, hl, rfl, rfl⟩
      · rename_i hl
        subst e
        exact .inl ⟨hl, rfl⟩
  have backM : ∀ {j : Nat} {s : Slot}, (putN w 0 env)[j]? = some (some s) → s.mut = true → ∃ s0, env[j]? = some (some s0) ∧ s0.mut = true := fun {j s} e m => by
    rcases back e with ⟨_, e0⟩ | ⟨cl, s0, _, e0, rfl⟩
    · exact ⟨s, e0, m⟩
    · exact ⟨s0, e0, by rw [mput] at m; exact m⟩
  -- an object whose slot is not written
  have oth : ∀ {j : Nat} {s : Slot} {p : Addr}, w.lookup j = none → env[j]? = some (some s) → s.mut = true → σ[j]? = some (some (.ref p)) → ∀ o, H p = some o → H' p = some o := fun {j s p} hl es m ep o q =>
    fr p o q (fun k cl hk hs => by
      obtain ⟨a', s', h1, h2, h3, _⟩ := hw k cl hk
      have hjk : j ≠ k := fun z => by subst z; rw [hl] at hk; cases hk
      exact R.apart j k s s' p hjk es h1 m h2 ep hs) fun k cl s' p' hk es' ep' z => by
      obtain ⟨a', s2, h1, h2, h3, _⟩ := hw k cl hk
      rw [es'] at h1; cases h1
      have hjk : k ≠ j := fun z => by subst z; rw [hl] at hk; cases hk
      exact (R.deep.ap k j s' s p' p p hjk es' es h2 m ep' ep z).1 rfl
  have bk : ∀ {j : Nat} {s : Slot} {p : Addr}, w.lookup j = none → env[j]? = some (some s) → s.mut = true → σ[j]? = some (some (.ref p)) → ∀ o, H' p = some o → H p = some o := fun {j s p} hl es m ep => back_of (oth hl es m ep) (R.thereAt es m ep).2
  have cs : ∀ {j : Nat} {s : Slot} {a x : Addr}, (putN w 0 env)[j]? = some (some s) → s.mut = true → σ[j]? = some (some (.ref a)) → SSub ca H' a s x →
      (∃ cl s0, w.lookup j = some cl ∧ env[j]? = some (some s0) ∧ s0.mut = true ∧ s = s0.put cl ∧ Sub ca H' a cl x) ∨ (w.lookup j = none ∧ env[j]? = some (some s) ∧ SSub ca H a s x) := fun {j s a x} es m ea q => by
    rcases back es with ⟨hl, e0⟩ | ⟨cl, s0, hl, e0, rfl⟩
    · exact .inr ⟨hl, e0, q.back (bk hl e0 m ea)⟩
    · refine .inl ⟨cl, s0, hl, e0, by rw [mput] at m; exact m, rfl, ?_⟩
      cases s0 with
      | own c => exact q
      | brw c => exact q
      | sh d => exact q.elim
      | why d => exact q.elim
  refine ⟨sub, R.g0.trans mono, fun a o e q1 q2 q3 => ?_, fun a e => R.dom a (dom a e), fun a o e => ?_, by rw [putN_len]; exact R.len, fun j s es => ?_, fun j k s t x hjk e1 e2 m1 m2 => ?_, ⟨fun j s a x es m ea q => ?_, fun j c a x es ea q => ?_, fun j c a x es ea q => ?_, fun j k s t a p x hjk e1 e2 m1 m2 ea ep q => ?_⟩⟩
  · refine fr a o (R.fr a o e q1 q2 q3) (fun j cl hl hs => ?_) fun j cl s p hl es ep z => ?_
    · obtain ⟨a', s, h1, h2, h3, _⟩ := hw j cl hl
      rw [hs] at h3; cases h3
      obtain ⟨v, e1, r⟩ := R.slots j s h1
      rw [hs] at e1; cases e1
      cases s with
      | sh d => cases h2
      | why x => cases h2
      | own c0 =>
        obtain ⟨a2, ev, _, _, z⟩ := r
        cases ev
        rcases z with z | z
        · exact q2 z
        · rw [z] at e; cases e
      | brw c0 =>
        obtain ⟨a2, ev, _, _, z⟩ := r
        cases ev
        exact q1 j z
    · cases s with
      | sh d => exact z.elim
      | why x => exact z.elim
      | own c0 =>
        rcases R.deep.own j c0 p a es ep z with z | z
        · exact q2 z
        · rw [z] at e; cases e
      | brw c0 =>
        rcases R.deep.brw j c0 p a es ep z with z | z | z
        · exact q3 j z
        · exact q2 z
        · rw [z] at e; cases e
  · rcases new a o e with z | z
    · exact R.new a o z
    · exact .inr (.inl (R.dom a z))
  · rcases back es with ⟨hl, es'⟩ | ⟨cl, s0, hl, es', rfl⟩
    · obtain ⟨v, e1, r⟩ := R.slots j s es'
      refine ⟨v, e1, ?_⟩
      have go : ∀ {a : Addr} {c : Cell}, s.mut = true → v = .ref a → (∀ x, Sub ca H a c x → SSub ca H a s x) → CellRel ca G H a c → CellRel ca G' H' a c := fun {a c} m ev hs cr' => by
        subst ev
        refine (cr'.mono mono).heap (oth hl es' m e1) fun x hx o q => fr x o q (fun k cl hk ek => ?_) fun k cl s' p' hk es2 ep' z => ?_
        · obtain ⟨a', s', h1, h2, h3, _⟩ := hw k cl hk
          have hjk : j ≠ k := fun z => by subst z; rw [hl] at hk; cases hk
          exact (R.deep.ap j k s s' a x x hjk es' h1 m h2 e1 ek (hs x hx)).1 rfl
        · obtain ⟨a', s2, h1, h2, h3, _⟩ := hw k cl hk
          rw [es2] at h1; cases h1
          have hjk : j ≠ k := fun z => by subst z; rw [hl] at hk; cases hk
          exact (R.deep.ap j k s s' a p' x hjk es' es2 m h2 e1 ep' (hs x hx)).2 z
      cases s with
      | sh d => exact Rep.mono mono r
      | why x => exact r.mono mono
      | own c0 => obtain ⟨a, ev, cr', n, z⟩ := r; exact ⟨a, ev, go rfl ev (fun x q => q) cr', nf_of new n cr'.there, z⟩
      | brw c0 => obtain ⟨a, ev, cr', n, z⟩ := r; exact ⟨a, ev, go rfl ev (fun x q => q) cr', nf_of new n cr'.there, z⟩
    · obtain ⟨a, s', h1, h2, h3, h4, h5⟩ := hw j cl hl
      rw [es'] at h1; cases h1
      refine ⟨_, h3, ?_⟩
      obtain ⟨v, e1, r⟩ := R.slots j s0 es'
      rw [h3] at e1; cases e1
      cases s0 with
      | sh d => cases h2
      | why x => cases h2
      | own c0 => obtain ⟨a2, ev, _, _, z⟩ := r; cases ev; exact ⟨_, rfl, h4, h5, z⟩
      | brw c0 => obtain ⟨a2, ev, _, _, z⟩ := r; cases ev; exact ⟨_, rfl, h4, h5, z⟩
  · obtain ⟨s', f1, g1⟩ := backM e1 m1
    obtain ⟨t', f2, g2⟩ := backM e2 m2
    exact R.apart j k s' t' x hjk f1 f2 g1 g2
  · rcases cs es m ea q with ⟨cl, s0, hl, e0, m0, _, q⟩ | ⟨hl, es, q⟩
    · exact (su j cl s0 a x hl e0 ea q).1
    · exact nf_of new (R.deep.nf j s a x es m ea q) ((R.subAt es ea q).2.elim fun ws h => ⟨_, h⟩)
  · rcases cs es rfl ea q with ⟨cl, s0, hl, e0, m0, hs, q⟩ | ⟨hl, es, q⟩
    · rcases (su j cl s0 a x hl e0 ea q).2 with z | z
      · cases s0 with
        | own c0 => exact R.deep.own j c0 a x e0 ea z
        | _ => cases hs
      · exact .inr (R.dom x z)
    · exact R.deep.own j c a x es ea q
  · rcases cs es rfl ea q with ⟨cl, s0, hl, e0, m0, hs, q⟩ | ⟨hl, es, q⟩
    · rcases (su j cl s0 a x hl e0 ea q).2 with z | z
      · cases s0 with
        | brw c0 => exact R.deep.brw j c0 a x e0 ea z
        | _ => cases hs
      · exact .inr (.inr (R.dom x z))
    · exact R.deep.brw j c a x es ea q
  · rcases cs e1 m1 ea q with ⟨cl, s0, hl, e0, m0, hs, q⟩ | ⟨hl, es, q⟩
    · -- x is a list of a written slot's object
      have old : (∃ o, H x = some o) → SSub ca H a s0 x := fun t => by
        rcases (su j cl s0 a x hl e0 ea q).2 with z | z
        · exact z
        · obtain ⟨o, t⟩ := t
          rw [z] at t; cases t
      rcases back e2 with ⟨hl2, e02⟩ | ⟨cl2, s02, hl2, e02, rfl⟩
      · refine ⟨fun z => ?_, fun z => ?_⟩
        · exact (R.deep.ap j k s0 t a p x hjk e0 e02 m0 m2 ea ep (old (by rw [z]; exact (R.thereAt e02 m2 ep).2))).1 z
        · have z := z.back (bk hl2 e02 m2 ep)
          exact (R.deep.ap j k s0 t a p x hjk e0 e02 m0 m2 ea ep (old ((R.subAt e02 ep z).2.elim fun ws h => ⟨_, h⟩))).2 z
      · obtain ⟨z1, z2⟩ := apw j k cl cl2 a p x hjk hl hl2 ea ep q
        refine ⟨z1, fun z => z2 ?_⟩
        cases s02 with
        | own c => exact z
        | brw c => exact z
        | sh d => exact z.elim
        | why d => exact z.elim
    · rcases back e2 with ⟨hl2, e02⟩ | ⟨cl2, s02, hl2, e02, rfl⟩
      · obtain ⟨z1, z2⟩ := R.deep.ap j k s t a p x hjk es e02 m1 m2 ea ep q
        exact ⟨z1, fun z => z2 (z.back (bk hl2 e02 m2 ep))⟩
      · have m02 : s02.mut = true := by rw [mput] at m2; exact m2
        obtain ⟨z1, z2⟩ := R.deep.ap j k s s02 a p x hjk es e02 m1 m02 ea ep q
        refine ⟨z1, fun z => ?_⟩
        have z : Sub ca H' p cl2 x := by
          cases s02 with
          | own c => exact z
          | brw c => exact z
          | sh d => exact z.elim
          | why d => exact z.elim
        rcases (su k cl2 s02 p x hl2 e02 ep z).2 with w | w
        · exact z2 w
        · obtain ⟨_, ws, h⟩ := R.subAt es ea q
          rw [w] at h; cases h
inductive ItsRel (ca : PySem.W.Frag) (G : Hp) (σ : St) : List V → List Im → Prop
  | nil : ItsRel ca G σ [] []
  | giv {u d us ms} : Rep ca G u d → ItsRel ca G σ us ms → ItsRel ca G σ (u :: us) (.giv d :: ms)
  | len {u i us ms} : σ[i]? = some (some u) → ItsRel ca G σ us ms → ItsRel ca G σ (u :: us) (.len i :: ms)
theorem ItsRel.mono {ms : List Im} (s : Same G G') (h : ItsRel ca G σ us ms) : ItsRel ca G' σ us ms := by
  induction h with
  | nil => exact .nil
  | giv r _ ih => exact .giv (r.mono s) ih
  | len r _ ih => exact .len r ih
theorem itemsF_ok {b : Bs} {σ : St} {H : Hp} : ∀ {us : List V} {vs : List Val} {fl : List Bool} {ms : List Im} {env env' : Env} {G : Hp}, Rel ca b env σ G H → Helds ca G σ us vs → itemsF env vs fl = some (ms, env') → ∃ G', Same G G' ∧ Rel ca b env' σ G' H ∧ ItsRel ca G' σ us ms
  | _, _, _, _, _, _, G, R, .nil, e => by cases e; exact ⟨G, Same.refl _, R, .nil⟩
  | _, _, fl, ms, env, env', G, R, .cons (u := u) (v := v) (us := us) (vs := vs) h t, e => by
    have giv : ((take env v).bind fun p => (itemsF p.2 vs fl.tail).map fun q => (Im.giv p.1 :: q.1, q.2)) = some (ms, env') → ∃ G', Same G G' ∧ Rel ca b env' σ G' H ∧ ItsRel ca G' σ (u :: us) ms := fun e => by
      cases ep : take env v with
      | none => rw [ep] at e; cases e
      | some p =>
        rw [ep] at e
        cases er : itemsF p.2 vs fl.tail with
        | none => simp [er] at e
        | some q =>
          simp [er] at e
          obtain ⟨e1, e2⟩ := e
          subst e1 e2
          obtain ⟨G1, s1, R1, r1⟩ := h.take (d := p.1) (env' := p.2) R ep
          obtain ⟨G2, s2, R2, r2⟩ := itemsF_ok (ms := q.1) (env' := q.2) R1 (t.mono s1) er
          exact ⟨G2, s1.trans s2, R2, .giv (r1.mono s2) r2⟩
    unfold itemsF at e
    split at e
    · rename_i i hf
      cases er : itemsF env vs fl.tail with
      | none => rw [er] at e; cases e
      | some q =>
        rw [er] at e
        cases e
        obtain ⟨G2, s2, R2, r2⟩ := itemsF_ok (ms := q.1) (env' := q.2) R t er
        exact ⟨G2, s2, R2, .len h r2⟩
    · exact giv e
/-- a lent thing's argument -/
theorem argF_len {i : Nat} {a : Arg} (R : Rel ca b env σ G H) (h : σ[i]? = some (some u)) (e : argF env (.len i) = some a) : (∃ d, a = .sh d ∧ Rep ca G u d) ∨ ∃ cl x s, a = .brw cl ∧ u = .ref x ∧ env[i]? = some (some s) ∧ s.mut = true ∧ CellRel ca G H x cl ∧ G x = none ∧ (s = .own cl ∨ s = .brw cl) := by
  have e : (match env[i]? with
    | some (some (.sh d)) => some (Arg.sh d)
    | some (some (.own c)) => some (.brw c)
    | some (some (.brw c)) => some (.brw c)
    | _ => none) = some a := e
  split at e
  · rename_i d hs
    cases e
    obtain ⟨w, e1, r⟩ := R.slots i _ hs
    rw [h] at e1; cases e1
    exact .inl ⟨d, rfl, r⟩
  · rename_i cl hs
    cases e
    obtain ⟨w, e1, x, ev, cr, n, _⟩ := R.slots i _ hs
    rw [h] at e1; cases e1
    exact .inr ⟨cl, x, _, rfl, ev, hs, rfl, cr, n, .inl rfl⟩
  · rename_i cl hs
    cases e
    obtain ⟨w, e1, x, ev, cr, n, _⟩ := R.slots i _ hs
    rw [h] at e1; cases e1
    exact .inr ⟨cl, x, _, rfl, ev, hs, rfl, cr, n, .inr rfl⟩
  · cases e
/-- the places: what is lent, and from which slot -/
theorem argsF_ok (R : Rel ca b env σ G H) : ∀ {us : List V} {ms : List Im} {as : List Arg}, ItsRel ca G σ us ms → argsF env ms = some as →
    us.length = as.length ∧ ms.length = as.length ∧ (∀ (j : Nat) v a, us[j]? = some v → as[j]? = some a → ArgRel ca G H v a) ∧
    ∀ (j : Nat) x, brwAt us as j = some x → ∃ i s, ms[j]? = some (.len i) ∧ env[i]? = some (some s) ∧ s.mut = true ∧ σ[i]? = some (some (.ref x))
  | _, _, _, .nil, e => by cases e; exact ⟨rfl, rfl, fun j v a h => by simp at h, fun j x h => by cases j <;> cases h⟩
  | _, _, as, .giv (u := u) (d := d) (us := us) (ms := ms) h t, e => by
    have e : (argsF env ms).map (Arg.sh d :: ·) = some as := e
    cases er : argsF env ms with
    | none => rw [er] at e; cases e
    | some as' =>
      rw [er] at e; cases e
      obtain ⟨l1, l0, l2, l3⟩ := argsF_ok R t er
      refine ⟨by simp [l1], by simp [l0], fun j v a h1 h2 => ?_, fun j x hx => ?_⟩
      · cases j with
        | zero => cases h1; cases h2; exact h
        | succ n => exact l2 n v a (by simpa using h1) (by simpa using h2)
      · cases j with
        | zero => cases hx
        | succ n =>
          obtain ⟨i, s, h1, h2⟩ := l3 n x (by unfold brwAt at hx ⊢; simpa using hx)
          exact ⟨i, s, by simpa using h1, h2⟩
  | _, _, as, .len (u := u) (i := i) (us := us) (ms := ms) h t, e => by
    have e : (argF env (.len i)).bind (fun a => (argsF env ms).map (a :: ·)) = some as := e
    cases ea : argF env (.len i) with
    | none => rw [ea] at e; cases e
    | some a =>
      rw [ea] at e
      simp only [Option.bind_some] at e
      cases er : argsF env ms with
      | none => rw [er] at e; cases e
      | some as' =>
        rw [er] at e; cases e
        obtain ⟨l1, l0, l2, l3⟩ := argsF_ok R t er
        have hc := argF_len R h ea
        refine ⟨by simp [l1], by simp [l0], fun j v a' h1 h2 => ?_, fun j x hx => ?_⟩
        · cases j with
          | zero =>
            cases h1; cases h2
            rcases hc with ⟨d, rfl, r⟩ | ⟨cl, x, s, rfl, rfl, _, _, cr, n, _⟩
            · exact r
            · exact ⟨x, rfl, cr, n⟩
          | succ n => exact l2 n v a' (by simpa using h1) (by simpa using h2)
        · cases j with
          | zero =>
            rcases hc with ⟨d, rfl, r⟩ | ⟨cl, x', s, rfl, rfl, h1, h2, cr, n, _⟩
            · cases hx
            · cases hx
              exact ⟨i, s, rfl, h1, h2, h⟩
          | succ n =>
            obtain ⟨i', s, h1, h2⟩ := l3 n x (by unfold brwAt at hx ⊢; simpa using hx)
            exact ⟨i', s, by simpa using h1, h2⟩
/-- the lists of what is lent -/
theorem argsF_sub (R : Rel ca b env σ G H) : ∀ {us : List V} {ms : List Im} {as : List Arg}, ItsRel ca G σ us ms → argsF env ms = some as → ∀ (j : Nat) x, ASub ca H us as j x →
    ∃ i s p, ms[j]? = some (.len i) ∧ env[i]? = some (some s) ∧ s.mut = true ∧ σ[i]? = some (some (.ref p)) ∧ SSub ca H p s x
  | _, _, _, .nil, e, j, x, ⟨c, a, h1, h2, _⟩ => by simp at h2
  | _, _, as, .giv (u := u) (d := d) (us := us) (ms := ms) h t, e, j, x, ⟨c, a, h1, h2, h3⟩ => by
    have e : (argsF env ms).map (Arg.sh d :: ·) = some as := e
    cases er : argsF env ms with
    | none => rw [er] at e; cases e
    | some as' =>
      rw [er] at e; cases e
      cases j with
      | zero => cases h1
      | succ n =>
        obtain ⟨i, s, p, q1, q2⟩ := argsF_sub R t er n x ⟨c, a, by simpa using h1, by simpa using h2, h3⟩
        exact ⟨i, s, p, by simpa using q1, q2⟩
  | _, _, as, .len (u := u) (i := i) (us := us) (ms := ms) h t, e, j, x, ⟨c, a, h1, h2, h3⟩ => by
    have e : (argF env (.len i)).bind (fun a => (argsF env ms).map (a :: ·)) = some as := e
    cases ea : argF env (.len i) with
    | none => rw [ea] at e; cases e
    | some a0 =>
      rw [ea] at e
      simp only [Option.bind_some] at e
      cases er : argsF env ms with
      | none => rw [er] at e; cases e
      | some as' =>
        rw [er] at e; cases e
        cases j with
        | zero =>
          cases h1; cases h2
          rcases argF_len R h ea with ⟨d, hd, _⟩ | ⟨cl, x', s, hd, hu, w1, w2, _, _, w3⟩
          · cases hd
          · cases hd; cases hu
            refine ⟨i, s, a, rfl, w1, w2, h, ?_⟩
            rcases w3 with rfl | rfl
            · exact h3
            · exact h3
        | succ n =>
          obtain ⟨i', s, p, q1, q2⟩ := argsF_sub R t er n x ⟨c, a, by simpa using h1, by simpa using h2, h3⟩
          exact ⟨i', s, p, by simpa using q1, q2⟩
theorem nodupB_at : ∀ {ms : List Im} {i : Nat}, nodupB (ms.filterMap Im.ix) = true → ∀ (j k : Nat), ms[j]? = some (.len i) → ms[k]? = some (.len i) → j = k
  | [], i, _, j, k, h1, _ => by simp at h1
  | .giv d :: ms, i, h, j, k, h1, h2 => by
    cases j with
    | zero => cases h1
    | succ j =>
      cases k with
      | zero => cases h2
      | succ k => rw [nodupB_at (ms := ms) (i := i) h j k (by simpa using h1) (by simpa using h2)]
  | .len i0 :: ms, i, h, j, k, h1, h2 => by
    have h : nodupB (i0 :: ms.filterMap Im.ix) = true := h
    unfold nodupB at h
    simp only [Bool.and_eq_true, Bool.not_eq_true', List.contains_eq_mem, decide_eq_false_iff_not] at h
    have mem : ∀ {n : Nat}, ms[n]? = some (.len i) → i ∈ ms.filterMap Im.ix := fun {n} hn => List.mem_filterMap.mpr ⟨_, List.mem_of_getElem? hn, rfl⟩
    cases j with
    | zero =>
      cases h1
      cases k with
      | zero => rfl
      | succ k => exact (h.1 (mem (by simpa using h2))).elim
    | succ j =>
      cases k with
      | zero => cases h2; exact (h.1 (mem (by simpa using h1))).elim
      | succ k => rw [nodupB_at h.2 j k (by simpa using h1) (by simpa using h2)]
theorem outF_at : ∀ {ms : List Im} {as : List Arg} {outs : List (Option Cell)} {w : List (Nat × Cell)}, outF ms as outs = some w → ∀ (i : Nat) (cl : Cell), w.lookup i = some cl → ∃ (j : Nat) (c0 : Cell), ms[j]? = some (Im.len i) ∧ as[j]? = some (.brw c0) ∧ outs[j]? = some (some cl)
  | [], _, _, w, e, i, cl, h => by cases e; cases h
  | .giv d :: ms, [], outs, w, e, i, cl, h => by cases e
  | .len d :: ms, [], outs, w, e, i, cl, h => by cases e
  | .giv d :: ms, a :: as, outs, w, e, i, cl, h => by
    have e : outF ms as outs.tail = some w := e
    obtain ⟨j, c0, h1, h2, h3⟩ := outF_at e i cl h
    refine ⟨j + 1, c0, by simpa using h1, by simpa using h2, ?_⟩
    cases outs with
    | nil => simp at h3
    | cons o os => simpa using h3
  | .len i0 :: ms, .sh d :: as, outs, w, e, i, cl, h => by
    have e : outF ms as outs.tail = some w := e
    obtain ⟨j, c0, h1, h2, h3⟩ := outF_at e i cl h
    refine ⟨j + 1, c0, by simpa using h1, by simpa using h2, ?_⟩
    cases outs with
    | nil => simp at h3
    | cons o os => simpa using h3
  | .len i0 :: ms, .brw c1 :: as, [], w, e, i, cl, h => by cases e
  | .len i0 :: ms, .brw c1 :: as, none :: os, w, e, i, cl, h => by cases e
  | .len i0 :: ms, .brw c1 :: as, some cl1 :: os, w, e, i, cl, h => by
    have e : (outF ms as os).map ((i0, cl1) :: ·) = some w := e
    cases er : outF ms as os with
    | none => rw [er] at e; cases e
    | some w' =>
      rw [er] at e; cases e
      simp only [List.lookup] at h
      cases hi : (i == i0) with
      | true =>
        rw [hi] at h
        cases h
        have : i = i0 := by simpa using hi
        subst this
        exact ⟨0, c1, rfl, rfl, rfl⟩
      | false =>
        rw [hi] at h
        obtain ⟨j, c0, h1, h2, h3⟩ := outF_at er i cl h
        exact ⟨j + 1, c0, by simpa using h1, by simpa using h2, by simpa using h3⟩
/-- all that was lent is written -/
theorem outF_all : ∀ {ms : List Im} {as : List Arg} {outs : List (Option Cell)} {w : List (Nat × Cell)}, outF ms as outs = some w → ∀ (j i : Nat) (c0 : Cell), ms[j]? = some (Im.len i) → as[j]? = some (Arg.brw c0) → ∃ cl, w.lookup i = some cl
  | [], _, _, w, e, j, i, c0, h, _ => by simp at h
  | .giv d :: ms, [], outs, w, e, j, i, c0, h, _ => by cases e
  | .len d :: ms, [], outs, w, e, j, i, c0, h, _ => by cases e
  | .giv d :: ms, a :: as, outs, w, e, j, i, c0, h, h' => by
    have e : outF ms as outs.tail = some w := e
    cases j with
    | zero => cases h
    | succ j => exact outF_all e j i c0 (by simpa using h) (by simpa using h')
  | .len i0 :: ms, .sh d :: as, outs, w, e, j, i, c0, h, h' => by
    have e : outF ms as outs.tail = some w := e
    cases j with
    | zero => cases h'
    | succ j => exact outF_all e j i c0 (by simpa using h) (by simpa using h')
  | .len i0 :: ms, .brw c1 :: as, [], w, e, j, i, c0, h, _ => by cases e
  | .len i0 :: ms, .brw c1 :: as, none :: os, w, e, j, i, c0, h, _ => by cases e
  | .len i0 :: ms, .brw c1 :: as, some cl1 :: os, w, e, j, i, c0, h, h' => by
    have e : (outF ms as os).map ((i0, cl1) :: ·) = some w := e
    cases er : outF ms as os with
    | none => rw [er] at e; cases e
    | some w' =>
      rw [er] at e; cases e
      simp only [List.lookup]
      cases hi : (i == i0) with
      | true => exact ⟨cl1, rfl⟩
      | false =>
        cases j with
        | zero =>
          cases h
          simp at hi
        | succ j => exact outF_all er j i c0 (by simpa using h) (by simpa using h')
/-- the state behind such a call -/
theorem callF_rel {ms : List Im} {as : List Arg} {outs : List (Option Cell)} {w : List (Nat × Cell)} (R : Rel ca b env σ G H) (hi : ItsRel ca G σ us ms) (ha : argsF env ms = some as) (nd : nodupB (ms.filterMap Im.ix) = true) (ho : outF ms as outs = some w)
    (sub : Same G' H') (mono : Same G G') (new : ∀ a o, G' a = some o → G a = some o ∨ H a = none) (fr : ∀ a o, H a = some o → (∀ i, brwAt us as i ≠ some a) → (∀ i, ¬ ASub ca H us as i a) → H' a = some o) (dom : ∀ a, H' a = none → H a = none)
    (nf : ∀ (i : Nat) x, OSub ca H' us as outs i x → G' x = none ∧ (ASub ca H us as i x ∨ H x = none)) (apO : ∀ (i j : Nat) x, i ≠ j → OSub ca H' us as outs i x → brwAt us as j ≠ some x ∧ ¬ OSub ca H' us as outs j x)
    (hout : ∀ (i : Nat) a, brwAt us as i = some a → ∃ cl, outs[i]? = some (some cl) ∧ CellRel ca G' H' a cl ∧ G' a = none) : Rel ca b (putN w 0 env) σ G' H' := by
  obtain ⟨l1, l0, l2, l3⟩ := argsF_ok R hi ha
  have l4 := argsF_sub R hi ha
  -- a written slot's place among the arguments
  have pl : ∀ {i : Nat} {cl : Cell} {a : Addr}, w.lookup i = some cl → σ[i]? = some (some (.ref a)) → ∃ j, ms[j]? = some (.len i) ∧ brwAt us as j = some a ∧ outs[j]? = some (some cl) := fun {i cl a} hl ea => by
    obtain ⟨j, c0, h1, h2, h3⟩ := outF_at ho i cl hl
    have hj : j < us.length := by
      rw [l1]; exact (List.getElem?_eq_some_iff.mp h2).1
    have hu : us[j]? = some us[j] := by simp [hj]
    obtain ⟨x, ex, _, _⟩ := l2 j _ _ hu h2
    have hb : brwAt us as j = some x := brwAt_of h2 (by rw [hu, ex])
    obtain ⟨i', s, m1, m2, m3, m4⟩ := l3 j x hb
    rw [h1] at m1; cases m1
    rw [ea] at m4; cases m4
    exact ⟨j, h1, hb, h3⟩
  refine R.callN w (fun i cl hl => ?_) (fun i cl s a x hl es ea hx => ?_) (fun i k cl cl' a a' x hik hl hl' ea ea' hx => ?_) sub mono new (fun a o h hn hn2 => ?_) dom
  · obtain ⟨j, c0, h1, h2, h3⟩ := outF_at ho i cl hl
    have hj : j < us.length := by
      rw [l1]; exact (List.getElem?_eq_some_iff.mp h2).1
    have hu : us[j]? = some us[j] := by simp [hj]
    obtain ⟨x, ex, _, _⟩ := l2 j _ _ hu h2
    have hb : brwAt us as j = some x := brwAt_of h2 (by rw [hu, ex])
    obtain ⟨i', s, m1, m2, m3, m4⟩ := l3 j x hb
    rw [h1] at m1; cases m1
    obtain ⟨cl', q1, q2, q3⟩ := hout j x hb
    rw [h3] at q1; cases q1
    exact ⟨x, s, m2, m3, m4, q2, q3⟩
  · obtain ⟨j, h1, h2, h3⟩ := pl hl ea
    obtain ⟨z1, z2⟩ := nf j x ⟨a, cl, h2, h3, hx⟩
    refine ⟨z1, z2.imp (fun z => ?_) id⟩
    obtain ⟨i', s', p, q1, q2, q3, q4, q5⟩ := l4 j x z
    rw [h1] at q1; cases q1
    rw [es] at q2; cases q2
    rw [ea] at q4; cases q4
    exact q5
  · obtain ⟨j, h1, h2, h3⟩ := pl hl ea
    obtain ⟨j', h1', h2', h3'⟩ := pl hl' ea'
    have hjj : j ≠ j' := fun z => by
      subst z
      rw [h1] at h1'; cases h1'
      exact hik rfl
    obtain ⟨z1, z2⟩ := apO j j' x hjj ⟨a, cl, h2, h3, hx⟩
    exact ⟨fun z => z1 (by rw [z]; exact h2'), fun z => z2 ⟨a', cl', h2', h3', z⟩⟩
  · refine fr a o h (fun j hb => ?_) fun j hb => ?_
    · obtain ⟨i, s, m1, m2, m3, m4⟩ := l3 j a hb
      obtain ⟨⟨c0, h1⟩, h2⟩ := brwAt_some hb
      obtain ⟨cl, hl⟩ := outF_all ho j i c0 m1 h1
      exact hn i cl hl m4
    · obtain ⟨i, s, p, m1, m2, m3, m4, m5⟩ := l4 j a hb
      obtain ⟨c0, a0, h1, h2, _⟩ := hb
      obtain ⟨cl, hl⟩ := outF_all ho j i c0 m1 h1
      exact hn2 i cl s p hl m2 m4 m5
/-- .. the lists of the objects in the slots there -/
theorem callF_subs {ms : List Im} {as : List Arg} {outs : List (Option Cell)} {w : List (Nat × Cell)} (R : Rel ca b env σ G H) (hi : ItsRel ca G σ us ms) (ha : argsF env ms = some as) (ho : outF ms as outs = some w)
    (fr : ∀ a o, H a = some o → (∀ i, brwAt us as i ≠ some a) → (∀ i, ¬ ASub ca H us as i a) → H' a = some o) :
    ∀ (j : Nat) (s : Slot) (p x : Addr), (putN w 0 env)[j]? = some (some s) → s.mut = true → σ[j]? = some (some (.ref p)) → SSub ca H' p s x → (∃ s', env[j]? = some (some s') ∧ SSub ca H p s' x) ∨ ∃ i, OSub ca H' us as outs i x := fun j s p x es m ep q => by
  obtain ⟨l1, l0, l2, l3⟩ := argsF_ok R hi ha
  have l4 := argsF_sub R hi ha
  rw [putN_at, Nat.zero_add] at es
  cases hj : env[j]? with
  | none => rw [hj] at es; cases es
  | some o =>
    rw [hj] at es
    simp only [Option.map_some, Option.some.injEq] at es
    split at es
    · rename_i cl hl
      cases o with
      | none => cases es
      | some s0 =>
        cases es
        obtain ⟨k, c0, h1, h2, h3⟩ := outF_at ho j cl hl
        have hk : k < us.length := by
          rw [l1]; exact (List.getElem?_eq_some_iff.mp h2).1
        have hu : us[k]? = some us[k] := by simp [hk]
        obtain ⟨x', ex, _, _⟩ := l2 k _ _ hu h2
        have hb : brwAt us as k = some x' := brwAt_of h2 (by rw [hu, ex])
        obtain ⟨i', s', m1, m2, m3, m4⟩ := l3 k x' hb
        rw [h1] at m1; cases m1
        rw [ep] at m4; cases m4
        refine .inr ⟨k, _, cl, hb, h3, ?_⟩
        cases s0 with
        | own c => exact q
        | brw c => exact q
        | sh d => exact q.elim
        | why d => exact q.elim
    · rename_i hl
      subst es
      refine .inl ⟨s, rfl, q.back (back_of (fun o h => fr p o h (fun k hb => ?_) fun k hb => ?_) (R.thereAt hj m ep).2)⟩
      · obtain ⟨i, s', m1, m2, m3, m4⟩ := l3 k p hb
        obtain ⟨⟨c0, h1⟩, h2⟩ := brwAt_some hb
        obtain ⟨cl, hl'⟩ := outF_all ho k i c0 m1 h1
        have hij : j ≠ i := fun z => by subst z; rw [hl] at hl'; cases hl'
        exact R.apart j i s s' p hij hj m2 m m3 ep m4
      · obtain ⟨i, s', p', m1, m2, m3, m4, m5⟩ := l4 k p hb
        obtain ⟨c0, a0, h1, h2, _⟩ := hb
        obtain ⟨cl, hl'⟩ := outF_all ho k i c0 m1 h1
        have hij : i ≠ j := fun z => by subst z; rw [hl] at hl'; cases hl'
        exact (R.deep.ap i j s' s p' p p hij m2 hj m3 m m4 ep m5).1 rfl
theorem argsF_rel {ms : List Im} {as : List Arg} (R : Rel ca b env σ G H) (hi : ItsRel ca G σ us ms) (ha : argsF env ms = some as) (nd : nodupB (ms.filterMap Im.ix) = true) : ArgsRel ca G H us as := by
  obtain ⟨l1, l0, l2, l3⟩ := argsF_ok R hi ha
  have l4 := argsF_sub R hi ha
  refine ⟨l1, l2, fun j k a hjk h1 h2 => ?_, fun j x h => ?_, fun j k x hjk h => ⟨fun h2 => ?_, fun h2 => ?_⟩⟩
  · obtain ⟨i, s, m1, m2, m3, m4⟩ := l3 j a h1
    obtain ⟨i', s', n1, n2, n3, n4⟩ := l3 k a h2
    by_cases hii : i = i'
    · subst hii
      exact hjk (nodupB_at nd j k m1 n1)
    · exact R.apart i i' s s' a hii m2 n2 m3 n3 m4 n4
  · obtain ⟨i, s, p, m1, m2, m3, m4, m5⟩ := l4 j x h
    exact R.deep.nf i s p x m2 m3 m4 m5
  · obtain ⟨i, s, p, m1, m2, m3, m4, m5⟩ := l4 j x h
    obtain ⟨i', s', n1, n2, n3, n4⟩ := l3 k x h2
    by_cases hii : i = i'
    · subst hii
      exact hjk (nodupB_at nd j k m1 n1)
    · exact (R.deep.ap i i' s s' p x x hii m2 n2 m3 n3 m4 n4 m5).1 rfl
  · obtain ⟨i, s, p, m1, m2, m3, m4, m5⟩ := l4 j x h
    obtain ⟨i', s', p', n1, n2, n3, n4, n5⟩ := l4 k x h2
    by_cases hii : i = i'
    · subst hii
      exact hjk (nodupB_at nd j k m1 n1)
    · exact (R.deep.ap i i' s s' p p' x hii m2 n2 m3 n3 m4 n4 m5).2 n5
theorem putN_mut {w : List (Nat × Cell)} : ∀ (j : Nat) (s : Slot), (putN w 0 env)[j]? = some (some s) → s.mut = true → ∃ s', env[j]? = some (some s') ∧ s'.mut = true := fun j s e m => by
  rw [putN_at, Nat.zero_add] at e
  cases hj : env[j]? with
  | none => rw [hj] at e; cases e
  | some o =>
    rw [hj] at e
    simp only [Option.map_some, Option.some.injEq] at e
    split at e
    · cases o with
      | none => cases e
      | some s0 => cases e; exact ⟨s0, rfl, by cases s0 <;> exact m⟩
    · subst e; exact ⟨s, rfl, m⟩
theorem callF_sp {fl : List Bool} (R : Rel ca b env σ G H) (hd : Helds ca G σ us vs) (e : callF g env vs fl = some o) (post : EPost ca b W σ Q o) : spOf ca g us H Q (WE W σ) := by
  unfold callF at e
  cases et : itemsF env vs fl with
  | none => rw [et] at e; cases e
  | some q =>
    rw [et] at e
    simp only [Option.bind_some] at e
    split at e
    · rename_i nd
      obtain ⟨G2, s2, R2, r2⟩ := itemsF_ok (ms := q.1) (env' := q.2) R hd et
      cases ea : argsF q.2 q.1 with
      | none => rw [ea] at e; cases e
      | some as =>
        rw [ea] at e
        simp only [Option.bind_some] at e
        have ar := argsF_rel R2 r2 ea nd
        cases er : g as with
        | none => rw [er] at e; cases e
        | some r =>
          rw [er] at e
          refine ⟨G2, _, r, R2.sub, ar, er, ?_⟩
          have go : ∀ {outs w G' H'}, outF q.1 as outs = some w → CPost ca G2 H us as outs G' H' → Rel ca b (putN w 0 q.2) σ G' H' := fun {outs w G' H'} ho cp =>
            callF_rel R2 r2 ea nd ho cp.sub cp.mono cp.new cp.fr cp.dom cp.nf cp.apO cp.outs
          have fin : ∀ {outs : List (Option Cell)} {k : Env → EO}, ((outF q.1 as outs).map fun w => putN w 0 q.2).map k = some o → ∃ w, outF q.1 as outs = some w ∧ o = k (putN w 0 q.2) := fun {outs k} z => by
            cases hw : outF q.1 as outs with
            | none => rw [hw] at z; cases z
            | some w => rw [hw] at z; cases z; exact ⟨w, rfl, rfl⟩
          cases r with
          | ret rv outs =>
            obtain ⟨w, ho, rfl⟩ := fin (k := fun e => .val rv.val e) e
            exact fun u G' H' cp rr => post u G' H' (go ho cp) (RRelC.vrel R2 rr putN_mut (callF_subs R2 r2 ea ho cp.fr))
          | exc x outs =>
            obtain ⟨w, ho, rfl⟩ := fin (k := fun e => .exc x e) e
            exact fun cls d G' H' cp z => post cls d G' H' (go ho cp) z
    · cases e
end
end Pd
/-! Pd15: calls of defs and methods with things lent, making, attributes -/
namespace Pd
open PySem PySem.Spec L2
variable [Ext]
def eCallF (p : Str × Option Str) (fl : List Bool) (fs : SA) : SE := fun c env => bindA (fs c env) fun vs e1 => (c p).bind fun g => callF g e1 vs fl
def makeF (C : Str) (g : List Arg → Option CRes) (env : Env) (vs : List Val) (fl : List Bool) : Option EO := (itemsF env vs fl).bind fun q => if nodupB (q.1.filterMap Im.ix) = true then (argsF q.2 q.1).bind fun as => match g (.brw (.ins C []) :: as) with
    | some (.ret (.sh .non) (some cl :: outs)) => (outF q.1 as outs).map fun w => .val (.fr cl) (putN w 0 q.2)
    | some (.exc x (_ :: outs)) => (outF q.1 as outs).map fun w => .exc x (putN w 0 q.2)
    | _ => none
  else none
def eMake (C : Str) (fl : List Bool) (fs : SA) : SE := fun c env => bindA (fs c env) fun vs e1 => (c (C, some "__init__")).bind fun g => makeF C g e1 vs fl
section
variable {X : Cx} {ca : PySem.W.Frag} {c : CT} {W : WX} {pos : Pos}
theorem callF_in {fs : SA} {p : Str × Option Str} {fl : List Bool} {g : List Arg → Option CRes} (hg : c p = some g) : ∀ σ H Q, rdE ca c W (eCallF p fl fs) σ H Q → tCallS (spOf ca g) (WE W) (rdA ca c W fs) σ H Q := by
  rintro σ H Q ⟨b, env, G, o, R, e, post⟩
  refine rdA_bind R e post fun vs e1 us G1 H1 _ R1 hd sg e => ?_
  rw [hg] at e
  exact callF_sp R1 hd e post
/-- a def that runs in a frame's own code, or one step below -/
theorem run_at {A' : Around} {pins : List (Addr × Obj)} {σ : St} {H : Hp} {s : Shared} {Q : VK} {us : List Value} {vs : List V} {k : Nat} {f : Addr} {fd : FuncData} {ps : List Str} {sp : Sp} (hfr : A'.frames = X.A.frames)
    (F : FnOk X.prog X.w X.K X.mg X.base (CX X.prog X.w) k f fd ps sp) (hr : Room k A') (hb : Binds X.K fd ps []) (tk : Takes X W) (I : Inv X pins σ H s) (r : Vals vs us) (h : sp vs H Q (WE W σ)) : wpAny (model X.prog X.w) A' (call (.ref f) us) (EP X pins σ Q) X.xe s := by
  have hl : us.length = ps.length := (r.length).symm.trans (F.len _ _ _ _ h)
  have bd := hb s us I.kIn (by simpa using hl)
  rw [List.append_nil] at bd
  have e0 : Env0 X.prog X.w X.K X.mg X.base A' X.stack s H := by
    have e := I.env0
    refine ⟨?_, e.mod, e.bs, e.bsz, e.funs, e.frf, e.hok, e.bare⟩
    rw [hfr]; exact e.frames
  refine wpAny_call (codeAny_mono (F.run A' X.stack s H ⟨us, []⟩ us vs Q _ hr e0 bd r h) fun res s' z => ?_)
  cases res with
  | error er => exact passAt tk σ pins H s er s' I z
  | ok fl =>
    cases fl with
    | ret u => exact I.after z
    | _ => exact z.elim
variable {x m : Str} {p apos : Pos} {o a : Expr} {es : List Expr} {fs : SA} {fo : SE} {fl : List Bool}
theorem p_callF (F : Fns X ca c) (hc : (c (x, none)).isSome = true) (hm : X.mg x = some (.ref (He.fAd X.K (x, none)))) (hk : PySem.W.keepIn X.K (.ref (He.fAd X.K (x, none))) = true) (tk : Takes X W) (ha : PA X (a :: es) (rdA ca c W fs)) (hg : Gl X x := by rfl)
    (hdb : (x == ("__debug__" : Str)) = false := by decide) (he : starEach (a :: es) X.env = (false, eval a X.env) :: starEach es X.env := by rfl) (hpl : (backTo pos (starEach es X.env)).any (·.1) = false := by rfl) (hst : starB (x, none) = false := by decide) : PE X (.Call (.Name x p) (a :: es) [] pos) (rdE ca c W (eCallF (x, none) fl fs)) := by
  obtain ⟨g, hg'⟩ := Option.isSome_iff_exists.mp hc
  obtain ⟨fd, ps, k, F1, hb, hr⟩ := F.fn _ _ hg' hst
  have hb := hb.b
  rw [spP_of rfl] at F1
  exact PE_weak (pe_callS F1 (hr.mono (Nat.le_succ _)) hg hm hk hb (passAt tk) ha hdb he hpl) (callF_in hg')
/-! ### o.m(..) -/
end
/-! ### C(..) -/
section
variable {ca : PySem.W.Frag} {b : Bs} {env : Env} {σ : St} {G G' H H' : Hp} {us : List V} {vs : List Val} {W : WX} {Q : VK} {o : EO} {g : List Arg → Option CRes} {C : Str}
theorem makeF_sp {fl : List Bool} (R : Rel ca b env σ G H) (hd : Helds ca G σ us vs) (e : makeF C g env vs fl = some o) (post : EPost ca b W σ Q o) {x dx : Addr} (hx : H x = none) (hdx : H dx = none) (hne : dx ≠ x) :
    spOf ca g (.ref x :: us) (upd (upd H dx (.own x)) x (.ins (He.ga ca C) dx [])) (fun v H2 => v = .non ∧ Q (.ref x) H2) (WE W σ) := by
  unfold makeF at e
  cases et : itemsF env vs fl with
  | none => rw [et] at e; cases e
  | some q =>
    rw [et] at e
    simp only [Option.bind_some] at e
    split at e
    · rename_i nd
      obtain ⟨G2, s2, R2, r2⟩ := itemsF_ok (ms := q.1) (env' := q.2) R hd et
      cases ea : argsF q.2 q.1 with
      | none => rw [ea] at e; cases e
      | some as =>
        rw [ea] at e
        simp only [Option.bind_some] at e
        have ar := argsF_rel R2 r2 ea nd
        have up : ∀ {ad : Addr} {ob : HO}, H ad = some ob → upd (upd H dx (.own x)) x (.ins (He.ga ca C) dx []) ad = some ob := fun {ad ob} z => by
          rw [upd_ne (ne_of_none z hx), upd_ne (ne_of_none z hdx)]; exact z
        have dn : ∀ {ad : Addr}, upd (upd H dx (.own x)) x (.ins (He.ga ca C) dx []) ad = none → H ad = none := fun {ad} z => by
          cases w : H ad with
          | none => rfl
          | some ob => rw [up w] at z; cases z
        have gx : G2 x = none := R2.sub.free hx
        have sh : ∀ {j : Nat}, brwAt (V.ref x :: us) (.brw (.ins C []) :: as) (j + 1) = brwAt us as j := fun {j} => by unfold brwAt; simp
        have thr : ∀ {n : Nat} {c0 : Cell} {ad : Addr}, as[n]? = some (.brw c0) → us[n]? = some (.ref ad) → CellRel ca G2 H ad c0 := fun {n c0 ad} h1 h2 => by
          obtain ⟨ad', e1, cr, _⟩ := ar.at_ n _ _ h2 h1
          cases e1; exact cr
        have hA : ∀ j y, ASub ca (upd (upd H dx (.own x)) x (.ins (He.ga ca C) dx [])) (.ref x :: us) (.brw (.ins C []) :: as) j y → ∃ n, j = n + 1 ∧ ASub ca H us as n y := fun j y ⟨c0, ad, h1, h2, h3⟩ => by
          cases j with
          | zero => cases h1; exact h3.elim
          | succ n =>
            have h1 : as[n]? = some (.brw c0) := by simpa using h1
            have h2 : us[n]? = some (.ref ad) := by simpa using h2
            exact ⟨n, rfl, c0, ad, h1, h2, h3.back (back_of (fun o z => up z) (thr h1 h2).there)⟩
        have yt : ∀ {n y}, ASub ca H us as n y → ∃ ws, H y = some (.lst ws) := fun {n y} ⟨c0, ad, h1, h2, h3⟩ => (thr h1 h2).sub h3
        have hO : ∀ {H' : Hp} {outs : List (Option Cell)} {x0 : Option Cell} {i : Nat} {y : Addr}, OSub ca H' us as outs i y ↔ OSub ca H' (.ref x :: us) (.brw (.ins C []) :: as) (x0 :: outs) (i + 1) y := fun {H' outs x0 i y} => by
          unfold OSub
          rw [sh]
          simp
        have ar' : ArgsRel ca G2 (upd (upd H dx (.own x)) x (.ins (He.ga ca C) dx [])) (.ref x :: us) (.brw (.ins C []) :: as) := by
          have far : ∀ {j : Nat}, brwAt us as j ≠ some x := fun {j} z => by
            obtain ⟨⟨c0, h1⟩, h2⟩ := brwAt_some z
            obtain ⟨ob, ho⟩ := (thr h1 h2).there
            rw [hx] at ho; cases ho
          refine ⟨by simpa using ar.len, fun j v a0 h1 h2 => ?_, fun j k ad hjk h1 h2 => ?_, fun j y h => ?_, fun j k y hjk h => ?_⟩
          · cases j with
            | zero => cases h1; cases h2; exact ⟨x, rfl, ⟨dx, [], upd_same, .nil⟩, gx⟩
            | succ n =>
              have z := ar.at_ n v a0 (by simpa using h1) (by simpa using h2)
              cases a0 with
              | sh d => exact z
              | brw c0 =>
                obtain ⟨ad, e1, cr, n0⟩ := z
                exact ⟨ad, e1, cr.heap (fun ob z => up z) fun y hy ob z => up z, n0⟩
          · cases j with
            | zero =>
              cases h1
              cases k with
              | zero => exact hjk rfl
              | succ k => rw [sh] at h2; exact far h2
            | succ j =>
              rw [sh] at h1
              cases k with
              | zero => cases h2; exact far h1
              | succ k => rw [sh] at h2; exact ar.apart j k ad (fun z => hjk (by rw [z])) h1 h2
          · obtain ⟨n, rfl, h'⟩ := hA j y h
            exact ar.nf n y h'
          · obtain ⟨n, rfl, h'⟩ := hA j y h
            cases k with
            | zero =>
              refine ⟨fun z => ?_, fun z => ?_⟩
              · cases z
                obtain ⟨ws, ho⟩ := yt h'
                rw [hx] at ho; cases ho
              · obtain ⟨n', e', _⟩ := hA 0 y z
                cases e'
            | succ k =>
              obtain ⟨z1, z2⟩ := ar.apS n k y (fun z => hjk (by rw [z])) h'
              refine ⟨by rw [sh]; exact z1, fun z => z2 ?_⟩
              obtain ⟨n', e', z⟩ := hA (k + 1) y z
              cases e'; exact z
        cases er : g (.brw (.ins C []) :: as) with
        | none => rw [er] at e; cases e
        | some r =>
          rw [er] at e
          refine ⟨G2, _, r, fun ad ob z => up (R2.sub _ _ z), ar', er, ?_⟩
          have frr : ∀ {x0 outs G' H'}, CPost ca G2 (upd (upd H dx (.own x)) x (.ins (He.ga ca C) dx [])) (.ref x :: us) (.brw (.ins C []) :: as) (x0 :: outs) G' H' → ∀ a o, H a = some o → (∀ i, brwAt us as i ≠ some a) → (∀ i, ¬ ASub ca H us as i a) → H' a = some o := fun {x0 outs G' H'} cp ad ob z hn hs => by
            refine cp.fr ad ob (up z) (fun i hb => ?_) fun i hb => ?_
            · cases i with
              | zero => cases hb; rw [hx] at z; cases z
              | succ i => exact hn i (by unfold brwAt at hb ⊢; simpa using hb)
            · obtain ⟨n', e', hb⟩ := hA i ad hb
              exact hs n' hb
          have go : ∀ {x0 outs w G' H'}, outF q.1 as outs = some w → CPost ca G2 (upd (upd H dx (.own x)) x (.ins (He.ga ca C) dx [])) (.ref x :: us) (.brw (.ins C []) :: as) (x0 :: outs) G' H' → Rel ca b (putN w 0 q.2) σ G' H' := fun {x0 outs w G' H'} ho cp => by
            refine callF_rel R2 r2 ea nd ho cp.sub cp.mono (fun ad ob z => ?_) (frr cp) (fun ad z => dn (cp.dom ad z)) (fun i y h => ?_) (fun i j y hij h => ?_) fun i ad z => ?_
            · rcases cp.new ad ob z with y | y
              · exact .inl y
              · exact .inr (dn y)
            · obtain ⟨z1, z2⟩ := cp.nf (i + 1) y (hO.mp h)
              refine ⟨z1, z2.imp (fun z => ?_) dn⟩
              obtain ⟨n', e', z⟩ := hA (i + 1) y z
              cases e'; exact z
            · obtain ⟨z1, z2⟩ := cp.apO (i + 1) (j + 1) y (fun z => hij (by omega)) (hO.mp h)
              exact ⟨by rw [← sh]; exact z1, fun z => z2 (hO.mp z)⟩
            · obtain ⟨cl, h1, h2⟩ := cp.outs (i + 1) ad (by unfold brwAt at z ⊢; simpa using z)
              exact ⟨cl, by simpa using h1, h2⟩
          cases r with
          | ret rv outs =>
            cases rv with
            | fr c0 => cases e
            | sh d =>
              cases d with
              | non =>
                cases outs with
                | nil => cases e
                | cons y ys =>
                  cases y with
                  | none => cases e
                  | some cl =>
                    have e : (outF q.1 as ys).map (fun w => EO.val (.fr cl) (putN w 0 q.2)) = some o := e
                    cases hw : outF q.1 as ys with
                    | none => rw [hw] at e; cases e
                    | some w =>
                      rw [hw] at e; cases e
                      intro u G' H' cp rr
                      cases rr
                      refine ⟨rfl, post _ G' H' (go hw cp) ?_⟩
                      obtain ⟨cl', h1, h2, h3⟩ := cp.outs 0 x rfl
                      cases h1
                      have hb0 : brwAt (V.ref x :: us) (.brw (.ins C []) :: as) 0 = some x := rfl
                      have fr : ∀ {y : Addr}, H y = none → (∀ i, ¬ OSub ca H' us as ys i y) → Free ca (putN w 0 q.2) σ H' y := fun {y} hn ho j s e m => by
                        obtain ⟨s', e1, m1⟩ := putN_mut j s e m
                        refine ⟨(R2.newFree hn j s' e1 m1).1, fun p ep z => ?_⟩
                        rcases callF_subs R2 r2 ea hw (frr cp) j s p y e m ep z with ⟨s2, e2, q2⟩ | ⟨i, q2⟩
                        · rw [e1] at e2; cases e2
                          exact (R2.newFree hn j s' e1 m1).2 p ep q2
                        · exact ho i q2
                      refine ⟨x, rfl, h2, h3, .inr (R2.dom x hx), fr hx fun i z => (cp.apO (i + 1) 0 x (by omega) (hO.mp z)).1 hb0, fun y hy => ?_⟩
                      have o0 : OSub ca H' (V.ref x :: us) (.brw (.ins C []) :: as) (some cl :: ys) 0 y := ⟨x, cl, hb0, rfl, hy⟩
                      obtain ⟨z1, z2⟩ := cp.nf 0 y o0
                      have hy0 : H y = none := by
                        rcases z2 with z | z
                        · obtain ⟨n', e', _⟩ := hA 0 y z
                          cases e'
                        · exact dn z
                      exact ⟨z1, .inr (R2.dom y hy0), fr hy0 fun i z => (cp.apO (i + 1) 0 y (by omega) (hO.mp z)).2 o0⟩
              | _ => cases e
          | exc y outs =>
            cases outs with
            | nil => cases e
            | cons y0 ys =>
              have e : (outF q.1 as ys).map (fun w => EO.exc y (putN w 0 q.2)) = some o := e
              cases hw : outF q.1 as ys with
              | none => rw [hw] at e; cases e
              | some w =>
                rw [hw] at e; cases e
                exact fun cls d G' H' cp z => post cls d G' H' (go hw cp) z
    · cases e
end
section
variable {X : Cx} {ca : PySem.W.Frag} {c : CT} {W : WX} {pos : Pos} {C : Str} {p : Pos} {a : Expr} {es : List Expr} {fs : SA} {fl : List Bool}
theorem make_in {g : List Arg → Option CRes} (hg : c (C, some "__init__") = some g) : ∀ σ H Q, rdE ca c W (eMake C fl fs) σ H Q → rdA ca c W fs σ H fun us H1 => ∀ x dx, H1 x = none → H1 dx = none → dx ≠ x →
    spOf ca g (.ref x :: us) (upd (upd H1 dx (.own x)) x (.ins (He.ga ca C) dx [])) (fun v H2 => v = .non ∧ Q (.ref x) H2) (WE W σ) := by
  rintro σ H Q ⟨b, env, G, o, R, e, post⟩
  refine rdA_bind R e post fun vs e1 us G1 H1 _ R1 hd sg e => ?_
  rw [hg] at e
  exact fun x dx h1 h2 h3 => makeF_sp R1 hd e post h1 h2 h3
/-- the maker runs -/
theorem run_mk {pins : List (Addr × Obj)} {σ : St} {H : Hp} {s : Shared} {Q : VK} {us : List Value} {vs : List V} {k : Nat} {f D : Addr} {fd : FuncData} {ps : List Str} {sp : Sp} (M : Mk X.K D f) (F : FnOk X.prog X.w X.K X.mg X.base (CX X.prog X.w) k f fd ps sp)
    (hr : Room (k + 1) X.A) (hb : Binds X.K fd ps []) (tk : Takes X W) (I : Inv X pins σ H s) (r : Vals vs us) (h : ∀ x dx, H x = none → H dx = none → dx ≠ x → sp (.ref x :: vs) (upd (upd H dx (.own x)) x (.ins D dx [])) (fun v H2 => v = .non ∧ Q (.ref x) H2) (WE W σ)) :
    wpAny (model X.prog X.w) X.A (call (.ref D) us) (EP X pins σ Q) X.xe s := by
  have n1 : H (s.heap.objs.size + 1) = none := I.hok.fresh (Nat.le_succ _)
  have n2 : H s.heap.objs.size = none := I.hok.fresh (Nat.le_refl _)
  have hq := h _ _ n1 n2 (Nat.ne_of_lt (Nat.lt_succ_self _))
  have J := Inv.made (C := D) I
  have rr : Vals (V.ref (s.heap.objs.size + 1) :: vs) (Value.ref (s.heap.objs.size + 1) :: us) := .cons rfl r
  have hl : (Value.ref (s.heap.objs.size + 1) :: us).length = ps.length := (rr.length).symm.trans (F.len _ _ _ _ hq)
  have bd := hb _ (Value.ref (s.heap.objs.size + 1) :: us) J.kIn (by simpa using hl)
  rw [List.append_nil] at bd
  refine wpAny_call (make_map (f := f) I.kIn M.makes M.init (beq_iff_eq.mp M.fn) ?_)
  refine codeAny_mono (F.run _ X.stack _ _ ⟨_, []⟩ _ _ _ _ (hr.make D us []) (J.env0.make D us []) bd rr hq) fun res s' z => ?_
  cases res with
  | error er => exact passAt tk σ pins _ _ er s' J z
  | ok fl =>
    cases fl with
    | ret u =>
      obtain ⟨v, H', J', rv, ev, q⟩ := J.after z
      subst ev
      exact ⟨rv, .ref _, H', J', rfl, q⟩
    | _ => exact z.elim
theorem p_make (F : Fns X ca c) (hc : (c (C, some "__init__")).isSome = true) (hfn : PySem.W.fnIn ca (He.fAd ca (C, some "__init__")) = true) (M : Mk ca (He.ga ca C) (He.fAd ca (C, some "__init__"))) (hm : X.mg C = some (.ref (He.ga ca C))) (tk : Takes X W) (ha : PA X (a :: es) (rdA ca c W fs)) (hK : X.K = ca := by rfl) (hg : Gl X C := by rfl)
    (hdb : (C == ("__debug__" : Str)) = false := by decide) (he : starEach (a :: es) X.env = (false, eval a X.env) :: starEach es X.env := by rfl) (hpl : (backTo pos (starEach es X.env)).any (·.1) = false := by rfl) : PE X (.Call (.Name C p) (a :: es) [] pos) (rdE ca c W (eMake C fl fs)) := by
  subst hK
  obtain ⟨g, hg'⟩ := Option.isSome_iff_exists.mp hc
  obtain ⟨fd, ps, k, F1, hb, hr⟩ := F.fn _ _ hg' rfl
  have hb := hb.b
  rw [adr_fn hfn, spP_of (by show cmDeco.contains "__init__" = false; decide)] at F1
  refine ⟨fun pins s σ H Q I h => wpAny_Call_Name_kw (ld_glob I hg hm ?_ hdb)⟩
  refine PySem.W.callWith_K (h₀ := X.base) I.ok.mod.kin M.kp (thn (ha.run pos pins s σ H _ I (make_in hg' σ H Q h)) fun us s1 ⟨vs, H1, I1, r, q⟩ => ⟨I1.kIn, ?_⟩) he hpl
  exact run_mk M F1 hr hb tk I1 r q
end
end Pd
/-! Pd16: attributes, class constants, isinstance with one's own classes, operators by methods -/
namespace Pd
open PySem PySem.Spec L2
variable [Ext]
/-! ### o.f -/
def eFld (cs : List Str) (f : Str) (fa : SE) : SE := fun c env => bindV (fa c env) fun va e1 => match peek e1 va with
  | some (.ins C fl) => if cs.contains C = true then (fl.lookup f).map fun d => .val (.sh d) e1 else none
  | _ => none
def FldOk (K : PySem.W.Frag) (cs : List Str) (f : Str) : Prop := ∀ C ∈ cs, Cls K (He.ga K C) ∧ NoAttr K (He.ga K C) f
theorem Kn.fldOk {K : PySem.W.Frag} {cl : List Str} {fl : List (Str × Str)} (k : Kn K cl fl) {cs : List Str} {f : Str} (h : (cs.all fun C => cl.contains C && fl.contains (C, f)) = true) : FldOk K cs f := fun C hC => by
  have z := List.all_eq_true.mp h C hC
  simp only [Bool.and_eq_true, List.contains_eq_mem, decide_eq_true_eq] at z
  exact ⟨k.cls C z.1, k.fld (C, f) z.2⟩
section
variable {X : Cx} {ca : PySem.W.Frag} {c : CT} {W : WX} {pos p : Pos} {a b' : Expr} {fa fb : SE} {cs : List Str} {f : Str}
theorem p_fld (hc : FldOk ca cs f) (ha : PE X a (rdE ca c W fa)) (hb : attributeBase a f X.env (eval a X.env) = eval a X.env := by rfl) (hK : X.K = ca := by rfl) : PE X (.Attribute a f pos) (rdE ca c W (eFld cs f fa)) := by
  subst hK
  refine PE_weak (pe_fld ha hb) ?_
  rintro σ H Q ⟨b, env, G, o, R, e, post⟩
  refine rd_bind R e post fun va e1 u G1 H1 _ R1 hd sg e => ?_
  split at e
  · rename_i C fl hp
    split at e
    · rename_i hC
      have hC : C ∈ cs := by simpa using hC
      cases hl : fl.lookup f with
      | none => rw [hl] at e; cases e
      | some d =>
        rw [hl] at e
        cases e
        obtain ⟨ad, dx, vs, rfl, r, q⟩ := hd.peek R1 hp
        obtain ⟨v, hv, rv⟩ := lookup_val q hl
        exact ⟨ad, _, dx, vs, v, rfl, r, (hc C hC).1, (hc C hC).2, hv, post v G1 H1 R1 rv⟩
    · cases e
  · cases e
/-- C.f, a constant of the class at C -/
theorem p_con {C : Str} {v : V} {d : D} {u mc : Value} (hm : X.mg C = some (.ref (He.ga ca C))) (r : ClX.CRead ca (He.ga ca C) mc) (k : ClX.CVal ca (He.ga ca C) mc f v u) (rp : ∀ G, Rep ca G v d) (hg : Gl X C := by rfl) (hd : (C == ("__debug__" : Str)) = false := by decide)
    (hb : attributeBase (.Name C p) f X.env (eval (.Name C p) X.env) = eval (.Name C p) X.env := by rfl) (hK : X.K = ca := by rfl) : PE X (.Attribute (.Name C p) f pos) (rdE ca c W (eC d)) := by
  subst hK
  refine PE_weak (ClX.pe_cval (pe_glob (v := .ref (He.ga X.K C)) hg hm rfl hd) hb) ?_
  rintro σ H Q ⟨b, env, G, o, R, e, post⟩
  cases e
  exact ⟨_, mc, v, u, rfl, r, k, post v G H R (rp G)⟩

/-! ### self.f = e -/
def putFD (f : Str) (d : D) : List (Str × D) → List (Str × D)
  | [] => [(f, d)]
  | (g, x) :: r => if g = f then (g, d) :: r else (g, x) :: putFD f d r
theorem RepK.putF {G : Hp} {v : V} {d : D} (f : Str) (q : Rep ca G v d) : ∀ {vs : List (Str × V)} {ds : List (Str × D)}, RepK ca G vs ds → RepK ca G (L2.putF f v vs) (putFD f d ds)
  | [], [], _ => RepK.cons rfl q .nil
  | [], _ :: _, r => by have := r.keys; simp at this
  | _ :: _, [], r => by have := r.keys; simp at this
  | (k, x) :: vs, (k', y) :: ds, r => by
    obtain ⟨e1, q1, t⟩ := r.tail
    have e1 : k = k' := e1
    subst e1
    unfold L2.putF putFD
    by_cases h : k = f
    · rw [if_pos h, if_pos h]; exact RepK.cons rfl q t
    · rw [if_neg h, if_neg h]; exact RepK.cons rfl q1 (RepK.putF f q t)
def sFldO (i : Nat) (cs : List Str) (f : Str) (fv : SE) : SS := fun c env => bindS (fv c env) fun v e0 => (take e0 v).bind fun q => match cellAt q.2 i with
  | some (.ins C fl) => if cs.contains C = true ∧ fl.length < 1000 then some (.nx (putCell q.2 i (.ins C (putFD f q.1 fl)))) else none
  | _ => none
theorem s_fld {i : Nat} {x : Str} {e : Expr} {fv : SE} {p' : Pos} (hc : FldOk ca cs f) (hv : PE X e (rdE ca c W fv)) (hN : X.N[i]? = some x := by rfl) (hvis : Vis X.env.scope x := by first | exact Or.inl rfl | exact Or.inr (Or.inl rfl) | exact Or.inr (Or.inr rfl))
    (hs : swapsWith e (some (.Attribute (.Name x p) f p')) pos.line X.env = pure false := by rfl) (hd : (x == ("__debug__" : Str)) = false := by decide) (hcd : (x == ("__classdict__" : Str)) = false := by decide) (hK : X.K = ca := by rfl) :
    PS X (.Assign [.Attribute (.Name x p) f p'] e pos) (rdS ca c W (sFldO i cs f fv)) := by
  subst hK
  refine PS_weak (ps_fld (pv i hN hvis hd hcd) hv hs) ?_
  rintro D σ H ⟨b, env, G, o, R, e, post⟩
  refine rdS_bind R e post fun v e1 u G1 H1 _ R1 vr sg e => ?_
  cases et : take e1 v with
  | none => rw [et] at e; cases e
  | some q =>
    rw [et] at e
    simp only [Option.bind_some] at e
    obtain ⟨G2, s2, R2, hd0⟩ := VRel.held R1 vr
    obtain ⟨G3, s3, R3, rp⟩ := hd0.take (d := q.1) (env' := q.2) R2 et
    split at e
    · rename_i C fl hc0
      split at e
      · rename_i hC
        cases e
        obtain ⟨ad, hs, cr, gn⟩ := R3.cell hc0
        refine ⟨.ref ad, hs, ?_⟩
        obtain ⟨dx, vs, ha, rk⟩ := cr
        have hC0 : C ∈ cs := by simpa using hC.1
        refine ⟨ad, _, dx, vs, rfl, ha, (hc C hC0).1, (hc C hC0).2, by rw [rk.length]; exact hC.2, ?_⟩
        exact post σ G3 _ (R3.write hc0 hs gn ⟨dx, _, upd_same, RepK.putF f rp rk⟩)
      · cases e
    · cases e

/-! ### isinstance -/
inductive CN where
  | ty (n : String) | own (C : Str)
def tyOk (cl : List Str) : D → Bool
  | .ins C _ => cl.contains C
  | d => (tyN d).isSome
def isC1 (d : D) : CN → Option Bool
  | .ty n => match d with
    | .ins _ _ => if ["bool", "int", "str", "list", "tuple", "dict"].contains n = true then some false else none
    | d => (tyN d).bind fun t => kitB t n
  | .own C => match d with
    | .ins C' _ => some (decide (C' = C))
    | _ => some false
def isCs (d : D) : List CN → Option Bool
  | [] => some false
  | n :: ns => (isC1 d n).bind fun k => (isCs d ns).map fun j => k || j
def isM (cl : List Str) (ns : List CN) (d : D) : Option Val := if tyOk cl d = true then (isCs d ns).map fun k => .sh (.bl k) else none
def CN.v (K : PySem.W.Frag) : CN → V
  | .ty n => .ty n
  | .own C => .ref (He.ga K C)
def CN.u (K : PySem.W.Frag) : CN → Value
  | .ty n => .type n
  | .own C => .ref (He.ga K C)
def CN.in (cl : List Str) : CN → Bool
  | .ty _ => true
  | .own C => cl.contains C
def mroB (t : String) : Bool := match PySem.fastBuiltinMro t with
  | some l => l.all fun v => match v with
    | .type _ => true
    | _ => false
  | none => false
theorem noRef_of {K : PySem.W.Frag} {t : String} (h : mroB t = true) (A : Addr) : PySem.W.subIn K (.type t) (.ref A) = some false := by
  unfold mroB at h
  show (PySem.fastBuiltinMro t).map (fun l => l.contains (Value.ref A)) = some false
  cases e : PySem.fastBuiltinMro t with
  | none => rw [e] at h; cases h
  | some l =>
    rw [e] at h
    simp only [Option.map_some, Option.some.injEq]
    rw [Bool.eq_false_iff]
    intro hm
    have := List.all_eq_true.mp h _ (List.contains_iff_mem.mp hm)
    cases this
theorem noRef_mro {K : PySem.W.Frag} {d : D} {t : String} (h : tyN d = some t) (A : Addr) : PySem.W.subIn K (.type t) (.ref A) = some false := by
  refine noRef_of ?_ A
  cases d <;> first
    | (cases h; decide +kernel)
    | cases h
theorem ty_at {cl : List Str} {fl : List (Str × Str)} (kn : Kn X.K cl fl) {G H : Hp} {x : V} {d : D} (s : Same G H) (p : Peek X.K G H x d) (ok : tyOk cl d = true) :
    ∃ t, TyX X.K H x t ∧ (∀ n b, CN.in cl n = true → isC1 d n = some b → PySem.W.kitOne X.K t (n.u X.K) = some b) ∧ ∀ C ∈ cl, PySem.W.notFirst X.K (He.ga X.K C) t = true := by
  have plain : ∀ t, tyN d = some t → (∀ C fs, d ≠ .ins C fs) → ∃ t, TyX X.K H x t ∧ (∀ n b, CN.in cl n = true → isC1 d n = some b → PySem.W.kitOne X.K t (n.u X.K) = some b) ∧ ∀ C ∈ cl, PySem.W.notFirst X.K (He.ga X.K C) t = true := fun t ht hn => by
    refine ⟨.type t, tyN_of s p ht, fun n b hin hb => ?_, fun C hC => ?_⟩
    · cases n with
      | ty n =>
        have hb : (tyN d).bind (fun t => kitB t n) = some b := by
          cases d <;> first | exact hb | exact (hn _ _ rfl).elim
        rw [ht] at hb
        exact kit_ty hb
      | own C =>
        have hb : some false = some b := by
          cases d <;> first | exact hb | exact (hn _ _ rfl).elim
        cases hb
        have hC : C ∈ cl := by simpa [CN.in] using hin
        unfold PySem.W.kitOne PySem.W.kitCls
        obtain ⟨k1, k2⟩ := kn.isc C hC
        show (if (Value.type t == Value.ref (He.ga X.K C)) = true then some true else if ((PySem.W.clsIn X.K (He.ga X.K C)).isSome && PySem.W.typeIn X.K (.ref (He.ga X.K C)) == some (.type "type")) = true then PySem.W.subIn X.K (.type t) (.ref (He.ga X.K C)) else none) = some false
        rw [if_neg (by show ¬ (false = true); decide), k1, k2, noRef_mro ht]
        simp
    · unfold PySem.W.notFirst
      rw [noRef_mro ht]
      simp
  cases d with
  | ins C fs =>
    have hC : C ∈ cl := by simpa [tyOk] using ok
    obtain ⟨ad, dx, vs, rfl, ha, _⟩ := p
    obtain ⟨t1, t2⟩ := kn.ty C hC
    refine ⟨.ref (He.ga X.K C), .base (.ins ha (kn.cls C hC) t1 kn.get kn.tak t2), fun n b hin hb => ?_, fun D hD => kn.nf D hD C hC⟩
    cases n with
    | ty n =>
      have hb : (if ["bool", "int", "str", "list", "tuple", "dict"].contains n = true then some false else none) = some b := hb
      split at hb
      · rename_i hn
        cases hb
        exact kn.bt C hC n (by simpa using hn)
      · cases hb
    | own D =>
      cases hb
      exact kn.one C hC D (by simpa [CN.in] using hin)
  | scr ns => cases ok
  | nil0 => cases ok
  | kd ns => cases ok
  | dt kvs => cases ok
  | non => exact plain _ rfl fun _ _ z => nomatch z
  | bl _ => exact plain _ rfl fun _ _ z => nomatch z
  | int _ => exact plain _ rfl fun _ _ z => nomatch z
  | str _ => exact plain _ rfl fun _ _ z => nomatch z
  | lst _ => exact plain _ rfl fun _ _ z => nomatch z
  | tup _ => exact plain _ rfl fun _ _ z => nomatch z
  | dk _ => exact plain _ rfl fun _ _ z => nomatch z
end
end Pd
/-! Pd17: wider comparisons -/
namespace Pd
open PySem PySem.Spec L2
variable [Ext]
/-! ### flat data -/
def flatD : D → Bool
  | .non => true | .bl _ => true | .int _ => true | .str _ => true
  | _ => false
def vF : D → V
  | .bl b => .bl b
  | .int i => .int i
  | .str s => .str s
  | _ => .non
def eqF (a b : D) : Bool := eqV (vF a) (vF b)
section
variable {ca : PySem.W.Frag} {X : Cx} {G H : Hp}
theorem vF_of {v : V} {d : D} (f : flatD d = true) (r : Rep ca G v d) : v = vF d ∧ flatV v = true := by
  cases r <;> first
    | exact ⟨rfl, rfl⟩
    | cases f
/-! ### x in a tuple -/
def rInT (K : PySem.W.Frag) (neg : Bool) : R2 := fun x y H Q => ∃ d ds, Dp K H x d ∧ Dp K H y (.tuple ds) ∧ SeqAt.shaped d = true ∧ SeqAt.shaped (.tuple ds) = true ∧ Q (.bl (if neg then !ds.any fun z => PyData.eqv z d else ds.any fun z => PyData.eqv z d)) H
theorem o_inT (hu : X.A.units + 65 < cLine) : OpR X (compareOp .In) (rInT X.K false) := by
  intro pins s σ H x y v u Q I rx ry h
  obtain ⟨d, ds, hd, he, sd, se, q⟩ := h
  obtain ⟨as, r1⟩ := Dp.reads I d x v hd rx
  obtain ⟨bs, r2⟩ := Dp.reads I (.tuple ds) y u he ry
  exact SeqAt.in_tuple_reads r2 r1 (SeqAt.canLay_of_shaped se) (SeqAt.canLay_of_shaped sd) (PyProof.Rows.room_in_shaped sd hu) ⟨.bl _, H, I, rfl, q⟩
theorem o_ninT (hu : X.A.units + 65 < cLine) : OpR X (compareOp .NotIn) (rInT X.K true) := by
  intro pins s σ H x y v u Q I rx ry h
  obtain ⟨d, ds, hd, he, sd, se, q⟩ := h
  obtain ⟨as, r1⟩ := Dp.reads I d x v hd rx
  obtain ⟨bs, r2⟩ := Dp.reads I (.tuple ds) y u he ry
  exact SeqAt.notIn_tuple_reads r2 r1 (SeqAt.canLay_of_shaped se) (SeqAt.canLay_of_shaped sd) (PyProof.Rows.room_in_shaped sd hu) ⟨.bl _, H, I, rfl, q⟩
def inXB : D → D → Option Bool
  | d, .tup xs => match toPy d, toPys xs with
    | some p, some ps => if SeqAt.shaped p = true ∧ SeqAt.shaped (.tuple ps) = true then some (ps.any fun z => PyData.eqv z p) else none
    | _, _ => none
  | a, b => inB a b
def inX (a b : D) : Option Val := (inXB a b).map fun k => .sh (.bl k)
def ninX (a b : D) : Option Val := (inXB a b).map fun k => .sh (.bl (!k))
theorem inX_cases {x y : V} {dx dy : D} {k : Bool} (s : Same G H) (px : Peek ca G H x dx) (py : Peek ca G H y dy) (e : inXB dx dy = some k) :
    (∃ d ds, Dp ca H x d ∧ Dp ca H y (.tuple ds) ∧ SeqAt.shaped d = true ∧ SeqAt.shaped (.tuple ds) = true ∧ k = ds.any fun z => PyData.eqv z d) ∨ inB dx dy = some k := by
  unfold inXB at e
  split at e
  · rename_i d xs
    split at e
    · rename_i p ps h1 h2
      split at e
      · rename_i hs
        cases e
        refine .inl ⟨p, ps, (px.rep s).dp p h1, (py.rep s).dp (.tuple ps) ?_, hs.1, hs.2, rfl⟩
        unfold toPy; rw [h2]; rfl
      · cases e
    · cases e
  · exact .inr e
theorem o_inX (hu : X.A.units + 65 < cLine) : OpR X (compareOp .In) (fun x y H Q => rInT X.K false x y H Q ∨ rInA X.K x y H Q) := (o_inT hu).or (o_in hu)
theorem o_ninX (hu : X.A.units + 65 < cLine) : OpR X (compareOp .NotIn) (fun x y H Q => rInT X.K true x y H Q ∨ rNInA X.K x y H Q) := (o_ninT hu).or (o_nin hu)
theorem b_inX : BinR ca (fun x y H Q => rInT ca false x y H Q ∨ rInA ca x y H Q) inX := by
  intro G H x y dx dy v Q s px py e out
  unfold inX at e
  cases ek : inXB dx dy with
  | none => rw [ek] at e; cases e
  | some k =>
    rw [ek] at e
    cases e
    rcases inX_cases s px py ek with ⟨d, ds, h1, h2, h3, h4, rfl⟩ | hb
    · exact .inl ⟨d, ds, h1, h2, h3, h4, out _ _ (out_sh (.bl _))⟩
    · exact .inr (b_in G H x y dx dy _ Q s px py (by unfold inD; rw [hb]; rfl) out)
theorem b_ninX : BinR ca (fun x y H Q => rInT ca true x y H Q ∨ rNInA ca x y H Q) ninX := by
  intro G H x y dx dy v Q s px py e out
  unfold ninX at e
  cases ek : inXB dx dy with
  | none => rw [ek] at e; cases e
  | some k =>
    rw [ek] at e
    cases e
    rcases inX_cases s px py ek with ⟨d, ds, h1, h2, h3, h4, rfl⟩ | hb
    · exact .inl ⟨d, ds, h1, h2, h3, h4, out _ _ (out_sh (.bl _))⟩
    · exact .inr (b_nin G H x y dx dy _ Q s px py (by unfold ninD; rw [hb]; rfl) out)
/-! ### t < u -/
def ltF : D → D → Option Bool
  | .int i, .int j => some (decide (i < j))
  | .str i, .str j => some (decide (i.cps.toList < j.cps.toList))
  | _, _ => none
/-- all pairs of items have their answers; the first unequal one decides -/
def lexD : List D → List D → Option Bool
  | [], [] => some false
  | [], _ :: _ => some true
  | _ :: _, [] => some false
  | x :: xs, y :: ys => if flatD x = true ∧ flatD y = true then (lexD xs ys).bind fun z => if eqF x y = true then some z else ltF x y else none
def ltX (a b : D) : Option Val := match a, b with
  | .tup xs, .tup ys => (lexD xs ys).map fun k => .sh (.bl k)
  | .lst xs, .lst ys => (lexD xs ys).map fun k => .sh (.bl k)
  | a, b => ltD a b
def rLtX (K : PySem.W.Frag) : R2 := fun x y H Q => ∃ (a b : Addr) (xs ys : List V) (e r : Nat → Bool), x = .ref a ∧ y = .ref b ∧ SqT K H a xs ∧ SqT K H b ys ∧
  (∀ (j : Nat) u v, xs[j]? = some u → ys[j]? = some v → flatV u = true ∧ flatV v = true ∧ e j = eqV u v ∧ (e j = false → (∃ i k, u = .int i ∧ v = .int k ∧ r j = decide (i < k)) ∨ ∃ i k, u = .str i ∧ v = .str k ∧ r j = decide (i.cps.toList < k.cps.toList))) ∧
  Q (.bl (Ob.lexAt e r (decide (xs.length < ys.length)) 0 (min xs.length ys.length))) H
theorem o_ltT (hu : X.A.units < cLine) : OpR X (compareOp .Lt) (rLtX X.K) := by
  intro pins s σ H x y v u Q I rx ry h
  obtain ⟨a, b, xs, ys, e, r, rfl, rfl, ha, hb, hh, q⟩ := h
  cases rx
  cases ry
  obtain ⟨its, r1, p1, _⟩ := I.tuple ha
  obtain ⟨its2, r2, p2, _⟩ := I.tuple hb
  have l1 := r1.length
  have l2 := r2.length
  have at1 : ∀ (j : Nat) (h1 : j < its.toArray.size) (h2 : j < its2.toArray.size), ∃ u v, xs[j]? = some u ∧ ys[j]? = some v ∧ RelV u its.toArray[j] ∧ RelV v its2.toArray[j] := fun j h1 h2 => by
    have k1 : j < xs.length := by rw [l1]; simpa using h1
    have k2 : j < ys.length := by rw [l2]; simpa using h2
    obtain ⟨w1, e1, q1⟩ := r1.get (List.getElem?_eq_getElem k1)
    obtain ⟨w2, e2, q2⟩ := r2.get (List.getElem?_eq_getElem k2)
    refine ⟨_, _, List.getElem?_eq_getElem k1, List.getElem?_eq_getElem k2, ?_, ?_⟩
    · have : its.toArray[j] = w1 := by
        have h1' : j < its.length := by simpa using h1
        rw [List.getElem?_eq_getElem h1'] at e1
        simpa using Option.some.inj e1
      rw [this]; exact q1
    · have : its2.toArray[j] = w2 := by
        have h2' : j < its2.length := by simpa using h2
        rw [List.getElem?_eq_getElem h2'] at e2
        simpa using Option.some.inj e2
      rw [this]; exact q2
  have key := Ob.RcOp.tuples_lt (A := X.A) (s := s) (e := e) (r := r) p1 p2 hu (fun j h1 h2 => by
      obtain ⟨u, v, e1, e2, q1, q2⟩ := at1 j h1 h2
      obtain ⟨f1, f2, f3, _⟩ := hh j u v e1 e2
      rw [f3]
      exact eqAt_V q1 q2 f1 f2) (fun j h1 h2 he => by
      obtain ⟨u, v, e1, e2, q1, q2⟩ := at1 j h1 h2
      obtain ⟨f1, f2, f3, f4⟩ := hh j u v e1 e2
      rcases f4 he with ⟨i, k, rfl, rfl, hr⟩ | ⟨i, k, rfl, rfl, hr⟩
      · obtain ⟨t, q1⟩ := q1
        obtain ⟨t', q2⟩ := q2
        rw [hr, q1, q2]
        exact Ob.RcOp.lt_int i k t t'
      · obtain ⟨t, q1⟩ := q1
        obtain ⟨t', q2⟩ := q2
        rw [hr, q1, q2]
        exact fun prog w E Q h => PyProof.Rows.lt_str h)
  refine key X.prog X.w X.xe (EP X pins σ Q) ⟨.bl _, H, I, rfl, ?_⟩
  have s1 : its.toArray.size = xs.length := by rw [l1]; simp
  have s2 : its2.toArray.size = ys.length := by rw [l2]; simp
  rw [s1, s2]
  exact q
theorem lexAt_first (e r : Nat → Bool) (z : Bool) (m : Nat) : ∀ (k i : Nat), i + k = m → PySem.SeqAt.firstLt e r z ((List.range m).drop i) = Ob.lexAt e r z i k
  | 0, i, h => by rw [List.drop_of_length_le (by rw [List.length_range]; omega)]; rfl
  | k + 1, i, h => by
    have hd : (List.range m).drop i = i :: (List.range m).drop (i + 1) := by
      rw [List.drop_eq_getElem_cons (by rw [List.length_range]; omega), List.getElem_range]
    rw [hd, Ob.lexAt_succ, ← lexAt_first e r z m k (i + 1) (by omega)]
    rfl
/-! ### l < m, of lists -/
def rLtL (K : PySem.W.Frag) : R2 := fun x y H Q => ∃ (a b : Addr) (xs ys : List V) (e r : Nat → Bool), x = .ref a ∧ y = .ref b ∧ SqL K H a xs ∧ SqL K H b ys ∧
  (∀ (j : Nat) u v, xs[j]? = some u → ys[j]? = some v → flatV u = true ∧ flatV v = true ∧ e j = eqV u v ∧ (e j = false → (∃ i k, u = .int i ∧ v = .int k ∧ r j = decide (i < k)) ∨ ∃ i k, u = .str i ∧ v = .str k ∧ r j = decide (i.cps.toList < k.cps.toList))) ∧
  Q (.bl (Ob.lexAt e r (decide (xs.length < ys.length)) 0 (min xs.length ys.length))) H
theorem o_ltL (hu : X.A.units < cLine) : OpR X (compareOp .Lt) (rLtL X.K) := by
  intro pins s σ H x y v u Q I rx ry h
  obtain ⟨a, b, xs, ys, e, r, rfl, rfl, ha, hb, hh, q⟩ := h
  cases rx
  cases ry
  obtain ⟨its, r1, ⟨o1, n1, p1, c1, _, d1⟩, _⟩ := I.list ha
  obtain ⟨its2, r2, ⟨o2, n2, p2, c2, _, d2⟩, _⟩ := I.list hb
  have l1 := r1.length
  have l2 := r2.length
  have at1 : ∀ (j : Nat) (h1 : j < its.toArray.size) (h2 : j < its2.toArray.size), ∃ u v, xs[j]? = some u ∧ ys[j]? = some v ∧ RelV u its.toArray[j] ∧ RelV v its2.toArray[j] := fun j h1 h2 => by
    have k1 : j < xs.length := by rw [l1]; simpa using h1
    have k2 : j < ys.length := by rw [l2]; simpa using h2
    obtain ⟨w1, e1, q1⟩ := r1.get (List.getElem?_eq_getElem k1)
    obtain ⟨w2, e2, q2⟩ := r2.get (List.getElem?_eq_getElem k2)
    refine ⟨_, _, List.getElem?_eq_getElem k1, List.getElem?_eq_getElem k2, ?_, ?_⟩
    · have : its.toArray[j] = w1 := by
        have h1' : j < its.length := by simpa using h1
        rw [List.getElem?_eq_getElem h1'] at e1
        simpa using Option.some.inj e1
      rw [this]; exact q1
    · have : its2.toArray[j] = w2 := by
        have h2' : j < its2.length := by simpa using h2
        rw [List.getElem?_eq_getElem h2'] at e2
        simpa using Option.some.inj e2
      rw [this]; exact q2
  have key := PySem.SeqAt.RcLt.lists (A := X.A) (s := s) (e := e) (r := r) ⟨o1, p1, c1, n1, d1⟩ ⟨o2, p2, c2, n2, d2⟩ hu (fun j h1 h2 => by
      obtain ⟨u, v, e1, e2, q1, q2⟩ := at1 j h1 h2
      obtain ⟨f1, f2, f3, _⟩ := hh j u v e1 e2
      rw [f3]
      exact eqAt_V q1 q2 f1 f2) (fun j h1 h2 he => by
      obtain ⟨u, v, e1, e2, q1, q2⟩ := at1 j h1 h2
      obtain ⟨f1, f2, f3, f4⟩ := hh j u v e1 e2
      rcases f4 he with ⟨i, k, rfl, rfl, hr⟩ | ⟨i, k, rfl, rfl, hr⟩
      · obtain ⟨t, q1⟩ := q1
        obtain ⟨t', q2⟩ := q2
        rw [hr, q1, q2]
        exact fun prog w E Q h => Ob.RcOp.lt_int i k t t' prog w E Q h
      · obtain ⟨t, q1⟩ := q1
        obtain ⟨t', q2⟩ := q2
        rw [hr, q1, q2]
        exact fun prog w E Q h => PyProof.Rows.lt_str h)
  refine key X.prog X.w X.xe (EP X pins σ Q) ⟨.bl _, H, I, rfl, ?_⟩
  have s1 : its.toArray.size = xs.length := by rw [l1]; simp
  have s2 : its2.toArray.size = ys.length := by rw [l2]; simp
  have fr := lexAt_first e r (decide (xs.length < ys.length)) (min xs.length ys.length) (min xs.length ys.length) 0 (by omega)
  rw [List.drop_zero] at fr
  rw [s1, s2, fr]
  exact q
theorem lexAt_shift (e r : Nat → Bool) (z : Bool) : ∀ (k i : Nat), Ob.lexAt e r z (i + 1) k = Ob.lexAt (fun j => e (j + 1)) (fun j => r (j + 1)) z i k
  | 0, i => rfl
  | k + 1, i => by rw [Ob.lexAt_succ, Ob.lexAt_succ, lexAt_shift e r z k (i + 1)]
theorem lexD_at : ∀ {us vs : List V} {xs ys : List D} {k : Bool}, Reps ca G us xs → Reps ca G vs ys → lexD xs ys = some k →
    ∃ e r : Nat → Bool, (∀ (j : Nat) u v, us[j]? = some u → vs[j]? = some v → flatV u = true ∧ flatV v = true ∧ e j = eqV u v ∧ (e j = false → (∃ i k, u = .int i ∧ v = .int k ∧ r j = decide (i < k)) ∨ ∃ i k, u = .str i ∧ v = .str k ∧ r j = decide (i.cps.toList < k.cps.toList))) ∧
      k = Ob.lexAt e r (decide (us.length < vs.length)) 0 (min us.length vs.length) := by
  intro us vs xs
  induction xs generalizing us vs with
  | nil =>
    intro ys k r1 r2 h
    have l1 : us = [] := by have := r1.len; simpa using this
    subst l1
    cases ys with
    | nil =>
      have l2 : vs = [] := by have := r2.len; simpa using this
      subst l2
      cases h
      exact ⟨fun _ => true, fun _ => true, fun j u v h => by simp at h, rfl⟩
    | cons y ys =>
      cases vs with
      | nil => have := r2.len; simp at this
      | cons v vs =>
        cases h
        exact ⟨fun _ => true, fun _ => true, fun j u v h => by simp at h, by simp [Ob.lexAt]⟩
  | cons x xs ih =>
    intro ys k r1 r2 h
    cases us with
    | nil => have := r1.len; simp at this
    | cons u us =>
      cases ys with
      | nil =>
        have l2 : vs = [] := by have := r2.len; simpa using this
        subst l2
        cases h
        exact ⟨fun _ => true, fun _ => true, fun j u v _ h => by simp at h, by simp [Ob.lexAt]⟩
      | cons y ys =>
        cases vs with
        | nil => have := r2.len; simp at this
        | cons v vs =>
          have t1 : Reps ca G us xs := ⟨by have := r1.len; simpa using this, fun i a b h1 h2 => r1.at_ (i + 1) a b (by simpa using h1) (by simpa using h2)⟩
          have t2 : Reps ca G vs ys := ⟨by have := r2.len; simpa using this, fun i a b h1 h2 => r2.at_ (i + 1) a b (by simpa using h1) (by simpa using h2)⟩
          have q1 := r1.at_ 0 u x rfl rfl
          have q2 := r2.at_ 0 v y rfl rfl
          unfold lexD at h
          split at h
          · rename_i hf
            cases hz : lexD xs ys with
            | none => rw [hz] at h; cases h
            | some z =>
              rw [hz] at h
              simp only [Option.bind_some] at h
              obtain ⟨e, r, he, hk⟩ := ih t1 t2 hz
              obtain ⟨eu, fu⟩ := vF_of hf.1 q1
              obtain ⟨ev, fv⟩ := vF_of hf.2 q2
              refine ⟨fun j => match j with | 0 => eqV u v | j + 1 => e j, fun j => match j with | 0 => (ltF x y).getD false | j + 1 => r j, fun j a b h1 h2 => ?_, ?_⟩
              · cases j with
                | zero =>
                  cases h1; cases h2
                  refine ⟨fu, fv, rfl, fun hn => ?_⟩
                  have hn' : eqF x y = false := by unfold eqF; rw [← eu, ← ev]; exact hn
                  rw [hn', if_neg (by decide)] at h
                  unfold ltF at h
                  split at h
                  · cases q1; cases q2
                    exact .inl ⟨_, _, rfl, rfl, rfl⟩
                  · cases q1; cases q2
                    exact .inr ⟨_, _, rfl, rfl, rfl⟩
                  · cases h
                | succ j => exact he j a b (by simpa using h1) (by simpa using h2)
              · have em : min (u :: us).length (v :: vs).length = min us.length vs.length + 1 := by simp only [List.length_cons]; omega
                have el : decide ((u :: us).length < (v :: vs).length) = decide (us.length < vs.length) := by simp
                rw [em, el, Ob.lexAt_succ]
                show k = if eqV u v = true then Ob.lexAt _ _ _ (0 + 1) _ else (ltF x y).getD false
                rw [lexAt_shift]
                have eqe : eqV u v = eqF x y := by unfold eqF; rw [← eu, ← ev]
                rw [eqe]
                by_cases hq : eqF x y = true
                · rw [if_pos hq] at h ⊢
                  cases h
                  exact hk
                · rw [if_neg hq] at h ⊢
                  rw [h]; rfl
          · cases h
theorem o_ltX (hu : X.A.units < cLine) : OpR X (compareOp .Lt) (fun x y H Q => rLtL X.K x y H Q ∨ rLtX X.K x y H Q ∨ ((∃ i j, x = .int i ∧ y = .int j ∧ Q (.bl (decide (i < j))) H) ∨ ∃ i j, x = .str i ∧ y = .str j ∧ Q (.bl (decide (i.cps.toList < j.cps.toList))) H)) := (o_ltL hu).or ((o_ltT hu).or o_lt)
theorem b_ltX : BinR ca (fun x y H Q => rLtL ca x y H Q ∨ rLtX ca x y H Q ∨ ((∃ i j, x = .int i ∧ y = .int j ∧ Q (.bl (decide (i < j))) H) ∨ ∃ i j, x = .str i ∧ y = .str j ∧ Q (.bl (decide (i.cps.toList < j.cps.toList))) H)) ltX := by
  intro G H x y dx dy v Q s px py e out
  unfold ltX at e
  split at e
  · rename_i xs ys
    cases hz : lexD xs ys with
    | none => rw [hz] at e; cases e
    | some k =>
      rw [hz] at e
      cases e
      obtain ⟨a, us, rfl, ha, r1⟩ := px
      obtain ⟨b, vs, rfl, hb, r2⟩ := py
      obtain ⟨ee, rr, h1, h2⟩ := lexD_at r1 r2 hz
      refine .inr (.inl ⟨a, b, us, vs, ee, rr, rfl, rfl, SqT.of (s _ _ ha), SqT.of (s _ _ hb), h1, ?_⟩)
      rw [← h2]
      exact out _ _ (out_sh (.bl _))
  · rename_i xs ys
    cases hz : lexD xs ys with
    | none => rw [hz] at e; cases e
    | some k =>
      rw [hz] at e
      cases e
      obtain ⟨a, us, rfl, ha, r1⟩ := px
      obtain ⟨b, vs, rfl, hb, r2⟩ := py
      obtain ⟨ee, rr, h1, h2⟩ := lexD_at r1 r2 hz
      refine .inl ⟨a, b, us, vs, ee, rr, rfl, rfl, SqL.of ha, SqL.of hb, h1, ?_⟩
      rw [← h2]
      exact out _ _ (out_sh (.bl _))
  · exact .inr (.inr (b_lt G H x y dx dy v Q s px py e out))
/-! ### dicts with flat values -/
def eqKB (ks ls : List (Key × D)) : Option Bool := if ks.all (fun p => flatD p.2) = true ∧ ls.all (fun p => flatD p.2) = true then some (ks.length == ls.length && ks.all fun p => match valD ls p.1 with
  | some d => eqF p.2 d
  | none => false) else none
def eqX (a b : D) : Option Val := match a, b with
  | .dk ks, .dk ls => (eqKB ks ls).map fun k => .sh (.bl k)
  | a, b => eqD a b
def neX (a b : D) : Option Val := match a, b with
  | .dk ks, .dk ls => (eqKB ks ls).map fun k => .sh (.bl (!k))
  | a, b => neD a b
def eqKV (ks ls : List (Key × V)) : Bool := ks.length == ls.length && ks.all fun p => match valV ls p.1 with
  | some d => eqV p.2 d
  | none => false
def rEqK (neg : Bool) : R2 := fun x y H Q => ∃ a b ks ls, x = .ref a ∧ y = .ref b ∧ Rd H a (.dK ks) ∧ Rd H b (.dK ls) ∧ (∀ p ∈ ks, flatV p.2 = true) ∧ (∀ p ∈ ls, flatV p.2 = true) ∧ Q (.bl (if neg then !eqKV ks ls else eqKV ks ls)) H
theorem valV_mem {ls : List (Key × V)} {k : Key} {v : V} (h : valV ls k = some v) : ∃ p ∈ ls, p.2 = v := by
  unfold valV at h
  cases hf : ls.find? (fun kv => decide (kv.1 = k)) with
  | none => rw [hf] at h; cases h
  | some p =>
    rw [hf] at h
    cases h
    exact ⟨p, List.mem_of_find?_eq_some hf, rfl⟩
theorem hitsV {A : Around} {s : Shared} {ls : List (Key × V)} {vb : List (Key × Value)} (rb : KV ls vb) (fl : ∀ p ∈ ls, flatV p.2 = true) {ks : List (Key × V)} {va : List (Key × Value)} (ra : KV ks va) : (∀ p ∈ ks, flatV p.2 = true) →
    PySem.W.KeqHits A s vb va (ks.all fun p => match valV ls p.1 with
      | some d => eqV p.2 d
      | none => false) := by
  unfold KV at ra
  induction ra with
  | nil => intro _; exact .nil
  | @cons p q ps qs h t ih =>
    intro hp
    obtain ⟨h1, h2⟩ := h
    obtain ⟨k, v⟩ := q
    have h1 : p.1 = k := h1
    have fp := hp p List.mem_cons_self
    have rr : RelO (valV ls p.1) (valueAt vb p.1) := rb.val p.1
    rw [List.all_cons]
    cases hv : valV ls p.1 with
    | none =>
      rw [hv] at rr
      have := RelO.none_of rr
      rw [h1] at this
      exact .miss this
    | some d =>
      rw [hv] at rr
      obtain ⟨y, hy, ry⟩ := rr.some_of
      rw [h1] at hy
      obtain ⟨pm, hm, rfl⟩ := valV_mem hv
      exact .hit hy (eqAt_V h2 ry fp (fl pm hm)) (ih fun p' hp' => hp p' (List.mem_cons_of_mem _ hp'))
theorem dkObj {pins : List (Addr × Obj)} {s : Shared} {σ : St} {a : Addr} {ks : List (Key × V)} (I : Inv X pins σ H s) (h : Rd H a (.dK ks)) : (a == sysModules) = false ∧ ∃ vs, KV ks vs ∧ s.heap.DictOf (mixKind X.prog X.w) a vs := by
  rcases h with h | ⟨o, h⟩
  · obtain ⟨_, ya, va, ra, da⟩ := (show ObjOk X.prog X.w H s.heap a (.dK ks) from I.hok a _ h)
    exact ⟨ya, va, ra, da⟩
  · obtain ⟨_, _, ya, va, ra, da⟩ := (show ObjOk X.prog X.w H s.heap a (.frz o (.dK ks)) from I.hok a _ h)
    exact ⟨ya, va, ra, da⟩
theorem o_eqK (hu : X.A.units < cLine) : OpR X (compareOp .Eq) (rEqK false) := by
  intro pins s σ H x y v u Q I rx ry h
  obtain ⟨a, b, ks, ls, rfl, rfl, ea, eb, f1, f2, q⟩ := h
  obtain rfl : v = Value.ref a := rx
  obtain rfl : u = Value.ref b := ry
  obtain ⟨ya, va, ra, da⟩ := dkObj I ea
  obtain ⟨yb, vb, rb, db⟩ := dkObj I eb
  refine PySem.W.keq_eq (knd := mixKind X.prog X.w) ya yb da db hu (fun _ => hitsV rb f2 ra f1) (fin_bl I q ?_)
  have l1 : ks.length = va.length := Paired.length ra
  have l2 : ls.length = vb.length := Paired.length rb
  unfold eqKV
  rw [l1, l2]; rfl
theorem o_neK (hu : X.A.units + 1 < cLine) : OpR X (compareOp .NotEq) (rEqK true) := by
  intro pins s σ H x y v u Q I rx ry h
  obtain ⟨a, b, ks, ls, rfl, rfl, ea, eb, f1, f2, q⟩ := h
  obtain rfl : v = Value.ref a := rx
  obtain rfl : u = Value.ref b := ry
  obtain ⟨ya, va, ra, da⟩ := dkObj I ea
  obtain ⟨yb, vb, rb, db⟩ := dkObj I eb
  refine PySem.W.keq_ne (knd := mixKind X.prog X.w) ya yb da db (by omega) (fun _ => hitsV rb f2 ra f1) (fin_bl I q ?_)
  have l1 : ks.length = va.length := Paired.length ra
  have l2 : ls.length = vb.length := Paired.length rb
  unfold eqKV
  rw [l1, l2]; rfl
theorem RepK.flat {ks : List (Key × V)} {ds : List (Key × D)} (r : RepK ca G ks ds) (f : ds.all (fun p => flatD p.2) = true) : ∀ p ∈ ks, flatV p.2 = true := fun p hp => by
  obtain ⟨i, hi, rfl⟩ := List.getElem_of_mem hp
  have hl := r.length
  have hd : i < ds.length := by omega
  have q := r.at_ i ks[i] ds[i] (by simp [hi]) (by simp [hd])
  have fd := List.all_eq_true.mp f _ (List.getElem_mem hd)
  exact (vF_of fd q).2
theorem eqKV_of {ks ls : List (Key × V)} {ds es : List (Key × D)} (r1 : RepK ca G ks ds) (r2 : RepK ca G ls es) (f1 : ds.all (fun p => flatD p.2) = true) (f2 : es.all (fun p => flatD p.2) = true) :
    eqKV ks ls = (ds.length == es.length && ds.all fun p => match valD es p.1 with
      | some d => eqF p.2 d
      | none => false) := by
  unfold eqKV
  rw [r1.length, r2.length]
  congr 1
  have memD : ∀ {k : Key} {d : D}, valD es k = some d → flatD d = true := fun {k d} h => by
    unfold valD at h
    cases hf : es.find? (fun kv => decide (kv.1 = k)) with
    | none => rw [hf] at h; cases h
    | some p =>
      rw [hf] at h
      cases h
      exact List.all_eq_true.mp f2 _ (List.mem_of_find?_eq_some hf)
  clear f2
  induction ds generalizing ks with
  | nil =>
    have : ks = [] := by have := r1.length; simpa using this
    subst this; rfl
  | cons p ds ih =>
    cases ks with
    | nil => have := r1.length; simp at this
    | cons q ks =>
      obtain ⟨e1, q1, t1⟩ := r1.tail
      rw [List.all_cons, Bool.and_eq_true] at f1
      rw [List.all_cons, List.all_cons, ih t1 f1.2, e1]
      congr 1
      rcases r2.val p.1 with ⟨h1, h2⟩ | ⟨d, v, h1, h2, h3⟩
      · rw [h1, h2]
      · rw [h1, h2]
        obtain ⟨z1, _⟩ := vF_of f1.1 q1
        obtain ⟨z2, _⟩ := vF_of (memD h1) h3
        show eqV q.2 v = eqF p.2 d
        unfold eqF
        rw [← z1, ← z2]
theorem o_eqX (hu : X.A.units + 64 < cLine) : OpR X (compareOp .Eq) (fun x y H Q => rEqK false x y H Q ∨ rEqA X.K x y H Q) := (o_eqK (by omega)).or (o_eq hu)
theorem o_neX (hu : X.A.units + 64 < cLine) : OpR X (compareOp .NotEq) (fun x y H Q => rEqK true x y H Q ∨ rNeA X.K x y H Q) := (o_neK (by omega)).or (o_ne hu)
theorem b_eqX : BinR ca (fun x y H Q => rEqK false x y H Q ∨ rEqA ca x y H Q) eqX := by
  intro G H x y dx dy v Q s px py e out
  unfold eqX at e
  split at e
  · rename_i ks ls
    obtain ⟨a, us, rfl, ha, r1⟩ := px
    obtain ⟨b, vs, rfl, hb, r2⟩ := py
    unfold eqKB at e
    split at e
    · rename_i hf
      cases e
      refine .inl ⟨a, b, us, vs, rfl, rfl, ha, hb, r1.flat hf.1, r2.flat hf.2, ?_⟩
      rw [if_neg (by decide), eqKV_of r1 r2 hf.1 hf.2]
      exact out _ _ (out_sh (.bl _))
    · cases e
  · exact .inr (b_eq G H x y dx dy v Q s px py e out)
theorem b_neX : BinR ca (fun x y H Q => rEqK true x y H Q ∨ rNeA ca x y H Q) neX := by
  intro G H x y dx dy v Q s px py e out
  unfold neX at e
  split at e
  · rename_i ks ls
    obtain ⟨a, us, rfl, ha, r1⟩ := px
    obtain ⟨b, vs, rfl, hb, r2⟩ := py
    unfold eqKB at e
    split at e
    · rename_i hf
      cases e
      refine .inl ⟨a, b, us, vs, rfl, rfl, ha, hb, r1.flat hf.1, r2.flat hf.2, ?_⟩
      rw [if_pos rfl, eqKV_of r1 r2 hf.1 hf.2]
      exact out _ _ (out_sh (.bl _))
    · cases e
  · exact .inr (b_ne G H x y dx dy v Q s px py e out)
end
end Pd
/-! Pd18: len, in, [..], ==, !=, + and the like by methods of one's own -/
namespace Pd
open PySem PySem.Spec L2
variable [Ext]
/-! ### two operands -/
def eB2 (k : CT → Val → Val → Env → Option EO) (fa fb : SE) : SE := fun c env => bindV (fa c env) fun va e1 => bindV (fb c e1) fun vb e2 => k c va vb e2
def onB (neg : Bool) : Option EO → Option EO
  | some (.val (.sh (.bl k)) e) => some (.val (.sh (.bl (if neg then !k else k))) e)
  | some (.exc x e) => some (.exc x e)
  | _ => none
/-- x in o -/
def kIn (neg : Bool) : CT → Val → Val → Env → Option EO := fun c va vb env => (ownG "__contains__" c env vb).bind fun g => onB neg (callF g env [vb, va] [true, false])
/-- o[x] -/
def kIx : CT → Val → Val → Env → Option EO := fun c va vb env => (ownG "__getitem__" c env va).bind fun g => callF g env [va, vb] [true, false]
def eIxO (fa fb : SE) : SE := eB2 kIx fa fb
section
variable {X : Cx} {ca : PySem.W.Frag} {c : CT} {W : WX} {pos : Pos} {a b' : Expr} {fa fb : SE}
/-- what holds where both operands stand -/
def At2 (ca : PySem.W.Frag) (c : CT) (W : WX) (k : CT → Val → Val → Env → Option EO) (σ : St) (x y : V) (H : Hp) (Q : VK) : Prop := ∃ b env G va vb o, Rel ca b env σ G H ∧ Held ca G σ x va ∧ Held ca G σ y vb ∧ k c va vb env = some o ∧ EPost ca b W σ Q o
theorem b2_in {k : CT → Val → Val → Env → Option EO} : ∀ σ H Q, rdE ca c W (eB2 k fa fb) σ H Q → rdE ca c W fa σ H fun x H1 => rdE ca c W fb σ H1 fun y H2 => At2 ca c W k σ x y H2 Q := by
  rintro σ H Q ⟨b, env, G, o, R, e, post⟩
  refine rd_bind R e post fun va e1 u G1 H1 _ R1 hd sg e => ?_
  refine rd_bind R1 e post fun vb e2 w G2 H2 _ R2 hd2 sg2 e => ?_
  exact ⟨b, e2, G2, va, vb, o, R2, hd.mono sg2, hd2, e, post⟩
theorem insAt {pins : List (Addr × Obj)} {σ : St} {H : Hp} {s : Shared} {ad C dx : Addr} {fs : List (Str × V)} (I : Inv X pins σ H s) (ea : H ad = some (.ins C dx fs)) : ∃ od, PySem.W.InstAt s.heap ad (PySem.W.instObj C dx) C (some od) := by
  obtain ⟨mA, O, _⟩ := ins_get I.hok ea
  obtain ⟨od, J, _⟩ := O.look
  exact ⟨od, J⟩
/-! ### in -/
/-! ### == -/
variable {cl : List Str} {fl : List (Str × Str)}
/-! ### o[x] -/
theorem p_ixO (F : Fns X ca c) (tk : Takes X W) (ha : PE X a (rdE ca c W fa)) (hb : PE X b' (rdE ca c W fb)) (hs : ∀ o i, subscripted b' true o i = runValue (.builtin "lifetime.subscript" ⟨[o, i], []⟩)) (hK : X.K = ca := by rfl) : PE X (.Subscript a b' pos) (rdE ca c W (eIxO fa fb)) := by
  subst hK
  refine ⟨fun pins s σ H Q I h => PyProof.Rows.Subscript_ (binT ha hb I (R := fun x y H2 => At2 X.K c W kIx σ x y H2 Q) (b2_in σ H Q h) fun v u s2 x y H2 I2 rx ry q => ?_)⟩
  obtain ⟨b, env, G, va, vb, o, R, hx, hy, e, post⟩ := q
  unfold kIx at e
  cases hg : ownG "__getitem__" c env va with
  | none => rw [hg] at e; cases e
  | some g =>
    rw [hg] at e
    simp only [Option.bind_some] at e
    obtain ⟨C, ad, dx, fs, rfl, ea, l, hc⟩ := ownG_at R hx hg
    obtain rfl : v = Value.ref ad := rx
    have sp := callF_sp R (.cons hx (.cons hy .nil)) e post
    obtain ⟨kc, km, kf⟩ := F.meth C _ g hc (by decide) (by decide)
    obtain ⟨fd, ps, k, F1, hb, hr⟩ := F.fn _ _ hc rfl
    have hb := hb.b
    rw [adr_fn kf, spP_of (cm_of_deco (by decide))] at F1
    obtain ⟨od, J⟩ := insAt I2 ea
    obtain ⟨m, hF⟩ := I2.fr
    exact PySem.W.sub_K hF I2.ok.mod.kin J km.at_ kf km.fn (run_at (vs := [.ref ad, y]) (us := [.ref ad, u]) rfl F1 hr.in1 hb tk I2 (.cons rfl (.cons ry .nil)) sp) (hs _ _)
/-! ### len(o) -/
end
end Pd
/-! Pd19: for x in o, o's class having an __iter__ that hands back iter(self.f) -/
namespace Pd
open PySem PySem.Spec L2
variable [Ext]
def ItTO (t it : Addr) : HO := .ext fun h => h.IsTupleIter it t 0
theorem itTO_ok {P : Program} {w : World} {H : Hp} {h : Heap} {t it : Addr} (e : h.IsTupleIter it t 0) : ObjOk P w H h it (ItTO t it) := by
  refine ⟨e, ?_, fun h1 h2 q k => ?_⟩
  · obtain ⟨o, ho, _⟩ := e; exact ⟨o, ho⟩
  · obtain ⟨o, ho, r⟩ := q; exact ⟨o, k _ ho, r⟩
section
variable {X : Cx}
/-- iter(t), t a tuple: n is below what is new -/
def rIterT (K : PySem.W.Frag) (n : Nat) : List V → Hp → VK → Prop := fun xs H Q => ∃ (t : Addr) (zs : List V), xs = [.ref t] ∧ SqT K H t zs ∧ ∀ it, H it = none → n ≤ it → Q (.ref it) (upd H it (ItTO t it))
theorem call_iterT : CallR X (.builtin "iter") (rIterT X.K X.s_0.heap.objs.size) := by
  intro pins s σ H xs us Q I r h
  obtain ⟨t, zs, rfl, hq, q⟩ := h
  obtain ⟨u, rfl, ru⟩ := vals1 r
  obtain rfl : u = Value.ref t := ru
  obtain ⟨its, rv, pl, hz⟩ := I.tuple hq
  refine Calls.call_function_entry (by decide +kernel) (by decide +kernel) PySem.W.kdk_entry_iter (PySem.W.kdk_args_iter _) ?_
  unfold Builtin.«iter»
  refine wpAny_bind (m := someArgs "iter" 1 2 _) (wpAny_of_eq (a := [Value.ref t]) (by first | rfl | kernel_rfl!) ?_)
  show wpAny _ _ (pyIter (.ref t) >>= _) _ _ _
  refine wpAny_bind (wpAny_pyIter_tuple (show s.heap.IsTuple t its.toArray from pl) (wpAny_pure ⟨_, rfl, .ref s.heap.objs.size, _, ?_, rfl, q _ (I.hok.fresh (Nat.le_refl _)) I.sz⟩))
  exact I.laid (t' := s.toks) (fun b u e => Heap.get?_push_of_some _ e) (Nat.le_refl _) (itTO_ok ⟨_, Heap.get?_push_size _ rfl, rfl, rfl⟩)
end
/-- what such an __iter__ does -/
structure ItM (P : Program) (w : World) (K : PySem.W.Frag) (mg : Str → Option Value) (base : Heap) (fi C : Addr) (f : Str) : Prop where
  run : ∀ (A : Around) (outer : List PySem.Env) (s : Shared) (H : Hp) (x dx t : Addr) (fs : List (Str × V)) (zs : List V), Room 0 A → Env0 P w K mg base A outer s H → H x = some (.ins C dx fs) → fs.lookup f = some (.ref t) → SqT K H t zs →
    codeAny (model P w) A (.call (.ref fi) ⟨[.ref x], []⟩) (fun r s' => ∃ it, r = .ok (.ret (.ref it)) ∧ s.heap.objs.size ≤ it ∧ CE outer P w H s (fun v H' => v = .ref it ∧ H' = upd H it (ItTO t it)) (.ref it) s') s
theorem itm_ok {P : Program} {w : World} {K : PySem.W.Frag} {mg : Str → Option Value} {base : Heap} {x qual : Str} {params : Arguments} {body : List Stmt} {scope : Scope} {dvs : List V} {kws : List (Str × V)} {fi C : Addr} {fd : FuncData} {f : Str} {p1 p2 p3 p4 p5 : Pos} {N : List Str}
    (F : FunD K x qual params body scope dvs kws fi fd) (S : FnScope N ["self"] scope) (hN : N[0]? = some ("self" : Str)) (hb : body = [.Return (some (.Call (.Name "iter" p1) [.Attribute (.Name "self" p2) f p3] [] p4)) p5]) (b : Binds K fd ["self"] [])
    (hgl : ∀ X : Cx, X.env.scope = scope → Gl X "iter") (hm : mg "iter" = none) (c : Cls K C) (n : NoAttr K C f) : ItM P w K mg base fi C f := by
  obtain ⟨oc, od, dV, kV, doc, pm, an, cdv, ct, osl, rfl, lk, hcd, _, _⟩ := F.ex
  refine ⟨fun A outer s H x dx t fs zs hr e0 ea hl ht => ?_⟩
  have KX : K.In s.heap := e0.mod.kin.keeps fun b o e => (e0.bs b o e).1
  have lim : s.heap.NoLimit := e0.mod.nolimit.keeps fun b o e => (e0.bs b o e).1
  have bd := b s [.ref x] KX rfl
  rw [List.append_nil] at bd
  have hkind : ∀ y ∈ [("self" : Str)].zip [Value.ref x], scope.names.lookup y.1 = some .local ∨ (scope.names.lookup y.1 = some .cell ∧ ((cellsFrom (s.heap.objs.size + 1) scope.names []).lookup y.1).isSome = true) := fun ⟨n, v⟩ hy =>
    (S.par n (List.of_mem_zip hy).1).elim .inl fun q => .inr ⟨q, PySem.W.cellsFrom_some _ _ _ (.inl q)⟩
  refine codeAny_call_function hr.depth (KX _ _ lk) rfl S.co S.gen rfl (PySem.W.codeRec_of KX hcd) (bd _ _ _ _ (wpAny_newFunctionEnv_cells S.kind hkind fun env he s1 y => ?_))
  subst he
  refine ⟨lim.keeps y.toInCall.keep, codeAny_func ?_⟩
  have I : Inv (cxOf CX0 P w K mg base N qual scope fi cdv A outer s H fun _ _ _ => False) [] (start N [.ref x]) H s1 := inv_start S hr.hd e0 rfl (.cons rfl .nil) y
  subst hb
  have hv : Vis scope "self" := (S.par "self" (List.Mem.head _)).elim .inl fun z => .inr (.inl z)
  have hbody : PSs (cxOf CX0 P w K mg base N qual scope fi cdv A outer s H fun _ _ _ => False) [.Return (some (.Call (.Name "iter" p1) [.Attribute (.Name "self" p2) f p3] [] p4)) p5] _ :=
    pss_one (ps_ret (pe_callB call_iterT (hgl _ rfl) hm (by decide +kernel) (pa_cons (pe_fld (pe_var (i := 0) hN hv) rfl) pa_nil)))
  refine wpAny_mono (hbody.run [] s1 _ H { nx := fun _ _ => False, rt := fun v H' => ∃ it, v = .ref it ∧ s.heap.objs.size ≤ it ∧ H' = upd H it (ItTO t it) } I ?_) (fun fl s' hs => ?_) fun e s' hs => ?_
  · exact ⟨.ref x, rfl, x, C, dx, fs, .ref t, rfl, ea, c, n, hl, t, zs, rfl, ht, fun it _ h => ⟨it, rfl, h, rfl⟩⟩
  · cases fl with
    | ret u =>
      obtain ⟨v, σ', H', J, rv, it, rfl, hsz, eH⟩ := hs
      obtain rfl : u = Value.ref it := rv
      exact ⟨it, rfl, hsz, .ref it, H', J.os, J.bare, J.base, J.hok, rfl, rfl, eH⟩
    | next =>
      obtain ⟨_, _, _, q⟩ := hs
      exact q.elim
    | brk =>
      obtain ⟨_, _, _, q⟩ := hs
      exact q.elim
    | cont =>
      obtain ⟨_, _, _, q⟩ := hs
      exact q.elim
  · exact wpAny_mono hs (fun _ _ z => z.elim) fun _ _ z => z.elim
/-! ### walking -/
def itOwn (ic : List (Str × Str)) (f : SE) : SI := fun c env => bindI (f c env) fun v e => (take e v).bind fun p => match p.1 with
  | .ins C fl => (ic.lookup C).bind fun fd => match fl.lookup fd with
    | some (.tup ds) => if (fl.lookup ("__iter__" : Str)).isNone = true then some (.its ds p.2) else none
    | _ => none
  | _ => none
section
variable {X : Cx} {ca : PySem.W.Frag} {c : CT} {W : WX}
end
end Pd
/-! Pd20: is True, isinstance with several classes, range with a step, index, [::-1], {}, list of a dict, a property -/
namespace Pd
open PySem PySem.Spec L2
variable [Ext]
section
variable {X : Cx} {ca : PySem.W.Frag} {c : CT} {W : WX} {pos p : Pos} {a b' : Expr} {fa fb : SE}
/-! ### is True, is False -/
/-! ### isinstance(x, (C, D)) -/
theorem isCs_any {K : PySem.W.Frag} {cl : List Str} {t : Value} {d : D} (h1 : ∀ n b, CN.in cl n = true → isC1 d n = some b → PySem.W.kitOne K t (n.u K) = some b) : ∀ {ns : List CN} {k : Bool}, (ns.all fun n => CN.in cl n) = true → isCs d ns = some k → PySem.W.kitAny K t (ns.map (CN.u K)) = some k
  | [], k, _, e => by cases e; rfl
  | n :: ns, k, hi, e => by
    rw [List.all_cons, Bool.and_eq_true] at hi
    unfold isCs at e
    cases e1 : isC1 d n with
    | none => rw [e1] at e; cases e
    | some b =>
      rw [e1] at e
      simp only [Option.bind_some] at e
      cases e2 : isCs d ns with
      | none => rw [e2] at e; cases e
      | some j =>
        rw [e2] at e
        simp only [Option.map_some, Option.some.injEq] at e
        subst e
        have r := isCs_any h1 hi.2 e2
        refine kitAny_cons (h1 n b hi.1 e1) (fun hb => ?_) fun hb => ?_
        · subst hb; exact r
        · subst hb; rfl
theorem p_isT {cl : List Str} {fl : List (Str × Str)} {ns : List CN} {q : Expr} (kn : Kn ca cl fl) (hin : (ns.all fun n => CN.in cl n) = true) (hm : X.mg "isinstance" = none) (ha : PE X a (rdE ca c W fa))
    (hcl : PE X q (fun _ H Q => ∀ l, H l = none → Q (.ref l) (upd H l (.tup (ns.map (CN.v ca)))))) (hK : X.K = ca := by rfl) (hg : Gl X "isinstance" := by rfl)
    (hs1 : starEach [a, q] X.env = (false, eval a X.env) :: starEach [q] X.env := by rfl) (hs2 : starEach [q] X.env = (false, eval q X.env) :: starEach [] X.env := by rfl) (hpl : (backTo pos (starEach [q] X.env)).any (·.1) = false := by rfl)
    (hbi : bootBuiltins "isinstance" = some (.builtin "isinstance") := by decide +kernel) : PE X (.Call (.Name "isinstance" p) [a, q] [] pos) (rdE ca c W (eUn (isM cl ns) fa)) := by
  subst hK
  refine PE_weak (pe_callB call_isiT hg hm hbi (pa_cons ha (pa_cons hcl pa_nil hs2) hs1) (by decide) (by decide) hs1 hpl) ?_
  rintro σ H Q ⟨b, env, G, o, R, e, post⟩
  refine rd_bind R e post fun va e1 u G1 H1 _ R1 hd sg e => ?_
  intro l hl
  cases ea : peek e1 va with
  | none => rw [ea] at e; cases e
  | some dx =>
    rw [ea] at e
    simp only [Option.bind_some] at e
    unfold isM at e
    split at e
    · rename_i ok
      cases ek : isCs dx ns with
      | none => rw [ek] at e; cases e
      | some k =>
        rw [ek] at e
        cases e
        have R2 := R1.grow (o := .tup (ns.map (CN.v X.K))) hl
        obtain ⟨t, ty, k1, _⟩ := ty_at kn R2.sub (hd.peek R2 ea) ok
        refine ⟨u, l, ns.map (CN.v X.K), t, ns.map (CN.u X.K), k, rfl, upd_same, ?_, ty, isCs_any k1 hin ek, post _ G1 _ R2 (.bl k)⟩
        have pr : ∀ ns : List CN, Paired ClsV (ns.map (CN.v X.K)) (ns.map (CN.u X.K)) := fun ns => by
          induction ns with
          | nil => exact .nil
          | cons n ns ih => exact .cons (by cases n <;> constructor) ih
        exact pr ns
    · cases e
/-- the tuple of two names -/
theorem p_names2 {e1 e2 : Expr} {v1 v2 : V} {x1 : Nat} (h1 : PE X e1 (tC v1)) (h2 : PE X e2 (tC v2)) (hs1 : starEach [e1, e2] X.env = (false, eval e1 X.env) :: starEach [e2] X.env := by rfl) (hs2 : starEach [e2] X.env = (false, eval e2 X.env) :: starEach [] X.env := by rfl) :
    PE X (.Tuple [e1, e2] x1 pos) (fun _ H Q => ∀ l, H l = none → Q (.ref l) (upd H l (.tup [v1, v2]))) := PE_weak (pe_tup (pa_cons h1 (pa_cons h2 pa_nil hs2) hs1)) (fun σ H Q h => ⟨by simp only [List.length_cons, List.length_nil]; rw [sizeLine_eq]; decide, h⟩)

/-! ### range(i, j, k) -/
def itRange3 (fs : SA) : SI := fun c env => match fs c env with
  | some (.vals vs e) => (match peeks e vs with
    | some [.int i, .int j, .int k] => if k ≠ 0 ∧ k.natAbs < 1073741824 ∧ Builtin.Range.small i j k = true ∧ 0 ≤ Builtin.Range.rangeSize i j k then some (.its ((List.range (Builtin.Range.rangeSize i j k).toNat).map fun n => D.int (i + (n : Nat) * k)) e) else none
    | _ => none)
  | some (.exc x e) => some (.exc x e)
  | none => none
theorem itc_of {G0 : Hp} {lo k : Int} {n : Nat} : ItOk ca G0 (Itc lo k n) ((List.range n).map fun m => D.int (lo + (m : Nat) * k)) := by
  intro i H G s t
  refine ⟨fun d hd => ?_, fun hi => show n ≤ i from by simpa using hi⟩
  rw [List.getElem?_map] at hd
  by_cases hi : i < n
  · rw [List.getElem?_range hi] at hd
    cases hd
    refine ⟨hi, fun x H' y => ?_⟩
    obtain ⟨e, y⟩ := y
    subst e y
    exact out_sh (.int _)
  · rw [List.getElem?_eq_none (by simpa using hi)] at hd; cases hd
theorem i_range3 {tg a1 a2 a3 : Expr} {fs : SA} (hg : Gl X "range") (hm : X.mg "range" = none) (ha : PA X [a1, a2, a3] (rdA ca c W fs)) (hs : starEach [a1, a2, a3] X.env = (false, eval a1 X.env) :: starEach [a2, a3] X.env := by rfl) (hpl : (backTo pos (starEach [a2, a3] X.env)).any (·.1) = false := by rfl) :
    PI X tg (.Call (.Name "range" p) [a1, a2, a3] [] pos) (rdI ca c W (itRange3 fs)) := PI_weak (pi_range3 hg hm ha hs hpl) (by
  rintro σ H R ⟨b, env, G, o, R0, e, post⟩
  unfold itRange3 at e
  split at e
  · rename_i vs e1 hf
    split at e
    · rename_i i j k hp
      split at e
      · rename_i hb
        cases e
        refine rdA_use R0 hf fun us G' H' R' hd _ => ?_
        have hq := hd.peeks R' hp
        cases hq with
        | cons q t =>
          cases t with
          | cons q2 t2 =>
            cases t2 with
            | cons q3 t3 =>
              cases t3
              cases peek_int q
              cases peek_int q2
              cases peek_int q3
              exact ⟨i, j, k, (Builtin.Range.rangeSize i j k).toNat, rfl, ⟨hb.1, hb.2.1, hb.2.2.1, by omega⟩, post _ G' H' R' itc_of⟩
      · cases e
    · cases e
  · rename_i x e1 hf
    cases e
    exact rdA_use R0 hf fun cls d G' H' R' q => post cls d G' H' R' q
  · cases e)
/-! ### xs.index(x) -/
/-! ### {} -/
def eDic : SE := fun _ env => some (.val (.fr (.dk [])) env)
theorem p_dic : PE X (.Dict [] [] pos) (rdE ca c W eDic) := PE_weak pe_dnewK (by
  rintro σ H Q ⟨b, env, G, o, R, e, post⟩
  cases e
  intro l hl
  obtain ⟨G3, sg3, R3, vr⟩ := (OpOut.at (v := .fr (.dk [])) R (.inr ⟨l, _, hl, rfl, rfl, .inr ⟨_, rfl, rfl, [], upd_same, .nil⟩⟩))
  exact post _ G3 _ R3 vr)
/-! ### xs[::-1] -/
/-! ### list(d) -/
def listX : List D → Option Val
  | [.nil0] => some (.fr (.lst []))
  | [.dk kvs] => some (.fr (.lst (kvs.map fun p => match p.1 with
    | .inl i => .int i
    | .inr s => .str s)))
  | ds => listD ds
theorem c_listX (hc : X.calm = true) : CallR X (.type "list") (fun xs H Q => (∃ p ys, xs = [.ref p] ∧ (SqL X.K H p ys ∨ SqT X.K H p ys) ∧ ∀ l, H l = none → Q (.ref l) (upd H l (.lst ys))) ∨ ∃ (a : Addr) (kvs : List (Key × V)), xs = [.ref a] ∧ Rd H a (.dK kvs) ∧ ∀ p, H p = none → Q (.ref p) (upd H p (.lst (kvs.map fun kv => kV kv.1)))) := by
  intro pins s σ H xs us Q I r h
  rcases h with h | h
  · exact call_list_of pins s σ H xs us Q I r h
  · exact call_listD hc pins s σ H xs us Q I r h
theorem b_listX : ArgR ca (fun xs H Q => (∃ p ys, xs = [.ref p] ∧ (SqL ca H p ys ∨ SqT ca H p ys) ∧ ∀ l, H l = none → Q (.ref l) (upd H l (.lst ys))) ∨ ∃ (a : Addr) (kvs : List (Key × V)), xs = [.ref a] ∧ Rd H a (.dK kvs) ∧ ∀ p, H p = none → Q (.ref p) (upd H p (.lst (kvs.map fun kv => kV kv.1)))) listX := by
  intro G H xs ds v Q s pk e out
  unfold listX at e
  split at e
  · cases e
    obtain ⟨x, rfl, p⟩ := pk.one
    have p : Rep ca G x .nil0 := p
    cases p with
    | nil0 r => exact .inl ⟨_, [], rfl, .inr (seqT_mono s r), fun l hl => out _ _ (out_lst hl .nil)⟩
  · rename_i kvs
    cases e
    obtain ⟨x, rfl, p⟩ := pk.one
    obtain ⟨ad, vs, rfl, ha, r⟩ := p
    refine .inr ⟨ad, vs, rfl, ha, fun l hl => out _ _ (out_lst hl ?_)⟩
    have hk := r.keys
    refine ⟨by simpa using r.length, fun i u d h1 h2 => ?_⟩
    rw [List.getElem?_map] at h1 h2
    have e2 : vs[i]?.map (·.1) = kvs[i]?.map (·.1) := by rw [← List.getElem?_map, ← List.getElem?_map, hk]
    cases h3 : vs[i]? with
    | none => rw [h3] at h1; cases h1
    | some q1 =>
      cases h4 : kvs[i]? with
      | none => rw [h4] at h2; cases h2
      | some q2 =>
        rw [h3] at h1; rw [h4] at h2; rw [h3, h4] at e2
        cases h1; cases h2
        have e3 : q1.1 = q2.1 := Option.some.inj e2
        obtain ⟨k, x⟩ := q2
        cases k with
        | inl i => show Rep ca G (kV q1.1) _; rw [e3]; exact .int i
        | inr s => show Rep ca G (kV q1.1) _; rw [e3]; exact .str s
  · exact .inl (b_list G H xs ds v Q s pk e out)
end
end Pd
/-! Pd21: t[::-1] of a tuple; for and comprehensions over a list that is lent -/
namespace Pd
open PySem PySem.Spec L2
variable [Ext]
section
variable {prog : Program} {w : World} {A : Around} {E : Value → Shared → Prop} {s : Shared}
end
section
variable {X : Cx} {ca : PySem.W.Frag} {c : CT} {W : WX} {pos : Pos} {a : Expr} {fa : SE}
/-! ### for x in xs, xs lent: it is read as it stands at each turn -/
def brwLst (env : Env) (i : Nat) : Option (List D) := match env[i]? with
  | some (some (.brw (.lst ds))) => some ds
  | _ => none
theorem brwLst_at {env : Env} {i : Nat} {ds : List D} (h : brwLst env i = some ds) : env[i]? = some (some (.brw (.lst ds))) := by
  unfold brwLst at h
  split at h
  · rename_i ds' hs; cases h; exact hs
  · cases h
def forLv (g : SG) (f : Env → Option SO) (i0 : Nat) : Nat → Nat → Env → Option SO
  | 0, k, env => (brwLst env i0).bind fun ds => if ds.length ≤ k then some (.nx env) else none
  | n + 1, k, env => (brwLst env i0).bind fun ds => match ds[k]? with
    | none => some (.nx env)
    | some d => (g d env).bind fun e1 => match f e1 with
      | some (.nx e2) => forLv g f i0 n (k + 1) e2
      | some (.ct e2) => forLv g f i0 n (k + 1) e2
      | some (.brk e2) => some (.nx e2)
      | o => o
def sForN (i : Nat) (g : SG) (f : SS) : SS := fun c env => match brwLst env i with
  | some ds => forLv g (f c) i ds.length 0 env
  | none => sFor (itSeq (eVar i)) g f c env
theorem PS_or {st : Stmt} {t t' : TS} (h : PS X st t) (h' : PS X st t') : PS X st (fun D σ H => t D σ H ∨ t' D σ H) := ⟨fun pins s σ H D I q => q.elim (h.run pins s σ H D I) (h'.run pins s σ H D I)⟩
theorem PE_or {e : Expr} {t t' : TE} (h : PE X e t) (h' : PE X e t') : PE X e (fun σ H Q => t σ H Q ∨ t' σ H Q) := ⟨fun pins s σ H Q I q => q.elim (h.run pins s σ H Q I) (h'.run pins s σ H Q I)⟩
theorem s_forN {i0 : Nat} {x : Str} {tg : Expr} {body : List Stmt} {g : SG} {f : SS} {js : List Nat} {p : Pos} (hp : PassesOwn (model X.prog X.w) X.A X.env X.xe) (hc : X.calm = true) (hg : PG X tg (rdG ca g js)) (hb : PSs X body (rdS ca c W f)) (hN : X.N[i0]? = some x := by rfl)
    (hvis : Vis X.env.scope x := by first | exact Or.inl rfl | exact Or.inr (Or.inl rfl) | exact Or.inr (Or.inr rfl)) (hd : (x == ("__debug__" : Str)) = false := by decide) (hcd : (x == ("__classdict__" : Str)) = false := by decide) (hK : X.K = ca := by rfl)
    (hs : ∀ y, foldedSetIterable (.Name x p) X.env y = pure y := by intro _; rfl) : PS X (.For tg (.Name x p) body [] pos) (rdS ca c W (sForN i0 g f)) := by
  subst hK
  refine PS_weak (PS_or (ps_for hp hc (pi_list (pv i0 hN hvis hd hcd)) hg hb hs) (s_for hp hc (i_seq (p_var i0 hN hvis hd hcd)) hg hb hs)) ?_
  rintro D σ H ⟨b, env, G, o, R, e, post⟩
  unfold sForN at e
  cases hl : brwLst env i0 with
  | none => rw [hl] at e; exact .inr ⟨b, env, G, o, R, e, post⟩
  | some ds =>
    rw [hl] at e
    left
    obtain ⟨v, e1, a, ev, cr, gn, hB⟩ := R.slots i0 _ (brwLst_at hl)
    subst ev
    obtain ⟨vs, hvs, rs⟩ := cr
    refine ⟨.ref a, e1, a, rfl, ⟨vs, SqL.of hvs⟩, ?_⟩
    refine ⟨fun k m σ' H' => ∃ en G', m + k = ds.length ∧ Rel X.K b en σ' G' H' ∧ forLv g (f c) i0 m k en = some o, ⟨ds.length, env, G, rfl, R, e⟩, ?_⟩
    rintro k m σ' H' ⟨en, G', hm, R', ef⟩
    have at_ : ∀ ds', brwLst en i0 = some ds' → ∃ vs', H' a = some (.lst vs') ∧ Reps X.K G' vs' ds' := fun ds' h => by
      obtain ⟨v', e1', a', ev', cr', gn', hB'⟩ := R'.slots i0 _ (brwLst_at h)
      rw [hB] at hB'
      cases hB'
      exact cr'
    cases m with
    | zero =>
      unfold forLv at ef
      cases hb2 : brwLst en i0 with
      | none => rw [hb2] at ef; cases ef
      | some ds' =>
        rw [hb2] at ef
        simp only [Option.bind_some] at ef
        split at ef
        · rename_i hlen
          cases ef
          obtain ⟨vs', h1, h2⟩ := at_ ds' hb2
          exact .inl ⟨⟨vs', SqL.of h1, by rw [h2.len]; exact hlen⟩, post σ' G' H' R'⟩
        · cases ef
    | succ m =>
      unfold forLv at ef
      cases hb2 : brwLst en i0 with
      | none => rw [hb2] at ef; cases ef
      | some ds' =>
        rw [hb2] at ef
        simp only [Option.bind_some] at ef
        obtain ⟨vs', h1, h2⟩ := at_ ds' hb2
        split at ef
        · rename_i hn
          cases ef
          have : ds'.length ≤ k := by
            rcases Nat.lt_or_ge k ds'.length with h | h
            · rw [List.getElem?_eq_getElem h] at hn; cases hn
            · exact h
          exact .inl ⟨⟨vs', SqL.of h1, by rw [h2.len]; exact this⟩, post σ' G' H' R'⟩
        · rename_i d hd'
          obtain ⟨v', hv', rv'⟩ := h2.get hd'
          cases eg : g d en with
          | none => rw [eg] at ef; cases ef
          | some e1 =>
            rw [eg] at ef
            simp only [Option.bind_some] at ef
            refine .inr ⟨⟨vs', v', SqL.of h1, hv'⟩, fun σ2 H2 => ∃ en2 G2, Rel X.K b en2 σ2 G2 H2 ∧ forLv g (f c) i0 m (k + 1) en2 = some o, fun σ2 H2 ⟨en2, G2, R2, q2⟩ => ⟨m, Nat.lt_succ_self _, en2, G2, by omega, R2, q2⟩, fun x' H2 y => ?_⟩
            obtain ⟨eH, y⟩ := y
            subst eH
            have := y vs' (SqL.of h1)
            rw [hv'] at this
            cases this
            refine ⟨b, en, G', d, e1, R', rv', eg, fun σ3 R3 _ => ?_⟩
            cases eo : f c e1 with
            | none => rw [eo] at ef; cases ef
            | some o2 =>
              rw [eo] at ef
              refine rdS_use R3 eo ?_
              cases o2 with
              | nx e2 => exact fun σ4 G4 H4 R4 _ _ => ⟨e2, G4, R4, ef⟩
              | ct e2 => exact fun σ4 G4 H4 R4 _ => ⟨e2, G4, R4, ef⟩
              | brk e2 => cases ef; exact fun σ4 G4 H4 R4 _ => post σ4 G4 H4 R4
              | ret r e2 => cases ef; exact post
              | exc x e2 => cases ef; exact post
end
end Pd
/-! Pd22: comprehensions over a list that is lent -/
namespace Pd
open PySem PySem.Spec L2
variable [Ext]

def lcLv (g : SG) (t f : Env → Option EO) (vs : List Nat) (i0 : Nat) : Nat → Nat → Env → List D → Option (List D × Env)
  | 0, k, env, acc => (brwLst env i0).bind fun ds => if ds.length ≤ k then some (acc, env) else none
  | n + 1, k, env, acc => (brwLst env i0).bind fun ds => match ds[k]? with
    | none => some (acc, env)
    | some d => (g d env).bind fun e1 => match t e1 with
      | some (.val (.sh (.bl true)) e2) => (match f e2 with
        | some (.val v e3) => (take e3 v).bind fun p => if acc.length < sizeLine then lcLv g t f vs i0 n (k + 1) (wipeE p.2 vs) (acc ++ [p.1]) else none
        | _ => none)
      | some (.val (.sh (.bl false)) e2) => lcLv g t f vs i0 n (k + 1) (wipeE e2 vs) acc
      | _ => none
def eLCv (vs : List Nat) (i0 : Nat) (g : SG) (t f : SE) : SE := fun c env => match brwLst env i0 with
  | some ds => if calmE env vs = true then (lcLv g (t c) (f c) vs i0 ds.length 0 (wipeE env vs) []).map fun p => .val (.fr (.lst p.1)) (restE env p.2 vs) else none
  | none => none
theorem wipeE_out {i : Nat} : ∀ {vs : List Nat} {env : Env}, i ∉ vs → (wipeE env vs)[i]? = env[i]?
  | [], env, _ => rfl
  | v :: vs, env, h => by
    have h1 : i ≠ v := fun z => h (by rw [z]; exact List.mem_cons_self)
    have h2 : i ∉ vs := fun z => h (List.mem_cons_of_mem _ z)
    show ((wipeE env vs).set v none)[i]? = env[i]?
    rw [List.getElem?_set_ne (fun z => h1 z.symm)]
    exact wipeE_out h2
section
variable {X : Cx} {ca : PySem.W.Frag} {c : CT} {W : WX} {pos : Pos}
theorem lcv_in {i0 : Nat} {g : SG} {t f : SE} {vs js : List Nat} (hj : ∀ j ∈ js, j ∈ vs) (hi0 : i0 ∉ vs) : ∀ σ H Q, (∃ b env G o, Rel ca b env σ G H ∧ eLCv vs i0 g t f c env = some o ∧ EPost ca b W σ Q o) → tLc (iList ca (tVar i0)) (rdG ca g js) (rdT ca c WF t) (rdE ca c WF f) vs σ H Q := by
  rintro σ H Q ⟨b, env, G, o, R, e, post⟩
  unfold eLCv at e
  cases hl0 : brwLst env i0 with
  | none => rw [hl0] at e; cases e
  | some ds0 =>
    rw [hl0] at e
    simp only at e
    split at e
    · rename_i hcalm
      cases el : lcLv g (t c) (f c) vs i0 ds0.length 0 (wipeE env vs) [] with
      | none => rw [el] at e; cases e
      | some res =>
        rw [el] at e
        cases e
        have R1 := R
        obtain ⟨v0, ev0, a0, eva, cr0, gn0, hB0⟩ := R.slots i0 _ (brwLst_at hl0)
        subst eva
        obtain ⟨vs0, hvs0, rs0⟩ := cr0
        refine ⟨.ref a0, ev0, a0, rfl, ⟨vs0, SqL.of hvs0⟩, fun Da hD => ?_⟩
        have Rw := (R1.wipe vs)
        have Rb := Rw.rb
        have ub : ∀ {env' σ' G' H'}, Rel ca (Pd.rb ca (wipeE env vs) (wipe σ vs) G H) env' σ' G' H' → Rel ca b env' σ' G' H' := fun q => Rw.unrb q
        have hH0 : (Pd.rb ca (wipeE env vs) (wipe σ vs) G H).H0 Da = none := hD
        have ew : (wipe σ vs)[i0]? = some (some (.ref a0)) := by rw [wipe_out hi0]; exact ev0
        have eE : (wipeE env vs)[i0]? = some (some (.brw (.lst ds0))) := by rw [wipeE_out hi0]; exact brwLst_at hl0
        have hBa : (Pd.rb ca (wipeE env vs) (wipe σ vs) G H).B i0 = some a0 := by unfold Pd.rb; simp only [eE, ew]
        have hbD : b.O Da ∨ b.H0 Da = none := .inr (R1.dom _ hD)
        have gg : (Pd.rb ca (wipeE env vs) (wipe σ vs) G H).G0 = G := rfl
        generalize Pd.rb ca (wipeE env vs) (wipe σ vs) G H = b2 at Rb ub hH0 gg hBa
        refine ⟨fun i m H' => ∃ en G' acc us, Rel ca b2 en (wipe σ vs) G' H' ∧ Same G G' ∧ H' Da = some (.lst us) ∧ G' Da = none ∧ Free ca en (wipe σ vs) H' Da ∧ Reps ca G' us acc ∧
            lcLv g (t c) (f c) vs i0 m i en acc = some res, ⟨ds0.length, _, G, [], [], Rb.grow hD, Same.refl _, upd_same, R1.sub.free hD, ?_, .nil, el⟩, ?_⟩
        · exact Rw.newUp hD
        rintro i m H' ⟨en, G', acc, us, R', sg, hDa, hGa, hap, hr, ef⟩
        have at_ : ∀ ds', brwLst en i0 = some ds' → ∃ vs', H' a0 = some (.lst vs') ∧ Reps ca G' vs' ds' := fun ds' h => by
          obtain ⟨v', e1', a', ev', cr', gn', hB'⟩ := R'.slots i0 _ (brwLst_at h)
          rw [hBa] at hB'
          cases hB'
          exact cr'
        have stop : ∀ ds', brwLst en i0 = some ds' → ds'.length ≤ i → some (acc, en) = some res → (Itl ca a0).stop i H' ∧ Q (.ref Da) H' := fun ds' h hle er => by
          obtain ⟨vs', h1, h2⟩ := at_ ds' h
          cases er
          refine ⟨⟨vs', SqL.of h1, by rw [h2.len]; exact hle⟩, ?_⟩
          have R3 : Rel ca b2 (restE env en vs) σ G' H' := Rel.rest R1 hcalm R' sg
          have R4 : Rel ca b (restE env en vs) σ G' H' := Rel.rest R1 hcalm (ub R') sg
          exact post _ G' H' R4 ⟨Da, rfl, ⟨us, hDa, hr⟩, hGa, hbD, Free.rest hcalm hap, fun x h => h.elim⟩
        cases m with
        | zero =>
          unfold lcLv at ef
          cases hb2 : brwLst en i0 with
          | none => rw [hb2] at ef; cases ef
          | some ds' =>
            rw [hb2] at ef
            simp only [Option.bind_some] at ef
            split at ef
            · rename_i hlen
              exact .inl (stop ds' hb2 hlen ef)
            · cases ef
        | succ m =>
          unfold lcLv at ef
          cases hb2 : brwLst en i0 with
          | none => rw [hb2] at ef; cases ef
          | some ds' =>
            rw [hb2] at ef
            simp only [Option.bind_some] at ef
            split at ef
            · rename_i hn
              have hle : ds'.length ≤ i := by
                rcases Nat.lt_or_ge i ds'.length with h | h
                · rw [List.getElem?_eq_getElem h] at hn; cases hn
                · exact h
              exact .inl (stop ds' hb2 hle ef)
            rename_i dI hdI
            obtain ⟨vs', h1, h2⟩ := at_ ds' hb2
            obtain ⟨vI, hvI, rvI⟩ := h2.get hdI
            cases eg : g dI en with
            | none => rw [eg] at ef; cases ef
            | some e1 =>
            rw [eg] at ef
            simp only [Option.bind_some] at ef
            refine .inr ⟨⟨vs', vI, SqL.of h1, hvI⟩, fun H2 => ∃ en2 G2 acc2 us2, Rel ca b2 en2 (wipe σ vs) G2 H2 ∧ Same G G2 ∧ H2 Da = some (.lst us2) ∧ G2 Da = none ∧ Free ca en2 (wipe σ vs) H2 Da ∧ Reps ca G2 us2 acc2 ∧
              lcLv g (t c) (f c) vs i0 m (i + 1) en2 acc2 = some res, fun H2 ⟨en2, G2, acc2, us2, q⟩ => ⟨m, Nat.lt_succ_self _, en2, G2, acc2, us2, q⟩, fun x H2 y => ?_⟩
            -- this turn's own entry: the new list stands in it
            have Rt := R'.rb
            have ut : ∀ {env' σ' G' H'}, Rel ca (Pd.rb ca en (wipe σ vs) G' H') env' σ' G' H' → True := fun _ => trivial
            have ub3 : ∀ {env' σ' G2 H2}, Rel ca (Pd.rb ca en (wipe σ vs) G' H') env' σ' G2 H2 → Rel ca b2 env' σ' G2 H2 := fun q => R'.unrb q
            have tH0 : (Pd.rb ca en (wipe σ vs) G' H').H0 Da = some (.lst us) := hDa
            have tG0 : (Pd.rb ca en (wipe σ vs) G' H').G0 = G' := rfl
            have tO : (Pd.rb ca en (wipe σ vs) G' H').out Da := hap.rb
            generalize Pd.rb ca en (wipe σ vs) G' H' = b3 at Rt ub3 tH0 tG0 tO
            have stand : ∀ {en σ' G H}, Rel ca b3 en σ' G H → Same G' G ∧ H Da = some (.lst us) ∧ G Da = none ∧ Free ca en σ' H Da := fun {en σ' G H} RR => by
              obtain ⟨y1, y2, y3⟩ := RR.stand tH0 tO
              exact ⟨by rw [← tG0]; exact RR.g0, y1, y2 (by rw [tG0]; exact hGa), y3⟩
            obtain ⟨eH, y⟩ := y
            subst eH
            have yq := y vs' (SqL.of h1)
            rw [hvI] at yq
            cases yq
            refine ⟨b3, en, G', dI, e1, Rt, rvI, eg, fun σ3 R3 bt => ⟨wipe_eq hj bt, ?_⟩⟩
            have wq := wipe_eq hj bt
            split at ef
            · rename_i e2 et
              split at ef
              · rename_i v e3 ee
                cases ek : take e3 v with
                | none => rw [ek] at ef; cases ef
                | some pv =>
                  rw [ek] at ef
                  simp only [Option.bind_some] at ef
                  split at ef
                  · rename_i hz
                    refine ⟨b3, e1, G', _, R3, et, fun G4 H4 R4 => ?_⟩
                    refine iteT ?_
                    refine ⟨b3, e2, G4, _, R4, ee, fun u G5 H5 R5 vr5 => ?_⟩
                    obtain ⟨G6, s6, R6, hd6⟩ := VRel.held R5 vr5
                    obtain ⟨G7, s7, R7, r7⟩ := hd6.take (d := pv.1) (env' := pv.2) R6 ek
                    obtain ⟨t1, t2, t3, t4⟩ := stand R7
                    refine ⟨us, t2, by rw [hr.len]; exact hz, wipeE pv.2 vs, G7, acc ++ [pv.1], us ++ [u], ?_, sg.trans t1, upd_same, t3, ?_, (hr.mono t1).append (.one r7), ef⟩
                    · have R8 := (ub3 R7).wipe vs
                      rw [wq] at R8
                      refine R8.other hH0 t3 ?_
                      have R9 := R7.wipe vs
                      rw [wq] at R9
                      exact (stand R9).2.2.2
                    · have R9 := R7.wipe vs
                      rw [wq] at R9
                      exact (stand R9).2.2.2.upd
                  · cases ef
              · cases ef
            · rename_i e2 et
              refine ⟨b3, e1, G', _, R3, et, fun G4 H4 R4 => ?_⟩
              refine iteF ?_
              obtain ⟨t1, t2, t3, t4⟩ := stand R4
              have R9 := R4.wipe vs
              rw [wq] at R9
              exact ⟨wipeE e2 vs, G4, acc, us, ub3 R9, sg.trans t1, t2, t3, (stand R9).2.2.2, hr.mono t1, ef⟩
            · cases ef
    · cases e

def eLCN (vs : List Nat) (i0 : Nat) (g : SG) (t f : SE) : SE := fun c env => match brwLst env i0 with
  | some _ => eLCv vs i0 g t f c env
  | none => eLC vs (itSeq (eVar i0)) g t f c env
theorem lcN_in {i0 : Nat} {g : SG} {t f : SE} {vs js : List Nat} (hj : ∀ j ∈ js, j ∈ vs) (hi0 : i0 ∉ vs) : ∀ σ H Q, rdE ca c W (eLCN vs i0 g t f) σ H Q → tLc (iList ca (tVar i0)) (rdG ca g js) (rdT ca c WF t) (rdE ca c WF f) vs σ H Q ∨ tLc (rdI ca c W (itSeq (eVar i0))) (rdG ca g js) (rdT ca c WF t) (rdE ca c WF f) vs σ H Q := by
  rintro σ H Q ⟨b, env, G, o, R, e, post⟩
  unfold eLCN at e
  split at e
  · exact .inl (lcv_in hj hi0 σ H Q ⟨b, env, G, o, R, e, post⟩)
  · exact .inr (lc_in hj σ H Q ⟨b, env, G, o, R, e, post⟩)
theorem p_lcN {i0 : Nat} {x : Str} {p : Pos} {elt tg : Expr} {ifs : List Expr} {scope : Scope} {own : List (Str × Nat)} {g : SG} {t f : SE} {js : List Nat} (hc : X.calm = true) (hN : X.N.Nodup) (ok : blkC X.N X.env.scope scope own = true)
    (hg : ∀ (s : Shared) (H : Hp) (C : Addr) (cl : List (Str × Addr)) (fp : List Addr), PG (X.blk s H scope (compEnvC scope cl C X.env) fp) tg (rdG ca g js)) (ht : ∀ (s : Shared) (H : Hp) (C : Addr) (cl : List (Str × Addr)) (fp : List Addr), PTs (X.blk s H scope (compEnvC scope cl C X.env) fp) ifs (rdT ca c WF t))
    (he : ∀ (s : Shared) (H : Hp) (C : Addr) (cl : List (Str × Addr)) (fp : List Addr), PE (X.blk s H scope (compEnvC scope cl C X.env) fp) elt (rdE ca c WF f)) (hj : ∀ j ∈ js, j ∈ own.map (·.2) := by decide) (hi0 : i0 ∉ own.map (·.2) := by decide)
    (hNx : X.N[i0]? = some x := by rfl) (hvis : Vis X.env.scope x := by first | exact Or.inl rfl | exact Or.inr (Or.inl rfl) | exact Or.inr (Or.inr rfl)) (hd : (x == ("__debug__" : Str)) = false := by decide) (hcd : (x == ("__classdict__" : Str)) = false := by decide)
    (hK : X.K = ca := by rfl) (hs : ∀ y, foldedSetIterable (.Name x p) X.env y = pure y := by intro _; rfl) : PE X (.ListComp elt [⟨tg, .Name x p, ifs, 0⟩] scope pos) (rdE ca c W (eLCN (own.map (·.2)) i0 g t f)) := by
  subst hK
  exact PE_weak (PE_or (pe_lc hc hN (pi_list (pv i0 hNx hvis hd hcd)) (blkOk_by ok) hg ht he hs) (pe_lc hc hN (i_seq (p_var i0 hNx hvis hd hcd)) (blkOk_by ok) hg ht he hs)) (lcN_in hj hi0)
end
end Pd
/-! Pd23: properties; class constants; the facts of the head, with getters -/
namespace Pd
open PySem PySem.Spec L2
variable [Ext]
def propB (K : PySem.W.Frag) (C f : Str) : Bool := decide (PySem.W.findIn K (.ref (He.ga K C)) f = some (some (.ref (He.fAd K (C, some f))))) && (decide (PySem.W.specialIn K (.ref (He.fAd K (C, some f))) "__get__" = some (some (.builtin "property.__get__"))) &&
  (decide (PySem.W.takesIn K (.ref (He.fAd K (C, some f))) = some true) && match PySem.W.recIn K (He.fAd K (C, some f)) "property" with
    | some (.ref _ :: _) => true
    | _ => false))
/-- a class's constant, an int -/
def conB (K : PySem.W.Frag) (C f : Str) (i : Int) : Bool := PySem.W.readsIn K (He.ga K C) (.type "type") && (decide (PySem.W.specialIn K (.ref (He.ga K C)) "__getattribute__" = some (some (.builtin "type.__getattribute__"))) && match PySem.W.findCls K (.ref (He.ga K C)) (.type "type") f with
  | some (.val (.int j _)) => decide (j = i)
  | _ => false)
def ConK (K : PySem.W.Frag) (C f : Str) (i : Int) : Prop := ∃ mc u, ClX.CRead K (He.ga K C) mc ∧ ClX.CVal K (He.ga K C) mc f (.int i) u
theorem conB_ok {K : PySem.W.Frag} {C f : Str} {i : Int} (h : conB K C f i = true) : ConK K C f i := by
  unfold conB at h
  simp only [Bool.and_eq_true, decide_eq_true_eq] at h
  obtain ⟨h1, h2, h3⟩ := h
  split at h3
  · rename_i j t e
    cases (of_decide_eq_true h3 : j = i)
    exact ⟨_, _, ⟨h1, h2⟩, e, ⟨_, rfl⟩⟩
  · cases h3
section
variable {X : Cx} {ca : PySem.W.Frag} {c : CT} {W : WX} {pos p : Pos} {a : Expr} {fa : SE} {f C : Str}
theorem p_conI {i : Int} (hm : X.mg C = some (.ref (He.ga ca C))) (k : ConK ca C f i) (hK : X.K = ca := by rfl) (hg : Gl X C := by rfl) (hd : (C == ("__debug__" : Str)) = false := by decide)
    (hb : attributeBase (.Name C p) f X.env (eval (.Name C p) X.env) = eval (.Name C p) X.env := by rfl) : PE X (.Attribute (.Name C p) f pos) (rdE ca c W (eC (.int i))) := by
  obtain ⟨mc, u, r, v⟩ := k
  exact p_con (v := .int i) hm r v (fun _ => .int i) hg hd hb hK
end
/-! ### the facts of the head -/
/-- a default: a number, the empty tuple -/
inductive Dd where
  | int (n : Int) | nil0
def Dd.d : Dd → D
  | .int n => .int n
  | .nil0 => .nil0
def dfA (K : PySem.W.Frag) (dV : Value) (j : Nat) : Addr := match dV with
  | .ref T => (match K.lookup T with
    | some ⟨_, _, .seq its _, _⟩ => (match its.toList[j]? with
      | some (.ref a) => a
      | _ => 0)
    | _ => 0)
  | _ => 0
def dfV (K : PySem.W.Frag) (dV : Value) : Nat → List Dd → List V
  | _, [] => []
  | j, .int n :: r => .int n :: dfV K dV (j + 1) r
  | j, .nil0 :: r => .ref (dfA K dV j) :: dfV K dV (j + 1) r
def nilB (K : PySem.W.Frag) (a : Addr) : Bool := match K.lookup a with
  | some ⟨.type n, _, .seq its _, _⟩ => decide (n = "tuple") && its.toList.isEmpty
  | _ => false
theorem nilB_ok {K : PySem.W.Frag} {a : Addr} (h : nilB K a = true) (H : Hp) : SqT K H a [] := by
  unfold nilB at h
  split at h
  · rename_i n _ its m _ e
    rw [Bool.and_eq_true] at h
    have h1 : n = "tuple" := of_decide_eq_true h.1
    subst h1
    have h2 : its.toList = [] := by simpa using h.2
    have h3 : its.size = 0 := by
      have := congrArg List.length h2
      simpa using this
    exact .inr ⟨_, its, m, e, rfl, rfl, by rw [h3]; exact Nat.zero_le _, by rw [h2]; exact .nil⟩
  · cases h
def dfOk (K : PySem.W.Frag) (dV : Value) : Nat → List Dd → Bool
  | _, [] => true
  | j, .int _ :: r => dfOk K dV (j + 1) r
  | j, .nil0 :: r => nilB K (dfA K dV j) && dfOk K dV (j + 1) r
theorem dfV_rep {K : PySem.W.Frag} {dV : Value} : ∀ {l : List Dd} {j : Nat}, dfOk K dV j l = true → ∀ H, Reps K H (dfV K dV j l) (l.map Dd.d)
  | [], _, _, _ => .nil
  | .int n :: r, j, h, H => .cons (.int n) (dfV_rep (l := r) (j := j + 1) h H)
  | .nil0 :: r, j, h, H => by
    have h : (nilB K (dfA K dV j) && dfOk K dV (j + 1) r) = true := h
    rw [Bool.and_eq_true] at h
    exact .cons (.nil0 (nilB_ok h.1 H)) (dfV_rep (l := r) (j := j + 1) h.2 H)
/-- one def, wherever it stands (key; name, qualified name, parameters, body, scope, defaults) -/
structure DefP where
  at_ : Str × Option Str
  name : Str
  qual : Str
  params : Arguments
  body : List Stmt
  scope : Scope
  dfl : List Dd
def fnP (K : PySem.W.Frag) (p : Str × Option Str) : He.FnW := match K.lookup (adr K p) with
  | some ⟨_, _, .func fd, _⟩ => some (fd.name, fd.qualname, fd.params, fd.body, fd.scope, fd.globals, fd.closure, fd.builtins)
  | _ => none
/-- the defaults' values -/
def dvsP (K : PySem.W.Frag) (p : Str × Option Str) : List Dd → List V
  | [] => []
  | x :: xs => match K.lookup (adr K p) with
    | some ⟨_, _, .func fd, _⟩ => dfV K fd.defaults 0 (x :: xs)
    | _ => []
def DefP.val (d : DefP) : He.FnW := some (d.name, d.qual, d.params, .stmts d.body, d.scope, mainGlobals, [], builtinsNs)
def DefP.ok (K : PySem.W.Frag) (d : DefP) : Bool := PySem.W.keepIn K (.ref (adr K d.at_)) && match K.lookup (adr K d.at_) with
  | some ⟨_, _, .func fd, _⟩ => PySem.W.codeIn K fd.code d.qual && (He.dflB K fd.defaults (dfV K fd.defaults 0 d.dfl) && He.kwdB K fd.kwdefaults []) && dfOk K fd.defaults 0 d.dfl
  | _ => false
theorem dvsP_eq {K : PySem.W.Frag} {p : Str × Option Str} {l : List Dd} {oc od fd osl} (q : K.lookup (adr K p) = some ⟨oc, od, .func fd, osl⟩) : dvsP K p l = dfV K fd.defaults 0 l := by
  cases l with
  | nil => rfl
  | cons x xs => unfold dvsP; rw [q]
theorem DefP.funD {K : PySem.W.Frag} {d : DefP} (e : fnP K d.at_ = d.val) (h : d.ok K = true) : (∃ fd, FunD K d.name d.qual d.params d.body d.scope (dvsP K d.at_ d.dfl) [] (adr K d.at_) fd) ∧ ∀ H, Reps K H (dvsP K d.at_ d.dfl) (d.dfl.map Dd.d) := by
  obtain ⟨kp, h2⟩ := Bool.and_eq_true_iff.mp h
  unfold fnP at e
  cases q : K.lookup (adr K d.at_) with
  | none => rw [q] at h2; cases h2
  | some ob =>
    obtain ⟨oc, od, dt, osl⟩ := ob
    rw [q] at h2 e
    cases dt with
    | func fd =>
      obtain ⟨n1, n2, n3, n4, n5, n6, n7, n8, n9, n10, n11, n12, n13, n14, n15⟩ := fd
      have e2 : (some (n1, n2, n3, n4, n5, n6, n7, n15) : He.FnW) = some (d.name, d.qual, d.params, .stmts d.body, d.scope, mainGlobals, [], builtinsNs) := e
      simp only [Option.some.injEq, Prod.mk.injEq] at e2
      obtain ⟨q1, q2, q3, q4, q5, q6, q7, q8⟩ := e2
      subst q1 q2 q3 q4 q5 q6 q7 q8
      have h3 : (PySem.W.codeIn K n13 d.qual && (He.dflB K n8 (dfV K n8 0 d.dfl) && He.kwdB K n9 []) && dfOk K n8 0 d.dfl) = true := h2
      simp only [Bool.and_eq_true] at h3
      obtain ⟨⟨k1, k2, k3⟩, k4⟩ := h3
      have ed := dvsP_eq (l := d.dfl) q
      rw [ed]
      exact ⟨⟨_, ⟨oc, od, n8, n9, n10, n11, n12, n13, n14, osl, rfl, q, k1, He.dflB_ok k2, He.kwdB_ok k3⟩, kp⟩, dfV_rep k4⟩
    | _ => cases h2
abbrev AlP : Type := Bool × List He.FnW
def obsP (ex : PySem.W.Frag → Bool) (fn : List DefP) (K : PySem.W.Frag) : AlP := (ex K && fn.all fun d => d.ok K, fn.map fun d => fnP K d.at_)
def valP (fn : List DefP) : AlP := (true, fn.map DefP.val)
section
variable {ex : PySem.W.Frag → Bool} {fn : List DefP} {K : PySem.W.Frag}
theorem saysP_ex (h : obsP ex fn K = valP fn) : ex K = true := (Bool.and_eq_true_iff.mp (congrArg (fun z : AlP => z.1) h : (ex K && fn.all fun d => d.ok K) = true)).1
theorem saysP_all (h : obsP ex fn K = valP fn) (i : Nat) {d : DefP} (hi : fn[i]? = some d := by rfl) : (∃ fd, FunD K d.name d.qual d.params d.body d.scope (dvsP K d.at_ d.dfl) [] (adr K d.at_) fd) ∧ ∀ H, Reps K H (dvsP K d.at_ d.dfl) (d.dfl.map Dd.d) := by
  have h1 := (Bool.and_eq_true_iff.mp (congrArg (fun z : AlP => z.1) h : (ex K && fn.all fun d => d.ok K) = true)).2
  have h2 : fn.map (fun d => fnP K d.at_) = fn.map DefP.val := congrArg (fun z : AlP => z.2) h
  have h3 : (fn.map fun d => fnP K d.at_)[i]? = (fn.map DefP.val)[i]? := by rw [h2]
  rw [List.getElem?_map, List.getElem?_map, hi] at h3
  exact DefP.funD (Option.some.inj h3) (List.all_eq_true.mp h1 d (List.mem_of_getElem? hi))
theorem saysP_def (h : obsP ex fn K = valP fn) (i : Nat) {d : DefP} (hi : fn[i]? = some d := by rfl) : ∃ fd, FunD K d.name d.qual d.params d.body d.scope (dvsP K d.at_ d.dfl) [] (adr K d.at_) fd := (saysP_all h i hi).1
theorem all_get {α : Type} {p : α → Bool} {l : List α} (h : l.all p = true) (i : Nat) {x : α} (hi : l[i]? = some x := by rfl) : p x = true := List.all_eq_true.mp h x (List.mem_of_getElem? hi)
end
end Pd
namespace Pd
open PySem PySem.Spec L2
theorem lookup_mem {α β : Type} [BEq α] [LawfulBEq α] {l : List (α × β)} {a : α} {b : β} (h : l.lookup a = some b) : (a, b) ∈ l := by
  induction l with
  | nil => cases h
  | cons x l ih =>
    obtain ⟨a', b'⟩ := x
    rw [List.lookup_cons] at h
    split at h
    · rename_i e; cases h; rw [eq_of_beq e]; exact List.mem_cons_self
    · exact List.mem_cons_of_mem _ (ih h)
/-- all keys of a table -/
def Keys (c : CT) (l : List (Str × Option Str)) : Prop := ∀ q g, c q = some g → q ∈ l
theorem Keys.nil : Keys CT.nil [] := fun _ _ h => nomatch h
theorem Keys.add {c : CT} {l : List (Str × Option Str)} (h : Keys c l) {p : Str × Option Str} {g : List Arg → Option CRes} : Keys (c.add p g) (p :: l) := fun q g' e => by
  unfold CT.add at e
  split at e
  · rename_i e2; subst e2; exact List.mem_cons_self
  · exact List.mem_cons_of_mem _ (h q g' e)
theorem Keys.has {c : CT} {l : List (Str × Option Str)} (h : Keys c l) {m : Str} {cs : List Str} (hl : ∀ q ∈ l, q.2 = some m → q.1 ∈ cs) : ∀ C g, c (C, some m) = some g → C ∈ cs := fun C g e => hl _ (h _ g e) rfl
end Pd
/-! Pd24: != of objects with an == of their own -/
namespace Pd
open PySem PySem.Spec L2
variable [Ext]
section
variable {M : Model} {prog : Program} {w : World} {A : Around} {E : Value → Shared → Prop} {s : Shared} {K : PySem.W.Frag} {x C f : Addr} {ox : Obj} {od : Option Obj}
end
section
variable {X : Cx} {ca : PySem.W.Frag} {c : CT} {W : WX} {pos : Pos} {a b' : Expr} {fa fb : SE} {cl : List Str} {fl : List (Str × Str)}
end
end Pd
/-! Pd25: enumerate over a list or a tuple -/
namespace Pd
open PySem PySem.Spec L2 PyProof.Rows
variable [Ext]
section
variable {prog : Program} {w : World} {A : Around} {E : Value → Shared → Prop} {s : Shared}
end
/-! ### over the plain data -/
section
variable {X : Cx} {ca : PySem.W.Frag} {c : CT} {W : WX} {pos : Pos}
end
end Pd
/-! Pd26: dict comprehensions, the keys plain or tuples -/
namespace Pd
open PySem PySem.Spec L2 PyProof.Rows
variable [Ext]
/-- what a new dict is: for plain keys, for tuples -/
inductive Emp : HO → Prop where
  | k : Emp (.dK [])
  | t : Emp (.dT [])
section
variable {X : Cx}
end
end Pd
/-! Pd27: dict comprehensions over the plain data -/
namespace Pd
open PySem PySem.Spec L2
variable [Ext]
inductive EmpC : Cell → HO → Prop where
  | k : EmpC (.dk []) (.dK [])
  | t : EmpC (.dt []) (.dT [])
theorem EmpC.em {c0 : Cell} {o0 : HO} (h : EmpC c0 o0) : Emp o0 := by
  cases h
  · exact .k
  · exact .t
section
variable {ca : PySem.W.Frag} {G H : Hp}
theorem EmpC.flat {c0 : Cell} {o0 : HO} (h : EmpC c0 o0) : c0.flat = true := by cases h <;> rfl
end
section
variable {X : Cx} {ca : PySem.W.Frag} {c : CT} {W : WX} {pos : Pos}
end
end Pd
/-! Pd28: all, any of lists of Bools; reversed(list), reversed(range(n)) -/
namespace Pd
open PySem PySem.Spec L2 PyProof.Rows
variable [Ext]
section
variable {X : Cx} {ca : PySem.W.Frag} {c : CT} {W : WX} {pos : Pos} {G H : Hp}
theorem Reps.tail {v : V} {d : D} {vs : List V} {ds : List D} (r : Reps ca G (v :: vs) (d :: ds)) : Rep ca G v d ∧ Reps ca G vs ds :=
  ⟨r.at_ 0 v d (by simp) (by simp), ⟨by have := r.len; simpa using this, fun i u e h1 h2 => r.at_ (i + 1) u e (by simpa using h1) (by simpa using h2)⟩⟩
/-! ### reversed -/
end
end Pd
/-! Pd29: list comprehensions of two clauses -/
namespace Pd
open PySem PySem.Spec L2
variable [Ext]
section
variable {X : Cx} {ca : PySem.W.Frag} {c : CT} {W : WX} {pos : Pos}
end
end Pd
/-! Pd30: dict comprehensions of two clauses, at the machine -/
namespace Pd
open PySem PySem.Spec L2 PyProof.Rows
variable [Ext]
section
variable {pg : Program} {wo : World} {Ar : Around} {Rs : Result → Shared → Prop} {sh : Shared} {kx vx tx src tx1 src1 : Expr} {cond cond1 : List Expr} {sc : Scope} {pos : Pos} {itv : Value} {dd : Addr} {en : PySem.Env}
end
end Pd
/-! Pd31: dict comprehensions of two clauses, over the plain data -/
namespace Pd
open PySem PySem.Spec L2 PyProof.Rows
variable [Ext]
section
variable {X : Cx}
end
section
variable {X : Cx} {ca : PySem.W.Frag} {c : CT} {W : WX} {pos : Pos}
end
end Pd
/-! Pd32: the rules for comprehensions of two clauses; a def in two readings -/
namespace Pd
open PySem PySem.Spec L2 PyProof.Rows
variable [Ext]
section
variable {X : Cx} {ca : PySem.W.Frag} {c : CT} {W : WX} {pos : Pos}
/-! ### a def in two readings: which one, its parameter i tells -/
end
end Pd
/-! Pd33: a name that is read for the last time hands its object on -/
namespace Pd
open PySem PySem.Spec L2 PyProof.Rows
variable [Ext]
section
variable {X : Cx} {ca : PySem.W.Frag} {c : CT} {W : WX} {pos : Pos} {G H : Hp}
end
end Pd
/-! Pd34: the head's run looked at, level by level -/
namespace Pd
open PySem PySem.Spec PySem.W PySem.Calls PyProof.Rows
/-- what an object names, a class's own bases left out -/
def refsC (o : Obj) : List Addr := match o.data with
  | .seq its _ => its.toList.flatMap He.refV
  | .dict es _ => es.toList.flatMap fun e => He.refV e.val
  | .func fd => He.refV fd.code ++ He.refV fd.defaults
  | .cls cd => [cd.ns]
  | .fields vs => vs.toList.flatMap He.refV
  | _ => []
def upC (g : Addr → Option Obj) (as : List Addr) : List Addr := as.flatMap fun a => match g a with
  | some o => refsC o
  | none => []
/-- level by level; nothing is looked at twice -/
def asC (g : Addr → Option Obj) : Nat → List Addr → List Addr
  | 0, as => as
  | n + 1, as => as ++ asC g n (upC g as)
def obsPC (n : Nat) (ex : PySem.W.Frag → Bool) (fn : List DefP) (g : Addr → Option Obj) : AlP := obsP ex fn (He.frG g (PySem.cStatics :: asC g n [mainGlobals]))
def hookC (n : Nat) (ex : PySem.W.Frag → Bool) (fn : List DefP) : PySem.W.Hook where
  α := AlP
  obs := fun s => obsPC n ex fn s.heap.get?
  val := fun _ => valP fn
  says := fun _ h => ∃ K : PySem.W.Frag, K.In h ∧ obsP ex fn K = valP fn
  of := fun _ _ e => ⟨_, He.frG_in, e⟩
  keeps := fun _ _ _ ⟨K, hK, e⟩ k => ⟨K, PySem.W.Frag.In.keeps hK k, e⟩
theorem obsPC_eq {n : Nat} {ex : PySem.W.Frag → Bool} {fn : List DefP} {g : Addr → Option Obj} {s : Shared} (h : ∀ a, g a = s.heap.get? a) : obsPC n ex fn g = (hookC n ex fn).obs s := by
  have e : g = s.heap.get? := funext h
  rw [e] <;> rfl
end Pd
/-! Pd35: objects of one's own are lent for the time of an expression whose value is a number, a truth value or None -/
namespace Pd
open PySem PySem.Spec L2 PyProof.Rows
variable [Ext]
section
variable {X : Cx} {ca : PySem.W.Frag} {c : CT} {W : WX} {pos : Pos} {G H : Hp}
theorem Rel.more {b : Bs} {env : Env} {σ : L2.St} {H' : Hp} (R : Rel ca b env σ G H) (s : Same H H') : Rel ca b env σ G H' := by
  refine ⟨fun a o h => s _ _ (R.sub a o h), R.g0, fun a o h0 nb no ns => s _ _ (R.fr a o h0 nb no ns), fun a h => R.dom a ?_, R.new, R.len, fun i sl es => ?_, R.apart, R.deep.to (R.backs s) R.deep.nf⟩
  · cases e : H a with
    | none => rfl
    | some o => rw [s _ _ e] at h; cases h
  · obtain ⟨v, e1, r⟩ := R.slots i sl es
    refine ⟨v, e1, ?_⟩
    cases sl with
    | sh d => exact r
    | own cl =>
      obtain ⟨a, e2, r1, r2⟩ := r
      exact ⟨a, e2, r1.heapS s, r2⟩
    | brw cl =>
      obtain ⟨a, e2, r1, r2⟩ := r
      exact ⟨a, e2, r1.heapS s, r2⟩
    | why x => exact r
end
end Pd
/-! Pd36: the length of a dict whose keys are tuples -/
namespace Pd
open PySem PySem.Spec L2 PyProof.Rows
variable [Ext]
end Pd
/-! Pd37: raise -/
namespace Pd
open PySem PySem.Spec L2 PyProof.Rows
variable [Ext]
theorem Tower.nil1 {P : Program} {w : World} {K : PySem.W.Frag} {mg : Str → Option Value} {base : Heap} {k : Nat} : Tower P w K mg base k CT.nil := ⟨(fun p g h => nomatch h), (fun C m g h => nomatch h), (fun p g h => nomatch h)⟩
/-! ### what the written part says of an exception class -/
def oexB (K : PySem.W.Frag) (C : Addr) : Bool := match K.lookup C with
  | some ⟨.type "type", _, .cls cd, sl⟩ => (match cd.mro, sl.toList with
    | .ref C' :: bm, [_, _, _, _, some (.builtin n), _] => decide (C' = C) && (decide (n = "ValueError.__new__") && (!cd.hasDel && (cd.hasDict && PySem.HandSPX.refsVE bm)))
    | _, _ => false)
  | _ => false
theorem oexB_ok {K : PySem.W.Frag} {C : Addr} (q : oexB K C = true) : ∃ nm q N bs bm sn sub ab col dd k0 k1 k2 k3 k5, K.lookup C = some (excClassObj nm q C N bs bm true sn sub ab col dd k0 k1 k2 k3 k5 "ValueError.__new__") ∧ PySem.HandSPX.refsVE bm = true := by
  unfold oexB at q
  split at q
  · rename_i dd cd sl ho
    split at q
    · rename_i C' bm k0 k1 k2 k3 n k5 hm hs
      simp only [Bool.and_eq_true, decide_eq_true_eq, Bool.not_eq_true'] at q
      obtain ⟨rfl, rfl, hdel, hdict, ht⟩ := q
      obtain ⟨nm, bs, mro, ns, qn, hd, sn, sub, ab, col, del⟩ := cd
      dsimp only at hm hdel hdict
      subst hm hdel hdict
      have hsl : sl = #[k0, k1, k2, k3, some (.builtin "ValueError.__new__"), k5] := by
        obtain ⟨l⟩ := sl
        simp only at hs
        rw [hs]
      subst hsl
      exact ⟨nm, qn, ns, bs, bm, sn, sub, ab, col, dd, k0, k1, k2, k3, k5, ho, ht⟩
    · cases q
  · cases q
/-- the class is an exception's, at C -/
def xcB (K : PySem.W.Frag) (C : Addr) : Bool := oexB K C && (decide (PySem.W.findIn K (.ref C) "__setattr__" = some (some (.builtin "object.__setattr__"))) && (decide (PySem.W.subIn K (.ref C) (.type "BaseException") = some true) && (decide (PySem.W.typeIn K (.ref C) = some (.type "type")) && (PySem.W.keepIn K (.ref C) &&
  (xfB K C && ((PySem.W.clsIn K C).isSome && (decide (PySem.W.findIn K (.ref C) "__class__" = some (some (.builtin "object.__class__"))) && (decide (PySem.W.specialIn K (.builtin "object.__class__") "__get__" = some (some (.builtin "getset_descriptor.__get__"))) && (decide (PySem.W.takesIn K (.builtin "object.__class__") = some true) &&
  decide (PySem.W.mroIn K C (.type "object") = some true))))))))))
structure XcK (K : PySem.W.Frag) (C : Addr) : Prop where
  oex : OexC K C
  xf : XfC K C
  cl : (PySem.W.clsIn K C).isSome = true
  ca : PySem.W.findIn K (.ref C) "__class__" = some (some (.builtin "object.__class__"))
  cn : PySem.W.specialIn K (.builtin "object.__class__") "__get__" = some (some (.builtin "getset_descriptor.__get__"))
  ct : PySem.W.takesIn K (.builtin "object.__class__") = some true
  cm : PySem.W.mroIn K C (.type "object") = some true
theorem xcB_ok {K : PySem.W.Frag} {C : Addr} (h : xcB K C = true) : XcK K C := by
  unfold xcB at h
  simp only [Bool.and_eq_true, decide_eq_true_eq] at h
  obtain ⟨h1, h2, h3, h4, h5, h6, h7, h8, h9, h10, h11⟩ := h
  exact ⟨⟨oexB_ok h1, h2, h3, h4, h5⟩, xfB_ok h6, h7, h8, h9, h10, h11⟩
/-! ### Base.__init__(self, "text") -/
def biB (K : PySem.W.Frag) (C : Addr) : Bool := PySem.W.readsIn K C (.type "type") && (decide (PySem.W.specialIn K (.ref C) "__getattribute__" = some (some (.builtin "type.__getattribute__"))) && match PySem.W.findCls K (.ref C) (.type "type") "__init__" with
  | some (.val (.builtin n)) => decide (n = "ValueError.__init__")
  | _ => false)
theorem biB_ok {K : PySem.W.Frag} {C : Addr} (h : biB K C = true) : PySem.W.readsIn K C (.type "type") = true ∧ PySem.W.specialIn K (.ref C) "__getattribute__" = some (some (.builtin "type.__getattribute__")) ∧ PySem.W.findCls K (.ref C) (.type "type") "__init__" = some (.val (.builtin "ValueError.__init__")) := by
  unfold biB at h
  simp only [Bool.and_eq_true, decide_eq_true_eq] at h
  obtain ⟨h1, h2, h3⟩ := h
  split at h3
  · rename_i n e
    cases of_decide_eq_true h3
    exact ⟨h1, h2, e⟩
  · cases h3
section
variable {X : Cx} {o e : Expr} {es : List Expr} {to te : TE} {ta : TA} {f B : Str} {p p' p1 p2 pos : Pos}
theorem pe_binit {CB : Addr} {pl : Sem Bool} (hg : Gl X B) (hm : X.mg B = some (.ref CB)) (hb : biB X.K CB = true) (ha : PA X (e :: es) ta) (hdb : (B == ("__debug__" : Str)) = false)
    (hc : eval (.Call (.Attribute (.Name B p1) "__init__" p2) (e :: es) [] pos) X.env = (do
      let ov ← eval (.Name B p1) X.env
      standAt p2.atName
      let (f, first) ← holding [ov] (getMethod ov "__init__" pl)
      callWith pos f first (backTo pos (starEach (e :: es) X.env)) (backToKw pos (keywordEach [] X.env))) := by rfl)
    (he : starEach (e :: es) X.env = (false, eval e X.env) :: starEach es X.env := by rfl) (hpl : (backTo pos (starEach es X.env)).any (·.1) = false := by rfl) :
    PE X (.Call (.Attribute (.Name B p1) "__init__" p2) (e :: es) [] pos) (tVeI X.K ta) := by
  obtain ⟨hr, hga, hfc⟩ := biB_ok hb
  refine ⟨fun pins s σ H Q I h => ?_⟩
  refine PySem.W.methodCall_KW (ld_glob I hg hm ?_ hdb) hc
  refine PySem.W.method_cls I.kIn hga (PySem.W.cls_value I.kIn hr hfc rfl ?_)
  show wpAny _ _ (callWith pos (Value.builtin "ValueError.__init__") [] (backTo pos (starEach (e :: es) X.env)) []) _ _ _
  refine PyProof.Rows.callWith_method1 (thn (ha.run pos pins _ σ H _ (I.tok _) h) fun us s1 ⟨vs, H1, I1, r1, a, C, ws, ev, hl, T, ea, q⟩ => ?_) he hpl
  subst ev
  cases r1 with
  | @cons _ u0 _ ur ra rw' =>
    obtain rfl : u0 = Value.ref a := ra
    have hlen : ur.length ≤ sizeLine := by
      rw [← Paired.length rw', sizeLine_eq]
      omega
    exact oinit_ok T I1 ea hlen fun s' J => ⟨.non, H1, J, rfl, q⟩
end
/-! ### __init__(self, x): Base.__init__(self, "text"); self.f = x -/
def spXI (C : Addr) (f : Str) : Sp := fun vs H Q E => ∃ a v, vs = [.ref a, v] ∧ H a = some (exo a C none) ∧ ∀ dx, H dx = none → dx ≠ a → Q .non (upd (upd H dx (exd dx [(f, v)])) a (exo a C (some dx)))
def tXI (K : PySem.W.Frag) (m f : Str) : TS := tSeq (tDrop (tVeI K (tCons (tVar 0) (tCons (tC (.str m)) tNil)))) (tOst K f (tVar 0) (tVar 1))
section
variable {P : Program} {w : World} {K : PySem.W.Frag} {mg : Str → Option Value} {base : Heap} {xn qual x f m : Str} {params : Arguments} {body : List Stmt} {scope : Scope} {kws : List (Str × V)} {fa C : Addr} {fd : FuncData}
theorem xi_fn (F : FunD K xn qual params body scope [] kws fa fd) (S : FnScope ["self", x] ["self", x] scope) (hT : OexC K C) (hn : PySem.W.findIn K (.ref C) f = some none)
    (hb : ∀ (cdv : Value) (A : Around) (outer : List PySem.Env) (s : Shared) (H : Hp) (E : XK), PSs (cxOf (CX P w) P w K mg base ["self", x] qual scope fa cdv A outer s H E) body (tXI K m f)) : FnOk P w K mg base (CX P w) 1 fa fd ["self", x] (spXI C f) := by
  refine F.ok S (fun vs H Q E h => ?_) fun cdv A outer s H vs Q E hr hsp => ⟨_, hb cdv A outer s H E, ?_⟩
  · obtain ⟨a, v, rfl, _⟩ := h
    rfl
  · obtain ⟨a, v, rfl, ha, q⟩ := hsp
    exact ⟨.ref a, rfl, a, C, [.str m], rfl, by simp, hT, ha, v, rfl, .ref a, rfl, a, C, rfl, hT, hn, .inl ⟨ha, fun dx h1 h2 => q dx h1 h2⟩⟩
end
/-! ### raise -/
structure MkX (P : Program) (w : World) (K : PySem.W.Frag) (mg : Str → Option Value) (base : Heap) (C f : Str) : Prop where
  xc : OexC K (He.ga K C)
  ini : PySem.W.findIn K (.ref (He.ga K C)) "__init__" = some (some (.ref (He.fAd K (C, some "__init__"))))
  ty : PySem.W.typeIn K (.ref (He.fAd K (C, some "__init__"))) = some (.type "function")
  gc : mg C = some (.ref (He.ga K C))
  fn : ∃ fd x, FnOk P w K mg base (CX P w) 1 (He.fAd K (C, some "__init__")) fd ["self", x] (spXI (He.ga K C) f) ∧ Binds K fd ["self", x] []
structure MkT (K : PySem.W.Frag) (mg : Str → Option Value) (C : Str) : Prop where
  xi : PySem.W.excIn K (He.ga K C) PySem.HandSPX.veTail "ValueError.__new__" = true
  kp : PySem.W.keepIn K (.ref (He.ga K C)) = true
  ex : PySem.W.subIn K (.ref (He.ga K C)) (.type "BaseException") = some true
  ty : PySem.W.typeIn K (.ref (He.ga K C)) = some (.type "type")
  gc : mg C = some (.ref (He.ga K C))
def sRaiseF (C f : Str) (fe : SE) : SS := fun c env => bindS (fe c env) fun v e => (take e v).map fun p => .exc ⟨C, [(f, p.1)]⟩ p.2
section
variable {X : Cx} {ca : PySem.W.Frag} {c : CT} {W : WX} {C f m : Str} {p p1 p2 pos : Pos} {e : Expr} {fe : SE} {j : Nat}
theorem passF : Passes (CX X.prog X.w) X (fun _ _ _ => False) := fun pins σ H s e s' I h => by
  obtain ⟨_, _, _, _, _, _, _, _, _, _, _, _, z⟩ := h
  exact z.elim
theorem RepK.one {κ : Type} {G : Hp} {v : V} {d : D} (k : κ) (r : Rep ca G v d) : RepK ca G [(k, v)] [(k, d)] := RepK.cons rfl r RepK.nil
theorem pmk_oexN {CT : CXT} {y : Str} {D fI : Addr} {k : Nat} {fd : FuncData} {ps : List Str} {sp : Sp} {es : List Expr} {ta : TA} {q0 q1 : Pos} (T : OexC X.K D) (iD : PySem.W.findIn X.K (.ref D) "__init__" = some (some (.ref fI))) (tI : PySem.W.typeIn X.K (.ref fI) = some (.type "function"))
    (FI : FnOk X.prog X.w X.K X.mg X.base CT k fI fd ps sp) (hr : Room (k + 1) X.A) (hb : Binds X.K fd ps []) (hx : Passes CT X (fun _ _ _ => False)) (hg : Gl X y) (hm : X.mg y = some (.ref D)) (ha : PA X (e :: es) ta)
    (hdb : (y == ("__debug__" : Str)) = false) (he : starEach (e :: es) X.env = (false, eval e X.env) :: starEach es X.env) (hpl : (backTo q1 (starEach es X.env)).any (·.1) = false) :
    L2N.PMk X (.Call (.Name y q0) (e :: es) [] q1) (tMkO D sp [] ta) := by
  intro pins s σ H Q I hyp
  obtain ⟨nm, qn, NN, bs, bm, sn, sub, ab, col, dd, k0, k1, k2, k3, k5, hD, hbm⟩ := T.cls
  refine wpAny_Call_Name_kw (ld_glob I hg hm (PySem.W.callWith_K (h₀ := X.base) I.ok.mod.kin T.kC (thn (ha.run q1 pins s σ H _ I hyp) fun us s1 hh => ?_) he hpl) hdb)
  obtain ⟨vs, H1, J1, rv1, hz, want⟩ := hh
  refine ⟨J1.kIn, ?_⟩
  obtain ⟨hp, gg, dr, tk, os⟩ := s1
  let at_ : Addr := hp.objs.size + 1
  let h1 : Heap := (hp.push (PySem.W.kdv_tup us)).push (PySem.HandSPX.excO D hp.objs.size)
  have big : hp.objs.size ≤ at_ := Nat.le_succ _
  have more : ∀ b o, hp.get? b = some o → h1.get? b = some o := fun b o z => Heap.get?_push_of_some _ (Heap.get?_push_of_some _ z)
  have here : h1.get? at_ = some (PySem.HandSPX.excO D hp.objs.size) := by
    show ((hp.push (PySem.W.kdv_tup us)).push (PySem.HandSPX.excO D hp.objs.size)).get? (hp.objs.size + 1) = _
    heap_get
  have J2 : Inv X pins σ (upd H1 at_ (exo at_ D none)) ⟨h1, gg, dr, tk, os⟩ := J1.laid (t' := tk) more big (exo_ok here)
  have w1 := want at_ (J1.hok.fresh big)
  rw [List.append_nil] at w1
  have rv2 : Vals (V.ref at_ :: vs) (Value.ref at_ :: us) := .cons rfl rv1
  have ll : (Value.ref at_ :: us ++ []).length = ps.length := by rw [List.append_nil, ← rv2.length]; exact FI.len _ _ _ _ w1
  have lu : us.length ≤ sizeLine := by rw [← Paired.length rv1, sizeLine_eq]; omega
  have bb := hb _ (Value.ref at_ :: us) J2.kIn ll
  rw [List.append_nil] at bb
  show wpAny _ _ (call (.ref D) us) _ _ _
  refine wpAny_call (PySem.HandSPX.call_own PySem.F.excBase_ValueError (fun Y => PySem.HandSPX.refsVE_contains Y bm hbm) (J1.kIn _ _ hD) (PySem.W.looks_findIn J1.kIn iD) (fun self => PySem.W.bind_fn J1.kIn self tI) lu ?_)
  refine codeAny_mono (FI.run _ X.stack _ _ ⟨Value.ref at_ :: us, []⟩ (Value.ref at_ :: us) _ _ (fun _ _ _ => False) (hr.make D us []) (J2.env0.make D us []) bb rv2 w1) fun r s2 z => ?_
  cases r with
  | error er => exact hx pins σ _ _ er s2 J2 z
  | ok fl =>
    cases fl with
    | next => exact z.elim
    | brk => exact z.elim
    | cont => exact z.elim
    | ret u =>
      obtain ⟨v, H2, os2, bare2, un2, hok2, rv, ev, dx, fs, ea, ed, hd1, q2⟩ := z
      subst ev
      obtain ⟨h2, g2, d2, t2, os3⟩ := s2
      obtain ⟨t0, G, J, kG, ge, hoe, na⟩ := mk_end0 (d2 := d2) (t2 := t2) J1 big more un2 hok2 os2 bare2 ea ed hd1
      exact ⟨rv, at_, _, _, ⟨G, g2, d2, t2, os3⟩, _, .ref D, some dx, rfl, J, kG, ge, hoe, ⟨rfl, rfl, fun ws hw => by cases hw; rfl⟩, rfl, rfl, na, rfl, bare2, raises_own T.exC T.tyC, q2⟩
theorem s_raiseF (M : MkX X.prog X.w X.K X.mg X.base C f) (hr : Room 2 X.A) (tk : Takes X W) (he : PE X e (rdE ca c W fe)) (hK : X.K = ca := by rfl) (hc : X.calm = true := by rfl) (hg : Gl X C := by rfl) (hdb : (C == ("__debug__" : Str)) = false := by decide)
    (hs : starEach [e] X.env = (false, eval e X.env) :: starEach [] X.env := by rfl) (hpl : (backTo p1 (starEach [] X.env)).any (·.1) = false := by rfl) : PS X (.Raise (some (.Call (.Name C p) [e] [] p1)) none pos) (rdS ca c W (sRaiseF C f fe)) := by
  subst hK
  obtain ⟨fd, x, F1, hb⟩ := M.fn
  refine PS_weak (L2N.ps_raise hc tk (pmk_oexN M.xc M.ini M.ty F1 hr hb passF hg M.gc (pa_cons he pa_nil hs) hdb hs hpl)) ?_
  rintro D σ H ⟨b, env, G, o, R, e, post⟩
  refine rdS_bind R e post fun v e1 u G1 H1 _ R1 vr sg e => ?_
  obtain ⟨G2, s2, R2, hd⟩ := VRel.held R1 vr
  cases et : take e1 v with
  | none => rw [et] at e; cases e
  | some q =>
    rw [et] at e
    cases e
    obtain ⟨G3, s3, R3, r3⟩ := hd.take (d := q.1) (env' := q.2) R2 et
    refine ⟨by simp, fun a ha => ⟨a, u, rfl, upd_same, fun dx hdx ne => ⟨rfl, dx, [(f, u)], upd_same, ?_, ?_, ?_⟩⟩⟩
    · rw [upd_ne ne, upd_same]
    · rw [upd_ne ne] at hdx; exact hdx
    · rw [upd_ne ne] at hdx
      have eh : upd (del (upd (upd (upd H1 a (exo a (He.ga X.K C) none)) dx (exd dx [(f, u)])) a (exo a (He.ga X.K C) (some dx))) a) dx (.xd [(f, u)]) = upd H1 dx (.xd [(f, u)]) := by
        funext z
        by_cases h1 : z = dx
        · subst h1; rw [upd_same, upd_same]
        · rw [upd_ne h1, upd_ne h1]
          by_cases h2 : z = a
          · subst h2; rw [del_same, ha]
          · rw [del_ne h2, upd_ne h2, upd_ne h1, upd_ne h2]
      rw [eh]
      obtain ⟨R4, s4⟩ := R3.growFz (o := .xd [(f, u)]) hdx
      exact post _ _ σ _ _ R4 ⟨rfl, [(f, u)], upd_same, RepK.one f (r3.mono s4)⟩
end
end Pd
/-! Pd38: try, except .. as .. -/
namespace Pd
open PySem PySem.Spec L2 PyProof.Rows

/-! ### at the machine: several clauses, each with a name -/
abbrev ClT := Value × Nat × (Addr → Value → Option Addr → TS)
/-- the ends of a suite whose name stands in slot i -/
abbrev gone (Dn : Ends) (i : Nat) : Ends := { nx := fun z J => Dn.nx (z.set i none) J, rt := Dn.rt, bk := fun z J => Dn.bk (z.set i none) J, ct := fun z J => Dn.ct (z.set i none) J }
def wNamed (ca : PySem.W.Frag) (Wo : WX) (Dn : Ends) : List ClT → WX
  | [] => Wo
  | q :: r => fun cls d σ H => ∃ k, PySem.W.exmOne ca cls q.1 = some k ∧ (k = true → ∀ a, H a = none → q.2.2 a cls d (gone Dn q.2.1) (σ.set q.2.1 (some (.ref a))) H) ∧ (k = false → wNamed ca Wo Dn r cls d σ H)
inductive HdsN (X : Cx) : List ExceptHandler → List ClT → Prop
  | nil : HdsN X [] []
  | cons {x n : Str} {v : Value} {i : Nat} {ts : Addr → Value → Option Addr → TS} {s0 : Stmt} {su : List Stmt} {np hp : Pos} {hds : List ExceptHandler} {l : List ClT} (nd : X.N.Nodup) (hi : X.N[i]? = some n) (hl : X.env.kindOf n = some .local) (hx : Names X x v)
      (ok : ∀ (a : Addr) (oe : Obj) (cls : Value) (d : Option Addr) (pn : List (Addr × Obj)), L2N.Zn cls d oe → (∃ ws, oe.data = .fields ws) → PSs (X.suite a ((a, oe) :: pn)) (s0 :: su) (ts a cls d)) (r : HdsN X hds l) :
      HdsN X (.ExceptHandler (some (.Name x np)) (some n) (s0 :: su) hp :: hds) ((v, i, ts) :: l)
section
variable {X : Cx} {body : List Stmt} {h0 : ExceptHandler} {hds : List ExceptHandler} {l : List ClT} {pos : Pos} {tb : WX → TS} {Wo : WX}
theorem SP_try {pins : List (Addr × Obj)} {xe : Value → Shared → Prop} {Dn : Ends} {fl : Flow} {s : Shared} (ok : X.Ok) (z : SP (X.tr (X.pn ++ pins) xe) [] Dn fl s) : SP X pins Dn fl s := by
  cases fl with
  | next => obtain ⟨σ1, H1, J, q⟩ := z; exact ⟨σ1, H1, J.ofTry ok, q⟩
  | brk => obtain ⟨σ1, H1, J, q⟩ := z; exact ⟨σ1, H1, J.ofTry ok, q⟩
  | cont => obtain ⟨σ1, H1, J, q⟩ := z; exact ⟨σ1, H1, J.ofTry ok, q⟩
  | ret u => obtain ⟨v, σ1, H1, J, rv, q⟩ := z; exact ⟨v, σ1, H1, J.ofTry ok, rv, q⟩
theorem ps_try_named (hs : X.stack = X.env :: X.outer) (hf : X.env.frame = some X.env.locals) (tk : Takes X Wo)
    (hb : ∀ (Wi : WX) (pn : List (Addr × Obj)) (xe : Value → Shared → Prop), Takes (X.tr pn xe) Wi → PassesOwn (model X.prog X.w) X.A X.env xe → PSs (X.tr pn xe) body (tb Wi)) (hh : HdsN X (h0 :: hds) l) :
    PS X (.Try body (h0 :: hds) [] [] pos) (fun Dn σ H => tb (wNamed X.K Wo Dn l) Dn σ H) := by
  refine ⟨fun pins s σ H Dn I hyp => ?_⟩
  have okX := I.ok
  have fr : X.A.frames = some (X.env :: X.outer) := okX.frames.trans (congrArg some hs)
  refine wpAny_Try_except (wpAny_mono ((hb (wNamed X.K Wo Dn l) (X.pn ++ pins) _ (fun u s1 xx => ?_) PassesOwn.looking).run [] s σ H Dn (I.toTry _) hyp) (fun fl s1 z => ?_) fun _ _ z => z)
  · obtain ⟨a, B, sI, pins1, σ1, H1, cls, d, rfl, Jt, nb, up, sky, na, os, ag, want⟩ := xx
    have J : Inv X pins σ1 H1 sI := Jt.ofTry okX
    have sky1 : Sky B (X.env :: X.outer) a (L2N.Zn cls d) X.env.locals s1.heap := hs ▸ sky
    show wpAny (model X.prog X.w) X.A (noteFrame (.ref a) X.env) _ _ _
    refine L2N.Sky.land L2N.Zn.steady fr hf sky1 fun h3 fl3 up3 => ?_
    obtain ⟨oe3, ws3, he3, hz3, hd3⟩ := fl3.there
    have J3 : Inv X pins σ1 H1 { s1 with heap := h3 } := J.landed nb fl3.1 (up.trans up3) os ag
    have nfr : a ∉ frs (X.env :: X.outer) := fun hm => by
      obtain ⟨_, o1, e1, hn⟩ := fl3.2.2.1.mem hm
      rw [he3] at e1
      cases e1
      exact hn _ hd3
    have nL : a ≠ X.env.locals := fun q => nfr (List.mem_filterMap.mpr ⟨X.env, List.mem_cons_self, hf.trans (congrArg some q.symm)⟩)
    have nF : a ∉ X.fs := fun hm => by
      obtain ⟨e1, m1, q1⟩ := List.mem_filterMap.mp hm
      exact nfr (List.mem_filterMap.mpr ⟨e1, List.mem_cons_of_mem _ m1, q1⟩)
    have S3 := J3.suite he3 hd3 na nL nF
    suffices go : ∀ {hs' : List ExceptHandler} {l' : List ClT}, HdsN X hs' l' → wNamed X.K Wo Dn l' cls d σ1 H1 → wpAny (model X.prog X.w) X.A (handleBy (.ref a) X.env hs') (SP X pins Dn) X.xe { s1 with heap := h3 } from go hh want
    intro hs' l' hk
    induction hk with
    | nil =>
      intro q
      refine wpAny_handleBy_nil ?_
      obtain ⟨_, _, _, oeT, wsT, T, _, _, heT, _, hdT, h1T, _⟩ := id fl3
      have last : wpAny (model X.prog X.w) X.A (setFlight (.ref a) X.env.frame) (fun _ s4 => wpAny (model X.prog X.w) X.A (throw (.ref a) : Sem Flow) (SP X pins Dn) X.xe s4) X.xe { s1 with heap := h3 } := by
        rw [hf]
        exact HandSPX.setFlight_upZ fl3 fun h4 hh4 up4 => wpAny_throw (tk _ _ ⟨a, B, sI, pins, σ1, H1, cls, d, rfl, J, nb, (up.trans up3).trans up4, .inr (.inr (by rw [hs]; exact hh4)), na, os, ag, q⟩)
      unfold PySem.passOn
      refine wpAny_bind (wpAny_field heT hdT h1T ?_)
      rw [if_neg (by simp)]
      first
        | exact wpAny_bind (wpAny_pure (wpAny_bind last))
        | exact wpAny_bind last
    | @cons x n v i ts s0 su np hp hds2 l2 nd hi hl hx okS r ih =>
      intro q
      obtain ⟨k, hk1, yes, no⟩ := q
      refine wpAny_handleBy_cons (codeAny_handlers_test ?_) (fun z => nomatch z)
      have lt : PySem.W.Looks (model X.prog X.w) h3 (typeOf (.ref a)) cls := fun A1 Q1 E1 s2 k2 z => wpAny_typeOf_ref (k2 _ _ he3) (by rw [hz3.1]; exact z)
      have lm := PySem.W.exm_one (M := model X.prog X.w) (J3.kIn) lt hk1
      have tst : ∀ {Q1 : Value → Shared → Prop} {E1 : Value → Shared → Prop}, Q1 v { s1 with heap := h3 } → wpAny (model X.prog X.w) (X.A.mark (some (.ref a))) (eval (.Name x np) X.env) Q1 E1 { s1 with heap := h3 } := fun {Q1 E1} z => by
        obtain ⟨hg, hdb, hm | ⟨hm, hv, hn⟩⟩ := hx
        · exact ld_glob (X := X.suite a ((a, oe3) :: (X.pn ++ pins))) S3 hg hm z hdb
        · exact ld_blt (X := X.suite a ((a, oe3) :: (X.pn ++ pins))) S3 hg hm hv z hn hdb
      refine tst (lm.here ?_)
      cases k with
      | false => exact ih (no rfl)
      | true =>
        refine codeAny_handlers_suite_as (HandSPX.lands_againZ fl3 fun h4 fl4 up4 => ?_)
        obtain ⟨oe4, ws4, he4, hz4, hd4⟩ := fl4.there
        have J4 : Inv X pins σ1 H1 { s1 with heap := h4 } := J.landed nb fl4.1 ((up.trans up3).trans up4) os ag
        refine store_ok (X := X.suite a ((a, oe4) :: (X.pn ++ pins))) (v := .ref a) (J4.suite he4 hd4 na nL nF) nd hi (.inl hl) rfl (fun s5 S5 => ?_) (.inr hl)
        have fin : ∀ {σ6 : L2.St} {H6 : Hp} {s6 : Shared} {Q6 : Shared → Prop}, Inv (X.suite a ((a, oe4) :: (X.pn ++ pins))) [] σ6 H6 s6 → (∀ s7, Inv X pins (σ6.set i none) H6 s7 → Q6 s7) →
            wpAny (model X.prog X.w) X.A (do bindName X.env n .none; unbindBehindTheSuite X.env n hp) (fun _ s7 => Q6 s7) X.xe s6 := fun {σ6 H6 s6 Q6} S6 z => gone_ok (S6.unsuite okX) nd hi hl z
        refine wpAny_mono ((okS a oe4 cls d (X.pn ++ pins) hz4 ⟨_, hd4⟩).run [] s5 _ H1 _ S5 (yes rfl a na)) (fun fl s6 z => ?_) (fun _ _ z => z.elim)
        cases fl with
        | next => obtain ⟨σ6, H6, S6, q6⟩ := z; exact fin S6 fun s7 J7 => ⟨_, _, J7, q6⟩
        | brk => obtain ⟨σ6, H6, S6, q6⟩ := z; exact fin S6 fun s7 J7 => ⟨_, _, J7, q6⟩
        | cont => obtain ⟨σ6, H6, S6, q6⟩ := z; exact fin S6 fun s7 J7 => ⟨_, _, J7, q6⟩
        | ret u => obtain ⟨v6, σ6, H6, S6, r6, q6⟩ := z; exact fin S6 fun s7 J7 => ⟨_, _, _, J7, r6, q6⟩
  · have z1 := SP_try okX z
    cases fl with
    | next => exact wpAny_execs_nil z1
    | brk => exact z1
    | cont => exact z1
    | ret u => exact z1
end

/-! ### the layer's try -/
/-- own exception classes: each with those of which it is -/
abbrev XT := List (Str × List Str)
def subX (xt : XT) (a b : Str) : Option Bool := (xt.lookup a).map fun l => l.contains b
structure XtOk (K : PySem.W.Frag) (xt : XT) : Prop where
  xc : ∀ a l, xt.lookup a = some l → XcK K (He.ga K a)
structure AskX (K : PySem.W.Frag) (xt : XT) (b : Str) : Prop where
  ex : ∀ a k, subX xt a b = some k → PySem.W.exmOne K (.ref (He.ga K a)) (.ref (He.ga K b)) = some k ∧ PySem.W.kitOne K (.ref (He.ga K a)) (.ref (He.ga K b)) = some k
def noWhy (env : Env) : Bool := env.all fun s => match s with
  | some (.why _) => false
  | _ => true
theorem noWhy_at {env : Env} {i : Nat} {s : Slot} (h : noWhy env = true) (e : env[i]? = some (some s)) : ∀ x, s ≠ .why x := fun x z => by
  subst z
  have := List.all_eq_true.mp h _ (List.mem_of_getElem? e)
  cases this
/-- behind a suite -/
def endSu (i : Nat) : SO → Option SO
  | .nx e => if noWhy (e.set i none) = true then some (.nx (e.set i none)) else none
  | .ct e => if noWhy (e.set i none) = true then some (.ct (e.set i none)) else none
  | .brk e => if noWhy (e.set i none) = true then some (.brk (e.set i none)) else none
  | .ret r e => if noWhy (e.set i none) = true then some (.ret r (e.set i none)) else none
  | .exc _ _ => none
abbrev ClS := Str × Nat × SS
def catchL (xt : XT) (c : CT) : List ClS → Exc → Env → Option SO
  | [], x, env => some (.exc x env)
  | (cn, i, f) :: r, x, env => match subX xt x.cls cn with
    | some true => (match env[i]? with
      | some none => (f c (env.set i (some (.why x)))).bind (endSu i)
      | _ => none)
    | some false => catchL xt c r x env
    | none => none
def sTry (xt : XT) (f : SS) (l : List ClS) : SS := fun c env => match f c env with
  | some (.exc x e) => if noWhy e = true then catchL xt c l x e else none
  | o => o
section
variable {ca : PySem.W.Frag} {b : Bs} {env : Env} {σ : L2.St} {G H : Hp}
theorem SlotRel.ext {E1 E2 : Ext} {i : Nat} {v : V} {s : Slot} (n : ∀ x, s ≠ .why x) (r : @SlotRel E1 ca b i G H v s) : @SlotRel E2 ca b i G H v s := by
  cases s with
  | why x => exact (n x rfl).elim
  | sh d => exact r
  | own c => exact r
  | brw c => exact r
theorem Rel.setWhy {E1 : Ext} {i : Nat} {a : Addr} {cls : Value} {d : Option Addr} {x : Exc} (R : @Rel E1 ca b env σ G H) (nw : noWhy env = true) (hi : env[i]? = some none) (xr : ExcRel ca G H cls d x) :
    @Rel ⟨a, d, cls⟩ ca b (env.set i (some (.why x))) (σ.set i (some (.ref a))) G H := by
  have hl := R.len
  have il : i < env.length := (List.getElem?_eq_some_iff.mp hi).1
  have ne : ∀ {j : Nat} {s : Slot}, (env.set i (some (Slot.why x)))[j]? = some (some s) → s.mut = true → j ≠ i := fun {j s} es m z => by
    subst z
    rw [List.getElem?_set_self il] at es
    cases es
    cases m
  refine @Rel.mk ⟨a, d, cls⟩ _ _ _ _ _ _ R.sub R.g0 R.fr R.dom R.new (by simpa using R.len) (fun j s es => ?_) (fun j k s t y hjk e1 e2 m1 m2 s1 s2 => ?_) (R.deep.fewer fun j s es m => ?_)
  · by_cases hj : i = j
    · subst hj
      rw [List.getElem?_set_self il] at es
      cases es
      exact ⟨.ref a, by rw [List.getElem?_set_self (by omega)], rfl, xr.1, xr.2⟩
    · rw [List.getElem?_set_ne hj] at es
      obtain ⟨v, e1, r⟩ := R.slots j s es
      exact ⟨v, by rw [List.getElem?_set_ne hj]; exact e1, r.ext (noWhy_at nw es)⟩
  · have n1 := ne e1 m1
    have n2 := ne e2 m2
    rw [List.getElem?_set_ne (Ne.symm n1)] at e1 s1
    rw [List.getElem?_set_ne (Ne.symm n2)] at e2 s2
    exact R.apart j k s t y hjk e1 e2 m1 m2 s1 s2
  · have n1 := ne es m
    rw [List.getElem?_set_ne (Ne.symm n1)] at es
    exact ⟨es, fun p ep => by rw [List.getElem?_set_ne (Ne.symm n1)] at ep; exact ep⟩
theorem Rel.unWhy {E1 E2 : Ext} {i : Nat} (R : @Rel E1 ca b env σ G H) (nw : noWhy (env.set i none) = true) : @Rel E2 ca b (env.set i none) σ G H := by
  have f : ∀ {j : Nat} {s : Slot}, (env.set i none)[j]? = some (some s) → env[j]? = some (some s) := fun {j s} es => by
    by_cases hj : i = j
    · subst hj
      by_cases hi : i < env.length
      · rw [List.getElem?_set_self hi] at es; cases es
      · rw [List.getElem?_eq_none (by simpa using hi)] at es; cases es
    · rw [List.getElem?_set_ne hj] at es; exact es
  obtain ⟨r1, r2, r3, r4, r5, r6, r7, r8, r9⟩ := R
  refine ⟨r1, r2, r3, r4, r5, by simpa using r6, fun j s es => ?_, fun j k s t y hjk e1 e2 => r8 j k s t y hjk (f e1) (f e2), r9.fewer fun j s es m => ⟨f es, fun p ep => ep⟩⟩
  obtain ⟨v, e1, r⟩ := r7 j s (f es)
  exact ⟨v, e1, SlotRel.ext (E1 := E1) (E2 := E2) (noWhy_at nw es) r⟩
theorem RRel.unWhy {i : Nat} {u : V} {r : RV} (h : RRel ca b env σ G H u r) : RRel ca b (env.set i none) σ G H u r := by
  cases r with
  | sh d => exact h
  | fr cl =>
    have f : ∀ {y : Addr}, Free ca env σ H y → Free ca (env.set i none) σ H y := fun {y} F => F.fewer fun j s es m => ⟨(unset_some es).2, fun p ep => ep⟩
    obtain ⟨a, e1, cr, n, z, F, su⟩ := h
    exact ⟨a, e1, cr, n, z, f F, fun x hx => ⟨(su x hx).1, (su x hx).2.1, f (su x hx).2.2⟩⟩
theorem Rel.goneSt {E1 : Ext} {i : Nat} (R : @Rel E1 ca b (env.set i none) σ G H) : @Rel E1 ca b (env.set i none) (σ.set i none) G H := by
  have ne : ∀ {j : Nat} {s : Slot}, (env.set i none)[j]? = some (some s) → i ≠ j := fun {j s} es z => by
    subst z
    by_cases hi : i < env.length
    · rw [List.getElem?_set_self hi] at es; cases es
    · rw [List.getElem?_eq_none (by simpa using hi)] at es; cases es
  refine ⟨R.sub, R.g0, R.fr, R.dom, R.new, by simpa using R.len, fun j s es => ?_, fun j k s t y hjk e1 e2 m1 m2 s1 s2 => ?_, R.deep.fewer fun j s es m => ⟨es, fun p ep => by rw [List.getElem?_set_ne (ne es)] at ep; exact ep⟩⟩
  · obtain ⟨v, e1, r⟩ := R.slots j s es
    exact ⟨v, by rw [List.getElem?_set_ne (ne es)]; exact e1, r⟩
  · rw [List.getElem?_set_ne (ne e1)] at s1
    rw [List.getElem?_set_ne (ne e2)] at s2
    exact R.apart j k s t y hjk e1 e2 m1 m2 s1 s2
end
/-- the clauses, each read -/
inductive HdsR [Ext] (X : Cx) (ca : PySem.W.Frag) (xt : XT) (c : CT) : List ExceptHandler → List ClS → Prop
  | nil : HdsR X ca xt c [] []
  | cons {cn n : Str} {i : Nat} {f : SS} {s0 : Stmt} {su : List Stmt} {np hp : Pos} {hds : List ExceptHandler} {l : List ClS} (nd : X.N.Nodup) (hm : X.mg cn = some (.ref (He.ga ca cn))) (ask : AskX ca xt cn)
      (ok : ∀ (a : Addr) (oe : Obj) (cls : Value) (d : Option Addr) (pn : List (Addr × Obj)), L2N.Zn cls d oe → (∃ ws, oe.data = .fields ws) → PSs (X.suite a ((a, oe) :: pn)) (s0 :: su) (@rdS ⟨a, d, cls⟩ ca c (fun _ _ _ _ => False) f)) (r : HdsR X ca xt c hds l)
      (hi : X.N[i]? = some n := by rfl) (hl : X.env.kindOf n = some .local := by rfl) (hg : Gl X cn := by rfl) (hdb : (cn == ("__debug__" : Str)) = false := by decide) :
      HdsR X ca xt c (.ExceptHandler (some (.Name cn np)) (some n) (s0 :: su) hp :: hds) ((cn, i, f) :: l)
section
variable [E0 : Ext] {X : Cx} {ca : PySem.W.Frag} {xt : XT} {c : CT} {W : WX} {body : List Stmt} {h0 : ExceptHandler} {hds : List ExceptHandler} {f : SS} {l : List ClS} {pos : Pos}
abbrev toT (ca : PySem.W.Frag) (c : CT) (q : ClS) : ClT := (.ref (He.ga ca q.1), q.2.1, fun a cls d => @rdS ⟨a, d, cls⟩ ca c (fun _ _ _ _ => False) q.2.2)
theorem HdsR.named (h : HdsR X ca xt c hds l) : HdsN X hds (l.map (toT ca c)) := by
  induction h with
  | nil => exact .nil
  | cons nd hm ask ok r hi hl hg hdb ih => exact .cons nd hi hl ⟨hg, hdb, .inl hm⟩ ok ih
theorem HdsR.caught (h : HdsR X ca xt c hds l) {b : Bs} {Dn : Ends} {x : Exc} {o : SO} {cls : Value} {d : Option Addr} : ∀ {env : Env} {σ : L2.St} {G H : Hp}, catchL xt c l x env = some o → noWhy env = true → SPost ca b W Dn o → Rel ca b env σ G H → ExcRel ca G H cls d x →
    wNamed ca W Dn (l.map (toT ca c)) cls d σ H := by
  induction h with
  | nil =>
    intro env σ G H e nw post R xr
    cases e
    exact post cls d σ G H R xr
  | @cons cn n i f s0 su np hp hds l nd hm ask ok r hi hl hg hdb ih =>
    intro env σ G H e nw post R xr
    unfold catchL at e
    cases es : subX xt x.cls cn with
    | none => rw [es] at e; cases e
    | some k =>
      rw [es] at e
      refine ⟨k, by rw [xr.1]; exact (ask.ex _ _ es).1, fun hk a na => ?_, fun hk => ?_⟩
      · subst hk
        dsimp only at e
        split at e
        · rename_i hn
          cases ef : f c (env.set i (some (.why x))) with
          | none => rw [ef] at e; cases e
          | some o1 =>
            rw [ef] at e
            refine ⟨b, _, G, o1, Rel.setWhy R nw hn xr, ef, ?_⟩
            have e : endSu i o1 = some o := e
            cases o1 with
            | nx e1 =>
              unfold endSu at e
              dsimp only at e
              split at e
              · rename_i n1
                cases e
                exact fun σ1 G1 H1 R1 => post _ G1 H1 (Rel.goneSt (Rel.unWhy R1 n1))
              · cases e
            | ct e1 =>
              unfold endSu at e
              dsimp only at e
              split at e
              · rename_i n1
                cases e
                exact fun σ1 G1 H1 R1 => post _ G1 H1 (Rel.goneSt (Rel.unWhy R1 n1))
              · cases e
            | brk e1 =>
              unfold endSu at e
              dsimp only at e
              split at e
              · rename_i n1
                cases e
                exact fun σ1 G1 H1 R1 => post _ G1 H1 (Rel.goneSt (Rel.unWhy R1 n1))
              · cases e
            | ret rv e1 =>
              unfold endSu at e
              dsimp only at e
              split at e
              · rename_i n1
                cases e
                exact fun u σ1 G1 H1 R1 rr => post u σ1 G1 H1 (Rel.unWhy R1 n1) (RRel.unWhy rr)
              · cases e
            | exc y e1 => cases e
        · cases e
      · subst hk
        exact ih e nw post R xr
theorem s_try (hb : ∀ (Wi : WX) (pn : List (Addr × Obj)) (xe : Value → Shared → Prop), Takes (X.tr pn xe) Wi → PassesOwn (model X.prog X.w) X.A X.env xe → PSs (X.tr pn xe) body (rdS ca c Wi f)) (tk : Takes X W) (hh : HdsR X ca xt c (h0 :: hds) l)
    (hK : X.K = ca := by rfl) (hs : X.stack = X.env :: X.outer := by rfl) (hf : X.env.frame = some X.env.locals := by rfl) : PS X (.Try body (h0 :: hds) [] [] pos) (rdS ca c W (sTry xt f l)) := by
  subst hK
  refine PS_weak (ps_try_named hs hf tk hb hh.named) ?_
  rintro Dn σ H ⟨b, env, G, o, R, e, post⟩
  unfold sTry at e
  cases ef : f c env with
  | none => rw [ef] at e; cases e
  | some o1 =>
    rw [ef] at e
    refine ⟨b, env, G, o1, R, ef, ?_⟩
    cases o1 with
    | exc x e1 =>
      dsimp only at e
      split at e
      · rename_i nw
        exact fun cls d σ1 G1 H1 R1 xr => hh.caught e nw post R1 xr
      · cases e
    | nx e1 => cases e; exact post
    | ct e1 => cases e; exact post
    | brk e1 => cases e; exact post
    | ret rv e1 => cases e; exact post
theorem Fns.tr {pn : List (Addr × Obj)} {xe : Value → Shared → Prop} (F : Fns X ca c) : Fns (X.tr pn xe) ca c := ⟨F.fn, F.meth, F.fnR⟩
end
end Pd
/-! Pd39: in an except suite: isinstance(why, C), why.f -/
namespace Pd
open PySem PySem.Spec L2 PyProof.Rows
/-! ### the table of the exception classes -/
def askX (xt : XT) (a : Str) : CN → Option Bool
  | .own b => subX xt a b
  | .ty n => if n = "ValueError" ∧ (xt.lookup a).isSome = true then some true else none
def anyX (xt : XT) (a : Str) : List CN → Option Bool
  | [] => some false
  | n :: ns => (askX xt a n).bind fun k => (anyX xt a ns).map fun j => k || j
def askIn (asked : List Str) : CN → Bool
  | .own b => asked.contains b
  | .ty _ => true
structure Xw (K : PySem.W.Frag) (xt : XT) (asked : List Str) (xf : List (Str × Str)) : Prop where
  xc : ∀ a l, xt.lookup a = some l → XcK K (He.ga K a)
  ve : ∀ a l, xt.lookup a = some l → PySem.W.kitOne K (.ref (He.ga K a)) (.type "ValueError") = some true
  ask : ∀ b, b ∈ asked → AskX K xt b
  fld : ∀ q, q ∈ xf → PySem.W.findIn K (.ref (He.ga K q.1)) q.2 = some none
def xwB (K : PySem.W.Frag) (xt : XT) (asked : List Str) (xf : List (Str × Str)) : Bool := (xt.all fun q => xcB K (He.ga K q.1) && (decide (PySem.W.kitOne K (.ref (He.ga K q.1)) (.type "ValueError") = some true) &&
  asked.all fun b => decide (PySem.W.exmOne K (.ref (He.ga K q.1)) (.ref (He.ga K b)) = some (q.2.contains b)) && decide (PySem.W.kitOne K (.ref (He.ga K q.1)) (.ref (He.ga K b)) = some (q.2.contains b)))) &&
  xf.all fun q => decide (PySem.W.findIn K (.ref (He.ga K q.1)) q.2 = some none)
theorem xwB_ok {K : PySem.W.Frag} {xt : XT} {asked : List Str} {xf : List (Str × Str)} (h : xwB K xt asked xf = true) : Xw K xt asked xf := by
  unfold xwB at h
  rw [Bool.and_eq_true] at h
  obtain ⟨h1, h2⟩ := h
  have at_ : ∀ a l, xt.lookup a = some l → XcK K (He.ga K a) ∧ PySem.W.kitOne K (.ref (He.ga K a)) (.type "ValueError") = some true ∧ ∀ b, b ∈ asked → PySem.W.exmOne K (.ref (He.ga K a)) (.ref (He.ga K b)) = some (l.contains b) ∧ PySem.W.kitOne K (.ref (He.ga K a)) (.ref (He.ga K b)) = some (l.contains b) := fun a l e => by
    have z := List.all_eq_true.mp h1 (a, l) (lookup_mem e)
    simp only [Bool.and_eq_true, decide_eq_true_eq, List.all_eq_true] at z
    exact ⟨xcB_ok z.1, z.2.1, fun b hb => z.2.2 b hb⟩
  refine ⟨fun a l e => (at_ a l e).1, fun a l e => (at_ a l e).2.1, fun b hb => ⟨fun a k e => ?_⟩, fun q hq => ?_⟩
  · unfold subX at e
    cases el : xt.lookup a with
    | none => rw [el] at e; cases e
    | some l =>
      rw [el] at e
      cases e
      exact (at_ a l el).2.2 b hb
  · exact of_decide_eq_true (List.all_eq_true.mp h2 q hq)
theorem askX_ok {K : PySem.W.Frag} {xt : XT} {asked : List Str} {xf : List (Str × Str)} (w : Xw K xt asked xf) {a : Str} {n : CN} {k : Bool} (hi : askIn asked n = true) (e : askX xt a n = some k) : PySem.W.kitOne K (.ref (He.ga K a)) (n.u K) = some k := by
  cases n with
  | own b => exact ((w.ask b (by simpa [askIn] using hi)).ex a k e).2
  | ty n =>
    unfold askX at e
    dsimp only at e
    split at e
    · rename_i hh
      obtain ⟨rfl, hs⟩ := hh
      cases e
      obtain ⟨l, hl⟩ := Option.isSome_iff_exists.mp hs
      exact w.ve a l hl
    · cases e
theorem anyX_ok {K : PySem.W.Frag} {xt : XT} {asked : List Str} {xf : List (Str × Str)} (w : Xw K xt asked xf) {a : Str} : ∀ {ns : List CN} {k : Bool}, (ns.all (askIn asked)) = true → anyX xt a ns = some k → PySem.W.kitAny K (.ref (He.ga K a)) (ns.map (CN.u K)) = some k
  | [], k, _, e => by cases e; rfl
  | n :: ns, k, hi, e => by
    rw [List.all_cons, Bool.and_eq_true] at hi
    unfold anyX at e
    cases e1 : askX xt a n with
    | none => rw [e1] at e; cases e
    | some b =>
      rw [e1] at e
      simp only [Option.bind_some] at e
      cases e2 : anyX xt a ns with
      | none => rw [e2] at e; cases e
      | some j =>
        rw [e2] at e
        simp only [Option.map_some, Option.some.injEq] at e
        subst e
        have r := anyX_ok w hi.2 e2
        refine kitAny_cons (askX_ok w hi.1 e1) (fun hb => ?_) fun hb => ?_
        · subst hb; exact r
        · subst hb; rfl
theorem anyX_sub {xt : XT} {a : Str} : ∀ {ns : List CN} {k : Bool}, ns ≠ [] → anyX xt a ns = some k → ∃ l, xt.lookup a = some l
  | [], _, h, _ => (h rfl).elim
  | n :: ns, k, _, e => by
    unfold anyX at e
    cases e1 : askX xt a n with
    | none => rw [e1] at e; cases e
    | some b =>
      cases n with
      | own c =>
        unfold askX subX at e1
        dsimp only at e1
        cases el : xt.lookup a with
        | none => rw [el] at e1; cases e1
        | some l => exact ⟨l, rfl⟩
      | ty n =>
        unfold askX at e1
        dsimp only at e1
        split at e1
        · rename_i hh
          exact Option.isSome_iff_exists.mp hh.2
        · cases e1
/-! ### isinstance -/
section
variable {X : Cx} {a : Addr} {cls : Value} {d : Option Addr} {oe : Obj} {pn : List (Addr × Obj)}
/-- the exception of the suite, as an instance -/
theorem why_inst {D : Addr} {pins : List (Addr × Obj)} {σ : L2.St} {H : Hp} {s : Shared} (hz : Zc (.ref D) d oe) (hf : ∃ ws, oe.data = .fields ws) (hd : ∀ dd, d = some dd → ∃ vs, H dd = some (.xd vs)) (I : Inv (X.suite a ((a, oe) :: pn)) pins σ H s) :
    ∃ od, PySem.W.InstAt s.heap a oe D od := by
  obtain ⟨ha, _⟩ := I.pin (a, oe) (List.mem_append_left _ List.mem_cons_self)
  obtain ⟨ws, hw⟩ := hf
  obtain ⟨oc, od, oda, osl⟩ := oe
  obtain ⟨h1, h2⟩ := hz
  dsimp only at h1 h2 hw
  subst h1 h2 hw
  cases od with
  | none => exact ⟨none, ha, rfl, rfl, trivial⟩
  | some dd =>
    obtain ⟨vs, hv⟩ := hd dd rfl
    have hx : ObjOk X.prog X.w H s.heap dd (.xd vs) := I.hok dd _ hv
    obtain ⟨mA, hns, _⟩ := hx
    obtain ⟨o, _, _, ho, _⟩ := id hns
    exact ⟨some o, ha, rfl, rfl, ho⟩
theorem XcK.kit {K : PySem.W.Frag} {D : Addr} (C : XcK K D) {od : Option Obj} : PySem.W.KitX K (.ref a) (.ref D) (fun h => PySem.W.InstAt h a oe D od) :=
  PySem.W.kitx_exc C.cl C.xf.ga C.xf.gg C.xf.exC C.ca C.cn C.ct C.cm
def rIsW (K : PySem.W.Frag) (D a : Addr) (d : Option Addr) : List V → Hp → VK → Prop := fun xs H Q => (∀ dd, d = some dd → ∃ vs, H dd = some (.xd vs)) ∧ ∃ (v : V) (u : Value) (k : Bool), xs = [.ref a, v] ∧ ClsV v u ∧ PySem.W.kitOne K (.ref D) u = some k ∧ Q (.bl k) H
def rIsWt (K : PySem.W.Frag) (D a : Addr) (d : Option Addr) : List V → Hp → VK → Prop := fun xs H Q => (∀ dd, d = some dd → ∃ vs, H dd = some (.xd vs)) ∧ ∃ (l : Addr) (vs : List V) (us : List Value) (k : Bool), xs = [.ref a, .ref l] ∧ H l = some (.tup vs) ∧ Paired ClsV vs us ∧ PySem.W.kitAny K (.ref D) us = some k ∧ Q (.bl k) H
theorem call_isW {D : Addr} (C : XcK X.K D) (hz : Zc (.ref D) d oe) (hf : ∃ ws, oe.data = .fields ws) : CallR (X.suite a ((a, oe) :: pn)) (.builtin "isinstance") (rIsW X.K D a d) := by
  intro pins s σ H xs us Q I r h
  obtain ⟨hd, v, u, k, rfl, kv, e, q⟩ := h
  obtain ⟨od, J⟩ := why_inst hz hf hd I
  obtain ⟨u1, u2, rfl, r1, r2⟩ := vals2 r
  obtain rfl : u1 = Value.ref a := r1
  have e2 := kv.eq r2
  subst e2
  exact PySem.W.kia_one C.kit I.kIn J e (fun z => nomatch z) fun tk => ⟨.bl k, H, I.tok tk, rfl, q⟩
theorem call_isWt {D : Addr} (C : XcK X.K D) (hz : Zc (.ref D) d oe) (hf : ∃ ws, oe.data = .fields ws) : CallR (X.suite a ((a, oe) :: pn)) (.builtin "isinstance") (rIsWt X.K D a d) := by
  intro pins s σ H xs us Q I r h
  obtain ⟨hd, l, vs, ws, k, rfl, hT, kv, e, q⟩ := h
  obtain ⟨od, J⟩ := why_inst hz hf hd I
  obtain ⟨u1, u2, rfl, r1, r2⟩ := vals2 r
  obtain rfl : u1 = Value.ref a := r1
  obtain rfl : u2 = Value.ref l := r2
  obtain ⟨_, its, rv, o, h1, h2, n, h3⟩ := (show ObjOk X.prog X.w H s.heap l (.tup vs) from I.hok l _ hT)
  have e3 := ClsV.all kv rv
  subst e3
  obtain ⟨oc, od', dt, sl⟩ := o
  simp only at h2 h3
  subst h2 h3
  exact PySem.W.kia_tup C.kit I.kIn J h1 e (fun z => nomatch z) fun tk => ⟨.bl k, H, I.tok tk, rfl, q⟩
end
def eIsW (xt : XT) (i : Nat) (ns : List CN) : SE := fun _ env => match env[i]? with
  | some (some (.why x)) => (anyX xt x.cls ns).map fun k => .val (.sh (.bl k)) env
  | _ => none
def eWhyF (xt : XT) (xf : List (Str × Str)) (i : Nat) (f : Str) : SE := fun _ env => match env[i]? with
  | some (some (.why x)) => if (xt.lookup x.cls).isSome = true ∧ (x.cls, f) ∈ xf then (x.fs.lookup f).map fun d => .val (.sh d) env else none
  | _ => none
section
variable [E0 : Ext] {X : Cx} {ca : PySem.W.Frag} {c : CT} {W : WX} {oe : Obj} {pn : List (Addr × Obj)} {xt : XT} {asked : List Str} {xf : List (Str × Str)} {i : Nat} {y : Str} {p p0 pos : Pos} {q : Expr} {n : CN} {ns : List CN} {f : Str}
/-- the suite's context -/
abbrev Su [Ext] (X : Cx) (oe : Obj) (pn : List (Addr × Obj)) : Cx := X.suite Ext.xa ((Ext.xa, oe) :: pn)
theorem why_at {b : Bs} {env : Env} {σ : L2.St} {G H : Hp} {x : Exc} (R : Rel ca b env σ G H) (e : env[i]? = some (some (.why x))) : σ[i]? = some (some (.ref Ext.xa)) ∧ Ext.xc = .ref (He.ga ca x.cls) ∧ (∀ dd, Ext.xd = some dd → ∃ vs, G dd = some (.xd vs) ∧ RepK ca G vs x.fs) ∧ (Ext.xd = none → x.fs = []) := by
  obtain ⟨v, e1, rfl, h2, h3⟩ := R.slots i _ e
  refine ⟨e1, h2, fun dd z => ?_, fun z => ?_⟩
  · rw [z] at h3; exact h3
  · rw [z] at h3; exact h3
theorem p_isW (w : Xw ca xt asked xf) (hz : L2N.Zn Ext.xc Ext.xd oe) (hf : ∃ ws, oe.data = .fields ws) (hin : askIn asked n = true) (hm : X.mg "isinstance" = none) (hcl : PE (Su X oe pn) q (tC (n.v ca))) (ha : PE (Su X oe pn) (.Name y p0) (tVar i)) (hK : X.K = ca := by rfl) (hg : Gl (Su X oe pn) "isinstance" := by rfl)
    (hs1 : starEach [.Name y p0, q] (Su X oe pn).env = (false, eval (.Name y p0) (Su X oe pn).env) :: starEach [q] (Su X oe pn).env := by rfl) (hs2 : starEach [q] (Su X oe pn).env = (false, eval q (Su X oe pn).env) :: starEach [] (Su X oe pn).env := by rfl) (hpl : (backTo pos (starEach [q] (Su X oe pn).env)).any (·.1) = false := by rfl)
    (hbi : bootBuiltins "isinstance" = some (.builtin "isinstance") := by decide +kernel) : PE (Su X oe pn) (.Call (.Name "isinstance" p) [.Name y p0, q] [] pos) (rdE ca c W (eIsW xt i [n])) := by
  subst hK
  refine ⟨fun pins s σ H Q I h => ?_⟩
  obtain ⟨b, env, G, o, R, e, post⟩ := h
  unfold eIsW at e
  split at e
  · rename_i x hx
    cases ek : anyX xt x.cls [n] with
    | none => rw [ek] at e; cases e
    | some k =>
      rw [ek] at e
      cases e
      obtain ⟨e1, ec, ed, en⟩ := why_at R hx
      obtain ⟨l, hl⟩ := anyX_sub (by simp) ek
      have k1 : PySem.W.kitOne X.K (.ref (He.ga X.K x.cls)) (n.u X.K) = some k := by
        unfold anyX at ek
        cases e3 : askX xt x.cls n with
        | none => rw [e3] at ek; cases ek
        | some j =>
          rw [e3] at ek
          simp [anyX] at ek
          subst ek
          exact askX_ok w hin e3
      rw [ec] at hz
      refine (pe_callB (call_isW (w.xc _ _ hl) hz.zc hf) hg hm hbi (pa_cons ha (pa_cons hcl pa_nil hs2) hs1) (by decide) (by decide) hs1 hpl).run pins s σ H Q I ?_
      exact ⟨.ref Ext.xa, e1, fun dd z => by obtain ⟨vs, g, _⟩ := ed dd z; exact ⟨vs, R.sub _ _ g⟩, n.v X.K, n.u X.K, k, rfl, by cases n <;> constructor, k1, post _ G H R (.bl k)⟩
  · cases e
theorem p_isWt (w : Xw ca xt asked xf) (hz : L2N.Zn Ext.xc Ext.xd oe) (hf : ∃ ws, oe.data = .fields ws) (hin : (ns.all (askIn asked)) = true) (hne : ns ≠ []) (hm : X.mg "isinstance" = none) (hcl : PE (Su X oe pn) q (fun _ H Q => ∀ l, H l = none → Q (.ref l) (upd H l (.tup (ns.map (CN.v ca)))))) (ha : PE (Su X oe pn) (.Name y p0) (tVar i)) (hK : X.K = ca := by rfl) (hg : Gl (Su X oe pn) "isinstance" := by rfl)
    (hs1 : starEach [.Name y p0, q] (Su X oe pn).env = (false, eval (.Name y p0) (Su X oe pn).env) :: starEach [q] (Su X oe pn).env := by rfl) (hs2 : starEach [q] (Su X oe pn).env = (false, eval q (Su X oe pn).env) :: starEach [] (Su X oe pn).env := by rfl) (hpl : (backTo pos (starEach [q] (Su X oe pn).env)).any (·.1) = false := by rfl)
    (hbi : bootBuiltins "isinstance" = some (.builtin "isinstance") := by decide +kernel) : PE (Su X oe pn) (.Call (.Name "isinstance" p) [.Name y p0, q] [] pos) (rdE ca c W (eIsW xt i ns)) := by
  subst hK
  refine ⟨fun pins s σ H Q I h => ?_⟩
  obtain ⟨b, env, G, o, R, e, post⟩ := h
  unfold eIsW at e
  split at e
  · rename_i x hx
    cases ek : anyX xt x.cls ns with
    | none => rw [ek] at e; cases e
    | some k =>
      rw [ek] at e
      cases e
      obtain ⟨e1, ec, ed, en⟩ := why_at R hx
      obtain ⟨l, hl⟩ := anyX_sub hne ek
      rw [ec] at hz
      refine (pe_callB (call_isWt (w.xc _ _ hl) hz.zc hf) hg hm hbi (pa_cons ha (pa_cons hcl pa_nil hs2) hs1) (by decide) (by decide) hs1 hpl).run pins s σ H Q I ?_
      refine ⟨.ref Ext.xa, e1, fun t ht => ⟨fun dd z => ?_, t, ns.map (CN.v X.K), ns.map (CN.u X.K), k, rfl, upd_same, ?_, anyX_ok w hin ek, post _ G _ (R.grow ht) (.bl k)⟩⟩
      · obtain ⟨vs, g, _⟩ := ed dd z
        exact ⟨vs, by rw [upd_ne (ne_of_none (R.sub _ _ g) ht)]; exact R.sub _ _ g⟩
      · have pr : ∀ ms : List CN, Paired ClsV (ms.map (CN.v X.K)) (ms.map (CN.u X.K)) := fun ms => by
          induction ms with
          | nil => exact .nil
          | cons m ms ih => exact .cons (by cases m <;> constructor) ih
        exact pr ns
  · cases e
/-- why.f -/
theorem p_whyF (w : Xw ca xt asked xf) (hz : L2N.Zn Ext.xc Ext.xd oe) (hf : ∃ ws, oe.data = .fields ws) (ha : PE (Su X oe pn) (.Name y p0) (tVar i)) (hK : X.K = ca := by rfl) (hb : attributeBase (.Name y p0) f (Su X oe pn).env (eval (.Name y p0) (Su X oe pn).env) = eval (.Name y p0) (Su X oe pn).env := by rfl) :
    PE (Su X oe pn) (.Attribute (.Name y p0) f pos) (rdE ca c W (eWhyF xt xf i f)) := by
  subst hK
  refine ⟨fun pins s σ H Q I h => ?_⟩
  obtain ⟨b, env, G, o, R, e, post⟩ := h
  unfold eWhyF at e
  split at e
  · rename_i x hx
    split at e
    · rename_i hh
      obtain ⟨h1, h2⟩ := hh
      obtain ⟨l, hl⟩ := Option.isSome_iff_exists.mp h1
      cases el : x.fs.lookup f with
      | none => rw [el] at e; cases e
      | some dv =>
        rw [el] at e
        cases e
        obtain ⟨e1, ec, ed, en⟩ := why_at R hx
        cases exd : (Ext.xd : Option Addr) with
        | none =>
          rw [en exd] at el
          cases el
        | some dd =>
          obtain ⟨vs, g, rk⟩ := ed dd exd
          refine (pe_xf (w.xc _ _ hl).xf (w.fld _ h2) hz.zc hf ha hb).run pins s σ H Q I ?_
          have key : ∀ {vs : List (Str × V)} {ds : List (Str × D)}, RepK X.K G vs ds → ds.lookup f = some dv → ∃ v, vs.lookup f = some v ∧ Rep X.K G v dv := by
            intro vs ds
            induction ds generalizing vs with
            | nil => intro _ z; cases z
            | cons q ds ih =>
              intro r z
              cases vs with
              | nil => have := r.keys; cases this
              | cons pv vs =>
                obtain ⟨k1, k2, k3⟩ := r.tail
                obtain ⟨ka, va⟩ := pv
                obtain ⟨kb, vb⟩ := q
                obtain rfl : ka = kb := k1
                by_cases hfk : f = ka
                · subst hfk
                  rw [List.lookup_cons_self] at z
                  cases z
                  exact ⟨va, by rw [List.lookup_cons_self], k2⟩
                · have nb : (f == ka) = false := by simpa using hfk
                  rw [List.lookup_cons, nb] at z
                  obtain ⟨v, h3, h4⟩ := ih k3 z
                  exact ⟨v, by rw [List.lookup_cons, nb]; exact h3, h4⟩
          obtain ⟨v, hv, rv⟩ := key rk el
          exact ⟨.ref Ext.xa, e1, rfl, ec, dd, vs, v, exd, R.sub _ _ g, hv, post v G H R rv⟩
    · cases e
  · cases e
end
end Pd
/-! Pd40: defs that are called in an except suite -/
namespace Pd
open PySem PySem.Spec L2 PyProof.Rows L2H
variable [Ext]
/-- a def's reading at its entry -/
theorem sp_rd {K : PySem.W.Frag} {N ps : List Str} {c : CT} {sm : SS} {scope : Scope} (S : FnScope N ps scope) {vs : List V} {H : Hp} {Q : VK} {E : XK} (hsp : spOf K (runDef N.length ps.length sm c) vs H Q E) :
    rdS K c (fun cls d _ H' => E cls d H') sm { nx := fun _ H' => Q .non H', rt := Q } (L2.start N vs) H := by
  have hpl : ps.length ≤ N.length := by
    have := congrArg List.length S.pre
    rw [List.length_take] at this
    omega
  obtain ⟨G, args, r, sg, ra, e, post⟩ := hsp
  unfold runDef at e
  split at e
  · rename_i hl
    have R0 := Rel.init (N := N) sg ra (by rw [ra.len, hl]; exact hpl)
    cases ef : sm c (initEnv N.length args) with
    | none => rw [ef] at e; cases e
    | some o =>
      rw [ef] at e
      refine ⟨_, _, G, o, R0, ef, ?_⟩
      have go : ∀ {g : List (Option Cell) → CRes} {en : Env}, (outsOf args en).map g = some r → ∃ outs, outsOf args en = some outs ∧ r = g outs := fun {g en} q => by
        cases eo : outsOf args en with
        | none => rw [eo] at q; cases q
        | some os => rw [eo] at q; cases q; exact ⟨os, rfl, rfl⟩
      cases o with
      | nx en =>
        obtain ⟨outs, h1, rfl⟩ := go e
        exact fun σ' G' H' R' => post .non G' H' (R'.cpost ra h1) .non
      | ret rv en =>
        obtain ⟨outs, h1, rfl⟩ := go e
        intro u σ' G' H' R' rr
        exact post u G' H' (R'.cpost ra h1) (R'.rrelc h1 rr)
      | exc xx en =>
        obtain ⟨outs, h1, rfl⟩ := go e
        exact fun cls d σ' G' H' R' q => post cls d G' H' (R'.cpost ra h1) q
      | brk en => cases e
      | ct en => cases e
  · cases e
section
variable {P : Program} {w : World} {K : PySem.W.Frag} {mg : Str → Option Value} {base : Heap} {x qual : Str} {params : Arguments} {body : List Stmt} {scope : Scope} {kws : List (Str × V)} {f : Addr} {fd : FuncData}
/-- THE RULE for a def that is called in an except suite -/
theorem fn_okH {N ps : List Str} {k : Nat} {c : CT} {sm : SS} (F : FunD K x qual params body scope [] kws f fd) (S : FnScope N ps scope)
    (hbody : ∀ (cdv : Value) (A : Around) (outer : List PySem.Env) (s : Shared) (H : Hp) (E : XK) (p : Addr × Obj), Hot1 A p → RoomH k (A.deeper (PyProof.Rows.envOfC qual scope s.heap.objs.size f cdv)) →
      PSs (cxH (CX P w) P w K mg base N qual scope f cdv A outer s H E p) body (rdS K c (fun cls d _ H' => E cls d H') sm)) :
    FnH P w K mg base (CX P w) (k + 1) f fd ps (spOf K (runDef N.length ps.length sm c)) := by
  have len : ∀ vs H Q E, spOf K (runDef N.length ps.length sm c) vs H Q E → vs.length = ps.length := fun vs H Q E ⟨G, args, r, _, ra, e, _⟩ => by
    unfold runDef at e
    split at e
    · rename_i hl; rw [ra.len, hl]
    · cases e
  obtain ⟨oc, od, dV, kV, doc, pm, an, cdv, ct, osl, rfl, lk, hcd, _, _⟩ := F.ex
  exact fn_ofH lk hcd S len fun A outer s H vs Q E p hot hr hsp => ⟨_, hbody cdv A outer s H E p hot hr, sp_rd S hsp⟩
structure TowerH (P : Program) (w : World) (K : PySem.W.Frag) (mg : Str → Option Value) (base : Heap) (k : Nat) (c : CT) : Prop where
  fn : ∀ p g, c p = some g → ∃ fd ps, FnH P w K mg base (CX P w) k (adr K p) fd ps (spOf K g) ∧ Binds K fd ps []
theorem TowerH.nil {k : Nat} : TowerH P w K mg base k CT.nil := ⟨fun p g h => nomatch h⟩
theorem FnH.mono {j k : Nat} {ps : List Str} {sp : Sp} (F : FnH P w K mg base (CX P w) j f fd ps sp) (h : j ≤ k) : FnH P w K mg base (CX P w) k f fd ps sp :=
  ⟨F.len, fun A outer s H args us vs Q E p hr => F.run A outer s H args us vs Q E p (hr.mono h)⟩
theorem TowerH.add {k : Nat} {c : CT} {p : Str × Option Str} {g : List Arg → Option CRes} {fd : FuncData} {ps : List Str} (t : TowerH P w K mg base k c) (h : FnH P w K mg base (CX P w) (k + 2) (adr K p) fd ps (spOf K g)) (b : Binds K fd ps []) : TowerH P w K mg base (k + 2) (c.add p g) := by
  refine ⟨fun q g' h' => ?_⟩
  unfold CT.add at h'
  split at h'
  · rename_i e
    cases h'; subst e
    exact ⟨fd, ps, h, b⟩
  · obtain ⟨fd', ps', h1, h2⟩ := t.fn q g' h'
    exact ⟨fd', ps', FnH.mono h1 (Nat.le_add_right k 2), h2⟩
end
/-- in a context where an exception is handled -/
structure FnsH (X : Cx) (ca : PySem.W.Frag) (c : CT) : Prop where
  fn : ∀ p g, c p = some g → ∃ fd ps k, FnH X.prog X.w X.K X.mg X.base (CX X.prog X.w) k (adr X.K p) fd ps (spOf ca g) ∧ Binds X.K fd ps [] ∧ RoomH (k + 1) X.A
  hot : HotC X
theorem TowerH.fns {P : Program} {w : World} {K : PySem.W.Frag} {mg : Str → Option Value} {base : Heap} {k : Nat} {c : CT} (t : TowerH P w K mg base k c) {X : Cx} (hr : RoomH (k + 1) X.A) (hot : HotC X) (hP : X.prog = P := by rfl) (hw : X.w = w := by rfl) (hK : X.K = K := by rfl) (hm : X.mg = mg := by rfl) (hb : X.base = base := by rfl) : FnsH X K c := by
  subst hP hw hK hm hb
  refine ⟨fun p g h => ?_, hot⟩
  obtain ⟨fd, ps, h1, h2⟩ := t.fn p g h
  exact ⟨fd, ps, k, h1, h2, hr⟩
/-- by another table -/
def eWith (h : CT) (f : SE) : SE := fun _ env => f h env
section
variable {X : Cx} {ca : PySem.W.Frag} {c h : CT} {W : WX} {pos p : Pos} {x : Str} {a : Expr} {es : List Expr} {fs : SA} {f : SE}
theorem callH_in {e : Expr} (q : PE X e (rdE ca h W f)) : PE X e (rdE ca c W (eWith h f)) := q
theorem p_callH (F : FnsH X ca c) (hc : (c (x, none)).isSome = true) (hm : X.mg x = some (.ref (He.fAd X.K (x, none)))) (hk : PySem.W.keepIn X.K (.ref (He.fAd X.K (x, none))) = true) (tk : Takes X W) (ha : PA X (a :: es) (rdA ca c W fs)) (hg : Gl X x := by rfl)
    (hdb : (x == ("__debug__" : Str)) = false := by decide) (he : starEach (a :: es) X.env = (false, eval a X.env) :: starEach es X.env := by rfl) (hpl : (backTo pos (starEach es X.env)).any (·.1) = false := by rfl) : PE X (.Call (.Name x p) (a :: es) [] pos) (rdE ca c W (eCall (x, none) fs)) := by
  obtain ⟨g, hg'⟩ := Option.isSome_iff_exists.mp hc
  obtain ⟨fd, ps, k, F1, hb, hr⟩ := F.fn _ _ hg'
  exact PE_weak (pe_callH F1 (hr.mono (Nat.le_succ _)) F.hot hg hm hk hb (passAt tk) ha hdb he hpl) (call_in hg')
theorem takesSu : Takes X (fun _ _ _ _ => False) := fun _ _ ⟨_, _, _, _, _, _, _, _, _, _, _, _, _, _, _, _, w⟩ => w.elim
/-- the suite's exception is handled, its context is None -/
theorem hot_su {Y : Cx} {b : Addr} {oe : Obj} {cls : Value} {d : Option Addr} {pn : List (Addr × Obj)} (hz : L2N.Zn cls d oe) (hf : ∃ ws, oe.data = .fields ws) : HotC (Y.suite b ((b, oe) :: pn)) := by
  obtain ⟨ws, hw⟩ := hf
  exact ⟨(b, oe), ⟨rfl, ws, hw, hz.2.2 ws hw⟩, List.mem_cons_self⟩
theorem room_su {k : Nat} {A : Around} {v : Option Value} (r : Room k A) : RoomH k (A.mark v) := ⟨r.dp, r.un⟩
end
end Pd
/-! Pd41: the head's facts about exception classes -/
namespace Pd
open PySem PySem.Spec L2 PyProof.Rows
variable [Ext]
def mktB (K : PySem.W.Frag) (C : Str) : Bool := PySem.W.excIn K (He.ga K C) PySem.HandSPX.veTail "ValueError.__new__" && (PySem.W.keepIn K (.ref (He.ga K C)) && (decide (PySem.W.subIn K (.ref (He.ga K C)) (.type "BaseException") = some true) && decide (PySem.W.typeIn K (.ref (He.ga K C)) = some (.type "type"))))
def mkxB (K : PySem.W.Frag) (C f B : Str) : Bool := xcB K (He.ga K C) && (decide (PySem.W.findIn K (.ref (He.ga K C)) "__init__" = some (some (.ref (He.fAd K (C, some "__init__"))))) && (decide (PySem.W.typeIn K (.ref (He.fAd K (C, some "__init__"))) = some (.type "function")) &&
  (decide (PySem.W.findIn K (.ref (He.ga K C)) f = some none) && (PySem.W.fnIn K (He.fAd K (C, some "__init__")) && biB K (He.ga K B)))))
theorem mkxB_bi {K : PySem.W.Frag} {C f B : Str} (h : mkxB K C f B = true) : biB K (He.ga K B) = true := by
  unfold mkxB at h
  simp only [Bool.and_eq_true, decide_eq_true_eq] at h
  exact h.2.2.2.2.2
theorem mkx_ok {P : Program} {w : World} {K : PySem.W.Frag} {mg : Str → Option Value} {base : Heap} {C f B m x qual : Str} {params : Arguments} {body : List Stmt} {scope : Scope} {kws : List (Str × V)} {fd : FuncData} (h : mkxB K C f B = true) (gc : mg C = some (.ref (He.ga K C)))
    (F : FunD K "__init__" qual params body scope [] kws (adr K (C, some "__init__")) fd) (S : FnScope ["self", x] ["self", x] scope) (bn : Binds K fd ["self", x] [])
    (hb : ∀ (fa : Addr) (cdv : Value) (A : Around) (outer : List PySem.Env) (s : Shared) (H : Hp) (E : XK), PSs (cxOf (CX P w) P w K mg base ["self", x] qual scope fa cdv A outer s H E) body (tXI K m f)) : MkX P w K mg base C f := by
  unfold mkxB at h
  simp only [Bool.and_eq_true, decide_eq_true_eq] at h
  obtain ⟨h1, h2, h3, h4, h5, _⟩ := h
  rw [adr_fn h5] at F
  exact ⟨(xcB_ok h1).oex, h2, h3, gc, fd, x, xi_fn F S (xcB_ok h1).oex h4 (hb _), bn⟩
end Pd
/-! Pd42: class methods -/
namespace Pd
open PySem PySem.Spec L2
variable [E0 : Ext]
def shB (b : Bs) : Bs := ⟨b.H0, b.G0, fun i => match i with
  | 0 => none
  | i + 1 => b.B i, b.O, fun i => match i with
  | 0 => fun _ => False
  | i + 1 => b.S i⟩
section
variable {ca : PySem.W.Frag} {b : Bs} {env : Env} {σ : St} {G H : Hp} {v0 : V} {s0 : Slot}
theorem SlotRel.up {i : Nat} {v : V} {s : Slot} (r : SlotRel ca b i G H v s) : SlotRel ca (shB b) (i + 1) G H v s := by
  cases s with
  | sh d => exact r
  | own c => exact r
  | brw c => exact r
  | why x => exact r
end
section
variable {P : Program} {w : World} {K : PySem.W.Frag} {mg : Str → Option Value} {base : Heap} {x qual : Str} {params : Arguments} {body : List Stmt} {scope : Scope} {dvs : List V} {kws : List (Str × V)} {f : Addr} {fd : FuncData}
end
theorem fnP_of {P : Program} {w : World} {K : PySem.W.Frag} {mg : Str → Option Value} {base : Heap} {k : Nat} {f : Addr} {fd : FuncData} {ps : List Str} {p : Str × Option Str} {g : List Arg → Option CRes} (h : cmB p = false) (F : FnOk P w K mg base (CX P w) k f fd ps (spOf K g)) : FnOk P w K mg base (CX P w) k f fd ps (spP K p g) := by
  rw [spP_of h]; exact F
/-- what C.m must be -/
def cmK (K : PySem.W.Frag) (C m : Str) : Bool := PySem.W.readsIn K (He.ga K C) (.type "type") && (decide (PySem.W.specialIn K (.ref (He.ga K C)) "__getattribute__" = some (some (.builtin "type.__getattribute__"))) && ((match PySem.W.findCls K (.ref (He.ga K C)) (.type "type") m with
  | some (.get (.builtin n) (.ref p) .none (.ref C')) => decide (n = "classmethod.__get__") && (decide (C' = He.ga K C) && (match PySem.W.recIn K p "classmethod" with
    | some (.ref g :: _) => decide (g = adr K (C, some m))
    | _ => false))
  | _ => false) && PySem.W.fnIn K (adr K (C, some m))))
section
variable {X : Cx} {ca : PySem.W.Frag} {c : CT} {W : WX} {pos apos : Pos} {C m x : Str} {p p0 : Pos} {a : Expr} {es : List Expr} {fs : SA} {fl : List Bool}
end
end Pd
/-! Pd43: a tuple some times over -/
namespace Pd
open PySem PySem.Spec L2 PyProof.Rows
section
variable {X : Cx}
variable [Ext] {ca : PySem.W.Frag}
end
end Pd
/-! Pd44: a dict display of one item whose key is a tuple -/
namespace Pd
open PySem PySem.Spec L2 PyProof.Rows
variable [Ext]
section
variable {X : Cx} {ca : PySem.W.Frag} {c : CT} {W : WX} {pos : Pos} {ke ve : Expr} {fk fv : SE}
end
end Pd
/-! Pd45: bool(x), min(i, j), str(x), n += e -/
namespace Pd
open PySem PySem.Spec L2 PyProof.Rows
variable [Ext]
section
variable {X : Cx} {ca : PySem.W.Frag} {c : CT} {W : WX} {pos : Pos} {fa fb : SE}
def strD : List D → Option Val
  | [.int i] => if i.natAbs.log2 < 1920 then some (.sh (.str (toString i))) else none
  | [.str a] => some (.sh (.str a))
  | _ => none
def rStr : List V → Hp → VK → Prop := fun xs H Q => (∃ i, xs = [.int i] ∧ i.natAbs.log2 < 1920 ∧ Q (.str (toString i)) H) ∨ ∃ a, xs = [.str a] ∧ Q (.str a) H
theorem c_strX : CallR X (.type "str") rStr := by
  intro pins s σ H xs us Q I r h
  rcases h with h | h
  · exact call_str_int pins s σ H xs us Q I r h
  · obtain ⟨a, rfl, q⟩ := h
    obtain ⟨u, rfl, t, rfl⟩ := vals1 r
    exact PySem.P.str_of_str ⟨.str a, H, I, ⟨t, rfl⟩, q⟩
theorem b_str : ArgR ca rStr strD := by
  intro G H xs ds v Q s ps e out
  unfold strD at e
  split at e
  · split at e
    · rename_i hz
      cases e
      obtain ⟨x, rfl, p⟩ := ps.one
      cases peek_int p
      exact .inl ⟨_, rfl, hz, out _ _ (out_sh (.str _))⟩
    · cases e
  · cases e
    obtain ⟨x, rfl, p⟩ := ps.one
    cases peek_str p
    exact .inr ⟨_, rfl, out _ _ (out_sh (.str _))⟩
  · cases e
/-! ### n += e, numbers and texts -/
/-! ### f-strings -/
end
end Pd
/-! Pd46: <, <=, >, >= and binary operators by methods of one's own -/
namespace Pd
open PySem PySem.Spec L2
variable [Ext]
section
variable {X : Cx} {ca : PySem.W.Frag} {c : CT} {W : WX} {pos : Pos} {a b' : Expr} {fa fb : SE} {cl : List Str} {fl : List (Str × Str)}
end
end Pd
/-! Pd47: defs with a star parameter, f(*e) -/
namespace Pd
open PySem PySem.Spec L2
variable [Ext]
theorem cxUpN {P : Program} {w : World} : StX.CXUp (CX P w) := by
  rintro outer s H s2 H2 E e s' un kp ho ⟨a, B, H', cls, d, ea, fl, hok, ub, na, os, ag, he⟩
  refine ⟨a, B, H', cls, d, ea, fl, hok, ⟨fun b o q n hb => ub.keep b o (kp b o q) (un.free b o q n (by simp)) hb, fun b o q hb => ub.slot b o (kp b o q) hb, fun b o q n => ub.free b o (kp b o q) (un.free b o q n (by simp)),
    fun b o q hb => ub.there b o (kp b o q) hb, fun b xs q => ub.tups b xs (un.tups b xs q), fun b o xs q => ub.frzs b o xs (un.frzs b o xs q), fun b ps q => ?_⟩, na, os.trans ho, ag, he⟩
  obtain ⟨m1, e1⟩ := un.tbls b ps q
  obtain ⟨m2, e2⟩ := ub.tbls b _ e1
  exact ⟨m1 ++ m2, by rw [e2, Array.append_assoc]⟩
section
variable {X : Cx} {CX' : CXT} {k : Nat} {f : Addr} {sp : Sp} {x : Str} {e : Expr} {te : TE} {p pos sp_ : Pos}
end
section
variable {X : Cx} {ca : PySem.W.Frag} {c : CT} {W : WX} {pos p sp_ : Pos} {x : Str} {a : Expr} {es : List Expr} {fa : SE} {fs : SA}
end
section
variable {P : Program} {w : World} {K : PySem.W.Frag} {mg : Str → Option Value} {base : Heap} {x qual : Str} {params : Arguments} {body : List Stmt} {scope : Scope} {dvs : List V} {kws : List (Str × V)} {f : Addr} {fd : FuncData}
end
end Pd
/-! Pd48: objects of one's own are lent for the time of an expression; its value may be an object that cannot hold them -/
namespace Pd
open PySem PySem.Spec L2 PyProof.Rows
variable [Ext]
/-- the kinds of objects that are lent: lists, dicts, instances of some classes -/
structure Kd where
  l : Bool
  k : Bool
  t : Bool
  cs : List Str
def Kd.add (a b : Kd) : Kd := ⟨a.l || b.l, a.k || b.k, a.t || b.t, a.cs ++ b.cs⟩
def kdC : Cell → Kd
  | .lst _ => ⟨true, false, false, []⟩
  | .dk _ => ⟨false, true, false, []⟩
  | .dt _ => ⟨false, false, true, []⟩
  | .ins c _ => ⟨false, false, false, [c]⟩
  | .deep c _ _ _ => ⟨true, false, false, [c]⟩
def kdS : Option (Option Slot) → Kd
  | some (some (.own c)) => kdC c
  | some (some (.brw c)) => kdC c
  | _ => ⟨false, false, false, []⟩
def kdE (env : Env) : List Nat → Kd
  | [] => ⟨false, false, false, []⟩
  | i :: is => (kdS env[i]?).add (kdE env is)
section
variable {ca : PySem.W.Frag} {b : Bs} {env : Env} {σ : L2.St} {G H G1 H1 : Hp} {c : CT} {W : WX}
/-- what is lent: the objects in those slots, their lists -/
def Lent (ca : PySem.W.Frag) (is : List Nat) (env : Env) (σ : L2.St) (H : Hp) (a : Addr) : Prop := ∃ i s p, i ∈ is ∧ env[i]? = some (some s) ∧ s.mut = true ∧ σ[i]? = some (some (.ref p)) ∧ (a = p ∨ SSub ca H p s a)
theorem Lent.gn {is : List Nat} {a : Addr} (R : Rel ca b env σ G H) (h : Lent ca is env σ H a) : G a = none ∧ ∃ o, H a = some o := by
  obtain ⟨i, s, p, _, e, m, ep, q⟩ := h
  rcases q with rfl | q
  · exact R.thereAt e m ep
  · obtain ⟨h1, ws, h2⟩ := R.subAt e ep q
    exact ⟨h1, _, h2⟩
/-- the object at a is lent: of what kind it is -/
theorem Lent.kind {is : List Nat} {a : Addr} (R : Rel ca b env σ G H) (h : Lent ca is env σ H a) :
    (∃ vs, H a = some (.lst vs) ∧ (kdE env is).l = true) ∨ (∃ vs, H a = some (.dK vs) ∧ (kdE env is).k = true) ∨ (∃ vs, H a = some (.dT vs) ∧ (kdE env is).t = true) ∨ ∃ C dx vs, H a = some (.ins (He.ga ca C) dx vs) ∧ C ∈ (kdE env is).cs := by
  obtain ⟨i, s, p, hi, e, m, ep, q⟩ := h
  have up : ∀ {is : List Nat}, i ∈ is → ((kdS (some (some s))).l = true → (kdE env is).l = true) ∧ ((kdS (some (some s))).k = true → (kdE env is).k = true) ∧ ((kdS (some (some s))).t = true → (kdE env is).t = true) ∧ ∀ C ∈ (kdS (some (some s))).cs, C ∈ (kdE env is).cs := fun {is} hi => by
    induction is with
    | nil => cases hi
    | cons j js ih =>
      have e0 : kdE env (j :: js) = (kdS env[j]?).add (kdE env js) := rfl
      rw [e0]
      rcases List.mem_cons.mp hi with rfl | hi
      · rw [e]
        exact ⟨fun z => by simp [Kd.add, z], fun z => by simp [Kd.add, z], fun z => by simp [Kd.add, z], fun C z => by simp [Kd.add, z]⟩
      · obtain ⟨h1, h2, h3, h4⟩ := ih hi
        exact ⟨fun z => by simp [Kd.add, h1 z], fun z => by simp [Kd.add, h2 z], fun z => by simp [Kd.add, h3 z], fun C z => by simp [Kd.add, h4 C z]⟩
  obtain ⟨u1, u2, u3, u4⟩ := up hi
  obtain ⟨v, e1, r⟩ := R.slots i s e
  rw [ep] at e1; cases e1
  have cell : ∀ {cl : Cell}, kdS (some (some s)) = kdC cl → CellRel ca G H p cl → (∀ x, SSub ca H p s x → Sub ca H p cl x) → (∃ vs, H a = some (.lst vs) ∧ (kdE env is).l = true) ∨ (∃ vs, H a = some (.dK vs) ∧ (kdE env is).k = true) ∨ (∃ vs, H a = some (.dT vs) ∧ (kdE env is).t = true) ∨ ∃ C dx vs, H a = some (.ins (He.ga ca C) dx vs) ∧ C ∈ (kdE env is).cs := fun {cl} ek cr hs => by
    rw [ek] at u1 u2 u3 u4
    rcases q with rfl | q
    · cases cl with
      | lst ds => obtain ⟨vs, q, _⟩ := cr; exact .inl ⟨vs, q, u1 rfl⟩
      | dk ds => obtain ⟨vs, q, _⟩ := cr; exact .inr (.inl ⟨vs, q, u2 rfl⟩)
      | dt ds => obtain ⟨vs, q, _⟩ := cr; exact .inr (.inr (.inl ⟨vs, q, u3 rfl⟩))
      | ins k ds => obtain ⟨dx, vs, q, _⟩ := cr; exact .inr (.inr (.inr ⟨k, dx, vs, q, u4 k (List.mem_singleton.mpr rfl)⟩))
      | deep k fs f xs => obtain ⟨dx, vs, l, ws, q, _⟩ := cr; exact .inr (.inr (.inr ⟨k, dx, _, q, u4 k (List.mem_singleton.mpr rfl)⟩))
    · have q := hs a q
      cases cl with
      | deep k fs f xs => obtain ⟨ws, q⟩ := cr.sub q; exact .inl ⟨ws, q, u1 rfl⟩
      | _ => exact q.elim
  cases s with
  | sh d => cases m
  | why x => cases m
  | own cl => obtain ⟨a', ev, cr, _⟩ := r; cases ev; exact cell rfl cr fun x h => h
  | brw cl => obtain ⟨a', ev, cr, _⟩ := r; cases ev; exact cell rfl cr fun x h => h
theorem Reps.all {ds : List D} {vs : List V} {G2 : Hp} {p : D → Bool} (h : ds.all p = true) (r : Reps ca G1 vs ds) (f : ∀ {u : V} {d : D}, Rep ca G1 u d → p d = true → Rep ca G2 u d) : Reps ca G2 vs ds :=
  ⟨r.len, fun i v d h1 h2 => f (r.at_ i v d h1 h2) (List.all_eq_true.mp h d (List.mem_of_getElem? h2))⟩
end
section
variable {X : Cx} {ca : PySem.W.Frag} {c : CT} {W : WX}
end
end Pd
/-! Pd49: an object's own list: it is laid, it grows -/
namespace Pd
open PySem PySem.Spec L2 PyProof.Rows
variable [Ext]
section
variable {ca : PySem.W.Frag} {b : Bs} {env e1 : Env} {σ : L2.St} {G H G1 H1 : Hp} {a : Addr} {i : Nat} {s : Slot}
end
section
variable {X : Cx} {ca : PySem.W.Frag} {c : CT} {W : WX} {pos : Pos}
end
end Pd
/-! Pd50: makers that are called without their last parameters; own lists of objects: an item is changed, goes -/
namespace Pd
open PySem PySem.Spec L2 PyProof.Rows
variable [Ext]
/-- the last parameters' defaults -/
structure DfB (K : PySem.W.Frag) (p : Str × Option Str) (ds : List D) : Prop where
  ex : ∃ fd us dvs, FunAt K (adr K p) fd ∧ Binds K fd (psA fd.params) us ∧ Vals dvs us ∧ ∀ H, Reps K H dvs ds
theorem FunAt.uniq {K : PySem.W.Frag} {a : Addr} {fd fd' : FuncData} (h : FunAt K a fd) (h' : FunAt K a fd') : fd = fd' := by
  obtain ⟨oc, od, osl, e⟩ := h
  obtain ⟨oc', od', osl', e'⟩ := h'
  rw [e] at e'
  cases e'; rfl
section
variable {ca : PySem.W.Frag} {G H : Hp}
end
section
variable {X : Cx} {ca : PySem.W.Frag} {c : CT} {W : WX} {pos : Pos} {C : Str} {p : Pos} {a : Expr} {es : List Expr} {fs : SA} {fl : List Bool}
end
end Pd
/-! Pd51: own lists of objects: an item is changed, goes; own __setitem__ -/
namespace Pd
open PySem PySem.Spec L2 PyProof.Rows
variable [Ext]
section
variable {X : Cx} {ca : PySem.W.Frag} {c : CT} {W : WX} {pos : Pos}
end
end Pd
/-! Pd52: the head's run looked at in parts -/
namespace Pd
open PySem PySem.Spec PySem.W PySem.Calls PyProof.Rows
end Pd
/-! Pd53: the head's run looked at in small parts -/
namespace Pd
open PySem PySem.Spec PySem.W PySem.Calls PyProof.Rows
section
variable {r : OpenRow} {q : Program} {M n : Nat} {loose : List PySem.Str} {w : World}
end
end Pd
/-! Pd54: x[k] += n, x a list of numbers of one's own -/
namespace Pd
open PySem PySem.Spec L2 PyProof.Rows
variable [Ext]
section
variable {ca : PySem.W.Frag} {X : Cx} {c : CT} {W : WX} {pos : Pos}
end
end Pd
/-! Pd55: for x in xs, xs one's own, and one's own behind the loop -/
namespace Pd
open PySem PySem.Spec L2
variable [Ext]
section
variable {ca : PySem.W.Frag} {X : Cx} {c : CT} {W : WX} {pos : Pos} {b : Bs} {env en : Env} {σ σ' : St} {G G' H H' : Hp} {i : Nat} {ds ds' : List D}
/-- the list lent to oneself -/
abbrev lentE (env : Env) (i : Nat) (ds : List D) : Env := env.set i (some (.brw (.lst ds)))
theorem lentE_at {j : Nat} {s : Slot} (h : env[i]? = some (some (.own (.lst ds)))) (e : (lentE env i ds)[j]? = some (some s)) : (j = i ∧ s = .brw (.lst ds)) ∨ (j ≠ i ∧ env[j]? = some (some s)) := by
  have hi : i < env.length := (List.getElem?_eq_some_iff.mp h).1
  by_cases hj : i = j
  · subst hj
    rw [List.getElem?_set_self hi] at e
    cases e
    exact .inl ⟨rfl, rfl⟩
  · rw [List.getElem?_set_ne hj] at e
    exact .inr ⟨fun z => hj z.symm, e⟩
/-- what it was before -/
theorem lentE_old {j : Nat} {s : Slot} (h : env[i]? = some (some (.own (.lst ds)))) (e : (lentE env i ds)[j]? = some (some s)) (m : s.mut = true) : ∃ t : Slot, env[j]? = some (some t) ∧ t.mut = true ∧ ∀ H a x, SSub ca H a s x → SSub ca H a t x := by
  rcases lentE_at h e with ⟨rfl, rfl⟩ | ⟨_, e⟩
  · exact ⟨_, h, rfl, fun H a x z => z.elim⟩
  · exact ⟨s, e, m, fun H a x z => z⟩
theorem Rel.lent (R : Rel ca b env σ G H) (h : env[i]? = some (some (.own (.lst ds)))) : Rel ca (Pd.rb ca (lentE env i ds) σ G H) (lentE env i ds) σ G H := by
  refine ⟨R.sub, Same.refl _, fun a o e _ _ _ => e, fun a e => e, fun a o e => .inl e, by simpa using R.len, fun j s e => ?_, fun j k s t a hjk e1 e2 m1 m2 q1 q2 => ?_, ⟨fun j s a x e m ea q => ?_, fun j c a x e ea q => .inl ⟨j, c, a, e, ea, .inr q⟩, fun j c a x e ea q => .inl ⟨c, a, e, ea, q⟩, fun j k s t a p x hjk e1 e2 m1 m2 q1 q2 q3 => ?_⟩⟩
  · rcases lentE_at h e with ⟨rfl, rfl⟩ | ⟨hj, e'⟩
    · obtain ⟨v, e1, a, rfl, cr, n, _⟩ := R.slots _ _ h
      refine ⟨_, e1, a, rfl, cr, n, ?_⟩
      unfold Pd.rb
      simp only [e, e1]
    · obtain ⟨v, e1, r⟩ := R.slots j s e'
      refine ⟨v, e1, ?_⟩
      cases s with
      | sh d => exact r
      | why x => exact r
      | own c =>
        obtain ⟨a, rfl, cr, n, z⟩ := r
        exact ⟨a, rfl, cr, n, .inl ⟨j, c, a, e, e1, .inl rfl⟩⟩
      | brw c =>
        obtain ⟨a, rfl, cr, n, z⟩ := r
        refine ⟨a, rfl, cr, n, ?_⟩
        unfold Pd.rb
        simp only [e, e1]
  · obtain ⟨s', e1', m1', _⟩ := lentE_old (ca := ca) h e1 m1
    obtain ⟨t', e2', m2', _⟩ := lentE_old (ca := ca) h e2 m2
    exact R.apart j k s' t' a hjk e1' e2' m1' m2' q1 q2
  · obtain ⟨s', e', m', z⟩ := lentE_old (ca := ca) h e m
    exact R.deep.nf j s' a x e' m' ea (z H a x q)
  · obtain ⟨s', e1', m1', z1⟩ := lentE_old (ca := ca) h e1 m1
    obtain ⟨t', e2', m2', z2⟩ := lentE_old (ca := ca) h e2 m2
    obtain ⟨y1, y2⟩ := R.deep.ap j k s' t' a p x hjk e1' e2' m1' m2' q1 q2 (z1 H a x q3)
    exact ⟨y1, fun z => y2 (z2 H p x z)⟩
end
end Pd
/-! Pd56: for over a range in a def that is called in an except suite -/
namespace Pd
open PySem PySem.Spec L2 L2H PyProof.Rows
variable [Ext]
section
variable {X : Cx} {ca : PySem.W.Frag} {c : CT} {W : WX} {pos : Pos}
end
end Pd
/-! Pd57: list(o), o's class having an __iter__ that hands back iter(self.f) and a __len__ -/
namespace Pd
open PySem PySem.Spec L2
variable [Ext]
section
variable {X : Cx} {ca : PySem.W.Frag} {c : CT} {W : WX} {f : SE} {ic : List (Str × Str)}
/-! ### the machine's side -/
end
end Pd
/-! Pd58: o(x, ..), o's class having a __call__ -/
namespace PySem.W
open PySem PySem.Spec PySem.Calls PyProof.Rows
section
variable {M : Model} {A : Around} {E : Value → Shared → Prop} {s : Shared} {env : PySem.Env} {pos : Pos} {x : Addr} {Q : Value → Shared → Prop}
end
end PySem.W
namespace Pd
open PySem PySem.Spec L2
variable [Ext]
section
variable {X : Cx} {ca : PySem.W.Frag} {c : CT} {W : WX} {fo : SE} {fs : SA} {fl : List Bool}
variable {x : Str} {p pos : Pos} {a : Expr} {es : List Expr}
end
end Pd
/-! Pd59: xs.clear() -/
namespace Pd
open PySem PySem.Spec L2
variable [Ext]
section
variable {X : Cx} {ca : PySem.W.Frag} {c : CT} {W : WX}
end
end Pd
/-! Pd60: e(x, ..), e an expression that gives an instance whose class has a __call__ -/
namespace Pd
open PySem PySem.Spec L2
variable [Ext]
section
variable {X : Cx} {ca : PySem.W.Frag} {c : CT} {W : WX} {fo : SE} {fs : SA} {fl : List Bool} {fe : Expr} {pos : Pos} {a : Expr} {es : List Expr}
end
end Pd
/-! Pd61: o.f += n, o a name that holds an object of its own -/
namespace Pd
open PySem PySem.Spec L2
variable [Ext]
section
variable {ca : PySem.W.Frag} {X : Cx} {c : CT} {W : WX} {pos : Pos} {cs : List Str} {f : Str}
end
end Pd
/-! Pd62: a text some times over -/
namespace Pd
open PySem PySem.Spec L2 PyProof.Rows
section
variable {X : Cx}
variable [Ext] {ca : PySem.W.Frag}
end
end Pd
/-! Pd63: a number read from a text -/
namespace Pd
open PySem PySem.Spec L2 PyProof.Rows
section
variable {X : Cx}
variable [Ext] {ca : PySem.W.Frag}
end
end Pd
/-! Pd64: defs of the form f(**d), called by keywords -/
namespace Pd
open PySem PySem.Spec L2
theorem push_upd {hp : Heap} {o : Obj} {f : Obj → Obj} : (hp.push o).update hp.objs.size f = hp.push (f o) := by
  obtain ⟨objs, l⟩ := hp
  show (⟨(objs.push o).modify objs.size f, l⟩ : Heap) = ⟨objs.push (f o), l⟩
  congr 1
  apply Array.ext
  · simp
  · intro i h1 h2
    simp only [Array.size_modify, Array.size_push] at h1
    rw [Array.getElem_modify]
    by_cases hi : i = objs.size
    · subst hi; simp
    · have hlt : i < objs.size := by omega
      rw [if_neg (by omega), Array.getElem_push_lt hlt, Array.getElem_push_lt hlt]
section
open Sem
theorem wp_nsSetN {M : Model} {Γ : PySem.Ctx} {E : Value → Pos → Shared → Prop} {p : Pos} {s : Shared} {name : Str} {v : Value} {Q : Unit → Pos → Shared → Prop} {hp : Heap} {c : Value} {d : Option Addr} {es : Array DictEntry} {ep : Nat} {sl : Array (Option Value)}
    (hs : s.heap = hp.push ⟨c, d, .dict es ep, sl⟩) (hk : ∀ e ∈ es, ∃ n t, e.key = .str n t ∧ n ≠ name)
    (hQ : Q () p { s with heap := hp.push ⟨c, d, .dict (es.push ⟨hashStr M.w name, .str name s.toks, v⟩) (ep + 1), sl⟩, toks := s.toks + 1 }) :
    Sem.wp M Γ (nsSet hp.objs.size name v) Q E p s := by
  have ho : s.heap.get? hp.objs.size = some ⟨c, d, .dict es ep, sl⟩ := by rw [hs]; exact Heap.get?_push_size _ rfl
  simp only [nsSet, strHash, wp_bind', wp_cmd_ask, wp_pure', wp_cmd_mkText]
  rw [wp_loadPart_of M Γ E p { s with toks := s.toks + 1 } (o := ⟨c, d, .dict es ep, sl⟩) _ ho]
  have hany : es.any (·.refKey) = false := by
    rw [Array.any_eq_false']; intro e he; obtain ⟨n, t, h, _⟩ := hk e he; simp [DictEntry.refKey, h]
  simp only [aRefKeyMayBeTheName_eq, aRefKeyMayBeTheNameByArray, hany, Bool.and_false, Bool.false_eq_true, if_false, wp_cmd_updatePart]
  refine ⟨by rw [ho]; rfl, ?_⟩
  have hi : es.findIdx? (·.key.isStr name) = none := by
    rw [Array.findIdx?_eq_none_iff]
    intro e he
    obtain ⟨n, t, h, hn⟩ := hk e he
    rw [h]
    show (n == name) = false
    exact beq_eq_false_iff_ne.mpr hn
  rw [hs, push_upd]
  simp only [Obj.putName_eq, Obj.putNameByArray, hi]
  exact hQ
end
theorem nsSetN {M : Model} {A : Around} {E : Value → Shared → Prop} {s : Shared} {name : Str} {v : Value} {Q : Unit → Shared → Prop} {hp : Heap} {c : Value} {d : Option Addr} {es : Array DictEntry} {ep : Nat} {sl : Array (Option Value)}
    (hs : s.heap = hp.push ⟨c, d, .dict es ep, sl⟩) (hk : ∀ e ∈ es, ∃ n t, e.key = .str n t ∧ n ≠ name)
    (hQ : Q () { s with heap := hp.push ⟨c, d, .dict (es.push ⟨hashStr M.w name, .str name s.toks, v⟩) (ep + 1), sl⟩, toks := s.toks + 1 }) :
    wpAny M A (nsSet hp.objs.size name v) Q E s := fun _ _ _ => wp_nsSetN hs hk hQ
def kwObj (es : Array DictEntry) (ep : Nat) : Obj := { cls := .type "dict", data := .dict es ep }
/-- the loop over the keywords -/
theorem kw_loop {M : Model} {A : Around} {E : Value → Shared → Prop} {hp : Heap} (f : (Str × Value) → PUnit → Sem (ForInStep PUnit)) (hf : ∀ x u, f x u = (do nsSet hp.objs.size x.1 x.2; pure (.yield ⟨⟩))) :
    ∀ (kw : List (Str × Value)) (s : Shared) (es : Array DictEntry) (ep : Nat) (Q : PUnit → Shared → Prop), s.heap = hp.push (kwObj es ep) → (kw.map (·.1)).Nodup → (∀ e ∈ es, ∃ n t, e.key = .str n t ∧ n ∉ kw.map (·.1)) →
    (∀ (es' : Array DictEntry) (ep' n : Nat), (∃ ts : List Tok, ts.length = kw.length ∧ es'.toList = es.toList ++ (kw.zip ts).map fun x => ⟨hashStr M.w x.1.1, .str x.1.1 x.2, x.1.2⟩) → Q ⟨⟩ { s with heap := hp.push (kwObj es' ep'), toks := n }) → wpAny M A (forIn kw ⟨⟩ f) Q E s
  | [], s, es, ep, Q, hs, _, _, hQ => by
    rw [List.forIn_nil]
    refine wpAny_pure ?_
    have := hQ es ep s.toks ⟨[], rfl, by simp⟩
    rw [← hs] at this
    exact this
  | x :: kw, s, es, ep, Q, hs, hn, hk, hQ => by
    rw [List.forIn_cons, hf]
    rw [List.map_cons, List.nodup_cons] at hn
    refine wpAny_bind (wpAny_bind (nsSetN hs (fun e he => ?_) (wpAny_pure ?_)))
    · obtain ⟨n, t, h, hne⟩ := hk e he
      exact ⟨n, t, h, fun z => hne (by rw [z]; exact List.mem_cons_self)⟩
    · refine kw_loop f hf kw _ _ _ Q rfl hn.2 (fun e he => ?_) fun es' ep' n ⟨ts, hl, he⟩ => ?_
      · rcases Array.mem_push.mp he with he | rfl
        · obtain ⟨n, t, h, hne⟩ := hk e he
          exact ⟨n, t, h, fun z => hne (List.mem_cons_of_mem _ z)⟩
        · exact ⟨_, _, rfl, hn.1⟩
      · refine hQ es' ep' n ⟨s.toks :: ts, by simp [hl], ?_⟩
        rw [he, Array.toList_push, List.append_assoc]; rfl
theorem bind_loop {F : Str × Value → List (Str × Value) × List (Str × Value) → Sem (ForInStep (List (Str × Value) × List (Str × Value)))} (hF : ∀ x r, F x r = pure (.yield (r.1, r.2 ++ [x]))) :
    ∀ (kw : List (Str × Value)) (r : List (Str × Value) × List (Str × Value)), forIn kw r F = (pure (r.1, r.2 ++ kw) : Sem _)
  | [], r => by rw [List.forIn_nil, List.append_nil]
  | x :: kw, r => by
    rw [List.forIn_cons, hF]
    show (forIn kw _ F) = _
    rw [bind_loop hF kw]
    show pure ((r.1, r.2 ++ [x] ++ kw) : List (Str × Value) × List (Str × Value)) = _
    rw [List.append_assoc]; rfl
theorem bind_kw {fd : FuncData} {pd : Str} {an : Option Expr} {ap : Pos} (hp : fd.params = ⟨[], [], none, [], [], some ⟨pd, an, ap⟩, []⟩) (hd : fd.defaults = .none) (kw : List (Str × Value)) (hl : kw.length ≤ 1000) :
    bindArgs fd ⟨[], kw⟩ = (alloc (kwObj #[] 0) >>= fun d => (forIn kw PUnit.unit fun x _ => (do nsSet d x.1 x.2; pure (.yield ⟨⟩))) >>= fun _ => pure [(pd, Value.ref d)]) := by
  unfold bindArgs
  rw [hp, hd]
  simp only []
  rw [bind_loop]
  case hF => intro x r; rfl
  have hz : ¬ (([] : List (Str × Value)) ++ kw).length > sizeLine + 1 := by
    rw [List.nil_append]
    have : sizeLine = 16777216 := rfl
    omega
  show (if (([] : List (Str × Value)) ++ kw).length > sizeLine + 1 then _ else _) = _
  exact if_neg hz
theorem kw_pairs {P : Program} {w : World} : ∀ {ks : List Str} {us : List Value} {vs : List V} {ts : List Tok}, Vals vs us → vs.length = ks.length → ts.length = (ks.zip us).length →
    ∃ kvs : List (Key × Value), KV ((ks.map (Sum.inr : Str → Key)).zip vs) kvs ∧ Pairs (mixKind P w) (((ks.zip us).zip ts).map fun x => (⟨hashStr w x.1.1, .str x.1.1 x.2, x.1.2⟩ : DictEntry)) kvs ∧ kvs.map (·.1) = ks.map Sum.inr
  | [], us, vs, ts, r, hl, ht => by
    cases vs with
    | nil => exact ⟨[], .nil, .nil, rfl⟩
    | cons _ _ => cases hl
  | k :: ks, us, vs, ts, r, hl, ht => by
    cases r with
    | nil => cases hl
    | cons a r =>
      cases ts with
      | nil => cases ht
      | cons t ts =>
        obtain ⟨kvs, h1, h2, h3⟩ := kw_pairs (P := P) (w := w) (ks := ks) (ts := ts) r (by simpa using hl) (by simpa using ht)
        exact ⟨(Sum.inr k, _) :: kvs, .cons ⟨rfl, a⟩ h1, .cons (keyIs_str k t) rfl h2, by rw [List.map_cons, h3]; rfl⟩
theorem pairs_keys {P : Program} {w : World} : ∀ {xs : List ((Str × Value) × Tok)}, ∀ e ∈ xs.map (fun x => (⟨hashStr w x.1.1, .str x.1.1 x.2, x.1.2⟩ : DictEntry)), ∃ k, (mixKind P w).is k e.key = true ∧ e.hash = (mixKind P w).hash k := fun {xs} e he => by
  obtain ⟨x, _, rfl⟩ := List.mem_map.mp he
  exact ⟨Sum.inr x.1.1, keyIs_str x.1.1 x.2, rfl⟩
theorem kw_obj {P : Program} {w : World} {hp : Heap} {H : Hp} {ks : List Str} {us : List Value} {vs : List V} {es : Array DictEntry} {ep : Nat} (r : Vals vs us) (hl : vs.length = ks.length) (nd : ks.Nodup) (hz : vs.length ≤ 1000) (hbig : sysModules < hp.objs.size)
    (he : ∃ ts : List Tok, ts.length = (ks.zip us).length ∧ es.toList = (#[] : Array DictEntry).toList ++ ((ks.zip us).zip ts).map fun x => ⟨hashStr w x.1.1, .str x.1.1 x.2, x.1.2⟩) : ObjOk P w H (hp.push (kwObj es ep)) hp.objs.size (.frz (kwObj es ep) (.dK ((ks.map Sum.inr).zip vs))) := by
  obtain ⟨ts, ht, he⟩ := he
  obtain ⟨kvs, h1, h2, h3⟩ := kw_pairs (P := P) (w := w) r hl ht
  have he : es.toList = ((ks.zip us).zip ts).map fun x => (⟨hashStr w x.1.1, .str x.1.1 x.2, x.1.2⟩ : DictEntry) := he
  refine ⟨Heap.get?_push_size _ rfl, ?_, beq_eq_false_iff_ne.mpr (Nat.ne_of_gt hbig), kvs, h1, _, es, ep, Heap.get?_push_size _ rfl, ⟨rfl, rfl, rfl⟩, rfl, fun e hm => ?_, by rw [he]; exact h2, ?_⟩
  · have : sizeLine = 16777216 := rfl
    rw [List.length_zip, List.length_map]; omega
  · exact pairs_keys (P := P) (w := w) e (by rw [← he]; exact Array.mem_toList_iff.mpr hm)
  · rw [h3]
    exact List.pairwise_map.mpr (nd.imp fun h e => h (Sum.inr.inj e))
variable [Ext]
section
variable {P : Program} {w : World} {K : PySem.W.Frag} {mg : Str → Option Value} {base : Heap} {k : Nat} {f : Addr} {name qual : Str} {params : Arguments} {body : List Stmt} {scope : Scope} {dV kV doc pm cdv ct oc : Value} {an od : Option Addr}
  {osl : Array (Option Value)} {N : List Str} {sp : Sp} {pd : Str}
theorem fn_kw (lk : K.lookup f = some ⟨oc, od, .func (PySem.W.fnOf name qual params body scope dV kV doc pm an cdv ct), osl⟩) (hcd : PySem.W.codeIn K cdv qual = true) (S : FnScope N [pd] scope)
    (hb : ∀ kw : List (Str × Value), kw.length ≤ 1000 → bindArgs (PySem.W.fnOf name qual params body scope dV kV doc pm an cdv ct) ⟨[], kw⟩ = (alloc (kwObj #[] 0) >>= fun d => (forIn kw PUnit.unit fun x _ => (do nsSet d x.1 x.2; pure (.yield ⟨⟩))) >>= fun _ => pure [(pd, Value.ref d)]))
    (hbody : ∀ (A : Around) (outer : List PySem.Env) (s : Shared) (H : Hp) (vs : List V) (Q : VK) (E : XK), Room k (A.deeper (PyProof.Rows.envOfC qual scope s.heap.objs.size f cdv)) → sp vs H Q E →
      ∃ t, PSs (cxOf (CX P w) P w K mg base N qual scope f cdv A outer s H E) body t ∧ t { nx := fun _ H' => Q .non H', rt := Q } (start N vs) H) :
    FnKw P w K mg base (CX P w) (k + 1) f (fun ks vs H Q E => vs.length = ks.length ∧ ks.Nodup ∧ vs.length ≤ 1000 ∧ ∀ p o, H p = none → sp [V.ref p] (upd H p (.frz o (.dK ((ks.map Sum.inr).zip vs)))) Q E) := by
  intro A outer s H ks us vs Q E hr e0 r ⟨hl, nd, hz, hq⟩
  have hn : H s.heap.objs.size = none := e0.hok.fresh (Nat.le_refl _)
  have hul : us.length = vs.length := r.length.symm
  have hkl : (ks.zip us).length ≤ 1000 := by rw [List.length_zip]; omega
  have hkm : (ks.zip us).map (·.1) = ks := by
    rw [List.map_fst_zip]
    omega
  refine StX.run_bnd lk hcd S hr e0 (G := fun xs H2 => ∃ p o, H p = none ∧ xs = [V.ref p] ∧ H2 = upd H p (.frz o (.dK ((ks.map Sum.inr).zip vs)))) (fun A' Ex Q' h => ?_) fun s2 H2 xs ⟨p, o, hp, ex, eH⟩ hr' => ?_
  · rw [hb (ks.zip us) hkl]
    refine wpAny_bind (wpAny_alloc (wpAny_bind (kw_loop (hp := s.heap) _ (fun _ _ => rfl) (ks.zip us) _ #[] 0 _ rfl (by rw [hkm]; exact nd) (fun e he => by simp at he) fun es ep n he => wpAny_pure ?_)))
    have new := kw_obj (P := P) (w := w) (H := upd H s.heap.objs.size (.frz (kwObj es ep) (.dK ((ks.map Sum.inr).zip vs)))) (ep := ep) r hl nd hz (StX.env0_big e0) he
    have e1 : Env0 P w K mg base A outer { s with toks := n } H := ⟨e0.frames, e0.mod, e0.bs, e0.bsz, e0.funs, e0.frf, e0.hok, e0.bare⟩
    have un := StX.un_laid (fs := frs outer) (s := s) (o := kwObj es ep) (u := .frz (kwObj es ep) (.dK ((ks.map Sum.inr).zip vs))) hn
    exact h _ _ [V.ref s.heap.objs.size] [Value.ref s.heap.objs.size] (StX.env0_laid (s := { s with toks := n }) e1 new) un rfl (fun e s' => cxUpN outer s H _ _ E e s' un (fun b o q => Heap.get?_push_of_some _ q) rfl) (.cons rfl .nil) rfl ⟨_, _, hn, rfl, rfl⟩
  · subst ex eH
    exact hbody A outer s2 _ _ Q E hr' (hq p o hp)
end
section
variable {P : Program} {w : World} {K : PySem.W.Frag} {mg : Str → Option Value} {base : Heap} {x qual : Str} {params : Arguments} {body : List Stmt} {scope : Scope} {dvs : List V} {kws : List (Str × V)} {f : Addr} {fd : FuncData}
/-- THE RULE for a def f(**d) -/
theorem fn_okK {N : List Str} {pd : Str} {an' : Option Expr} {ap : Pos} {k : Nat} {c : CT} {sm : SS} (F : FunD K x qual params body scope [] kws f fd) (S : FnScope N [pd] scope)
    (hp : params = ⟨[], [], none, [], [], some ⟨pd, an', ap⟩, []⟩)
    (hbody : ∀ (cdv : Value) (A : Around) (outer : List PySem.Env) (s : Shared) (H : Hp) (E : XK), Room k (A.deeper (PyProof.Rows.envOfC qual scope s.heap.objs.size f cdv)) →
      PSs (cxOf (CX P w) P w K mg base N qual scope f cdv A outer s H E) body (rdS K c (fun cls d _ H' => E cls d H') sm)) :
    FnKw P w K mg base (CX P w) (k + 1) f (kwS K (runDef N.length [pd].length sm c)) := by
  obtain ⟨oc, od, dV, kV, doc, pm, an, cdv, ct, osl, rfl, lk, hcd, hD, _⟩ := F.ex
  rcases hD with ⟨_, rfl⟩ | ⟨e, _⟩
  case inr => exact absurd rfl e
  subst hp
  exact fn_kw (N := N) (pd := pd) (sp := spOf K (runDef N.length [pd].length sm c)) lk hcd S (fun kw hk => bind_kw rfl rfl kw hk) fun A outer s H vs Q E hr hsp => ⟨_, hbody cdv A outer s H E hr, sp_rd S hsp⟩
end
/-! ### f(k = e, ..) -/
def eCallK (p : Str × Option Str) (ks : List Str) (fs : SA) : SE := fun c env => bindA (fs c env) fun vs e1 => (takes e1 vs).bind fun q => if q.1.length = ks.length ∧ ks.Nodup ∧ q.1.length ≤ 1000 then (c p).bind fun g => resOf (g [.sh (.kd ((ks.map Sum.inr).zip q.1))]) fun _ => some q.2 else none
section
variable {X : Cx} {ca : PySem.W.Frag} {c : CT} {W : WX} {pos p : Pos} {x : Str} {e : Expr} {kws : List Keyword} {fa : SE} {fs : SA} {nm : Option Str} {kpos : Pos}
theorem PK_weak {t t' : TA} (h : PK X kws t) (w : ∀ σ H Q, t' σ H Q → t σ H Q) : PK X kws t' := ⟨fun pos pins s σ H Q I q => h.run pos pins s σ H Q I (w σ H Q q)⟩
theorem k_nil : PK X [] (rdA ca c W aNil) := PK_weak pk_nil (by
  rintro σ H Q ⟨b, env, G, o, R, e, post⟩
  cases e
  exact post [] G H R .nil)
theorem k_cons (ha : PE X e (rdE ca c W fa)) (hr : PK X kws (rdA ca c W fs)) : PK X (⟨nm, e, kpos⟩ :: kws) (rdA ca c W (aCons fa fs)) := PK_weak (pk_cons ha hr) (by
  rintro σ H Q ⟨b, env, G, o, R, e, post⟩
  unfold aCons at e
  split at e
  · rename_i v e1 ea
    refine rdE.use R ea fun u G1 H1 R1 vr sg _ => ?_
    obtain ⟨G2, sg2, R2, hd⟩ := VRel.held R1 vr
    split at e
    · rename_i vs e2 er
      cases e
      exact rdA_use R2 er fun us G3 H3 R3 hds sg3 => post _ G3 H3 R3 (.cons (hd.mono sg3) hds)
    · rename_i x e2 er
      cases e
      exact rdA_use R2 er post
    · cases e
  · rename_i x e1 ea
    cases e
    exact rdE.use R ea post
  · cases e)
theorem kw_core {b : Bs} {e1 : Env} {σ : L2.St} {G1 H1 : Hp} {ks : List Str} {vs : List V} {ds : List D} {g : List Arg → Option CRes} {o : EO} {Q : VK} (R1 : Rel ca b e1 σ G1 H1) (r : Reps ca G1 vs ds) (hz : ds.length = ks.length ∧ ks.Nodup ∧ ds.length ≤ 1000)
    (e : resOf (g [.sh (.kd ((ks.map Sum.inr).zip ds))]) (fun _ => some e1) = some o) (post : EPost ca b W σ Q o) : kwS ca g ks vs H1 Q (WE W σ) := by
  refine ⟨by rw [r.len]; exact hz.1, hz.2.1, by rw [r.len]; exact hz.2.2, fun q fo hq => ?_⟩
  obtain ⟨R2, sg2⟩ := R1.growFz (o := .frz fo (.dK ((ks.map Sum.inr).zip vs))) hq
  have rl := r.len
  have r2 : Reps ca (upd G1 q (.frz fo (.dK ((ks.map Sum.inr).zip vs)))) [V.ref q] [.kd ((ks.map Sum.inr).zip ds)] := by
    refine ⟨rfl, fun i v d h1 h2 => ?_⟩
    cases i with
    | zero =>
      cases h1; cases h2
      refine .kd upd_same ?_ fun i v d h1 h2 => ?_
      · rw [List.map_fst_zip (by rw [List.length_map]; omega), List.map_fst_zip (by rw [List.length_map]; omega)]
      · rw [List.getElem?_zip_eq_some] at h1 h2
        exact (r.mono sg2).at_ i v.2 d.2 h1.2 h2.2
    | succ n => simp at h1
  obtain ⟨ar, nb, na⟩ := argsSh (H := upd H1 q (.frz fo (.dK ((ks.map Sum.inr).zip vs)))) r2
  have frr : ∀ {outs G' H'}, CPost ca (upd G1 q (.frz fo (.dK ((ks.map Sum.inr).zip vs)))) (upd H1 q (.frz fo (.dK ((ks.map Sum.inr).zip vs)))) [V.ref q] ([D.kd ((ks.map Sum.inr).zip ds)].map .sh) outs G' H' → Same (upd H1 q (.frz fo (.dK ((ks.map Sum.inr).zip vs)))) H' := fun {outs G' H'} cp a o ha => cp.fr a o ha (fun i => by rw [nb]; exact fun z => nomatch z) fun i => na i a
  cases er : g [.sh (.kd ((ks.map Sum.inr).zip ds))] with
  | none => rw [er] at e; cases e
  | some r =>
    rw [er] at e
    refine ⟨_, _, r, R2.sub, ar, er, ?_⟩
    have go : ∀ {outs G' H'}, CPost ca (upd G1 q (.frz fo (.dK ((ks.map Sum.inr).zip vs)))) (upd H1 q (.frz fo (.dK ((ks.map Sum.inr).zip vs)))) [V.ref q] ([D.kd ((ks.map Sum.inr).zip ds)].map .sh) outs G' H' → Rel ca b e1 σ G' H' := fun {outs G' H'} cp => R2.call0 cp.sub cp.mono cp.new (frr cp)
    cases r with
    | ret rv outs =>
      cases e
      exact fun u G' H' cp rr => post u G' H' (go cp) (RRelC.vrel R2 rr (fun j s e1 m => ⟨s, e1, m⟩) fun j s p x e1 m ep z => .inl ⟨s, e1, z.back (R2.backs (frr cp) j s p e1 m ep)⟩)
    | exc x outs =>
      cases e
      exact fun cls d G' H' cp q => post cls d G' H' (go cp) q
theorem callK_in {p : Str × Option Str} {ks : List Str} {g : List Arg → Option CRes} (hg : c p = some g) : ∀ σ H Q, rdE ca c W (eCallK p ks fs) σ H Q → rdA ca c W fs σ H fun us H1 => kwS ca g ks us H1 Q (WE W σ) := by
  rintro σ H Q ⟨b, env, G, o, R, e, post⟩
  refine rdA_bind R e post fun vs e1 us G1 H1 _ R1 hd sg e => ?_
  cases et : takes e1 vs with
  | none => rw [et] at e; cases e
  | some q =>
    rw [et] at e
    simp only [Option.bind_some] at e
    split at e
    case isFalse => cases e
    rename_i hz
    rw [hg] at e
    simp only [Option.bind_some] at e
    obtain ⟨G2, s2, R2, r2⟩ := Helds.takes (ds := q.1) (env' := q.2) R1 hd et
    exact kw_core R2 r2 hz e post
theorem run_fnKA {CX' : CXT} {k : Nat} {f : Addr} {sp : List Str → Sp} {pins : List (Addr × Obj)} {σ : L2.St} {H : Hp} {s : Shared} {E : XK} {Q : VK} {ks : List Str} {us : List Value} {vs : List V} (F : FnKw X.prog X.w X.K X.mg X.base CX' k f sp) (hr : Room k X.A) (hx : PassesAt CX' X σ E) (I : Inv X pins σ H s) (r : Vals vs us) (h : sp ks vs H Q E) :
    codeAny (model X.prog X.w) X.A (.call (.ref f) ⟨[], ks.zip us⟩) (fun r s' => match r with | .ok (.ret v) => EP X pins σ Q v s' | .ok _ => False | .error e => X.xe e s') s := by
  refine codeAny_mono (F X.A X.stack s H ks us vs Q E hr I.env0 r h) fun r s' hq => ?_
  cases r with
  | error e => exact hx pins H s e s' I hq
  | ok fl =>
    cases fl with
    | ret u => exact I.after hq
    | next => exact False.elim hq
    | brk => exact False.elim hq
    | cont => exact False.elim hq
theorem p_callK {ks : List Str} (F : Fns X ca c) (hc : (c (x, none)).isSome = true) (hm : X.mg x = some (.ref (He.fAd X.K (x, none)))) (hk : PySem.W.keepIn X.K (.ref (He.fAd X.K (x, none))) = true) (tk : Takes X W) (ha : PK X kws (rdA ca c W fs)) (hg : Gl X x := by rfl)
    (hdb : (x == ("__debug__" : Str)) = false := by decide) (hall : (backToKw pos (keywordEach kws X.env)).all (·.1.isSome) = true := by rfl) (hks : (backToKw pos (keywordEach kws X.env)).filterMap (·.1) = ks := by rfl)
    (hpl : ((backTo pos (starEach [] X.env)).any (·.1) || (backToKw pos (keywordEach kws X.env)).any (·.1.isNone)) = false := by rfl) (hst : starB (x, none) = true := by decide) (hkw : kwB (x, none) = true := by decide) : PE X (.Call (.Name x p) [] kws pos) (rdE ca c W (eCallK (x, none) ks fs)) := by
  obtain ⟨g, hg'⟩ := Option.isSome_iff_exists.mp hc
  obtain ⟨k, F1, hr⟩ := F.fnR _ _ hg' hst
  unfold StK at F1
  rw [if_pos hkw] at F1
  refine ⟨fun pins s σ H Q I h => ?_⟩
  have h := callK_in (ks := ks) hg' σ H Q h
  refine wpAny_Call_Name_kw (ld_glob I hg hm ?_ hdb)
  refine PySem.W.callWith_KW0 (h₀ := X.base) I.ok.mod.kin hk hall (thn (ha.run pos pins s σ H _ I h) fun us s1 ⟨vs, H1, I1, r, q⟩ => ⟨I1.kIn, ?_⟩) hpl
  rw [hks]
  exact wpAny_call (run_fnKA F1 (hr.mono (Nat.le_succ _)) (passAt tk σ) I1 r q)
end
/-! ### for k in d, d[k], where d is such a dict -/
def keyD : Key → D
  | .inl i => .int i
  | .inr s => .str s
theorem kV_rep {ca : PySem.W.Frag} {G : Hp} (k : Key) : Rep ca G (kV k) (keyD k) := by
  cases k with
  | inl i => exact .int i
  | inr s => exact .str s
/-- looked at as any dict -/
def eDk (f : SE) : SE := fun c env => bindV (f c env) fun v e1 => match v with
  | .sh (.kd kvs) => some (.val (.sh (.dk kvs)) e1)
  | _ => none
def itDk (f : SE) : SI := fun c env => bindI (f c env) fun v e => match v with
  | .sh (.kd kvs) => some (.its (kvs.map fun p => keyD p.1) e)
  | _ => none
section
variable {X : Cx} {ca : PySem.W.Frag} {c : CT} {W : WX} {e : Expr} {f : SE} {tg : Expr}
theorem p_dk (he : PE X e (rdE ca c W f)) : PE X e (rdE ca c W (eDk f)) := PE_weak he (by
  rintro σ H Q ⟨b, env, G, o, R, e, post⟩
  unfold eDk bindV at e
  split at e
  · rename_i v e1 hf
    dsimp only at e
    split at e
    · cases e
      refine rdE.use R hf fun u G1 H1 R1 vr sg _ => post u G1 H1 R1 ?_
      cases (show Rep ca G1 u _ from vr) with
      | kd r l q => exact .dk (.inr ⟨_, r⟩) l q
    · cases e
  · rename_i x e1 hf
    cases e
    exact rdE.use R hf post
  · cases e)
theorem itk_of {G0 : Hp} {d : Addr} {o : Obj} {vs : List (Key × V)} {ds : List (Key × D)} (h : G0 d = some (.frz o (.dK vs))) (l : vs.map (·.1) = ds.map (·.1)) : ItOk ca G0 (Itk d o vs) (ds.map fun p => keyD p.1) := by
  intro i H G s t
  have hd := (s.trans t) _ _ h
  have hl : vs.length = ds.length := by
    have := congrArg List.length l
    simpa using this
  refine ⟨fun d hdd => ?_, fun hi => ⟨hd, by rw [hl]; simpa using hi⟩⟩
  rw [List.getElem?_map] at hdd
  cases hz : ds[i]? with
  | none => rw [hz] at hdd; cases hdd
  | some p =>
    rw [hz] at hdd
    cases hdd
    have hi : i < ds.length := (List.getElem?_eq_some_iff.mp hz).1
    refine ⟨⟨hd, by rw [hl]; exact hi⟩, fun x H' y => ?_⟩
    obtain ⟨e, k, v, h1, h2⟩ := y
    subst e h2
    have : p.1 = k := by
      have e1 : (vs.map (·.1))[i]? = some k := by rw [List.getElem?_map, h1]; rfl
      rw [l, List.getElem?_map, hz] at e1
      exact Option.some.inj e1
    show OpOut ca G H' (kV k) H' (.sh (keyD p.1))
    rw [this]
    exact out_sh (kV_rep k)
theorem i_dk (he : PE X e (rdE ca c W f)) : PI X tg e (rdI ca c W (itDk f)) := by
  refine ⟨fun pins s σ H R I h => ?_⟩
  obtain ⟨b, env, G, o, R0, e, post⟩ := h
  unfold itDk bindI at e
  split at e
  · rename_i v e1 hf
    dsimp only at e
    split at e
    · rename_i kvs
      cases e
      refine (pi_keys he).run pins s σ H R I (rdE.use R0 hf fun u G1 H1 R1 vr _ _ => ?_)
      cases (show Rep ca G1 u (.kd kvs) from vr) with
      | kd r l q => exact ⟨_, _, rfl, .inl ⟨_, R1.sub _ _ r, post _ G1 H1 R1 (itk_of r l)⟩⟩
    · cases e
  · rename_i x e1 hf
    cases e
    exact (pi_keys he).run pins s σ H R I (rdE.use R0 hf post)
  · cases e
end
end Pd
namespace Pd.L
open PySem PySem.Spec L2
abbrev cl : List Str := ["Schema"]
abbrev ic : List (Str × Str) := [("Schema", "names")]
abbrev xt : XT := [("BadWidth", ["BadWidth", "InputError", "PinError"]), ("BadWord", ["BadWord", "InputError", "PinError"]), ("DuplicateTable", ["DuplicateTable", "InputError", "PinError"]), ("TooLarge", ["TooLarge", "PinError"]), ("UnknownTable", ["UnknownTable", "InputError", "PinError"])]
abbrev asked : List Str := ["BadWidth", "BadWord", "DuplicateTable", "InputError", "PinError", "TooLarge", "UnknownTable"]
abbrev xf : List (Str × Str) := [("BadWidth", "table"), ("BadWord", "word"), ("DuplicateTable", "table"), ("TooLarge", "most"), ("UnknownTable", "table")]
def top (i : Nat) : Stmt := PySem.Challenge.pw_pinnedasks_k02_schema_refusals.main.body.getD i (.Pass ⟨0, 0, 0, 0⟩)
abbrev fl : List (Str × Str) := [("Schema", "names"), ("Schema", "widths")]
abbrev s_merged : Stmt := top 9
abbrev s_ascending : Stmt := top 10
abbrev s_is_integer : Stmt := top 11
abbrev s_is_word : Stmt := top 15
abbrev s_Schema_init : Stmt := inClass (top 16) 2
abbrev s_Schema_getitem : Stmt := inClass (top 16) 7
abbrev s_schema_of : Stmt := top 17
abbrev s_law_start : Stmt := top 19
abbrev s_law_draw : Stmt := top 20
abbrev s_law_is_int : Stmt := top 21
abbrev s_law_same : Stmt := top 22
abbrev s_law_word : Stmt := top 23
abbrev s_law_pool : Stmt := top 24
abbrev s_law_bad_word : Stmt := top 25
abbrev s_law_bad_width : Stmt := top 26
abbrev s_law_spoilt : Stmt := top 27
abbrev s_law_is_word : Stmt := top 28
abbrev s_law_due : Stmt := top 29
abbrev s_law_made : Stmt := top 30
abbrev s_law_told : Stmt := top 31
abbrev s_law_strange : Stmt := top 32
abbrev s_law : Stmt := top 33
abbrev s_hlaw_same : Stmt := top 22
abbrev s_Schema_iter_ : Stmt := inClass (top 16) 5
def fa : List He.Fa := [.free "ValueError", .free "bool", .free "int", .free "isinstance", .free "iter", .free "len", .free "list", .free "range", .free "str", .free "tuple", .glo "_law_bad_width", .keep "_law_bad_width", .glo "_law_bad_word", .keep "_law_bad_word", .glo "_law_draw", .keep "_law_draw", .glo "_law_due", .keep "_law_due", .glo "_law_is_int", .keep "_law_is_int", .glo "_law_is_word", .keep "_law_is_word", .glo "_law_made", .keep "_law_made", .glo "_law_pool", .keep "_law_pool", .glo "_law_same", .keep "_law_same", .glo "_law_spoilt", .keep "_law_spoilt", .glo "_law_start", .keep "_law_start", .glo "_law_strange", .keep "_law_strange", .glo "_law_told", .keep "_law_told", .glo "_law_word", .keep "_law_word", .glo "ascending", .keep "ascending", .glo "is_integer", .keep "is_integer", .glo "is_word", .keep "is_word", .glo "merged", .keep "merged", .glo "schema_of", .keep "schema_of", .int "MAX_WORD" (20), .str "WORD_CHARACTERS" "ABCDEFGHIJKLMNOPQRSTUVWXYZabcdefghijklmnopqrstuvwxyz0123456789_", .glo "Schema", .mkr "Schema", .glo "BadWidth", .glo "BadWord", .glo "DuplicateTable", .glo "InputError", .glo "PinError", .glo "TooLarge", .glo "UnknownTable", .meth "Schema" "__getitem__", .meth "Schema" "__iter__", .glo "law"]
def cns : List (Str × Str × Int) := [("Schema", "MAX_TABLES", 8), ("Schema", "MAX_WIDTH", 4)]
def prs : List (Str × Str) := []
def mts : List (Str × Str) := [("Schema", "__init__"), ("Schema", "__getitem__"), ("Schema", "__iter__")]
def cmts : List (Str × Str) := []
def mkts : List Str := []
def mkxs : List (Str × Str × Str) := [("BadWidth", "table", "InputError"), ("BadWord", "word", "InputError"), ("DuplicateTable", "table", "InputError"), ("TooLarge", "most", "PinError"), ("UnknownTable", "table", "InputError")]
def ex (K : PySem.W.Frag) : Bool := (fa.all fun f => f.ok K) && (knB K cl fl && ((cns.all fun q => conB K q.1 q.2.1 q.2.2) && ((prs.all fun q => propB K q.1 q.2) && ((mts.all fun q => PySem.W.fnIn K (He.fAd K (q.1, some q.2))) && (true && (xwB K xt asked xf && ((mkts.all fun q => mktB K q) && ((mkxs.all fun q => mkxB K q.1 q.2.1 q.2.2) && (cmts.all fun q => cmK K q.1 q.2)))))))))
def dd_merged : DefP := ⟨("merged", none), "merged", "merged", defArgs s_merged, defBody s_merged, defScope s_merged, []⟩
def dd_ascending : DefP := ⟨("ascending", none), "ascending", "ascending", defArgs s_ascending, defBody s_ascending, defScope s_ascending, []⟩
def dd_is_integer : DefP := ⟨("is_integer", none), "is_integer", "is_integer", defArgs s_is_integer, defBody s_is_integer, defScope s_is_integer, []⟩
def dd_is_word : DefP := ⟨("is_word", none), "is_word", "is_word", defArgs s_is_word, defBody s_is_word, defScope s_is_word, []⟩
def dd_Schema_init : DefP := ⟨("Schema", some "__init__"), "__init__", "Schema.__init__", defArgs s_Schema_init, defBody s_Schema_init, defScope s_Schema_init, []⟩
def dd_Schema_getitem : DefP := ⟨("Schema", some "__getitem__"), "__getitem__", "Schema.__getitem__", defArgs s_Schema_getitem, defBody s_Schema_getitem, defScope s_Schema_getitem, []⟩
def dd_schema_of : DefP := ⟨("schema_of", none), "schema_of", "schema_of", defArgs s_schema_of, defBody s_schema_of, defScope s_schema_of, []⟩
def dd_law_start : DefP := ⟨("_law_start", none), "_law_start", "_law_start", defArgs s_law_start, defBody s_law_start, defScope s_law_start, []⟩
def dd_law_draw : DefP := ⟨("_law_draw", none), "_law_draw", "_law_draw", defArgs s_law_draw, defBody s_law_draw, defScope s_law_draw, []⟩
def dd_law_is_int : DefP := ⟨("_law_is_int", none), "_law_is_int", "_law_is_int", defArgs s_law_is_int, defBody s_law_is_int, defScope s_law_is_int, []⟩
def dd_law_same : DefP := ⟨("_law_same", none), "_law_same", "_law_same", defArgs s_law_same, defBody s_law_same, defScope s_law_same, []⟩
def dd_law_word : DefP := ⟨("_law_word", none), "_law_word", "_law_word", defArgs s_law_word, defBody s_law_word, defScope s_law_word, []⟩
def dd_law_pool : DefP := ⟨("_law_pool", none), "_law_pool", "_law_pool", defArgs s_law_pool, defBody s_law_pool, defScope s_law_pool, []⟩
def dd_law_bad_word : DefP := ⟨("_law_bad_word", none), "_law_bad_word", "_law_bad_word", defArgs s_law_bad_word, defBody s_law_bad_word, defScope s_law_bad_word, []⟩
def dd_law_bad_width : DefP := ⟨("_law_bad_width", none), "_law_bad_width", "_law_bad_width", defArgs s_law_bad_width, defBody s_law_bad_width, defScope s_law_bad_width, []⟩
def dd_law_spoilt : DefP := ⟨("_law_spoilt", none), "_law_spoilt", "_law_spoilt", defArgs s_law_spoilt, defBody s_law_spoilt, defScope s_law_spoilt, []⟩
def dd_law_is_word : DefP := ⟨("_law_is_word", none), "_law_is_word", "_law_is_word", defArgs s_law_is_word, defBody s_law_is_word, defScope s_law_is_word, []⟩
def dd_law_due : DefP := ⟨("_law_due", none), "_law_due", "_law_due", defArgs s_law_due, defBody s_law_due, defScope s_law_due, []⟩
def dd_law_made : DefP := ⟨("_law_made", none), "_law_made", "_law_made", defArgs s_law_made, defBody s_law_made, defScope s_law_made, []⟩
def dd_law_told : DefP := ⟨("_law_told", none), "_law_told", "_law_told", defArgs s_law_told, defBody s_law_told, defScope s_law_told, []⟩
def dd_law_strange : DefP := ⟨("_law_strange", none), "_law_strange", "_law_strange", defArgs s_law_strange, defBody s_law_strange, defScope s_law_strange, []⟩
def dd_law : DefP := ⟨("law", none), "law", "law", defArgs s_law, defBody s_law, defScope s_law, []⟩
def dd_Schema_iter_ : DefP := ⟨("Schema", some "__iter__"), "__iter__", "Schema.__iter__", defArgs s_Schema_iter_, defBody s_Schema_iter_, defScope s_Schema_iter_, []⟩
abbrev s_BadWidth_init : Stmt := inClass (top 5) 0
def dd_BadWidth_init : DefP := ⟨("BadWidth", some "__init__"), "__init__", "BadWidth.__init__", defArgs s_BadWidth_init, defBody s_BadWidth_init, defScope s_BadWidth_init, []⟩
abbrev s_BadWord_init : Stmt := inClass (top 4) 0
def dd_BadWord_init : DefP := ⟨("BadWord", some "__init__"), "__init__", "BadWord.__init__", defArgs s_BadWord_init, defBody s_BadWord_init, defScope s_BadWord_init, []⟩
abbrev s_DuplicateTable_init : Stmt := inClass (top 6) 0
def dd_DuplicateTable_init : DefP := ⟨("DuplicateTable", some "__init__"), "__init__", "DuplicateTable.__init__", defArgs s_DuplicateTable_init, defBody s_DuplicateTable_init, defScope s_DuplicateTable_init, []⟩
abbrev s_TooLarge_init : Stmt := inClass (top 3) 0
def dd_TooLarge_init : DefP := ⟨("TooLarge", some "__init__"), "__init__", "TooLarge.__init__", defArgs s_TooLarge_init, defBody s_TooLarge_init, defScope s_TooLarge_init, []⟩
abbrev s_UnknownTable_init : Stmt := inClass (top 7) 0
def dd_UnknownTable_init : DefP := ⟨("UnknownTable", some "__init__"), "__init__", "UnknownTable.__init__", defArgs s_UnknownTable_init, defBody s_UnknownTable_init, defScope s_UnknownTable_init, []⟩
def fn : List DefP := [dd_merged, dd_ascending, dd_is_integer, dd_is_word, dd_Schema_init, dd_Schema_getitem, dd_schema_of, dd_law_start, dd_law_draw, dd_law_is_int, dd_law_same, dd_law_word, dd_law_pool, dd_law_bad_word, dd_law_bad_width, dd_law_spoilt, dd_law_is_word, dd_law_due, dd_law_made, dd_law_told, dd_law_strange, dd_law, dd_Schema_iter_, dd_BadWidth_init, dd_BadWord_init, dd_DuplicateTable_init, dd_TooLarge_init, dd_UnknownTable_init]
abbrev loose : List Str := (["__name__", "PinError", "InputError", "TooLarge", "BadWord", "BadWidth", "DuplicateTable", "UnknownTable", "merged", "ascending", "is_integer", "WORD_CHARACTERS", "MAX_WORD", "is_word", "Schema", "schema_of", "_law_start", "_law_draw", "_law_is_int", "_law_same", "_law_word", "_law_pool", "_law_bad_word", "_law_bad_width", "_law_spoilt"] : List Str) ++ (["_law_is_word", "_law_due", "_law_made", "_law_told", "_law_strange"] : List Str)
abbrev RR : PySem.W.OpenRow := PySem.W.OpenLaw.row PySem.Challenge.rw_pinnedasks_k02_schema_refusals
abbrev hk : PySem.W.Hook := hookC 5 ex fn
def ob (s : PySem.W.SharedT) : AlP := obsPC 5 ex fn (HandSHeadRun.getT s)
theorem ob_eq (s : PySem.W.SharedT) : ob s = hk.obs s.abs := obsPC_eq (HandSHeadRun.getT_eq s)
theorem run (w : World) : HandSHeadRun.RunEq RR (PySem.W.view RR.prog [33]) hk ob 20000 Pd.L.loose w := by
  intro os
  kernel_rfl
end Pd.L
/-! P1: loops as folds; the draws -/
namespace Pd
open PySem PySem.Spec L2
/-- a loop that searches: it goes on where ok, else hands back r -/
theorem forL_search {g : SG} {f : Env → Option SO} (J : Env → Prop) (ok : D → Bool) (r : RV) : ∀ (ds : List D) (env : Env), J env →
    (∀ d ∈ ds, ∀ e, J e → ∃ e1 e2, g d e = some e1 ∧ J e2 ∧ f e1 = some (if ok d = true then .nx e2 else .ret r e2)) → ∃ e', J e' ∧ forL g f ds env = some (if ds.all ok = true then .nx e' else .ret r e')
  | [], env, h, _ => ⟨env, h, rfl⟩
  | d :: ds, env, h, q => by
    obtain ⟨e1, e2, h1, h2, h3⟩ := q d List.mem_cons_self env h
    by_cases ho : ok d = true
    · rw [if_pos ho] at h3
      obtain ⟨e', h4, h5⟩ := forL_search J ok r ds e2 h2 fun d' hd => q d' (List.mem_cons_of_mem _ hd)
      refine ⟨e', h4, ?_⟩
      unfold forL
      rw [h1]
      simp only [Option.bind_some, h3, List.all_cons, ho, Bool.true_and]
      exact h5
    · rw [if_neg ho] at h3
      refine ⟨e2, h2, ?_⟩
      unfold forL
      rw [h1]
      simp only [Option.bind_some, h3, List.all_cons, ho, Bool.false_and]
      rfl
/-- a comprehension with a test: what stays -/
theorem lcL_filter {g : SG} {t f : Env → Option EO} {vs : List Nat} (J : Env → Prop) (ok : D → Bool) (h : D → D) : ∀ (ds : List D) (env : Env) (acc : List D), J env → acc.length + ds.length ≤ sizeLine →
    (∀ d ∈ ds, ∀ e, J e → ∃ e1 e2 e3 v e4, g d e = some e1 ∧ t e1 = some (.val (.sh (.bl (ok d))) e2) ∧ J (wipeE e2 vs) ∧ (ok d = true → f e2 = some (.val v e3) ∧ take e3 v = some (h d, e4) ∧ J (wipeE e4 vs))) →
    ∃ e', J e' ∧ lcL g t f vs ds env acc = some (acc ++ (ds.filter ok).map h, e')
  | [], env, acc, hj, _, _ => ⟨env, hj, by simp [lcL]⟩
  | d :: ds, env, acc, hj, hl, q => by
    obtain ⟨e1, e2, e3, v, e4, h1, h2, h3, h4⟩ := q d List.mem_cons_self env hj
    simp only [List.length_cons] at hl
    cases ho : ok d with
    | true =>
      obtain ⟨k1, k2, k3⟩ := h4 ho
      obtain ⟨e', m1, m2⟩ := lcL_filter J ok h ds (wipeE e4 vs) (acc ++ [h d]) k3 (by simp; omega) fun d' hd => q d' (List.mem_cons_of_mem _ hd)
      refine ⟨e', m1, ?_⟩
      unfold lcL
      rw [h1]
      simp only [Option.bind_some, h2, ho, k1, k2]
      rw [if_pos (by omega), m2, List.filter_cons_of_pos ho]
      simp
    | false =>
      obtain ⟨e', m1, m2⟩ := lcL_filter J ok h ds (wipeE e2 vs) acc h3 (by omega) fun d' hd => q d' (List.mem_cons_of_mem _ hd)
      refine ⟨e', m1, ?_⟩
      unfold lcL
      rw [h1]
      simp only [Option.bind_some, h2, ho]
      rw [m2, List.filter_cons_of_neg (by simp [ho])]
/-- the table's entry for p keeps a promise -/
def Has (c : CT) (p : Str × Option Str) (S : (List Arg → Option CRes) → Prop) : Prop := ∃ g, c p = some g ∧ S g

/-! ### the draws -/
structure LS where
  ns : List Int
  pos : Int
  c2 : Int
  c3 : Int
  c4 : Int
def LS.cell (s : LS) : Cell := .lst [.lst (s.ns.map .int), .int s.pos, .int s.c2, .int s.c3, .int s.c4]
/-- the cells that a law draws from -/
def Good (cl : Cell) : Prop := ∃ s : LS, cl = s.cell ∧ 0 ≤ s.pos ∧ s.ns.length ≤ 63
def DrawOk (g : List Arg → Option CRes) : Prop := ∀ cl (n : Int), Good cl → n < 1073741824 → ∃ (r : Int) (cl' : Cell), g [.brw cl, .sh (.int n)] = some (.ret (.sh (.int r)) [some cl', none]) ∧ Good cl' ∧ 0 ≤ r ∧ (r < n ∨ r = 0)
def StartOk (g : List Arg → Option CRes) : Prop := ∀ ns : List Int, ns.length ≤ 63 → ∃ cl, g [.sh (.scr ns)] = some (.ret (.fr cl) [none]) ∧ Good cl
end Pd
/-! P2: running what the defs compute, by what is wanted of the end -/
namespace Pd
open PySem PySem.Spec L2
def EvE (x : Option EO) (Q : Val → Env → Prop) : Prop := ∃ v e, x = some (.val v e) ∧ Q v e
def EvA (x : Option AO) (Q : List Val → Env → Prop) : Prop := ∃ v e, x = some (.vals v e) ∧ Q v e
def EvI (x : Option IO) (Q : List D → Env → Prop) : Prop := ∃ v e, x = some (.its v e) ∧ Q v e
def EvS (x : Option SO) (N : Env → Prop) (R : RV → Env → Prop) (B C : Env → Prop) (X : Exc → Env → Prop) : Prop := ∃ o, x = some o ∧ match o with
  | .nx e => N e
  | .ret r e => R r e
  | .brk e => B e
  | .ct e => C e
  | .exc x e => X x e
section
variable {c : CT} {env : Env} {Q : Val → Env → Prop} {N B C : Env → Prop} {R : RV → Env → Prop} {X : Exc → Env → Prop}
theorem ev_var {i : Nat} {v : Val} (h : eVar i c env = some (.val v env)) (q : Q v env) : EvE (eVar i c env) Q := ⟨v, env, h, q⟩
theorem ev_c {d : D} (q : Q (.sh d) env) : EvE (eC d c env) Q := ⟨_, _, rfl, q⟩
theorem ev_yes (q : Q (.sh (.bl true)) env) : EvE (eYes c env) Q := ⟨_, _, rfl, q⟩
theorem ev_bin {g : D → D → Option Val} {fa fb : SE} (h : EvE (fa c env) fun va e1 => EvE (fb c e1) fun vb e2 => ∃ da db r, peek e2 va = some da ∧ peek e2 vb = some db ∧ g da db = some r ∧ Q r e2) : EvE (eBin g fa fb c env) Q := by
  obtain ⟨va, e1, h1, vb, e2, h2, da, db, r, h3, h4, h5, q⟩ := h
  refine ⟨r, e2, ?_, q⟩
  simp only [eBin, bindV, h1, h2, h3, h4, h5, Option.bind_some, Option.map_some]
theorem ev_un {g : D → Option Val} {fa : SE} (h : EvE (fa c env) fun va e1 => ∃ da r, peek e1 va = some da ∧ g da = some r ∧ Q r e1) : EvE (eUn g fa c env) Q := by
  obtain ⟨va, e1, h1, da, r, h3, h5, q⟩ := h
  refine ⟨r, e1, ?_, q⟩
  simp only [eUn, bindV, h1, h3, h5, Option.bind_some, Option.map_some]
theorem ev_chain {g g' : D → D → Option Val} {fa fb fc : SE} (h : EvE (fa c env) fun va e1 => EvE (fb c e1) fun vb e2 => ∃ da db k, peek e2 va = some da ∧ peek e2 vb = some db ∧ g da db = some (.sh (.bl k)) ∧
    (k = true → EvE (fc c e2) fun vc e3 => ∃ db' dc r, peek e3 vb = some db' ∧ peek e3 vc = some dc ∧ g' db' dc = some r ∧ Q r e3) ∧ (k = false → Q (.sh (.bl false)) e2)) : EvE (eChain g g' fa fb fc c env) Q := by
  obtain ⟨va, e1, h1, vb, e2, h2, da, db, k, h3, h4, h5, q1, q2⟩ := h
  cases k with
  | true =>
    obtain ⟨vc, e3, h6, db', dc, r, h7, h8, h9, q⟩ := q1 rfl
    refine ⟨r, e3, ?_, q⟩
    simp only [eChain, bindV, h1, h2, h3, h4, h5, h6, h7, h8, h9, Option.bind_some, Option.map_some]
  | false =>
    refine ⟨_, e2, ?_, q2 rfl⟩
    simp only [eChain, bindV, h1, h2, h3, h4, h5, Option.bind_some]
theorem ev_and {fa fb : SE} (h : EvE (fa c env) fun v e => ∃ k, v = .sh (.bl k) ∧ (k = true → EvE (fb c e) Q) ∧ (k = false → Q (.sh (.bl false)) e)) : EvE (eAnd fa fb c env) Q := by
  obtain ⟨v, e, h1, k, rfl, q1, q2⟩ := h
  cases k with
  | true =>
    obtain ⟨v2, e2, h2, q⟩ := q1 rfl
    exact ⟨v2, e2, by simp only [eAnd, h1]; exact h2, q⟩
  | false => exact ⟨_, e, by simp only [eAnd, h1], q2 rfl⟩
theorem ev_or {fa fb : SE} (h : EvE (fa c env) fun v e => ∃ k, v = .sh (.bl k) ∧ (k = false → EvE (fb c e) Q) ∧ (k = true → Q (.sh (.bl true)) e)) : EvE (eOr fa fb c env) Q := by
  obtain ⟨v, e, h1, k, rfl, q1, q2⟩ := h
  cases k with
  | false =>
    obtain ⟨v2, e2, h2, q⟩ := q1 rfl
    exact ⟨v2, e2, by simp only [eOr, h1]; exact h2, q⟩
  | true => exact ⟨_, e, by simp only [eOr, h1], q2 rfl⟩
theorem ev_not {fa : SE} (h : EvE (fa c env) fun v e => ∃ k, v = .sh (.bl k) ∧ Q (.sh (.bl (!k))) e) : EvE (eNot fa c env) Q := by
  obtain ⟨v, e, h1, k, rfl, q1⟩ := h
  exact ⟨_, e, by simp only [eNot, h1], q1⟩
theorem ev_ifE {ft fa fb : SE} (h : EvE (ft c env) fun v e => ∃ k, v = .sh (.bl k) ∧ (k = true → EvE (fa c e) Q) ∧ (k = false → EvE (fb c e) Q)) : EvE (eIf ft fa fb c env) Q := by
  obtain ⟨v, e, h1, k, rfl, q1, q2⟩ := h
  cases k with
  | true =>
    obtain ⟨v2, e2, h2, q⟩ := q1 rfl
    exact ⟨v2, e2, by simp only [eIf, h1]; exact h2, q⟩
  | false =>
    obtain ⟨v2, e2, h2, q⟩ := q2 rfl
    exact ⟨v2, e2, by simp only [eIf, h1]; exact h2, q⟩
theorem ev_anil {Q : List Val → Env → Prop} (q : Q [] env) : EvA (aNil c env) Q := ⟨_, _, rfl, q⟩
theorem ev_acons {f : SE} {r : SA} {Q : List Val → Env → Prop} (h : EvE (f c env) fun v e1 => EvA (r c e1) fun vs e2 => Q (v :: vs) e2) : EvA (aCons f r c env) Q := by
  obtain ⟨v, e1, h1, vs, e2, h2, q⟩ := h
  exact ⟨_, e2, by simp only [aCons, h1, h2], q⟩
theorem ev_arg {g : List D → Option Val} {fs : SA} (h : EvA (fs c env) fun vs e1 => ∃ ds r, peeks e1 vs = some ds ∧ g ds = some r ∧ Q r e1) : EvE (eArg g fs c env) Q := by
  obtain ⟨vs, e1, h1, ds, r, h2, h3, q⟩ := h
  exact ⟨r, e1, by simp only [eArg, bindA, h1, h2, h3, Option.bind_some, Option.map_some], q⟩
theorem ev_list {fs : SA} (h : EvA (fs c env) fun vs e1 => ∃ ds e2, takes e1 vs = some (ds, e2) ∧ ds.length ≤ sizeLine ∧ Q (.fr (.lst ds)) e2) : EvE (eList fs c env) Q := by
  obtain ⟨vs, e1, h1, ds, e2, h2, h3, q⟩ := h
  exact ⟨_, e2, by simp only [eList, bindA, h1, h2, Option.bind_some, if_pos h3], q⟩
theorem ev_tup {fs : SA} (h : EvA (fs c env) fun vs e1 => ∃ ds e2, takes e1 vs = some (ds, e2) ∧ ds.length ≤ sizeLine ∧ Q (.sh (.tup ds)) e2) : EvE (eTup fs c env) Q := by
  obtain ⟨vs, e1, h1, ds, e2, h2, h3, q⟩ := h
  exact ⟨_, e2, by simp only [eTup, bindA, h1, h2, Option.bind_some, if_pos h3], q⟩
theorem ev_sl00 {g : D → Option Int → Option Int → Option Val} {fa : SE} (h : EvE (fa c env) fun va e1 => ∃ d r, peek e1 va = some d ∧ g d none none = some r ∧ Q r e1) : EvE (eSl g fa none none c env) Q := by
  obtain ⟨va, e1, h1, d, r, h2, h3, q⟩ := h
  exact ⟨r, e1, by simp only [eSl, bindV, bindP, h1, h2, h3, Option.bind_some, Option.map_some], q⟩
theorem ev_sl10 {g : D → Option Int → Option Int → Option Val} {fa fl : SE} (h : EvE (fa c env) fun va e1 => EvE (fl c e1) fun vl e2 => ∃ d i r, vl = .sh (.int i) ∧ peek e2 va = some d ∧ g d (some i) none = some r ∧ Q r e2) : EvE (eSl g fa (some fl) none c env) Q := by
  obtain ⟨va, e1, h1, vl, e2, h2, d, i, r, rfl, h3, h4, q⟩ := h
  exact ⟨r, e2, by simp only [eSl, bindV, bindP, h1, h2, h3, h4, Option.bind_some, Option.map_some], q⟩
theorem ev_sl01 {g : D → Option Int → Option Int → Option Val} {fa fh : SE} (h : EvE (fa c env) fun va e1 => EvE (fh c e1) fun vl e2 => ∃ d i r, vl = .sh (.int i) ∧ peek e2 va = some d ∧ g d none (some i) = some r ∧ Q r e2) : EvE (eSl g fa none (some fh) c env) Q := by
  obtain ⟨va, e1, h1, vl, e2, h2, d, i, r, rfl, h3, h4, q⟩ := h
  exact ⟨r, e2, by simp only [eSl, bindV, bindP, h1, h2, h3, h4, Option.bind_some, Option.map_some], q⟩
theorem ev_sl11 {g : D → Option Int → Option Int → Option Val} {fa fl fh : SE} (h : EvE (fa c env) fun va e1 => EvE (fl c e1) fun vl e2 => EvE (fh c e2) fun vh e3 => ∃ d i j r, vl = .sh (.int i) ∧ vh = .sh (.int j) ∧ peek e3 va = some d ∧ g d (some i) (some j) = some r ∧ Q r e3) : EvE (eSl g fa (some fl) (some fh) c env) Q := by
  obtain ⟨va, e1, h1, vl, e2, h2, vh, e3, h3, d, i, j, r, rfl, rfl, h4, h5, q⟩ := h
  exact ⟨r, e3, by simp only [eSl, bindV, bindP, h1, h2, h3, h4, h5, Option.bind_some, Option.map_some], q⟩
theorem ev_strM {g : Str → D → Option Val} {fo fe : SE} (h : EvE (fo c env) fun va e1 => EvE (fe c e1) fun vb e2 => ∃ z d r, va = .sh (.str z) ∧ peek e2 vb = some d ∧ g z d = some r ∧ Q r e2) : EvE (eStrM g fo fe c env) Q := by
  obtain ⟨va, e1, h1, vb, e2, h2, z, d, r, rfl, h3, h4, q⟩ := h
  exact ⟨r, e2, by simp only [eStrM, bindV, h1, h2, h3, h4, Option.bind_some, Option.map_some], q⟩
theorem ev_lm {g : List D → List D → Option (D × List D)} {i : Nat} {fs : SA} (h : (∃ ds0, lstAt env i = some ds0) ∧ EvA (fs c env) fun vs e1 => ∃ es e2 ds d ds', takes e1 vs = some (es, e2) ∧ lstAt e2 i = some ds ∧ g ds es = some (d, ds') ∧ ∃ e3, putCell e2 i (.lst ds') = e3 ∧ Q (.sh d) e3) : EvE (eLm g i fs c env) Q := by
  obtain ⟨⟨ds0, h0⟩, vs, e1, h1, es, e2, ds, d, ds', h2, h3, h4, _, rfl, q⟩ := h
  exact ⟨_, _, by simp only [eLm, h0, bindA, h1, h2, h3, h4, Option.bind_some, Option.map_some], q⟩
theorem ev_call {p : Str × Option Str} {fs : SA} {g : List Arg → Option CRes} (hg : c p = some g) (h : EvA (fs c env) fun vs e1 => ∃ ds e2 r outs, takes e1 vs = some (ds, e2) ∧ g (ds.map .sh) = some (.ret r outs) ∧ Q r.val e2) : EvE (eCall p fs c env) Q := by
  obtain ⟨vs, e1, h1, ds, e2, r, outs, h2, h3, q⟩ := h
  exact ⟨_, _, by simp only [eCall, bindA, h1, h2, hg, h3, resOf, Option.bind_some, Option.map_some], q⟩
theorem ev_callB {p : Str × Option Str} {fs : SA} {g : List Arg → Option CRes} (hg : c p = some g) (h : EvA (fs c env) fun vs e1 => ∃ i vs' ds e2 cl r cl' outs, vs = .var i :: vs' ∧ takes e1 vs' = some (ds, e2) ∧ cellAt e2 i = some cl ∧ g (.brw cl :: ds.map .sh) = some (.ret r (some cl' :: outs)) ∧ Q r.val (putCell e2 i cl')) : EvE (eCallB p fs c env) Q := by
  obtain ⟨vs, e1, h1, i, vs', ds, e2, cl, r, cl', outs, rfl, h2, h3, h4, q⟩ := h
  exact ⟨_, _, by simp only [eCallB, bindA, h1, h2, h3, hg, h4, resOf, Option.bind_some, Option.map_some], q⟩
/-! ### what is walked -/
theorem ev_seqI {f : SE} {Q : List D → Env → Prop} (h : EvE (f c env) fun v e => ∃ d e' ds, take e v = some (d, e') ∧ itemsOf d = some ds ∧ Q ds e') : EvI (itSeq f c env) Q := by
  obtain ⟨v, e, h1, d, e', ds, h2, h3, q⟩ := h
  exact ⟨ds, e', by simp only [itSeq, bindI, h1, h2, h3, Option.bind_some, Option.map_some], q⟩
theorem ev_range1 {fs : SA} {Q : List D → Env → Prop} (h : EvA (fs c env) fun vs e => ∃ j, peeks e vs = some [.int j] ∧ (-(2 ^ 62) ≤ j ∧ j < 2 ^ 62) ∧ Q ((List.range j.toNat).map fun k => D.int (0 + (k : Nat))) e) : EvI (itRange1 fs c env) Q := by
  obtain ⟨vs, e, h1, j, h2, h3, q⟩ := h
  exact ⟨_, e, by simp only [itRange1, h1, h2, if_pos h3], q⟩
theorem ev_range2 {fs : SA} {Q : List D → Env → Prop} (h : EvA (fs c env) fun vs e => ∃ i j, peeks e vs = some [.int i, .int j] ∧ ((-(2 ^ 62) ≤ i ∧ i < 2 ^ 62) ∧ (-(2 ^ 62) ≤ j ∧ j < 2 ^ 62)) ∧ Q ((List.range (j - i).toNat).map fun k => D.int (i + (k : Nat))) e) : EvI (itRange2 fs c env) Q := by
  obtain ⟨vs, e, h1, i, j, h2, h3, q⟩ := h
  exact ⟨_, e, by simp only [itRange2, h1, h2, if_pos h3], q⟩
theorem ev_lc {vs : List Nat} {it : SI} {g : SG} {t f : SE} (h : EvI (it c env) fun ds e => calmE e vs = true ∧ ∃ ew, wipeE e vs = ew ∧ ∃ ys e', lcL g (t c) (f c) vs ds ew [] = some (ys, e') ∧ ∃ e3, restE e e' vs = e3 ∧ Q (.fr (.lst ys)) e3) : EvE (eLC vs it g t f c env) Q := by
  obtain ⟨ds, e, h1, h2, _, rfl, ys, e', h3, _, rfl, q⟩ := h
  exact ⟨_, _, by simp only [eLC, h1, if_pos h2, h3, Option.map_some], q⟩
/-! ### statements -/
theorem ev_nil (q : N env) : EvS (sNil c env) N R B C X := ⟨_, rfl, q⟩
theorem ev_brk (q : B env) : EvS (sBrk c env) N R B C X := ⟨_, rfl, q⟩
theorem ev_ct (q : C env) : EvS (sCt c env) N R B C X := ⟨_, rfl, q⟩
theorem ev_seq {f g : SS} (h : EvS (f c env) (fun e => EvS (g c e) N R B C X) R B C X) : EvS (sSeq f g c env) N R B C X := by
  obtain ⟨o, h1, q⟩ := h
  unfold sSeq
  rw [h1]
  cases o with
  | nx e => exact q
  | ret r e => exact ⟨_, rfl, q⟩
  | brk e => exact ⟨_, rfl, q⟩
  | ct e => exact ⟨_, rfl, q⟩
  | exc x e => exact ⟨_, rfl, q⟩
/-- .. with a word in between -/
theorem ev_cut {f g : SS} (N1 : Env → Prop) (h : EvS (f c env) N1 R B C X) (h2 : ∀ e, N1 e → EvS (g c e) N R B C X) : EvS (sSeq f g c env) N R B C X := by
  refine ev_seq ?_
  obtain ⟨o, h1, q⟩ := h
  refine ⟨o, h1, ?_⟩
  cases o with
  | nx e => exact h2 e q
  | _ => exact q
theorem ev_if {ft : SE} {f g : SS} (h : EvE (ft c env) fun v e => ∃ k, v = .sh (.bl k) ∧ (k = true → EvS (f c e) N R B C X) ∧ (k = false → EvS (g c e) N R B C X)) : EvS (sIf ft f g c env) N R B C X := by
  obtain ⟨v, e, h1, k, rfl, q1, q2⟩ := h
  unfold sIf bindS
  rw [h1]
  cases k with
  | true => exact q1 rfl
  | false => exact q2 rfl
theorem ev_expr {f : SE} (h : EvE (f c env) fun _ e => N e) : EvS (sExpr f c env) N R B C X := by
  obtain ⟨v, e, h1, q⟩ := h
  exact ⟨.nx e, by simp only [sExpr, bindS, h1], q⟩
theorem ev_ret {f : SE} (h : EvE (f c env) fun v e => ∃ r e', retV e v = some (r, e') ∧ R r e') : EvS (sRet f c env) N R B C X := by
  obtain ⟨v, e, h1, r, e', h2, q⟩ := h
  exact ⟨.ret r e', by simp only [sRet, bindS, h1, h2, Option.map_some], q⟩
theorem ev_retN (q : R (.sh .non) env) : EvS (sRetN c env) N R B C X := ⟨_, rfl, q⟩
theorem ev_set {i : Nat} {f : SE} (h : EvE (f c env) fun v e => ∃ e', setV e i v = some e' ∧ N e') : EvS (sSet i f c env) N R B C X := by
  obtain ⟨v, e, h1, e', h2, q⟩ := h
  exact ⟨.nx e', by simp only [sSet, bindS, h1, h2, Option.map_some], q⟩
theorem ev_asg {g : SG} {f : SE} (h : EvE (f c env) fun v e => ∃ d e1 e2, take e v = some (d, e1) ∧ g d e1 = some e2 ∧ N e2) : EvS (sAsg g f c env) N R B C X := by
  obtain ⟨v, e, h1, d, e1, e2, h2, h3, q⟩ := h
  exact ⟨.nx e2, by simp only [sAsg, bindS, h1, h2, h3, Option.bind_some, Option.map_some], q⟩
theorem ev_put {i : Nat} {fk fv : SE} (h : EvE (fv c env) fun v e0 => ∃ d e1 cl0, take e0 v = some (d, e1) ∧ cellAt e1 i = some cl0 ∧ EvE (fk c e1) fun vk e2 => ∃ k cl cl', peek e2 vk = some k ∧ cellAt e2 i = some cl ∧ putC cl k d = some cl' ∧ ∃ e3, putCell e2 i cl' = e3 ∧ N e3) : EvS (sPut i fk fv c env) N R B C X := by
  obtain ⟨v, e0, h1, d, e1, cl0, h2, h3, vk, e2, h4, k, cl, cl', h5, h6, h7, _, rfl, q⟩ := h
  exact ⟨.nx _, by simp only [sPut, bindS, h1, h2, h3, h4, h5, h6, h7, Option.bind_some, Option.map_some], q⟩
theorem ev_for {it : SI} {g : SG} {f : SS} (h : EvI (it c env) fun ds e => EvS (forL g (f c) ds e) N R B C X) : EvS (sFor it g f c env) N R B C X := by
  obtain ⟨ds, e, h1, o, h2, q⟩ := h
  exact ⟨o, by simp only [sFor, h1]; exact h2, q⟩
theorem ev_pass {g : SG} {f : Env → Option SO} {ds : List D} (J : Env → Prop) (hj : J env) (ht : ∀ d ∈ ds, ∀ e, J e → ∃ e1, g d e = some e1 ∧ EvS (f e1) J (fun _ _ => False) (fun _ => False) J (fun _ _ => False)) (q : ∀ e, J e → N e) : EvS (forL g f ds env) N R B C X := by
  have : ∃ e', forL g f ds env = some (.nx e') ∧ J e' := by
    clear q
    induction ds generalizing env with
    | nil => exact ⟨env, rfl, hj⟩
    | cons d ds ih =>
      obtain ⟨e1, h1, o, h2, h3⟩ := ht d List.mem_cons_self env hj
      unfold forL
      rw [h1]
      simp only [Option.bind_some, h2]
      cases o with
      | nx e => exact ih h3 fun d' hd => ht d' (List.mem_cons_of_mem _ hd)
      | ct e => exact ih h3 fun d' hd => ht d' (List.mem_cons_of_mem _ hd)
      | ret r e => exact h3.elim
      | brk e => exact h3.elim
      | exc x e => exact h3.elim
  obtain ⟨e', h1, h2⟩ := this
  exact ⟨_, h1, q e' h2⟩
/-- a loop by its invariant over the part that is done -/
theorem ev_loop {g : SG} {f : Env → Option SO} {ds : List D} (J : List D → Env → Prop) (hj : J [] env)
    (ht : ∀ done d rest e, ds = done ++ d :: rest → J done e → ∃ e1, g d e = some e1 ∧ EvS (f e1) (J (done ++ [d])) R N (J (done ++ [d])) X) (q : ∀ e, J ds e → N e) : EvS (forL g f ds env) N R B C X := by
  have key : ∀ (rest done : List D) (env : Env), ds = done ++ rest → J done env → EvS (forL g f rest env) N R B C X := by
    intro rest
    induction rest with
    | nil =>
      intro done env e hj
      rw [List.append_nil] at e
      subst e
      exact ⟨_, rfl, q env hj⟩
    | cons d rest ih =>
      intro done env e hj
      obtain ⟨e1, h1, o, h2, h3⟩ := ht done d rest env e hj
      unfold forL
      rw [h1]
      simp only [Option.bind_some, h2]
      cases o with
      | nx e' => exact ih (done ++ [d]) e' (by rw [e]; simp) h3
      | ct e' => exact ih (done ++ [d]) e' (by rw [e]; simp) h3
      | ret r e' => exact ⟨_, rfl, h3⟩
      | brk e' => exact ⟨_, rfl, h3⟩
      | exc x e' => exact ⟨_, rfl, h3⟩
  exact key ds [] env rfl hj
/-- a while by its invariant and a measure -/
theorem ev_while {ft : SE} {f : SS} (J : Env → Prop) (μ : Env → Nat) (hj : J env)
    (ht : ∀ e, J e → EvE (ft c e) fun v e1 => ∃ k, v = .sh (.bl k) ∧ (k = false → N e1) ∧ (k = true → EvS (f c e1) (fun e2 => J e2 ∧ μ e2 < μ e) R N (fun e2 => J e2 ∧ μ e2 < μ e) X)) : EvS (sWhile ft f c env) N R B C X := by
  have key : ∀ (n : Nat) (env : Env), μ env < n → J env → EvS (whileF (ft c) (f c) n env) N R B C X := by
    intro n
    induction n with
    | zero => intro env h; exact absurd h (Nat.not_lt_zero _)
    | succ n ih =>
      intro env hm hj
      obtain ⟨v, e1, h1, k, rfl, q1, q2⟩ := ht env hj
      unfold whileF bindS
      rw [h1]
      cases k with
      | false => exact ⟨_, rfl, q1 rfl⟩
      | true =>
        obtain ⟨o, h2, h3⟩ := q2 rfl
        dsimp only
        rw [h2]
        cases o with
        | nx e' => exact ih e' (by have := h3.2; omega) h3.1
        | ct e' => exact ih e' (by have := h3.2; omega) h3.1
        | ret r e' => exact ⟨_, rfl, h3⟩
        | brk e' => exact ⟨_, rfl, h3⟩
        | exc x e' => exact ⟨_, rfl, h3⟩
  obtain ⟨o, h1, h2⟩ := key (μ env + 1) env (Nat.lt_succ_self _) hj
  exact ⟨o, sWhile_eq h1, h2⟩
/-- a def's call -/
theorem ev_run {n m : Nat} {f : SS} {args : List Arg} {P : CRes → Prop} (hl : args.length = m) {e0 : Env} (he : initEnv n args = e0) (h : EvS (f c e0) (fun e => ∃ outs, outsOf args e = some outs ∧ P (.ret (.sh .non) outs)) (fun r e => ∃ outs, outsOf args e = some outs ∧ P (.ret r outs)) (fun _ => False) (fun _ => False) (fun x e => ∃ outs, outsOf args e = some outs ∧ P (.exc x outs))) :
    ∃ r, runDef n m f c args = some r ∧ P r := by
  subst he
  obtain ⟨o, h1, h2⟩ := h
  unfold runDef
  rw [if_pos hl, h1]
  cases o with
  | nx e => obtain ⟨outs, h3, h4⟩ := h2; exact ⟨_, by simp only [h3, Option.map_some], h4⟩
  | ret r e => obtain ⟨outs, h3, h4⟩ := h2; exact ⟨_, by simp only [h3, Option.map_some], h4⟩
  | exc x e => obtain ⟨outs, h3, h4⟩ := h2; exact ⟨_, by simp only [h3, Option.map_some], h4⟩
  | brk e => exact h2.elim
  | ct e => exact h2.elim
theorem ev_draw {fs : SA} (hd : Has c ("_law_draw", none) DrawOk) (h : EvA (fs c env) fun vs e1 => ∃ i v n cl, vs = [.var i, v] ∧ peek e1 v = some (.int n) ∧ take e1 v = some (.int n, e1) ∧ cellAt e1 i = some cl ∧ Good cl ∧ n < 1073741824 ∧ ∃ F : Cell → Env, (∀ cl', putCell e1 i cl' = F cl') ∧ ∀ (r : Int) cl', Good cl' → 0 ≤ r → (r < n ∨ r = 0) → Q (.sh (.int r)) (F cl')) : EvE (eCallB ("_law_draw", none) fs c env) Q := by
  obtain ⟨g, hg, hs⟩ := hd
  obtain ⟨vs, e1, h1, i, v, n, cl, rfl, h2, h3, h4, h5, h6, F, hF, q⟩ := h
  obtain ⟨r, cl', q1, q2, q3, q4⟩ := hs cl n h5 h6
  refine ev_callB hg ⟨_, e1, h1, i, [v], [.int n], e1, cl, .sh (.int r), cl', [none], rfl, ?_, h4, q1, by rw [hF]; exact q r cl' q2 q3 q4⟩
  simp only [takes, h3, Option.bind_some, Option.map_some]
end
/-! ### what the operations give -/
theorem mulD_r {i j : Int} (h : -(2 ^ 64) < j ∧ j < 2 ^ 64) : mulD (.int i) (.int j) = some (.sh (.int (i * j))) := if_pos (.inr h)
theorem modD_i {i j : Int} (h : 0 < j) : modD (.int i) (.int j) = some (.sh (.int (i % j))) := if_pos h
theorem fdivD_i {i j : Int} (h : 0 < j ∧ j < 1073741824) : fdivD (.int i) (.int j) = some (.sh (.int (i / j))) := if_pos h
theorem powD_i {i j : Int} (h : 0 ≤ j ∧ j ≤ 1000000 ∧ i.natAbs < 2 ^ 64) : powD (.int i) (.int j) = some (.sh (.int (i ^ j.toNat))) := if_pos h
theorem atI_of {α : Type} {xs : List α} {i : Int} (h0 : 0 ≤ i) (h : i < xs.length) : atI xs i = some (xs[i.toNat]'(by omega)) := by
  have e : i = ((i.toNat : Nat) : Int) := by omega
  have q : xs[i.toNat]? = some (xs[i.toNat]'(by omega)) := List.getElem?_eq_getElem (by omega)
  have r := atI_nat q
  rw [← e] at r
  exact r
theorem ixD_ints {ns : List Int} {i : Int} (h0 : 0 ≤ i) (h : i < (ns.map D.int).length) : ixD (.lst (ns.map .int)) (.int i) = some (.sh (.int (ns.getD i.toNat 0))) := by
  show (atI (ns.map D.int) i).map Val.sh = _
  rw [atI_of h0 h]
  simp only [List.getElem_map, Option.map_some, Option.some.injEq, Val.sh.injEq, D.int.injEq]
  rw [List.getD_eq_getElem?_getD, List.getElem?_eq_getElem (by simpa using (by omega : i.toNat < (ns.map D.int).length))]
  rfl
theorem ixD_str {z : Str} {i : Int} (h0 : 0 ≤ i) (h : i < z.length) (hz : z.length ≤ sizeLine) : ∃ n : Nat, n ∈ z.cps.toList ∧ ixD (.str z) (.int i) = some (.sh (.str ⟨#[n]⟩)) := by
  have hl : z.length = z.cps.toList.length := by simp [Str.length]
  refine ⟨z.cps.toList[i.toNat]'(by omega), List.getElem_mem _, ?_⟩
  show (if z.length ≤ sizeLine then (atI z.cps.toList i).map fun c => Val.sh (D.str ⟨#[c]⟩) else none) = _
  rw [if_pos hz, atI_of h0 (by omega)]; rfl
theorem good_mk {ns : List Int} {a b c d : Int} (h : 0 ≤ a) (hl : ns.length ≤ 63) : Good (.lst [.lst (ns.map .int), .int a, .int b, .int c, .int d]) := ⟨⟨ns, a, b, c, d⟩, rfl, h, hl⟩
theorem sizeL : sizeLine = 16777216 := sizeLine_eq
end Pd
/-! P3: calls with lent arguments, objects; comprehensions and loops in general -/
namespace Pd
open PySem PySem.Spec L2
section
variable {c : CT} {env : Env} {Q : Val → Env → Prop} {N B C : Env → Prop} {R : RV → Env → Prop} {X : Exc → Env → Prop}
/-- a call some of whose arguments are lent -/
def CallP (g : List Arg → Option CRes) (env : Env) (vs : List Val) (fl : List Bool) (Q : Val → Env → Prop) : Prop :=
  ∃ ms e2, itemsF env vs fl = some (ms, e2) ∧ nodupB (ms.filterMap Im.ix) = true ∧ ∃ as, argsF e2 ms = some as ∧ ∃ r outs, g as = some (.ret r outs) ∧ ∃ w, outF ms as outs = some w ∧ ∃ e3, putN w 0 e2 = e3 ∧ Q r.val e3
theorem callP_val {g : List Arg → Option CRes} {vs : List Val} {fl : List Bool} (h : CallP g env vs fl Q) : ∃ v e, callF g env vs fl = some (.val v e) ∧ Q v e := by
  obtain ⟨ms, e2, h1, h2, as, h3, r, outs, h4, w, h5, _, rfl, q⟩ := h
  exact ⟨_, _, by simp only [callF, h1, h2, h3, h4, h5, resOf, Option.bind_some, Option.map_some, if_true], q⟩
theorem putN_nil : ∀ (env : Env) (k : Nat), putN [] k env = env
  | [], _ => rfl
  | o :: env, k => by
    show (match (([] : List (Nat × Cell)).lookup k) with
      | some cl => o.map (·.put cl)
      | none => o) :: putN [] (k + 1) env = _
    rw [putN_nil env (k + 1)]; rfl
theorem itemsF_sh : ∀ (ds : List D) (fl : List Bool), itemsF env (ds.map Val.sh) fl = some (ds.map Im.giv, env)
  | [], _ => rfl
  | d :: ds, fl => by
    have ih := itemsF_sh ds fl.tail
    rw [List.map_cons]
    unfold itemsF
    split
    · rename_i h; cases h
    · simp only [take, Option.bind_some, ih, Option.map_some, List.map_cons]
theorem argsF_sh : ∀ (ds : List D), argsF env (ds.map Im.giv) = some (ds.map Arg.sh)
  | [] => rfl
  | d :: ds => by
    rw [List.map_cons]
    unfold argsF
    simp only [argF, Option.bind_some, argsF_sh ds, Option.map_some, List.map_cons]
theorem outF_sh : ∀ (ds : List D) (outs : List (Option Cell)), outF (ds.map Im.giv) (ds.map Arg.sh) outs = some []
  | [], _ => rfl
  | d :: ds, outs => outF_sh ds outs.tail
/-- all arguments are frozen -/
theorem callP_sh {g : List Arg → Option CRes} {ds : List D} {fl : List Bool} {r : RV} {outs : List (Option Cell)} (h : g (ds.map .sh) = some (.ret r outs)) (q : Q r.val env) : CallP g env (ds.map Val.sh) fl Q :=
  ⟨_, _, itemsF_sh ds fl, by
    have e : (ds.map Im.giv).filterMap Im.ix = [] := by
      induction ds with
      | nil => rfl
      | cons d ds ih => exact List.filterMap_eq_nil_iff.mpr fun a ha => by obtain ⟨d, _, rfl⟩ := List.mem_map.mp ha; rfl
    rw [e]; rfl, _, argsF_sh ds, r, outs, h, _, outF_sh ds outs, _, putN_nil env 0, q⟩
theorem ev_callF {p : Str × Option Str} {fl : List Bool} {fs : SA} {g : List Arg → Option CRes} (hg : c p = some g) (h : EvA (fs c env) fun vs e1 => CallP g e1 vs fl Q) : EvE (eCallF p fl fs c env) Q := by
  obtain ⟨vs, e1, h1, h2⟩ := h
  obtain ⟨v, e, h3, q⟩ := callP_val h2
  exact ⟨v, e, by simp only [eCallF, bindA, h1, hg, Option.bind_some, h3], q⟩
/-- an object is made -/
def MakeP (C : Str) (g : List Arg → Option CRes) (env : Env) (vs : List Val) (fl : List Bool) (Q : Val → Env → Prop) : Prop :=
  ∃ ms e2, itemsF env vs fl = some (ms, e2) ∧ nodupB (ms.filterMap Im.ix) = true ∧ ∃ as, argsF e2 ms = some as ∧ ∃ cl outs, g (.brw (.ins C []) :: as) = some (.ret (.sh .non) (some cl :: outs)) ∧ ∃ w, outF ms as outs = some w ∧ ∃ e3, putN w 0 e2 = e3 ∧ Q (.fr cl) e3
theorem ev_make {C' : Str} {fl : List Bool} {fs : SA} {g : List Arg → Option CRes} (hg : c (C', some "__init__") = some g) (h : EvA (fs c env) fun vs e1 => MakeP C' g e1 vs fl Q) : EvE (eMake C' fl fs c env) Q := by
  obtain ⟨vs, e1, h1, ms, e2, h2, h3, as, h4, cl, outs, h5, w, h6, _, rfl, q⟩ := h
  exact ⟨_, _, by simp only [eMake, makeF, bindA, h1, hg, h2, h3, h4, h5, h6, Option.bind_some, Option.map_some, if_true], q⟩
theorem ev_fld {cs : List Str} {f : Str} {fa : SE} (h : EvE (fa c env) fun va e1 => ∃ C fl d, peek e1 va = some (.ins C fl) ∧ cs.contains C = true ∧ fl.lookup f = some d ∧ Q (.sh d) e1) : EvE (eFld cs f fa c env) Q := by
  obtain ⟨va, e1, h1, C, fl, d, h2, h3, h4, q⟩ := h
  exact ⟨_, _, by simp only [eFld, bindV, h1, h2, h4, if_pos h3, Option.map_some], q⟩
theorem ev_b2 {k : CT → Val → Val → Env → Option EO} {fa fb : SE} (h : EvE (fa c env) fun va e1 => EvE (fb c e1) fun vb e2 => EvE (k c va vb e2) Q) : EvE (eB2 k fa fb c env) Q := by
  obtain ⟨va, e1, h1, vb, e2, h2, v, e3, h3, q⟩ := h
  exact ⟨v, e3, by simp only [eB2, bindV, h1, h2, h3], q⟩
theorem ev_ixO {fa fb : SE} (h : EvE (fa c env) fun va e1 => EvE (fb c e1) fun vb e2 => ∃ g, ownG "__getitem__" c e2 va = some g ∧ CallP g e2 [va, vb] [true, false] Q) : EvE (eIxO fa fb c env) Q := by
  obtain ⟨va, e1, h1, vb, e2, h2, g, h3, h4⟩ := h
  obtain ⟨v, e, h5, q⟩ := callP_val h4
  exact ev_b2 ⟨va, e1, h1, vb, e2, h2, _, e, by simp only [kIx, h3, Option.bind_some, h5], q⟩
theorem ev_dic (q : Q (.fr (.dk [])) env) : EvE (eDic c env) Q := ⟨_, _, rfl, q⟩
theorem ev_fldO {i : Nat} {cs : List Str} {f : Str} {fv : SE} (h : EvE (fv c env) fun v e0 => ∃ d e1 C fl, take e0 v = some (d, e1) ∧ cellAt e1 i = some (.ins C fl) ∧ (cs.contains C = true ∧ fl.length < 1000) ∧ ∃ e2, putCell e1 i (.ins C (putFD f d fl)) = e2 ∧ N e2) : EvS (sFldO i cs f fv c env) N R B C X := by
  obtain ⟨v, e0, h1, d, e1, C, fl, h2, h3, h4, _, rfl, q⟩ := h
  exact ⟨.nx _, by simp only [sFldO, bindS, h1, h2, h3, if_pos h4, Option.bind_some], q⟩
theorem ev_itOwn {ic : List (Str × Str)} {f : SE} {Q : List D → Env → Prop} (h : EvE (f c env) fun v e => ∃ C fl fd ds e', take e v = some (.ins C fl, e') ∧ ic.lookup C = some fd ∧ fl.lookup fd = some (.tup ds) ∧ (fl.lookup ("__iter__" : Str)).isNone = true ∧ Q ds e') : EvI (itOwn ic f c env) Q := by
  obtain ⟨v, e, h1, C, fl, fd, ds, e', h2, h3, h4, h5, q⟩ := h
  exact ⟨ds, e', by simp only [itOwn, bindI, h1, h2, h3, h4, if_pos h5, Option.bind_some], q⟩
theorem ev_range3 {fs : SA} {Q : List D → Env → Prop} (h : EvA (fs c env) fun vs e => ∃ i j k, peeks e vs = some [.int i, .int j, .int k] ∧ (k ≠ 0 ∧ k.natAbs < 1073741824 ∧ Builtin.Range.small i j k = true ∧ 0 ≤ Builtin.Range.rangeSize i j k) ∧ Q ((List.range (Builtin.Range.rangeSize i j k).toNat).map fun n => D.int (i + (n : Nat) * k)) e) : EvI (itRange3 fs c env) Q := by
  obtain ⟨vs, e, h1, i, j, k, h2, h3, q⟩ := h
  exact ⟨_, e, by simp only [itRange3, h1, h2, if_pos h3], q⟩
/-! ### comprehensions, by an invariant over what is done and what is gathered -/
theorem lc_gen {g : SG} {t f : Env → Option EO} {vs : List Nat} {ds : List D} (J : List D → List D → Env → Prop) (hl : ds.length ≤ sizeLine) (hj : J [] [] env)
    (ht : ∀ done d rest acc e, ds = done ++ d :: rest → J done acc e → ∃ e1, g d e = some e1 ∧ EvE (t e1) fun v e2 => ∃ k, v = .sh (.bl k) ∧ (k = false → J (done ++ [d]) acc (wipeE e2 vs)) ∧ (k = true → EvE (f e2) fun v e3 => ∃ y e4, take e3 v = some (y, e4) ∧ J (done ++ [d]) (acc ++ [y]) (wipeE e4 vs))) :
    ∃ ys e', lcL g t f vs ds env [] = some (ys, e') ∧ J ds ys e' := by
  have key : ∀ (rest done acc : List D) (env : Env), ds = done ++ rest → acc.length ≤ done.length → J done acc env → ∃ ys e', lcL g t f vs rest env acc = some (ys, e') ∧ J ds ys e' := by
    intro rest
    induction rest with
    | nil =>
      intro done acc env e hle hj
      rw [List.append_nil] at e
      subst e
      exact ⟨acc, env, rfl, hj⟩
    | cons d rest ih =>
      intro done acc env e hle hj
      obtain ⟨e1, h1, v, e2, h2, k, rfl, h3, h4⟩ := ht done d rest acc env e hj
      have hlen : done.length < sizeLine := by rw [e] at hl; simp at hl; omega
      unfold lcL
      rw [h1]
      simp only [Option.bind_some, h2]
      cases k with
      | false => exact ih (done ++ [d]) acc _ (by rw [e]; simp) (by simp; omega) (h3 rfl)
      | true =>
        obtain ⟨v, e3, h5, y, e4, h6, h7⟩ := h4 rfl
        simp only [h5, h6, Option.bind_some]
        rw [if_pos (by omega)]
        exact ih (done ++ [d]) (acc ++ [y]) _ (by rw [e]; simp) (by simp; omega) h7
  exact key ds [] [] env rfl (Nat.le_refl _) hj
/-- without a test: items of a kind -/
theorem lc_some {g : SG} {f : Env → Option EO} {vs : List Nat} {ds : List D} (J : Env → Prop) (K : D → Prop) (hl : ds.length ≤ sizeLine) (hj : J env)
    (ht : ∀ d ∈ ds, ∀ e, J e → ∃ e1, g d e = some e1 ∧ EvE (f e1) fun v e3 => ∃ y e4, take e3 v = some (y, e4) ∧ J (wipeE e4 vs) ∧ K y) :
    ∃ ys e', lcL g (eYes c) f vs ds env [] = some (ys, e') ∧ J e' ∧ ys.length = ds.length ∧ ∀ y ∈ ys, K y := by
  obtain ⟨ys, e', h1, h2, h3, h4⟩ := lc_gen (env := env) (g := g) (t := eYes c) (f := f) (vs := vs) (ds := ds) (fun done acc e => J e ∧ acc.length = done.length ∧ ∀ y ∈ acc, K y) hl ⟨hj, rfl, fun _ h => nomatch h⟩ fun done d rest acc e hd hj => by
    obtain ⟨e1, h1, v, e3, h2, y, e4, h3, h4, h5⟩ := ht d (by rw [hd]; simp) e hj.1
    refine ⟨e1, h1, _, _, rfl, true, rfl, (fun z => nomatch z), fun _ => ⟨v, e3, h2, y, e4, h3, h4, by simp [hj.2.1], fun z hz => ?_⟩⟩
    rcases List.mem_append.mp hz with hz | hz
    · exact hj.2.2 z hz
    · rw [List.mem_singleton.mp hz]; exact h5
  exact ⟨ys, e', h1, h2, h3, h4⟩
/-- a list's append -/
theorem ev_app {i : Nat} {fs : SA} {ds0 : List D} (h0 : lstAt env i = some ds0) (h : EvA (fs c env) fun vs e1 => ∃ d e2 ds, takes e1 vs = some ([d], e2) ∧ lstAt e2 i = some ds ∧ ds.length < sizeLine ∧ ∃ e3, putCell e2 i (.lst (ds ++ [d])) = e3 ∧ Q (.sh .non) e3) : EvE (eLm appendG i fs c env) Q := by
  obtain ⟨vs, e1, h1, d, e2, ds, h2, h3, h4, _, rfl, q⟩ := h
  exact ev_lm ⟨⟨_, h0⟩, vs, e1, h1, _, _, _, _, _, h2, h3, if_pos h4, _, rfl, q⟩
/-! ### loops over a parameter's list -/
theorem ev_forLv {g : SG} {f : Env → Option SO} {i0 : Nat} {ds : List D} (J : List D → Env → Prop) (hj : J [] env) (hb : ∀ done e, J done e → brwLst e i0 = some ds)
    (ht : ∀ done d rest e, ds = done ++ d :: rest → J done e → ∃ e1, g d e = some e1 ∧ EvS (f e1) (J (done ++ [d])) R N (J (done ++ [d])) X) (q : ∀ e, J ds e → N e) : EvS (forLv g f i0 ds.length 0 env) N R B C X := by
  have key : ∀ (rest done : List D) (env : Env), ds = done ++ rest → J done env → EvS (forLv g f i0 rest.length done.length env) N R B C X := by
    intro rest
    induction rest with
    | nil =>
      intro done env e hj
      rw [List.append_nil] at e
      subst e
      refine ⟨.nx env, ?_, q env hj⟩
      unfold forLv
      simp only [List.length_nil]
      rw [hb _ _ hj]
      simp
    | cons d rest ih =>
      intro done env e hj
      obtain ⟨e1, h1, o, h2, h3⟩ := ht done d rest env e hj
      have hd : ds[done.length]? = some d := by rw [e]; simp
      have el : (done ++ [d]).length = done.length + 1 := by simp
      rw [List.length_cons]
      unfold forLv
      rw [hb _ _ hj]
      simp only [Option.bind_some, hd, h1, h2]
      cases o with
      | nx e' => have r := ih (done ++ [d]) e' (by rw [e]; simp) h3; rw [el] at r; exact r
      | ct e' => have r := ih (done ++ [d]) e' (by rw [e]; simp) h3; rw [el] at r; exact r
      | ret r e' => exact ⟨_, rfl, h3⟩
      | brk e' => exact ⟨_, rfl, h3⟩
      | exc x e' => exact ⟨_, rfl, h3⟩
  exact key ds [] env rfl hj
/-- a parameter that is a list (lent or frozen) or a tuple -/
def SeqP (a : Arg) (ds : List D) : Prop := a = .brw (.lst ds) ∨ a = .sh (.lst ds) ∨ a = .sh (.tup ds)
def Arg.out : Arg → Option Cell
  | .sh _ => none
  | .brw c => some c
def Arg.slot : Arg → Slot
  | .sh d => .sh d
  | .brw c => .brw c
def Arg.d : Arg → D
  | .sh d => d
  | .brw c => match c with
    | .deep _ _ _ _ => .non
    | c => c.d
theorem SeqP.peek {a : Arg} {ds : List D} (h : SeqP a ds) : a.d = .lst ds ∨ a.d = .tup ds := by
  rcases h with rfl | rfl | rfl
  · exact .inl rfl
  · exact .inl rfl
  · exact .inr rfl
def Arg.flat : Arg → Bool
  | .sh _ => true
  | .brw c => c.flat
theorem pk_arg {c : Cell} (h : c.flat = true) : c.pk = some (Arg.brw c).d := by
  cases c with
  | deep => cases h
  | _ => rfl
theorem SeqP.flat {a : Arg} {ds : List D} (h : SeqP a ds) : a.flat = true := by
  rcases h with rfl | rfl | rfl <;> rfl
theorem ev_varP {i : Nat} {a : Arg} (h : env[i]? = some (some a.slot)) (q : ∀ v, peek env v = some a.d → Q v env) (fl : a.flat = true := by first | rfl | assumption | exact SeqP.flat (by assumption)) : EvE (eVar i c env) Q := by
  cases a with
  | sh d =>
    have h : env[i]? = some (some (Slot.sh d)) := h
    exact ⟨.sh d, env, by unfold eVar; rw [h], q _ rfl⟩
  | brw cl =>
    have h : env[i]? = some (some (Slot.brw cl)) := h
    exact ⟨.var i, env, by unfold eVar; rw [h], q _ (by simp only [peek, h]; exact pk_arg fl)⟩
theorem SeqP.len {a : Arg} {ds : List D} (h : SeqP a ds) : lenD [a.d] = some (.sh (.int ds.length)) := by
  rcases h with rfl | rfl | rfl <;> rfl
theorem SeqP.tup {a : Arg} {ds : List D} (h : SeqP a ds) : tupleD [a.d] = some (.sh (.tup ds)) := by
  rcases h with rfl | rfl | rfl <;> rfl
theorem SeqP.lst {a : Arg} {ds : List D} (h : SeqP a ds) : listX [a.d] = some (.fr (.lst ds)) := by
  rcases h with rfl | rfl | rfl <;> rfl
theorem ev_forN {i : Nat} {g : SG} {f : SS} {a : Arg} {ds : List D} (ha : SeqP a ds) (J : List D → Env → Prop) (hj : J [] env) (he : env[i]? = some (some a.slot)) (hb : ∀ done e, J done e → e[i]? = some (some a.slot))
    (ht : ∀ done d rest e, ds = done ++ d :: rest → J done e → ∃ e1, g d e = some e1 ∧ EvS (f c e1) (J (done ++ [d])) R N (J (done ++ [d])) X) (q : ∀ e, J ds e → N e) : EvS (sForN i g f c env) N R B C X := by
  rcases ha with rfl | ha
  · have hb' : ∀ e : Env, e[i]? = some (some (Slot.brw (.lst ds))) → brwLst e i = some ds := fun e h => by unfold brwLst; rw [h]
    have r := ev_forLv (B := B) (C := C) J hj (fun done e h => hb' e (hb done e h)) ht q
    unfold sForN
    rw [hb' env he]
    exact r
  · obtain ⟨d, rfl, hi⟩ : ∃ d, a = .sh d ∧ itemsOf d = some ds := by
      rcases ha with rfl | rfl
      · exact ⟨_, rfl, rfl⟩
      · exact ⟨_, rfl, rfl⟩
    have he : env[i]? = some (some (Slot.sh d)) := he
    have hn : brwLst env i = none := by unfold brwLst; rw [he]
    unfold sForN
    rw [hn]
    refine ev_for (ev_seqI ?_)
    refine ⟨.sh d, env, by unfold eVar; rw [he], d, env, ds, rfl, hi, ?_⟩
    exact ev_loop J hj ht q
theorem lcLv_gen {g : SG} {t f : Env → Option EO} {vs : List Nat} {i0 : Nat} {ds : List D} (J : List D → List D → Env → Prop) (hl : ds.length ≤ sizeLine) (hj : J [] [] env) (hb : ∀ done acc e, J done acc e → brwLst e i0 = some ds)
    (ht : ∀ done d rest acc e, ds = done ++ d :: rest → J done acc e → ∃ e1, g d e = some e1 ∧ EvE (t e1) fun v e2 => ∃ k, v = .sh (.bl k) ∧ (k = false → J (done ++ [d]) acc (wipeE e2 vs)) ∧ (k = true → EvE (f e2) fun v e3 => ∃ y e4, take e3 v = some (y, e4) ∧ J (done ++ [d]) (acc ++ [y]) (wipeE e4 vs))) :
    ∃ ys e', lcLv g t f vs i0 ds.length 0 env [] = some (ys, e') ∧ J ds ys e' := by
  have key : ∀ (rest done acc : List D) (env : Env), ds = done ++ rest → acc.length ≤ done.length → J done acc env → ∃ ys e', lcLv g t f vs i0 rest.length done.length env acc = some (ys, e') ∧ J ds ys e' := by
    intro rest
    induction rest with
    | nil =>
      intro done acc env e hle hj
      rw [List.append_nil] at e
      subst e
      refine ⟨acc, env, ?_, hj⟩
      unfold lcLv
      simp only [List.length_nil]
      rw [hb _ _ _ hj]
      simp
    | cons d rest ih =>
      intro done acc env e hle hj
      obtain ⟨e1, h1, v, e2, h2, k, rfl, h3, h4⟩ := ht done d rest acc env e hj
      have hlen : done.length < sizeLine := by rw [e] at hl; simp at hl; omega
      have hd : ds[done.length]? = some d := by rw [e]; simp
      have el : (done ++ [d]).length = done.length + 1 := by simp
      rw [List.length_cons]
      unfold lcLv
      rw [hb _ _ _ hj]
      simp only [Option.bind_some, hd, h1, h2]
      cases k with
      | false => have r := ih (done ++ [d]) acc _ (by rw [e]; simp) (by simp; omega) (h3 rfl); rw [el] at r; exact r
      | true =>
        obtain ⟨v, e3, h5, y, e4, h6, h7⟩ := h4 rfl
        simp only [h5, h6, Option.bind_some]
        rw [if_pos (by omega)]
        have r := ih (done ++ [d]) (acc ++ [y]) _ (by rw [e]; simp) (by simp; omega) h7
        rw [el] at r
        exact r
  exact key ds [] [] env rfl (Nat.le_refl _) hj
/-- a comprehension over a parameter -/
theorem ev_lcN {vs : List Nat} {i : Nat} {g : SG} {t f : SE} {a : Arg} {ds : List D} (ha : SeqP a ds) (hl : ds.length ≤ sizeLine) (he : env[i]? = some (some a.slot)) (hc : calmE env vs = true) {ew : Env} (hw : wipeE env vs = ew)
    (J : List D → List D → Env → Prop) (hj : J [] [] ew) (hb : ∀ done acc e, J done acc e → e[i]? = some (some a.slot))
    (ht : ∀ done d rest acc e, ds = done ++ d :: rest → J done acc e → ∃ e1, g d e = some e1 ∧ EvE (t c e1) fun v e2 => ∃ k, v = .sh (.bl k) ∧ (k = false → J (done ++ [d]) acc (wipeE e2 vs)) ∧ (k = true → EvE (f c e2) fun v e3 => ∃ y e4, take e3 v = some (y, e4) ∧ J (done ++ [d]) (acc ++ [y]) (wipeE e4 vs)))
    (q : ∀ ys e', J ds ys e' → ∃ e3, restE env e' vs = e3 ∧ Q (.fr (.lst ys)) e3) : EvE (eLCN vs i g t f c env) Q := by
  subst hw
  rcases ha with rfl | ha
  · have hb' : ∀ e : Env, e[i]? = some (some (Slot.brw (.lst ds))) → brwLst e i = some ds := fun e h => by unfold brwLst; rw [h]
    obtain ⟨ys, e', h1, h2⟩ := lcLv_gen (g := g) (t := t c) (f := f c) (vs := vs) J hl hj (fun done acc e h => hb' e (hb done acc e h)) ht
    obtain ⟨_, rfl, h3⟩ := q ys e' h2
    refine ⟨_, _, ?_, h3⟩
    unfold eLCN eLCv
    simp only [hb' env he, if_pos hc, h1, Option.map_some]
  · obtain ⟨d, rfl, hi⟩ : ∃ d, a = .sh d ∧ itemsOf d = some ds := by
      rcases ha with rfl | rfl
      · exact ⟨_, rfl, rfl⟩
      · exact ⟨_, rfl, rfl⟩
    have he : env[i]? = some (some (Slot.sh d)) := he
    have hn : brwLst env i = none := by unfold brwLst; rw [he]
    obtain ⟨ys, e', h1, h2⟩ := lc_gen (g := g) (t := t c) (f := f c) (vs := vs) J hl hj ht
    obtain ⟨e3, h3, h4⟩ := q ys e' h2
    have r : EvE (eLC vs (itSeq (eVar i)) g t f c env) Q := ev_lc (ev_seqI ⟨.sh d, env, by unfold eVar; rw [he], d, env, ds, rfl, hi, hc, _, rfl, ys, e', h1, e3, h3, h4⟩)
    unfold eLCN
    simp only [hn]
    exact r
/-- a loop that may end the def: J goes on, R ends -/
theorem ev_search {g : SG} {f : Env → Option SO} {ds : List D} (J : Env → Prop) (ok : D → Bool) (r : RV) (hj : J env)
    (ht : ∀ d ∈ ds, ∀ e, J e → ∃ e1, g d e = some e1 ∧ EvS (f e1) (fun e2 => ok d = true ∧ J e2) (fun r' e2 => ok d = false ∧ r' = r ∧ J e2) (fun _ => False) (fun _ => False) (fun _ _ => False))
    (q1 : ds.all ok = true → ∀ e, J e → N e) (q2 : ds.all ok = false → ∀ e, J e → R r e) : EvS (forL g f ds env) N R B C X := by
  obtain ⟨e', h1, h2⟩ := forL_search (g := g) (f := f) J ok r ds env hj fun d hd e je => by
    obtain ⟨e1, h1, o, h2, h3⟩ := ht d hd e je
    cases o with
    | nx e2 => exact ⟨e1, e2, h1, h3.2, by rw [h2, if_pos h3.1]⟩
    | ret r' e2 => exact ⟨e1, e2, h1, h3.2.2, by rw [h2, h3.2.1, if_neg (by rw [h3.1]; decide)]⟩
    | brk e2 => exact h3.elim
    | ct e2 => exact h3.elim
    | exc x e2 => exact h3.elim
  refine ⟨_, h2, ?_⟩
  cases ha : ds.all ok with
  | true => rw [if_pos rfl]; exact q1 ha e' h1
  | false => rw [if_neg (by decide)]; exact q2 ha e' h1
end
end Pd
/-! P4: plain data: equality, membership, order -/
namespace Pd
open PySem PySem.Spec L2
/-- data whose equality is that of its parts -/
def Pl : Nat → D → Prop
  | _, .non => True
  | _, .int _ => True
  | _, .str s => PyData.strOk s = true
  | n + 1, .lst ds => ∀ d ∈ ds, Pl n d
  | n + 1, .tup ds => ∀ d ∈ ds, Pl n d
  | _, _ => False
theorem pl_toPy : ∀ (n : Nat) (d : D), Pl n d → ∃ p, toPy d = some p ∧ p.canLay0 = true ∧ p.depth ≤ n := by
  intro n
  induction n with
  | zero =>
    intro d h
    cases d with
    | non => exact ⟨_, rfl, rfl, by simp [PyData.depth]⟩
    | int i => exact ⟨_, rfl, rfl, by simp [PyData.depth]⟩
    | str s => exact ⟨_, rfl, by simpa [PyData.canLay0, Pl] using h, by simp [PyData.depth]⟩
    | _ => exact absurd h (by simp [Pl])
  | succ n ih =>
    have all : ∀ ds : List D, (∀ d ∈ ds, Pl n d) → ∃ ps, toPys ds = some ps ∧ PyData.canLayAll0 ps = true ∧ PyData.depthAll ps ≤ n := by
      intro ds
      induction ds with
      | nil => intro _; exact ⟨[], rfl, rfl, by simp [PyData.depthAll]⟩
      | cons d ds ih2 =>
        intro h
        obtain ⟨p, h1, h2, h3⟩ := ih d (h d List.mem_cons_self)
        obtain ⟨ps, h4, h5, h6⟩ := ih2 fun x hx => h x (List.mem_cons_of_mem _ hx)
        refine ⟨p :: ps, by simp only [toPys, h1, h4, Option.bind_some, Option.map_some], by simp [PyData.canLayAll0, h2, h5], ?_⟩
        simp only [PyData.depthAll]
        omega
    intro d h
    cases d with
    | non => exact ⟨_, rfl, rfl, by simp [PyData.depth]⟩
    | int i => exact ⟨_, rfl, rfl, by simp [PyData.depth]⟩
    | str s => exact ⟨_, rfl, by simpa [PyData.canLay0, Pl] using h, by simp [PyData.depth]⟩
    | lst ds =>
      obtain ⟨ps, h1, h2, h3⟩ := all ds h
      exact ⟨.list ps, by simp only [toPy, h1, Option.map_some], by simpa [PyData.canLay0] using h2, by simp only [PyData.depth]; omega⟩
    | tup ds =>
      obtain ⟨ps, h1, h2, h3⟩ := all ds h
      exact ⟨.tuple ps, by simp only [toPy, h1, Option.map_some], by simpa [PyData.canLay0] using h2, by simp only [PyData.depth]; omega⟩
    | _ => exact absurd h (by simp [Pl])
theorem pl_eqv : ∀ (n : Nat) (a b : D) (p q : PyData), Pl n a → Pl n b → toPy a = some p → toPy b = some q → (PyData.eqv p q = true ↔ a = b) := by
  intro n
  induction n with
  | zero =>
    intro a b p q ha hb h1 h2
    cases a with
    | non => cases h1; cases b with
      | non => cases h2; simp [PyData.eqv]
      | int i => cases h2; simp [PyData.eqv]
      | str s => cases h2; simp [PyData.eqv]
      | _ => exact absurd hb (by simp [Pl])
    | int i => cases h1; cases b with
      | non => cases h2; simp [PyData.eqv]
      | int i => cases h2; simp [PyData.eqv]
      | str s => cases h2; simp [PyData.eqv]
      | _ => exact absurd hb (by simp [Pl])
    | str s => cases h1; cases b with
      | non => cases h2; simp [PyData.eqv]
      | int i => cases h2; simp [PyData.eqv]
      | str s => cases h2; simp [PyData.eqv]
      | _ => exact absurd hb (by simp [Pl])
    | _ => exact absurd ha (by simp [Pl])
  | succ n ih =>
    have all : ∀ (as bs : List D) (ps qs : List PyData), (∀ d ∈ as, Pl n d) → (∀ d ∈ bs, Pl n d) → toPys as = some ps → toPys bs = some qs → (PyData.eqvAll ps qs = true ↔ as = bs) := by
      intro as
      induction as with
      | nil =>
        intro bs ps qs _ hb h1 h2
        cases h1
        cases bs with
        | nil => cases h2; simp [PyData.eqvAll]
        | cons b bs =>
          simp only [toPys, Option.bind_eq_some_iff, Option.map_eq_some_iff] at h2
          obtain ⟨q, _, qs', _, rfl⟩ := h2
          simp [PyData.eqvAll]
      | cons a as ih2 =>
        intro bs ps qs ha hb h1 h2
        simp only [toPys, Option.bind_eq_some_iff, Option.map_eq_some_iff] at h1
        obtain ⟨p, hp, ps', hps, rfl⟩ := h1
        cases bs with
        | nil => cases h2; simp [PyData.eqvAll]
        | cons b bs =>
          simp only [toPys, Option.bind_eq_some_iff, Option.map_eq_some_iff] at h2
          obtain ⟨q, hq, qs', hqs, rfl⟩ := h2
          simp only [PyData.eqvAll, Bool.and_eq_true, List.cons.injEq]
          rw [ih a b p q (ha _ List.mem_cons_self) (hb _ List.mem_cons_self) hp hq, ih2 bs ps' qs' (fun d h => ha d (List.mem_cons_of_mem _ h)) (fun d h => hb d (List.mem_cons_of_mem _ h)) hps hqs]
    intro a b p q ha hb h1 h2
    have sq : ∀ {d : D} {x : PyData}, Pl (n + 1) d → toPy d = some x → (d = .non ∧ x = .none) ∨ (∃ i, d = .int i ∧ x = .int i) ∨ (∃ s, d = .str s ∧ x = .str s) ∨ (∃ ds xs, d = .lst ds ∧ x = .list xs ∧ toPys ds = some xs ∧ ∀ z ∈ ds, Pl n z) ∨ ∃ ds xs, d = .tup ds ∧ x = .tuple xs ∧ toPys ds = some xs ∧ ∀ z ∈ ds, Pl n z := by
      intro d x hd hx
      cases d with
      | non => cases hx; exact .inl ⟨rfl, rfl⟩
      | int i => cases hx; exact .inr (.inl ⟨_, rfl, rfl⟩)
      | str s => cases hx; exact .inr (.inr (.inl ⟨_, rfl, rfl⟩))
      | lst ds =>
        simp only [toPy, Option.map_eq_some_iff] at hx
        obtain ⟨xs, h, rfl⟩ := hx
        exact .inr (.inr (.inr (.inl ⟨_, _, rfl, rfl, h, hd⟩)))
      | tup ds =>
        simp only [toPy, Option.map_eq_some_iff] at hx
        obtain ⟨xs, h, rfl⟩ := hx
        exact .inr (.inr (.inr (.inr ⟨_, _, rfl, rfl, h, hd⟩)))
      | _ => exact absurd hd (by simp [Pl])
    rcases sq ha h1 with ⟨rfl, rfl⟩ | ⟨i, rfl, rfl⟩ | ⟨s, rfl, rfl⟩ | ⟨ds, xs, rfl, rfl, h3, h4⟩ | ⟨ds, xs, rfl, rfl, h3, h4⟩ <;>
      rcases sq hb h2 with ⟨rfl, rfl⟩ | ⟨i', rfl, rfl⟩ | ⟨s', rfl, rfl⟩ | ⟨ds', xs', rfl, rfl, h5, h6⟩ | ⟨ds', xs', rfl, rfl, h5, h6⟩ <;>
      simp only [PyData.eqv, beq_iff_eq, reduceCtorEq, Bool.false_eq_true, D.int.injEq, D.str.injEq, D.lst.injEq, D.tup.injEq]
    · exact all ds ds' xs xs' h4 h6 h3 h5
    · exact all ds ds' xs xs' h4 h6 h3 h5
theorem Pl.mono {n m : Nat} : ∀ {d : D}, n ≤ m → Pl n d → Pl m d := by
  induction n generalizing m with
  | zero =>
    intro d _ h
    cases d with
    | non => cases m <;> trivial
    | int i => cases m <;> trivial
    | str s => cases m <;> exact h
    | _ => exact absurd h (by simp [Pl])
  | succ n ih =>
    intro d hm h
    obtain ⟨m, rfl⟩ : ∃ k, m = k + 1 := ⟨m - 1, by omega⟩
    cases d with
    | non => trivial
    | int i => trivial
    | str s => exact h
    | lst ds => exact fun d hd => ih (by omega) (h d hd)
    | tup ds => exact fun d hd => ih (by omega) (h d hd)
    | _ => exact absurd h (by simp [Pl])
theorem pl_shaped {n : Nat} {p : PyData} (hn : n ≤ 64) (h : p.canLay0 = true) (hd : p.depth ≤ n) : SeqAt.shaped p = true := by
  unfold SeqAt.shaped
  rw [h, decide_eq_true (by omega)]; rfl
theorem pl_eqB {n : Nat} {a b : D} (hn : n ≤ 64) (ha : Pl n a) (hb : Pl n b) : ∃ k, eqB a b = some k ∧ (k = true ↔ a = b) := by
  obtain ⟨p, h1, h2, h3⟩ := pl_toPy n a ha
  obtain ⟨q, h4, h5, h6⟩ := pl_toPy n b hb
  have e := pl_eqv n a b p q ha hb h1 h4
  have gen : (match toPy a, toPy b with
    | some p, some q => if SeqAt.shaped p = true ∧ SeqAt.shaped q = true then some (PyData.eqv p q) else none
    | _, _ => none) = some (PyData.eqv p q) := by
    rw [h1, h4]
    simp only
    rw [if_pos ⟨pl_shaped hn h2 h3, pl_shaped hn h5 h6⟩]
  have both : eqB a b = some (PyData.eqv p q) ∨ (∃ k, eqB a b = some k ∧ (k = true ↔ a = b)) := by
    cases a <;> cases b <;> first
      | exact .inl gen
      | exact .inr ⟨_, rfl, by simp⟩
  rcases both with h | h
  · exact ⟨_, h, e⟩
  · exact h
theorem pl_neX {n : Nat} {a b : D} (hn : n ≤ 64) (ha : Pl n a) (hb : Pl n b) : ∃ k, neX a b = some (.sh (.bl k)) ∧ (k = true ↔ a ≠ b) := by
  obtain ⟨k, h1, h2⟩ := pl_eqB hn ha hb
  refine ⟨!k, ?_, by rw [ne_eq, ← not_congr h2]; simp⟩
  have e : neX a b = neD a b := by cases a <;> first | rfl | (cases b <;> first | rfl | exact absurd ha (by cases n <;> simp [Pl]))
  rw [e, neD, h1]; rfl
theorem pl_any {n : Nat} {d : D} {p : PyData} (hd : Pl n d) (hp : toPy d = some p) : ∀ (xs : List D) (ps : List PyData), (∀ x ∈ xs, Pl n x) → toPys xs = some ps → ((ps.any fun z => PyData.eqv z p) = true ↔ d ∈ xs) := by
  intro xs
  induction xs with
  | nil => intro ps _ h; cases h; simp
  | cons x xs ih =>
    intro ps hx h
    simp only [toPys, Option.bind_eq_some_iff, Option.map_eq_some_iff] at h
    obtain ⟨q, hq, ps', hps, rfl⟩ := h
    rw [List.any_cons, Bool.or_eq_true, pl_eqv n x d q p (hx _ List.mem_cons_self) hd hq hp, ih ps' (fun y hy => hx y (List.mem_cons_of_mem _ hy)) hps, List.mem_cons, eq_comm]
theorem pl_all {n : Nat} : ∀ xs : List D, (∀ x ∈ xs, Pl n x) → ∃ ps, toPys xs = some ps ∧ PyData.canLayAll0 ps = true ∧ PyData.depthAll ps ≤ n := by
  intro xs h
  obtain ⟨p, h1, h2, h3⟩ := pl_toPy (n + 1) (.lst xs) h
  simp only [toPy, Option.map_eq_some_iff] at h1
  obtain ⟨ps, h4, rfl⟩ := h1
  exact ⟨ps, h4, by simpa [PyData.canLay0] using h2, by simp only [PyData.depth] at h3; omega⟩
theorem pl_inB {n : Nat} {d : D} {xs : List D} (hn : n + 1 ≤ 64) (hd : Pl n d) (hx : ∀ x ∈ xs, Pl n x) : (∃ k, inXB d (.lst xs) = some k ∧ (k = true ↔ d ∈ xs)) ∧ ∃ k, inXB d (.tup xs) = some k ∧ (k = true ↔ d ∈ xs) := by
  obtain ⟨p, h1, h2, h3⟩ := pl_toPy n d hd
  obtain ⟨ps, h4, h5, h6⟩ := pl_all xs hx
  have e := pl_any hd h1 xs ps hx h4
  constructor
  · refine ⟨_, ?_, e⟩
    have e1 : inXB d (.lst xs) = (match toPy d, toPys xs with
      | some p, some ps => if SeqAt.shaped p = true ∧ SeqAt.shaped (.list ps) = true then some (ps.any fun z => PyData.eqv z p) else none
      | _, _ => none) := by cases d <;> rfl
    rw [e1, h1, h4]
    simp only
    rw [if_pos ⟨pl_shaped (by omega) h2 h3, pl_shaped (n := n + 1) hn (by simpa [PyData.canLay0] using h5) (by simp only [PyData.depth]; omega)⟩]
  · refine ⟨_, ?_, e⟩
    have e1 : inXB d (.tup xs) = (match toPy d, toPys xs with
      | some p, some ps => if SeqAt.shaped p = true ∧ SeqAt.shaped (.tuple ps) = true then some (ps.any fun z => PyData.eqv z p) else none
      | _, _ => none) := by cases d <;> rfl
    rw [e1, h1, h4]
    simp only
    rw [if_pos ⟨pl_shaped (by omega) h2 h3, pl_shaped (n := n + 1) hn (by simpa [PyData.canLay0] using h5) (by simp only [PyData.depth]; omega)⟩]
section
variable {n : Nat} {d : D} {xs : List D}
theorem pl_inL (hn : n + 1 ≤ 64) (hd : Pl n d) (hx : ∀ x ∈ xs, Pl n x) : ∃ k, inX d (.lst xs) = some (.sh (.bl k)) ∧ (k = true ↔ d ∈ xs) := by
  obtain ⟨⟨k, h1, h2⟩, _⟩ := pl_inB hn hd hx
  exact ⟨k, by rw [inX, h1]; rfl, h2⟩
theorem pl_ninL (hn : n + 1 ≤ 64) (hd : Pl n d) (hx : ∀ x ∈ xs, Pl n x) : ∃ k, ninX d (.lst xs) = some (.sh (.bl k)) ∧ (k = true ↔ d ∉ xs) := by
  obtain ⟨⟨k, h1, h2⟩, _⟩ := pl_inB hn hd hx
  exact ⟨!k, by rw [ninX, h1]; rfl, by rw [← not_congr h2]; simp⟩
theorem pl_ninT (hn : n + 1 ≤ 64) (hd : Pl n d) (hx : ∀ x ∈ xs, Pl n x) : ∃ k, ninX d (.tup xs) = some (.sh (.bl k)) ∧ (k = true ↔ d ∉ xs) := by
  obtain ⟨_, k, h1, h2⟩ := pl_inB hn hd hx
  exact ⟨!k, by rw [ninX, h1]; rfl, by rw [← not_congr h2]; simp⟩
end
/-! ### order -/
/-- what < says -/
def dlt (a b : D) : Bool := match ltX a b with
  | some (.sh (.bl k)) => k
  | _ => false
/-- a kind of data that < orders -/
structure Ordd (ok : D → Prop) : Prop where
  lt : ∀ a b, ok a → ok b → ltX a b = some (.sh (.bl (dlt a b)))
  irr : ∀ a, ok a → dlt a a = false
  trans : ∀ a b c, ok a → ok b → ok c → dlt a b = true → dlt b c = true → dlt a c = true
  tri : ∀ a b, ok a → ok b → dlt a b = false → dlt b a = false → a = b
  pl : ∀ a, ok a → Pl 60 a
section
variable {ok : D → Prop} (O : Ordd ok) {a b d : D} {xs ys zs : List D}
include O
theorem Ordd.le_trans {a b d : D} (ha : ok a) (hb : ok b) (hd : ok d) (h1 : dlt b a = false) (h2 : dlt d b = false) : dlt d a = false := by
  cases h : dlt d a with
  | false => rfl
  | true =>
    cases hab : dlt a b with
    | false =>
      have e := O.tri a b ha hb hab h1
      subst e
      rw [h] at h2; exact h2
    | true =>
      rw [O.trans d a b hd ha hb h hab] at h2
      exact h2
theorem Ordd.lt_of_le_ne (ha : ok a) (hb : ok b) (h1 : dlt b a = false) (h2 : a ≠ b) : dlt a b = true := by
  cases h : dlt a b with
  | true => rfl
  | false => exact absurd (O.tri a b ha hb h h1) h2
theorem Ordd.asymm (ha : ok a) (hb : ok b) (h : dlt a b = true) : dlt b a = false := by
  cases h2 : dlt b a with
  | false => rfl
  | true =>
    have := O.trans a b a ha hb ha h h2
    rw [O.irr a ha] at this
    cases this
end
/-- ascending, with equal ones -/
def Asc (xs : List D) : Prop := xs.Pairwise fun a b => dlt b a = false
/-- strictly ascending -/
def SAsc (xs : List D) : Prop := xs.Pairwise fun a b => dlt a b = true
theorem SAsc.uniq {ok : D → Prop} (O : Ordd ok) : ∀ {xs ys : List D}, (∀ x ∈ xs, ok x) → (∀ y ∈ ys, ok y) → SAsc xs → SAsc ys → (∀ d, d ∈ xs ↔ d ∈ ys) → xs = ys
  | [], [], _, _, _, _, _ => rfl
  | [], y :: ys, _, _, _, _, h => nomatch (h y).mpr List.mem_cons_self
  | x :: xs, [], _, _, _, _, h => nomatch (h x).mp List.mem_cons_self
  | x :: xs, y :: ys, hx, hy, sx, sy, h => by
    have px := List.pairwise_cons.mp sx
    have py := List.pairwise_cons.mp sy
    have okx := hx x List.mem_cons_self
    have oky := hy y List.mem_cons_self
    have e : x = y := by
      rcases List.mem_cons.mp ((h x).mp List.mem_cons_self) with e | h1
      · exact e
      rcases List.mem_cons.mp ((h y).mpr List.mem_cons_self) with e | h2
      · exact e.symm
      have l1 := py.1 x h1
      have l2 := px.1 y h2
      rw [O.asymm oky okx l1] at l2
      cases l2
    subst e
    congr 1
    refine SAsc.uniq O (fun d hd => hx d (List.mem_cons_of_mem _ hd)) (fun d hd => hy d (List.mem_cons_of_mem _ hd)) px.2 py.2 fun d => ⟨fun hd => ?_, fun hd => ?_⟩
    · rcases List.mem_cons.mp ((h d).mp (List.mem_cons_of_mem _ hd)) with e | h1
      · subst e
        have := px.1 d hd
        rw [O.irr d okx] at this
        cases this
      · exact h1
    · rcases List.mem_cons.mp ((h d).mpr (List.mem_cons_of_mem _ hd)) with e | h1
      · subst e
        have := py.1 d hd
        rw [O.irr d okx] at this
        cases this
      · exact h1
/-- the different ones, ascending -/
def insD (d : D) : List D → List D
  | [] => [d]
  | x :: xs => if dlt d x = true then d :: x :: xs else if dlt x d = true then x :: insD d xs else x :: xs
def ascD (xs : List D) : List D := xs.foldr insD []
section
variable {ok : D → Prop} (O : Ordd ok)
include O
theorem insD_ok {d : D} (hd : ok d) : ∀ {xs : List D}, (∀ x ∈ xs, ok x) → SAsc xs → SAsc (insD d xs) ∧ ∀ z, z ∈ insD d xs ↔ z = d ∨ z ∈ xs
  | [], _, _ => ⟨List.pairwise_singleton _ _, fun z => by simp [insD]⟩
  | x :: xs, hx, s => by
    have px := List.pairwise_cons.mp s
    have okx := hx x List.mem_cons_self
    have okt : ∀ y ∈ xs, ok y := fun y hy => hx y (List.mem_cons_of_mem _ hy)
    unfold insD
    by_cases h1 : dlt d x = true
    · rw [if_pos h1]
      refine ⟨List.pairwise_cons.mpr ⟨fun y hy => ?_, s⟩, fun z => by simp⟩
      rcases List.mem_cons.mp hy with e | hy
      · rw [e]; exact h1
      · exact O.trans _ _ _ hd okx (okt y hy) h1 (px.1 y hy)
    · rw [if_neg h1]
      by_cases h2 : dlt x d = true
      · rw [if_pos h2]
        obtain ⟨i1, i2⟩ := insD_ok hd okt px.2
        refine ⟨List.pairwise_cons.mpr ⟨fun y hy => ?_, i1⟩, fun z => ?_⟩
        · rcases (i2 y).mp hy with e | hy
          · rw [e]; exact h2
          · exact px.1 y hy
        · rw [List.mem_cons, i2 z, List.mem_cons]
          constructor
          · rintro (h | h | h)
            · exact .inr (.inl h)
            · exact .inl h
            · exact .inr (.inr h)
          · rintro (h | h | h)
            · exact .inr (.inl h)
            · exact .inl h
            · exact .inr (.inr h)
      · rw [if_neg h2]
        have e := O.tri d x hd okx (by simpa using h1) (by simpa using h2)
        refine ⟨s, fun z => ?_⟩
        rw [← e]
        simp
theorem ascD_ok : ∀ {xs : List D}, (∀ x ∈ xs, ok x) → SAsc (ascD xs) ∧ ∀ z, z ∈ ascD xs ↔ z ∈ xs
  | [], _ => ⟨List.Pairwise.nil, fun z => by simp [ascD]⟩
  | x :: xs, hx => by
    obtain ⟨i1, i2⟩ := ascD_ok (xs := xs) fun y hy => hx y (List.mem_cons_of_mem _ hy)
    obtain ⟨j1, j2⟩ := insD_ok O (hx x List.mem_cons_self) (xs := ascD xs) (fun y hy => hx y (List.mem_cons_of_mem _ ((i2 y).mp hy))) i1
    refine ⟨j1, fun z => ?_⟩
    show z ∈ insD x (ascD xs) ↔ _
    rw [j2, i2, List.mem_cons]
theorem ascD_eq {xs ys : List D} (hx : ∀ x ∈ xs, ok x) (s : SAsc ys) (h : ∀ d, d ∈ ys ↔ d ∈ xs) : ys = ascD xs := by
  obtain ⟨i1, i2⟩ := ascD_ok O hx
  exact SAsc.uniq O (fun y hy => hx y ((h y).mp hy)) (fun y hy => hx y ((i2 y).mp hy)) s i1 fun d => (h d).trans (i2 d).symm
end
/-! texts, numbers -/
def okStr (d : D) : Prop := ∃ s : Str, d = .str s ∧ PyData.strOk s = true
theorem dlt_str (s t : Str) : dlt (.str s) (.str t) = decide (s.cps.toList < t.cps.toList) := rfl
theorem nat_lt_tri : ∀ {xs ys : List Nat}, ¬ xs < ys → ¬ ys < xs → xs = ys
  | [], [], _, _ => rfl
  | [], y :: ys, h, _ => absurd (List.nil_lt_cons y ys) h
  | x :: xs, [], _, h => absurd (List.nil_lt_cons x xs) h
  | x :: xs, y :: ys, h1, h2 => by
    rw [List.cons_lt_cons_iff] at h1 h2
    have e : x = y := by omega
    subst e
    rw [nat_lt_tri (xs := xs) (ys := ys) (fun z => h1 (.inr ⟨rfl, z⟩)) fun z => h2 (.inr ⟨rfl, z⟩)]
theorem nat_lt_irr : ∀ {xs : List Nat}, ¬ xs < xs
  | [] => List.not_lt_nil _
  | x :: xs => by
    rw [List.cons_lt_cons_iff]
    rintro (h | h)
    · omega
    · exact nat_lt_irr h.2
theorem nat_lt_trans : ∀ {xs ys zs : List Nat}, xs < ys → ys < zs → xs < zs
  | _, [], _, h, _ => absurd h (List.not_lt_nil _)
  | _, _ :: _, [], _, h => absurd h (List.not_lt_nil _)
  | [], _ :: _, z :: zs, _, _ => List.nil_lt_cons z zs
  | x :: xs, y :: ys, z :: zs, h1, h2 => by
    rw [List.cons_lt_cons_iff] at h1 h2 ⊢
    rcases h1 with h1 | ⟨rfl, h1⟩ <;> rcases h2 with h2 | ⟨rfl, h2⟩
    · exact .inl (by omega)
    · exact .inl h1
    · exact .inl h2
    · exact .inr ⟨rfl, nat_lt_trans h1 h2⟩
theorem str_ext {s t : Str} (h : s.cps.toList = t.cps.toList) : s = t := by
  cases s; cases t
  congr 1
  exact Array.toList_inj.mp h
theorem ord_str : Ordd okStr where
  lt := by rintro _ _ ⟨i, rfl, _⟩ ⟨j, rfl, _⟩; rfl
  irr := by rintro _ ⟨i, rfl, _⟩; rw [dlt_str]; simp only [decide_eq_false_iff_not]; exact nat_lt_irr
  trans := by rintro _ _ _ ⟨i, rfl, _⟩ ⟨j, rfl, _⟩ ⟨k, rfl, _⟩; simp only [dlt_str, decide_eq_true_eq]; exact nat_lt_trans
  tri := by rintro _ _ ⟨i, rfl, _⟩ ⟨j, rfl, _⟩; simp only [dlt_str, decide_eq_false_iff_not, D.str.injEq]; exact fun h1 h2 => str_ext (nat_lt_tri h1 h2)
  pl := by rintro _ ⟨i, rfl, h⟩; exact h
/-! rows: a name and numbers -/
abbrev Row := Str × List Int
def rowD (r : Row) : D := .tup (.str r.1 :: r.2.map .int)
def okRow (d : D) : Prop := ∃ r : Row, d = rowD r ∧ PyData.strOk r.1 = true
end Pd
/-! P5: own !=, enumerate, dict comprehensions, dicts whose values are all True -/
namespace Pd
open PySem PySem.Spec L2
section
variable {c : CT} {env : Env} {Q : Val → Env → Prop} {N B C : Env → Prop} {R : RV → Env → Prop} {X : Exc → Env → Prop}
end
/-! ### dicts whose values are all True -/
section
variable {κ : Type} [DecidableEq κ]
def addK (ks : List κ) (v : κ) : List κ := if v ∈ ks then ks else ks ++ [v]
end
end Pd
/-! P6: rules for the printed walks (pw.py) -/
namespace Pd
open PySem PySem.Spec L2
section
variable {c : CT} {env : Env} {Q : Val → Env → Prop} {N B C : Env → Prop} {R : RV → Env → Prop} {X : Exc → Env → Prop}
/-- a draw: what comes behind is told with the new cell put in place -/
theorem ev_drawT {i : Nat} {fn : SE} {cl : Cell} (hd : Has c ("_law_draw", none) DrawOk) (hi : eVar i c env = some (.val (.var i) env)) (hg : Good cl)
    (h : EvE (fn c env) fun v e => ∃ n : Int, v = .sh (.int n) ∧ cellAt e i = some cl ∧ n < 1073741824 ∧ ∀ (r : Int) cl', Good cl' → 0 ≤ r → (r < n ∨ r = 0) → ∃ e', putCell e i cl' = e' ∧ Q (.sh (.int r)) e') : EvE (eCallB ("_law_draw", none) (aCons (eVar i) (aCons fn aNil)) c env) Q := by
  obtain ⟨v, e, h1, n, rfl, h2, h3, q⟩ := h
  exact ev_draw hd (ev_acons (ev_var hi (ev_acons ⟨_, e, h1, ev_anil ⟨i, _, n, cl, rfl, rfl, rfl, h2, hg, h3, fun cl' => putCell e i cl', fun _ => rfl, fun r cl' a b u => by obtain ⟨_, rfl, z⟩ := q r cl' a b u; exact z⟩⟩)))
theorem ev_orP {fa fb : SE} (h : EvE (fa c env) fun v e => ∃ k, v = .sh (.bl k) ∧ EvE (fb c e) fun v2 e2 => ∃ k2, v2 = .sh (.bl k2) ∧ e2 = e ∧ Q (.sh (.bl (k || k2))) e) : EvE (eOr fa fb c env) Q := by
  obtain ⟨v, e, h1, k, rfl, v2, e2, h2, k2, rfl, rfl, q⟩ := h
  refine ev_or ⟨_, _, h1, k, rfl, fun hk => ⟨_, _, h2, ?_⟩, fun hk => ?_⟩
  · subst hk; exact q
  · subst hk; exact q
theorem ev_callT {p : Str × Option Str} {fs : SA} {g : List Arg → Option CRes} (hg : c p = some g) (h : EvA (fs c env) fun vs e1 => ∃ i vs' ds e2 cl r cl' outs, vs = .var i :: vs' ∧ takes e1 vs' = some (ds, e2) ∧ cellAt e2 i = some cl ∧ g (.brw cl :: ds.map .sh) = some (.ret r (some cl' :: outs)) ∧ ∃ e3, putCell e2 i cl' = e3 ∧ Q r.val e3) : EvE (eCallB p fs c env) Q := by
  obtain ⟨vs, e1, h1, i, vs', ds, e2, cl, r, cl', outs, h2, h3, h4, h5, _, rfl, q⟩ := h
  exact ev_callB hg ⟨vs, e1, h1, i, vs', ds, e2, cl, r, cl', outs, h2, h3, h4, h5, q⟩
/-- range of a natural number -/
theorem ev_range1U {fs : SA} {Q : List D → Env → Prop} (h : EvA (fs c env) fun vs e => ∃ n : Nat, peeks e vs = some [.int n] ∧ n < 2 ^ 62 ∧ Q (((List.range n).map fun k => (0 : Int) + (k : Nat)).map D.int) e) : EvI (itRange1 fs c env) Q := by
  obtain ⟨vs, e, h1, n, h2, h3, q⟩ := h
  refine ev_range1 ⟨vs, e, h1, (n : Int), h2, ⟨by omega, by omega⟩, ?_⟩
  rw [Int.toNat_natCast]
  rw [List.map_map] at q
  exact q
section
variable {α β : Type} (e0 : α → D) (e1 : β → D)
theorem lc_genE {g : SG} {t f : Env → Option EO} {vs : List Nat} {xs : List α} (J : List α → List D → Env → Prop) (hl : xs.length ≤ sizeLine) (hj : J [] [] env)
    (ht : ∀ done x rest acc e, xs = done ++ x :: rest → J done acc e → ∃ a1, g (e0 x) e = some a1 ∧ EvE (t a1) fun v a2 => ∃ k, v = .sh (.bl k) ∧ (k = false → J (done ++ [x]) acc (wipeE a2 vs)) ∧ (k = true → EvE (f a2) fun v a3 => ∃ y a4, take a3 v = some (y, a4) ∧ J (done ++ [x]) (acc ++ [y]) (wipeE a4 vs))) :
    ∃ ys e', lcL g t f vs (xs.map e0) env [] = some (ys, e') ∧ J xs ys e' := by
  have key : ∀ (rest done : List α) (acc : List D) (env : Env), xs = done ++ rest → acc.length ≤ done.length → J done acc env → ∃ ys e', lcL g t f vs (rest.map e0) env acc = some (ys, e') ∧ J xs ys e' := by
    intro rest
    induction rest with
    | nil =>
      intro done acc env e hle hj
      rw [List.append_nil] at e
      subst e
      exact ⟨acc, env, rfl, hj⟩
    | cons d rest ih =>
      intro done acc env e hle hj
      obtain ⟨a1, h1, v, a2, h2, k, rfl, h3, h4⟩ := ht done d rest acc env e hj
      have hlen : done.length < sizeLine := by rw [e] at hl; simp at hl; omega
      rw [List.map_cons]
      unfold lcL
      rw [h1]
      simp only [Option.bind_some, h2]
      cases k with
      | false => exact ih (done ++ [d]) acc _ (by rw [e]; simp) (by simp; omega) (h3 rfl)
      | true =>
        obtain ⟨v, a3, h5, y, a4, h6, h7⟩ := h4 rfl
        simp only [h5, h6, Option.bind_some]
        rw [if_pos (by omega)]
        exact ih (done ++ [d]) (acc ++ [y]) _ (by rw [e]; simp) (by simp; omega) h7
  exact key xs [] [] env rfl (Nat.le_refl _) hj
/-- a comprehension without a test whose items leave the environment as it was -/
theorem ev_lcMapE {vs : List Nat} {it : SI} {g : SG} {f : SE} (hh : α → β) (h : EvI (it c env) fun ds e => calmE e vs = true ∧ ∃ ew, wipeE e vs = ew ∧ ∃ xs : List α, ds = xs.map e0 ∧ xs.length ≤ sizeLine ∧ (∀ x ∈ xs, ∃ a1, g (e0 x) ew = some a1 ∧ EvE (f c a1) fun v a3 => ∃ a4, take a3 v = some (e1 (hh x), a4) ∧ wipeE a4 vs = ew) ∧ ∃ a3, restE e ew vs = a3 ∧ Q (.fr (.lst ((xs.map hh).map e1))) a3) : EvE (eLC vs it g eYes f c env) Q := by
  obtain ⟨ds, e, h1, h2, ew, h3, xs, rfl, h4, h5, a3, h6, q⟩ := h
  refine ev_lc ⟨_, e, h1, h2, ew, h3, ?_⟩
  obtain ⟨ys, e', k1, rfl, rfl⟩ := lc_genE e0 (env := ew) (g := g) (t := eYes c) (f := f c) (vs := vs) (xs := xs) (fun done acc e => e = ew ∧ acc = (done.map hh).map e1) h4 ⟨rfl, rfl⟩ (by
    rintro done x rest acc e hx ⟨rfl, rfl⟩
    obtain ⟨a1, h7, v, a3, h8, a4, h9, h10⟩ := h5 x (by rw [hx]; simp)
    exact ⟨a1, h7, _, _, rfl, true, rfl, (fun z => nomatch z), fun _ => ⟨v, a3, h8, _, a4, h9, h10, by simp⟩⟩)
  exact ⟨_, _, k1, a3, h6, q⟩
/-- .. with a test -/
theorem ev_lcFilE {vs : List Nat} {it : SI} {g : SG} {t f : SE} (ok : α → Bool) (hh : α → β) (h : EvI (it c env) fun ds e => calmE e vs = true ∧ ∃ ew, wipeE e vs = ew ∧ ∃ xs : List α, ds = xs.map e0 ∧ xs.length ≤ sizeLine ∧ (∀ x ∈ xs, ∃ a1, g (e0 x) ew = some a1 ∧ EvE (t c a1) fun v a2 => v = .sh (.bl (ok x)) ∧ wipeE a2 vs = ew ∧ (ok x = true → EvE (f c a2) fun v a3 => ∃ a4, take a3 v = some (e1 (hh x), a4) ∧ wipeE a4 vs = ew)) ∧ ∃ a3, restE e ew vs = a3 ∧ Q (.fr (.lst (((xs.filter ok).map hh).map e1))) a3) : EvE (eLC vs it g t f c env) Q := by
  obtain ⟨ds, e, h1, h2, ew, h3, xs, rfl, h4, h5, a3, h6, q⟩ := h
  refine ev_lc ⟨_, e, h1, h2, ew, h3, ?_⟩
  obtain ⟨ys, e', k1, rfl, rfl⟩ := lc_genE e0 (env := ew) (g := g) (t := t c) (f := f c) (vs := vs) (xs := xs) (fun done acc e => e = ew ∧ acc = ((done.filter ok).map hh).map e1) h4 ⟨rfl, rfl⟩ (by
    rintro done x rest acc e hx ⟨rfl, rfl⟩
    obtain ⟨a1, h7, v, a2, h8, rfl, h9, h10⟩ := h5 x (by rw [hx]; simp)
    refine ⟨a1, h7, _, _, h8, ok x, rfl, fun z => ⟨h9, by rw [List.filter_append, List.filter_cons_of_neg (by simp [z])]; simp⟩, fun z => ?_⟩
    obtain ⟨v, a3, h11, a4, h12, h13⟩ := h10 z
    exact ⟨v, a3, h11, _, a4, h12, h13, by rw [List.filter_append, List.filter_cons_of_pos z]; simp⟩)
  exact ⟨_, _, k1, a3, h6, q⟩
/-- a loop by its invariant over the part that is done -/
theorem ev_loopE {g : SG} {f : Env → Option SO} {xs : List α} (J : List α → Env → Prop) (hj : J [] env)
    (ht : ∀ done x rest e, xs = done ++ x :: rest → J done e → ∃ a1, g (e0 x) e = some a1 ∧ EvS (f a1) (J (done ++ [x])) R N (J (done ++ [x])) X) (q : ∀ e, J xs e → N e) : EvS (forL g f (xs.map e0) env) N R B C X := by
  have key : ∀ (rest done : List α) (env : Env), xs = done ++ rest → J done env → EvS (forL g f (rest.map e0) env) N R B C X := by
    intro rest
    induction rest with
    | nil =>
      intro done env e hj
      rw [List.append_nil] at e
      subst e
      exact ⟨_, rfl, q env hj⟩
    | cons d rest ih =>
      intro done env e hj
      obtain ⟨a1, h1, o, h2, h3⟩ := ht done d rest env e hj
      rw [List.map_cons]
      unfold forL
      rw [h1]
      simp only [Option.bind_some, h2]
      cases o with
      | nx e' => exact ih (done ++ [d]) e' (by rw [e]; simp) h3
      | ct e' => exact ih (done ++ [d]) e' (by rw [e]; simp) h3
      | ret r e' => exact ⟨_, rfl, h3⟩
      | brk e' => exact ⟨_, rfl, h3⟩
      | exc x e' => exact ⟨_, rfl, h3⟩
  exact key xs [] env rfl hj
end
end
end Pd
/-! P7: running what may raise -/
namespace Pd
open PySem PySem.Spec L2
section
variable {c : CT} {env : Env} {Q : Val → Env → Prop} {N B C : Env → Prop} {R : RV → Env → Prop} {X : Exc → Env → Prop}
def EvX (x : Option EO) (Q : Val → Env → Prop) (X : Exc → Env → Prop) : Prop := ∃ o, x = some o ∧ match o with
  | .val v e => Q v e
  | .exc z e => X z e
theorem EvE.x {x : Option EO} (h : EvE x Q) : EvX x Q X := by
  obtain ⟨v, e, h1, h2⟩ := h
  exact ⟨_, h1, h2⟩
theorem ev_callX {p : Str × Option Str} {fs : SA} {g : List Arg → Option CRes} (hg : c p = some g) (h : EvA (fs c env) fun vs e1 => ∃ ds e2, takes e1 vs = some (ds, e2) ∧ ((∃ r outs, g (ds.map .sh) = some (.ret r outs) ∧ Q r.val e2) ∨ ∃ z outs, g (ds.map .sh) = some (.exc z outs) ∧ X z e2)) : EvX (eCall p fs c env) Q X := by
  obtain ⟨vs, e1, h1, ds, e2, h2, ⟨r, outs, h3, q⟩ | ⟨z, outs, h3, q⟩⟩ := h
  · exact ⟨.val r.val e2, by simp only [eCall, bindA, h1, h2, hg, h3, resOf, Option.bind_some, Option.map_some], q⟩
  · exact ⟨.exc z e2, by simp only [eCall, bindA, h1, h2, hg, h3, resOf, Option.bind_some, Option.map_some], q⟩
/-- a call some of whose arguments are lent, that raises -/
def CallX (g : List Arg → Option CRes) (env : Env) (vs : List Val) (fl : List Bool) (X : Exc → Env → Prop) : Prop :=
  ∃ ms e2, itemsF env vs fl = some (ms, e2) ∧ nodupB (ms.filterMap Im.ix) = true ∧ ∃ as, argsF e2 ms = some as ∧ ∃ z outs, g as = some (.exc z outs) ∧ ∃ w, outF ms as outs = some w ∧ ∃ e3, putN w 0 e2 = e3 ∧ X z e3
theorem callX_exc {g : List Arg → Option CRes} {vs : List Val} {fl : List Bool} (h : CallX g env vs fl X) : ∃ z e, callF g env vs fl = some (.exc z e) ∧ X z e := by
  obtain ⟨ms, e2, h1, h2, as, h3, z, outs, h4, w, h5, _, rfl, q⟩ := h
  exact ⟨_, _, by simp only [callF, h1, h2, h3, h4, h5, resOf, Option.bind_some, Option.map_some, if_true], q⟩
theorem callX_sh {g : List Arg → Option CRes} {ds : List D} {fl : List Bool} {z : Exc} {outs : List (Option Cell)} (h : g (ds.map .sh) = some (.exc z outs)) (q : X z env) : CallX g env (ds.map Val.sh) fl X :=
  ⟨_, _, itemsF_sh ds fl, by
    have e : (ds.map Im.giv).filterMap Im.ix = [] := by
      induction ds with
      | nil => rfl
      | cons d ds ih => exact List.filterMap_eq_nil_iff.mpr fun a ha => by obtain ⟨d, _, rfl⟩ := List.mem_map.mp ha; rfl
    rw [e]; rfl, _, argsF_sh ds, z, outs, h, _, outF_sh ds outs, _, putN_nil env 0, q⟩
/-- an object's __init__ raises -/
def MakeX (C : Str) (g : List Arg → Option CRes) (env : Env) (vs : List Val) (fl : List Bool) (X : Exc → Env → Prop) : Prop :=
  ∃ ms e2, itemsF env vs fl = some (ms, e2) ∧ nodupB (ms.filterMap Im.ix) = true ∧ ∃ as, argsF e2 ms = some as ∧ ∃ z o outs, g (.brw (.ins C []) :: as) = some (.exc z (o :: outs)) ∧ ∃ w, outF ms as outs = some w ∧ ∃ e3, putN w 0 e2 = e3 ∧ X z e3
theorem ev_setX {i : Nat} {f : SE} (h : EvX (f c env) (fun v e => ∃ e', setV e i v = some e' ∧ N e') X) : EvS (sSet i f c env) N R B C X := by
  obtain ⟨o, h1, h2⟩ := h
  cases o with
  | val v e =>
    obtain ⟨e', h2, q⟩ := h2
    exact ⟨.nx e', by simp only [sSet, bindS, h1, h2, Option.map_some], q⟩
  | exc z e => exact ⟨.exc z e, by simp only [sSet, bindS, h1], h2⟩
theorem ev_exprX {f : SE} (h : EvX (f c env) (fun _ e => N e) X) : EvS (sExpr f c env) N R B C X := by
  obtain ⟨o, h1, q⟩ := h
  cases o with
  | val v e => exact ⟨.nx e, by simp only [sExpr, bindS, h1], q⟩
  | exc z e => exact ⟨.exc z e, by simp only [sExpr, bindS, h1], q⟩
theorem ev_retX {f : SE} (h : EvX (f c env) (fun v e => ∃ r e', retV e v = some (r, e') ∧ R r e') X) : EvS (sRet f c env) N R B C X := by
  obtain ⟨o, h1, q⟩ := h
  cases o with
  | val v e =>
    obtain ⟨r, e', h2, q⟩ := q
    exact ⟨.ret r e', by simp only [sRet, bindS, h1, h2, Option.map_some], q⟩
  | exc z e => exact ⟨.exc z e, by simp only [sRet, bindS, h1], q⟩
theorem ev_raiseF {K f : Str} {fe : SE} (h : EvE (fe c env) fun v e => ∃ d e1, take e v = some (d, e1) ∧ X ⟨K, [(f, d)]⟩ e1) : EvS (sRaiseF K f fe c env) N R B C X := by
  obtain ⟨v, e, h1, d, e1, h2, q⟩ := h
  exact ⟨.exc ⟨K, [(f, d)]⟩ e1, by simp only [sRaiseF, bindS, h1, h2, Option.map_some], q⟩
theorem ev_try {xt : XT} {f : SS} {l : List ClS} (h : EvS (f c env) N R B C (fun x e => noWhy e = true ∧ EvS (catchL xt c l x e) N R B C X)) : EvS (sTry xt f l c env) N R B C X := by
  obtain ⟨o, h1, q⟩ := h
  cases o with
  | exc z e =>
    obtain ⟨h2, o, h3, h4⟩ := q
    exact ⟨o, by simp only [sTry, h1, if_pos h2, h3], h4⟩
  | nx e => exact ⟨.nx e, by simp only [sTry, h1], q⟩
  | brk e => exact ⟨.brk e, by simp only [sTry, h1], q⟩
  | ct e => exact ⟨.ct e, by simp only [sTry, h1], q⟩
  | ret r e => exact ⟨.ret r e, by simp only [sTry, h1], q⟩
/-- the end of a suite -/
def Gone (i : Nat) (N : Env → Prop) (e : Env) : Prop := ∃ e', e.set i none = e' ∧ noWhy e' = true ∧ N e'
theorem ev_catch_yes {xt : XT} {x : Exc} {cn : Str} {i : Nat} {f : SS} {l : List ClS} {e1 : Env} (h1 : subX xt x.cls cn = some true) (h2 : env[i]? = some none) (h3 : env.set i (some (.why x)) = e1) (h : EvS (f c e1) (Gone i N) (fun r => Gone i (R r)) (Gone i B) (Gone i C) (fun _ _ => False)) :
    EvS (catchL xt c ((cn, i, f) :: l) x env) N R B C X := by
  subst h3
  obtain ⟨o, h4, q⟩ := h
  cases o with
  | exc z e => exact q.elim
  | nx e =>
    obtain ⟨_, rfl, n, q⟩ := q
    exact ⟨.nx _, by simp only [catchL, h1, h2, h4, Option.bind_some, endSu, if_pos n], q⟩
  | brk e =>
    obtain ⟨_, rfl, n, q⟩ := q
    exact ⟨.brk _, by simp only [catchL, h1, h2, h4, Option.bind_some, endSu, if_pos n], q⟩
  | ct e =>
    obtain ⟨_, rfl, n, q⟩ := q
    exact ⟨.ct _, by simp only [catchL, h1, h2, h4, Option.bind_some, endSu, if_pos n], q⟩
  | ret r e =>
    obtain ⟨_, rfl, n, q⟩ := q
    exact ⟨.ret r _, by simp only [catchL, h1, h2, h4, Option.bind_some, endSu, if_pos n], q⟩
theorem ev_isW {xt : XT} {x : Exc} {i : Nat} {ns : List CN} {k : Bool} (hi : env[i]? = some (some (.why x))) (hk : anyX xt x.cls ns = some k) (q : Q (.sh (.bl k)) env) : EvE (eIsW xt i ns c env) Q :=
  ⟨_, _, by simp only [eIsW, hi, hk, Option.map_some], q⟩
theorem ev_whyF {xt : XT} {xf : List (Str × Str)} {x : Exc} {i : Nat} {f : Str} {d : D} (hi : env[i]? = some (some (.why x))) (h1 : (xt.lookup x.cls).isSome = true ∧ (x.cls, f) ∈ xf) (h2 : x.fs.lookup f = some d) (q : Q (.sh d) env) : EvE (eWhyF xt xf i f c env) Q :=
  ⟨_, _, by simp only [eWhyF, hi, if_pos h1, h2, Option.map_some], q⟩
end
end Pd
/-! P8: class methods, hot calls -/
namespace Pd
open PySem PySem.Spec L2
section
variable {c : CT} {env : Env} {Q : Val → Env → Prop}
theorem ev_with {hc : CT} {f : SE} (h : EvE (f hc env) Q) : EvE (eWith hc f c env) Q := h
end
end Pd
/-! P9: own operators, star calls -/
namespace Pd
open PySem PySem.Spec L2
section
variable {c : CT} {env : Env} {Q : Val → Env → Prop}
end
end Pd
/-! P10: makings and own operators that raise -/
namespace Pd
open PySem PySem.Spec L2
section
variable {c : CT} {env : Env} {Q : Val → Env → Prop} {X : Exc → Env → Prop}
theorem ev_makeX {C' : Str} {fl : List Bool} {fs : SA} {g : List Arg → Option CRes} (hg : c (C', some "__init__") = some g) (h : EvA (fs c env) fun vs e1 => MakeX C' g e1 vs fl X) : EvX (eMake C' fl fs c env) Q X := by
  obtain ⟨vs, e1, h1, ms, e2, h2, h3, as, h4, z, o, outs, h5, w, h6, _, rfl, q⟩ := h
  exact ⟨.exc z _, by simp only [eMake, makeF, bindA, h1, hg, h2, h3, h4, h5, h6, Option.bind_some, Option.map_some, if_true], q⟩
end
end Pd
/-! P11: lending with objects in the value, own lists of objects, makers with defaults, own __setitem__: rules for printed walks -/
namespace Pd
open PySem PySem.Spec L2
section
variable {c : CT} {env : Env} {Q : Val → Env → Prop}
variable {N : Env → Prop} {R : RV → Env → Prop} {B C' : Env → Prop} {X : Exc → Env → Prop}
end
end Pd
/-! P12: a loop over a list of one's own, x[k] += n -/
namespace Pd
open PySem PySem.Spec L2
variable {c : CT} {env : Env} {N B C : Env → Prop} {R : RV → Env → Prop} {X : Exc → Env → Prop}
end Pd
/-! P13: list(o) -/
namespace Pd
open PySem PySem.Spec L2
variable {c : CT} {env : Env}
end Pd
/-! P14: o(x, ..) -/
namespace Pd
open PySem PySem.Spec L2
variable {c : CT} {env : Env}
end Pd
/-! P15: o.f += n -/
namespace Pd
open PySem PySem.Spec L2
section
variable {c : CT} {env : Env} {N B C : Env → Prop} {R : RV → Env → Prop} {X : Exc → Env → Prop}
end
end Pd
namespace Pd.L
open PySem PySem.Spec L2
/-- _law_same, called in an except suite -/
def bh_law_same : SS := (sSeq (sIf (eOr (eUn (isB "bool") (eVar 0)) (eUn (isB "bool") (eVar 1))) (sRet (eAnd (eUn (isB "bool") (eVar 0)) (eAnd (eUn (isB "bool") (eVar 1)) (eBin eqX (eVar 0) (eVar 1))))) sNil) (sSeq (sIf (eOr (eUn (isB "int") (eVar 0)) (eUn (isB "int") (eVar 1))) (sRet (eAnd (eUn (isB "int") (eVar 0)) (eAnd (eUn (isB "int") (eVar 1)) (eBin eqX (eVar 0) (eVar 1))))) sNil) (sSeq (sIf (eOr (eUn (isB "str") (eVar 0)) (eUn (isB "str") (eVar 1))) (sRet (eAnd (eUn (isB "str") (eVar 0)) (eAnd (eUn (isB "str") (eVar 1)) (eBin eqX (eVar 0) (eVar 1))))) sNil) (sSeq (sIf (eOr (eBin isND (eVar 0) (eC .non)) (eBin isND (eVar 1) (eC .non))) (sRet (eAnd (eBin isND (eVar 0) (eC .non)) (eBin isND (eVar 1) (eC .non)))) sNil) (sSeq (sIf (eOr (eBin neX (eUn (isB "tuple") (eVar 0)) (eUn (isB "tuple") (eVar 1))) (eBin neX (eUn (isB "list") (eVar 0)) (eUn (isB "list") (eVar 1)))) (sRet (eC (.bl false))) sNil) (sSeq (sIf (eOr (eNot (eUn (isM cl [.ty "list", .ty "tuple"]) (eVar 0))) (eBin neX (eArg lenD (aCons (eVar 0) aNil)) (eArg lenD (aCons (eVar 1) aNil)))) (sRet (eC (.bl false))) sNil) (sSeq sNever (sRet (eC (.bl true))))))))))
noncomputable def hc : CT := CT.nil.add ("_law_same", none) (runDef 3 2 bh_law_same CT.nil)
/-- merged -/
noncomputable def b_merged : SS := (sSeq (sSet 2 (eList aNil)) (sSeq (sSet 3 (eC (.int 0))) (sSeq (sFor (itSeq (eVar 0)) (gNm 4) (sSeq (sWhile (eAnd (eBin ltX (eVar 3) (eArg lenD (aCons (eVar 1) aNil))) (eBin ltX (eBin ixD (eVar 1) (eVar 3)) (eVar 4))) (sSeq (sExpr (eLm appendG 2 (aCons (eBin ixD (eVar 1) (eVar 3)) aNil))) (sSet 3 (eBin addD (eVar 3) (eC (.int 1)))))) (sExpr (eLm appendG 2 (aCons (eVar 4) aNil))))) (sRet (eBin addD (eVar 2) (eSl sliceD (eVar 1) (some (eVar 3)) none))))))
/-- ascending -/
noncomputable def b_ascending : SS := (sSeq (sSet 1 (eLCN [5] 0 (gNm 5) eYes (eList (aCons (eVar 5) aNil)))) (sSeq (sWhile (eBin gtD (eArg lenD (aCons (eVar 1) aNil)) (eC (.int 1))) (sSeq (sSet 2 (eLC [6] (itRange3 (aCons (eC (.int 0)) (aCons (eBin subD (eArg lenD (aCons (eVar 1) aNil)) (eC (.int 1))) (aCons (eC (.int 2)) aNil)))) (gNm 6) eYes (eCall ("merged", none) (aCons (eBin ixD (eVar 1) (eVar 6)) (aCons (eBin ixD (eVar 1) (eBin addD (eVar 6) (eC (.int 1)))) aNil))))) (sSeq (sIf (eBin eqX (eBin modD (eArg lenD (aCons (eVar 1) aNil)) (eC (.int 2))) (eC (.int 1))) (sExpr (eLm appendG 2 (aCons (eBin ixD (eVar 1) (eUn negD (eC (.int 1)))) aNil))) sNil) (sSet 1 (eVar 2))))) (sSeq (sSet 3 (eList aNil)) (sSeq (sFor (itSeq (eVar 1)) (gNm 4) (sFor (itSeq (eVar 4)) (gNm 5) (sIf (eOr (eBin eqX (eArg lenD (aCons (eVar 3) aNil)) (eC (.int 0))) (eBin neX (eBin ixD (eVar 3) (eUn negD (eC (.int 1)))) (eVar 5))) (sExpr (eLm appendG 3 (aCons (eVar 5) aNil))) sNil))) (sRet (eVar 3))))))
/-- is_integer -/
def b_is_integer : SS := (sRet (eAnd (eUn (isB "int") (eVar 0)) (eAnd (eNot (eUn (isB "bool") (eVar 0))) (eChain leD leD (eVar 1) (eVar 0) (eVar 2)))))
/-- is_word -/
def b_is_word : SS := (sSeq (sIf (eNot (eChain leD leD (eC (.int 1)) (eArg lenD (aCons (eVar 0) aNil)) (eC (.int 20)))) (sRet (eC (.bl false))) sNil) (sSeq (sFor (itSeq (eVar 0)) (gNm 1) (sIf (eBin ninX (eVar 1) (eC (.str "ABCDEFGHIJKLMNOPQRSTUVWXYZabcdefghijklmnopqrstuvwxyz0123456789_"))) (sRet (eC (.bl false))) sNil)) (sRet (eC (.bl true)))))
/-- Schema.__init__ -/
def b_Schema_init : SS := (sSeq (sIf (eBin gtD (eArg lenD (aCons (eVar 1) aNil)) (eC (.int 8))) (sRaiseF "TooLarge" "most" (eC (.int 8))) sNil) (sSeq (sSet 2 eDic) (sSeq (sForN 1 (gTp 2 (gsCons (gNm 3) (gsCons (gNm 4) gsNil))) (sSeq (sIf (eNot (eCall ("is_word", none) (aCons (eVar 3) aNil))) (sRaiseF "BadWord" "word" (eVar 3)) sNil) (sSeq (sIf (eNot (eCall ("is_integer", none) (aCons (eVar 4) (aCons (eC (.int 1)) (aCons (eC (.int 4)) aNil))))) (sRaiseF "BadWidth" "table" (eVar 3)) sNil) (sSeq (sIf (eBin inX (eVar 3) (eVar 2)) (sRaiseF "DuplicateTable" "table" (eVar 3)) sNil) (sPut 2 (eVar 3) (eVar 4)))))) (sSeq (sFldO 0 ["Schema"] "names" (eArg tupleD (aCons (eCallF ("ascending", none) [true] (aCons (eArg listX (aCons (eVar 2) aNil)) aNil)) aNil))) (sFldO 0 ["Schema"] "widths" (eVar 2))))))
/-- Schema.__getitem__ -/
def b_Schema_getitem : SS := (sSeq (sIf (eBin ninX (eVar 1) (eFld ["Schema"] "names" (eVar 0))) (sRaiseF "UnknownTable" "table" (eVar 1)) sNil) (sRet (eBin ixD (eFld ["Schema"] "widths" (eVar 0)) (eVar 1))))
/-- schema_of -/
def b_schema_of : SS := (sRet (eMake "Schema" [true] (aCons (eLC [1] (itDk (eVar 0)) (gNm 1) eYes (eTup (aCons (eVar 1) (aCons (eBin ixD (eDk (eVar 0)) (eVar 1)) aNil)))) aNil)))
/-- _law_start -/
def b_law_start : SS := (sRet (eList (aCons (eLC [1] (itSeq (eVar 0)) (gNm 1) eYes (eArg intD (aCons (eVar 1) aNil))) (aCons (eC (.int 0)) (aCons (eC (.int 0)) (aCons (eC (.int 0)) (aCons (eC (.int 0)) aNil)))))))
/-- _law_draw -/
def b_law_draw : SS := (sSeq (sIf (eBin ltX (eVar 1) (eC (.int 2))) (sRet (eC (.int 0))) sNil) (sSeq (sIf (eBin eqX (eBin ixD (eVar 0) (eC (.int 3))) (eC (.int 0))) (sSeq (sIf (eBin geD (eBin ixD (eVar 0) (eC (.int 1))) (eArg lenD (aCons (eBin ixD (eVar 0) (eC (.int 0))) aNil))) (sRet (eC (.int 0))) sNil) (sSeq (sSet 2 (eArg intD (aCons (eBin ixD (eBin ixD (eVar 0) (eC (.int 0))) (eBin ixD (eVar 0) (eC (.int 1)))) aNil))) (sSeq (sIf (eBin ltX (eVar 2) (eC (.int 0))) (sSet 2 (eBin subD (eC (.int 0)) (eVar 2))) sNil) (sSeq (sPut 0 (eC (.int 1)) (eBin addD (eBin ixD (eVar 0) (eC (.int 1))) (eC (.int 1)))) (sSeq (sPut 0 (eC (.int 2)) (eVar 2)) (sSeq (sPut 0 (eC (.int 3)) (eC (.int 3))) (sSeq (sPut 0 (eC (.int 4)) (eC (.int 0))) (sIf (eBin geD (eVar 2) (eBin powD (eC (.int 10)) (eC (.int 18)))) (sSeq (sPut 0 (eC (.int 3)) (eC (.int 60))) (sPut 0 (eC (.int 4)) (eC (.int 1)))) sNil)))))))) sNil) (sSeq (sPut 0 (eC (.int 3)) (eBin subD (eBin ixD (eVar 0) (eC (.int 3))) (eC (.int 1)))) (sSeq (sIf (eBin eqX (eBin ixD (eVar 0) (eC (.int 4))) (eC (.int 1))) (sSeq (sSet 3 (eBin modD (eArg intD (aCons (eBin ixD (eVar 0) (eC (.int 2))) aNil)) (eVar 1))) (sSeq (sPut 0 (eC (.int 2)) (eBin fdivD (eArg intD (aCons (eBin ixD (eVar 0) (eC (.int 2))) aNil)) (eVar 1))) (sSeq (sIf (eBin eqX (eBin ixD (eVar 0) (eC (.int 2))) (eC (.int 0))) (sPut 0 (eC (.int 3)) (eC (.int 0))) sNil) (sRet (eVar 3))))) sNil) (sSeq (sSet 4 (eBin modD (eArg intD (aCons (eBin addD (eBin addD (eBin mulD (eBin ixD (eVar 0) (eC (.int 2))) (eC (.int 48271))) (eBin mulD (eBin ixD (eVar 0) (eC (.int 3))) (eC (.int 69621)))) (eC (.int 7919))) aNil)) (eC (.int 2147483647)))) (sRet (eBin modD (eArg intD (aCons (eBin modD (eArg intD (aCons (eBin addD (eBin addD (eBin mulD (eVar 4) (eC (.int 16807))) (eBin mulD (eBin ixD (eVar 0) (eC (.int 3))) (eC (.int 10133)))) (eC (.int 104729))) aNil)) (eC (.int 2147483629))) aNil)) (eVar 1))))))))
/-- _law_is_int -/
def b_law_is_int : SS := (sRet (eAnd (eUn (isB "int") (eVar 0)) (eNot (eUn (isB "bool") (eVar 0)))))
/-- _law_same -/
def b_law_same : SS := (sSeq (sIf (eOr (eUn (isB "bool") (eVar 0)) (eUn (isB "bool") (eVar 1))) (sRet (eAnd (eUn (isB "bool") (eVar 0)) (eAnd (eUn (isB "bool") (eVar 1)) (eBin eqX (eVar 0) (eVar 1))))) sNil) (sSeq (sIf (eOr (eUn (isB "int") (eVar 0)) (eUn (isB "int") (eVar 1))) (sRet (eAnd (eUn (isB "int") (eVar 0)) (eAnd (eUn (isB "int") (eVar 1)) (eBin eqX (eVar 0) (eVar 1))))) sNil) (sSeq (sIf (eOr (eUn (isB "str") (eVar 0)) (eUn (isB "str") (eVar 1))) (sRet (eAnd (eUn (isB "str") (eVar 0)) (eAnd (eUn (isB "str") (eVar 1)) (eBin eqX (eVar 0) (eVar 1))))) sNil) (sSeq (sIf (eOr (eBin isND (eVar 0) (eC .non)) (eBin isND (eVar 1) (eC .non))) (sRet (eAnd (eBin isND (eVar 0) (eC .non)) (eBin isND (eVar 1) (eC .non)))) sNil) (sSeq (sIf (eOr (eBin neX (eUn (isB "tuple") (eVar 0)) (eUn (isB "tuple") (eVar 1))) (eBin neX (eUn (isB "list") (eVar 0)) (eUn (isB "list") (eVar 1)))) (sRet (eC (.bl false))) sNil) (sSeq (sIf (eOr (eNot (eUn (isM cl [.ty "list", .ty "tuple"]) (eVar 0))) (eBin neX (eArg lenD (aCons (eVar 0) aNil)) (eArg lenD (aCons (eVar 1) aNil)))) (sRet (eC (.bl false))) sNil) (sSeq (sFor (itRange1 (aCons (eArg lenD (aCons (eVar 1) aNil)) aNil)) (gNm 2) (sIf (eNot (eCallF ("_law_same", none) [true, true] (aCons (eBin ixD (eVar 0) (eVar 2)) (aCons (eBin ixD (eVar 1) (eVar 2)) aNil)))) (sRet (eC (.bl false))) sNil)) (sRet (eC (.bl true))))))))))
/-- _law_word -/
def b_law_word : SS := (sSeq (sSet 1 (eC (.str "abcdefghijklmnopqrstuvwxyzABCDEFGHIJKLMNOPQRSTUVWXYZ0123456789_"))) (sSeq (sSet 2 (eBin addD (eC (.int 1)) (eCallB ("_law_draw", none) (aCons (eVar 0) (aCons (eC (.int 3)) aNil))))) (sSeq (sIf (eBin eqX (eCallB ("_law_draw", none) (aCons (eVar 0) (aCons (eC (.int 5)) aNil))) (eC (.int 4))) (sSet 2 (eBin addD (eC (.int 1)) (eCallB ("_law_draw", none) (aCons (eVar 0) (aCons (eC (.int 20)) aNil))))) sNil) (sRet (eStrM joinD (eC (.str "")) (eLC [3] (itRange1 (aCons (eVar 2) aNil)) (gNm 3) eYes (eBin ixD (eVar 1) (eCallB ("_law_draw", none) (aCons (eVar 0) (aCons (eC (.int 63)) aNil))))))))))
/-- _law_pool -/
def b_law_pool : SS := (sSeq (sSet 2 (eList aNil)) (sSeq (sFor (itRange1 (aCons (eVar 1) aNil)) (gNm 3) (sSeq (sSet 4 (eCallB ("_law_word", none) (aCons (eVar 0) aNil))) (sSeq (sSet 5 (eCallB ("_law_draw", none) (aCons (eVar 0) (aCons (eC (.int 2)) aNil)))) (sSeq (sSet 6 (eVar 4)) (sSeq (sFor (itSeq (eC (.str "abcdefghijkl"))) (gNm 7) (sIf (eBin inX (eVar 6) (eVar 2)) (sSeq (sSet 6 (eBin addD (eVar 7) (eSl sliceD (eVar 4) none (some (eC (.int 19)))))) (sIf (eBin eqX (eVar 5) (eC (.int 1))) (sSet 6 (eBin addD (eSl sliceD (eVar 4) none (some (eC (.int 19)))) (eVar 7))) sNil)) sNil)) (sExpr (eLm appendG 2 (aCons (eVar 6) aNil)))))))) (sRet (eVar 2))))
/-- _law_bad_word -/
def b_law_bad_word : SS := (sSeq (sSet 1 (eC (.str " !\"#$&'()*+,-./:;<=>?\x40[\\]^`{|}~\n"))) (sSeq (sSet 2 (eCallB ("_law_draw", none) (aCons (eVar 0) (aCons (eC (.int 4)) aNil)))) (sSeq (sSet 3 (eCallB ("_law_word", none) (aCons (eVar 0) aNil))) (sSeq (sIf (eBin eqX (eVar 2) (eC (.int 0))) (sRet (eC (.str ""))) sNil) (sSeq (sIf (eBin eqX (eVar 2) (eC (.int 1))) (sRet (eSl sliceD (eBin addD (eVar 3) (eC (.str "abcdefghijklmnopqrstu"))) none (some (eC (.int 21))))) sNil) (sSeq (sSet 4 (eCallB ("_law_draw", none) (aCons (eVar 0) (aCons (eBin addD (eArg lenD (aCons (eVar 3) aNil)) (eC (.int 1))) aNil)))) (sRet (eBin addD (eBin addD (eSl sliceD (eVar 3) none (some (eVar 4))) (eBin ixD (eVar 1) (eCallB ("_law_draw", none) (aCons (eVar 0) (aCons (eC (.int 32)) aNil))))) (eSl sliceD (eVar 3) (some (eVar 4)) none)))))))))
/-- _law_bad_width -/
def b_law_bad_width : SS := (sSeq (sSet 1 (eBin addD (eC (.int 6)) (eCallB ("_law_draw", none) (aCons (eVar 0) (aCons (eC (.int 1000)) aNil))))) (sRet (eBin ixD (eList (aCons (eC (.int 0)) (aCons (eC (.int 5)) (aCons (eUn negD (eC (.int 1))) (aCons (eC (.bl true)) (aCons (eC (.bl false)) (aCons (eBin powD (eC (.int 10)) (eC (.int 30))) (aCons (eBin subD (eC (.int 0)) (eBin powD (eC (.int 10)) (eC (.int 30)))) (aCons (eVar 1) aNil))))))))) (eCallB ("_law_draw", none) (aCons (eVar 0) (aCons (eC (.int 8)) aNil))))))
/-- _law_spoilt -/
def b_law_spoilt : SS := (sSeq (sSet 3 (eCallB ("_law_draw", none) (aCons (eVar 0) (aCons (eC (.int 3)) aNil)))) (sSeq (sIf (eBin eqX (eVar 3) (eC (.int 0))) (sRet (eTup (aCons (eCallB ("_law_bad_word", none) (aCons (eVar 0) aNil)) (aCons (eBin ixD (eVar 2) (eC (.int 1))) aNil)))) sNil) (sSeq (sIf (eBin eqX (eVar 3) (eC (.int 1))) (sRet (eTup (aCons (eBin ixD (eVar 2) (eC (.int 0))) (aCons (eCallB ("_law_bad_width", none) (aCons (eVar 0) aNil)) aNil)))) sNil) (sRet (eTup (aCons (eBin ixD (eVar 1) (eCallB ("_law_draw", none) (aCons (eVar 0) (aCons (eArg lenD (aCons (eVar 1) aNil)) aNil)))) (aCons (eBin ixD (eVar 2) (eC (.int 1))) aNil)))))))
/-- _law_is_word -/
def b_law_is_word : SS := (sSeq (sSet 1 (eC (.str "abcdefghijklmnopqrstuvwxyzABCDEFGHIJKLMNOPQRSTUVWXYZ0123456789_"))) (sSeq (sIf (eOr (eBin ltX (eArg lenD (aCons (eVar 0) aNil)) (eC (.int 1))) (eBin gtD (eArg lenD (aCons (eVar 0) aNil)) (eC (.int 20)))) (sRet (eC (.bl false))) sNil) (sRet (eBin eqX (eArg lenD (aCons (eLC [2] (itSeq (eVar 0)) (gNm 2) (eBin ninX (eVar 2) (eVar 1)) (eVar 2)) aNil)) (eC (.int 0))))))
/-- _law_due -/
def b_law_due : SS := (sSeq (sIf (eBin gtD (eArg lenD (aCons (eVar 0) aNil)) (eC (.int 8))) (sRet (eTup (aCons (eC (.str "TooLarge")) (aCons (eC (.int 8)) aNil)))) sNil) (sSeq (sSet 1 (eList aNil)) (sSeq (sFor (itSeq (eVar 0)) (gNm 2) (sSeq (sIf (eNot (eCall ("_law_is_word", none) (aCons (eBin ixD (eVar 2) (eC (.int 0))) aNil))) (sRet (eTup (aCons (eC (.str "BadWord")) (aCons (eBin ixD (eVar 2) (eC (.int 0))) aNil)))) sNil) (sSeq (sIf (eOr (eNot (eCall ("_law_is_int", none) (aCons (eBin ixD (eVar 2) (eC (.int 1))) aNil))) (eOr (eBin ltX (eBin ixD (eVar 2) (eC (.int 1))) (eC (.int 1))) (eBin gtD (eBin ixD (eVar 2) (eC (.int 1))) (eC (.int 4))))) (sRet (eTup (aCons (eC (.str "BadWidth")) (aCons (eBin ixD (eVar 2) (eC (.int 0))) aNil)))) sNil) (sSeq (sIf (eBin inX (eBin ixD (eVar 2) (eC (.int 0))) (eVar 1)) (sRet (eTup (aCons (eC (.str "DuplicateTable")) (aCons (eBin ixD (eVar 2) (eC (.int 0))) aNil)))) sNil) (sExpr (eLm appendG 1 (aCons (eBin ixD (eVar 2) (eC (.int 0))) aNil))))))) (sRet (eC .non)))))
/-- _law_made -/
def b_law_made : SS := (sSeq (sIf (eBin eqX (eVar 0) (eC (.int 1))) (sRet (eCallK ("schema_of", none) ["teacher", "store", "cover"] (aCons (eC (.int 2)) (aCons (eVar 2) (aCons (eC (.int 0)) aNil))))) sNil) (sSeq (sIf (eBin eqX (eVar 0) (eC (.int 2))) (sRet (eCallK ("schema_of", none) ["store", "abcdefghijklmnopqrstu"] (aCons (eC (.int 1)) (aCons (eVar 2) aNil)))) sNil) (sSeq (sIf (eBin eqX (eVar 0) (eC (.int 3))) (sRet (eCallK ("schema_of", none) ["store", "query", "teacher", "learner", "ring", "link", "piece", "cover", "double"] (aCons (eC (.int 1)) (aCons (eC (.int 2)) (aCons (eC (.int 3)) (aCons (eC (.int 4)) (aCons (eC (.int 1)) (aCons (eC (.int 2)) (aCons (eC (.int 3)) (aCons (eC (.int 4)) (aCons (eVar 2) aNil))))))))))) sNil) (sSeq (sIf (eBin eqX (eVar 0) (eC (.int 4))) (sRet (eCallK ("schema_of", none) ["cover", "piece", "link", "ring", "learner", "teacher", "query", "store"] (aCons (eC (.int 1)) (aCons (eC (.int 2)) (aCons (eC (.int 3)) (aCons (eC (.int 4)) (aCons (eC (.int 1)) (aCons (eC (.int 2)) (aCons (eC (.int 3)) (aCons (eC (.int 4)) aNil)))))))))) sNil) (sRet (eMake "Schema" [true] (aCons (eVar 1) aNil)))))))
/-- _law_told -/
def b_law_told : SS := (sSeq (sSet 3 (eArg listX (aCons (eVar 1) aNil))) (sSeq (sSet 4 (eC .non)) (sSeq (sTry xt (sExpr (eCall ("_law_made", none) (aCons (eVar 0) (aCons (eVar 3) (aCons (eVar 2) aNil))))) [("PinError", 5, (sSeq (sSet 4 (eTup (aCons (eC (.str "other")) aNil))) (sSeq (sIf (eAnd (eIsW xt 5 [.own "TooLarge"]) (eAnd (eIsW xt 5 [.ty "ValueError"]) (eNot (eIsW xt 5 [.own "InputError"])))) (sSet 4 (eTup (aCons (eC (.str "TooLarge")) (aCons (eWhyF xt xf 5 "most") aNil)))) sNil) (sSeq (sIf (eAnd (eIsW xt 5 [.own "BadWord"]) (eAnd (eIsW xt 5 [.own "InputError"]) (eNot (eIsW xt 5 [.own "BadWidth", .own "DuplicateTable"])))) (sSet 4 (eTup (aCons (eC (.str "BadWord")) (aCons (eWhyF xt xf 5 "word") aNil)))) sNil) (sSeq (sIf (eAnd (eIsW xt 5 [.own "BadWidth"]) (eAnd (eIsW xt 5 [.own "InputError"]) (eNot (eIsW xt 5 [.own "BadWord", .own "DuplicateTable"])))) (sSet 4 (eTup (aCons (eC (.str "BadWidth")) (aCons (eWhyF xt xf 5 "table") aNil)))) sNil) (sIf (eAnd (eIsW xt 5 [.own "DuplicateTable"]) (eAnd (eIsW xt 5 [.own "InputError"]) (eNot (eIsW xt 5 [.own "UnknownTable"])))) (sSet 4 (eTup (aCons (eC (.str "DuplicateTable")) (aCons (eWhyF xt xf 5 "table") aNil)))) sNil))))))]) (sSeq (sIf (eNot (eCallF ("_law_same", none) [true, true] (aCons (eVar 3) (aCons (eArg listX (aCons (eVar 1) aNil)) aNil)))) (sRet (eTup (aCons (eC (.str "changed")) aNil))) sNil) (sRet (eVar 4))))))
/-- _law_strange -/
noncomputable def b_law_strange : SS := (sSeq (sSet 2 (eC (.bl false))) (sSeq (sTry xt (sSet 2 (eAnd (eBin isND (eIxO (eVar 0) (eVar 1)) (eC .non)) (eBin eqX (eVar 1) (eC (.str ""))))) [("UnknownTable", 3, (sSeq (sSet 2 (eAnd (eIsW xt 3 [.own "InputError"]) (eAnd (eIsW xt 3 [.own "PinError"]) (eIsW xt 3 [.ty "ValueError"])))) (sSet 2 (eAnd (eVar 2) (eAnd (eNot (eIsW xt 3 [.own "BadWord", .own "DuplicateTable"])) (eWith hc (eCall ("_law_same", none) (aCons (eWhyF xt xf 3 "table") (aCons (eVar 1) aNil)))))))))]) (sRet (eVar 2))))
/-- law -/
def b_law : SS := (sSeq (sSet 1 (eCall ("_law_start", none) (aCons (eVar 0) aNil))) (sSeq (sSet 2 (eCallB ("_law_draw", none) (aCons (eVar 1) (aCons (eC (.int 9)) aNil)))) (sSeq (sSet 3 (eCallB ("_law_draw", none) (aCons (eVar 1) (aCons (eC (.int 4)) aNil)))) (sSeq (sSet 4 (eCallB ("_law_draw", none) (aCons (eVar 1) (aCons (eC (.int 3)) aNil)))) (sSeq (sSet 5 (eCallB ("_law_bad_word", none) (aCons (eVar 1) aNil))) (sSeq (sSet 6 (eCallB ("_law_bad_width", none) (aCons (eVar 1) aNil))) (sSeq (sSet 7 (eCallB ("_law_pool", none) (aCons (eVar 1) (aCons (eBin addD (eVar 2) (eC (.int 3))) aNil)))) (sSeq (sSet 8 (eBin ixD (eVar 7) (eVar 2))) (sSeq (sSet 9 (eLC [23] (itSeq (eSl sliceD (eVar 7) none (some (eVar 2)))) (gNm 23) eYes (eTup (aCons (eVar 23) (aCons (eBin addD (eC (.int 1)) (eCallB ("_law_draw", none) (aCons (eVar 1) (aCons (eC (.int 4)) aNil)))) aNil))))) (sSeq (sSet 10 (eLC [23] (itSeq (eSl sliceD (eVar 7) (some (eBin addD (eVar 2) (eC (.int 1)))) none)) (gNm 23) eYes (eTup (aCons (eVar 23) (aCons (eBin addD (eC (.int 1)) (eCallB ("_law_draw", none) (aCons (eVar 1) (aCons (eC (.int 4)) aNil)))) aNil))))) (sSeq (sSet 11 (eBin addD (eVar 9) (eSl sliceD (eVar 10) none (some (eVar 4))))) (sSeq (sFor (itRange1 (aCons (eVar 3) aNil)) (gNm 12) (sIf (eBin gtD (eArg lenD (aCons (eVar 11) aNil)) (eC (.int 0))) (sSeq (sSet 13 (eCallB ("_law_draw", none) (aCons (eVar 1) (aCons (eArg lenD (aCons (eVar 11) aNil)) aNil)))) (sPut 11 (eVar 13) (eCallB ("_law_spoilt", none) (aCons (eVar 1) (aCons (eVar 7) (aCons (eBin ixD (eVar 11) (eVar 13)) aNil)))))) sNil)) (sSeq (sSet 14 (eSl sliceD (eVar 9) none (some (eC (.int 3))))) (sSeq (sSet 15 (eList (aCons (eVar 9) (aCons (eVar 11) (aCons (eBin addD (eVar 14) (eList (aCons (eTup (aCons (eVar 8) (aCons (eVar 6) aNil))) (aCons (eTup (aCons (eVar 5) (aCons (eC (.int 1)) aNil))) aNil)))) (aCons (eBin addD (eVar 14) (eList (aCons (eTup (aCons (eVar 5) (aCons (eVar 6) aNil))) (aCons (eTup (aCons (eVar 8) (aCons (eC (.int 1)) aNil))) aNil)))) aNil)))))) (sSeq (sSet 15 (eBin addD (eVar 15) (eList (aCons (eBin addD (eVar 14) (eList (aCons (eTup (aCons (eVar 8) (aCons (eC (.int 1)) aNil))) (aCons (eTup (aCons (eVar 8) (aCons (eVar 6) aNil))) aNil)))) (aCons (eBin addD (eBin addD (eList (aCons (eTup (aCons (eVar 8) (aCons (eC (.int 2)) aNil))) aNil)) (eVar 14)) (eList (aCons (eTup (aCons (eVar 8) (aCons (eC (.int 3)) aNil))) aNil))) (aCons (eBin addD (eVar 14) (eList (aCons (eTup (aCons (eVar 8) (aCons (eC (.bl true)) aNil))) aNil))) aNil)))))) (sSeq (sSet 16 (eLC [12] (itRange1 (aCons (eC (.int 9)) aNil)) (gNm 12) eYes (eTup (aCons (eBin addD (eC (.str "t")) (eArg strD (aCons (eVar 12) aNil))) (aCons (eBin addD (eC (.int 1)) (eBin modD (eArg intD (aCons (eVar 12) aNil)) (eC (.int 4)))) aNil))))) (sSeq (sSet 15 (eBin addD (eVar 15) (eList (aCons (eSl sliceD (eVar 16) none (some (eC (.int 8)))) (aCons (eVar 16) (aCons (eBin addD (eSl sliceD (eVar 16) none (some (eC (.int 8)))) (eList (aCons (eBin ixD (eVar 16) (eBin modD (eArg intD (aCons (eVar 2) aNil)) (eC (.int 8)))) aNil))) (aCons (eBin addD (eList (aCons (eTup (aCons (eVar 5) (aCons (eVar 6) aNil))) aNil)) (eSl sliceD (eVar 16) (some (eC (.int 1))) none)) (aCons (eVar 9) aNil)))))))) (sSeq (sFor (itSeq (eVar 15)) (gNm 17) (sIf (eNot (eCallF ("_law_same", none) [true, true] (aCons (eCall ("_law_told", none) (aCons (eC (.int 0)) (aCons (eVar 17) (aCons (eVar 6) aNil)))) (aCons (eCall ("_law_due", none) (aCons (eVar 17) aNil)) aNil)))) (sRet (eC (.bl false))) sNil)) (sSeq (sSet 18 (eLC [23] (itSeq (eList (aCons (eC (.str "store")) (aCons (eC (.str "query")) (aCons (eC (.str "teacher")) (aCons (eC (.str "learner")) (aCons (eC (.str "ring")) (aCons (eC (.str "link")) (aCons (eC (.str "piece")) (aCons (eC (.str "cover")) aNil)))))))))) (gNm 23) eYes (eTup (aCons (eVar 23) (aCons (eC (.int 1)) aNil))))) (sSeq (sSet 19 (eList (aCons (eList (aCons (eTup (aCons (eC (.str "teacher")) (aCons (eC (.int 2)) aNil))) (aCons (eTup (aCons (eC (.str "store")) (aCons (eVar 6) aNil))) (aCons (eTup (aCons (eC (.str "cover")) (aCons (eC (.int 0)) aNil))) aNil)))) (aCons (eList (aCons (eTup (aCons (eC (.str "store")) (aCons (eC (.int 1)) aNil))) (aCons (eTup (aCons (eC (.str "abcdefghijklmnopqrstu")) (aCons (eVar 6) aNil))) aNil))) aNil)))) (sSeq (sSet 19 (eBin addD (eVar 19) (eList (aCons (eBin addD (eVar 18) (eList (aCons (eTup (aCons (eC (.str "double")) (aCons (eVar 6) aNil))) aNil))) (aCons (eVar 18) aNil))))) (sSeq (sFor (itRange1 (aCons (eC (.int 4)) aNil)) (gNm 12) (sIf (eNot (eCallF ("_law_same", none) [true, true] (aCons (eCall ("_law_told", none) (aCons (eBin addD (eC (.int 1)) (eVar 12)) (aCons (eBin ixD (eVar 19) (eVar 12)) (aCons (eVar 6) aNil)))) (aCons (eCall ("_law_due", none) (aCons (eBin ixD (eVar 19) (eVar 12)) aNil)) aNil)))) (sRet (eC (.bl false))) sNil)) (sSeq (sSet 20 (eMake "Schema" [true] (aCons (eArg listX (aCons (eVar 9) aNil)) aNil))) (sSeq (sFor (itSeq (eVar 9)) (gNm 21) (sIf (eNot (eCallF ("_law_same", none) [true, true] (aCons (eIxO (eVar 20) (eBin ixD (eVar 21) (eC (.int 0)))) (aCons (eBin ixD (eVar 21) (eC (.int 1))) aNil)))) (sRet (eC (.bl false))) sNil)) (sSeq (sFor (itSeq (eBin addD (eList (aCons (eVar 8) (aCons (eBin ixD (eBin ixD (eVar 10) (eC (.int 0))) (eC (.int 0))) aNil))) (eLC [21] (itSeq (eVar 9)) (gNm 21) (eBin gtD (eArg lenD (aCons (eBin ixD (eVar 21) (eC (.int 0))) aNil)) (eC (.int 1))) (eSl sliceD (eBin ixD (eVar 21) (eC (.int 0))) none (some (eUn negD (eC (.int 1)))))))) (gNm 22) (sIf (eAnd (eBin ninX (eVar 22) (eSl sliceD (eVar 7) none (some (eVar 2)))) (eNot (eCall ("_law_strange", none) (aCons (eVar 20) (aCons (eVar 22) aNil))))) (sRet (eC (.bl false))) sNil)) (sRet (eAnd (eCallF ("_law_same", none) [true, true] (aCons (eC (.int 8)) (aCons (eC (.int 8)) aNil))) (eCallF ("_law_same", none) [true, true] (aCons (eC (.int 4)) (aCons (eC (.int 4)) aNil))))))))))))))))))))))))))))))
end Pd.L
namespace Pd.L
open PySem PySem.Spec L2
local macro_rules | `(tactic| walk_at "nE") => `(tactic| first
  | (simp only [setV, putC, putCell, takes, take, Cell.d, Option.bind_some, Option.map_some, wipeE, restE, initEnv, slotOf, Slot.put, cellAt, List.map_cons, List.map_nil, List.length_cons, List.length_nil, List.reduceReplicate, Nat.reduceAdd, Nat.reduceSub, List.cons_append, List.nil_append, List.append_nil, List.getElem?_cons_zero, List.getElem?_cons_succ, List.set_cons_zero, List.set_cons_succ, Int.reduceToNat, Option.join_some, Option.join_none] <;> rfl)
  | rfl)
local macro_rules | `(tactic| walk_at "pC") => `(tactic| first
  | (refine Eq.trans (b := some (Cell.lst (List.set _ (Int.toNat _) _))) rfl ?_; simp only [Int.reduceToNat, List.set_cons_zero, List.set_cons_succ] <;> rfl)
  | rfl)
local macro_rules | `(tactic| walk_at "rl") => `(tactic| first
  | with_reducible refine ev_seq ?_ | with_reducible refine ev_if ?_ | with_reducible refine ev_set ?_ | with_reducible refine ev_ret ?_ | with_reducible refine ev_put ?_ | with_reducible refine ev_expr ?_ | with_reducible refine ev_asg ?_ | with_reducible refine ev_for ?_ | with_reducible refine ev_nil ?_ | with_reducible refine ev_retN ?_ | with_reducible refine ev_brk ?_ | with_reducible refine ev_ct ?_
  | with_reducible refine ev_bin ?_ | with_reducible refine ev_var rfl ?_ | with_reducible refine ev_c ?_ | with_reducible refine ev_arg ?_ | with_reducible refine ev_acons ?_ | with_reducible refine ev_anil ?_ | with_reducible refine ev_un ?_ | with_reducible refine ev_chain ?_ | with_reducible refine ev_and ?_ | with_reducible refine ev_or ?_ | with_reducible refine ev_not ?_ | with_reducible refine ev_ifE ?_
  | with_reducible refine ev_list ?_ | with_reducible refine ev_tup ?_ | with_reducible refine ev_sl00 ?_ | with_reducible refine ev_sl10 ?_ | with_reducible refine ev_sl01 ?_ | with_reducible refine ev_sl11 ?_ | with_reducible refine ev_strM ?_ | with_reducible refine ev_app (by with_unfolding_all rfl) ?_ | with_reducible refine ev_lm ?_ | with_reducible refine ev_seqI ?_ | with_reducible refine ev_range1 ?_ | with_reducible refine ev_range2 ?_ | with_reducible refine ev_lc ?_ | with_reducible refine ev_fld ?_ | with_reducible refine ev_dic ?_ | with_reducible refine ev_fldO ?_ | with_reducible refine ev_range3 ?_ | with_reducible refine ev_itOwn ?_ | with_reducible refine ev_yes ?_)
local macro_rules | `(tactic| walk_at "lf") => `(tactic| first
  | refine ⟨_, _, rfl, (by first | (refine (?_ : isB _ _ = some (Val.sh (D.bl false))); exact rfl) | (refine (?_ : isB _ _ = some (Val.sh (D.bl true))); exact rfl)), ?_⟩
  | refine ⟨_, _, _, rfl, rfl, (by first | (refine (?_ : isND _ _ = some (Val.sh (D.bl false))); exact rfl) | (refine (?_ : isND _ _ = some (Val.sh (D.bl true))); exact rfl) | (refine (?_ : neX (D.bl _) (D.bl _) = some (Val.sh (D.bl false))); exact rfl) | (refine (?_ : neX (D.bl _) (D.bl _) = some (Val.sh (D.bl true))); exact rfl)), ?_⟩
  | refine ⟨(by first | assumption | rfl | (rw [sizeL]; omega) | (rw [sizeL]; simp; omega)), _, (by walk_at "nE"), ?_⟩
  | refine ⟨⟨(by omega), (by omega)⟩, ?_⟩
  | refine ⟨_, _, _, rfl, by decide, rfl, ?_⟩
  | refine ⟨_, _, _, rfl, rfl, (by first | rfl | exact mulD_r (by omega) | exact modD_i (by omega) | exact fdivD_i (by omega) | exact powD_i (by omega)), ?_⟩
  | refine ⟨_, _, _, rfl, rfl, (by walk_at "pC"), _, (by walk_at "nE"), ?_⟩
  | refine ⟨_, (by walk_at "nE"), ?_⟩
  | refine ⟨_, _, (by walk_at "nE"), (by show _ ≤ sizeLine; rw [sizeL]; simp), ?_⟩
  | refine ⟨_, _, (by walk_at "nE"), ?_⟩
  | refine ⟨_, _, rfl, (by first | rfl | walk_at "cs"), ?_⟩
  | refine ⟨_, rfl, ?_⟩
  | refine ⟨_, _, rfl, ?_⟩
  | refine ⟨_, _, _, rfl, rfl, ?_⟩)
local macro_rules | `(tactic| walk_at "st") => `(tactic| repeat' (first | walk_at "rl" | walk_at "lf" | fail))
local macro_rules | `(tactic| walk_at "sp") => `(tactic| (refine ⟨fun hk => ?_, fun hk => ?_⟩ <;> (try simp only [decide_eq_true_eq, decide_eq_false_iff_not, Int.not_lt, Int.not_le, Bool.not_eq_true', Bool.not_eq_false', Bool.not_false, Bool.not_true, reduceCtorEq] at hk)))
local macro_rules | `(tactic| walk_at "go") => `(tactic| repeat' (first | walk_at "rl" | walk_at "lf" | walk_at "sp" | fail))
local macro_rules | `(tactic| walk_at "cs") => `(tactic| fail)
theorem ixD_nat {ds : List D} {j : Nat} {d : D} (h : ds[j]? = some d) : ixD (.lst ds) (.int (j : Int)) = some (.sh d) := by
  show (atI ds (j : Int)).map Val.sh = _
  rw [atI_nat h]; rfl
theorem ixD_natT {ds : List D} {j : Nat} {d : D} (h : ds[j]? = some d) : ixD (.tup ds) (.int (j : Int)) = some (.sh d) := by
  show (atI ds (j : Int)).map Val.sh = _
  rw [atI_nat h]; rfl
theorem atI_last {α : Type} {xs : List α} {x : α} : atI (xs ++ [x]) (-1) = some x := by
  unfold atI ixN
  simp only [List.length_append, List.length_cons, List.length_nil]
  rw [if_neg (by omega), if_pos (by omega)]
  have e : (-1 + ((xs.length + (0 + 1) : Nat) : Int)).toNat = xs.length := by omega
  rw [Option.bind_some, e]
  simp
theorem ixD_last {ds : List D} {d : D} : ixD (.lst (ds ++ [d])) (.int (-1)) = some (.sh d) := by
  show (atI (ds ++ [d]) (-1)).map Val.sh = _
  rw [atI_last]; rfl
/-- slices by numbers -/
theorem cutD_from {α : Type} {xs : List α} {j : Nat} (h : j ≤ xs.length) : cutD xs (some (j : Int)) none = xs.drop j := by
  unfold cutD
  have e1 : HT.sIx xs.length 0 (some (j : Int)) = j := by unfold HT.sIx; simp only; split <;> omega
  have e2 : HT.sIx xs.length xs.length none = xs.length := rfl
  rw [e1, e2]
  exact List.take_of_length_le (by simp)
theorem cutD_to {α : Type} {xs : List α} {j : Nat} (h : j ≤ xs.length) : cutD xs none (some (j : Int)) = xs.take j := by
  unfold cutD
  have e1 : HT.sIx xs.length xs.length (some (j : Int)) = j := by unfold HT.sIx; simp only; split <;> omega
  have e2 : HT.sIx xs.length 0 none = 0 := rfl
  rw [e1, e2, Nat.sub_zero, List.drop_zero]
def MergedOk (g : List Arg → Option CRes) : Prop := ∀ (ok : D → Prop) (_ : Ordd ok) (xs ys : List D), (∀ x ∈ xs, ok x) → (∀ y ∈ ys, ok y) → Asc xs → Asc ys → xs.length + ys.length ≤ sizeLine →
  ∃ zs, g [.sh (.lst xs), .sh (.lst ys)] = some (.ret (.fr (.lst zs)) [none, none]) ∧ Asc zs ∧ zs.length = xs.length + ys.length ∧ ∀ d, d ∈ zs ↔ d ∈ xs ∨ d ∈ ys
def mgE (xs ys res : List D) (p : Nat) (o : Option D) : Env := [some (.sh (.lst xs)), some (.sh (.lst ys)), some (.own (.lst res)), some (.sh (.int (p : Int))), o.map Slot.sh]
def mgM (n : Nat) (e : Env) : Nat := match e[3]? with
  | some (some (Slot.sh (D.int i))) => n - i.toNat
  | _ => 0
theorem merged_ok (c : CT) : MergedOk (runDef 5 2 b_merged c) := by
  intro ok O xs ys hx hy sx sy hl
  refine (?_ : ∃ r, runDef 5 2 b_merged c [.sh (.lst xs), .sh (.lst ys)] = some r ∧ ∃ zs, r = .ret (.fr (.lst zs)) [none, none] ∧ Asc zs ∧ zs.length = xs.length + ys.length ∧ ∀ d, d ∈ zs ↔ d ∈ xs ∨ d ∈ ys).elim fun r ⟨h1, zs, h2, h3⟩ => ⟨zs, by rw [h1, h2], h3⟩
  refine ev_run rfl (by walk_at "nE") ?_
  unfold b_merged
  walk_at "go"
  refine ev_loop (fun done e => ∃ res p o, e = mgE xs ys res p o ∧ p ≤ ys.length ∧ res.length = done.length + p ∧ Asc (res ++ ys.drop p) ∧ Asc (res ++ xs.drop done.length) ∧ ∀ d, d ∈ res ↔ d ∈ done ∨ d ∈ ys.take p) ⟨[], 0, none, rfl, by omega, rfl, by simpa using sy, by simpa using sx, by simp⟩ ?_ ?_
  · rintro done d rest e hd ⟨res, p, o, rfl, hp, hlen, s1, s2, hm⟩
    have hdx : ∀ z ∈ done ++ d :: rest, ok z := by rw [← hd]; exact hx
    have okd : ok d := hdx d (by simp)
    rw [hd] at s2
    simp only [List.drop_left'] at s2
    refine ⟨mgE xs ys res p (some d), by cases o <;> rfl, ?_⟩
    have hdl : done.length + 1 + rest.length = xs.length := by rw [hd]; simp; omega
    refine ev_seq (ev_while (fun e => ∃ res p, e = mgE xs ys res p (some d) ∧ p ≤ ys.length ∧ res.length = done.length + p ∧ Asc (res ++ ys.drop p) ∧ Asc (res ++ d :: rest) ∧ ∀ z, z ∈ res ↔ z ∈ done ∨ z ∈ ys.take p) (mgM ys.length) ⟨res, p, rfl, hp, hlen, s1, s2, hm⟩ ?_)
    rintro e ⟨res, p, rfl, hp, hlen, s1, s2, hm⟩
    have hmo : ∀ z ∈ res, ok z := fun z hz => by
      rcases (hm z).mp hz with h | h
      · exact hdx z (by simp [h])
      · exact hy z (List.mem_of_mem_take h)
    have fin : (∀ y ∈ ys.drop p, dlt y d = false) → ∃ res' p' o', mgE xs ys (res ++ [d]) p (some d) = mgE xs ys res' p' o' ∧ p' ≤ ys.length ∧ res'.length = (done ++ [d]).length + p' ∧ Asc (res' ++ ys.drop p') ∧ Asc (res' ++ xs.drop (done ++ [d]).length) ∧ ∀ z, z ∈ res' ↔ z ∈ done ++ [d] ∨ z ∈ ys.take p' := by
      intro hge
      refine ⟨_, _, _, rfl, hp, by simp; omega, ?_, ?_, ?_⟩
      · obtain ⟨a1, a2, a3⟩ := List.pairwise_append.mp s1
        obtain ⟨b1, b2, b3⟩ := List.pairwise_append.mp s2
        rw [List.append_assoc]
        refine List.pairwise_append.mpr ⟨a1, List.pairwise_cons.mpr ⟨hge, a2⟩, fun x hxr y hyr => ?_⟩
        rcases List.mem_cons.mp hyr with rfl | hyr
        · exact b3 x hxr y (by simp)
        · exact a3 x hxr y hyr
      · have e : xs.drop (done ++ [d]).length = rest := by rw [hd]; simp
        rw [e, List.append_assoc]; exact s2
      · intro z
        simp only [List.mem_append, hm z, List.mem_singleton]
        constructor
        · rintro ((h | h) | h)
          · exact .inl (.inl h)
          · exact .inr h
          · exact .inl (.inr h)
        · rintro ((h | h) | h)
          · exact .inl (.inl h)
          · exact .inr h
          · exact .inl (.inr h)
    have hap : res.length < sizeLine := by omega
    refine ev_and ?_
    unfold mgE
    walk_at "go"
    · rename_i hlt
      have hlt : p < ys.length := by simpa using hlt
      have hyp : ys[p]? = some ys[p] := List.getElem?_eq_getElem hlt
      have oky : ok ys[p] := hy _ (List.getElem_mem _)
      have edr : ys.drop p = ys[p] :: ys.drop (p + 1) := List.drop_eq_getElem_cons hlt
      refine ⟨_, _, _, rfl, rfl, ixD_nat hyp, ?_⟩
      walk_at "go"
      refine ⟨_, _, _, rfl, rfl, O.lt _ _ oky okd, _, rfl, fun hf => ?_, fun ht => ?_⟩
      · walk_at "go"
        refine fin ?_
        rw [edr] at s1 ⊢
        obtain ⟨a1, a2, a3⟩ := List.pairwise_append.mp s1
        intro y hyy
        rcases List.mem_cons.mp hyy with rfl | hyy
        · exact hf
        · exact O.le_trans okd oky (hy y (List.mem_of_mem_drop hyy)) hf ((List.pairwise_cons.mp a2).1 y hyy)
      · walk_at "go"
        refine ⟨_, _, _, rfl, rfl, ixD_nat hyp, ?_⟩
        walk_at "go"
        · refine ⟨⟨res ++ [ys[p]], p + 1, rfl, by omega, by simp; omega, ?_, ?_, ?_⟩, ?_⟩
          · rw [List.append_assoc]; rw [edr] at s1; exact s1
          · obtain ⟨a1, a2, a3⟩ := List.pairwise_append.mp s1
            obtain ⟨b1, b2, b3⟩ := List.pairwise_append.mp s2
            rw [List.append_assoc]
            refine List.pairwise_append.mpr ⟨b1, List.pairwise_cons.mpr ⟨fun z hz => ?_, b2⟩, fun x hxr y hyr => ?_⟩
            · have okz : ok z := hdx z (List.mem_append_right _ hz)
              have ldy := O.asymm oky okd ht
              rcases List.mem_cons.mp hz with rfl | hz
              · exact ldy
              · exact O.le_trans oky okd okz ldy ((List.pairwise_cons.mp b2).1 z hz)
            · rcases List.mem_cons.mp hyr with rfl | hyr
              · exact a3 x hxr _ (by rw [edr]; exact List.mem_cons_self)
              · exact b3 x hxr y hyr
          · intro z
            rw [List.take_succ_eq_append_getElem hlt]
            simp only [List.mem_append, hm z, List.mem_singleton]
            constructor
            · rintro ((h | h) | h)
              · exact .inl h
              · exact .inr (.inl h)
              · exact .inr (.inr h)
            · rintro (h | h | h)
              · exact .inl (.inl h)
              · exact .inl (.inr h)
              · exact .inr h
          · show ys.length - ((p : Int) + 1).toNat < ys.length - (p : Int).toNat
            omega
    · rename_i hlt
      have hlt : p = ys.length := by omega
      refine fin ?_
      rw [hlt, List.drop_length]
      exact fun _ h => nomatch h
  · rintro e ⟨res, p, o, rfl, hp, hlen, s1, s2, hm⟩
    unfold mgE
    walk_at "go"
    rw [cutD_from hp]
    refine ⟨_, _, _, rfl, rfl, if_pos (by simp; omega), ?_⟩
    walk_at "go"
    refine ⟨s1, by simp; omega, fun d => ?_⟩
    rw [List.mem_append, hm d, or_assoc]
    refine or_congr Iff.rfl ?_
    rw [← List.mem_append, List.take_append_drop]
def AscOk (g : List Arg → Option CRes) : Prop := ∀ (ok : D → Prop) (_ : Ordd ok) (xs : List D) (a : Arg), SeqP a xs → (∀ x ∈ xs, ok x) → xs.length ≤ 1000000 → g [a] = some (.ret (.fr (.lst (ascD xs))) [a.out])
/-- the runs: a list of its own, or frozen -/
def runS (own : Bool) (rs : List (List D)) : Slot := if own = true then .own (.lst (rs.map .lst)) else .sh (.lst (rs.map .lst))
def asE (a : Arg) (own : Bool) (rs : List (List D)) (o2 : Option D) : Env := [some a.slot, some (runS own rs), o2.map Slot.sh, none, none, none, none]
def asM (e : Env) : Nat := match e[1]? with
  | some (some (Slot.sh (D.lst ds))) => ds.length
  | some (some (Slot.own (Cell.lst ds))) => ds.length
  | _ => 0
theorem asM_e (a : Arg) (own : Bool) (rs : List (List D)) (o2 : Option D) : asM (asE a own rs o2) = rs.length := by
  cases own <;> simp [asM, asE, runS]
theorem runS_peek (own : Bool) (a : Arg) (rs : List (List D)) (o2 o3 o4 o5 o6 : Option Slot) (c : CT) {Q : Val → Env → Prop}
    (q : ∀ v, peek [some a.slot, some (runS own rs), o2, o3, o4, o5, o6] v = some (.lst (rs.map .lst)) → Q v [some a.slot, some (runS own rs), o2, o3, o4, o5, o6]) : EvE (eVar 1 c [some a.slot, some (runS own rs), o2, o3, o4, o5, o6]) Q := by
  cases own with
  | true => exact ev_var rfl (q _ rfl)
  | false => exact ev_var rfl (q _ rfl)
theorem peeks1 {env : Env} {v : Val} {d : D} (h : peek env v = some d) : peeks env [v] = some [d] := by
  simp only [peeks, h, Option.bind_some, Option.map_some]
theorem small_ok {n : Nat} (h : n ≤ 1000000) : Builtin.Range.small 0 ((n : Int) - 1) 2 = true := by
  unfold Builtin.Range.small Builtin.Range.rangeFitsLong Builtin.Range.rangeSize
  simp
  omega
theorem rsize_ok {n : Nat} (h : 2 ≤ n) : Builtin.Range.rangeSize 0 ((n : Int) - 1) 2 = ((n / 2 : Nat) : Int) := by
  unfold Builtin.Range.rangeSize
  rw [if_pos (by omega), if_pos (by omega)]
  omega
theorem ev_for1 {env : Env} {N B C : Env → Prop} {R : RV → Env → Prop} {X : Exc → Env → Prop} {g : SG} {f : Env → Option SO} {d : D} (h : ∃ e1, g d env = some e1 ∧ EvS (f e1) N R N N X) : EvS (forL g f [d] env) N R B C X := by
  obtain ⟨e1, h1, o, h2, h3⟩ := h
  cases o with
  | nx e => exact ⟨.nx e, by unfold forL; rw [h1]; simp only [Option.bind_some, h2]; rfl, h3⟩
  | ct e => exact ⟨.nx e, by unfold forL; rw [h1]; simp only [Option.bind_some, h2]; rfl, h3⟩
  | brk e => exact ⟨.nx e, by unfold forL; rw [h1]; simp only [Option.bind_some, h2], h3⟩
  | ret r e => exact ⟨.ret r e, by unfold forL; rw [h1]; simp only [Option.bind_some, h2], h3⟩
  | exc x e => exact ⟨.exc x e, by unfold forL; rw [h1]; simp only [Option.bind_some, h2], h3⟩
theorem take_two {α : Type} {rs : List α} {i : Nat} (h : i + 1 < rs.length) : rs.take (i + 2) = rs.take i ++ [rs[i], rs[i + 1]] := by
  rw [List.take_succ_eq_append_getElem h, List.take_succ_eq_append_getElem (by omega), List.append_assoc]
  rfl
theorem flat_two {α : Type} {rs : List (List α)} {i : Nat} (h : i + 1 < rs.length) : rs[i].length + rs[i + 1].length ≤ rs.flatten.length := by
  have e := congrArg (fun l : List (List α) => l.flatten.length) (List.take_append_drop (i + 2) rs)
  simp only [take_two h, List.flatten_append, List.length_append, List.flatten_cons, List.flatten_nil, List.length_nil] at e
  omega
theorem asc_ok (c : CT) (hm : Has c ("merged", none) MergedOk) : AscOk (runDef 7 1 b_ascending c) := by
  obtain ⟨gm, em, km⟩ := hm
  intro ok O xs a ha hx hl
  refine (?_ : ∃ r, runDef 7 1 b_ascending c [a] = some r ∧ r = .ret (.fr (.lst (ascD xs))) [a.out]).elim fun r ⟨h1, h2⟩ => by rw [h1, h2]
  have he0 : initEnv 7 [a] = [some a.slot, none, none, none, none, none, none] := by cases a <;> rfl
  refine ev_run rfl he0 ?_
  unfold b_ascending
  refine ev_cut (fun e => ∃ rs o2 own, e = asE a own rs o2 ∧ (∀ r ∈ rs, Asc r) ∧ rs.flatten.length = xs.length ∧ (∀ d, d ∈ rs.flatten ↔ d ∈ xs) ∧ rs.length ≤ xs.length) ?_ ?_
  · refine ev_set (ev_lcN ha (by rw [sizeL]; omega) rfl rfl rfl (fun done acc e => e = [some a.slot, none, none, none, none, none, none] ∧ acc = done.map fun d => .lst [d]) ⟨rfl, rfl⟩ (fun done acc e h => by rw [h.1]; rfl) ?_ ?_)
    · rintro done d rest acc e hd ⟨rfl, rfl⟩
      refine ⟨[some a.slot, none, none, none, none, some (.sh d), none], rfl, ?_⟩
      refine ev_yes ⟨true, rfl, (fun h => nomatch h), fun _ => ?_⟩
      walk_at "go"
      exact ⟨rfl, by simp⟩
    · rintro ys e' ⟨rfl, rfl⟩
      refine ⟨_, rfl, _, rfl, xs.map fun d => [d], none, true, ?_, ?_, ?_, ?_, ?_⟩
      · simp [asE, runS, restE]
      · intro r hr
        obtain ⟨d, _, rfl⟩ := List.mem_map.mp hr
        exact List.pairwise_singleton _ _
      · clear hx hl ha he0
        induction xs with
        | nil => rfl
        | cons x xs ih => simpa using ih
      · intro d
        simp only [List.mem_flatten, List.mem_map]
        constructor
        · rintro ⟨l, ⟨z, hz, rfl⟩, hd⟩
          rw [List.mem_singleton.mp hd]; exact hz
        · exact fun hd => ⟨[d], ⟨d, hd, rfl⟩, List.mem_singleton.mpr rfl⟩
      · simp
  rintro e ⟨rs, o2, own, rfl, h1, h2, h3, h4⟩
  refine ev_cut (fun e => ∃ rs o2 own, e = asE a own rs o2 ∧ (∀ r ∈ rs, Asc r) ∧ rs.flatten.length = xs.length ∧ (∀ d, d ∈ rs.flatten ↔ d ∈ xs) ∧ rs.length ≤ 1) ?_ ?_
  · refine ev_while (fun e => ∃ rs o2 own, e = asE a own rs o2 ∧ (∀ r ∈ rs, Asc r) ∧ rs.flatten.length = xs.length ∧ (∀ d, d ∈ rs.flatten ↔ d ∈ xs) ∧ rs.length ≤ xs.length) asM ⟨rs, o2, own, rfl, h1, h2, h3, h4⟩ ?_
    clear h1 h2 h3 h4 rs o2 own
    rintro e ⟨rs, o2, own, rfl, h1, h2, h3, h4⟩
    have hok : ∀ r ∈ rs, ∀ d ∈ r, ok d := fun r hr d hd => hx d ((h3 d).mp (List.mem_flatten.mpr ⟨r, hr, hd⟩))
    rw [asM_e]
    unfold asE
    refine ev_bin (ev_arg (ev_acons (runS_peek _ _ _ _ _ _ _ _ c fun v hv => ev_anil ?_)))
    refine ⟨_, _, peeks1 hv, rfl, ev_c ⟨_, _, _, rfl, rfl, rfl, _, rfl, fun hf => ?_, fun ht => ?_⟩⟩
    · refine ⟨rs, o2, own, rfl, h1, h2, h3, ?_⟩
      simp at hf; omega
    have hlen : 2 ≤ rs.length := by simp at ht; omega
    -- pairs are merged
    refine ev_cut (fun e => ∃ rs' : List (List D), e = [some a.slot, some (runS own rs), some (.own (.lst (rs'.map .lst))), none, none, none, none] ∧ (∀ r ∈ rs', Asc r) ∧ rs'.flatten.length = (rs.take (2 * (rs.length / 2))).flatten.length ∧ (∀ d, d ∈ rs'.flatten ↔ d ∈ (rs.take (2 * (rs.length / 2))).flatten) ∧ rs'.length = rs.length / 2) ?_ ?_
    · refine ev_set (ev_lc (ev_range3 (ev_acons (ev_c (ev_acons (ev_bin (ev_arg (ev_acons (runS_peek _ _ _ _ _ _ _ _ c fun v hv => ev_anil ?_)))) )))))
      refine ⟨_, _, peeks1 hv, rfl, ev_c ⟨_, _, _, rfl, rfl, rfl, ev_acons (ev_c (ev_anil ⟨_, _, _, rfl, ?_, ?_⟩))⟩⟩
      · simp only [List.length_map]
        refine ⟨by decide, by decide, small_ok (by omega), ?_⟩
        rw [rsize_ok hlen]; omega
      simp only [List.length_map]
      rw [rsize_ok hlen, Int.toNat_natCast]
      refine ⟨by cases o2 <;> rfl, [some a.slot, some (runS own rs), o2.map Slot.sh, none, none, none, none], by cases o2 <;> rfl, ?_⟩
      refine (lc_gen (env := [some a.slot, some (runS own rs), o2.map Slot.sh, none, none, none, none]) (g := gNm 6) (t := eYes c) (f := eCall ("merged", none) (aCons (eBin ixD (eVar 1) (eVar 6)) (aCons (eBin ixD (eVar 1) (eBin addD (eVar 6) (eC (.int 1)))) aNil)) c) (vs := [6])
        (ds := (List.range (rs.length / 2)).map fun n => D.int (0 + (n : Nat) * 2))
        (fun done acc e => ∃ rs' : List (List D), e = [some a.slot, some (runS own rs), o2.map Slot.sh, none, none, none, none] ∧ acc = rs'.map .lst ∧ (∀ r ∈ rs', Asc r) ∧ rs'.flatten.length = (rs.take (2 * done.length)).flatten.length ∧ (∀ d, d ∈ rs'.flatten ↔ d ∈ (rs.take (2 * done.length)).flatten) ∧ rs'.length = done.length)
        (by simp; rw [sizeL]; omega) ⟨[], rfl, rfl, by simp, by simp, by simp, rfl⟩ ?ht).elim fun ys h => ?hq
      case hq =>
        obtain ⟨e', k1, rs', rfl, rfl, k2, k3, k4, k5⟩ := h
        simp only [List.length_map, List.length_range] at k3 k4 k5
        exact ⟨_, _, k1, _, rfl, _, by cases o2 <;> rfl, rs', rfl, k2, k3, k4, k5⟩
      case ht =>
        rintro done d rest acc e hd ⟨rs', rfl, rfl, k2, k3, k4, k5⟩
        have hdn : done.length < rs.length / 2 ∧ d = D.int ((2 * done.length : Nat) : Int) := by
          have l1 := congrArg List.length hd
          have l2 := congrArg (fun l : List D => l[done.length]?) hd
          simp only [List.length_map, List.length_range, List.length_append, List.length_cons] at l1
          have hlt : done.length < rs.length / 2 := by omega
          refine ⟨hlt, ?_⟩
          simp [hlt] at l2
          rw [← l2]
          congr 1
          omega
        obtain ⟨hlt, rfl⟩ := hdn
        have i1 : 2 * done.length < rs.length := by omega
        have i2 : 2 * done.length + 1 < rs.length := by omega
        refine ⟨[some a.slot, some (runS own rs), o2.map Slot.sh, none, none, none, some (.sh (.int ((2 * done.length : Nat) : Int)))], rfl, ev_yes ⟨true, rfl, (fun h => nomatch h), fun _ => ?_⟩⟩
        refine ev_call em (ev_acons (ev_bin (runS_peek _ _ _ _ _ _ _ _ c fun v hv => ev_var rfl ⟨_, _, _, hv, rfl, ixD_nat (d := .lst rs[2 * done.length]) (by simp [i1]), ?_⟩)))
        refine ev_acons (ev_bin (runS_peek _ _ _ _ _ _ _ _ c fun v hv => ev_bin (ev_var rfl (ev_c ⟨_, _, _, rfl, rfl, rfl, _, _, _, hv, rfl, ixD_nat (j := 2 * done.length + 1) (d := .lst rs[2 * done.length + 1]) (by simp [i2]), ev_anil ?_⟩))))
        obtain ⟨zs, q1, q2, q3, q4⟩ := km ok O rs[2 * done.length] rs[2 * done.length + 1] (hok _ (List.getElem_mem _)) (hok _ (List.getElem_mem _)) (h1 _ (List.getElem_mem _)) (h1 _ (List.getElem_mem _)) (by
          rw [sizeL]
          have := flat_two i2
          omega)
        refine ⟨_, _, _, _, rfl, q1, _, _, rfl, rs' ++ [zs], by cases o2 <;> rfl, by rw [List.map_append]; rfl, ?_, ?_, ?_, by simp [k5]⟩
        · intro r hr
          rcases List.mem_append.mp hr with hr | hr
          · exact k2 r hr
          · rw [List.mem_singleton.mp hr]; exact q2
        · have et := take_two i2
          simp only [List.length_append, List.length_cons, List.length_nil]
          rw [show 2 * (done.length + (0 + 1)) = 2 * done.length + 2 by omega, et]
          simp only [List.flatten_append, List.flatten_cons, List.flatten_nil, List.length_append, List.append_nil, List.length_nil]
          omega
        · have et := take_two i2
          intro d
          simp only [List.length_append, List.length_cons, List.length_nil]
          rw [show 2 * (done.length + (0 + 1)) = 2 * done.length + 2 by omega, et]
          simp only [List.flatten_append, List.flatten_cons, List.flatten_nil, List.mem_append, List.append_nil, k4 d, q4 d]
    rintro e ⟨rs', rfl, k2, k3, k4, k5⟩
    refine ev_cut (fun e => ∃ rs' : List (List D), e = [some a.slot, some (runS own rs), some (.own (.lst (rs'.map .lst))), none, none, none, none] ∧ (∀ r ∈ rs', Asc r) ∧ rs'.flatten.length = rs.flatten.length ∧ (∀ d, d ∈ rs'.flatten ↔ d ∈ rs.flatten) ∧ rs'.length < rs.length) ?_ ?_
    · refine ev_if (ev_bin (ev_bin (ev_arg (ev_acons (runS_peek _ _ _ _ _ _ _ _ c fun v hv => ev_anil ?_)))))
      refine ⟨_, _, peeks1 hv, rfl, ev_c ⟨_, _, _, rfl, rfl, modD_i (by omega), ev_c ⟨_, _, _, rfl, rfl, rfl, _, rfl, fun ho => ?_, fun ho => ?_⟩⟩⟩
      · have hodd : rs.length % 2 = 1 := by simp at ho; omega
        obtain ⟨q, hq⟩ : ∃ q, rs = rs.take (2 * (rs.length / 2)) ++ [q] := by
          refine ⟨rs[2 * (rs.length / 2)]'(by omega), ?_⟩
          rw [← List.take_succ_eq_append_getElem (by omega), List.take_of_length_le (by omega)]
        have hlast : ixD (.lst (rs.map D.lst)) (.int (-1)) = some (.sh (.lst q)) := by
          rw [hq, List.map_append]; exact ixD_last
        refine ev_expr (ev_app rfl (ev_acons (ev_bin (runS_peek _ _ _ _ _ _ _ _ c fun v hv => ev_un (ev_c ⟨_, _, rfl, rfl, _, _, _, hv, rfl, hlast, ev_anil ?_⟩)))))
        · refine ⟨_, _, _, rfl, rfl, by simp; rw [sizeL]; omega, _, rfl, rs' ++ [q], by rw [List.map_append]; rfl, ?_, ?_, ?_, by simp; omega⟩
          · intro r hr
            rcases List.mem_append.mp hr with hr | hr
            · exact k2 r hr
            · rw [List.mem_singleton.mp hr]; exact h1 q (by rw [hq]; simp)
          · have e := congrArg (fun l : List (List D) => l.flatten.length) hq
            simp only [List.flatten_append, List.length_append, List.flatten_cons, List.flatten_nil, List.append_nil] at e ⊢
            omega
          · intro d
            have e : d ∈ rs.flatten ↔ d ∈ (rs.take (2 * (rs.length / 2)) ++ [q]).flatten := by rw [← hq]
            rw [e]
            simp only [List.flatten_append, List.mem_append, k4 d]
      · have hev : rs.length % 2 = 0 := by simp at ho; omega
        have e : rs.take (2 * (rs.length / 2)) = rs := List.take_of_length_le (by omega)
        rw [e] at k3 k4
        exact ev_nil ⟨rs', rfl, k2, k3, k4, by omega⟩
    rintro e ⟨rs'', rfl, m2, m3, m4, m5⟩
    refine ev_set (ev_var rfl ⟨asE a false rs'' (some (.lst (rs''.map .lst))), by cases own <;> rfl, ⟨rs'', _, false, rfl, m2, by rw [m3, h2], fun d => (m4 d).trans (h3 d), by omega⟩, ?_⟩)
    rw [asM_e]; exact m5
  clear h1 h2 h3 h4 rs o2 own
  rintro e ⟨rs, o2, own, rfl, h1, h2, h3, h4⟩
  refine ev_seq (ev_set (ev_list (ev_anil ⟨[], _, rfl, by rw [sizeL]; simp, [some a.slot, some (runS own rs), o2.map Slot.sh, some (.own (.lst [])), none, none, none], rfl, ?_⟩)))
  refine ev_cut (fun e => ∃ o1 o2 o4 o5 : Option D, e = [some a.slot, o1.map Slot.sh, o2.map Slot.sh, some (.own (.lst (ascD xs))), o4.map Slot.sh, o5.map Slot.sh, none]) ?_ ?_
  · have hts : take [some a.slot, some (runS own rs), o2.map Slot.sh, some (.own (.lst [])), none, none, none] (if own = true then .var 1 else .sh (.lst (rs.map .lst))) = some (.lst (rs.map .lst), [some a.slot, some (.sh (.lst (rs.map .lst))), o2.map Slot.sh, some (.own (.lst [])), none, none, none]) := by
      cases own <;> rfl
    have hev : EvI (itSeq (eVar 1) c [some a.slot, some (runS own rs), o2.map Slot.sh, some (.own (.lst [])), none, none, none]) (fun ds e => ds = rs.map .lst ∧ e = [some a.slot, some (.sh (.lst (rs.map .lst))), o2.map Slot.sh, some (.own (.lst [])), none, none, none]) := by
      cases own
      · exact ev_seqI (ev_var rfl ⟨_, _, _, rfl, rfl, rfl, rfl⟩)
      · exact ev_seqI (ev_var rfl ⟨_, _, _, rfl, rfl, rfl, rfl⟩)
    obtain ⟨ds, e, h5, rfl, rfl⟩ := hev
    refine ev_for ⟨_, _, h5, ?_⟩
    cases rs with
    | nil =>
      have hx0 : xs = [] := List.eq_nil_iff_forall_not_mem.mpr fun d hd => nomatch (h3 d).mpr hd
      subst hx0
      exact ⟨_, rfl, some _, o2, none, none, rfl⟩
    | cons r rs =>
      have hrs : rs = [] := by
        cases rs with
        | nil => rfl
        | cons _ _ => simp at h4
      subst hrs
      have hr : ∀ d, d ∈ r ↔ d ∈ xs := by simpa using h3
      have okr : ∀ d ∈ r, ok d := fun d hd => hx d ((hr d).mp hd)
      have hrl : r.length = xs.length := by simpa using h2
      have sr : Asc r := h1 r (by simp)
      refine ev_for1 ⟨[some a.slot, some (.sh (.lst [.lst r])), o2.map Slot.sh, some (.own (.lst [])), some (.sh (.lst r)), none, none], rfl, ?_⟩
      refine ev_for (ev_seqI (ev_var rfl ⟨_, _, r, rfl, rfl, ?_⟩))
      refine ev_loop (fun done e => ∃ (res : List D) (o5 : Option D), e = [some a.slot, some (.sh (.lst [.lst r])), o2.map Slot.sh, some (.own (.lst res)), some (.sh (.lst r)), o5.map Slot.sh, none] ∧ SAsc res ∧ (∀ d, d ∈ res ↔ d ∈ done) ∧ res.length ≤ done.length) ⟨[], none, rfl, List.Pairwise.nil, fun d => Iff.rfl, Nat.le_refl _⟩ ?_ ?_
      · rintro done d rest e hd ⟨res, o5, rfl, s1, hm, hlen⟩
        have okd : ok d := okr d (by rw [hd]; simp)
        have okres : ∀ z ∈ res, ok z := fun z hz => okr z (by rw [hd]; exact List.mem_append_left _ ((hm z).mp hz))
        have hle : ∀ z ∈ res, dlt d z = false := by
          rw [hd] at sr
          exact fun z hz => (List.pairwise_append.mp sr).2.2 z ((hm z).mp hz) d (by simp)
        have hap : res.length < sizeLine := by
          have : done.length ≤ r.length := by rw [hd]; simp
          rw [sizeL]; omega
        refine ⟨[some a.slot, some (.sh (.lst [.lst r])), o2.map Slot.sh, some (.own (.lst res)), some (.sh (.lst r)), some (.sh d), none], by cases o5 <;> rfl, ?_⟩
        have add : ∀ {R : RV → Env → Prop} {B C : Env → Prop} {X : Exc → Env → Prop}, (∀ z ∈ res, dlt z d = true) → EvS (sExpr (eLm appendG 3 (aCons (eVar 5) aNil)) c [some a.slot, some (.sh (.lst [.lst r])), o2.map Slot.sh, some (.own (.lst res)), some (.sh (.lst r)), some (.sh d), none]) (fun e => ∃ (res : List D) (o5 : Option D), e = [some a.slot, some (.sh (.lst [.lst r])), o2.map Slot.sh, some (.own (.lst res)), some (.sh (.lst r)), o5.map Slot.sh, none] ∧ SAsc res ∧ (∀ z, z ∈ res ↔ z ∈ done ++ [d]) ∧ res.length ≤ (done ++ [d]).length) R B C X := by
          intro R B C X hlt
          refine ev_expr (ev_app rfl (ev_acons (ev_var rfl (ev_anil ⟨d, _, res, rfl, rfl, hap, _, rfl, res ++ [d], some d, rfl, ?_, ?_, ?_⟩))))
          · exact List.pairwise_append.mpr ⟨s1, List.pairwise_singleton _ _, fun z hz y hy => by rw [List.mem_singleton.mp hy]; exact hlt z hz⟩
          · intro z; simp only [List.mem_append, hm z]
          · simp; omega
        have flat : dlt d d = false := O.irr d okd
        refine ev_if (ev_or (ev_bin (ev_arg (ev_acons (ev_var rfl (ev_anil ⟨_, _, rfl, rfl, ev_c ⟨_, _, _, rfl, rfl, rfl, _, rfl, fun hf => ?_, fun ht => ?_⟩⟩))))))
        · obtain ⟨res', l, rfl⟩ : ∃ res' l, res = res' ++ [l] := by
            have hne : res ≠ [] := by
              rintro rfl
              simp at hf
            exact ⟨res.dropLast, res.getLast hne, (List.dropLast_concat_getLast hne).symm⟩
          have okl : ok l := okres l (by simp)
          obtain ⟨k, n1, n2⟩ := pl_neX (n := 60) (by decide) (O.pl l okl) (O.pl d okd)
          refine ev_bin (ev_bin (ev_var rfl (ev_un (ev_c ⟨_, _, rfl, rfl, _, _, _, rfl, rfl, ixD_last, ev_var rfl ⟨_, _, _, rfl, rfl, n1, k, rfl, fun hk => ?_, fun hk => ?_⟩⟩))))
          · refine add fun z hz => ?_
            have hlt : dlt l d = true := O.lt_of_le_ne okl okd (hle l (by simp)) (n2.mp hk)
            rcases List.mem_append.mp hz with hz | hz
            · exact O.trans z l d (okres z (by simp [hz])) okl okd ((List.pairwise_append.mp s1).2.2 z hz l (by simp)) hlt
            · rw [List.mem_singleton.mp hz]; exact hlt
          · have hdl : l = d := Classical.byContradiction fun z => by rw [n2.mpr z] at hk; cases hk
            refine ev_nil ⟨res' ++ [l], some d, rfl, s1, fun z => ?_, by simp at hlen ⊢; omega⟩
            rw [hm z, List.mem_append]
            refine ⟨.inl, fun h => h.elim id fun h => ?_⟩
            rw [List.mem_singleton.mp h, ← hdl]
            exact (hm l).mp (by simp)
        · have h0 : res = [] := by
            cases res with
            | nil => rfl
            | cons _ _ => simp at ht; omega
          subst h0
          refine ⟨true, rfl, (fun _ => add (fun _ h => nomatch h)), (fun h => nomatch h)⟩
      · rintro e ⟨res, o5, rfl, s1, hm, _⟩
        have e1 : res = ascD xs := ascD_eq O hx s1 fun d => (hm d).trans (hr d)
        exact ⟨some _, o2, some _, o5, by rw [e1]; rfl⟩
  · rintro e ⟨o1, o2, o4, o5, rfl⟩
    refine ev_ret (ev_var rfl ⟨_, _, rfl, ?_⟩)
    rcases ha with rfl | rfl | rfl <;> exact ⟨_, rfl, rfl⟩
/-! counting -/
theorem nd_len {α : Type} [DecidableEq α] : ∀ {xs ys : List α}, xs.Nodup → (∀ x ∈ xs, x ∈ ys) → xs.length ≤ ys.length
  | [], _, _, _ => Nat.zero_le _
  | x :: xs, ys, nd, h => by
    obtain ⟨h1, h2⟩ := List.nodup_cons.mp nd
    have hx := h x List.mem_cons_self
    have ih := nd_len (xs := xs) (ys := ys.erase x) h2 fun y hy => (List.mem_erase_of_ne (fun e => by subst e; exact h1 hy)).mpr (h y (List.mem_cons_of_mem _ hy))
    rw [List.length_erase_of_mem hx] at ih
    have : 0 < ys.length := List.length_pos_of_mem hx
    simp only [List.length_cons]
    omega
/-! numbers -/
def IntegerOk (g : List Arg → Option CRes) : Prop := ∀ i lo hi : Int, g [.sh (.int i), .sh (.int lo), .sh (.int hi)] = some (.ret (.sh (.bl (decide (lo ≤ i ∧ i ≤ hi)))) [none, none, none])
theorem integer_ok (c : CT) : IntegerOk (runDef 3 3 b_is_integer c) := by
  intro i lo hi
  refine (?_ : ∃ r, runDef 3 3 b_is_integer c [.sh (.int i), .sh (.int lo), .sh (.int hi)] = some r ∧ r = .ret (.sh (.bl (decide (lo ≤ i ∧ i ≤ hi)))) [none, none, none]).elim fun r ⟨h1, h2⟩ => by rw [h1, h2]
  refine ev_run rfl (by walk_at "nE") ?_
  unfold b_is_integer
  refine ev_ret (ev_and (ev_un (ev_var rfl ⟨_, _, rfl, rfl, true, rfl, (fun _ => ?_), (fun h => nomatch h)⟩)))
  refine ev_and (ev_not (ev_un (ev_var rfl ⟨_, _, rfl, rfl, false, rfl, true, rfl, (fun _ => ?_), (fun h => nomatch h)⟩)))
  refine ev_chain (ev_var rfl (ev_var rfl ⟨_, _, decide (lo ≤ i), rfl, rfl, rfl, fun h => ?_, fun h => ?_⟩))
  · refine ev_var rfl ⟨_, _, _, rfl, rfl, rfl, _, _, rfl, _, rfl, ?_⟩
    have h := of_decide_eq_true h
    simp [h]
  · refine ⟨_, _, rfl, _, rfl, ?_⟩
    have h := of_decide_eq_false h
    simp [h]
/-! words -/
def W1 : Str := "ABCDEFGHIJKLMNOPQRSTUVWXYZabcdefghijklmnopqrstuvwxyz0123456789_"
def W2 : Str := "abcdefghijklmnopqrstuvwxyzABCDEFGHIJKLMNOPQRSTUVWXYZ0123456789_"
def isW (s : Str) : Bool := decide (1 ≤ s.length ∧ s.length ≤ 20) && s.cps.toList.all fun n => decide (n ∈ W1.cps.toList)
def WordOk (g : List Arg → Option CRes) : Prop := ∀ s : Str, s.length ≤ sizeLine → g [.sh (.str s)] = some (.ret (.sh (.bl (isW s))) [none])
theorem lenD_str {z : Str} (h : z.length ≤ sizeLine) : lenD [.str z] = some (.sh (.int z.length)) := if_pos h
def inW (W : Str) (d : D) : Bool := match d with
  | .str z => z.cps.toList.all fun n => decide (n ∈ W.cps.toList)
  | _ => false
theorem all_chars (W : Str) (p : List Nat) : (p.map fun n => D.str ⟨#[n]⟩).all (inW W) = p.all fun n => decide (n ∈ W.cps.toList) := by
  induction p with
  | nil => rfl
  | cons n p ih => rw [List.map_cons, List.all_cons, List.all_cons, ih]; congr 1; simp [inW]
theorem word_ok (c : CT) : WordOk (runDef 2 1 b_is_word c) := by
  intro s hs
  refine (?_ : ∃ r, runDef 2 1 b_is_word c [.sh (.str s)] = some r ∧ r = .ret (.sh (.bl (isW s))) [none]).elim fun r ⟨h1, h2⟩ => by rw [h1, h2]
  refine ev_run rfl (by walk_at "nE") ?_
  unfold b_is_word
  refine ev_cut (fun e => (1 ≤ s.length ∧ s.length ≤ 20) ∧ e = [some (.sh (.str s)), none]) ?_ ?_
  · walk_at "go"
    refine ⟨_, _, rfl, lenD_str hs, ?_⟩
    walk_at "go"
    · have e : isW s = false := by unfold isW; rw [decide_eq_false (by omega)]; rfl
      rw [e]
    · rfl
    · have e : isW s = false := by unfold isW; rw [decide_eq_false (by omega)]; rfl
      rw [e]
  · rintro e ⟨hl, rfl⟩
    have hw : isW s = (s.cps.toList.all fun n => decide (n ∈ W1.cps.toList)) := by unfold isW; rw [decide_eq_true hl, Bool.true_and]
    walk_at "go"
    refine ev_search (fun e => ∃ o : Option D, e = [some (.sh (.str s)), o.map Slot.sh]) (inW W1) (.sh (.bl false)) ⟨none, rfl⟩ ?_ ?_ ?_
    · rintro d hd e ⟨o, rfl⟩
      obtain ⟨n, _, rfl⟩ := List.mem_map.mp hd
      refine ⟨[some (.sh (.str s)), some (.sh (.str ⟨#[n]⟩))], by cases o <;> rfl, ?_⟩
      have hi : inW W1 (.str ⟨#[n]⟩) = decide (n ∈ W1.cps.toList) := by simp [inW]
      rw [hi]
      walk_at "go"
      · exact ⟨decide_eq_false (by assumption), rfl, some _, rfl⟩
      · exact ⟨decide_eq_true (by assumption), some _, rfl⟩
    · rintro ha e ⟨o, rfl⟩
      rw [all_chars] at ha
      walk_at "go"
      rw [hw, ha]
    · rintro ha e ⟨o, rfl⟩
      rw [all_chars] at ha
      refine ⟨[none], by cases o <;> rfl, ?_⟩
      rw [hw, ha]
theorem isW_len {s : Str} (h : isW s = true) : 1 ≤ s.length ∧ s.length ≤ 20 := by
  unfold isW at h
  exact of_decide_eq_true (Bool.and_eq_true_iff.mp h).1
theorem isW_ok {s : Str} (h : isW s = true) : PyData.strOk s = true := by
  unfold isW at h
  have h := List.all_eq_true.mp (Bool.and_eq_true_iff.mp h).2
  have hW : W1.cps.toList.all (fun n => decide (n < 0x110000)) = true := by decide +kernel
  unfold PyData.strOk
  rw [Array.all_eq_true']
  intro n hn
  exact List.all_eq_true.mp hW n (of_decide_eq_true (h n (by simpa using hn)))
/-! ### the schema -/
abbrev Tb := Str × Int
def tbD (t : Tb) : D := .tup [.str t.1, .int t.2]
def tbK (t : Tb) : Key × D := (.inr t.1, .int t.2)
structure GoodT (ts : List Tb) : Prop where
  len : ts.length ≤ 8
  word : ∀ t ∈ ts, isW t.1 = true
  wid : ∀ t ∈ ts, 1 ≤ t.2 ∧ t.2 ≤ 4
  nd : (ts.map (·.1)).Nodup
def namesD (ts : List Tb) : List D := ascD (ts.map fun t => .str t.1)
def schF (ts : List Tb) : List (Str × D) := [("names", .tup (namesD ts)), ("widths", .dk (ts.map tbK))]
def schD (ts : List Tb) : D := .ins "Schema" (schF ts)
def SchInitOk (g : List Arg → Option CRes) : Prop := ∀ (ts : List Tb) (a : Arg), GoodT ts → SeqP a (ts.map tbD) → g [.brw (.ins "Schema" []), a] = some (.ret (.sh .non) [some (.ins "Schema" (schF ts)), a.out])
theorem valD_none {κ : Type} [DecidableEq κ] {kvs : List (κ × D)} {k : κ} (h : ∀ p ∈ kvs, p.1 ≠ k) : valD kvs k = none := by
  unfold valD
  rw [List.find?_eq_none.mpr fun p hp => by simpa using h p hp]; rfl
theorem putD_new {κ : Type} [DecidableEq κ] {kvs : List (κ × D)} {k : κ} {d : D} (h : ∀ p ∈ kvs, p.1 ≠ k) : putD kvs k d = kvs ++ [(k, d)] := by
  unfold putD
  rw [if_neg]
  rw [List.any_eq_false.mpr fun p hp => by simpa using h p hp]
  decide
def kvD (d : D) : Key × D := match d with
  | .tup [.str n, w] => (.inr n, w)
  | _ => (.inl 0, .non)
def nmD (d : D) : Str := match d with
  | .tup [.str n, _] => n
  | _ => ""
theorem ascD_call {c : CT} {env : Env} {Q : Val → Env → Prop} {ds : List D} (h : Has c ("ascending", none) AscOk) {ok : D → Prop} (O : Ordd ok) (hd : ∀ d ∈ ds, ok d) (hl : ds.length ≤ 1000000) {fs : SA} (q : EvA (fs c env) fun vs e => vs = [.fr (.lst ds)] ∧ Q (.fr (.lst (ascD ds))) e) : EvE (eCallF ("ascending", none) [true] fs c env) Q := by
  obtain ⟨g, hg, k⟩ := h
  obtain ⟨vs, e, h1, rfl, h2⟩ := q
  exact ev_callF hg ⟨_, _, h1, _, _, rfl, rfl, _, rfl, _, _, k ok O ds (.sh (.lst ds)) (.inr (.inl rfl)) hd hl, _, rfl, _, putN_nil e 0, h2⟩
theorem schema_init_ok (c : CT) (ha : Has c ("ascending", none) AscOk) (hw : Has c ("is_word", none) WordOk) (hi : Has c ("is_integer", none) IntegerOk) : SchInitOk (runDef 5 2 b_Schema_init c) := by
  obtain ⟨gw, ew, kw⟩ := hw
  obtain ⟨gi, ei, ki⟩ := hi
  intro ts a G hs
  refine (?_ : ∃ r, runDef 5 2 b_Schema_init c [.brw (.ins "Schema" []), a] = some r ∧ r = .ret (.sh .non) [some (.ins "Schema" (schF ts)), a.out]).elim fun r ⟨h1, h2⟩ => by rw [h1, h2]
  refine ev_run (e0 := [some (.brw (.ins "Schema" [])), some a.slot, none, none, none]) rfl (by cases a <;> rfl) ?_
  unfold b_Schema_init
  refine ev_cut (fun e => e = [some (.brw (.ins "Schema" [])), some a.slot, none, none, none]) ?_ ?_
  · refine ev_if (ev_bin (ev_arg (ev_acons (ev_varP rfl fun v hv => ev_anil ⟨_, _, peeks1 hv, hs.len, ev_c ⟨_, _, _, rfl, rfl, rfl, _, rfl, fun h => ?_, fun _ => ev_nil rfl⟩⟩))))
    have h := of_decide_eq_true h
    have := G.len
    simp at h
    omega
  rintro e rfl
  refine ev_cut (fun e => e = [some (.brw (.ins "Schema" [])), some a.slot, some (.own (.dk [])), none, none]) (ev_set (ev_dic ⟨_, rfl, rfl⟩)) ?_
  rintro e rfl
  refine ev_cut (fun e => ∃ o3 o4 : Option D, e = [some (.brw (.ins "Schema" [])), some a.slot, some (.own (.dk (ts.map tbK))), o3.map Slot.sh, o4.map Slot.sh]) ?_ ?_
  · refine ev_forN hs (fun done e => ∃ o3 o4 : Option D, e = [some (.brw (.ins "Schema" [])), some a.slot, some (.own (.dk (done.map kvD))), o3.map Slot.sh, o4.map Slot.sh]) ⟨none, none, rfl⟩ rfl (by rintro done e ⟨o3, o4, rfl⟩; rfl) ?_ ?_
    · rintro done d rest e hd ⟨o3, o4, rfl⟩
      have hm : d ∈ ts.map tbD := by rw [hd]; simp
      obtain ⟨t, ht, rfl⟩ := List.mem_map.mp hm
      have nd : ∀ x ∈ done, nmD x ≠ t.1 := by
        have h0 := G.nd
        have e0 : ts.map (·.1) = (ts.map tbD).map nmD := by rw [List.map_map]; rfl
        rw [e0, hd, List.map_append, List.map_cons] at h0
        intro x hx e
        exact (List.nodup_append.mp h0).2.2 _ (List.mem_map_of_mem hx) _ List.mem_cons_self e
      have hdone : ∀ p ∈ done.map kvD, p.1 ≠ Sum.inr t.1 := by
        intro p hp
        obtain ⟨x, hx, rfl⟩ := List.mem_map.mp hp
        have hx2 : x ∈ ts.map tbD := by rw [hd]; exact List.mem_append_left _ hx
        obtain ⟨u, _, rfl⟩ := List.mem_map.mp hx2
        intro e
        exact nd _ hx (Sum.inr.inj e)
      have hlen : (done.map kvD).length < sizeLine := by
        have h1 := congrArg List.length hd
        have := G.len
        simp at h1 ⊢
        rw [sizeL]; omega
      refine ⟨[some (.brw (.ins "Schema" [])), some a.slot, some (.own (.dk (done.map kvD))), some (.sh (.str t.1)), some (.sh (.int t.2))], by cases o3 <;> cases o4 <;> rfl, ?_⟩
      have w20 := isW_len (G.word t ht)
      refine ev_seq (ev_if (ev_not (ev_call ew (ev_acons (ev_var rfl (ev_anil ⟨_, _, _, _, rfl, kw t.1 (by rw [sizeL]; omega), _, rfl, _, rfl, fun h => ?_, fun _ => ev_nil ?_⟩))))))
      · rw [G.word t ht] at h; cases h
      refine ev_seq (ev_if (ev_not (ev_call ei (ev_acons (ev_var rfl (ev_acons (ev_c (ev_acons (ev_c (ev_anil ⟨_, _, _, _, rfl, ki t.2 1 4, _, rfl, _, rfl, fun h => ?_, fun _ => ev_nil ?_⟩))))))))))
      · rw [decide_eq_true (G.wid t ht)] at h; cases h
      have hin : inX (.str t.1) (.dk (done.map kvD)) = some (.sh (.bl false)) := by
        show (some (valD (done.map kvD) (Sum.inr t.1)).isSome).map _ = _
        rw [valD_none hdone]; rfl
      refine ev_seq (ev_if (ev_bin (ev_var rfl (ev_var rfl ⟨_, _, _, rfl, rfl, hin, false, rfl, (fun h => nomatch h), fun _ => ev_nil ?_⟩))))
      have hp : putC (.dk (done.map kvD)) (.str t.1) (.int t.2) = some (.dk ((done ++ [tbD t]).map kvD)) := by
        show (if _ then _ else _) = _
        rw [if_pos hlen, putD_new hdone, List.map_append]; rfl
      exact ev_put (ev_var rfl ⟨_, _, _, rfl, rfl, ev_var rfl ⟨_, _, _, rfl, rfl, hp, _, rfl, some _, some _, rfl⟩⟩)
    · rintro e ⟨o3, o4, rfl⟩
      refine ⟨o3, o4, ?_⟩
      rw [List.map_map]; rfl
  rintro e ⟨o3, o4, rfl⟩
  have hlx : listX [.dk (ts.map tbK)] = some (.fr (.lst (ts.map fun t => .str t.1))) := by
    show some (Val.fr (.lst ((ts.map tbK).map _))) = _
    rw [List.map_map]; rfl
  refine ev_seq (ev_fldO (ev_arg (ev_acons ?_)))
  refine ascD_call ha (ds := ts.map fun t => .str t.1) ord_str ?_ ?_ ?_
  · intro d hd
    obtain ⟨t, ht, rfl⟩ := List.mem_map.mp hd
    exact ⟨_, rfl, isW_ok (G.word t ht)⟩
  · have := G.len
    simp; omega
  refine ev_acons (ev_arg (ev_acons (ev_var rfl (ev_anil ⟨_, _, rfl, hlx, ev_anil ⟨rfl, ev_anil ⟨_, _, rfl, rfl, _, _, _, _, rfl, rfl, ?_, _, rfl, ?_⟩⟩⟩))))
  · exact ⟨by decide, by decide⟩
  refine ev_fldO (ev_var rfl ⟨_, _, _, _, rfl, rfl, ?_, _, rfl, _, ?_, rfl⟩)
  · exact ⟨by decide, by show 1 < 1000; decide⟩
  rcases hs with rfl | rfl | rfl <;> rfl
theorem valD_of {κ : Type} [DecidableEq κ] : ∀ {kvs : List (κ × D)} {k : κ} {d : D}, (kvs.map (·.1)).Nodup → (k, d) ∈ kvs → valD kvs k = some d
  | [], _, _, _, h => nomatch h
  | p :: kvs, k, d, nd, h => by
    obtain ⟨h1, h2⟩ := List.nodup_cons.mp (show (p.1 :: kvs.map (·.1)).Nodup from nd)
    unfold valD
    rw [List.find?_cons]
    rcases List.mem_cons.mp h with rfl | h
    · simp
    · have hne : p.1 ≠ k := fun e => h1 (by rw [e]; exact List.mem_map_of_mem (f := (·.1)) h)
      rw [decide_eq_false hne]
      exact valD_of h2 h
theorem nd_map {α β : Type} {f : α → β} (hf : ∀ a b, f a = f b → a = b) {xs : List α} (h : xs.Nodup) : (xs.map f).Nodup :=
  List.pairwise_map.mpr (h.imp fun hne e => hne (hf _ _ e))
theorem GoodT.ndK {ts : List Tb} (G : GoodT ts) : ((ts.map tbK).map (·.1)).Nodup := by
  rw [List.map_map]
  have e : ts.map ((·.1) ∘ tbK) = (ts.map (·.1)).map (Sum.inr : Str → Key) := by rw [List.map_map]; rfl
  rw [e]
  exact nd_map (fun a b h => Sum.inr.inj h) G.nd
theorem GoodT.val {ts : List Tb} (G : GoodT ts) {t : Tb} (h : t ∈ ts) : valD (ts.map tbK) (.inr t.1) = some (.int t.2) := valD_of G.ndK (List.mem_map_of_mem (f := tbK) h)
abbrev clL : List Str := cl
theorem namesD_mem {ts : List Tb} (G : GoodT ts) (d : D) : d ∈ namesD ts ↔ ∃ t ∈ ts, d = .str t.1 := by
  unfold namesD
  rw [(ascD_ok ord_str fun d hd => by
    obtain ⟨t, ht, rfl⟩ := List.mem_map.mp hd
    exact ⟨_, rfl, isW_ok (G.word t ht)⟩).2, List.mem_map]
  constructor
  · rintro ⟨t, h, e⟩; exact ⟨t, h, e.symm⟩
  · rintro ⟨t, h, e⟩; exact ⟨t, h, e.symm⟩
theorem namesD_pl {ts : List Tb} (G : GoodT ts) : ∀ d ∈ namesD ts, Pl 60 d := fun d hd => by
  obtain ⟨t, ht, rfl⟩ := (namesD_mem G d).mp hd
  exact isW_ok (G.word t ht)
/-! ### rows -/
def RowOk (ts : List Tb) (r : Row) : Prop := ∃ t ∈ ts, t.1 = r.1 ∧ (r.2.length : Int) = t.2 ∧ ∀ v ∈ r.2, 0 ≤ v
theorem RowOk.str {ts : List Tb} (G : GoodT ts) {r : Row} (h : RowOk ts r) : PyData.strOk r.1 = true := by
  obtain ⟨t, ht, e, _⟩ := h
  rw [← e]; exact isW_ok (G.word t ht)
theorem RowOk.ok {ts : List Tb} (G : GoodT ts) {r : Row} (h : RowOk ts r) : okRow (rowD r) := ⟨r, rfl, h.str G⟩
theorem ownG_ins {m : Str} {c : CT} {env : Env} {C : Str} {fl : List (Str × D)} {g : List Arg → Option CRes} (h : (fl.lookup m).isNone = true) (hg : c (C, some m) = some g) : ownG m c env (.sh (.ins C fl)) = some g := by
  unfold ownG selfOf
  rw [Option.bind_some, if_pos h, hg]
structure Plain where
  rows : List Row
  head : List Int
  size : Nat
def patF (ts : List Tb) (p : Plain) : List (Str × D) := [("schema", schD ts), ("rows", .tup (p.rows.map rowD)), ("head", .tup (p.head.map .int)), ("size", .int p.size)]
def patD (ts : List Tb) (p : Plain) : D := .ins "Pattern" (patF ts p)
structure PlainOk (ts : List Tb) (p : Plain) : Prop where
  rows : ∀ r ∈ p.rows, RowOk ts r
  asc : SAsc (p.rows.map rowD)
  used : ∀ v : Int, (v ∈ p.head ∨ ∃ r ∈ p.rows, v ∈ r.2) ↔ 0 ≤ v ∧ v < p.size
  hl : p.head.length ≤ 4
  rl : p.rows.length ≤ 600
  sl : p.size ≤ 300
/-! sets of numbers, as the keys of a dict -/
def addN (ks : List Int) (v : Int) : List Int := if v ∈ ks then ks else ks ++ [v]
structure UI (n : Nat) (ks : List Int) (S : Int → Prop) : Prop where
  nd : ks.Nodup
  bd : ∀ v ∈ ks, 0 ≤ v ∧ v < n
  mem : ∀ v, v ∈ ks ↔ S v
theorem UI.len {n : Nat} {ks : List Int} {S : Int → Prop} (h : UI n ks S) : ks.length ≤ n := by
  have := nd_len (ys := (List.range n).map Int.ofNat) h.nd fun v hv => by
    have := h.bd v hv
    exact List.mem_map.mpr ⟨v.toNat, List.mem_range.mpr (by omega), by show ((v.toNat : Nat) : Int) = v; omega⟩
  simpa using this
theorem UI.add {n : Nat} {ks : List Int} {S : Int → Prop} (h : UI n ks S) {v : Int} (hv : 0 ≤ v ∧ v < n) {S' : Int → Prop} (hS : ∀ x, S' x ↔ S x ∨ x = v) : UI n (addN ks v) S' := by
  unfold addN
  by_cases hm : v ∈ ks
  · rw [if_pos hm]
    exact ⟨h.nd, h.bd, fun x => by
      rw [hS, h.mem]
      refine ⟨.inl, fun q => q.elim id fun e => ?_⟩
      rw [e, ← h.mem]; exact hm⟩
  · rw [if_neg hm]
    refine ⟨List.nodup_append.mpr ⟨h.nd, by simp, fun a ha b hb e => hm ?_⟩, fun x hx => ?_, fun x => ?_⟩
    · rw [List.mem_singleton.mp hb] at e
      rw [← e]; exact ha
    · rcases List.mem_append.mp hx with hx | hx
      · exact h.bd x hx
      · rw [List.mem_singleton.mp hx]; exact hv
    · rw [List.mem_append, h.mem, hS, List.mem_singleton]
/-! the call of ascending with a parameter -/
/-- are two patterns one? -/
def PatSame (ts us : List Tb) (p q : Plain) : Prop := (∀ t, t ∈ ts ↔ t ∈ us) ∧ p.rows = q.rows ∧ p.head = q.head
structure PatEqOk (g : List Arg → Option CRes) : Prop where
  eq : ∀ (ts us : List Tb) (p q : Plain), GoodT ts → GoodT us → PlainOk ts p → PlainOk us q → ∃ k, g [.sh (patD ts p), .sh (patD us q)] = some (.ret (.sh (.bl k)) [none, none]) ∧ (k = true ↔ PatSame ts us p q)
  ne : ∀ (ts : List Tb) (p : Plain) (d : D), tyOk clL d = true → (∀ fl, d ≠ .ins "Pattern" fl) → g [.sh (patD ts p), .sh d] = some (.ret (.sh (.bl false)) [none, none])
theorem callP_2 {g : List Arg → Option CRes} {env : Env} {Q : Val → Env → Prop} {a b : D} {fl : List Bool} {r : RV} {outs : List (Option Cell)} (h : g [.sh a, .sh b] = some (.ret r outs)) (q : Q r.val env) : CallP g env [.sh a, .sh b] fl Q := callP_sh (ds := [a, b]) h q
/-- is the argument this data? -/
def ArgIs (a : Arg) (d : D) : Prop := a.d = d
theorem same_int (c : CT) (i : Int) : runDef 3 2 b_law_same c [.sh (.int i), .sh (.int i)] = some (.ret (.sh (.bl true)) [none, none]) := by
  refine (?_ : ∃ r, runDef 3 2 b_law_same c [.sh (.int i), .sh (.int i)] = some r ∧ r = .ret (.sh (.bl true)) [none, none]).elim fun r ⟨h1, h2⟩ => by rw [h1, h2]
  refine ev_run (e0 := [some (.sh (.int i)), some (.sh (.int i)), none]) rfl rfl ?_
  unfold b_law_same
  walk_at "go"
  simp
theorem same_str (c : CT) (i : Str) : runDef 3 2 b_law_same c [.sh (.str i), .sh (.str i)] = some (.ret (.sh (.bl true)) [none, none]) := by
  refine (?_ : ∃ r, runDef 3 2 b_law_same c [.sh (.str i), .sh (.str i)] = some r ∧ r = .ret (.sh (.bl true)) [none, none]).elim fun r ⟨h1, h2⟩ => by rw [h1, h2]
  refine ev_run (e0 := [some (.sh (.str i)), some (.sh (.str i)), none]) rfl rfl ?_
  unfold b_law_same
  walk_at "go"
  simp
theorem ArgIs.int {a : Arg} {i : Int} (h : ArgIs a (.int i)) : a = .sh (.int i) := by
  cases a with
  | sh d => cases h; rfl
  | brw cl => cases cl <;> cases h
theorem ArgIs.str {a : Arg} {i : Str} (h : ArgIs a (.str i)) : a = .sh (.str i) := by
  cases a with
  | sh d => cases h; rfl
  | brw cl => cases cl <;> cases h
/-! ### the law's sort -/
def plD (p : Plain) : D := .tup [.lst (p.rows.map rowD), .tup (p.head.map .int), .int p.size]
structure CloseIn (ts : List Tb) (rws : List Row) (head lst : List Int) : Prop where
  rows : ∀ r ∈ rws, RowOk ts r
  nd : lst.Nodup
  hin : ∀ v ∈ head, v ∈ lst
  rin : ∀ r ∈ rws, ∀ v ∈ r.2, v ∈ lst
  hl : head.length ≤ 4
  rl : rws.length ≤ 600
  ll : lst.length ≤ 300
theorem RowOk.len {ts : List Tb} (G : GoodT ts) {r : Row} (h : RowOk ts r) : 1 ≤ r.2.length ∧ r.2.length ≤ 4 := by
  obtain ⟨t, ht, _, e, _⟩ := h
  have := G.wid t ht
  omega
/-! ### equal -/
theorem PatSame.symm {ts us : List Tb} {p q : Plain} (h : PatSame ts us p q) : PatSame us ts q p := ⟨fun t => (h.1 t).symm, h.2.1.symm, h.2.2.symm⟩
/-! ### mixed -/
/-- a draw with a number -/
theorem ev_drawV {c : CT} {env : Env} {Q : Val → Env → Prop} {i : Nat} {fn : SE} {cl : Cell} (hd : Has c ("_law_draw", none) DrawOk) (hi : eVar i c env = some (.val (.var i) env)) (g : Good cl)
    (h : EvE (fn c env) fun v e => ∃ n : Int, v = .sh (.int n) ∧ cellAt e i = some cl ∧ n < 1073741824 ∧ ∃ F : Cell → Env, (∀ cl', putCell e i cl' = F cl') ∧ ∀ (r : Int) cl', Good cl' → 0 ≤ r → (r < n ∨ r = 0) → Q (.sh (.int r)) (F cl')) : EvE (eCallB ("_law_draw", none) (aCons (eVar i) (aCons fn aNil)) c env) Q := by
  obtain ⟨v, e, h1, n, rfl, h2, h3, F, h4, q⟩ := h
  exact ev_draw hd (ev_acons (ev_var hi (ev_acons ⟨_, e, h1, ev_anil ⟨i, _, n, cl, rfl, rfl, rfl, h2, g, h3, F, h4, q⟩⟩)))
def hE (ts us : List Tb) (p : Plain) (ex : Str) (s4 : Option Slot) (o5 o6 : Option D) : Env := [some (.sh (patD ts p)), some (.sh (schD us)), some (.sh (plD p)), some (.sh (.str ex)), s4, o5.map Slot.sh, o6.map Slot.sh, none]
/-! ### texts of single characters -/
def ChrW (d : D) : Prop := ∃ n : Nat, n ∈ W2.cps.toList ∧ d = .str ⟨#[n]⟩
theorem glued_cps : ∀ (parts : List Str), (Builtin.Str.glued "" parts).cps.toList = (parts.map (·.cps.toList)).flatten := by
  have key : ∀ (parts : List Str) (acc : Array Nat), (parts.foldl (fun acc (p : Str) => acc ++ ("" : Str).cps ++ p.cps) acc).toList = acc.toList ++ (parts.map (·.cps.toList)).flatten := by
    intro parts
    induction parts with
    | nil => intro acc; simp
    | cons p parts ih =>
      intro acc
      rw [List.foldl_cons, ih]
      have e : ("" : Str).cps = #[] := by decide
      rw [e]
      simp
  intro parts
  cases parts with
  | nil => rfl
  | cons p parts =>
    show (parts.foldl (fun acc (p : Str) => acc ++ ("" : Str).cps ++ p.cps) p.cps).toList = _
    rw [key]; simp
theorem strs_chrW : ∀ ys : List D, (∀ y ∈ ys, ChrW y) → ∃ ss : List Str, strsOf ys = some ss ∧ ss.length = ys.length ∧ (ss.map (·.length)).sum = ys.length ∧ ((ss.map (·.cps.toList)).flatten).length = ys.length ∧ ∀ n ∈ (ss.map (·.cps.toList)).flatten, n ∈ W2.cps.toList
  | [], _ => ⟨[], rfl, rfl, rfl, rfl, fun _ h => nomatch h⟩
  | y :: ys, h => by
    obtain ⟨n, hn, rfl⟩ := h _ List.mem_cons_self
    obtain ⟨ss, h1, h2, h3, h4, h5⟩ := strs_chrW ys fun z hz => h z (List.mem_cons_of_mem _ hz)
    refine ⟨⟨#[n]⟩ :: ss, ?_, by simp [h2], ?_, ?_, ?_⟩
    · show (strsOf ys).map (_ :: ·) = _
      rw [h1]; rfl
    · rw [List.map_cons, List.sum_cons, h3]
      show 1 + ys.length = ys.length + 1
      omega
    · rw [List.map_cons, List.flatten_cons, List.length_append, h4]
      show 1 + ys.length = ys.length + 1
      omega
    · intro m hm
      rw [List.map_cons, List.flatten_cons] at hm
      rcases List.mem_append.mp hm with hm | hm
      · have hm : m ∈ [n] := hm
        rw [List.mem_singleton.mp hm]; exact hn
      · exact h5 m hm
theorem join_chrW (ys : List D) (h : ∀ y ∈ ys, ChrW y) (hl : ys.length ≤ 16777216) : ∃ z : Str, joinD "" (.lst ys) = some (.sh (.str z)) ∧ z.length = ys.length ∧ ∀ n ∈ z.cps.toList, n ∈ W2.cps.toList := by
  obtain ⟨ss, h1, h2, h3, h4, h5⟩ := strs_chrW ys h
  have e0 : (("" : Str)).length = 0 := by decide
  have e1 : (Txt.join "" ss).cps.toList = (ss.map (·.cps.toList)).flatten := glued_cps ss
  refine ⟨Txt.join "" ss, ?_, ?_, ?_⟩
  · show (strsOf ys).bind _ = _
    rw [h1]
    show (if _ then _ else _) = _
    rw [h3, e0, if_pos (by omega)]
  · show (Txt.join "" ss).cps.size = _
    rw [← Array.length_toList, e1, h4]
  · rw [e1]; exact h5
theorem w12 : ∀ n : Nat, n ∈ W1.cps.toList ↔ n ∈ W2.cps.toList := fun n =>
  ⟨fun h => (List.all_eq_true.mp (by decide +kernel : (W1.cps.toList.all fun n => decide (n ∈ W2.cps.toList)) = true) n h) |> of_decide_eq_true, fun h => (List.all_eq_true.mp (by decide +kernel : (W2.cps.toList.all fun n => decide (n ∈ W1.cps.toList)) = true) n h) |> of_decide_eq_true⟩
theorem isW_mk {z : Str} (h1 : 1 ≤ z.length) (h2 : z.length ≤ 20) (h : ∀ n ∈ z.cps.toList, n ∈ W2.cps.toList) : isW z = true := by
  unfold isW
  rw [decide_eq_true ⟨h1, h2⟩, Bool.true_and]
  exact List.all_eq_true.mpr fun n hn => decide_eq_true ((w12 n).mpr (h n hn))
theorem isW_chr {z : Str} (h : isW z = true) : ∀ n ∈ z.cps.toList, n ∈ W2.cps.toList := by
  unfold isW at h
  exact fun n hn => (w12 n).mp (of_decide_eq_true (List.all_eq_true.mp (Bool.and_eq_true_iff.mp h).2 n hn))
def LWordOk (g : List Arg → Option CRes) : Prop := ∀ cl : Cell, Good cl → ∃ cl' s, g [.brw cl] = some (.ret (.sh (.str s)) [some cl']) ∧ Good cl' ∧ isW s = true
theorem law_word_ok (c : CT) (hd : Has c ("_law_draw", none) DrawOk) : LWordOk (runDef 4 1 b_law_word c) := by
  intro cl hg
  refine (?_ : ∃ r, runDef 4 1 b_law_word c [.brw cl] = some r ∧ ∃ cl' s, r = .ret (.sh (.str s)) [some cl'] ∧ Good cl' ∧ isW s = true).elim fun r ⟨h1, cl', s, h2, h3⟩ => ⟨cl', s, by rw [h1, h2], h3⟩
  refine ev_run (e0 := [some (.brw cl), none, none, none]) rfl rfl ?_
  unfold b_law_word
  refine ev_seq (ev_set (ev_c ⟨[some (.brw cl), some (.sh (.str W2)), none, none], rfl, ?_⟩))
  refine ev_cut (fun e => ∃ cl, ∃ n : Int, e = [some (.brw cl), some (.sh (.str W2)), some (.sh (.int n)), none] ∧ Good cl ∧ 1 ≤ n ∧ n ≤ 20) ?_ ?_
  · refine ev_set (ev_bin (ev_c (ev_drawV hd rfl hg (ev_c ⟨_, rfl, rfl, by decide, fun cl' => [some (.brw cl'), some (.sh (.str W2)), none, none], fun _ => rfl, fun r cl' hg' h0 h1 => ⟨_, _, _, rfl, rfl, rfl, _, rfl, cl', 1 + r, rfl, hg', by omega, by omega⟩⟩))))
  rintro e ⟨cl, n, rfl, hg, h1, h2⟩
  refine ev_cut (fun e => ∃ cl, ∃ n : Int, e = [some (.brw cl), some (.sh (.str W2)), some (.sh (.int n)), none] ∧ Good cl ∧ 1 ≤ n ∧ n ≤ 20) ?_ ?_
  · refine ev_if (ev_bin (ev_drawV hd rfl hg (ev_c ⟨_, rfl, rfl, by decide, fun cl' => [some (.brw cl'), some (.sh (.str W2)), some (.sh (.int n)), none], fun _ => rfl, fun r cl' hg' h0 h1 => ev_c ⟨_, _, _, rfl, rfl, rfl, _, rfl, fun _ => ?_, fun _ => ev_nil ⟨cl', n, rfl, hg', by omega, by omega⟩⟩⟩)))
    refine ev_set (ev_bin (ev_c (ev_drawV hd rfl hg' (ev_c ⟨_, rfl, rfl, by decide, fun cl' => [some (.brw cl'), some (.sh (.str W2)), some (.sh (.int n)), none], fun _ => rfl, fun r cl' hg' h0 h1 => ⟨_, _, _, rfl, rfl, rfl, _, rfl, cl', 1 + r, rfl, hg', by omega, by omega⟩⟩))))
  clear h1 h2
  rintro e ⟨cl, n, rfl, hg, h1, h2⟩
  refine ev_ret (ev_strM (ev_c (ev_lc (ev_range1 (ev_acons (ev_var rfl (ev_anil ⟨n, rfl, ⟨by omega, by omega⟩, rfl, [some (.brw cl), some (.sh (.str W2)), some (.sh (.int n)), none], rfl, ?_⟩)))))))
  obtain ⟨ys, e', k1, ⟨cl', rfl, hg'⟩, k3, k4⟩ := lc_some (c := c) (env := [some (.brw cl), some (.sh (.str W2)), some (.sh (.int n)), none]) (g := gNm 3) (f := eBin ixD (eVar 1) (eCallB ("_law_draw", none) (aCons (eVar 0) (aCons (eC (.int 63)) aNil))) c) (vs := [3]) (ds := (List.range n.toNat).map fun k => D.int (0 + (k : Nat)))
    (fun e => ∃ cl, e = [some (.brw cl), some (.sh (.str W2)), some (.sh (.int n)), none] ∧ Good cl) ChrW (by simp; rw [sizeL]; omega) ⟨cl, rfl, hg⟩ (by
      rintro d hd' e ⟨cl, rfl, hg⟩
      refine ⟨[some (.brw cl), some (.sh (.str W2)), some (.sh (.int n)), some (.sh d)], rfl, ?_⟩
      refine ev_bin (ev_var rfl (ev_drawV hd rfl hg (ev_c ⟨_, rfl, rfl, by decide, fun cl' => [some (.brw cl'), some (.sh (.str W2)), some (.sh (.int n)), some (.sh d)], fun _ => rfl, fun r cl' hg' h0 h1 => ?_⟩)))
      obtain ⟨m, hm, hx⟩ := ixD_str (z := W2) (i := r) h0 (by rw [show W2.length = 63 from by decide]; omega) (by rw [sizeL]; decide)
      exact ⟨_, _, _, rfl, rfl, hx, _, _, rfl, ⟨cl', rfl, hg'⟩, m, hm, rfl⟩)
  obtain ⟨z, j1, j2, j3⟩ := join_chrW ys k4 (by rw [k3]; simp; omega)
  have hzl : z.length = n.toNat := by rw [j2, k3]; simp
  exact ⟨_, _, k1, _, rfl, _, _, _, rfl, rfl, j1, _, _, rfl, _, rfl, cl', z, rfl, hg', isW_mk (by omega) (by omega) j3⟩
/-! ### the pool -/
theorem cutS19 (z : Str) : (cutS z none (some 19)).cps.toList = z.cps.toList.take 19 := by
  show ((z.cps.toList.drop 0).take (HT.sIx z.length z.length (some ((19 : Nat) : Int)) - 0)).toArray.toList = _
  rw [HT.sIx_nat]
  simp only [List.drop_zero, Nat.sub_zero]
  have : z.length = z.cps.toList.length := by simp [Str.length]
  by_cases h : z.length ≤ 19
  · rw [Nat.min_eq_right h, List.take_of_length_le (by omega), List.take_of_length_le (by omega)]
  · rw [Nat.min_eq_left (by omega)]
def candM (b : Bool) (p19 : Str) (m : Nat) : Str := if b = true then p19 ++ (⟨#[m]⟩ : Str) else (⟨#[m]⟩ : Str) ++ p19
theorem str_app (a b : Str) : (a ++ b).cps.toList = a.cps.toList ++ b.cps.toList := by
  show (a.cps ++ b.cps).toList = _
  simp
theorem candM_inj {b : Bool} {p19 : Str} {m m' : Nat} (h : candM b p19 m = candM b p19 m') : m = m' := by
  have h := congrArg (fun s : Str => s.cps.toList) h
  unfold candM at h
  cases b with
  | true =>
    simp only [if_true, str_app] at h
    have := (List.append_inj h rfl).2
    simpa using this
  | false =>
    simp only [Bool.false_eq_true, if_false, str_app] at h
    have := (List.append_inj' h rfl).1
    simpa using this
theorem candM_w {b : Bool} {pl : Str} {m : Nat} (hp : isW pl = true) (hm : m ∈ W2.cps.toList) : isW (candM b (cutS pl none (some 19)) m) = true := by
  have hl : (cutS pl none (some 19)).cps.toList.length ≤ 19 := by rw [cutS19]; simp; omega
  have hc : ∀ n ∈ (cutS pl none (some 19)).cps.toList, n ∈ W2.cps.toList := fun n hn => isW_chr hp n (by rw [cutS19] at hn; exact List.mem_of_mem_take hn)
  have len : ∀ z : Str, z.length = z.cps.toList.length := fun z => by simp [Str.length]
  unfold candM
  cases b with
  | true =>
    simp only [if_true]
    refine isW_mk (by rw [len, str_app]; simp) (by rw [len, str_app]; simp at hl ⊢; omega) fun n hn => ?_
    rw [str_app] at hn
    rcases List.mem_append.mp hn with hn | hn
    · exact hc n hn
    · have hn : n ∈ [m] := hn
      rw [List.mem_singleton.mp hn]; exact hm
  | false =>
    simp only [Bool.false_eq_true, if_false]
    refine isW_mk (by rw [len, str_app]; simp) (by rw [len, str_app]; simp at hl ⊢; omega) fun n hn => ?_
    rw [str_app] at hn
    rcases List.mem_append.mp hn with hn | hn
    · have hn : n ∈ [m] := hn
      rw [List.mem_singleton.mp hn]; exact hm
    · exact hc n hn
theorem strs_pl {ws : List Str} (h : ∀ w ∈ ws, isW w = true) : ∀ d ∈ ws.map D.str, Pl 1 d := fun d hd => by
  obtain ⟨w, hw, rfl⟩ := List.mem_map.mp hd
  exact isW_ok (h w hw)
theorem in_strsL {w : Str} {ws : List Str} (hw : isW w = true) (h : ∀ w ∈ ws, isW w = true) : inX (.str w) (.lst (ws.map .str)) = some (.sh (.bl (decide (w ∈ ws)))) := by
  obtain ⟨k, h1, h2⟩ := pl_inL (n := 1) (d := .str w) (xs := ws.map .str) (by decide) (isW_ok hw) (strs_pl h)
  rw [h1]
  congr 3
  rw [Bool.eq_iff_iff, h2, decide_eq_true_eq]
  simp
def Marks : Str := "abcdefghijkl"
def LPoolOk (g : List Arg → Option CRes) : Prop := ∀ (cl : Cell) (n : Nat), Good cl → n ≤ 11 → ∃ (cl' : Cell) (ws : List Str), g [.brw cl, .sh (.int n)] = some (.ret (.fr (.lst (ws.map .str))) [some cl', none]) ∧ Good cl' ∧ ws.length = n ∧ (∀ w ∈ ws, isW w = true) ∧ ws.Nodup
def plE (cl : Cell) (n : Nat) (ws : List Str) (o3 o4 o5 o6 o7 : Option D) : Env := [some (.brw cl), some (.sh (.int n)), some (.own (.lst (ws.map .str))), o3.map Slot.sh, o4.map Slot.sh, o5.map Slot.sh, o6.map Slot.sh, o7.map Slot.sh]
theorem law_pool_ok (c : CT) (hw : Has c ("_law_word", none) LWordOk) (hd : Has c ("_law_draw", none) DrawOk) : LPoolOk (runDef 8 2 b_law_pool c) := by
  obtain ⟨gw, ew, kw⟩ := hw
  intro cl n hg hn
  refine (?_ : ∃ r, runDef 8 2 b_law_pool c [.brw cl, .sh (.int n)] = some r ∧ ∃ (cl' : Cell) (ws : List Str), r = .ret (.fr (.lst (ws.map .str))) [some cl', none] ∧ Good cl' ∧ ws.length = n ∧ (∀ w ∈ ws, isW w = true) ∧ ws.Nodup).elim fun r ⟨h1, cl', ws, h2, h3⟩ => ⟨cl', ws, by rw [h1, h2], h3⟩
  refine ev_run (e0 := [some (.brw cl), some (.sh (.int n)), none, none, none, none, none, none]) rfl rfl ?_
  unfold b_law_pool
  refine ev_seq (ev_set (ev_list (ev_anil ⟨[], _, rfl, by rw [sizeL]; simp, plE cl n [] none none none none none, rfl, ?_⟩)))
  refine ev_cut (fun e => ∃ cl ws o3 o4 o5 o6 o7, e = plE cl n ws o3 o4 o5 o6 o7 ∧ Good cl ∧ ws.length = n ∧ (∀ w ∈ ws, isW w = true) ∧ ws.Nodup) ?_ ?_
  · refine ev_for (ev_range1 (ev_acons (ev_var rfl (ev_anil ⟨_, rfl, ⟨by omega, by omega⟩, ?_⟩))))
    refine ev_loop (fun done e => ∃ cl ws o3 o4 o5 o6 o7, e = plE cl n ws o3 o4 o5 o6 o7 ∧ Good cl ∧ ws.length = done.length ∧ (∀ w ∈ ws, isW w = true) ∧ ws.Nodup) ⟨cl, [], none, none, none, none, none, rfl, hg, rfl, (fun _ h => nomatch h), List.nodup_nil⟩ ?_ ?_
    · rintro done d rest e he ⟨cl, ws, o3, o4, o5, o6, o7, rfl, hg, hlen, hws, nd⟩
      have hwl : ws.length < 11 := by
        have := congrArg List.length he
        simp at this; omega
      refine ⟨plE cl n ws (some d) o4 o5 o6 o7, by cases o3 <;> rfl, ?_⟩
      obtain ⟨cl1, pl, q1, hg1, hpl⟩ := kw cl hg
      refine ev_seq (ev_set (ev_callB ew (ev_acons (ev_var rfl (ev_anil ⟨0, [], [], _, cl, _, cl1, [], rfl, rfl, rfl, q1, plE cl1 n ws (some d) (some (.str pl)) o5 o6 o7, by cases o4 <;> rfl, ?_⟩)))))
      refine ev_seq (ev_set (ev_drawV hd rfl hg1 (ev_c ⟨_, rfl, rfl, by decide, fun cl' => plE cl' n ws (some d) (some (.str pl)) o5 o6 o7, fun _ => rfl, fun r cl' hg' h0 h1 => ⟨plE cl' n ws (some d) (some (.str pl)) (some (.int r)) o6 o7, by cases o5 <;> rfl, ?_⟩⟩)))
      refine ev_seq (ev_set (ev_var rfl ⟨plE cl' n ws (some d) (some (.str pl)) (some (.int r)) (some (.str pl)) o7, by cases o6 <;> rfl, ?_⟩))
      have hplen := isW_len hpl
      have hsl : sliceD (.str pl) none (some 19) = some (.sh (.str (cutS pl none (some 19)))) := if_pos (by rw [sizeL]; omega)
      have hcl : (cutS pl none (some 19)).length ≤ 20 := Nat.le_trans (cutS_length _ _ _) hplen.2
      refine ev_cut (fun e => ∃ here o7, e = plE cl' n ws (some d) (some (.str pl)) (some (.int r)) (some (.str here)) o7 ∧ isW here = true ∧ here ∉ ws) ?_ ?_
      · refine ev_for (ev_seqI (ev_c ⟨.str Marks, _, Marks.cps.toList.map fun n => D.str ⟨#[n]⟩, rfl, rfl, ?_⟩))
        refine ev_loop (fun done e => ∃ here o7, e = plE cl' n ws (some d) (some (.str pl)) (some (.int r)) (some (.str here)) o7 ∧ isW here = true ∧ (here ∈ ws → ∀ m : Nat, D.str ⟨#[m]⟩ ∈ done → candM (decide (r = 1)) (cutS pl none (some 19)) m ∈ ws)) ⟨pl, o7, rfl, hpl, by simp⟩ ?_ ?_
        · rintro done2 x rest2 e hd2 ⟨here, o7, rfl, hhere, hc⟩
          obtain ⟨m, hm, rfl⟩ := List.mem_map.mp (show x ∈ Marks.cps.toList.map fun n => D.str ⟨#[n]⟩ by rw [hd2]; simp)
          have hmw : m ∈ W2.cps.toList := of_decide_eq_true (List.all_eq_true.mp (by decide +kernel : (Marks.cps.toList.all fun n => decide (n ∈ W2.cps.toList)) = true) m hm)
          refine ⟨plE cl' n ws (some d) (some (.str pl)) (some (.int r)) (some (.str here)) (some (.str ⟨#[m]⟩)), by cases o7 <;> rfl, ?_⟩
          have one : (⟨#[m]⟩ : Str).length = 1 := rfl
          refine ev_if (ev_bin (ev_var rfl (ev_var rfl ⟨_, _, _, rfl, rfl, in_strsL hhere hws, _, rfl, fun h => ?_, fun h => ?_⟩)))
          · have hin := of_decide_eq_true h
            have old := hc hin
            refine ev_seq (ev_set (ev_bin (ev_var rfl (ev_sl01 (ev_var rfl (ev_c ⟨_, _, _, rfl, rfl, hsl, _, _, _, rfl, rfl, if_pos (by rw [sizeL, one]; omega), plE cl' n ws (some d) (some (.str pl)) (some (.int r)) (some (.str ((⟨#[m]⟩ : Str) ++ cutS pl none (some 19)))) (some (.str ⟨#[m]⟩)), rfl, ?_⟩))))))
            have all : ∀ here', here' = candM (decide (r = 1)) (cutS pl none (some 19)) m → isW here' = true ∧ (here' ∈ ws → ∀ m' : Nat, D.str ⟨#[m']⟩ ∈ done2 ++ [D.str ⟨#[m]⟩] → candM (decide (r = 1)) (cutS pl none (some 19)) m' ∈ ws) := by
              rintro here' rfl
              refine ⟨candM_w hpl hmw, fun hin' m' hm' => ?_⟩
              rcases List.mem_append.mp hm' with hm' | hm'
              · exact old m' hm'
              · have e := List.mem_singleton.mp hm'
                simp only [D.str.injEq, Str.mk.injEq] at e
                have e : m' = m := by simpa using e
                rw [e]; exact hin'
            refine ev_if (ev_bin (ev_var rfl (ev_c ⟨_, _, _, rfl, rfl, rfl, _, rfl, fun h => ?_, fun h => ?_⟩)))
            · refine ev_set (ev_bin (ev_sl01 (ev_var rfl (ev_c ⟨_, _, _, rfl, rfl, hsl, ev_var rfl ⟨_, _, _, rfl, rfl, if_pos (by rw [sizeL, one]; omega), plE cl' n ws (some d) (some (.str pl)) (some (.int r)) (some (.str (cutS pl none (some 19) ++ (⟨#[m]⟩ : Str)))) (some (.str ⟨#[m]⟩)), rfl, _, _, rfl, all _ ?_⟩⟩))))
              unfold candM
              rw [if_pos (by simpa using h)]
            · refine ev_nil ⟨_, _, rfl, all _ ?_⟩
              unfold candM
              rw [if_neg (by simpa using h)]
          · have hin := of_decide_eq_false h
            exact ev_nil ⟨here, _, rfl, hhere, fun h => absurd h hin⟩
        · rintro e ⟨here, o7, rfl, hhere, hc⟩
          refine ⟨here, o7, rfl, hhere, fun hin => ?_⟩
          have hall := hc hin
          have nd2 : (Marks.cps.toList.map (candM (decide (r = 1)) (cutS pl none (some 19)))).Nodup := nd_map (fun a b e => candM_inj e) (by decide +kernel)
          have hle := nd_len nd2 (ys := ws) fun x hx => by
            obtain ⟨m, hm, rfl⟩ := List.mem_map.mp hx
            exact hall m (List.mem_map_of_mem hm)
          rw [List.length_map, show Marks.cps.toList.length = 12 from by decide] at hle
          omega
      rintro e ⟨here, o7, rfl, hhere, hnin⟩
      refine ev_expr (ev_app rfl (ev_acons (ev_var rfl (ev_anil ⟨_, _, _, rfl, rfl, by simp; rw [sizeL]; omega, plE cl' n (ws ++ [here]) (some d) (some (.str pl)) (some (.int r)) (some (.str here)) o7, by unfold plE; rw [List.map_append]; rfl, _, _, _, _, _, _, _, rfl, hg', by simp; omega, ?_, ?_⟩))))
      · intro w hw
        rcases List.mem_append.mp hw with hw | hw
        · exact hws w hw
        · rw [List.mem_singleton.mp hw]; exact hhere
      · refine List.nodup_append.mpr ⟨nd, by simp, fun a ha b hb e => hnin ?_⟩
        rw [List.mem_singleton.mp hb] at e
        rw [← e]; exact ha
    · rintro e ⟨cl, ws, o3, o4, o5, o6, o7, rfl, hg, hlen, hws, nd⟩
      exact ⟨cl, ws, o3, o4, o5, o6, o7, rfl, hg, by simpa using hlen, hws, nd⟩
  rintro e ⟨cl, ws, o3, o4, o5, o6, o7, rfl, hg, hlen, hws, nd⟩
  exact ev_ret (ev_var rfl ⟨_, _, rfl, _, rfl, cl, ws, rfl, hg, hlen, hws, nd⟩)
/-! ### random -/
def upto (n : Nat) : List Int := (List.range n).map fun k => (0 : Int) + (k : Nat)
theorem RowOk.sub {ts us : List Tb} (h : ∀ t, t ∈ ts → t ∈ us) {r : Row} (hr : RowOk ts r) : RowOk us r := by
  obtain ⟨t, ht, q⟩ := hr
  exact ⟨t, h t ht, q⟩
theorem PlainOk.sub {ts us : List Tb} (h : ∀ t, t ∈ ts → t ∈ us) {p : Plain} (P : PlainOk ts p) : PlainOk us p := ⟨fun r hr => (P.rows r hr).sub h, P.asc, P.used, P.hl, P.rl, P.sl⟩
theorem GoodT.more {ts : List Tb} (G : GoodT ts) (hl : ts.length ≤ 7) {n : Str} {w : Int} (hn : isW n = true) (hw : 1 ≤ w ∧ w ≤ 4) (h : n ∉ ts.map (·.1)) : GoodT (ts ++ [(n, w)]) := by
  refine ⟨by simp; omega, fun t ht => ?_, fun t ht => ?_, ?_⟩
  · rcases List.mem_append.mp ht with ht | ht
    · exact G.word t ht
    · rw [List.mem_singleton.mp ht]; exact hn
  · rcases List.mem_append.mp ht with ht | ht
    · exact G.wid t ht
    · rw [List.mem_singleton.mp ht]; exact hw
  · rw [List.map_append]
    refine List.nodup_append.mpr ⟨G.nd, by simp, fun a ha b hb e => h ?_⟩
    have hb : b ∈ [n] := hb
    rw [List.mem_singleton.mp hb] at e
    rw [← e]; exact ha
/-- a schema is made -/
theorem ev_schema {c : CT} {env : Env} {Q : Val → Env → Prop} {fs : SA} (h : Has c ("Schema", some "__init__") SchInitOk) (q : EvA (fs c env) fun vs e1 => ∃ (ts : List Tb), GoodT ts ∧ vs = [.fr (.lst (ts.map tbD))] ∧ Q (.fr (.ins "Schema" (schF ts))) e1) : EvE (eMake "Schema" [true] fs c env) Q := by
  obtain ⟨g, hg, k⟩ := h
  obtain ⟨vs, e1, h1, ts, G, rfl, q⟩ := q
  exact ev_make hg ⟨_, _, h1, _, _, rfl, rfl, _, rfl, _, _, k ts (.sh (.lst (ts.map tbD))) G (.inr (.inl rfl)), _, rfl, _, putN_nil e1 0, q⟩
/-! the written pattern -/
def p0 : Plain := ⟨[("R", [0, 1]), ("R", [1, 0]), ("S", [0])], [1, 2], 3⟩
/-! ### different images -/
/-! ### the tokens of a text, plainly (k62) -/
abbrev Tcp : Type := List Nat
def cp (s : Str) : Tcp := s.cps.toList
def st (t : Tcp) : Str := ⟨t.toArray⟩
theorem st_cp (s : Str) : st (cp s) = s := by
  cases s; rfl
theorem cp_inj {a b : Str} (h : cp a = cp b) : a = b := by rw [← st_cp a, ← st_cp b, h]
theorem cp_len (s : Str) : (cp s).length = s.length := by
  unfold cp
  rw [Array.length_toList]; rfl
/-- a word's sign -/
def wc (n : Nat) : Bool := decide (n ∈ W1.cps.toList)
/-! ### word_end, tokens_of (k62) -/
theorem ix_text {s : Str} {k c : Nat} (hl : s.length ≤ 100000) (h : (cp s)[k]? = some c) : ixD (.str s) (.int (k : Nat)) = some (.sh (.str (st [c]))) := by
  show (if s.length ≤ sizeLine then (atI s.cps.toList (k : Nat)).map fun c => Val.sh (.str ⟨#[c]⟩) else none) = _
  rw [if_pos (by rw [sizeL]; omega), atI_nat (show s.cps.toList[k]? = some c from h)]
  rfl
theorem len_text {s : Str} (hl : s.length ≤ 100000) : lenD [.str s] = some (.sh (.int (s.length : Nat))) := lenD_str (by rw [sizeL]; omega)
/-! ### Schema.__init__ with its errors (k02) -/
abbrev PV : Type := Str × D
def pvD (p : PV) : D := .tup [.str p.1, p.2]
def pvK (p : PV) : Key × D := (.inr p.1, p.2)
def tbP (t : Tb) : PV := (t.1, .int t.2)
def tooX (n : Int) : Exc := ⟨"TooLarge", [("most", .int n)]⟩
def bwX (s : Str) : Exc := ⟨"BadWord", [("word", .str s)]⟩
def bdX (s : Str) : Exc := ⟨"BadWidth", [("table", .str s)]⟩
def dupX (s : Str) : Exc := ⟨"DuplicateTable", [("table", .str s)]⟩
def unkX (s : Str) : Exc := ⟨"UnknownTable", [("table", .str s)]⟩
def errD (x : Exc) : D := match x with
  | ⟨c, [(_, d)]⟩ => .tup [.str c, d]
  | _ => .non
def errO : Option Exc → D
  | none => .non
  | some x => errD x
def wdB : D → Bool
  | .int i => decide (1 ≤ i ∧ i ≤ 4)
  | _ => false
def WdV (d : D) : Prop := (∃ i, d = .int i) ∨ ∃ b, d = .bl b
structure PvOk (p : PV) : Prop where
  s : PyData.strOk p.1 = true
  l : p.1.length ≤ 1000
  w : WdV p.2
def schGo : List Str → List PV → Option Exc
  | _, [] => none
  | kn, p :: r => if isW p.1 = false then some (bwX p.1) else if wdB p.2 = false then some (bdX p.1) else if p.1 ∈ kn then some (dupX p.1) else schGo (kn ++ [p.1]) r
def schErr (ps : List PV) : Option Exc := if 8 < ps.length then some (tooX 8) else schGo [] ps
theorem wdB_true {d : D} (h : wdB d = true) : ∃ i : Int, d = .int i ∧ 1 ≤ i ∧ i ≤ 4 := by
  cases d with
  | int i => exact ⟨i, rfl, of_decide_eq_true h⟩
  | _ => cases h
theorem schGo_none : ∀ {ps : List PV} {kn : List Str}, schGo kn ps = none → ∃ ts : List Tb, ps = ts.map tbP ∧ (∀ t ∈ ts, isW t.1 = true ∧ (1 ≤ t.2 ∧ t.2 ≤ 4)) ∧ (ts.map (·.1)).Nodup ∧ ∀ t ∈ ts, t.1 ∉ kn
  | [], kn, _ => ⟨[], rfl, (fun _ h => nomatch h), List.nodup_nil, fun _ h => nomatch h⟩
  | p :: r, kn, h => by
    unfold schGo at h
    split at h
    · cases h
    rename_i h1
    split at h
    · cases h
    rename_i h2
    split at h
    · cases h
    rename_i h3
    obtain ⟨ts, rfl, i1, i2, i3⟩ := schGo_none h
    have h1 : isW p.1 = true := by simpa using h1
    have h2 : wdB p.2 = true := by simpa using h2
    obtain ⟨i, hi, w1, w2⟩ := wdB_true h2
    refine ⟨(p.1, i) :: ts, ?_, fun t ht => ?_, ?_, fun t ht => ?_⟩
    · rw [List.map_cons]
      congr 1
      exact Prod.ext rfl hi
    · rcases List.mem_cons.mp ht with rfl | ht
      · exact ⟨h1, w1, w2⟩
      · exact i1 t ht
    · rw [List.map_cons, List.nodup_cons]
      refine ⟨fun z => ?_, i2⟩
      obtain ⟨t, ht, e⟩ := List.mem_map.mp z
      have e : t.1 = p.1 := e
      exact i3 t ht (by rw [e]; simp)
    · rcases List.mem_cons.mp ht with rfl | ht
      · exact h3
      · exact fun z => i3 t ht (List.mem_append_left _ z)
theorem schErr_none {ps : List PV} (h : schErr ps = none) : ∃ ts : List Tb, GoodT ts ∧ ps = ts.map tbP := by
  unfold schErr at h
  split at h
  · cases h
  rename_i hl
  obtain ⟨ts, rfl, h1, h2, _⟩ := schGo_none h
  rw [List.length_map] at hl
  exact ⟨ts, ⟨by omega, fun t ht => (h1 t ht).1, fun t ht => (h1 t ht).2, h2⟩, rfl⟩
def IntBoolOk (g : List Arg → Option CRes) : Prop := ∀ (b : Bool) (lo hi : Int), g [.sh (.bl b), .sh (.int lo), .sh (.int hi)] = some (.ret (.sh (.bl false)) [none, none, none])
theorem integer_bl (c : CT) : IntBoolOk (runDef 3 3 b_is_integer c) := by
  intro b lo hi
  refine (?_ : ∃ r, runDef 3 3 b_is_integer c [.sh (.bl b), .sh (.int lo), .sh (.int hi)] = some r ∧ r = .ret (.sh (.bl false)) [none, none, none]).elim fun r ⟨h1, h2⟩ => by rw [h1, h2]
  refine ev_run (e0 := [some (.sh (.bl b)), some (.sh (.int lo)), some (.sh (.int hi))]) rfl rfl ?_
  unfold b_is_integer
  refine ev_ret (ev_and (ev_un (ev_var rfl ⟨_, _, rfl, rfl, true, rfl, (fun _ => ?_), (fun h => nomatch h)⟩)))
  refine ev_and (ev_not (ev_un (ev_var rfl ⟨_, _, rfl, rfl, true, rfl, false, rfl, (fun h => nomatch h), (fun _ => ?_)⟩)))
  exact ⟨_, _, rfl, _, rfl, rfl⟩
theorem wd_call {gi : List Arg → Option CRes} (ki : IntegerOk gi) (kb : IntBoolOk gi) {d : D} (h : WdV d) : gi [.sh d, .sh (.int 1), .sh (.int 4)] = some (.ret (.sh (.bl (wdB d))) [none, none, none]) := by
  rcases h with ⟨i, rfl⟩ | ⟨b, rfl⟩
  · exact ki i 1 4
  · exact kb b 1 4
theorem in_known {n : Str} {kn : List PV} : inX (.str n) (.dk (kn.map pvK)) = some (.sh (.bl (decide (n ∈ kn.map (·.1))))) := by
  show some (Val.sh (.bl (valD (kn.map pvK) (Sum.inr n)).isSome)) = _
  congr 3
  rw [Bool.eq_iff_iff, decide_eq_true_eq]
  unfold valD
  rw [Option.isSome_map, List.find?_isSome, List.mem_map]
  constructor
  · rintro ⟨x, hx, e⟩
    obtain ⟨p, hp, rfl⟩ := List.mem_map.mp hx
    exact ⟨p, hp, Sum.inr.inj (of_decide_eq_true e)⟩
  · rintro ⟨p, hp, rfl⟩
    exact ⟨pvK p, List.mem_map_of_mem hp, decide_eq_true rfl⟩
def SchXOk (g : List Arg → Option CRes) : Prop := ∀ (ps : List PV) (x : Exc), (∀ p ∈ ps, PvOk p) → ps.length ≤ 1000 → schErr ps = some x → g [.brw (.ins "Schema" []), .sh (.lst (ps.map pvD))] = some (.exc x [some (.ins "Schema" []), none])
theorem schema_err_ok (c : CT) (hw : Has c ("is_word", none) WordOk) (hi : Has c ("is_integer", none) IntegerOk) (hb : Has c ("is_integer", none) IntBoolOk) : SchXOk (runDef 5 2 b_Schema_init c) := by
  obtain ⟨gw, ew, kw⟩ := hw
  obtain ⟨gi, ei, ki⟩ := hi
  obtain ⟨gb, eb, kb⟩ := hb
  obtain rfl : gb = gi := Option.some.inj (eb.symm.trans ei)
  intro ps x hps hl hx
  have hln : lenD [.lst (ps.map pvD)] = some (.sh (.int (ps.length : Nat))) := by
    show some (Val.sh (.int ((ps.map pvD).length : Nat))) = _
    rw [List.length_map]
  have hgt : gtD (.int (ps.length : Nat)) (.int 8) = some (.sh (.bl (decide (8 < ps.length)))) := by
    show some (Val.sh (.bl (decide ((8 : Int) < (ps.length : Nat))))) = _
    congr 3
    rw [Bool.eq_iff_iff, decide_eq_true_eq, decide_eq_true_eq]; omega
  refine (?_ : ∃ r, runDef 5 2 b_Schema_init c [.brw (.ins "Schema" []), .sh (.lst (ps.map pvD))] = some r ∧ r = .exc x [some (.ins "Schema" []), none]).elim fun r ⟨h1, h2⟩ => by rw [h1, h2]
  refine ev_run (e0 := [some (.brw (.ins "Schema" [])), some (.sh (.lst (ps.map pvD))), none, none, none]) rfl rfl ?_
  unfold b_Schema_init
  refine ev_seq (ev_if (ev_bin (ev_arg (ev_acons (ev_var rfl (ev_anil ⟨_, _, rfl, hln, ev_c ⟨_, _, _, rfl, rfl, hgt, _, rfl, (fun h => ?_), (fun h => ev_nil ?_)⟩⟩))))))
  · have h := of_decide_eq_true h
    unfold schErr at hx
    rw [if_pos h] at hx
    obtain rfl := Option.some.inj hx
    exact ev_raiseF (ev_c ⟨_, _, rfl, _, rfl, rfl⟩)
  have h := of_decide_eq_false h
  unfold schErr at hx
  rw [if_neg h] at hx
  refine ev_seq (ev_set (ev_dic ⟨[some (.brw (.ins "Schema" [])), some (.sh (.lst (ps.map pvD))), some (.own (.dk [])), none, none], rfl, ?_⟩))
  refine ev_seq (ev_forN (a := .sh (.lst (ps.map pvD))) (ds := ps.map pvD) (.inr (.inl rfl)) (fun done e => ∃ (kn r : List PV) (o3 o4 : Option D), e = [some (.brw (.ins "Schema" [])), some (.sh (.lst (ps.map pvD))), some (.own (.dk (kn.map pvK))), o3.map Slot.sh, o4.map Slot.sh] ∧ done = kn.map pvD ∧ ps = kn ++ r ∧ schGo (kn.map (·.1)) r = some x) ⟨[], ps, none, none, rfl, rfl, rfl, hx⟩ rfl (by rintro done e ⟨kn, r, o3, o4, rfl, _⟩; rfl) ?_ ?_)
  · rintro done d rest e hd ⟨kn, r, o3, o4, rfl, rfl, hps2, hgo⟩
    have hr : r.map pvD = d :: rest := by
      rw [hps2, List.map_append] at hd
      exact List.append_cancel_left hd
    cases r with
    | nil => cases hr
    | cons p r =>
      rw [List.map_cons] at hr
      injection hr with hr1 hr2
      subst hr1
      have hp := hps p (by rw [hps2]; simp)
      have hlen : (kn.map pvK).length < sizeLine := by
        have h1 := congrArg List.length hps2
        rw [List.length_append, List.length_cons] at h1
        rw [sizeL, List.length_map]; omega
      unfold schGo at hgo
      refine ⟨[some (.brw (.ins "Schema" [])), some (.sh (.lst (ps.map pvD))), some (.own (.dk (kn.map pvK))), some (.sh (.str p.1)), some (.sh p.2)], by cases o3 <;> cases o4 <;> rfl, ?_⟩
      refine ev_seq (ev_if (ev_not (ev_call ew (ev_acons (ev_var rfl (ev_anil ⟨_, _, _, _, rfl, kw p.1 (by rw [sizeL]; have := hp.l; omega), _, rfl, _, rfl, (fun h => ?_), (fun h => ev_nil ?_)⟩))))))
      · have h : isW p.1 = false := by simpa using h
        rw [if_pos h] at hgo
        obtain rfl := Option.some.inj hgo
        exact ev_raiseF (ev_var rfl ⟨_, _, rfl, _, rfl, rfl⟩)
      have h : ¬ isW p.1 = false := by simpa using h
      rw [if_neg h] at hgo
      refine ev_seq (ev_if (ev_not (ev_call ei (ev_acons (ev_var rfl (ev_acons (ev_c (ev_acons (ev_c (ev_anil ⟨_, _, _, _, rfl, wd_call ki kb hp.w, _, rfl, _, rfl, (fun h => ?_), (fun h => ev_nil ?_)⟩))))))))))
      · have h : wdB p.2 = false := by simpa using h
        rw [if_pos h] at hgo
        obtain rfl := Option.some.inj hgo
        exact ev_raiseF (ev_var rfl ⟨_, _, rfl, _, rfl, rfl⟩)
      have h : ¬ wdB p.2 = false := by simpa using h
      rw [if_neg h] at hgo
      refine ev_seq (ev_if (ev_bin (ev_var rfl (ev_var rfl ⟨_, _, _, rfl, rfl, in_known, _, rfl, (fun h => ?_), (fun h => ev_nil ?_)⟩))))
      · have h := of_decide_eq_true h
        rw [if_pos h] at hgo
        obtain rfl := Option.some.inj hgo
        exact ev_raiseF (ev_var rfl ⟨_, _, rfl, _, rfl, rfl⟩)
      have h := of_decide_eq_false h
      rw [if_neg h] at hgo
      have hput : putC (.dk (kn.map pvK)) (.str p.1) p.2 = some (.dk ((kn ++ [p]).map pvK)) := by
        show (if _ then _ else _) = _
        rw [if_pos hlen, putD_new fun q hq => ?_, List.map_append]
        · rfl
        · obtain ⟨z, hz, rfl⟩ := List.mem_map.mp hq
          exact fun e => h (List.mem_map.mpr ⟨z, hz, Sum.inr.inj e⟩)
      exact ev_put (ev_var rfl ⟨_, _, _, rfl, rfl, ev_var rfl ⟨_, _, _, rfl, rfl, hput, _, rfl, kn ++ [p], r, some _, some _, rfl, by rw [List.map_append]; rfl, by rw [hps2, List.append_assoc]; rfl, by rw [List.map_append]; exact hgo⟩⟩)
  · rintro e ⟨kn, r, o3, o4, rfl, hd, hps2, hgo⟩
    have : r = [] := by
      have h1 := congrArg List.length hd
      rw [hps2, List.map_append, List.length_append, List.length_map, List.length_map] at h1
      exact List.eq_nil_of_length_eq_zero (by omega)
    subst this
    cases hgo
def SchOfXOk (g : List Arg → Option CRes) : Prop := ∀ (ps : List PV) (x : Exc), (∀ p ∈ ps, PvOk p) → (ps.map (·.1)).Nodup → ps.length ≤ 1000 → schErr ps = some x → g [.sh (.kd (ps.map pvK))] = some (.exc x [none])
theorem of_list (c : CT) {ps : List PV} (nd : (ps.map (·.1)).Nodup) (hl : ps.length ≤ 1000) : lcL (gNm 1) (eYes c) (eTup (aCons (eVar 1) (aCons (eBin ixD (eDk (eVar 0)) (eVar 1)) aNil)) c) [1] (ps.map fun p => D.str p.1) [some (.sh (.kd (ps.map pvK))), none] [] = some (ps.map pvD, [some (.sh (.kd (ps.map pvK))), none]) := by
  obtain ⟨ys, e', q, rfl, rfl⟩ := lc_genE (fun p : PV => D.str p.1) (g := gNm 1) (t := eYes c) (f := eTup (aCons (eVar 1) (aCons (eBin ixD (eDk (eVar 0)) (eVar 1)) aNil)) c) (vs := [1]) (xs := ps) (env := [some (.sh (.kd (ps.map pvK))), none])
    (fun done acc e => e = [some (.sh (.kd (ps.map pvK))), none] ∧ acc = done.map pvD) (by rw [sizeL]; omega) ⟨rfl, rfl⟩ (by
    rintro done t rest acc e he ⟨rfl, rfl⟩
    have ht : t ∈ ps := by rw [he]; simp
    have hix : ixD (.dk (ps.map pvK)) (.str t.1) = some (.sh t.2) := by
      show ((some (valD (ps.map pvK) (.inr t.1))).bind fun o => o.map Val.sh) = _
      rw [valD_of (d := t.2) ?_ (List.mem_map.mpr ⟨t, ht, rfl⟩)]
      · rfl
      · rw [List.map_map]
        have : ps.map ((fun x : Key × D => x.1) ∘ pvK) = (ps.map (·.1)).map Sum.inr := by rw [List.map_map]; rfl
        rw [this]
        exact List.pairwise_map.mpr (nd.imp fun h e => h (Sum.inr.inj e))
    refine ⟨[some (.sh (.kd (ps.map pvK))), some (.sh (.str t.1))], rfl, ev_yes ⟨true, rfl, (fun h => nomatch h), fun _ => ?_⟩⟩
    exact ev_tup (ev_acons (ev_var rfl (ev_acons (ev_bin ⟨_, _, rfl, ev_var rfl ⟨_, _, _, rfl, rfl, hix, ev_anil ⟨[.str t.1, t.2], _, rfl, by rw [sizeL]; simp, _, _, rfl, rfl, by rw [List.map_append]; rfl⟩⟩⟩)))))
  exact q
theorem schema_of_err (c : CT) (h_X : Has c ("Schema", some "__init__") SchXOk) : SchOfXOk (runDef 2 1 b_schema_of c) := by
  obtain ⟨g, hg, k⟩ := h_X
  intro ps x hps nd hl hx
  have q := of_list c nd hl
  refine (?_ : ∃ y, runDef 2 1 b_schema_of c [.sh (.kd (ps.map pvK))] = some y ∧ y = .exc x [none]).elim fun r ⟨h1, h2⟩ => by rw [h1, h2]
  refine ev_run (e0 := [some (.sh (.kd (ps.map pvK))), none]) rfl rfl ?_
  unfold b_schema_of
  exact ev_retX (ev_makeX hg (ev_acons (ev_lc ⟨_, _, rfl, rfl, _, rfl, ps.map pvD, [some (.sh (.kd (ps.map pvK))), none], (by rw [List.map_map]; exact q), _, rfl, ev_anil ⟨_, _, rfl, rfl, _, rfl, _, _, _, k ps x hps hl hx, _, rfl, _, rfl, _, rfl, rfl⟩⟩)))
def SchOfGOk (g : List Arg → Option CRes) : Prop := ∀ ts : List Tb, GoodT ts → g [.sh (.kd ((ts.map tbP).map pvK))] = some (.ret (.fr (.ins "Schema" (schF ts))) [none])
theorem schema_of_good (c : CT) (h_S : Has c ("Schema", some "__init__") SchInitOk) : SchOfGOk (runDef 2 1 b_schema_of c) := by
  intro ts G
  have hl := G.len
  have q := of_list c (ps := ts.map tbP) (by rw [List.map_map]; exact G.nd) (by rw [List.length_map]; omega)
  refine (?_ : ∃ y, runDef 2 1 b_schema_of c [.sh (.kd ((ts.map tbP).map pvK))] = some y ∧ y = .ret (.fr (.ins "Schema" (schF ts))) [none]).elim fun r ⟨h1, h2⟩ => by rw [h1, h2]
  refine ev_run (e0 := [some (.sh (.kd ((ts.map tbP).map pvK))), none]) rfl rfl ?_
  unfold b_schema_of
  exact ev_ret (ev_schema h_S (ev_acons (ev_lc ⟨_, _, rfl, rfl, _, rfl, _, _, (by rw [List.map_map]; exact q), _, rfl, ev_anil ⟨ts, G, by rw [List.map_map]; rfl, _, _, rfl, _, rfl, rfl⟩⟩)))
/-! ### the law's words (k02) -/
theorem strOk_iff {s : Str} : PyData.strOk s = true ↔ ∀ c ∈ s.cps.toList, c < 0x110000 := by
  unfold PyData.strOk
  rw [Array.all_eq_true']
  simp
theorem strOk_cut {s : Str} (h : PyData.strOk s = true) (lo hi : Option Int) : PyData.strOk (cutS s lo hi) = true := by
  rw [strOk_iff] at h ⊢
  intro c hc
  have : c ∈ (s.cps.toList.drop (HT.sIx s.length 0 lo)).take (HT.sIx s.length s.length hi - HT.sIx s.length 0 lo) := by
    simpa [cutS] using hc
  exact h c (List.mem_of_mem_drop (List.mem_of_mem_take this))
theorem strOk_app {a b : Str} (ha : PyData.strOk a = true) (hb : PyData.strOk b = true) : PyData.strOk (a ++ b) = true := by
  rw [strOk_iff] at ha hb ⊢
  intro c hc
  have : c ∈ (a.cps ++ b.cps).toList := hc
  rw [Array.toList_append] at this
  exact (List.mem_append.mp this).elim (ha c) (hb c)
theorem sl_S {s : Str} (h : s.length ≤ 1000) (lo hi : Option Int) : sliceD (.str s) lo hi = some (.sh (.str (cutS s lo hi))) := if_pos (by rw [sizeL]; omega)
theorem len_appS (a b : Str) : (a ++ b).length = a.length + b.length := by
  show (a.cps ++ b.cps).size = _
  rw [Array.size_append]; rfl
theorem add_S {a b : Str} (h : a.length + b.length ≤ 1000) : addD (.str a) (.str b) = some (.sh (.str (a ++ b))) := if_pos (by rw [sizeL]; omega)
theorem cut_lenS (s : Str) (lo hi : Option Int) : (cutS s lo hi).length ≤ s.length := by
  show (cutS s lo hi).cps.size ≤ s.cps.size
  have : (cutS s lo hi).cps.size = ((s.cps.toList.drop (HT.sIx s.length 0 lo)).take (HT.sIx s.length s.length hi - HT.sIx s.length 0 lo)).length := by simp [cutS]
  rw [this, List.length_take, List.length_drop]
  have : s.cps.toList.length = s.cps.size := Array.length_toList
  omega
theorem w2_wc (n : Nat) : decide (n ∈ W2.cps.toList) = wc n := by
  unfold wc
  rw [Bool.eq_iff_iff, decide_eq_true_eq, decide_eq_true_eq]
  have h1 : ∀ x ∈ W2.cps.toList, x ∈ W1.cps.toList := by decide +kernel
  have h2 : ∀ x ∈ W1.cps.toList, x ∈ W2.cps.toList := by decide +kernel
  exact ⟨h1 n, h2 n⟩
def sgD (n : Nat) : D := .str (st [n])
theorem nin_sign2 (n : Nat) : ninX (.str (st [n])) (.str W2) = some (.sh (.bl (!wc n))) := by
  show some (Val.sh (.bl (!decide (n ∈ W2.cps.toList)))) = _
  rw [w2_wc]
theorem eq_nat0 (a : Nat) : eqX (.int (a : Nat)) (.int 0) = some (.sh (.bl (decide (a = 0)))) := by
  show some (Val.sh (.bl (decide ((a : Int) = 0)))) = _
  congr 3
  rw [Bool.eq_iff_iff, decide_eq_true_eq, decide_eq_true_eq]; omega
theorem lt_nat1 (a : Nat) : ltX (.int (a : Nat)) (.int 1) = some (.sh (.bl (decide (a < 1)))) := by
  show some (Val.sh (.bl (decide ((a : Int) < 1)))) = _
  congr 3
  rw [Bool.eq_iff_iff, decide_eq_true_eq, decide_eq_true_eq]; omega
theorem gt_nat (a b : Nat) : gtD (.int (a : Nat)) (.int (b : Nat)) = some (.sh (.bl (decide (b < a)))) := by
  show some (Val.sh (.bl (decide ((b : Int) < (a : Nat))))) = _
  congr 3
  rw [Bool.eq_iff_iff, decide_eq_true_eq, decide_eq_true_eq]; omega
def LIsWOk (g : List Arg → Option CRes) : Prop := ∀ s : Str, s.length ≤ 100000 → g [.sh (.str s)] = some (.ret (.sh (.bl (isW s))) [none])
theorem law_is_word_ok (c : CT) : LIsWOk (runDef 3 1 b_law_is_word c) := by
  intro s hs
  have hlen := cp_len s
  have hl := len_text hs
  have l1 := lt_nat1 s.length
  have l2 := gt_nat s.length 20
  have hl3 : lenD [.lst ((((cp s).filter fun n => !wc n).map fun n : Nat => n).map sgD)] = some (.sh (.int (((cp s).filter fun n => !wc n).length : Nat))) := by
    show some (Val.sh (.int (((((cp s).filter fun n => !wc n).map fun n : Nat => n).map sgD).length : Nat))) = _
    rw [List.length_map, List.length_map]
  have h0 := eq_nat0 ((cp s).filter fun n => !wc n).length
  have hall : (decide (((cp s).filter fun n => !wc n).length = 0)) = (s.cps.toList.all fun n => decide (n ∈ W1.cps.toList)) := by
    rw [Bool.eq_iff_iff, decide_eq_true_eq, List.all_eq_true, List.length_eq_zero_iff, List.filter_eq_nil_iff]
    show (∀ a ∈ cp s, _) ↔ ∀ a ∈ cp s, wc a = true
    exact forall_congr' fun a => imp_congr_right fun _ => by cases wc a <;> simp
  refine (?_ : ∃ y, runDef 3 1 b_law_is_word c [.sh (.str s)] = some y ∧ y = .ret (.sh (.bl (isW s))) [none]).elim fun r ⟨h1, h2⟩ => by show _ = _; rw [h1, h2]
  refine ev_run (e0 := [some (.sh (.str s)), none, none]) rfl rfl ?_
  unfold b_law_is_word
  refine ev_seq (ev_set (ev_c ⟨[some (.sh (.str s)), some (.sh (.str W2)), none], rfl, ?_⟩))
  refine ev_seq (ev_if (ev_orP (ev_bin (ev_arg (ev_acons (ev_var rfl (ev_anil ⟨_, _, rfl, hl, ev_c ⟨_, _, _, rfl, rfl, l1, _, rfl, ev_bin (ev_arg (ev_acons (ev_var rfl (ev_anil ⟨_, _, rfl, hl, ev_c ⟨_, _, _, rfl, rfl, l2, _, rfl, rfl, _, rfl, (fun h => ?_), (fun h => ev_nil ?_)⟩⟩))))⟩⟩)))))))
  · have hf : isW s = false := by
      unfold isW
      rw [Bool.or_eq_true, decide_eq_true_eq, decide_eq_true_eq] at h
      rw [decide_eq_false (by omega), Bool.false_and]
    exact ev_ret (ev_c ⟨_, _, rfl, _, rfl, (by rw [hf])⟩)
  · have hf : isW s = decide (((cp s).filter fun n => !wc n).length = 0) := by
      unfold isW
      rw [Bool.or_eq_false_iff, decide_eq_false_iff_not, decide_eq_false_iff_not] at h
      rw [decide_eq_true (by omega), Bool.true_and, hall]
    refine ev_ret (ev_bin (ev_arg (ev_acons (ev_lcFilE sgD sgD (fun n => !wc n) (fun n : Nat => n) (ev_seqI (ev_var rfl ⟨_, [some (.sh (.str s)), some (.sh (.str W2)), none], _, rfl, rfl, rfl, [some (.sh (.str s)), some (.sh (.str W2)), none], rfl, (cp s), rfl, (by rw [sizeL]; omega), ?_, [some (.sh (.str s)), some (.sh (.str W2)), none], rfl, ev_anil ⟨_, _, rfl, hl3, ev_c ⟨_, _, _, rfl, rfl, h0, _, _, rfl, _, rfl, (by rw [hf])⟩⟩⟩))))))
    · intro n hn
      exact ⟨[some (.sh (.str s)), some (.sh (.str W2)), some (.sh (sgD n))], rfl, ev_bin (ev_var rfl (ev_var rfl ⟨_, _, _, rfl, rfl, nin_sign2 n, rfl, rfl, fun hk => ev_var rfl ⟨_, rfl, rfl⟩⟩))⟩
def LIntVOk (g : List Arg → Option CRes) : Prop := (∀ i : Int, g [.sh (.int i)] = some (.ret (.sh (.bl true)) [none])) ∧ ∀ b : Bool, g [.sh (.bl b)] = some (.ret (.sh (.bl false)) [none])
theorem law_is_int_v (c : CT) : LIntVOk (runDef 1 1 b_law_is_int c) := by
  refine ⟨fun i => ?_, fun b => ?_⟩
  · refine (?_ : ∃ x, runDef 1 1 b_law_is_int c [.sh (.int i)] = some x ∧ x = .ret (.sh (.bl true)) [none]).elim fun r ⟨h1, h2⟩ => by rw [h1, h2]
    refine ev_run (e0 := [some (.sh (.int i))]) rfl rfl ?_
    unfold b_law_is_int
    refine ev_ret (ev_and (ev_un (ev_var rfl ⟨_, _, rfl, rfl, true, rfl, (fun _ => ?_), (fun h => nomatch h)⟩)))
    exact ev_not (ev_un (ev_var rfl ⟨_, _, rfl, rfl, false, rfl, _, _, rfl, _, rfl, rfl⟩))
  · refine (?_ : ∃ x, runDef 1 1 b_law_is_int c [.sh (.bl b)] = some x ∧ x = .ret (.sh (.bl false)) [none]).elim fun r ⟨h1, h2⟩ => by rw [h1, h2]
    refine ev_run (e0 := [some (.sh (.bl b))]) rfl rfl ?_
    unfold b_law_is_int
    refine ev_ret (ev_and (ev_un (ev_var rfl ⟨_, _, rfl, rfl, true, rfl, (fun _ => ?_), (fun h => nomatch h)⟩)))
    exact ev_not (ev_un (ev_var rfl ⟨_, _, rfl, rfl, true, rfl, _, _, rfl, _, rfl, rfl⟩))
theorem in_strs {n : Str} {kn : List Str} (hn : PyData.strOk n = true) (hk : ∀ s ∈ kn, PyData.strOk s = true) : inX (.str n) (.lst (kn.map .str)) = some (.sh (.bl (decide (n ∈ kn)))) := by
  obtain ⟨k, h1, h2⟩ := pl_inL (n := 60) (d := .str n) (xs := kn.map .str) (by decide) hn fun d hd => by
    obtain ⟨s, hs, rfl⟩ := List.mem_map.mp hd
    exact hk s hs
  rw [h1]
  congr 3
  rw [Bool.eq_iff_iff, h2, decide_eq_true_eq, List.mem_map]
  exact ⟨fun ⟨s, hs, e⟩ => D.str.inj e ▸ hs, fun h => ⟨n, h, rfl⟩⟩
def LDue2Ok (g : List Arg → Option CRes) : Prop := ∀ ps : List PV, (∀ p ∈ ps, PvOk p) → ps.length ≤ 1000 → g [.sh (.lst (ps.map pvD))] = some (.ret (.sh (errO (schErr ps))) [none])
theorem pv_ix0 (p : PV) : ixD (pvD p) (.int 0) = some (.sh (.str p.1)) := ixD_natT (j := 0) rfl
theorem pv_ix1 (p : PV) : ixD (pvD p) (.int 1) = some (.sh p.2) := ixD_natT (j := 1) rfl
theorem law_due2_ok (c : CT) (h_w : Has c ("_law_is_word", none) LIsWOk) (h_i : Has c ("_law_is_int", none) LIntVOk) : LDue2Ok (runDef 3 1 b_law_due c) := by
  obtain ⟨g1, e_law_is_word, k1⟩ := h_w
  obtain ⟨g2, e_law_is_int, k2⟩ := h_i
  intro ps hps hl
  have hln : lenD [.lst (ps.map pvD)] = some (.sh (.int (ps.length : Nat))) := by
    show some (Val.sh (.int ((ps.map pvD).length : Nat))) = _
    rw [List.length_map]
  have hgt := gt_nat ps.length 8
  refine (?_ : ∃ y, runDef 3 1 b_law_due c [.sh (.lst (ps.map pvD))] = some y ∧ y = .ret (.sh (errO (schErr ps))) [none]).elim fun r ⟨h1, h2⟩ => by show _ = _; rw [h1, h2]
  refine ev_run (e0 := [some (.sh (.lst (ps.map pvD))), none, none]) rfl rfl ?_
  unfold b_law_due
  refine ev_seq (ev_if (ev_bin (ev_arg (ev_acons (ev_var rfl (ev_anil ⟨_, _, rfl, hln, ev_c ⟨_, _, _, rfl, rfl, hgt, _, rfl, (fun h => ?_), (fun h => ev_nil ?_)⟩⟩))))))
  · have h := of_decide_eq_true h
    exact ev_ret (ev_tup (ev_acons (ev_c (ev_acons (ev_c (ev_anil ⟨[.str "TooLarge", .int 8], [some (.sh (.lst (ps.map pvD))), none, none], rfl, (by rw [sizeL]; simp), _, _, rfl, _, rfl, (by unfold schErr; rw [if_pos h]; rfl)⟩))))))
  have h := of_decide_eq_false h
  have hE : schErr ps = schGo [] ps := by unfold schErr; rw [if_neg h]
  clear h
  refine ev_seq (ev_set (ev_list (ev_anil ⟨[], [some (.sh (.lst (ps.map pvD))), none, none], rfl, (by rw [sizeL]; simp), [some (.sh (.lst (ps.map pvD))), some (.own (.lst (([] : List Str).map .str))), none], rfl, ?_⟩)))
  refine ev_cut (fun e => ∃ (o2 : Option D), e = [some (.sh (.lst (ps.map pvD))), some (.own (.lst ((ps.map (·.1)).map .str))), o2.map Slot.sh] ∧ schErr ps = none) ?_ ?_
  · refine ev_for (ev_seqI (ev_var rfl ⟨_, [some (.sh (.lst (ps.map pvD))), some (.own (.lst (([] : List Str).map .str))), none], _, rfl, rfl, ?_⟩))
    refine ev_loopE pvD (xs := ps) (fun done e => ∃ (o2 : Option D), e = [some (.sh (.lst (ps.map pvD))), some (.own (.lst ((done.map (·.1)).map .str))), o2.map Slot.sh] ∧ ∀ r, ps = done ++ r → schErr ps = schGo (done.map (·.1)) r) ?_ ?_ ?_
    · exact ⟨none, rfl, fun r hr => by rw [hE, hr]; rfl⟩
    · rintro done p rest e he ⟨o2, rfl, hgo⟩
      have hgo := hgo _ he
      have hp := hps p (by rw [he]; simp)
      have hdk : ∀ s ∈ done.map (·.1), PyData.strOk s = true := fun s hs => by
        obtain ⟨q, hq, rfl⟩ := List.mem_map.mp hs
        exact (hps q (by rw [he]; simp [hq])).s
      have hdl : (done.map (·.1)).length ≤ 1000 := by
        have := congrArg List.length he
        rw [List.length_append, List.length_cons] at this
        rw [List.length_map]; omega
      have hnext : (done ++ [p]).map (·.1) = done.map (·.1) ++ [p.1] := by rw [List.map_append]; rfl
      have hrn : ∀ r, ps = (done ++ [p]) ++ r → r = rest := fun r hr => by
        rw [he, List.append_assoc] at hr
        exact (List.cons.inj (List.append_cancel_left hr)).2.symm
      rw [hnext]
      generalize done.map (·.1) = kn at hgo hdk hdl
      obtain ⟨n, d⟩ := p
      unfold schGo at hgo
      have i0 := pv_ix0 (n, d)
      have i1 := pv_ix1 (n, d)
      have zw := k1 n (by have : n.length ≤ 1000 := hp.l; omega)
      have hin := in_strs hp.s hdk
      refine ⟨[some (.sh (.lst (ps.map pvD))), some (.own (.lst (kn.map .str))), some (.sh (pvD (n, d)))], by cases o2 <;> rfl, ?_⟩
      refine ev_seq (ev_if (ev_not (ev_call e_law_is_word (ev_acons (ev_bin (ev_var rfl (ev_c ⟨_, _, _, rfl, rfl, i0, ev_anil ⟨_, _, _, _, rfl, zw, _, rfl, _, rfl, (fun h => ?_), (fun h => ev_nil ?_)⟩⟩)))))))
      · have h : isW n = false := by simpa using h
        rw [if_pos h] at hgo
        exact ev_ret (ev_tup (ev_acons (ev_c (ev_acons (ev_bin (ev_var rfl (ev_c ⟨_, _, _, rfl, rfl, i0, ev_anil ⟨_, _, rfl, (by rw [sizeL]; simp), _, _, rfl, _, rfl, (by rw [hgo]; rfl)⟩⟩)))))))
      have h : ¬ isW n = false := by simpa using h
      rw [if_neg h] at hgo
      clear h
      have key : wdB d = true → (∃ o2 : Option D, True) := fun _ => ⟨none, trivial⟩
      clear key
      rcases hp.w with ⟨i, hi⟩ | ⟨b, hb⟩
      · have hi : d = .int i := hi
        subst hi
        have zi := k2.1 i
        have lt1 : ltX (.int i) (.int 1) = some (.sh (.bl (decide (i < 1)))) := rfl
        have gt4 : gtD (.int i) (.int 4) = some (.sh (.bl (decide (4 < i)))) := rfl
        refine ev_seq (ev_if (ev_or (ev_not (ev_call e_law_is_int (ev_acons (ev_bin (ev_var rfl (ev_c ⟨_, _, _, rfl, rfl, i1, ev_anil ⟨_, _, _, _, rfl, zi, _, rfl, false, rfl, (fun _ => ev_orP (ev_bin (ev_bin (ev_var rfl (ev_c ⟨_, _, _, rfl, rfl, i1, ev_c ⟨_, _, _, rfl, rfl, lt1, _, rfl, ev_bin (ev_bin (ev_var rfl (ev_c ⟨_, _, _, rfl, rfl, i1, ev_c ⟨_, _, _, rfl, rfl, gt4, _, rfl, rfl, _, rfl, (fun h => ?_), (fun h => ev_nil ?_)⟩⟩)))⟩⟩))))), (fun h => nomatch h)⟩⟩))))))))
        · have h : wdB (.int i) = false := by
            rw [Bool.or_eq_true, decide_eq_true_eq, decide_eq_true_eq] at h
            exact decide_eq_false (by omega)
          rw [if_pos h] at hgo
          exact ev_ret (ev_tup (ev_acons (ev_c (ev_acons (ev_bin (ev_var rfl (ev_c ⟨_, _, _, rfl, rfl, i0, ev_anil ⟨_, _, rfl, (by rw [sizeL]; simp), _, _, rfl, _, rfl, (by rw [hgo]; rfl)⟩⟩)))))))
        have h : ¬ wdB (.int i) = false := by
          rw [Bool.or_eq_false_iff, decide_eq_false_iff_not, decide_eq_false_iff_not] at h
          rw [show wdB (.int i) = true from decide_eq_true (by omega)]
          decide
        rw [if_neg h] at hgo
        clear h
        refine ev_seq (ev_if (ev_bin (ev_bin (ev_var rfl (ev_c ⟨_, _, _, rfl, rfl, i0, ev_var rfl ⟨_, _, _, rfl, rfl, hin, _, rfl, (fun h => ?_), (fun h => ev_nil ?_)⟩⟩)))))
        · have h := of_decide_eq_true h
          rw [if_pos h] at hgo
          exact ev_ret (ev_tup (ev_acons (ev_c (ev_acons (ev_bin (ev_var rfl (ev_c ⟨_, _, _, rfl, rfl, i0, ev_anil ⟨_, _, rfl, (by rw [sizeL]; simp), _, _, rfl, _, rfl, (by rw [hgo]; rfl)⟩⟩)))))))
        have h := of_decide_eq_false h
        rw [if_neg h] at hgo
        refine ev_expr (ev_app rfl (ev_acons (ev_bin (ev_var rfl (ev_c ⟨_, _, _, rfl, rfl, i0, ev_anil ⟨_, _, _, rfl, rfl, (by rw [List.length_map, sizeL]; omega), [some (.sh (.lst (ps.map pvD))), some (.own (.lst ((kn.map .str) ++ [.str n]))), some (.sh (pvD (n, .int i)))], rfl, ?_⟩⟩)))))
        exact ⟨some _, by rw [List.map_append]; rfl, fun r hr => by rw [hrn r hr]; exact hgo⟩
      · have hb : d = .bl b := hb
        subst hb
        have zi := k2.2 b
        refine ev_seq (ev_if (ev_or (ev_not (ev_call e_law_is_int (ev_acons (ev_bin (ev_var rfl (ev_c ⟨_, _, _, rfl, rfl, i1, ev_anil ⟨_, _, _, _, rfl, zi, _, rfl, true, rfl, (fun h => nomatch h), (fun _ => ⟨true, rfl, (fun _ => ?_), (fun h => nomatch h)⟩)⟩⟩))))))))
        rw [if_pos (show wdB (.bl b) = false from rfl)] at hgo
        exact ev_ret (ev_tup (ev_acons (ev_c (ev_acons (ev_bin (ev_var rfl (ev_c ⟨_, _, _, rfl, rfl, i0, ev_anil ⟨_, _, rfl, (by rw [sizeL]; simp), _, _, rfl, _, rfl, (by rw [hgo]; rfl)⟩⟩)))))))
    · rintro e ⟨o2, rfl, hgo⟩
      exact ⟨o2, rfl, by rw [hgo [] (by rw [List.append_nil])]; rfl⟩
  rintro e ⟨o2, rfl, hn⟩
  exact ev_ret (ev_c ⟨_, _, rfl, _, rfl, (by rw [hn]; rfl)⟩)
/-! ### _law_same on data with True, False and None -/
def SameV : Nat → D → Prop
  | 0, _ => False
  | _ + 1, .int _ => True
  | _ + 1, .bl _ => True
  | _ + 1, .str s => PyData.strOk s = true
  | n + 1, .lst ds => (∀ d ∈ ds, SameV n d) ∧ ds.length ≤ 1000000
  | n + 1, .tup ds => (∀ d ∈ ds, SameV n d) ∧ ds.length ≤ 1000000
  | _, _ => False
def SameVOk (n : Nat) (g : List Arg → Option CRes) : Prop := ∀ (d : D) (a b : Arg), SameV n d → ArgIs a d → ArgIs b d → g [a, b] = some (.ret (.sh (.bl true)) [a.out, b.out])
theorem ArgIs.bl {a : Arg} {i : Bool} (h : ArgIs a (.bl i)) : a = .sh (.bl i) := by
  cases a with
  | sh d => cases h; rfl
  | brw cl => cases cl <;> cases h
theorem same_blV (c : CT) (k : Bool) : runDef 3 2 b_law_same c [.sh (.bl k), .sh (.bl k)] = some (.ret (.sh (.bl true)) [none, none]) := by
  refine (?_ : ∃ r, runDef 3 2 b_law_same c [.sh (.bl k), .sh (.bl k)] = some r ∧ r = .ret (.sh (.bl true)) [none, none]).elim fun r ⟨h1, h2⟩ => by rw [h1, h2]
  refine ev_run (e0 := [some (.sh (.bl k)), some (.sh (.bl k)), none]) rfl rfl ?_
  unfold b_law_same
  cases k
  · walk_at "go"
    simp
  · walk_at "go"
    simp
theorem samev_zero : SameVOk 0 (fun _ => none) := fun d a b h => absurd h (by simp [SameV])
/-- a list or a tuple -/
theorem samev_seq {c : CT} {n : Nat} (hs : Has c ("_law_same", none) (SameVOk n)) {d : D} {a b : Arg} {ds : List D} {kt : Bool} (ha : ArgIs a d) (hb : ArgIs b d) (h : ∀ d ∈ ds, SameV n d) (hl : ds.length ≤ 1000000)
    (h1 : isB "bool" d = some (.sh (.bl false))) (h2 : isB "int" d = some (.sh (.bl false))) (h3 : isB "str" d = some (.sh (.bl false))) (h4 : isND d .non = some (.sh (.bl false))) (h5 : isB "tuple" d = some (.sh (.bl kt))) (h6 : isB "list" d = some (.sh (.bl (!kt)))) (h7 : isM cl [.ty "list", .ty "tuple"] d = some (.sh (.bl true))) (h8 : lenD [d] = some (.sh (.int ds.length)))
    (hd : ∀ (j : Nat) x, ds[j]? = some x → ixD d (.int (j : Int)) = some (.sh x)) : runDef 3 2 b_law_same c [a, b] = some (.ret (.sh (.bl true)) [a.out, b.out]) := by
  obtain ⟨g, eg, kg⟩ := hs
  subst ha
  have hb : b.d = a.d := hb
  have fl : ∀ x : Arg, isND x.d .non = some (.sh (.bl false)) → x.flat = true := fun x h => by
    cases x with
    | sh d => rfl
    | brw c => cases c with
      | deep => exact absurd h (by intro h; cases h)
      | _ => rfl
  have fa : a.flat = true := fl a h4
  have fb : b.flat = true := fl b (by rw [hb]; exact h4)
  refine (?_ : ∃ r, runDef 3 2 b_law_same c [a, b] = some r ∧ r = .ret (.sh (.bl true)) [a.out, b.out]).elim fun r ⟨h1, h2⟩ => by rw [h1, h2]
  refine ev_run (e0 := [some a.slot, some b.slot, none]) rfl (by cases a <;> cases b <;> rfl) ?_
  unfold b_law_same
  refine ev_seq (ev_if (ev_or (ev_un (ev_varP (a := a) rfl fun v hv => ⟨_, _, hv, h1, false, rfl, (fun _ => ev_un (ev_varP (a := b) rfl fun w hw => ⟨_, _, hw, by rw [hb]; exact h1, false, rfl, (fun h => nomatch h), fun _ => ev_nil ?_⟩)), (fun h => nomatch h)⟩))))
  refine ev_seq (ev_if (ev_or (ev_un (ev_varP (a := a) rfl fun v hv => ⟨_, _, hv, h2, false, rfl, (fun _ => ev_un (ev_varP (a := b) rfl fun w hw => ⟨_, _, hw, by rw [hb]; exact h2, false, rfl, (fun h => nomatch h), fun _ => ev_nil ?_⟩)), (fun h => nomatch h)⟩))))
  refine ev_seq (ev_if (ev_or (ev_un (ev_varP (a := a) rfl fun v hv => ⟨_, _, hv, h3, false, rfl, (fun _ => ev_un (ev_varP (a := b) rfl fun w hw => ⟨_, _, hw, by rw [hb]; exact h3, false, rfl, (fun h => nomatch h), fun _ => ev_nil ?_⟩)), (fun h => nomatch h)⟩))))
  refine ev_seq (ev_if (ev_or (ev_bin (ev_varP (a := a) rfl fun v hv => ev_c ⟨_, _, _, hv, rfl, h4, false, rfl, (fun _ => ev_bin (ev_varP (a := b) rfl fun w hw => ev_c ⟨_, _, _, hw, rfl, by rw [hb]; exact h4, false, rfl, (fun h => nomatch h), fun _ => ev_nil ?_⟩)), (fun h => nomatch h)⟩))))
  have ne : ∀ k : Bool, neX (.bl k) (.bl k) = some (.sh (.bl false)) := fun k => by cases k <;> rfl
  refine ev_seq (ev_if (ev_or (ev_bin (ev_un (ev_varP (a := a) rfl fun v hv => ⟨_, _, hv, h5, ev_un (ev_varP (a := b) rfl fun w hw => ⟨_, _, hw, by rw [hb]; exact h5, _, _, _, rfl, rfl, ne _, false, rfl, (fun _ => ?_), (fun h => nomatch h)⟩)⟩)))))
  refine ev_bin (ev_un (ev_varP (a := a) rfl fun v hv => ⟨_, _, hv, h6, ev_un (ev_varP (a := b) rfl fun w hw => ⟨_, _, hw, by rw [hb]; exact h6, _, _, _, rfl, rfl, ne _, false, rfl, (fun h => nomatch h), fun _ => ev_nil ?_⟩)⟩))
  have hne : neX (.int ds.length) (.int ds.length) = some (.sh (.bl false)) := by
    show some (Val.sh (.bl (!decide ((ds.length : Int) = ds.length)))) = _
    rw [decide_eq_true rfl]; rfl
  have h8b : lenD [b.d] = some (.sh (.int ds.length)) := by rw [hb]; exact h8
  refine ev_seq (ev_if (ev_or (ev_not (ev_un (ev_varP (a := a) rfl fun v hv => ⟨_, _, hv, h7, true, rfl, false, rfl, (fun _ => ?_), (fun h => nomatch h)⟩)))))
  refine ev_bin (ev_arg (ev_acons (ev_varP (a := a) rfl fun v hv => ev_anil ⟨_, _, peeks1 hv, h8, ev_arg (ev_acons (ev_varP (a := b) rfl fun w hw => ev_anil ⟨_, _, peeks1 hw, h8b, _, _, _, rfl, rfl, hne, false, rfl, (fun h => nomatch h), fun _ => ev_nil ?_⟩))⟩)))
  refine ev_cut (fun e => ∃ o : Option D, e = [some a.slot, some b.slot, o.map Slot.sh]) ?_ ?_
  · refine ev_for (ev_range1 (ev_acons (ev_arg (ev_acons (ev_varP (a := b) rfl fun w hw => ev_anil ⟨_, _, peeks1 hw, h8b, ev_anil ⟨_, rfl, ⟨by omega, by omega⟩, ?_⟩⟩)))))
    refine ev_pass (fun e => ∃ o : Option D, e = [some a.slot, some b.slot, o.map Slot.sh]) ⟨none, rfl⟩ ?_ (fun _ h => h)
    rintro z hz e ⟨o, rfl⟩
    obtain ⟨k, hk, rfl⟩ := List.mem_map.mp hz
    have hk := List.mem_range.mp hk
    have hx : ds[k]? = some (ds[k]'(by omega)) := List.getElem?_eq_getElem (by omega)
    have hix := hd k _ hx
    have hixb : ixD b.d (.int (k : Int)) = some (.sh (ds[k]'(by omega))) := by rw [hb]; exact hix
    refine ⟨[some a.slot, some b.slot, some (.sh (.int (k : Nat)))], by cases o <;> (show some [_, _, some (Slot.sh (D.int (0 + (k : Nat))))] = _; rw [Int.zero_add]), ?_⟩
    refine ev_if (ev_not (ev_callF eg (ev_acons (ev_bin (ev_varP (a := a) rfl fun v hv => ev_var rfl ⟨_, _, _, hv, rfl, hix, ev_acons (ev_bin (ev_varP (a := b) rfl fun w hw => ev_var rfl ⟨_, _, _, hw, rfl, hixb, ev_anil ?_⟩))⟩)))))
    exact callP_2 (kg _ (.sh (ds[k]'(by omega))) (.sh (ds[k]'(by omega))) (h _ (List.getElem_mem _)) rfl rfl) ⟨true, rfl, false, rfl, (fun h => nomatch h), fun _ => ev_nil ⟨some _, rfl⟩⟩
  rintro e ⟨o, rfl⟩
  exact ev_ret (ev_c ⟨_, _, rfl, _, by cases a <;> cases b <;> rfl, rfl⟩)
theorem samev_step {c : CT} {n : Nat} (hs : Has c ("_law_same", none) (SameVOk n)) : SameVOk (n + 1) (runDef 3 2 b_law_same c) := by
  intro d a b h ha hb
  cases d with
  | int i => rw [ha.int, hb.int]; exact same_int c i
  | str i => rw [ha.str, hb.str]; exact same_str c i
  | bl i => rw [ha.bl, hb.bl]; exact same_blV c i
  | lst ds => exact samev_seq (kt := false) hs ha hb h.1 h.2 rfl rfl rfl rfl rfl rfl rfl rfl fun j x hx => ixD_nat hx
  | tup ds => exact samev_seq (kt := true) hs ha hb h.1 h.2 rfl rfl rfl rfl rfl rfl rfl rfl fun j x hx => ixD_natT hx
  | _ => exact absurd h (by simp [SameV])
def SameNon (g : List Arg → Option CRes) : Prop := g [.sh .non, .sh .non] = some (.ret (.sh (.bl true)) [none, none])
theorem same_non (c : CT) : SameNon (runDef 3 2 b_law_same c) := by
  refine (?_ : ∃ r, runDef 3 2 b_law_same c [.sh .non, .sh .non] = some r ∧ r = .ret (.sh (.bl true)) [none, none]).elim fun r ⟨h1, h2⟩ => by show _ = _; rw [h1, h2]
  refine ev_run (e0 := [some (.sh .non), some (.sh .non), none]) rfl rfl ?_
  unfold b_law_same
  have b1 : isB "bool" .non = some (.sh (.bl false)) := rfl
  have b2 : isB "int" .non = some (.sh (.bl false)) := rfl
  have b3 : isB "str" .non = some (.sh (.bl false)) := rfl
  have b4 : isND .non .non = some (.sh (.bl true)) := rfl
  refine ev_seq (ev_if (ev_or (ev_un (ev_var rfl ⟨_, _, rfl, b1, false, rfl, (fun _ => ev_un (ev_var rfl ⟨_, _, rfl, b1, false, rfl, (fun h => nomatch h), fun _ => ev_nil ?_⟩)), (fun h => nomatch h)⟩))))
  refine ev_seq (ev_if (ev_or (ev_un (ev_var rfl ⟨_, _, rfl, b2, false, rfl, (fun _ => ev_un (ev_var rfl ⟨_, _, rfl, b2, false, rfl, (fun h => nomatch h), fun _ => ev_nil ?_⟩)), (fun h => nomatch h)⟩))))
  refine ev_seq (ev_if (ev_or (ev_un (ev_var rfl ⟨_, _, rfl, b3, false, rfl, (fun _ => ev_un (ev_var rfl ⟨_, _, rfl, b3, false, rfl, (fun h => nomatch h), fun _ => ev_nil ?_⟩)), (fun h => nomatch h)⟩))))
  refine ev_seq (ev_if (ev_or (ev_bin (ev_var rfl (ev_c ⟨_, _, _, rfl, rfl, b4, true, rfl, (fun h => nomatch h), fun _ => ⟨true, rfl, fun _ => ?_, (fun h => nomatch h)⟩⟩)))))
  exact ev_ret (ev_and (ev_bin (ev_var rfl (ev_c ⟨_, _, _, rfl, rfl, b4, true, rfl, (fun _ => ev_bin (ev_var rfl (ev_c ⟨_, _, _, rfl, rfl, b4, _, _, rfl, _, rfl, rfl⟩))), (fun h => nomatch h)⟩))))
def hdl2 : SS := (sSeq (sSet 4 (eTup (aCons (eC (.str "other")) aNil))) (sSeq (sIf (eAnd (eIsW xt 5 [.own "TooLarge"]) (eAnd (eIsW xt 5 [.ty "ValueError"]) (eNot (eIsW xt 5 [.own "InputError"])))) (sSet 4 (eTup (aCons (eC (.str "TooLarge")) (aCons (eWhyF xt xf 5 "most") aNil)))) sNil) (sSeq (sIf (eAnd (eIsW xt 5 [.own "BadWord"]) (eAnd (eIsW xt 5 [.own "InputError"]) (eNot (eIsW xt 5 [.own "BadWidth", .own "DuplicateTable"])))) (sSet 4 (eTup (aCons (eC (.str "BadWord")) (aCons (eWhyF xt xf 5 "word") aNil)))) sNil) (sSeq (sIf (eAnd (eIsW xt 5 [.own "BadWidth"]) (eAnd (eIsW xt 5 [.own "InputError"]) (eNot (eIsW xt 5 [.own "BadWord", .own "DuplicateTable"])))) (sSet 4 (eTup (aCons (eC (.str "BadWidth")) (aCons (eWhyF xt xf 5 "table") aNil)))) sNil) (sIf (eAnd (eIsW xt 5 [.own "DuplicateTable"]) (eAnd (eIsW xt 5 [.own "InputError"]) (eNot (eIsW xt 5 [.own "UnknownTable"])))) (sSet 4 (eTup (aCons (eC (.str "DuplicateTable")) (aCons (eWhyF xt xf 5 "table") aNil)))) sNil)))))
theorem hdl2_TooLarge {c : CT} {s0 s1 s2 s3 : Option Slot} {N B C : Env → Prop} {R : Pd.RV → Env → Prop} {X : Exc → Env → Prop} (n : Int) (h : N [s0, s1, s2, s3, some (.sh (errD (tooX n))), some (.why (tooX n))]) : EvS (hdl2 c [s0, s1, s2, s3, some (.sh .non), some (.why (tooX n))]) N R B C X := by
  unfold hdl2
  refine ev_seq (ev_set (ev_tup (ev_acons (ev_c (ev_anil ⟨_, _, rfl, (by rw [sizeL]; simp), [s0, s1, s2, s3, some (.sh (.tup [.str "other"])), some (.why (tooX n))], rfl, ?_⟩)))))
  refine ev_seq (ev_if (ev_and (ev_isW rfl (k := true) (by show anyX xt "TooLarge" _ = _; decide) ⟨true, rfl, (fun _ => ev_and (ev_isW rfl (k := true) (by show anyX xt "TooLarge" _ = _; decide) ⟨true, rfl, (fun _ => ev_not (ev_isW rfl (k := false) (by show anyX xt "TooLarge" _ = _; decide) ⟨false, rfl, ⟨true, rfl, (fun _ => ?_), fun h => nomatch h⟩⟩)), (fun h => nomatch h)⟩)), (fun h => nomatch h)⟩)))
  refine ev_set (ev_tup (ev_acons (ev_c (ev_acons (ev_whyF rfl ⟨by show (xt.lookup ("TooLarge" : Str)).isSome = true; decide, by show (("TooLarge", "most") : Str × Str) ∈ xf; decide⟩ rfl (ev_anil ⟨_, _, rfl, (by rw [sizeL]; simp), [s0, s1, s2, s3, some (.sh (errD (tooX n))), some (.why (tooX n))], rfl, ?_⟩))))))
  refine ev_seq (ev_if (ev_and (ev_isW rfl (k := false) (by show anyX xt "TooLarge" _ = _; decide) ⟨false, rfl, (fun h => nomatch h), fun _ => ⟨false, rfl, (fun h => nomatch h), fun _ => ev_nil ?_⟩⟩)))
  refine ev_seq (ev_if (ev_and (ev_isW rfl (k := false) (by show anyX xt "TooLarge" _ = _; decide) ⟨false, rfl, (fun h => nomatch h), fun _ => ⟨false, rfl, (fun h => nomatch h), fun _ => ev_nil ?_⟩⟩)))
  refine ev_if (ev_and (ev_isW rfl (k := false) (by show anyX xt "TooLarge" _ = _; decide) ⟨false, rfl, (fun h => nomatch h), fun _ => ⟨false, rfl, (fun h => nomatch h), fun _ => ev_nil ?_⟩⟩))
  exact h
theorem hdl2_BadWord {c : CT} {s0 s1 s2 s3 : Option Slot} {N B C : Env → Prop} {R : Pd.RV → Env → Prop} {X : Exc → Env → Prop} (s : Str) (h : N [s0, s1, s2, s3, some (.sh (errD (bwX s))), some (.why (bwX s))]) : EvS (hdl2 c [s0, s1, s2, s3, some (.sh .non), some (.why (bwX s))]) N R B C X := by
  unfold hdl2
  refine ev_seq (ev_set (ev_tup (ev_acons (ev_c (ev_anil ⟨_, _, rfl, (by rw [sizeL]; simp), [s0, s1, s2, s3, some (.sh (.tup [.str "other"])), some (.why (bwX s))], rfl, ?_⟩)))))
  refine ev_seq (ev_if (ev_and (ev_isW rfl (k := false) (by show anyX xt "BadWord" _ = _; decide) ⟨false, rfl, (fun h => nomatch h), fun _ => ⟨false, rfl, (fun h => nomatch h), fun _ => ev_nil ?_⟩⟩)))
  refine ev_seq (ev_if (ev_and (ev_isW rfl (k := true) (by show anyX xt "BadWord" _ = _; decide) ⟨true, rfl, (fun _ => ev_and (ev_isW rfl (k := true) (by show anyX xt "BadWord" _ = _; decide) ⟨true, rfl, (fun _ => ev_not (ev_isW rfl (k := false) (by show anyX xt "BadWord" _ = _; decide) ⟨false, rfl, ⟨true, rfl, (fun _ => ?_), fun h => nomatch h⟩⟩)), (fun h => nomatch h)⟩)), (fun h => nomatch h)⟩)))
  refine ev_set (ev_tup (ev_acons (ev_c (ev_acons (ev_whyF rfl ⟨by show (xt.lookup ("BadWord" : Str)).isSome = true; decide, by show (("BadWord", "word") : Str × Str) ∈ xf; decide⟩ rfl (ev_anil ⟨_, _, rfl, (by rw [sizeL]; simp), [s0, s1, s2, s3, some (.sh (errD (bwX s))), some (.why (bwX s))], rfl, ?_⟩))))))
  refine ev_seq (ev_if (ev_and (ev_isW rfl (k := false) (by show anyX xt "BadWord" _ = _; decide) ⟨false, rfl, (fun h => nomatch h), fun _ => ⟨false, rfl, (fun h => nomatch h), fun _ => ev_nil ?_⟩⟩)))
  refine ev_if (ev_and (ev_isW rfl (k := false) (by show anyX xt "BadWord" _ = _; decide) ⟨false, rfl, (fun h => nomatch h), fun _ => ⟨false, rfl, (fun h => nomatch h), fun _ => ev_nil ?_⟩⟩))
  exact h
theorem hdl2_BadWidth {c : CT} {s0 s1 s2 s3 : Option Slot} {N B C : Env → Prop} {R : Pd.RV → Env → Prop} {X : Exc → Env → Prop} (s : Str) (h : N [s0, s1, s2, s3, some (.sh (errD (bdX s))), some (.why (bdX s))]) : EvS (hdl2 c [s0, s1, s2, s3, some (.sh .non), some (.why (bdX s))]) N R B C X := by
  unfold hdl2
  refine ev_seq (ev_set (ev_tup (ev_acons (ev_c (ev_anil ⟨_, _, rfl, (by rw [sizeL]; simp), [s0, s1, s2, s3, some (.sh (.tup [.str "other"])), some (.why (bdX s))], rfl, ?_⟩)))))
  refine ev_seq (ev_if (ev_and (ev_isW rfl (k := false) (by show anyX xt "BadWidth" _ = _; decide) ⟨false, rfl, (fun h => nomatch h), fun _ => ⟨false, rfl, (fun h => nomatch h), fun _ => ev_nil ?_⟩⟩)))
  refine ev_seq (ev_if (ev_and (ev_isW rfl (k := false) (by show anyX xt "BadWidth" _ = _; decide) ⟨false, rfl, (fun h => nomatch h), fun _ => ⟨false, rfl, (fun h => nomatch h), fun _ => ev_nil ?_⟩⟩)))
  refine ev_seq (ev_if (ev_and (ev_isW rfl (k := true) (by show anyX xt "BadWidth" _ = _; decide) ⟨true, rfl, (fun _ => ev_and (ev_isW rfl (k := true) (by show anyX xt "BadWidth" _ = _; decide) ⟨true, rfl, (fun _ => ev_not (ev_isW rfl (k := false) (by show anyX xt "BadWidth" _ = _; decide) ⟨false, rfl, ⟨true, rfl, (fun _ => ?_), fun h => nomatch h⟩⟩)), (fun h => nomatch h)⟩)), (fun h => nomatch h)⟩)))
  refine ev_set (ev_tup (ev_acons (ev_c (ev_acons (ev_whyF rfl ⟨by show (xt.lookup ("BadWidth" : Str)).isSome = true; decide, by show (("BadWidth", "table") : Str × Str) ∈ xf; decide⟩ rfl (ev_anil ⟨_, _, rfl, (by rw [sizeL]; simp), [s0, s1, s2, s3, some (.sh (errD (bdX s))), some (.why (bdX s))], rfl, ?_⟩))))))
  refine ev_if (ev_and (ev_isW rfl (k := false) (by show anyX xt "BadWidth" _ = _; decide) ⟨false, rfl, (fun h => nomatch h), fun _ => ⟨false, rfl, (fun h => nomatch h), fun _ => ev_nil ?_⟩⟩))
  exact h
theorem hdl2_DuplicateTable {c : CT} {s0 s1 s2 s3 : Option Slot} {N B C : Env → Prop} {R : Pd.RV → Env → Prop} {X : Exc → Env → Prop} (s : Str) (h : N [s0, s1, s2, s3, some (.sh (errD (dupX s))), some (.why (dupX s))]) : EvS (hdl2 c [s0, s1, s2, s3, some (.sh .non), some (.why (dupX s))]) N R B C X := by
  unfold hdl2
  refine ev_seq (ev_set (ev_tup (ev_acons (ev_c (ev_anil ⟨_, _, rfl, (by rw [sizeL]; simp), [s0, s1, s2, s3, some (.sh (.tup [.str "other"])), some (.why (dupX s))], rfl, ?_⟩)))))
  refine ev_seq (ev_if (ev_and (ev_isW rfl (k := false) (by show anyX xt "DuplicateTable" _ = _; decide) ⟨false, rfl, (fun h => nomatch h), fun _ => ⟨false, rfl, (fun h => nomatch h), fun _ => ev_nil ?_⟩⟩)))
  refine ev_seq (ev_if (ev_and (ev_isW rfl (k := false) (by show anyX xt "DuplicateTable" _ = _; decide) ⟨false, rfl, (fun h => nomatch h), fun _ => ⟨false, rfl, (fun h => nomatch h), fun _ => ev_nil ?_⟩⟩)))
  refine ev_seq (ev_if (ev_and (ev_isW rfl (k := false) (by show anyX xt "DuplicateTable" _ = _; decide) ⟨false, rfl, (fun h => nomatch h), fun _ => ⟨false, rfl, (fun h => nomatch h), fun _ => ev_nil ?_⟩⟩)))
  refine ev_if (ev_and (ev_isW rfl (k := true) (by show anyX xt "DuplicateTable" _ = _; decide) ⟨true, rfl, (fun _ => ev_and (ev_isW rfl (k := true) (by show anyX xt "DuplicateTable" _ = _; decide) ⟨true, rfl, (fun _ => ev_not (ev_isW rfl (k := false) (by show anyX xt "DuplicateTable" _ = _; decide) ⟨false, rfl, ⟨true, rfl, (fun _ => ?_), fun h => nomatch h⟩⟩)), (fun h => nomatch h)⟩)), (fun h => nomatch h)⟩))
  refine ev_set (ev_tup (ev_acons (ev_c (ev_acons (ev_whyF rfl ⟨by show (xt.lookup ("DuplicateTable" : Str)).isSome = true; decide, by show (("DuplicateTable", "table") : Str × Str) ∈ xf; decide⟩ rfl (ev_anil ⟨_, _, rfl, (by rw [sizeL]; simp), [s0, s1, s2, s3, some (.sh (errD (dupX s))), some (.why (dupX s))], rfl, ?_⟩))))))
  exact h
theorem hot_str (i : Str) : runDef 3 2 bh_law_same CT.nil [.sh (.str i), .sh (.str i)] = some (.ret (.sh (.bl true)) [none, none]) := by
  refine (?_ : ∃ r, runDef 3 2 bh_law_same CT.nil [.sh (.str i), .sh (.str i)] = some r ∧ r = .ret (.sh (.bl true)) [none, none]).elim fun r ⟨h1, h2⟩ => by rw [h1, h2]
  refine ev_run (e0 := [some (.sh (.str i)), some (.sh (.str i)), none]) rfl rfl ?_
  unfold bh_law_same
  walk_at "go"
  simp
theorem hot_sameS (i : Str) : ∃ g, hc ("_law_same", none) = some g ∧ g [.sh (.str i), .sh (.str i)] = some (.ret (.sh (.bl true)) [none, none]) := ⟨_, rfl, hot_str i⟩
theorem ev_andX {c : CT} {env : Env} {Q : Val → Env → Prop} {X : Exc → Env → Prop} {fa fb : SE} (h : EvX (fa c env) (fun _ _ => False) X) : EvX (eAnd fa fb c env) Q X := by
  obtain ⟨o, h1, q⟩ := h
  cases o with
  | val v e => exact q.elim
  | exc z e => exact ⟨.exc z e, by simp only [eAnd, h1], q⟩
theorem ev_binX1 {c : CT} {env : Env} {Q : Val → Env → Prop} {X : Exc → Env → Prop} {g : D → D → Option Val} {fa fb : SE} (h : EvX (fa c env) (fun _ _ => False) X) : EvX (eBin g fa fb c env) Q X := by
  obtain ⟨o, h1, q⟩ := h
  cases o with
  | val v e => exact q.elim
  | exc z e => exact ⟨.exc z e, by simp only [eBin, bindV, h1], q⟩
theorem ev_ixOX {c : CT} {env : Env} {Q : Val → Env → Prop} {X : Exc → Env → Prop} {fa fb : SE} (h : EvE (fa c env) fun va e1 => EvE (fb c e1) fun vb e2 => ∃ g, ownG "__getitem__" c e2 va = some g ∧ CallX g e2 [va, vb] [true, false] X) : EvX (eIxO fa fb c env) Q X := by
  obtain ⟨va, e1, h1, vb, e2, h2, g, h3, h4⟩ := h
  obtain ⟨z, e, h5, q⟩ := callX_exc h4
  exact ⟨.exc z e, by simp only [eIxO, eB2, bindV, h1, h2, kIx, h3, Option.bind_some, h5], q⟩
theorem ev_callKX {c : CT} {env : Env} {Q : Val → Env → Prop} {X : Exc → Env → Prop} {p : Str × Option Str} {ks : List Str} {fs : SA} {g : List Arg → Option CRes} (hg : c p = some g) (z : EvA (fs c env) fun vs e1 => ∃ (ds : List D) (e2 : Env), takes e1 vs = some (ds, e2) ∧ ds.length = ks.length ∧ ks.Nodup ∧ ds.length ≤ 1000 ∧ ∃ x outs, g [.sh (.kd ((ks.map (Sum.inr : Str → Key)).zip ds))] = some (.exc x outs) ∧ X x e2) : EvX (eCallK p ks fs c env) Q X := by
  obtain ⟨vs, e1, h1, ds, e2, h2, h3, h4, h5, x, outs, h6, q⟩ := z
  refine ⟨.exc x e2, ?_, q⟩
  unfold eCallK bindA
  rw [h1]
  simp only [h2, Option.bind_some]
  rw [if_pos ⟨h3, h4, h5⟩, hg]
  simp only [Option.bind_some]
  rw [h6]; rfl
theorem ev_callKR {c : CT} {env : Env} {Q : Val → Env → Prop} {p : Str × Option Str} {ks : List Str} {fs : SA} {g : List Arg → Option CRes} (hg : c p = some g) (z : EvA (fs c env) fun vs e1 => ∃ (ds : List D) (e2 : Env), takes e1 vs = some (ds, e2) ∧ ds.length = ks.length ∧ ks.Nodup ∧ ds.length ≤ 1000 ∧ ∃ r outs, g [.sh (.kd ((ks.map (Sum.inr : Str → Key)).zip ds))] = some (.ret r outs) ∧ Q r.val e2) : EvE (eCallK p ks fs c env) Q := by
  obtain ⟨vs, e1, h1, ds, e2, h2, h3, h4, h5, x, outs, h6, q⟩ := z
  refine ⟨_, e2, ?_, q⟩
  unfold eCallK bindA
  rw [h1]
  simp only [h2, Option.bind_some]
  rw [if_pos ⟨h3, h4, h5⟩, hg]
  simp only [Option.bind_some]
  rw [h6]; rfl
def SchGetXOk (g : List Arg → Option CRes) : Prop := ∀ (ts : List Tb) (n : Str), GoodT ts → PyData.strOk n = true → n ∉ ts.map (·.1) → g [.sh (schD ts), .sh (.str n)] = some (.exc (unkX n) [none, none])
theorem schema_getX (c : CT) : SchGetXOk (runDef 2 2 b_Schema_getitem c) := by
  intro ts n G hn hni
  refine (?_ : ∃ r, runDef 2 2 b_Schema_getitem c [.sh (schD ts), .sh (.str n)] = some r ∧ r = .exc (unkX n) [none, none]).elim fun r ⟨h1, h2⟩ => by rw [h1, h2]
  refine ev_run (e0 := [some (.sh (schD ts)), some (.sh (.str n))]) rfl rfl ?_
  unfold b_Schema_getitem
  obtain ⟨k, h1, h2⟩ := pl_ninT (n := 60) (d := .str n) (by decide) hn (namesD_pl G)
  have hk : k = true := h2.mpr fun h => by
    obtain ⟨t, ht, e⟩ := (namesD_mem G _).mp h
    exact hni (List.mem_map.mpr ⟨t, ht, (D.str.inj e).symm⟩)
  refine ev_seq (ev_if (ev_bin (ev_var rfl (ev_fld (ev_var rfl ⟨_, schF ts, .tup (namesD ts), rfl, by decide, rfl, _, _, _, rfl, rfl, h1, k, rfl, fun h => ?_, fun h => ?_⟩)))))
  · exact ev_raiseF (ev_var rfl ⟨_, _, rfl, _, rfl, rfl⟩)
  · exact absurd hk (by rw [h]; decide)
/-! ### what the law spoils (k02) -/
theorem eqX_intB (a b : Int) : eqX (.int a) (.int b) = some (.sh (.bl (decide (a = b)))) := rfl
theorem ix_any {α : Type} {e : α → D} {xs : List α} (z : α) {r : Int} (h0 : 0 ≤ r) (h1 : r < (xs.length : Int)) : ixD (.lst (xs.map e)) (.int r) = some (.sh (e (xs.getD r.toNat z))) := by
  obtain ⟨k, rfl⟩ : ∃ k : Nat, r = k := ⟨r.toNat, by omega⟩
  have hk : k < xs.length := by omega
  refine ixD_nat ?_
  rw [List.getElem?_map, List.getElem?_eq_getElem hk, Int.toNat_natCast, List.getD_eq_getElem?_getD, List.getElem?_eq_getElem hk]; rfl
theorem getD_mem {α : Type} {xs : List α} (z : α) {r : Int} (h0 : 0 ≤ r) (h1 : r < (xs.length : Int)) : xs.getD r.toNat z ∈ xs := by
  have hk : r.toNat < xs.length := by omega
  rw [List.getD_eq_getElem?_getD, List.getElem?_eq_getElem hk]
  exact List.getElem_mem _
theorem len_map {α : Type} {e : α → D} (xs : List α) : lenD [.lst (xs.map e)] = some (.sh (.int (xs.length : Nat))) := by
  show some (Val.sh (.int ((xs.map e).length : Nat))) = _
  rw [List.length_map]
def BadC : Str := " !\"#$&'()*+,-./:;<=>?\x40[\\]^`{|}~\n"
def bcS (r : Int) : Str := st [(cp BadC).getD r.toNat 0]
theorem bc_ix {r : Int} (h0 : 0 ≤ r) (h : r < 32 ∨ r = 0) : ixD (.str BadC) (.int r) = some (.sh (.str (bcS r))) := by
  obtain ⟨k, rfl⟩ : ∃ k : Nat, r = k := ⟨r.toNat, by omega⟩
  have hl : (cp BadC).length = 32 := by decide +kernel
  have hk : k < (cp BadC).length := by omega
  refine ix_text (by decide +kernel) ?_
  rw [List.getElem?_eq_getElem hk, Int.toNat_natCast, List.getD_eq_getElem?_getD, List.getElem?_eq_getElem hk]; rfl
theorem bc_ok {r : Int} (h0 : 0 ≤ r) (h : r < 32 ∨ r = 0) : PyData.strOk (bcS r) = true := by
  have hl : (cp BadC).length = 32 := by decide +kernel
  have hm : (cp BadC).getD r.toNat 0 ∈ cp BadC := getD_mem 0 h0 (by omega)
  have ha : ∀ c ∈ cp BadC, c < 0x110000 := by decide +kernel
  rw [strOk_iff]
  intro c hc
  have hc : c ∈ [(cp BadC).getD r.toNat 0] := hc
  rw [List.mem_singleton.mp hc]
  exact ha _ hm
def Ltr : Str := "abcdefghijklmnopqrstu"
theorem ltr_ok : PyData.strOk Ltr = true := by decide +kernel
theorem ltr_len : Ltr.length = 21 := by decide +kernel
def LBadWOk (g : List Arg → Option CRes) : Prop := ∀ cl : Cell, Good cl → ∃ (cl' : Cell) (s : Str), g [.brw cl] = some (.ret (.sh (.str s)) [some cl']) ∧ Good cl' ∧ PyData.strOk s = true ∧ s.length ≤ 41
theorem law_bad_word_ok (c : CT) (h_draw : Has c ("_law_draw", none) DrawOk) (h_w : Has c ("_law_word", none) LWordOk) : LBadWOk (runDef 5 1 b_law_bad_word c) := by
  obtain ⟨g1, e_law_word, k1⟩ := h_w
  intro cl hg
  refine (?_ : ∃ y, runDef 5 1 b_law_bad_word c [.brw cl] = some y ∧ ∃ (cl' : Cell) (s : Str), y = .ret (.sh (.str s)) [some cl'] ∧ Good cl' ∧ PyData.strOk s = true ∧ s.length ≤ 41).elim fun r ⟨h1, cl', s, h2, h3⟩ => ⟨cl', s, by rw [h1, h2], h3⟩
  refine ev_run (e0 := [some (.brw cl), none, none, none, none]) rfl rfl ?_
  unfold b_law_bad_word
  refine ev_seq (ev_set (ev_c ⟨[some (.brw cl), some (.sh (.str BadC)), none, none, none], rfl, ?_⟩))
  refine ev_seq (ev_set (ev_drawT h_draw rfl hg (ev_c ⟨_, rfl, rfl, (by first | decide | omega), fun k cl_k hg_k l_k u_k => ⟨[some (.brw cl_k), some (.sh (.str BadC)), none, none, none], rfl, [some (.brw cl_k), some (.sh (.str BadC)), some (.sh (.int k)), none, none], rfl, ?_⟩⟩)))
  obtain ⟨cl_w, w, zw, hg_w, hw⟩ := k1 cl_k hg_k
  have hwl := isW_len hw
  have hwo := isW_ok hw
  refine ev_seq (ev_set (ev_callT e_law_word (ev_acons (ev_var rfl (ev_anil ⟨_, _, _, _, _, _, _, _, rfl, rfl, rfl, zw, [some (.brw cl_w), some (.sh (.str BadC)), some (.sh (.int k)), none, none], rfl, [some (.brw cl_w), some (.sh (.str BadC)), some (.sh (.int k)), some (.sh (.str w)), none], rfl, ?_⟩)))))
  refine ev_seq (ev_if (ev_bin (ev_var rfl (ev_c ⟨_, _, _, rfl, rfl, eqX_intB _ _, _, rfl, (fun h => ?_), (fun h => ev_nil ?_)⟩))))
  · exact ev_ret (ev_c ⟨_, _, rfl, _, rfl, ⟨_, "", rfl, hg_w, by decide +kernel, by decide +kernel⟩⟩)
  refine ev_seq (ev_if (ev_bin (ev_var rfl (ev_c ⟨_, _, _, rfl, rfl, eqX_intB _ _, _, rfl, (fun h => ?_), (fun h => ev_nil ?_)⟩))))
  · have ll := ltr_len
    have hal := len_appS w Ltr
    have ad : addD (.str w) (.str Ltr) = some (.sh (.str (w ++ Ltr))) := add_S (by omega)
    have sl := sl_S (s := w ++ Ltr) (by omega) none (some 21)
    exact ev_ret (ev_sl01 (ev_bin (ev_var rfl (ev_c ⟨_, _, _, rfl, rfl, ad, ev_c ⟨_, _, _, rfl, rfl, sl, _, _, rfl, _, rfl, ⟨_, _, rfl, hg_w, strOk_cut (strOk_app hwo ltr_ok) _ _, by have := cut_lenS (w ++ Ltr) none (some 21); omega⟩⟩⟩))))
  have hlw : lenD [.str w] = some (.sh (.int (w.length : Nat))) := len_text (by omega)
  have ad1 : addD (.int (w.length : Nat)) (.int 1) = some (.sh (.int ((w.length : Int) + 1))) := rfl
  refine ev_seq (ev_set (ev_drawT h_draw rfl hg_w (ev_bin (ev_arg (ev_acons (ev_var rfl (ev_anil ⟨_, _, rfl, hlw, ev_c ⟨_, _, _, rfl, rfl, ad1, _, rfl, rfl, (by first | decide | omega), fun p cl_p hg_p l_p u_p => ⟨[some (.brw cl_p), some (.sh (.str BadC)), some (.sh (.int k)), some (.sh (.str w)), none], rfl, [some (.brw cl_p), some (.sh (.str BadC)), some (.sh (.int k)), some (.sh (.str w)), some (.sh (.int p))], rfl, ?_⟩⟩⟩)))))))
  have s1 := sl_S (s := w) (by omega) none (some p)
  have s2 := sl_S (s := w) (by omega) (some p) none
  have l1 := cut_lenS w none (some p)
  have l2 := cut_lenS w (some p) none
  have o1 := strOk_cut hwo none (some p)
  have o2 := strOk_cut hwo (some p) none
  generalize cutS w none (some p) = a at *
  generalize cutS w (some p) none = b at *
  have j1 : ∀ v : Int, addD (.str a) (.str (bcS v)) = some (.sh (.str (a ++ bcS v))) := fun v => add_S (by have : (bcS v).length = 1 := rfl; omega)
  have j2 : ∀ v : Int, addD (.str (a ++ bcS v)) (.str b) = some (.sh (.str (a ++ bcS v ++ b))) := fun v => add_S (by have : (bcS v).length = 1 := rfl; have := len_appS a (bcS v); omega)
  exact ev_ret (ev_bin (ev_bin (ev_sl01 (ev_var rfl (ev_var rfl ⟨_, _, _, rfl, rfl, s1, ev_bin (ev_var rfl (ev_drawT h_draw rfl hg_p (ev_c ⟨_, rfl, rfl, (by first | decide | omega), fun v cl_v hg_v l_v u_v => ⟨[some (.brw cl_v), some (.sh (.str BadC)), some (.sh (.int k)), some (.sh (.str w)), some (.sh (.int p))], rfl, _, _, _, rfl, rfl, bc_ix l_v u_v, _, _, _, rfl, rfl, j1 _, ev_sl10 (ev_var rfl (ev_var rfl ⟨_, _, _, rfl, rfl, s2, _, _, _, rfl, rfl, j2 _, _, _, rfl, _, rfl, ⟨_, _, rfl, hg_v, strOk_app (strOk_app o1 (bc_ok l_v u_v)) o2, by have : (bcS v).length = 1 := rfl; have := len_appS a (bcS v); have := len_appS (a ++ bcS v) b; omega⟩⟩))⟩⟩)))⟩)))))
def pk8 (l d : Int) : D := if d = 0 then .int 0 else if d = 1 then .int 5 else if d = 2 then .int (-1) else if d = 3 then .bl true else if d = 4 then .bl false else if d = 5 then .int (10 ^ (30 : Int).toNat) else if d = 6 then .int (0 - 10 ^ (30 : Int).toNat) else .int (6 + l)
theorem pk8_ix {l d : Int} (h0 : 0 ≤ d) (h : d < 8 ∨ d = 0) : ixD (.lst [.int 0, .int 5, .int (-1), .bl true, .bl false, .int (10 ^ (30 : Int).toNat), .int (0 - 10 ^ (30 : Int).toNat), .int (6 + l)]) (.int d) = some (.sh (pk8 l d)) := by
  have hd : d = 0 ∨ d = 1 ∨ d = 2 ∨ d = 3 ∨ d = 4 ∨ d = 5 ∨ d = 6 ∨ d = 7 := by omega
  rcases hd with rfl | rfl | rfl | rfl | rfl | rfl | rfl | rfl <;> rfl
theorem pk8_v (l d : Int) : WdV (pk8 l d) := by
  unfold pk8
  split
  · exact .inl ⟨_, rfl⟩
  split
  · exact .inl ⟨_, rfl⟩
  split
  · exact .inl ⟨_, rfl⟩
  split
  · exact .inr ⟨_, rfl⟩
  split
  · exact .inr ⟨_, rfl⟩
  split
  · exact .inl ⟨_, rfl⟩
  split
  · exact .inl ⟨_, rfl⟩
  · exact .inl ⟨_, rfl⟩
def LBadDOk (g : List Arg → Option CRes) : Prop := ∀ cl : Cell, Good cl → ∃ (cl' : Cell) (d : D), g [.brw cl] = some (.ret (.sh d) [some cl']) ∧ Good cl' ∧ WdV d
theorem law_bad_width_ok (c : CT) (h_draw : Has c ("_law_draw", none) DrawOk) : LBadDOk (runDef 2 1 b_law_bad_width c) := by
  intro cl hg
  refine (?_ : ∃ y, runDef 2 1 b_law_bad_width c [.brw cl] = some y ∧ ∃ (cl' : Cell) (d : D), y = .ret (.sh d) [some cl'] ∧ Good cl' ∧ WdV d).elim fun r ⟨h1, cl', d, h2, h3⟩ => ⟨cl', d, by rw [h1, h2], h3⟩
  refine ev_run (e0 := [some (.brw cl), none]) rfl rfl ?_
  unfold b_law_bad_width
  refine ev_seq (ev_set (ev_bin (ev_c (ev_drawT h_draw rfl hg (ev_c ⟨_, rfl, rfl, (by first | decide | omega), fun l cl_l hg_l l_l u_l => ⟨[some (.brw cl_l), none], rfl, _, _, _, rfl, rfl, rfl, [some (.brw cl_l), some (.sh (.int (6 + l)))], rfl, ?_⟩⟩)))))
  exact ev_ret (ev_bin (ev_list (ev_acons (ev_c (ev_acons (ev_c (ev_acons (ev_un (ev_c ⟨_, _, rfl, rfl, ev_acons (ev_c (ev_acons (ev_c (ev_acons (ev_bin (ev_c (ev_c ⟨_, _, _, rfl, rfl, powD_i (by decide), ev_acons (ev_bin (ev_c (ev_bin (ev_c (ev_c ⟨_, _, _, rfl, rfl, powD_i (by decide), _, _, _, rfl, rfl, rfl, ev_acons (ev_var rfl (ev_anil ⟨_, _, rfl, (by rw [sizeL]; simp), ev_drawT h_draw rfl hg_l (ev_c ⟨_, rfl, rfl, (by first | decide | omega), fun d cl_d hg_d l_d u_d => ⟨[some (.brw cl_d), some (.sh (.int (6 + l)))], rfl, _, _, _, rfl, rfl, pk8_ix l_d u_d, _, _, rfl, _, rfl, ⟨_, _, rfl, hg_d, pk8_v l d⟩⟩⟩)⟩))⟩)))))⟩)))))))⟩)))))))))
def LSpl2Ok (g : List Arg → Option CRes) : Prop := ∀ (cl : Cell) (ns : List Str) (p : PV), Good cl → 1 ≤ ns.length → ns.length ≤ 1000 → (∀ s ∈ ns, PyData.strOk s = true ∧ s.length ≤ 1000) → PvOk p → ∃ (cl' : Cell) (q : PV), g [.brw cl, .sh (.lst (ns.map .str)), .sh (pvD p)] = some (.ret (.sh (pvD q)) [some cl', none, none]) ∧ Good cl' ∧ PvOk q
theorem law_spoilt2_ok (c : CT) (h_draw : Has c ("_law_draw", none) DrawOk) (h_w : Has c ("_law_bad_word", none) LBadWOk) (h_d : Has c ("_law_bad_width", none) LBadDOk) : LSpl2Ok (runDef 4 3 b_law_spoilt c) := by
  obtain ⟨g1, e_law_bad_word, k1⟩ := h_w
  obtain ⟨g2, e_law_bad_width, k2⟩ := h_d
  intro cl ns p hg hn1 hnl hns hp
  refine (?_ : ∃ y, runDef 4 3 b_law_spoilt c [.brw cl, .sh (.lst (ns.map .str)), .sh (pvD p)] = some y ∧ ∃ (cl' : Cell) (q : PV), y = .ret (.sh (pvD q)) [some cl', none, none] ∧ Good cl' ∧ PvOk q).elim fun r ⟨h1, cl', q, h2, h3⟩ => ⟨cl', q, by rw [h1, h2], h3⟩
  refine ev_run (e0 := [some (.brw cl), some (.sh (.lst (ns.map .str))), some (.sh (pvD p)), none]) rfl rfl ?_
  unfold b_law_spoilt
  refine ev_seq (ev_set (ev_drawT h_draw rfl hg (ev_c ⟨_, rfl, rfl, (by first | decide | omega), fun k cl_k hg_k l_k u_k => ⟨[some (.brw cl_k), some (.sh (.lst (ns.map .str))), some (.sh (pvD p)), none], rfl, [some (.brw cl_k), some (.sh (.lst (ns.map .str))), some (.sh (pvD p)), some (.sh (.int k))], rfl, ?_⟩⟩)))
  obtain ⟨cl_w, s, zw, hg_w, hs, hsl⟩ := k1 cl_k hg_k
  obtain ⟨cl_x, d, zx, hg_x, hd⟩ := k2 cl_k hg_k
  have i0 := pv_ix0 p
  have i1 := pv_ix1 p
  have hln := len_map (e := D.str) ns
  refine ev_seq (ev_if (ev_bin (ev_var rfl (ev_c ⟨_, _, _, rfl, rfl, eqX_intB _ _, _, rfl, (fun h => ?_), (fun h => ev_nil ?_)⟩))))
  · exact ev_ret (ev_tup (ev_acons (ev_callT e_law_bad_word (ev_acons (ev_var rfl (ev_anil ⟨_, _, _, _, _, _, _, _, rfl, rfl, rfl, zw, [some (.brw cl_w), some (.sh (.lst (ns.map .str))), some (.sh (pvD p)), some (.sh (.int k))], rfl, ev_acons (ev_bin (ev_var rfl (ev_c ⟨_, _, _, rfl, rfl, i1, ev_anil ⟨_, _, rfl, (by rw [sizeL]; simp), _, _, rfl, _, rfl, ⟨cl_w, (s, p.2), rfl, hg_w, ⟨hs, by show s.length ≤ 1000; omega, hp.w⟩⟩⟩⟩)))⟩))))))
  refine ev_seq (ev_if (ev_bin (ev_var rfl (ev_c ⟨_, _, _, rfl, rfl, eqX_intB _ _, _, rfl, (fun h => ?_), (fun h => ev_nil ?_)⟩))))
  · exact ev_ret (ev_tup (ev_acons (ev_bin (ev_var rfl (ev_c ⟨_, _, _, rfl, rfl, i0, ev_acons (ev_callT e_law_bad_width (ev_acons (ev_var rfl (ev_anil ⟨_, _, _, _, _, _, _, _, rfl, rfl, rfl, zx, [some (.brw cl_x), some (.sh (.lst (ns.map .str))), some (.sh (pvD p)), some (.sh (.int k))], rfl, ev_anil ⟨_, _, rfl, (by rw [sizeL]; simp), _, _, rfl, _, rfl, ⟨cl_x, (p.1, d), rfl, hg_x, ⟨hp.s, hp.l, hd⟩⟩⟩⟩))))⟩)))))
  exact ev_ret (ev_tup (ev_acons (ev_bin (ev_var rfl (ev_drawT h_draw rfl hg_k (ev_arg (ev_acons (ev_var rfl (ev_anil ⟨_, _, rfl, hln, _, rfl, rfl, (by first | decide | omega), fun v cl_v hg_v l_v u_v => ⟨[some (.brw cl_v), some (.sh (.lst (ns.map .str))), some (.sh (pvD p)), some (.sh (.int k))], rfl, _, _, _, rfl, rfl, ix_any (e := D.str) (xs := ns) "" l_v (by omega), ev_acons (ev_bin (ev_var rfl (ev_c ⟨_, _, _, rfl, rfl, i1, ev_anil ⟨_, _, rfl, (by rw [sizeL]; simp), _, _, rfl, _, rfl, ⟨_, (ns.getD v.toNat "", p.2), rfl, hg_v, ⟨(hns _ (getD_mem (xs := ns) "" l_v (by omega))).1, (hns _ (getD_mem (xs := ns) "" l_v (by omega))).2, hp.w⟩⟩⟩⟩)))⟩⟩)))))))))
/-! ### what is made, what is told, strange words (k02) -/
def kw1 (w : D) : List PV := [("teacher", .int 2), ("store", w), ("cover", .int 0)]
def kw2 (w : D) : List PV := [("store", .int 1), ("abcdefghijklmnopqrstu", w)]
def kw3 (w : D) : List PV := [("store", .int 1), ("query", .int 2), ("teacher", .int 3), ("learner", .int 4), ("ring", .int 1), ("link", .int 2), ("piece", .int 3), ("cover", .int 4), ("double", w)]
def kw4 (w : D) : List PV := [("cover", .int 1), ("piece", .int 2), ("link", .int 3), ("ring", .int 4), ("learner", .int 1), ("teacher", .int 2), ("query", .int 3), ("store", .int 4)]
def kwP (k : Nat) (w : D) : List PV := match k with
  | 1 => kw1 w
  | 2 => kw2 w
  | 3 => kw3 w
  | _ => kw4 w
theorem pv_str {s : Str} {d : D} (h : PyData.strOk s = true ∧ s.length ≤ 1000) (hd : WdV d) : PvOk (s, d) := ⟨h.1, h.2, hd⟩
theorem kw1_ok {w : D} (hw : WdV w) : ∀ p ∈ kw1 w, PvOk p := fun p hp => by
  simp only [kw1, List.mem_cons, List.not_mem_nil, or_false] at hp
  rcases hp with rfl | rfl | rfl
  · exact pv_str (by decide +kernel) (.inl ⟨_, rfl⟩)
  · exact pv_str (by decide +kernel) hw
  · exact pv_str (by decide +kernel) (.inl ⟨_, rfl⟩)
theorem kw1_nd (w : D) : ((kw1 w).map (·.1)).Nodup := by
  show (["teacher", "store", "cover"] : List Str).Nodup
  decide +kernel
theorem kw2_ok {w : D} (hw : WdV w) : ∀ p ∈ kw2 w, PvOk p := fun p hp => by
  simp only [kw2, List.mem_cons, List.not_mem_nil, or_false] at hp
  rcases hp with rfl | rfl
  · exact pv_str (by decide +kernel) (.inl ⟨_, rfl⟩)
  · exact pv_str (by decide +kernel) hw
theorem kw2_nd (w : D) : ((kw2 w).map (·.1)).Nodup := by
  show (["store", "abcdefghijklmnopqrstu"] : List Str).Nodup
  decide +kernel
theorem kw3_ok {w : D} (hw : WdV w) : ∀ p ∈ kw3 w, PvOk p := fun p hp => by
  simp only [kw3, List.mem_cons, List.not_mem_nil, or_false] at hp
  rcases hp with rfl | rfl | rfl | rfl | rfl | rfl | rfl | rfl | rfl
  · exact pv_str (by decide +kernel) (.inl ⟨_, rfl⟩)
  · exact pv_str (by decide +kernel) (.inl ⟨_, rfl⟩)
  · exact pv_str (by decide +kernel) (.inl ⟨_, rfl⟩)
  · exact pv_str (by decide +kernel) (.inl ⟨_, rfl⟩)
  · exact pv_str (by decide +kernel) (.inl ⟨_, rfl⟩)
  · exact pv_str (by decide +kernel) (.inl ⟨_, rfl⟩)
  · exact pv_str (by decide +kernel) (.inl ⟨_, rfl⟩)
  · exact pv_str (by decide +kernel) (.inl ⟨_, rfl⟩)
  · exact pv_str (by decide +kernel) hw
theorem kw3_nd (w : D) : ((kw3 w).map (·.1)).Nodup := by
  show (["store", "query", "teacher", "learner", "ring", "link", "piece", "cover", "double"] : List Str).Nodup
  decide +kernel
theorem kw4_ok {w : D} (hw : WdV w) : ∀ p ∈ kw4 w, PvOk p := fun p hp => by
  simp only [kw4, List.mem_cons, List.not_mem_nil, or_false] at hp
  rcases hp with rfl | rfl | rfl | rfl | rfl | rfl | rfl | rfl
  · exact pv_str (by decide +kernel) (.inl ⟨_, rfl⟩)
  · exact pv_str (by decide +kernel) (.inl ⟨_, rfl⟩)
  · exact pv_str (by decide +kernel) (.inl ⟨_, rfl⟩)
  · exact pv_str (by decide +kernel) (.inl ⟨_, rfl⟩)
  · exact pv_str (by decide +kernel) (.inl ⟨_, rfl⟩)
  · exact pv_str (by decide +kernel) (.inl ⟨_, rfl⟩)
  · exact pv_str (by decide +kernel) (.inl ⟨_, rfl⟩)
  · exact pv_str (by decide +kernel) (.inl ⟨_, rfl⟩)
theorem kw4_nd (w : D) : ((kw4 w).map (·.1)).Nodup := by
  show (["cover", "piece", "link", "ring", "learner", "teacher", "query", "store"] : List Str).Nodup
  decide +kernel
def mdP (k : Nat) (w : D) (ps : List PV) : List PV := if k = 0 then ps else kwP k w
theorem ev_schemaG {c : CT} {env : Env} {Q : Val → Env → Prop} {fs : SA} (h : Has c ("Schema", some "__init__") SchInitOk) (z : EvA (fs c env) fun vs e1 => ∃ (ts : List Tb) (ms : List Im) (e2 : Env) (a : Arg), GoodT ts ∧ itemsF e1 vs [true] = some (ms, e2) ∧ nodupB (ms.filterMap Im.ix) = true ∧ argsF e2 ms = some [a] ∧ SeqP a (ts.map tbD) ∧ ∃ w, outF ms [a] [a.out] = some w ∧ ∃ e3, putN w 0 e2 = e3 ∧ Q (.fr (.ins "Schema" (schF ts))) e3) : EvE (eMake "Schema" [true] fs c env) Q := by
  obtain ⟨g, hg, k⟩ := h
  obtain ⟨vs, e1, h1, ts, ms, e2, a, G, h2, h3, h4, h5, w, h6, e3, h7, q⟩ := z
  exact ev_make hg ⟨vs, e1, h1, ms, e2, h2, h3, _, h4, _, _, k ts a G h5, w, h6, e3, h7, q⟩
def MadeR (x : Option Exc) (r : Option CRes) : Prop := match x with
  | some x => r = some (.exc x [none, none, none])
  | none => ∃ ts, r = some (.ret (.fr (.ins "Schema" (schF ts))) [none, none, none])
def LMade2Ok (g : List Arg → Option CRes) : Prop := ∀ (k : Nat) (w : D) (ps : List PV), k ≤ 4 → WdV w → (∀ p ∈ ps, PvOk p) → ps.length ≤ 1000 → MadeR (schErr (mdP k w ps)) (g [.sh (.int (k : Nat)), .sh (.lst (ps.map pvD)), .sh w])
theorem law_made2_ok (c : CT) (h_S : Has c ("Schema", some "__init__") SchInitOk) (h_X : Has c ("Schema", some "__init__") SchXOk) (h_of : Has c ("schema_of", none) SchOfGOk) (h_oX : Has c ("schema_of", none) SchOfXOk) : LMade2Ok (runDef 3 3 b_law_made c) := by
  have h_S' := h_S
  obtain ⟨g1, e1, k1⟩ := h_X
  obtain ⟨g2, e2, k2⟩ := h_of
  obtain ⟨g3, e3, k3⟩ := h_oX
  obtain rfl : g2 = g3 := Option.some.inj (e2.symm.trans e3)
  intro k w ps hk hw hps hl
  rcases (by omega : k = 0 ∨ k = 1 ∨ k = 2 ∨ k = 3 ∨ k = 4) with rfl | rfl | rfl | rfl | rfl
  · show MadeR (schErr ps) _
    cases hE : schErr ps with
    | some x =>
      show _ = _
      refine (?_ : ∃ y, runDef 3 3 b_law_made c [.sh (.int (0 : Nat)), .sh (.lst (ps.map pvD)), .sh w] = some y ∧ y = .exc x [none, none, none]).elim fun r ⟨h1, h2⟩ => by rw [h1, h2]
      refine ev_run (e0 := [some (.sh (.int (0 : Nat))), some (.sh (.lst (ps.map pvD))), some (.sh w)]) rfl rfl ?_
      unfold b_law_made
      refine ev_seq (ev_if (ev_bin (ev_var rfl (ev_c ⟨_, _, _, rfl, rfl, (show eqX (.int ((0 : Nat) : Int)) (.int 1) = some (.sh (.bl false)) from rfl), false, rfl, (fun h => nomatch h), fun _ => ev_nil ?_⟩))))
      refine ev_seq (ev_if (ev_bin (ev_var rfl (ev_c ⟨_, _, _, rfl, rfl, (show eqX (.int ((0 : Nat) : Int)) (.int 2) = some (.sh (.bl false)) from rfl), false, rfl, (fun h => nomatch h), fun _ => ev_nil ?_⟩))))
      refine ev_seq (ev_if (ev_bin (ev_var rfl (ev_c ⟨_, _, _, rfl, rfl, (show eqX (.int ((0 : Nat) : Int)) (.int 3) = some (.sh (.bl false)) from rfl), false, rfl, (fun h => nomatch h), fun _ => ev_nil ?_⟩))))
      refine ev_seq (ev_if (ev_bin (ev_var rfl (ev_c ⟨_, _, _, rfl, rfl, (show eqX (.int ((0 : Nat) : Int)) (.int 4) = some (.sh (.bl false)) from rfl), false, rfl, (fun h => nomatch h), fun _ => ev_nil ?_⟩))))
      exact ev_retX (ev_makeX e1 (ev_acons (ev_var rfl (ev_anil ⟨[.giv (.lst (ps.map pvD))], _, rfl, rfl, [.sh (.lst (ps.map pvD))], rfl, x, _, _, k1 ps x hps hl hE, _, rfl, _, rfl, _, rfl, rfl⟩))))
    | none =>
      obtain ⟨ts, G, rfl⟩ := schErr_none hE
      refine ⟨ts, ?_⟩
      have hpd : (ts.map tbP).map pvD = ts.map tbD := by rw [List.map_map]; rfl
      rw [hpd]
      refine (?_ : ∃ y, runDef 3 3 b_law_made c [.sh (.int (0 : Nat)), .sh (.lst (ts.map tbD)), .sh w] = some y ∧ y = .ret (.fr (.ins "Schema" (schF ts))) [none, none, none]).elim fun r ⟨h1, h2⟩ => by rw [h1, h2]
      refine ev_run (e0 := [some (.sh (.int (0 : Nat))), some (.sh (.lst (ts.map tbD))), some (.sh w)]) rfl rfl ?_
      unfold b_law_made
      refine ev_seq (ev_if (ev_bin (ev_var rfl (ev_c ⟨_, _, _, rfl, rfl, (show eqX (.int ((0 : Nat) : Int)) (.int 1) = some (.sh (.bl false)) from rfl), false, rfl, (fun h => nomatch h), fun _ => ev_nil ?_⟩))))
      refine ev_seq (ev_if (ev_bin (ev_var rfl (ev_c ⟨_, _, _, rfl, rfl, (show eqX (.int ((0 : Nat) : Int)) (.int 2) = some (.sh (.bl false)) from rfl), false, rfl, (fun h => nomatch h), fun _ => ev_nil ?_⟩))))
      refine ev_seq (ev_if (ev_bin (ev_var rfl (ev_c ⟨_, _, _, rfl, rfl, (show eqX (.int ((0 : Nat) : Int)) (.int 3) = some (.sh (.bl false)) from rfl), false, rfl, (fun h => nomatch h), fun _ => ev_nil ?_⟩))))
      refine ev_seq (ev_if (ev_bin (ev_var rfl (ev_c ⟨_, _, _, rfl, rfl, (show eqX (.int ((0 : Nat) : Int)) (.int 4) = some (.sh (.bl false)) from rfl), false, rfl, (fun h => nomatch h), fun _ => ev_nil ?_⟩))))
      exact ev_ret (ev_schemaG h_S (ev_acons (ev_var rfl (ev_anil ⟨ts, [.giv (.lst (ts.map tbD))], _, .sh (.lst (ts.map tbD)), G, rfl, rfl, rfl, .inr (.inl rfl), _, rfl, _, rfl, _, _, rfl, _, rfl, rfl⟩))))
  · show MadeR (schErr (kw1 w)) _
    have nd := kw1_nd w
    have hok := kw1_ok hw
    cases hE : schErr (kw1 w) with
    | some x =>
      show _ = _
      refine (?_ : ∃ y, runDef 3 3 b_law_made c [.sh (.int (1 : Nat)), .sh (.lst (ps.map pvD)), .sh w] = some y ∧ y = .exc x [none, none, none]).elim fun r ⟨h1, h2⟩ => by rw [h1, h2]
      refine ev_run (e0 := [some (.sh (.int (1 : Nat))), some (.sh (.lst (ps.map pvD))), some (.sh w)]) rfl rfl ?_
      unfold b_law_made
      refine ev_seq (ev_if (ev_bin (ev_var rfl (ev_c ⟨_, _, _, rfl, rfl, (show eqX (.int ((1 : Nat) : Int)) (.int 1) = some (.sh (.bl true)) from rfl), true, rfl, (fun _ => ?_), fun h => nomatch h⟩))))
      exact ev_retX (ev_callKX e2 (ev_acons (ev_c (ev_acons (ev_var rfl (ev_acons (ev_c (ev_anil ⟨[.int 2, w, .int 0], _, rfl, rfl, nd, by simp, x, _, k3 (kw1 w) x hok nd (by simp [kw1]) hE, _, rfl, rfl⟩))))))))
    | none =>
      obtain ⟨ts, G, hts⟩ := schErr_none hE
      refine ⟨ts, ?_⟩
      have z := k2 ts G
      rw [← hts] at z
      refine (?_ : ∃ y, runDef 3 3 b_law_made c [.sh (.int (1 : Nat)), .sh (.lst (ps.map pvD)), .sh w] = some y ∧ y = .ret (.fr (.ins "Schema" (schF ts))) [none, none, none]).elim fun r ⟨h1, h2⟩ => by rw [h1, h2]
      refine ev_run (e0 := [some (.sh (.int (1 : Nat))), some (.sh (.lst (ps.map pvD))), some (.sh w)]) rfl rfl ?_
      unfold b_law_made
      refine ev_seq (ev_if (ev_bin (ev_var rfl (ev_c ⟨_, _, _, rfl, rfl, (show eqX (.int ((1 : Nat) : Int)) (.int 1) = some (.sh (.bl true)) from rfl), true, rfl, (fun _ => ?_), fun h => nomatch h⟩))))
      exact ev_ret (ev_callKR e2 (ev_acons (ev_c (ev_acons (ev_var rfl (ev_acons (ev_c (ev_anil ⟨[.int 2, w, .int 0], _, rfl, rfl, nd, by simp, _, _, z, _, _, rfl, _, rfl, rfl⟩))))))))
  · show MadeR (schErr (kw2 w)) _
    have nd := kw2_nd w
    have hok := kw2_ok hw
    cases hE : schErr (kw2 w) with
    | some x =>
      show _ = _
      refine (?_ : ∃ y, runDef 3 3 b_law_made c [.sh (.int (2 : Nat)), .sh (.lst (ps.map pvD)), .sh w] = some y ∧ y = .exc x [none, none, none]).elim fun r ⟨h1, h2⟩ => by rw [h1, h2]
      refine ev_run (e0 := [some (.sh (.int (2 : Nat))), some (.sh (.lst (ps.map pvD))), some (.sh w)]) rfl rfl ?_
      unfold b_law_made
      refine ev_seq (ev_if (ev_bin (ev_var rfl (ev_c ⟨_, _, _, rfl, rfl, (show eqX (.int ((2 : Nat) : Int)) (.int 1) = some (.sh (.bl false)) from rfl), false, rfl, (fun h => nomatch h), fun _ => ev_nil ?_⟩))))
      refine ev_seq (ev_if (ev_bin (ev_var rfl (ev_c ⟨_, _, _, rfl, rfl, (show eqX (.int ((2 : Nat) : Int)) (.int 2) = some (.sh (.bl true)) from rfl), true, rfl, (fun _ => ?_), fun h => nomatch h⟩))))
      exact ev_retX (ev_callKX e2 (ev_acons (ev_c (ev_acons (ev_var rfl (ev_anil ⟨[.int 1, w], _, rfl, rfl, nd, by simp, x, _, k3 (kw2 w) x hok nd (by simp [kw2]) hE, _, rfl, rfl⟩))))))
    | none =>
      obtain ⟨ts, G, hts⟩ := schErr_none hE
      refine ⟨ts, ?_⟩
      have z := k2 ts G
      rw [← hts] at z
      refine (?_ : ∃ y, runDef 3 3 b_law_made c [.sh (.int (2 : Nat)), .sh (.lst (ps.map pvD)), .sh w] = some y ∧ y = .ret (.fr (.ins "Schema" (schF ts))) [none, none, none]).elim fun r ⟨h1, h2⟩ => by rw [h1, h2]
      refine ev_run (e0 := [some (.sh (.int (2 : Nat))), some (.sh (.lst (ps.map pvD))), some (.sh w)]) rfl rfl ?_
      unfold b_law_made
      refine ev_seq (ev_if (ev_bin (ev_var rfl (ev_c ⟨_, _, _, rfl, rfl, (show eqX (.int ((2 : Nat) : Int)) (.int 1) = some (.sh (.bl false)) from rfl), false, rfl, (fun h => nomatch h), fun _ => ev_nil ?_⟩))))
      refine ev_seq (ev_if (ev_bin (ev_var rfl (ev_c ⟨_, _, _, rfl, rfl, (show eqX (.int ((2 : Nat) : Int)) (.int 2) = some (.sh (.bl true)) from rfl), true, rfl, (fun _ => ?_), fun h => nomatch h⟩))))
      exact ev_ret (ev_callKR e2 (ev_acons (ev_c (ev_acons (ev_var rfl (ev_anil ⟨[.int 1, w], _, rfl, rfl, nd, by simp, _, _, z, _, _, rfl, _, rfl, rfl⟩))))))
  · show MadeR (schErr (kw3 w)) _
    have nd := kw3_nd w
    have hok := kw3_ok hw
    cases hE : schErr (kw3 w) with
    | some x =>
      show _ = _
      refine (?_ : ∃ y, runDef 3 3 b_law_made c [.sh (.int (3 : Nat)), .sh (.lst (ps.map pvD)), .sh w] = some y ∧ y = .exc x [none, none, none]).elim fun r ⟨h1, h2⟩ => by rw [h1, h2]
      refine ev_run (e0 := [some (.sh (.int (3 : Nat))), some (.sh (.lst (ps.map pvD))), some (.sh w)]) rfl rfl ?_
      unfold b_law_made
      refine ev_seq (ev_if (ev_bin (ev_var rfl (ev_c ⟨_, _, _, rfl, rfl, (show eqX (.int ((3 : Nat) : Int)) (.int 1) = some (.sh (.bl false)) from rfl), false, rfl, (fun h => nomatch h), fun _ => ev_nil ?_⟩))))
      refine ev_seq (ev_if (ev_bin (ev_var rfl (ev_c ⟨_, _, _, rfl, rfl, (show eqX (.int ((3 : Nat) : Int)) (.int 2) = some (.sh (.bl false)) from rfl), false, rfl, (fun h => nomatch h), fun _ => ev_nil ?_⟩))))
      refine ev_seq (ev_if (ev_bin (ev_var rfl (ev_c ⟨_, _, _, rfl, rfl, (show eqX (.int ((3 : Nat) : Int)) (.int 3) = some (.sh (.bl true)) from rfl), true, rfl, (fun _ => ?_), fun h => nomatch h⟩))))
      exact ev_retX (ev_callKX e2 (ev_acons (ev_c (ev_acons (ev_c (ev_acons (ev_c (ev_acons (ev_c (ev_acons (ev_c (ev_acons (ev_c (ev_acons (ev_c (ev_acons (ev_c (ev_acons (ev_var rfl (ev_anil ⟨[.int 1, .int 2, .int 3, .int 4, .int 1, .int 2, .int 3, .int 4, w], _, rfl, rfl, nd, by simp, x, _, k3 (kw3 w) x hok nd (by simp [kw3]) hE, _, rfl, rfl⟩))))))))))))))))))))
    | none =>
      obtain ⟨ts, G, hts⟩ := schErr_none hE
      refine ⟨ts, ?_⟩
      have z := k2 ts G
      rw [← hts] at z
      refine (?_ : ∃ y, runDef 3 3 b_law_made c [.sh (.int (3 : Nat)), .sh (.lst (ps.map pvD)), .sh w] = some y ∧ y = .ret (.fr (.ins "Schema" (schF ts))) [none, none, none]).elim fun r ⟨h1, h2⟩ => by rw [h1, h2]
      refine ev_run (e0 := [some (.sh (.int (3 : Nat))), some (.sh (.lst (ps.map pvD))), some (.sh w)]) rfl rfl ?_
      unfold b_law_made
      refine ev_seq (ev_if (ev_bin (ev_var rfl (ev_c ⟨_, _, _, rfl, rfl, (show eqX (.int ((3 : Nat) : Int)) (.int 1) = some (.sh (.bl false)) from rfl), false, rfl, (fun h => nomatch h), fun _ => ev_nil ?_⟩))))
      refine ev_seq (ev_if (ev_bin (ev_var rfl (ev_c ⟨_, _, _, rfl, rfl, (show eqX (.int ((3 : Nat) : Int)) (.int 2) = some (.sh (.bl false)) from rfl), false, rfl, (fun h => nomatch h), fun _ => ev_nil ?_⟩))))
      refine ev_seq (ev_if (ev_bin (ev_var rfl (ev_c ⟨_, _, _, rfl, rfl, (show eqX (.int ((3 : Nat) : Int)) (.int 3) = some (.sh (.bl true)) from rfl), true, rfl, (fun _ => ?_), fun h => nomatch h⟩))))
      exact ev_ret (ev_callKR e2 (ev_acons (ev_c (ev_acons (ev_c (ev_acons (ev_c (ev_acons (ev_c (ev_acons (ev_c (ev_acons (ev_c (ev_acons (ev_c (ev_acons (ev_c (ev_acons (ev_var rfl (ev_anil ⟨[.int 1, .int 2, .int 3, .int 4, .int 1, .int 2, .int 3, .int 4, w], _, rfl, rfl, nd, by simp, _, _, z, _, _, rfl, _, rfl, rfl⟩))))))))))))))))))))
  · show MadeR (schErr (kw4 w)) _
    have nd := kw4_nd w
    have hok := kw4_ok hw
    cases hE : schErr (kw4 w) with
    | some x =>
      show _ = _
      refine (?_ : ∃ y, runDef 3 3 b_law_made c [.sh (.int (4 : Nat)), .sh (.lst (ps.map pvD)), .sh w] = some y ∧ y = .exc x [none, none, none]).elim fun r ⟨h1, h2⟩ => by rw [h1, h2]
      refine ev_run (e0 := [some (.sh (.int (4 : Nat))), some (.sh (.lst (ps.map pvD))), some (.sh w)]) rfl rfl ?_
      unfold b_law_made
      refine ev_seq (ev_if (ev_bin (ev_var rfl (ev_c ⟨_, _, _, rfl, rfl, (show eqX (.int ((4 : Nat) : Int)) (.int 1) = some (.sh (.bl false)) from rfl), false, rfl, (fun h => nomatch h), fun _ => ev_nil ?_⟩))))
      refine ev_seq (ev_if (ev_bin (ev_var rfl (ev_c ⟨_, _, _, rfl, rfl, (show eqX (.int ((4 : Nat) : Int)) (.int 2) = some (.sh (.bl false)) from rfl), false, rfl, (fun h => nomatch h), fun _ => ev_nil ?_⟩))))
      refine ev_seq (ev_if (ev_bin (ev_var rfl (ev_c ⟨_, _, _, rfl, rfl, (show eqX (.int ((4 : Nat) : Int)) (.int 3) = some (.sh (.bl false)) from rfl), false, rfl, (fun h => nomatch h), fun _ => ev_nil ?_⟩))))
      refine ev_seq (ev_if (ev_bin (ev_var rfl (ev_c ⟨_, _, _, rfl, rfl, (show eqX (.int ((4 : Nat) : Int)) (.int 4) = some (.sh (.bl true)) from rfl), true, rfl, (fun _ => ?_), fun h => nomatch h⟩))))
      exact ev_retX (ev_callKX e2 (ev_acons (ev_c (ev_acons (ev_c (ev_acons (ev_c (ev_acons (ev_c (ev_acons (ev_c (ev_acons (ev_c (ev_acons (ev_c (ev_acons (ev_c (ev_anil ⟨[.int 1, .int 2, .int 3, .int 4, .int 1, .int 2, .int 3, .int 4], _, rfl, rfl, nd, by simp, x, _, k3 (kw4 w) x hok nd (by simp [kw4]) hE, _, rfl, rfl⟩))))))))))))))))))
    | none =>
      obtain ⟨ts, G, hts⟩ := schErr_none hE
      refine ⟨ts, ?_⟩
      have z := k2 ts G
      rw [← hts] at z
      refine (?_ : ∃ y, runDef 3 3 b_law_made c [.sh (.int (4 : Nat)), .sh (.lst (ps.map pvD)), .sh w] = some y ∧ y = .ret (.fr (.ins "Schema" (schF ts))) [none, none, none]).elim fun r ⟨h1, h2⟩ => by rw [h1, h2]
      refine ev_run (e0 := [some (.sh (.int (4 : Nat))), some (.sh (.lst (ps.map pvD))), some (.sh w)]) rfl rfl ?_
      unfold b_law_made
      refine ev_seq (ev_if (ev_bin (ev_var rfl (ev_c ⟨_, _, _, rfl, rfl, (show eqX (.int ((4 : Nat) : Int)) (.int 1) = some (.sh (.bl false)) from rfl), false, rfl, (fun h => nomatch h), fun _ => ev_nil ?_⟩))))
      refine ev_seq (ev_if (ev_bin (ev_var rfl (ev_c ⟨_, _, _, rfl, rfl, (show eqX (.int ((4 : Nat) : Int)) (.int 2) = some (.sh (.bl false)) from rfl), false, rfl, (fun h => nomatch h), fun _ => ev_nil ?_⟩))))
      refine ev_seq (ev_if (ev_bin (ev_var rfl (ev_c ⟨_, _, _, rfl, rfl, (show eqX (.int ((4 : Nat) : Int)) (.int 3) = some (.sh (.bl false)) from rfl), false, rfl, (fun h => nomatch h), fun _ => ev_nil ?_⟩))))
      refine ev_seq (ev_if (ev_bin (ev_var rfl (ev_c ⟨_, _, _, rfl, rfl, (show eqX (.int ((4 : Nat) : Int)) (.int 4) = some (.sh (.bl true)) from rfl), true, rfl, (fun _ => ?_), fun h => nomatch h⟩))))
      exact ev_ret (ev_callKR e2 (ev_acons (ev_c (ev_acons (ev_c (ev_acons (ev_c (ev_acons (ev_c (ev_acons (ev_c (ev_acons (ev_c (ev_acons (ev_c (ev_acons (ev_c (ev_anil ⟨[.int 1, .int 2, .int 3, .int 4, .int 1, .int 2, .int 3, .int 4], _, rfl, rfl, nd, by simp, _, _, z, _, _, rfl, _, rfl, rfl⟩))))))))))))))))))
theorem schGo_cases : ∀ {ps : List PV} {kn : List Str} {x : Exc}, (∀ p ∈ ps, PvOk p) → schGo kn ps = some x → ∃ s, PyData.strOk s = true ∧ (x = bwX s ∨ x = bdX s ∨ x = dupX s)
  | [], kn, x, _, h => nomatch h
  | p :: r, kn, x, hp, h => by
    have hs := (hp p List.mem_cons_self).s
    unfold schGo at h
    split at h
    · exact ⟨_, hs, .inl (Option.some.inj h).symm⟩
    split at h
    · exact ⟨_, hs, .inr (.inl (Option.some.inj h).symm)⟩
    split at h
    · exact ⟨_, hs, .inr (.inr (Option.some.inj h).symm)⟩
    exact schGo_cases (fun q hq => hp q (List.mem_cons_of_mem _ hq)) h
theorem schErr_cases {ps : List PV} {x : Exc} (hp : ∀ p ∈ ps, PvOk p) (h : schErr ps = some x) : x = tooX 8 ∨ ∃ s, PyData.strOk s = true ∧ (x = bwX s ∨ x = bdX s ∨ x = dupX s) := by
  unfold schErr at h
  split at h
  · exact .inl (Option.some.inj h).symm
  · exact .inr (schGo_cases hp h)
theorem mdP_ok {k : Nat} {w : D} {ps : List PV} (hw : WdV w) (hps : ∀ p ∈ ps, PvOk p) : ∀ p ∈ mdP k w ps, PvOk p := by
  unfold mdP
  split
  · exact hps
  unfold kwP
  split
  · exact kw1_ok hw
  · exact kw2_ok hw
  · exact kw3_ok hw
  · exact kw4_ok hw
theorem catch2 {c : CT} {d0 d1 d2 d3 : D} {x : Exc} (hK : x = tooX 8 ∨ ∃ s, PyData.strOk s = true ∧ (x = bwX s ∨ x = bdX s ∨ x = dupX s)) {N B C : Env → Prop} {R : Pd.RV → Env → Prop} {X : Exc → Env → Prop}
    (q : N [some (.sh d0), some (.sh d1), some (.sh d2), some (.sh d3), some (.sh (errD x)), none]) :
    EvS (catchL xt c [("PinError", 5, hdl2)] x [some (.sh d0), some (.sh d1), some (.sh d2), some (.sh d3), some (.sh .non), none]) N R B C X := by
  rcases hK with rfl | ⟨s, _, rfl | rfl | rfl⟩
  · exact ev_catch_yes (by show subX xt "TooLarge" "PinError" = some true; decide) rfl rfl (hdl2_TooLarge 8 ⟨_, rfl, rfl, q⟩)
  · exact ev_catch_yes (by show subX xt "BadWord" "PinError" = some true; decide) rfl rfl (hdl2_BadWord s ⟨_, rfl, rfl, q⟩)
  · exact ev_catch_yes (by show subX xt "BadWidth" "PinError" = some true; decide) rfl rfl (hdl2_BadWidth s ⟨_, rfl, rfl, q⟩)
  · exact ev_catch_yes (by show subX xt "DuplicateTable" "PinError" = some true; decide) rfl rfl (hdl2_DuplicateTable s ⟨_, rfl, rfl, q⟩)
theorem ev_sameV {n : Nat} {c : CT} {env : Env} {Q : Val → Env → Prop} {fs : SA} (hs : Has c ("_law_same", none) (SameVOk n)) (h : EvA (fs c env) fun vs e1 => ∃ ms e2 a b d, itemsF e1 vs [true, true] = some (ms, e2) ∧ nodupB (ms.filterMap Im.ix) = true ∧ argsF e2 ms = some [a, b] ∧ SameV n d ∧ ArgIs a d ∧ ArgIs b d ∧ ∃ w, outF ms [a, b] [a.out, b.out] = some w ∧ ∃ e3, putN w 0 e2 = e3 ∧ Q (.sh (.bl true)) e3) : EvE (eCallF ("_law_same", none) [true, true] fs c env) Q := by
  obtain ⟨g, hg, k⟩ := hs
  obtain ⟨vs, e1, h1, ms, e2, a, b, d, h2, h3, h4, h5, h6, h7, w, h8, e3, h9, q⟩ := h
  exact ev_callF hg ⟨vs, e1, h1, _, _, h2, h3, _, h4, _, _, k d a b h5 h6 h7, _, h8, _, h9, q⟩
theorem wdv_same {d : D} (h : WdV d) (n : Nat) : SameV (n + 1) d := by
  rcases h with ⟨i, rfl⟩ | ⟨b, rfl⟩
  · exact trivial
  · exact trivial
theorem pvs_same {ps : List PV} (h : ∀ p ∈ ps, PvOk p) (hl : ps.length ≤ 1000) : SameV 8 (.lst (ps.map pvD)) := by
  refine ⟨fun d hd => ?_, by rw [List.length_map]; omega⟩
  obtain ⟨p, hp, rfl⟩ := List.mem_map.mp hd
  refine ⟨fun d hd => ?_, by simp⟩
  rcases List.mem_cons.mp hd with rfl | hd
  · exact (h p hp).s
  · rw [List.mem_singleton.mp hd]; exact wdv_same (h p hp).w 5
def LTold2Ok (g : List Arg → Option CRes) : Prop := ∀ (k : Nat) (w : D) (ps : List PV), k ≤ 4 → WdV w → (∀ p ∈ ps, PvOk p) → ps.length ≤ 1000 → g [.sh (.int (k : Nat)), .sh (.lst (ps.map pvD)), .sh w] = some (.ret (.sh (errO (schErr (mdP k w ps)))) [none, none, none])
theorem law_told2_ok (c : CT) (h_made : Has c ("_law_made", none) LMade2Ok) (h_same : Has c ("_law_same", none) (SameVOk 8)) : LTold2Ok (runDef 6 3 b_law_told c) := by
  obtain ⟨g1, e1, k1⟩ := h_made
  intro k w ps hk hw hps hl
  have hm := k1 k w ps hk hw hps hl
  have hK := fun x => schErr_cases (x := x) (mdP_ok (k := k) hw hps)
  have hsm := pvs_same hps hl
  generalize schErr (mdP k w ps) = o at hm hK
  refine (?_ : ∃ y, runDef 6 3 b_law_told c [.sh (.int (k : Nat)), .sh (.lst (ps.map pvD)), .sh w] = some y ∧ y = .ret (.sh (errO o)) [none, none, none]).elim fun r ⟨h1, h2⟩ => by show _ = _; rw [h1, h2]
  refine ev_run (e0 := [some (.sh (.int (k : Nat))), some (.sh (.lst (ps.map pvD))), some (.sh w), none, none, none]) rfl rfl ?_
  unfold b_law_told
  refine ev_seq (ev_set (ev_arg (ev_acons (ev_var rfl (ev_anil ⟨_, _, rfl, rfl, [some (.sh (.int (k : Nat))), some (.sh (.lst (ps.map pvD))), some (.sh w), some (.own (.lst (ps.map pvD))), none, none], rfl, ?_⟩)))))
  refine ev_seq (ev_set (ev_c ⟨[some (.sh (.int (k : Nat))), some (.sh (.lst (ps.map pvD))), some (.sh w), some (.own (.lst (ps.map pvD))), some (.sh (.non)), none], rfl, ?_⟩))
  refine ev_cut (fun e => e = [some (.sh (.int (k : Nat))), some (.sh (.lst (ps.map pvD))), some (.sh w), some (.sh (.lst (ps.map pvD))), some (.sh (errO o)), none]) ?_ ?_
  · refine ev_try ?_
    cases o with
    | some x =>
      have hm : g1 [.sh (.int (k : Nat)), .sh (.lst (ps.map pvD)), .sh w] = some (.exc x [none, none, none]) := hm
      refine ev_exprX (ev_callX e1 (ev_acons (ev_var rfl (ev_acons (ev_var rfl (ev_acons (ev_var rfl (ev_anil ⟨[.int (k : Nat), .lst (ps.map pvD), w], _, rfl, .inr ⟨x, _, hm, ?_⟩⟩))))))))
      exact ⟨rfl, catch2 (hK x rfl) rfl⟩
    | none =>
      obtain ⟨ts, hm⟩ : ∃ ts, g1 [.sh (.int (k : Nat)), .sh (.lst (ps.map pvD)), .sh w] = some (.ret (.fr (.ins "Schema" (schF ts))) [none, none, none]) := hm
      exact ev_expr (ev_call e1 (ev_acons (ev_var rfl (ev_acons (ev_var rfl (ev_acons (ev_var rfl (ev_anil ⟨_, _, _, _, rfl, hm, rfl⟩))))))))
  rintro e rfl
  refine ev_seq (ev_if (ev_not (ev_sameV h_same (ev_acons (ev_var rfl (ev_acons (ev_arg (ev_acons (ev_var rfl (ev_anil ⟨_, _, rfl, rfl, ev_anil ⟨[.giv (.lst (ps.map pvD)), .giv (.lst (ps.map pvD))], _, .sh (.lst (ps.map pvD)), .sh (.lst (ps.map pvD)), .lst (ps.map pvD), rfl, rfl, rfl, hsm, rfl, rfl, _, rfl, [some (.sh (.int (k : Nat))), some (.sh (.lst (ps.map pvD))), some (.sh w), some (.sh (.lst (ps.map pvD))), some (.sh (errO o)), none], rfl, true, rfl, false, rfl, (fun h => nomatch h), fun _ => ev_nil ?_⟩⟩))))))))))
  exact ev_ret (ev_var rfl ⟨_, _, rfl, _, rfl, rfl⟩)
def LStr2Ok (g : List Arg → Option CRes) : Prop := ∀ (ts : List Tb) (n : Str), GoodT ts → PyData.strOk n = true → n ∉ ts.map (·.1) → g [.sh (schD ts), .sh (.str n)] = some (.ret (.sh (.bl true)) [none, none])
theorem law_strange2_ok (c : CT) (h1 : Has c ("Schema", some "__getitem__") SchGetXOk) : LStr2Ok (runDef 4 2 b_law_strange c) := by
  obtain ⟨g1, e1, k1⟩ := h1
  intro ts n G hn hni
  have z := k1 ts n G hn hni
  obtain ⟨gh, eh, zh⟩ := hot_sameS n
  refine (?_ : ∃ y, runDef 4 2 b_law_strange c [.sh (schD ts), .sh (.str n)] = some y ∧ y = .ret (.sh (.bl true)) [none, none]).elim fun r ⟨h1, h2⟩ => by show _ = _; rw [h1, h2]
  refine ev_run (e0 := [some (.sh (schD ts)), some (.sh (.str n)), none, none]) rfl rfl ?_
  unfold b_law_strange
  refine ev_seq (ev_set (ev_c ⟨[some (.sh (schD ts)), some (.sh (.str n)), some (.sh (.bl false)), none], rfl, ?_⟩))
  refine ev_seq (ev_try (ev_setX (ev_andX (ev_binX1 (ev_ixOX (ev_var rfl (ev_var rfl ⟨g1, ownG_ins rfl e1, callX_sh (ds := [schD ts, .str n]) z ?_⟩)))))))
  refine ⟨rfl, ev_catch_yes (by show subX xt "UnknownTable" "UnknownTable" = some true; decide) rfl rfl ?_⟩
  refine ev_seq (ev_set (ev_and (ev_isW rfl (k := true) (by show anyX xt "UnknownTable" _ = _; decide) ⟨true, rfl, (fun _ => ev_and (ev_isW rfl (k := true) (by show anyX xt "UnknownTable" _ = _; decide) ⟨true, rfl, (fun _ => ev_isW rfl (k := true) (by show anyX xt "UnknownTable" _ = _; decide) ⟨[some (.sh (schD ts)), some (.sh (.str n)), some (.sh (.bl true)), some (.why (unkX n))], rfl, ?_⟩), fun h => nomatch h⟩)), fun h => nomatch h⟩)))
  refine ev_set (ev_and (ev_var rfl ⟨true, rfl, (fun _ => ev_and (ev_not (ev_isW rfl (k := false) (by show anyX xt "UnknownTable" _ = _; decide) ⟨false, rfl, true, rfl, (fun _ => ev_with (ev_call eh (ev_acons (ev_whyF rfl ⟨by show (xt.lookup ("UnknownTable" : Str)).isSome = true; decide, by show (("UnknownTable", "table") : Str × Str) ∈ xf; decide⟩ rfl (ev_acons (ev_var rfl (ev_anil ⟨_, _, _, _, rfl, zh, [some (.sh (schD ts)), some (.sh (.str n)), some (.sh (.bl true)), some (.why (unkX n))], rfl, ?_⟩))))))), fun h => nomatch h⟩))), fun h => nomatch h⟩))
  refine ⟨_, rfl, rfl, ?_⟩
  exact ev_ret (ev_var rfl ⟨_, _, rfl, _, rfl, rfl⟩)
/-! ### the law (k02) -/
def SchGetBOk (g : List Arg → Option CRes) : Prop := ∀ (ts : List Tb) (t : Tb), GoodT ts → t ∈ ts → g [.brw (.ins "Schema" (schF ts)), .sh (.str t.1)] = some (.ret (.sh (.int t.2)) [some (.ins "Schema" (schF ts)), none])
theorem schema_getB (c : CT) : SchGetBOk (runDef 2 2 b_Schema_getitem c) := by
  intro ts t G ht
  refine (?_ : ∃ r, runDef 2 2 b_Schema_getitem c [.brw (.ins "Schema" (schF ts)), .sh (.str t.1)] = some r ∧ r = .ret (.sh (.int t.2)) [some (.ins "Schema" (schF ts)), none]).elim fun r ⟨h1, h2⟩ => by rw [h1, h2]
  refine ev_run (e0 := [some (.brw (.ins "Schema" (schF ts))), some (.sh (.str t.1))]) rfl rfl ?_
  unfold b_Schema_getitem
  obtain ⟨k, h1, h2⟩ := pl_ninT (n := 60) (d := .str t.1) (by decide) (isW_ok (G.word t ht)) (namesD_pl G)
  refine ev_seq (ev_if (ev_bin (ev_var rfl (ev_fld (ev_var rfl ⟨_, schF ts, .tup (namesD ts), rfl, by decide, rfl, _, _, _, rfl, rfl, h1, k, rfl, fun h => ?_, fun _ => ev_nil ?_⟩)))))
  · exact absurd ((namesD_mem G _).mpr ⟨t, ht, rfl⟩) (h2.mp h)
  refine ev_ret (ev_bin (ev_fld (ev_var rfl ⟨_, schF ts, .dk (ts.map tbK), rfl, by decide, rfl, ev_var rfl ⟨_, _, .sh (.int t.2), rfl, rfl, ?_, _, _, rfl, _, rfl, rfl⟩⟩)))
  show ((dgetD (.dk (ts.map tbK)) (.str t.1)).bind fun o => o.map Val.sh) = _
  show ((some (valD (ts.map tbK) (.inr t.1))).bind fun o => o.map Val.sh) = _
  rw [G.val ht]; rfl
theorem ownG_var {m : Str} {c : CT} {env : Env} {i : Nat} {s : Sf} {g : List Arg → Option CRes} (hs : selfOf env (.var i) = some s) (h : (s.fl.lookup m).isNone = true) (hg : c (s.C, some m) = some g) : ownG m c env (.var i) = some g := by
  unfold ownG
  rw [hs, Option.bind_some, if_pos h, hg]
theorem pvs_names (ts : List Tb) : (ts.map tbP).map pvD = ts.map tbD := by rw [List.map_map]; rfl
def pvL (ps : List PV) : D := .lst (ps.map pvD)
def PLn (n : Nat) (ps : List PV) : Prop := (∀ p ∈ ps, PvOk p) ∧ ps.length ≤ n
theorem PLn.app {n m : Nat} {a b : List PV} (h : PLn n a) (k : PLn m b) : PLn (n + m) (a ++ b) := ⟨fun p hp => (List.mem_append.mp hp).elim (h.1 p) (k.1 p), by rw [List.length_append]; have := h.2; have := k.2; omega⟩
theorem PLn.one {p : PV} (h : PvOk p) : PLn 1 [p] := ⟨fun q hq => by rw [List.mem_singleton.mp hq]; exact h, Nat.le_refl 1⟩
theorem PLn.two {p q : PV} (h : PvOk p) (k : PvOk q) : PLn 2 [p, q] := (PLn.one h).app (PLn.one k)
theorem PLn.le {n m : Nat} {a : List PV} (h : PLn n a) (hm : n ≤ m) : PLn m a := ⟨h.1, Nat.le_trans h.2 hm⟩
theorem cutD_sub {α : Type} {xs : List α} {lo hi : Option Int} {a : α} (h : a ∈ cutD xs lo hi) : a ∈ xs := List.mem_of_mem_drop (List.mem_of_mem_take h)
theorem cutD_len {α : Type} (xs : List α) (lo hi : Option Int) : (cutD xs lo hi).length ≤ xs.length := by
  unfold cutD
  rw [List.length_take, List.length_drop]; omega
theorem PLn.cut {n : Nat} {a : List PV} (h : PLn n a) (lo hi : Option Int) : PLn n (cutD a lo hi) := ⟨fun p hp => h.1 p (cutD_sub hp), Nat.le_trans (cutD_len a lo hi) h.2⟩
theorem pv_sl (ps : List PV) (lo hi : Option Int) : sliceD (.lst (ps.map pvD)) lo hi = some (.fr (.lst ((cutD ps lo hi).map pvD))) := by
  show some (Val.fr (.lst (cutD (ps.map pvD) lo hi))) = _
  unfold cutD
  rw [List.length_map, List.map_take, List.map_drop]
theorem pv_add {n m : Nat} {a b : List PV} (h : PLn n a) (k : PLn m b) (hl : n + m ≤ 100000) : addD (.lst (a.map pvD)) (.lst (b.map pvD)) = some (.fr (.lst ((a ++ b).map pvD))) := by
  refine (if_pos (by rw [List.length_map, List.length_map, sizeL]; have := h.2; have := k.2; omega)).trans ?_
  rw [List.map_append]
theorem al_add {a b : List (List PV)} (h : a.length + b.length ≤ 100000) : addD (.lst (a.map pvL)) (.lst (b.map pvL)) = some (.fr (.lst ((a ++ b).map pvL))) := by
  refine (if_pos (by rw [List.length_map, List.length_map, sizeL]; omega)).trans ?_
  rw [List.map_append]
theorem put_nat {ds : List D} {k : Nat} {d : D} (h : k < ds.length) : putC (.lst ds) (.int (k : Nat)) d = some (.lst (ds.set k d)) := by
  show (ixN ds.length (k : Int)).map _ = _
  have : ixN ds.length (k : Int) = some k := by
    unfold ixN
    rw [if_pos (by omega), if_pos (by omega)]
    simp
  rw [this]; rfl
theorem pv_put {ps : List PV} {k : Nat} {q : PV} (h : k < ps.length) : putC (.lst (ps.map pvD)) (.int (k : Nat)) (pvD q) = some (.lst ((ps.set k q).map pvD)) := by
  rw [put_nat (by rw [List.length_map]; exact h), List.map_set]
theorem gt_0B (k : Nat) : gtD (.int (k : Nat)) (.int 0) = some (.sh (.bl (decide (k ≠ 0)))) := by
  show some (Val.sh (.bl (decide ((0 : Int) < (k : Nat))))) = _
  congr 3
  rw [Bool.eq_iff_iff, decide_eq_true_eq, decide_eq_true_eq]; omega
theorem pv_w {s : Str} {d : D} (h : isW s = true) (hd : WdV d) : PvOk (s, d) := ⟨isW_ok h, by have := (isW_len h).2; show s.length ≤ 1000; omega, hd⟩
theorem wd_i (i : Int) : WdV (.int i) := .inl ⟨i, rfl⟩
theorem err_same {g : List Arg → Option CRes} (kv : SameVOk 8 g) (kn : SameNon g) {ps : List PV} (hp : ∀ p ∈ ps, PvOk p) : g [.sh (errO (schErr ps)), .sh (errO (schErr ps))] = some (.ret (.sh (.bl true)) [none, none]) := by
  cases h : schErr ps with
  | none => exact kn
  | some x =>
    have two : ∀ (a : Str) (d : D), PyData.strOk a = true → SameV 7 d → SameV 8 (.tup [.str a, d]) := fun a d ha hd => ⟨fun y hy => by
      rcases List.mem_cons.mp hy with rfl | hy
      · exact ha
      · rw [List.mem_singleton.mp hy]; exact hd, by simp⟩
    have hs : SameV 8 (errD x) := by
      rcases schErr_cases hp h with rfl | ⟨s, hs, rfl | rfl | rfl⟩
      · exact two "TooLarge" (.int 8) (by decide +kernel) trivial
      · exact two "BadWord" (.str s) (by decide +kernel) hs
      · exact two "BadWidth" (.str s) (by decide +kernel) hs
      · exact two "DuplicateTable" (.str s) (by decide +kernel) hs
    exact kv (errD x) (.sh (errD x)) (.sh (errD x)) hs rfl rfl
def nat0 (k : Nat) : D := .int (0 + (k : Nat))
def nI (k : Nat) : Str := st [48 + k]
def nineF (k : Nat) : PV := (("t" : Str) ++ nI k, .int (1 + (0 + (k : Int)) % 4))
theorem strD_of (i : Int) (h : i.natAbs.log2 < 1920) : strD [.int i] = some (.sh (.str (toString i))) := if_pos h
theorem str_n {k : Nat} (h : k < 9) : strD [nat0 k] = some (.sh (.str (nI k))) := by
  rcases (by omega : k = 0 ∨ k = 1 ∨ k = 2 ∨ k = 3 ∨ k = 4 ∨ k = 5 ∨ k = 6 ∨ k = 7 ∨ k = 8) with rfl | rfl | rfl | rfl | rfl | rfl | rfl | rfl | rfl
  all_goals
    refine (strD_of (0 + ((_ : Nat) : Int)) ?_).trans (congrArg (fun z => some (Val.sh (.str z))) (cp_inj ?_))
    · decide
    · decide +kernel
theorem nine_ok {k : Nat} (h : k < 9) : PvOk (nineF k) := by
  have hw : isW (("t" : Str) ++ nI k) = true := by
    rcases (by omega : k = 0 ∨ k = 1 ∨ k = 2 ∨ k = 3 ∨ k = 4 ∨ k = 5 ∨ k = 6 ∨ k = 7 ∨ k = 8) with rfl | rfl | rfl | rfl | rfl | rfl | rfl | rfl | rfl <;> decide +kernel
  exact pv_w hw (wd_i _)
def eightS : List Str := ["store", "query", "teacher", "learner", "ring", "link", "piece", "cover"]
def eightP : List PV := eightS.map fun s => (s, .int 1)
def dbl (w : D) : PV := ("double", w)
def nmL (w : D) : List (List PV) := [kw1 w, kw2 w, eightP ++ [dbl w], eightP]
theorem eight_ok : PLn 8 eightP := ⟨fun p hp => by
  obtain ⟨s, hs, rfl⟩ := List.mem_map.mp hp
  have hall : ∀ s ∈ eightS, isW s = true := by decide +kernel
  exact pv_w (hall s hs) (wd_i 1), by decide⟩
theorem dbl_ok {w : D} (hw : WdV w) : PvOk (dbl w) := pv_w (by decide +kernel) hw
theorem eight_none : schErr eightP = none := by
  have h : (schErr eightP).isNone = true := by decide +kernel
  exact Option.isNone_iff_eq_none.mp h
theorem kw4_none (w : D) : schErr (kw4 w) = none := by
  have h : (schErr (kw4 .non)).isNone = true := by decide +kernel
  exact Option.isNone_iff_eq_none.mp h
theorem nm_eq {w : D} (hw : WdV w) {k : Nat} (hk : k < 4) : ∃ ps, (nmL w)[k]? = some ps ∧ PLn 9 ps ∧ schErr (mdP (k + 1) w ps) = schErr ps := by
  rcases (by omega : k = 0 ∨ k = 1 ∨ k = 2 ∨ k = 3) with rfl | rfl | rfl | rfl
  · exact ⟨_, rfl, ⟨kw1_ok hw, by show 3 ≤ 9; decide⟩, rfl⟩
  · exact ⟨_, rfl, ⟨kw2_ok hw, by show 2 ≤ 9; decide⟩, rfl⟩
  · refine ⟨_, rfl, eight_ok.app (PLn.one (dbl_ok hw)), ?_⟩
    have h1 : schErr (kw3 w) = some (tooX 8) := if_pos (by show 8 < 9; decide)
    have h2 : schErr (eightP ++ [dbl w]) = some (tooX 8) := if_pos (by show 8 < 9; decide)
    exact h1.trans h2.symm
  · exact ⟨_, rfl, eight_ok.le (by decide), (kw4_none w).trans eight_none.symm⟩
theorem law_ok (c : CT) (h_start : Has c ("_law_start", none) StartOk) (h_draw : Has c ("_law_draw", none) DrawOk) (h_w : Has c ("_law_bad_word", none) LBadWOk) (h_d : Has c ("_law_bad_width", none) LBadDOk) (h_pool : Has c ("_law_pool", none) LPoolOk) (h_spl : Has c ("_law_spoilt", none) LSpl2Ok) (h_told : Has c ("_law_told", none) LTold2Ok) (h_due : Has c ("_law_due", none) LDue2Ok) (h_same : Has c ("_law_same", none) (SameVOk 8)) (h_non : Has c ("_law_same", none) SameNon) (h_S : Has c ("Schema", some "__init__") SchInitOk) (h_get : Has c ("Schema", some "__getitem__") SchGetBOk) (h_str : Has c ("_law_strange", none) LStr2Ok)
    (ns : List Int) (hns : ns.length ≤ 63) : runDef 24 1 b_law c [.sh (.scr ns)] = some (.ret (.sh (.bl true)) [none]) := by
  obtain ⟨g1, e_law_start, k1⟩ := h_start
  obtain ⟨g2, e_law_bad_word, k2⟩ := h_w
  obtain ⟨g3, e_law_bad_width, k3⟩ := h_d
  obtain ⟨g4, e_law_pool, k4⟩ := h_pool
  obtain ⟨g5, e_law_spoilt, k5⟩ := h_spl
  obtain ⟨g6, e_law_told, k6⟩ := h_told
  obtain ⟨g7, e_law_due, k7⟩ := h_due
  obtain ⟨g8, e_law_same, k8⟩ := h_same
  obtain ⟨g9, e9, k9⟩ := h_non
  obtain rfl : g8 = g9 := Option.some.inj (e_law_same.symm.trans e9)
  obtain ⟨g10, e_get, k10⟩ := h_get
  obtain ⟨g11, e_law_strange, k11⟩ := h_str
  have same_i : ∀ i : Int, g8 [.sh (.int i), .sh (.int i)] = some (.ret (.sh (.bl true)) [none, none]) := fun i => k8 (.int i) (.sh (.int i)) (.sh (.int i)) trivial rfl rfl
  obtain ⟨cl, z1, hg⟩ := k1 ns hns
  refine (?_ : ∃ y, runDef 24 1 b_law c [.sh (.scr ns)] = some y ∧ y = .ret (.sh (.bl true)) [none]).elim fun r ⟨h1, h2⟩ => by show _ = _; rw [h1, h2]
  refine ev_run (e0 := [some (.sh (.scr ns)), none, none, none, none, none, none, none, none, none, none, none, none, none, none, none, none, none, none, none, none, none, none, none]) rfl rfl ?_
  unfold b_law
  refine ev_seq (ev_set (ev_call e_law_start (ev_acons (ev_var rfl (ev_anil ⟨_, _, _, _, rfl, z1, [some (.sh (.scr ns)), some (.own cl), none, none, none, none, none, none, none, none, none, none, none, none, none, none, none, none, none, none, none, none, none, none], rfl, ?_⟩)))))
  refine ev_seq (ev_set (ev_drawT h_draw rfl hg (ev_c ⟨_, rfl, rfl, (by first | decide | omega), fun n0 cl_n0 hg_n0 l_n0 u_n0 => ⟨[some (.sh (.scr ns)), some (.own cl_n0), none, none, none, none, none, none, none, none, none, none, none, none, none, none, none, none, none, none, none, none, none, none], rfl, [some (.sh (.scr ns)), some (.own cl_n0), some (.sh (.int n0)), none, none, none, none, none, none, none, none, none, none, none, none, none, none, none, none, none, none, none, none, none], rfl, ?_⟩⟩)))
  obtain ⟨n, rfl⟩ : ∃ n : Nat, n0 = n := ⟨n0.toNat, by omega⟩
  have hn8 : n ≤ 8 := by omega
  refine ev_seq (ev_set (ev_drawT h_draw rfl hg_n0 (ev_c ⟨_, rfl, rfl, (by first | decide | omega), fun f0 cl_f0 hg_f0 l_f0 u_f0 => ⟨[some (.sh (.scr ns)), some (.own cl_f0), some (.sh (.int (n : Nat))), none, none, none, none, none, none, none, none, none, none, none, none, none, none, none, none, none, none, none, none, none], rfl, [some (.sh (.scr ns)), some (.own cl_f0), some (.sh (.int (n : Nat))), some (.sh (.int f0)), none, none, none, none, none, none, none, none, none, none, none, none, none, none, none, none, none, none, none, none], rfl, ?_⟩⟩)))
  obtain ⟨f, rfl⟩ : ∃ f : Nat, f0 = f := ⟨f0.toNat, by omega⟩
  refine ev_seq (ev_set (ev_drawT h_draw rfl hg_f0 (ev_c ⟨_, rfl, rfl, (by first | decide | omega), fun m0 cl_m0 hg_m0 l_m0 u_m0 => ⟨[some (.sh (.scr ns)), some (.own cl_m0), some (.sh (.int (n : Nat))), some (.sh (.int (f : Nat))), none, none, none, none, none, none, none, none, none, none, none, none, none, none, none, none, none, none, none, none], rfl, [some (.sh (.scr ns)), some (.own cl_m0), some (.sh (.int (n : Nat))), some (.sh (.int (f : Nat))), some (.sh (.int m0)), none, none, none, none, none, none, none, none, none, none, none, none, none, none, none, none, none, none, none], rfl, ?_⟩⟩)))
  obtain ⟨cl_5, bw, z5, hg_5, hbw, hbl⟩ := k2 cl_m0 hg_m0
  refine ev_seq (ev_set (ev_callT e_law_bad_word (ev_acons (ev_var rfl (ev_anil ⟨_, _, _, _, _, _, _, _, rfl, rfl, rfl, z5, [some (.sh (.scr ns)), some (.own cl_5), some (.sh (.int (n : Nat))), some (.sh (.int (f : Nat))), some (.sh (.int m0)), none, none, none, none, none, none, none, none, none, none, none, none, none, none, none, none, none, none, none], rfl, [some (.sh (.scr ns)), some (.own cl_5), some (.sh (.int (n : Nat))), some (.sh (.int (f : Nat))), some (.sh (.int m0)), some (.sh (.str bw)), none, none, none, none, none, none, none, none, none, none, none, none, none, none, none, none, none, none], rfl, ?_⟩)))))
  obtain ⟨cl_6, wd, z6, hg_6, hwd⟩ := k3 cl_5 hg_5
  refine ev_seq (ev_set (ev_callT e_law_bad_width (ev_acons (ev_var rfl (ev_anil ⟨_, _, _, _, _, _, _, _, rfl, rfl, rfl, z6, [some (.sh (.scr ns)), some (.own cl_6), some (.sh (.int (n : Nat))), some (.sh (.int (f : Nat))), some (.sh (.int m0)), some (.sh (.str bw)), none, none, none, none, none, none, none, none, none, none, none, none, none, none, none, none, none, none], rfl, [some (.sh (.scr ns)), some (.own cl_6), some (.sh (.int (n : Nat))), some (.sh (.int (f : Nat))), some (.sh (.int m0)), some (.sh (.str bw)), some (.sh wd), none, none, none, none, none, none, none, none, none, none, none, none, none, none, none, none, none], rfl, ?_⟩)))))
  have ad7 : addD (.int (n : Nat)) (.int 3) = some (.sh (.int ((n + 3 : Nat) : Int))) := rfl
  obtain ⟨cl_7, nms, z7, hg_7, nl, nw, nnd⟩ := k4 cl_6 (n + 3) hg_6 (by omega)
  refine ev_seq (ev_set (ev_callT e_law_pool (ev_acons (ev_var rfl (ev_acons (ev_bin (ev_var rfl (ev_c ⟨_, _, _, rfl, rfl, ad7, ev_anil ⟨_, _, _, _, _, _, _, _, rfl, rfl, rfl, z7, [some (.sh (.scr ns)), some (.own cl_7), some (.sh (.int (n : Nat))), some (.sh (.int (f : Nat))), some (.sh (.int m0)), some (.sh (.str bw)), some (.sh wd), none, none, none, none, none, none, none, none, none, none, none, none, none, none, none, none, none], rfl, [some (.sh (.scr ns)), some (.own cl_7), some (.sh (.int (n : Nat))), some (.sh (.int (f : Nat))), some (.sh (.int m0)), some (.sh (.str bw)), some (.sh wd), some (.own (.lst (nms.map .str))), none, none, none, none, none, none, none, none, none, none, none, none, none, none, none, none], rfl, ?_⟩⟩))))))))
  have hno : ∀ s ∈ nms, PyData.strOk s = true ∧ s.length ≤ 1000 := fun s hs => ⟨isW_ok (nw s hs), by have := (isW_len (nw s hs)).2; omega⟩
  have hn : n < nms.length := by omega
  obtain ⟨fr, hfr⟩ : ∃ fr, nms[n]? = some fr := ⟨_, List.getElem?_eq_getElem hn⟩
  have hfrm : fr ∈ nms := List.mem_of_getElem? hfr
  have hix8 : ixD (.lst (nms.map .str)) (.int (n : Nat)) = some (.sh (.str fr)) := ixD_nat (by rw [List.getElem?_map, hfr]; rfl)
  refine ev_seq (ev_set (ev_bin (ev_var rfl (ev_var rfl ⟨_, _, _, rfl, rfl, hix8, [some (.sh (.scr ns)), some (.own cl_7), some (.sh (.int (n : Nat))), some (.sh (.int (f : Nat))), some (.sh (.int m0)), some (.sh (.str bw)), some (.sh wd), some (.own (.lst (nms.map .str))), some (.sh (.str fr)), none, none, none, none, none, none, none, none, none, none, none, none, none, none, none], rfl, ?_⟩))))
  have hwf : isW fr = true := nw fr hfrm
  have s9 : sliceD (.lst (nms.map .str)) none (some (n : Nat)) = some (.fr (.lst ((nms.take n).map .str))) := by
    show some (Val.fr (.lst (cutD (nms.map D.str) none (some (n : Int))))) = _
    rw [cutD_to (by simp; omega), List.map_take]
  have s10 : sliceD (.lst (nms.map .str)) (some ((n + 1 : Nat) : Int)) none = some (.fr (.lst ((nms.drop (n + 1)).map .str))) := by
    show some (Val.fr (.lst (cutD (nms.map D.str) (some ((n + 1 : Nat) : Int)) none))) = _
    rw [cutD_from (by simp; omega), List.map_drop]
  have pw : ∀ w ∈ nms.take n, isW w = true := fun w hw => nw w (List.mem_of_mem_take hw)
  have qw : ∀ w ∈ nms.drop (n + 1), isW w = true := fun w hw => nw w (List.mem_of_mem_drop hw)
  have pnd : (nms.take n).Nodup := (List.take_sublist n nms).nodup nnd
  have plen : (nms.take n).length = n := by rw [List.length_take]; omega
  have qlen : (nms.drop (n + 1)).length = 2 := by rw [List.length_drop]; omega
  generalize nms.take n = pre at s9 pw pnd plen
  generalize nms.drop (n + 1) = po at s10 qw qlen
  refine ev_seq (ev_set (ev_lc (ev_seqI (ev_sl01 (ev_var rfl (ev_var rfl ⟨_, _, _, rfl, rfl, s9, _, [some (.sh (.scr ns)), some (.own cl_7), some (.sh (.int (n : Nat))), some (.sh (.int (f : Nat))), some (.sh (.int m0)), some (.sh (.str bw)), some (.sh wd), some (.own (.lst (nms.map .str))), some (.sh (.str fr)), none, none, none, none, none, none, none, none, none, none, none, none, none, none, none], _, rfl, rfl, rfl, [some (.sh (.scr ns)), some (.own cl_7), some (.sh (.int (n : Nat))), some (.sh (.int (f : Nat))), some (.sh (.int m0)), some (.sh (.str bw)), some (.sh wd), some (.own (.lst (nms.map .str))), some (.sh (.str fr)), none, none, none, none, none, none, none, none, none, none, none, none, none, none, none], rfl, ?_⟩))))))
  refine (lc_gen (env := [some (.sh (.scr ns)), some (.own cl_7), some (.sh (.int (n : Nat))), some (.sh (.int (f : Nat))), some (.sh (.int m0)), some (.sh (.str bw)), some (.sh wd), some (.own (.lst (nms.map .str))), some (.sh (.str fr)), none, none, none, none, none, none, none, none, none, none, none, none, none, none, none]) (g := gNm 23) (t := eYes c) (f := eTup (aCons (eVar 23) (aCons (eBin addD (eC (.int 1)) (eCallB ("_law_draw", none) (aCons (eVar 1) (aCons (eC (.int 4)) aNil)))) aNil)) c) (vs := [23]) (ds := pre.map .str)
    (fun done acc e => ∃ (cl : Cell) (ts : List Tb), e = [some (.sh (.scr ns)), some (.own cl), some (.sh (.int (n : Nat))), some (.sh (.int (f : Nat))), some (.sh (.int m0)), some (.sh (.str bw)), some (.sh wd), some (.own (.lst (nms.map .str))), some (.sh (.str fr)), none, none, none, none, none, none, none, none, none, none, none, none, none, none, none] ∧ Good cl ∧ acc = (ts.map tbP).map pvD ∧ done = (ts.map (·.1)).map .str ∧ ∀ t ∈ ts, 1 ≤ t.2 ∧ t.2 ≤ 4) (by simp; rw [sizeL]; omega) ⟨cl_7, [], rfl, hg_7, rfl, rfl, fun _ h => nomatch h⟩ ?ht).elim fun ys h => ?hq
  case ht =>
    rintro done d rest acc e he ⟨cl, ts, rfl, hg, rfl, rfl, hts⟩
    obtain ⟨w, hw, rfl⟩ := List.mem_map.mp (show d ∈ pre.map D.str by rw [he]; simp)
    refine ⟨[some (.sh (.scr ns)), some (.own cl), some (.sh (.int (n : Nat))), some (.sh (.int (f : Nat))), some (.sh (.int m0)), some (.sh (.str bw)), some (.sh wd), some (.own (.lst (nms.map .str))), some (.sh (.str fr)), none, none, none, none, none, none, none, none, none, none, none, none, none, none, some (.sh (.str w))], rfl, ev_yes ⟨true, rfl, (fun h => nomatch h), fun _ => ?_⟩⟩
    refine ev_tup (ev_acons (ev_var rfl (ev_acons (ev_bin (ev_c (ev_drawT h_draw rfl hg (ev_c ⟨_, rfl, rfl, (by decide), fun r cl' hg' h0 h1 => ⟨[some (.sh (.scr ns)), some (.own cl'), some (.sh (.int (n : Nat))), some (.sh (.int (f : Nat))), some (.sh (.int m0)), some (.sh (.str bw)), some (.sh wd), some (.own (.lst (nms.map .str))), some (.sh (.str fr)), none, none, none, none, none, none, none, none, none, none, none, none, none, none, some (.sh (.str w))], rfl, _, _, _, rfl, rfl, rfl, ev_anil ⟨[.str w, .int (1 + r)], _, rfl, by rw [sizeL]; simp, _, _, rfl, cl', ts ++ [(w, 1 + r)], rfl, hg', by rw [List.map_append, List.map_append]; rfl, by rw [List.map_append, List.map_append]; rfl, fun t ht => ?_⟩⟩⟩)))))))
    rcases List.mem_append.mp ht with ht | ht
    · exact hts t ht
    · rw [List.mem_singleton.mp ht]; show 1 ≤ 1 + r ∧ 1 + r ≤ 4; omega
  case hq =>
  obtain ⟨e', q1, cl_9, ts, rfl, hg_9, rfl, hts, hw⟩ := h
  have htn : pre = ts.map (·.1) := (List.map_inj_right fun _ _ e => D.str.inj e).mp hts
  have htl : ts.length = n := by rw [← plen, htn]; simp
  have G : GoodT ts := ⟨by omega, fun t ht => pw _ (by rw [htn]; exact List.mem_map_of_mem (f := (·.1)) ht), hw, by rw [← htn]; exact pnd⟩
  have hbs := pvs_names ts
  have hB : PLn 8 (ts.map tbP) := ⟨fun p hp => by
    obtain ⟨t, ht, rfl⟩ := List.mem_map.mp hp
    exact pv_w (G.word t ht) (wd_i t.2), by rw [List.length_map]; omega⟩
  have hbm : ∀ p ∈ ts.map tbP, ∃ t ∈ ts, p = tbP t := fun p hp => by
    obtain ⟨t, ht, rfl⟩ := List.mem_map.mp hp
    exact ⟨t, ht, rfl⟩
  refine ⟨_, _, q1, [some (.sh (.scr ns)), some (.own cl_9), some (.sh (.int (n : Nat))), some (.sh (.int (f : Nat))), some (.sh (.int m0)), some (.sh (.str bw)), some (.sh wd), some (.own (.lst (nms.map .str))), some (.sh (.str fr)), none, none, none, none, none, none, none, none, none, none, none, none, none, none, none], rfl, [some (.sh (.scr ns)), some (.own cl_9), some (.sh (.int (n : Nat))), some (.sh (.int (f : Nat))), some (.sh (.int m0)), some (.sh (.str bw)), some (.sh wd), some (.own (.lst (nms.map .str))), some (.sh (.str fr)), some (.own (.lst ((ts.map tbP).map pvD))), none, none, none, none, none, none, none, none, none, none, none, none, none, none], rfl, ?_⟩
  clear q1
  generalize ts.map tbP = bs at hbs hB hbm
  have ad10 : addD (.int (n : Nat)) (.int 1) = some (.sh (.int ((n + 1 : Nat) : Int))) := rfl
  refine ev_seq (ev_set (ev_lc (ev_seqI (ev_sl10 (ev_var rfl (ev_bin (ev_var rfl (ev_c ⟨_, _, _, rfl, rfl, ad10, _, _, _, rfl, rfl, s10, _, [some (.sh (.scr ns)), some (.own cl_9), some (.sh (.int (n : Nat))), some (.sh (.int (f : Nat))), some (.sh (.int m0)), some (.sh (.str bw)), some (.sh wd), some (.own (.lst (nms.map .str))), some (.sh (.str fr)), some (.own (.lst (bs.map pvD))), none, none, none, none, none, none, none, none, none, none, none, none, none, none], _, rfl, rfl, rfl, [some (.sh (.scr ns)), some (.own cl_9), some (.sh (.int (n : Nat))), some (.sh (.int (f : Nat))), some (.sh (.int m0)), some (.sh (.str bw)), some (.sh wd), some (.own (.lst (nms.map .str))), some (.sh (.str fr)), some (.own (.lst (bs.map pvD))), none, none, none, none, none, none, none, none, none, none, none, none, none, none], rfl, ?_⟩))))))))
  refine (lc_gen (env := [some (.sh (.scr ns)), some (.own cl_9), some (.sh (.int (n : Nat))), some (.sh (.int (f : Nat))), some (.sh (.int m0)), some (.sh (.str bw)), some (.sh wd), some (.own (.lst (nms.map .str))), some (.sh (.str fr)), some (.own (.lst (bs.map pvD))), none, none, none, none, none, none, none, none, none, none, none, none, none, none]) (g := gNm 23) (t := eYes c) (f := eTup (aCons (eVar 23) (aCons (eBin addD (eC (.int 1)) (eCallB ("_law_draw", none) (aCons (eVar 1) (aCons (eC (.int 4)) aNil)))) aNil)) c) (vs := [23]) (ds := po.map .str)
    (fun done acc e => ∃ (cl : Cell) (ts : List Tb), e = [some (.sh (.scr ns)), some (.own cl), some (.sh (.int (n : Nat))), some (.sh (.int (f : Nat))), some (.sh (.int m0)), some (.sh (.str bw)), some (.sh wd), some (.own (.lst (nms.map .str))), some (.sh (.str fr)), some (.own (.lst (bs.map pvD))), none, none, none, none, none, none, none, none, none, none, none, none, none, none] ∧ Good cl ∧ acc = (ts.map tbP).map pvD ∧ done = (ts.map (·.1)).map .str ∧ ∀ t ∈ ts, 1 ≤ t.2 ∧ t.2 ≤ 4) (by simp; rw [sizeL]; omega) ⟨cl_9, [], rfl, hg_9, rfl, rfl, fun _ h => nomatch h⟩ ?ht).elim fun ys h => ?hq
  case ht =>
    rintro done d rest acc e he ⟨cl, ts, rfl, hg, rfl, rfl, hts⟩
    obtain ⟨w, hw, rfl⟩ := List.mem_map.mp (show d ∈ po.map D.str by rw [he]; simp)
    refine ⟨[some (.sh (.scr ns)), some (.own cl), some (.sh (.int (n : Nat))), some (.sh (.int (f : Nat))), some (.sh (.int m0)), some (.sh (.str bw)), some (.sh wd), some (.own (.lst (nms.map .str))), some (.sh (.str fr)), some (.own (.lst (bs.map pvD))), none, none, none, none, none, none, none, none, none, none, none, none, none, some (.sh (.str w))], rfl, ev_yes ⟨true, rfl, (fun h => nomatch h), fun _ => ?_⟩⟩
    refine ev_tup (ev_acons (ev_var rfl (ev_acons (ev_bin (ev_c (ev_drawT h_draw rfl hg (ev_c ⟨_, rfl, rfl, (by decide), fun r cl' hg' h0 h1 => ⟨[some (.sh (.scr ns)), some (.own cl'), some (.sh (.int (n : Nat))), some (.sh (.int (f : Nat))), some (.sh (.int m0)), some (.sh (.str bw)), some (.sh wd), some (.own (.lst (nms.map .str))), some (.sh (.str fr)), some (.own (.lst (bs.map pvD))), none, none, none, none, none, none, none, none, none, none, none, none, none, some (.sh (.str w))], rfl, _, _, _, rfl, rfl, rfl, ev_anil ⟨[.str w, .int (1 + r)], _, rfl, by rw [sizeL]; simp, _, _, rfl, cl', ts ++ [(w, 1 + r)], rfl, hg', by rw [List.map_append, List.map_append]; rfl, by rw [List.map_append, List.map_append]; rfl, fun t ht => ?_⟩⟩⟩)))))))
    rcases List.mem_append.mp ht with ht | ht
    · exact hts t ht
    · rw [List.mem_singleton.mp ht]; show 1 ≤ 1 + r ∧ 1 + r ≤ 4; omega
  case hq =>
  obtain ⟨e', q1, cl_10, us, rfl, hg_10, rfl, hus, hw'⟩ := h
  have hun : po = us.map (·.1) := (List.map_inj_right fun _ _ e => D.str.inj e).mp hus
  have hX : PLn 2 (us.map tbP) := ⟨fun p hp => by
    obtain ⟨t, ht, rfl⟩ := List.mem_map.mp hp
    exact pv_w (qw _ (by rw [hun]; exact List.mem_map_of_mem (f := (·.1)) ht)) (wd_i t.2), by rw [List.length_map]; have := congrArg List.length hun; rw [List.length_map] at this; omega⟩
  have hX0 : (us.map tbP).length = 2 := by rw [List.length_map]; have := congrArg List.length hun; rw [List.length_map] at this; omega
  refine ⟨_, _, q1, [some (.sh (.scr ns)), some (.own cl_10), some (.sh (.int (n : Nat))), some (.sh (.int (f : Nat))), some (.sh (.int m0)), some (.sh (.str bw)), some (.sh wd), some (.own (.lst (nms.map .str))), some (.sh (.str fr)), some (.own (.lst (bs.map pvD))), none, none, none, none, none, none, none, none, none, none, none, none, none, none], rfl, [some (.sh (.scr ns)), some (.own cl_10), some (.sh (.int (n : Nat))), some (.sh (.int (f : Nat))), some (.sh (.int m0)), some (.sh (.str bw)), some (.sh wd), some (.own (.lst (nms.map .str))), some (.sh (.str fr)), some (.own (.lst (bs.map pvD))), some (.own (.lst ((us.map tbP).map pvD))), none, none, none, none, none, none, none, none, none, none, none, none, none], rfl, ?_⟩
  clear q1
  generalize us.map tbP = ex at hX hX0
  have s11 := pv_sl ex none (some m0)
  have a11 := pv_add hB (hX.cut none (some m0)) (by decide)
  refine ev_seq (ev_set (ev_bin (ev_var rfl (ev_sl01 (ev_var rfl (ev_var rfl ⟨_, _, _, rfl, rfl, s11, _, _, _, rfl, rfl, a11, [some (.sh (.scr ns)), some (.own cl_10), some (.sh (.int (n : Nat))), some (.sh (.int (f : Nat))), some (.sh (.int m0)), some (.sh (.str bw)), some (.sh wd), some (.own (.lst (nms.map .str))), some (.sh (.str fr)), some (.own (.lst (bs.map pvD))), some (.own (.lst (ex.map pvD))), some (.own (.lst ((bs ++ cutD ex none (some m0)).map pvD))), none, none, none, none, none, none, none, none, none, none, none, none], rfl, ?_⟩))))))
  have hSp0 := hB.app (hX.cut none (some m0))
  generalize bs ++ cutD ex none (some m0) = sp0 at hSp0
  refine ev_cut (fun e => ∃ (cl' : Cell) (ps : List PV) (o7 : Option Slot) (o12 o13 : Option D), e = [some (.sh (.scr ns)), some (.own cl'), some (.sh (.int (n : Nat))), some (.sh (.int (f : Nat))), some (.sh (.int m0)), some (.sh (.str bw)), some (.sh wd), o7, some (.sh (.str fr)), some (.own (.lst (bs.map pvD))), some (.own (.lst (ex.map pvD))), some (.own (.lst (ps.map pvD))), o12.map Slot.sh, o13.map Slot.sh, none, none, none, none, none, none, none, none, none, none] ∧ Good cl' ∧ (o7 = some (.own (.lst (nms.map .str))) ∨ o7 = some (.sh (.lst (nms.map .str)))) ∧ PLn 10 ps) ?_ ?_
  · refine ev_for (ev_range1U (ev_acons (ev_var rfl (ev_anil ⟨_, rfl, (by omega), ?_⟩))))
    refine ev_loopE D.int (xs := upto f) (fun done e => ∃ (cl' : Cell) (ps : List PV) (o7 : Option Slot) (o12 o13 : Option D), e = [some (.sh (.scr ns)), some (.own cl'), some (.sh (.int (n : Nat))), some (.sh (.int (f : Nat))), some (.sh (.int m0)), some (.sh (.str bw)), some (.sh wd), o7, some (.sh (.str fr)), some (.own (.lst (bs.map pvD))), some (.own (.lst (ex.map pvD))), some (.own (.lst (ps.map pvD))), o12.map Slot.sh, o13.map Slot.sh, none, none, none, none, none, none, none, none, none, none] ∧ Good cl' ∧ (o7 = some (.own (.lst (nms.map .str))) ∨ o7 = some (.sh (.lst (nms.map .str)))) ∧ PLn 10 ps) ?_ ?_ ?_
    · exact ⟨cl_10, sp0, _, none, none, rfl, hg_10, .inl rfl, hSp0⟩
    · rintro done x rest e he ⟨cl', ps, o7, o12, o13, rfl, hg, h7, hP⟩
      have hln := len_map (e := pvD) ps
      refine ⟨[some (.sh (.scr ns)), some (.own cl'), some (.sh (.int (n : Nat))), some (.sh (.int (f : Nat))), some (.sh (.int m0)), some (.sh (.str bw)), some (.sh wd), o7, some (.sh (.str fr)), some (.own (.lst (bs.map pvD))), some (.own (.lst (ex.map pvD))), some (.own (.lst (ps.map pvD))), some (.sh (.int x)), o13.map Slot.sh, none, none, none, none, none, none, none, none, none, none], by cases o12 <;> rfl, ?_⟩
      refine ev_if (ev_bin (ev_arg (ev_acons (ev_var rfl (ev_anil ⟨_, _, rfl, hln, ev_c ⟨_, _, _, rfl, rfl, gt_0B ps.length, _, rfl, (fun h => ?_), (fun h => ev_nil ?_)⟩⟩)))))
      · have h := of_decide_eq_true h
        have hpl := hP.2
        refine ev_seq (ev_set (ev_drawT h_draw rfl hg (ev_arg (ev_acons (ev_var rfl (ev_anil ⟨_, _, rfl, hln, _, rfl, rfl, (by first | decide | omega), fun a0 cl_a0 hg_a0 l_a0 u_a0 => ⟨[some (.sh (.scr ns)), some (.own cl_a0), some (.sh (.int (n : Nat))), some (.sh (.int (f : Nat))), some (.sh (.int m0)), some (.sh (.str bw)), some (.sh wd), o7, some (.sh (.str fr)), some (.own (.lst (bs.map pvD))), some (.own (.lst (ex.map pvD))), some (.own (.lst (ps.map pvD))), some (.sh (.int x)), o13.map Slot.sh, none, none, none, none, none, none, none, none, none, none], rfl, [some (.sh (.scr ns)), some (.own cl_a0), some (.sh (.int (n : Nat))), some (.sh (.int (f : Nat))), some (.sh (.int m0)), some (.sh (.str bw)), some (.sh wd), o7, some (.sh (.str fr)), some (.own (.lst (bs.map pvD))), some (.own (.lst (ex.map pvD))), some (.own (.lst (ps.map pvD))), some (.sh (.int x)), some (.sh (.int a0)), none, none, none, none, none, none, none, none, none, none], (by cases o13 <;> rfl), ?_⟩⟩))))))
        obtain ⟨a, rfl⟩ : ∃ a : Nat, a0 = a := ⟨a0.toNat, by omega⟩
        have ha : a < ps.length := by omega
        obtain ⟨p, hp⟩ : ∃ p, ps[a]? = some p := ⟨_, List.getElem?_eq_getElem ha⟩
        have hixa : ixD (.lst (ps.map pvD)) (.int (a : Nat)) = some (.sh (pvD p)) := ixD_nat (by rw [List.getElem?_map, hp]; rfl)
        obtain ⟨cl_15, q, z15, hg_15, hq⟩ := k5 cl_a0 nms p hg_a0 (by omega) (by omega) hno (hP.1 p (List.mem_of_getElem? hp))
        have hput := pv_put (q := q) ha
        have hP2 : PLn 10 (ps.set a q) := ⟨fun r hr => by
          rcases List.mem_or_eq_of_mem_set hr with hr | rfl
          · exact hP.1 r hr
          · exact hq, by rw [List.length_set]; exact hpl⟩
        rcases h7 with rfl | rfl
        · skip
          refine ev_put (ev_callT e_law_spoilt (ev_acons (ev_var rfl (ev_acons (ev_var rfl (ev_acons (ev_bin (ev_var rfl (ev_var rfl ⟨_, _, _, rfl, rfl, hixa, ev_anil ⟨_, _, _, _, _, _, _, _, rfl, rfl, rfl, z15, [some (.sh (.scr ns)), some (.own cl_15), some (.sh (.int (n : Nat))), some (.sh (.int (f : Nat))), some (.sh (.int m0)), some (.sh (.str bw)), some (.sh wd), some (.sh (.lst (nms.map .str))), some (.sh (.str fr)), some (.own (.lst (bs.map pvD))), some (.own (.lst (ex.map pvD))), some (.own (.lst (ps.map pvD))), some (.sh (.int x)), some (.sh (.int (a : Nat))), none, none, none, none, none, none, none, none, none, none], rfl, _, _, _, rfl, rfl, ev_var rfl ⟨_, _, _, rfl, rfl, hput, [some (.sh (.scr ns)), some (.own cl_15), some (.sh (.int (n : Nat))), some (.sh (.int (f : Nat))), some (.sh (.int m0)), some (.sh (.str bw)), some (.sh wd), some (.sh (.lst (nms.map .str))), some (.sh (.str fr)), some (.own (.lst (bs.map pvD))), some (.own (.lst (ex.map pvD))), some (.own (.lst ((ps.set a q).map pvD))), some (.sh (.int x)), some (.sh (.int (a : Nat))), none, none, none, none, none, none, none, none, none, none], rfl, ?_⟩⟩⟩)))))))))
          exact ⟨cl_15, _, _, some _, some _, rfl, hg_15, .inr rfl, hP2⟩
        · skip
          refine ev_put (ev_callT e_law_spoilt (ev_acons (ev_var rfl (ev_acons (ev_var rfl (ev_acons (ev_bin (ev_var rfl (ev_var rfl ⟨_, _, _, rfl, rfl, hixa, ev_anil ⟨_, _, _, _, _, _, _, _, rfl, rfl, rfl, z15, [some (.sh (.scr ns)), some (.own cl_15), some (.sh (.int (n : Nat))), some (.sh (.int (f : Nat))), some (.sh (.int m0)), some (.sh (.str bw)), some (.sh wd), some (.sh (.lst (nms.map .str))), some (.sh (.str fr)), some (.own (.lst (bs.map pvD))), some (.own (.lst (ex.map pvD))), some (.own (.lst (ps.map pvD))), some (.sh (.int x)), some (.sh (.int (a : Nat))), none, none, none, none, none, none, none, none, none, none], rfl, _, _, _, rfl, rfl, ev_var rfl ⟨_, _, _, rfl, rfl, hput, [some (.sh (.scr ns)), some (.own cl_15), some (.sh (.int (n : Nat))), some (.sh (.int (f : Nat))), some (.sh (.int m0)), some (.sh (.str bw)), some (.sh wd), some (.sh (.lst (nms.map .str))), some (.sh (.str fr)), some (.own (.lst (bs.map pvD))), some (.own (.lst (ex.map pvD))), some (.own (.lst ((ps.set a q).map pvD))), some (.sh (.int x)), some (.sh (.int (a : Nat))), none, none, none, none, none, none, none, none, none, none], rfl, ?_⟩⟩⟩)))))))))
          exact ⟨cl_15, _, _, some _, some _, rfl, hg_15, .inr rfl, hP2⟩
      · exact ⟨cl', ps, o7, some _, o13, rfl, hg, h7, hP⟩
    · rintro e ⟨cl', ps, o7, o12, o13, rfl, hg, h7, hP⟩
      exact ⟨cl', ps, o7, o12, o13, rfl, hg, h7, hP⟩
  rintro e ⟨cl', sp, o7, o12, o13, rfl, hg, h7, hP⟩
  have s16 := pv_sl bs none (some 3)
  have hL := hB.cut none (some 3)
  generalize cutD bs none (some 3) = low at s16 hL
  refine ev_seq (ev_set (ev_sl01 (ev_var rfl (ev_c ⟨_, _, _, rfl, rfl, s16, [some (.sh (.scr ns)), some (.own cl'), some (.sh (.int (n : Nat))), some (.sh (.int (f : Nat))), some (.sh (.int m0)), some (.sh (.str bw)), some (.sh wd), o7, some (.sh (.str fr)), some (.own (.lst (bs.map pvD))), some (.own (.lst (ex.map pvD))), some (.own (.lst (sp.map pvD))), o12.map Slot.sh, o13.map Slot.sh, some (.own (.lst (low.map pvD))), none, none, none, none, none, none, none, none, none], rfl, ?_⟩))))
  have pFW : PvOk (fr, wd) := pv_w hwf hwd
  have pF : ∀ i : Int, PvOk (fr, D.int i) := fun i => pv_w hwf (wd_i i)
  have pFT : PvOk (fr, D.bl true) := pv_w hwf (.inr ⟨_, rfl⟩)
  have pBW : PvOk (bw, wd) := ⟨hbw, by show bw.length ≤ 1000; omega, hwd⟩
  have pB : ∀ i : Int, PvOk (bw, D.int i) := fun i => ⟨hbw, by show bw.length ≤ 1000; omega, wd_i i⟩
  have j1 : addD (.lst (low.map pvD)) (.lst [.tup [.str fr, wd], .tup [.str bw, .int 1]]) = some (.fr (.lst ((low ++ [(fr, wd), (bw, D.int 1)]).map pvD))) := pv_add hL (PLn.two pFW (pB 1)) (by decide)
  have j2 : addD (.lst (low.map pvD)) (.lst [.tup [.str bw, wd], .tup [.str fr, .int 1]]) = some (.fr (.lst ((low ++ [(bw, wd), (fr, D.int 1)]).map pvD))) := pv_add hL (PLn.two pBW (pF 1)) (by decide)
  have hA1 : ∀ ps ∈ [bs, sp, low ++ [(fr, wd), (bw, D.int 1)], low ++ [(bw, wd), (fr, D.int 1)]], PLn 100 ps := by
    intro ps h
    simp only [List.mem_cons, List.not_mem_nil, or_false] at h
    rcases h with rfl | rfl | rfl | rfl
    · exact hB.le (by decide)
    · exact hP.le (by decide)
    · exact (hL.app (PLn.two pFW (pB 1))).le (by decide)
    · exact (hL.app (PLn.two pBW (pF 1))).le (by decide)
  refine ev_seq (ev_set (ev_list (ev_acons (ev_var rfl (ev_acons (ev_var rfl (ev_acons (ev_bin (ev_var rfl (ev_list (ev_acons (ev_tup (ev_acons (ev_var rfl (ev_acons (ev_var rfl (ev_anil ⟨[.str fr, wd], [some (.sh (.scr ns)), some (.own cl'), some (.sh (.int (n : Nat))), some (.sh (.int (f : Nat))), some (.sh (.int m0)), some (.sh (.str bw)), some (.sh wd), o7, some (.sh (.str fr)), some (.own (.lst (bs.map pvD))), some (.own (.lst (ex.map pvD))), some (.own (.lst (sp.map pvD))), o12.map Slot.sh, o13.map Slot.sh, some (.own (.lst (low.map pvD))), none, none, none, none, none, none, none, none, none], rfl, (by rw [sizeL]; simp), ev_acons (ev_tup (ev_acons (ev_var rfl (ev_acons (ev_c (ev_anil ⟨[.str bw, .int 1], [some (.sh (.scr ns)), some (.own cl'), some (.sh (.int (n : Nat))), some (.sh (.int (f : Nat))), some (.sh (.int m0)), some (.sh (.str bw)), some (.sh wd), o7, some (.sh (.str fr)), some (.own (.lst (bs.map pvD))), some (.own (.lst (ex.map pvD))), some (.own (.lst (sp.map pvD))), o12.map Slot.sh, o13.map Slot.sh, some (.own (.lst (low.map pvD))), none, none, none, none, none, none, none, none, none], rfl, (by rw [sizeL]; simp), ev_anil ⟨[.tup [.str fr, wd], .tup [.str bw, .int 1]], [some (.sh (.scr ns)), some (.own cl'), some (.sh (.int (n : Nat))), some (.sh (.int (f : Nat))), some (.sh (.int m0)), some (.sh (.str bw)), some (.sh wd), o7, some (.sh (.str fr)), some (.own (.lst (bs.map pvD))), some (.own (.lst (ex.map pvD))), some (.own (.lst (sp.map pvD))), o12.map Slot.sh, o13.map Slot.sh, some (.own (.lst (low.map pvD))), none, none, none, none, none, none, none, none, none], rfl, (by rw [sizeL]; simp), _, _, _, rfl, rfl, j1, ev_acons (ev_bin (ev_var rfl (ev_list (ev_acons (ev_tup (ev_acons (ev_var rfl (ev_acons (ev_var rfl (ev_anil ⟨[.str bw, wd], [some (.sh (.scr ns)), some (.own cl'), some (.sh (.int (n : Nat))), some (.sh (.int (f : Nat))), some (.sh (.int m0)), some (.sh (.str bw)), some (.sh wd), o7, some (.sh (.str fr)), some (.own (.lst (bs.map pvD))), some (.own (.lst (ex.map pvD))), some (.own (.lst (sp.map pvD))), o12.map Slot.sh, o13.map Slot.sh, some (.own (.lst (low.map pvD))), none, none, none, none, none, none, none, none, none], rfl, (by rw [sizeL]; simp), ev_acons (ev_tup (ev_acons (ev_var rfl (ev_acons (ev_c (ev_anil ⟨[.str fr, .int 1], [some (.sh (.scr ns)), some (.own cl'), some (.sh (.int (n : Nat))), some (.sh (.int (f : Nat))), some (.sh (.int m0)), some (.sh (.str bw)), some (.sh wd), o7, some (.sh (.str fr)), some (.own (.lst (bs.map pvD))), some (.own (.lst (ex.map pvD))), some (.own (.lst (sp.map pvD))), o12.map Slot.sh, o13.map Slot.sh, some (.own (.lst (low.map pvD))), none, none, none, none, none, none, none, none, none], rfl, (by rw [sizeL]; simp), ev_anil ⟨[.tup [.str bw, wd], .tup [.str fr, .int 1]], [some (.sh (.scr ns)), some (.own cl'), some (.sh (.int (n : Nat))), some (.sh (.int (f : Nat))), some (.sh (.int m0)), some (.sh (.str bw)), some (.sh wd), o7, some (.sh (.str fr)), some (.own (.lst (bs.map pvD))), some (.own (.lst (ex.map pvD))), some (.own (.lst (sp.map pvD))), o12.map Slot.sh, o13.map Slot.sh, some (.own (.lst (low.map pvD))), none, none, none, none, none, none, none, none, none], rfl, (by rw [sizeL]; simp), _, _, _, rfl, rfl, j2, ev_anil ⟨_, _, rfl, (by rw [sizeL]; simp), [some (.sh (.scr ns)), some (.own cl'), some (.sh (.int (n : Nat))), some (.sh (.int (f : Nat))), some (.sh (.int m0)), some (.sh (.str bw)), some (.sh wd), o7, some (.sh (.str fr)), some (.sh (.lst (bs.map pvD))), some (.own (.lst (ex.map pvD))), some (.sh (.lst (sp.map pvD))), o12.map Slot.sh, o13.map Slot.sh, some (.own (.lst (low.map pvD))), some (.own (.lst ([bs, sp, low ++ [(fr, wd), (bw, D.int 1)], low ++ [(bw, wd), (fr, D.int 1)]].map pvL))), none, none, none, none, none, none, none, none], rfl, ?_⟩⟩⟩))))))⟩))))))))))⟩⟩))))))⟩)))))))))))))))))
  have hl1 : [bs, sp, low ++ [(fr, wd), (bw, D.int 1)], low ++ [(bw, wd), (fr, D.int 1)]].length = 4 := rfl
  generalize [bs, sp, low ++ [(fr, wd), (bw, D.int 1)], low ++ [(bw, wd), (fr, D.int 1)]] = A1 at hA1 hl1
  have j3 : addD (.lst (low.map pvD)) (.lst [.tup [.str fr, .int 1], .tup [.str fr, wd]]) = some (.fr (.lst ((low ++ [(fr, D.int 1), (fr, wd)]).map pvD))) := pv_add hL (PLn.two (pF 1) pFW) (by decide)
  have j4 : addD (.lst [.tup [.str fr, .int 2]]) (.lst (low.map pvD)) = some (.fr (.lst (([((fr, D.int 2) : PV)] ++ low).map pvD))) := pv_add (PLn.one (pF 2)) hL (by decide)
  have j5 : addD (.lst (([((fr, D.int 2) : PV)] ++ low).map pvD)) (.lst [.tup [.str fr, .int 3]]) = some (.fr (.lst (([((fr, D.int 2) : PV)] ++ low ++ [(fr, D.int 3)]).map pvD))) := pv_add ((PLn.one (pF 2)).app hL) (PLn.one (pF 3)) (by decide)
  have j6 : addD (.lst (low.map pvD)) (.lst [.tup [.str fr, .bl true]]) = some (.fr (.lst ((low ++ [(fr, D.bl true)]).map pvD))) := pv_add hL (PLn.one pFT) (by decide)
  have hA2 : ∀ ps ∈ [low ++ [(fr, D.int 1), (fr, wd)], [((fr, D.int 2) : PV)] ++ low ++ [(fr, D.int 3)], low ++ [(fr, D.bl true)]], PLn 100 ps := by
    intro ps h
    simp only [List.mem_cons, List.not_mem_nil, or_false] at h
    rcases h with rfl | rfl | rfl
    · exact (hL.app (PLn.two (pF 1) pFW)).le (by decide)
    · exact (((PLn.one (pF 2)).app hL).app (PLn.one (pF 3))).le (by decide)
    · exact (hL.app (PLn.one pFT)).le (by decide)
  have j7 : addD (.lst (A1.map pvL)) (.lst [.lst ((low ++ [(fr, D.int 1), (fr, wd)]).map pvD), .lst (([((fr, D.int 2) : PV)] ++ low ++ [(fr, D.int 3)]).map pvD), .lst ((low ++ [(fr, D.bl true)]).map pvD)]) = some (.fr (.lst ((A1 ++ [low ++ [(fr, D.int 1), (fr, wd)], [((fr, D.int 2) : PV)] ++ low ++ [(fr, D.int 3)], low ++ [(fr, D.bl true)]]).map pvL))) := al_add (b := [low ++ [(fr, D.int 1), (fr, wd)], [((fr, D.int 2) : PV)] ++ low ++ [(fr, D.int 3)], low ++ [(fr, D.bl true)]]) (by rw [hl1]; show 4 + 3 ≤ 100000; decide)
  have hA12 : ∀ ps ∈ A1 ++ [low ++ [(fr, D.int 1), (fr, wd)], [((fr, D.int 2) : PV)] ++ low ++ [(fr, D.int 3)], low ++ [(fr, D.bl true)]], PLn 100 ps := fun ps h => (List.mem_append.mp h).elim (hA1 ps) (hA2 ps)
  have hl2 : (A1 ++ [low ++ [(fr, D.int 1), (fr, wd)], [((fr, D.int 2) : PV)] ++ low ++ [(fr, D.int 3)], low ++ [(fr, D.bl true)]]).length = 7 := by rw [List.length_append, hl1]; rfl
  generalize A1 ++ [low ++ [(fr, D.int 1), (fr, wd)], [((fr, D.int 2) : PV)] ++ low ++ [(fr, D.int 3)], low ++ [(fr, D.bl true)]] = A2 at j7 hA12 hl2
  refine ev_seq (ev_set (ev_bin (ev_var rfl (ev_list (ev_acons (ev_bin (ev_var rfl (ev_list (ev_acons (ev_tup (ev_acons (ev_var rfl (ev_acons (ev_c (ev_anil ⟨[.str fr, .int 1], [some (.sh (.scr ns)), some (.own cl'), some (.sh (.int (n : Nat))), some (.sh (.int (f : Nat))), some (.sh (.int m0)), some (.sh (.str bw)), some (.sh wd), o7, some (.sh (.str fr)), some (.sh (.lst (bs.map pvD))), some (.own (.lst (ex.map pvD))), some (.sh (.lst (sp.map pvD))), o12.map Slot.sh, o13.map Slot.sh, some (.own (.lst (low.map pvD))), some (.own (.lst (A1.map pvL))), none, none, none, none, none, none, none, none], rfl, (by rw [sizeL]; simp), ev_acons (ev_tup (ev_acons (ev_var rfl (ev_acons (ev_var rfl (ev_anil ⟨[.str fr, wd], [some (.sh (.scr ns)), some (.own cl'), some (.sh (.int (n : Nat))), some (.sh (.int (f : Nat))), some (.sh (.int m0)), some (.sh (.str bw)), some (.sh wd), o7, some (.sh (.str fr)), some (.sh (.lst (bs.map pvD))), some (.own (.lst (ex.map pvD))), some (.sh (.lst (sp.map pvD))), o12.map Slot.sh, o13.map Slot.sh, some (.own (.lst (low.map pvD))), some (.own (.lst (A1.map pvL))), none, none, none, none, none, none, none, none], rfl, (by rw [sizeL]; simp), ev_anil ⟨[.tup [.str fr, .int 1], .tup [.str fr, wd]], [some (.sh (.scr ns)), some (.own cl'), some (.sh (.int (n : Nat))), some (.sh (.int (f : Nat))), some (.sh (.int m0)), some (.sh (.str bw)), some (.sh wd), o7, some (.sh (.str fr)), some (.sh (.lst (bs.map pvD))), some (.own (.lst (ex.map pvD))), some (.sh (.lst (sp.map pvD))), o12.map Slot.sh, o13.map Slot.sh, some (.own (.lst (low.map pvD))), some (.own (.lst (A1.map pvL))), none, none, none, none, none, none, none, none], rfl, (by rw [sizeL]; simp), _, _, _, rfl, rfl, j3, ev_acons (ev_bin (ev_bin (ev_list (ev_acons (ev_tup (ev_acons (ev_var rfl (ev_acons (ev_c (ev_anil ⟨[.str fr, .int 2], [some (.sh (.scr ns)), some (.own cl'), some (.sh (.int (n : Nat))), some (.sh (.int (f : Nat))), some (.sh (.int m0)), some (.sh (.str bw)), some (.sh wd), o7, some (.sh (.str fr)), some (.sh (.lst (bs.map pvD))), some (.own (.lst (ex.map pvD))), some (.sh (.lst (sp.map pvD))), o12.map Slot.sh, o13.map Slot.sh, some (.own (.lst (low.map pvD))), some (.own (.lst (A1.map pvL))), none, none, none, none, none, none, none, none], rfl, (by rw [sizeL]; simp), ev_anil ⟨[.tup [.str fr, .int 2]], [some (.sh (.scr ns)), some (.own cl'), some (.sh (.int (n : Nat))), some (.sh (.int (f : Nat))), some (.sh (.int m0)), some (.sh (.str bw)), some (.sh wd), o7, some (.sh (.str fr)), some (.sh (.lst (bs.map pvD))), some (.own (.lst (ex.map pvD))), some (.sh (.lst (sp.map pvD))), o12.map Slot.sh, o13.map Slot.sh, some (.own (.lst (low.map pvD))), some (.own (.lst (A1.map pvL))), none, none, none, none, none, none, none, none], rfl, (by rw [sizeL]; simp), ev_var rfl ⟨_, _, _, rfl, rfl, j4, ev_list (ev_acons (ev_tup (ev_acons (ev_var rfl (ev_acons (ev_c (ev_anil ⟨[.str fr, .int 3], [some (.sh (.scr ns)), some (.own cl'), some (.sh (.int (n : Nat))), some (.sh (.int (f : Nat))), some (.sh (.int m0)), some (.sh (.str bw)), some (.sh wd), o7, some (.sh (.str fr)), some (.sh (.lst (bs.map pvD))), some (.own (.lst (ex.map pvD))), some (.sh (.lst (sp.map pvD))), o12.map Slot.sh, o13.map Slot.sh, some (.own (.lst (low.map pvD))), some (.own (.lst (A1.map pvL))), none, none, none, none, none, none, none, none], rfl, (by rw [sizeL]; simp), ev_anil ⟨[.tup [.str fr, .int 3]], [some (.sh (.scr ns)), some (.own cl'), some (.sh (.int (n : Nat))), some (.sh (.int (f : Nat))), some (.sh (.int m0)), some (.sh (.str bw)), some (.sh wd), o7, some (.sh (.str fr)), some (.sh (.lst (bs.map pvD))), some (.own (.lst (ex.map pvD))), some (.sh (.lst (sp.map pvD))), o12.map Slot.sh, o13.map Slot.sh, some (.own (.lst (low.map pvD))), some (.own (.lst (A1.map pvL))), none, none, none, none, none, none, none, none], rfl, (by rw [sizeL]; simp), _, _, _, rfl, rfl, j5, ev_acons (ev_bin (ev_var rfl (ev_list (ev_acons (ev_tup (ev_acons (ev_var rfl (ev_acons (ev_c (ev_anil ⟨[.str fr, .bl true], [some (.sh (.scr ns)), some (.own cl'), some (.sh (.int (n : Nat))), some (.sh (.int (f : Nat))), some (.sh (.int m0)), some (.sh (.str bw)), some (.sh wd), o7, some (.sh (.str fr)), some (.sh (.lst (bs.map pvD))), some (.own (.lst (ex.map pvD))), some (.sh (.lst (sp.map pvD))), o12.map Slot.sh, o13.map Slot.sh, some (.own (.lst (low.map pvD))), some (.own (.lst (A1.map pvL))), none, none, none, none, none, none, none, none], rfl, (by rw [sizeL]; simp), ev_anil ⟨[.tup [.str fr, .bl true]], [some (.sh (.scr ns)), some (.own cl'), some (.sh (.int (n : Nat))), some (.sh (.int (f : Nat))), some (.sh (.int m0)), some (.sh (.str bw)), some (.sh wd), o7, some (.sh (.str fr)), some (.sh (.lst (bs.map pvD))), some (.own (.lst (ex.map pvD))), some (.sh (.lst (sp.map pvD))), o12.map Slot.sh, o13.map Slot.sh, some (.own (.lst (low.map pvD))), some (.own (.lst (A1.map pvL))), none, none, none, none, none, none, none, none], rfl, (by rw [sizeL]; simp), _, _, _, rfl, rfl, j6, ev_anil ⟨_, _, rfl, (by rw [sizeL]; simp), _, _, _, rfl, rfl, j7, [some (.sh (.scr ns)), some (.own cl'), some (.sh (.int (n : Nat))), some (.sh (.int (f : Nat))), some (.sh (.int m0)), some (.sh (.str bw)), some (.sh wd), o7, some (.sh (.str fr)), some (.sh (.lst (bs.map pvD))), some (.own (.lst (ex.map pvD))), some (.sh (.lst (sp.map pvD))), o12.map Slot.sh, o13.map Slot.sh, some (.own (.lst (low.map pvD))), some (.own (.lst (A2.map pvL))), none, none, none, none, none, none, none, none], rfl, ?_⟩⟩⟩))))))))))⟩⟩)))))))⟩⟩⟩))))))))))⟩⟩))))))⟩)))))))))))))))
  refine ev_seq (ev_set (ev_lcMapE nat0 pvD nineF (ev_range1 (ev_acons (ev_c (ev_anil ⟨_, rfl, ⟨by omega, by omega⟩, (by cases o12 <;> rfl), [some (.sh (.scr ns)), some (.own cl'), some (.sh (.int (n : Nat))), some (.sh (.int (f : Nat))), some (.sh (.int m0)), some (.sh (.str bw)), some (.sh wd), o7, some (.sh (.str fr)), some (.sh (.lst (bs.map pvD))), some (.own (.lst (ex.map pvD))), some (.sh (.lst (sp.map pvD))), none, o13.map Slot.sh, some (.own (.lst (low.map pvD))), some (.own (.lst (A2.map pvL))), none, none, none, none, none, none, none, none], (by cases o12 <;> rfl), (List.range 9), rfl, (by rw [sizeL]; decide), ?_, [some (.sh (.scr ns)), some (.own cl'), some (.sh (.int (n : Nat))), some (.sh (.int (f : Nat))), some (.sh (.int m0)), some (.sh (.str bw)), some (.sh wd), o7, some (.sh (.str fr)), some (.sh (.lst (bs.map pvD))), some (.own (.lst (ex.map pvD))), some (.sh (.lst (sp.map pvD))), o12.map Slot.sh, o13.map Slot.sh, some (.own (.lst (low.map pvD))), some (.own (.lst (A2.map pvL))), none, none, none, none, none, none, none, none], (by cases o12 <;> rfl), [some (.sh (.scr ns)), some (.own cl'), some (.sh (.int (n : Nat))), some (.sh (.int (f : Nat))), some (.sh (.int m0)), some (.sh (.str bw)), some (.sh wd), o7, some (.sh (.str fr)), some (.sh (.lst (bs.map pvD))), some (.own (.lst (ex.map pvD))), some (.sh (.lst (sp.map pvD))), o12.map Slot.sh, o13.map Slot.sh, some (.own (.lst (low.map pvD))), some (.own (.lst (A2.map pvL))), some (.own (.lst (((List.range 9).map nineF).map pvD))), none, none, none, none, none, none, none], (by cases o12 <;> rfl), ?_⟩))))))
  · intro k hk
    have hk := List.mem_range.mp hk
    have hs := str_n hk
    have hn1 : (nI k).length = 1 := rfl
    have hadd : addD (.str "t") (.str (nI k)) = some (.sh (.str (("t" : Str) ++ nI k))) := add_S (by rw [hn1]; decide +kernel)
    have hint : intD [nat0 k] = some (.sh (.int (0 + (k : Int)))) := rfl
    have hmod : modD (.int (0 + (k : Int))) (.int 4) = some (.sh (.int ((0 + (k : Int)) % 4))) := rfl
    exact ⟨[some (.sh (.scr ns)), some (.own cl'), some (.sh (.int (n : Nat))), some (.sh (.int (f : Nat))), some (.sh (.int m0)), some (.sh (.str bw)), some (.sh wd), o7, some (.sh (.str fr)), some (.sh (.lst (bs.map pvD))), some (.own (.lst (ex.map pvD))), some (.sh (.lst (sp.map pvD))), some (.sh (nat0 k)), o13.map Slot.sh, some (.own (.lst (low.map pvD))), some (.own (.lst (A2.map pvL))), none, none, none, none, none, none, none, none], rfl, ev_tup (ev_acons (ev_bin (ev_c (ev_arg (ev_acons (ev_var rfl (ev_anil ⟨_, _, rfl, hs, _, _, _, rfl, rfl, hadd, ev_acons (ev_bin (ev_c (ev_bin (ev_arg (ev_acons (ev_var rfl (ev_anil ⟨_, _, rfl, hint, ev_c ⟨_, _, _, rfl, rfl, hmod, _, _, _, rfl, rfl, rfl, ev_anil ⟨_, _, rfl, (by rw [sizeL]; simp), _, rfl, rfl⟩⟩⟩)))))))⟩)))))))⟩
  have hN : PLn 9 ((List.range 9).map nineF) := ⟨fun p hp => by
    obtain ⟨k, hk, rfl⟩ := List.mem_map.mp hp
    exact nine_ok (List.mem_range.mp hk), by simp⟩
  have hN9 : ((List.range 9).map nineF).length = 9 := by simp
  generalize (List.range 9).map nineF = nn at hN hN9
  have s20 := pv_sl nn none (some 8)
  have t20 := pv_sl nn (some 1) none
  have hM := hN.cut none (some 8)
  have hM2 := hN.cut (some 1) none
  generalize cutD nn none (some 8) = n8 at s20 hM
  generalize cutD nn (some 1) none = n1 at t20 hM2
  have hm8 : modD (.int (n : Nat)) (.int 8) = some (.sh (.int ((n % 8 : Nat) : Int))) := rfl
  obtain ⟨p8, hp8⟩ : ∃ p, nn[n % 8]? = some p := ⟨_, List.getElem?_eq_getElem (by omega)⟩
  have hix20 : ixD (.lst (nn.map pvD)) (.int ((n % 8 : Nat) : Int)) = some (.sh (pvD p8)) := ixD_nat (by rw [List.getElem?_map, hp8]; rfl)
  have pp8 : PvOk p8 := hN.1 p8 (List.mem_of_getElem? hp8)
  have i1 : addD (.lst (n8.map pvD)) (.lst [pvD p8]) = some (.fr (.lst ((n8 ++ [p8]).map pvD))) := pv_add hM (PLn.one pp8) (by decide)
  have i2 : addD (.lst [.tup [.str bw, wd]]) (.lst (n1.map pvD)) = some (.fr (.lst (([((bw, wd) : PV)] ++ n1).map pvD))) := pv_add (PLn.one pBW) hM2 (by decide)
  have hA3 : ∀ ps ∈ [n8, nn, n8 ++ [p8], [((bw, wd) : PV)] ++ n1, bs], PLn 100 ps := by
    intro ps h
    simp only [List.mem_cons, List.not_mem_nil, or_false] at h
    rcases h with rfl | rfl | rfl | rfl | rfl
    · exact hM.le (by decide)
    · exact hN.le (by decide)
    · exact (hM.app (PLn.one pp8)).le (by decide)
    · exact ((PLn.one pBW).app hM2).le (by decide)
    · exact hB.le (by decide)
  have i3 : addD (.lst (A2.map pvL)) (.lst [.lst (n8.map pvD), .lst (nn.map pvD), .lst ((n8 ++ [p8]).map pvD), .lst (([((bw, wd) : PV)] ++ n1).map pvD), .lst (bs.map pvD)]) = some (.fr (.lst ((A2 ++ [n8, nn, n8 ++ [p8], [((bw, wd) : PV)] ++ n1, bs]).map pvL))) := al_add (b := [n8, nn, n8 ++ [p8], [((bw, wd) : PV)] ++ n1, bs]) (by rw [hl2]; show 7 + 5 ≤ 100000; decide)
  have hA : ∀ ps ∈ A2 ++ [n8, nn, n8 ++ [p8], [((bw, wd) : PV)] ++ n1, bs], PLn 100 ps := fun ps h => (List.mem_append.mp h).elim (hA12 ps) (hA3 ps)
  generalize A2 ++ [n8, nn, n8 ++ [p8], [((bw, wd) : PV)] ++ n1, bs] = AL at i3 hA
  refine ev_seq (ev_set (ev_bin (ev_var rfl (ev_list (ev_acons (ev_sl01 (ev_var rfl (ev_c ⟨_, _, _, rfl, rfl, s20, ev_acons (ev_var rfl (ev_acons (ev_bin (ev_sl01 (ev_var rfl (ev_c ⟨_, _, _, rfl, rfl, s20, ev_list (ev_acons (ev_bin (ev_var rfl (ev_bin (ev_arg (ev_acons (ev_var rfl (ev_anil ⟨_, _, rfl, rfl, ev_c ⟨_, _, _, rfl, rfl, hm8, _, _, _, rfl, rfl, hix20, ev_anil ⟨_, _, rfl, (by rw [sizeL]; simp), _, _, _, rfl, rfl, i1, ev_acons (ev_bin (ev_list (ev_acons (ev_tup (ev_acons (ev_var rfl (ev_acons (ev_var rfl (ev_anil ⟨[.str bw, wd], [some (.sh (.scr ns)), some (.own cl'), some (.sh (.int (n : Nat))), some (.sh (.int (f : Nat))), some (.sh (.int m0)), some (.sh (.str bw)), some (.sh wd), o7, some (.sh (.str fr)), some (.sh (.lst (bs.map pvD))), some (.own (.lst (ex.map pvD))), some (.sh (.lst (sp.map pvD))), o12.map Slot.sh, o13.map Slot.sh, some (.own (.lst (low.map pvD))), some (.own (.lst (A2.map pvL))), some (.own (.lst (nn.map pvD))), none, none, none, none, none, none, none], rfl, (by rw [sizeL]; simp), ev_anil ⟨[.tup [.str bw, wd]], [some (.sh (.scr ns)), some (.own cl'), some (.sh (.int (n : Nat))), some (.sh (.int (f : Nat))), some (.sh (.int m0)), some (.sh (.str bw)), some (.sh wd), o7, some (.sh (.str fr)), some (.sh (.lst (bs.map pvD))), some (.own (.lst (ex.map pvD))), some (.sh (.lst (sp.map pvD))), o12.map Slot.sh, o13.map Slot.sh, some (.own (.lst (low.map pvD))), some (.own (.lst (A2.map pvL))), some (.own (.lst (nn.map pvD))), none, none, none, none, none, none, none], rfl, (by rw [sizeL]; simp), ev_sl10 (ev_var rfl (ev_c ⟨_, _, _, rfl, rfl, t20, _, _, _, rfl, rfl, i2, ev_acons (ev_var rfl (ev_anil ⟨_, _, rfl, (by rw [sizeL]; simp), _, _, _, rfl, rfl, i3, [some (.sh (.scr ns)), some (.own cl'), some (.sh (.int (n : Nat))), some (.sh (.int (f : Nat))), some (.sh (.int m0)), some (.sh (.str bw)), some (.sh wd), o7, some (.sh (.str fr)), some (.sh (.lst (bs.map pvD))), some (.own (.lst (ex.map pvD))), some (.sh (.lst (sp.map pvD))), o12.map Slot.sh, o13.map Slot.sh, some (.own (.lst (low.map pvD))), some (.own (.lst (AL.map pvL))), some (.sh (.lst (nn.map pvD))), none, none, none, none, none, none, none], rfl, ?_⟩))⟩))⟩⟩)))))))))⟩⟩⟩))))))))⟩))))))⟩))))))))
  refine ev_cut (fun e => ∃ (o17 : Option D), e = [some (.sh (.scr ns)), some (.own cl'), some (.sh (.int (n : Nat))), some (.sh (.int (f : Nat))), some (.sh (.int m0)), some (.sh (.str bw)), some (.sh wd), o7, some (.sh (.str fr)), some (.sh (.lst (bs.map pvD))), some (.own (.lst (ex.map pvD))), some (.sh (.lst (sp.map pvD))), o12.map Slot.sh, o13.map Slot.sh, some (.own (.lst (low.map pvD))), some (.sh (.lst (AL.map pvL))), some (.sh (.lst (nn.map pvD))), o17.map Slot.sh, none, none, none, none, none, none] ∧ True) ?_ ?_
  · refine ev_for (ev_seqI (ev_var rfl ⟨_, [some (.sh (.scr ns)), some (.own cl'), some (.sh (.int (n : Nat))), some (.sh (.int (f : Nat))), some (.sh (.int m0)), some (.sh (.str bw)), some (.sh wd), o7, some (.sh (.str fr)), some (.sh (.lst (bs.map pvD))), some (.own (.lst (ex.map pvD))), some (.sh (.lst (sp.map pvD))), o12.map Slot.sh, o13.map Slot.sh, some (.own (.lst (low.map pvD))), some (.sh (.lst (AL.map pvL))), some (.sh (.lst (nn.map pvD))), none, none, none, none, none, none, none], _, rfl, rfl, ?_⟩))
    refine ev_loopE pvL (xs := AL) (fun done e => ∃ (o17 : Option D), e = [some (.sh (.scr ns)), some (.own cl'), some (.sh (.int (n : Nat))), some (.sh (.int (f : Nat))), some (.sh (.int m0)), some (.sh (.str bw)), some (.sh wd), o7, some (.sh (.str fr)), some (.sh (.lst (bs.map pvD))), some (.own (.lst (ex.map pvD))), some (.sh (.lst (sp.map pvD))), o12.map Slot.sh, o13.map Slot.sh, some (.own (.lst (low.map pvD))), some (.sh (.lst (AL.map pvL))), some (.sh (.lst (nn.map pvD))), o17.map Slot.sh, none, none, none, none, none, none] ∧ True) ?_ ?_ ?_
    · exact ⟨none, rfl, trivial⟩
    · rintro done ps rest e he ⟨o17, rfl, _⟩
      have hp := hA ps (by rw [he]; simp)
      have zt := k6 0 wd ps (by decide) hwd hp.1 (by have := hp.2; omega)
      have zd := k7 ps hp.1 (by have := hp.2; omega)
      have zs := err_same k8 k9 hp.1
      refine ⟨[some (.sh (.scr ns)), some (.own cl'), some (.sh (.int (n : Nat))), some (.sh (.int (f : Nat))), some (.sh (.int m0)), some (.sh (.str bw)), some (.sh wd), o7, some (.sh (.str fr)), some (.sh (.lst (bs.map pvD))), some (.own (.lst (ex.map pvD))), some (.sh (.lst (sp.map pvD))), o12.map Slot.sh, o13.map Slot.sh, some (.own (.lst (low.map pvD))), some (.sh (.lst (AL.map pvL))), some (.sh (.lst (nn.map pvD))), some (.sh (pvL ps)), none, none, none, none, none, none], by cases o17 <;> rfl, ?_⟩
      refine ev_if (ev_not (ev_callF e_law_same (ev_acons (ev_call e_law_told (ev_acons (ev_c (ev_acons (ev_var rfl (ev_acons (ev_var rfl (ev_anil ⟨_, _, _, _, rfl, zt, ev_acons (ev_call e_law_due (ev_acons (ev_var rfl (ev_anil ⟨_, _, _, _, rfl, zd, ev_anil ⟨_, _, rfl, rfl, _, rfl, _, _, zs, _, rfl, _, putN_nil _ 0, _, rfl, false, rfl, (fun h => nomatch h), (fun _ => ev_nil ?_)⟩⟩))))⟩)))))))))))
      exact ⟨some _, rfl, trivial⟩
    · rintro e ⟨o17, rfl, _⟩
      exact ⟨o17, rfl, trivial⟩
  rintro e ⟨o17, rfl, _⟩
  refine ev_seq (ev_set (ev_lcMapE D.str pvD (fun s : Str => ((s, .int 1) : PV)) (ev_seqI (ev_list (ev_acons (ev_c (ev_acons (ev_c (ev_acons (ev_c (ev_acons (ev_c (ev_acons (ev_c (ev_acons (ev_c (ev_acons (ev_c (ev_acons (ev_c (ev_anil ⟨[.str "store", .str "query", .str "teacher", .str "learner", .str "ring", .str "link", .str "piece", .str "cover"], [some (.sh (.scr ns)), some (.own cl'), some (.sh (.int (n : Nat))), some (.sh (.int (f : Nat))), some (.sh (.int m0)), some (.sh (.str bw)), some (.sh wd), o7, some (.sh (.str fr)), some (.sh (.lst (bs.map pvD))), some (.own (.lst (ex.map pvD))), some (.sh (.lst (sp.map pvD))), o12.map Slot.sh, o13.map Slot.sh, some (.own (.lst (low.map pvD))), some (.sh (.lst (AL.map pvL))), some (.sh (.lst (nn.map pvD))), o17.map Slot.sh, none, none, none, none, none, none], rfl, (by rw [sizeL]; simp), _, [some (.sh (.scr ns)), some (.own cl'), some (.sh (.int (n : Nat))), some (.sh (.int (f : Nat))), some (.sh (.int m0)), some (.sh (.str bw)), some (.sh wd), o7, some (.sh (.str fr)), some (.sh (.lst (bs.map pvD))), some (.own (.lst (ex.map pvD))), some (.sh (.lst (sp.map pvD))), o12.map Slot.sh, o13.map Slot.sh, some (.own (.lst (low.map pvD))), some (.sh (.lst (AL.map pvL))), some (.sh (.lst (nn.map pvD))), o17.map Slot.sh, none, none, none, none, none, none], _, rfl, rfl, rfl, [some (.sh (.scr ns)), some (.own cl'), some (.sh (.int (n : Nat))), some (.sh (.int (f : Nat))), some (.sh (.int m0)), some (.sh (.str bw)), some (.sh wd), o7, some (.sh (.str fr)), some (.sh (.lst (bs.map pvD))), some (.own (.lst (ex.map pvD))), some (.sh (.lst (sp.map pvD))), o12.map Slot.sh, o13.map Slot.sh, some (.own (.lst (low.map pvD))), some (.sh (.lst (AL.map pvL))), some (.sh (.lst (nn.map pvD))), o17.map Slot.sh, none, none, none, none, none, none], rfl, eightS, rfl, (by rw [sizeL]; decide), ?_, [some (.sh (.scr ns)), some (.own cl'), some (.sh (.int (n : Nat))), some (.sh (.int (f : Nat))), some (.sh (.int m0)), some (.sh (.str bw)), some (.sh wd), o7, some (.sh (.str fr)), some (.sh (.lst (bs.map pvD))), some (.own (.lst (ex.map pvD))), some (.sh (.lst (sp.map pvD))), o12.map Slot.sh, o13.map Slot.sh, some (.own (.lst (low.map pvD))), some (.sh (.lst (AL.map pvL))), some (.sh (.lst (nn.map pvD))), o17.map Slot.sh, none, none, none, none, none, none], rfl, [some (.sh (.scr ns)), some (.own cl'), some (.sh (.int (n : Nat))), some (.sh (.int (f : Nat))), some (.sh (.int m0)), some (.sh (.str bw)), some (.sh wd), o7, some (.sh (.str fr)), some (.sh (.lst (bs.map pvD))), some (.own (.lst (ex.map pvD))), some (.sh (.lst (sp.map pvD))), o12.map Slot.sh, o13.map Slot.sh, some (.own (.lst (low.map pvD))), some (.sh (.lst (AL.map pvL))), some (.sh (.lst (nn.map pvD))), o17.map Slot.sh, some (.own (.lst (eightP.map pvD))), none, none, none, none, none], rfl, ?_⟩)))))))))))))))))))))
  · intro s hs
    exact ⟨[some (.sh (.scr ns)), some (.own cl'), some (.sh (.int (n : Nat))), some (.sh (.int (f : Nat))), some (.sh (.int m0)), some (.sh (.str bw)), some (.sh wd), o7, some (.sh (.str fr)), some (.sh (.lst (bs.map pvD))), some (.own (.lst (ex.map pvD))), some (.sh (.lst (sp.map pvD))), o12.map Slot.sh, o13.map Slot.sh, some (.own (.lst (low.map pvD))), some (.sh (.lst (AL.map pvL))), some (.sh (.lst (nn.map pvD))), o17.map Slot.sh, none, none, none, none, none, some (.sh (.str s))], rfl, ev_tup (ev_acons (ev_var rfl (ev_acons (ev_c (ev_anil ⟨[.str s, .int 1], [some (.sh (.scr ns)), some (.own cl'), some (.sh (.int (n : Nat))), some (.sh (.int (f : Nat))), some (.sh (.int m0)), some (.sh (.str bw)), some (.sh wd), o7, some (.sh (.str fr)), some (.sh (.lst (bs.map pvD))), some (.own (.lst (ex.map pvD))), some (.sh (.lst (sp.map pvD))), o12.map Slot.sh, o13.map Slot.sh, some (.own (.lst (low.map pvD))), some (.sh (.lst (AL.map pvL))), some (.sh (.lst (nn.map pvD))), o17.map Slot.sh, none, none, none, none, none, some (.sh (.str s))], rfl, (by rw [sizeL]; simp), _, rfl, rfl⟩)))))⟩
  refine ev_seq (ev_set (ev_list (ev_acons (ev_list (ev_acons (ev_tup (ev_acons (ev_c (ev_acons (ev_c (ev_anil ⟨[.str "teacher", .int 2], [some (.sh (.scr ns)), some (.own cl'), some (.sh (.int (n : Nat))), some (.sh (.int (f : Nat))), some (.sh (.int m0)), some (.sh (.str bw)), some (.sh wd), o7, some (.sh (.str fr)), some (.sh (.lst (bs.map pvD))), some (.own (.lst (ex.map pvD))), some (.sh (.lst (sp.map pvD))), o12.map Slot.sh, o13.map Slot.sh, some (.own (.lst (low.map pvD))), some (.sh (.lst (AL.map pvL))), some (.sh (.lst (nn.map pvD))), o17.map Slot.sh, some (.own (.lst (eightP.map pvD))), none, none, none, none, none], rfl, (by rw [sizeL]; simp), ev_acons (ev_tup (ev_acons (ev_c (ev_acons (ev_var rfl (ev_anil ⟨[.str "store", wd], [some (.sh (.scr ns)), some (.own cl'), some (.sh (.int (n : Nat))), some (.sh (.int (f : Nat))), some (.sh (.int m0)), some (.sh (.str bw)), some (.sh wd), o7, some (.sh (.str fr)), some (.sh (.lst (bs.map pvD))), some (.own (.lst (ex.map pvD))), some (.sh (.lst (sp.map pvD))), o12.map Slot.sh, o13.map Slot.sh, some (.own (.lst (low.map pvD))), some (.sh (.lst (AL.map pvL))), some (.sh (.lst (nn.map pvD))), o17.map Slot.sh, some (.own (.lst (eightP.map pvD))), none, none, none, none, none], rfl, (by rw [sizeL]; simp), ev_acons (ev_tup (ev_acons (ev_c (ev_acons (ev_c (ev_anil ⟨[.str "cover", .int 0], [some (.sh (.scr ns)), some (.own cl'), some (.sh (.int (n : Nat))), some (.sh (.int (f : Nat))), some (.sh (.int m0)), some (.sh (.str bw)), some (.sh wd), o7, some (.sh (.str fr)), some (.sh (.lst (bs.map pvD))), some (.own (.lst (ex.map pvD))), some (.sh (.lst (sp.map pvD))), o12.map Slot.sh, o13.map Slot.sh, some (.own (.lst (low.map pvD))), some (.sh (.lst (AL.map pvL))), some (.sh (.lst (nn.map pvD))), o17.map Slot.sh, some (.own (.lst (eightP.map pvD))), none, none, none, none, none], rfl, (by rw [sizeL]; simp), ev_anil ⟨[.tup [.str "teacher", .int 2], .tup [.str "store", wd], .tup [.str "cover", .int 0]], [some (.sh (.scr ns)), some (.own cl'), some (.sh (.int (n : Nat))), some (.sh (.int (f : Nat))), some (.sh (.int m0)), some (.sh (.str bw)), some (.sh wd), o7, some (.sh (.str fr)), some (.sh (.lst (bs.map pvD))), some (.own (.lst (ex.map pvD))), some (.sh (.lst (sp.map pvD))), o12.map Slot.sh, o13.map Slot.sh, some (.own (.lst (low.map pvD))), some (.sh (.lst (AL.map pvL))), some (.sh (.lst (nn.map pvD))), o17.map Slot.sh, some (.own (.lst (eightP.map pvD))), none, none, none, none, none], rfl, (by rw [sizeL]; simp), ev_acons (ev_list (ev_acons (ev_tup (ev_acons (ev_c (ev_acons (ev_c (ev_anil ⟨[.str "store", .int 1], [some (.sh (.scr ns)), some (.own cl'), some (.sh (.int (n : Nat))), some (.sh (.int (f : Nat))), some (.sh (.int m0)), some (.sh (.str bw)), some (.sh wd), o7, some (.sh (.str fr)), some (.sh (.lst (bs.map pvD))), some (.own (.lst (ex.map pvD))), some (.sh (.lst (sp.map pvD))), o12.map Slot.sh, o13.map Slot.sh, some (.own (.lst (low.map pvD))), some (.sh (.lst (AL.map pvL))), some (.sh (.lst (nn.map pvD))), o17.map Slot.sh, some (.own (.lst (eightP.map pvD))), none, none, none, none, none], rfl, (by rw [sizeL]; simp), ev_acons (ev_tup (ev_acons (ev_c (ev_acons (ev_var rfl (ev_anil ⟨[.str "abcdefghijklmnopqrstu", wd], [some (.sh (.scr ns)), some (.own cl'), some (.sh (.int (n : Nat))), some (.sh (.int (f : Nat))), some (.sh (.int m0)), some (.sh (.str bw)), some (.sh wd), o7, some (.sh (.str fr)), some (.sh (.lst (bs.map pvD))), some (.own (.lst (ex.map pvD))), some (.sh (.lst (sp.map pvD))), o12.map Slot.sh, o13.map Slot.sh, some (.own (.lst (low.map pvD))), some (.sh (.lst (AL.map pvL))), some (.sh (.lst (nn.map pvD))), o17.map Slot.sh, some (.own (.lst (eightP.map pvD))), none, none, none, none, none], rfl, (by rw [sizeL]; simp), ev_anil ⟨[.tup [.str "store", .int 1], .tup [.str "abcdefghijklmnopqrstu", wd]], [some (.sh (.scr ns)), some (.own cl'), some (.sh (.int (n : Nat))), some (.sh (.int (f : Nat))), some (.sh (.int m0)), some (.sh (.str bw)), some (.sh wd), o7, some (.sh (.str fr)), some (.sh (.lst (bs.map pvD))), some (.own (.lst (ex.map pvD))), some (.sh (.lst (sp.map pvD))), o12.map Slot.sh, o13.map Slot.sh, some (.own (.lst (low.map pvD))), some (.sh (.lst (AL.map pvL))), some (.sh (.lst (nn.map pvD))), o17.map Slot.sh, some (.own (.lst (eightP.map pvD))), none, none, none, none, none], rfl, (by rw [sizeL]; simp), ev_anil ⟨[.lst [.tup [.str "teacher", .int 2], .tup [.str "store", wd], .tup [.str "cover", .int 0]], .lst [.tup [.str "store", .int 1], .tup [.str "abcdefghijklmnopqrstu", wd]]], [some (.sh (.scr ns)), some (.own cl'), some (.sh (.int (n : Nat))), some (.sh (.int (f : Nat))), some (.sh (.int m0)), some (.sh (.str bw)), some (.sh wd), o7, some (.sh (.str fr)), some (.sh (.lst (bs.map pvD))), some (.own (.lst (ex.map pvD))), some (.sh (.lst (sp.map pvD))), o12.map Slot.sh, o13.map Slot.sh, some (.own (.lst (low.map pvD))), some (.sh (.lst (AL.map pvL))), some (.sh (.lst (nn.map pvD))), o17.map Slot.sh, some (.own (.lst (eightP.map pvD))), none, none, none, none, none], rfl, (by rw [sizeL]; simp), [some (.sh (.scr ns)), some (.own cl'), some (.sh (.int (n : Nat))), some (.sh (.int (f : Nat))), some (.sh (.int m0)), some (.sh (.str bw)), some (.sh wd), o7, some (.sh (.str fr)), some (.sh (.lst (bs.map pvD))), some (.own (.lst (ex.map pvD))), some (.sh (.lst (sp.map pvD))), o12.map Slot.sh, o13.map Slot.sh, some (.own (.lst (low.map pvD))), some (.sh (.lst (AL.map pvL))), some (.sh (.lst (nn.map pvD))), o17.map Slot.sh, some (.own (.lst (eightP.map pvD))), some (.own (.lst ([kw1 wd, kw2 wd].map pvL))), none, none, none, none], rfl, ?_⟩⟩⟩))))))⟩))))))))⟩⟩))))))⟩))))))⟩)))))))))))
  have m1 : addD (.lst (eightP.map pvD)) (.lst [.tup [.str "double", wd]]) = some (.fr (.lst ((eightP ++ [dbl wd]).map pvD))) := pv_add eight_ok (PLn.one (dbl_ok hwd)) (by decide)
  have m2 : addD (.lst ([kw1 wd, kw2 wd].map pvL)) (.lst [.lst ((eightP ++ [dbl wd]).map pvD), .lst (eightP.map pvD)]) = some (.fr (.lst ((nmL wd).map pvL))) := al_add (a := [kw1 wd, kw2 wd]) (b := [eightP ++ [dbl wd], eightP]) (by show 2 + 2 ≤ 100000; decide)
  refine ev_seq (ev_set (ev_bin (ev_var rfl (ev_list (ev_acons (ev_bin (ev_var rfl (ev_list (ev_acons (ev_tup (ev_acons (ev_c (ev_acons (ev_var rfl (ev_anil ⟨[.str "double", wd], [some (.sh (.scr ns)), some (.own cl'), some (.sh (.int (n : Nat))), some (.sh (.int (f : Nat))), some (.sh (.int m0)), some (.sh (.str bw)), some (.sh wd), o7, some (.sh (.str fr)), some (.sh (.lst (bs.map pvD))), some (.own (.lst (ex.map pvD))), some (.sh (.lst (sp.map pvD))), o12.map Slot.sh, o13.map Slot.sh, some (.own (.lst (low.map pvD))), some (.sh (.lst (AL.map pvL))), some (.sh (.lst (nn.map pvD))), o17.map Slot.sh, some (.own (.lst (eightP.map pvD))), some (.own (.lst ([kw1 wd, kw2 wd].map pvL))), none, none, none, none], rfl, (by rw [sizeL]; simp), ev_anil ⟨[.tup [.str "double", wd]], [some (.sh (.scr ns)), some (.own cl'), some (.sh (.int (n : Nat))), some (.sh (.int (f : Nat))), some (.sh (.int m0)), some (.sh (.str bw)), some (.sh wd), o7, some (.sh (.str fr)), some (.sh (.lst (bs.map pvD))), some (.own (.lst (ex.map pvD))), some (.sh (.lst (sp.map pvD))), o12.map Slot.sh, o13.map Slot.sh, some (.own (.lst (low.map pvD))), some (.sh (.lst (AL.map pvL))), some (.sh (.lst (nn.map pvD))), o17.map Slot.sh, some (.own (.lst (eightP.map pvD))), some (.own (.lst ([kw1 wd, kw2 wd].map pvL))), none, none, none, none], rfl, (by rw [sizeL]; simp), _, _, _, rfl, rfl, m1, ev_acons (ev_var rfl (ev_anil ⟨_, _, rfl, (by rw [sizeL]; simp), _, _, _, rfl, rfl, m2, [some (.sh (.scr ns)), some (.own cl'), some (.sh (.int (n : Nat))), some (.sh (.int (f : Nat))), some (.sh (.int m0)), some (.sh (.str bw)), some (.sh wd), o7, some (.sh (.str fr)), some (.sh (.lst (bs.map pvD))), some (.own (.lst (ex.map pvD))), some (.sh (.lst (sp.map pvD))), o12.map Slot.sh, o13.map Slot.sh, some (.own (.lst (low.map pvD))), some (.sh (.lst (AL.map pvL))), some (.sh (.lst (nn.map pvD))), o17.map Slot.sh, some (.sh (.lst (eightP.map pvD))), some (.own (.lst ((nmL wd).map pvL))), none, none, none, none], rfl, ?_⟩))⟩⟩)))))))))))))))
  refine ev_cut (fun e => ∃ (o12 : Option D), e = [some (.sh (.scr ns)), some (.own cl'), some (.sh (.int (n : Nat))), some (.sh (.int (f : Nat))), some (.sh (.int m0)), some (.sh (.str bw)), some (.sh wd), o7, some (.sh (.str fr)), some (.sh (.lst (bs.map pvD))), some (.own (.lst (ex.map pvD))), some (.sh (.lst (sp.map pvD))), o12.map Slot.sh, o13.map Slot.sh, some (.own (.lst (low.map pvD))), some (.sh (.lst (AL.map pvL))), some (.sh (.lst (nn.map pvD))), o17.map Slot.sh, some (.sh (.lst (eightP.map pvD))), some (.own (.lst ((nmL wd).map pvL))), none, none, none, none] ∧ True) ?_ ?_
  · refine ev_for (ev_range1 (ev_acons (ev_c (ev_anil ⟨_, rfl, ⟨by omega, by omega⟩, ?_⟩))))
    refine ev_loop (fun done e => ∃ (o12 : Option D), e = [some (.sh (.scr ns)), some (.own cl'), some (.sh (.int (n : Nat))), some (.sh (.int (f : Nat))), some (.sh (.int m0)), some (.sh (.str bw)), some (.sh wd), o7, some (.sh (.str fr)), some (.sh (.lst (bs.map pvD))), some (.own (.lst (ex.map pvD))), some (.sh (.lst (sp.map pvD))), o12.map Slot.sh, o13.map Slot.sh, some (.own (.lst (low.map pvD))), some (.sh (.lst (AL.map pvL))), some (.sh (.lst (nn.map pvD))), o17.map Slot.sh, some (.sh (.lst (eightP.map pvD))), some (.own (.lst ((nmL wd).map pvL))), none, none, none, none] ∧ True) ?_ ?_ ?_
    · exact ⟨o12, rfl, trivial⟩
    · rintro done d rest e he ⟨o12, rfl, _⟩
      obtain ⟨k, hk, rfl⟩ : ∃ k : Nat, k < 4 ∧ d = .int (k : Nat) := by
        have hd : d ∈ done ++ d :: rest := by simp
        rw [← he] at hd
        obtain ⟨k, hk, rfl⟩ := List.mem_map.mp hd
        exact ⟨k, List.mem_range.mp hk, by simp⟩
      clear he
      obtain ⟨ps, hps, hp, heq⟩ := nm_eq hwd hk
      have hixk : ixD (.lst ((nmL wd).map pvL)) (.int (k : Nat)) = some (.sh (pvL ps)) := ixD_nat (by rw [List.getElem?_map, hps]; rfl)
      have zt := k6 (k + 1) wd ps (by omega) hwd hp.1 (by have := hp.2; omega)
      rw [heq] at zt
      have zd := k7 ps hp.1 (by have := hp.2; omega)
      have zs := err_same k8 k9 hp.1
      have ad1 : addD (.int 1) (.int (k : Nat)) = some (.sh (.int ((k + 1 : Nat) : Int))) := by
        show some (Val.sh (.int (1 + (k : Int)))) = _
        rw [show (1 + (k : Int)) = ((k + 1 : Nat) : Int) by omega]
      refine ⟨[some (.sh (.scr ns)), some (.own cl'), some (.sh (.int (n : Nat))), some (.sh (.int (f : Nat))), some (.sh (.int m0)), some (.sh (.str bw)), some (.sh wd), o7, some (.sh (.str fr)), some (.sh (.lst (bs.map pvD))), some (.own (.lst (ex.map pvD))), some (.sh (.lst (sp.map pvD))), some (.sh (.int (k : Nat))), o13.map Slot.sh, some (.own (.lst (low.map pvD))), some (.sh (.lst (AL.map pvL))), some (.sh (.lst (nn.map pvD))), o17.map Slot.sh, some (.sh (.lst (eightP.map pvD))), some (.own (.lst ((nmL wd).map pvL))), none, none, none, none], by cases o12 <;> rfl, ?_⟩
      refine ev_if (ev_not (ev_callF e_law_same (ev_acons (ev_call e_law_told (ev_acons (ev_bin (ev_c (ev_var rfl ⟨_, _, _, rfl, rfl, ad1, ev_acons (ev_bin (ev_var rfl (ev_var rfl ⟨_, _, _, rfl, rfl, hixk, ev_acons (ev_var rfl (ev_anil ⟨_, _, _, _, rfl, zt, ev_acons (ev_call e_law_due (ev_acons (ev_bin (ev_var rfl (ev_var rfl ⟨_, _, _, rfl, rfl, hixk, ev_anil ⟨_, _, _, _, rfl, zd, ev_anil ⟨_, _, rfl, rfl, _, rfl, _, _, zs, _, rfl, _, putN_nil _ 0, _, rfl, false, rfl, (fun h => nomatch h), (fun _ => ev_nil ?_)⟩⟩⟩)))))⟩))⟩)))⟩))))))))
      exact ⟨some _, rfl, trivial⟩
    · rintro e ⟨o12, rfl, _⟩
      exact ⟨o12, rfl, trivial⟩
  rintro e ⟨o12, rfl, _⟩
  refine ev_seq (ev_set (ev_schema h_S (ev_acons (ev_arg (ev_acons (ev_var rfl (ev_anil ⟨_, _, rfl, rfl, ev_anil ⟨ts, G, (by rw [hbs]), [some (.sh (.scr ns)), some (.own cl'), some (.sh (.int (n : Nat))), some (.sh (.int (f : Nat))), some (.sh (.int m0)), some (.sh (.str bw)), some (.sh wd), o7, some (.sh (.str fr)), some (.sh (.lst (bs.map pvD))), some (.own (.lst (ex.map pvD))), some (.sh (.lst (sp.map pvD))), o12.map Slot.sh, o13.map Slot.sh, some (.own (.lst (low.map pvD))), some (.sh (.lst (AL.map pvL))), some (.sh (.lst (nn.map pvD))), o17.map Slot.sh, some (.sh (.lst (eightP.map pvD))), some (.own (.lst ((nmL wd).map pvL))), some (.own (.ins "Schema" (schF ts))), none, none, none], rfl, ?_⟩⟩)))))))
  refine ev_cut (fun e => ∃ (o21 : Option D), e = [some (.sh (.scr ns)), some (.own cl'), some (.sh (.int (n : Nat))), some (.sh (.int (f : Nat))), some (.sh (.int m0)), some (.sh (.str bw)), some (.sh wd), o7, some (.sh (.str fr)), some (.sh (.lst (bs.map pvD))), some (.own (.lst (ex.map pvD))), some (.sh (.lst (sp.map pvD))), o12.map Slot.sh, o13.map Slot.sh, some (.own (.lst (low.map pvD))), some (.sh (.lst (AL.map pvL))), some (.sh (.lst (nn.map pvD))), o17.map Slot.sh, some (.sh (.lst (eightP.map pvD))), some (.own (.lst ((nmL wd).map pvL))), some (.own (.ins "Schema" (schF ts))), o21.map Slot.sh, none, none] ∧ True) ?_ ?_
  · refine ev_for (ev_seqI (ev_var rfl ⟨_, [some (.sh (.scr ns)), some (.own cl'), some (.sh (.int (n : Nat))), some (.sh (.int (f : Nat))), some (.sh (.int m0)), some (.sh (.str bw)), some (.sh wd), o7, some (.sh (.str fr)), some (.sh (.lst (bs.map pvD))), some (.own (.lst (ex.map pvD))), some (.sh (.lst (sp.map pvD))), o12.map Slot.sh, o13.map Slot.sh, some (.own (.lst (low.map pvD))), some (.sh (.lst (AL.map pvL))), some (.sh (.lst (nn.map pvD))), o17.map Slot.sh, some (.sh (.lst (eightP.map pvD))), some (.own (.lst ((nmL wd).map pvL))), some (.own (.ins "Schema" (schF ts))), none, none, none], _, rfl, rfl, ?_⟩))
    refine ev_loopE pvD (xs := bs) (fun done e => ∃ (o21 : Option D), e = [some (.sh (.scr ns)), some (.own cl'), some (.sh (.int (n : Nat))), some (.sh (.int (f : Nat))), some (.sh (.int m0)), some (.sh (.str bw)), some (.sh wd), o7, some (.sh (.str fr)), some (.sh (.lst (bs.map pvD))), some (.own (.lst (ex.map pvD))), some (.sh (.lst (sp.map pvD))), o12.map Slot.sh, o13.map Slot.sh, some (.own (.lst (low.map pvD))), some (.sh (.lst (AL.map pvL))), some (.sh (.lst (nn.map pvD))), o17.map Slot.sh, some (.sh (.lst (eightP.map pvD))), some (.own (.lst ((nmL wd).map pvL))), some (.own (.ins "Schema" (schF ts))), o21.map Slot.sh, none, none] ∧ True) ?_ ?_ ?_
    · exact ⟨none, rfl, trivial⟩
    · rintro done p rest e he ⟨o21, rfl, _⟩
      obtain ⟨t, ht, rfl⟩ := hbm p (by rw [he]; simp)
      have x0 := pv_ix0 (tbP t)
      have x1 := pv_ix1 (tbP t)
      have zg := k10 ts t G ht
      have zs := same_i t.2
      refine ⟨[some (.sh (.scr ns)), some (.own cl'), some (.sh (.int (n : Nat))), some (.sh (.int (f : Nat))), some (.sh (.int m0)), some (.sh (.str bw)), some (.sh wd), o7, some (.sh (.str fr)), some (.sh (.lst (bs.map pvD))), some (.own (.lst (ex.map pvD))), some (.sh (.lst (sp.map pvD))), o12.map Slot.sh, o13.map Slot.sh, some (.own (.lst (low.map pvD))), some (.sh (.lst (AL.map pvL))), some (.sh (.lst (nn.map pvD))), o17.map Slot.sh, some (.sh (.lst (eightP.map pvD))), some (.own (.lst ((nmL wd).map pvL))), some (.own (.ins "Schema" (schF ts))), some (.sh (pvD (tbP t))), none, none], by cases o21 <;> rfl, ?_⟩
      refine ev_if (ev_not (ev_callF e_law_same (ev_acons (ev_ixO (ev_var rfl (ev_bin (ev_var rfl (ev_c ⟨_, _, _, rfl, rfl, x0, _, ownG_var rfl rfl e_get, _, _, rfl, rfl, _, rfl, _, _, zg, _, rfl, [some (.sh (.scr ns)), some (.own cl'), some (.sh (.int (n : Nat))), some (.sh (.int (f : Nat))), some (.sh (.int m0)), some (.sh (.str bw)), some (.sh wd), o7, some (.sh (.str fr)), some (.sh (.lst (bs.map pvD))), some (.own (.lst (ex.map pvD))), some (.sh (.lst (sp.map pvD))), o12.map Slot.sh, o13.map Slot.sh, some (.own (.lst (low.map pvD))), some (.sh (.lst (AL.map pvL))), some (.sh (.lst (nn.map pvD))), o17.map Slot.sh, some (.sh (.lst (eightP.map pvD))), some (.own (.lst ((nmL wd).map pvL))), some (.own (.ins "Schema" (schF ts))), some (.sh (pvD (tbP t))), none, none], rfl, ev_acons (ev_bin (ev_var rfl (ev_c ⟨_, _, _, rfl, rfl, x1, ev_anil ⟨_, _, rfl, rfl, _, rfl, _, _, zs, _, rfl, _, putN_nil _ 0, _, rfl, false, rfl, (fun h => nomatch h), (fun _ => ev_nil ?_)⟩⟩)))⟩))))))))
      exact ⟨some _, rfl, trivial⟩
    · rintro e ⟨o21, rfl, _⟩
      exact ⟨o21, rfl, trivial⟩
  rintro e ⟨o21, rfl, _⟩
  obtain ⟨p10, hp10⟩ : ∃ p, ex[0]? = some p := ⟨_, List.getElem?_eq_getElem (by omega)⟩
  have y0 : ixD (.lst (ex.map pvD)) (.int 0) = some (.sh (pvD p10)) := ixD_nat (j := 0) (by rw [List.getElem?_map, hp10]; rfl)
  have y1 := pv_ix0 p10
  have pp10 : PvOk p10 := hX.1 p10 (List.mem_of_getElem? hp10)
  have hO1 : ∀ s ∈ ([fr, p10.1] : List Str), PyData.strOk s = true := by
    intro s h
    simp only [List.mem_cons, List.not_mem_nil, or_false] at h
    rcases h with rfl | rfl
    · exact isW_ok hwf
    · exact pp10.s
  have hO2 : ∀ s ∈ (bs.filter fun p : PV => decide (1 < p.1.length)).map fun p : PV => cutS p.1 none (some (-1)), PyData.strOk s = true := fun s h => by
    obtain ⟨p, hp, rfl⟩ := List.mem_map.mp h
    exact strOk_cut (hB.1 p (List.mem_filter.mp hp).1).s _ _
  have hol : ((bs.filter fun p : PV => decide (1 < p.1.length)).map fun p : PV => cutS p.1 none (some (-1))).length ≤ 8 := by
    rw [List.length_map]
    exact Nat.le_trans (List.length_filter_le _ _) hB.2
  have ja : addD (.lst [.str fr, .str p10.1]) (.lst (((bs.filter fun p : PV => decide (1 < p.1.length)).map fun p : PV => cutS p.1 none (some (-1))).map .str)) = some (.fr (.lst ((([fr, p10.1] : List Str) ++ (bs.filter fun p : PV => decide (1 < p.1.length)).map fun p : PV => cutS p.1 none (some (-1))).map .str))) := by
    refine (if_pos (by rw [List.length_map, sizeL]; show 2 + _ ≤ _; omega)).trans ?_
    rw [List.map_append]; rfl
  have hO : ∀ s ∈ ([fr, p10.1] : List Str) ++ (bs.filter fun p : PV => decide (1 < p.1.length)).map fun p : PV => cutS p.1 none (some (-1)), PyData.strOk s = true := fun s h => (List.mem_append.mp h).elim (hO1 s) (hO2 s)
  refine ev_cut (fun e => ∃ (o7 o20 : Option Slot) (o22 : Option D), e = [some (.sh (.scr ns)), some (.own cl'), some (.sh (.int (n : Nat))), some (.sh (.int (f : Nat))), some (.sh (.int m0)), some (.sh (.str bw)), some (.sh wd), o7, some (.sh (.str fr)), some (.sh (.lst (bs.map pvD))), some (.own (.lst (ex.map pvD))), some (.sh (.lst (sp.map pvD))), o12.map Slot.sh, o13.map Slot.sh, some (.own (.lst (low.map pvD))), some (.sh (.lst (AL.map pvL))), some (.sh (.lst (nn.map pvD))), o17.map Slot.sh, some (.sh (.lst (eightP.map pvD))), some (.own (.lst ((nmL wd).map pvL))), o20, o21.map Slot.sh, o22.map Slot.sh, none] ∧ True) ?_ ?_
  · refine ev_for (ev_seqI (ev_bin (ev_list (ev_acons (ev_var rfl (ev_acons (ev_bin (ev_bin (ev_var rfl (ev_c ⟨_, _, _, rfl, rfl, y0, ev_c ⟨_, _, _, rfl, rfl, y1, ev_anil ⟨_, _, rfl, (by rw [sizeL]; simp), ev_lcFilE pvD D.str (fun p : PV => decide (1 < p.1.length)) (fun p : PV => cutS p.1 none (some (-1))) (ev_seqI (ev_var rfl ⟨_, [some (.sh (.scr ns)), some (.own cl'), some (.sh (.int (n : Nat))), some (.sh (.int (f : Nat))), some (.sh (.int m0)), some (.sh (.str bw)), some (.sh wd), o7, some (.sh (.str fr)), some (.sh (.lst (bs.map pvD))), some (.own (.lst (ex.map pvD))), some (.sh (.lst (sp.map pvD))), o12.map Slot.sh, o13.map Slot.sh, some (.own (.lst (low.map pvD))), some (.sh (.lst (AL.map pvL))), some (.sh (.lst (nn.map pvD))), o17.map Slot.sh, some (.sh (.lst (eightP.map pvD))), some (.own (.lst ((nmL wd).map pvL))), some (.own (.ins "Schema" (schF ts))), o21.map Slot.sh, none, none], _, rfl, rfl, (by cases o21 <;> rfl), [some (.sh (.scr ns)), some (.own cl'), some (.sh (.int (n : Nat))), some (.sh (.int (f : Nat))), some (.sh (.int m0)), some (.sh (.str bw)), some (.sh wd), o7, some (.sh (.str fr)), some (.sh (.lst (bs.map pvD))), some (.own (.lst (ex.map pvD))), some (.sh (.lst (sp.map pvD))), o12.map Slot.sh, o13.map Slot.sh, some (.own (.lst (low.map pvD))), some (.sh (.lst (AL.map pvL))), some (.sh (.lst (nn.map pvD))), o17.map Slot.sh, some (.sh (.lst (eightP.map pvD))), some (.own (.lst ((nmL wd).map pvL))), some (.own (.ins "Schema" (schF ts))), none, none, none], (by cases o21 <;> rfl), bs, rfl, (by rw [sizeL]; have := hB.2; omega), ?_, [some (.sh (.scr ns)), some (.own cl'), some (.sh (.int (n : Nat))), some (.sh (.int (f : Nat))), some (.sh (.int m0)), some (.sh (.str bw)), some (.sh wd), o7, some (.sh (.str fr)), some (.sh (.lst (bs.map pvD))), some (.own (.lst (ex.map pvD))), some (.sh (.lst (sp.map pvD))), o12.map Slot.sh, o13.map Slot.sh, some (.own (.lst (low.map pvD))), some (.sh (.lst (AL.map pvL))), some (.sh (.lst (nn.map pvD))), o17.map Slot.sh, some (.sh (.lst (eightP.map pvD))), some (.own (.lst ((nmL wd).map pvL))), some (.own (.ins "Schema" (schF ts))), o21.map Slot.sh, none, none], (by cases o21 <;> rfl), _, _, _, rfl, rfl, ja, _, [some (.sh (.scr ns)), some (.own cl'), some (.sh (.int (n : Nat))), some (.sh (.int (f : Nat))), some (.sh (.int m0)), some (.sh (.str bw)), some (.sh wd), o7, some (.sh (.str fr)), some (.sh (.lst (bs.map pvD))), some (.own (.lst (ex.map pvD))), some (.sh (.lst (sp.map pvD))), o12.map Slot.sh, o13.map Slot.sh, some (.own (.lst (low.map pvD))), some (.sh (.lst (AL.map pvL))), some (.sh (.lst (nn.map pvD))), o17.map Slot.sh, some (.sh (.lst (eightP.map pvD))), some (.own (.lst ((nmL wd).map pvL))), some (.own (.ins "Schema" (schF ts))), o21.map Slot.sh, none, none], _, rfl, rfl, ?_⟩))⟩⟩⟩))))))))))
    · intro p hp
      have x0 := pv_ix0 p
      have pp := hB.1 p hp
      have hl1 : lenD [.str p.1] = some (.sh (.int (p.1.length : Nat))) := len_text (by have := pp.l; omega)
      have hgt := gt_nat p.1.length 1
      have hsl := sl_S pp.l none (some (-1))
      exact ⟨[some (.sh (.scr ns)), some (.own cl'), some (.sh (.int (n : Nat))), some (.sh (.int (f : Nat))), some (.sh (.int m0)), some (.sh (.str bw)), some (.sh wd), o7, some (.sh (.str fr)), some (.sh (.lst (bs.map pvD))), some (.own (.lst (ex.map pvD))), some (.sh (.lst (sp.map pvD))), o12.map Slot.sh, o13.map Slot.sh, some (.own (.lst (low.map pvD))), some (.sh (.lst (AL.map pvL))), some (.sh (.lst (nn.map pvD))), o17.map Slot.sh, some (.sh (.lst (eightP.map pvD))), some (.own (.lst ((nmL wd).map pvL))), some (.own (.ins "Schema" (schF ts))), some (.sh (pvD p)), none, none], rfl, ev_bin (ev_arg (ev_acons (ev_bin (ev_var rfl (ev_c ⟨_, _, _, rfl, rfl, x0, ev_anil ⟨_, _, rfl, hl1, ev_c ⟨_, _, _, rfl, rfl, hgt, rfl, rfl, fun hk => ev_sl01 (ev_bin (ev_var rfl (ev_c ⟨_, _, _, rfl, rfl, x0, ev_un (ev_c ⟨_, _, rfl, rfl, _, _, _, rfl, rfl, hsl, _, rfl, rfl⟩)⟩)))⟩⟩⟩)))))⟩
    generalize ([fr, p10.1] : List Str) ++ (bs.filter fun p : PV => decide (1 < p.1.length)).map (fun p : PV => cutS p.1 none (some (-1))) = os at hO
    refine ev_loopE D.str (xs := os) (fun done e => ∃ (o7 o20 : Option Slot) (o22 : Option D), e = [some (.sh (.scr ns)), some (.own cl'), some (.sh (.int (n : Nat))), some (.sh (.int (f : Nat))), some (.sh (.int m0)), some (.sh (.str bw)), some (.sh wd), o7, some (.sh (.str fr)), some (.sh (.lst (bs.map pvD))), some (.own (.lst (ex.map pvD))), some (.sh (.lst (sp.map pvD))), o12.map Slot.sh, o13.map Slot.sh, some (.own (.lst (low.map pvD))), some (.sh (.lst (AL.map pvL))), some (.sh (.lst (nn.map pvD))), o17.map Slot.sh, some (.sh (.lst (eightP.map pvD))), some (.own (.lst ((nmL wd).map pvL))), o20, o21.map Slot.sh, o22.map Slot.sh, none] ∧ (o7 = some (.own (.lst (nms.map .str))) ∨ o7 = some (.sh (.lst (nms.map .str)))) ∧ (o20 = some (.own (.ins "Schema" (schF ts))) ∨ o20 = some (.sh (schD ts)))) ?_ ?_ ?_
    · exact ⟨o7, _, none, rfl, h7, .inl rfl⟩
    · rintro done s rest e he ⟨o7, o20, o22, rfl, h7, h20⟩
      have hs := hO s (by rw [he]; simp)
      have hpl : ∀ d ∈ pre.map D.str, Pl 60 d := fun d hd => by
        obtain ⟨w, hw, rfl⟩ := List.mem_map.mp hd
        exact isW_ok (pw w hw)
      obtain ⟨kk, hk1, hk2⟩ := pl_ninL (n := 60) (d := .str s) (xs := pre.map .str) (by decide) hs hpl
      refine ⟨[some (.sh (.scr ns)), some (.own cl'), some (.sh (.int (n : Nat))), some (.sh (.int (f : Nat))), some (.sh (.int m0)), some (.sh (.str bw)), some (.sh wd), o7, some (.sh (.str fr)), some (.sh (.lst (bs.map pvD))), some (.own (.lst (ex.map pvD))), some (.sh (.lst (sp.map pvD))), o12.map Slot.sh, o13.map Slot.sh, some (.own (.lst (low.map pvD))), some (.sh (.lst (AL.map pvL))), some (.sh (.lst (nn.map pvD))), o17.map Slot.sh, some (.sh (.lst (eightP.map pvD))), some (.own (.lst ((nmL wd).map pvL))), o20, o21.map Slot.sh, some (.sh (.str s)), none], (by cases o22 <;> rfl), ?_⟩
      cases hkk : kk with
      | false =>
        subst hkk
        rcases h7 with rfl | rfl
        · exact ev_if (ev_and (ev_bin (ev_var rfl (ev_sl01 (ev_var rfl (ev_var rfl ⟨_, _, _, rfl, rfl, s9, _, _, _, rfl, rfl, hk1, false, rfl, (fun h => nomatch h), fun _ => ⟨false, rfl, (fun h => nomatch h), fun _ => ev_nil ⟨_, _, some _, rfl, .inl rfl, h20⟩⟩⟩))))))
        · exact ev_if (ev_and (ev_bin (ev_var rfl (ev_sl01 (ev_var rfl (ev_var rfl ⟨_, _, _, rfl, rfl, s9, _, _, _, rfl, rfl, hk1, false, rfl, (fun h => nomatch h), fun _ => ⟨false, rfl, (fun h => nomatch h), fun _ => ev_nil ⟨_, _, some _, rfl, .inr rfl, h20⟩⟩⟩))))))
      | true =>
        subst hkk
        have hni : s ∉ ts.map (·.1) := fun h => hk2.mp rfl (List.mem_map_of_mem (by rw [htn]; exact h))
        have zst := k11 ts s G hs hni
        rcases h7 with rfl | rfl <;> rcases h20 with rfl | rfl
        · exact ev_if (ev_and (ev_bin (ev_var rfl (ev_sl01 (ev_var rfl (ev_var rfl ⟨_, _, _, rfl, rfl, s9, _, _, _, rfl, rfl, hk1, true, rfl, (fun _ => ev_not (ev_call e_law_strange (ev_acons (ev_var rfl (ev_acons (ev_var rfl (ev_anil ⟨_, _, _, _, rfl, zst, true, rfl, false, rfl, (fun h => nomatch h), fun _ => ev_nil ⟨_, _, some _, rfl, .inl rfl, .inr rfl⟩⟩))))))), fun h => nomatch h⟩))))))
        · exact ev_if (ev_and (ev_bin (ev_var rfl (ev_sl01 (ev_var rfl (ev_var rfl ⟨_, _, _, rfl, rfl, s9, _, _, _, rfl, rfl, hk1, true, rfl, (fun _ => ev_not (ev_call e_law_strange (ev_acons (ev_var rfl (ev_acons (ev_var rfl (ev_anil ⟨_, _, _, _, rfl, zst, true, rfl, false, rfl, (fun h => nomatch h), fun _ => ev_nil ⟨_, _, some _, rfl, .inl rfl, .inr rfl⟩⟩))))))), fun h => nomatch h⟩))))))
        · exact ev_if (ev_and (ev_bin (ev_var rfl (ev_sl01 (ev_var rfl (ev_var rfl ⟨_, _, _, rfl, rfl, s9, _, _, _, rfl, rfl, hk1, true, rfl, (fun _ => ev_not (ev_call e_law_strange (ev_acons (ev_var rfl (ev_acons (ev_var rfl (ev_anil ⟨_, _, _, _, rfl, zst, true, rfl, false, rfl, (fun h => nomatch h), fun _ => ev_nil ⟨_, _, some _, rfl, .inr rfl, .inr rfl⟩⟩))))))), fun h => nomatch h⟩))))))
        · exact ev_if (ev_and (ev_bin (ev_var rfl (ev_sl01 (ev_var rfl (ev_var rfl ⟨_, _, _, rfl, rfl, s9, _, _, _, rfl, rfl, hk1, true, rfl, (fun _ => ev_not (ev_call e_law_strange (ev_acons (ev_var rfl (ev_acons (ev_var rfl (ev_anil ⟨_, _, _, _, rfl, zst, true, rfl, false, rfl, (fun h => nomatch h), fun _ => ev_nil ⟨_, _, some _, rfl, .inr rfl, .inr rfl⟩⟩))))))), fun h => nomatch h⟩))))))
    · rintro e ⟨o7, o20, o22, rfl, _, _⟩
      exact ⟨o7, o20, o22, rfl, trivial⟩
  rintro e ⟨o7, o20, o22, rfl, _⟩
  have z8 := same_i 8
  have z4 := same_i 4
  refine ev_ret (ev_and (ev_callF e_law_same (ev_acons (ev_c (ev_acons (ev_c (ev_anil ⟨_, _, rfl, rfl, _, rfl, _, _, z8, _, rfl, _, putN_nil _ 0, true, rfl, (fun _ => ?_), fun h => nomatch h⟩)))))))
  exact ev_callF e_law_same (ev_acons (ev_c (ev_acons (ev_c (ev_anil ⟨_, _, rfl, rfl, _, rfl, _, _, z4, _, rfl, _, putN_nil _ 0, _, _, rfl, _, rfl, rfl⟩)))))
theorem draw_ok (c : CT) : DrawOk (runDef 5 2 b_law_draw c) := by
  rintro cl n ⟨s, rfl, hp, hns⟩ hn
  refine (?_ : ∃ r, runDef 5 2 b_law_draw c [.brw s.cell, .sh (.int n)] = some r ∧ ∃ (k : Int) (cl' : Cell), r = .ret (.sh (.int k)) [some cl', none] ∧ Good cl' ∧ 0 ≤ k ∧ (k < n ∨ k = 0)).elim fun r ⟨h1, k, cl', h2, h3⟩ => ⟨k, cl', by rw [h1, h2], h3⟩
  unfold LS.cell
  refine ev_run rfl (by walk_at "nE") ?_
  unfold b_law_draw
  refine ev_cut (fun e => 2 ≤ n ∧ e = [some (.brw (.lst [.lst (s.ns.map .int), .int s.pos, .int s.c2, .int s.c3, .int s.c4])), some (.sh (.int n)), none, none, none]) ?_ ?_
  · walk_at "go"
    · exact ⟨good_mk hp hns, by omega, by omega⟩
    · exact ⟨by assumption, rfl⟩
  rintro e ⟨hn2, rfl⟩
  refine ev_cut (fun e => ∃ a x y z o, 0 ≤ a ∧ e = [some (.brw (.lst [.lst (s.ns.map .int), .int a, .int x, .int y, .int z])), some (.sh (.int n)), o, none, none]) ?_ ?_
  · walk_at "go"
    · exact ⟨good_mk hp hns, by omega, by omega⟩
    · refine ⟨_, _, _, rfl, rfl, ixD_ints hp (by assumption), ?_⟩
      walk_at "go"
      all_goals exact ⟨_, _, _, _, _, by omega, rfl⟩
    · exact ⟨_, _, _, _, _, hp, rfl⟩
  · rintro e ⟨a, x, y, z, o, ha, rfl⟩
    walk_at "go"
    all_goals exact ⟨good_mk ha hns, Int.emod_nonneg _ (by omega), .inl (Int.emod_lt_of_pos _ (by omega))⟩
theorem start_ok (c : CT) : StartOk (runDef 2 1 b_law_start c) := by
  intro ns hns
  refine (?_ : ∃ r, runDef 2 1 b_law_start c [.sh (.scr ns)] = some r ∧ ∃ cl, r = .ret (.fr cl) [none] ∧ Good cl).elim fun r ⟨h1, cl, h2, h3⟩ => ⟨cl, by rw [h1, h2], h3⟩
  refine ev_run rfl (by walk_at "nE") ?_
  unfold b_law_start
  walk_at "go"
  obtain ⟨e', hj, h1⟩ := lcL_filter (g := gNm 1) (t := eYes c) (f := eArg intD (aCons (eVar 1) aNil) c) (vs := [1]) (fun e => e = [some (Slot.sh (D.scr ns)), none]) (fun _ => true) id (ns.map .int) [some (Slot.sh (D.scr ns)), none] [] rfl
    (by simp; rw [sizeL]; omega) (by
      rintro d hd e rfl
      obtain ⟨i, _, rfl⟩ := List.mem_map.mp hd
      exact ⟨_, _, _, _, _, rfl, rfl, rfl, fun _ => ⟨rfl, rfl, rfl⟩⟩)
  subst hj
  rw [List.nil_append, List.filter_eq_self.mpr (fun _ _ => rfl), List.map_id] at h1
  refine ⟨_, _, h1, _, rfl, ?_⟩
  walk_at "go"
  exact good_mk (by omega) hns
end Pd.L
namespace Pd.L
open PySem PySem.Spec L2
structure Tx (K : PySem.W.Frag) (mg : Str → Option Value) : Prop where
  n_ValueError : mg "ValueError" = none
  n_bool : mg "bool" = none
  n_int : mg "int" = none
  n_isinstance : mg "isinstance" = none
  n_iter : mg "iter" = none
  n_len : mg "len" = none
  n_list : mg "list" = none
  n_range : mg "range" = none
  n_str : mg "str" = none
  n_tuple : mg "tuple" = none
  g__law_bad_width : mg "_law_bad_width" = some (.ref (He.fAd K ("_law_bad_width", none)))
  k__law_bad_width : PySem.W.keepIn K (.ref (He.fAd K ("_law_bad_width", none))) = true
  g__law_bad_word : mg "_law_bad_word" = some (.ref (He.fAd K ("_law_bad_word", none)))
  k__law_bad_word : PySem.W.keepIn K (.ref (He.fAd K ("_law_bad_word", none))) = true
  g__law_draw : mg "_law_draw" = some (.ref (He.fAd K ("_law_draw", none)))
  k__law_draw : PySem.W.keepIn K (.ref (He.fAd K ("_law_draw", none))) = true
  g__law_due : mg "_law_due" = some (.ref (He.fAd K ("_law_due", none)))
  k__law_due : PySem.W.keepIn K (.ref (He.fAd K ("_law_due", none))) = true
  g__law_is_int : mg "_law_is_int" = some (.ref (He.fAd K ("_law_is_int", none)))
  k__law_is_int : PySem.W.keepIn K (.ref (He.fAd K ("_law_is_int", none))) = true
  g__law_is_word : mg "_law_is_word" = some (.ref (He.fAd K ("_law_is_word", none)))
  k__law_is_word : PySem.W.keepIn K (.ref (He.fAd K ("_law_is_word", none))) = true
  g__law_made : mg "_law_made" = some (.ref (He.fAd K ("_law_made", none)))
  k__law_made : PySem.W.keepIn K (.ref (He.fAd K ("_law_made", none))) = true
  g__law_pool : mg "_law_pool" = some (.ref (He.fAd K ("_law_pool", none)))
  k__law_pool : PySem.W.keepIn K (.ref (He.fAd K ("_law_pool", none))) = true
  g__law_same : mg "_law_same" = some (.ref (He.fAd K ("_law_same", none)))
  k__law_same : PySem.W.keepIn K (.ref (He.fAd K ("_law_same", none))) = true
  g__law_spoilt : mg "_law_spoilt" = some (.ref (He.fAd K ("_law_spoilt", none)))
  k__law_spoilt : PySem.W.keepIn K (.ref (He.fAd K ("_law_spoilt", none))) = true
  g__law_start : mg "_law_start" = some (.ref (He.fAd K ("_law_start", none)))
  k__law_start : PySem.W.keepIn K (.ref (He.fAd K ("_law_start", none))) = true
  g__law_strange : mg "_law_strange" = some (.ref (He.fAd K ("_law_strange", none)))
  k__law_strange : PySem.W.keepIn K (.ref (He.fAd K ("_law_strange", none))) = true
  g__law_told : mg "_law_told" = some (.ref (He.fAd K ("_law_told", none)))
  k__law_told : PySem.W.keepIn K (.ref (He.fAd K ("_law_told", none))) = true
  g__law_word : mg "_law_word" = some (.ref (He.fAd K ("_law_word", none)))
  k__law_word : PySem.W.keepIn K (.ref (He.fAd K ("_law_word", none))) = true
  g_ascending : mg "ascending" = some (.ref (He.fAd K ("ascending", none)))
  k_ascending : PySem.W.keepIn K (.ref (He.fAd K ("ascending", none))) = true
  g_is_integer : mg "is_integer" = some (.ref (He.fAd K ("is_integer", none)))
  k_is_integer : PySem.W.keepIn K (.ref (He.fAd K ("is_integer", none))) = true
  g_is_word : mg "is_word" = some (.ref (He.fAd K ("is_word", none)))
  k_is_word : PySem.W.keepIn K (.ref (He.fAd K ("is_word", none))) = true
  g_merged : mg "merged" = some (.ref (He.fAd K ("merged", none)))
  k_merged : PySem.W.keepIn K (.ref (He.fAd K ("merged", none))) = true
  g_schema_of : mg "schema_of" = some (.ref (He.fAd K ("schema_of", none)))
  k_schema_of : PySem.W.keepIn K (.ref (He.fAd K ("schema_of", none))) = true
  c_MAX_WORD : ∃ t, mg "MAX_WORD" = some (.int (20) t)
  c_WORD_CHARACTERS : ∃ t, mg "WORD_CHARACTERS" = some (.str "ABCDEFGHIJKLMNOPQRSTUVWXYZabcdefghijklmnopqrstuvwxyz0123456789_" t)
  gc_Schema : mg "Schema" = some (.ref (He.ga K "Schema"))
  mk_Schema : Mk K (He.ga K "Schema") (He.fAd K ("Schema", some "__init__"))
  fi_Schema : PySem.W.fnIn K (He.fAd K ("Schema", some "__init__")) = true
  cn_Schema_MAX_TABLES : ConK K "Schema" "MAX_TABLES" 8
  cn_Schema_MAX_WIDTH : ConK K "Schema" "MAX_WIDTH" 4
  kn : Kn K cl fl
  gx_BadWidth : mg "BadWidth" = some (.ref (He.ga K "BadWidth"))
  gx_BadWord : mg "BadWord" = some (.ref (He.ga K "BadWord"))
  gx_DuplicateTable : mg "DuplicateTable" = some (.ref (He.ga K "DuplicateTable"))
  gx_InputError : mg "InputError" = some (.ref (He.ga K "InputError"))
  gx_PinError : mg "PinError" = some (.ref (He.ga K "PinError"))
  gx_TooLarge : mg "TooLarge" = some (.ref (He.ga K "TooLarge"))
  gx_UnknownTable : mg "UnknownTable" = some (.ref (He.ga K "UnknownTable"))
  xw : Xw K xt asked xf
structure Xs (P : Program) (w : World) (K : PySem.W.Frag) (mg : Str → Option Value) (base : Heap) : Prop where
  x_BadWidth : MkX P w K mg base "BadWidth" "table"
  x_BadWord : MkX P w K mg base "BadWord" "word"
  x_DuplicateTable : MkX P w K mg base "DuplicateTable" "table"
  x_TooLarge : MkX P w K mg base "TooLarge" "most"
  x_UnknownTable : MkX P w K mg base "UnknownTable" "table"
theorem hu1 {k : Nat} {A : Around} (hr : Room k A) : A.units + 1 < cLine := by have := hr.un; omega
theorem uH {k : Nat} {A : Around} (hr : L2H.RoomH k A) : A.units + 64 < cLine := by have := hr.un; omega
theorem hu65 {k : Nat} {A : Around} (hr : Room k A) : A.units + 65 < cLine := by have := hr.un; omega
section
variable {P : Program} {w : World} {K : PySem.W.Frag} {mg : Str → Option Value} {base : Heap} {f : Addr} {cdv : Value} {A : Around} {outer : List PySem.Env} {s : Shared} {H : Hp} {E : XK} {c : CT} {k : Nat}
abbrev N_merged : List Str := ["first", "second", "result", "place", "item"]
theorem sc_merged : FnScope N_merged ["first", "second"] (defScope s_merged) := ⟨rfl, rfl, rfl, by decide +kernel, rfl, by decide +kernel, by decide +kernel⟩
theorem d_merged (T : Tx K mg) (Xn : Xs P w K mg base) (Th : TowerH P w K mg base 2 hc) (Fn : Fns (cxOf (CX P w) P w K mg base N_merged "merged" (defScope s_merged) f cdv A outer s H E) K c) (hr : Room (k + 5) (A.deeper (PyProof.Rows.envOfC "merged" (defScope s_merged) s.heap.objs.size f cdv)))  :
    PSs (cxOf (CX P w) P w K mg base N_merged "merged" (defScope s_merged) f cdv A outer s H E) (defBody s_merged) (rdS K c (fun cls d _ H' => E cls d H') b_merged) :=
  have nd := sc_merged.nd
  have tk : Takes (cxOf (CX P w) P w K mg base N_merged "merged" (defScope s_merged) f cdv A outer s H E) (fun cls d _ H' => E cls d H') := L2N.takes_of rfl rfl rfl rfl
  (s_cons (s_set (i := 2) nd (p_list a_nil)) (s_cons (s_set (i := 3) nd p_int) (s_cons (s_for (passes_of rfl) rfl (i_seq (p_var 0)) (g_nm (i := 4) nd) (s_cons (s_while (passes_of rfl) (PW.pt (t_and (t_cmp (o_ltX hr.units0) b_ltX (p_var 3) (p_callB c_len b_len rfl T.n_len boot_len (a_cons (p_var 1) a_nil)) (nomark _)) (t_and1 (t_cmp (o_ltX hr.units0) b_ltX (p_ix (ix_all (hu1 hr)) b_ix (p_var 1) (p_var 3) (fun _ _ => rfl)) (p_var 4) (nomark _))))) (s_cons (s_expr (p_append (i := 2) (a_cons (p_ix (ix_all (hu1 hr)) b_ix (p_var 1) (p_var 3) (fun _ _ => rfl)) a_nil))) (s_one (s_set (i := 3) nd (p_bin o_add b_add (p_var 3) p_int))))) (s_one (s_expr (p_append (i := 2) (a_cons (p_var 4) a_nil)))))) (s_one (s_ret (p_bin o_add b_add (p_var 2) (p_slice sl_all b_sl (p_var 1) (.one (p_var 3)) .nil)))))))
abbrev N_ascending : List Str := ["things", "runs", "joined", "result", "run", "thing", "at"]
theorem sc_ascending : FnScope N_ascending ["things"] (defScope s_ascending) := ⟨rfl, rfl, rfl, by decide +kernel, rfl, by decide +kernel, by decide +kernel⟩
theorem d_ascending (T : Tx K mg) (Xn : Xs P w K mg base) (Th : TowerH P w K mg base 2 hc) (Fn : Fns (cxOf (CX P w) P w K mg base N_ascending "ascending" (defScope s_ascending) f cdv A outer s H E) K c) (hr : Room (k + 5) (A.deeper (PyProof.Rows.envOfC "ascending" (defScope s_ascending) s.heap.objs.size f cdv))) (h_merged : (c ("merged", none)).isSome = true) :
    PSs (cxOf (CX P w) P w K mg base N_ascending "ascending" (defScope s_ascending) f cdv A outer s H E) (defBody s_ascending) (rdS K c (fun cls d _ H' => E cls d H') b_ascending) :=
  have nd := sc_ascending.nd
  have tk : Takes (cxOf (CX P w) P w K mg base N_ascending "ascending" (defScope s_ascending) f cdv A outer s H E) (fun cls d _ H' => E cls d H') := L2N.takes_of rfl rfl rfl rfl
  (s_cons (s_set (i := 1) nd (p_lcN (own := [("thing", 5)]) (i0 := 0) rfl nd (by show blkC N_ascending (defScope s_ascending) _ _ = true; decide +kernel) (fun _ _ _ _ _ => (g_nm (i := 5) nd)) (fun _ _ _ _ _ => ts_nil) (fun _ _ _ _ _ => (p_list (a_cons (p_var 5) a_nil))))) (s_cons (s_while (passes_of rfl) (t_cmp o_gt b_gt (p_callB c_len b_len rfl T.n_len boot_len (a_cons (p_var 1) a_nil)) p_int (nomark _)) (s_cons (s_setLc (i := 2) (own := [("at", 6)]) rfl nd (i_range3 rfl T.n_range (a_cons p_int (a_cons (p_bin op_sub b_sub (p_callB c_len b_len rfl T.n_len boot_len (a_cons (p_var 1) a_nil)) p_int) (a_cons p_int a_nil)))) (by show blkC N_ascending (defScope s_ascending) _ _ = true; decide +kernel) (fun _ _ _ _ _ => (g_nm (i := 6) nd)) (fun _ _ _ _ _ => ts_nil) (fun _ _ _ _ _ => (p_call (Fn.blk _ _ _ _ _) h_merged T.g_merged T.k_merged takesSu (a_cons (p_ix (ix_all (hu1 hr)) b_ix (p_var 1) (p_var 6) (fun _ _ => rfl)) (a_cons (p_ix (ix_all (hu1 hr)) b_ix (p_var 1) (p_bin o_add b_add (p_var 6) p_int) (fun _ _ => rfl)) a_nil))))) (s_cons (s_if (t_cmp (o_eqX hr.units) b_eqX (p_bin op_mod b_mod (p_callB c_len b_len rfl T.n_len boot_len (a_cons (p_var 1) a_nil)) p_int) p_int (nomark _)) (s_one (s_expr (p_append (i := 2) (a_cons (p_ix (ix_all (hu1 hr)) b_ix (p_var 1) (p_un un_neg b_neg p_int) (fun _ _ => rfl)) a_nil)))) s_nil) (s_one (s_set (i := 1) nd (p_var 2)))))) (s_cons (s_set (i := 3) nd (p_list a_nil)) (s_cons (s_for (passes_of rfl) rfl (i_seq (p_var 1)) (g_nm (i := 4) nd) (s_one (s_for (passes_of rfl) rfl (i_seq (p_var 4)) (g_nm (i := 5) nd) (s_one (s_if (PW.pt (t_or (t_cmp (o_eqX hr.units) b_eqX (p_callB c_len b_len rfl T.n_len boot_len (a_cons (p_var 3) a_nil)) p_int (nomark _)) (t_or1 (t_cmp (o_neX hr.units) b_neX (p_ix (ix_all (hu1 hr)) b_ix (p_var 3) (p_un un_neg b_neg p_int) (fun _ _ => rfl)) (p_var 5) (nomark _))))) (s_one (s_expr (p_append (i := 3) (a_cons (p_var 5) a_nil)))) s_nil))))) (s_one (s_ret (p_var 3)))))))
abbrev N_is_integer : List Str := ["value", "least", "most"]
theorem sc_is_integer : FnScope N_is_integer ["value", "least", "most"] (defScope s_is_integer) := ⟨rfl, rfl, rfl, by decide +kernel, rfl, by decide +kernel, by decide +kernel⟩
theorem d_is_integer (T : Tx K mg) (Xn : Xs P w K mg base) (Th : TowerH P w K mg base 2 hc) (Fn : Fns (cxOf (CX P w) P w K mg base N_is_integer "is_integer" (defScope s_is_integer) f cdv A outer s H E) K c) (hr : Room (k + 5) (A.deeper (PyProof.Rows.envOfC "is_integer" (defScope s_is_integer) s.heap.objs.size f cdv)))  :
    PSs (cxOf (CX P w) P w K mg base N_is_integer "is_integer" (defScope s_is_integer) f cdv A outer s H E) (defBody s_is_integer) (rdS K c (fun cls d _ H' => E cls d H') b_is_integer) :=
  have nd := sc_is_integer.nd
  have tk : Takes (cxOf (CX P w) P w K mg base N_is_integer "is_integer" (defScope s_is_integer) f cdv A outer s H E) (fun cls d _ H' => E cls d H') := L2N.takes_of rfl rfl rfl rfl
  (s_one (s_ret (p_and (p_isB (n := "int") T.n_isinstance (p_var 0) T.n_int) (p_and (p_not (p_isB (n := "bool") T.n_isinstance (p_var 0) T.n_bool)) (p_one (p_chain o_le b_le o_le b_le (p_var 1) (p_var 0) (p_var 2)))))))
abbrev N_is_word : List Str := ["text", "char"]
theorem sc_is_word : FnScope N_is_word ["text"] (defScope s_is_word) := ⟨rfl, rfl, rfl, by decide +kernel, rfl, by decide +kernel, by decide +kernel⟩
theorem d_is_word (T : Tx K mg) (Xn : Xs P w K mg base) (Th : TowerH P w K mg base 2 hc) (Fn : Fns (cxOf (CX P w) P w K mg base N_is_word "is_word" (defScope s_is_word) f cdv A outer s H E) K c) (hr : Room (k + 5) (A.deeper (PyProof.Rows.envOfC "is_word" (defScope s_is_word) s.heap.objs.size f cdv)))  :
    PSs (cxOf (CX P w) P w K mg base N_is_word "is_word" (defScope s_is_word) f cdv A outer s H E) (defBody s_is_word) (rdS K c (fun cls d _ H' => E cls d H') b_is_word) :=
  have nd := sc_is_word.nd
  have tk : Takes (cxOf (CX P w) P w K mg base N_is_word "is_word" (defScope s_is_word) f cdv A outer s H E) (fun cls d _ H' => E cls d H') := L2N.takes_of rfl rfl rfl rfl
  (s_cons (s_if (t_not (t_chain o_le b_le o_le b_le p_int (p_callB c_len b_len rfl T.n_len boot_len (a_cons (p_var 0) a_nil)) (p_gint rfl T.c_MAX_WORD))) (s_one (s_ret p_bl)) s_nil) (s_cons (s_for (passes_of rfl) rfl (i_seq (p_var 0)) (g_nm (i := 1) nd) (s_one (s_if (t_cmp (o_ninX (hu65 hr)) b_ninX (p_var 1) (p_gstr rfl T.c_WORD_CHARACTERS) (by rfl)) (s_one (s_ret p_bl)) s_nil))) (s_one (s_ret p_bl))))
abbrev N_Schema_init : List Str := ["self", "tables", "known", "name", "width"]
theorem sc_Schema_init : FnScope N_Schema_init ["self", "tables"] (defScope s_Schema_init) := ⟨rfl, rfl, rfl, by decide +kernel, rfl, by decide +kernel, by decide +kernel⟩
theorem d_Schema_init (T : Tx K mg) (Xn : Xs P w K mg base) (Th : TowerH P w K mg base 2 hc) (Fn : Fns (cxOf (CX P w) P w K mg base N_Schema_init "Schema.__init__" (defScope s_Schema_init) f cdv A outer s H E) K c) (hr : Room (k + 5) (A.deeper (PyProof.Rows.envOfC "Schema.__init__" (defScope s_Schema_init) s.heap.objs.size f cdv))) (h_is_word : (c ("is_word", none)).isSome = true) (h_is_integer : (c ("is_integer", none)).isSome = true) (h_ascending : (c ("ascending", none)).isSome = true) :
    PSs (cxOf (CX P w) P w K mg base N_Schema_init "Schema.__init__" (defScope s_Schema_init) f cdv A outer s H E) (defBody s_Schema_init) (rdS K c (fun cls d _ H' => E cls d H') b_Schema_init) :=
  have nd := sc_Schema_init.nd
  have tk : Takes (cxOf (CX P w) P w K mg base N_Schema_init "Schema.__init__" (defScope s_Schema_init) f cdv A outer s H E) (fun cls d _ H' => E cls d H') := L2N.takes_of rfl rfl rfl rfl
  (s_cons (s_if (t_cmp o_gt b_gt (p_callB c_len b_len rfl T.n_len boot_len (a_cons (p_var 1) a_nil)) (p_conI T.gc_Schema T.cn_Schema_MAX_TABLES) (nomark _)) (s_one (s_raiseF Xn.x_TooLarge (hr.mono (by omega)) tk (p_conI T.gc_Schema T.cn_Schema_MAX_TABLES))) s_nil) (s_cons (s_set (i := 2) nd p_dic) (s_cons (s_forN (i0 := 1) (passes_of rfl) rfl (g_tp rfl (gs_cons (g_nm (i := 3) nd) (gs_cons (g_nm (i := 4) nd) gs_nil))) (s_cons (s_if (t_not (t_val (p_call Fn h_is_word T.g_is_word T.k_is_word tk (a_cons (p_var 3) a_nil)))) (s_one (s_raiseF Xn.x_BadWord (hr.mono (by omega)) tk (p_var 3))) s_nil) (s_cons (s_if (t_not (t_val (p_call Fn h_is_integer T.g_is_integer T.k_is_integer tk (a_cons (p_var 4) (a_cons p_int (a_cons (p_conI T.gc_Schema T.cn_Schema_MAX_WIDTH) a_nil)))))) (s_one (s_raiseF Xn.x_BadWidth (hr.mono (by omega)) tk (p_var 3))) s_nil) (s_cons (s_if (t_cmp (o_inX (hu65 hr)) b_inX (p_var 3) (p_var 2) (by rfl)) (s_one (s_raiseF Xn.x_DuplicateTable (hr.mono (by omega)) tk (p_var 3))) s_nil) (s_one (s_put (i := 2) (hu1 hr) (p_var 4) (p_var 3))))))) (s_cons (s_fld (i := 0) (T.kn.fldOk (by decide)) (p_callTy call_tuple_of b_tuple rfl T.n_tuple (by decide +kernel) (a_cons (p_callF (fl := [true]) Fn h_ascending T.g_ascending T.k_ascending tk (a_cons (p_callTy (c_listX rfl) b_listX rfl T.n_list (by decide +kernel) (a_cons (p_var 2) a_nil)) a_nil)) a_nil))) (s_one (s_fld (i := 0) (T.kn.fldOk (by decide)) (p_var 2)))))))
abbrev N_Schema_getitem : List Str := ["self", "name"]
theorem sc_Schema_getitem : FnScope N_Schema_getitem ["self", "name"] (defScope s_Schema_getitem) := ⟨rfl, rfl, rfl, by decide +kernel, rfl, by decide +kernel, by decide +kernel⟩
theorem d_Schema_getitem (T : Tx K mg) (Xn : Xs P w K mg base) (Th : TowerH P w K mg base 2 hc) (Fn : Fns (cxOf (CX P w) P w K mg base N_Schema_getitem "Schema.__getitem__" (defScope s_Schema_getitem) f cdv A outer s H E) K c) (hr : Room (k + 5) (A.deeper (PyProof.Rows.envOfC "Schema.__getitem__" (defScope s_Schema_getitem) s.heap.objs.size f cdv)))  :
    PSs (cxOf (CX P w) P w K mg base N_Schema_getitem "Schema.__getitem__" (defScope s_Schema_getitem) f cdv A outer s H E) (defBody s_Schema_getitem) (rdS K c (fun cls d _ H' => E cls d H') b_Schema_getitem) :=
  have nd := sc_Schema_getitem.nd
  have tk : Takes (cxOf (CX P w) P w K mg base N_Schema_getitem "Schema.__getitem__" (defScope s_Schema_getitem) f cdv A outer s H E) (fun cls d _ H' => E cls d H') := L2N.takes_of rfl rfl rfl rfl
  (s_cons (s_if (t_cmp (o_ninX (hu65 hr)) b_ninX (p_var 1) (p_fld (T.kn.fldOk (by decide)) (p_var 0)) (by rfl)) (s_one (s_raiseF Xn.x_UnknownTable (hr.mono (by omega)) tk (p_var 1))) s_nil) (s_one (s_ret (p_ix (ix_all (hu1 hr)) b_ix (p_fld (T.kn.fldOk (by decide)) (p_var 0)) (p_var 1) (fun _ _ => rfl)))))
abbrev N_schema_of : List Str := ["widths", "name"]
theorem sc_schema_of : FnScope N_schema_of ["widths"] (defScope s_schema_of) := ⟨rfl, rfl, rfl, by decide +kernel, rfl, by decide +kernel, by decide +kernel⟩
theorem d_schema_of (T : Tx K mg) (Xn : Xs P w K mg base) (Th : TowerH P w K mg base 2 hc) (Fn : Fns (cxOf (CX P w) P w K mg base N_schema_of "schema_of" (defScope s_schema_of) f cdv A outer s H E) K c) (hr : Room (k + 5) (A.deeper (PyProof.Rows.envOfC "schema_of" (defScope s_schema_of) s.heap.objs.size f cdv))) (h_Schema_init : (c ("Schema", some "__init__")).isSome = true) :
    PSs (cxOf (CX P w) P w K mg base N_schema_of "schema_of" (defScope s_schema_of) f cdv A outer s H E) (defBody s_schema_of) (rdS K c (fun cls d _ H' => E cls d H') b_schema_of) :=
  have nd := sc_schema_of.nd
  have tk : Takes (cxOf (CX P w) P w K mg base N_schema_of "schema_of" (defScope s_schema_of) f cdv A outer s H E) (fun cls d _ H' => E cls d H') := L2N.takes_of rfl rfl rfl rfl
  (s_one (s_ret (p_make Fn h_Schema_init T.fi_Schema T.mk_Schema T.gc_Schema tk (a_cons (p_lc (own := [("name", 1)]) rfl nd (i_dk (p_var 0)) (by show blkC N_schema_of (defScope s_schema_of) _ _ = true; decide +kernel) (fun _ _ _ _ _ => (g_nm (i := 1) nd)) (fun _ _ _ _ _ => ts_nil) (fun _ _ _ _ _ => (p_tup (a_cons (p_var 1) (a_cons (p_ix (ix_all (hu1 hr)) b_ix (p_dk (p_var 0)) (p_var 1) (fun _ _ => rfl)) a_nil))))) a_nil))))
abbrev N_law_start : List Str := ["_law_script", "_law_cell"]
theorem sc_law_start : FnScope N_law_start ["_law_script"] (defScope s_law_start) := ⟨rfl, rfl, rfl, by decide +kernel, rfl, by decide +kernel, by decide +kernel⟩
theorem d_law_start (T : Tx K mg) (Xn : Xs P w K mg base) (Th : TowerH P w K mg base 2 hc) (Fn : Fns (cxOf (CX P w) P w K mg base N_law_start "_law_start" (defScope s_law_start) f cdv A outer s H E) K c) (hr : Room (k + 5) (A.deeper (PyProof.Rows.envOfC "_law_start" (defScope s_law_start) s.heap.objs.size f cdv)))  :
    PSs (cxOf (CX P w) P w K mg base N_law_start "_law_start" (defScope s_law_start) f cdv A outer s H E) (defBody s_law_start) (rdS K c (fun cls d _ H' => E cls d H') b_law_start) :=
  have nd := sc_law_start.nd
  have tk : Takes (cxOf (CX P w) P w K mg base N_law_start "_law_start" (defScope s_law_start) f cdv A outer s H E) (fun cls d _ H' => E cls d H') := L2N.takes_of rfl rfl rfl rfl
  (s_one (s_ret (p_list (a_cons (p_lc (own := [("_law_cell", 1)]) rfl nd (i_seq (p_var 0)) (by show blkC N_law_start (defScope s_law_start) _ _ = true; decide +kernel) (fun _ _ _ _ _ => (g_nm (i := 1) nd)) (fun _ _ _ _ _ => ts_nil) (fun _ _ _ _ _ => (p_callTy call_int1 b_int rfl T.n_int (by decide +kernel) (a_cons (p_var 1) a_nil)))) (a_cons p_int (a_cons p_int (a_cons p_int (a_cons p_int a_nil))))))))
abbrev N_law_draw : List Str := ["_law_state", "_law_limit", "_law_cell", "_law_number", "_law_mixed"]
theorem sc_law_draw : FnScope N_law_draw ["_law_state", "_law_limit"] (defScope s_law_draw) := ⟨rfl, rfl, rfl, by decide +kernel, rfl, by decide +kernel, by decide +kernel⟩
theorem d_law_draw (T : Tx K mg) (Xn : Xs P w K mg base) (Th : TowerH P w K mg base 2 hc) (Fn : Fns (cxOf (CX P w) P w K mg base N_law_draw "_law_draw" (defScope s_law_draw) f cdv A outer s H E) K c) (hr : Room (k + 5) (A.deeper (PyProof.Rows.envOfC "_law_draw" (defScope s_law_draw) s.heap.objs.size f cdv)))  :
    PSs (cxOf (CX P w) P w K mg base N_law_draw "_law_draw" (defScope s_law_draw) f cdv A outer s H E) (defBody s_law_draw) (rdS K c (fun cls d _ H' => E cls d H') b_law_draw) :=
  have nd := sc_law_draw.nd
  have tk : Takes (cxOf (CX P w) P w K mg base N_law_draw "_law_draw" (defScope s_law_draw) f cdv A outer s H E) (fun cls d _ H' => E cls d H') := L2N.takes_of rfl rfl rfl rfl
  (s_cons (s_if (t_cmp (o_ltX hr.units0) b_ltX (p_var 1) p_int (nomark _)) (s_one (s_ret p_int)) s_nil) (s_cons (s_if (t_cmp (o_eqX hr.units) b_eqX (p_ix (ix_all (hu1 hr)) b_ix (p_var 0) p_int (fun _ _ => rfl)) p_int (nomark _)) (s_cons (s_if (t_cmp o_ge b_ge (p_ix (ix_all (hu1 hr)) b_ix (p_var 0) p_int (fun _ _ => rfl)) (p_callB c_len b_len rfl T.n_len boot_len (a_cons (p_ix (ix_all (hu1 hr)) b_ix (p_var 0) p_int (fun _ _ => rfl)) a_nil)) (nomark _)) (s_one (s_ret p_int)) s_nil) (s_cons (s_set (i := 2) nd (p_callTy call_int1 b_int rfl T.n_int (by decide +kernel) (a_cons (p_ix (ix_all (hu1 hr)) b_ix (p_ix (ix_all (hu1 hr)) b_ix (p_var 0) p_int (fun _ _ => rfl)) (p_ix (ix_all (hu1 hr)) b_ix (p_var 0) p_int (fun _ _ => rfl)) (fun _ _ => rfl)) a_nil))) (s_cons (s_if (t_cmp (o_ltX hr.units0) b_ltX (p_var 2) p_int (nomark _)) (s_one (s_set (i := 2) nd (p_bin op_sub b_sub p_int (p_var 2)))) s_nil) (s_cons (s_put (i := 0) (hu1 hr) (p_bin o_add b_add (p_ix (ix_all (hu1 hr)) b_ix (p_var 0) p_int (fun _ _ => rfl)) p_int) p_int) (s_cons (s_put (i := 0) (hu1 hr) (p_var 2) p_int) (s_cons (s_put (i := 0) (hu1 hr) p_int p_int) (s_cons (s_put (i := 0) (hu1 hr) p_int p_int) (s_one (s_if (t_cmp o_ge b_ge (p_var 2) (p_bin op_pow b_pow p_int p_int) (nomark _)) (s_cons (s_put (i := 0) (hu1 hr) p_int p_int) (s_one (s_put (i := 0) (hu1 hr) p_int p_int))) s_nil))))))))) s_nil) (s_cons (s_put (i := 0) (hu1 hr) (p_bin op_sub b_sub (p_ix (ix_all (hu1 hr)) b_ix (p_var 0) p_int (fun _ _ => rfl)) p_int) p_int) (s_cons (s_if (t_cmp (o_eqX hr.units) b_eqX (p_ix (ix_all (hu1 hr)) b_ix (p_var 0) p_int (fun _ _ => rfl)) p_int (nomark _)) (s_cons (s_set (i := 3) nd (p_bin op_mod b_mod (p_callTy call_int1 b_int rfl T.n_int (by decide +kernel) (a_cons (p_ix (ix_all (hu1 hr)) b_ix (p_var 0) p_int (fun _ _ => rfl)) a_nil)) (p_var 1))) (s_cons (s_put (i := 0) (hu1 hr) (p_bin op_fdiv b_fdiv (p_callTy call_int1 b_int rfl T.n_int (by decide +kernel) (a_cons (p_ix (ix_all (hu1 hr)) b_ix (p_var 0) p_int (fun _ _ => rfl)) a_nil)) (p_var 1)) p_int) (s_cons (s_if (t_cmp (o_eqX hr.units) b_eqX (p_ix (ix_all (hu1 hr)) b_ix (p_var 0) p_int (fun _ _ => rfl)) p_int (nomark _)) (s_one (s_put (i := 0) (hu1 hr) p_int p_int)) s_nil) (s_one (s_ret (p_var 3)))))) s_nil) (s_cons (s_set (i := 4) nd (p_bin op_mod b_mod (p_callTy call_int1 b_int rfl T.n_int (by decide +kernel) (a_cons (p_bin o_add b_add (p_bin o_add b_add (p_bin op_mul b_mul (p_ix (ix_all (hu1 hr)) b_ix (p_var 0) p_int (fun _ _ => rfl)) p_int) (p_bin op_mul b_mul (p_ix (ix_all (hu1 hr)) b_ix (p_var 0) p_int (fun _ _ => rfl)) p_int)) p_int) a_nil)) p_int)) (s_one (s_ret (p_bin op_mod b_mod (p_callTy call_int1 b_int rfl T.n_int (by decide +kernel) (a_cons (p_bin op_mod b_mod (p_callTy call_int1 b_int rfl T.n_int (by decide +kernel) (a_cons (p_bin o_add b_add (p_bin o_add b_add (p_bin op_mul b_mul (p_var 4) p_int) (p_bin op_mul b_mul (p_ix (ix_all (hu1 hr)) b_ix (p_var 0) p_int (fun _ _ => rfl)) p_int)) p_int) a_nil)) p_int) a_nil)) (p_var 1)))))))))
abbrev N_law_is_int : List Str := ["_law_x"]
theorem sc_law_is_int : FnScope N_law_is_int ["_law_x"] (defScope s_law_is_int) := ⟨rfl, rfl, rfl, by decide +kernel, rfl, by decide +kernel, by decide +kernel⟩
theorem d_law_is_int (T : Tx K mg) (Xn : Xs P w K mg base) (Th : TowerH P w K mg base 2 hc) (Fn : Fns (cxOf (CX P w) P w K mg base N_law_is_int "_law_is_int" (defScope s_law_is_int) f cdv A outer s H E) K c) (hr : Room (k + 5) (A.deeper (PyProof.Rows.envOfC "_law_is_int" (defScope s_law_is_int) s.heap.objs.size f cdv)))  :
    PSs (cxOf (CX P w) P w K mg base N_law_is_int "_law_is_int" (defScope s_law_is_int) f cdv A outer s H E) (defBody s_law_is_int) (rdS K c (fun cls d _ H' => E cls d H') b_law_is_int) :=
  have nd := sc_law_is_int.nd
  have tk : Takes (cxOf (CX P w) P w K mg base N_law_is_int "_law_is_int" (defScope s_law_is_int) f cdv A outer s H E) (fun cls d _ H' => E cls d H') := L2N.takes_of rfl rfl rfl rfl
  (s_one (s_ret (p_and (p_isB (n := "int") T.n_isinstance (p_var 0) T.n_int) (p_one (p_not (p_isB (n := "bool") T.n_isinstance (p_var 0) T.n_bool))))))
abbrev N_law_same : List Str := ["_law_a", "_law_b", "_law_k"]
theorem sc_law_same : FnScope N_law_same ["_law_a", "_law_b"] (defScope s_law_same) := ⟨rfl, rfl, rfl, by decide +kernel, rfl, by decide +kernel, by decide +kernel⟩
theorem d_law_same (T : Tx K mg) (Xn : Xs P w K mg base) (Th : TowerH P w K mg base 2 hc) (Fn : Fns (cxOf (CX P w) P w K mg base N_law_same "_law_same" (defScope s_law_same) f cdv A outer s H E) K c) (hr : Room (k + 5) (A.deeper (PyProof.Rows.envOfC "_law_same" (defScope s_law_same) s.heap.objs.size f cdv))) (h_law_same : (c ("_law_same", none)).isSome = true) :
    PSs (cxOf (CX P w) P w K mg base N_law_same "_law_same" (defScope s_law_same) f cdv A outer s H E) (defBody s_law_same) (rdS K c (fun cls d _ H' => E cls d H') b_law_same) :=
  have nd := sc_law_same.nd
  have tk : Takes (cxOf (CX P w) P w K mg base N_law_same "_law_same" (defScope s_law_same) f cdv A outer s H E) (fun cls d _ H' => E cls d H') := L2N.takes_of rfl rfl rfl rfl
  (s_cons (s_if (PW.pt (t_or (t_val (p_isB (n := "bool") T.n_isinstance (p_var 0) T.n_bool)) (t_or1 (t_val (p_isB (n := "bool") T.n_isinstance (p_var 1) T.n_bool))))) (s_one (s_ret (p_and (p_isB (n := "bool") T.n_isinstance (p_var 0) T.n_bool) (p_and (p_isB (n := "bool") T.n_isinstance (p_var 1) T.n_bool) (p_one (p_cmp (o_eqX hr.units) b_eqX (p_var 0) (p_var 1) (nomark _))))))) s_nil) (s_cons (s_if (PW.pt (t_or (t_val (p_isB (n := "int") T.n_isinstance (p_var 0) T.n_int)) (t_or1 (t_val (p_isB (n := "int") T.n_isinstance (p_var 1) T.n_int))))) (s_one (s_ret (p_and (p_isB (n := "int") T.n_isinstance (p_var 0) T.n_int) (p_and (p_isB (n := "int") T.n_isinstance (p_var 1) T.n_int) (p_one (p_cmp (o_eqX hr.units) b_eqX (p_var 0) (p_var 1) (nomark _))))))) s_nil) (s_cons (s_if (PW.pt (t_or (t_val (p_isB (n := "str") T.n_isinstance (p_var 0) T.n_str)) (t_or1 (t_val (p_isB (n := "str") T.n_isinstance (p_var 1) T.n_str))))) (s_one (s_ret (p_and (p_isB (n := "str") T.n_isinstance (p_var 0) T.n_str) (p_and (p_isB (n := "str") T.n_isinstance (p_var 1) T.n_str) (p_one (p_cmp (o_eqX hr.units) b_eqX (p_var 0) (p_var 1) (nomark _))))))) s_nil) (s_cons (s_if (PW.pt (t_or (t_cmp op_isN b_isN (p_var 0) p_non (nomark _)) (t_or1 (t_cmp op_isN b_isN (p_var 1) p_non (nomark _))))) (s_one (s_ret (p_and (p_cmp op_isN b_isN (p_var 0) p_non (nomark _)) (p_one (p_cmp op_isN b_isN (p_var 1) p_non (nomark _)))))) s_nil) (s_cons (s_if (PW.pt (t_or (t_cmp (o_neX hr.units) b_neX (p_isB (n := "tuple") T.n_isinstance (p_var 0) T.n_tuple) (p_isB (n := "tuple") T.n_isinstance (p_var 1) T.n_tuple) (nomark _)) (t_or1 (t_cmp (o_neX hr.units) b_neX (p_isB (n := "list") T.n_isinstance (p_var 0) T.n_list) (p_isB (n := "list") T.n_isinstance (p_var 1) T.n_list) (nomark _))))) (s_one (s_ret p_bl)) s_nil) (s_cons (s_if (PW.pt (t_or (t_not (t_val (p_isT (ns := [.ty "list", .ty "tuple"]) T.kn (by decide) T.n_isinstance (p_var 0) (p_names2 (pe_bltn (v := .ty "list") rfl T.n_list (by decide +kernel) rfl) (pe_bltn (v := .ty "tuple") rfl T.n_tuple (by decide +kernel) rfl))))) (t_or1 (t_cmp (o_neX hr.units) b_neX (p_callB c_len b_len rfl T.n_len boot_len (a_cons (p_var 0) a_nil)) (p_callB c_len b_len rfl T.n_len boot_len (a_cons (p_var 1) a_nil)) (nomark _))))) (s_one (s_ret p_bl)) s_nil) (s_cons (s_for (passes_of rfl) rfl (i_range1 rfl T.n_range (a_cons (p_callB c_len b_len rfl T.n_len boot_len (a_cons (p_var 1) a_nil)) a_nil)) (g_nm (i := 2) nd) (s_one (s_if (t_not (t_val (p_callF (fl := [true, true]) Fn h_law_same T.g__law_same T.k__law_same tk (a_cons (p_ix (ix_all (hu1 hr)) b_ix (p_var 0) (p_var 2) (fun _ _ => rfl)) (a_cons (p_ix (ix_all (hu1 hr)) b_ix (p_var 1) (p_var 2) (fun _ _ => rfl)) a_nil))))) (s_one (s_ret p_bl)) s_nil))) (s_one (s_ret p_bl)))))))))
abbrev N_law_word : List Str := ["_law_state", "_law_signs", "_law_size", "_law_k"]
theorem sc_law_word : FnScope N_law_word ["_law_state"] (defScope s_law_word) := ⟨rfl, rfl, rfl, by decide +kernel, rfl, by decide +kernel, by decide +kernel⟩
theorem d_law_word (T : Tx K mg) (Xn : Xs P w K mg base) (Th : TowerH P w K mg base 2 hc) (Fn : Fns (cxOf (CX P w) P w K mg base N_law_word "_law_word" (defScope s_law_word) f cdv A outer s H E) K c) (hr : Room (k + 5) (A.deeper (PyProof.Rows.envOfC "_law_word" (defScope s_law_word) s.heap.objs.size f cdv))) (h_law_draw : (c ("_law_draw", none)).isSome = true) :
    PSs (cxOf (CX P w) P w K mg base N_law_word "_law_word" (defScope s_law_word) f cdv A outer s H E) (defBody s_law_word) (rdS K c (fun cls d _ H' => E cls d H') b_law_word) :=
  have nd := sc_law_word.nd
  have tk : Takes (cxOf (CX P w) P w K mg base N_law_word "_law_word" (defScope s_law_word) f cdv A outer s H E) (fun cls d _ H' => E cls d H') := L2N.takes_of rfl rfl rfl rfl
  (s_cons (s_set (i := 1) nd p_str) (s_cons (s_set (i := 2) nd (p_bin o_add b_add p_int (p_callBo Fn h_law_draw T.g__law_draw T.k__law_draw tk (a_cons (p_var 0) (a_cons p_int a_nil))))) (s_cons (s_if (t_cmp (o_eqX hr.units) b_eqX (p_callBo Fn h_law_draw T.g__law_draw T.k__law_draw tk (a_cons (p_var 0) (a_cons p_int a_nil))) p_int (nomark _)) (s_one (s_set (i := 2) nd (p_bin o_add b_add p_int (p_callBo Fn h_law_draw T.g__law_draw T.k__law_draw tk (a_cons (p_var 0) (a_cons p_int a_nil)))))) s_nil) (s_one (s_ret (p_join p_str (p_lc (own := [("_law_k", 3)]) rfl nd (i_range1 rfl T.n_range (a_cons (p_var 2) a_nil)) (by show blkC N_law_word (defScope s_law_word) _ _ = true; decide +kernel) (fun _ _ _ _ _ => (g_nm (i := 3) nd)) (fun _ _ _ _ _ => ts_nil) (fun _ _ _ _ _ => (p_ix (ix_all (hu1 hr)) b_ix (p_var 1) (p_callBo (Fn.blk _ _ _ _ _) h_law_draw T.g__law_draw T.k__law_draw takesSu (a_cons (p_var 0) (a_cons p_int a_nil))) (fun _ _ => rfl))))))))))
abbrev N_law_pool : List Str := ["_law_state", "_law_count", "_law_pool_here", "_law_k", "_law_plain", "_law_back", "_law_word_here", "_law_mark"]
theorem sc_law_pool : FnScope N_law_pool ["_law_state", "_law_count"] (defScope s_law_pool) := ⟨rfl, rfl, rfl, by decide +kernel, rfl, by decide +kernel, by decide +kernel⟩
theorem d_law_pool (T : Tx K mg) (Xn : Xs P w K mg base) (Th : TowerH P w K mg base 2 hc) (Fn : Fns (cxOf (CX P w) P w K mg base N_law_pool "_law_pool" (defScope s_law_pool) f cdv A outer s H E) K c) (hr : Room (k + 5) (A.deeper (PyProof.Rows.envOfC "_law_pool" (defScope s_law_pool) s.heap.objs.size f cdv))) (h_law_word : (c ("_law_word", none)).isSome = true) (h_law_draw : (c ("_law_draw", none)).isSome = true) :
    PSs (cxOf (CX P w) P w K mg base N_law_pool "_law_pool" (defScope s_law_pool) f cdv A outer s H E) (defBody s_law_pool) (rdS K c (fun cls d _ H' => E cls d H') b_law_pool) :=
  have nd := sc_law_pool.nd
  have tk : Takes (cxOf (CX P w) P w K mg base N_law_pool "_law_pool" (defScope s_law_pool) f cdv A outer s H E) (fun cls d _ H' => E cls d H') := L2N.takes_of rfl rfl rfl rfl
  (s_cons (s_set (i := 2) nd (p_list a_nil)) (s_cons (s_for (passes_of rfl) rfl (i_range1 rfl T.n_range (a_cons (p_var 1) a_nil)) (g_nm (i := 3) nd) (s_cons (s_set (i := 4) nd (p_callBo Fn h_law_word T.g__law_word T.k__law_word tk (a_cons (p_var 0) a_nil))) (s_cons (s_set (i := 5) nd (p_callBo Fn h_law_draw T.g__law_draw T.k__law_draw tk (a_cons (p_var 0) (a_cons p_int a_nil)))) (s_cons (s_set (i := 6) nd (p_var 4)) (s_cons (s_for (passes_of rfl) rfl (i_seq p_str) (g_nm (i := 7) nd) (s_one (s_if (t_cmp (o_inX (hu65 hr)) b_inX (p_var 6) (p_var 2) (by rfl)) (s_cons (s_set (i := 6) nd (p_bin o_add b_add (p_var 7) (p_slice sl_all b_sl (p_var 4) .nil (.one p_int)))) (s_one (s_if (t_cmp (o_eqX hr.units) b_eqX (p_var 5) p_int (nomark _)) (s_one (s_set (i := 6) nd (p_bin o_add b_add (p_slice sl_all b_sl (p_var 4) .nil (.one p_int)) (p_var 7)))) s_nil))) s_nil))) (s_one (s_expr (p_append (i := 2) (a_cons (p_var 6) a_nil))))))))) (s_one (s_ret (p_var 2)))))
abbrev N_law_bad_word : List Str := ["_law_state", "_law_others", "_law_kind", "_law_plain", "_law_place"]
theorem sc_law_bad_word : FnScope N_law_bad_word ["_law_state"] (defScope s_law_bad_word) := ⟨rfl, rfl, rfl, by decide +kernel, rfl, by decide +kernel, by decide +kernel⟩
theorem d_law_bad_word (T : Tx K mg) (Xn : Xs P w K mg base) (Th : TowerH P w K mg base 2 hc) (Fn : Fns (cxOf (CX P w) P w K mg base N_law_bad_word "_law_bad_word" (defScope s_law_bad_word) f cdv A outer s H E) K c) (hr : Room (k + 5) (A.deeper (PyProof.Rows.envOfC "_law_bad_word" (defScope s_law_bad_word) s.heap.objs.size f cdv))) (h_law_draw : (c ("_law_draw", none)).isSome = true) (h_law_word : (c ("_law_word", none)).isSome = true) :
    PSs (cxOf (CX P w) P w K mg base N_law_bad_word "_law_bad_word" (defScope s_law_bad_word) f cdv A outer s H E) (defBody s_law_bad_word) (rdS K c (fun cls d _ H' => E cls d H') b_law_bad_word) :=
  have nd := sc_law_bad_word.nd
  have tk : Takes (cxOf (CX P w) P w K mg base N_law_bad_word "_law_bad_word" (defScope s_law_bad_word) f cdv A outer s H E) (fun cls d _ H' => E cls d H') := L2N.takes_of rfl rfl rfl rfl
  (s_cons (s_set (i := 1) nd p_str) (s_cons (s_set (i := 2) nd (p_callBo Fn h_law_draw T.g__law_draw T.k__law_draw tk (a_cons (p_var 0) (a_cons p_int a_nil)))) (s_cons (s_set (i := 3) nd (p_callBo Fn h_law_word T.g__law_word T.k__law_word tk (a_cons (p_var 0) a_nil))) (s_cons (s_if (t_cmp (o_eqX hr.units) b_eqX (p_var 2) p_int (nomark _)) (s_one (s_ret p_str)) s_nil) (s_cons (s_if (t_cmp (o_eqX hr.units) b_eqX (p_var 2) p_int (nomark _)) (s_one (s_ret (p_slice sl_all b_sl (p_bin o_add b_add (p_var 3) p_str) .nil (.one p_int)))) s_nil) (s_cons (s_set (i := 4) nd (p_callBo Fn h_law_draw T.g__law_draw T.k__law_draw tk (a_cons (p_var 0) (a_cons (p_bin o_add b_add (p_callB c_len b_len rfl T.n_len boot_len (a_cons (p_var 3) a_nil)) p_int) a_nil)))) (s_one (s_ret (p_bin o_add b_add (p_bin o_add b_add (p_slice sl_all b_sl (p_var 3) .nil (.one (p_var 4))) (p_ix (ix_all (hu1 hr)) b_ix (p_var 1) (p_callBo Fn h_law_draw T.g__law_draw T.k__law_draw tk (a_cons (p_var 0) (a_cons p_int a_nil))) (fun _ _ => rfl))) (p_slice sl_all b_sl (p_var 3) (.one (p_var 4)) .nil))))))))))
abbrev N_law_bad_width : List Str := ["_law_state", "_law_large"]
theorem sc_law_bad_width : FnScope N_law_bad_width ["_law_state"] (defScope s_law_bad_width) := ⟨rfl, rfl, rfl, by decide +kernel, rfl, by decide +kernel, by decide +kernel⟩
theorem d_law_bad_width (T : Tx K mg) (Xn : Xs P w K mg base) (Th : TowerH P w K mg base 2 hc) (Fn : Fns (cxOf (CX P w) P w K mg base N_law_bad_width "_law_bad_width" (defScope s_law_bad_width) f cdv A outer s H E) K c) (hr : Room (k + 5) (A.deeper (PyProof.Rows.envOfC "_law_bad_width" (defScope s_law_bad_width) s.heap.objs.size f cdv))) (h_law_draw : (c ("_law_draw", none)).isSome = true) :
    PSs (cxOf (CX P w) P w K mg base N_law_bad_width "_law_bad_width" (defScope s_law_bad_width) f cdv A outer s H E) (defBody s_law_bad_width) (rdS K c (fun cls d _ H' => E cls d H') b_law_bad_width) :=
  have nd := sc_law_bad_width.nd
  have tk : Takes (cxOf (CX P w) P w K mg base N_law_bad_width "_law_bad_width" (defScope s_law_bad_width) f cdv A outer s H E) (fun cls d _ H' => E cls d H') := L2N.takes_of rfl rfl rfl rfl
  (s_cons (s_set (i := 1) nd (p_bin o_add b_add p_int (p_callBo Fn h_law_draw T.g__law_draw T.k__law_draw tk (a_cons (p_var 0) (a_cons p_int a_nil))))) (s_one (s_ret (p_ix (ix_all (hu1 hr)) b_ix (p_list (a_cons p_int (a_cons p_int (a_cons (p_un un_neg b_neg p_int) (a_cons p_bl (a_cons p_bl (a_cons (p_bin op_pow b_pow p_int p_int) (a_cons (p_bin op_sub b_sub p_int (p_bin op_pow b_pow p_int p_int)) (a_cons (p_var 1) a_nil))))))))) (p_callBo Fn h_law_draw T.g__law_draw T.k__law_draw tk (a_cons (p_var 0) (a_cons p_int a_nil))) (fun _ _ => rfl)))))
abbrev N_law_spoilt : List Str := ["_law_state", "_law_names", "_law_pair", "_law_kind"]
theorem sc_law_spoilt : FnScope N_law_spoilt ["_law_state", "_law_names", "_law_pair"] (defScope s_law_spoilt) := ⟨rfl, rfl, rfl, by decide +kernel, rfl, by decide +kernel, by decide +kernel⟩
theorem d_law_spoilt (T : Tx K mg) (Xn : Xs P w K mg base) (Th : TowerH P w K mg base 2 hc) (Fn : Fns (cxOf (CX P w) P w K mg base N_law_spoilt "_law_spoilt" (defScope s_law_spoilt) f cdv A outer s H E) K c) (hr : Room (k + 5) (A.deeper (PyProof.Rows.envOfC "_law_spoilt" (defScope s_law_spoilt) s.heap.objs.size f cdv))) (h_law_draw : (c ("_law_draw", none)).isSome = true) (h_law_bad_word : (c ("_law_bad_word", none)).isSome = true) (h_law_bad_width : (c ("_law_bad_width", none)).isSome = true) :
    PSs (cxOf (CX P w) P w K mg base N_law_spoilt "_law_spoilt" (defScope s_law_spoilt) f cdv A outer s H E) (defBody s_law_spoilt) (rdS K c (fun cls d _ H' => E cls d H') b_law_spoilt) :=
  have nd := sc_law_spoilt.nd
  have tk : Takes (cxOf (CX P w) P w K mg base N_law_spoilt "_law_spoilt" (defScope s_law_spoilt) f cdv A outer s H E) (fun cls d _ H' => E cls d H') := L2N.takes_of rfl rfl rfl rfl
  (s_cons (s_set (i := 3) nd (p_callBo Fn h_law_draw T.g__law_draw T.k__law_draw tk (a_cons (p_var 0) (a_cons p_int a_nil)))) (s_cons (s_if (t_cmp (o_eqX hr.units) b_eqX (p_var 3) p_int (nomark _)) (s_one (s_ret (p_tup (a_cons (p_callBo Fn h_law_bad_word T.g__law_bad_word T.k__law_bad_word tk (a_cons (p_var 0) a_nil)) (a_cons (p_ix (ix_all (hu1 hr)) b_ix (p_var 2) p_int (fun _ _ => rfl)) a_nil))))) s_nil) (s_cons (s_if (t_cmp (o_eqX hr.units) b_eqX (p_var 3) p_int (nomark _)) (s_one (s_ret (p_tup (a_cons (p_ix (ix_all (hu1 hr)) b_ix (p_var 2) p_int (fun _ _ => rfl)) (a_cons (p_callBo Fn h_law_bad_width T.g__law_bad_width T.k__law_bad_width tk (a_cons (p_var 0) a_nil)) a_nil))))) s_nil) (s_one (s_ret (p_tup (a_cons (p_ix (ix_all (hu1 hr)) b_ix (p_var 1) (p_callBo Fn h_law_draw T.g__law_draw T.k__law_draw tk (a_cons (p_var 0) (a_cons (p_callB c_len b_len rfl T.n_len boot_len (a_cons (p_var 1) a_nil)) a_nil))) (fun _ _ => rfl)) (a_cons (p_ix (ix_all (hu1 hr)) b_ix (p_var 2) p_int (fun _ _ => rfl)) a_nil))))))))
abbrev N_law_is_word : List Str := ["_law_text", "_law_signs", "_law_sign"]
theorem sc_law_is_word : FnScope N_law_is_word ["_law_text"] (defScope s_law_is_word) := ⟨rfl, rfl, rfl, by decide +kernel, rfl, by decide +kernel, by decide +kernel⟩
theorem d_law_is_word (T : Tx K mg) (Xn : Xs P w K mg base) (Th : TowerH P w K mg base 2 hc) (Fn : Fns (cxOf (CX P w) P w K mg base N_law_is_word "_law_is_word" (defScope s_law_is_word) f cdv A outer s H E) K c) (hr : Room (k + 5) (A.deeper (PyProof.Rows.envOfC "_law_is_word" (defScope s_law_is_word) s.heap.objs.size f cdv)))  :
    PSs (cxOf (CX P w) P w K mg base N_law_is_word "_law_is_word" (defScope s_law_is_word) f cdv A outer s H E) (defBody s_law_is_word) (rdS K c (fun cls d _ H' => E cls d H') b_law_is_word) :=
  have nd := sc_law_is_word.nd
  have tk : Takes (cxOf (CX P w) P w K mg base N_law_is_word "_law_is_word" (defScope s_law_is_word) f cdv A outer s H E) (fun cls d _ H' => E cls d H') := L2N.takes_of rfl rfl rfl rfl
  (s_cons (s_set (i := 1) nd p_str) (s_cons (s_if (PW.pt (t_or (t_cmp (o_ltX hr.units0) b_ltX (p_callB c_len b_len rfl T.n_len boot_len (a_cons (p_var 0) a_nil)) p_int (nomark _)) (t_or1 (t_cmp o_gt b_gt (p_callB c_len b_len rfl T.n_len boot_len (a_cons (p_var 0) a_nil)) p_int (nomark _))))) (s_one (s_ret p_bl)) s_nil) (s_one (s_ret (p_cmp (o_eqX hr.units) b_eqX (p_callB c_len b_len rfl T.n_len boot_len (a_cons (p_lc (own := [("_law_sign", 2)]) rfl nd (i_seq (p_var 0)) (by show blkC N_law_is_word (defScope s_law_is_word) _ _ = true; decide +kernel) (fun _ _ _ _ _ => (g_nm (i := 2) nd)) (fun _ _ _ _ _ => (ts_one (t_cmp (o_ninX (hu65 hr)) b_ninX (p_var 2) (p_var 1) (by rfl)))) (fun _ _ _ _ _ => (p_var 2))) a_nil)) p_int (nomark _))))))
abbrev N_law_due : List Str := ["_law_pairs", "_law_known", "_law_pair"]
theorem sc_law_due : FnScope N_law_due ["_law_pairs"] (defScope s_law_due) := ⟨rfl, rfl, rfl, by decide +kernel, rfl, by decide +kernel, by decide +kernel⟩
theorem d_law_due (T : Tx K mg) (Xn : Xs P w K mg base) (Th : TowerH P w K mg base 2 hc) (Fn : Fns (cxOf (CX P w) P w K mg base N_law_due "_law_due" (defScope s_law_due) f cdv A outer s H E) K c) (hr : Room (k + 5) (A.deeper (PyProof.Rows.envOfC "_law_due" (defScope s_law_due) s.heap.objs.size f cdv))) (h_law_is_word : (c ("_law_is_word", none)).isSome = true) (h_law_is_int : (c ("_law_is_int", none)).isSome = true) :
    PSs (cxOf (CX P w) P w K mg base N_law_due "_law_due" (defScope s_law_due) f cdv A outer s H E) (defBody s_law_due) (rdS K c (fun cls d _ H' => E cls d H') b_law_due) :=
  have nd := sc_law_due.nd
  have tk : Takes (cxOf (CX P w) P w K mg base N_law_due "_law_due" (defScope s_law_due) f cdv A outer s H E) (fun cls d _ H' => E cls d H') := L2N.takes_of rfl rfl rfl rfl
  (s_cons (s_if (t_cmp o_gt b_gt (p_callB c_len b_len rfl T.n_len boot_len (a_cons (p_var 0) a_nil)) p_int (nomark _)) (s_one (s_ret (p_tup (a_cons p_str (a_cons p_int a_nil))))) s_nil) (s_cons (s_set (i := 1) nd (p_list a_nil)) (s_cons (s_for (passes_of rfl) rfl (i_seq (p_var 0)) (g_nm (i := 2) nd) (s_cons (s_if (t_not (t_val (p_call Fn h_law_is_word T.g__law_is_word T.k__law_is_word tk (a_cons (p_ix (ix_all (hu1 hr)) b_ix (p_var 2) p_int (fun _ _ => rfl)) a_nil)))) (s_one (s_ret (p_tup (a_cons p_str (a_cons (p_ix (ix_all (hu1 hr)) b_ix (p_var 2) p_int (fun _ _ => rfl)) a_nil))))) s_nil) (s_cons (s_if (PW.pt (t_or (t_not (t_val (p_call Fn h_law_is_int T.g__law_is_int T.k__law_is_int tk (a_cons (p_ix (ix_all (hu1 hr)) b_ix (p_var 2) p_int (fun _ _ => rfl)) a_nil)))) (t_or (t_cmp (o_ltX hr.units0) b_ltX (p_ix (ix_all (hu1 hr)) b_ix (p_var 2) p_int (fun _ _ => rfl)) p_int (nomark _)) (t_or1 (t_cmp o_gt b_gt (p_ix (ix_all (hu1 hr)) b_ix (p_var 2) p_int (fun _ _ => rfl)) p_int (nomark _)))))) (s_one (s_ret (p_tup (a_cons p_str (a_cons (p_ix (ix_all (hu1 hr)) b_ix (p_var 2) p_int (fun _ _ => rfl)) a_nil))))) s_nil) (s_cons (s_if (t_cmp (o_inX (hu65 hr)) b_inX (p_ix (ix_all (hu1 hr)) b_ix (p_var 2) p_int (fun _ _ => rfl)) (p_var 1) (by rfl)) (s_one (s_ret (p_tup (a_cons p_str (a_cons (p_ix (ix_all (hu1 hr)) b_ix (p_var 2) p_int (fun _ _ => rfl)) a_nil))))) s_nil) (s_one (s_expr (p_append (i := 1) (a_cons (p_ix (ix_all (hu1 hr)) b_ix (p_var 2) p_int (fun _ _ => rfl)) a_nil)))))))) (s_one (s_ret p_non)))))
abbrev N_law_made : List Str := ["_law_kind", "_law_pairs", "_law_width"]
theorem sc_law_made : FnScope N_law_made ["_law_kind", "_law_pairs", "_law_width"] (defScope s_law_made) := ⟨rfl, rfl, rfl, by decide +kernel, rfl, by decide +kernel, by decide +kernel⟩
theorem d_law_made (T : Tx K mg) (Xn : Xs P w K mg base) (Th : TowerH P w K mg base 2 hc) (Fn : Fns (cxOf (CX P w) P w K mg base N_law_made "_law_made" (defScope s_law_made) f cdv A outer s H E) K c) (hr : Room (k + 5) (A.deeper (PyProof.Rows.envOfC "_law_made" (defScope s_law_made) s.heap.objs.size f cdv))) (h_schema_of : (c ("schema_of", none)).isSome = true) (h_Schema_init : (c ("Schema", some "__init__")).isSome = true) :
    PSs (cxOf (CX P w) P w K mg base N_law_made "_law_made" (defScope s_law_made) f cdv A outer s H E) (defBody s_law_made) (rdS K c (fun cls d _ H' => E cls d H') b_law_made) :=
  have nd := sc_law_made.nd
  have tk : Takes (cxOf (CX P w) P w K mg base N_law_made "_law_made" (defScope s_law_made) f cdv A outer s H E) (fun cls d _ H' => E cls d H') := L2N.takes_of rfl rfl rfl rfl
  (s_cons (s_if (t_cmp (o_eqX hr.units) b_eqX (p_var 0) p_int (nomark _)) (s_one (s_ret (p_callK Fn h_schema_of T.g_schema_of T.k_schema_of tk (k_cons p_int (k_cons (p_var 2) (k_cons p_int k_nil)))))) s_nil) (s_cons (s_if (t_cmp (o_eqX hr.units) b_eqX (p_var 0) p_int (nomark _)) (s_one (s_ret (p_callK Fn h_schema_of T.g_schema_of T.k_schema_of tk (k_cons p_int (k_cons (p_var 2) k_nil))))) s_nil) (s_cons (s_if (t_cmp (o_eqX hr.units) b_eqX (p_var 0) p_int (nomark _)) (s_one (s_ret (p_callK Fn h_schema_of T.g_schema_of T.k_schema_of tk (k_cons p_int (k_cons p_int (k_cons p_int (k_cons p_int (k_cons p_int (k_cons p_int (k_cons p_int (k_cons p_int (k_cons (p_var 2) k_nil)))))))))))) s_nil) (s_cons (s_if (t_cmp (o_eqX hr.units) b_eqX (p_var 0) p_int (nomark _)) (s_one (s_ret (p_callK Fn h_schema_of T.g_schema_of T.k_schema_of tk (k_cons p_int (k_cons p_int (k_cons p_int (k_cons p_int (k_cons p_int (k_cons p_int (k_cons p_int (k_cons p_int k_nil))))))))))) s_nil) (s_one (s_ret (p_make Fn h_Schema_init T.fi_Schema T.mk_Schema T.gc_Schema tk (a_cons (p_var 1) a_nil))))))))
abbrev N_law_told : List Str := ["_law_kind", "_law_pairs", "_law_width", "_law_handed", "_law_told_here", "why"]
theorem sc_law_told : FnScope N_law_told ["_law_kind", "_law_pairs", "_law_width"] (defScope s_law_told) := ⟨rfl, rfl, rfl, by decide +kernel, rfl, by decide +kernel, by decide +kernel⟩
theorem d_law_told (T : Tx K mg) (Xn : Xs P w K mg base) (Th : TowerH P w K mg base 2 hc) (Fn : Fns (cxOf (CX P w) P w K mg base N_law_told "_law_told" (defScope s_law_told) f cdv A outer s H E) K c) (hr : Room (k + 5) (A.deeper (PyProof.Rows.envOfC "_law_told" (defScope s_law_told) s.heap.objs.size f cdv))) (h_law_made : (c ("_law_made", none)).isSome = true) (h_law_same : (c ("_law_same", none)).isSome = true) :
    PSs (cxOf (CX P w) P w K mg base N_law_told "_law_told" (defScope s_law_told) f cdv A outer s H E) (defBody s_law_told) (rdS K c (fun cls d _ H' => E cls d H') b_law_told) :=
  have nd := sc_law_told.nd
  have tk : Takes (cxOf (CX P w) P w K mg base N_law_told "_law_told" (defScope s_law_told) f cdv A outer s H E) (fun cls d _ H' => E cls d H') := L2N.takes_of rfl rfl rfl rfl
  (s_cons (s_set (i := 3) nd (p_callTy (c_listX rfl) b_listX rfl T.n_list (by decide +kernel) (a_cons (p_var 1) a_nil))) (s_cons (s_set (i := 4) nd p_non) (s_cons (s_try (xt := xt) (fun Wi pn xe tk hp => have Fn := Fns.tr (pn := pn) (xe := xe) Fn; (s_one (s_expr (p_call Fn h_law_made T.g__law_made T.k__law_made tk (a_cons (p_var 0) (a_cons (p_var 3) (a_cons (p_var 2) a_nil))))))) tk (.cons nd T.gx_PinError (T.xw.ask "PinError" (by decide)) (fun a oe cls d pn hz hf => letI : Ext := ⟨a, d, cls⟩; (s_cons (s_set (i := 4) nd (p_tup (a_cons p_str a_nil))) (s_cons (s_if (PW.pt (t_and (t_val (p_isW T.xw hz hf (by decide) T.n_isinstance (pe_glob (v := .ref (He.ga K "TooLarge")) rfl T.gx_TooLarge rfl) (pv 5))) (t_and (t_val (p_isW T.xw hz hf (by decide) T.n_isinstance (pe_bltn (v := .ty "ValueError") rfl T.n_ValueError (by decide +kernel) rfl) (pv 5))) (t_and1 (t_not (t_val (p_isW T.xw hz hf (by decide) T.n_isinstance (pe_glob (v := .ref (He.ga K "InputError")) rfl T.gx_InputError rfl) (pv 5)))))))) (s_one (s_set (i := 4) nd (p_tup (a_cons p_str (a_cons (p_whyF T.xw hz hf (pv 5)) a_nil))))) s_nil) (s_cons (s_if (PW.pt (t_and (t_val (p_isW T.xw hz hf (by decide) T.n_isinstance (pe_glob (v := .ref (He.ga K "BadWord")) rfl T.gx_BadWord rfl) (pv 5))) (t_and (t_val (p_isW T.xw hz hf (by decide) T.n_isinstance (pe_glob (v := .ref (He.ga K "InputError")) rfl T.gx_InputError rfl) (pv 5))) (t_and1 (t_not (t_val (p_isWt T.xw hz hf (by decide) (by simp) T.n_isinstance (p_names2 (pe_glob (v := .ref (He.ga K "BadWidth")) rfl T.gx_BadWidth rfl) (pe_glob (v := .ref (He.ga K "DuplicateTable")) rfl T.gx_DuplicateTable rfl)) (pv 5)))))))) (s_one (s_set (i := 4) nd (p_tup (a_cons p_str (a_cons (p_whyF T.xw hz hf (pv 5)) a_nil))))) s_nil) (s_cons (s_if (PW.pt (t_and (t_val (p_isW T.xw hz hf (by decide) T.n_isinstance (pe_glob (v := .ref (He.ga K "BadWidth")) rfl T.gx_BadWidth rfl) (pv 5))) (t_and (t_val (p_isW T.xw hz hf (by decide) T.n_isinstance (pe_glob (v := .ref (He.ga K "InputError")) rfl T.gx_InputError rfl) (pv 5))) (t_and1 (t_not (t_val (p_isWt T.xw hz hf (by decide) (by simp) T.n_isinstance (p_names2 (pe_glob (v := .ref (He.ga K "BadWord")) rfl T.gx_BadWord rfl) (pe_glob (v := .ref (He.ga K "DuplicateTable")) rfl T.gx_DuplicateTable rfl)) (pv 5)))))))) (s_one (s_set (i := 4) nd (p_tup (a_cons p_str (a_cons (p_whyF T.xw hz hf (pv 5)) a_nil))))) s_nil) (s_one (s_if (PW.pt (t_and (t_val (p_isW T.xw hz hf (by decide) T.n_isinstance (pe_glob (v := .ref (He.ga K "DuplicateTable")) rfl T.gx_DuplicateTable rfl) (pv 5))) (t_and (t_val (p_isW T.xw hz hf (by decide) T.n_isinstance (pe_glob (v := .ref (He.ga K "InputError")) rfl T.gx_InputError rfl) (pv 5))) (t_and1 (t_not (t_val (p_isW T.xw hz hf (by decide) T.n_isinstance (pe_glob (v := .ref (He.ga K "UnknownTable")) rfl T.gx_UnknownTable rfl) (pv 5)))))))) (s_one (s_set (i := 4) nd (p_tup (a_cons p_str (a_cons (p_whyF T.xw hz hf (pv 5)) a_nil))))) s_nil))))))) .nil)) (s_cons (s_if (t_not (t_val (p_callF (fl := [true, true]) Fn h_law_same T.g__law_same T.k__law_same tk (a_cons (p_var 3) (a_cons (p_callTy (c_listX rfl) b_listX rfl T.n_list (by decide +kernel) (a_cons (p_var 1) a_nil)) a_nil))))) (s_one (s_ret (p_tup (a_cons p_str a_nil)))) s_nil) (s_one (s_ret (p_var 4)))))))
abbrev N_law_strange : List Str := ["_law_schema", "_law_word_here", "_law_refused", "why"]
theorem sc_law_strange : FnScope N_law_strange ["_law_schema", "_law_word_here"] (defScope s_law_strange) := ⟨rfl, rfl, rfl, by decide +kernel, rfl, by decide +kernel, by decide +kernel⟩
theorem d_law_strange (T : Tx K mg) (Xn : Xs P w K mg base) (Th : TowerH P w K mg base 2 hc) (Fn : Fns (cxOf (CX P w) P w K mg base N_law_strange "_law_strange" (defScope s_law_strange) f cdv A outer s H E) K c) (hr : Room (k + 5) (A.deeper (PyProof.Rows.envOfC "_law_strange" (defScope s_law_strange) s.heap.objs.size f cdv)))  :
    PSs (cxOf (CX P w) P w K mg base N_law_strange "_law_strange" (defScope s_law_strange) f cdv A outer s H E) (defBody s_law_strange) (rdS K c (fun cls d _ H' => E cls d H') b_law_strange) :=
  have nd := sc_law_strange.nd
  have tk : Takes (cxOf (CX P w) P w K mg base N_law_strange "_law_strange" (defScope s_law_strange) f cdv A outer s H E) (fun cls d _ H' => E cls d H') := L2N.takes_of rfl rfl rfl rfl
  (s_cons (s_set (i := 2) nd p_bl) (s_cons (s_try (xt := xt) (fun Wi pn xe tk hp => have Fn := Fns.tr (pn := pn) (xe := xe) Fn; (s_one (s_set (i := 2) nd (p_and (p_cmp op_isN b_isN (p_ixO Fn tk (p_var 0) (p_var 1) (fun _ _ => by with_unfolding_all rfl)) p_non (nomark _)) (p_one (p_cmp (o_eqX hr.units) b_eqX (p_var 1) p_str (nomark _))))))) tk (.cons nd T.gx_UnknownTable (T.xw.ask "UnknownTable" (by decide)) (fun a oe cls d pn hz hf => letI : Ext := ⟨a, d, cls⟩; (s_cons (s_set (i := 2) nd (p_and (p_isW T.xw hz hf (by decide) T.n_isinstance (pe_glob (v := .ref (He.ga K "InputError")) rfl T.gx_InputError rfl) (pv 3)) (p_and (p_isW T.xw hz hf (by decide) T.n_isinstance (pe_glob (v := .ref (He.ga K "PinError")) rfl T.gx_PinError rfl) (pv 3)) (p_one (p_isW T.xw hz hf (by decide) T.n_isinstance (pe_bltn (v := .ty "ValueError") rfl T.n_ValueError (by decide +kernel) rfl) (pv 3)))))) (s_one (s_set (i := 2) nd (p_and (p_var 2) (p_and (p_not (p_isWt T.xw hz hf (by decide) (by simp) T.n_isinstance (p_names2 (pe_glob (v := .ref (He.ga K "BadWord")) rfl T.gx_BadWord rfl) (pe_glob (v := .ref (He.ga K "DuplicateTable")) rfl T.gx_DuplicateTable rfl)) (pv 3))) (p_one (callH_in (h := hc) (p_callH (Th.fns (room_su (hr.mono (by omega))) (hot_su hz hf)) rfl T.g__law_same T.k__law_same takesSu (a_cons (p_whyF T.xw hz hf (pv 3)) (a_cons (p_var 1) a_nil))))))))))) .nil)) (s_one (s_ret (p_var 2)))))
abbrev N_law : List Str := ["_law_script", "_law_state", "_law_count", "_law_faults", "_law_more", "_law_word_here", "_law_width", "_law_names", "_law_fresh", "_law_base", "_law_extra", "_law_spoilt_here", "_law_k", "_law_at", "_law_low", "_law_asked", "_law_nine", "_law_pairs", "_law_eight", "_law_named", "_law_schema", "_law_pair", "_law_other", "_law_name"]
theorem sc_law : FnScope N_law ["_law_script"] (defScope s_law) := ⟨rfl, rfl, rfl, by decide +kernel, rfl, by decide +kernel, by decide +kernel⟩
theorem d_law (T : Tx K mg) (Xn : Xs P w K mg base) (Th : TowerH P w K mg base 2 hc) (Fn : Fns (cxOf (CX P w) P w K mg base N_law "law" (defScope s_law) f cdv A outer s H E) K c) (hr : Room (k + 5) (A.deeper (PyProof.Rows.envOfC "law" (defScope s_law) s.heap.objs.size f cdv))) (h_law_start : (c ("_law_start", none)).isSome = true) (h_law_draw : (c ("_law_draw", none)).isSome = true) (h_law_bad_word : (c ("_law_bad_word", none)).isSome = true) (h_law_bad_width : (c ("_law_bad_width", none)).isSome = true) (h_law_pool : (c ("_law_pool", none)).isSome = true) (h_law_spoilt : (c ("_law_spoilt", none)).isSome = true) (h_law_same : (c ("_law_same", none)).isSome = true) (h_law_told : (c ("_law_told", none)).isSome = true) (h_law_due : (c ("_law_due", none)).isSome = true) (h_Schema_init : (c ("Schema", some "__init__")).isSome = true) (h_law_strange : (c ("_law_strange", none)).isSome = true) :
    PSs (cxOf (CX P w) P w K mg base N_law "law" (defScope s_law) f cdv A outer s H E) (defBody s_law) (rdS K c (fun cls d _ H' => E cls d H') b_law) :=
  have nd := sc_law.nd
  have tk : Takes (cxOf (CX P w) P w K mg base N_law "law" (defScope s_law) f cdv A outer s H E) (fun cls d _ H' => E cls d H') := L2N.takes_of rfl rfl rfl rfl
  (s_cons (s_set (i := 1) nd (p_call Fn h_law_start T.g__law_start T.k__law_start tk (a_cons (p_var 0) a_nil))) (s_cons (s_set (i := 2) nd (p_callBo Fn h_law_draw T.g__law_draw T.k__law_draw tk (a_cons (p_var 1) (a_cons p_int a_nil)))) (s_cons (s_set (i := 3) nd (p_callBo Fn h_law_draw T.g__law_draw T.k__law_draw tk (a_cons (p_var 1) (a_cons p_int a_nil)))) (s_cons (s_set (i := 4) nd (p_callBo Fn h_law_draw T.g__law_draw T.k__law_draw tk (a_cons (p_var 1) (a_cons p_int a_nil)))) (s_cons (s_set (i := 5) nd (p_callBo Fn h_law_bad_word T.g__law_bad_word T.k__law_bad_word tk (a_cons (p_var 1) a_nil))) (s_cons (s_set (i := 6) nd (p_callBo Fn h_law_bad_width T.g__law_bad_width T.k__law_bad_width tk (a_cons (p_var 1) a_nil))) (s_cons (s_set (i := 7) nd (p_callBo Fn h_law_pool T.g__law_pool T.k__law_pool tk (a_cons (p_var 1) (a_cons (p_bin o_add b_add (p_var 2) p_int) a_nil)))) (s_cons (s_set (i := 8) nd (p_ix (ix_all (hu1 hr)) b_ix (p_var 7) (p_var 2) (fun _ _ => rfl))) (s_cons (s_setLc (i := 9) (own := [("_law_name", 23)]) rfl nd (i_seq (p_slice sl_all b_sl (p_var 7) .nil (.one (p_var 2)))) (by show blkC N_law (defScope s_law) _ _ = true; decide +kernel) (fun _ _ _ _ _ => (g_nm (i := 23) nd)) (fun _ _ _ _ _ => ts_nil) (fun _ _ _ _ _ => (p_tup (a_cons (p_var 23) (a_cons (p_bin o_add b_add p_int (p_callBo (Fn.blk _ _ _ _ _) h_law_draw T.g__law_draw T.k__law_draw takesSu (a_cons (p_var 1) (a_cons p_int a_nil)))) a_nil))))) (s_cons (s_setLc (i := 10) (own := [("_law_name", 23)]) rfl nd (i_seq (p_slice sl_all b_sl (p_var 7) (.one (p_bin o_add b_add (p_var 2) p_int)) .nil)) (by show blkC N_law (defScope s_law) _ _ = true; decide +kernel) (fun _ _ _ _ _ => (g_nm (i := 23) nd)) (fun _ _ _ _ _ => ts_nil) (fun _ _ _ _ _ => (p_tup (a_cons (p_var 23) (a_cons (p_bin o_add b_add p_int (p_callBo (Fn.blk _ _ _ _ _) h_law_draw T.g__law_draw T.k__law_draw takesSu (a_cons (p_var 1) (a_cons p_int a_nil)))) a_nil))))) (s_cons (s_set (i := 11) nd (p_bin o_add b_add (p_var 9) (p_slice sl_all b_sl (p_var 10) .nil (.one (p_var 4))))) (s_cons (s_for (passes_of rfl) rfl (i_range1 rfl T.n_range (a_cons (p_var 3) a_nil)) (g_nm (i := 12) nd) (s_one (s_if (t_cmp o_gt b_gt (p_callB c_len b_len rfl T.n_len boot_len (a_cons (p_var 11) a_nil)) p_int (nomark _)) (s_cons (s_set (i := 13) nd (p_callBo Fn h_law_draw T.g__law_draw T.k__law_draw tk (a_cons (p_var 1) (a_cons (p_callB c_len b_len rfl T.n_len boot_len (a_cons (p_var 11) a_nil)) a_nil)))) (s_one (s_put (i := 11) (hu1 hr) (p_callBo Fn h_law_spoilt T.g__law_spoilt T.k__law_spoilt tk (a_cons (p_var 1) (a_cons (p_var 7) (a_cons (p_ix (ix_all (hu1 hr)) b_ix (p_var 11) (p_var 13) (fun _ _ => rfl)) a_nil)))) (p_var 13)))) s_nil))) (s_cons (s_set (i := 14) nd (p_slice sl_all b_sl (p_var 9) .nil (.one p_int))) (s_cons (s_set (i := 15) nd (p_list (a_cons (p_var 9) (a_cons (p_var 11) (a_cons (p_bin o_add b_add (p_var 14) (p_list (a_cons (p_tup (a_cons (p_var 8) (a_cons (p_var 6) a_nil))) (a_cons (p_tup (a_cons (p_var 5) (a_cons p_int a_nil))) a_nil)))) (a_cons (p_bin o_add b_add (p_var 14) (p_list (a_cons (p_tup (a_cons (p_var 5) (a_cons (p_var 6) a_nil))) (a_cons (p_tup (a_cons (p_var 8) (a_cons p_int a_nil))) a_nil)))) a_nil)))))) (s_cons (s_set (i := 15) nd (p_bin o_add b_add (p_var 15) (p_list (a_cons (p_bin o_add b_add (p_var 14) (p_list (a_cons (p_tup (a_cons (p_var 8) (a_cons p_int a_nil))) (a_cons (p_tup (a_cons (p_var 8) (a_cons (p_var 6) a_nil))) a_nil)))) (a_cons (p_bin o_add b_add (p_bin o_add b_add (p_list (a_cons (p_tup (a_cons (p_var 8) (a_cons p_int a_nil))) a_nil)) (p_var 14)) (p_list (a_cons (p_tup (a_cons (p_var 8) (a_cons p_int a_nil))) a_nil))) (a_cons (p_bin o_add b_add (p_var 14) (p_list (a_cons (p_tup (a_cons (p_var 8) (a_cons p_bl a_nil))) a_nil))) a_nil)))))) (s_cons (s_setLc (i := 16) (own := [("_law_k", 12)]) rfl nd (i_range1 rfl T.n_range (a_cons p_int a_nil)) (by show blkC N_law (defScope s_law) _ _ = true; decide +kernel) (fun _ _ _ _ _ => (g_nm (i := 12) nd)) (fun _ _ _ _ _ => ts_nil) (fun _ _ _ _ _ => (p_tup (a_cons (p_bin o_add b_add p_str (p_callTy c_strX b_str rfl T.n_str (by decide +kernel) (a_cons (p_var 12) a_nil))) (a_cons (p_bin o_add b_add p_int (p_bin op_mod b_mod (p_callTy call_int1 b_int rfl T.n_int (by decide +kernel) (a_cons (p_var 12) a_nil)) p_int)) a_nil))))) (s_cons (s_set (i := 15) nd (p_bin o_add b_add (p_var 15) (p_list (a_cons (p_slice sl_all b_sl (p_var 16) .nil (.one p_int)) (a_cons (p_var 16) (a_cons (p_bin o_add b_add (p_slice sl_all b_sl (p_var 16) .nil (.one p_int)) (p_list (a_cons (p_ix (ix_all (hu1 hr)) b_ix (p_var 16) (p_bin op_mod b_mod (p_callTy call_int1 b_int rfl T.n_int (by decide +kernel) (a_cons (p_var 2) a_nil)) p_int) (fun _ _ => rfl)) a_nil))) (a_cons (p_bin o_add b_add (p_list (a_cons (p_tup (a_cons (p_var 5) (a_cons (p_var 6) a_nil))) a_nil)) (p_slice sl_all b_sl (p_var 16) (.one p_int) .nil)) (a_cons (p_var 9) a_nil)))))))) (s_cons (s_for (passes_of rfl) rfl (i_seq (p_var 15)) (g_nm (i := 17) nd) (s_one (s_if (t_not (t_val (p_callF (fl := [true, true]) Fn h_law_same T.g__law_same T.k__law_same tk (a_cons (p_call Fn h_law_told T.g__law_told T.k__law_told tk (a_cons p_int (a_cons (p_var 17) (a_cons (p_var 6) a_nil)))) (a_cons (p_call Fn h_law_due T.g__law_due T.k__law_due tk (a_cons (p_var 17) a_nil)) a_nil))))) (s_one (s_ret p_bl)) s_nil))) (s_cons (s_setLc (i := 18) (own := [("_law_name", 23)]) rfl nd (i_seq (p_list (a_cons p_str (a_cons p_str (a_cons p_str (a_cons p_str (a_cons p_str (a_cons p_str (a_cons p_str (a_cons p_str a_nil)))))))))) (by show blkC N_law (defScope s_law) _ _ = true; decide +kernel) (fun _ _ _ _ _ => (g_nm (i := 23) nd)) (fun _ _ _ _ _ => ts_nil) (fun _ _ _ _ _ => (p_tup (a_cons (p_var 23) (a_cons p_int a_nil))))) (s_cons (s_set (i := 19) nd (p_list (a_cons (p_list (a_cons (p_tup (a_cons p_str (a_cons p_int a_nil))) (a_cons (p_tup (a_cons p_str (a_cons (p_var 6) a_nil))) (a_cons (p_tup (a_cons p_str (a_cons p_int a_nil))) a_nil)))) (a_cons (p_list (a_cons (p_tup (a_cons p_str (a_cons p_int a_nil))) (a_cons (p_tup (a_cons p_str (a_cons (p_var 6) a_nil))) a_nil))) a_nil)))) (s_cons (s_set (i := 19) nd (p_bin o_add b_add (p_var 19) (p_list (a_cons (p_bin o_add b_add (p_var 18) (p_list (a_cons (p_tup (a_cons p_str (a_cons (p_var 6) a_nil))) a_nil))) (a_cons (p_var 18) a_nil))))) (s_cons (s_for (passes_of rfl) rfl (i_range1 rfl T.n_range (a_cons p_int a_nil)) (g_nm (i := 12) nd) (s_one (s_if (t_not (t_val (p_callF (fl := [true, true]) Fn h_law_same T.g__law_same T.k__law_same tk (a_cons (p_call Fn h_law_told T.g__law_told T.k__law_told tk (a_cons (p_bin o_add b_add p_int (p_var 12)) (a_cons (p_ix (ix_all (hu1 hr)) b_ix (p_var 19) (p_var 12) (fun _ _ => rfl)) (a_cons (p_var 6) a_nil)))) (a_cons (p_call Fn h_law_due T.g__law_due T.k__law_due tk (a_cons (p_ix (ix_all (hu1 hr)) b_ix (p_var 19) (p_var 12) (fun _ _ => rfl)) a_nil)) a_nil))))) (s_one (s_ret p_bl)) s_nil))) (s_cons (s_set (i := 20) nd (p_make Fn h_Schema_init T.fi_Schema T.mk_Schema T.gc_Schema tk (a_cons (p_callTy (c_listX rfl) b_listX rfl T.n_list (by decide +kernel) (a_cons (p_var 9) a_nil)) a_nil))) (s_cons (s_for (passes_of rfl) rfl (i_seq (p_var 9)) (g_nm (i := 21) nd) (s_one (s_if (t_not (t_val (p_callF (fl := [true, true]) Fn h_law_same T.g__law_same T.k__law_same tk (a_cons (p_ixO Fn tk (p_var 20) (p_ix (ix_all (hu1 hr)) b_ix (p_var 21) p_int (fun _ _ => rfl)) (fun _ _ => by with_unfolding_all rfl)) (a_cons (p_ix (ix_all (hu1 hr)) b_ix (p_var 21) p_int (fun _ _ => rfl)) a_nil))))) (s_one (s_ret p_bl)) s_nil))) (s_cons (s_for (passes_of rfl) rfl (i_seq (p_bin o_add b_add (p_list (a_cons (p_var 8) (a_cons (p_ix (ix_all (hu1 hr)) b_ix (p_ix (ix_all (hu1 hr)) b_ix (p_var 10) p_int (fun _ _ => rfl)) p_int (fun _ _ => rfl)) a_nil))) (p_lc (own := [("_law_pair", 21)]) rfl nd (i_seq (p_var 9)) (by show blkC N_law (defScope s_law) _ _ = true; decide +kernel) (fun _ _ _ _ _ => (g_nm (i := 21) nd)) (fun _ _ _ _ _ => (ts_one (t_cmp o_gt b_gt (p_callB c_len b_len rfl T.n_len boot_len (a_cons (p_ix (ix_all (hu1 hr)) b_ix (p_var 21) p_int (fun _ _ => rfl)) a_nil)) p_int (nomark _)))) (fun _ _ _ _ _ => (p_slice sl_all b_sl (p_ix (ix_all (hu1 hr)) b_ix (p_var 21) p_int (fun _ _ => rfl)) .nil (.one (p_un un_neg b_neg p_int))))))) (g_nm (i := 22) nd) (s_one (s_if (PW.pt (t_and (t_cmp (o_ninX (hu65 hr)) b_ninX (p_var 22) (p_slice sl_all b_sl (p_var 7) .nil (.one (p_var 2))) (by rfl)) (t_and1 (t_not (t_val (p_call Fn h_law_strange T.g__law_strange T.k__law_strange tk (a_cons (p_var 20) (a_cons (p_var 22) a_nil)))))))) (s_one (s_ret p_bl)) s_nil))) (s_one (s_ret (p_and (p_callF (fl := [true, true]) Fn h_law_same T.g__law_same T.k__law_same tk (a_cons (p_conI T.gc_Schema T.cn_Schema_MAX_TABLES) (a_cons p_int a_nil))) (p_one (p_callF (fl := [true, true]) Fn h_law_same T.g__law_same T.k__law_same tk (a_cons (p_conI T.gc_Schema T.cn_Schema_MAX_WIDTH) (a_cons p_int a_nil))))))))))))))))))))))))))))))))
abbrev N_hlaw_same : List Str := ["_law_a", "_law_b", "_law_k"]
theorem sc_hlaw_same : FnScope N_hlaw_same ["_law_a", "_law_b"] (defScope s_hlaw_same) := ⟨rfl, rfl, rfl, by decide +kernel, rfl, by decide +kernel, by decide +kernel⟩
theorem dh_law_same {pp : Addr × Obj} (T : Tx K mg) (hr : L2H.RoomH (k + 1) (A.deeper (PyProof.Rows.envOfC "_law_same" (defScope s_hlaw_same) s.heap.objs.size f cdv))) (hot : L2H.Hot1 A pp) :
    PSs (L2H.cxH (CX P w) P w K mg base N_hlaw_same "_law_same" (defScope s_hlaw_same) f cdv A outer s H E pp) (defBody s_hlaw_same) (rdS K c (fun cls d _ H' => E cls d H') bh_law_same) :=
  have nd := sc_hlaw_same.nd
  have tk : Takes (L2H.cxH (CX P w) P w K mg base N_hlaw_same "_law_same" (defScope s_hlaw_same) f cdv A outer s H E pp) (fun cls d _ H' => E cls d H') := L2N.takes_of rfl rfl rfl rfl
  (s_cons (s_if (PW.pt (t_or (t_val (p_isB (n := "bool") T.n_isinstance (p_var 0) T.n_bool)) (t_or1 (t_val (p_isB (n := "bool") T.n_isinstance (p_var 1) T.n_bool))))) (s_one (s_ret (p_and (p_isB (n := "bool") T.n_isinstance (p_var 0) T.n_bool) (p_and (p_isB (n := "bool") T.n_isinstance (p_var 1) T.n_bool) (p_one (p_cmp (o_eqX (uH hr)) b_eqX (p_var 0) (p_var 1) (nomark _))))))) s_nil) (s_cons (s_if (PW.pt (t_or (t_val (p_isB (n := "int") T.n_isinstance (p_var 0) T.n_int)) (t_or1 (t_val (p_isB (n := "int") T.n_isinstance (p_var 1) T.n_int))))) (s_one (s_ret (p_and (p_isB (n := "int") T.n_isinstance (p_var 0) T.n_int) (p_and (p_isB (n := "int") T.n_isinstance (p_var 1) T.n_int) (p_one (p_cmp (o_eqX (uH hr)) b_eqX (p_var 0) (p_var 1) (nomark _))))))) s_nil) (s_cons (s_if (PW.pt (t_or (t_val (p_isB (n := "str") T.n_isinstance (p_var 0) T.n_str)) (t_or1 (t_val (p_isB (n := "str") T.n_isinstance (p_var 1) T.n_str))))) (s_one (s_ret (p_and (p_isB (n := "str") T.n_isinstance (p_var 0) T.n_str) (p_and (p_isB (n := "str") T.n_isinstance (p_var 1) T.n_str) (p_one (p_cmp (o_eqX (uH hr)) b_eqX (p_var 0) (p_var 1) (nomark _))))))) s_nil) (s_cons (s_if (PW.pt (t_or (t_cmp op_isN b_isN (p_var 0) p_non (nomark _)) (t_or1 (t_cmp op_isN b_isN (p_var 1) p_non (nomark _))))) (s_one (s_ret (p_and (p_cmp op_isN b_isN (p_var 0) p_non (nomark _)) (p_one (p_cmp op_isN b_isN (p_var 1) p_non (nomark _)))))) s_nil) (s_cons (s_if (PW.pt (t_or (t_cmp (o_neX (uH hr)) b_neX (p_isB (n := "tuple") T.n_isinstance (p_var 0) T.n_tuple) (p_isB (n := "tuple") T.n_isinstance (p_var 1) T.n_tuple) (nomark _)) (t_or1 (t_cmp (o_neX (uH hr)) b_neX (p_isB (n := "list") T.n_isinstance (p_var 0) T.n_list) (p_isB (n := "list") T.n_isinstance (p_var 1) T.n_list) (nomark _))))) (s_one (s_ret p_bl)) s_nil) (s_cons (s_if (PW.pt (t_or (t_not (t_val (p_isT (ns := [.ty "list", .ty "tuple"]) T.kn (by decide) T.n_isinstance (p_var 0) (p_names2 (pe_bltn (v := .ty "list") rfl T.n_list (by decide +kernel) rfl) (pe_bltn (v := .ty "tuple") rfl T.n_tuple (by decide +kernel) rfl))))) (t_or1 (t_cmp (o_neX (uH hr)) b_neX (p_callB c_len b_len rfl T.n_len boot_len (a_cons (p_var 0) a_nil)) (p_callB c_len b_len rfl T.n_len boot_len (a_cons (p_var 1) a_nil)) (nomark _))))) (s_one (s_ret p_bl)) s_nil) (s_cons s_never (s_one (s_ret p_bl)))))))))
theorem sc_Schema_iter_ : FnScope ["self"] ["self"] (defScope s_Schema_iter_) := ⟨rfl, rfl, rfl, by decide +kernel, rfl, by decide +kernel, by decide +kernel⟩
end
noncomputable def c_0 : CT := CT.nil
noncomputable def c_1 : CT := c_0.add ("merged", none) (runDef 5 2 b_merged c_0)
noncomputable def c_2 : CT := c_1.add ("ascending", none) (runDef 7 1 b_ascending c_1)
noncomputable def c_3 : CT := c_2.add ("is_integer", none) (runDef 3 3 b_is_integer c_2)
noncomputable def c_4 : CT := c_3.add ("is_word", none) (runDef 2 1 b_is_word c_3)
noncomputable def c_5 : CT := c_4.add ("Schema", some "__init__") (runDef 5 2 b_Schema_init c_4)
noncomputable def c_6 : CT := c_5.add ("Schema", some "__getitem__") (runDef 2 2 b_Schema_getitem c_5)
noncomputable def c_7 : CT := c_6.add ("schema_of", none) (runDef 2 1 b_schema_of c_6)
noncomputable def c_8 : CT := c_7.add ("_law_start", none) (runDef 2 1 b_law_start c_7)
noncomputable def c_9 : CT := c_8.add ("_law_draw", none) (runDef 5 2 b_law_draw c_8)
noncomputable def c_10 : CT := c_9.add ("_law_is_int", none) (runDef 1 1 b_law_is_int c_9)
noncomputable def c_11 : CT := c_10.add ("_law_same", none) (fun _ => none)
noncomputable def c_12 : CT := c_11.add ("_law_same", none) (runDef 3 2 b_law_same c_11)
noncomputable def c_13 : CT := c_12.add ("_law_same", none) (runDef 3 2 b_law_same c_12)
noncomputable def c_14 : CT := c_13.add ("_law_same", none) (runDef 3 2 b_law_same c_13)
noncomputable def c_15 : CT := c_14.add ("_law_same", none) (runDef 3 2 b_law_same c_14)
noncomputable def c_16 : CT := c_15.add ("_law_same", none) (runDef 3 2 b_law_same c_15)
noncomputable def c_17 : CT := c_16.add ("_law_same", none) (runDef 3 2 b_law_same c_16)
noncomputable def c_18 : CT := c_17.add ("_law_same", none) (runDef 3 2 b_law_same c_17)
noncomputable def c_19 : CT := c_18.add ("_law_same", none) (runDef 3 2 b_law_same c_18)
noncomputable def c_20 : CT := c_19.add ("_law_word", none) (runDef 4 1 b_law_word c_19)
noncomputable def c_21 : CT := c_20.add ("_law_pool", none) (runDef 8 2 b_law_pool c_20)
noncomputable def c_22 : CT := c_21.add ("_law_bad_word", none) (runDef 5 1 b_law_bad_word c_21)
noncomputable def c_23 : CT := c_22.add ("_law_bad_width", none) (runDef 2 1 b_law_bad_width c_22)
noncomputable def c_24 : CT := c_23.add ("_law_spoilt", none) (runDef 4 3 b_law_spoilt c_23)
noncomputable def c_25 : CT := c_24.add ("_law_is_word", none) (runDef 3 1 b_law_is_word c_24)
noncomputable def c_26 : CT := c_25.add ("_law_due", none) (runDef 3 1 b_law_due c_25)
noncomputable def c_27 : CT := c_26.add ("_law_made", none) (runDef 3 3 b_law_made c_26)
noncomputable def c_28 : CT := c_27.add ("_law_told", none) (runDef 6 3 b_law_told c_27)
noncomputable def c_29 : CT := c_28.add ("_law_strange", none) (runDef 4 2 b_law_strange c_28)
theorem sc_BadWidth_init : FnScope ["self", "table"] ["self", "table"] (defScope s_BadWidth_init) := ⟨rfl, rfl, rfl, by decide +kernel, rfl, by decide +kernel, by decide +kernel⟩
theorem sc_BadWord_init : FnScope ["self", "word"] ["self", "word"] (defScope s_BadWord_init) := ⟨rfl, rfl, rfl, by decide +kernel, rfl, by decide +kernel, by decide +kernel⟩
theorem sc_DuplicateTable_init : FnScope ["self", "table"] ["self", "table"] (defScope s_DuplicateTable_init) := ⟨rfl, rfl, rfl, by decide +kernel, rfl, by decide +kernel, by decide +kernel⟩
theorem sc_TooLarge_init : FnScope ["self", "most"] ["self", "most"] (defScope s_TooLarge_init) := ⟨rfl, rfl, rfl, by decide +kernel, rfl, by decide +kernel, by decide +kernel⟩
theorem sc_UnknownTable_init : FnScope ["self", "table"] ["self", "table"] (defScope s_UnknownTable_init) := ⟨rfl, rfl, rfl, by decide +kernel, rfl, by decide +kernel, by decide +kernel⟩
theorem exs {K : PySem.W.Frag} (cc : obsP ex fn K = valP fn) : (fa.all fun f => f.ok K) = true ∧ knB K cl fl = true ∧ (cns.all fun q => conB K q.1 q.2.1 q.2.2) = true ∧ (prs.all fun q => propB K q.1 q.2) = true ∧ (mts.all fun q => PySem.W.fnIn K (He.fAd K (q.1, some q.2))) = true ∧ true = true ∧ xwB K xt asked xf = true ∧ (mkts.all fun q => mktB K q) = true ∧ ((mkxs.all fun q => mkxB K q.1 q.2.1 q.2.2) = true ∧ (cmts.all fun q => cmK K q.1 q.2) = true) := by
  have e := saysP_ex cc
  unfold ex at e
  simpa only [Bool.and_eq_true] using e
theorem facts {P : Program} {w : World} {K : PySem.W.Frag} {h : Heap} {mg : Str → Option Value} (X : K.In h) (G : h.Ns mainGlobals mg) (cc : obsP ex fn K = valP fn) : Tx K mg := by
  obtain ⟨e1, e2, e3, e4, e5, e6, e7, e8, e9, e10⟩ := exs cc
  exact ⟨He.free_ok X G (all_get e1 0 (x := .free "ValueError")), He.free_ok X G (all_get e1 1 (x := .free "bool")), He.free_ok X G (all_get e1 2 (x := .free "int")), He.free_ok X G (all_get e1 3 (x := .free "isinstance")), He.free_ok X G (all_get e1 4 (x := .free "iter")), He.free_ok X G (all_get e1 5 (x := .free "len")), He.free_ok X G (all_get e1 6 (x := .free "list")), He.free_ok X G (all_get e1 7 (x := .free "range")), He.free_ok X G (all_get e1 8 (x := .free "str")), He.free_ok X G (all_get e1 9 (x := .free "tuple")), He.glo_ok X G (all_get e1 10 (x := .glo "_law_bad_width")), (all_get e1 11 (x := .keep "_law_bad_width")), He.glo_ok X G (all_get e1 12 (x := .glo "_law_bad_word")), (all_get e1 13 (x := .keep "_law_bad_word")), He.glo_ok X G (all_get e1 14 (x := .glo "_law_draw")), (all_get e1 15 (x := .keep "_law_draw")), He.glo_ok X G (all_get e1 16 (x := .glo "_law_due")), (all_get e1 17 (x := .keep "_law_due")), He.glo_ok X G (all_get e1 18 (x := .glo "_law_is_int")), (all_get e1 19 (x := .keep "_law_is_int")), He.glo_ok X G (all_get e1 20 (x := .glo "_law_is_word")), (all_get e1 21 (x := .keep "_law_is_word")), He.glo_ok X G (all_get e1 22 (x := .glo "_law_made")), (all_get e1 23 (x := .keep "_law_made")), He.glo_ok X G (all_get e1 24 (x := .glo "_law_pool")), (all_get e1 25 (x := .keep "_law_pool")), He.glo_ok X G (all_get e1 26 (x := .glo "_law_same")), (all_get e1 27 (x := .keep "_law_same")), He.glo_ok X G (all_get e1 28 (x := .glo "_law_spoilt")), (all_get e1 29 (x := .keep "_law_spoilt")), He.glo_ok X G (all_get e1 30 (x := .glo "_law_start")), (all_get e1 31 (x := .keep "_law_start")), He.glo_ok X G (all_get e1 32 (x := .glo "_law_strange")), (all_get e1 33 (x := .keep "_law_strange")), He.glo_ok X G (all_get e1 34 (x := .glo "_law_told")), (all_get e1 35 (x := .keep "_law_told")), He.glo_ok X G (all_get e1 36 (x := .glo "_law_word")), (all_get e1 37 (x := .keep "_law_word")), He.glo_ok X G (all_get e1 38 (x := .glo "ascending")), (all_get e1 39 (x := .keep "ascending")), He.glo_ok X G (all_get e1 40 (x := .glo "is_integer")), (all_get e1 41 (x := .keep "is_integer")), He.glo_ok X G (all_get e1 42 (x := .glo "is_word")), (all_get e1 43 (x := .keep "is_word")), He.glo_ok X G (all_get e1 44 (x := .glo "merged")), (all_get e1 45 (x := .keep "merged")), He.glo_ok X G (all_get e1 46 (x := .glo "schema_of")), (all_get e1 47 (x := .keep "schema_of")), He.int_ok X G (all_get e1 48 (x := .int "MAX_WORD" (20))), He.str_ok X G (all_get e1 49 (x := .str "WORD_CHARACTERS" "ABCDEFGHIJKLMNOPQRSTUVWXYZabcdefghijklmnopqrstuvwxyz0123456789_")), He.glo_ok X G (all_get e1 50 (x := .glo "Schema")), He.mkr_ok (all_get e1 51 (x := .mkr "Schema")), all_get e5 0 (x := ("Schema", "__init__")), conB_ok (all_get e3 0 (x := ("Schema", "MAX_TABLES", 8))), conB_ok (all_get e3 1 (x := ("Schema", "MAX_WIDTH", 4))), knB_ok e2, He.glo_ok X G (all_get e1 52 (x := .glo "BadWidth")), He.glo_ok X G (all_get e1 53 (x := .glo "BadWord")), He.glo_ok X G (all_get e1 54 (x := .glo "DuplicateTable")), He.glo_ok X G (all_get e1 55 (x := .glo "InputError")), He.glo_ok X G (all_get e1 56 (x := .glo "PinError")), He.glo_ok X G (all_get e1 57 (x := .glo "TooLarge")), He.glo_ok X G (all_get e1 58 (x := .glo "UnknownTable")), xwB_ok e7⟩
theorem its_ok {P : Program} {w : World} {K : PySem.W.Frag} {h : Heap} {mg : Str → Option Value} (X : K.In h) (G : h.Ns mainGlobals mg) (cc : obsP ex fn K = valP fn) {base : Heap} : ∀ C f, ic.lookup C = some f → Cls K (He.ga K C) ∧ Meth K (He.ga K C) "__iter__" (He.fAd K (C, some "__iter__")) ∧ ItM P w K mg base (He.fAd K (C, some "__iter__")) (He.ga K C) f := by
  obtain ⟨e1, e2, e3, e4, e5, e6, e7, e8, e9, e10⟩ := exs cc
  have T := facts (P := P) (w := w) X G cc
  obtain ⟨fd0, F0⟩ := saysP_def cc 22 (d := dd_Schema_iter_)
  have a0 : adr K ("Schema", some "__iter__") = He.fAd K ("Schema", some "__iter__") := adr_fn (all_get e5 2 (x := ("Schema", "__iter__")))
  intro C f h
  have hC : (C = "Schema" ∧ f = "names") := by
    have q := lookup_mem h
    simp only [ic, List.mem_cons, Prod.mk.injEq, List.not_mem_nil, or_false] at q
    exact q
  rcases hC with ⟨rfl, rfl⟩
  · refine ⟨T.kn.cls _ (by decide), He.meth_ok (all_get e1 60 (x := .meth "Schema" "__iter__")), ?_⟩
    rw [← a0]
    exact itm_ok F0 sc_Schema_iter_ rfl rfl (F0.bindsN fun _ _ _ _ _ _ us hl => match us, hl with | [_], _ => rfl) (fun X h => by show X.env.kindOf _ = _; unfold PySem.Env.kindOf; rw [h]; rfl) T.n_iter (T.kn.cls _ (by decide)) (T.kn.fld ("Schema", "names") (by decide))
theorem xs_ok {P : Program} {w : World} {K : PySem.W.Frag} {h : Heap} {mg : Str → Option Value} (X : K.In h) (G : h.Ns mainGlobals mg) (cc : obsP ex fn K = valP fn) {base : Heap} : Xs P w K mg base := by
  obtain ⟨e1, e2, e3, e4, e5, e6, e7, e8, e9, e10⟩ := exs cc
  have T := facts (P := P) (w := w) X G cc
  obtain ⟨fd0, F0⟩ := saysP_def cc 23 (d := dd_BadWidth_init)
  obtain ⟨fd1, F1⟩ := saysP_def cc 24 (d := dd_BadWord_init)
  obtain ⟨fd2, F2⟩ := saysP_def cc 25 (d := dd_DuplicateTable_init)
  obtain ⟨fd3, F3⟩ := saysP_def cc 26 (d := dd_TooLarge_init)
  obtain ⟨fd4, F4⟩ := saysP_def cc 27 (d := dd_UnknownTable_init)
  exact ⟨mkx_ok (m := "not a width") (all_get e9 0 (x := ("BadWidth", "table", "InputError"))) T.gx_BadWidth F0 sc_BadWidth_init (F0.bindsN (ps := ["self", "table"]) fun _ _ _ _ _ _ us hl => match us, hl with | [_, _], _ => rfl) (fun fa cdv A outer s H E => pss_cons (ps_expr (pe_binit rfl T.gx_InputError (mkxB_bi (all_get e9 0 (x := ("BadWidth", "table", "InputError")))) (pa_cons (pv 0) (pa_cons pe_str pa_nil)) (by decide))) (pss_one (ps_ost (pv 0) (pv 1)))),
    mkx_ok (m := "not a word") (all_get e9 1 (x := ("BadWord", "word", "InputError"))) T.gx_BadWord F1 sc_BadWord_init (F1.bindsN (ps := ["self", "word"]) fun _ _ _ _ _ _ us hl => match us, hl with | [_, _], _ => rfl) (fun fa cdv A outer s H E => pss_cons (ps_expr (pe_binit rfl T.gx_InputError (mkxB_bi (all_get e9 1 (x := ("BadWord", "word", "InputError")))) (pa_cons (pv 0) (pa_cons pe_str pa_nil)) (by decide))) (pss_one (ps_ost (pv 0) (pv 1)))),
    mkx_ok (m := "a table is named twice") (all_get e9 2 (x := ("DuplicateTable", "table", "InputError"))) T.gx_DuplicateTable F2 sc_DuplicateTable_init (F2.bindsN (ps := ["self", "table"]) fun _ _ _ _ _ _ us hl => match us, hl with | [_, _], _ => rfl) (fun fa cdv A outer s H E => pss_cons (ps_expr (pe_binit rfl T.gx_InputError (mkxB_bi (all_get e9 2 (x := ("DuplicateTable", "table", "InputError")))) (pa_cons (pv 0) (pa_cons pe_str pa_nil)) (by decide))) (pss_one (ps_ost (pv 0) (pv 1)))),
    mkx_ok (m := "a bound is passed") (all_get e9 3 (x := ("TooLarge", "most", "PinError"))) T.gx_TooLarge F3 sc_TooLarge_init (F3.bindsN (ps := ["self", "most"]) fun _ _ _ _ _ _ us hl => match us, hl with | [_, _], _ => rfl) (fun fa cdv A outer s H E => pss_cons (ps_expr (pe_binit rfl T.gx_PinError (mkxB_bi (all_get e9 3 (x := ("TooLarge", "most", "PinError")))) (pa_cons (pv 0) (pa_cons pe_str pa_nil)) (by decide))) (pss_one (ps_ost (pv 0) (pv 1)))),
    mkx_ok (m := "the schema has no such table") (all_get e9 4 (x := ("UnknownTable", "table", "InputError"))) T.gx_UnknownTable F4 sc_UnknownTable_init (F4.bindsN (ps := ["self", "table"]) fun _ _ _ _ _ _ us hl => match us, hl with | [_, _], _ => rfl) (fun fa cdv A outer s H E => pss_cons (ps_expr (pe_binit rfl T.gx_InputError (mkxB_bi (all_get e9 4 (x := ("UnknownTable", "table", "InputError")))) (pa_cons (pv 0) (pa_cons pe_str pa_nil)) (by decide))) (pss_one (ps_ost (pv 0) (pv 1))))⟩
theorem towerH {P : Program} {w : World} {K : PySem.W.Frag} {h : Heap} {mg : Str → Option Value} (X : K.In h) (G : h.Ns mainGlobals mg) (cc : obsP ex fn K = valP fn) {base : Heap} : TowerH P w K mg base 2 hc := by
  have T := facts (P := P) (w := w) X G cc
  obtain ⟨fd10, F10⟩ := saysP_def cc 10 (d := dd_law_same)
  exact TowerH.add (TowerH.nil (k := 0)) (fn_okH F10 sc_hlaw_same fun cdv A outer s H E p hot hr => dh_law_same T hr hot) (F10.bindsN (ps := ["_law_a", "_law_b"]) fun _ _ _ _ _ _ us hl => match us, hl with | [_, _], _ => rfl)
theorem tower {P : Program} {w : World} {K : PySem.W.Frag} {h : Heap} {mg : Str → Option Value} (X : K.In h) (G : h.Ns mainGlobals mg) (cc : obsP ex fn K = valP fn) {base : Heap} : Tower P w K mg base 60 c_29 := by
  obtain ⟨e1, e2, e3, e4, e5, e6, e7, e8, e9, e10⟩ := exs cc
  have T := facts (P := P) (w := w) X G cc
  have It := its_ok (P := P) (w := w) (base := base) X G cc
  have Xn := xs_ok (P := P) (w := w) (base := base) X G cc
  have Th := towerH (P := P) (w := w) (base := base) X G cc
  have t0 : Tower P w K mg base 4 c_0 := Tower.nil1
  obtain ⟨fd0, F0⟩ := saysP_def cc 0 (d := dd_merged)
  have t1 : Tower P w K mg base 6 c_1 := t0.add (fnP_of rfl (fn_ok F0 sc_merged fun cdv A outer s H E hr => d_merged T Xn Th (t0.fns (hr := hr)) hr )) (bindA_of F0 (F0.bindsN (ps := ["first", "second"]) fun _ _ _ _ _ _ us hl => match us, hl with | [_, _], _ => rfl) rfl) (fun m h => nomatch h)
  obtain ⟨fd1, F1⟩ := saysP_def cc 1 (d := dd_ascending)
  have t2 : Tower P w K mg base 8 c_2 := t1.add (fnP_of rfl (fn_ok F1 sc_ascending fun cdv A outer s H E hr => d_ascending T Xn Th (t1.fns (hr := hr)) hr rfl)) (bindA_of F1 (F1.bindsN (ps := ["things"]) fun _ _ _ _ _ _ us hl => match us, hl with | [_], _ => rfl) rfl) (fun m h => nomatch h)
  obtain ⟨fd2, F2⟩ := saysP_def cc 2 (d := dd_is_integer)
  have t3 : Tower P w K mg base 10 c_3 := t2.add (fnP_of rfl (fn_ok F2 sc_is_integer fun cdv A outer s H E hr => d_is_integer T Xn Th (t2.fns (hr := hr)) hr )) (bindA_of F2 (F2.bindsN (ps := ["value", "least", "most"]) fun _ _ _ _ _ _ us hl => match us, hl with | [_, _, _], _ => rfl) rfl) (fun m h => nomatch h)
  obtain ⟨fd3, F3⟩ := saysP_def cc 3 (d := dd_is_word)
  have t4 : Tower P w K mg base 12 c_4 := t3.add (fnP_of rfl (fn_ok F3 sc_is_word fun cdv A outer s H E hr => d_is_word T Xn Th (t3.fns (hr := hr)) hr )) (bindA_of F3 (F3.bindsN (ps := ["text"]) fun _ _ _ _ _ _ us hl => match us, hl with | [_], _ => rfl) rfl) (fun m h => nomatch h)
  obtain ⟨fd4, F4⟩ := saysP_def cc 4 (d := dd_Schema_init)
  have t5 : Tower P w K mg base 14 c_5 := t4.add (fnP_of (by decide) (fn_ok F4 sc_Schema_init fun cdv A outer s H E hr => d_Schema_init T Xn Th (t4.fns (hr := hr)) hr rfl rfl rfl)) (bindA_of F4 (F4.bindsN (ps := ["self", "tables"]) fun _ _ _ _ _ _ us hl => match us, hl with | [_, _], _ => rfl) rfl) (fun m h hn _ => by cases h; exact (hn rfl).elim)
  obtain ⟨fd5, F5⟩ := saysP_def cc 5 (d := dd_Schema_getitem)
  have t6 : Tower P w K mg base 16 c_6 := t5.add (fnP_of (by decide) (fn_ok F5 sc_Schema_getitem fun cdv A outer s H E hr => d_Schema_getitem T Xn Th (t5.fns (hr := hr)) hr )) (bindA_of F5 (F5.bindsN (ps := ["self", "name"]) fun _ _ _ _ _ _ us hl => match us, hl with | [_, _], _ => rfl) rfl) (fun m h _ _ => by cases h; exact ⟨T.kn.cls _ (by decide), He.meth_ok (all_get e1 59 (x := .meth "Schema" "__getitem__")), all_get e5 1 (x := ("Schema", "__getitem__"))⟩)
  obtain ⟨fd6, F6⟩ := saysP_def cc 6 (d := dd_schema_of)
  have t7 : Tower P w K mg base 18 c_7 := t6.addK (fn_okK F6 sc_schema_of rfl fun cdv A outer s H E hr => d_schema_of T Xn Th (t6.fns (hr := hr)) hr rfl)
  obtain ⟨fd7, F7⟩ := saysP_def cc 7 (d := dd_law_start)
  have t8 : Tower P w K mg base 20 c_8 := t7.add (fnP_of rfl (fn_ok F7 sc_law_start fun cdv A outer s H E hr => d_law_start T Xn Th (t7.fns (hr := hr)) hr )) (bindA_of F7 (F7.bindsN (ps := ["_law_script"]) fun _ _ _ _ _ _ us hl => match us, hl with | [_], _ => rfl) rfl) (fun m h => nomatch h)
  obtain ⟨fd8, F8⟩ := saysP_def cc 8 (d := dd_law_draw)
  have t9 : Tower P w K mg base 22 c_9 := t8.add (fnP_of rfl (fn_ok F8 sc_law_draw fun cdv A outer s H E hr => d_law_draw T Xn Th (t8.fns (hr := hr)) hr )) (bindA_of F8 (F8.bindsN (ps := ["_law_state", "_law_limit"]) fun _ _ _ _ _ _ us hl => match us, hl with | [_, _], _ => rfl) rfl) (fun m h => nomatch h)
  obtain ⟨fd9, F9⟩ := saysP_def cc 9 (d := dd_law_is_int)
  have t10 : Tower P w K mg base 24 c_10 := t9.add (fnP_of rfl (fn_ok F9 sc_law_is_int fun cdv A outer s H E hr => d_law_is_int T Xn Th (t9.fns (hr := hr)) hr )) (bindA_of F9 (F9.bindsN (ps := ["_law_x"]) fun _ _ _ _ _ _ us hl => match us, hl with | [_], _ => rfl) rfl) (fun m h => nomatch h)
  obtain ⟨fd10, F10⟩ := saysP_def cc 10 (d := dd_law_same)
  have t11 : Tower P w K mg base 24 c_11 := t10.none (bindA_of F10 (F10.bindsN (ps := ["_law_a", "_law_b"]) fun _ _ _ _ _ _ us hl => match us, hl with | [_, _], _ => rfl) rfl) rfl
  have t12 : Tower P w K mg base 26 c_12 := t11.add (fnP_of rfl (fn_ok F10 sc_law_same fun cdv A outer s H E hr => d_law_same T Xn Th (t11.fns (hr := hr)) hr rfl)) (bindA_of F10 (F10.bindsN (ps := ["_law_a", "_law_b"]) fun _ _ _ _ _ _ us hl => match us, hl with | [_, _], _ => rfl) rfl) (fun m h => nomatch h)
  have t13 : Tower P w K mg base 28 c_13 := t12.add (fnP_of rfl (fn_ok F10 sc_law_same fun cdv A outer s H E hr => d_law_same T Xn Th (t12.fns (hr := hr)) hr rfl)) (bindA_of F10 (F10.bindsN (ps := ["_law_a", "_law_b"]) fun _ _ _ _ _ _ us hl => match us, hl with | [_, _], _ => rfl) rfl) (fun m h => nomatch h)
  have t14 : Tower P w K mg base 30 c_14 := t13.add (fnP_of rfl (fn_ok F10 sc_law_same fun cdv A outer s H E hr => d_law_same T Xn Th (t13.fns (hr := hr)) hr rfl)) (bindA_of F10 (F10.bindsN (ps := ["_law_a", "_law_b"]) fun _ _ _ _ _ _ us hl => match us, hl with | [_, _], _ => rfl) rfl) (fun m h => nomatch h)
  have t15 : Tower P w K mg base 32 c_15 := t14.add (fnP_of rfl (fn_ok F10 sc_law_same fun cdv A outer s H E hr => d_law_same T Xn Th (t14.fns (hr := hr)) hr rfl)) (bindA_of F10 (F10.bindsN (ps := ["_law_a", "_law_b"]) fun _ _ _ _ _ _ us hl => match us, hl with | [_, _], _ => rfl) rfl) (fun m h => nomatch h)
  have t16 : Tower P w K mg base 34 c_16 := t15.add (fnP_of rfl (fn_ok F10 sc_law_same fun cdv A outer s H E hr => d_law_same T Xn Th (t15.fns (hr := hr)) hr rfl)) (bindA_of F10 (F10.bindsN (ps := ["_law_a", "_law_b"]) fun _ _ _ _ _ _ us hl => match us, hl with | [_, _], _ => rfl) rfl) (fun m h => nomatch h)
  have t17 : Tower P w K mg base 36 c_17 := t16.add (fnP_of rfl (fn_ok F10 sc_law_same fun cdv A outer s H E hr => d_law_same T Xn Th (t16.fns (hr := hr)) hr rfl)) (bindA_of F10 (F10.bindsN (ps := ["_law_a", "_law_b"]) fun _ _ _ _ _ _ us hl => match us, hl with | [_, _], _ => rfl) rfl) (fun m h => nomatch h)
  have t18 : Tower P w K mg base 38 c_18 := t17.add (fnP_of rfl (fn_ok F10 sc_law_same fun cdv A outer s H E hr => d_law_same T Xn Th (t17.fns (hr := hr)) hr rfl)) (bindA_of F10 (F10.bindsN (ps := ["_law_a", "_law_b"]) fun _ _ _ _ _ _ us hl => match us, hl with | [_, _], _ => rfl) rfl) (fun m h => nomatch h)
  have t19 : Tower P w K mg base 40 c_19 := t18.add (fnP_of rfl (fn_ok F10 sc_law_same fun cdv A outer s H E hr => d_law_same T Xn Th (t18.fns (hr := hr)) hr rfl)) (bindA_of F10 (F10.bindsN (ps := ["_law_a", "_law_b"]) fun _ _ _ _ _ _ us hl => match us, hl with | [_, _], _ => rfl) rfl) (fun m h => nomatch h)
  obtain ⟨fd11, F11⟩ := saysP_def cc 11 (d := dd_law_word)
  have t20 : Tower P w K mg base 42 c_20 := t19.add (fnP_of rfl (fn_ok F11 sc_law_word fun cdv A outer s H E hr => d_law_word T Xn Th (t19.fns (hr := hr)) hr rfl)) (bindA_of F11 (F11.bindsN (ps := ["_law_state"]) fun _ _ _ _ _ _ us hl => match us, hl with | [_], _ => rfl) rfl) (fun m h => nomatch h)
  obtain ⟨fd12, F12⟩ := saysP_def cc 12 (d := dd_law_pool)
  have t21 : Tower P w K mg base 44 c_21 := t20.add (fnP_of rfl (fn_ok F12 sc_law_pool fun cdv A outer s H E hr => d_law_pool T Xn Th (t20.fns (hr := hr)) hr rfl rfl)) (bindA_of F12 (F12.bindsN (ps := ["_law_state", "_law_count"]) fun _ _ _ _ _ _ us hl => match us, hl with | [_, _], _ => rfl) rfl) (fun m h => nomatch h)
  obtain ⟨fd13, F13⟩ := saysP_def cc 13 (d := dd_law_bad_word)
  have t22 : Tower P w K mg base 46 c_22 := t21.add (fnP_of rfl (fn_ok F13 sc_law_bad_word fun cdv A outer s H E hr => d_law_bad_word T Xn Th (t21.fns (hr := hr)) hr rfl rfl)) (bindA_of F13 (F13.bindsN (ps := ["_law_state"]) fun _ _ _ _ _ _ us hl => match us, hl with | [_], _ => rfl) rfl) (fun m h => nomatch h)
  obtain ⟨fd14, F14⟩ := saysP_def cc 14 (d := dd_law_bad_width)
  have t23 : Tower P w K mg base 48 c_23 := t22.add (fnP_of rfl (fn_ok F14 sc_law_bad_width fun cdv A outer s H E hr => d_law_bad_width T Xn Th (t22.fns (hr := hr)) hr rfl)) (bindA_of F14 (F14.bindsN (ps := ["_law_state"]) fun _ _ _ _ _ _ us hl => match us, hl with | [_], _ => rfl) rfl) (fun m h => nomatch h)
  obtain ⟨fd15, F15⟩ := saysP_def cc 15 (d := dd_law_spoilt)
  have t24 : Tower P w K mg base 50 c_24 := t23.add (fnP_of rfl (fn_ok F15 sc_law_spoilt fun cdv A outer s H E hr => d_law_spoilt T Xn Th (t23.fns (hr := hr)) hr rfl rfl rfl)) (bindA_of F15 (F15.bindsN (ps := ["_law_state", "_law_names", "_law_pair"]) fun _ _ _ _ _ _ us hl => match us, hl with | [_, _, _], _ => rfl) rfl) (fun m h => nomatch h)
  obtain ⟨fd16, F16⟩ := saysP_def cc 16 (d := dd_law_is_word)
  have t25 : Tower P w K mg base 52 c_25 := t24.add (fnP_of rfl (fn_ok F16 sc_law_is_word fun cdv A outer s H E hr => d_law_is_word T Xn Th (t24.fns (hr := hr)) hr )) (bindA_of F16 (F16.bindsN (ps := ["_law_text"]) fun _ _ _ _ _ _ us hl => match us, hl with | [_], _ => rfl) rfl) (fun m h => nomatch h)
  obtain ⟨fd17, F17⟩ := saysP_def cc 17 (d := dd_law_due)
  have t26 : Tower P w K mg base 54 c_26 := t25.add (fnP_of rfl (fn_ok F17 sc_law_due fun cdv A outer s H E hr => d_law_due T Xn Th (t25.fns (hr := hr)) hr rfl rfl)) (bindA_of F17 (F17.bindsN (ps := ["_law_pairs"]) fun _ _ _ _ _ _ us hl => match us, hl with | [_], _ => rfl) rfl) (fun m h => nomatch h)
  obtain ⟨fd18, F18⟩ := saysP_def cc 18 (d := dd_law_made)
  have t27 : Tower P w K mg base 56 c_27 := t26.add (fnP_of rfl (fn_ok F18 sc_law_made fun cdv A outer s H E hr => d_law_made T Xn Th (t26.fns (hr := hr)) hr rfl rfl)) (bindA_of F18 (F18.bindsN (ps := ["_law_kind", "_law_pairs", "_law_width"]) fun _ _ _ _ _ _ us hl => match us, hl with | [_, _, _], _ => rfl) rfl) (fun m h => nomatch h)
  obtain ⟨fd19, F19⟩ := saysP_def cc 19 (d := dd_law_told)
  have t28 : Tower P w K mg base 58 c_28 := t27.add (fnP_of rfl (fn_ok F19 sc_law_told fun cdv A outer s H E hr => d_law_told T Xn Th (t27.fns (hr := hr)) hr rfl rfl)) (bindA_of F19 (F19.bindsN (ps := ["_law_kind", "_law_pairs", "_law_width"]) fun _ _ _ _ _ _ us hl => match us, hl with | [_, _, _], _ => rfl) rfl) (fun m h => nomatch h)
  obtain ⟨fd20, F20⟩ := saysP_def cc 20 (d := dd_law_strange)
  have t29 : Tower P w K mg base 60 c_29 := t28.add (fnP_of rfl (fn_ok F20 sc_law_strange fun cdv A outer s H E hr => d_law_strange T Xn Th (t28.fns (hr := hr)) hr )) (bindA_of F20 (F20.bindsN (ps := ["_law_schema", "_law_word_here"]) fun _ _ _ _ _ _ us hl => match us, hl with | [_, _], _ => rfl) rfl) (fun m h => nomatch h)
  exact t29
end Pd.L
open PySem PySem.W PySem.Calls PyProof.Rows
theorem Pd.L.holds_of (hl : ∀ ns : List Int, ns.length ≤ 63 → Pd.runDef 24 1 Pd.L.b_law Pd.L.c_29 [.sh (.scr ns)] = some (.ret (.sh (.bl true)) [none])) : PySem.Challenge.rw_pinnedasks_k02_schema_refusals.Holds := by
  w_on; o_law
  refine HandSHeadRun.head_any (r := OpenLaw.row PySem.Challenge.rw_pinnedasks_k02_schema_refusals) (q := view (OpenLaw.row PySem.Challenge.rw_pinnedasks_k02_schema_refusals).prog [33]) (H := Pd.L.hk) (ob := Pd.L.ob) (M := 20000) (loose := Pd.L.loose) (d := HandSHeadRun.topDef (OpenLaw.row PySem.Challenge.rw_pinnedasks_k02_schema_refusals).prog 33) (kwd := []) Pd.L.ob_eq
    (by kernel_rfl) (fun s => by kernel_rfl) Pd.L.run (by kernel_rfl) (by kernel_rfl) (by kernel_rfl) (by rfl) (by first | assumption | decide +kernel) (by decide +kernel) ⟨rfl, rfl, rfl, rfl, rfl, by decide +kernel⟩ ?hw ?hc
  case hw => w_witness2
  case hc =>
    refine L2.walk_ofE (l := PySem.Challenge.rw_pinnedasks_k02_schema_refusals) (n := 63) (k := 62) (x := "_law_script") (CX := L2.CX0) rfl (by decide) (by kernel_rfl) ⟨rfl, by decide, by decide⟩ ?F (fun _ _ _ _ z => z)
    intro w mg fa h Y G hmg0
    obtain ⟨K, KX, cc⟩ := Y
    have hmg : mg ("law" : PySem.Str) = some (.ref fa) := by
      have e : (HandSHeadRun.topDef (OpenLaw.row PySem.Challenge.rw_pinnedasks_k02_schema_refusals).prog 33).name = ("law" : PySem.Str) := by kernel_rfl
      rw [← e]
      exact hmg0
    obtain ⟨fd, F⟩ := Pd.saysP_def cc 21 (d := Pd.L.dd_law)
    have e := hmg.symm.trans (He.glo_ok KX G (Pd.all_get (Pd.L.exs cc).1 61 (x := .glo "law")))
    cases e
    have b := L2.FunD.bindsA (ps := ["_law_script"]) F fun _ _ _ _ _ _ us hl => match us, hl with | [_], _ => rfl
    refine ⟨K, fd, fun vs H Q _ => Pd.spOf K (Pd.runDef 24 1 Pd.L.b_law Pd.L.c_29) vs H Q fun _ _ _ => False, KX, fun s u => b s [u] rfl, fun H a ns hlen _ hS => Pd.law_sp (hl ns hlen) H a hS, fun base KB GB => ?_⟩
    have T := Pd.L.facts (P := (PySem.Challenge.rw_pinnedasks_k02_schema_refusals).prog) (w := w) KX G cc
    have t := Pd.L.tower (P := (PySem.Challenge.rw_pinnedasks_k02_schema_refusals).prog) (w := w) (base := base) KX G cc
    exact Pd.cx0 (Pd.fn_ok F Pd.L.sc_law fun cdv A outer s H E hr => Pd.L.d_law T (Pd.L.xs_ok (P := (PySem.Challenge.rw_pinnedasks_k02_schema_refusals).prog) (w := w) (base := base) KX G cc) (Pd.L.towerH (P := (PySem.Challenge.rw_pinnedasks_k02_schema_refusals).prog) (w := w) (base := base) KX G cc) (t.fns (hr := hr)) hr rfl rfl rfl rfl rfl rfl rfl rfl rfl rfl rfl)
namespace Pd.L
open PySem PySem.Spec L2
theorem k_law_start_StartOk : StartOk (runDef 2 1 b_law_start c_7) := start_ok c_7 
theorem k_law_draw_DrawOk : DrawOk (runDef 5 2 b_law_draw c_8) := draw_ok c_8 
theorem k_law_word_LWordOk : LWordOk (runDef 4 1 b_law_word c_19) := law_word_ok c_19 ⟨_, rfl, k_law_draw_DrawOk⟩
theorem k_law_bad_word_LBadWOk : LBadWOk (runDef 5 1 b_law_bad_word c_21) := law_bad_word_ok c_21 ⟨_, rfl, k_law_draw_DrawOk⟩ ⟨_, rfl, k_law_word_LWordOk⟩
theorem k_law_bad_width_LBadDOk : LBadDOk (runDef 2 1 b_law_bad_width c_22) := law_bad_width_ok c_22 ⟨_, rfl, k_law_draw_DrawOk⟩
theorem k_law_pool_LPoolOk : LPoolOk (runDef 8 2 b_law_pool c_20) := law_pool_ok c_20 ⟨_, rfl, k_law_word_LWordOk⟩ ⟨_, rfl, k_law_draw_DrawOk⟩
theorem k_law_spoilt_LSpl2Ok : LSpl2Ok (runDef 4 3 b_law_spoilt c_23) := law_spoilt2_ok c_23 ⟨_, rfl, k_law_draw_DrawOk⟩ ⟨_, rfl, k_law_bad_word_LBadWOk⟩ ⟨_, rfl, k_law_bad_width_LBadDOk⟩
theorem k_merged_MergedOk : MergedOk (runDef 5 2 b_merged c_0) := merged_ok c_0 
theorem k_ascending_AscOk : AscOk (runDef 7 1 b_ascending c_1) := asc_ok c_1 ⟨_, rfl, k_merged_MergedOk⟩
theorem k_is_word_WordOk : WordOk (runDef 2 1 b_is_word c_3) := word_ok c_3 
theorem k_is_integer_IntegerOk : IntegerOk (runDef 3 3 b_is_integer c_2) := integer_ok c_2 
theorem k_Schema_init_SchInitOk : SchInitOk (runDef 5 2 b_Schema_init c_4) := schema_init_ok c_4 ⟨_, rfl, k_ascending_AscOk⟩ ⟨_, rfl, k_is_word_WordOk⟩ ⟨_, rfl, k_is_integer_IntegerOk⟩
theorem k_is_integer_IntBoolOk : IntBoolOk (runDef 3 3 b_is_integer c_2) := integer_bl c_2 
theorem k_Schema_init_SchXOk : SchXOk (runDef 5 2 b_Schema_init c_4) := schema_err_ok c_4 ⟨_, rfl, k_is_word_WordOk⟩ ⟨_, rfl, k_is_integer_IntegerOk⟩ ⟨_, rfl, k_is_integer_IntBoolOk⟩
theorem k_schema_of_SchOfGOk : SchOfGOk (runDef 2 1 b_schema_of c_6) := schema_of_good c_6 ⟨_, rfl, k_Schema_init_SchInitOk⟩
theorem k_schema_of_SchOfXOk : SchOfXOk (runDef 2 1 b_schema_of c_6) := schema_of_err c_6 ⟨_, rfl, k_Schema_init_SchXOk⟩
theorem k_law_made_LMade2Ok : LMade2Ok (runDef 3 3 b_law_made c_26) := law_made2_ok c_26 ⟨_, rfl, k_Schema_init_SchInitOk⟩ ⟨_, rfl, k_Schema_init_SchXOk⟩ ⟨_, rfl, k_schema_of_SchOfGOk⟩ ⟨_, rfl, k_schema_of_SchOfXOk⟩
theorem k_law_same_SameVOk1 : SameVOk 1 (runDef 3 2 b_law_same c_11) := samev_step (n := 0) (c := c_11)  ⟨_, rfl, samev_zero⟩
theorem k_law_same_SameVOk2 : SameVOk 2 (runDef 3 2 b_law_same c_12) := samev_step (n := 1) (c := c_12)  ⟨_, rfl, k_law_same_SameVOk1⟩
theorem k_law_same_SameVOk3 : SameVOk 3 (runDef 3 2 b_law_same c_13) := samev_step (n := 2) (c := c_13)  ⟨_, rfl, k_law_same_SameVOk2⟩
theorem k_law_same_SameVOk4 : SameVOk 4 (runDef 3 2 b_law_same c_14) := samev_step (n := 3) (c := c_14)  ⟨_, rfl, k_law_same_SameVOk3⟩
theorem k_law_same_SameVOk5 : SameVOk 5 (runDef 3 2 b_law_same c_15) := samev_step (n := 4) (c := c_15)  ⟨_, rfl, k_law_same_SameVOk4⟩
theorem k_law_same_SameVOk6 : SameVOk 6 (runDef 3 2 b_law_same c_16) := samev_step (n := 5) (c := c_16)  ⟨_, rfl, k_law_same_SameVOk5⟩
theorem k_law_same_SameVOk7 : SameVOk 7 (runDef 3 2 b_law_same c_17) := samev_step (n := 6) (c := c_17)  ⟨_, rfl, k_law_same_SameVOk6⟩
theorem k_law_same_SameVOk8 : SameVOk 8 (runDef 3 2 b_law_same c_18) := samev_step (n := 7) (c := c_18)  ⟨_, rfl, k_law_same_SameVOk7⟩
theorem k_law_told_LTold2Ok : LTold2Ok (runDef 6 3 b_law_told c_27) := law_told2_ok c_27 ⟨_, rfl, k_law_made_LMade2Ok⟩ ⟨_, rfl, k_law_same_SameVOk8⟩
theorem k_law_is_word_LIsWOk : LIsWOk (runDef 3 1 b_law_is_word c_24) := law_is_word_ok c_24 
theorem k_law_is_int_LIntVOk : LIntVOk (runDef 1 1 b_law_is_int c_9) := law_is_int_v c_9 
theorem k_law_due_LDue2Ok : LDue2Ok (runDef 3 1 b_law_due c_25) := law_due2_ok c_25 ⟨_, rfl, k_law_is_word_LIsWOk⟩ ⟨_, rfl, k_law_is_int_LIntVOk⟩
theorem k_law_same_SameNon : SameNon (runDef 3 2 b_law_same c_18) := same_non c_18 
theorem k_Schema_getitem_SchGetBOk : SchGetBOk (runDef 2 2 b_Schema_getitem c_5) := schema_getB c_5 
theorem k_Schema_getitem_SchGetXOk : SchGetXOk (runDef 2 2 b_Schema_getitem c_5) := schema_getX c_5 
theorem k_law_strange_LStr2Ok : LStr2Ok (runDef 4 2 b_law_strange c_28) := law_strange2_ok c_28 ⟨_, rfl, k_Schema_getitem_SchGetXOk⟩
theorem k_law (ns : List Int) (hns : ns.length ≤ 63) : runDef 24 1 b_law c_29 [.sh (.scr ns)] = some (.ret (.sh (.bl true)) [none]) := law_ok c_29 ⟨_, rfl, k_law_start_StartOk⟩ ⟨_, rfl, k_law_draw_DrawOk⟩ ⟨_, rfl, k_law_bad_word_LBadWOk⟩ ⟨_, rfl, k_law_bad_width_LBadDOk⟩ ⟨_, rfl, k_law_pool_LPoolOk⟩ ⟨_, rfl, k_law_spoilt_LSpl2Ok⟩ ⟨_, rfl, k_law_told_LTold2Ok⟩ ⟨_, rfl, k_law_due_LDue2Ok⟩ ⟨_, rfl, k_law_same_SameVOk8⟩ ⟨_, rfl, k_law_same_SameNon⟩ ⟨_, rfl, k_Schema_init_SchInitOk⟩ ⟨_, rfl, k_Schema_getitem_SchGetBOk⟩ ⟨_, rfl, k_law_strange_LStr2Ok⟩ ns hns
end Pd.L
theorem PySem.Challenge.cw_pinnedasks_k02_schema_refusals_holds : PySem.Challenge.rw_pinnedasks_k02_schema_refusals.Holds := by
  exact Pd.L.holds_of Pd.L.k_law
